import PyProof.Rows.All
import Wide.All
import OpenK.AllK
import Wide.FinOn
import HandS.ForMost
import HandS.ForExc
import HandS.Wide
import HandS.Defaults
import HandS.TryMany
import HandS.IsInst
import HandS.ExcInit
import HandS.ExcField
import HandS.Lambda
import HandS.Zip
import HandS.HeadHook4
import HandS.HeadWalk
import HandS.NestedK
import HandS.More
import HandS.Head1
import HandS.Head2
import HandS.FStr
import HandS.Deep
import HandS.NoneIn
import HandS.Style
import HandS.Codes
import KE.GoesSet
import HandS.Set
import HandS.SetTxt0
import HandS.TupSets
import HandS.DictComp
import HandS.SetFor
import HandS.SortKw
import HandS.Iter
import KE.KUnpackStar
import HandS.Small
import PyProof.ReprRoads
import PyProof.StrLawsRepr
import KE.GoesMore
import PyProof.ListStr
import KE.KDflt
import PySem.Challenge.RW_nevernought_k40_reckonings_nudged_and_tu
set_option Elab.async false
set_option linter.all false
set_option maxRecDepth 100000
set_option maxHeartbeats 0
set_option autoImplicit false
namespace L3
open PySem PySem.Spec PyProof.Rows L2

abbrev Slots := L2.St
/-- the places of the mutable things (by number), and private places (a list that a comprehension is making) -/
structure Lv where
  c : List Addr
  x : List Addr
def Lv.has (L : Lv) (a : Addr) : Prop := a ∈ L.c ∨ a ∈ L.x
def Lv.cell (L : Lv) (p : Addr) : Lv := ⟨L.c ++ [p], L.x⟩
/-- a datum: a value with all that hangs on it; cell k: the k-th mutable thing -/
inductive D where
  | non | bl (b : Bool) | int (i : Int) | str (s : Str)
  | lst (xs : List D) | tup (xs : List D)
  | dct (ks : List Key) (vs : List D)
  | obj (c : Str) (ns : List Str) (vs : List D)
  | cell (k : Nat)
  | scr (ns : List Int)
/-- a mutable thing -/
inductive MO where
  | lst (xs : List D)
  | dct (ks : List Key) (vs : List D)
  | ins (c : Str) (ns : List Str) (vs : List D)
abbrev Sto := List MO
abbrev Env := List (Option D)

/-- what is fixed through a law: the written part, the tables of code objects, the classes' places -/
structure Pm where
  K : PySem.W.Frag
  T : List (Addr × Str)
  cls : Str → Option Addr

section
variable (P : Pm) (H : Hp) (L : Lv)
/-- a tuple that stands -/
def TupAt (a : Addr) (vs : List V) : Prop := (Rd H a (.tup vs) ∧ ¬ L.has a) ∨
  ∃ (o : Obj) (its : Array Value) (n : Nat), P.K.lookup a = some o ∧ o.cls = .type "tuple" ∧ o.data = .seq its n ∧ its.size ≤ sizeLine ∧ Vals vs its.toList
/-- the script: a list that nobody writes -/
def ScrAt (a : Addr) (vs : List V) : Prop := (Rd H a (.lst vs) ∧ ¬ L.has a) ∨
  ∃ (o : Obj) (its : Array Value) (n : Nat), P.K.lookup a = some o ∧ o.cls = .type "list" ∧ o.dict = none ∧ o.data = .seq its n ∧ its.size ≤ sizeLine ∧ Vals vs its.toList
mutual
inductive Rep : V → D → Prop
  | non : Rep .non .non
  | bl (b : Bool) : Rep (.bl b) (.bl b)
  | int (i : Int) : Rep (.int i) (.int i)
  | str (s : Str) : Rep (.str s) (.str s)
  | lst {a : Addr} {vs : List V} {ds : List D} (h : H a = some (.lst vs)) (n : ¬ L.has a) (r : Reps vs ds) : Rep (.ref a) (.lst ds)
  | tup {a : Addr} {vs : List V} {ds : List D} (h : TupAt P H L a vs) (r : Reps vs ds) : Rep (.ref a) (.tup ds)
  | dct {a : Addr} {ks : List Key} {vs : List V} {ds : List D} (h : Rd H a (.dK (ks.zip vs))) (n : ¬ L.has a) (l : ks.length = vs.length) (r : Reps vs ds) : Rep (.ref a) (.dct ks ds)
  | obj {a C dx : Addr} {c : Str} {ns : List Str} {vs : List V} {ds : List D} (h : H a = some (.ins C dx (ns.zip vs))) (hc : P.cls c = some C) (n : ¬ L.has a) (l : ns.length = vs.length) (r : Reps vs ds) : Rep (.ref a) (.obj c ns ds)
  | cell {a : Addr} {k : Nat} (h : L.c[k]? = some a) : Rep (.ref a) (.cell k)
  | scr {a : Addr} {ns : List Int} (h : ScrAt P H L a (ns.map V.int)) : Rep (.ref a) (.scr ns)
inductive Reps : List V → List D → Prop
  | nil : Reps [] []
  | cons {v : V} {d : D} {vs : List V} {ds : List D} (h : Rep v d) (r : Reps vs ds) : Reps (v :: vs) (d :: ds)
end
/-- a mutable thing stands at a -/
inductive RepM (a : Addr) : MO → Prop
  | lst {vs : List V} {ds : List D} (h : H a = some (.lst vs)) (r : Reps P H L vs ds) : RepM a (.lst ds)
  | dct {ks : List Key} {vs : List V} {ds : List D} (h : H a = some (.dK (ks.zip vs))) (l : ks.length = vs.length) (r : Reps P H L vs ds) : RepM a (.dct ks ds)
  | ins {C dx : Addr} {c : Str} {ns : List Str} {vs : List V} {ds : List D} (h : H a = some (.ins C dx (ns.zip vs))) (hc : P.cls c = some C) (l : ns.length = vs.length) (r : Reps P H L vs ds) : RepM a (.ins c ns ds)
/-- the mutable things, and the tables -/
structure St3 (μ : Sto) : Prop where
  len : L.c.length = μ.length
  at_ : ∀ (k : Nat) (a : Addr) (m : MO), L.c[k]? = some a → μ[k]? = some m → RepM P H L a m
  nd : L.c.Nodup
  dis : ∀ a ∈ L.x, a ∉ L.c ∧ ∃ vs, H a = some (.lst vs)
  tab : LamX.Tabs P.T H
/-- the slots -/
structure RelS (σ : Slots) (ρ : Env) : Prop where
  len : σ.length = ρ.length
  at_ : ∀ (i : Nat) (d : D), ρ[i]? = some (some d) → ∃ v, σ[i]? = some (some v) ∧ Rep P H L v d
end

/-- from (L, H) to (L', H'): nothing that was a datum is another one -/
structure Ext0 (L : Lv) (H : Hp) (L' : Lv) (H' : Hp) : Prop where
  keep : ∀ a o, H a = some o → (∀ ps, o ≠ .tbl ps) → ¬ L.has a → H' a = some o
  pre : ∀ (k : Nat) a, L.c[k]? = some a → L'.c[k]? = some a
  new : ∀ a, L'.has a → L.has a ∨ H a = none ∨ ∃ ps, H a = some (.tbl ps)
/-- .. and nothing private was written -/
structure Ext (P : Pm) (L : Lv) (H : Hp) (L' : Lv) (H' : Hp) : Prop extends Ext0 L H L' H' where
  px : L'.x = L.x
  prv : ∀ a ∈ L.x, H' a = H a

section
variable {P : Pm} {H H1 H2 : Hp} {L L1 L2 : Lv}
theorem Ext0.refl : Ext0 L H L H := ⟨fun _ _ h _ _ => h, fun _ _ h => h, fun _ h => .inl h⟩
theorem Ext.refl : Ext P L H L H := ⟨.refl, rfl, fun _ _ => rfl⟩
theorem Ext0.trans (x : Ext0 L H L1 H1) (y : Ext0 L1 H1 L2 H2) : Ext0 L H L2 H2 := by
  refine ⟨fun a o h t n => ?_, fun k a h => y.pre k a (x.pre k a h), fun a h => ?_⟩
  · refine y.keep a o (x.keep a o h t n) t fun h1 => ?_
    rcases x.new a h1 with z | z | ⟨ps, z⟩
    · exact n z
    · rw [h] at z; cases z
    · rw [h] at z; exact t ps (Option.some.inj z)
  · rcases y.new a h with z | z
    · exact x.new a z
    · cases e : H a with
      | none => exact .inr (.inl rfl)
      | some o =>
        by_cases t : ∃ ps, o = .tbl ps
        · obtain ⟨ps, t⟩ := t
          exact .inr (.inr ⟨ps, by rw [t]⟩)
        · by_cases n : L.has a
          · exact .inl n
          · have k := x.keep a o e (fun ps q => t ⟨ps, q⟩) n
            rcases z with z | ⟨ps, z⟩
            · rw [k] at z; cases z
            · rw [k] at z; exact absurd ⟨ps, Option.some.inj z⟩ t
theorem Ext.trans (x : Ext P L H L1 H1) (y : Ext P L1 H1 L2 H2) : Ext P L H L2 H2 :=
  ⟨x.toExt0.trans y.toExt0, y.px.trans x.px, fun a h => (y.prv a (by rw [x.px]; exact h)).trans (x.prv a h)⟩
theorem Rd.keep3 {a : Addr} {u : HO} (x : Ext0 L H L1 H1) (h : Rd H a u) (hu : ∀ ps, u ≠ .tbl ps) (n : ¬ L.has a) : Rd H1 a u ∧ ¬ L1.has a := by
  have nn : ¬ L1.has a := fun z => by
    rcases x.new a z with q | q | ⟨ps, q⟩
    · exact n q
    · rcases h with h | ⟨o, h⟩ <;> (rw [h] at q; cases q)
    · rcases h with h | ⟨o, h⟩
      · rw [h] at q; exact hu ps (Option.some.inj q)
      · rw [h] at q; cases q
  refine ⟨?_, nn⟩
  rcases h with h | ⟨o, h⟩
  · exact .inl (x.keep a u h hu n)
  · exact .inr ⟨o, x.keep a _ h (fun ps z => nomatch z) n⟩
theorem TupAt.ext0 {a : Addr} {vs : List V} (x : Ext0 L H L1 H1) (h : TupAt P H L a vs) : TupAt P H1 L1 a vs := by
  rcases h with ⟨h, n⟩ | h
  · exact .inl (Rd.keep3 x h (fun ps z => nomatch z) n)
  · exact .inr h
theorem ScrAt.ext0 {a : Addr} {vs : List V} (x : Ext0 L H L1 H1) (h : ScrAt P H L a vs) : ScrAt P H1 L1 a vs := by
  rcases h with ⟨h, n⟩ | h
  · exact .inl (Rd.keep3 x h (fun ps z => nomatch z) n)
  · exact .inr h
mutual
theorem Rep.ext0 (x : Ext0 L H L1 H1) : ∀ {v : V} {d : D}, Rep P H L v d → Rep P H1 L1 v d
  | _, _, .non => .non
  | _, _, .bl b => .bl b
  | _, _, .int i => .int i
  | _, _, .str s => .str s
  | _, _, .lst h n r => .lst (x.keep _ _ h (fun ps z => nomatch z) n) (Rd.keep3 x (.inl h) (fun ps z => nomatch z) n).2 (Reps.ext0 x r)
  | _, _, .tup h r => .tup (h.ext0 x) (Reps.ext0 x r)
  | _, _, .dct h n l r => .dct (Rd.keep3 x h (fun ps z => nomatch z) n).1 (Rd.keep3 x h (fun ps z => nomatch z) n).2 l (Reps.ext0 x r)
  | _, _, .obj h hc n l r => .obj (x.keep _ _ h (fun ps z => nomatch z) n) hc (Rd.keep3 x (.inl h) (fun ps z => nomatch z) n).2 l (Reps.ext0 x r)
  | _, _, .cell h => .cell (x.pre _ _ h)
  | _, _, .scr h => .scr (h.ext0 x)
theorem Reps.ext0 (x : Ext0 L H L1 H1) : ∀ {vs : List V} {ds : List D}, Reps P H L vs ds → Reps P H1 L1 vs ds
  | _, _, .nil => .nil
  | _, _, .cons h r => .cons (Rep.ext0 x h) (Reps.ext0 x r)
end
theorem Rep.ext {v : V} {d : D} (r : Rep P H L v d) (x : Ext P L H L1 H1) : Rep P H1 L1 v d := r.ext0 x.toExt0
theorem Reps.ext {v : List V} {d : List D} (r : Reps P H L v d) (x : Ext P L H L1 H1) : Reps P H1 L1 v d := r.ext0 x.toExt0
theorem RelS.ext0 {σ : Slots} {ρ : Env} (x : Ext0 L H L1 H1) (r : RelS P H L σ ρ) : RelS P H1 L1 σ ρ :=
  ⟨r.len, fun i d e => let ⟨v, h, q⟩ := r.at_ i d e; ⟨v, h, q.ext0 x⟩⟩
theorem RelS.ext {σ : Slots} {ρ : Env} (r : RelS P H L σ ρ) (x : Ext P L H L1 H1) : RelS P H1 L1 σ ρ := r.ext0 x.toExt0
theorem Reps.length : ∀ {vs : List V} {ds : List D}, Reps P H L vs ds → vs.length = ds.length
  | _, _, .nil => rfl
  | _, _, .cons _ r => by simp [Reps.length r]
theorem Reps.get : ∀ {vs : List V} {ds : List D} {i : Nat} {d : D}, Reps P H L vs ds → ds[i]? = some d → ∃ v, vs[i]? = some v ∧ Rep P H L v d
  | _, _, _, _, .nil, e => by simp at e
  | _, _, 0, _, .cons h _, e => by simp at e; subst e; exact ⟨_, rfl, h⟩
  | _, _, i + 1, d, .cons _ t, e => by
    obtain ⟨u, h1, h2⟩ := Reps.get (i := i) (d := d) t (by simpa using e)
    exact ⟨u, by simpa using h1, h2⟩
theorem Reps.append : ∀ {vs ws : List V} {ds es : List D}, Reps P H L vs ds → Reps P H L ws es → Reps P H L (vs ++ ws) (ds ++ es)
  | _, _, _, _, .nil, s => s
  | _, _, _, _, .cons r t, s => .cons r (Reps.append t s)
theorem Reps.take : ∀ {vs : List V} {ds : List D} (n : Nat), Reps P H L vs ds → Reps P H L (vs.take n) (ds.take n)
  | _, _, 0, _ => .nil
  | _, _, _ + 1, .nil => .nil
  | _, _, n + 1, .cons r t => .cons r (Reps.take n t)
theorem Reps.drop : ∀ {vs : List V} {ds : List D} (n : Nat), Reps P H L vs ds → Reps P H L (vs.drop n) (ds.drop n)
  | _, _, 0, r => r
  | _, _, _ + 1, .nil => .nil
  | _, _, n + 1, .cons _ t => Reps.drop n t
theorem Reps.set {x : V} {d : D} (r : Rep P H L x d) : ∀ {vs : List V} {ds : List D} (i : Nat), Reps P H L vs ds → Reps P H L (vs.set i x) (ds.set i d)
  | _, _, _, .nil => .nil
  | _, _, 0, .cons _ t => .cons r t
  | _, _, i + 1, .cons q t => .cons q (Reps.set r i t)
theorem RelS.set {σ : Slots} {ρ : Env} {i : Nat} {v : V} {d : D} (r : RelS P H L σ ρ) (h : Rep P H L v d) : RelS P H L (σ.set i (some v)) (ρ.set i (some d)) := by
  refine ⟨by simp [r.len], fun j e q => ?_⟩
  by_cases hj : j = i
  · subst hj
    have hl : j < ρ.length := by
      have := (List.getElem?_eq_some_iff.mp q).1
      simpa using this
    rw [List.getElem?_set_self hl] at q
    cases q
    exact ⟨v, List.getElem?_set_self (by rw [r.len]; exact hl), h⟩
  · rw [List.getElem?_set_ne (Ne.symm hj)] at q ⊢
    exact r.at_ j e q
end

/-! ### what a piece of code comes to -/
inductive R (α : Type) where
  | ok (a : α) (μ : Sto)
  | exc (c : Str) (ns : List Str) (vs : List D) (μ : Sto)
  | bad
def R.bind {α β : Type} (r : R α) (k : α → Sto → R β) : R β := match r with
  | .ok a μ => k a μ
  | .exc c ns vs μ => .exc c ns vs μ
  | .bad => .bad
@[simp] theorem R.bind_ok {α β : Type} {a : α} {μ : Sto} {k : α → Sto → R β} : (R.ok a μ).bind k = k a μ := rfl
@[simp] theorem R.bind_exc {α β : Type} {c : Str} {ns vs} {μ : Sto} {k : α → Sto → R β} : (R.exc (α := α) c ns vs μ).bind k = .exc c ns vs μ := rfl
@[simp] theorem R.bind_bad {α β : Type} {k : α → Sto → R β} : (R.bad (α := α)).bind k = .bad := rfl
/-- an exception's fields -/
def XF (P : Pm) (L : Lv) (H : Hp) (dx : Addr) (ns : List Str) (ds : List D) : Prop := ∃ vs, H dx = some (.xd (ns.zip vs)) ∧ ns.length = vs.length ∧ Reps P H L vs ds
/-- what is wanted of an exception, at the slots σ -/
def PostX (P : Pm) (E : XK) (L : Lv) (H : Hp) (c : Str) (ns : List Str) (ds : List D) (μ : Sto) : Prop :=
  ∀ C dx L' H', P.cls c = some C → Ext P L H L' H' → St3 P H' L' μ → XF P L' H' dx ns ds → E (.ref C) (some dx) H'
/-- what is wanted of an end: V the value's relation -/
def Post {α : Type} (P : Pm) (E : XK) (L : Lv) (H : Hp) (q : α → Lv → Hp → Prop) : R α → Prop
  | .ok a μ => ∀ L' H', Ext P L H L' H' → St3 P H' L' μ → q a L' H'
  | .exc c ns vs μ => PostX P E L H c ns vs μ
  | .bad => False
section
variable {P : Pm} {E : XK} {H H1 : Hp} {L L1 : Lv} {α β : Type}
theorem PostX.ext {c ns ds μ} (x : Ext P L H L1 H1) (h : PostX P E L H c ns ds μ) : PostX P E L1 H1 c ns ds μ := fun C dx L' H' hc y s f => h C dx L' H' hc (x.trans y) s f
theorem Post.ext {q : α → Lv → Hp → Prop} {r : R α} (x : Ext P L H L1 H1) (h : Post P E L H q r) : Post P E L1 H1 q r := by
  cases r with
  | ok a μ => exact fun L' H' y s => h L' H' (x.trans y) s
  | exc c ns vs μ => exact PostX.ext (μ := μ) x h
  | bad => exact h
theorem Post.bind {q : β → Lv → Hp → Prop} {r : R α} {k : α → Sto → R β} (h : Post P E L H q (r.bind k)) : 
    match r with
    | .ok a μ => Post P E L H q (k a μ)
    | .exc c ns vs μ => PostX P E L H c ns vs μ
    | .bad => False := by
  cases r <;> exact h
end
abbrev SE := Env → Sto → R D
abbrev ST := Env → Sto → R Bool
abbrev SA := Env → Sto → R (List D)
/-- the reading of an expression by its semantics -/
def tV (P : Pm) (W : WX) (f : SE) : TE := fun σ H Q => ∃ L ρ μ, RelS P H L σ ρ ∧ St3 P H L μ ∧ Post P (WE W σ) L H (fun d L' H' => ∀ v, Rep P H' L' v d → Q v H') (f ρ μ)
def tVT (P : Pm) (W : WX) (f : ST) : TT := fun σ H Q => ∃ L ρ μ, RelS P H L σ ρ ∧ St3 P H L μ ∧ Post P (WE W σ) L H (fun b _ H' => Q b H') (f ρ μ)
def tVA (P : Pm) (W : WX) (f : SA) : TA := fun σ H Q => ∃ L ρ μ, RelS P H L σ ρ ∧ St3 P H L μ ∧ Post P (WE W σ) L H (fun ds L' H' => ∀ vs, Reps P H' L' vs ds → Q vs H') (f ρ μ)
/-- a rule's reading may be asked for more -/
theorem _root_.L2.PE.imp3 {X : Cx} {e : Expr} {t t' : TE} (h : PE X e t) (i : ∀ σ H Q, t' σ H Q → t σ H Q) : PE X e t' := ⟨fun pins s σ H Q I q => h.run pins s σ H Q I (i σ H Q q)⟩
theorem _root_.L2.PT.imp3 {X : Cx} {e : Expr} {t t' : TT} (h : PT X e t) (i : ∀ σ H Q, t' σ H Q → t σ H Q) : PT X e t' := ⟨fun pins s σ H Q I q => h.run pins s σ H Q I (i σ H Q q)⟩
theorem _root_.L2.PA.imp3 {X : Cx} {e : List Expr} {t t' : TA} (h : PA X e t) (i : ∀ σ H Q, t' σ H Q → t σ H Q) : PA X e t' := ⟨fun pos pins s σ H Q I q => h.run pos pins s σ H Q I (i σ H Q q)⟩
theorem _root_.L2.PS.imp3 {X : Cx} {e : Stmt} {t t' : TS} (h : PS X e t) (i : ∀ D σ H, t' D σ H → t D σ H) : PS X e t' := ⟨fun pins s σ H D I q => h.run pins s σ H D I (i D σ H q)⟩
theorem _root_.L2.PSs.imp3 {X : Cx} {e : List Stmt} {t t' : TS} (h : PSs X e t) (i : ∀ D σ H, t' D σ H → t D σ H) : PSs X e t' := ⟨fun pins s σ H D I q => h.run pins s σ H D I (i D σ H q)⟩
/-- an expression is worth f -/
abbrev VE (P : Pm) (W : WX) (X : Cx) (e : Expr) (f : SE) : Prop := PE X e (tV P W f)
abbrev VT (P : Pm) (W : WX) (X : Cx) (e : Expr) (f : ST) : Prop := PT X e (tVT P W f)
abbrev VA (P : Pm) (W : WX) (X : Cx) (e : List Expr) (f : SA) : Prop := PA X e (tVA P W f)

/-! the moves -/
section
variable {P : Pm} {W : WX} {σ : Slots} {H : Hp} {L : Lv} {ρ : Env} {μ : Sto} {α : Type}
/-- one expression ahead of the rest -/
theorem tV.first {f : SE} {k : D → Sto → R α} {Q : V → Hp → Prop} {q : α → Lv → Hp → Prop} (rs : RelS P H L σ ρ) (st : St3 P H L μ) (h : Post P (WE W σ) L H q ((f ρ μ).bind k))
    (go : ∀ d μ1 v L1 H1, Ext P L H L1 H1 → St3 P H1 L1 μ1 → Rep P H1 L1 v d → RelS P H1 L1 σ ρ → Post P (WE W σ) L1 H1 q (k d μ1) → Q v H1) : tV P W f σ H Q := by
  refine ⟨L, ρ, μ, rs, st, ?_⟩
  cases e : f ρ μ with
  | ok d μ1 => rw [e] at h; exact fun L1 H1 x s v r => go d μ1 v L1 H1 x s r (rs.ext x) (Post.ext x h)
  | exc c ns vs μ1 => rw [e] at h; exact h
  | bad => rw [e] at h; exact h
theorem tVT.first {f : ST} {k : Bool → Sto → R α} {Q : Bool → Hp → Prop} {q : α → Lv → Hp → Prop} (rs : RelS P H L σ ρ) (st : St3 P H L μ) (h : Post P (WE W σ) L H q ((f ρ μ).bind k))
    (go : ∀ b μ1 L1 H1, Ext P L H L1 H1 → St3 P H1 L1 μ1 → RelS P H1 L1 σ ρ → Post P (WE W σ) L1 H1 q (k b μ1) → Q b H1) : tVT P W f σ H Q := by
  refine ⟨L, ρ, μ, rs, st, ?_⟩
  cases e : f ρ μ with
  | ok d μ1 => rw [e] at h; exact fun L1 H1 x s => go d μ1 L1 H1 x s (rs.ext x) (Post.ext x h)
  | exc c ns vs μ1 => rw [e] at h; exact h
  | bad => rw [e] at h; exact h
theorem tVA.first {f : SA} {k : List D → Sto → R α} {Q : List V → Hp → Prop} {q : α → Lv → Hp → Prop} (rs : RelS P H L σ ρ) (st : St3 P H L μ) (h : Post P (WE W σ) L H q ((f ρ μ).bind k))
    (go : ∀ ds μ1 vs L1 H1, Ext P L H L1 H1 → St3 P H1 L1 μ1 → Reps P H1 L1 vs ds → RelS P H1 L1 σ ρ → Post P (WE W σ) L1 H1 q (k ds μ1) → Q vs H1) : tVA P W f σ H Q := by
  refine ⟨L, ρ, μ, rs, st, ?_⟩
  cases e : f ρ μ with
  | ok d μ1 => rw [e] at h; exact fun L1 H1 x s v r => go d μ1 v L1 H1 x s r (rs.ext x) (Post.ext x h)
  | exc c ns vs μ1 => rw [e] at h; exact h
  | bad => rw [e] at h; exact h
end
end L3

namespace L3
open PySem PySem.Spec PyProof.Rows L2
/-! ### new objects -/
section
variable {P : Pm} {H H1 : Hp} {L L1 : Lv} {μ : Sto}
theorem RepM.ext0 {a : Addr} {m : MO} (k : ∀ o, H a = some o → H1 a = some o) (x : Ext0 L H L1 H1) (r : RepM P H L a m) : RepM P H1 L1 a m := by
  cases r with
  | lst h r => exact .lst (k _ h) (r.ext0 x)
  | dct h l r => exact .dct (k _ h) l (r.ext0 x)
  | ins h hc l r => exact .ins (k _ h) hc l (r.ext0 x)
theorem RepM.there {a : Addr} {m : MO} (r : RepM P H L a m) : H a ≠ none := by
  cases r with
  | lst h r => rw [h]; exact fun z => nomatch z
  | dct h l r => rw [h]; exact fun z => nomatch z
  | ins h hc l r => rw [h]; exact fun z => nomatch z
theorem Ext0.grow (k : ∀ b o, H b = some o → H1 b = some o) : Ext0 L H L H1 :=
  ⟨fun a o h _ _ => k a o h, fun _ _ h => h, fun _ h => .inl h⟩
/-- all that stood stands, the private things among it -/
theorem Ext.grow {μ : Sto} (s : St3 P H L μ) (k : ∀ b o, H b = some o → H1 b = some o) : Ext P L H L H1 :=
  ⟨Ext0.grow k, rfl, fun a h => by
    obtain ⟨vs, e⟩ := (s.dis a h).2
    rw [e]
    exact k a _ e⟩
theorem St3.grow (k : ∀ b o, H b = some o → H1 b = some o) (s : St3 P H L μ) : St3 P H1 L μ :=
  ⟨s.len, fun i a m h1 h2 => (s.at_ i a m h1 h2).ext0 (fun o => k a o) (Ext0.grow k), s.nd, fun a h => ⟨(s.dis a h).1, let ⟨vs, e⟩ := (s.dis a h).2; ⟨vs, k a _ e⟩⟩, s.tab.ext k⟩
theorem upd_grow {p : Addr} {o : HO} (n : H p = none) : ∀ b u, H b = some u → upd H p o b = some u := fun b u e => by rw [upd_ne (ne_of_none e n)]; exact e
theorem St3.cell_there (s : St3 P H L μ) {a : Addr} (h : L.has a) : H a ≠ none := by
  rcases h with h | h
  · obtain ⟨k, hk, e⟩ := List.mem_iff_getElem.mp h
    have h1 : L.c[k]? = some a := by rw [List.getElem?_eq_getElem hk, e]
    have hk2 : k < μ.length := by rw [← s.len]; exact hk
    exact (s.at_ k a _ h1 (List.getElem?_eq_getElem hk2)).there
  · obtain ⟨vs, e⟩ := (s.dis a h).2
    rw [e]
    exact fun z => nomatch z
theorem RepM.notbl {a : Addr} {m : MO} (r : RepM P H L a m) {ps : Array Value} : H a ≠ some (.tbl ps) := by
  cases r with
  | lst h r => rw [h]; exact fun z => nomatch z
  | dct h l r => rw [h]; exact fun z => nomatch z
  | ins h hc l r => rw [h]; exact fun z => nomatch z
theorem St3.new_not (s : St3 P H L μ) {p : Addr} (n : H p = none) : ¬ L.has p := fun h => s.cell_there h n
/-- a new list, a new tuple -/
theorem new_lst (s : St3 P H L μ) {p : Addr} {vs : List V} {ds : List D} (n : H p = none) (r : Reps P H L vs ds) : Rep P (upd H p (.lst vs)) L (.ref p) (.lst ds) :=
  .lst upd_same (s.new_not n) (r.ext0 (Ext0.grow (upd_grow n)))
theorem new_tup (s : St3 P H L μ) {p : Addr} {vs : List V} {ds : List D} (n : H p = none) (r : Reps P H L vs ds) : Rep P (upd H p (.tup vs)) L (.ref p) (.tup ds) :=
  .tup (.inl ⟨.inl upd_same, s.new_not n⟩) (r.ext0 (Ext0.grow (upd_grow n)))
theorem TupAt.sq {a : Addr} {vs : List V} (h : TupAt P H L a vs) : SqT P.K H a vs := by
  rcases h with ⟨h, _⟩ | h
  · exact .inl h
  · exact .inr h
theorem ScrAt.sq {a : Addr} {vs : List V} (h : ScrAt P H L a vs) : SqL P.K H a vs := by
  rcases h with ⟨h, _⟩ | h
  · exact .inl h
  · exact .inr h
theorem Reps.ints : ∀ (ns : List Int), Reps P H L (ns.map V.int) (ns.map D.int)
  | [] => .nil
  | n :: r => .cons (.int n) (Reps.ints r)
/-! ### reading lists -/
/-- the items of a list, wherever it is -/
def asL (μ : Sto) : D → Option (List D)
  | .lst ds => some ds
  | .cell k => match μ[k]? with
    | some (.lst ds) => some ds
    | _ => none
  | _ => none
def asS (μ : Sto) : D → Option (List D)
  | .scr ns => some (ns.map D.int)
  | d => asL μ d
theorem asL_ok (s : St3 P H L μ) {v : V} {d : D} {ds : List D} (r : Rep P H L v d) (e : asL μ d = some ds) : ∃ a vs, v = .ref a ∧ H a = some (.lst vs) ∧ Reps P H L vs ds := by
  cases r with
  | lst h n r => cases e; exact ⟨_, _, rfl, h, r⟩
  | @cell a k h =>
    have e' : (match μ[k]? with
      | some (.lst ds) => some ds
      | _ => none) = some ds := e
    cases em : μ[k]? with
    | none => rw [em] at e'; cases e'
    | some m =>
      rw [em] at e'
      have q := s.at_ k a m h em
      cases q with
      | lst h' r' => cases e'; exact ⟨_, _, rfl, h', r'⟩
      | dct h' l r' => cases e'
      | ins h' hc l r' => cases e'
  | non => cases e
  | bl b => cases e
  | int i => cases e
  | str z => cases e
  | tup h r => cases e
  | dct h n l r => cases e
  | obj h hc n l r => cases e
  | scr h => cases e
theorem asS_ok (s : St3 P H L μ) {v : V} {d : D} {ds : List D} (r : Rep P H L v d) (e : asS μ d = some ds) : ∃ a vs, v = .ref a ∧ SqL P.K H a vs ∧ Reps P H L vs ds := by
  have go : asL μ d = some ds → ∃ a vs, v = .ref a ∧ SqL P.K H a vs ∧ Reps P H L vs ds := fun e =>
    let ⟨a, vs, h1, h2, h3⟩ := asL_ok s r e; ⟨a, vs, h1, .of h2, h3⟩
  cases d with
  | scr ns =>
    cases e
    cases r with
    | scr h => exact ⟨_, _, rfl, h.sq, Reps.ints ns⟩
  | _ => exact go e
theorem tup_ok {v : V} {ds : List D} (r : Rep P H L v (.tup ds)) : ∃ a vs, v = .ref a ∧ SqT P.K H a vs ∧ Reps P H L vs ds := by
  cases r with
  | tup h r => exact ⟨_, _, rfl, h.sq, r⟩
end

/-! ### names and constants -/
def eVar (i : Nat) : SE := fun ρ μ => match ρ[i]? with
  | some (some d) => .ok d μ
  | _ => .bad
def eC (d : D) : SE := fun _ μ => .ok d μ
section
variable {P : Pm} {W : WX} {X : Cx} {pos : Pos}
theorem ve_var {i : Nat} {x : Str} (hN : X.N[i]? = some x) (hv : Vis X.env.scope x) (hd : (x == ("__debug__" : Str)) = false := by decide) (hcd : (x == ("__classdict__" : Str)) = false := by decide) : VE P W X (.Name x pos) (eVar i) := by
  refine (pe_var hN hv hd hcd).imp3 fun σ H Q ⟨L, ρ, μ, rs, st, q⟩ => ?_
  unfold eVar at q
  cases e : ρ[i]? with
  | none => rw [e] at q; exact q.elim
  | some o =>
    cases o with
    | none => rw [e] at q; exact q.elim
    | some d =>
      rw [e] at q
      obtain ⟨v, h1, h2⟩ := rs.at_ i d e
      exact ⟨v, h1, q L H .refl st v h2⟩
theorem vv (i : Nat) {x : Str} {pos : Pos} (hN : X.N[i]? = some x := by rfl) (hv : Vis X.env.scope x := by first | exact Or.inl rfl | exact Or.inr (Or.inl rfl) | exact Or.inr (Or.inr rfl)) (hd : (x == ("__debug__" : Str)) = false := by decide)
    (hcd : (x == ("__classdict__" : Str)) = false := by decide) : VE P W X (.Name x pos) (eVar i) := ve_var hN hv hd hcd
theorem ve_c {e : Expr} {v : V} {d : D} (h : PE X e (tC v)) (r : ∀ L H, Rep P H L v d) : VE P W X e (eC d) :=
  h.imp3 fun σ H Q ⟨L, ρ, μ, rs, st, q⟩ => q L H .refl st v (r L H)
theorem ve_int {i j} : VE P W X (.Constant (.int i) j pos) (eC (.int i)) := ve_c pe_int fun _ _ => .int i
theorem ve_bl {b j} : VE P W X (.Constant (.bool b) j pos) (eC (.bl b)) := ve_c pe_bl fun _ _ => .bl b
theorem ve_non {j} : VE P W X (.Constant .none j pos) (eC .non) := ve_c pe_non fun _ _ => .non
theorem ve_str {x j} : VE P W X (.Constant (.str x) j pos) (eC (.str x)) := ve_c pe_str fun _ _ => .str x
end

/-! ### operators by values -/
def eB (g : D → D → Sto → R D) (f1 f2 : SE) : SE := fun ρ μ => (f1 ρ μ).bind fun a μ1 => (f2 ρ μ1).bind fun b μ2 => g a b μ2
def eU (g : D → Sto → R D) (f : SE) : SE := fun ρ μ => (f ρ μ).bind fun a μ1 => g a μ1
/-- the rule r is served where g gives something -/
def OpS (P : Pm) (r : R2) (g : D → D → Sto → R D) : Prop := ∀ (E : XK) (L : Lv) (H : Hp) (μ : Sto) (x y : V) (a b : D) (Q : VK), St3 P H L μ → Rep P H L x a → Rep P H L y b →
  Post P E L H (fun d L' H' => ∀ v, Rep P H' L' v d → Q v H') (g a b μ) → r x y H Q
theorem OpS.inl {P : Pm} {r r' : R2} {g : D → D → Sto → R D} (h : OpS P r g) : OpS P (fun x y H Q => r x y H Q ∨ r' x y H Q) g := fun E L H μ x y a b Q s ra rb q => .inl (h E L H μ x y a b Q s ra rb q)
section
variable {P : Pm} {W : WX} {X : Cx} {pos : Pos} {a b : Expr} {f1 f2 : SE} {r : R2} {g : D → D → Sto → R D}
theorem tOp_of (hg : OpS P r g) {σ : Slots} {H : Hp} {Q : VK} (h : tV P W (eB g f1 f2) σ H Q) : tOp r (tV P W f1) (tV P W f2) σ H Q := by
  obtain ⟨L, ρ, μ, rs, st, q⟩ := h
  refine tV.first rs st q fun d μ1 v L1 H1 x1 s1 r1 rs1 q1 => ?_
  exact tV.first rs1 s1 q1 fun d2 μ2 v2 L2 H2 x2 s2 r2 rs2 q2 => hg _ L2 H2 μ2 v v2 d d2 Q s2 (r1.ext x2) r2 q2
theorem ve_bin {op : Operator} (ho : OpR X (binaryOp op) r) (hg : OpS P r g) (h1 : VE P W X a f1) (h2 : VE P W X b f2) : VE P W X (.BinOp a op b pos) (eB g f1 f2) :=
  (pe_op ho h1 h2).imp3 fun _ _ _ h => tOp_of hg h
theorem ve_cmp {op : CmpOp} (ho : OpR X (compareOp op) r) (hg : OpS P r g) (h1 : VE P W X a f1) (h2 : VE P W X b f2) (hm : behindInMarks op b = false) : VE P W X (.Compare a [op] [b] pos) (eB g f1 f2) :=
  (pe_cmpR ho h1 h2 hm).imp3 fun _ _ _ h => tOp_of hg h
/-- a value that is a bool, as a test -/
def eT (f : SE) : ST := fun ρ μ => (f ρ μ).bind fun d μ1 => match d with
  | .bl c => .ok c μ1
  | _ => .bad
theorem tT_of {f : SE} {σ : Slots} {H : Hp} {Q : Bool → Hp → Prop} (h : tVT P W (eT f) σ H Q) : tV P W f σ H (fun x H1 => ∃ c, x = .bl c ∧ Q c H1) := by
  obtain ⟨L, ρ, μ, rs, st, q⟩ := h
  refine tV.first rs st q fun d μ1 v L1 H1 x1 s1 r1 rs1 q1 => ?_
  cases r1 with
  | bl c => exact ⟨c, rfl, q1 L1 H1 .refl s1⟩
  | _ => exact q1.elim
theorem vt_cmp {op : CmpOp} (ho : OpR X (compareOp op) r) (hg : OpS P r g) (h1 : VE P W X a f1) (h2 : VE P W X b f2) (hm : behindInMarks op b = false) : VT P W X (.Compare a [op] [b] pos) (eT (eB g f1 f2)) :=
  (pt_cmpR ho h1 h2 hm).imp3 fun _ _ _ h => by
    have z := tT_of h
    exact tOp_of hg z
theorem vt_val {e : Expr} {f : SE} (h : VE P W X e f) (he : ∀ whole, isTrue e X.env whole = (do let v ← whole; standAt e.pos; holding [v] (truthy v)) := by intro _; rfl) : VT P W X e (eT f) :=
  (pt_val h he).imp3 fun _ _ _ q => tT_of q
/-! and, or, not -/
variable {rest : List Expr} {t1 t2 : ST}
def eAndT (t1 t2 : ST) : ST := fun ρ μ => (t1 ρ μ).bind fun c μ1 => if c = true then t2 ρ μ1 else .ok false μ1
def eOrT (t1 t2 : ST) : ST := fun ρ μ => (t1 ρ μ).bind fun c μ1 => if c = true then .ok true μ1 else t2 ρ μ1
def eNotT (t1 : ST) : ST := fun ρ μ => (t1 ρ μ).bind fun c μ1 => .ok (!c) μ1
abbrev VW (P : Pm) (W : WX) (X : Cx) (e : Expr) (f : ST) : Prop := PW X e (tVT P W f)
theorem _root_.L2.PW.imp3 {X : Cx} {e : Expr} {t t' : TT} (h : PW X e t) (i : ∀ σ H Q, t' σ H Q → t σ H Q) : PW X e t' := ⟨fun wh pins s σ H Q I q => h.run wh pins s σ H Q I (i σ H Q q)⟩
theorem vw_and1 (h : VT P W X a t1) : VW P W X (.BoolOp .And [a] pos) t1 := pw_and1 h
theorem vw_or1 (h : VT P W X a t1) : VW P W X (.BoolOp .Or [a] pos) t1 := pw_or1 h
theorem vw_and (h1 : VT P W X a t1) (h2 : VW P W X (.BoolOp .And (b :: rest) pos) t2) : VW P W X (.BoolOp .And (a :: b :: rest) pos) (eAndT t1 t2) :=
  (pw_and h1 h2).imp3 fun σ H Q h => by
    obtain ⟨L, ρ, μ, rs, st, q⟩ := h
    refine tVT.first rs st q fun c μ1 L1 H1 x1 s1 rs1 q1 => ?_
    cases c with
    | true => exact ⟨L1, ρ, μ1, rs1, s1, q1⟩
    | false => exact q1 L1 H1 .refl s1
theorem vw_or (h1 : VT P W X a t1) (h2 : VW P W X (.BoolOp .Or (b :: rest) pos) t2) : VW P W X (.BoolOp .Or (a :: b :: rest) pos) (eOrT t1 t2) :=
  (pw_or h1 h2).imp3 fun σ H Q h => by
    obtain ⟨L, ρ, μ, rs, st, q⟩ := h
    refine tVT.first rs st q fun c μ1 L1 H1 x1 s1 rs1 q1 => ?_
    cases c with
    | false => exact ⟨L1, ρ, μ1, rs1, s1, q1⟩
    | true => exact q1 L1 H1 .refl s1
theorem vt_w {e : Expr} (h : VW P W X e t1) : VT P W X e t1 := h.pt
theorem vt_not (h : VT P W X a t1) : VT P W X (.UnaryOp .Not a pos) (eNotT t1) :=
  (pt_not h).imp3 fun σ H Q h => by
    obtain ⟨L, ρ, μ, rs, st, q⟩ := h
    exact tVT.first rs st q fun c μ1 L1 H1 x1 s1 rs1 q1 => q1 L1 H1 .refl s1
/-- as values -/
def eAndV (f1 f2 : SE) : SE := fun ρ μ => (f1 ρ μ).bind fun d μ1 => match d with
  | .bl true => f2 ρ μ1
  | .bl false => .ok (.bl false) μ1
  | _ => .bad
def eOrV (f1 f2 : SE) : SE := fun ρ μ => (f1 ρ μ).bind fun d μ1 => match d with
  | .bl false => f2 ρ μ1
  | .bl true => .ok (.bl true) μ1
  | _ => .bad
def eNotV (f1 : SE) : SE := fun ρ μ => (f1 ρ μ).bind fun d μ1 => match d with
  | .bl c => .ok (.bl (!c)) μ1
  | _ => .bad
theorem ve_one {op} (h : VE P W X a f1) : VE P W X (.BoolOp op [a] pos) f1 := pe_one h
theorem ve_and (h1 : VE P W X a f1) (h2 : VE P W X (.BoolOp .And (b :: rest) pos) f2) : VE P W X (.BoolOp .And (a :: b :: rest) pos) (eAndV f1 f2) :=
  (pe_and h1 h2).imp3 fun σ H Q h => by
    obtain ⟨L, ρ, μ, rs, st, q⟩ := h
    refine tV.first rs st q fun d μ1 v L1 H1 x1 s1 r1 rs1 q1 => ?_
    cases r1 with
    | bl c =>
      refine ⟨c, rfl, ?_⟩
      cases c with
      | true => exact ⟨L1, ρ, μ1, rs1, s1, q1⟩
      | false => exact q1 L1 H1 .refl s1 _ (.bl false)
    | _ => exact q1.elim
def eIf (t : ST) (f1 f2 : SE) : SE := fun ρ μ => (t ρ μ).bind fun c μ1 => if c = true then f1 ρ μ1 else f2 ρ μ1
theorem ve_if {c : Expr} (hc : VT P W X c t1) (h1 : VE P W X a f1) (h2 : VE P W X b f2) : VE P W X (.IfExp c a b pos) (eIf t1 f1 f2) :=
  (pe_ifExp hc h1 h2).imp3 fun σ H Q h => by
    obtain ⟨L, ρ, μ, rs, st, q⟩ := h
    refine tVT.first rs st q fun c μ1 L1 H1 x1 s1 rs1 q1 => ?_
    cases c with
    | true => exact ⟨L1, ρ, μ1, rs1, s1, q1⟩
    | false => exact ⟨L1, ρ, μ1, rs1, s1, q1⟩
end
/-! unary minus -/
def dNeg : D → Sto → R D
  | .int i, μ => .ok (.int (-i)) μ
  | _, _ => .bad
section
variable {P : Pm} {W : WX} {X : Cx} {pos : Pos} {a : Expr} {f1 : SE}
theorem ve_neg (h : VE P W X a f1) : VE P W X (.UnaryOp .USub a pos) (eU dNeg f1) :=
  (pe_un un_neg h).imp3 fun σ H Q h => by
    obtain ⟨L, ρ, μ, rs, st, q⟩ := h
    refine tV.first rs st q fun d μ1 v L1 H1 x1 s1 r1 rs1 q1 => ?_
    cases r1 with
    | int i => exact ⟨i, rfl, q1 L1 H1 .refl s1 _ (.int _)⟩
    | _ => exact q1.elim
end
/-! ### ints -/
instance (i j : Int) : Decidable (IntMulOk i j) := inferInstanceAs (Decidable (¬ (_ = true)))
def dSub : D → D → Sto → R D
  | .int i, .int j, μ => .ok (.int (i - j)) μ
  | _, _, _ => .bad
def dMod : D → D → Sto → R D
  | .int i, .int j, μ => if j ≠ 0 then .ok (.int (i.fmod j)) μ else .bad
  | _, _, _ => .bad
def dFdiv : D → D → Sto → R D
  | .int i, .int j, μ => if j ≠ 0 ∧ Builtin.divisionGoesByPylong i j = false then .ok (.int (i.fdiv j)) μ else .bad
  | _, _, _ => .bad
def dPow : D → D → Sto → R D
  | .int i, .int j, μ => if 0 ≤ j ∧ j ≤ 1000000 ∧ i.natAbs < 2 ^ 64 then .ok (.int (i ^ j.toNat)) μ else .bad
  | _, _, _ => .bad
def dLt : D → D → Sto → R D
  | .int i, .int j, μ => .ok (.bl (decide (i < j))) μ
  | _, _, _ => .bad
def dLe : D → D → Sto → R D
  | .int i, .int j, μ => .ok (.bl (decide (i ≤ j))) μ
  | _, _, _ => .bad
def dGt : D → D → Sto → R D
  | .int i, .int j, μ => .ok (.bl (decide (j < i))) μ
  | _, _, _ => .bad
def dGe : D → D → Sto → R D
  | .int i, .int j, μ => .ok (.bl (decide (j ≤ i))) μ
  | _, _, _ => .bad
theorem os_int {P : Pm} {C : Int → Int → Prop} [∀ i j, Decidable (C i j)] {k : Int → Int → V} {kd : Int → Int → D} {g : D → D → Sto → R D} (hk : ∀ H L i j, Rep P H L (k i j) (kd i j))
    (hg : ∀ a b μ, g a b μ = match a, b with
      | .int i, .int j => if C i j then .ok (kd i j) μ else .bad
      | _, _ => .bad) : OpS P (rI C k) g := by
  intro E L H μ x y a b Q s ra rb q
  rw [hg] at q
  cases ra with
  | int i =>
    cases rb with
    | int j =>
      by_cases c : C i j
      · have q' : Post P E L H (fun d L' H' => ∀ v, Rep P H' L' v d → Q v H') (if C i j then .ok (kd i j) μ else .bad) := q
        rw [if_pos c] at q'
        exact ⟨i, j, rfl, rfl, c, q' L H .refl s _ (hk H L i j)⟩
      · have q' : Post P E L H (fun d L' H' => ∀ v, Rep P H' L' v d → Q v H') (if C i j then .ok (kd i j) μ else .bad) := q
        rw [if_neg c] at q'
        exact q'.elim
    | _ => exact q.elim
  | _ => exact q.elim
theorem os_int0 {P : Pm} {k : Int → Int → V} {kd : Int → Int → D} {g : D → D → Sto → R D} (hk : ∀ H L i j, Rep P H L (k i j) (kd i j))
    (hg : ∀ a b μ, g a b μ = match a, b with
      | .int i, .int j => .ok (kd i j) μ
      | _, _ => .bad) : OpS P (rI0 k) g := by
  intro E L H μ x y a b Q s ra rb q
  rw [hg] at q
  cases ra with
  | int i =>
    cases rb with
    | int j => exact ⟨i, j, rfl, rfl, q L H .refl s _ (hk H L i j)⟩
    | _ => exact q.elim
  | _ => exact q.elim
section
variable {P : Pm} {X : Cx}
theorem os_sub : OpS P (rI0 fun i j => .int (i - j)) dSub := os_int0 (fun _ _ _ _ => .int _) fun a b μ => by cases a <;> cases b <;> rfl
theorem os_lt : OpS P (rI0 fun i j => .bl (decide (i < j))) dLt := os_int0 (fun _ _ _ _ => .bl _) fun a b μ => by cases a <;> cases b <;> rfl
theorem os_le : OpS P (rI0 fun i j => .bl (decide (i ≤ j))) dLe := os_int0 (fun _ _ _ _ => .bl _) fun a b μ => by cases a <;> cases b <;> rfl
theorem os_gt : OpS P (rI0 fun i j => .bl (decide (j < i))) dGt := os_int0 (fun _ _ _ _ => .bl _) fun a b μ => by cases a <;> cases b <;> rfl
theorem os_ge : OpS P (rI0 fun i j => .bl (decide (j ≤ i))) dGe := os_int0 (fun _ _ _ _ => .bl _) fun a b μ => by cases a <;> cases b <;> rfl
theorem os_mod : OpS P (rI (fun _ j => j ≠ 0) fun i j => .int (i.fmod j)) dMod := os_int (fun _ _ _ _ => .int _) fun a b μ => by cases a <;> cases b <;> rfl
theorem op_fdivP : OpR X (binaryOp .FloorDiv) (rI (fun i j => j ≠ 0 ∧ Builtin.divisionGoesByPylong i j = false) fun i j => .int (i.fdiv j)) := opI fun i j _ _ _ _ _ hc q => floordiv_int hc.1 q (.inl hc.2)
theorem os_fdiv : OpS P (rI (fun i j => j ≠ 0 ∧ Builtin.divisionGoesByPylong i j = false) fun i j => .int (i.fdiv j)) dFdiv := os_int (fun _ _ _ _ => .int _) fun a b μ => by cases a <;> cases b <;> rfl
instance (i j : Int) : Decidable (CPow i j) := inferInstanceAs (Decidable (_ ∧ _))
theorem os_pow : OpS P (rI CPow fun i j => .int (i ^ j.toNat)) dPow := os_int (C := CPow) (fun _ _ _ _ => .int _) fun a b μ => by cases a <;> cases b <;> rfl
/-! + and *: ints, texts, lists, tuples -/
def dAdd : D → D → Sto → R D := fun a b μ => match a, b with
  | .int i, .int j => .ok (.int (i + j)) μ
  | .str x, .str y => if x.length + y.length ≤ sizeLine then .ok (.str (x ++ y)) μ else .bad
  | .tup xs, .tup ys => if xs ≠ [] ∧ xs.length + ys.length ≤ sizeLine then .ok (.tup (xs ++ ys)) μ else .bad
  | a, b => match asL μ a, asL μ b with
    | some xs, some ys => if xs.length + ys.length ≤ sizeLine then .ok (.lst (xs ++ ys)) μ else .bad
    | _, _ => .bad
def rAdd4 (K : PySem.W.Frag) : R2 := fun x y H Q => (rI0 fun i j => .int (i + j)) x y H Q ∨ ((∃ i j, x = .str i ∧ y = .str j ∧ i.length + j.length ≤ sizeLine ∧ Q (.str (i ++ j)) H) ∨ (rCatT K x y H Q ∨ rCat x y H Q))
theorem op_add4 : OpR X (binaryOp .Add) (rAdd4 X.K) := op_add.or (op_add_str.or (op_catT.or op_cat))
theorem os_add (hK : P.K = X.K) : OpS P (rAdd4 X.K) dAdd := by
  intro E L H μ x y a b Q s ra rb q
  have lists : (match asL μ a, asL μ b with
      | some xs, some ys => Post P E L H (fun d L' H' => ∀ v, Rep P H' L' v d → Q v H') (if xs.length + ys.length ≤ sizeLine then .ok (.lst (xs ++ ys)) μ else .bad)
      | _, _ => False) → rAdd4 X.K x y H Q := fun h => by
    cases e1 : asL μ a with
    | none => rw [e1] at h; exact h.elim
    | some xs =>
      cases e2 : asL μ b with
      | none => rw [e1, e2] at h; exact h.elim
      | some ys =>
        rw [e1, e2] at h
        have h : Post P E L H (fun d L' H' => ∀ v, Rep P H' L' v d → Q v H') (if xs.length + ys.length ≤ sizeLine then .ok (.lst (xs ++ ys)) μ else .bad) := h
        by_cases c : xs.length + ys.length ≤ sizeLine
        · rw [if_pos c] at h
          obtain ⟨p1, vs1, rfl, h1, r1⟩ := asL_ok s ra e1
          obtain ⟨p2, vs2, rfl, h2, r2⟩ := asL_ok s rb e2
          exact .inr (.inr (.inr ⟨p1, p2, vs1, vs2, rfl, rfl, h1, h2, by rw [r1.length, r2.length]; exact c, fun p hp => h _ _ (Ext.grow s (upd_grow hp)) (s.grow (upd_grow hp)) _ (new_lst s hp (r1.append r2))⟩))
        · rw [if_neg c] at h; exact h.elim
  have fall : dAdd a b μ = (match asL μ a, asL μ b with
    | some xs, some ys => if xs.length + ys.length ≤ sizeLine then .ok (.lst (xs ++ ys)) μ else .bad
    | _, _ => .bad) → rAdd4 X.K x y H Q := fun e => lists (by
      rw [e] at q
      cases e1 : asL μ a with
      | none => rw [e1] at q; exact q
      | some xs =>
        cases e2 : asL μ b with
        | none => rw [e1, e2] at q; exact q
        | some ys => rw [e1, e2] at q; exact q)
  cases a with
  | int i =>
    cases b with
    | int j => cases ra; cases rb; exact .inl ⟨i, j, rfl, rfl, q L H .refl s _ (.int _)⟩
    | _ => exact fall rfl
  | str z =>
    cases b with
    | str z2 =>
      cases ra; cases rb
      have q : Post P E L H (fun d L' H' => ∀ v, Rep P H' L' v d → Q v H') (if z.length + z2.length ≤ sizeLine then .ok (.str (z ++ z2)) μ else .bad) := q
      by_cases c : z.length + z2.length ≤ sizeLine
      · rw [if_pos c] at q
        exact .inr (.inl ⟨z, z2, rfl, rfl, c, q L H .refl s _ (.str _)⟩)
      · rw [if_neg c] at q; exact q.elim
    | _ => exact fall rfl
  | tup xs =>
    cases b with
    | tup ys =>
      have q : Post P E L H (fun d L' H' => ∀ v, Rep P H' L' v d → Q v H') (if xs ≠ [] ∧ xs.length + ys.length ≤ sizeLine then .ok (.tup (xs ++ ys)) μ else .bad) := q
      by_cases c : xs ≠ [] ∧ xs.length + ys.length ≤ sizeLine
      · rw [if_pos c] at q
        have ra' := ra
        obtain ⟨p1, vs1, e1, h1, r1⟩ := tup_ok ra
        obtain ⟨p2, vs2, e2, h2, r2⟩ := tup_ok rb
        subst e1; subst e2
        rw [hK] at h1 h2
        refine .inr (.inr (.inl ⟨p1, p2, vs1, vs2, rfl, rfl, h1, h2, fun z => ?_, by rw [r1.length, r2.length]; exact c.2, fun z => ?_, fun z p hp => q _ _ (Ext.grow s (upd_grow hp)) (s.grow (upd_grow hp)) _ (new_tup s hp (r1.append r2))⟩))
        · subst z; cases r1; exact c.1 rfl
        · subst z; cases r2
          rw [List.append_nil] at q
          exact q L H .refl s _ ra'
      · rw [if_neg c] at q; exact q.elim
    | _ => exact fall rfl
  | _ => exact fall rfl
def rMulP : R2 := rI IntMulOk fun i j => .int (i * j)
theorem op_mulP : OpR X (binaryOp .Mult) rMulP := opI fun _ _ _ _ _ _ _ hc q => mul_int q hc
def dMul : D → D → Sto → R D := fun a b μ => match a, b with
  | .int i, .int j => if IntMulOk i j then .ok (.int (i * j)) μ else .bad
  | a, .int k => match asL μ a with
    | some xs => if -(2 ^ 63) ≤ k ∧ k < 2 ^ 63 ∧ xs.length * k.toNat ≤ sizeLine then .ok (.lst (List.replicate k.toNat xs).flatten) μ else .bad
    | none => .bad
  | _, _ => .bad
def rMul2 : R2 := fun x y H Q => rMulP x y H Q ∨ rRep x y H Q
theorem op_mul2 : OpR X (binaryOp .Mult) rMul2 := op_mulP.or op_rep
theorem Reps.flat {H : Hp} {L : Lv} {vs : List V} {ds : List D} (r : Reps P H L vs ds) : ∀ n : Nat, Reps P H L (List.replicate n vs).flatten (List.replicate n ds).flatten
  | 0 => .nil
  | n + 1 => by rw [List.replicate_succ, List.replicate_succ, List.flatten_cons, List.flatten_cons]; exact r.append (Reps.flat r n)
theorem os_mul : OpS P rMul2 dMul := by
  intro E L H μ x y a b Q s ra rb q
  have lists : ∀ k : Int, b = .int k → (match asL μ a with
      | some xs => Post P E L H (fun d L' H' => ∀ v, Rep P H' L' v d → Q v H') (if -(2 ^ 63) ≤ k ∧ k < 2 ^ 63 ∧ xs.length * k.toNat ≤ sizeLine then .ok (.lst (List.replicate k.toNat xs).flatten) μ else .bad)
      | none => False) → rMul2 x y H Q := fun k eb h => by
    subst eb
    cases e1 : asL μ a with
    | none => rw [e1] at h; exact h.elim
    | some xs =>
      rw [e1] at h
      have h : Post P E L H (fun d L' H' => ∀ v, Rep P H' L' v d → Q v H') (if -(2 ^ 63) ≤ k ∧ k < 2 ^ 63 ∧ xs.length * k.toNat ≤ sizeLine then .ok (.lst (List.replicate k.toNat xs).flatten) μ else .bad) := h
      by_cases c : -(2 ^ 63) ≤ k ∧ k < 2 ^ 63 ∧ xs.length * k.toNat ≤ sizeLine
      · rw [if_pos c] at h
        obtain ⟨p1, vs1, rfl, h1, r1⟩ := asL_ok s ra e1
        cases rb
        exact .inr ⟨p1, k, vs1, rfl, rfl, h1, c.1, c.2.1, by rw [r1.length]; exact c.2.2, fun p hp => h _ _ (Ext.grow s (upd_grow hp)) (s.grow (upd_grow hp)) _ (new_lst s hp (r1.flat _))⟩
      · rw [if_neg c] at h; exact h.elim
  cases b with
  | int k =>
    cases a with
    | int i =>
      have q : Post P E L H (fun d L' H' => ∀ v, Rep P H' L' v d → Q v H') (if IntMulOk i k then .ok (.int (i * k)) μ else .bad) := q
      cases ra; cases rb
      by_cases c : IntMulOk i k
      · rw [if_pos c] at q; exact .inl ⟨i, k, rfl, rfl, c, q L H .refl s _ (.int _)⟩
      · rw [if_neg c] at q; exact q.elim
    | lst xs => exact lists k rfl q
    | cell c => 
      refine lists k rfl ?_
      have q : Post P E L H (fun d L' H' => ∀ v, Rep P H' L' v d → Q v H') (match asL μ (.cell c) with
        | some xs => if -(2 ^ 63) ≤ k ∧ k < 2 ^ 63 ∧ xs.length * k.toNat ≤ sizeLine then .ok (.lst (List.replicate k.toNat xs).flatten) μ else .bad
        | none => .bad) := q
      cases e1 : asL μ (.cell c) with
      | none => rw [e1] at q; exact q
      | some xs => rw [e1] at q; exact q
    | _ => exact q.elim
  | _ => cases a <;> exact q.elim
end
end L3

namespace L3
open PySem PySem.Spec PyProof.Rows L2
/-! ### arguments, displays -/
def aNil : SA := fun _ μ => .ok [] μ
def aCons (f : SE) (g : SA) : SA := fun ρ μ => (f ρ μ).bind fun d μ1 => (g ρ μ1).bind fun ds μ2 => .ok (d :: ds) μ2
def eTup (fa : SA) : SE := fun ρ μ => (fa ρ μ).bind fun ds μ1 => if ds.length ≤ 100 then .ok (.tup ds) μ1 else .bad
def eLst (fa : SA) : SE := fun ρ μ => (fa ρ μ).bind fun ds μ1 => if ds.length ≤ 100 then .ok (.lst ds) μ1 else .bad
/-- a new list that will be changed -/
def eLstC (fa : SA) : SE := fun ρ μ => (fa ρ μ).bind fun ds μ1 => if ds.length ≤ 100 then .ok (.cell μ1.length) (μ1 ++ [.lst ds]) else .bad
section
variable {P : Pm} {W : WX} {X : Cx} {pos : Pos} {e : Expr} {es : List Expr} {f : SE} {fa : SA}
theorem va_nil : VA P W X [] aNil := pa_nil.imp3 fun σ H Q ⟨L, ρ, μ, rs, st, q⟩ => q L H .refl st [] .nil
theorem va_cons (h : VE P W X e f) (hr : VA P W X es fa) (hs : starEach (e :: es) X.env = (false, eval e X.env) :: starEach es X.env := by rfl) : VA P W X (e :: es) (aCons f fa) :=
  (pa_cons h hr hs).imp3 fun σ H Q ⟨L, ρ, μ, rs, st, q⟩ => by
    refine tV.first rs st q fun d μ1 v L1 H1 x1 s1 r1 rs1 q1 => ?_
    exact tVA.first rs1 s1 q1 fun ds μ2 vs L2 H2 x2 s2 r2 rs2 q2 => q2 L2 H2 .refl s2 _ (.cons (r1.ext x2) r2)
theorem line100 {n : Nat} (h : n ≤ 100) : n ≤ sizeLine := by rw [sizeLine_eq]; omega
theorem ve_tup {k} (h : VA P W X es fa) : VE P W X (.Tuple es k pos) (eTup fa) :=
  (pe_tup h).imp3 fun σ H Q ⟨L, ρ, μ, rs, st, q⟩ => by
    refine tVA.first rs st q fun ds μ1 vs L1 H1 x1 s1 r1 rs1 q1 => ?_
    by_cases c : ds.length ≤ 100
    · rw [if_pos c] at q1
      exact ⟨by rw [r1.length]; exact line100 c, fun p hp => q1 _ _ (Ext.grow s1 (upd_grow hp)) (s1.grow (upd_grow hp)) _ (new_tup s1 hp r1)⟩
    · rw [if_neg c] at q1; exact q1.elim
theorem ve_lst (h : VA P W X es fa) : VE P W X (.List es pos) (eLst fa) :=
  (pe_lst h).imp3 fun σ H Q ⟨L, ρ, μ, rs, st, q⟩ => by
    refine tVA.first rs st q fun ds μ1 vs L1 H1 x1 s1 r1 rs1 q1 => ?_
    by_cases c : ds.length ≤ 100
    · rw [if_pos c] at q1
      exact ⟨by rw [r1.length]; exact line100 c, fun p hp => q1 _ _ (Ext.grow s1 (upd_grow hp)) (s1.grow (upd_grow hp)) _ (new_lst s1 hp r1)⟩
    · rw [if_neg c] at q1; exact q1.elim
end
/-! ### a new mutable thing -/
section
variable {P : Pm} {H : Hp} {L : Lv} {μ : Sto}
theorem Ext0.cell {p : Addr} {o : HO} (n : H p = none) : Ext0 L H (L.cell p) (upd H p o) := by
  refine ⟨fun a u h _ _ => upd_grow n a u h, fun k a h => ?_, fun a h => ?_⟩
  · show (L.c ++ [p])[k]? = some a
    rw [List.getElem?_append_left (List.getElem?_eq_some_iff.mp h).1]; exact h
  · rcases h with h | h
    · rcases List.mem_append.mp (show a ∈ L.c ++ [p] from h) with h | h
      · exact .inl (.inl h)
      · rw [List.mem_singleton] at h; subst h; exact .inr (.inl n)
    · exact .inl (.inr h)
theorem Ext.cell (s : St3 P H L μ) {p : Addr} {o : HO} (n : H p = none) : Ext P L H (L.cell p) (upd H p o) :=
  ⟨Ext0.cell n, rfl, fun a h => upd_ne fun z => s.new_not n (.inr (z ▸ h))⟩
theorem St3.cell (s : St3 P H L μ) {p : Addr} {o : HO} {m : MO} (n : H p = none) (r : RepM P (upd H p o) (L.cell p) p m) : St3 P (upd H p o) (L.cell p) (μ ++ [m]) := by
  have x : Ext P L H (L.cell p) (upd H p o) := Ext.cell s n
  refine ⟨by simp [Lv.cell, s.len], fun k a m' h1 h2 => ?_, ?_, fun a h => ?_, s.tab.ext (upd_grow n)⟩
  · have h1 : (L.c ++ [p])[k]? = some a := h1
    by_cases hk : k < L.c.length
    · rw [List.getElem?_append_left hk] at h1
      rw [List.getElem?_append_left (by rw [← s.len]; exact hk)] at h2
      exact (s.at_ k a m' h1 h2).ext0 (fun o => upd_grow n a o) x.toExt0
    · rw [List.getElem?_append_right (by omega)] at h1
      rw [List.getElem?_append_right (by have := s.len; omega)] at h2
      have e1 : k - L.c.length = 0 := by
        have := (List.getElem?_eq_some_iff.mp h1).1
        simp at this
        omega
      have e2 : k - μ.length = 0 := by have := s.len; omega
      rw [e1] at h1; rw [e2] at h2
      cases h1; cases h2
      exact r
  · exact List.nodup_append.mpr ⟨s.nd, by simp, fun a ha b hb => by
      rw [List.mem_singleton] at hb; subst hb
      exact fun z => s.new_not n (z ▸ .inl ha)⟩
  · have h : a ∈ L.x := h
    have ne : a ≠ p := fun z => by subst z; exact s.new_not n (.inr h)
    refine ⟨fun z => ?_, by rw [upd_ne ne]; exact (s.dis a h).2⟩
    rcases List.mem_append.mp (show a ∈ L.c ++ [p] from z) with z | z
    · exact (s.dis a h).1 z
    · rw [List.mem_singleton] at z; exact ne z
theorem cell_last {p : Addr} (s : St3 P H L μ) : (L.cell p).c[μ.length]? = some p := by show (L.c ++ [p])[μ.length]? = some p; rw [← s.len]; simp
/-- a new list as a cell -/
theorem new_cell (s : St3 P H L μ) {p : Addr} {vs : List V} {ds : List D} (n : H p = none) (r : Reps P H L vs ds) :
    Ext P L H (L.cell p) (upd H p (.lst vs)) ∧ St3 P (upd H p (.lst vs)) (L.cell p) (μ ++ [.lst ds]) ∧ Rep P (upd H p (.lst vs)) (L.cell p) (.ref p) (.cell μ.length) :=
  ⟨Ext.cell s n, s.cell n (.lst upd_same (r.ext (Ext.cell s n))), .cell (cell_last s)⟩
end
section
variable {P : Pm} {W : WX} {X : Cx} {pos : Pos} {e : Expr} {es : List Expr} {f : SE} {fa : SA}
theorem ve_lstC (h : VA P W X es fa) : VE P W X (.List es pos) (eLstC fa) :=
  (pe_lst h).imp3 fun σ H Q ⟨L, ρ, μ, rs, st, q⟩ => by
    refine tVA.first rs st q fun ds μ1 vs L1 H1 x1 s1 r1 rs1 q1 => ?_
    by_cases c : ds.length ≤ 100
    · rw [if_pos c] at q1
      refine ⟨by rw [r1.length]; exact line100 c, fun p hp => ?_⟩
      obtain ⟨a1, a2, a3⟩ := new_cell s1 hp r1
      exact q1 _ _ a1 a2 _ a3
    · rw [if_neg c] at q1; exact q1.elim
end
/-! ### calls of defs -/
/-- a def is worth f -/
def spF (P : Pm) (n : Nat) (f : List D → Sto → R D) : Sp := fun vs H Q E => vs.length = n ∧ ∃ L ds μ, Reps P H L vs ds ∧ St3 P H L μ ∧ Post P E L H (fun d L' H' => ∀ v, Rep P H' L' v d → Q v H') (f ds μ)
def eCall (n : Nat) (f : List D → Sto → R D) (fa : SA) : SE := fun ρ μ => (fa ρ μ).bind fun ds μ1 => if ds.length = n then f ds μ1 else .bad
/-- with defaults: the first m are written -/
def eCallD (m : Nat) (dd : List D) (f : List D → Sto → R D) (fa : SA) : SE := fun ρ μ => (fa ρ μ).bind fun ds μ1 => if ds.length = m then f (ds ++ dd) μ1 else .bad
abbrev CXF (X : Cx) : CXT := L2.CX X.prog X.w
section
variable {P : Pm} {W : WX} {X : Cx} {pos p : Pos} {e : Expr} {es : List Expr} {f : SE} {fa : SA} {k n : Nat} {fA : Addr} {fd : FuncData} {ps : List Str} {g : List D → Sto → R D} {x : Str}
theorem ve_call (F : FnOk X.prog X.w X.K X.mg X.base (CXF X) k fA fd ps (spF P n g)) (hr : Room k X.A) (hg : Gl X x) (hm : X.mg x = some (.ref fA)) (hk : PySem.W.keepIn X.K (.ref fA) = true) (hb : Binds X.K fd ps []) (tk : Takes X W)
    (ha : VA P W X (e :: es) fa) (hdb : (x == ("__debug__" : Str)) = false := by decide) (he : starEach (e :: es) X.env = (false, eval e X.env) :: starEach es X.env := by rfl) (hpl : (backTo pos (starEach es X.env)).any (·.1) = false := by rfl) :
    VE P W X (.Call (.Name x p) (e :: es) [] pos) (eCall n g fa) :=
  (pe_callS (E := WE W) F hr hg hm hk hb (fun σ => passAt tk σ) ha hdb he hpl).imp3 fun σ H Q ⟨L, ρ, μ, rs, st, q⟩ => by
    refine tVA.first rs st q fun ds μ1 vs L1 H1 x1 s1 r1 rs1 q1 => ?_
    by_cases c : ds.length = n
    · rw [if_pos c] at q1
      exact ⟨by rw [r1.length]; exact c, L1, ds, μ1, r1, s1, q1⟩
    · rw [if_neg c] at q1; exact q1.elim
theorem run_fnSD {E : L2.St → XK} {ds : List Value} {dvs : List V} {sp : Sp} {pins : List (Addr × Obj)} {σ : L2.St} {H : Hp} {s : Shared} {Q : VK} {us : List Value} {vs : List V} (F : FnOk X.prog X.w X.K X.mg X.base (CXF X) k fA fd ps sp) (room : Room k X.A) (hb : Binds X.K fd ps ds) (hd : Vals dvs ds) (hx : PassesAt (CXF X) X σ (E σ))
    (I : Inv X pins σ H s) (rv : Vals vs us) (asks : sp (vs ++ dvs) H Q (E σ)) : wpAny (model X.prog X.w) X.A (call (.ref fA) us) (EP X pins σ Q) X.xe s := by
  have both := rv.append hd
  have bound := hb s us I.kIn (both.length.symm.trans (F.len _ _ _ _ asks))
  refine wpAny_call (codeAny_mono (F.run X.A X.stack s H ⟨us, []⟩ _ _ Q (E σ) room I.env0 bound both asks) fun out s2 got => ?_)
  match out, got with
  | .error er, got => exact hx pins H s er s2 I got
  | .ok (.ret _), got => exact I.after got
  | .ok .next, got => exact got.elim
  | .ok .brk, got => exact got.elim
  | .ok .cont, got => exact got.elim
theorem ve_callD {ds : List Value} {dvs : List V} {dd : List D} {m : Nat} (F : FnOk X.prog X.w X.K X.mg X.base (CXF X) k fA fd ps (spF P n g)) (hr : Room k X.A) (hg : Gl X x) (hm : X.mg x = some (.ref fA)) (hk : PySem.W.keepIn X.K (.ref fA) = true) (hb : Binds X.K fd ps ds) (hd : Vals dvs ds)
    (hdd : ∀ L H, Reps P H L dvs dd) (hn : m + dd.length = n) (tk : Takes X W)
    (ha : VA P W X (e :: es) fa) (hdb : (x == ("__debug__" : Str)) = false := by decide) (he : starEach (e :: es) X.env = (false, eval e X.env) :: starEach es X.env := by rfl) (hpl : (backTo pos (starEach es X.env)).any (·.1) = false := by rfl) :
    VE P W X (.Call (.Name x p) (e :: es) [] pos) (eCallD m dd g fa) := by
  refine ⟨fun pins s σ H Q I h => ?_⟩
  refine wpAny_Call_Name_kw (ld_glob I hg hm ?_ hdb)
  obtain ⟨L, ρ, μ, rs, st, q⟩ := h
  have h : tVA P W fa σ H (fun vs H1 => spF P n g (vs ++ dvs) H1 Q (WE W σ)) := by
    refine tVA.first rs st q fun ds μ1 vs L1 H1 x1 s1 r1 rs1 q1 => ?_
    by_cases c : ds.length = m
    · rw [if_pos c] at q1
      have r2 := r1.append (hdd L1 H1)
      exact ⟨by rw [r2.length, List.length_append, c, hn], L1, ds ++ dd, μ1, r2, s1, q1⟩
    · rw [if_neg c] at q1; exact q1.elim
  refine PySem.W.callWith_K (h₀ := X.base) I.ok.mod.kin hk (thn (ha.run pos pins s σ H _ I h) fun us s1 ⟨vs, H1, I1, r, q⟩ => ⟨I1.kIn, ?_⟩) he hpl
  exact run_fnSD (E := WE W) F hr hb hd (passAt tk σ) I1 r q
end
/-! ### calls of built-ins -/
def CallS (P : Pm) (r : List V → Hp → VK → Prop) (g : List D → Sto → R D) : Prop := ∀ (E : XK) (L : Lv) (H : Hp) (μ : Sto) (vs : List V) (ds : List D) (Q : VK), St3 P H L μ → Reps P H L vs ds →
  Post P E L H (fun d L' H' => ∀ v, Rep P H' L' v d → Q v H') (g ds μ) → r vs H Q
def eCallB (g : List D → Sto → R D) (fa : SA) : SE := fun ρ μ => (fa ρ μ).bind fun ds μ1 => g ds μ1
theorem CallR.or {X : Cx} {f : Value} {r r' : List V → Hp → VK → Prop} (h : CallR X f r) (h' : CallR X f r') : CallR X f (fun xs H Q => r xs H Q ∨ r' xs H Q) := by
  intro pins s σ H xs us Q I rx q
  rcases q with q | q
  · exact h pins s σ H xs us Q I rx q
  · exact h' pins s σ H xs us Q I rx q
section
variable {P : Pm} {W : WX} {X : Cx} {pos p : Pos} {e : Expr} {es : List Expr} {fa : SA} {g : List D → Sto → R D} {x : Str} {id T : String} {r : List V → Hp → VK → Prop}
theorem ve_callB (hc : CallR X (.builtin id) r) (hs : CallS P r g) (hg : Gl X x) (hm : X.mg x = none) (hv : bootBuiltins x = some (.builtin id)) (ha : VA P W X (e :: es) fa) (hn : x ≠ "__name__" := by decide) (hdb : (x == ("__debug__" : Str)) = false := by decide)
    (he : starEach (e :: es) X.env = (false, eval e X.env) :: starEach es X.env := by rfl) (hpl : (backTo pos (starEach es X.env)).any (·.1) = false := by rfl) : VE P W X (.Call (.Name x p) (e :: es) [] pos) (eCallB g fa) :=
  (pe_callB hc hg hm hv ha hn hdb he hpl).imp3 fun σ H Q ⟨L, ρ, μ, rs, st, q⟩ =>
    tVA.first rs st q fun ds μ1 vs L1 H1 x1 s1 r1 rs1 q1 => hs _ L1 H1 μ1 vs ds Q s1 r1 q1
theorem ve_callTy (hc : CallR X (.type T) r) (hs : CallS P r g) (hg : Gl X x) (hm : X.mg x = none) (hv : bootBuiltins x = some (.type T)) (ha : VA P W X (e :: es) fa) (hn : x ≠ "__name__" := by decide) (hdb : (x == ("__debug__" : Str)) = false := by decide)
    (he : starEach (e :: es) X.env = (false, eval e X.env) :: starEach es X.env := by rfl) (hpl : (backTo pos (starEach es X.env)).any (·.1) = false := by rfl) : VE P W X (.Call (.Name x p) (e :: es) [] pos) (eCallB g fa) :=
  (pe_callTy hc hg hm hv ha hn hdb he hpl).imp3 fun σ H Q ⟨L, ρ, μ, rs, st, q⟩ =>
    tVA.first rs st q fun ds μ1 vs L1 H1 x1 s1 r1 rs1 q1 => hs _ L1 H1 μ1 vs ds Q s1 r1 q1
end
/-- of one, of two -/
def un (g : D → Sto → R D) : List D → Sto → R D
  | [d], μ => g d μ
  | _, _ => .bad
def bi (g : D → D → Sto → R D) : List D → Sto → R D
  | [d, e], μ => g d e μ
  | _, _ => .bad
theorem Reps.one {P : Pm} {H : Hp} {L : Lv} {vs : List V} {d : D} (r : Reps P H L vs [d]) : ∃ v, vs = [v] ∧ Rep P H L v d := by
  cases r with
  | cons h t => cases t; exact ⟨_, rfl, h⟩
theorem Reps.two {P : Pm} {H : Hp} {L : Lv} {vs : List V} {d e : D} (r : Reps P H L vs [d, e]) : ∃ v w, vs = [v, w] ∧ Rep P H L v d ∧ Rep P H L w e := by
  cases r with
  | cons h t => obtain ⟨w, rfl, h'⟩ := t.one; exact ⟨_, _, rfl, h, h'⟩
theorem cs_un {P : Pm} {r : List V → Hp → VK → Prop} {g : D → Sto → R D} (h : ∀ (E : XK) (L : Lv) (H : Hp) (μ : Sto) (v : V) (d : D) (Q : VK), St3 P H L μ → Rep P H L v d → Post P E L H (fun d L' H' => ∀ v, Rep P H' L' v d → Q v H') (g d μ) → r [v] H Q) : CallS P r (un g) := by
  intro E L H μ vs ds Q s rr q
  match ds, rr, q with
  | [], _, q => exact q.elim
  | _ :: _ :: _, _, q => exact q.elim
  | [d], rr, q =>
    obtain ⟨v, rfl, rv⟩ := rr.one
    exact h E L H μ v d Q s rv q
/-- the items of a list or a tuple -/
def asQ (μ : Sto) : D → Option (List D)
  | .tup ds => some ds
  | d => asS μ d
section
variable {P : Pm} {X : Cx} {H : Hp} {L : Lv} {μ : Sto}
theorem asQ_ok (s : St3 P H L μ) {v : V} {d : D} {ds : List D} (r : Rep P H L v d) (e : asQ μ d = some ds) : ∃ a vs, v = .ref a ∧ (SqL P.K H a vs ∨ SqT P.K H a vs) ∧ Reps P H L vs ds := by
  have go : asS μ d = some ds → ∃ a vs, v = .ref a ∧ (SqL P.K H a vs ∨ SqT P.K H a vs) ∧ Reps P H L vs ds := fun e =>
    let ⟨a, vs, h1, h2, h3⟩ := asS_ok s r e; ⟨a, vs, h1, .inl h2, h3⟩
  cases d with
  | tup ds' =>
    cases e
    obtain ⟨a, vs, h1, h2, h3⟩ := tup_ok r
    exact ⟨a, vs, h1, .inr h2, h3⟩
  | _ => exact go e
/-! len, abs, list, tuple, int, str -/
def dLen : D → Sto → R D
  | .str z, μ => if z.length ≤ sizeLine then .ok (.int z.length) μ else .bad
  | d, μ => match asQ μ d with
    | some ds => .ok (.int ds.length) μ
    | none => .bad
theorem cs_len (hK : P.K = X.K) : CallS P (fun xs H Q => ∃ x n, xs = [x] ∧ LenV X.K x H n ∧ Q (.int n) H) (un dLen) := by
  refine cs_un fun E L H μ v d Q s rv q => ?_
  · skip
    have seq : (match asQ μ d with
      | some ds => Post P E L H (fun d L' H' => ∀ v, Rep P H' L' v d → Q v H') (.ok (.int ds.length) μ)
      | none => False) → ∃ x n, [v] = [x] ∧ LenV X.K x H n ∧ Q (.int n) H := fun h => by
      cases e1 : asQ μ d with
      | none => rw [e1] at h; exact h.elim
      | some ds =>
        rw [e1] at h
        obtain ⟨a, vs, rfl, hq, rq⟩ := asQ_ok s rv e1
        rw [hK] at hq
        refine ⟨_, vs.length, rfl, ?_, by rw [rq.length]; exact h L H .refl s _ (.int _)⟩
        rcases hq with hq | hq
        · exact .inl ⟨vs, hq, rfl⟩
        · exact .inr ⟨vs, hq, rfl⟩
    have fall : dLen d μ = (match asQ μ d with
      | some ds => .ok (.int ds.length) μ
      | none => .bad) → ∃ x n, [v] = [x] ∧ LenV X.K x H n ∧ Q (.int n) H := fun e => seq (by
        rw [e] at q
        cases e1 : asQ μ d with
        | none => rw [e1] at q; exact q
        | some xs => rw [e1] at q; exact q)
    cases d with
    | str z =>
      have q : Post P E L H (fun d L' H' => ∀ v, Rep P H' L' v d → Q v H') (if z.length ≤ sizeLine then .ok (.int z.length) μ else .bad) := q
      cases rv
      by_cases c : z.length ≤ sizeLine
      · rw [if_pos c] at q
        exact ⟨_, z.length, rfl, ⟨c, rfl⟩, q L H .refl s _ (.int _)⟩
      · rw [if_neg c] at q; exact q.elim
    | _ => exact fall rfl
def dAbsC : D → Sto → R D
  | .int i, μ => .ok (.int (if i < 0 then -i else i)) μ
  | _, _ => .bad
theorem cs_abs : CallS P (fun xs H Q => ∃ i, xs = [.int i] ∧ Q (.int (if i < 0 then -i else i)) H) (un dAbsC) := by
  refine cs_un fun E L H μ v d Q s rv q => ?_
  · skip
    cases rv with
    | int i => exact ⟨i, rfl, q L H .refl s _ (.int _)⟩
    | _ => exact q.elim
/-- list(x): a new one -/
def dListOf : D → Sto → R D := fun d μ => match asQ μ d with
    | some ds => .ok (.lst ds) μ
    | none => .bad
theorem cs_listOf (hK : P.K = X.K) : CallS P (fun xs H Q => ∃ p ys, xs = [.ref p] ∧ (SqL X.K H p ys ∨ SqT X.K H p ys) ∧ ∀ l, H l = none → Q (.ref l) (upd H l (.lst ys))) (un dListOf) := by
  refine cs_un fun E L H μ v d Q s rv q => ?_
  · skip
    have q : Post P E L H (fun d L' H' => ∀ v, Rep P H' L' v d → Q v H') (match asQ μ d with
      | some ds => .ok (.lst ds) μ
      | none => .bad) := q
    cases e1 : asQ μ d with
    | none => rw [e1] at q; exact q.elim
    | some ds =>
      rw [e1] at q
      obtain ⟨a, vs, rfl, hq, rq⟩ := asQ_ok s rv e1
      rw [hK] at hq
      exact ⟨a, vs, rfl, hq, fun l hl => q _ _ (Ext.grow s (upd_grow hl)) (s.grow (upd_grow hl)) _ (new_lst s hl rq)⟩
/-- all([..]), any([..]) of bools -/
def bools : List D → Option (List Bool)
  | [] => some []
  | .bl b :: r => (bools r).map (b :: ·)
  | _ :: _ => none
theorem bools_ok : ∀ {ds : List D} {bs : List Bool} {vs : List V}, bools ds = some bs → Reps P H L vs ds → vs = bs.map V.bl
  | [], bs, vs, e, r => by cases r; cases e; rfl
  | d :: ds, bs, vs, e, r => by
    cases r with
    | cons h t =>
      cases h with
      | bl b =>
        have e : (bools ds).map (b :: ·) = some bs := e
        cases e1 : bools ds with
        | none => rw [e1] at e; cases e
        | some cs =>
          rw [e1] at e
          cases e
          rw [bools_ok e1 t]
          rfl
      | _ => cases e
def dAll : D → Sto → R D := fun d μ => match (asS μ d).bind bools with
    | some bs => .ok (.bl (bs.all id)) μ
    | none => .bad
theorem cs_all (hK : P.K = X.K) : CallS P (rAll X.K) (un dAll) := by
  refine cs_un fun E L H μ v d Q s rv q => ?_
  · skip
    have q : Post P E L H (fun d L' H' => ∀ v, Rep P H' L' v d → Q v H') (match (asS μ d).bind bools with
      | some bs => .ok (.bl (bs.all id)) μ
      | none => .bad) := q
    cases e1 : asS μ d with
    | none => rw [e1] at q; exact q.elim
    | some ds =>
      rw [e1] at q
      have q : Post P E L H (fun d L' H' => ∀ v, Rep P H' L' v d → Q v H') (match bools ds with
        | some bs => .ok (.bl (bs.all id)) μ
        | none => .bad) := q
      cases e2 : bools ds with
      | none => rw [e2] at q; exact q.elim
      | some bs =>
        rw [e2] at q
        obtain ⟨a, vs, rfl, hq, rq⟩ := asS_ok s rv e1
        rw [hK] at hq
        have e3 := bools_ok e2 rq
        subst e3
        exact ⟨a, bs, rfl, hq, q L H .refl s _ (.bl _)⟩
/-- sum([..]) of intsD -/
def intsD : List D → Option (List Int)
  | [] => some []
  | .int b :: r => (intsD r).map (b :: ·)
  | _ :: _ => none
theorem intsD_ok : ∀ {ds : List D} {bs : List Int} {vs : List V}, intsD ds = some bs → Reps P H L vs ds → vs = bs.map V.int
  | [], bs, vs, e, r => by cases r; cases e; rfl
  | d :: ds, bs, vs, e, r => by
    cases r with
    | cons h t =>
      cases h with
      | int b =>
        have e : (intsD ds).map (b :: ·) = some bs := e
        cases e1 : intsD ds with
        | none => rw [e1] at e; cases e
        | some cs =>
          rw [e1] at e
          cases e
          rw [intsD_ok e1 t]
          rfl
      | _ => cases e
def dSum : D → Sto → R D := fun d μ => match (asS μ d).bind intsD with
    | some bs => .ok (.int bs.sum) μ
    | none => .bad
theorem cs_sum (hK : P.K = X.K) : CallS P (rSum X.K) (un dSum) := by
  refine cs_un fun E L H μ v d Q s rv q => ?_
  · skip
    have q : Post P E L H (fun d L' H' => ∀ v, Rep P H' L' v d → Q v H') (match (asS μ d).bind intsD with
      | some bs => .ok (.int bs.sum) μ
      | none => .bad) := q
    cases e1 : asS μ d with
    | none => rw [e1] at q; exact q.elim
    | some ds =>
      rw [e1] at q
      have q : Post P E L H (fun d L' H' => ∀ v, Rep P H' L' v d → Q v H') (match intsD ds with
        | some bs => .ok (.int bs.sum) μ
        | none => .bad) := q
      cases e2 : intsD ds with
      | none => rw [e2] at q; exact q.elim
      | some bs =>
        rw [e2] at q
        obtain ⟨a, vs, rfl, hq, rq⟩ := asS_ok s rv e1
        rw [hK] at hq
        have e3 := intsD_ok e2 rq
        subst e3
        exact ⟨a, bs, rfl, hq, q L H .refl s _ (.int _)⟩
/-! ### subscripts, slices -/
def dIx : D → D → Sto → R D := fun a b μ => match a, b with
  | .str z, .int i => if z.length ≤ sizeLine then (match atI z.cps.toList i with
    | some c => .ok (.str ⟨#[c]⟩) μ
    | none => .bad) else .bad
  | d, .int i => match asQ μ d with
    | some ds => (match atI ds i with
      | some d => .ok d μ
      | none => .bad)
    | none => .bad
  | _, _ => .bad
theorem atI_rep {vs : List V} {ds : List D} {i : Int} {d : D} (r : Reps P H L vs ds) (e : atI ds i = some d) : ∃ v, atI vs i = some v ∧ Rep P H L v d := by
  unfold atI at e ⊢
  rw [r.length]
  cases e1 : ixN ds.length i with
  | none => rw [e1] at e; cases e
  | some j => rw [e1] at e; exact r.get e
theorem os_ix (hK : P.K = X.K) : OpS P (rIx X.K) dIx := by
  intro E L H μ x y a b Q s ra rb q
  have seq : ∀ i : Int, b = .int i → (match asQ μ a with
    | some ds => Post P E L H (fun d L' H' => ∀ v, Rep P H' L' v d → Q v H') (match atI ds i with
      | some d => .ok d μ
      | none => .bad)
    | none => False) → rIx X.K x y H Q := fun i eb h => by
    subst eb
    cases rb
    cases e1 : asQ μ a with
    | none => rw [e1] at h; exact h.elim
    | some ds =>
      rw [e1] at h
      have h : Post P E L H (fun d L' H' => ∀ v, Rep P H' L' v d → Q v H') (match atI ds i with
        | some d => .ok d μ
        | none => .bad) := h
      cases e2 : atI ds i with
      | none => rw [e2] at h; exact h.elim
      | some d =>
        rw [e2] at h
        obtain ⟨p, vs, rfl, hq, rq⟩ := asQ_ok s ra e1
        rw [hK] at hq
        obtain ⟨v, hv, rv⟩ := atI_rep rq e2
        have fin := h L H .refl s v rv
        rcases hq with hq | hq
        · exact .inl ⟨p, vs, i, v, rfl, rfl, hq, hv, fin⟩
        · exact .inr (.inl ⟨p, vs, i, v, rfl, rfl, hq, hv, fin⟩)
  cases b with
  | int i =>
    have fall : dIx a (.int i) μ = (match asQ μ a with
      | some ds => (match atI ds i with
        | some d => .ok d μ
        | none => .bad)
      | none => .bad) → rIx X.K x y H Q := fun e => seq i rfl (by
        rw [e] at q
        cases e1 : asQ μ a with
        | none => rw [e1] at q; exact q
        | some xs => rw [e1] at q; exact q)
    cases a with
    | str z =>
      have q : Post P E L H (fun d L' H' => ∀ v, Rep P H' L' v d → Q v H') (if z.length ≤ sizeLine then (match atI z.cps.toList i with
        | some c => .ok (.str ⟨#[c]⟩) μ
        | none => .bad) else .bad) := q
      cases ra; cases rb
      by_cases c : z.length ≤ sizeLine
      · rw [if_pos c] at q
        cases e2 : atI z.cps.toList i with
        | none => rw [e2] at q; exact q.elim
        | some d => rw [e2] at q; exact .inr (.inr ⟨z, i, d, rfl, rfl, c, e2, q L H .refl s _ (.str _)⟩)
      · rw [if_neg c] at q; exact q.elim
    | _ => exact fall rfl
  | _ => cases a <;> exact q.elim
end
section
variable {P : Pm} {W : WX} {X : Cx} {pos p2 : Pos} {a b : Expr} {f1 f2 : SE} {r : R2} {g : D → D → Sto → R D}
theorem ve_ixG (hr : IxR X r) (hg : OpS P r g) (ha : VE P W X a f1) (hb : VE P W X b f2) (hs : PlainIx b := by intro _ _; rfl) : VE P W X (.Subscript a b pos) (eB g f1 f2) :=
  (pe_ix hr ha hb hs).imp3 fun _ _ _ h => tOp_of hg h
theorem ve_ix (hK : P.K = X.K) (ha : VE P W X a f1) (hb : VE P W X b f2) (hs : PlainIx b := by intro _ _; rfl) : VE P W X (.Subscript a b pos) (eB dIx f1 f2) := ve_ixG ix_seq (os_ix hK) ha hb hs
/-- a part of a slice -/
abbrev SO := Env → Sto → R (Option Int)
def tVO (P : Pm) (W : WX) (f : SO) : TO := fun σ H Q => ∃ L ρ μ, RelS P H L σ ρ ∧ St3 P H L μ ∧ Post P (WE W σ) L H (fun o _ H' => Q o H') (f ρ μ)
abbrev VO (P : Pm) (W : WX) (X : Cx) (e : Option Expr) (f : SO) : Prop := PO X e (tVO P W f)
theorem _root_.L2.PO.imp3 {X : Cx} {e : Option Expr} {t t' : TO} (h : PO X e t) (i : ∀ σ H Q, t' σ H Q → t σ H Q) : PO X e t' := ⟨fun pins s σ H Q I q => h.run pins s σ H Q I (i σ H Q q)⟩
def oNone : SO := fun _ μ => .ok none μ
def oSome (f : SE) : SO := fun ρ μ => (f ρ μ).bind fun d μ1 => match d with
  | .int i => .ok (some i) μ1
  | _ => .bad
theorem vo_none : VO P W X none oNone := po_none.imp3 fun σ H Q ⟨L, ρ, μ, rs, st, q⟩ => q L H .refl st
theorem vo_some {e : Expr} {f : SE} (h : VE P W X e f) : VO P W X (some e) (oSome f) := (po_some h).imp3 fun σ H Q ⟨L, ρ, μ, rs, st, q⟩ => by
  refine tV.first rs st q fun d μ1 v L1 H1 x1 s1 r1 rs1 q1 => ?_
  cases r1 with
  | int i => exact ⟨i, rfl, q1 L1 H1 .refl s1⟩
  | _ => exact q1.elim
def cutD (xs : List D) (lo hi : Option Int) : List D := (xs.drop (HT.sIx xs.length 0 lo)).take (HT.sIx xs.length xs.length hi - HT.sIx xs.length 0 lo)
theorem cut_rep {H : Hp} {L : Lv} {vs : List V} {ds : List D} (r : Reps P H L vs ds) (lo hi : Option Int) : Reps P H L (cutV vs lo hi) (cutD ds lo hi) := by
  unfold cutV cutD
  rw [r.length]
  exact (r.drop _).take _
def dSlice : D → Option Int → Option Int → Sto → R D := fun a lo hi μ => match a with
  | .str z => if z.length ≤ sizeLine then .ok (.str (cutS z lo hi)) μ else .bad
  | .tup ds => if HT.sIx ds.length 0 lo = 0 ∧ HT.sIx ds.length ds.length hi = ds.length then .ok (.tup ds) μ else .ok (.tup (cutD ds lo hi)) μ
  | d => match asS μ d with
    | some ds => .ok (.lst (cutD ds lo hi)) μ
    | none => .bad
def eSl (g : D → Option Int → Option Int → Sto → R D) (f : SE) (fl fh : SO) : SE := fun ρ μ => (f ρ μ).bind fun d μ1 => (fl ρ μ1).bind fun lo μ2 => (fh ρ μ2).bind fun hi μ3 => g d lo hi μ3
def SlS (P : Pm) (r : V → Option Int → Option Int → Hp → VK → Prop) (g : D → Option Int → Option Int → Sto → R D) : Prop := ∀ (E : XK) (L : Lv) (H : Hp) (μ : Sto) (x : V) (a : D) (lo hi : Option Int) (Q : VK), St3 P H L μ → Rep P H L x a →
  Post P E L H (fun d L' H' => ∀ v, Rep P H' L' v d → Q v H') (g a lo hi μ) → r x lo hi H Q
theorem ve_slG {rs : V → Option Int → Option Int → Hp → VK → Prop} {gs : D → Option Int → Option Int → Sto → R D} {lo hi : Option Expr} {fl fh : SO} (hr : SlR X rs) (hg : SlS P rs gs) (he : VE P W X a f1) (hl : VO P W X lo fl) (hu : VO P W X hi fh) : VE P W X (.Subscript a (.Slice lo hi none p2) pos) (eSl gs f1 fl fh) :=
  (pe_slice hr he hl hu).imp3 fun σ H Q ⟨L, ρ, μ, rs, st, q⟩ => by
    refine tV.first rs st q fun d μ1 v L1 H1 x1 s1 r1 rs1 q1 => ?_
    refine ⟨L1, ρ, μ1, rs1, s1, ?_⟩
    cases e : fl ρ μ1 with
    | exc c ns vs μ2 => rw [e] at q1; exact q1
    | bad => rw [e] at q1; exact q1
    | ok o μ2 =>
      rw [e] at q1
      intro L2 H2 x2 s2
      have q2 := Post.ext x2 q1
      refine ⟨L2, ρ, μ2, rs1.ext x2, s2, ?_⟩
      have q2 : Post P (WE W σ) L2 H2 _ ((fh ρ μ2).bind fun hi μ3 => gs d o hi μ3) := q2
      cases e' : fh ρ μ2 with
      | exc c ns vs μ3 => rw [e'] at q2; exact q2
      | bad => rw [e'] at q2; exact q2
      | ok o' μ3 =>
        rw [e'] at q2
        intro L3 H3 x3 s3
        exact hg _ L3 H3 μ3 v d o o' Q s3 ((r1.ext x2).ext x3) (Post.ext x3 q2)
def rSl3 (K : PySem.W.Frag) : V → Option Int → Option Int → Hp → VK → Prop := fun x lo hi H Q => rSlS x lo hi H Q ∨ (rSlT K x lo hi H Q ∨ rSlL K x lo hi H Q)
theorem sl3 : SlR X (rSl3 X.K) := sl_str.or (sl_tup.or sl_list)
theorem ss_sl (hK : P.K = X.K) : SlS P (rSl3 X.K) (fun a lo hi μ => match a with
  | .tup ds => if HT.sIx ds.length 0 lo = 0 ∧ HT.sIx ds.length ds.length hi = ds.length then .bad else .ok (.tup (cutD ds lo hi)) μ
  | d => dSlice d lo hi μ) := by
  intro E L H μ x a lo hi Q s ra q
  have seq : (match asS μ a with
    | some ds => Post P E L H (fun d L' H' => ∀ v, Rep P H' L' v d → Q v H') (.ok (.lst (cutD ds lo hi)) μ)
    | none => False) → rSl3 X.K x lo hi H Q := fun h => by
    cases e1 : asS μ a with
    | none => rw [e1] at h; exact h.elim
    | some ds =>
      rw [e1] at h
      obtain ⟨p, vs, rfl, hq, rq⟩ := asS_ok s ra e1
      rw [hK] at hq
      exact .inr (.inr ⟨p, vs, rfl, hq, fun l hl => h _ _ (Ext.grow s (upd_grow hl)) (s.grow (upd_grow hl)) _ (new_lst s hl (cut_rep rq lo hi))⟩)
  have fall : Post P E L H (fun d L' H' => ∀ v, Rep P H' L' v d → Q v H') (match asS μ a with
      | some ds => .ok (.lst (cutD ds lo hi)) μ
      | none => .bad) → rSl3 X.K x lo hi H Q := fun q => seq (by
        cases e1 : asS μ a with
        | none => rw [e1] at q; exact q
        | some xs => rw [e1] at q; exact q)
  cases a with
  | str z =>
    have q : Post P E L H (fun d L' H' => ∀ v, Rep P H' L' v d → Q v H') (if z.length ≤ sizeLine then .ok (.str (cutS z lo hi)) μ else .bad) := q
    cases ra
    by_cases c : z.length ≤ sizeLine
    · rw [if_pos c] at q; exact .inl ⟨z, rfl, c, q L H .refl s _ (.str _)⟩
    · rw [if_neg c] at q; exact q.elim
  | tup ds =>
    have q : Post P E L H (fun d L' H' => ∀ v, Rep P H' L' v d → Q v H') (if HT.sIx ds.length 0 lo = 0 ∧ HT.sIx ds.length ds.length hi = ds.length then .bad else .ok (.tup (cutD ds lo hi)) μ) := q
    obtain ⟨p, vs, rfl, hq, rq⟩ := tup_ok ra
    rw [hK] at hq
    by_cases c : HT.sIx ds.length 0 lo = 0 ∧ HT.sIx ds.length ds.length hi = ds.length
    · rw [if_pos c] at q; exact q.elim
    · rw [if_neg c] at q
      exact .inr (.inl ⟨p, vs, rfl, hq, by rw [rq.length]; exact c, fun l hl => q _ _ (Ext.grow s (upd_grow hl)) (s.grow (upd_grow hl)) _ (new_tup s hl (cut_rep rq lo hi))⟩)
  | _ => exact fall q
end
end L3

namespace L3
open PySem PySem.Spec PyProof.Rows L2
/-! ### == -/
mutual
def toPy0 : D → Option PyData
  | .non => some .none
  | .bl b => some (.bool b)
  | .int i => some (.int i)
  | .str s => some (.str s)
  | .lst xs => (toPyL xs).map .list
  | .tup xs => (toPyL xs).map .tuple
  | .dct _ _ => none
  | .obj _ _ _ => none
  | .cell _ => none
  | .scr _ => none
def toPyL : List D → Option (List PyData)
  | [] => some []
  | d :: r => match toPy0 d, toPyL r with
    | some x, some y => some (x :: y)
    | _, _ => none
end
def toPy (μ : Sto) : D → Option PyData
  | .cell k => (match μ[k]? with
    | some (.lst ds) => (toPyL ds).map .list
    | _ => none)
  | d => toPy0 d
section
variable {P : Pm} {X : Cx} {H : Hp} {L : Lv} {μ : Sto}
mutual
theorem toPy0_ok (hK : P.K = X.K) : ∀ {v : V} {d : D} {x : PyData}, Rep P H L v d → toPy0 d = some x → Dp X.K H v x
  | _, .non, _, .non, e => by cases e; exact .non
  | _, .bl b, _, .bl _, e => by cases e; exact .bl b
  | _, .int b, _, .int _, e => by cases e; exact .int b
  | _, .str b, _, .str _, e => by cases e; exact .str b
  | _, .lst ds, x, .lst h n r, e => by
    have e : (toPyL ds).map PyData.list = some x := by simpa [toPy0] using e
    cases e1 : toPyL ds with
    | none => rw [e1] at e; cases e
    | some ys => rw [e1] at e; cases e; exact .lst (.of h) (toPyL_ok hK r e1)
  | _, .tup ds, x, .tup h r, e => by
    have e : (toPyL ds).map PyData.tuple = some x := by simpa [toPy0] using e
    cases e1 : toPyL ds with
    | none => rw [e1] at e; cases e
    | some ys => rw [e1] at e; cases e; exact .tup (hK ▸ h.sq) (toPyL_ok hK r e1)
theorem toPyL_ok (hK : P.K = X.K) : ∀ {vs : List V} {ds : List D} {ys : List PyData}, Reps P H L vs ds → toPyL ds = some ys → DpAll X.K H vs ys
  | _, [], _, .nil, e => by cases e; exact .nil
  | _, d :: ds, ys, .cons h r, e => by
    unfold toPyL at e
    cases e1 : toPy0 d with
    | none => rw [e1] at e; simp at e
    | some x =>
      cases e2 : toPyL ds with
      | none => rw [e1, e2] at e; simp at e
      | some zs =>
        rw [e1, e2] at e
        cases e
        exact .cons (toPy0_ok hK h e1) (toPyL_ok hK r e2)
end
theorem toPy_ok (hK : P.K = X.K) (s : St3 P H L μ) {v : V} {d : D} {x : PyData} (r : Rep P H L v d) (e : toPy μ d = some x) : Dp X.K H v x := by
  cases d with
  | cell k =>
    have e : (match μ[k]? with
      | some (.lst ds) => (toPyL ds).map PyData.list
      | _ => none) = some x := e
    cases em : μ[k]? with
    | none => rw [em] at e; cases e
    | some m =>
      rw [em] at e
      cases m with
      | lst ds =>
        obtain ⟨a, vs, rfl, h, rr⟩ := asL_ok s r (show asL μ (.cell k) = some ds by simp only [asL, em])
        have e : (toPyL ds).map PyData.list = some x := e
        cases e1 : toPyL ds with
        | none => rw [e1] at e; cases e
        | some ys => rw [e1] at e; cases e; exact .lst (.of h) (toPyL_ok hK rr e1)
      | dct _ _ => cases e
      | ins _ _ _ => cases e
  | _ => exact toPy0_ok hK r e
def dEq : D → D → Sto → R D := fun a b μ => match toPy μ a, toPy μ b with
  | some x, some y => if SeqAt.shaped x = true ∧ SeqAt.shaped y = true then .ok (.bl (PyData.eqv x y)) μ else .bad
  | _, _ => .bad
def dNe : D → D → Sto → R D := fun a b μ => match toPy μ a, toPy μ b with
  | some x, some y => if SeqAt.shaped x = true ∧ SeqAt.shaped y = true then .ok (.bl (!PyData.eqv x y)) μ else .bad
  | _, _ => .bad
theorem os_eqG (hK : P.K = X.K) (k : Bool → Bool) : OpS P (fun x y H Q => ∃ d e, Dp X.K H x d ∧ Dp X.K H y e ∧ SeqAt.shaped d = true ∧ SeqAt.shaped e = true ∧ Q (.bl (k (PyData.eqv d e))) H) (fun a b μ => match toPy μ a, toPy μ b with
  | some x, some y => if SeqAt.shaped x = true ∧ SeqAt.shaped y = true then .ok (.bl (k (PyData.eqv x y))) μ else .bad
  | _, _ => .bad) := by
  intro E L H μ x y a b Q s ra rb q
  cases e1 : toPy μ a with
  | none => simp only [e1] at q; exact q.elim
  | some d =>
    cases e2 : toPy μ b with
    | none => simp only [e1, e2] at q; exact q.elim
    | some e =>
      simp only [e1, e2] at q
      by_cases c : SeqAt.shaped d = true ∧ SeqAt.shaped e = true
      · rw [if_pos c] at q
        exact ⟨d, e, toPy_ok hK s ra e1, toPy_ok hK s rb e2, c.1, c.2, q L H .refl s _ (.bl _)⟩
      · rw [if_neg c] at q; exact q.elim
theorem os_eq (hK : P.K = X.K) : OpS P (rEqD X.K) dEq := os_eqG hK fun b => b
theorem os_ne (hK : P.K = X.K) : OpS P (rNeD X.K) dNe := os_eqG hK fun b => !b
def dIsN : D → Sto → R D
  | .non, μ => .ok (.bl true) μ
  | _, μ => .ok (.bl false) μ
def dNotN : D → Sto → R D
  | .non, μ => .ok (.bl false) μ
  | _, μ => .ok (.bl true) μ
theorem isN_ok {v : V} {d : D} (r : Rep P H L v d) : dIsN d μ = .ok (.bl (decide (v = .non))) μ := by
  cases r <;> first | rfl | (simp [dIsN])
theorem notN_ok {v : V} {d : D} (r : Rep P H L v d) : dNotN d μ = .ok (.bl (!decide (v = .non))) μ := by
  cases r <;> first | rfl | (simp [dNotN])
end
section
variable {P : Pm} {W : WX} {X : Cx} {pos p2 : Pos} {a b : Expr} {f1 f2 : SE} {j : Nat}
theorem tIs_of {f : SE} {σ : Slots} {H : Hp} {Q : VK} (h : tV P W (eU dIsN f) σ H Q) : tIsN (tV P W f) σ H Q := by
  obtain ⟨L, ρ, μ, rs, st, q⟩ := h
  refine tV.first rs st q fun d μ1 v L1 H1 x1 s1 r1 rs1 q1 => ?_
  rw [isN_ok r1] at q1
  exact q1 L1 H1 .refl s1 _ (.bl _)
theorem tNot_of {f : SE} {σ : Slots} {H : Hp} {Q : VK} (h : tV P W (eU dNotN f) σ H Q) : tNotN (tV P W f) σ H Q := by
  obtain ⟨L, ρ, μ, rs, st, q⟩ := h
  refine tV.first rs st q fun d μ1 v L1 H1 x1 s1 r1 rs1 q1 => ?_
  rw [notN_ok r1] at q1
  exact q1 L1 H1 .refl s1 _ (.bl _)
theorem ve_isN (h : VE P W X a f1) : VE P W X (.Compare a [.Is] [.Constant .none j p2] pos) (eU dIsN f1) := (pe_cmp (pc_isN h) rfl).imp3 fun _ _ _ q => tIs_of q
theorem vt_isN (h : VE P W X a f1) : VT P W X (.Compare a [.Is] [.Constant .none j p2] pos) (eT (eU dIsN f1)) := (pt_cmp (pc_isN h) rfl).imp3 fun _ _ _ q => by
  have z := tT_of q
  exact tIs_of z
theorem vt_notN (h : VE P W X a f1) : VT P W X (.Compare a [.IsNot] [.Constant .none j p2] pos) (eT (eU dNotN f1)) := (pt_cmp (pc_notN h) rfl).imp3 fun _ _ _ q => by
  have z := tT_of q
  exact tNot_of z
end
/-! ### isinstance, of built-in classes -/
inductive Ty where
  | non | bool | int | str | list | tuple | dict
  deriving DecidableEq
def Ty.nm : Ty → String
  | .non => "NoneType"
  | .bool => "bool"
  | .int => "int"
  | .str => "str"
  | .list => "list"
  | .tuple => "tuple"
  | .dict => "dict"
def Ty.sub (a b : Ty) : Bool := a == b || (a == .bool && b == .int)
theorem Ty.kit (a b : Ty) : kitB a.nm b.nm = some (a.sub b) := by cases a <;> cases b <;> decide +kernel
def tyD (μ : Sto) : D → Option Ty
  | .non => some .non
  | .bl _ => some .bool
  | .int _ => some .int
  | .str _ => some .str
  | .lst _ => some .list
  | .tup _ => some .tuple
  | .dct _ _ => none
  | .scr _ => some .list
  | .cell k => (match μ[k]? with
    | some (.lst _) => some .list
    | some (.dct _ _) => some .dict
    | _ => none)
  | .obj _ _ _ => none
theorem tyD_ok {P : Pm} {X : Cx} {H : Hp} {L : Lv} {μ : Sto} (hK : P.K = X.K) (s : St3 P H L μ) {v : V} {d : D} {t : Ty} (r : Rep P H L v d) (e : tyD μ d = some t) : TyX X.K H v (.type t.nm) := by
  cases r with
  | non => cases e; exact .base .non
  | bl b => cases e; exact .base (.bl b)
  | int b => cases e; exact .base (.int b)
  | str b => cases e; exact .base (.str b)
  | lst h n r => cases e; exact .base (.lst h)
  | tup h r =>
    cases e
    rcases h with ⟨h | ⟨o, h⟩, n⟩ | ⟨o, its, n, h1, h2, _⟩
    · exact .base (.tup h)
    · exact .fTuple h
    · rw [hK] at h1; exact .kTuple h1 h2
  | dct h n l r => cases e
  | obj h hc n l r => cases e
  | scr h =>
    cases e
    rcases h with ⟨h | ⟨o, h⟩, n⟩ | ⟨o, its, n, h1, h2, _⟩
    · exact .base (.lst h)
    · exact .base (.frz h)
    · rw [hK] at h1; exact .kList h1 h2
  | @cell a k h =>
    have e : (match μ[k]? with
      | some (.lst _) => some Ty.list
      | some (.dct _ _) => some .dict
      | _ => none) = some t := e
    cases em : μ[k]? with
    | none => rw [em] at e; cases e
    | some m =>
      rw [em] at e
      have q := s.at_ k a m h em
      cases q with
      | lst h' r' => cases e; exact .base (.lst h')
      | dct h' l r' => cases e; exact .base (.dK h')
      | ins h' hc l r' => cases e
def dIsi (ts : List Ty) : D → Sto → R D := fun d μ => match tyD μ d with
  | some t => .ok (.bl (ts.any fun u => t.sub u)) μ
  | none => .bad
theorem kitAny_ty {K : PySem.W.Frag} (t : Ty) : ∀ ts : List Ty, PySem.W.kitAny K (.type t.nm) (ts.map fun u => .type u.nm) = some (ts.any fun u => t.sub u)
  | [] => rfl
  | u :: r => by
    rw [List.map_cons, List.any_cons]
    refine kitAny_cons (kit_ty (Ty.kit t u)) (fun h => ?_) fun h => ?_
    · rw [h, kitAny_ty t r]; rfl
    · rw [h]; rfl
section
variable {P : Pm} {W : WX} {X : Cx} {pos p p2 p3 : Pos} {a : Expr} {f1 : SE} {k : Nat}
theorem ve_isi {T : Str} (t : Ty) (hK : P.K = X.K) (hg : Gl X "isinstance") (hm : X.mg "isinstance" = none) (ha : VE P W X a f1) (hT : PE X (.Name T p2) (tC (.ty t.nm)))
    (hs2 : starEach [a, .Name T p2] X.env = (false, eval a X.env) :: starEach [.Name T p2] X.env := by rfl) (hs1 : starEach [.Name T p2] X.env = (false, eval (.Name T p2) X.env) :: starEach [] X.env := by rfl)
    (hpl : (backTo pos (starEach [.Name T p2] X.env)).any (·.1) = false := by rfl) : VE P W X (.Call (.Name "isinstance" p) [a, .Name T p2] [] pos) (eU (dIsi [t]) f1) :=
  (pe_callB call_isi hg hm PyProof.Rows.boot_isinstance (pa_cons ha (pa_cons hT pa_nil hs1) hs2) (by decide) (by decide) hs2 hpl).imp3 fun σ H Q ⟨L, ρ, μ, rs, st, q⟩ => by
    refine tV.first rs st q fun d μ1 v L1 H1 x1 s1 r1 rs1 q1 => ?_
    have q1 : Post P (WE W σ) L1 H1 (fun d L' H' => ∀ v, Rep P H' L' v d → Q v H') (match tyD μ1 d with
      | some t' => .ok (.bl ([t].any fun u => t'.sub u)) μ1
      | none => .bad) := q1
    cases e : tyD μ1 d with
    | none => rw [e] at q1; exact q1.elim
    | some t' =>
      rw [e] at q1
      have e2 : ([t].any fun u => t'.sub u) = t'.sub t := by simp
      have q1 : Post P (WE W σ) L1 H1 (fun d L' H' => ∀ v, Rep P H' L' v d → Q v H') (.ok (.bl ([t].any fun u => t'.sub u)) μ1) := q1
      rw [e2] at q1
      exact ⟨v, .ty t.nm, .type t'.nm, .type t.nm, _, rfl, .ty _, tyD_ok hK s1 r1 e, kit_ty (Ty.kit t' t), q1 L1 H1 .refl s1 _ (.bl _)⟩
theorem ve_isi2 {T1 T2 : Str} {p4 : Pos} (t1 t2 : Ty) (hK : P.K = X.K) (hg : Gl X "isinstance") (hm : X.mg "isinstance" = none) (ha : VE P W X a f1) (hT1 : PE X (.Name T1 p2) (tC (.ty t1.nm))) (hT2 : PE X (.Name T2 p3) (tC (.ty t2.nm)))
    (hs2 : starEach [a, .Tuple [.Name T1 p2, .Name T2 p3] k p4] X.env = (false, eval a X.env) :: starEach [.Tuple [.Name T1 p2, .Name T2 p3] k p4] X.env := by rfl)
    (hs1 : starEach [.Tuple [.Name T1 p2, .Name T2 p3] k p4] X.env = (false, eval (.Tuple [.Name T1 p2, .Name T2 p3] k p4) X.env) :: starEach [] X.env := by rfl)
    (ht2 : starEach [.Name T1 p2, .Name T2 p3] X.env = (false, eval (.Name T1 p2) X.env) :: starEach [.Name T2 p3] X.env := by rfl) (ht1 : starEach [.Name T2 p3] X.env = (false, eval (.Name T2 p3) X.env) :: starEach [] X.env := by rfl)
    (hpl : (backTo pos (starEach [.Tuple [.Name T1 p2, .Name T2 p3] k p4] X.env)).any (·.1) = false := by rfl) :
    VE P W X (.Call (.Name "isinstance" p) [a, .Tuple [.Name T1 p2, .Name T2 p3] k p4] [] pos) (eU (dIsi [t1, t2]) f1) :=
  (pe_callB call_isiT hg hm PyProof.Rows.boot_isinstance (pa_cons ha (pa_cons (pe_tup (pa_cons hT1 (pa_cons hT2 pa_nil ht1) ht2)) pa_nil hs1) hs2) (by decide) (by decide) hs2 hpl).imp3 fun σ H Q ⟨L, ρ, μ, rs, st, q⟩ => by
    refine tV.first rs st q fun d μ1 v L1 H1 x1 s1 r1 rs1 q1 => ?_
    have q1 : Post P (WE W σ) L1 H1 (fun d L' H' => ∀ v, Rep P H' L' v d → Q v H') (match tyD μ1 d with
      | some t' => .ok (.bl ([t1, t2].any fun u => t'.sub u)) μ1
      | none => .bad) := q1
    cases e : tyD μ1 d with
    | none => rw [e] at q1; exact q1.elim
    | some t' =>
      rw [e] at q1
      refine ⟨by rw [sizeLine_eq]; simp, fun tp hp => ?_⟩
      have gr := upd_grow (o := .tup [V.ty t1.nm, V.ty t2.nm]) hp
      refine ⟨v, tp, [.ty t1.nm, .ty t2.nm], .type t'.nm, [.type t1.nm, .type t2.nm], _, rfl, upd_same, .cons (.ty _) (.cons (.ty _) .nil), tyD_ok hK (s1.grow gr) (r1.ext (Ext.grow s1 gr)) e, kitAny_ty t' [t1, t2], ?_⟩
      exact q1 _ _ (Ext.grow s1 gr) (s1.grow gr) _ (.bl _)
end
end L3

namespace L3
open PySem PySem.Spec PyProof.Rows L2
/-! ### statements -/
inductive RS where
  | nx (ρ : Env) (μ : Sto)
  | rt (d : D) (μ : Sto)
  | bk (ρ : Env) (μ : Sto)
  | ct (ρ : Env) (μ : Sto)
  | exc (c : Str) (ns : List Str) (vs : List D) (ρ : Env) (μ : Sto)
  | bad
abbrev SS := Env → Sto → RS
/-- a value comes, then the rest -/
def R.thn {α : Type} (r : R α) (ρ : Env) (k : α → Sto → RS) : RS := match r with
  | .ok a μ => k a μ
  | .exc c ns vs μ => .exc c ns vs ρ μ
  | .bad => .bad
@[simp] theorem R.thn_ok {α : Type} {a : α} {μ : Sto} {ρ : Env} {k : α → Sto → RS} : (R.ok a μ).thn ρ k = k a μ := rfl
@[simp] theorem R.thn_exc {α : Type} {c : Str} {ns vs} {μ : Sto} {ρ : Env} {k : α → Sto → RS} : (R.exc (α := α) c ns vs μ).thn ρ k = .exc c ns vs ρ μ := rfl
@[simp] theorem R.thn_bad {α : Type} {ρ : Env} {k : α → Sto → RS} : (R.bad (α := α)).thn ρ k = .bad := rfl
def PostS (P : Pm) (W : WX) (D : Ends) (L : Lv) (H : Hp) : RS → Prop
  | .nx ρ μ => ∀ σ' L' H', Ext P L H L' H' → St3 P H' L' μ → RelS P H' L' σ' ρ → D.nx σ' H'
  | .rt d μ => ∀ v L' H', Ext P L H L' H' → St3 P H' L' μ → Rep P H' L' v d → D.rt v H'
  | .bk ρ μ => ∀ σ' L' H', Ext P L H L' H' → St3 P H' L' μ → RelS P H' L' σ' ρ → D.bk σ' H'
  | .ct ρ μ => ∀ σ' L' H', Ext P L H L' H' → St3 P H' L' μ → RelS P H' L' σ' ρ → D.ct σ' H'
  | .exc c ns vs ρ μ => ∀ σ' C dx L' H', P.cls c = some C → Ext P L H L' H' → St3 P H' L' μ → RelS P H' L' σ' ρ → XF P L' H' dx ns vs → W (.ref C) (some dx) σ' H'
  | .bad => False
def tS (P : Pm) (W : WX) (f : SS) : TS := fun D σ H => ∃ L ρ μ, RelS P H L σ ρ ∧ St3 P H L μ ∧ PostS P W D L H (f ρ μ)
abbrev VS (P : Pm) (W : WX) (X : Cx) (st : Stmt) (f : SS) : Prop := PS X st (tS P W f)
abbrev VSs (P : Pm) (W : WX) (X : Cx) (st : List Stmt) (f : SS) : Prop := PSs X st (tS P W f)
section
variable {P : Pm} {W : WX} {D : Ends} {H H1 : Hp} {L L1 : Lv} {r : RS} {σ : Slots} {ρ : Env} {μ : Sto}
theorem PostS.ext (x : Ext P L H L1 H1) (h : PostS P W D L H r) : PostS P W D L1 H1 r := by
  cases r with
  | nx ρ μ => exact fun σ' L' H' y => h σ' L' H' (x.trans y)
  | rt d μ => exact fun v L' H' y => h v L' H' (x.trans y)
  | bk ρ μ => exact fun σ' L' H' y => h σ' L' H' (x.trans y)
  | ct ρ μ => exact fun σ' L' H' y => h σ' L' H' (x.trans y)
  | exc c ns vs ρ μ => exact fun σ' C dx L' H' hc y => h σ' C dx L' H' hc (x.trans y)
  | bad => exact h
/-- an expression ahead of the rest of a statement -/
theorem tV.firstS {f : SE} {k : L3.D → Sto → RS} {Q : V → Hp → Prop} (rs : RelS P H L σ ρ) (st : St3 P H L μ) (h : PostS P W D L H ((f ρ μ).thn ρ k))
    (go : ∀ d μ1 v L1 H1, Ext P L H L1 H1 → St3 P H1 L1 μ1 → Rep P H1 L1 v d → RelS P H1 L1 σ ρ → PostS P W D L1 H1 (k d μ1) → Q v H1) : tV P W f σ H Q := by
  refine ⟨L, ρ, μ, rs, st, ?_⟩
  cases e : f ρ μ with
  | ok d μ1 => rw [e] at h; exact fun L1 H1 x s v r => go d μ1 v L1 H1 x s r (rs.ext x) (PostS.ext x h)
  | exc c ns vs μ1 => rw [e] at h; exact fun C dx L' H' hc x s f => h σ C dx L' H' hc x s (rs.ext x) f
  | bad => rw [e] at h; exact h
theorem tVT.firstS {f : ST} {k : Bool → Sto → RS} {Q : Bool → Hp → Prop} (rs : RelS P H L σ ρ) (st : St3 P H L μ) (h : PostS P W D L H ((f ρ μ).thn ρ k))
    (go : ∀ b μ1 L1 H1, Ext P L H L1 H1 → St3 P H1 L1 μ1 → RelS P H1 L1 σ ρ → PostS P W D L1 H1 (k b μ1) → Q b H1) : tVT P W f σ H Q := by
  refine ⟨L, ρ, μ, rs, st, ?_⟩
  cases e : f ρ μ with
  | ok d μ1 => rw [e] at h; exact fun L1 H1 x s => go d μ1 L1 H1 x s (rs.ext x) (PostS.ext x h)
  | exc c ns vs μ1 => rw [e] at h; exact fun C dx L' H' hc x s f => h σ C dx L' H' hc x s (rs.ext x) f
  | bad => rw [e] at h; exact h
theorem tVA.firstS {f : SA} {k : List L3.D → Sto → RS} {Q : List V → Hp → Prop} (rs : RelS P H L σ ρ) (st : St3 P H L μ) (h : PostS P W D L H ((f ρ μ).thn ρ k))
    (go : ∀ ds μ1 vs L1 H1, Ext P L H L1 H1 → St3 P H1 L1 μ1 → Reps P H1 L1 vs ds → RelS P H1 L1 σ ρ → PostS P W D L1 H1 (k ds μ1) → Q vs H1) : tVA P W f σ H Q := by
  refine ⟨L, ρ, μ, rs, st, ?_⟩
  cases e : f ρ μ with
  | ok d μ1 => rw [e] at h; exact fun L1 H1 x s v r => go d μ1 v L1 H1 x s r (rs.ext x) (PostS.ext x h)
  | exc c ns vs μ1 => rw [e] at h; exact fun C dx L' H' hc x s f => h σ C dx L' H' hc x s (rs.ext x) f
  | bad => rw [e] at h; exact h
end
def sNil : SS := fun ρ μ => .nx ρ μ
def sSeq (f g : SS) : SS := fun ρ μ => match f ρ μ with
  | .nx ρ1 μ1 => g ρ1 μ1
  | .rt d μ1 => .rt d μ1
  | .bk ρ1 μ1 => .bk ρ1 μ1
  | .ct ρ1 μ1 => .ct ρ1 μ1
  | .exc c ns vs ρ1 μ1 => .exc c ns vs ρ1 μ1
  | .bad => .bad
def sBreak : SS := fun ρ μ => .bk ρ μ
def sCont : SS := fun ρ μ => .ct ρ μ
def sExpr (f : SE) : SS := fun ρ μ => (f ρ μ).thn ρ fun _ μ1 => .nx ρ μ1
def sRet (f : SE) : SS := fun ρ μ => (f ρ μ).thn ρ fun d μ1 => .rt d μ1
def sRetN : SS := fun _ μ => .rt .non μ
def sIf (t : ST) (f g : SS) : SS := fun ρ μ => (t ρ μ).thn ρ fun c μ1 => if c = true then f ρ μ1 else g ρ μ1
def sSet (i : Nat) (f : SE) : SS := fun ρ μ => (f ρ μ).thn ρ fun d μ1 => .nx (ρ.set i (some d)) μ1
section
variable {P : Pm} {W : WX} {X : Cx} {pos : Pos} {st : Stmt} {rest : List Stmt} {f g : SS} {fe : SE} {e : Expr}
theorem vss_nil : VSs P W X [] sNil := pss_nil.imp3 fun D σ H ⟨L, ρ, μ, rs, s, q⟩ => q σ L H .refl s rs
theorem vss_cons (h1 : VS P W X st f) (h2 : VSs P W X rest g) : VSs P W X (st :: rest) (sSeq f g) :=
  (pss_cons h1 h2).imp3 fun D σ H ⟨L, ρ, μ, rs, s, q⟩ => by
    refine ⟨L, ρ, μ, rs, s, ?_⟩
    unfold sSeq at q
    cases e : f ρ μ with
    | nx ρ1 μ1 => rw [e] at q; exact fun σ' L' H' x s' rs' => ⟨L', ρ1, μ1, rs', s', PostS.ext x q⟩
    | rt d μ1 => rw [e] at q; exact q
    | bk ρ1 μ1 => rw [e] at q; exact q
    | ct ρ1 μ1 => rw [e] at q; exact q
    | exc c ns vs ρ1 μ1 => rw [e] at q; exact q
    | bad => rw [e] at q; exact q
theorem vss_one (h1 : VS P W X st f) : VSs P W X [st] f := pss_one h1
theorem vs_expr (he : VE P W X e fe) (hs : swapsWith e none pos.line X.env = pure false := by rfl) : VS P W X (.Expr e pos) (sExpr fe) :=
  (ps_expr he hs).imp3 fun D σ H ⟨L, ρ, μ, rs, s, q⟩ => tV.firstS rs s q fun d μ1 v L1 H1 x1 s1 r1 rs1 q1 => q1 σ L1 H1 .refl s1 rs1
theorem vs_ret (he : VE P W X e fe) : VS P W X (.Return (some e) pos) (sRet fe) :=
  (ps_ret he).imp3 fun D σ H ⟨L, ρ, μ, rs, s, q⟩ => tV.firstS rs s q fun d μ1 v L1 H1 x1 s1 r1 rs1 q1 => q1 v L1 H1 .refl s1 r1
theorem vs_if {t : ST} {c : Expr} {a b : List Stmt} (hc : VT P W X c t) (ha : VSs P W X a f) (hb : VSs P W X b g) : VS P W X (.If c a b pos) (sIf t f g) :=
  (ps_if hc ha hb).imp3 fun D σ H ⟨L, ρ, μ, rs, s, q⟩ => by
    refine tVT.firstS rs s q fun c μ1 L1 H1 x1 s1 rs1 q1 => ?_
    cases c with
    | true => exact ⟨L1, ρ, μ1, rs1, s1, q1⟩
    | false => exact ⟨L1, ρ, μ1, rs1, s1, q1⟩
theorem vs_set {i : Nat} {x : Str} {pos' : Pos} (hN : X.N.Nodup) (hi : X.N[i]? = some x) (hx : Loc X.env.scope x) (he : VE P W X e fe) (hs : swapsWith e (some (.Name x pos')) pos.line X.env = pure false := by rfl) (hf : X.fn x = true ∨ X.env.scope.names.lookup x = some .local := by first | exact .inl rfl | exact .inr rfl | assumption) :
    VS P W X (.Assign [.Name x pos'] e pos) (sSet i fe) :=
  (ps_set hN hi hx he hs hf).imp3 fun D σ H ⟨L, ρ, μ, rs, s, q⟩ => tV.firstS rs s q fun d μ1 v L1 H1 x1 s1 r1 rs1 q1 => q1 _ L1 H1 .refl s1 (rs1.set r1)
end
/-! ### targets -/
abbrev SG := D → Env → Sto → Option Env
abbrev SGs := List D → Env → Sto → Option Env
def tVG (P : Pm) (sl : List Nat) (g : SG) : TG := fun v σ H Q => ∃ L ρ μ d ρ', RelS P H L σ ρ ∧ St3 P H L μ ∧ Rep P H L v d ∧ g d ρ μ = some ρ' ∧
  ∀ σ', RelS P H L σ' ρ' → (∀ vs : List Nat, (∀ i ∈ sl, i ∈ vs) → wipe σ' vs = wipe σ vs) → Q σ' H
def tVGs (P : Pm) (sl : List Nat) (g : SGs) : TGs := fun v σ H Q => ∃ L ρ μ d ρ', RelS P H L σ ρ ∧ St3 P H L μ ∧ Reps P H L v d ∧ g d ρ μ = some ρ' ∧
  ∀ σ', RelS P H L σ' ρ' → (∀ vs : List Nat, (∀ i ∈ sl, i ∈ vs) → wipe σ' vs = wipe σ vs) → Q σ' H
theorem _root_.L2.PG.imp3 {X : Cx} {e : Expr} {t t' : TG} (h : PG X e t) (i : ∀ v σ H Q, t' v σ H Q → t v σ H Q) : PG X e t' := ⟨fun pins s σ H v u Q I r q => h.run pins s σ H v u Q I r (i v σ H Q q)⟩
theorem _root_.L2.PGs.imp3 {X : Cx} {e : List Expr} {t t' : TGs} (h : PGs X e t) (i : ∀ v σ H Q, t' v σ H Q → t v σ H Q) : PGs X e t' := ⟨fun pins s σ H v u Q I r q => h.run pins s σ H v u Q I r (i v σ H Q q)⟩
theorem _root_.L2.PG.or3 {X : Cx} {e : Expr} {t t' : TG} (h : PG X e t) (h' : PG X e t') : PG X e (fun v σ H Q => t v σ H Q ∨ t' v σ H Q) := ⟨fun pins s σ H v u Q I r q => by
  rcases q with q | q
  · exact h.run pins s σ H v u Q I r q
  · exact h'.run pins s σ H v u Q I r q⟩
abbrev VG (P : Pm) (X : Cx) (e : Expr) (sl : List Nat) (g : SG) : Prop := PG X e (tVG P sl g)
abbrev VGs (P : Pm) (X : Cx) (e : List Expr) (sl : List Nat) (g : SGs) : Prop := PGs X e (tVGs P sl g)
def gSet (i : Nat) : SG := fun d ρ _ => some (ρ.set i (some d))
def gsNil : SGs := fun ds ρ _ => match ds with
  | [] => some ρ
  | _ => none
def gsCons (g : SG) (gs : SGs) : SGs := fun ds ρ μ => match ds with
  | d :: r => (match g d ρ μ with
    | some ρ1 => gs r ρ1 μ
    | none => none)
  | [] => none
def gTuple (n : Nat) (gs : SGs) : SG := fun d ρ μ => match asQ μ d with
  | some ds => if ds.length = n then gs ds ρ μ else none
  | none => none
theorem wipe_set {σ : L2.St} {i : Nat} {o : Option V} : ∀ {vs : List Nat}, i ∈ vs → wipe (σ.set i o) vs = wipe σ vs
  | [], h => by cases h
  | v :: vs, h => by
    unfold wipe
    by_cases e : i ∈ vs
    · rw [wipe_set e]
    · have ei : i = v := by
        rcases List.mem_cons.mp h with z | z
        · exact z
        · exact absurd z e
      subst ei
      have : ∀ vs : List Nat, (wipe (σ.set i o) vs).set i none = (wipe σ vs).set i none := by
        intro vs
        induction vs with
        | nil => show (σ.set i o).set i none = σ.set i none; rw [List.set_set]
        | cons w ws ih =>
          show ((wipe (σ.set i o) ws).set w none).set i none = ((wipe σ ws).set w none).set i none
          by_cases ew : w = i
          · subst ew; rw [List.set_set, List.set_set]; exact ih
          · rw [List.set_comm _ _ ew, List.set_comm _ _ ew, ih]
      exact this vs
section
variable {P : Pm} {X : Cx} {pos : Pos} {e : Expr} {es : List Expr} {sl sl' : List Nat} {g : SG} {gs : SGs}
theorem vg_name {i : Nat} {x : Str} (hN : X.N.Nodup) (hi : X.N[i]? = some x) (hx : Loc X.env.scope x) (hf : X.fn x = true ∨ X.env.scope.names.lookup x = some .local := by first | exact .inl rfl | exact .inr rfl | assumption) : VG P X (.Name x pos) [i] (gSet i) :=
  (pg_name hN hi hx hf).imp3 fun v σ H Q ⟨L, ρ, μ, d, ρ', rs, s, r, eg, q⟩ => by
    cases eg
    exact q _ (rs.set r) fun vs h => wipe_set (h i (List.mem_singleton.mpr rfl))
theorem vgs_nil : VGs P X [] [] gsNil := pgs_nil.imp3 fun v σ H Q ⟨L, ρ, μ, d, ρ', rs, s, r, eg, q⟩ => by
  cases r with
  | nil => cases eg; exact ⟨rfl, q σ rs fun _ _ => rfl⟩
  | cons _ _ => cases eg
theorem vgs_cons (h1 : VG P X e sl g) (h2 : VGs P X es sl' gs) (hs : (assignEach (e :: es) X.env).map (·.2) = assign e X.env :: (assignEach es X.env).map (·.2) := by rfl) : VGs P X (e :: es) (sl ++ sl') (gsCons g gs) :=
  (pgs_cons h1 h2 hs).imp3 fun v σ H Q ⟨L, ρ, μ, d, ρ', rs, s, r, eg, q⟩ => by
    cases r with
    | nil => cases eg
    | @cons v0 d0 vr dr r0 rr =>
      have eg : (match g d0 ρ μ with
        | some ρ1 => gs dr ρ1 μ
        | none => none) = some ρ' := eg
      cases e1 : g d0 ρ μ with
      | none => rw [e1] at eg; cases eg
      | some ρ1 =>
        rw [e1] at eg
        refine ⟨v0, vr, rfl, L, ρ, μ, d0, ρ1, rs, s, r0, e1, fun σ1 rs1 w1 => ?_⟩
        exact ⟨L, ρ1, μ, dr, ρ', rs1, s, rr, eg, fun σ2 rs2 w2 => q σ2 rs2 fun vs h => (w2 vs fun i hi => h i (List.mem_append_right _ hi)).trans (w1 vs fun i hi => h i (List.mem_append_left _ hi))⟩
theorem vg_tup {k n : Nat} (hK : P.K = X.K) (hc : X.calm = true) (h : VGs P X es sl gs)
    (hn : (assignEach es X.env).length = n := by rfl) (hst : (assignEach es X.env).findIdx? (·.1) = none := by rfl) : VG P X (.Tuple es k pos) sl (gTuple n gs) :=
  ((pg_tup hc h hn hst).or3 (pg_lst hc h hn hst)).imp3 fun v σ H Q ⟨L, ρ, μ, d, ρ', rs, s, r, eg, q⟩ => by
    unfold gTuple at eg
    cases e1 : asQ μ d with
    | none => rw [e1] at eg; cases eg
    | some ds =>
      rw [e1] at eg
      have eg : (if ds.length = n then gs ds ρ μ else none) = some ρ' := eg
      by_cases c : ds.length = n
      · rw [if_pos c] at eg
        obtain ⟨a, vs, rfl, hq, rq⟩ := asQ_ok s r e1
        rw [hK] at hq
        rcases hq with hq | hq
        · exact .inr ⟨a, vs, rfl, hq, by rw [rq.length]; exact c, L, ρ, μ, ds, ρ', rs, s, rq, eg, q⟩
        · exact .inl ⟨a, vs, rfl, hq, by rw [rq.length]; exact c, L, ρ, μ, ds, ρ', rs, s, rq, eg, q⟩
      · rw [if_neg c] at eg; cases eg
def sAsg (f : SE) (g : SG) : SS := fun ρ μ => (f ρ μ).thn ρ fun d μ1 => match g d ρ μ1 with
  | some ρ1 => .nx ρ1 μ1
  | none => .bad
/-- a, b = e1, e2 with local names -/
def sPar (i j : Nat) (fa : SA) : SS := fun ρ μ => (fa ρ μ).thn ρ fun ds μ1 => match ds with
  | [d, e] => .nx ((ρ.set i (some d)).set j (some e)) μ1
  | _ => .bad
theorem vs_par {W : WX} {i j : Nat} {x y : Str} {a b : Expr} {fa : SA} {px py pt : Pos} {kt k2 pt2} (hc : X.calm = true) (hN : X.N.Nodup) (hi : X.N[i]? = some x) (hj : X.N[j]? = some y) (hij : i ≠ j)
    (hx : X.env.scope.names.lookup x = some .local) (hy : X.env.scope.names.lookup y = some .local) (ha : VA P W X [a, b] fa)
    (hw : swappedStores [.Tuple [.Name x px, .Name y py] kt pt] (.Tuple [a, b] k2 pt2) X.env = pure (some [x, y]))
    (hs : swapsWithSole [.Tuple [.Name x px, .Name y py] kt pt] (.Tuple [a, b] k2 pt2) pos.line X.env = pure false := by rfl) :
    VS P W X (.Assign [.Tuple [.Name x px, .Name y py] kt pt] (.Tuple [a, b] k2 pt2) pos) (sPar i j fa) :=
  (ps_par hc hN hi hj hij hx hy ha hw hs).imp3 fun D σ H ⟨L, ρ, μ, rs, s, q⟩ => tVA.firstS rs s q fun ds μ1 vs L1 H1 x1 s1 r1 rs1 q1 => by
    match ds, r1, q1 with
    | [], _, q1 => exact q1.elim
    | [_], _, q1 => exact q1.elim
    | _ :: _ :: _ :: _, _, q1 => exact q1.elim
    | [d, e], r1, q1 =>
      obtain ⟨v, w, rfl, rv, rw⟩ := r1.two
      exact ⟨v, w, rfl, q1 _ L1 H1 .refl s1 ((rs1.set rv).set rw)⟩
/-- name op= e -/
def sAug (i : Nat) (g : D → D → Sto → R D) (f : SE) : SS := fun ρ μ => match ρ[i]? with
  | some (some a) => (f ρ μ).thn ρ fun b μ1 => (g a b μ1).thn ρ fun d μ2 => .nx (ρ.set i (some d)) μ2
  | _ => .bad
end
/-! ### what is walked -/
/-- J gives the data ds, as long as gd -/
def Gives (P : Pm) (J : It) (ds : List D) (gd : Sto → Bool) (L0 : Lv) (H0 : Hp) : Prop := ∀ (L : Lv) (H : Hp) (μ : Sto) (i : Nat), Ext0 L0 H0 L H → St3 P H L μ → gd μ = true →
  (∀ d, ds[i]? = some d → J.go i H ∧ ∀ x H', J.yld i H x H' → (∀ b o, H b = some o → H' b = some o) ∧ Rep P H' L x d) ∧ (ds[i]? = none → J.stop i H)
theorem Gives.ext {P : Pm} {J : It} {ds : List D} {gd : Sto → Bool} {L0 L1 : Lv} {H0 H1 : Hp} (x : Ext0 L0 H0 L1 H1) (g : Gives P J ds gd L0 H0) : Gives P J ds gd L1 H1 := fun L H μ i y => g L H μ i (x.trans y)
abbrev SI := Env → Sto → R (List D × (Sto → Bool))
def tVI (P : Pm) (W : WX) (f : SI) : TI := fun σ H R => ∃ L ρ μ, RelS P H L σ ρ ∧ St3 P H L μ ∧ Post P (WE W σ) L H (fun it L' H' => ∀ J, Gives P J it.1 it.2 L' H' → R J H') (f ρ μ)
abbrev VI (P : Pm) (W : WX) (X : Cx) (tg iter : Expr) (f : SI) : Prop := PI X tg iter (tVI P W f)
theorem _root_.L2.PI.imp3 {X : Cx} {tg e : Expr} {t t' : TI} (h : PI X tg e t) (i : ∀ σ H R, t' σ H R → t σ H R) : PI X tg e t' := ⟨fun pins s σ H R I q => h.run pins s σ H R I (i σ H R q)⟩
mutual
def D.beq : D → D → Bool
  | .non, .non => true
  | .bl a, .bl b => a == b
  | .int a, .int b => a == b
  | .str a, .str b => decide (a = b)
  | .lst a, .lst b => D.beqL a b
  | .tup a, .tup b => D.beqL a b
  | .dct k a, .dct l b => decide (k = l) && D.beqL a b
  | .obj c k a, .obj d l b => decide (c = d) && (decide (k = l) && D.beqL a b)
  | .cell a, .cell b => a == b
  | .scr a, .scr b => decide (a = b)
  | _, _ => false
def D.beqL : List D → List D → Bool
  | [], [] => true
  | a :: r, b :: s => D.beq a b && D.beqL r s
  | _, _ => false
end
mutual
theorem D.beq_eq : ∀ {a b : D}, D.beq a b = true → a = b
  | .non, b, h => by cases b <;> simp [D.beq] at h ⊢
  | .bl _, b, h => by cases b <;> simp [D.beq] at h ⊢; exact h
  | .int _, b, h => by cases b <;> simp [D.beq] at h ⊢; exact h
  | .str _, b, h => by cases b <;> simp [D.beq] at h ⊢; exact h
  | .lst _, b, h => by cases b <;> simp [D.beq] at h ⊢; exact D.beqL_eq h
  | .tup _, b, h => by cases b <;> simp [D.beq] at h ⊢; exact D.beqL_eq h
  | .dct _ _, b, h => by cases b <;> simp [D.beq] at h ⊢; exact ⟨h.1, D.beqL_eq h.2⟩
  | .obj _ _ _, b, h => by cases b <;> simp [D.beq] at h ⊢; exact ⟨h.1, h.2.1, D.beqL_eq h.2.2⟩
  | .cell _, b, h => by cases b <;> simp [D.beq] at h ⊢; exact h
  | .scr _, b, h => by cases b <;> simp [D.beq] at h ⊢; exact h
theorem D.beqL_eq : ∀ {a b : List D}, D.beqL a b = true → a = b
  | [], b, h => by cases b <;> simp [D.beqL] at h ⊢
  | x :: r, b, h => by
    cases b with
    | nil => simp [D.beqL] at h
    | cons y s => simp [D.beqL] at h; rw [D.beq_eq h.1, D.beqL_eq h.2]
end
mutual
theorem D.beq_self : ∀ a : D, D.beq a a = true
  | .non => by simp [D.beq]
  | .bl _ => by simp [D.beq]
  | .int _ => by simp [D.beq]
  | .str _ => by simp [D.beq]
  | .lst a => by simp [D.beq, D.beqL_self a]
  | .tup a => by simp [D.beq, D.beqL_self a]
  | .dct _ a => by simp [D.beq, D.beqL_self a]
  | .obj _ _ a => by simp [D.beq, D.beqL_self a]
  | .cell _ => by simp [D.beq]
  | .scr _ => by simp [D.beq]
theorem D.beqL_self : ∀ a : List D, D.beqL a a = true
  | [] => by simp [D.beqL]
  | x :: r => by simp [D.beqL, D.beq_self x, D.beqL_self r]
end
/-- a list's items, and what must stay so while it is walked -/
def walkD (μ : Sto) : D → Option (List D × (Sto → Bool))
  | .lst ds => some (ds, fun _ => true)
  | .tup ds => some (ds, fun _ => true)
  | .scr ns => some (ns.map D.int, fun _ => true)
  | .str z => some (z.cps.toList.map fun c => .str ⟨#[c]⟩, fun _ => true)
  | .cell k => (match μ[k]? with
    | some (.lst ds) => some (ds, fun μ' => match μ'[k]? with
      | some (.lst es) => D.beqL es ds
      | _ => false)
    | _ => none)
  | _ => none
def iAnyD (f : SE) : SI := fun ρ μ => (f ρ μ).bind fun d μ1 => match walkD μ1 d with
  | some it => .ok it μ1
  | none => .bad
def iAny (K : PySem.W.Frag) (tl : TE) : TI := fun σ H R => tl σ H fun x H1 => (∃ a, x = .ref a ∧ (∃ xs, SqL K H1 a xs) ∧ R (Itl K a) H1) ∨ (∃ a, x = .ref a ∧ (∃ xs, SqT K H1 a xs) ∧ R (Itt K a) H1) ∨ ∃ z, x = .str z ∧ R (Its z) H1
theorem pi_any {X : Cx} {tg l : Expr} {tl : TE} (hl : PE X l tl) : PI X tg l (iAny X.K tl) := ⟨fun pins s σ H R I asks => thn (hl.run pins s σ H _ I asks) fun v s1 got => by
  obtain ⟨x, H1, J, rx, kinds⟩ := got
  rcases kinds with ⟨a, ex, ⟨_, sq⟩, goes⟩ | ⟨a, ex, ⟨_, sq⟩, goes⟩ | ⟨z, ex, goes⟩ <;> subst ex
  · obtain ⟨_, _, isL, _⟩ := J.list sq
    cases rx
    exact wpAny_pyIter_list isL.isList (pi_one (tk := s1.toks) J _ (turn_list a _) ⟨_, Heap.get?_push_size _ rfl, rfl, rfl⟩ goes)
  · obtain ⟨its, _, isT, _⟩ := J.tuple sq
    cases rx
    exact wpAny_pyIter_tuple (show s1.heap.IsTuple a its.toArray from isT) (pi_one (tk := s1.toks) J _ (turn_tuple a _) ⟨_, Heap.get?_push_size _ rfl, rfl, rfl⟩ goes)
  · rcases rx with ⟨tok, rfl⟩
    rcases Bool.eq_false_or_eq_true (z.cps.all (· < 128)) with plain | wide
    · exact wpAny_pyIter_ascii plain (pi_one (tk := s1.toks) J _ (turn_str _ z tok "str_ascii_iterator" (.inl rfl)) ⟨_, Heap.get?_push_size _ rfl, rfl, rfl⟩ goes)
    · exact wpAny_pyIter_wide wide (pi_one (tk := s1.toks) J _ (turn_str _ z tok "str_iterator" (.inr rfl)) ⟨_, Heap.get?_push_size _ rfl, rfl, rfl⟩ goes)⟩
/-- a source's datum, read at each turn -/
theorem walk_gives {P : Pm} {L0 : Lv} {H0 : Hp} {μ0 : Sto} {v : V} {d : D} {it : List D × (Sto → Bool)} (s0 : St3 P H0 L0 μ0) (r : Rep P H0 L0 v d) (e : walkD μ0 d = some it) :
    (∃ a, v = .ref a ∧ (∃ xs, SqL P.K H0 a xs) ∧ Gives P (Itl P.K a) it.1 it.2 L0 H0) ∨ (∃ a, v = .ref a ∧ (∃ xs, SqT P.K H0 a xs) ∧ Gives P (Itt P.K a) it.1 it.2 L0 H0) ∨ ∃ z, v = .str z ∧ Gives P (Its z) it.1 it.2 L0 H0 := by
  have lists : ∀ {a : Addr} {ds : List D} {gd : Sto → Bool}, (∀ L H μ, Ext0 L0 H0 L H → St3 P H L μ → gd μ = true → ∃ vs, SqL P.K H a vs ∧ Reps P H L vs ds) → Gives P (Itl P.K a) ds gd L0 H0 := fun {a ds gd} h L H μ i x s g => by
    obtain ⟨vs, hq, rq⟩ := h L H μ x s g
    refine ⟨fun d hd => ?_, fun hn => ⟨vs, hq, ?_⟩⟩
    · obtain ⟨w, hw, rw⟩ := rq.get hd
      refine ⟨⟨vs, w, hq, hw⟩, fun y H' hy => ?_⟩
      obtain ⟨e1, e2⟩ := hy
      subst e1
      have e3 := e2 vs hq
      rw [hw] at e3; cases e3
      exact ⟨fun _ _ z => z, rw⟩
    · rw [rq.length]; exact List.getElem?_eq_none_iff.mp hn
  have tups : ∀ {a : Addr} {ds : List D} {gd : Sto → Bool}, (∀ L H μ, Ext0 L0 H0 L H → St3 P H L μ → gd μ = true → ∃ vs, SqT P.K H a vs ∧ Reps P H L vs ds) → Gives P (Itt P.K a) ds gd L0 H0 := fun {a ds gd} h L H μ i x s g => by
    obtain ⟨vs, hq, rq⟩ := h L H μ x s g
    refine ⟨fun d hd => ?_, fun hn => ⟨vs, hq, ?_⟩⟩
    · obtain ⟨w, hw, rw⟩ := rq.get hd
      refine ⟨⟨vs, w, hq, hw⟩, fun y H' hy => ?_⟩
      obtain ⟨e1, e2⟩ := hy
      subst e1
      have e3 := e2 vs hq
      rw [hw] at e3; cases e3
      exact ⟨fun _ _ z => z, rw⟩
    · rw [rq.length]; exact List.getElem?_eq_none_iff.mp hn
  cases d with
  | lst ds =>
    cases e
    cases r with
    | @lst a vs _ h n rr => exact .inl ⟨a, rfl, ⟨vs, .of h⟩, lists fun L H μ x s g => ⟨vs, .of (x.keep _ _ h (fun ps z => nomatch z) n), rr.ext0 x⟩⟩
  | tup ds =>
    cases e
    cases r with
    | @tup a vs _ h rr => exact .inr (.inl ⟨a, rfl, ⟨vs, h.sq⟩, tups fun L H μ x s g => ⟨vs, (h.ext0 x).sq, rr.ext0 x⟩⟩)
  | scr ns =>
    cases e
    cases r with
    | @scr a _ h => exact .inl ⟨a, rfl, ⟨_, h.sq⟩, lists fun L H μ x s g => ⟨_, (h.ext0 x).sq, Reps.ints ns⟩⟩
  | str z =>
    cases e
    cases r
    refine .inr (.inr ⟨z, rfl, fun L H μ i x s g => ⟨fun d hd => ?_, fun hn => ?_⟩⟩)
    · have hd : (z.cps.toList.map fun c => D.str ⟨#[c]⟩)[i]? = some d := hd
      rw [List.getElem?_map] at hd
      cases e2 : z.cps.toList[i]? with
      | none => rw [e2] at hd; cases hd
      | some c =>
        rw [e2] at hd
        cases hd
        have e3 : z.cps[i]? = some c := by rw [← Array.getElem?_toList]; exact e2
        refine ⟨(Array.getElem?_eq_some_iff.mp e3).1, fun y H' hy => ?_⟩
        obtain ⟨e4, c', e5, e6⟩ := hy
        subst e4 e6
        rw [e3] at e5; cases e5
        exact ⟨fun _ _ z => z, .str _⟩
    · have hn : (z.cps.toList.map fun c => D.str ⟨#[c]⟩)[i]? = none := hn
      have := List.getElem?_eq_none_iff.mp hn
      show z.cps.size ≤ i
      simpa using this
  | cell k =>
    have e : (match μ0[k]? with
      | some (.lst ds) => some (ds, fun μ' : Sto => match μ'[k]? with
        | some (.lst es) => D.beqL es ds
        | _ => false)
      | _ => none) = some it := e
    cases em : μ0[k]? with
    | none => rw [em] at e; cases e
    | some m =>
      rw [em] at e
      cases m with
      | dct _ _ => cases e
      | ins _ _ _ => cases e
      | lst ds =>
        cases e
        cases r with
        | @cell a _ hk =>
          have q0 := s0.at_ k a _ hk em
          cases q0 with
          | @lst vs0 _ h0 r0 =>
            refine .inl ⟨a, rfl, ⟨vs0, .of h0⟩, lists fun L H μ x s g => ?_⟩
            have g : (match μ[k]? with
              | some (.lst es) => D.beqL es ds
              | _ => false) = true := g
            cases em1 : μ[k]? with
            | none => rw [em1] at g; cases g
            | some m1 =>
              rw [em1] at g
              cases m1 with
              | dct _ _ => cases g
              | ins _ _ _ => cases g
              | lst es =>
                have ee := D.beqL_eq g
                subst ee
                have q1 := s.at_ k a _ (x.pre k a hk) em1
                cases q1 with
                | @lst vs1 _ h1 r1 => exact ⟨vs1, .of h1, r1⟩
  | non => cases e
  | bl _ => cases e
  | int _ => cases e
  | dct _ _ => cases e
  | obj _ _ _ => cases e
end L3

namespace L3
open PySem PySem.Spec PyProof.Rows L2
section
variable {P : Pm} {W : WX} {X : Cx} {tg : Expr} {fe : SE} {fa : SA} {pos p : Pos}
theorem vi_any {l : Expr} (hK : P.K = X.K) (h : VE P W X l fe) : VI P W X tg l (iAnyD fe) :=
  (pi_any h).imp3 fun σ H R ⟨L, ρ, μ, rs, s, q⟩ => by
    refine tV.first rs s q fun d μ1 v L1 H1 x1 s1 r1 rs1 q1 => ?_
    cases e : walkD μ1 d with
    | none => rw [e] at q1; exact q1.elim
    | some it =>
      rw [e] at q1
      have q2 := q1 L1 H1 .refl s1
      rw [← hK]
      rcases walk_gives s1 r1 e with ⟨a, e1, h1, g⟩ | ⟨a, e1, h1, g⟩ | ⟨z, e1, g⟩
      · exact .inl ⟨a, e1, h1, q2 _ g⟩
      · exact .inr (.inl ⟨a, e1, h1, q2 _ g⟩)
      · exact .inr (.inr ⟨z, e1, q2 _ g⟩)
/-- range(n), range(a, b) -/
def rngD (lo : Int) (n : Nat) : List D := (List.range n).map fun i => .int (lo + (i : Nat))
def iRange1 (fa : SA) : SI := fun ρ μ => (fa ρ μ).bind fun ds μ1 => match ds with
  | [.int j] => if -(2 ^ 62) ≤ j ∧ j < 2 ^ 62 then .ok (rngD 0 j.toNat, fun _ => true) μ1 else .bad
  | _ => .bad
def iRange2 (fa : SA) : SI := fun ρ μ => (fa ρ μ).bind fun ds μ1 => match ds with
  | [.int i, .int j] => if -(2 ^ 62) ≤ i ∧ i < 2 ^ 62 ∧ -(2 ^ 62) ≤ j ∧ j < 2 ^ 62 then .ok (rngD i (j - i).toNat, fun _ => true) μ1 else .bad
  | _ => .bad
theorem gives_rng {L0 : Lv} {H0 : Hp} (lo : Int) (n : Nat) : Gives P (Itr lo n) (rngD lo n) (fun _ => true) L0 H0 := fun L H μ i x s g => by
  refine ⟨fun d hd => ?_, fun hn => ?_⟩
  · unfold rngD at hd
    rw [List.getElem?_map] at hd
    cases e : (List.range n)[i]? with
    | none => rw [e] at hd; cases hd
    | some k =>
      rw [e] at hd
      cases hd
      obtain ⟨h1, h2⟩ := List.getElem?_eq_some_iff.mp e
      have h3 : i < n := by simpa using h1
      have h4 : k = i := by simp at h2; omega
      subst h4
      refine ⟨h3, fun y H' hy => ?_⟩
      obtain ⟨e1, e2⟩ := hy
      subst e1 e2
      exact ⟨fun _ _ z => z, .int _⟩
  · have := List.getElem?_eq_none_iff.mp hn
    show n ≤ i
    simpa [rngD] using this
theorem vi_range1 {a : Expr} (hg : Gl X "range") (hm : X.mg "range" = none) (ha : VA P W X [a] fa) (hs : starEach [a] X.env = [(false, eval a X.env)] := by rfl) : VI P W X tg (.Call (.Name "range" p) [a] [] pos) (iRange1 fa) :=
  (pi_range1 hg hm ha hs).imp3 fun σ H R ⟨L, ρ, μ, rs, s, q⟩ => by
    refine tVA.first rs s q fun ds μ1 vs L1 H1 x1 s1 r1 rs1 q1 => ?_
    match ds, r1, q1 with
    | [], _, q1 => exact q1.elim
    | _ :: _ :: _, r1, q1 => exact (by cases r1 with | cons h t => cases h <;> exact q1.elim)
    | [d], r1, q1 =>
      obtain ⟨v, rfl, rv⟩ := r1.one
      cases rv with
      | int j =>
        have q1 : Post P (WE W σ) L1 H1 (fun it L' H' => ∀ J, Gives P J it.1 it.2 L' H' → R J H') (if -(2 ^ 62) ≤ j ∧ j < 2 ^ 62 then .ok (rngD 0 j.toNat, fun _ => true) μ1 else .bad) := q1
        by_cases c : -(2 ^ 62) ≤ j ∧ j < 2 ^ 62
        · rw [if_pos c] at q1
          exact ⟨j, rfl, c.1, c.2, q1 L1 H1 .refl s1 _ (gives_rng _ _)⟩
        · rw [if_neg c] at q1; exact q1.elim
      | _ => exact q1.elim
/-- a list that is read at each turn: its items, the guard -/
def walkL (μ : Sto) : D → Option (List D × (Sto → Bool))
  | .lst ds => some (ds, fun _ => true)
  | .scr ns => some (ns.map D.int, fun _ => true)
  | .cell k => (match μ[k]? with
    | some (.lst ds) => some (ds, fun μ' => match μ'[k]? with
      | some (.lst es) => D.beqL es ds
      | _ => false)
    | _ => none)
  | _ => none
/-- enumerate(xs) -/
def enumD : Nat → List D → List D
  | _, [] => []
  | i, d :: r => .tup [.int i, d] :: enumD (i + 1) r
def iEnumD (fa : SA) : SI := fun ρ μ => (fa ρ μ).bind fun ds μ1 => match ds with
  | [d] => (match walkL μ1 d with
    | some it => .ok (enumD 0 it.1, it.2) μ1
    | none => .bad)
  | _ => .bad
/-- zip(xs, ys) -/
def zipD : List D → List D → List D
  | a :: r, b :: s => .tup [a, b] :: zipD r s
  | _, _ => []
def iZipD (fa : SA) : SI := fun ρ μ => (fa ρ μ).bind fun ds μ1 => match ds with
  | [d, e] => (match walkL μ1 d, walkL μ1 e with
    | some it, some iu => .ok (zipD it.1 iu.1, fun μ' => it.2 μ' && iu.2 μ') μ1
    | _, _ => .bad)
  | _ => .bad
end
/-! ### for -/
def forS (gd : Sto → Bool) (g : SG) (b : SS) : List D → SS
  | [], ρ, μ => if gd μ = true then .nx ρ μ else .bad
  | d :: ds, ρ, μ => if gd μ = true then (match g d ρ μ with
    | some ρ1 => (match b ρ1 μ with
      | .nx ρ2 μ2 => forS gd g b ds ρ2 μ2
      | .ct ρ2 μ2 => forS gd g b ds ρ2 μ2
      | .bk ρ2 μ2 => .nx ρ2 μ2
      | .rt d μ2 => .rt d μ2
      | .exc c ns vs ρ2 μ2 => .exc c ns vs ρ2 μ2
      | .bad => .bad)
    | none => .bad) else .bad
def sFor (fi : SI) (g : SG) (b : SS) : SS := fun ρ μ => (fi ρ μ).thn ρ fun it μ1 => forS it.2 g b it.1 ρ μ1
theorem drop_some {α : Type} {l : List α} {i : Nat} {x : α} (h : l[i]? = some x) : l.drop i = x :: l.drop (i + 1) := by
  obtain ⟨h1, h2⟩ := List.getElem?_eq_some_iff.mp h
  rw [List.drop_eq_getElem_cons h1, h2]
theorem drop_none {α : Type} {l : List α} {i : Nat} (h : l[i]? = none) : l.drop i = [] := List.drop_eq_nil_of_le (List.getElem?_eq_none_iff.mp h)
section
variable {P : Pm} {W : WX} {X : Cx} {tg iter : Expr} {body : List Stmt} {fi : SI} {sl : List Nat} {g : SG} {b : SS} {pos : Pos}
theorem vs_for (hp : PassesOwn (model X.prog X.w) X.A X.env X.xe) (hc : X.calm = true) (hi : VI P W X tg iter fi) (hg : VG P X tg sl g) (hb : VSs P W X body b)
    (hs : ∀ x, foldedSetIterable iter X.env x = pure x := by intro _; rfl) : VS P W X (.For tg iter body [] pos) (sFor fi g b) :=
  (ps_for hp hc hi hg hb hs).imp3 fun D σ H ⟨L, ρ, μ, rs, s, q⟩ => by
    refine ⟨L, ρ, μ, rs, s, ?_⟩
    unfold sFor at q
    cases e : fi ρ μ with
    | exc c ns vs μ1 => rw [e] at q; exact fun C dx L' H' hc x s f => q σ C dx L' H' hc x s (rs.ext x) f
    | bad => rw [e] at q; exact q
    | ok it μ1 =>
      rw [e] at q
      intro L1 H1 x1 s1 J gv
      have q1 : PostS P W D L1 H1 (forS it.2 g b it.1 ρ μ1) := PostS.ext x1 q
      refine ⟨fun i m σ H => ∃ L ρ μ, RelS P H L σ ρ ∧ St3 P H L μ ∧ PostS P W D L H (forS it.2 g b (it.1.drop i) ρ μ) ∧ Gives P J it.1 it.2 L H ∧ m = it.1.length - i,
        ⟨_, L1, ρ, μ1, rs.ext x1, s1, q1, gv, rfl⟩, ?_⟩
      rintro i m σ2 H2 ⟨L2, ρ2, μ2, rs2, s2, q2, gv2, rfl⟩
      cases e2 : it.1[i]? with
      | none =>
        rw [drop_none e2] at q2
        unfold forS at q2
        by_cases c : it.2 μ2 = true
        · rw [if_pos c] at q2
          exact .inl ⟨(gv2 L2 H2 μ2 i .refl s2 c).2 e2, q2 σ2 L2 H2 .refl s2 rs2⟩
        · rw [if_neg c] at q2; exact q2.elim
      | some d =>
        rw [drop_some e2] at q2
        unfold forS at q2
        by_cases c : it.2 μ2 = true
        · rw [if_pos c] at q2
          obtain ⟨hgo, hy⟩ := (gv2 L2 H2 μ2 i .refl s2 c).1 d e2
          have hlt : i < it.1.length := (List.getElem?_eq_some_iff.mp e2).1
          refine .inr ⟨hgo, fun σ' H' => ∃ L ρ μ, RelS P H' L σ' ρ ∧ St3 P H' L μ ∧ PostS P W D L H' (forS it.2 g b (it.1.drop (i + 1)) ρ μ) ∧ Gives P J it.1 it.2 L H',
            fun σ' H' ⟨L, ρ, μ, a1, a2, a3, a4⟩ => ⟨it.1.length - (i + 1), by omega, L, ρ, μ, a1, a2, a3, a4, rfl⟩, fun x H' y => ?_⟩
          obtain ⟨gr, rx⟩ := hy x H' y
          have x3 : Ext P L2 H2 L2 H' := Ext.grow s2 gr
          cases e3 : g d ρ2 μ2 with
          | none => rw [e3] at q2; exact q2.elim
          | some ρ3 =>
            rw [e3] at q2
            refine ⟨L2, ρ2, μ2, d, ρ3, rs2.ext x3, s2.grow gr, rx, e3, fun σ3 rs3 _ => ?_⟩
            refine ⟨L2, ρ3, μ2, rs3, s2.grow gr, ?_⟩
            have q3 := PostS.ext x3 q2
            dsimp only at q3
            cases e4 : b ρ3 μ2 with
            | nx ρ4 μ4 => rw [e4] at q3; exact fun σ' L' H4 x4 s4 rs4 => ⟨L', ρ4, μ4, rs4, s4, PostS.ext x4 q3, (gv2.ext x3.toExt0).ext x4.toExt0⟩
            | ct ρ4 μ4 => rw [e4] at q3; exact fun σ' L' H4 x4 s4 rs4 => ⟨L', ρ4, μ4, rs4, s4, PostS.ext x4 q3, (gv2.ext x3.toExt0).ext x4.toExt0⟩
            | bk ρ4 μ4 => rw [e4] at q3; exact q3
            | rt d μ4 => rw [e4] at q3; exact q3
            | exc c ns vs ρ4 μ4 => rw [e4] at q3; exact q3
            | bad => rw [e4] at q3; exact q3
        · rw [if_neg c] at q2; exact q2.elim
end
/-! ### while -/
def whileN (t : ST) (b : SS) : Nat → SS
  | 0, _, _ => .bad
  | n + 1, ρ, μ => match t ρ μ with
    | .ok c μ1 => if c = true then (match b ρ μ1 with
      | .nx ρ2 μ2 => whileN t b n ρ2 μ2
      | .ct ρ2 μ2 => whileN t b n ρ2 μ2
      | .bk ρ2 μ2 => .nx ρ2 μ2
      | .rt d μ2 => .rt d μ2
      | .exc c ns vs ρ2 μ2 => .exc c ns vs ρ2 μ2
      | .bad => .bad) else .nx ρ μ1
    | .exc c ns vs μ1 => .exc c ns vs ρ μ1
    | .bad => .bad
theorem whileN_more {t : ST} {b : SS} : ∀ {n : Nat} {ρ : Env} {μ : Sto}, whileN t b n ρ μ ≠ .bad → whileN t b (n + 1) ρ μ = whileN t b n ρ μ
  | 0, _, _, h => absurd rfl h
  | n + 1, ρ, μ, h => by
    unfold whileN at h ⊢
    cases e : t ρ μ with
    | exc c ns vs μ1 => rfl
    | bad => rfl
    | ok c μ1 =>
      rw [e] at h
      have h : (if c = true then (match b ρ μ1 with
        | .nx ρ2 μ2 => whileN t b n ρ2 μ2
        | .ct ρ2 μ2 => whileN t b n ρ2 μ2
        | .bk ρ2 μ2 => .nx ρ2 μ2
        | .rt d μ2 => .rt d μ2
        | .exc c ns vs ρ2 μ2 => .exc c ns vs ρ2 μ2
        | .bad => .bad) else .nx ρ μ1) ≠ RS.bad := h
      cases c with
      | false => rfl
      | true =>
        rw [if_pos rfl] at h
        show (if true = true then _ else _) = (if true = true then _ else _)
        rw [if_pos rfl, if_pos rfl]
        cases e2 : b ρ μ1 with
        | nx ρ2 μ2 => rw [e2] at h; exact whileN_more h
        | ct ρ2 μ2 => rw [e2] at h; exact whileN_more h
        | _ => rfl
theorem whileN_le {t : ST} {b : SS} {n m : Nat} {ρ : Env} {μ : Sto} (h : whileN t b n ρ μ ≠ .bad) (hl : n ≤ m) : whileN t b m ρ μ = whileN t b n ρ μ := by
  induction hl with
  | refl => rfl
  | step _ ih => rw [whileN_more (by rw [ih]; exact h), ih]
open Classical in
/-- however many turns it takes -/
noncomputable def sWhile (t : ST) (b : SS) : SS := fun ρ μ => if h : ∃ n, whileN t b n ρ μ ≠ .bad then whileN t b (Classical.choose h) ρ μ else .bad
theorem sWhile_eq {t : ST} {b : SS} {ρ : Env} {μ : Sto} (n : Nat) {r : RS} (h : whileN t b n ρ μ = r) (hr : r ≠ .bad) : sWhile t b ρ μ = r := by
  have hx : ∃ n, whileN t b n ρ μ ≠ .bad := ⟨n, by rw [h]; exact hr⟩
  unfold sWhile
  rw [dif_pos hx]
  have h1 := Classical.choose_spec hx
  have h2 : whileN t b n ρ μ ≠ .bad := by rw [h]; exact hr
  rcases Nat.le_total (Classical.choose hx) n with l | l
  · rw [← whileN_le h1 l, h]
  · rw [whileN_le h2 l, h]
theorem sWhile_at {t : ST} {b : SS} {ρ : Env} {μ : Sto} (h : sWhile t b ρ μ ≠ .bad) : ∃ n, whileN t b n ρ μ = sWhile t b ρ μ := by
  unfold sWhile at h ⊢
  by_cases hx : ∃ n, whileN t b n ρ μ ≠ .bad
  · rw [dif_pos hx]; exact ⟨_, rfl⟩
  · rw [dif_neg hx] at h; exact absurd rfl h
section
variable {P : Pm} {W : WX} {X : Cx} {c : Expr} {body : List Stmt} {t : ST} {b : SS} {pos : Pos}
theorem vs_while (hp : PassesOwn (model X.prog X.w) X.A X.env X.xe) (hc : VT P W X c t) (hb : VSs P W X body b) : VS P W X (.While c body [] pos) (sWhile t b) :=
  (ps_while hp hc hb).imp3 fun D σ H ⟨L, ρ, μ, rs, s, q⟩ => by
    have nb : sWhile t b ρ μ ≠ .bad := fun z => by rw [z] at q; exact q
    obtain ⟨n0, e0⟩ := sWhile_at nb
    rw [← e0] at q
    refine ⟨fun m σ H => ∃ L ρ μ, RelS P H L σ ρ ∧ St3 P H L μ ∧ PostS P W D L H (whileN t b m ρ μ), ⟨n0, L, ρ, μ, rs, s, q⟩, ?_⟩
    rintro m σ2 H2 ⟨L2, ρ2, μ2, rs2, s2, q2⟩
    cases m with
    | zero => exact q2.elim
    | succ m =>
      unfold whileN at q2
      refine ⟨L2, ρ2, μ2, rs2, s2, ?_⟩
      cases e : t ρ2 μ2 with
      | exc c ns vs μ1 => rw [e] at q2; exact fun C dx L' H' hc x s f => q2 σ2 C dx L' H' hc x s (rs2.ext x) f
      | bad => rw [e] at q2; exact q2
      | ok c μ3 =>
        rw [e] at q2
        intro L3 H3 x3 s3
        cases c with
        | false =>
          have q2 : PostS P W D L2 H2 (.nx ρ2 μ3) := q2
          exact q2 σ2 L3 H3 x3 s3 (rs2.ext x3)
        | true =>
          have q3 := PostS.ext x3 q2
          refine ⟨fun σ' H' => ∃ L ρ μ, RelS P H' L σ' ρ ∧ St3 P H' L μ ∧ PostS P W D L H' (whileN t b m ρ μ), fun σ' H' z => ⟨m, Nat.lt_succ_self m, z⟩, ?_⟩
          refine ⟨L3, ρ2, μ3, rs2.ext x3, s3, ?_⟩
          cases e4 : b ρ2 μ3 with
          | nx ρ4 μ4 => simp only [if_pos, e4] at q3; exact fun σ' L' H4 x4 s4 rs4 => ⟨L', ρ4, μ4, rs4, s4, PostS.ext x4 q3⟩
          | ct ρ4 μ4 => simp only [if_pos, e4] at q3; exact fun σ' L' H4 x4 s4 rs4 => ⟨L', ρ4, μ4, rs4, s4, PostS.ext x4 q3⟩
          | bk ρ4 μ4 => simp only [if_pos, e4] at q3; exact q3
          | rt d μ4 => simp only [if_pos, e4] at q3; exact q3
          | exc c ns vs ρ4 μ4 => simp only [if_pos, e4] at q3; exact q3
          | bad => simp only [if_pos, e4] at q3; exact q3
end
end L3

namespace L3
open PySem PySem.Spec PyProof.Rows L2
/-! ### comprehensions -/
def wipeE (ρ : Env) : List Nat → Env
  | [] => ρ
  | v :: vs => (wipeE ρ vs).set v none
theorem wipe_get {σ : L2.St} {i : Nat} : ∀ {vs : List Nat}, i ∉ vs → (wipe σ vs)[i]? = σ[i]?
  | [], _ => rfl
  | v :: vs, h => by
    unfold wipe
    rw [List.getElem?_set_ne (fun z => h (by rw [z]; exact List.mem_cons_self)), wipe_get fun z => h (List.mem_cons_of_mem _ z)]
theorem wipeE_some {ρ : Env} {i : Nat} {d : D} : ∀ {vs : List Nat}, (wipeE ρ vs)[i]? = some (some d) → ρ[i]? = some (some d) ∧ i ∉ vs
  | [], h => ⟨h, by simp⟩
  | v :: vs, h => by
    unfold wipeE at h
    by_cases e : v = i
    · subst e
      by_cases hl : v < (wipeE ρ vs).length
      · rw [List.getElem?_set_self hl] at h; cases h
      · rw [List.getElem?_eq_none (by simpa using hl)] at h; cases h
    · rw [List.getElem?_set_ne e] at h
      obtain ⟨h1, h2⟩ := wipeE_some h
      exact ⟨h1, fun z => (List.mem_cons.mp z).elim (fun z => e z.symm) h2⟩
theorem wipeE_length (ρ : Env) : ∀ vs : List Nat, (wipeE ρ vs).length = ρ.length
  | [] => rfl
  | v :: vs => by unfold wipeE; rw [List.length_set, wipeE_length ρ vs]
theorem wipe_wipe (σ : L2.St) (vs : List Nat) : wipe (wipe σ vs) vs = wipe σ vs := by
  have set_in : ∀ {ws : List Nat} {v : Nat}, v ∈ ws → (wipe σ ws).set v none = wipe σ ws := by
    intro ws v h
    apply List.ext_getElem?
    intro i
    by_cases e : v = i
    · subst e
      have key : ∀ {ws : List Nat}, v ∈ ws → (wipe σ ws)[v]? = (wipe σ ws)[v]?.map fun _ => none := by
        intro ws
        induction ws with
        | nil => intro h; cases h
        | cons w ws ih =>
          intro h
          unfold wipe
          by_cases ew : w = v
          · subst ew
            by_cases hl : w < (wipe σ ws).length
            · rw [List.getElem?_set_self hl]; rfl
            · rw [List.getElem?_eq_none (by simpa using hl)]; rfl
          · rw [List.getElem?_set_ne ew]
            exact ih ((List.mem_cons.mp h).elim (fun z => absurd z.symm ew) id)
      by_cases hl : v < (wipe σ ws).length
      · rw [List.getElem?_set_self hl, key h, List.getElem?_eq_getElem hl]; rfl
      · rw [List.getElem?_eq_none (by simpa using hl), List.getElem?_eq_none (by simpa using hl)]
    · rw [List.getElem?_set_ne e]
  have gen : ∀ ws : List Nat, (∀ w ∈ ws, w ∈ vs) → wipe (wipe σ vs) ws = wipe σ vs := by
    intro ws
    induction ws with
    | nil => intro _; rfl
    | cons w ws ih =>
      intro h
      show (L2.wipe (L2.wipe σ vs) ws).set w none = _
      rw [ih fun x hx => h x (List.mem_cons_of_mem _ hx)]
      exact set_in (h w List.mem_cons_self)
  exact gen vs fun _ h => h
theorem RelS.wipe {P : Pm} {H : Hp} {L : Lv} {σ : L2.St} {ρ : Env} (r : RelS P H L σ ρ) (vs : List Nat) : RelS P H L (L2.wipe σ vs) (wipeE ρ vs) := by
  refine ⟨by rw [wipe_length, wipeE_length]; exact r.len, fun i d h => ?_⟩
  obtain ⟨h1, h2⟩ := wipeE_some h
  obtain ⟨v, h3, h4⟩ := r.at_ i d h1
  exact ⟨v, by rw [wipe_get h2]; exact h3, h4⟩
/-- where nothing may be raised -/
def R.nox {α : Type} : R α → R α
  | .exc _ _ _ _ => .bad
  | r => r
@[simp] theorem R.nox_ok {α : Type} {a : α} {μ : Sto} : (R.ok a μ).nox = .ok a μ := rfl
@[simp] theorem R.nox_bad {α : Type} : (R.bad (α := α)).nox = .bad := rfl
def lcS (gd : Sto → Bool) (g : SG) (tt : ST) (te : SE) (ρ : Env) : List D → Sto → R (List D)
  | [], μ => if gd μ = true then .ok [] μ else .bad
  | d :: ds, μ => if gd μ = true then (match g d ρ μ with
    | some ρ1 => (tt ρ1 μ).nox.bind fun b μ1 => if b = true then (te ρ1 μ1).nox.bind fun y μ2 => (lcS gd g tt te ρ ds μ2).nox.bind fun ys μ3 => .ok (y :: ys) μ3 else lcS gd g tt te ρ ds μ1
    | none => .bad) else .bad
def eLc (vs : List Nat) (fi : SI) (g : SG) (tt : ST) (te : SE) : SE := fun ρ μ => (fi ρ μ).bind fun it μ1 => if it.1.length ≤ sizeLine then (lcS it.2 g tt te (wipeE ρ vs) it.1 μ1).nox.bind fun ys μ2 => .ok (.lst ys) μ2 else .bad
def eLcC (vs : List Nat) (fi : SI) (g : SG) (tt : ST) (te : SE) : SE := fun ρ μ => (fi ρ μ).bind fun it μ1 => if it.1.length ≤ sizeLine then (lcS it.2 g tt te (wipeE ρ vs) it.1 μ1).nox.bind fun ys μ2 => .ok (.cell μ2.length) (μ2 ++ [.lst ys]) else .bad
abbrev W0 : WX := fun _ _ _ _ => False
def Lv.add (L : Lv) (p : Addr) : Lv := ⟨L.c, p :: L.x⟩
section
variable {P : Pm} {H H1 : Hp} {L L1 : Lv} {μ : Sto} {p : Addr}
theorem tabs_upd {T : List (Addr × Str)} {acc acc' : List V} (h : H p = some (.lst acc)) (t : LamX.Tabs T H) : LamX.Tabs T (upd H p (.lst acc')) := fun q hq => by
  obtain ⟨ps, h1, h2, h3⟩ := t q hq
  refine ⟨ps, ?_, h2, fun pos cv hc => ?_⟩
  · rw [upd_ne (fun z => by rw [z, h] at h1; cases h1)]; exact h1
  · obtain ⟨c, e, h4⟩ := h3 pos cv hc
    refine ⟨c, e, ?_⟩
    rw [upd_ne (fun z => by
      rw [z, h] at h4
      have h5 : HO.lst acc = HO.ext _ := Option.some.inj h4
      cases h5)]
    exact h4
theorem prv_new (s : St3 P H L μ) (n : H p = none) : St3 P (upd H p (.lst [])) (L.add p) μ ∧ Ext0 L H (L.add p) (upd H p (.lst [])) := by
  have x : Ext0 L H (L.add p) (upd H p (.lst [])) := by
    refine ⟨fun a o h _ _ => upd_grow n a o h, fun _ _ h => h, fun a h => ?_⟩
    rcases h with h | h
    · exact .inl (.inl h)
    · rcases List.mem_cons.mp (show a ∈ p :: L.x from h) with h | h
      · subst h; exact .inr (.inl n)
      · exact .inl (.inr h)
  refine ⟨⟨s.len, fun k a m h1 h2 => (s.at_ k a m h1 h2).ext0 (fun o => upd_grow n a o) x, s.nd, fun a h => ?_, s.tab.ext (upd_grow n)⟩, x⟩
  rcases List.mem_cons.mp (show a ∈ p :: L.x from h) with h | h
  · subst h
    exact ⟨fun z => s.cell_there (.inl z) n, [], upd_same⟩
  · obtain ⟨vs, e⟩ := (s.dis a h).2
    exact ⟨(s.dis a h).1, vs, upd_grow n a _ e⟩
theorem prv_put {acc acc' : List V} (s : St3 P H L μ) (hp : p ∈ L.x) (h : H p = some (.lst acc)) : St3 P (upd H p (.lst acc')) L μ ∧ Ext0 L H L (upd H p (.lst acc')) := by
  have x : Ext0 L H L (upd H p (.lst acc')) := by
    refine ⟨fun a o e _ n => ?_, fun _ _ h => h, fun a h => .inl h⟩
    have ne : a ≠ p := fun z => by subst z; exact n (.inr hp)
    rw [upd_ne ne]; exact e
  refine ⟨⟨s.len, fun k a m h1 h2 => (s.at_ k a m h1 h2).ext0 (fun o e => ?_) x, s.nd, fun a h' => ⟨(s.dis a h').1, by
    by_cases ea : a = p
    · subst ea; exact ⟨acc', upd_same⟩
    · rw [upd_ne ea]; exact (s.dis a h').2⟩, tabs_upd h s.tab⟩, x⟩
  have ne : a ≠ p := fun z => by subst z; exact (s.dis a hp).1 (List.mem_of_getElem? h1)
  rw [upd_ne ne]
  exact e
/-- private places are let go -/
theorem prv_drop {c x x1 : List Addr} (hx : ∀ a ∈ x, a ∈ x1) : Ext0 ⟨c, x1⟩ H ⟨c, x⟩ H := ⟨fun _ _ h _ _ => h, fun _ _ h => h, fun a h => .inl (h.elim .inl fun z => .inr (hx a z))⟩
theorem St3.drop {c x x1 : List Addr} (hx : ∀ a ∈ x, a ∈ x1) (s : St3 P H ⟨c, x1⟩ μ) : St3 P H ⟨c, x⟩ μ :=
  ⟨s.len, fun k a m h1 h2 => (s.at_ k a m h1 h2).ext0 (fun _ h => h) (prv_drop hx), s.nd, fun a h => s.dis a (hx a h), s.tab⟩
end
section
variable {P : Pm} {W : WX} {X : Cx} {elt tg iter : Expr} {ifs : List Expr} {scope : Scope} {own : List (Str × Nat)} {pos : Pos} {fi : SI} {sl : List Nat} {g : SG} {tt : ST} {te : SE}
/-- what stands when the list is made -/
structure LcEnd (P : Pm) (L1 : Lv) (H1 : Hp) (c : List Addr) (H2 : Hp) (p : Addr) (acc : List V) (ys : List D) (μ2 : Sto) : Prop where
  n : H1 p = none
  ne : p ∉ L1.x
  x : Ext0 L1 H1 ⟨c, p :: L1.x⟩ H2
  prv : ∀ a ∈ L1.x, H2 a = H1 a
  st : St3 P H2 ⟨c, p :: L1.x⟩ μ2
  hp : H2 p = some (.lst acc)
  r : Reps P H2 ⟨c, p :: L1.x⟩ acc ys
theorem Ext0.less {L1 : Lv} {H1 H2 : Hp} {c : List Addr} {p : Addr} (x : Ext0 L1 H1 ⟨c, p :: L1.x⟩ H2) : Ext0 L1 H1 ⟨c, L1.x⟩ H2 :=
  ⟨x.keep, x.pre, fun a h => x.new a (h.elim .inl fun z => .inr (List.mem_cons_of_mem _ z))⟩
theorem LcEnd.pure {P : Pm} {L1 : Lv} {H1 H2 : Hp} {c : List Addr} {p : Addr} {acc : List V} {ys : List D} {μ2 : Sto} (e : LcEnd P L1 H1 c H2 p acc ys μ2) :
    Ext P L1 H1 ⟨c, L1.x⟩ H2 ∧ St3 P H2 ⟨c, L1.x⟩ μ2 ∧ Rep P H2 ⟨c, L1.x⟩ (.ref p) (.lst ys) := by
  refine ⟨⟨e.x.less, rfl, e.prv⟩, e.st.drop fun a h => List.mem_cons_of_mem _ h, .lst e.hp (fun h => ?_) (e.r.ext0 (prv_drop fun a h => List.mem_cons_of_mem _ h))⟩
  rcases h with h | h
  · exact (e.st.dis p List.mem_cons_self).1 h
  · exact e.ne h
theorem LcEnd.cell {P : Pm} {L1 : Lv} {H1 H2 : Hp} {c : List Addr} {p : Addr} {acc : List V} {ys : List D} {μ2 : Sto} (e : LcEnd P L1 H1 c H2 p acc ys μ2) :
    Ext P L1 H1 ⟨c ++ [p], L1.x⟩ H2 ∧ St3 P H2 ⟨c ++ [p], L1.x⟩ (μ2 ++ [.lst ys]) ∧ Rep P H2 ⟨c ++ [p], L1.x⟩ (.ref p) (.cell μ2.length) := by
  have np : p ∉ c := (e.st.dis p List.mem_cons_self).1
  have x2 : Ext0 ⟨c, p :: L1.x⟩ H2 ⟨c ++ [p], L1.x⟩ H2 := by
    refine ⟨fun _ _ h _ _ => h, fun k a h => ?_, fun a h => ?_⟩
    · show (c ++ [p])[k]? = some a
      rw [List.getElem?_append_left (List.getElem?_eq_some_iff.mp h).1]; exact h
    · rcases h with h | h
      · rcases List.mem_append.mp (show a ∈ c ++ [p] from h) with h | h
        · exact .inl (.inl h)
        · rw [List.mem_singleton] at h; subst h; exact .inl (.inr List.mem_cons_self)
      · exact .inl (.inr (List.mem_cons_of_mem _ h))
  have sl : c.length = μ2.length := e.st.len
  refine ⟨⟨e.x.trans x2, rfl, e.prv⟩, ⟨by simp [sl], fun k a m h1 h2 => ?_, ?_, fun a h => ?_, e.st.tab⟩, .cell ?_⟩
  · have h1 : (c ++ [p])[k]? = some a := h1
    by_cases hk : k < c.length
    · rw [List.getElem?_append_left hk] at h1
      rw [List.getElem?_append_left (by rw [← sl]; exact hk)] at h2
      exact (e.st.at_ k a m h1 h2).ext0 (fun _ h => h) x2
    · rw [List.getElem?_append_right (by omega)] at h1
      rw [List.getElem?_append_right (by omega)] at h2
      have e1 : k - c.length = 0 := by
        have := (List.getElem?_eq_some_iff.mp h1).1
        simp at this
        omega
      have e2 : k - μ2.length = 0 := by omega
      rw [e1] at h1; rw [e2] at h2
      cases h1; cases h2
      exact .lst e.hp (e.r.ext0 x2)
  · exact List.nodup_append.mpr ⟨e.st.nd, by simp, fun a ha b hb => by
      rw [List.mem_singleton] at hb; subst hb
      exact fun z => np (z ▸ ha)⟩
  · have h : a ∈ L1.x := h
    have q := e.st.dis a (List.mem_cons_of_mem _ h)
    refine ⟨fun z => ?_, q.2⟩
    rcases List.mem_append.mp (show a ∈ c ++ [p] from z) with z | z
    · exact q.1 z
    · rw [List.mem_singleton] at z; subst z; exact e.ne h
  · show (c ++ [p])[μ2.length]? = some p
    rw [← sl]; simp
theorem lcS_nox {gd : Sto → Bool} {ρ : Env} {c : Str} {ns : List Str} {vs : List D} {μ' : Sto} : ∀ {ds : List D} {μ : Sto}, lcS gd g tt te ρ ds μ ≠ .exc c ns vs μ'
  | [], μ, h => by
    unfold lcS at h
    split at h <;> cases h
  | d :: ds, μ, h => by
    unfold lcS at h
    split at h
    · split at h
      · rename_i ρ1 _
        cases e1 : (tt ρ1 μ).nox with
        | exc _ _ _ _ => cases e0 : tt ρ1 μ <;> (rw [e0] at e1; cases e1)
        | bad => rw [e1] at h; cases h
        | ok b μ1 =>
          rw [e1] at h
          have h : (if b = true then (te ρ1 μ1).nox.bind fun y μ2 => (lcS gd g tt te ρ ds μ2).nox.bind fun ys μ3 => .ok (y :: ys) μ3 else lcS gd g tt te ρ ds μ1) = R.exc c ns vs μ' := h
          split at h
          · cases e2 : (te ρ1 μ1).nox with
            | exc _ _ _ _ => cases e0 : te ρ1 μ1 <;> (rw [e0] at e2; cases e2)
            | bad => rw [e2] at h; cases h
            | ok y μ2 =>
              rw [e2] at h
              have h : ((lcS gd g tt te ρ ds μ2).nox.bind fun ys μ3 => R.ok (y :: ys) μ3) = R.exc c ns vs μ' := h
              cases e3 : lcS gd g tt te ρ ds μ2 with
              | exc _ _ _ _ => rw [e3] at h; cases h
              | bad => rw [e3] at h; cases h
              | ok ys μ3 => rw [e3] at h; cases h
          · exact lcS_nox h
      · cases h
    · cases h
/-- the list is made, item by item; Q is asked of it at the end -/
theorem lc_turns {vs : List Nat} {σ : L2.St} {Q : VK} {L1 : Lv} {H1 : Hp} {ρ : Env} {μ1 : Sto} {k : List D → Sto → R D} {it : List D × (Sto → Bool)} {J : It} {p : Addr} (hsl : ∀ i ∈ sl, i ∈ vs) (rs1 : RelS P H1 L1 σ ρ) (s1 : St3 P H1 L1 μ1)
    (q1 : Post P (WE W σ) L1 H1 (fun d L' H' => ∀ v, Rep P H' L' v d → Q v H') (if it.1.length ≤ sizeLine then (lcS it.2 g tt te (wipeE ρ vs) it.1 μ1).nox.bind k else .bad))
    (fin : ∀ (L1 : Lv) (H1 : Hp) (c : List Addr) (H2 : Hp) (p : Addr) (acc : List V) (ys : List D) (μ2 : Sto), LcEnd P L1 H1 c H2 p acc ys μ2 → Post P (WE W σ) L1 H1 (fun d L' H' => ∀ v, Rep P H' L' v d → Q v H') (k ys μ2) → Q (.ref p) H2)
    (gv : Gives P J it.1 it.2 L1 H1) (hp : H1 p = none) :
    ∃ I : Nat → Nat → Hp → Prop, (∃ m, I 0 m (upd H1 p (.lst []))) ∧ ∀ i m H, I i m H →
      (J.stop i H ∧ Q (.ref p) H) ∨ (J.go i H ∧ ∃ Nx : Hp → Prop, (∀ H', Nx H' → ∃ m', m' < m ∧ I (i + 1) m' H') ∧ ∀ x H', J.yld i H x H' → tVG P sl g x (wipe σ vs) H' fun σ2 H2 => wipe σ2 vs = wipe σ vs ∧ tVT P W0 tt σ2 H2 fun b H3 =>
        if b = true then tV P W0 te σ2 H3 fun y H4 => ∃ acc, H4 p = some (.lst acc) ∧ acc.length < sizeLine ∧ Nx (upd H4 p (.lst (acc ++ [y]))) else Nx H3) := by
  by_cases hz : it.1.length ≤ sizeLine
  case neg => rw [if_neg hz] at q1; exact q1.elim
  rw [if_pos hz] at q1
  cases et : lcS it.2 g tt te (wipeE ρ vs) it.1 μ1 with
  | exc _ _ _ _ => exact absurd et lcS_nox
  | bad => rw [et] at q1; exact q1.elim
  | ok total μf =>
    rw [et] at q1
    have q1 : Post P (WE W σ) L1 H1 (fun d L' H' => ∀ v, Rep P H' L' v d → Q v H') (k total μf) := q1
    obtain ⟨s2, x2⟩ := prv_new s1 hp
    have np : p ∉ L1.x := fun z => s1.new_not hp (.inr z)
    refine ⟨fun i m H => ∃ (c : List Addr) (acc : List V) (accD ys : List D) (μ : Sto), RelS P H ⟨c, p :: L1.x⟩ (wipe σ vs) (wipeE ρ vs) ∧ St3 P H ⟨c, p :: L1.x⟩ μ ∧ H p = some (.lst acc) ∧ Reps P H ⟨c, p :: L1.x⟩ acc accD ∧
        Ext0 L1 H1 ⟨c, p :: L1.x⟩ H ∧ (∀ a ∈ L1.x, H a = H1 a) ∧ Gives P J it.1 it.2 ⟨c, p :: L1.x⟩ H ∧ accD.length ≤ i ∧ lcS it.2 g tt te (wipeE ρ vs) (it.1.drop i) μ = .ok ys μf ∧ accD ++ ys = total ∧ m = it.1.length - i,
      ⟨_, L1.c, [], [], total, μ1, rs1.ext0 x2 |>.wipe vs, s2, upd_same, .nil, x2, fun a h => upd_ne (fun z => by subst z; exact np h), gv.ext x2, Nat.zero_le _, et, rfl, rfl⟩, ?_⟩
    rintro i m H3 ⟨c, acc, accD, ys, μ3, rs3, s3, hp3, ra3, x3, pv3, gv3, hl3, el3, ea3, rfl⟩
    cases e2 : it.1[i]? with
    | none =>
      rw [drop_none e2] at el3
      unfold lcS at el3
      by_cases cg : it.2 μ3 = true
      · rw [if_pos cg] at el3
        cases el3
        rw [List.append_nil] at ea3
        subst ea3
        exact .inl ⟨(gv3 _ _ _ i .refl s3 cg).2 e2, fin L1 H1 c H3 p acc accD _ ⟨hp, np, x3, pv3, s3, hp3, ra3⟩ q1⟩
      · rw [if_neg cg] at el3; cases el3
    | some d =>
      rw [drop_some e2] at el3
      unfold lcS at el3
      by_cases cg : it.2 μ3 = true
      case neg => rw [if_neg cg] at el3; cases el3
      rw [if_pos cg] at el3
      obtain ⟨hgo, hy⟩ := (gv3 _ _ _ i .refl s3 cg).1 d e2
      have hlt : i < it.1.length := (List.getElem?_eq_some_iff.mp e2).1
      refine .inr ⟨hgo, fun H => ∃ (c : List Addr) (acc : List V) (accD ys : List D) (μ : Sto), RelS P H ⟨c, p :: L1.x⟩ (wipe σ vs) (wipeE ρ vs) ∧ St3 P H ⟨c, p :: L1.x⟩ μ ∧ H p = some (.lst acc) ∧ Reps P H ⟨c, p :: L1.x⟩ acc accD ∧
          Ext0 L1 H1 ⟨c, p :: L1.x⟩ H ∧ (∀ a ∈ L1.x, H a = H1 a) ∧ Gives P J it.1 it.2 ⟨c, p :: L1.x⟩ H ∧ accD.length ≤ i + 1 ∧ lcS it.2 g tt te (wipeE ρ vs) (it.1.drop (i + 1)) μ = .ok ys μf ∧ accD ++ ys = total,
        fun H' ⟨c, acc, accD, ys, μ, a1, a2, a3, a4, a5, a6, a7, a8, a9, a10⟩ => ⟨it.1.length - (i + 1), by omega, c, acc, accD, ys, μ, a1, a2, a3, a4, a5, a6, a7, a8, a9, a10, rfl⟩, fun x H4 y4 => ?_⟩
      obtain ⟨gr, rx⟩ := hy x H4 y4
      have x4 : Ext P ⟨c, p :: L1.x⟩ H3 ⟨c, p :: L1.x⟩ H4 := Ext.grow s3 gr
      cases e3 : g d (wipeE ρ vs) μ3 with
      | none => rw [e3] at el3; cases el3
      | some ρ5 =>
        rw [e3] at el3
        dsimp only at el3
        refine ⟨⟨c, p :: L1.x⟩, wipeE ρ vs, μ3, d, ρ5, rs3.ext x4, s3.grow gr, rx, e3, fun σ5 rs5 w5 => ⟨by rw [w5 vs hsl, wipe_wipe], ?_⟩⟩
        refine ⟨⟨c, p :: L1.x⟩, ρ5, μ3, rs5, s3.grow gr, ?_⟩
        cases e6 : tt ρ5 μ3 with
        | exc _ _ _ _ => rw [e6] at el3; cases el3
        | bad => rw [e6] at el3; cases el3
        | ok b μ6 =>
          rw [e6] at el3
          have el3 : (if b = true then (te ρ5 μ6).nox.bind fun y μ2 => (lcS it.2 g tt te (wipeE ρ vs) (it.1.drop (i + 1)) μ2).nox.bind fun ys μ3 => R.ok (y :: ys) μ3 else lcS it.2 g tt te (wipeE ρ vs) (it.1.drop (i + 1)) μ6) = .ok ys μf := el3
          intro L6 H6 x6 s6
          obtain ⟨c6, xx6⟩ := L6
          have ex : xx6 = p :: L1.x := x6.px
          subst ex
          have x36 : Ext P ⟨c, p :: L1.x⟩ H3 ⟨c6, p :: L1.x⟩ H6 := x4.trans x6
          have hp6 : H6 p = some (.lst acc) := (x36.prv p List.mem_cons_self).trans hp3
          have pv6 : ∀ a ∈ L1.x, H6 a = H1 a := fun a h => (x36.prv a (List.mem_cons_of_mem _ h)).trans (pv3 a h)
          cases b with
          | false =>
            rw [if_neg Bool.false_ne_true] at el3 ⊢
            exact ⟨c6, acc, accD, ys, μ6, rs3.ext x36, s6, hp6, ra3.ext x36, x3.trans x36.toExt0, pv6, gv3.ext x36.toExt0, Nat.le_succ_of_le hl3, el3, ea3⟩
          | true =>
            rw [if_pos rfl] at el3 ⊢
            refine ⟨⟨c6, p :: L1.x⟩, ρ5, μ6, rs5.ext x6, s6, ?_⟩
            cases e7 : te ρ5 μ6 with
            | exc _ _ _ _ => rw [e7] at el3; cases el3
            | bad => rw [e7] at el3; cases el3
            | ok yd μ7 =>
              rw [e7] at el3
              have el3 : ((lcS it.2 g tt te (wipeE ρ vs) (it.1.drop (i + 1)) μ7).nox.bind fun ys μ3 => R.ok (yd :: ys) μ3) = .ok ys μf := el3
              cases e8 : lcS it.2 g tt te (wipeE ρ vs) (it.1.drop (i + 1)) μ7 with
              | exc _ _ _ _ => rw [e8] at el3; cases el3
              | bad => rw [e8] at el3; cases el3
              | ok zs μ8 =>
                rw [e8] at el3
                cases el3
                intro L7 H7 x7 s7 v rv
                obtain ⟨c7, xx7⟩ := L7
                have ex : xx7 = p :: L1.x := x7.px
                subst ex
                have x37 : Ext P ⟨c, p :: L1.x⟩ H3 ⟨c7, p :: L1.x⟩ H7 := x36.trans x7
                have hp7 : H7 p = some (.lst acc) := (x7.prv p List.mem_cons_self).trans hp6
                have hlen : acc.length = accD.length := ra3.length
                obtain ⟨s9, x9⟩ := prv_put (acc' := acc ++ [v]) s7 (p := p) List.mem_cons_self hp7
                refine ⟨acc, hp7, by omega, c7, acc ++ [v], accD ++ [yd], zs, μ7, (rs3.ext x37).ext0 x9, s9, upd_same, ((ra3.ext x37).append (.cons rv .nil)).ext0 x9, (x3.trans x37.toExt0).trans x9, fun a h => ?_, (gv3.ext x37.toExt0).ext x9, ?_, e8, ?_⟩
                · have ne : a ≠ p := fun z => by subst z; exact np h
                  rw [upd_ne ne]
                  exact (x37.prv a (List.mem_cons_of_mem _ h)).trans (pv3 a h)
                · rw [List.length_append]; simp; exact hl3
                · rw [List.append_assoc]; exact ea3
theorem tLc_of {vs : List Nat} {σ : L2.St} {H : Hp} {Q : VK} {L : Lv} {ρ : Env} {μ : Sto} {k : List D → Sto → R D} (hsl : ∀ i ∈ sl, i ∈ vs) (rs : RelS P H L σ ρ) (st : St3 P H L μ)
    (q : Post P (WE W σ) L H (fun d L' H' => ∀ v, Rep P H' L' v d → Q v H') ((fi ρ μ).bind fun it μ1 => if it.1.length ≤ sizeLine then (lcS it.2 g tt te (wipeE ρ vs) it.1 μ1).nox.bind k else .bad))
    (fin : ∀ (L1 : Lv) (H1 : Hp) (c : List Addr) (H2 : Hp) (p : Addr) (acc : List V) (ys : List D) (μ2 : Sto), LcEnd P L1 H1 c H2 p acc ys μ2 → Post P (WE W σ) L1 H1 (fun d L' H' => ∀ v, Rep P H' L' v d → Q v H') (k ys μ2) → Q (.ref p) H2) :
    tLc (tVI P W fi) (tVG P sl g) (tVT P W0 tt) (tV P W0 te) vs σ H Q := by
  refine ⟨L, ρ, μ, rs, st, ?_⟩
  cases e : fi ρ μ with
  | exc c ns vs μ1 => rw [e] at q; exact q
  | bad => rw [e] at q; exact q
  | ok it μ1 =>
    rw [e] at q
    intro L1 H1 x1 s1 J gv p hp
    have q1 := Post.ext x1 q
    have q1 : Post P (WE W σ) L1 H1 (fun d L' H' => ∀ v, Rep P H' L' v d → Q v H') (if it.1.length ≤ sizeLine then (lcS it.2 g tt te (wipeE ρ vs) it.1 μ1).nox.bind k else .bad) := q1
    exact lc_turns hsl (rs.ext x1) s1 q1 fin gv hp
theorem ve_lc (hc : X.calm = true) (hN : X.N.Nodup) (hi : VI P W X tg iter fi) (ok : BlkOk X.N X.env.scope scope own)
    (hg : ∀ (s : Shared) (H : Hp) (C : Addr) (cl : List (Str × Addr)) (fp : List Addr), VG P (X.blk s H scope (compEnvC scope cl C X.env) fp) tg sl g)
    (ht : ∀ (s : Shared) (H : Hp) (C : Addr) (cl : List (Str × Addr)) (fp : List Addr), PTs (X.blk s H scope (compEnvC scope cl C X.env) fp) ifs (tVT P W0 tt))
    (he : ∀ (s : Shared) (H : Hp) (C : Addr) (cl : List (Str × Addr)) (fp : List Addr), VE P W0 (X.blk s H scope (compEnvC scope cl C X.env) fp) elt te) (hsl : ∀ i ∈ sl, i ∈ own.map (·.2) := by decide) (hs : ∀ x, foldedSetIterable iter X.env x = pure x := by intro _; rfl) :
    VE P W X (.ListComp elt [⟨tg, iter, ifs, 0⟩] scope pos) (eLc (own.map (·.2)) fi g tt te) :=
  (pe_lc hc hN hi ok hg ht he hs).imp3 fun σ H Q ⟨L, ρ, μ, rs, st, q⟩ => tLc_of hsl rs st q fun L1 H1 c H2 p acc ys μ2 e q2 =>
    let ⟨a1, a2, a3⟩ := e.pure; q2 _ _ a1 a2 _ a3
theorem vs_setLc {i : Nat} {y : Str} {py spos : Pos} (hc : X.calm = true) (hN : X.N.Nodup) (hy : X.N[i]? = some y) (hyl : X.env.scope.names.lookup y = some .local)
    (hsw : swapsWith (.ListComp elt [⟨tg, iter, ifs, 0⟩] scope pos) (some (.Name y py)) spos.line X.env = pure true) (hi : VI P W X tg iter fi) (ok : BlkOk X.N X.env.scope scope own)
    (hg : ∀ (s : Shared) (H : Hp) (C : Addr) (cl : List (Str × Addr)) (fp : List Addr), VG P (X.blk s H scope (compEnvC scope cl C X.env) fp) tg sl g)
    (ht : ∀ (s : Shared) (H : Hp) (C : Addr) (cl : List (Str × Addr)) (fp : List Addr), PTs (X.blk s H scope (compEnvC scope cl C X.env) fp) ifs (tVT P W0 tt))
    (he : ∀ (s : Shared) (H : Hp) (C : Addr) (cl : List (Str × Addr)) (fp : List Addr), VE P W0 (X.blk s H scope (compEnvC scope cl C X.env) fp) elt te) (hsl : ∀ i ∈ sl, i ∈ own.map (·.2) := by decide) (hs : ∀ x, foldedSetIterable iter X.env x = pure x := by intro _; rfl) :
    VS P W X (.Assign [.Name y py] (.ListComp elt [⟨tg, iter, ifs, 0⟩] scope pos) spos) (sSet i (eLc (own.map (·.2)) fi g tt te)) :=
  (ps_setLc hc hN hy hyl hsw hi ok hg ht he hs).imp3 fun D σ H ⟨L, ρ, μ, rs, st, q⟩ => by
    refine tLc_of (k := fun ys μ2 => .ok (.lst ys) μ2) (Q := fun x H1 => gName i x σ H1 D.nx) hsl rs st ?_ fun L1 H1 c H2 p acc ys μ2 e q2 => ?_
    · have q : PostS P W D L H ((eLc (own.map (·.2)) fi g tt te ρ μ).thn ρ fun d μ1 => .nx (ρ.set i (some d)) μ1) := q
      cases e : eLc (own.map (·.2)) fi g tt te ρ μ with
      | bad => rw [e] at q; exact q.elim
      | exc c ns vs μ1 =>
        rw [e] at q
        show Post P (WE W σ) L H _ (eLc (own.map (·.2)) fi g tt te ρ μ)
        rw [e]
        exact fun C dx L' H' hc x s f => q σ C dx L' H' hc x s (rs.ext x) f
      | ok d μ1 =>
        rw [e] at q
        show Post P (WE W σ) L H _ (eLc (own.map (·.2)) fi g tt te ρ μ)
        rw [e]
        exact fun L' H' x s v rv => q _ L' H' x s ((rs.ext x).set rv)
    · obtain ⟨a1, a2, a3⟩ := e.pure
      exact q2 _ _ a1 a2 _ a3
def tYesS : ST := fun _ μ => .ok true μ
theorem vts_nil {X : Cx} : PTs X [] (tVT P W0 tYesS) := ⟨fun pins s σ H Q I ⟨L, ρ, μ, rs, st, q⟩ => pts_nil.run pins s σ H Q I (q L H .refl st)⟩
theorem vts_one {X : Cx} {c : Expr} {t : ST} (h : VT P W0 X c t) : PTs X [c] (tVT P W0 t) := pts_one h
end
end L3

namespace L3
open PySem PySem.Spec PyProof.Rows L2
/-! ### a def by its body -/
def fnF (n : Nat) (fs : SS) : List D → Sto → R D := fun ds μ => match fs (ds.map some ++ List.replicate (n - ds.length) none) μ with
  | .nx _ μ' => .ok .non μ'
  | .rt d μ' => .ok d μ'
  | .exc c ns vs _ μ' => .exc c ns vs μ'
  | _ => .bad
theorem start_rel {P : Pm} {H : Hp} {L : Lv} {N : List Str} {vs : List V} {ds : List D} (r : Reps P H L vs ds) : RelS P H L (L2.start N vs) (ds.map some ++ List.replicate (N.length - ds.length) none) := by
  have hl := r.length
  refine ⟨by simp [L2.start, hl], fun i d h => ?_⟩
  by_cases hi : i < ds.length
  · rw [List.getElem?_append_left (by simpa using hi), List.getElem?_map] at h
    cases e : ds[i]? with
    | none => rw [e] at h; cases h
    | some d' =>
      rw [e] at h
      cases h
      obtain ⟨v, h1, h2⟩ := r.get e
      refine ⟨v, ?_, h2⟩
      unfold L2.start
      rw [List.getElem?_append_left (by rw [List.length_map, hl]; exact hi), List.getElem?_map, h1]
      rfl
  · rw [List.getElem?_append_right (by simpa using hi), List.getElem?_replicate] at h
    split at h <;> cases h
section
variable {P : Pm} {Pr : Program} {w : World} {mg : Str → Option Value} {base : Heap} {x qual : Str} {params : Arguments} {body : List Stmt} {scope : Scope} {dvs : List V} {kws : List (Str × V)} {f : Addr} {fd : FuncData} {N ps : List Str} {k n : Nat}
theorem fn_ok {fs : SS} (F : FunD P.K x qual params body scope dvs kws f fd) (S : FnScope N ps scope) (hn : ps.length = n)
    (hb : ∀ (cdv : Value) (A : Around) (outer : List _root_.PySem.Env) (s : Shared) (H : Hp) (E : XK), Room k (A.deeper (envOfC qual scope s.heap.objs.size f cdv)) →
      VSs P (fun cls d _ H => E cls d H) (cxOf (L2.CX Pr w) Pr w P.K mg base N qual scope f cdv A outer s H E) body fs) :
    FnOk Pr w P.K mg base (L2.CX Pr w) (k + 1) f fd ps (spF P n (fnF N.length fs)) := by
  refine F.ok S (fun vs H Q E h => by rw [hn]; exact h.1) fun cdv A outer s H vs Q E hr h => ?_
  obtain ⟨_, L, ds, μ, r, st, q⟩ := h
  refine ⟨_, hb cdv A outer s H E hr, L, _, μ, start_rel r, st, ?_⟩
  unfold fnF at q
  cases e : fs (ds.map some ++ List.replicate (N.length - ds.length) none) μ with
  | nx ρ μ' => rw [e] at q; exact fun σ' L' H' x s' rs' => q L' H' x s' _ .non
  | rt d μ' => rw [e] at q; exact fun v L' H' x s' r' => q L' H' x s' v r'
  | bk ρ μ' => rw [e] at q; exact q.elim
  | ct ρ μ' => rw [e] at q; exact q.elim
  | exc c ns vs ρ μ' => rw [e] at q; exact fun σ' C dx L' H' hc x s' rs' f => q C dx L' H' hc x s' f
  | bad => rw [e] at q; exact q.elim
end
theorem fn_bad {P : Pm} {Pr : Program} {w : World} {mg : Str → Option Value} {base : Heap} {CX : CXT} {f : Addr} {fd : FuncData} {ps : List Str} {k n : Nat} (hn : ps.length = n) : FnOk Pr w P.K mg base CX k f fd ps (spF P n fun _ _ => .bad) :=
  ⟨fun vs H Q E h => by rw [hn]; exact h.1, fun A outer s H args us vs Q E hr e0 hb hv h => by
    obtain ⟨_, L, ds, μ, r, st, q⟩ := h
    exact q.elim⟩
/-! ### raising -/
/-- what an exception class's __init__ leaves: the fields ns with the values mk of the arguments -/
def spXI (K : PySem.W.Frag) (n : Nat) (ns : List Str) (mk : List V → List V) : Sp := fun vs H Q _ => ∃ (a C : Addr) (args : List V), vs = .ref a :: args ∧ args.length = n ∧ OexC K C ∧ (∀ f ∈ ns, PySem.W.findIn K (.ref C) f = some none) ∧ H a = some (exo a C none) ∧
  ∀ (dx : Addr) (H' : Hp), H dx = none → dx ≠ a → H' a = some (exo a C (some dx)) → H' dx = some (exd dx (ns.zip (mk args))) → (∀ b, b ≠ a → b ≠ dx → H' b = H b) → Q .non H'
/-- how an exception's fields come of its arguments -/
structure XMk (n : Nat) (ns : List Str) (mkV : List V → List V) (mkD : List D → List D) : Prop where
  len : ∀ vs : List V, vs.length = n → (mkV vs).length = ns.length
  rel : ∀ (P : Pm) (H : Hp) (L : Lv) (vs : List V) (ds : List D), Reps P H L vs ds → ds.length = n → Reps P H L (mkV vs) (mkD ds)
def sRaise (c : Str) (n : Nat) (ns : List Str) (mk : List D → List D) (fa : SA) : SS := fun ρ μ => (fa ρ μ).thn ρ fun ds μ1 => if ds.length = n then .exc c ns (mk ds) ρ μ1 else .bad
section
variable {P : Pm} {W : WX} {X : Cx} {CXc : CXT} {x c : Str} {C fI : Addr} {k n : Nat} {fd : FuncData} {ps : List Str} {ns : List Str} {mkV : List V → List V} {mkD : List D → List D} {pos p ppos : Pos} {e : Expr} {es : List Expr} {fa : SA}
theorem tMk_of {D : Ends} {σ : L2.St} {H : Hp} (M : XMk n ns mkV mkD) (T : OexC X.K C) (hf : ∀ f ∈ ns, PySem.W.findIn X.K (.ref C) f = some none) (hcls : P.cls c = some C) (hn : n ≤ 1000) (h : tS P W (sRaise c n ns mkD fa) D σ H) :
    tMkO C (spXI X.K n ns mkV) [] (tVA P W fa) σ H (fun cls d H' => W cls d σ H') := by
  obtain ⟨L, ρ, μ, rs, st, q⟩ := h
  refine tVA.firstS rs st q fun ds μ1 vs L1 H1 x1 s1 r1 rs1 q1 => ?_
  by_cases cl : ds.length = n
  case neg => rw [if_neg cl] at q1; exact q1.elim
  rw [if_pos cl] at q1
  have hl : vs.length = n := r1.length.trans cl
  refine ⟨by omega, fun a na => ⟨a, C, vs, by rw [List.append_nil], hl, T, hf, upd_same, fun dx H' nd ne e1 e2 e3 => ⟨rfl, dx, _, e1, e2, ?_, ?_⟩⟩⟩
  · rw [upd_ne ne] at nd; exact nd
  · have nd1 : H1 dx = none := by rw [upd_ne ne] at nd; exact nd
    have gr : ∀ b o, H1 b = some o → (upd (L2.del H' a) dx (.xd (ns.zip (mkV vs)))) b = some o := fun b o e => by
      have h1 : b ≠ dx := ne_of_none e nd1
      have h2 : b ≠ a := ne_of_none e na
      rw [upd_ne h1, del_ne h2, e3 b h2 h1, upd_ne h2]
      exact e
    have x2 : Ext P L1 H1 L1 _ := Ext.grow s1 gr
    exact q1 σ C dx L1 _ hcls x2 (s1.grow gr) (rs1.ext x2) ⟨mkV vs, upd_same, (M.len vs hl).symm, (M.rel P _ _ _ _ (r1.ext x2) cl)⟩
theorem vs_raise (hcalm : X.calm = true) (tk : Takes X W) (T : OexC X.K C) (iC : PySem.W.findIn X.K (.ref C) "__init__" = some (some (.ref fI))) (tI : PySem.W.typeIn X.K (.ref fI) = some (.type "function"))
    (F1 : FnOk X.prog X.w X.K X.mg X.base CXc k fI fd ps (spXI X.K n ns mkV)) (hr : Room (k + 1) X.A) (hb : Binds X.K fd ps []) (hx : Passes CXc X (fun _ _ _ => False)) (hg : Gl X x) (hm : X.mg x = some (.ref C)) (M : XMk n ns mkV mkD)
    (hf : ∀ f ∈ ns, PySem.W.findIn X.K (.ref C) f = some none) (hcls : P.cls c = some C) (ha : VA P W X (e :: es) fa) (hn : n ≤ 1000 := by decide)
    (hdb : (x == ("__debug__" : Str)) = false := by decide) (he : starEach (e :: es) X.env = (false, eval e X.env) :: starEach es X.env := by rfl) (hpl : (backTo pos (starEach es X.env)).any (·.1) = false := by rfl) :
    VS P W X (.Raise (some (.Call (.Name x p) (e :: es) [] pos)) none ppos) (sRaise c n ns mkD fa) :=
  (ps_raise hcalm tk (pmk_oex T iC tI F1 hr hb .nil hx hg hm ha hdb he hpl)).imp3 fun D σ H h => tMk_of M T hf hcls hn h
end
/-! ### the __init__ of an exception class: self.word = .., self.f = f -/
section
variable {P : Pm} {Pr : Program} {w : World} {K : PySem.W.Frag} {mg : Str → Option Value} {base : Heap} {qual : Str} {params : Arguments} {body : List Stmt} {scope : Scope} {f : Addr} {fd : FuncData} {CXc : CXT}
theorem xinit1 {wd fw f1 x1 : Str} {p1 p2 p3 p4 q1 q2 q3 q4 : Pos} {k0 : Nat} (F : FunD K "__init__" qual params body scope [] [] f fd) (S : FnScope ["self", x1] ["self", x1] scope)
    (hb : body = [.Assign [.Attribute (.Name "self" p1) fw p2] (.Constant (.str wd) k0 p3) p4, .Assign [.Attribute (.Name "self" q1) f1 q2] (.Name x1 q3) q4]) (hd : (x1 == ("__debug__" : Str)) = false := by decide) (hcd : (x1 == ("__classdict__" : Str)) = false := by decide) :
    FnOk Pr w K mg base CXc 1 f fd ["self", x1] (spXI K 1 [f1, fw] fun vs => vs ++ [.str wd]) := by
  subst hb
  refine F.ok S (fun vs H Q E ⟨a, C, args, e, hl, _⟩ => by rw [e]; simp [hl]) fun cdv A outer s H vs Q E hr h => ?_
  obtain ⟨a, C, args, rfl, hl, T, hf, ha, q⟩ := h
  obtain ⟨y, e0⟩ := List.length_eq_one_iff.mp hl
  subst e0
  have v0 : Vis scope "self" := by rcases S.par "self" (by simp) with z | z; exact .inl z; exact .inr (.inl z)
  have v1 : Vis scope x1 := by rcases S.par x1 (by simp) with z | z; exact .inl z; exact .inr (.inl z)
  refine ⟨_, pss_cons (ps_ost (pe_var (i := 0) rfl v0) pe_str) (pss_one (ps_ost (pe_var (i := 0) rfl v0) (pe_var (i := 1) rfl v1 hd hcd))), ?_⟩
  refine ⟨_, rfl, a, C, rfl, T, hf fw (by simp), .inl ⟨ha, fun dx n ne => ?_⟩⟩
  refine ⟨_, rfl, _, rfl, a, C, rfl, T, hf f1 (by simp), .inr ⟨dx, [(fw, .str wd)], upd_same, by rw [upd_ne ne, upd_same], by simp, q dx _ n ne ?_ ?_ ?_⟩⟩
  · rw [upd_ne ne.symm, upd_same]
  · rw [upd_same]; rfl
  · intro b h1 h2
    rw [upd_ne h2, upd_ne h1, upd_ne h2]
end
theorem xmk1 {f1 fw wd : Str} : XMk 1 [f1, fw] (fun vs => vs ++ [.str wd]) (fun ds => ds ++ [.str wd]) := ⟨fun vs h => by simp [h], fun P H L vs ds r h => r.append (.cons (.str _) .nil)⟩
theorem Reps.rev {P : Pm} {H : Hp} {L : Lv} : ∀ {vs : List V} {ds : List D}, Reps P H L vs ds → Reps P H L vs.reverse ds.reverse
  | _, _, .nil => .nil
  | _, _, .cons h r => by rw [List.reverse_cons, List.reverse_cons]; exact (Reps.rev r).append (.cons h .nil)
/-- what a class must be so that its instances can be raised: checked of the written part -/
def oexC1 (C : Addr) (oc : Value) (dt : Data) (sl : List (Option Value)) : Bool := match oc, dt, sl with
  | .type t, .cls cd, [_, _, _, _, some (.builtin n), _] => (match cd.mro with
    | .ref C' :: bm => decide (t = "type") && (decide (C' = C) && (decide (n = "ValueError.__new__") && (cd.hasDict && (!cd.hasDel && PySem.HandSPX.refsVE bm))))
    | _ => false)
  | _, _, _ => false
theorem oexC1_ok {C : Addr} {oc : Value} {dt : Data} {sl : List (Option Value)} (h : oexC1 C oc dt sl = true) : ∃ (cd : ClassData) (bm : List Value) (s0 s1 s2 s3 s5 : Option Value),
    oc = .type "type" ∧ dt = .cls cd ∧ sl = [s0, s1, s2, s3, some (.builtin "ValueError.__new__"), s5] ∧ cd.mro = .ref C :: bm ∧ cd.hasDict = true ∧ cd.hasDel = false ∧ PySem.HandSPX.refsVE bm = true := by
  unfold oexC1 at h
  split at h
  · rename_i t cd s0 s1 s2 s3 n s5
    split at h
    · rename_i C' bm hm
      simp only [Bool.and_eq_true, decide_eq_true_eq, Bool.not_eq_true'] at h
      obtain ⟨g0, g1, g2, g3, g4, g5⟩ := h
      subst g0 g1 g2
      exact ⟨cd, bm, s0, s1, s2, s3, s5, rfl, rfl, rfl, hm, g3, g4, g5⟩
    · cases h
  · cases h
def oexB (K : PySem.W.Frag) (C : Addr) : Bool := (match K.lookup C with
  | some o => oexC1 C o.cls o.data o.slots.toList
  | none => false) && (decide (PySem.W.findIn K (.ref C) "__setattr__" = some (some (.builtin "object.__setattr__"))) && (decide (PySem.W.subIn K (.ref C) (.type "BaseException") = some true) && (decide (PySem.W.typeIn K (.ref C) = some (.type "type")) && PySem.W.keepIn K (.ref C))))
theorem oexB_ok {K : PySem.W.Frag} {C : Addr} (h : oexB K C = true) : OexC K C := by
  obtain ⟨h1, h⟩ := Bool.and_eq_true_iff.mp h
  obtain ⟨h2, h⟩ := Bool.and_eq_true_iff.mp h
  obtain ⟨h3, h⟩ := Bool.and_eq_true_iff.mp h
  obtain ⟨h4, h5⟩ := Bool.and_eq_true_iff.mp h
  refine ⟨?_, of_decide_eq_true h2, of_decide_eq_true h3, of_decide_eq_true h4, h5⟩
  cases q : K.lookup C with
  | none => rw [q] at h1; cases h1
  | some o =>
    rw [q] at h1
    obtain ⟨cd, bm, s0, s1, s2, s3, s5, e1, e2, e3, e4, e5, e6, e7⟩ := oexC1_ok h1
    obtain ⟨oc, od, dt, sl⟩ := o
    have e1 : oc = _ := e1
    have e2 : dt = _ := e2
    have e3 : sl.toList = _ := e3
    obtain ⟨c1, c2, c3, c4, c5, c6, c7, c8, c9, c10, c11⟩ := cd
    have e4 : c3 = .ref C :: bm := e4
    have e5 : c6 = true := e5
    have e6 : c11 = false := e6
    have es : sl = #[s0, s1, s2, s3, some (.builtin "ValueError.__new__"), s5] := by
      apply Array.ext'
      simpa using e3
    subst e1 e2 e4 e5 e6 es
    exact ⟨_, _, _, _, _, _, _, _, _, _, _, _, _, _, _, rfl, e7⟩
end L3

namespace L3
open PySem PySem.Spec PyProof.Rows L2
/-! ### several except clauses, each as a name -/
/-- behind a suite the name in slot i is gone -/
def Ends.gone (D : Ends) (i : Nat) : Ends := { nx := fun σ H => D.nx (σ.set i none) H, rt := D.rt, bk := fun σ H => D.bk (σ.set i none) H, ct := fun σ H => D.ct (σ.set i none) H }
abbrev Suite := Addr → Value → Option Addr → TS
def wManyA (K : PySem.W.Frag) (i : Nat) (Wout : WX) (D : Ends) : List (Value × Suite) → WX
  | [] => Wout
  | (c, ts) :: r => fun cls d σ H => ∃ b, PySem.W.exmOne K cls c = some b ∧ (b = true → ∀ a, H a = none → ts a cls d (Ends.gone D i) (σ.set i (some (.ref a))) H) ∧ (b = false → wManyA K i Wout D r cls d σ H)
inductive HdsA (X : Cx) (n : Str) : List ExceptHandler → List (Value × Suite) → Prop
  | nil : HdsA X n [] []
  | cons {x : Str} {c : Value} {ts : Suite} {st : Stmt} {sts : List Stmt} {p1 p2 : Pos} {hds : List ExceptHandler} {l : List (Value × Suite)} (nm : Names X x c)
      (su : ∀ (a : Addr) (oe : Obj) (cls : Value) (d : Option Addr) (pn : List (Addr × Obj)), Zc cls d oe → (∃ vs, oe.data = .fields vs) → PSs (X.suite a ((a, oe) :: pn)) (st :: sts) (ts a cls d)) (more : HdsA X n hds l) :
      HdsA X n (.ExceptHandler (some (.Name x p1)) (some n) (st :: sts) p2 :: hds) ((c, ts) :: l)
/-- an exception that the frame of X has met: the object is a, noted over the ground B; without it the state is good -/
structure Met (X : Cx) (pins : List (Addr × Obj)) (σ : L2.St) (H : Hp) (a : Addr) (B : Heap) (cls : Value) (d : Option Addr) (s : Shared) : Prop where
  fly : HandSPX.FlyingZ B (X.env :: X.outer) a (Zc cls d) s.heap
  inv : Inv X pins σ H s
  free : H a = none
  notL : a ≠ X.env.locals
  notF : a ∉ X.fs
  /-- whatever state is reached from here by the frames' slots alone is good, too -/
  again : ∀ h, HandSPX.FlyingZ B (X.env :: X.outer) a (Zc cls d) h → s.heap.UpToSlots h → Inv X pins σ H { s with heap := h }
  /-- and if it is let go on, it is in the air of X -/
  air : ∀ h (W : WX), X.stack = X.env :: X.outer → HandSPX.HeldZ B (X.env :: X.outer) a (Zc cls d) X.env.locals h → s.heap.UpToSlots h → W cls d σ H → XE X W (.ref a) { s with heap := h }
section
variable {X : Cx} {n : Str} {i : Nat} {pins : List (Addr × Obj)} {Wout : WX} {D : Ends} {σ : L2.St} {H : Hp} {a : Addr} {B : Heap} {cls : Value} {d : Option Addr} {s : Shared}
/-- the name of the clause's class, looked up where the exception is handled -/
theorem clause_name {x : Str} {c : Value} {p1 : Pos} {oe : Obj} {pn : List (Addr × Obj)} {E : Value → Shared → Prop} {Q : Value → Shared → Prop} (nm : Names X x c) (S : Inv (X.suite a ((a, oe) :: pn)) [] σ H s) (q : Q c s) :
    wpAny (model X.prog X.w) (X.A.mark (some (.ref a))) (eval (.Name x p1) X.env) Q E s := by
  rcases nm with ⟨gl, nd, inMod | ⟨notMod, blt, nn⟩⟩
  · exact ld_glob (X := X.suite a ((a, oe) :: pn)) S gl inMod q nd
  · exact ld_blt (X := X.suite a ((a, oe) :: pn)) S gl notMod blt q nn nd
/-- no clause took it: it goes on -/
theorem clause_none (hs : X.stack = X.env :: X.outer) (hf : X.env.frame = some X.env.locals) (tk : Takes X Wout) (m : Met X pins σ H a B cls d s) (w : Wout cls d σ H) :
    wpAny (model X.prog X.w) X.A (handleBy (.ref a) X.env []) (SP X pins D) X.xe s := by
  refine wpAny_handleBy_nil ?_
  have thrown : wpAny (model X.prog X.w) X.A (setFlight (.ref a) X.env.frame) (fun _ s2 => wpAny (model X.prog X.w) X.A (throw (.ref a) : Sem Flow) (SP X pins D) X.xe s2) X.xe s := by
    rw [hf]
    exact HandSPX.setFlight_upZ m.fly fun h2 held up => wpAny_throw (tk _ _ (m.air h2 Wout hs held up w))
  rcases id m.fly with ⟨_, _, _, _, _, tb, _, _, atE, _, isF, one, _⟩
  unfold PySem.passOn
  refine wpAny_bind (wpAny_field atE isF one ?_)
  have notNone : ¬ ((Value.ref tb == Value.none) = true) := by simp
  rw [if_neg notNone]
  first
    | exact wpAny_bind (wpAny_pure (wpAny_bind thrown))
    | exact wpAny_bind thrown
/-- a clause's suite, and the name goes -/
theorem clause_suite {st : Stmt} {sts : List Stmt} {p2 : Pos} {ts : Suite} {oe : Obj} (hN : X.N.Nodup) (hi : X.N[i]? = some n) (loc : X.env.kindOf n = some .local) (ok : X.Ok)
    (su : PSs (X.suite a ((a, oe) :: (X.pn ++ pins))) (st :: sts) (ts a cls d)) (S : Inv (X.suite a ((a, oe) :: (X.pn ++ pins))) [] (σ.set i (some (.ref a))) H s) (asks : ts a cls d (Ends.gone D i) (σ.set i (some (.ref a))) H) :
    wpAny (model X.prog X.w) (X.A.mark (some (.ref a))) (execs (st :: sts) X.env) (fun f s2 => wpAny (model X.prog X.w) X.A (do bindName X.env n .none; unbindBehindTheSuite X.env n p2) (fun _ s3 => SP X pins D f s3) X.xe s2) (fun _ _ => False) s := by
  refine wpAny_mono (su.run [] s _ H (Ends.gone D i) S asks) (fun f s2 got => ?_) fun _ _ z => z.elim
  match f, got with
  | .next, ⟨_, _, J, q⟩ => exact gone_ok (J.unsuite ok) hN hi loc fun _ J2 => ⟨_, _, J2, q⟩
  | .brk, ⟨_, _, J, q⟩ => exact gone_ok (J.unsuite ok) hN hi loc fun _ J2 => ⟨_, _, J2, q⟩
  | .cont, ⟨_, _, J, q⟩ => exact gone_ok (J.unsuite ok) hN hi loc fun _ J2 => ⟨_, _, J2, q⟩
  | .ret u, ⟨_, _, _, J, r, q⟩ => exact gone_ok (J.unsuite ok) hN hi loc fun _ J2 => ⟨_, _, _, J2, r, q⟩
/-- the clauses, one after the other -/
theorem clauses (hs : X.stack = X.env :: X.outer) (hf : X.env.frame = some X.env.locals) (hN : X.N.Nodup) (hi : X.N[i]? = some n) (loc : X.env.kindOf n = some .local) (tk : Takes X Wout) (ok : X.Ok) (m : Met X pins σ H a B cls d s) :
    ∀ {hds : List ExceptHandler} {l : List (Value × Suite)}, HdsA X n hds l → wManyA X.K i Wout D l cls d σ H → wpAny (model X.prog X.w) X.A (handleBy (.ref a) X.env hds) (SP X pins D) X.xe s
  | _, _, .nil, w => clause_none hs hf tk m w
  | _, _, .cons nm su more, ⟨b, isOne, yes, no⟩ => by
    obtain ⟨oe, vs, atE, hz, isF⟩ := m.fly.there
    have S := m.inv.suite atE isF m.free m.notL m.notF
    refine wpAny_handleBy_cons (codeAny_handlers_test (clause_name nm S ?_)) (fun z => by cases z)
    have cl : PySem.W.Looks (model X.prog X.w) s.heap (typeOf (.ref a)) cls := fun A Q E s' k q => wpAny_typeOf_ref (k _ _ atE) (by rw [hz.1]; exact q)
    refine (PySem.W.exm_one (M := model X.prog X.w) m.inv.kIn cl isOne).here ?_
    match b, yes, no with
    | false, _, no => exact clauses hs hf hN hi loc tk ok m more (no rfl)
    | true, yes, _ =>
      refine codeAny_handlers_suite_as (HandSPX.lands_againZ m.fly fun h2 fly2 up2 => ?_)
      obtain ⟨oe2, vs2, atE2, hz2, isF2⟩ := fly2.there
      have S2 := (m.again h2 fly2 up2).suite atE2 isF2 m.free m.notL m.notF
      exact store_ok (X := X.suite a ((a, oe2) :: (X.pn ++ pins))) (v := .ref a) S2 hN hi (.inl loc) rfl (fun s3 S3 => wpAny_mono (clause_suite hN hi loc ok (su a oe2 cls d (X.pn ++ pins) hz2 ⟨_, isF2⟩) S3 (yes rfl a m.free)) (fun _ _ q => q) fun _ _ z => z.elim) (.inr loc)
end
end L3

namespace L3
open PySem PySem.Spec PyProof.Rows L2
/-! ### a def that asks what it was handed, and tells what came: told or no, by the word -/
def lookD (f : Str) : List Str → List D → Option D
  | n :: ns, v :: vs => if f = n then some v else lookD f ns vs
  | _, _ => none
theorem look_rep {P : Pm} {H : Hp} {L : Lv} {f : Str} {d : D} : ∀ {ns : List Str} {vs : List V} {ds : List D}, Reps P H L vs ds → ns.length = vs.length → lookD f ns ds = some d → ∃ v, (ns.zip vs).lookup f = some v ∧ Rep P H L v d
  | [], _, _, _, _, h => by cases h
  | _ :: _, _, _, .nil, hl, _ => by simp at hl
  | n :: ns, _, _, .cons (v := v) (vs := vs) r rr, hl, h => by
    unfold lookD at h
    rw [List.zip_cons_cons, List.lookup_cons]
    by_cases e : f = n
    · rw [if_pos e] at h
      cases h
      have e2 : (f == n) = true := by simp [e]
      rw [e2]
      exact ⟨_, rfl, r⟩
    · rw [if_neg e] at h
      have e2 : (f == n) = false := by simp [e]
      rw [e2]
      exact look_rep rr (by simpa using hl) h
def eTried (caught : Str → Bool) (f : SE) : SE := fun ρ μ => match f ρ μ with
  | .ok d μ1 => .ok (.tup [.str "told", d]) μ1
  | .exc c ns vs μ1 => if caught c = true then (match lookD "word" ns vs with
    | some d => .ok (.tup [.str "no", d]) μ1
    | none => .bad) else .bad
  | .bad => .bad
/-- err.f where the class is not known beforehand -/
theorem pe_xfU {X : Cx} {a : Addr} {oe : Obj} {cls : Value} {d : Option Addr} {pn : List (Addr × Obj)} {e : Expr} {te : TE} {pos : Pos} {n : Str} (hz : Zc cls d oe) (hf : ∃ vs, oe.data = .fields vs) (he : PE (X.suite a ((a, oe) :: pn)) e te) (hb : attributeBase e n X.env (eval e X.env) = eval e X.env := by rfl) :
    PE (X.suite a ((a, oe) :: pn)) (.Attribute e n pos) (fun σ H Q => ∃ C, XfC X.K C ∧ PySem.W.findIn X.K (.ref C) n = some none ∧ tXf a cls d C n te σ H Q) :=
  ⟨fun pins s σ H Q I ⟨_, T, hn, asks⟩ => (pe_xf T hn hz hf he hb).run pins s σ H Q I asks⟩
/-- a wish may lean on how many slots there are -/
theorem takes_len {X : Cx} {W : WX} (tk : Takes X W) : Takes X (fun cls d σ H => σ.length = X.N.length → W cls d σ H) := fun u s' got =>
  let ⟨a, B, sI, pins, σ, H, cls, d, e, I, g, up, sky, na, os, ag, w⟩ := got
  tk u s' ⟨a, B, sI, pins, σ, H, cls, d, e, I, g, up, sky, na, os, ag, w I.len⟩
section
variable {X : Cx}
end
section
variable {P : Pm} {W : WX} {X : Cx}
end
end L3

namespace L3
open PySem PySem.Spec PyProof.Rows L2
/-! ### a cell is written -/
section
variable {P : Pm} {H : Hp} {L : Lv} {μ : Sto}
theorem cell_write {k : Nat} {a : Addr} {o o' : HO} {m' : MO} (s : St3 P H L μ) (hk : L.c[k]? = some a) (ho : H a = some o) (hnt : ∀ ps, o ≠ .tbl ps) (hne : ∀ φ, o ≠ .ext φ) (hm : Ext0 L H L (upd H a o') → RepM P (upd H a o') L a m') :
    Ext P L H L (upd H a o') ∧ St3 P (upd H a o') L (μ.set k m') := by
  have ina : a ∈ L.c := List.mem_of_getElem? hk
  have x0 : Ext0 L H L (upd H a o') := by
    refine ⟨fun b u e _ n => ?_, fun _ _ h => h, fun b h => .inl h⟩
    have ne : b ≠ a := fun z => by subst z; exact n (.inl ina)
    rw [upd_ne ne]; exact e
  have prv : ∀ b ∈ L.x, upd H a o' b = H b := fun b h => upd_ne fun z => by subst z; exact (s.dis b h).1 ina
  have hkl : k < μ.length := by rw [← s.len]; exact (List.getElem?_eq_some_iff.mp hk).1
  refine ⟨⟨x0, rfl, prv⟩, ⟨by rw [List.length_set]; exact s.len, fun j b m h1 h2 => ?_, s.nd, fun b h => ⟨(s.dis b h).1, by rw [prv b h]; exact (s.dis b h).2⟩, fun q hq => ?_⟩⟩
  · by_cases hj : k = j
    · subst hj
      rw [List.getElem?_set_self hkl] at h2
      rw [hk] at h1
      cases h1; cases h2
      exact hm x0
    · rw [List.getElem?_set_ne hj] at h2
      have ne : b ≠ a := fun z => by
        subst z
        obtain ⟨l1, e1⟩ := List.getElem?_eq_some_iff.mp hk
        obtain ⟨l2, e2⟩ := List.getElem?_eq_some_iff.mp h1
        exact hj ((List.getElem_inj s.nd).mp (e1.trans e2.symm))
      exact (s.at_ j b m h1 h2).ext0 (fun u e => by rw [upd_ne ne]; exact e) x0
  · obtain ⟨ps, h1, h2, h3⟩ := s.tab q hq
    refine ⟨ps, ?_, h2, fun pos cv hc => ?_⟩
    · rw [upd_ne (fun z => by rw [z, ho] at h1; exact hnt ps (Option.some.inj h1))]; exact h1
    · obtain ⟨c, e, h4⟩ := h3 pos cv hc
      refine ⟨c, e, ?_⟩
      rw [upd_ne (fun z => by rw [z, ho] at h4; exact hne _ (Option.some.inj h4))]
      exact h4
theorem cell_lst {k : Nat} {ds : List D} (s : St3 P H L μ) {v : V} (r : Rep P H L v (.cell k)) (e : μ[k]? = some (.lst ds)) : ∃ a vs, v = .ref a ∧ L.c[k]? = some a ∧ H a = some (.lst vs) ∧ Reps P H L vs ds := by
  cases r with
  | @cell a _ h =>
    have q := s.at_ k a _ h e
    cases q with
    | lst h' r' => exact ⟨a, _, rfl, h, h', r'⟩
theorem lst_write {k : Nat} {a : Addr} {vs vs' : List V} {ds' : List D} (s : St3 P H L μ) (hk : L.c[k]? = some a) (ho : H a = some (.lst vs)) (r : Reps P H L vs' ds') :
    Ext P L H L (upd H a (.lst vs')) ∧ St3 P (upd H a (.lst vs')) L (μ.set k (.lst ds')) :=
  cell_write s hk ho (fun _ z => nomatch z) (fun _ z => nomatch z) fun x => .lst upd_same (r.ext0 x)
end
/-! ### xs[i] = e -/
def setL (k : Nat) (i : Int) (d : D) (μ : Sto) : Option Sto := match μ[k]? with
  | some (.lst ds) => (match ixN ds.length i with
    | some j => some (μ.set k (.lst (ds.set j d)))
    | none => none)
  | _ => none
def sSub (fe fo fi : SE) : SS := fun ρ μ => (fe ρ μ).thn ρ fun d μ1 => (fo ρ μ1).thn ρ fun o μ2 => (fi ρ μ2).thn ρ fun i μ3 => match o, i with
  | .cell k, .int z => (match setL k z d μ3 with
    | some μ4 => .nx ρ μ4
    | none => .bad)
  | _, _ => .bad
section
variable {P : Pm} {W : WX} {X : Cx} {pos p2 : Pos} {o i e : Expr} {fe fo fi : SE}
theorem vs_sub (he : VE P W X e fe) (ho : VE P W X o fo) (hi : VE P W X i fi) (hs : swapsWithSole [.Subscript o i p2] e pos.line X.env = pure false := by rfl) (hw : swappedStores [.Subscript o i p2] e X.env = pure none := by rfl)
    (h1 : (assignEach [.Subscript o i p2] X.env).map (·.2) = [assign (.Subscript o i p2) X.env] := by rfl)
    (ha : ∀ v, assign (.Subscript o i p2) X.env v = (do
      let ov ← holding [v] (eval o X.env)
      let iv ← holding [v, ov] (eval i X.env)
      standAt p2
      holding [v, ov, iv] (setItem ov iv v)
      release [v, ov, iv] []) := by intro _; rfl) : VS P W X (.Assign [.Subscript o i p2] e pos) (sSub fe fo fi) :=
  (ps_asg he (pg_sub ho hi set_list ha) hs hw h1).imp3 fun D σ H ⟨L, ρ, μ, rs, s, q⟩ => by
    refine tV.firstS rs s q fun d μ1 v L1 H1 x1 s1 r1 rs1 q1 => ?_
    refine tV.firstS rs1 s1 q1 fun od μ2 ov L2 H2 x2 s2 r2 rs2 q2 => ?_
    refine tV.firstS rs2 s2 q2 fun id μ3 iv L3 H3 x3 s3 r3 rs3 q3 => ?_
    cases od with
    | cell k =>
      cases id with
      | int z =>
        cases r3
        have q3 : PostS P W D L3 H3 (match setL k z d μ3 with
          | some μ4 => .nx ρ μ4
          | none => .bad) := q3
        unfold setL at q3
        cases e1 : μ3[k]? with
        | none => simp only [e1] at q3; exact q3.elim
        | some m =>
          cases m with
          | dct _ _ => simp only [e1] at q3; exact q3.elim
          | ins _ _ _ => simp only [e1] at q3; exact q3.elim
          | lst ds =>
            simp only [e1] at q3
            cases e2 : ixN ds.length z with
            | none => simp only [e2] at q3; exact q3.elim
            | some j =>
              simp only [e2] at q3
              obtain ⟨a, vs, rfl, hk, ho', rr⟩ := cell_lst s3 (r2.ext x3) e1
              obtain ⟨x4, s4⟩ := lst_write s3 hk ho' (rr.set ((r1.ext x2).ext x3) j)
              exact ⟨a, vs, z, j, rfl, rfl, ho', by rw [rr.length]; exact e2, q3 σ L3 _ x4 s4 (rs3.ext x4)⟩
      | _ => exact q3.elim
    | _ => exact (by cases id <;> exact q3.elim)
end
/-! ### methods of lists that change them -/
/-- a built-in method: the rule r of the receiver and the arguments is served where g gives something -/
def MtS (P : Pm) (r : V → List V → Hp → VK → Prop) (g : D → List D → Sto → R D) : Prop := ∀ (E : XK) (L : Lv) (H : Hp) (μ : Sto) (v : V) (vs : List V) (d : D) (ds : List D) (Q : VK), St3 P H L μ → Rep P H L v d → Reps P H L vs ds →
  Post P E L H (fun d L' H' => ∀ v, Rep P H' L' v d → Q v H') (g d ds μ) → r v vs H Q
/-- the receiver is of the built-in type T -/
def isTy (T : String) (μ : Sto) (d : D) : Bool := match tyD μ d with
  | some t => t.nm == T
  | none => false
def eM (T : String) (g : D → List D → Sto → R D) (f : SE) (fa : SA) : SE := fun ρ μ => (f ρ μ).bind fun d μ1 => if isTy T μ1 d = true then (fa ρ μ1).bind fun ds μ2 => g d ds μ2 else .bad
theorem tyV_of {P : Pm} {X : Cx} {H : Hp} {L : Lv} {μ : Sto} {T : String} (hK : P.K = X.K) (s : St3 P H L μ) {v : V} {d : D} (r : Rep P H L v d) (e : isTy T μ d = true) (hT : T ≠ "tuple" ∧ T ≠ "bool" ∧ T ≠ "NoneType") : tyV X.K T v H := by
  unfold isTy at e
  cases r with
  | non => exact absurd (eq_of_beq e).symm hT.2.2
  | bl b => exact absurd (eq_of_beq e).symm hT.2.1
  | int b => exact (eq_of_beq e).symm
  | str b => exact (eq_of_beq e).symm
  | lst h n r => exact .inl ⟨(eq_of_beq e).symm, _, .of h⟩
  | tup h r => exact absurd (eq_of_beq e).symm hT.1
  | dct h n l r => cases e
  | obj h hc n l r => cases e
  | scr h => exact .inl ⟨(eq_of_beq e).symm, _, hK ▸ h.sq⟩
  | @cell a k h =>
    have e' : (match (match μ[k]? with
      | some (.lst _) => some Ty.list
      | some (.dct _ _) => some .dict
      | _ => none) with
      | some t => t.nm == T
      | none => false) = true := e
    cases em : μ[k]? with
    | none => rw [em] at e'; cases e'
    | some m =>
      rw [em] at e'
      have q := s.at_ k a m h em
      cases q with
      | lst h' r' => exact .inl ⟨(eq_of_beq e').symm, _, .of h'⟩
      | dct h' l r' => exact .inr (.inr (.inl ⟨(eq_of_beq e').symm, .inl ⟨_, h'⟩⟩))
      | ins h' hc l r' => cases e'
section
variable {P : Pm} {W : WX} {X : Cx} {o e : Expr} {es : List Expr} {fo : SE} {fa : SA} {name : Str} {apos cpos : Pos} {T id : String} {r : V → List V → Hp → VK → Prop} {g : D → List D → Sto → R D}
theorem ve_m (hK : P.K = X.K) (hT : T ≠ "tuple" ∧ T ≠ "bool" ∧ T ≠ "NoneType") (pa : PlainAttrs T) (slot : Slot T name id) (hty : typeOf (.builtin id) = pure (.type "method_descriptor")) (hm : MtR X id r) (hg : MtS P r g) (ho : VE P W X o fo) (ha : VA P W X (e :: es) fa)
    (hbase : attributeBase o name X.env (eval o X.env) = eval o X.env := by rfl)
    (hfew : ((backTo cpos (starEach (e :: es) X.env)).all (fun x => !x.1) && (backToKw cpos (keywordEach [] X.env)).all (fun x => x.1.isSome)
      && decide ((e :: es).length + ([] : List Keyword).length + (if ([] : List Keyword).isEmpty then 0 else 1) < 30)) = true := by rfl)
    (hline : (apos.endLine == cpos.line) = true := by rfl) (hs : starEach (e :: es) X.env = (false, eval e X.env) :: starEach es X.env := by rfl) (hplain : (backTo cpos (starEach es X.env)).any (·.1) = false := by rfl) :
    VE P W X (.Call (.Attribute o name apos) (e :: es) [] cpos) (eM T g fo fa) :=
  (pe_bm pa slot hty hm ho ha hbase hfew hline hs hplain).imp3 fun σ H Q ⟨L, ρ, μ, rs, st, q⟩ => by
    refine tV.first rs st q fun d μ1 v L1 H1 x1 s1 r1 rs1 q1 => ?_
    by_cases c : isTy T μ1 d = true
    case neg => rw [if_neg c] at q1; exact q1.elim
    rw [if_pos c] at q1
    exact ⟨tyV_of hK s1 r1 c hT, tVA.first rs1 s1 q1 fun ds μ2 vs L2 H2 x2 s2 r2 rs2 q2 => hg _ L2 H2 μ2 v vs d ds Q s2 (r1.ext x2) r2 q2⟩
/-- xs.append(y) -/
def dAppend : D → List D → Sto → R D := fun d es μ => match d, es with
  | .cell k, [y] => (match μ[k]? with
    | some (.lst ds) => if ds.length < sizeLine then .ok .non (μ.set k (.lst (ds ++ [y]))) else .bad
    | _ => .bad)
  | _, _ => .bad
theorem ms_append : MtS P rAppend dAppend := by
  intro E L H μ v vs d es Q s rv rs q
  match d, es, rv, rs, q with
  | .cell k, [y], rv, rs, q =>
    obtain ⟨w, rfl, rw'⟩ := rs.one
    have q : Post P E L H (fun d L' H' => ∀ v, Rep P H' L' v d → Q v H') (match μ[k]? with
      | some (.lst ds) => if ds.length < sizeLine then .ok .non (μ.set k (.lst (ds ++ [y]))) else .bad
      | _ => .bad) := q
    cases e1 : μ[k]? with
    | none => rw [e1] at q; exact q.elim
    | some m =>
      rw [e1] at q
      cases m with
      | dct _ _ => exact q.elim
      | ins _ _ _ => exact q.elim
      | lst ds =>
        have q : Post P E L H (fun d L' H' => ∀ v, Rep P H' L' v d → Q v H') (if ds.length < sizeLine then .ok .non (μ.set k (.lst (ds ++ [y]))) else .bad) := q
        by_cases c : ds.length < sizeLine
        case neg => rw [if_neg c] at q; exact q.elim
        rw [if_pos c] at q
        obtain ⟨a, ws, rfl, hk, ho, rr⟩ := cell_lst s rv e1
        obtain ⟨x4, s4⟩ := lst_write s hk ho (rr.append (.cons rw' .nil))
        exact ⟨a, ws, w, rfl, rfl, ho, by rw [rr.length]; exact c, q L _ x4 s4 _ .non⟩
  | .cell k, [], rv, rs, q => exact q.elim
  | .cell k, _ :: _ :: _, rv, rs, q => exact q.elim
  | .non, _, rv, rs, q => exact q.elim
  | .bl _, _, rv, rs, q => exact q.elim
  | .int _, _, rv, rs, q => exact q.elim
  | .str _, _, rv, rs, q => exact q.elim
  | .lst _, _, rv, rs, q => exact q.elim
  | .tup _, _, rv, rs, q => exact q.elim
  | .dct _ _, _, rv, rs, q => exact q.elim
  | .obj _ _ _, _, rv, rs, q => exact q.elim
  | .scr _, _, rv, rs, q => exact q.elim
end
end L3

namespace L3
open PySem PySem.Spec PyProof.Rows L2
open PySem.W in
theorem exm_tupL {M : Model} {K : PySem.W.Frag} {cls : Value} {tp e : Addr} {b : Bool} {h : Heap} {cs : List Value} (X : K.In h) (LT : PySem.W.Looks M h (typeOf (.ref e)) cls) (hp : h.get? tp = some { cls := .type "tuple", data := .seq cs.toArray }) (hx : PySem.W.exmAny K cls cs = some b) :
    PySem.W.Looks M h (excMatches (.ref e) (.ref tp)) b := by
  intro A Q E s k₀ q
  obtain ⟨hh, g, d, tk, os⟩ := s
  have k : ∀ b o, h.get? b = some o → hh.get? b = some o := k₀
  have LT0 : Looks M h (isInstance (.ref tp) (.type "tuple")) true := ((Looks.ld hp).andThen .now).andThen (Looks.of_pure isSubtype_tuple_tuple)
  have LT := LT.keeps k
  have LT0 := LT0.keeps k
  have hp' := k _ _ hp
  unfold excMatches
  refine wpAny_bind (LT0.at ?_)
  dsimp only
  rw [if_pos rfl]
  first
    | refine wpAny_bind (wpAny_seqItems hp' rfl ?_)
    | refine wpAny_bind (wpAny_bind (wpAny_seqItems hp' rfl (wpAny_pure ?_)))
  dsimp only [Option.getD_some, Option.getD]
  have I1 : ∀ (ds : List Value) (b' : Bool), exmAny K cls ds = some b' → ∀ Q' : PUnit → Shared → Prop, Q' PUnit.unit ⟨hh, g, d, tk, os⟩ → wpAny M A (forIn ds PUnit.unit fun c __s => do
          let __do_lift ← isExcClass c
          if (!__do_lift) = true then do
              rule "try.except-non-exception-class"
              raiseErrorWords "TypeError" "catching classes that do not inherit from BaseException is not allowed"
              pure (ForInStep.yield PUnit.unit)
            else pure (ForInStep.yield PUnit.unit)) Q' E ⟨hh, g, d, tk, os⟩ := by
    intro ds
    induction ds with
    | nil => intro b' _ Q' q'; rw [List.forIn_nil]; exact wpAny_pure q'
    | cons c ds ih =>
      intro b' hb Q' q'
      obtain ⟨b1, d1, x1, y1, z1⟩ := exmAny_cons hb
      obtain ⟨e1, S1⟩ := exm_cls (M := M) X x1
      have e1 := e1.keeps k
      rw [List.forIn_cons]
      refine wpAny_bind (wpAny_bind (e1.at ?_))
      rw [if_neg (by simp)]
      exact wpAny_pure (ih d1 y1 Q' q')
  have I2 : ∀ (ds : List Value) (b' : Bool), exmAny K cls ds = some b' → ∀ Q' : (Option Bool × Unit) → Shared → Prop, Q' (if b' = true then (some true, ()) else (none, ())) ⟨hh, g, d, tk, os⟩ → wpAny M A (forIn ds (none, ()) fun c __s => do
            let __do_lift ← isSubtype cls c
            if __do_lift = true then pure (ForInStep.done (some true, ())) else pure (ForInStep.yield (none, ()))) Q' E ⟨hh, g, d, tk, os⟩ := by
    intro ds
    induction ds with
    | nil => intro b' hb Q' q'; cases hb; rw [List.forIn_nil]; exact wpAny_pure q'
    | cons c ds ih =>
      intro b' hb Q' q'
      obtain ⟨b1, d1, x1, y1, z1⟩ := exmAny_cons hb
      obtain ⟨e1, S1⟩ := exm_cls (M := M) X x1
      have S1 := S1.keeps k
      rw [List.forIn_cons]
      refine wpAny_bind (wpAny_bind (S1.at ?_))
      subst z1
      cases b1 with
      | true =>
        rw [if_pos rfl]
        exact wpAny_pure (wpAny_pure q')
      | false =>
        rw [if_neg Bool.false_ne_true]
        exact wpAny_pure (ih d1 y1 Q' q')
  refine wpAny_bind (wpAny_pure (wpAny_bind (I1 cs b hx _ (wpAny_bind (LT.at (wpAny_bind (I2 cs b hx _ ?_)))))))
  cases b with
  | true => exact wpAny_pure q
  | false => exact wpAny_pure q

/-! ### except clauses of one class or of several -/
/-- whether a clause of these classes takes it -/
def clMatch (K : PySem.W.Frag) (cls : Value) : List Value → Option Bool
  | [c] => PySem.W.exmOne K cls c
  | cs => PySem.W.exmAny K cls cs
def wManyB (K : PySem.W.Frag) (i : Nat) (Wout : WX) (D : Ends) : List (List Value × Suite) → WX
  | [] => Wout
  | (cs, ts) :: r => fun cls d σ H => ∃ b, clMatch K cls cs = some b ∧ (b = true → ∀ a, H a = none → ts a cls d (Ends.gone D i) (σ.set i (some (.ref a))) H) ∧ (b = false → wManyB K i Wout D r cls d σ H)
inductive NamesL (X : Cx) : List Expr → List Value → Prop
  | nil : NamesL X [] []
  | cons {x : Str} {a : Addr} {p : Pos} {es : List Expr} {cs : List Value} (hg : Gl X x) (nd : (x == ("__debug__" : Str)) = false) (hm : X.mg x = some (.ref a)) (hs : starEach (.Name x p :: es) X.env = (false, eval (.Name x p) X.env) :: starEach es X.env) (r : NamesL X es cs) : NamesL X (.Name x p :: es) (.ref a :: cs)
inductive HdsB (X : Cx) (n : Str) : List ExceptHandler → List (List Value × Suite) → Prop
  | nil : HdsB X n [] []
  | one {x : Str} {a : Addr} {ts : Suite} {st : Stmt} {sts : List Stmt} {p1 p2 : Pos} {hds : List ExceptHandler} {l : List (List Value × Suite)} (hg : Gl X x) (nd : (x == ("__debug__" : Str)) = false) (hm : X.mg x = some (.ref a))
      (su : ∀ (a : Addr) (oe : Obj) (cls : Value) (d : Option Addr) (pn : List (Addr × Obj)), Zc cls d oe → (∃ vs, oe.data = .fields vs) → PSs (X.suite a ((a, oe) :: pn)) (st :: sts) (ts a cls d)) (more : HdsB X n hds l) :
      HdsB X n (.ExceptHandler (some (.Name x p1)) (some n) (st :: sts) p2 :: hds) (([.ref a], ts) :: l)
  | tup {es : List Expr} {c1 c2 : Value} {cs : List Value} {ts : Suite} {st : Stmt} {sts : List Stmt} {kk : Nat} {p1 p2 : Pos} {hds : List ExceptHandler} {l : List (List Value × Suite)} (nm : NamesL X es (c1 :: c2 :: cs))
      (hl : (c1 :: c2 :: cs).length ≤ sizeLine)
      (su : ∀ (a : Addr) (oe : Obj) (cls : Value) (d : Option Addr) (pn : List (Addr × Obj)), Zc cls d oe → (∃ vs, oe.data = .fields vs) → PSs (X.suite a ((a, oe) :: pn)) (st :: sts) (ts a cls d)) (more : HdsB X n hds l) :
      HdsB X n (.ExceptHandler (some (.Tuple es kk p1)) (some n) (st :: sts) p2 :: hds) ((c1 :: c2 :: cs, ts) :: l)
theorem FlyingZ.grow {B h h' : Heap} {l : List _root_.PySem.Env} {a : Addr} {Z : Obj → Prop} (k : ∀ b o, h.get? b = some o → h'.get? b = some o) (x : HandSPX.FlyingZ B l a Z h) : HandSPX.FlyingZ B l a Z h' := by
  obtain ⟨h1, h2, h3, oe, vs, T, oT, ts, g1, g2, g3, g4, g5, g6, g7, g8, g9⟩ := x
  exact ⟨fun b o e => k b o (h1 b o e), h2, h3.of_keeps fun b o e _ => ⟨o, k b o e, rfl⟩, oe, vs, T, oT, ts, k _ _ g1, g2, g3, g4, g5, g6, k _ _ g7, g8, g9⟩
section
variable {X : Cx} {n : Str} {i : Nat} {pins : List (Addr × Obj)} {Wout : WX} {D : Ends} {σ : L2.St} {H : Hp} {a : Addr} {B : Heap} {cls : Value} {d : Option Addr} {s : Shared}
theorem upTo_grow {h h' : Heap} (k : ∀ b o, h.get? b = some o → h'.get? b = some o) : h.UpToSlots h' := fun b o e _ => ⟨o.slots, by rw [k b o e]⟩
/-- the state with more in its heap -/
theorem Met.grow {h' : Heap} (m : Met X pins σ H a B cls d s) (k : ∀ b o, s.heap.get? b = some o → h'.get? b = some o) : Met X pins σ H a B cls d { s with heap := h' } :=
  ⟨FlyingZ.grow k m.fly, m.again h' (FlyingZ.grow k m.fly) (upTo_grow k), m.free, m.notL, m.notF, fun h fl u => m.again h fl ((upTo_grow k).trans u), fun h W hs held u w => m.air h W hs held ((upTo_grow k).trans u) w⟩
/-- names of classes, one after the other -/
theorem names_spliced {oe : Obj} {pn : List (Addr × Obj)} {E : Value → Shared → Prop} {pos : Pos} (S : Inv (X.suite a ((a, oe) :: pn)) [] σ H s) : ∀ {es : List Expr} {cs : List Value} {Q : List Value → Shared → Prop}, NamesL X es cs → Q cs s →
    wpAny (model X.prog X.w) (X.A.mark (some (.ref a))) (spliced (backTo pos (starEach es X.env))) Q E s
  | _, _, _, .nil, q => Calls.spliced_nil q
  | _, _, Q, .cons (x := x) (a := c) (p := p) (es := es) (cs := cs) hg nd hm hs r, q => by
    rw [hs]
    show wpAny _ _ (spliced ((false, eval (.Name x p) X.env) :: backTo pos (starEach es X.env))) _ _ s
    refine Calls.spliced_cons ?_
    refine ld_glob (X := X.suite a ((a, oe) :: pn)) S hg hm ?_ nd
    exact names_spliced S (Q := fun us s' => Q (.ref c :: us) s') r q
theorem clausesB (hs : X.stack = X.env :: X.outer) (hf : X.env.frame = some X.env.locals) (hN : X.N.Nodup) (hi : X.N[i]? = some n) (loc : X.env.kindOf n = some .local) (tk : Takes X Wout) (ok : X.Ok) :
    ∀ {hds : List ExceptHandler} {l : List (List Value × Suite)} {s : Shared}, HdsB X n hds l → Met X pins σ H a B cls d s → wManyB X.K i Wout D l cls d σ H → wpAny (model X.prog X.w) X.A (handleBy (.ref a) X.env hds) (SP X pins D) X.xe s
  | _, _, s, .nil, m, w => clause_none hs hf tk m w
  | _, _, s, .one hg nd hm su more, m, ⟨b, isOne, yes, no⟩ => by
    obtain ⟨oe, vs, atE, hz, isF⟩ := m.fly.there
    have S := m.inv.suite atE isF m.free m.notL m.notF
    refine wpAny_handleBy_cons (codeAny_handlers_test (clause_name ⟨hg, nd, .inl hm⟩ S ?_)) (fun z => by cases z)
    have cl : PySem.W.Looks (model X.prog X.w) s.heap (typeOf (.ref a)) cls := fun A Q E s' k q => wpAny_typeOf_ref (k _ _ atE) (by rw [hz.1]; exact q)
    refine (PySem.W.exm_one (M := model X.prog X.w) m.inv.kIn cl isOne).here ?_
    match b, yes, no with
    | false, _, no => exact clausesB hs hf hN hi loc tk ok more m (no rfl)
    | true, yes, _ =>
      refine codeAny_handlers_suite_as (HandSPX.lands_againZ m.fly fun h2 fly2 up2 => ?_)
      obtain ⟨oe2, vs2, atE2, hz2, isF2⟩ := fly2.there
      have S2 := (m.again h2 fly2 up2).suite atE2 isF2 m.free m.notL m.notF
      exact store_ok (X := X.suite a ((a, oe2) :: (X.pn ++ pins))) (v := .ref a) S2 hN hi (.inl loc) rfl (fun s3 S3 => wpAny_mono (clause_suite hN hi loc ok (su a oe2 cls d (X.pn ++ pins) hz2 ⟨_, isF2⟩) S3 (yes rfl a m.free)) (fun _ _ q => q) fun _ _ z => z.elim) (.inr loc)
  | _, _, s, .tup (es := es) (c1 := c1) (c2 := c2) (cs := cs) nm hl su more, m0, ⟨b, isOne, yes, no⟩ => by
    obtain ⟨oe, vs, atE, hz, isF⟩ := m0.fly.there
    have S := m0.inv.suite atE isF m0.free m0.notL m0.notF
    have k : ∀ b o, s.heap.get? b = some o → (s.heap.push { cls := .type "tuple", data := .seq (c1 :: c2 :: cs).toArray }).get? b = some o := fun b o e => Heap.get?_push_of_some _ e
    refine wpAny_handleBy_cons (codeAny_handlers_test (wpAny_Tuple_spliced (names_spliced S nm ⟨hl, ?_⟩))) (fun z => by cases z)
    have m := m0.grow k
    have cl : PySem.W.Looks (model X.prog X.w) (s.heap.push { cls := .type "tuple", data := .seq (c1 :: c2 :: cs).toArray }) (typeOf (.ref a)) cls := fun A Q E s' k' q => wpAny_typeOf_ref (k' _ _ (k _ _ atE)) (by rw [hz.1]; exact q)
    refine (exm_tupL (M := model X.prog X.w) m.inv.kIn cl (Heap.get?_push_size _ rfl) isOne).here ?_
    match b, yes, no with
    | false, _, no => exact clausesB hs hf hN hi loc tk ok more m (no rfl)
    | true, yes, _ =>
      refine codeAny_handlers_suite_as (HandSPX.lands_againZ m.fly fun h2 fly2 up2 => ?_)
      obtain ⟨oe2, vs2, atE2, hz2, isF2⟩ := fly2.there
      have S2 := (m.again h2 fly2 up2).suite atE2 isF2 m.free m.notL m.notF
      exact store_ok (X := X.suite a ((a, oe2) :: (X.pn ++ pins))) (v := .ref a) S2 hN hi (.inl loc) rfl (fun s3 S3 => wpAny_mono (clause_suite hN hi loc ok (su a oe2 cls d (X.pn ++ pins) hz2 ⟨_, isF2⟩) S3 (yes rfl a m.free)) (fun _ _ q => q) fun _ _ z => z.elim) (.inr loc)
end
theorem ps_try_manyB {X : Cx} {n : Str} {i : Nat} {body : List Stmt} {hds : List ExceptHandler} {h₀ : ExceptHandler} {l : List (List Value × Suite)} {pos : Pos} {tb : WX → TS} {Wout : WX} (hs : X.stack = X.env :: X.outer) (hf : X.env.frame = some X.env.locals) (hN : X.N.Nodup) (hi : X.N[i]? = some n) (loc : X.env.kindOf n = some .local) (tk : Takes X Wout)
    (hb : ∀ (W : WX) (pn : List (Addr × Obj)) (xe : Value → Shared → Prop), Takes (X.tr pn xe) W → PassesOwn (model X.prog X.w) X.A X.env xe → PSs (X.tr pn xe) body (tb W)) (hh : HdsB X n (h₀ :: hds) l) :
    PS X (.Try body (h₀ :: hds) [] [] pos) (fun D σ H => tb (wManyB X.K i Wout D l) D σ H) := ⟨fun pins s σ H D I asks => by
  have ok := I.ok
  refine wpAny_Try_except (wpAny_mono ((hb (wManyB X.K i Wout D l) (X.pn ++ pins) _ (fun u s2 got => ?_) PassesOwn.looking).run [] s σ H D (I.toTry _) asks) (fun f s2 got => ?_) fun _ _ z => z)
  · rcases got with ⟨a, B, s0, _, σ2, H2, cls, d, eu, J0, ground, up, sky, free, sameOs, bare, w⟩
    subst eu
    have J := Inv.ofTry J0 ok
    have frames : X.A.frames = some (X.env :: X.outer) := by rw [ok.frames, hs]
    have sky2 : Sky B (X.env :: X.outer) a (Zc cls d) X.env.locals s2.heap := by rw [← hs]; exact sky
    show wpAny (model X.prog X.w) X.A (noteFrame (.ref a) X.env) _ _ _
    refine Sky.land Zc.steady frames hf sky2 fun h3 fly up3 => ?_
    have good : ∀ h, HandSPX.FlyingZ B (X.env :: X.outer) a (Zc cls d) h → s2.heap.UpToSlots h → Inv X pins σ2 H2 { s2 with heap := h } := fun h fl u => J.landed ground fl.1 (up.trans u) sameOs bare
    have notFrame : a ∉ frs (X.env :: X.outer) := fun hm => by
      obtain ⟨_, _, atE, _, isF⟩ := fly.there
      obtain ⟨_, _, atE2, noF⟩ := fly.2.2.1.mem hm
      rw [atE] at atE2
      cases atE2
      exact noF _ isF
    refine clausesB hs hf hN hi loc tk ok (s := { s2 with heap := h3 }) (B := B) hh ⟨fly, good h3 fly up3, free, fun z => notFrame ?_, fun z => notFrame ?_, fun h fl u => good h fl (up3.trans u), fun h W hs' held u wv => ?_⟩ w
    · exact List.mem_filterMap.mpr ⟨X.env, List.mem_cons_self, by rw [hf, z]⟩
    · obtain ⟨e, he, q⟩ := List.mem_filterMap.mp z
      exact List.mem_filterMap.mpr ⟨e, List.mem_cons_of_mem _ he, q⟩
    · exact ⟨a, B, s0, pins, σ2, H2, cls, d, rfl, J, ground, (up.trans up3).trans u, .inr (.inr (by rw [hs']; exact held)), free, sameOs, bare, wv⟩
  · match f, got with
    | .next, ⟨_, _, J, q⟩ => exact wpAny_execs_nil ⟨_, _, Inv.ofTry J ok, q⟩
    | .brk, ⟨_, _, J, q⟩ => exact ⟨_, _, Inv.ofTry J ok, q⟩
    | .cont, ⟨_, _, J, q⟩ => exact ⟨_, _, Inv.ofTry J ok, q⟩
    | .ret _, ⟨_, _, _, J, r, q⟩ => exact ⟨_, _, _, Inv.ofTry J ok, r, q⟩⟩

/-! ### the telling def with any clauses -/
/-- what a clause tells: the word; and a field; and two fields -/
inductive Shape where
  | w | f (n : Str) | g (n m : Str)
  deriving DecidableEq
def Shape.flds : Shape → List Str
  | .w => ["word"]
  | .f n => ["word", n]
  | .g n m => ["word", n, m]
def Shape.told (ns : List Str) (vs : List D) : Shape → Option D
  | .w => (lookD "word" ns vs).map fun d => .tup [.str "no", d]
  | .f n => (lookD "word" ns vs).bind fun d => (lookD n ns vs).map fun e => .tup [.str "no", d, e]
  | .g n m => (lookD "word" ns vs).bind fun d => (lookD n ns vs).bind fun e => (lookD m ns vs).map fun f => .tup [.str "no", d, .tup [e, f]]
def eAsked (pick : Str → Option Shape) (f : SE) : SE := fun ρ μ => match f ρ μ with
  | .ok d μ1 => .ok (.tup [.str "told", d]) μ1
  | .exc c ns vs μ1 => (match (pick c).bind fun sh => sh.told ns vs with
    | some d => .ok d μ1
    | none => .bad)
  | .bad => .bad
inductive AskS (ev : Str) : List Stmt → Shape → Prop
  | w {j t : Nat} {p1 p2 p3 p4 p5 : Pos} : AskS ev [.Return (some (.Tuple [.Constant (.str "no") j p1, .Attribute (.Name ev p2) "word" p3] t p4)) p5] .w
  | f {j t : Nat} {n : Str} {p1 p2 p3 p4 p5 p6 p7 : Pos} : AskS ev [.Return (some (.Tuple [.Constant (.str "no") j p1, .Attribute (.Name ev p2) "word" p3, .Attribute (.Name ev p6) n p7] t p4)) p5] (.f n)
  | g {j t u : Nat} {n m : Str} {p1 p2 p3 p4 p5 p6 p7 p8 p9 p10 : Pos} : AskS ev [.Return (some (.Tuple [.Constant (.str "no") j p1, .Attribute (.Name ev p2) "word" p3, .Tuple [.Attribute (.Name ev p6) n p7, .Attribute (.Name ev p8) m p9] u p10] t p4)) p5] (.g n m)
/-- the written clauses, their classes' names, what they tell -/
inductive AskN : List Expr → List Str → Prop
  | nil : AskN [] []
  | cons {x : Str} {p : Pos} {es : List Expr} {xs : List Str} (r : AskN es xs) : AskN (.Name x p :: es) (x :: xs)
inductive AskH (ev : Str) : List ExceptHandler → List (List Str × Shape) → Prop
  | nil : AskH ev [] []
  | one {x : Str} {sh : Shape} {su : List Stmt} {p1 p2 : Pos} {hds : List ExceptHandler} {l : List (List Str × Shape)} (s : AskS ev su sh) (r : AskH ev hds l) : AskH ev (.ExceptHandler (some (.Name x p1)) (some ev) su p2 :: hds) (([x], sh) :: l)
  | tup {es : List Expr} {x y : Str} {xs : List Str} {sh : Shape} {su : List Stmt} {k : Nat} {p1 p2 : Pos} {hds : List ExceptHandler} {l : List (List Str × Shape)} (nm : AskN es (x :: y :: xs)) (s : AskS ev su sh) (r : AskH ev hds l) :
      AskH ev (.ExceptHandler (some (.Tuple es k p1)) (some ev) su p2 :: hds) ((x :: y :: xs, sh) :: l)
/-- what is asked of a caught exception by a shape -/
def tShape (K : PySem.W.Frag) (a : Addr) (cls : Value) (d : Option Addr) : Shape → TE := fun sh σ H Q => ∃ C dx fs, σ[1]? = some (some (.ref a)) ∧ cls = .ref C ∧ d = some dx ∧ H dx = some (.xd fs) ∧ XfC K C ∧ (∀ n ∈ sh.flds, PySem.W.findIn K (.ref C) n = some none) ∧ match sh with
  | .w => ∃ v, fs.lookup ("word" : Str) = some v ∧ ∀ p, H p = none → Q (.ref p) (upd H p (.tup [.str "no", v]))
  | .f n => ∃ v u, fs.lookup ("word" : Str) = some v ∧ fs.lookup n = some u ∧ ∀ p, H p = none → Q (.ref p) (upd H p (.tup [.str "no", v, u]))
  | .g n m => ∃ v u w, fs.lookup ("word" : Str) = some v ∧ fs.lookup n = some u ∧ fs.lookup m = some w ∧ ∀ q, H q = none → ∀ p, (upd H q (.tup [u, w])) p = none → Q (.ref p) (upd (upd H q (.tup [u, w])) p (.tup [.str "no", v, .ref q]))
section
variable {X : Cx}
theorem askS_ok {a0 ev : Str} {su : List Stmt} {sh : Shape} {a : Addr} {oe : Obj} {cls : Value} {d : Option Addr} {pn : List (Addr × Obj)} (s : AskS ev su sh) (hN : X.N = [a0, ev]) (loc : X.env.scope.names.lookup ev = some .local) (dv : (ev == ("__debug__" : Str)) = false) (cv : (ev == ("__classdict__" : Str)) = false)
    (hz : Zc cls d oe) (hf : ∃ vs, oe.data = .fields vs) : ∃ st sts, su = st :: sts ∧ PSs (X.suite a ((a, oe) :: pn)) (st :: sts) (tRet (tShape X.K a cls d sh)) := by
  have var : ∀ p, PE (X.suite a ((a, oe) :: pn)) (.Name ev p) (tVar 1) := fun p => pe_var (i := 1) (by show X.N[1]? = _; rw [hN]; rfl) (.inl loc) dv cv
  cases s with
  | @w j t p1 p2 p3 p4 p5 =>
    refine ⟨_, _, rfl, (pss_one (ps_ret (pe_tup (pa_cons pe_str (pa_cons (pe_xfU hz hf (var p2)) pa_nil))))).imp3 fun D σ H h => ?_⟩
    obtain ⟨C, dx, fs, h1, h2, h3, h4, h5, h6, v, h7, q⟩ := h
    exact ⟨C, h5, h6 _ (by simp [Shape.flds]), .ref a, h1, rfl, h2, dx, fs, v, h3, h4, h7, by rw [sizeLine_eq]; simp, q⟩
  | @f j t n p1 p2 p3 p4 p5 p6 p7 =>
    refine ⟨_, _, rfl, (pss_one (ps_ret (pe_tup (pa_cons pe_str (pa_cons (pe_xfU hz hf (var p2)) (pa_cons (pe_xfU hz hf (var p6)) pa_nil)))))).imp3 fun D σ H h => ?_⟩
    obtain ⟨C, dx, fs, h1, h2, h3, h4, h5, h6, v, u, h7, h8, q⟩ := h
    exact ⟨C, h5, h6 _ (by simp [Shape.flds]), .ref a, h1, rfl, h2, dx, fs, v, h3, h4, h7, C, h5, h6 _ (by simp [Shape.flds]), .ref a, h1, rfl, h2, dx, fs, u, h3, h4, h8, by rw [sizeLine_eq]; simp, q⟩
  | @g j t u n m p1 p2 p3 p4 p5 p6 p7 p8 p9 p10 =>
    refine ⟨_, _, rfl, (pss_one (ps_ret (pe_tup (pa_cons pe_str (pa_cons (pe_xfU hz hf (var p2)) (pa_cons (pe_tup (pa_cons (pe_xfU hz hf (var p6)) (pa_cons (pe_xfU hz hf (var p8)) pa_nil))) pa_nil)))))).imp3 fun D σ H h => ?_⟩
    obtain ⟨C, dx, fs, h1, h2, h3, h4, h5, h6, v, u, w, h7, h8, h9, q⟩ := h
    exact ⟨C, h5, h6 _ (by simp [Shape.flds]), .ref a, h1, rfl, h2, dx, fs, v, h3, h4, h7, C, h5, h6 _ (by simp [Shape.flds]), .ref a, h1, rfl, h2, dx, fs, u, h3, h4, h8, C, h5, h6 _ (by simp [Shape.flds]), .ref a, h1, rfl, h2, dx, fs, w, h3, h4, h9,
      by rw [sizeLine_eq]; simp, fun q' hq => ⟨by rw [sizeLine_eq]; simp, q q' hq⟩⟩
end

def pickS (K : PySem.W.Frag) (cl : Str → Addr) (cls : Value) : List (List Str × Shape) → Option Shape
  | [] => none
  | (xs, sh) :: r => match clMatch K cls (xs.map fun x => .ref (cl x)) with
    | some true => some sh
    | some false => pickS K cl cls r
    | none => none
def shTail (K : PySem.W.Frag) (fs : List (Str × V)) (sh : Shape) (H : Hp) (Q : VK) : Prop := match sh with
  | .w => ∃ v, fs.lookup ("word" : Str) = some v ∧ ∀ p, H p = none → Q (.ref p) (upd H p (.tup [.str "no", v]))
  | .f n => ∃ v u, fs.lookup ("word" : Str) = some v ∧ fs.lookup n = some u ∧ ∀ p, H p = none → Q (.ref p) (upd H p (.tup [.str "no", v, u]))
  | .g n m => ∃ v u w, fs.lookup ("word" : Str) = some v ∧ fs.lookup n = some u ∧ fs.lookup m = some w ∧ ∀ q, H q = none → ∀ p, (upd H q (.tup [u, w])) p = none → Q (.ref p) (upd (upd H q (.tup [u, w])) p (.tup [.str "no", v, .ref q]))
def TAsked (K : PySem.W.Frag) (cl : Str → Addr) (hs : List (List Str × Shape)) : (XK → Hp → VK → Prop) → Hp → VK → Prop := fun tl H Q =>
  tl (fun cls d H' => ∃ (C dx : Addr) (fs : List (Str × V)) (sh : Shape), cls = .ref C ∧ d = some dx ∧ H' dx = some (.xd fs) ∧ XfC K C ∧ pickS K cl cls hs = some sh ∧ (∀ n ∈ sh.flds, PySem.W.findIn K (.ref C) n = some none) ∧ shTail K fs sh H' Q)
    H fun v H' => ([V.str "told", v] : List V).length ≤ sizeLine ∧ ∀ p, H' p = none → Q (.ref p) (upd H' p (.tup [.str "told", v]))
section
variable {X : Cx}
def askL (K : PySem.W.Frag) (cl : Str → Addr) (hs : List (List Str × Shape)) : List (List Value × Suite) := hs.map fun q => (q.1.map fun x => .ref (cl x), fun b cls d => tRet (tShape K b cls d q.2))
theorem askN_ok {cl : Str → Addr} : ∀ {es : List Expr} {xs : List Str}, AskN es xs → (∀ x ∈ xs, Gl X x ∧ (x == ("__debug__" : Str)) = false ∧ X.mg x = some (.ref (cl x))) → NamesL X es (xs.map fun x => .ref (cl x))
  | _, _, .nil, _ => .nil
  | _, _, .cons r, h => .cons (h _ List.mem_cons_self).1 (h _ List.mem_cons_self).2.1 (h _ List.mem_cons_self).2.2 rfl (askN_ok r fun x hx => h x (List.mem_cons_of_mem _ hx))
theorem askH_ok {cl : Str → Addr} {a0 ev : Str} (hN : X.N = [a0, ev]) (loc : X.env.scope.names.lookup ev = some .local) (dv : (ev == ("__debug__" : Str)) = false) (cv : (ev == ("__classdict__" : Str)) = false) : ∀ {hds : List ExceptHandler} {hs : List (List Str × Shape)}, AskH ev hds hs →
    (∀ q ∈ hs, q.1.length ≤ 100 ∧ ∀ x ∈ q.1, Gl X x ∧ (x == ("__debug__" : Str)) = false ∧ X.mg x = some (.ref (cl x))) → HdsB X ev hds (askL X.K cl hs)
  | _, _, .nil, _ => .nil
  | _, _, .one (x := x) (sh := sh) (su := su) s r, h => by
    have su_ok : ∃ st sts, su = st :: sts := by cases s <;> exact ⟨_, _, rfl⟩
    obtain ⟨st, sts, e⟩ := su_ok
    subst e
    have hx := (h _ List.mem_cons_self).2 x (by simp)
    refine .one hx.1 hx.2.1 hx.2.2 (fun a oe cls d pn hz hf => ?_) (askH_ok hN loc dv cv r fun q hq => h q (List.mem_cons_of_mem _ hq))
    obtain ⟨st', sts', e, p⟩ := askS_ok (X := X) (a := a) (pn := pn) s hN loc dv cv hz hf
    cases e
    exact p
  | _, _, .tup (x := x) (y := y) (xs := xs) (sh := sh) (su := su) nm s r, h => by
    have su_ok : ∃ st sts, su = st :: sts := by cases s <;> exact ⟨_, _, rfl⟩
    obtain ⟨st, sts, e⟩ := su_ok
    subst e
    have hx := h _ List.mem_cons_self
    refine .tup (askN_ok nm hx.2) (line100 (by have := hx.1; simpa using this)) (fun a oe cls d pn hz hf => ?_) (askH_ok hN loc dv cv r fun q hq => h q (List.mem_cons_of_mem _ hq))
    obtain ⟨st', sts', e, p⟩ := askS_ok (X := X) (a := a) (pn := pn) s hN loc dv cv hz hf
    cases e
    exact p
theorem pick_many {K : PySem.W.Frag} {cl : Str → Addr} {i : Nat} {Wout : WX} {D : Ends} {cls : Value} {d : Option Addr} {σ : L2.St} {H : Hp} {sh : Shape} : ∀ {hs : List (List Str × Shape)}, pickS K cl cls hs = some sh →
    (∀ a, H a = none → tRet (tShape K a cls d sh) (Ends.gone D i) (σ.set i (some (.ref a))) H) → wManyB K i Wout D (askL K cl hs) cls d σ H
  | [], h, _ => by cases h
  | (xs, sh') :: r, h, q => by
    unfold pickS at h
    cases e : clMatch K cls (xs.map fun x => .ref (cl x)) with
    | none => rw [e] at h; cases h
    | some b =>
      rw [e] at h
      refine ⟨b, e, fun hb a ha => ?_, fun hb => ?_⟩
      · subst hb
        cases h
        exact q a ha
      · subst hb
        exact pick_many h q
theorem asked_gives {cl : Str → Addr} {hs : List (List Str × Shape)} {x a ev q : Str} {sg : Scope} {g : Addr} {cdg : Value} {bg : List Stmt} {hds : List ExceptHandler} {j1 t1 : Nat} {p1 p2 p3 p4 p5 p20 : Pos}
    (nd : ([a, ev] : List Str).Nodup) (loc : sg.names.lookup ev = some .local) (hne : hs ≠ []) (hA : AskH ev hds hs) (hC : ∀ q ∈ hs, q.1.length ≤ 100 ∧ ∀ x ∈ q.1, sg.names.lookup x = some .globalImplicit ∧ (x == ("__debug__" : Str)) = false ∧ X.mg x = some (.ref (cl x)))
    (dv : (ev == ("__debug__" : Str)) = false) (cv : (ev == ("__classdict__" : Str)) = false)
    (hb : bg = [.Try [.Return (some (.Tuple [.Constant (.str "told") j1 p1, .Call (.Name a p2) [] [] p3] t1 p4)) p5] hds [] [] p20]) :
    LamX.GivesTo X [a, ev] x sg g cdg bg a q (TAsked X.K cl hs) := by
  subst hb
  intro f c' s H Q tl act hc asks
  let Z := (cxOf C8.CX0 X.prog X.w X.K X.mg X.base [a, ev] x sg g cdg X.A X.stack s H C8.E0).nox
  obtain ⟨h0, hds', e0⟩ : ∃ h0 hds', hds = h0 :: hds' := by
    cases hA with
    | nil => exact absurd rfl hne
    | one s r => exact ⟨_, _, rfl⟩
    | tup nm s r => exact ⟨_, _, rfl⟩
  subst e0
  have HB : HdsB Z ev (h0 :: hds') (askL X.K cl hs) := askH_ok (X := Z) (a0 := a) rfl loc dv cv hA hC
  refine ⟨_, pss_one (ps_try_manyB (X := Z) (n := ev) (i := 1)
    (tb := fun W D σ H => ∃ E : XK, (∀ cls d (σ' : L2.St) H', E cls d H' → σ'.length = 2 → W cls d σ' H') ∧ σ[0]? = some (some (.ref f)) ∧ H c' = some (LamX.CodeO c' q) ∧ tl E H fun v H' => ([V.str "told", v] : List V).length ≤ sizeLine ∧ ∀ p, H' p = none → D.rt (.ref p) (upd H' p (.tup [.str "told", v])))
    rfl rfl nd rfl loc L2.takes0 (fun W pn xe tk _ => ?_) HB), ?_⟩
  · refine ⟨fun pins s2 σ H2 D I ⟨E, hW, h1, h2, h3⟩ => ?_⟩
    have called := act (fun cls d σ H => σ.length = 2 → W cls d σ H) pn xe E p2 p3 (takes_len tk) (fun cls d σ' H' h l => hW cls d σ' H' h l)
    exact (pss_one (ps_ret (pos := p5) (pe_tup (pos := p4) (x1 := t1) (pa_cons pe_str (pa_cons called pa_nil))))).run pins s2 σ H2 D I ⟨h1, h2, h3⟩
  · refine ⟨_, fun cls d σ' H' got l2 => ?_, rfl, hc, asks⟩
    obtain ⟨C, dx, fs, sh, ec, ed, at_, T, pk, hn, fin⟩ := got
    refine pick_many pk fun b hb => ?_
    refine ⟨C, dx, fs, List.getElem?_set_self (by omega), ec, ed, at_, T, hn, ?_⟩
    cases sh <;> exact fin
end
section
variable {P : Pm} {W : WX} {X : Cx}
/-- x(lambda: body), where x is the telling def -/
theorem ve_asked {cl : Str → Addr} {hs : List (List Str × Shape)} {x a ev : Str} {g c Pt : Addr} {k : Nat} {pg : Arguments} {bg : List Stmt} {sg : Scope} {fdg : FuncData} {params : Arguments} {body : Expr} {scope : Scope} {fb : SE} {p lpos pos : Pos} {pick : Str → Option Shape}
    {hds : List ExceptHandler} {j1 t1 : Nat} {p1 p2 p3 p4 p5 p20 : Pos} (hK : P.K = X.K)
    (hg : Gl X x) (hm : X.mg x = some (.ref g)) (F : FunD X.K x x pg bg sg [] [] g fdg) (Sg : FnScope [a, ev] [a] sg) (loc : sg.names.lookup ev = some .local) (hva : Vis sg a)
    (hbind : ∀ (kV doc pm : Value) (an : Option Addr) (cdv ct : Value) (us : List Value), us.length = ([a] : List Str).length → bindArgs (PySem.W.fnOf x x pg bg sg .none kV doc pm an cdv ct) ⟨us, []⟩ = pure (([a] : List Str).zip us))
    (hne : hs ≠ []) (hA : AskH ev hds hs) (hC : ∀ q ∈ hs, q.1.length ≤ 100 ∧ ∀ x ∈ q.1, sg.names.lookup x = some .globalImplicit ∧ (x == ("__debug__" : Str)) = false ∧ X.mg x = some (.ref (cl x)))
    (hb : bg = [.Try [.Return (some (.Tuple [.Constant (.str "told") j1 p1, .Call (.Name a p2) [] [] p3] t1 p4)) p5] hds [] [] p20])
    (hx : ∀ n C sh, P.cls n = some C → pick n = some sh → XfC X.K C ∧ (∀ f ∈ sh.flds, PySem.W.findIn X.K (.ref C) f = some none) ∧ pickS X.K cl (.ref C) hs = some sh)
    (TB : LamX.TabB X.base X.mg c Pt) (hcode : X.env.code = .ref c) (hmT : (Pt, X.env.qual ++ "<lambda>") ∈ P.T) (hu : ∀ p ∈ P.T, p.1 = Pt → p.2 = X.env.qual ++ "<lambda>") (hr : Room (k + 2) X.A) (Lm : LamX.LamS X.env.scope scope) (hdef : defaultsOf params X.env = ([], []))
    (hbl : ∀ (q : Str) (cl : List (Str × Addr)) (pm cv ctv : Value), bindArgs (PySem.W.kla_fn "<lambda>" q params body scope cl pm cv ctv) ⟨[], []⟩ = pure [])
    (hbody : ∀ (A : Around) (outer : List _root_.PySem.Env) (s : Shared) (H : Hp) (E : XK) (f c' : Addr), Room k (A.deeper (LamX.lamEnv X scope s.heap.objs.size f c')) → VE P (fun cls d _ H => E cls d H) (LamX.lamCx X A outer s H E scope f c') body fb)
    (dv : (ev == ("__debug__" : Str)) = false := by decide) (cv : (ev == ("__classdict__" : Str)) = false := by decide)
    (hdb : (x == ("__debug__" : Str)) = false := by decide) (hda : (a == ("__debug__" : Str)) = false := by decide) (hca : (a == ("__classdict__" : Str)) = false := by decide) :
    VE P W X (.Call (.Name x p) [.Lambda params body scope lpos] [] pos) (eAsked pick fb) := by
  obtain ⟨oc, od, dV, kV, doc, pm, an, cdv, ct, osl, e0, lk, hcg, hD, hKw⟩ := F.ex
  have hbs := F.bindsN hbind
  rcases hD with ⟨_, eD⟩ | ⟨z, _⟩
  case inr => exact absurd rfl z
  subst e0 eD
  have G := asked_gives (X := X) (x := x) (q := X.env.qual ++ "<lambda>") (sg := sg) (g := g) (cdg := cdv) Sg.nd loc hne hA hC dv cv hb
  refine (LamX.pe_lamcall (t := fun E => tV P (fun cls d _ H => E cls d H) fb) hg hm F.kp lk hcg hbs Sg rfl hva G TB hcode hmT hu hr Lm hdef hbl hbody hdb hda hca).imp3 fun σ H Q ⟨L, ρ, μ, rs, st, q⟩ => ?_
  refine ⟨st.tab, fun H1 ex tb => ?_⟩
  have x1 : Ext P L H L H1 := ⟨⟨fun a o h t _ => ex a o h t, fun _ _ h => h, fun _ h => .inl h⟩, rfl, fun a h => by
    obtain ⟨vs, e⟩ := (st.dis a h).2
    rw [e]
    exact ex a _ e fun ps z => nomatch z⟩
  have s1 : St3 P H1 L μ := ⟨st.len, fun k a m h1 h2 => (st.at_ k a m h1 h2).ext0 (fun o e => ex a o e fun ps z => (st.at_ k a m h1 h2).notbl (z ▸ e)) x1.toExt0, st.nd, fun a h => ⟨(st.dis a h).1, let ⟨vs, e⟩ := (st.dis a h).2; ⟨vs, ex a _ e fun ps z => nomatch z⟩⟩, tb⟩
  refine ⟨L, ρ, μ, rs.ext x1, s1, ?_⟩
  have q1 := Post.ext x1 q
  unfold eAsked at q1
  cases e : fb ρ μ with
  | bad => rw [e] at q1; exact q1
  | ok d μ1 =>
    rw [e] at q1
    intro L2 H2 x2 s2 v rv
    refine ⟨by rw [sizeLine_eq]; simp, fun p hp => ?_⟩
    exact q1 _ _ (x2.trans (Ext.grow s2 (upd_grow hp))) (s2.grow (upd_grow hp)) _ (new_tup s2 hp (.cons (.str _) (.cons rv .nil)))
  | exc cn ns vs μ1 =>
    rw [e] at q1
    have q1 : Post P (WE W σ) L H1 (fun d L' H' => ∀ v, Rep P H' L' v d → Q v H') (match (pick cn).bind fun sh => sh.told ns vs with
      | some d => .ok d μ1
      | none => .bad) := q1
    cases ep : pick cn with
    | none => rw [ep] at q1; exact q1.elim
    | some sh =>
      rw [ep, Option.bind_some] at q1
      intro C dx L2 H2 hcl x2 s2 ⟨ws, at_, hl, rw'⟩
      obtain ⟨h1, h2, h3⟩ := hx cn C sh hcl ep
      refine ⟨C, dx, _, sh, rfl, rfl, at_, h1, h3, h2, ?_⟩
      cases sh with
      | w =>
        have q1 : Post P (WE W σ) L H1 (fun d L' H' => ∀ v, Rep P H' L' v d → Q v H') (match (lookD "word" ns vs).map fun d => D.tup [.str "no", d] with
          | some d => .ok d μ1
          | none => .bad) := q1
        cases el : lookD "word" ns vs with
        | none => rw [el] at q1; exact q1.elim
        | some d =>
          rw [el] at q1
          obtain ⟨v, lv, rv⟩ := look_rep rw' hl el
          exact ⟨v, lv, fun p hp => q1 _ _ (x2.trans (Ext.grow s2 (upd_grow hp))) (s2.grow (upd_grow hp)) _ (new_tup s2 hp (.cons (.str _) (.cons rv .nil)))⟩
      | f n =>
        have q1 : Post P (WE W σ) L H1 (fun d L' H' => ∀ v, Rep P H' L' v d → Q v H') (match (lookD "word" ns vs).bind fun d => (lookD n ns vs).map fun e => D.tup [.str "no", d, e] with
          | some d => .ok d μ1
          | none => .bad) := q1
        cases el : lookD "word" ns vs with
        | none => rw [el] at q1; exact q1.elim
        | some d =>
          rw [el, Option.bind_some] at q1
          cases em : lookD n ns vs with
          | none => rw [em] at q1; exact q1.elim
          | some d2 =>
            rw [em] at q1
            obtain ⟨v, lv, rv⟩ := look_rep rw' hl el
            obtain ⟨u, lu, ru⟩ := look_rep rw' hl em
            exact ⟨v, u, lv, lu, fun p hp => q1 _ _ (x2.trans (Ext.grow s2 (upd_grow hp))) (s2.grow (upd_grow hp)) _ (new_tup s2 hp (.cons (.str _) (.cons rv (.cons ru .nil))))⟩
      | g n m =>
        have q1 : Post P (WE W σ) L H1 (fun d L' H' => ∀ v, Rep P H' L' v d → Q v H') (match (lookD "word" ns vs).bind fun d => (lookD n ns vs).bind fun e => (lookD m ns vs).map fun f => D.tup [.str "no", d, .tup [e, f]] with
          | some d => .ok d μ1
          | none => .bad) := q1
        cases el : lookD "word" ns vs with
        | none => rw [el] at q1; exact q1.elim
        | some d =>
          rw [el, Option.bind_some] at q1
          cases em : lookD n ns vs with
          | none => rw [em] at q1; exact q1.elim
          | some d2 =>
            rw [em, Option.bind_some] at q1
            cases en : lookD m ns vs with
            | none => rw [en] at q1; exact q1.elim
            | some d3 =>
              rw [en] at q1
              obtain ⟨v, lv, rv⟩ := look_rep rw' hl el
              obtain ⟨u, lu, ru⟩ := look_rep rw' hl em
              obtain ⟨w, lw, rw2⟩ := look_rep rw' hl en
              refine ⟨v, u, w, lv, lu, lw, fun q' hq p hp => ?_⟩
              have x3 := Ext.grow (P := P) s2 (upd_grow (o := .tup [u, w]) hq)
              have s3 := s2.grow (upd_grow (o := .tup [u, w]) hq)
              have rt := new_tup s2 hq (.cons ru (.cons rw2 .nil))
              exact q1 _ _ ((x2.trans x3).trans (Ext.grow s3 (upd_grow hp))) (s3.grow (upd_grow hp)) _ (new_tup s3 hp (.cons (.str _) (.cons (rv.ext x3) (.cons rt .nil))))
end
end L3

namespace L3
open PySem PySem.Spec PyProof.Rows L2
/-! ### what the printed texts name -/
def dSl3 : D → Option Int → Option Int → Sto → R D := fun a lo hi μ => match a with
  | .tup ds => if HT.sIx ds.length 0 lo = 0 ∧ HT.sIx ds.length ds.length hi = ds.length then .bad else .ok (.tup (cutD ds lo hi)) μ
  | d => dSlice d lo hi μ
theorem ss_sl3 {P : Pm} {X : Cx} (hK : P.K = X.K) : SlS P (rSl3 X.K) dSl3 := ss_sl hK
def dAddI : D → D → Sto → R D := fun a b μ => match a, b with
  | .int i, .int j => .ok (.int (i + j)) μ
  | _, _ => .bad
/-! ### a def's datum, found in the written part -/
def fdOf (K : PySem.W.Frag) (p : Str × Option Str) : FuncData := match K.lookup (He.fAd K p) with
  | some ⟨_, _, .func fd, _⟩ => fd
  | _ => default
theorem fdOf_eq {K : PySem.W.Frag} {p : Str × Option Str} {x qual : Str} {params : Arguments} {body : List Stmt} {scope : Scope} {dvs : List V} {kws : List (Str × V)} {fd : FuncData} (F : FunD K x qual params body scope dvs kws (He.fAd K p) fd) : fdOf K p = fd := by
  obtain ⟨oc, od, dV, kV, doc, pm, an, cdv, ct, osl, rfl, lk, _, _, _⟩ := F.ex
  unfold fdOf
  rw [lk]
/-- what an exception class must be -/
def exc1 (K : PySem.W.Frag) (q : Str × List Str) : Bool := oexB K (He.ga K q.1) && (q.2.all (fun f => decide (PySem.W.findIn K (.ref (He.ga K q.1)) f = some none)) && (decide (PySem.W.findIn K (.ref (He.ga K q.1)) "__init__" = some (some (.ref (He.ma K (He.ga K q.1) "__init__")))) &&
  decide (PySem.W.typeIn K (.ref (He.ma K (He.ga K q.1) "__init__")) = some (.type "function"))))
/-- what a telling def's clauses hs make of an exception -/
def caught2 (K : PySem.W.Frag) (hs : List (List Str × Shape)) (q : Str × Shape) : Bool := xfB K (He.ga K q.1) && (q.2.flds.all (fun f => decide (PySem.W.findIn K (.ref (He.ga K q.1)) f = some none)) && decide (pickS K (He.ga K) (.ref (He.ga K q.1)) hs = some q.2))
def tdB (K : PySem.W.Frag) (q : List (List Str × Shape) × List (Str × Shape)) : Bool := q.2.all (caught2 K q.1)
/-! the module's constants -/
mutual
def conV (K : PySem.W.Frag) : Value → D → Bool
  | .int i _, .int j => decide (i = j)
  | .str z _, .str y => decide (z = y)
  | .bool b, .bl c => decide (b = c)
  | .none, .non => true
  | .ref a, .tup ds => (match K.lookup a with
    | some ⟨.type t, _, .seq its _, _⟩ => decide (t = "tuple") && (decide (its.size ≤ 1000) && conVs K its.toList ds)
    | _ => false)
  | _, _ => false
def conVs (K : PySem.W.Frag) : List Value → List D → Bool
  | [], [] => true
  | u :: us, d :: ds => conV K u d && conVs K us ds
  | _, _ => false
end
mutual
theorem conV_ok {K : PySem.W.Frag} : ∀ {u : Value} {d : D}, conV K u d = true → ∃ v, RelV v u ∧ ∀ (P : Pm) (H : Hp) (L : Lv), P.K = K → Rep P H L v d
  | u, .int j, h => by
    cases u <;> simp [conV] at h
    exact ⟨.int j, ⟨_, by rw [h]⟩, fun _ _ _ _ => .int j⟩
  | u, .str j, h => by
    cases u <;> simp [conV] at h
    exact ⟨.str j, ⟨_, by rw [h]⟩, fun _ _ _ _ => .str j⟩
  | u, .bl j, h => by
    cases u <;> simp [conV] at h
    exact ⟨.bl j, by rw [h]; rfl, fun _ _ _ _ => .bl j⟩
  | u, .non, h => by
    cases u <;> simp [conV] at h
    exact ⟨.non, rfl, fun _ _ _ _ => .non⟩
  | u, .tup ds, h => by
    cases u with
    | ref a =>
      unfold conV at h
      split at h
      · rename_i t o1 its o2 o3 e
        simp only [Bool.and_eq_true, decide_eq_true_eq] at h
        obtain ⟨h1, h2, h3⟩ := h
        subst h1
        obtain ⟨vs, r, rp⟩ := conVs_ok h3
        exact ⟨.ref a, rfl, fun P H L hK => .tup (.inr ⟨_, its, _, by rw [hK]; exact e, rfl, rfl, by rw [sizeLine_eq]; omega, r⟩) (rp P H L hK)⟩
      · cases h
    | _ => simp [conV] at h
  | u, .lst ds, h => by cases u <;> simp [conV] at h
  | u, .dct ks ds, h => by cases u <;> simp [conV] at h
  | u, .obj c ns ds, h => by cases u <;> simp [conV] at h
  | u, .cell k, h => by cases u <;> simp [conV] at h
  | u, .scr k, h => by cases u <;> simp [conV] at h
theorem conVs_ok {K : PySem.W.Frag} : ∀ {us : List Value} {ds : List D}, conVs K us ds = true → ∃ vs, Vals vs us ∧ ∀ (P : Pm) (H : Hp) (L : Lv), P.K = K → Reps P H L vs ds
  | [], [], _ => ⟨[], .nil, fun _ _ _ _ => .nil⟩
  | [], d :: ds, h => by simp [conVs] at h
  | u :: us, [], h => by simp [conVs] at h
  | u :: us, d :: ds, h => by
    simp only [conVs, Bool.and_eq_true] at h
    obtain ⟨v, r1, p1⟩ := conV_ok h.1
    obtain ⟨vs, r2, p2⟩ := conVs_ok h.2
    exact ⟨v :: vs, .cons r1 r2, fun P H L hK => .cons (p1 P H L hK) (p2 P H L hK)⟩
end
def conB (K : PySem.W.Frag) (q : Str × D) : Bool := match PySem.W.nsIn K mainGlobals q.1 with
  | some (some u) => conV K u q.2
  | _ => false
/-- a law's tables: facts, defs, defs with lambdas, exceptions raised with their fields, telling defs with what they catch, constants, classes -/
structure Lw where
  fa : List He.Fa
  fn : List He.DefD
  tf : List He.Defn
  xs : List (Str × List Str)
  tds : List (List (List Str × Shape) × List (Str × Shape))
  cn : List (Str × D)
  cs : List Str
  kds : List (Str × List (Str × D)) := []
  kwv : List (Str × Str × D) := []
/-- a written dict's entries are these -/
def kdL (K : PySem.W.Frag) : List DictEntry → List (Str × D) → Bool
  | [], [] => true
  | e :: es, q :: qs => (match e.key with
    | .str k _ => decide (k = q.1)
    | _ => false) && (conV K e.val q.2 && kdL K es qs)
  | _, _ => false
def kdB (K : PySem.W.Frag) (q : Str × List (Str × D)) : Bool := match K.lookup (He.ga K q.1) with
  | some ⟨_, _, .dict es _, _⟩ => kdL K es.toList q.2
  | _ => false
/-- a keyword-only parameter's default is this -/
def kwvB (K : PySem.W.Frag) (q : Str × Str × D) : Bool := match K.lookup (He.ga K q.1) with
  | some ⟨_, _, .func fd, _⟩ => (match fd.kwdefaults with
    | .ref D => (match PySem.W.nsIn K D q.2.1 with
      | some (some u) => conV K u q.2.2
      | _ => false)
    | _ => false)
  | _ => false
def Lw.ex (l : Lw) (K : PySem.W.Frag) : Bool := l.xs.all (exc1 K) && (l.tds.all (tdB K) && (l.cn.all (conB K) && (decide ((l.tf.map fun p => (He.cT K p).2).Nodup) && (l.kds.all (kdB K) && ((l.kds.all fun q => match PySem.W.nsIn K mainGlobals q.1 with
    | some (some (.ref a)) => decide (a = He.ga K q.1)
    | _ => false) && l.kwv.all (kwvB K))))))
/-- a law's facts -/
structure Fct (l : Lw) (P : Pm) (mg : Str → Option Value) (base : Heap) (w : World) : Prop where
  c : He.SaysD l.fa l.fn P.K
  X : P.K.In base
  G : base.Ns mainGlobals mg
  tb : ∀ p ∈ l.tf, LamX.TabB base mg (He.cT P.K p).1 (He.cT P.K p).2
  ex : l.ex P.K = true
  cls : P.cls = fun x => if x ∈ l.cs then some (He.ga P.K x) else none
  hT : P.T = l.tf.map fun p => ((He.cT P.K p).2, p.1 ++ (".<locals>." : Str) ++ ("<lambda>" : Str))
  kd : ∀ q ∈ l.kds, ∃ es n, KDict P.K w (He.ga P.K q.1) es n
def pickL (ys : List (Str × Shape)) : Str → Option Shape := fun x => ys.lookup x
section
variable {l : Lw} {P : Pm} {mg : Str → Option Value} {base : Heap} {w : World}
theorem Fct.fun_ (T : Fct l P mg base w) (i : Nat) {d : He.DefD} (h : l.fn[i]? = some d) : FunD P.K d.name d.qual d.params d.body d.scope (d.dvs P.K) (d.kws P.K) (He.fAd P.K d.at_) (fdOf P.K d.at_) := by
  obtain ⟨fd, F⟩ := T.c.def_ i h
  rw [fdOf_eq F]
  exact F
theorem Fct.glo (T : Fct l P mg base w) (i : Nat) {x : Str} (h : l.fa[i]? = some (.glo x)) : mg x = some (.ref (He.ga P.K x)) := He.glo_ok T.X T.G (T.c.fact i h)
theorem Fct.free (T : Fct l P mg base w) (i : Nat) {x : Str} (h : l.fa[i]? = some (.free x)) : mg x = none := He.free_ok T.X T.G (T.c.fact i h)
def isGlo (x : Str) : He.Fa → Bool
  | .glo y => decide (x = y)
  | _ => false
def hCb (fa : List He.Fa) (sc : Scope) (hs : List (List Str × Shape)) : Bool := hs.all fun q => decide (q.1.length ≤ 100) && q.1.all fun x => decide (sc.names.lookup x = some .globalImplicit) && (!(x == ("__debug__" : Str)) && fa.any (isGlo x))
theorem hC_of {fa : List He.Fa} (T : Fct l P mg base w) {hs : List (List Str × Shape)} {sc : Scope} (h : hCb fa sc hs = true) (hfa : l.fa = fa := by rfl) :
    ∀ q ∈ hs, q.1.length ≤ 100 ∧ ∀ x ∈ q.1, sc.names.lookup x = some .globalImplicit ∧ (x == ("__debug__" : Str)) = false ∧ mg x = some (.ref (He.ga P.K x)) := fun q hq => by
  have h1 := List.all_eq_true.mp h q hq
  obtain ⟨g1, g2⟩ := Bool.and_eq_true_iff.mp h1
  refine ⟨of_decide_eq_true g1, fun x hx => ?_⟩
  have h2 := List.all_eq_true.mp g2 x hx
  obtain ⟨g3, g4⟩ := Bool.and_eq_true_iff.mp h2
  obtain ⟨g5, g6⟩ := Bool.and_eq_true_iff.mp g4
  refine ⟨of_decide_eq_true g3, by simpa using g5, ?_⟩
  obtain ⟨f, hf, e⟩ := List.any_eq_true.mp g6
  cases f <;> simp [isGlo] at e
  subst e
  rw [← hfa] at hf
  obtain ⟨i, hi, e⟩ := List.mem_iff_getElem.mp hf
  exact T.glo i (by rw [List.getElem?_eq_getElem hi, e])
theorem Fct.exc (T : Fct l P mg base w) (i : Nat) {q : Str × List Str} (h : l.xs[i]? = some q) : OexC P.K (He.ga P.K q.1) ∧ (∀ f ∈ q.2, PySem.W.findIn P.K (.ref (He.ga P.K q.1)) f = some none) ∧ PySem.W.findIn P.K (.ref (He.ga P.K q.1)) "__init__" = some (some (.ref (He.ma P.K (He.ga P.K q.1) "__init__"))) ∧
    PySem.W.typeIn P.K (.ref (He.ma P.K (He.ga P.K q.1) "__init__")) = some (.type "function") := by
  have h1 := List.all_eq_true.mp (Bool.and_eq_true_iff.mp T.ex).1 q (List.mem_of_getElem? h)
  obtain ⟨g1, h1⟩ := Bool.and_eq_true_iff.mp h1
  obtain ⟨g2, h1⟩ := Bool.and_eq_true_iff.mp h1
  obtain ⟨g3, g4⟩ := Bool.and_eq_true_iff.mp h1
  exact ⟨oexB_ok g1, fun f hf => of_decide_eq_true (List.all_eq_true.mp g2 f hf), of_decide_eq_true g3, of_decide_eq_true g4⟩
theorem Fct.clsOf (T : Fct l P mg base w) {x : Str} (h : decide (x ∈ l.cs) = true) : P.cls x = some (He.ga P.K x) := by
  rw [T.cls]
  exact if_pos (of_decide_eq_true h)
theorem Fct.xf (T : Fct l P mg base w) (i : Nat) {hs : List (List Str × Shape)} {ys : List (Str × Shape)} (h : l.tds[i]? = some (hs, ys)) : ∀ n C sh, P.cls n = some C → pickL ys n = some sh → XfC P.K C ∧ (∀ f ∈ sh.flds, PySem.W.findIn P.K (.ref C) f = some none) ∧ pickS P.K (He.ga P.K) (.ref C) hs = some sh := fun n C sh hC hn => by
  rw [T.cls] at hC
  have hC : (if n ∈ l.cs then some (He.ga P.K n) else none) = some C := hC
  split at hC
  · cases hC
    have h1 := List.all_eq_true.mp (Bool.and_eq_true_iff.mp (Bool.and_eq_true_iff.mp T.ex).2).1 _ (List.mem_of_getElem? h)
    have mem : ∀ {zs : List (Str × Shape)}, zs.lookup n = some sh → (n, sh) ∈ zs := by
      intro zs
      induction zs with
      | nil => intro z; cases z
      | cons q r ih =>
        intro z
        rw [List.lookup_cons] at z
        by_cases e : n = q.1
        · have e2 : (n == q.1) = true := by simp [e]
          rw [e2] at z
          cases z
          rw [e]; exact List.mem_cons_self
        · have e2 : (n == q.1) = false := by simp [e]
          rw [e2] at z
          exact List.mem_cons_of_mem _ (ih z)
    have h2 := List.all_eq_true.mp h1 (n, sh) (mem hn)
    obtain ⟨g1, h2⟩ := Bool.and_eq_true_iff.mp h2
    obtain ⟨g2, g3⟩ := Bool.and_eq_true_iff.mp h2
    exact ⟨xfB_ok g1, fun f hf => of_decide_eq_true (List.all_eq_true.mp g2 f hf), of_decide_eq_true g3⟩
  · cases hC
theorem Fct.con (T : Fct l P mg base w) (i : Nat) {x : Str} {d : D} (h : l.cn[i]? = some (x, d)) : ∃ u v, mg x = some u ∧ RelV v u ∧ ∀ (H : Hp) (L : Lv), Rep P H L v d := by
  have h1 := List.all_eq_true.mp (Bool.and_eq_true_iff.mp (Bool.and_eq_true_iff.mp (Bool.and_eq_true_iff.mp T.ex).2).2).1 _ (List.mem_of_getElem? h)
  unfold conB at h1
  split at h1
  · rename_i u e
    obtain ⟨v, r, p⟩ := conV_ok h1
    exact ⟨u, v, PySem.W.mg_of T.X T.G e, r, fun H L => p P H L rfl⟩
  · cases h1
theorem Fct.name (T : Fct l P mg base w) {W : WX} {X : Cx} {pos : Pos} {x : Str} {d : D} (i : Nat) (h : l.cn[i]? = some (x, d)) (hmg : X.mg = mg) (hg : Gl X x) (hd : (x == ("__debug__" : Str)) = false := by decide) : VE P W X (.Name x pos) (eC d) := by
  obtain ⟨u, v, h1, h2, h3⟩ := T.con i h
  exact ve_c (pe_glob hg (by rw [hmg]; exact h1) h2 hd) fun L H => h3 H L
theorem Fct.tm (T : Fct l P mg base w) (i : Nat) {p : He.Defn} (h : l.tf[i]? = some p) {q : Str} (hq : q = p.1 ++ (".<locals>." : Str) ++ ("<lambda>" : Str)) : ((He.cT P.K p).2, q) ∈ P.T := by
  rw [T.hT, hq]
  exact List.mem_map.mpr ⟨p, List.mem_of_getElem? h, rfl⟩
theorem Fct.tu (T : Fct l P mg base w) (i : Nat) {p : He.Defn} (h : l.tf[i]? = some p) {q : Str} (hq : q = p.1 ++ (".<locals>." : Str) ++ ("<lambda>" : Str)) : ∀ z ∈ P.T, z.1 = (He.cT P.K p).2 → z.2 = q := fun z hz e => by
  rw [T.hT] at hz
  obtain ⟨p', hp', e'⟩ := List.mem_map.mp hz
  have nd := of_decide_eq_true (Bool.and_eq_true_iff.mp (Bool.and_eq_true_iff.mp (Bool.and_eq_true_iff.mp (Bool.and_eq_true_iff.mp T.ex).2).2).2).1
  rw [← e'] at e
  have e : (He.cT P.K p').2 = (He.cT P.K p).2 := e
  have : p' = p := by
    obtain ⟨j, hj, ej⟩ := List.mem_iff_getElem.mp hp'
    obtain ⟨hi, ei⟩ := List.getElem?_eq_some_iff.mp h
    have nd := List.pairwise_iff_getElem.mp nd
    have this : j = i := by
      rcases Nat.lt_trichotomy j i with z | z | z
      · exact (nd j i (by simpa using hj) (by simpa using hi) z (by simp only [List.getElem_map]; rw [ej, ei]; exact e)).elim
      · exact z
      · exact (nd i j (by simpa using hi) (by simpa using hj) z (by simp only [List.getElem_map]; rw [ej, ei]; exact e.symm)).elim
    subst this
    rw [← ej, ← ei]
  subst this
  rw [← e', hq]
end
/-- a written dict: its value, what stands at a key -/
structure KdAt (P : Pm) (w : World) (a : Addr) (kvs : List (Str × D)) : Prop where
  kd : ∃ es n, KDict P.K w a es n
  get : ∀ z : Str, ∃ r, PySem.W.nsIn P.K a z = some r ∧ ((kvs.lookup z = none ∧ r = none) ∨ ∃ d u v, kvs.lookup z = some d ∧ r = some u ∧ RelV v u ∧ ∀ (H : Hp) (L : Lv), Rep P H L v d)
theorem kdL_get {P : Pm} {z : Str} : ∀ {es : List DictEntry} {kvs : List (Str × D)}, kdL P.K es kvs = true → (es.any (·.refKey)) = false ∧
    ((kvs.lookup z = none ∧ es.find? (·.key.isStr z) = none) ∨ ∃ d e v, kvs.lookup z = some d ∧ es.find? (·.key.isStr z) = some e ∧ RelV v e.val ∧ ∀ (H : Hp) (L : Lv), Rep P H L v d)
  | [], [], _ => ⟨rfl, .inl ⟨rfl, rfl⟩⟩
  | [], q :: qs, h => by simp [kdL] at h
  | e :: es, [], h => by simp [kdL] at h
  | e :: es, q :: qs, h => by
    unfold kdL at h
    simp only [Bool.and_eq_true] at h
    obtain ⟨h1, h2, h3⟩ := h
    obtain ⟨g1, g2⟩ := kdL_get (z := z) h3
    cases ek : e.key with
    | str k t =>
      rw [ek] at h1
      have h1 : k = q.1 := of_decide_eq_true h1
      refine ⟨?_, ?_⟩
      · rw [List.any_cons, g1, Bool.or_false]
        unfold DictEntry.refKey
        rw [ek]
      · by_cases c : k = z
        · refine .inr ⟨q.2, e, ?_⟩
          obtain ⟨v, r, p⟩ := conV_ok h2
          refine ⟨v, ?_, ?_, r, fun H L => p P H L rfl⟩
          · obtain ⟨q1, q2⟩ := q
            have : z = q1 := by rw [← c]; exact h1
            subst this
            simp [List.lookup]
          · rw [List.find?_cons, ek]
            have : (Value.str k t).isStr z = true := by rw [c]; simp [Value.isStr]
            rw [this]
        · have e1 : (q :: qs).lookup z = qs.lookup z := by
            obtain ⟨q1, q2⟩ := q
            rw [List.lookup_cons]
            have : (z == q1) = false := by
              have h1 : k = q1 := h1
              rw [← h1]
              simpa using fun y : z = k => c y.symm
            rw [this]
          have e2 : (e :: es).find? (·.key.isStr z) = es.find? (·.key.isStr z) := by
            rw [List.find?_cons, ek]
            have : (Value.str k t).isStr z = false := by
              simp [Value.isStr]
              exact c
            rw [this]
          rw [e1, e2]
          exact g2
    | _ => rw [ek] at h1; cases h1
section
variable {l : Lw} {P : Pm} {mg : Str → Option Value} {base : Heap} {w : World}
theorem Fct.kdAt (T : Fct l P mg base w) (i : Nat) {x : Str} {kvs : List (Str × D)} (h : l.kds[i]? = some (x, kvs)) : KdAt P w (He.ga P.K x) kvs ∧ mg x = some (.ref (He.ga P.K x)) := by
  have hm := List.mem_of_getElem? h
  have h0 := (Bool.and_eq_true_iff.mp (Bool.and_eq_true_iff.mp (Bool.and_eq_true_iff.mp (Bool.and_eq_true_iff.mp T.ex).2).2).2).2
  obtain ⟨h1, h2⟩ := Bool.and_eq_true_iff.mp h0
  have h2 := (Bool.and_eq_true_iff.mp h2).1
  have h1 := List.all_eq_true.mp h1 _ hm
  have h2 := List.all_eq_true.mp h2 _ hm
  refine ⟨⟨T.kd _ hm, fun z => ?_⟩, ?_⟩
  · unfold kdB at h1
    split at h1
    · rename_i o1 o2 es n o3 e
      obtain ⟨g1, g2⟩ := kdL_get (P := P) (z := z) h1
      unfold PySem.W.nsIn
      rw [e]
      dsimp only
      rcases g2 with ⟨g2, g3⟩ | ⟨d, e2, v, g2, g3, g4, g5⟩
      · rw [g3]
        dsimp only
        rw [g1]
        exact ⟨none, rfl, .inl ⟨g2, rfl⟩⟩
      · rw [g3]
        exact ⟨some e2.val, rfl, .inr ⟨d, _, v, g2, rfl, g4, g5⟩⟩
    · cases h1
  · dsimp only at h2
    split at h2
    · rename_i a e
      have h2 := of_decide_eq_true h2
      rw [← h2]
      exact PySem.W.mg_of T.X T.G e
    · cases h2
end
/-! ### a def with lambdas -/
section
variable {P : Pm} {Pr : Program} {w : World} {mg : Str → Option Value} {base : Heap} {x qual : Str} {params : Arguments} {body : List Stmt} {scope : Scope} {dvs : List V} {kws : List (Str × V)} {p : Str × Option Str} {N ps : List Str} {k n : Nat}
theorem fn_okT {fs : SS} (F : FunD P.K x qual params body scope dvs kws (He.fAd P.K p) (fdOf P.K p)) (S : FnScope N ps scope) (hn : ps.length = n)
    (hb : ∀ (A : Around) (outer : List _root_.PySem.Env) (s : Shared) (H : Hp) (E : XK), Room k (A.deeper (envOfC qual scope s.heap.objs.size (He.fAd P.K p) (.ref (He.cT P.K p).1))) →
      VSs P (fun cls d _ H => E cls d H) (cxOf (L2.CX Pr w) Pr w P.K mg base N qual scope (He.fAd P.K p) (.ref (He.cT P.K p).1) A outer s H E) body fs) :
    FnOk Pr w P.K mg base (L2.CX Pr w) (k + 1) (He.fAd P.K p) (fdOf P.K p) ps (spF P n (fnF N.length fs)) := by
  obtain ⟨oc, od, dV, kV, doc, pm, an, cdv, ct, osl, efd, lk, hcg, hD, hK⟩ := F.ex
  obtain ⟨c, rfl⟩ := He.codeIn_ref hcg
  rw [efd] at lk ⊢
  have ec : He.codeOf P.K p = c := He.codeOf_eq lk rfl
  have hb' : ∀ (A : Around) (outer : List _root_.PySem.Env) (s : Shared) (H : Hp) (E : XK), Room k (A.deeper (envOfC qual scope s.heap.objs.size (He.fAd P.K p) (.ref c))) →
      VSs P (fun cls d _ H => E cls d H) (cxOf (L2.CX Pr w) Pr w P.K mg base N qual scope (He.fAd P.K p) (.ref c) A outer s H E) body fs := by
    have : (He.cT P.K p).1 = c := ec
    rw [← this]
    exact hb
  refine fn_of lk hcg S (fun vs H Q E h => by rw [hn]; exact h.1) fun A outer s H vs Q E hr h => ?_
  obtain ⟨_, L, ds, μ, r, st, q⟩ := h
  refine ⟨_, hb' A outer s H E hr, L, _, μ, start_rel r, st, ?_⟩
  unfold fnF at q
  cases e : fs (ds.map some ++ List.replicate (N.length - ds.length) none) μ with
  | nx ρ μ' => rw [e] at q; exact fun σ' L' H' x s' rs' => q L' H' x s' _ .non
  | rt d μ' => rw [e] at q; exact fun v L' H' x s' r' => q L' H' x s' v r'
  | bk ρ μ' => rw [e] at q; exact q.elim
  | ct ρ μ' => rw [e] at q; exact q.elim
  | exc c ns vs ρ μ' => rw [e] at q; exact fun σ' C dx L' H' hc x s' rs' f => q C dx L' H' hc x s' f
  | bad => rw [e] at q; exact q.elim
end
end L3

namespace Pf
open PySem PySem.Spec PyProof.Rows L2 L3
abbrev hs__law_asked : List (List Str × L3.Shape) := [(["BadTerm"], (.f "flaw")), (["BadTable", "BadText"], (.f "at")), (["BadTables", "BadWeb", "NoLetter"], (.f "letter")), (["Unsound"], (.g "which" "place")), (["Unsteady"], (.f "place")), (["BadNumber"], (.f "number")), (["BadName", "Taken", "Ring", "InUse", "Breaks", "NoName"], (.f "name")), (["BadWord"], (.f "word_told")), (["Full"], (.f "most")), (["Stopped"], (.g "at" "why")), (["BadPage"], (.f "row")), (["NeverError"], .w), (["Missing"], .w)]
abbrev ys__law_asked : List (Str × L3.Shape) := [("BadTerm", (.f "flaw"))]
abbrev kd_THINGS_v : List (Str × D) := [("plus", .int 2), ("less", .int 2), ("times", .int 2), ("undo", .int 1)]
end Pf

namespace Pf
open PySem PySem.Spec PyProof.Rows L2 L3
def top (i : Nat) : Stmt := PySem.Challenge.pw_nevernought_k40_reckonings_nudged_and_tu.main.body.getD i (.Pass ⟨0, 0, 0, 0⟩)
abbrev s__law_asked : Stmt := top 56
theorem sc__law_asked : FnScope ["_law_ask", "e"] ["_law_ask"] (defScope s__law_asked) := ⟨rfl, rfl, rfl, by decide +kernel, rfl, by decide +kernel, by decide +kernel⟩
abbrev s__law_bag : Stmt := top 52
theorem sc__law_bag : FnScope ["_law_script", "_law_salt", "_law_cell"] ["_law_script"] (defScope s__law_bag) := ⟨rfl, rfl, rfl, by decide +kernel, rfl, by decide +kernel, by decide +kernel⟩
abbrev s__law_pull : Stmt := top 53
theorem sc__law_pull : FnScope ["_law_bag_here", "_law_sides", "_law_cell", "_law_got", "_law_seed"] ["_law_bag_here", "_law_sides"] (defScope s__law_pull) := ⟨rfl, rfl, rfl, by decide +kernel, rfl, by decide +kernel, by decide +kernel⟩
abbrev s__law_of : Stmt := top 54
theorem sc__law_of : FnScope ["_law_bag_here", "_law_some"] ["_law_bag_here", "_law_some"] (defScope s__law_of) := ⟨rfl, rfl, rfl, by decide +kernel, rfl, by decide +kernel, by decide +kernel⟩
abbrev s__law_abc : Stmt := top 60
theorem sc__law_abc : FnScope ["_law_bag_here", "_law_many", "_law_first", "_law_found", "_law_pad", "_law_at", "_law_k", "_law_sign"] ["_law_bag_here", "_law_many"] (defScope s__law_abc) := ⟨rfl, rfl, rfl, by decide +kernel, rfl, by decide +kernel, by decide +kernel⟩
abbrev s__law_gcd : Stmt := top 57
theorem sc__law_gcd : FnScope ["_law_one", "_law_other"] ["_law_one", "_law_other"] (defScope s__law_gcd) := ⟨rfl, rfl, rfl, by decide +kernel, rfl, by decide +kernel, by decide +kernel⟩
abbrev s__law_fr : Stmt := top 58
theorem sc__law_fr : FnScope ["_law_top", "_law_bottom", "_law_per"] ["_law_top", "_law_bottom"] (defScope s__law_fr) := ⟨rfl, rfl, rfl, by decide +kernel, rfl, by decide +kernel, by decide +kernel⟩
abbrev s__law_light : Stmt := top 59
theorem sc__law_light : FnScope ["_law_bag_here"] ["_law_bag_here"] (defScope s__law_light) := ⟨rfl, rfl, rfl, by decide +kernel, rfl, by decide +kernel, by decide +kernel⟩
abbrev s__law_leaf : Stmt := top 61
theorem sc__law_leaf : FnScope ["_law_bag_here", "_law_signs"] ["_law_bag_here", "_law_signs"] (defScope s__law_leaf) := ⟨rfl, rfl, rfl, by decide +kernel, rfl, by decide +kernel, by decide +kernel⟩
abbrev s__law_drawn : Stmt := top 62
theorem sc__law_drawn : FnScope ["_law_bag_here", "_law_signs", "_law_room", "_law_deep", "_law_way", "_law_half", "_law_one"] ["_law_bag_here", "_law_signs", "_law_room", "_law_deep"] (defScope s__law_drawn) := ⟨rfl, rfl, rfl, by decide +kernel, rfl, by decide +kernel, by decide +kernel⟩
abbrev s_is_letter : Stmt := top 33
theorem sc_is_letter : FnScope ["text", "sign"] ["text"] (defScope s_is_letter) := ⟨rfl, rfl, rfl, by decide +kernel, rfl, by decide +kernel, by decide +kernel⟩
abbrev s_divisor : Stmt := top 24
theorem sc_divisor : FnScope ["one", "other"] ["one", "other"] (defScope s_divisor) := ⟨rfl, rfl, rfl, by decide +kernel, rfl, by decide +kernel, by decide +kernel⟩
abbrev s_is_share : Stmt := top 25
theorem sc_is_share : FnScope ["thing", "number"] ["thing"] (defScope s_is_share) := ⟨rfl, rfl, rfl, by decide +kernel, rfl, by decide +kernel, by decide +kernel⟩
abbrev s_is_leaf : Stmt := top 34
theorem sc_is_leaf : FnScope ["thing"] ["thing"] (defScope s_is_leaf) := ⟨rfl, rfl, rfl, by decide +kernel, rfl, by decide +kernel, by decide +kernel⟩
abbrev s_is_built : Stmt := top 35
theorem sc_is_built : FnScope ["thing", "inner"] ["thing"] (defScope s_is_built) := ⟨rfl, rfl, rfl, by decide +kernel, rfl, by decide +kernel, by decide +kernel⟩
abbrev s_things_in : Stmt := top 36
theorem sc_things_in : FnScope ["term"] ["term"] (defScope s_things_in) := ⟨rfl, rfl, rfl, by decide +kernel, rfl, by decide +kernel, by decide +kernel⟩
abbrev s_many_parts : Stmt := top 37
theorem sc_many_parts : FnScope ["term", "inner"] ["term"] (defScope s_many_parts) := ⟨rfl, rfl, rfl, by decide +kernel, rfl, by decide +kernel, by decide +kernel⟩
abbrev s_all_letters : Stmt := top 38
theorem sc_all_letters : FnScope ["term", "inner", "letter"] ["term"] (defScope s_all_letters) := ⟨rfl, rfl, rfl, by decide +kernel, rfl, by decide +kernel, by decide +kernel⟩
abbrev s_letters_of : Stmt := top 39
theorem sc_letters_of : FnScope ["term", "letter"] ["term"] (defScope s_letters_of) := ⟨rfl, rfl, rfl, by decide +kernel, rfl, by decide +kernel, by decide +kernel⟩
abbrev s_deep_of : Stmt := top 40
theorem sc_deep_of : FnScope ["term", "deep", "inner"] ["term"] (defScope s_deep_of) := ⟨rfl, rfl, rfl, by decide +kernel, rfl, by decide +kernel, by decide +kernel⟩
abbrev s_flaw_in : Stmt := top 41
theorem sc_flaw_in : FnScope ["term"] ["term"] (defScope s_flaw_in) := ⟨rfl, rfl, rfl, by decide +kernel, rfl, by decide +kernel, by decide +kernel⟩
abbrev s_flaw_of : Stmt := top 42
theorem sc_flaw_of : FnScope ["term"] ["term"] (defScope s_flaw_of) := ⟨rfl, rfl, rfl, by decide +kernel, rfl, by decide +kernel, by decide +kernel⟩
abbrev s_need_term : Stmt := top 43
theorem sc_need_term : FnScope ["term", "flaw"] ["term"] (defScope s_need_term) := ⟨rfl, rfl, rfl, by decide +kernel, rfl, by decide +kernel, by decide +kernel⟩
abbrev s_nudged_by : Stmt := top 47
theorem sc_nudged_by : FnScope ["term", "letter", "by", "word", "things", "moved", "inner"] ["term", "letter", "by"] (defScope s_nudged_by) := ⟨rfl, rfl, rfl, by decide +kernel, rfl, by decide +kernel, by decide +kernel⟩
abbrev s_need_good : Stmt := top 46
theorem sc_need_good : FnScope ["term", "flaw"] ["term"] (defScope s_need_good) := ⟨rfl, rfl, rfl, by decide +kernel, rfl, by decide +kernel, by decide +kernel⟩
abbrev s_nudged : Stmt := top 48
theorem sc_nudged : FnScope ["term", "letter", "by"] ["term", "letter", "by"] (defScope s_nudged) := ⟨rfl, rfl, rfl, by decide +kernel, rfl, by decide +kernel, by decide +kernel⟩
abbrev s__law_moved : Stmt := top 71
theorem sc__law_moved : FnScope ["_law_term", "_law_sign", "_law_per", "_law_none", "_law_moved_here", "_law_part_now"] ["_law_term", "_law_sign", "_law_per"] (defScope s__law_moved) := ⟨rfl, rfl, rfl, by decide +kernel, rfl, by decide +kernel, by decide +kernel⟩
abbrev s__law_inner : Stmt := top 63
theorem sc__law_inner : FnScope ["_law_term"] ["_law_term"] (defScope s__law_inner) := ⟨rfl, rfl, rfl, by decide +kernel, rfl, by decide +kernel, by decide +kernel⟩
abbrev s__law_count : Stmt := top 64
theorem sc__law_count : FnScope ["_law_term", "_law_part_now"] ["_law_term"] (defScope s__law_count) := ⟨rfl, rfl, rfl, by decide +kernel, rfl, by decide +kernel, by decide +kernel⟩
abbrev s__law_all_parts : Stmt := top 66
theorem sc__law_all_parts : FnScope ["_law_term", "_law_found", "_law_part_now"] ["_law_term"] (defScope s__law_all_parts) := ⟨rfl, rfl, rfl, by decide +kernel, rfl, by decide +kernel, by decide +kernel⟩
abbrev s__law_letters : Stmt := top 67
theorem sc__law_letters : FnScope ["_law_term", "_law_one"] ["_law_term"] (defScope s__law_letters) := ⟨rfl, rfl, rfl, by decide +kernel, rfl, by decide +kernel, by decide +kernel⟩
abbrev s__law_depth : Stmt := top 65
theorem sc__law_depth : FnScope ["_law_term", "_law_part_now"] ["_law_term"] (defScope s__law_depth) := ⟨rfl, rfl, rfl, by decide +kernel, rfl, by decide +kernel, by decide +kernel⟩
abbrev s__law_fault : Stmt := top 68
theorem sc__law_fault : FnScope ["_law_term"] ["_law_term"] (defScope s__law_fault) := ⟨rfl, rfl, rfl, by decide +kernel, rfl, by decide +kernel, by decide +kernel⟩
abbrev s__law_same : Stmt := top 55
theorem sc__law_same : FnScope ["_law_found", "_law_due", "_law_k"] ["_law_found", "_law_due"] (defScope s__law_same) := ⟨rfl, rfl, rfl, by decide +kernel, rfl, by decide +kernel, by decide +kernel⟩
abbrev s_turned_in : Stmt := top 49
theorem sc_turned_in : FnScope ["term", "word", "things", "found", "inner"] ["term"] (defScope s_turned_in) := ⟨rfl, rfl, rfl, by decide +kernel, rfl, by decide +kernel, by decide +kernel⟩
abbrev s_turned : Stmt := top 50
theorem sc_turned : FnScope ["term"] ["term"] (defScope s_turned) := ⟨rfl, rfl, rfl, by decide +kernel, rfl, by decide +kernel, by decide +kernel⟩
abbrev s__law_other_way : Stmt := top 72
theorem sc__law_other_way : FnScope ["_law_term", "_law_found", "_law_part_now"] ["_law_term"] (defScope s__law_other_way) := ⟨rfl, rfl, rfl, by decide +kernel, rfl, by decide +kernel, by decide +kernel⟩
abbrev s__law_odd : Stmt := top 70
theorem sc__law_odd : FnScope ["_law_bag_here", "_law_some", "_law_leaf_here"] ["_law_bag_here"] (defScope s__law_odd) := ⟨rfl, rfl, rfl, by decide +kernel, rfl, by decide +kernel, by decide +kernel⟩
abbrev s__law_twist : Stmt := top 69
theorem sc__law_twist : FnScope ["_law_bag_here", "_law_term", "_law_odd_here", "_law_inner_here", "_law_at"] ["_law_bag_here", "_law_term", "_law_odd_here"] (defScope s__law_twist) := ⟨rfl, rfl, rfl, by decide +kernel, rfl, by decide +kernel, by decide +kernel⟩
abbrev s_law : Stmt := top 73
theorem sc_law : FnScope ["_law_script", "_law_bag_here", "_law_turn", "_law_signs", "_law_given", "_law_found", "_law_made", "_law_flaw", "_law_asks", "_law_odd_here", "_law_per", "_law_sign", "_law_term", "_law_ask"] ["_law_script"] (defScope s_law) := ⟨rfl, rfl, rfl, by decide +kernel, rfl, by decide +kernel, by decide +kernel⟩
abbrev sx_BadTerm : Stmt := inClass (top 3) 0
theorem scx_BadTerm : FnScope ["self", "flaw"] ["self", "flaw"] (defScope sx_BadTerm) := ⟨rfl, rfl, rfl, by decide +kernel, rfl, by decide +kernel, by decide +kernel⟩
def fn : List He.DefD := [⟨("_law_asked", none), "_law_asked", "_law_asked", defArgs s__law_asked, defBody s__law_asked, defScope s__law_asked, [], []⟩,
  ⟨("_law_bag", none), "_law_bag", "_law_bag", defArgs s__law_bag, defBody s__law_bag, defScope s__law_bag, [], []⟩,
  ⟨("_law_pull", none), "_law_pull", "_law_pull", defArgs s__law_pull, defBody s__law_pull, defScope s__law_pull, [], []⟩,
  ⟨("_law_of", none), "_law_of", "_law_of", defArgs s__law_of, defBody s__law_of, defScope s__law_of, [], []⟩,
  ⟨("_law_abc", none), "_law_abc", "_law_abc", defArgs s__law_abc, defBody s__law_abc, defScope s__law_abc, [], []⟩,
  ⟨("_law_gcd", none), "_law_gcd", "_law_gcd", defArgs s__law_gcd, defBody s__law_gcd, defScope s__law_gcd, [], []⟩,
  ⟨("_law_fr", none), "_law_fr", "_law_fr", defArgs s__law_fr, defBody s__law_fr, defScope s__law_fr, [], []⟩,
  ⟨("_law_light", none), "_law_light", "_law_light", defArgs s__law_light, defBody s__law_light, defScope s__law_light, [], []⟩,
  ⟨("_law_leaf", none), "_law_leaf", "_law_leaf", defArgs s__law_leaf, defBody s__law_leaf, defScope s__law_leaf, [], []⟩,
  ⟨("_law_drawn", none), "_law_drawn", "_law_drawn", defArgs s__law_drawn, defBody s__law_drawn, defScope s__law_drawn, [], []⟩,
  ⟨("is_letter", none), "is_letter", "is_letter", defArgs s_is_letter, defBody s_is_letter, defScope s_is_letter, [], []⟩,
  ⟨("divisor", none), "divisor", "divisor", defArgs s_divisor, defBody s_divisor, defScope s_divisor, [], []⟩,
  ⟨("is_share", none), "is_share", "is_share", defArgs s_is_share, defBody s_is_share, defScope s_is_share, [], []⟩,
  ⟨("is_leaf", none), "is_leaf", "is_leaf", defArgs s_is_leaf, defBody s_is_leaf, defScope s_is_leaf, [], []⟩,
  ⟨("is_built", none), "is_built", "is_built", defArgs s_is_built, defBody s_is_built, defScope s_is_built, [], []⟩,
  ⟨("things_in", none), "things_in", "things_in", defArgs s_things_in, defBody s_things_in, defScope s_things_in, [], []⟩,
  ⟨("many_parts", none), "many_parts", "many_parts", defArgs s_many_parts, defBody s_many_parts, defScope s_many_parts, [], []⟩,
  ⟨("all_letters", none), "all_letters", "all_letters", defArgs s_all_letters, defBody s_all_letters, defScope s_all_letters, [], []⟩,
  ⟨("letters_of", none), "letters_of", "letters_of", defArgs s_letters_of, defBody s_letters_of, defScope s_letters_of, [], []⟩,
  ⟨("deep_of", none), "deep_of", "deep_of", defArgs s_deep_of, defBody s_deep_of, defScope s_deep_of, [], []⟩,
  ⟨("flaw_in", none), "flaw_in", "flaw_in", defArgs s_flaw_in, defBody s_flaw_in, defScope s_flaw_in, [], []⟩,
  ⟨("flaw_of", none), "flaw_of", "flaw_of", defArgs s_flaw_of, defBody s_flaw_of, defScope s_flaw_of, [], []⟩,
  ⟨("need_term", none), "need_term", "need_term", defArgs s_need_term, defBody s_need_term, defScope s_need_term, [], []⟩,
  ⟨("nudged_by", none), "nudged_by", "nudged_by", defArgs s_nudged_by, defBody s_nudged_by, defScope s_nudged_by, [], []⟩,
  ⟨("need_good", none), "need_good", "need_good", defArgs s_need_good, defBody s_need_good, defScope s_need_good, [], []⟩,
  ⟨("nudged", none), "nudged", "nudged", defArgs s_nudged, defBody s_nudged, defScope s_nudged, [], []⟩,
  ⟨("_law_moved", none), "_law_moved", "_law_moved", defArgs s__law_moved, defBody s__law_moved, defScope s__law_moved, [], []⟩,
  ⟨("_law_inner", none), "_law_inner", "_law_inner", defArgs s__law_inner, defBody s__law_inner, defScope s__law_inner, [], []⟩,
  ⟨("_law_count", none), "_law_count", "_law_count", defArgs s__law_count, defBody s__law_count, defScope s__law_count, [], []⟩,
  ⟨("_law_all_parts", none), "_law_all_parts", "_law_all_parts", defArgs s__law_all_parts, defBody s__law_all_parts, defScope s__law_all_parts, [], []⟩,
  ⟨("_law_letters", none), "_law_letters", "_law_letters", defArgs s__law_letters, defBody s__law_letters, defScope s__law_letters, [], []⟩,
  ⟨("_law_depth", none), "_law_depth", "_law_depth", defArgs s__law_depth, defBody s__law_depth, defScope s__law_depth, [], []⟩,
  ⟨("_law_fault", none), "_law_fault", "_law_fault", defArgs s__law_fault, defBody s__law_fault, defScope s__law_fault, [], []⟩,
  ⟨("_law_same", none), "_law_same", "_law_same", defArgs s__law_same, defBody s__law_same, defScope s__law_same, [], []⟩,
  ⟨("turned_in", none), "turned_in", "turned_in", defArgs s_turned_in, defBody s_turned_in, defScope s_turned_in, [], []⟩,
  ⟨("turned", none), "turned", "turned", defArgs s_turned, defBody s_turned, defScope s_turned, [], []⟩,
  ⟨("_law_other_way", none), "_law_other_way", "_law_other_way", defArgs s__law_other_way, defBody s__law_other_way, defScope s__law_other_way, [], []⟩,
  ⟨("_law_odd", none), "_law_odd", "_law_odd", defArgs s__law_odd, defBody s__law_odd, defScope s__law_odd, [], []⟩,
  ⟨("_law_twist", none), "_law_twist", "_law_twist", defArgs s__law_twist, defBody s__law_twist, defScope s__law_twist, [], []⟩,
  ⟨("law", none), "law", "law", defArgs s_law, defBody s_law, defScope s_law, [], []⟩,
  ⟨("BadTerm", some "__init__"), "__init__", "BadTerm.__init__", defArgs sx_BadTerm, defBody sx_BadTerm, defScope sx_BadTerm, [], []⟩]
def fa : List He.Fa := [.glo "_law_asked", .glo "_law_bag", .glo "_law_pull", .glo "_law_of", .glo "_law_abc", .glo "_law_gcd", .glo "_law_fr", .glo "_law_light", .glo "_law_leaf", .glo "_law_drawn", .glo "is_letter", .glo "divisor", .glo "is_share", .glo "is_leaf", .glo "is_built", .glo "things_in", .glo "many_parts", .glo "all_letters", .glo "letters_of", .glo "deep_of", .glo "flaw_in", .glo "flaw_of", .glo "need_term", .glo "nudged_by", .glo "need_good", .glo "nudged", .glo "_law_moved", .glo "_law_inner", .glo "_law_count", .glo "_law_all_parts", .glo "_law_letters", .glo "_law_depth", .glo "_law_fault", .glo "_law_same", .glo "turned_in", .glo "turned", .glo "_law_other_way", .glo "_law_odd", .glo "_law_twist", .glo "law", .glo "BadTerm", .free "abs", .free "all", .free "bool", .free "int", .free "isinstance", .free "len", .free "list", .free "max", .free "range", .free "set", .free "sorted", .free "str", .free "sum", .free "tuple", .glo "BadTable", .glo "BadText", .glo "BadTables", .glo "BadWeb", .glo "NoLetter", .glo "Unsound", .glo "Unsteady", .glo "BadNumber", .glo "BadName", .glo "Taken", .glo "Ring", .glo "InUse", .glo "Breaks", .glo "NoName", .glo "BadWord", .glo "Full", .glo "Stopped", .glo "BadPage", .glo "NeverError", .glo "Missing"]
def tf : List He.Defn := [("law", none)]
def lw : Lw := ⟨fa, fn, tf, [("BadTerm", ["flaw", "word"])], [(hs__law_asked, ys__law_asked)], [("LONGEST", .int 6), ("SMALL", .str "abcdefghijklmnopqrstuvwxyz"), ("MOST_PARTS", .int 24), ("MOST_LETTERS", .int 4), ("MOST_DEEP", .int 4), ("NOTHING", .tup [.str "share", .tup [.int 0, .int 1]])], ["BadTerm"], [("THINGS", kd_THINGS_v)], [("nudged", "by", .tup [.str "share", .tup [.int 1, .int 1]])]⟩
abbrev T0 (P : Pm) (mg : Str → Option Value) (base : Heap) (w : World) : Prop := Fct lw P mg base w
end Pf

namespace Pf
open PySem PySem.Spec PyProof.Rows L2 L3
def ex : PySem.W.Frag → Bool := lw.ex
abbrev Rw : PySem.W.OpenRow := PySem.W.OpenLaw.row PySem.Challenge.rw_nevernought_k40_reckonings_nudged_and_tu
def tsk : List He.Tab := lw.kds.map fun q => (fun K => He.ga K q.1, q.2.map (·.1))
abbrev hk : PySem.W.Hook := He.hookX 4 fa fn tsk tf ex
def ob (s : PySem.W.SharedT) : He.AlX := He.obsX 4 fa fn tsk tf ex (HandSHeadRun.getT s)
theorem ob_eq (s : PySem.W.SharedT) : ob s = hk.obs s.abs := He.obsX_eq (HandSHeadRun.getT_eq s)
abbrev loose : List PySem.Str := [("NeverError" : PySem.Str), ("BadTable" : PySem.Str), ("BadTerm" : PySem.Str), ("BadTables" : PySem.Str), ("BadText" : PySem.Str), ("BadWeb" : PySem.Str), ("Unsound" : PySem.Str), ("Unsteady" : PySem.Str), ("BadNumber" : PySem.Str), ("BadName" : PySem.Str), ("BadWord" : PySem.Str), ("Taken" : PySem.Str), ("Full" : PySem.Str), ("Ring" : PySem.Str), ("InUse" : PySem.Str), ("Breaks" : PySem.Str), ("Stopped" : PySem.Str), ("BadPage" : PySem.Str), ("Missing" : PySem.Str), ("NoLetter" : PySem.Str), ("NoName" : PySem.Str), ("divisor" : PySem.Str), ("is_share" : PySem.Str), ("is_letter" : PySem.Str), ("is_leaf" : PySem.Str), ("is_built" : PySem.Str), ("things_in" : PySem.Str), ("many_parts" : PySem.Str), ("all_letters" : PySem.Str), ("letters_of" : PySem.Str), ("deep_of" : PySem.Str), ("flaw_in" : PySem.Str), ("flaw_of" : PySem.Str), ("need_term" : PySem.Str), ("need_good" : PySem.Str), ("nudged_by" : PySem.Str), ("nudged" : PySem.Str), ("turned_in" : PySem.Str), ("turned" : PySem.Str), ("_law_bag" : PySem.Str), ("_law_pull" : PySem.Str), ("_law_of" : PySem.Str), ("_law_same" : PySem.Str), ("_law_asked" : PySem.Str), ("_law_gcd" : PySem.Str), ("_law_fr" : PySem.Str), ("_law_light" : PySem.Str), ("_law_abc" : PySem.Str), ("_law_leaf" : PySem.Str), ("_law_drawn" : PySem.Str), ("_law_inner" : PySem.Str), ("_law_count" : PySem.Str), ("_law_depth" : PySem.Str), ("_law_all_parts" : PySem.Str), ("_law_letters" : PySem.Str), ("_law_fault" : PySem.Str), ("_law_twist" : PySem.Str), ("_law_odd" : PySem.Str), ("_law_moved" : PySem.Str), ("_law_other_way" : PySem.Str), ("NOUGHT" : PySem.Str), ("MOST_PARTS" : PySem.Str), ("MOST_LETTERS" : PySem.Str), ("MOST_DEEP" : PySem.Str), ("LONGEST" : PySem.Str), ("SMALL" : PySem.Str), ("THINGS" : PySem.Str), ("NOTHING" : PySem.Str)]
theorem hrunF (w : World) : HandSHeadRun.RunEq Rw (PySem.W.view Rw.prog [73]) hk ob 8000 loose (w.withFollow "special-get-raises" false) := by
  intro os
  kernel_rfl
theorem hrunT (w : World) : HandSHeadRun.RunEq Rw (PySem.W.view Rw.prog [73]) hk ob 8000 loose (w.withFollow "special-get-raises" true) := by
  intro os
  kernel_rfl
theorem hrun (w : World) : HandSHeadRun.RunEq Rw (PySem.W.view Rw.prog [73]) hk ob 8000 loose w := PySem.W.byRow2 (P := fun w => HandSHeadRun.RunEq Rw (PySem.W.view Rw.prog [73]) hk ob 8000 loose w) "special-get-raises" hrunF hrunT w
end Pf

namespace L3
open PySem PySem.Spec PyProof.Rows L2
/-! ### what a piece of code comes to, asked from behind -/
abbrev Exs := Str → List Str → List D → Sto → Prop
def R.wp {α : Type} (r : R α) (Q : α → Sto → Prop) (E : Exs) : Prop := match r with
  | .ok a μ => Q a μ
  | .exc c ns vs μ => E c ns vs μ
  | .bad => False
def RS.wp (r : RS) (N : Env → Sto → Prop) (T : D → Sto → Prop) (B C : Env → Sto → Prop) (E : Exs) : Prop := match r with
  | .nx ρ μ => N ρ μ
  | .rt d μ => T d μ
  | .bk ρ μ => B ρ μ
  | .ct ρ μ => C ρ μ
  | .exc c ns vs ρ μ => E c ns vs μ
  | .bad => False
abbrev noP : Env → Sto → Prop := fun _ _ => False
abbrev noE : Exs := fun _ _ _ _ => False
section
variable {α β : Type} {Q Q' : α → Sto → Prop} {E E' : Exs} {r : R α} {k : α → Sto → R β} {ρ : Env} {μ : Sto}
theorem wp_mono (h : r.wp Q E) (i : ∀ a μ, Q a μ → Q' a μ) (j : ∀ c ns vs μ, E c ns vs μ → E' c ns vs μ) : r.wp Q' E' := by
  cases r with
  | ok a μ => exact i _ _ h
  | exc c ns vs μ => exact j _ _ _ _ h
  | bad => exact h
theorem wp_get (h : r.wp Q noE) : ∃ a μ, r = .ok a μ ∧ Q a μ := by
  cases r with
  | ok a μ => exact ⟨a, μ, rfl, h⟩
  | exc c ns vs μ => exact h.elim
  | bad => exact h.elim
theorem wp_bind {Q : β → Sto → Prop} (h : r.wp (fun a μ => (k a μ).wp Q E) E) : (r.bind k).wp Q E := by
  cases r with
  | ok a μ => exact h
  | exc c ns vs μ => exact h
  | bad => exact h
theorem wp_thn {k : α → Sto → RS} {N : Env → Sto → Prop} {T : D → Sto → Prop} {B C : Env → Sto → Prop} (h : r.wp (fun a μ => (k a μ).wp N T B C E) E) : (r.thn ρ k).wp N T B C E := by
  cases r with
  | ok a μ => exact h
  | exc c ns vs μ => exact h
  | bad => exact h
theorem wp_nox {α : Type} {r : R α} {Q : α → Sto → Prop} (h : r.wp Q noE) : r.nox.wp Q E := by
  cases r with
  | ok a μ => exact h
  | exc c ns vs μ => exact h.elim
  | bad => exact h
end
section
variable {Q : D → Sto → Prop} {QB : Bool → Sto → Prop} {QA : List D → Sto → Prop} {E : Exs} {ρ : Env} {μ : Sto} {f f1 f2 : SE} {t t1 t2 : ST} {fa : SA} {g : D → D → Sto → R D}
theorem wp_var {i : Nat} {d : D} (h : ρ[i]? = some (some d)) (q : Q d μ) : (eVar i ρ μ).wp Q E := by unfold eVar; rw [h]; exact q
theorem wp_varE {i : Nat} (h : ∃ d, ρ[i]? = some (some d) ∧ Q d μ) : (eVar i ρ μ).wp Q E := let ⟨d, h1, h2⟩ := h; wp_var h1 h2
theorem wp_c {d : D} (q : Q d μ) : (eC d ρ μ).wp Q E := q
theorem wp_B (h : (f1 ρ μ).wp (fun a μ1 => (f2 ρ μ1).wp (fun b μ2 => (g a b μ2).wp Q E) E) E) : (eB g f1 f2 ρ μ).wp Q E := wp_bind (wp_mono h (fun a μ1 z => wp_bind z) fun _ _ _ _ z => z)
theorem wp_U {g : D → Sto → R D} (h : (f ρ μ).wp (fun a μ1 => (g a μ1).wp Q E) E) : (eU g f ρ μ).wp Q E := wp_bind h
theorem wp_T (h : (f ρ μ).wp (fun d μ1 => ∃ c, d = .bl c ∧ QB c μ1) E) : (eT f ρ μ).wp QB E := wp_bind (wp_mono h (fun a μ1 ⟨c, e, q⟩ => by subst e; exact q) fun _ _ _ _ z => z)
theorem wp_andT (h : (t1 ρ μ).wp (fun c μ1 => (c = true → (t2 ρ μ1).wp QB E) ∧ (c = false → QB false μ1)) E) : (eAndT t1 t2 ρ μ).wp QB E := wp_bind (wp_mono h (fun c μ1 ⟨h1, h2⟩ => by cases c; exact h2 rfl; exact h1 rfl) fun _ _ _ _ z => z)
theorem wp_orT (h : (t1 ρ μ).wp (fun c μ1 => (c = true → QB true μ1) ∧ (c = false → (t2 ρ μ1).wp QB E)) E) : (eOrT t1 t2 ρ μ).wp QB E := wp_bind (wp_mono h (fun c μ1 ⟨h1, h2⟩ => by cases c; exact h2 rfl; exact h1 rfl) fun _ _ _ _ z => z)
theorem wp_notT (h : (t ρ μ).wp (fun c μ1 => QB (!c) μ1) E) : (eNotT t ρ μ).wp QB E := wp_bind h
theorem wp_andV (h : (f1 ρ μ).wp (fun d μ1 => ∃ c, d = .bl c ∧ (c = true → (f2 ρ μ1).wp Q E) ∧ (c = false → Q (.bl false) μ1)) E) : (eAndV f1 f2 ρ μ).wp Q E := wp_bind (wp_mono h (fun a μ1 ⟨c, e, h1, h2⟩ => by subst e; cases c; exact h2 rfl; exact h1 rfl) fun _ _ _ _ z => z)
theorem wp_orV (h : (f1 ρ μ).wp (fun d μ1 => ∃ c, d = .bl c ∧ (c = true → Q (.bl true) μ1) ∧ (c = false → (f2 ρ μ1).wp Q E)) E) : (eOrV f1 f2 ρ μ).wp Q E := wp_bind (wp_mono h (fun a μ1 ⟨c, e, h1, h2⟩ => by subst e; cases c; exact h2 rfl; exact h1 rfl) fun _ _ _ _ z => z)
theorem wp_notV (h : (f1 ρ μ).wp (fun d μ1 => ∃ c, d = .bl c ∧ Q (.bl (!c)) μ1) E) : (eNotV f1 ρ μ).wp Q E := wp_bind (wp_mono h (fun a μ1 ⟨c, e, h1⟩ => by subst e; exact h1) fun _ _ _ _ z => z)
theorem wp_if (h : (t ρ μ).wp (fun c μ1 => (c = true → (f1 ρ μ1).wp Q E) ∧ (c = false → (f2 ρ μ1).wp Q E)) E) : (eIf t f1 f2 ρ μ).wp Q E := wp_bind (wp_mono h (fun c μ1 ⟨h1, h2⟩ => by cases c; exact h2 rfl; exact h1 rfl) fun _ _ _ _ z => z)
theorem wp_nil (q : QA [] μ) : (aNil ρ μ).wp QA E := q
theorem wp_cons (h : (f ρ μ).wp (fun d μ1 => (fa ρ μ1).wp (fun ds μ2 => QA (d :: ds) μ2) E) E) : (aCons f fa ρ μ).wp QA E := wp_bind (wp_mono h (fun d μ1 z => wp_bind z) fun _ _ _ _ z => z)
theorem wp_tup (h : (fa ρ μ).wp (fun ds μ1 => ds.length ≤ 100 ∧ Q (.tup ds) μ1) E) : (eTup fa ρ μ).wp Q E := wp_bind (wp_mono h (fun ds μ1 ⟨a, b⟩ => by rw [if_pos a]; exact b) fun _ _ _ _ z => z)
theorem wp_lst (h : (fa ρ μ).wp (fun ds μ1 => ds.length ≤ 100 ∧ Q (.lst ds) μ1) E) : (eLst fa ρ μ).wp Q E := wp_bind (wp_mono h (fun ds μ1 ⟨a, b⟩ => by rw [if_pos a]; exact b) fun _ _ _ _ z => z)
theorem wp_lstC (h : (fa ρ μ).wp (fun ds μ1 => ds.length ≤ 100 ∧ Q (.cell μ1.length) (μ1 ++ [.lst ds])) E) : (eLstC fa ρ μ).wp Q E := wp_bind (wp_mono h (fun ds μ1 ⟨a, b⟩ => by rw [if_pos a]; exact b) fun _ _ _ _ z => z)
theorem wp_call {n : Nat} {g : List D → Sto → R D} (h : (fa ρ μ).wp (fun ds μ1 => ds.length = n ∧ (g ds μ1).wp Q E) E) : (eCall n g fa ρ μ).wp Q E := wp_bind (wp_mono h (fun ds μ1 ⟨a, b⟩ => by rw [if_pos a]; exact b) fun _ _ _ _ z => z)
theorem wp_callD {m : Nat} {dd : List D} {g : List D → Sto → R D} (h : (fa ρ μ).wp (fun ds μ1 => ds.length = m ∧ (g (ds ++ dd) μ1).wp Q E) E) : (eCallD m dd g fa ρ μ).wp Q E := wp_bind (wp_mono h (fun ds μ1 ⟨a, b⟩ => by rw [if_pos a]; exact b) fun _ _ _ _ z => z)
theorem wp_callB {g : List D → Sto → R D} (h : (fa ρ μ).wp (fun ds μ1 => (g ds μ1).wp Q E) E) : (eCallB g fa ρ μ).wp Q E := wp_bind h
theorem wp_m {T : String} {g : D → List D → Sto → R D} (h : (f ρ μ).wp (fun d μ1 => isTy T μ1 d = true ∧ (fa ρ μ1).wp (fun ds μ2 => (g d ds μ2).wp Q E) E) E) : (eM T g f fa ρ μ).wp Q E := wp_bind (wp_mono h (fun d μ1 ⟨a, b⟩ => by rw [if_pos a]; exact wp_bind b) fun _ _ _ _ z => z)
theorem wp_oNone {QO : Option Int → Sto → Prop} (q : QO none μ) : (oNone ρ μ).wp QO E := q
theorem wp_oSome {QO : Option Int → Sto → Prop} (h : (f ρ μ).wp (fun d μ1 => ∃ i, d = .int i ∧ QO (some i) μ1) E) : (oSome f ρ μ).wp QO E := wp_bind (wp_mono h (fun d μ1 ⟨i, e, q⟩ => by subst e; exact q) fun _ _ _ _ z => z)
theorem wp_sl {g : D → Option Int → Option Int → Sto → R D} {fl fh : SO} (h : (f ρ μ).wp (fun d μ1 => (fl ρ μ1).wp (fun lo μ2 => (fh ρ μ2).wp (fun hi μ3 => (g d lo hi μ3).wp Q E) E) E) E) : (eSl g f fl fh ρ μ).wp Q E :=
  wp_bind (wp_mono h (fun d μ1 z => wp_bind (wp_mono z (fun _ _ z => wp_bind z) fun _ _ _ _ z => z)) fun _ _ _ _ z => z)
theorem wp_tried {caught : Str → Bool} (h : (f ρ μ).wp (fun d μ1 => Q (.tup [.str "told", d]) μ1) (fun c ns vs μ1 => caught c = true ∧ ∃ d, lookD "word" ns vs = some d ∧ Q (.tup [.str "no", d]) μ1)) : (eTried caught f ρ μ).wp Q E := by
  unfold eTried
  cases e : f ρ μ with
  | bad => rw [e] at h; exact h
  | ok d μ1 => rw [e] at h; exact h
  | exc c ns vs μ1 =>
    rw [e] at h
    obtain ⟨h1, d, h2, h3⟩ := h
    dsimp only
    rw [if_pos h1, h2]
    exact h3
theorem wp_fn {n : Nat} {b : SS} {ds : List D} (h : (b (ds.map some ++ List.replicate (n - ds.length) none) μ).wp (fun _ μ' => Q .non μ') Q noP noP E) : (fnF n b ds μ).wp Q E := by
  unfold fnF
  generalize b (ds.map some ++ List.replicate (n - ds.length) none) μ = r at h
  cases r <;> exact h
end
section
variable {N N' : Env → Sto → Prop} {T T' : D → Sto → Prop} {B B' C C' : Env → Sto → Prop} {E E' : Exs} {ρ : Env} {μ : Sto} {f g : SS} {fe fo fi : SE} {t : ST} {fa : SA}
theorem wp_sMono {r : RS} (h : r.wp N T B C E) (hN : ∀ ρ μ, N ρ μ → N' ρ μ) (hT : ∀ d μ, T d μ → T' d μ) (hB : ∀ ρ μ, B ρ μ → B' ρ μ) (hC : ∀ ρ μ, C ρ μ → C' ρ μ) (hE : ∀ c ns vs μ, E c ns vs μ → E' c ns vs μ) : r.wp N' T' B' C' E' := by
  cases r with
  | nx ρ μ => exact hN _ _ h
  | rt ρ μ => exact hT _ _ h
  | bk ρ μ => exact hB _ _ h
  | ct ρ μ => exact hC _ _ h
  | exc c ns vs ρ μ => exact hE _ _ _ _ h
  | bad => exact h
theorem wp_sNil (q : N ρ μ) : (sNil ρ μ).wp N T B C E := q
theorem wp_sSeq (h : (f ρ μ).wp (fun ρ1 μ1 => (g ρ1 μ1).wp N T B C E) T B C E) : (sSeq f g ρ μ).wp N T B C E := by
  unfold sSeq
  generalize f ρ μ = r at h
  cases r <;> exact h
theorem wp_seqSet {i : Nat} (h : (sSet i fe ρ μ).wp (fun ρ1 μ1 => (g ρ1 μ1).wp N T B C E) T B C E) : (sSeq (sSet i fe) g ρ μ).wp N T B C E := wp_sSeq h
theorem wp_seqAsg {gg : SG} (h : (sAsg fe gg ρ μ).wp (fun ρ1 μ1 => (g ρ1 μ1).wp N T B C E) T B C E) : (sSeq (sAsg fe gg) g ρ μ).wp N T B C E := wp_sSeq h
theorem wp_seqPar {i j : Nat} (h : (sPar i j fa ρ μ).wp (fun ρ1 μ1 => (g ρ1 μ1).wp N T B C E) T B C E) : (sSeq (sPar i j fa) g ρ μ).wp N T B C E := wp_sSeq h
theorem wp_seqAug {i : Nat} {gg : D → D → Sto → R D} (h : (sAug i gg fe ρ μ).wp (fun ρ1 μ1 => (g ρ1 μ1).wp N T B C E) T B C E) : (sSeq (sAug i gg fe) g ρ μ).wp N T B C E := wp_sSeq h
theorem wp_seqExpr (h : (sExpr fe ρ μ).wp (fun ρ1 μ1 => (g ρ1 μ1).wp N T B C E) T B C E) : (sSeq (sExpr fe) g ρ μ).wp N T B C E := wp_sSeq h
theorem wp_seqSub (h : (sSub fe fo fi ρ μ).wp (fun ρ1 μ1 => (g ρ1 μ1).wp N T B C E) T B C E) : (sSeq (sSub fe fo fi) g ρ μ).wp N T B C E := wp_sSeq h
theorem wp_seqFor {fi : SI} {gg : SG} {b : SS} (h : (sFor fi gg b ρ μ).wp (fun ρ1 μ1 => (g ρ1 μ1).wp N T B C E) T B C E) : (sSeq (sFor fi gg b) g ρ μ).wp N T B C E := wp_sSeq h
theorem wp_seqWhile {b : SS} (h : (sWhile t b ρ μ).wp (fun ρ1 μ1 => (g ρ1 μ1).wp N T B C E) T B C E) : (sSeq (sWhile t b) g ρ μ).wp N T B C E := wp_sSeq h
theorem wp_seqNil (h : (g ρ μ).wp N T B C E) : (sSeq sNil g ρ μ).wp N T B C E := wp_sSeq h
theorem wp_cut {N0 : Env → Sto → Prop} (h : (f ρ μ).wp N0 T B C E) (k : ∀ ρ1 μ1, N0 ρ1 μ1 → (g ρ1 μ1).wp N T B C E) : (sSeq f g ρ μ).wp N T B C E :=
  wp_sSeq (wp_sMono h k (fun _ _ z => z) (fun _ _ z => z) (fun _ _ z => z) fun _ _ _ _ z => z)
theorem wp_sBreak (q : B ρ μ) : (sBreak ρ μ).wp N T B C E := q
theorem wp_sCont (q : C ρ μ) : (sCont ρ μ).wp N T B C E := q
theorem wp_sExpr (h : (fe ρ μ).wp (fun _ μ1 => N ρ μ1) E) : (sExpr fe ρ μ).wp N T B C E := wp_thn h
theorem wp_sRet (h : (fe ρ μ).wp (fun d μ1 => T d μ1) E) : (sRet fe ρ μ).wp N T B C E := wp_thn h
theorem wp_sRetN (h : T .non μ) : (sRetN ρ μ).wp N T B C E := h
theorem wp_sIf (h : (t ρ μ).wp (fun c μ1 => (c = true → (f ρ μ1).wp N T B C E) ∧ (c = false → (g ρ μ1).wp N T B C E)) E) : (sIf t f g ρ μ).wp N T B C E := wp_thn (wp_mono h (fun c μ1 ⟨h1, h2⟩ => by cases c; exact h2 rfl; exact h1 rfl) fun _ _ _ _ z => z)
theorem wp_sSet {i : Nat} (h : (fe ρ μ).wp (fun d μ1 => N (ρ.set i (some d)) μ1) E) : (sSet i fe ρ μ).wp N T B C E := wp_thn h
theorem wp_sAsg {g : SG} (h : (fe ρ μ).wp (fun d μ1 => ∃ ρ1, g d ρ μ1 = some ρ1 ∧ N ρ1 μ1) E) : (sAsg fe g ρ μ).wp N T B C E := wp_thn (wp_mono h (fun d μ1 ⟨ρ1, e, q⟩ => by rw [e]; exact q) fun _ _ _ _ z => z)
theorem wp_sPar {i j : Nat} (h : (fa ρ μ).wp (fun ds μ1 => ∃ d e, ds = [d, e] ∧ N ((ρ.set i (some d)).set j (some e)) μ1) E) : (sPar i j fa ρ μ).wp N T B C E := wp_thn (wp_mono h (fun ds μ1 ⟨d, e, h1, q⟩ => by subst h1; exact q) fun _ _ _ _ z => z)
theorem wp_sSub (h : (fe ρ μ).wp (fun d μ1 => (fo ρ μ1).wp (fun o μ2 => (fi ρ μ2).wp (fun i μ3 => ∃ k z μ4, o = .cell k ∧ i = .int z ∧ setL k z d μ3 = some μ4 ∧ N ρ μ4) E) E) E) : (sSub fe fo fi ρ μ).wp N T B C E :=
  wp_thn (wp_mono h (fun d μ1 z => wp_thn (wp_mono z (fun o μ2 z => wp_thn (wp_mono z (fun i μ3 ⟨k, z, μ4, e1, e2, e3, q⟩ => by subst e1 e2; dsimp only; rw [e3]; exact q) fun _ _ _ _ z => z)) fun _ _ _ _ z => z)) fun _ _ _ _ z => z)
theorem wp_sRaise {c : Str} {n : Nat} {ns : List Str} {mk : List D → List D} (h : (fa ρ μ).wp (fun ds μ1 => ds.length = n ∧ E c ns (mk ds) μ1) E) : (sRaise c n ns mk fa ρ μ).wp N T B C E := wp_thn (wp_mono h (fun ds μ1 ⟨a, b⟩ => by rw [if_pos a]; exact b) fun _ _ _ _ z => z)
theorem wp_sFor {fi : SI} {g : SG} {b : SS} (h : (fi ρ μ).wp (fun it μ1 => (forS it.2 g b it.1 ρ μ1).wp N T B C E) E) : (sFor fi g b ρ μ).wp N T B C E := wp_thn h
/-- a for by its invariant of the items that are left -/
theorem wp_forS {gd : Sto → Bool} {g : SG} {b : SS} (I : List D → Env → Sto → Prop) {ds : List D} (h0 : I ds ρ μ) (hn : ∀ ρ μ, I [] ρ μ → gd μ = true ∧ N ρ μ)
    (hs : ∀ d ds ρ μ, I (d :: ds) ρ μ → gd μ = true ∧ ∃ ρ1, g d ρ μ = some ρ1 ∧ (b ρ1 μ).wp (I ds) T N (I ds) E) : (forS gd g b ds ρ μ).wp N T B C E := by
  induction ds generalizing ρ μ with
  | nil =>
    obtain ⟨h1, h2⟩ := hn ρ μ h0
    unfold forS
    rw [if_pos h1]
    exact h2
  | cons d ds ih =>
    obtain ⟨h1, ρ1, h2, h3⟩ := hs d ds ρ μ h0
    unfold forS
    rw [if_pos h1, h2]
    dsimp only
    cases e : b ρ1 μ with
    | nx ρ2 μ2 => rw [e] at h3; exact ih h3
    | ct ρ2 μ2 => rw [e] at h3; exact ih h3
    | bk ρ2 μ2 => rw [e] at h3; exact h3
    | rt d μ2 => rw [e] at h3; exact h3
    | exc c ns vs ρ2 μ2 => rw [e] at h3; exact h3
    | bad => rw [e] at h3; exact h3
theorem rngD_succ (lo : Int) (n : Nat) : rngD lo (n + 1) = .int lo :: rngD (lo + 1) n := by
  unfold rngD
  rw [List.range_succ_eq_map, List.map_cons, List.map_map]
  congr 1
  · simp
  · apply List.map_congr_left
    intro i _
    show D.int (lo + ((i + 1 : Nat) : Int)) = D.int (lo + 1 + (i : Nat))
    congr 1
    omega
/-- .. over a range, by how many turns are done -/
theorem wp_forR {g : SG} {b : SS} (I : Nat → Env → Sto → Prop) {lo : Int} {n : Nat} (h0 : I 0 ρ μ) (hn : ∀ ρ μ, I n ρ μ → N ρ μ)
    (hs : ∀ i ρ μ, i < n → I i ρ μ → ∃ ρ1, g (.int (lo + (i : Nat))) ρ μ = some ρ1 ∧ (b ρ1 μ).wp (I (i + 1)) T N (I (i + 1)) E) : (forS (fun _ => true) g b (rngD lo n) ρ μ).wp N T B C E := by
  refine wp_forS (fun ds ρ μ => ∃ i, i ≤ n ∧ ds = rngD (lo + (i : Nat)) (n - i) ∧ I i ρ μ) ⟨0, Nat.zero_le _, by simp, h0⟩ (fun ρ μ ⟨i, hi, e, q⟩ => ⟨rfl, ?_⟩) fun d ds ρ μ ⟨i, hi, e, q⟩ => ⟨rfl, ?_⟩
  · have : n - i = 0 := by
      cases hm : n - i with
      | zero => rfl
      | succ m => rw [hm, rngD_succ] at e; cases e
    have : i = n := by omega
    subst this
    exact hn _ _ q
  · cases hm : n - i with
    | zero => rw [hm] at e; cases e
    | succ m =>
      rw [hm, rngD_succ] at e
      cases e
      obtain ⟨ρ1, e1, h⟩ := hs i ρ μ (by omega) q
      have mv : ∀ ρ μ, I (i + 1) ρ μ → ∃ j, j ≤ n ∧ rngD (lo + (i : Nat) + 1) m = rngD (lo + (j : Nat)) (n - j) ∧ I j ρ μ := fun ρ μ z => ⟨i + 1, by omega, by
        have e2 : n - (i + 1) = m := by omega
        rw [e2]
        congr 1
        omega, z⟩
      exact ⟨ρ1, e1, wp_sMono h mv (fun _ _ z => z) (fun _ _ z => z) mv fun _ _ _ _ z => z⟩
/-- a while by an invariant with a measure -/
theorem wp_while {t : ST} {b : SS} (I : Nat → Env → Sto → Prop) {m : Nat} (h0 : I m ρ μ)
    (hs : ∀ m ρ μ, I m ρ μ → (t ρ μ).wp (fun c μ1 => (c = true → (b ρ μ1).wp (fun ρ μ => ∃ k, k < m ∧ I k ρ μ) T N (fun ρ μ => ∃ k, k < m ∧ I k ρ μ) E) ∧ (c = false → N ρ μ1)) E) : (sWhile t b ρ μ).wp N T B C E := by
  have key : ∀ (m : Nat) (ρ : Env) (μ : Sto), I m ρ μ → ∃ n, (whileN t b n ρ μ).wp N T B C E := by
    intro m
    induction m using Nat.strongRecOn with
    | ind m ih =>
      intro ρ μ h
      have h1 := hs m ρ μ h
      cases e : t ρ μ with
      | bad => rw [e] at h1; exact h1.elim
      | exc c ns vs μ1 => rw [e] at h1; exact ⟨1, by unfold whileN; rw [e]; exact h1⟩
      | ok c μ1 =>
        rw [e] at h1
        obtain ⟨h2, h3⟩ := h1
        cases c with
        | false => exact ⟨1, by unfold whileN; rw [e]; exact h3 rfl⟩
        | true =>
          have h4 := h2 rfl
          cases e4 : b ρ μ1 with
          | bad => rw [e4] at h4; exact h4.elim
          | exc c ns vs ρ2 μ2 => rw [e4] at h4; exact ⟨1, by unfold whileN; rw [e]; simp only [if_true, e4]; exact h4⟩
          | rt d μ2 => rw [e4] at h4; exact ⟨1, by unfold whileN; rw [e]; simp only [if_true, e4]; exact h4⟩
          | bk ρ2 μ2 => rw [e4] at h4; exact ⟨1, by unfold whileN; rw [e]; simp only [if_true, e4]; exact h4⟩
          | nx ρ2 μ2 =>
            rw [e4] at h4
            obtain ⟨k, hk, z⟩ := h4
            obtain ⟨n, hn⟩ := ih k hk ρ2 μ2 z
            exact ⟨n + 1, by unfold whileN; rw [e]; simp only [if_true, e4]; exact hn⟩
          | ct ρ2 μ2 =>
            rw [e4] at h4
            obtain ⟨k, hk, z⟩ := h4
            obtain ⟨n, hn⟩ := ih k hk ρ2 μ2 z
            exact ⟨n + 1, by unfold whileN; rw [e]; simp only [if_true, e4]; exact hn⟩
  obtain ⟨n, hn⟩ := key m ρ μ h0
  have nb : whileN t b n ρ μ ≠ .bad := fun z => by rw [z] at hn; exact hn
  rw [sWhile_eq n rfl nb]
  exact hn
end
/-! ### comprehensions -/
section
variable {E : Exs} {ρ : Env} {μ : Sto} {g : SG} {tt : ST} {te : SE} {gd : Sto → Bool}
theorem wp_lcS {Q : List D → Sto → Prop} (I : List D → List D → Sto → Prop) {ds : List D} (h0 : I [] ds μ) (hn : ∀ ys μ, I ys [] μ → gd μ = true ∧ Q ys μ)
    (hs : ∀ ys d ds μ, I ys (d :: ds) μ → gd μ = true ∧ ∃ ρ1, g d ρ μ = some ρ1 ∧ (tt ρ1 μ).wp (fun c μ1 => (c = true → (te ρ1 μ1).wp (fun y μ2 => I (ys ++ [y]) ds μ2) noE) ∧ (c = false → I ys ds μ1)) noE) : (lcS gd g tt te ρ ds μ).wp Q E := by
  have key : ∀ (ds ys : List D) (μ : Sto), I ys ds μ → ∃ zs μ', lcS gd g tt te ρ ds μ = .ok zs μ' ∧ Q (ys ++ zs) μ' := by
    intro ds
    induction ds with
    | nil =>
      intro ys μ h
      obtain ⟨h1, h2⟩ := hn ys μ h
      exact ⟨[], μ, by unfold lcS; rw [if_pos h1], by rw [List.append_nil]; exact h2⟩
    | cons d ds ih =>
      intro ys μ h
      obtain ⟨h1, ρ1, h2, h3⟩ := hs ys d ds μ h
      unfold lcS
      rw [if_pos h1, h2]
      dsimp only
      obtain ⟨c, μ1, e, h4, h5⟩ := wp_get h3
      rw [e]
      cases c with
      | false =>
        obtain ⟨zs, μ', e1, q⟩ := ih ys μ1 (h5 rfl)
        exact ⟨zs, μ', e1, q⟩
      | true =>
        obtain ⟨y, μ2, e1, z⟩ := wp_get (h4 rfl)
        obtain ⟨zs, μ', e2, q⟩ := ih (ys ++ [y]) μ2 z
        refine ⟨y :: zs, μ', ?_, by rw [List.append_assoc] at q; exact q⟩
        simp only [R.nox_ok, R.bind_ok, if_true, e1, e2]
  obtain ⟨zs, μ', e, q⟩ := key ds [] μ h0
  rw [e]
  exact q
/-- .. over a range, by the results so far -/
theorem wp_lcR {Q : List D → Sto → Prop} (I : List D → Nat → Sto → Prop) {lo : Int} {n : Nat} (h0 : I [] 0 μ) (hn : ∀ ys μ, I ys n μ → Q ys μ)
    (hs : ∀ ys i μ, i < n → I ys i μ → ∃ ρ1, g (.int (lo + (i : Nat))) ρ μ = some ρ1 ∧ (tt ρ1 μ).wp (fun c μ1 => (c = true → (te ρ1 μ1).wp (fun y μ2 => I (ys ++ [y]) (i + 1) μ2) noE) ∧ (c = false → I ys (i + 1) μ1)) noE) : (lcS (fun _ => true) g tt te ρ (rngD lo n) μ).wp Q E := by
  refine wp_lcS (fun ys ds μ => ∃ i, i ≤ n ∧ ds = rngD (lo + (i : Nat)) (n - i) ∧ I ys i μ) ⟨0, Nat.zero_le _, by simp, h0⟩ (fun ys μ ⟨i, hi, e, q⟩ => ⟨rfl, ?_⟩) fun ys d ds μ ⟨i, hi, e, q⟩ => ⟨rfl, ?_⟩
  · have : n - i = 0 := by
      cases hm : n - i with
      | zero => rfl
      | succ m => rw [hm, rngD_succ] at e; cases e
    have : i = n := by omega
    subst this
    exact hn _ _ q
  · cases hm : n - i with
    | zero => rw [hm] at e; cases e
    | succ m =>
      rw [hm, rngD_succ] at e
      cases e
      obtain ⟨ρ1, e1, h⟩ := hs ys i μ (by omega) q
      have mv : ∀ zs μ, I zs (i + 1) μ → ∃ j, j ≤ n ∧ rngD (lo + (i : Nat) + 1) m = rngD (lo + (j : Nat)) (n - j) ∧ I zs j μ := fun zs μ z => ⟨i + 1, by omega, by
        have e2 : n - (i + 1) = m := by omega
        rw [e2]
        congr 1
        omega, z⟩
      exact ⟨ρ1, e1, wp_mono h (fun c μ1 ⟨h1, h2⟩ => ⟨fun hc => wp_mono (h1 hc) (fun y μ2 z => mv _ _ z) fun _ _ _ _ z => z, fun hc => mv _ _ (h2 hc)⟩) fun _ _ _ _ z => z⟩
/-- each item of a range gives something, nothing is written -/
theorem wp_lcMap {Q : List D → Sto → Prop} {h : Nat → D} {lo : Int} {n : Nat} (q : Q ((List.range n).map h) μ)
    (hs : ∀ i, i < n → ∃ ρ1, g (.int (lo + (i : Nat))) ρ μ = some ρ1 ∧ (te ρ1 μ).wp (fun y μ2 => y = h i ∧ μ2 = μ) noE) : (lcS (fun _ => true) g tYesS te ρ (rngD lo n) μ).wp Q E := by
  refine wp_lcR (fun ys i μ' => μ' = μ ∧ ys = (List.range i).map h) ⟨rfl, rfl⟩ (fun ys μ' ⟨e1, e2⟩ => by subst e1 e2; exact q) fun ys i μ' hi ⟨e1, e2⟩ => ?_
  subst e1 e2
  obtain ⟨ρ1, e, z⟩ := hs i hi
  refine ⟨ρ1, e, ?_⟩
  show (true = true → _) ∧ (true = false → _)
  refine ⟨fun _ => wp_mono z (fun y μ2 ⟨e1, e2⟩ => ⟨e2, by rw [e1, List.range_succ, List.map_append]; rfl⟩) fun _ _ _ _ z => z, fun z => nomatch z⟩
theorem wp_lc {Q : D → Sto → Prop} {vs : List Nat} {fi : SI} (h : (fi ρ μ).wp (fun it μ1 => it.1.length ≤ sizeLine ∧ (lcS it.2 g tt te (wipeE ρ vs) it.1 μ1).wp (fun ys μ2 => Q (.lst ys) μ2) noE) E) : (eLc vs fi g tt te ρ μ).wp Q E :=
  wp_bind (wp_mono h (fun it μ1 ⟨a, b⟩ => by rw [if_pos a]; exact wp_bind (wp_nox b)) fun _ _ _ _ z => z)
theorem wp_lcC {Q : D → Sto → Prop} {vs : List Nat} {fi : SI} (h : (fi ρ μ).wp (fun it μ1 => it.1.length ≤ sizeLine ∧ (lcS it.2 g tt te (wipeE ρ vs) it.1 μ1).wp (fun ys μ2 => Q (.cell μ2.length) (μ2 ++ [.lst ys])) noE) E) : (eLcC vs fi g tt te ρ μ).wp Q E :=
  wp_bind (wp_mono h (fun it μ1 ⟨a, b⟩ => by rw [if_pos a]; exact wp_bind (wp_nox b)) fun _ _ _ _ z => z)
theorem wp_yes {Q : Bool → Sto → Prop} (q : Q true μ) : (tYesS ρ μ).wp Q E := q
theorem wp_iAny {Q : List D × (Sto → Bool) → Sto → Prop} {f : SE} (h : (f ρ μ).wp (fun d μ1 => ∃ it, walkD μ1 d = some it ∧ Q it μ1) E) : (iAnyD f ρ μ).wp Q E := wp_bind (wp_mono h (fun d μ1 ⟨it, e, q⟩ => by rw [e]; exact q) fun _ _ _ _ z => z)
end
/-! ### ints -/
section
variable {Q : D → Sto → Prop} {E : Exs} {μ : Sto} {i j : Int}
theorem wp_prim {r : R D} {d : D} (h : r = .ok d μ) (q : Q d μ) : r.wp Q E := by rw [h]; exact q
theorem wp_eqI (q : Q (.bl (decide (i = j))) μ) : (dEq (.int i) (.int j) μ).wp Q E := by
  have e : dEq (.int i) (.int j) μ = .ok (.bl (decide (i = j))) μ := by
    show (if SeqAt.shaped (.int i) = true ∧ SeqAt.shaped (.int j) = true then R.ok (D.bl (PyData.eqv (.int i) (.int j))) μ else .bad) = _
    rw [if_pos ⟨rfl, rfl⟩]
    congr 2
  rw [e]; exact q
theorem wp_neI (q : Q (.bl (!decide (i = j))) μ) : (dNe (.int i) (.int j) μ).wp Q E := by
  have e : dNe (.int i) (.int j) μ = .ok (.bl (!decide (i = j))) μ := by
    show (if SeqAt.shaped (.int i) = true ∧ SeqAt.shaped (.int j) = true then R.ok (D.bl (!PyData.eqv (.int i) (.int j))) μ else .bad) = _
    rw [if_pos ⟨rfl, rfl⟩]
    congr 2
  rw [e]; exact q
theorem br_t {c : Bool} {A B : Prop} (hc : c = true) (h : A) : (c = true → A) ∧ (c = false → B) := ⟨fun _ => h, fun z => (Bool.noConfusion (hc.symm.trans z))⟩
theorem br_f {c : Bool} {A B : Prop} (hc : c = false) (h : B) : (c = true → A) ∧ (c = false → B) := ⟨fun z => (Bool.noConfusion (hc.symm.trans z)), fun _ => h⟩
theorem br_d {c : Prop} [Decidable c] {A B : Prop} (h1 : c → A) (h2 : ¬ c → B) : (decide c = true → A) ∧ (decide c = false → B) := ⟨fun z => h1 (of_decide_eq_true z), fun z => h2 (of_decide_eq_false z)⟩
theorem br_n {c : Prop} [Decidable c] {A B : Prop} (h1 : ¬ c → A) (h2 : c → B) : ((!decide c) = true → A) ∧ ((!decide c) = false → B) := ⟨fun z => h1 (by simpa using z), fun z => h2 (by simpa using z)⟩
theorem wp_mul (h : IntMulOk i j) (q : Q (.int (i * j)) μ) : (dMul (.int i) (.int j) μ).wp Q E := by
  show R.wp (if IntMulOk i j then _ else _) Q E
  rw [if_pos h]; exact q
theorem wp_mod (h : j ≠ 0) (q : Q (.int (i.fmod j)) μ) : (dMod (.int i) (.int j) μ).wp Q E := by
  show R.wp (if j ≠ 0 then _ else _) Q E
  rw [if_pos h]; exact q
theorem wp_fdiv (h : j ≠ 0) (h2 : Builtin.divisionGoesByPylong i j = false) (q : Q (.int (i.fdiv j)) μ) : (dFdiv (.int i) (.int j) μ).wp Q E := by
  show R.wp (if j ≠ 0 ∧ Builtin.divisionGoesByPylong i j = false then _ else _) Q E
  rw [if_pos ⟨h, h2⟩]; exact q
theorem wp_pow (h : 0 ≤ j ∧ j ≤ 1000000 ∧ i.natAbs < 2 ^ 64) (q : Q (.int (i ^ j.toNat)) μ) : (dPow (.int i) (.int j) μ).wp Q E := by
  show R.wp (if 0 ≤ j ∧ j ≤ 1000000 ∧ i.natAbs < 2 ^ 64 then _ else _) Q E
  rw [if_pos h]; exact q
theorem pylong_small (h : j.natAbs < 2 ^ 9000) : Builtin.divisionGoesByPylong i j = false := by
  have key : (if j == 0 then 0 else j.natAbs.log2 / 30 + 1) ≤ 300 := by
    split
    · omega
    · rename_i z
      have z : j ≠ 0 := by simpa using z
      have h0 : j.natAbs ≠ 0 := by omega
      have : j.natAbs.log2 < 9000 := (Nat.log2_lt h0).mpr h
      omega
  unfold Builtin.divisionGoesByPylong
  dsimp only
  rw [decide_eq_false (p := (if j == 0 then 0 else j.natAbs.log2 / 30 + 1) > 300) (by omega)]
  rfl
theorem mulOk_right {a b : Int} (h : b.natAbs < 2 ^ 64) : IntMulOk a b := by
  have hb : Builtin.Int.intBits b ≤ 64 := intBits_le_iff.mpr h
  have h' : ¬ (Builtin.Int.intBits b > shortFactorBits) := Nat.not_lt.mpr hb
  unfold IntMulOk; rw [decide_eq_false h']; simp
theorem mulOk_left {a b : Int} (h : a.natAbs < 2 ^ 64) : IntMulOk a b := IntMulOk.of_left (intBits_le_iff.mpr h)
theorem wp_pow18 (q : Q (.int 1000000000000000000) μ) : (dPow (.int 10) (.int 18) μ).wp Q E := wp_pow (by decide) (by rw [show (10 : Int) ^ Int.toNat 18 = 1000000000000000000 by decide]; exact q)
theorem wp_pow12 (q : Q (.int 1000000000000) μ) : (dPow (.int 10) (.int 12) μ).wp Q E := wp_pow (by decide) (by rw [show (10 : Int) ^ Int.toNat 12 = 1000000000000 by decide]; exact q)
theorem wp_pow40 (q : Q (.int 10000000000000000000000000000000000000000) μ) : (dPow (.int 10) (.int 40) μ).wp Q E := wp_pow (by decide) (by rw [show (10 : Int) ^ Int.toNat 40 = 10000000000000000000000000000000000000000 by decide]; exact q)
theorem mulOk_mod {a b : Int} {m : Int} (hm : 0 < m) (h : m ≤ 2 ^ 64) : IntMulOk (a.fmod m) b := mulOk_left (by
  have h1 := Int.fmod_nonneg_of_pos a hm
  have h2 := Int.fmod_lt_of_pos a hm
  have h3 : ((a.fmod m).natAbs : Int) = a.fmod m := Int.natAbs_of_nonneg h1
  omega)
theorem wp_addI (q : Q (.int (i + j)) μ) : (dAdd (.int i) (.int j) μ).wp Q E := q
theorem wp_addII (q : Q (.int (i + j)) μ) : (dAddI (.int i) (.int j) μ).wp Q E := q
theorem wp_subI (q : Q (.int (i - j)) μ) : (dSub (.int i) (.int j) μ).wp Q E := q
theorem wp_ltI (q : Q (.bl (decide (i < j))) μ) : (dLt (.int i) (.int j) μ).wp Q E := q
theorem wp_leI (q : Q (.bl (decide (i ≤ j))) μ) : (dLe (.int i) (.int j) μ).wp Q E := q
theorem wp_gtI (q : Q (.bl (decide (j < i))) μ) : (dGt (.int i) (.int j) μ).wp Q E := q
theorem wp_geI (q : Q (.bl (decide (j ≤ i))) μ) : (dGe (.int i) (.int j) μ).wp Q E := q
theorem wp_negI (q : Q (.int (-i)) μ) : (dNeg (.int i) μ).wp Q E := q
theorem wp_absI (q : Q (.int (i.natAbs : Int)) μ) : (un dAbsC [.int i] μ).wp Q E := by
  have e : (if i < 0 then -i else i) = (i.natAbs : Int) := by split <;> omega
  show Q (.int (if i < 0 then -i else i)) μ
  rw [e]; exact q
theorem wp_un {g : D → Sto → R D} {d : D} (q : (g d μ).wp Q E) : (un g [d] μ).wp Q E := q
theorem wp_ixE {a b : D} (h : ∃ d, dIx a b μ = .ok d μ ∧ Q d μ) : (dIx a b μ).wp Q E := let ⟨d, h1, h2⟩ := h; wp_prim h1 h2
theorem wp_ix {a b d : D} (h : dIx a b μ = .ok d μ) (q : Q d μ) : (dIx a b μ).wp Q E := by rw [h]; exact q
theorem wp_lenE {a : D} (h : ∃ d, dLen a μ = .ok d μ ∧ Q d μ) : (dLen a μ).wp Q E := let ⟨d, h1, h2⟩ := h; wp_prim h1 h2
theorem wp_len {a d : D} (h : dLen a μ = .ok d μ) (q : Q d μ) : (dLen a μ).wp Q E := by rw [h]; exact q
theorem wp_listOfE {a : D} (h : ∃ d, dListOf a μ = .ok d μ ∧ Q d μ) : (dListOf a μ).wp Q E := let ⟨d, h1, h2⟩ := h; wp_prim h1 h2
theorem wp_isiE {ts : List Ty} {a : D} (h : ∃ d, dIsi ts a μ = .ok d μ ∧ Q d μ) : (dIsi ts a μ).wp Q E := let ⟨d, h1, h2⟩ := h; wp_prim h1 h2
theorem wp_isNE {a : D} (h : ∃ d, dIsN a μ = .ok d μ ∧ Q d μ) : (dIsN a μ).wp Q E := let ⟨d, h1, h2⟩ := h; wp_prim h1 h2
theorem wp_notNE {a : D} (h : ∃ d, dNotN a μ = .ok d μ ∧ Q d μ) : (dNotN a μ).wp Q E := let ⟨d, h1, h2⟩ := h; wp_prim h1 h2
theorem wp_neS {a b d : D} (h : dNe a b μ = .ok d μ) (q : Q d μ) : (dNe a b μ).wp Q E := by rw [h]; exact q
theorem pylong_200 (h : j.natAbs < 2 ^ 200) : Builtin.divisionGoesByPylong i j = false := pylong_small (Nat.lt_of_lt_of_le h (Nat.pow_le_pow_right (by decide) (by decide)))
/-- walked lists, slices -/
theorem wp_slE {a : D} {lo hi : Option Int} (h : ∃ d, dSl3 a lo hi μ = .ok d μ ∧ Q d μ) : (dSl3 a lo hi μ).wp Q E := let ⟨d, h1, h2⟩ := h; wp_prim h1 h2
end
theorem all_true {n : Nat} {Q : D → Sto → Prop} {E : Exs} {μ : Sto} (q : Q (.bl true) μ) : (dAll (.lst ((List.range n).map fun _ => D.bl true)) μ).wp Q E := by
  have e : ∀ l : List Nat, bools (l.map fun _ => D.bl true) = some (l.map fun _ => true) := fun l => by
    induction l with
    | nil => rfl
    | cons a r ih => show (bools (r.map _)).map _ = _; rw [ih]; rfl
  have e2 : dAll (.lst ((List.range n).map fun _ => D.bl true)) μ = .ok (.bl true) μ := by
    show (match bools ((List.range n).map fun _ => D.bl true) with
      | some bs => R.ok (D.bl (bs.all id)) μ
      | none => .bad) = _
    rw [e]
    dsimp only
    congr 2
    simp
  rw [e2]; exact q
/-- texts, numbers, truth values, None, and lists and tuples of such, so deep -/
inductive Pu : Nat → D → Prop
  | non {n : Nat} : Pu (n + 1) .non
  | bl {n : Nat} (b : Bool) : Pu (n + 1) (.bl b)
  | int {n : Nat} (i : Int) : Pu (n + 1) (.int i)
  | str {n : Nat} {z : Str} (h : PyData.strOk z = true) : Pu (n + 1) (.str z)
  | lst {n : Nat} {xs : List D} (hl : xs.length ≤ 16777216) (h : ∀ x ∈ xs, Pu n x) : Pu (n + 1) (.lst xs)
  | tup {n : Nat} {xs : List D} (hl : xs.length ≤ 16777216) (h : ∀ x ∈ xs, Pu n x) : Pu (n + 1) (.tup xs)
theorem Pu.nil {n : Nat} : ∀ x ∈ ([] : List D), Pu n x := fun x h => by cases h
theorem Pu.cons {n : Nat} {d : D} {ds : List D} (h : Pu n d) (t : ∀ x ∈ ds, Pu n x) : ∀ x ∈ d :: ds, Pu n x := fun x hx => by
  rcases List.mem_cons.mp hx with e | e
  · subst e; exact h
  · exact t x e
theorem Pu.le {n m : Nat} {d : D} (h : Pu n d) (hm : n ≤ m) : Pu m d := by
  induction h generalizing m with
  | non => cases m with | zero => omega | succ m => exact .non
  | bl b => cases m with | zero => omega | succ m => exact .bl b
  | int b => cases m with | zero => omega | succ m => exact .int b
  | str b => cases m with | zero => omega | succ m => exact .str b
  | lst hl h ih => cases m with | zero => omega | succ m => exact .lst hl fun x hx => ih x hx (by omega)
  | tup hl h ih => cases m with | zero => omega | succ m => exact .tup hl fun x hx => ih x hx (by omega)
theorem Pu.py {n : Nat} {d : D} (h : Pu n d) : ∃ x, toPy0 d = some x ∧ x.canLay0 = true ∧ x.depth ≤ n := by
  have lists : ∀ {n : Nat} {xs : List D}, (∀ x ∈ xs, ∃ y, toPy0 x = some y ∧ y.canLay0 = true ∧ y.depth ≤ n) → ∃ ys, toPyL xs = some ys ∧ PyData.canLayAll0 ys = true ∧ PyData.depthAll ys ≤ n := by
    intro n xs
    induction xs with
    | nil => intro _; exact ⟨[], rfl, rfl, Nat.zero_le _⟩
    | cons x xs ih =>
      intro h
      obtain ⟨y, h1, h2, h3⟩ := h x List.mem_cons_self
      obtain ⟨ys, h4, h5, h6⟩ := ih fun x hx => h x (List.mem_cons_of_mem _ hx)
      refine ⟨y :: ys, by simp [toPyL, h1, h4], by simp [PyData.canLayAll0, h2, h5], ?_⟩
      simp only [PyData.depthAll]
      omega
  induction h with
  | non => exact ⟨.none, rfl, rfl, by simp [PyData.depth]⟩
  | bl b => exact ⟨.bool b, rfl, rfl, by simp [PyData.depth]⟩
  | int b => exact ⟨.int b, rfl, rfl, by simp [PyData.depth]⟩
  | @str n z h => exact ⟨.str z, rfl, by simp [PyData.canLay0, h], by simp [PyData.depth]⟩
  | lst hl h ih =>
    obtain ⟨ys, h1, h2, h3⟩ := lists ih
    exact ⟨.list ys, by simp [toPy0, h1], by simp [PyData.canLay0, h2], by simp only [PyData.depth]; omega⟩
  | tup hl h ih =>
    obtain ⟨ys, h1, h2, h3⟩ := lists ih
    exact ⟨.tuple ys, by simp [toPy0, h1], by simp [PyData.canLay0, h2], by simp only [PyData.depth]; omega⟩
theorem Pu.toPy {n : Nat} {d : D} (h : Pu n d) (μ : Sto) : toPy μ d = toPy0 d := by cases h <;> rfl
theorem dEq_py {μ : Sto} {a b : D} {x y : PyData} (h1 : toPy μ a = some x) (h2 : toPy μ b = some y) (h3 : SeqAt.shaped x = true) (h4 : SeqAt.shaped y = true) : dEq a b μ = .ok (.bl (PyData.eqv x y)) μ := by
  unfold dEq
  rw [h1, h2]
  dsimp only
  rw [if_pos ⟨h3, h4⟩]
theorem dNe_py {μ : Sto} {a b : D} {x y : PyData} (h1 : toPy μ a = some x) (h2 : toPy μ b = some y) (h3 : SeqAt.shaped x = true) (h4 : SeqAt.shaped y = true) : dNe a b μ = .ok (.bl (!PyData.eqv x y)) μ := by
  unfold dNe
  rw [h1, h2]
  dsimp only
  rw [if_pos ⟨h3, h4⟩]
theorem Pu.shaped {n : Nat} {d : D} (h : Pu n d) (hn : n ≤ 64) : ∃ x, toPy0 d = some x ∧ SeqAt.shaped x = true := by
  obtain ⟨x, h1, h2, h3⟩ := h.py
  refine ⟨x, h1, ?_⟩
  unfold SeqAt.shaped
  rw [h2, decide_eq_true (by omega)]
  rfl
theorem Pu.eq_self {n : Nat} {d : D} (h : Pu n d) (hn : n ≤ 64) (μ : Sto) : dEq d d μ = .ok (.bl true) μ := by
  obtain ⟨x, h1, h2⟩ := h.shaped hn
  rw [dEq_py ((h.toPy μ).trans h1) ((h.toPy μ).trans h1) h2 h2, SeqAt.eqv_refl x (SeqAt.canLay_of_shaped h2)]
theorem Pu.ne_self {n : Nat} {d : D} (h : Pu n d) (hn : n ≤ 64) (μ : Sto) : dNe d d μ = .ok (.bl false) μ := by
  obtain ⟨x, h1, h2⟩ := h.shaped hn
  rw [dNe_py ((h.toPy μ).trans h1) ((h.toPy μ).trans h1) h2 h2, SeqAt.eqv_refl x (SeqAt.canLay_of_shaped h2)]
  rfl
theorem wp_eqB {a b : Bool} {Q : D → Sto → Prop} {E : Exs} {μ : Sto} (q : Q (.bl (a == b)) μ) : (dEq (.bl a) (.bl b) μ).wp Q E := by
  rw [dEq_py (x := .bool a) (y := .bool b) rfl rfl rfl rfl]; exact q
theorem wp_neB {a b : Bool} {Q : D → Sto → Prop} {E : Exs} {μ : Sto} (q : Q (.bl (!(a == b))) μ) : (dNe (.bl a) (.bl b) μ).wp Q E := by
  rw [dNe_py (x := .bool a) (y := .bool b) rfl rfl rfl rfl]; exact q
theorem wp_eqStr {a b : Str} {Q : D → Sto → Prop} {E : Exs} {μ : Sto} (ha : PyData.strOk a = true) (hb : PyData.strOk b = true) (q : Q (.bl (decide (a = b))) μ) : (dEq (.str a) (.str b) μ).wp Q E := by
  have e : ∀ z : Str, PyData.strOk z = true → SeqAt.shaped (.str z) = true := fun z h => by
    unfold SeqAt.shaped
    simp [PyData.canLay0, PyData.depth, h]
  rw [dEq_py (x := .str a) (y := .str b) rfl rfl (e a ha) (e b hb)]
  have e2 : PyData.eqv (.str a) (.str b) = decide (a = b) := by
    simp only [PyData.eqv]
    rfl
  rw [e2]; exact q
theorem wp_neStr {a b : Str} {Q : D → Sto → Prop} {E : Exs} {μ : Sto} (ha : PyData.strOk a = true) (hb : PyData.strOk b = true) (q : Q (.bl (!decide (a = b))) μ) : (dNe (.str a) (.str b) μ).wp Q E := by
  have e : ∀ z : Str, PyData.strOk z = true → SeqAt.shaped (.str z) = true := fun z h => by
    unfold SeqAt.shaped
    simp [PyData.canLay0, PyData.depth, h]
  rw [dNe_py (x := .str a) (y := .str b) rfl rfl (e a ha) (e b hb)]
  have e2 : PyData.eqv (.str a) (.str b) = decide (a = b) := by
    simp only [PyData.eqv]
    rfl
  rw [e2]; exact q
theorem sub_okE {k : Nat} {z : Int} {d : D} {μ3 : Sto} {N : Sto → Prop} (h : ∃ μ4, setL k z d μ3 = some μ4 ∧ N μ4) : ∃ k' z' μ', D.cell k = D.cell k' ∧ D.int z = D.int z' ∧ setL k' z' d μ3 = some μ' ∧ N μ' := let ⟨μ4, h1, h2⟩ := h; ⟨k, z, μ4, rfl, rfl, h1, h2⟩
theorem rng_ok {hi : Int} {A : Prop} (h : -(2 ^ 62) ≤ hi ∧ hi < 2 ^ 62) (q : A) : (-(2 ^ 62) ≤ hi ∧ hi < 2 ^ 62) ∧ A := ⟨h, q⟩
theorem rng2_ok {lo hi : Int} {A : Prop} (h : -(2 ^ 62) ≤ lo ∧ lo < 2 ^ 62 ∧ -(2 ^ 62) ≤ hi ∧ hi < 2 ^ 62) (q : A) : (-(2 ^ 62) ≤ lo ∧ lo < 2 ^ 62 ∧ -(2 ^ 62) ≤ hi ∧ hi < 2 ^ 62) ∧ A := ⟨h, q⟩
theorem len_eq {α : Type} {ds : List α} {n : Nat} {A : Prop} (h : ds.length = n) (q : A) : ds.length = n ∧ A := ⟨h, q⟩
theorem len_100 {α : Type} {ds : List α} {A : Prop} (h : ds.length ≤ 100) (q : A) : ds.length ≤ 100 ∧ A := ⟨h, q⟩
theorem rngD_len {lo : Int} {n : Nat} {A : Prop} (h : n ≤ 16777216) (q : A) : (rngD lo n).length ≤ sizeLine ∧ A := ⟨by simp only [rngD, List.length_map, List.length_range, sizeLine_eq]; omega, q⟩
theorem isTy_ok {T : String} {μ : Sto} {d : D} {A : Prop} (h : isTy T μ d = true) (q : A) : isTy T μ d = true ∧ A := ⟨h, q⟩
theorem ixN_nat {n : Nat} {i : Int} (h0 : 0 ≤ i) (h1 : i < n) : ixN n i = some i.toNat := by
  unfold ixN
  rw [if_pos h0, if_pos (by omega)]
theorem ix_lst {xs : List D} {i : Int} {x : D} {μ : Sto} (h0 : 0 ≤ i) (h : xs[i.toNat]? = some x) : dIx (.lst xs) (.int i) μ = .ok x μ := by
  have h1 : i.toNat < xs.length := (List.getElem?_eq_some_iff.mp h).1
  show (match atI xs i with
    | some d => R.ok d μ
    | none => .bad) = _
  unfold atI
  rw [ixN_nat h0 (by omega), Option.bind_some, h]
theorem ix_tup {xs : List D} {i : Int} {x : D} {μ : Sto} (h0 : 0 ≤ i) (h : xs[i.toNat]? = some x) : dIx (.tup xs) (.int i) μ = .ok x μ := ix_lst (μ := μ) h0 h
section
variable {E : Exs} {ρ : Env} {μ : Sto} {fa : SA}
theorem wp_range1 {Q : List D × (Sto → Bool) → Sto → Prop} (h : (fa ρ μ).wp (fun ds μ1 => ∃ hi, ds = [.int hi] ∧ (-(2 ^ 62) ≤ hi ∧ hi < 2 ^ 62) ∧ Q (rngD 0 hi.toNat, fun _ => true) μ1) E) : (iRange1 fa ρ μ).wp Q E := by
  refine wp_bind (wp_mono h (fun ds μ1 ⟨hi, e, c, q⟩ => ?_) fun _ _ _ _ z => z)
  subst e
  show R.wp (if -(2 ^ 62) ≤ hi ∧ hi < 2 ^ 62 then _ else _) Q E
  rw [if_pos c]
  exact q
theorem wp_range2 {Q : List D × (Sto → Bool) → Sto → Prop} (h : (fa ρ μ).wp (fun ds μ1 => ∃ lo hi, ds = [.int lo, .int hi] ∧ (-(2 ^ 62) ≤ lo ∧ lo < 2 ^ 62 ∧ -(2 ^ 62) ≤ hi ∧ hi < 2 ^ 62) ∧ Q (rngD lo (hi - lo).toNat, fun _ => true) μ1) E) : (iRange2 fa ρ μ).wp Q E := by
  refine wp_bind (wp_mono h (fun ds μ1 ⟨lo, hi, e, c, q⟩ => ?_) fun _ _ _ _ z => z)
  subst e
  show R.wp (if -(2 ^ 62) ≤ lo ∧ lo < 2 ^ 62 ∧ -(2 ^ 62) ≤ hi ∧ hi < 2 ^ 62 then _ else _) Q E
  rw [if_pos c]
  exact q
end
end L3

namespace L3
open PySem PySem.Spec PyProof.Rows L2
/-! ### int(x), str(x), bool(x), tuple(x) -/
def dIntC : D → Sto → R D
  | .int i, μ => .ok (.int i) μ
  | .bl b, μ => .ok (.int (if b then 1 else 0)) μ
  | .str z, μ => (match PySem.intText? z with
    | some n => if z.length ≤ 640 then .ok (.int n) μ else .bad
    | none => .bad)
  | _, _ => .bad
def rInt3 : List V → Hp → VK → Prop := fun xs H Q => ((∃ i, xs = [.int i] ∧ Q (.int i) H) ∨ ∃ k, xs = [.bl k] ∧ Q (.int (if k then 1 else 0)) H) ∨ ∃ a n, xs = [.str a] ∧ PySem.intText? a = some n ∧ a.length ≤ 640 ∧ Q (.int n) H
section
variable {P : Pm} {X : Cx}
theorem cr_int3 : CallR X (.type "int") rInt3 := call_int1.or call_int_str
theorem cs_int3 : CallS P rInt3 (un dIntC) := by
  refine cs_un fun E L H μ v d Q s rv q => ?_
  cases rv with
  | int i => exact .inl (.inl ⟨i, rfl, q L H .refl s _ (.int _)⟩)
  | bl b => exact .inl (.inr ⟨b, rfl, q L H .refl s _ (.int _)⟩)
  | str z =>
    have q : Post P E L H (fun d L' H' => ∀ v, Rep P H' L' v d → Q v H') (match PySem.intText? z with
      | some n => if z.length ≤ 640 then .ok (.int n) μ else .bad
      | none => .bad) := q
    cases e : PySem.intText? z with
    | none => rw [e] at q; exact q.elim
    | some n =>
      rw [e] at q
      by_cases c : z.length ≤ 640
      · have q : Post P E L H (fun d L' H' => ∀ v, Rep P H' L' v d → Q v H') (if z.length ≤ 640 then .ok (.int n) μ else .bad) := q
        rw [if_pos c] at q
        exact .inr ⟨z, n, rfl, e, c, q L H .refl s _ (.int _)⟩
      · have q : Post P E L H (fun d L' H' => ∀ v, Rep P H' L' v d → Q v H') (if z.length ≤ 640 then .ok (.int n) μ else .bad) := q
        rw [if_neg c] at q; exact q.elim
  | _ => exact q.elim
/-- tuple(x): a list's items, or the tuple itself -/
def dTupOf : D → Sto → R D := fun d μ => match d with
  | .tup ds => .ok (.tup ds) μ
  | d => (match asS μ d with
    | some ds => .ok (.tup ds) μ
    | none => .bad)
def rTupOf (K : PySem.W.Frag) : List V → Hp → VK → Prop := fun xs H Q => ∃ p ys, xs = [.ref p] ∧ ((SqL K H p ys ∧ ∀ l, H l = none → Q (.ref l) (upd H l (.tup ys))) ∨ (SqT K H p ys ∧ Q (.ref p) H))
theorem cs_tupOf (hK : P.K = X.K) : CallS P (rTupOf X.K) (un dTupOf) := by
  refine cs_un fun E L H μ v d Q s rv q => ?_
  have seq : Post P E L H (fun d L' H' => ∀ v, Rep P H' L' v d → Q v H') (match asS μ d with
      | some ds => .ok (.tup ds) μ
      | none => .bad) → rTupOf X.K [v] H Q := fun q => by
    cases e1 : asS μ d with
    | none => rw [e1] at q; exact q.elim
    | some ds =>
      rw [e1] at q
      obtain ⟨a, vs, rfl, hq, rq⟩ := asS_ok s rv e1
      rw [hK] at hq
      exact ⟨a, vs, rfl, .inl ⟨hq, fun l hl => q _ _ (Ext.grow s (upd_grow hl)) (s.grow (upd_grow hl)) _ (new_tup s hl rq)⟩⟩
  cases d with
  | tup ds =>
    have rv' := rv
    obtain ⟨a, vs, rfl, hq, rq⟩ := tup_ok rv
    rw [hK] at hq
    exact ⟨a, vs, rfl, .inr ⟨hq, q L H .refl s _ rv'⟩⟩
  | _ => exact seq q
end
/-! ### in -/
def flatD : D → Bool
  | .non => true
  | .bl _ => true
  | .int _ => true
  | .str _ => true
  | _ => false
def vOf : D → V
  | .bl b => .bl b
  | .int i => .int i
  | .str z => .str z
  | _ => .non
theorem flat_rep {P : Pm} {H : Hp} {L : Lv} {v : V} {d : D} (r : Rep P H L v d) (f : flatD d = true) : v = vOf d ∧ flatV v = true := by
  cases r with
  | non => exact ⟨rfl, rfl⟩
  | bl b => exact ⟨rfl, rfl⟩
  | int b => exact ⟨rfl, rfl⟩
  | str b => exact ⟨rfl, rfl⟩
  | _ => cases f
theorem flat_reps {P : Pm} {H : Hp} {L : Lv} : ∀ {vs : List V} {ds : List D}, Reps P H L vs ds → ds.all flatD = true → vs = ds.map vOf ∧ vs.all flatV = true
  | _, _, .nil, _ => ⟨rfl, rfl⟩
  | _, _, .cons r t, f => by
    rw [List.all_cons, Bool.and_eq_true] at f
    obtain ⟨e1, f1⟩ := flat_rep r f.1
    obtain ⟨e2, f2⟩ := flat_reps t f.2
    exact ⟨by rw [List.map_cons, e1, e2], by rw [List.all_cons, f1, f2]; rfl⟩
def inD (a : D) (ds : List D) : Bool := inV (vOf a) (ds.map vOf)
def dIn (neg : Bool) : D → D → Sto → R D := fun a b μ => match a, b with
  | .str x, .str z => .ok (.bl (if neg then !(!(Builtin.Str.occurrences z x 0 z.length 1).isEmpty) else !(Builtin.Str.occurrences z x 0 z.length 1).isEmpty)) μ
  | a, b => (match asQ μ b with
    | some ds => if flatD a = true ∧ ds.all flatD = true then .ok (.bl (if neg then !inD a ds else inD a ds)) μ else .bad
    | none => .bad)
def rInS (neg : Bool) : R2 := fun x y H Q => ∃ i j, x = .str i ∧ y = .str j ∧ Q (.bl (if neg then !(!(Builtin.Str.occurrences j i 0 j.length 1).isEmpty) else !(Builtin.Str.occurrences j i 0 j.length 1).isEmpty)) H
section
variable {P : Pm} {X : Cx}
theorem op_inA : OpR X (compareOp .In) (fun x y H Q => rInS false x y H Q ∨ rIn X.K false x y H Q) := OpR.or (r := rInS false) op_in_str op_in_seq
theorem os_in (hK : P.K = X.K) (neg : Bool) : OpS P (fun x y H Q => rInS neg x y H Q ∨ rIn X.K neg x y H Q) (dIn neg) := by
  intro E L H μ x y a b Q s ra rb q
  have seq : Post P E L H (fun d L' H' => ∀ v, Rep P H' L' v d → Q v H') (match asQ μ b with
      | some ds => if flatD a = true ∧ ds.all flatD = true then .ok (.bl (if neg then !inD a ds else inD a ds)) μ else .bad
      | none => .bad) → rInS neg x y H Q ∨ rIn X.K neg x y H Q := fun q => by
    cases e1 : asQ μ b with
    | none => rw [e1] at q; exact q.elim
    | some ds =>
      rw [e1] at q
      have q : Post P E L H (fun d L' H' => ∀ v, Rep P H' L' v d → Q v H') (if flatD a = true ∧ ds.all flatD = true then .ok (.bl (if neg then !inD a ds else inD a ds)) μ else .bad) := q
      by_cases c : flatD a = true ∧ ds.all flatD = true
      · rw [if_pos c] at q
        obtain ⟨p, vs, rfl, hq, rq⟩ := asQ_ok s rb e1
        rw [hK] at hq
        obtain ⟨e2, f2⟩ := flat_rep ra c.1
        obtain ⟨e3, f3⟩ := flat_reps rq c.2
        have fin := q L H .refl s _ (.bl _)
        refine .inr ⟨p, vs, rfl, hq, f2, f3, ?_⟩
        rw [e2, e3]
        exact fin
      · rw [if_neg c] at q; exact q.elim
  cases a with
  | str z =>
    cases b with
    | str y' => cases ra; cases rb; exact .inl ⟨_, _, rfl, rfl, q L H .refl s _ (.bl _)⟩
    | _ => exact seq q
  | _ => exact seq q
end
/-! ### a < b < c -/
def eChain (g g' : D → D → Sto → R D) (f1 f2 f3 : SE) : SE := fun ρ μ => (f1 ρ μ).bind fun a μ1 => (f2 ρ μ1).bind fun b μ2 => (g a b μ2).bind fun r μ3 => match r with
  | .bl true => (f3 ρ μ3).bind fun c μ4 => g' b c μ4
  | .bl false => .ok (.bl false) μ3
  | _ => .bad
section
variable {P : Pm} {W : WX} {X : Cx} {pos : Pos} {a b c : Expr} {f1 f2 f3 : SE} {r r' : R2} {g g' : D → D → Sto → R D}
theorem tChain_of (hg : OpS P r g) (hg' : OpS P r' g') {σ : Slots} {H : Hp} {Q : VK} (h : tV P W (eChain g g' f1 f2 f3) σ H Q) : tChain r r' (tV P W f1) (tV P W f2) (tV P W f3) σ H Q := by
  obtain ⟨L, ρ, μ, rs, st, q⟩ := h
  refine tV.first rs st q fun d μ1 v L1 H1 x1 s1 r1 rs1 q1 => ?_
  refine tV.first rs1 s1 q1 fun d2 μ2 v2 L2 H2 x2 s2 r2 rs2 q2 => ?_
  refine hg (WE W σ) L2 H2 μ2 v v2 d d2 _ s2 (r1.ext x2) r2 ?_
  cases e : g d d2 μ2 with
  | bad => rw [e] at q2; exact q2
  | exc c ns vs μ3 => rw [e] at q2; exact q2
  | ok z μ3 =>
    rw [e] at q2
    intro L3 H3 x3 s3 w rw'
    have q3 := Post.ext x3 q2
    cases rw' with
    | bl k =>
      refine ⟨k, rfl, ?_⟩
      cases k with
      | true =>
        rw [if_pos rfl]
        exact tV.first (rs2.ext x3) s3 q3 fun d4 μ4 v4 L4 H4 x4 s4 r4 rs4 q4 => hg' _ L4 H4 μ4 v2 v4 d2 d4 Q s4 ((r2.ext x3).ext x4) r4 q4
      | false =>
        rw [if_neg Bool.false_ne_true]
        exact q3 L3 H3 .refl s3 _ (.bl false)
    | _ => exact q3.elim
theorem ve_chain {op op' : CmpOp} (ho : OpR X (compareOp op) r) (ho' : OpR X (compareOp op') r') (hg : OpS P r g) (hg' : OpS P r' g') (h1 : VE P W X a f1) (h2 : VE P W X b f2) (h3 : VE P W X c f3) (hm : lastMarks [op, op'] [b, c] = false := by with_unfolding_all rfl) :
    VE P W X (.Compare a [op, op'] [b, c] pos) (eChain g g' f1 f2 f3) := (pe_chain ho ho' h1 h2 h3 hm).imp3 fun _ _ _ h => tChain_of hg hg' h
end
section
variable {P : Pm} {X : Cx}
end
/-! ### f-strings -/
def jS : List SE → Str → Env → Sto → R D
  | [], acc, _, μ => .ok (.str acc) μ
  | f :: fs, acc, ρ, μ => (f ρ μ).bind fun d μ1 => match d with
    | .str y => if (acc ++ y).length ≤ sizeLine then jS fs (acc ++ y) ρ μ1 else .bad
    | _ => .bad
def eJoined (fs : List SE) : SE := fun ρ μ => jS fs Str.empty ρ μ
inductive VJ (P : Pm) (W : WX) (X : Cx) : List Expr → List SE → Prop
  | nil : VJ P W X [] []
  | cons {e : Expr} {f : SE} {es : List Expr} {fs : List SE} (h : VE P W X e f) (r : VJ P W X es fs) : VJ P W X (e :: es) (f :: fs)
section
variable {P : Pm} {W : WX} {X : Cx} {pos : Pos} {e : Expr} {f : SE}
end
/-! ### methods of texts -/
theorem Reps.strs {P : Pm} {H : Hp} {L : Lv} : ∀ (ys : List Str), Reps P H L (ys.map V.str) (ys.map D.str)
  | [] => .nil
  | y :: r => .cons (.str y) (Reps.strs r)
def strsD : List D → Option (List Str)
  | [] => some []
  | .str b :: r => (strsD r).map (b :: ·)
  | _ :: _ => none
theorem strsD_ok {P : Pm} {H : Hp} {L : Lv} : ∀ {ds : List D} {bs : List Str} {vs : List V}, strsD ds = some bs → Reps P H L vs ds → vs = bs.map V.str
  | [], bs, vs, e, r => by cases r; cases e; rfl
  | d :: ds, bs, vs, e, r => by
    cases r with
    | cons h t =>
      cases h with
      | str b =>
        have e : (strsD ds).map (b :: ·) = some bs := e
        cases e1 : strsD ds with
        | none => rw [e1] at e; cases e
        | some cs =>
          rw [e1] at e
          cases e
          rw [strsD_ok e1 t]
          rfl
      | _ => cases e
section
variable {P : Pm} {X : Cx}
end
end L3

namespace L3
open PySem PySem.Spec PyProof.Rows L2
section
variable {Q : D → Sto → Prop} {E : Exs} {ρ : Env} {μ : Sto} {f f1 f2 f3 : SE} {fa : SA}
theorem wp_asked {pick : Str → Option Shape} (h : (f ρ μ).wp (fun d μ1 => Q (.tup [.str "told", d]) μ1) (fun c ns vs μ1 => ∃ sh, pick c = some sh ∧ ∃ d, sh.told ns vs = some d ∧ Q d μ1)) : (eAsked pick f ρ μ).wp Q E := by
  unfold eAsked
  cases e : f ρ μ with
  | bad => rw [e] at h; exact h
  | ok d μ1 => rw [e] at h; exact h
  | exc c ns vs μ1 =>
    rw [e] at h
    obtain ⟨sh, h1, d, h2, h3⟩ := h
    dsimp only
    rw [h1, Option.bind_some, h2]
    exact h3
theorem wp_chain {g g' : D → D → Sto → R D} (h : (f1 ρ μ).wp (fun a μ1 => (f2 ρ μ1).wp (fun b μ2 => (g a b μ2).wp (fun r μ3 => ∃ c, r = .bl c ∧ (c = true → (f3 ρ μ3).wp (fun d μ4 => (g' b d μ4).wp Q E) E) ∧ (c = false → Q (.bl false) μ3)) E) E) E) : (eChain g g' f1 f2 f3 ρ μ).wp Q E :=
  wp_bind (wp_mono h (fun a μ1 z => wp_bind (wp_mono z (fun b μ2 z => wp_bind (wp_mono z (fun r μ3 ⟨c, e, h1, h2⟩ => by
    subst e
    cases c with
    | true => exact wp_bind (h1 rfl)
    | false => exact h2 rfl) fun _ _ _ _ z => z)) fun _ _ _ _ z => z)) fun _ _ _ _ z => z)
theorem wp_joined {fs : List SE} (h : (jS fs Str.empty ρ μ).wp Q E) : (eJoined fs ρ μ).wp Q E := h
theorem wp_jNil {acc : Str} (q : Q (.str acc) μ) : (jS [] acc ρ μ).wp Q E := q
theorem wp_jCons {acc : Str} {fs : List SE} (h : (f ρ μ).wp (fun d μ1 => ∃ y, d = .str y ∧ (acc ++ y).length ≤ sizeLine ∧ (jS fs (acc ++ y) ρ μ1).wp Q E) E) : (jS (f :: fs) acc ρ μ).wp Q E :=
  wp_bind (wp_mono h (fun d μ1 ⟨y, e, c, q⟩ => by
    subst e
    show R.wp (if (acc ++ y).length ≤ sizeLine then _ else _) Q E
    rw [if_pos c]; exact q) fun _ _ _ _ z => z)
theorem wp_intI {i : Int} (q : Q (.int i) μ) : (dIntC (.int i) μ).wp Q E := q
theorem wp_intB {b : Bool} (q : Q (.int (if b = true then 1 else 0)) μ) : (dIntC (.bl b) μ).wp Q E := q
theorem wp_tupOfE {a : D} (h : ∃ d, dTupOf a μ = .ok d μ ∧ Q d μ) : (dTupOf a μ).wp Q E := let ⟨d, h1, h2⟩ := h; wp_prim h1 h2
theorem wp_inFlat {a b : D} {ds : List D} (h : asQ μ b = some ds) (hb : ∀ z, b ≠ .str z) (fa : flatD a = true) (fd : ds.all flatD = true) (q : Q (.bl (inD a ds)) μ) : (dIn false a b μ).wp Q E := by
  have e : dIn false a b μ = .ok (.bl (inD a ds)) μ := by
    unfold dIn
    split
    · rename_i x z; exact absurd rfl (hb z)
    · rw [h]
      dsimp only
      rw [if_pos ⟨fa, fd⟩]
      rfl
  rw [e]; exact q
/-- one sign in a text -/
theorem wp_inSign {c : Nat} {z : Str} (q : Q (.bl (decide (c ∈ z.cps.toList))) μ) : (dIn false (.str ⟨#[c]⟩) (.str z) μ).wp Q E := by
  have e : dIn false (.str ⟨#[c]⟩) (.str z) μ = .ok (.bl (decide (c ∈ z.cps.toList))) μ := by
    show R.ok (D.bl (!(Builtin.Str.occurrences z ⟨#[c]⟩ 0 z.length 1).isEmpty)) μ = _
    rw [PySem.StrLaws.found_one z c]
  rw [e]; exact q
/-- texts put together -/
theorem wp_addS {x y : Str} (h : x.length + y.length ≤ sizeLine) (q : Q (.str (x ++ y)) μ) : (dAdd (.str x) (.str y) μ).wp Q E := by
  show R.wp (if x.length + y.length ≤ sizeLine then _ else _) Q E
  rw [if_pos h]; exact q
theorem wp_addL {xs ys : List D} (h : xs.length + ys.length ≤ 16777216) (q : Q (.lst (xs ++ ys)) μ) : (dAdd (.lst xs) (.lst ys) μ).wp Q E := by
  show R.wp (if xs.length + ys.length ≤ sizeLine then _ else _) Q E
  rw [if_pos (by rw [sizeLine_eq]; exact h)]; exact q
end
section
variable {E : Exs} {ρ : Env} {μ : Sto} {fa : SA}
theorem wp_enum {Q : List D × (Sto → Bool) → Sto → Prop} (h : (fa ρ μ).wp (fun ds μ1 => ∃ d, ds = [d] ∧ ∃ it, walkL μ1 d = some it ∧ Q (enumD 0 it.1, it.2) μ1) E) : (iEnumD fa ρ μ).wp Q E :=
  wp_bind (wp_mono h (fun ds μ1 ⟨d, e, it, e2, q⟩ => by subst e; dsimp only; rw [e2]; exact q) fun _ _ _ _ z => z)
theorem wp_zip {Q : List D × (Sto → Bool) → Sto → Prop} (h : (fa ρ μ).wp (fun ds μ1 => ∃ d e, ds = [d, e] ∧ ∃ it iu, walkL μ1 d = some it ∧ walkL μ1 e = some iu ∧ Q (zipD it.1 iu.1, fun μ' => it.2 μ' && iu.2 μ') μ1) E) : (iZipD fa ρ μ).wp Q E :=
  wp_bind (wp_mono h (fun ds μ1 ⟨d, e, e1, it, iu, e2, e3, q⟩ => by subst e1; dsimp only; rw [e2, e3]; exact q) fun _ _ _ _ z => z)
end
/-! ### lists that are cells -/
section
variable {μ : Sto} {k : Nat} {ds : List D} {i : Int} {x d : D} {g : MO} {m : Sto}
theorem asL_cell (h : μ[k]? = some (.lst ds)) : asL μ (.cell k) = some ds := by
  show (match μ[k]? with
    | some (.lst ds) => some ds
    | _ => none) = _
  rw [h]
theorem ix_cell (h : μ[k]? = some (.lst ds)) (h0 : 0 ≤ i) (hx : ds[i.toNat]? = some x) : dIx (.cell k) (.int i) μ = .ok x μ := by
  have h1 : i.toNat < ds.length := (List.getElem?_eq_some_iff.mp hx).1
  show (match asL μ (.cell k) with
    | some ds => (match atI ds i with
      | some d => R.ok d μ
      | none => .bad)
    | none => .bad) = _
  rw [asL_cell h]
  show (match atI ds i with
    | some d => R.ok d μ
    | none => .bad) = _
  unfold atI
  rw [ixN_nat h0 (by omega), Option.bind_some, hx]
theorem len_cell (h : μ[k]? = some (.lst ds)) : dLen (.cell k) μ = .ok (.int ds.length) μ := by
  show (match asL μ (.cell k) with
    | some ds => R.ok (D.int ds.length) μ
    | none => .bad) = _
  rw [asL_cell h]
end
theorem wp_ixL {Q : D → Sto → Prop} {E : Exs} {μ : Sto} {xs : List D} {i : Int} {x : D} (h0 : 0 ≤ i) (hx : xs[i.toNat]? = some x) (q : Q x μ) : (dIx (.lst xs) (.int i) μ).wp Q E := wp_ix (ix_lst h0 hx) q
end L3

namespace L3
open PySem PySem.Spec PyProof.Rows L2
open SX (S)
/-! ### texts by their signs -/
def okT (a : List Nat) : Prop := ∀ c ∈ a, c < 1114112
instance (a : List Nat) : Decidable (okT a) := by unfold okT; infer_instance
theorem okT.s {a : List Nat} (h : okT a) : PyData.strOk (S a) = true := by
  show a.toArray.all (· < 0x110000) = true
  simp only [List.all_toArray, List.all_eq_true, decide_eq_true_eq]
  exact h
theorem okT.nil : okT [] := fun _ h => nomatch h
theorem okT.cons {c : Nat} {a : List Nat} (h : c < 1114112) (t : okT a) : okT (c :: a) := fun d hd => by
  rcases List.mem_cons.mp hd with e | e
  · subst e; exact h
  · exact t d e
theorem okT.app {a b : List Nat} (h : okT a) (t : okT b) : okT (a ++ b) := fun d hd => by
  rcases List.mem_append.mp hd with e | e
  · exact h d e
  · exact t d e
theorem okT.sub {a b : List Nat} (h : okT a) (t : ∀ c ∈ b, c ∈ a) : okT b := fun d hd => h d (t d hd)
theorem okT.take {a : List Nat} {n : Nat} (h : okT a) : okT (a.take n) := h.sub fun c hc => List.mem_of_mem_take hc
theorem okT.drop {a : List Nat} {n : Nat} (h : okT a) : okT (a.drop n) := h.sub fun c hc => List.mem_of_mem_drop hc
theorem okT.digits {a : List Nat} (h : NumText.AllDigits a) : okT a := fun c hc => by have := h c hc; omega
section
variable {Q : D → Sto → Prop} {E : Exs} {μ : Sto} {a b : List Nat}
theorem wp_lenT (h : a.length ≤ 16777216) (q : Q (.int a.length) μ) : (dLen (.str (S a)) μ).wp Q E := by
  show R.wp (if (S a).length ≤ sizeLine then .ok (.int (S a).length) μ else .bad) Q E
  rw [SX.S_len, if_pos (by rw [sizeLine_eq]; exact h)]; exact q
theorem wp_ixS {i : Int} {c : Nat} (h0 : 0 ≤ i) (hc : a[i.toNat]? = some c) (hl : a.length ≤ 16777216) (q : Q (.str (S [c])) μ) : (dIx (.str (S a)) (.int i) μ).wp Q E := by
  have h1 : i.toNat < a.length := (List.getElem?_eq_some_iff.mp hc).1
  have e : dIx (.str (S a)) (.int i) μ = .ok (.str (S [c])) μ := by
    show (if (S a).length ≤ sizeLine then (match atI a i with
      | some c => R.ok (D.str ⟨#[c]⟩) μ
      | none => .bad) else .bad) = _
    rw [SX.S_len, if_pos (by rw [sizeLine_eq]; exact hl)]
    unfold atI
    rw [ixN_nat h0 (by omega), Option.bind_some, hc]
  rw [e]; exact q
theorem wp_slT {lo hi : Option Int} (hl : a.length ≤ 16777216) (q : Q (.str (Txt.slice (S a) lo hi)) μ) : (dSl3 (.str (S a)) lo hi μ).wp Q E := by
  show R.wp (if (S a).length ≤ sizeLine then .ok (.str (cutS (S a) lo hi)) μ else .bad) Q E
  rw [SX.S_len, if_pos (by rw [sizeLine_eq]; exact hl), C8.cutS_slice]; exact q
theorem wp_takeT {i : Int} (h0 : 0 ≤ i) (hl : a.length ≤ 16777216) (q : Q (.str (S (a.take i.toNat))) μ) : (dSl3 (.str (S a)) none (some i) μ).wp Q E := wp_slT hl (by rw [SX.slice_to h0]; exact q)
theorem wp_dropT {i : Int} (h0 : 0 ≤ i) (hl : a.length ≤ 16777216) (q : Q (.str (S (a.drop i.toNat))) μ) : (dSl3 (.str (S a)) (some i) none μ).wp Q E := wp_slT hl (by rw [SX.slice_from h0]; exact q)
theorem wp_addT (hl : a.length + b.length ≤ 16777216) (q : Q (.str (S (a ++ b))) μ) : (dAdd (.str (S a)) (.str (S b)) μ).wp Q E := wp_addS (by rw [SX.S_len, SX.S_len, sizeLine_eq]; exact hl) (by rw [SX.S_cat]; exact q)
/-- a whole number's signs -/
def intL (i : Int) : List Nat := if i < 0 then 45 :: TL.numL i.natAbs else TL.numL i.natAbs
theorem int_text (i : Int) : Str.ofString (toString i) = S (intL i) := by
  by_cases h : i < 0
  · obtain ⟨n, rfl⟩ : ∃ n : Nat, i = Int.negSucc n := ⟨(-i - 1).toNat, by omega⟩
    unfold intL
    rw [if_pos h]
    have e := SX.num_S (n + 1)
    have e2 := congrArg TL.tl e
    rw [TL.tl_ofString] at e2
    refine TL.ext_tl ?_
    rw [TL.tl_ofString]
    have e3 : (toString (Int.negSucc n)).toList = '-' :: (toString ((n + 1 : Nat) : Int)).toList := by
      show ("-" ++ toString (n + 1) : String).toList = '-' :: (toString (n + 1)).toList
      rw [String.toList_append]
      rfl
    rw [e3, List.map_cons, e2]
    rfl
  · obtain ⟨n, rfl⟩ : ∃ n : Nat, i = n := ⟨i.toNat, by omega⟩
    unfold intL
    rw [if_neg h]
    exact SX.num_S n
/-- joined pieces, by signs -/
theorem wp_jT {ρ : Env} {acc : List Nat} {f : SE} {fs : List SE} (h : (f ρ μ).wp (fun d μ1 => ∃ y, d = .str (S y) ∧ acc.length + y.length ≤ 16777216 ∧ (jS fs (S (acc ++ y)) ρ μ1).wp Q E) E) : (jS (f :: fs) (S acc) ρ μ).wp Q E :=
  wp_jCons (wp_mono h (fun d μ1 ⟨y, e, c, q⟩ => ⟨S y, e, by rw [SX.S_cat, SX.S_len, List.length_append, sizeLine_eq]; exact c, by rw [SX.S_cat]; exact q⟩) fun _ _ _ _ z => z)
theorem wp_joinedT {ρ : Env} {fs : List SE} (h : (jS fs (S []) ρ μ).wp Q E) : (eJoined fs ρ μ).wp Q E := wp_joined h
theorem bools_bl (l : List Bool) : bools (l.map D.bl) = some l := by
  induction l with
  | nil => rfl
  | cons a r ih => show (bools (r.map D.bl)).map _ = _; rw [ih]; rfl
theorem wp_allB {l : List Bool} (q : Q (.bl (l.all id)) μ) : (dAll (.lst (l.map D.bl)) μ).wp Q E := by
  show R.wp (match bools (l.map D.bl) with
    | some bs => R.ok (D.bl (bs.all id)) μ
    | none => .bad) Q E
  rw [bools_bl]
  exact q
end
/-! ### numbers as texts -/
def IsNum (a : List Nat) : Prop := (1 ≤ a.length ∧ a.length ≤ 12) ∧ (∀ c ∈ a, 48 ≤ c ∧ c ≤ 57) ∧ (a = [48] ∨ a.head? ≠ some 48)
instance (a : List Nat) : Decidable (IsNum a) := by unfold IsNum; infer_instance
theorem IsNum.ne {a : List Nat} (h : IsNum a) : a ≠ [] := fun z => by subst z; exact absurd h.1.1 (by decide)
/-! lengths of written lists -/
section
variable {Q : D → Sto → Prop} {E : Exs} {μ : Sto} {a b c : D}
theorem wp_len0 (q : Q (.int 0) μ) : (dLen (.lst []) μ).wp Q E := q
theorem wp_len1 (q : Q (.int 1) μ) : (dLen (.lst [a]) μ).wp Q E := q
theorem wp_len2 (q : Q (.int 2) μ) : (dLen (.lst [a, b]) μ).wp Q E := q
theorem wp_len3 (q : Q (.int 3) μ) : (dLen (.lst [a, b, c]) μ).wp Q E := q
theorem wp_lenT1 (q : Q (.int 1) μ) : (dLen (.tup [a]) μ).wp Q E := q
theorem wp_lenT2 (q : Q (.int 2) μ) : (dLen (.tup [a, b]) μ).wp Q E := q
theorem wp_lenT3 (q : Q (.int 3) μ) : (dLen (.tup [a, b, c]) μ).wp Q E := q
end
end L3

namespace L3
open PySem PySem.Spec PyProof.Rows L2 PySem.Froz
/-! ### sets of texts: what stands at a place -/
def txE (e : Int × Value) : Str := match e.2 with
  | .str k _ => k
  | _ => Str.empty
theorem tailTx_all {ep : Nat} {xs : Array (Int × Value)} {t : SetTable} {d : Bool} (r : Ris t.place.toList) : Ris (tailTx ep xs t d).2.2.place.toList ∧ (tailTx ep xs t d).2.2.led = t.led ∧ (tailTx ep xs t d).1.toList.Perm xs.toList := by
  unfold tailTx
  by_cases c : (!d && t.tooFull) = true
  · rw [if_pos c]
    exact ⟨relayAll_ris _ _ _, relayAll_led _ _ _, relayAll_perm _ _ _⟩
  · rw [if_neg c]
    exact ⟨r, rfl, .refl _⟩
theorem offTx {t : SetTable} : (if t.plain = true then { t with plain := false } else t).place = t.place ∧ (if t.plain = true then { t with plain := false } else t).led = t.led := by
  split <;> exact ⟨rfl, rfl⟩
theorem addTx_all {D : SD} {z : Int} {v : Value} (r : Ris D.2.2.place.toList) : Ris (addTx z v D).2.2.place.toList ∧ (addTx z v D).2.2.led = D.2.2.led ∧ (addTx z v D).1.toList.Perm ((z, v) :: D.1.toList) := by
  have p1 := layNew_perm D.2.2 D.1 z v
  rw [Array.toList_push] at p1
  have p2 := p1.trans (List.perm_append_singleton _ _)
  have r1 := layNew_ris D.2.2 D.1 z v r
  have r2 := layNew_led D.2.2 D.1 z v
  obtain ⟨o1, o2⟩ := offTx (t := (layNew D.2.2 D.1 z v).2.1)
  unfold addTx
  generalize (if (layNew D.2.2 D.1 z v).2.1.plain = true then { (layNew D.2.2 D.1 z v).2.1 with plain := false } else (layNew D.2.2 D.1 z v).2.1) = t2 at o1 o2 ⊢
  obtain ⟨q1, q2, q3⟩ := tailTx_all (ep := D.2.1) (xs := (layNew D.2.2 D.1 z v).1) (t := t2) (d := (layNew D.2.2 D.1 z v).2.2.1) (by rw [o1]; exact r1)
  exact ⟨q1, q2.trans (o2.trans r2), q3.trans p2⟩
/-- the texts l (in any order), each once, in a set at a -/
structure StR (P : Program) (w : World) (h : Heap) (a : Addr) (l : List Str) : Prop where
  ex : ∃ D : SD, h.get? a = some (sObj "set" D) ∧ TxOk P w D l ∧ (D.1.toList.map txE).Perm l ∧ (∀ e ∈ D.1.toList, ∃ k u, e.2 = Value.str k u) ∧ Ris D.2.2.place.toList ∧ (w.params.followText "set-order" = true ∨ D.2.2.led = true)
  nd : l.Nodup
instance : DecidableEq Str := inferInstance
def insT (l : List Str) (k : Str) : List Str := if k ∈ l then l else k :: l
theorem insT_len (l : List Str) (k : Str) : (insT l k).length ≤ l.length + 1 := by
  unfold insT; split
  · omega
  · rw [List.length_cons]; omega
theorem insT_mem {l : List Str} {k x : Str} : x ∈ insT l k ↔ x = k ∨ x ∈ l := by
  unfold insT; split
  · rename_i c
    refine ⟨.inr, fun z => ?_⟩
    rcases z with rfl | z
    · exact c
    · exact z
  · exact List.mem_cons
section
variable {P : Program} {w : World} {A : Around} {E : Value → Shared → Prop} {s : Shared} {a : Addr} {l : List Str} {k : Str} {u : Tok}
theorem StR.keep {h h' : Heap} (R : StR P w h a l) (f : ∀ o, h.get? a = some o → h'.get? a = some o) : StR P w h' a l := by
  obtain ⟨D, g1, g2⟩ := R.ex
  exact ⟨⟨D, f _ g1, g2⟩, R.nd⟩
theorem StR.there {h : Heap} (R : StR P w h a l) : ∃ o, h.get? a = some o := let ⟨D, g1, _⟩ := R.ex; ⟨_, g1⟩
theorem StR.new {h : Heap} (g : h.get? a = some { cls := .type "set", dict := none, data := .set #[] 0 (.fresh 0 0 (!w.params.followText "set-order")) }) : StR P w h a [] := by
  refine ⟨⟨(#[], 0, .fresh 0 0 (!w.params.followText "set-order")), g, TxOk.nil (by rfl), .refl _, fun e z => by simp at z, .nil, ?_⟩, .nil⟩
  show _ ∨ (!w.params.followText "set-order") = true
  cases w.params.followText "set-order"
  · exact .inr rfl
  · exact .inl rfl
theorem StR.addH {Q : Bool → Shared → Prop} (R : StR P w s.heap a l) (room : l.length + 1 < scanBound)
    (q : ∀ h' b, Heap.SameBut a s.heap h' → StR P w h' a (insT l k) → Q b { s with heap := h' }) : wpAny (model P w) A (setAddHashed a (.str k u) (hashStr w k)) Q E s := by
  obtain ⟨D, g1, g2, g3, g4, g5, g6⟩ := R.ex
  by_cases c : k ∈ l
  · have q := q s.heap false (Heap.SameBut.refl a s.heap) (by unfold insT; rw [if_pos c]; exact R)
    obtain ⟨es, ep, t⟩ := D
    have d1 : (sObj "set" (es, ep, t)).data = .set es ep t := rfl
    have d2 : t.fits es.size = true := g2.fit
    have d3 : ElemsOf (strKind P w) es.toList := g2.el
    have d4 : es.size = l.length := g2.sz
    have d5 : es.size < scanBound := by omega
    obtain ⟨e, he, hk⟩ := (g2.mem k).mp c
    unfold setAddHashed setAddHashedIn
    refine wpAny_holding (wpAny_bind (wpAny_setState_of g1 d1 d2 ?_))
    dsimp only
    rw [byScan_of rfl d5 d3]
    simp only [↓reduceIte]
    unfold setAddByScan
    refine wpAny_bind (wpAny_bind (wpAny_rule (wpAny_bind (wpAny_setScan_of (knd := strKind P w) (k := k) (is_str k u) g1 d1 d2 d3 ?_))))
    cases f : List.findIdx? (fun e => (strKind P w).is k e.2) es.toList with
    | none =>
      have z := List.findIdx?_eq_none_iff.mp f e he
      rw [hk] at z; cases z
    | some j =>
      dsimp only
      exact wpAny_pure (wpAny_pure q)
  · have q := q (s.heap.update a (fun _ => sObj "set" (addTx (hashStr w k) (.str k u) D))) true (Heap.SameBut.update _ _ _)
    refine add_x g1 g2 c room (q ⟨⟨addTx (hashStr w k) (.str k u) D, get_upd _ g1 rfl, ?_, ?_, ?_, (addTx_all g5).1, ?_⟩, ?_⟩)
    · unfold insT; rw [if_neg c]; exact add_ok u g2
    · unfold insT; rw [if_neg c]
      exact ((addTx_all g5).2.2.map txE).trans (.cons _ g3)
    · intro e he
      rcases List.mem_cons.mp ((addTx_all g5).2.2.mem_iff.mp he) with z | z
      · subst z; exact ⟨k, u, rfl⟩
      · exact g4 e z
    · rw [(addTx_all g5).2.1]; exact g6
    · unfold insT; rw [if_neg c]; exact List.nodup_cons.mpr ⟨c, R.nd⟩
theorem StR.typ (R : StR P w s.heap a l) : s.TypeIs (.ref a) "set" := let ⟨_, g1, _⟩ := R.ex; ⟨_, g1, rfl⟩
theorem StR.add1 {Q : Bool → Shared → Prop} (R : StR P w s.heap a l) (room : l.length + 1 < scanBound)
    (q : ∀ h' b, Heap.SameBut a s.heap h' → StR P w h' a (insT l k) → Q b { s with heap := h', toks := s.toks + 1 }) : wpAny (model P w) A (setAdd a (.str k u)) Q E s := by
  unfold setAdd
  refine wpAny_holding (wpAny_bind ((strKind P w).pyHash (is_str k u) ?_))
  exact StR.addH (s := { s with toks := s.toks + 1 }) R room q
theorem StR.add {Q : Value → Shared → Prop} (R : StR P w s.heap a l) (room : l.length + 1 < scanBound)
    (q : ∀ h', Heap.SameBut a s.heap h' → StR P w h' a (insT l k) → Q .none { s with heap := h', toks := s.toks + 1 }) :
    wpAny (model P w) A (call (.builtin "set.add") [.ref a, .str k u]) Q E s := by
  refine wpAny_call_entry F.slot_set_add R.typ F.entry_set_add ?_ (F.args_set_add_2 _ _)
  unfold Builtin.«set.add» Builtin.Frozenset.oneOther
  simp only [List.isEmpty_nil, bind_assoc]
  unfold Builtin.Frozenset.addrOf
  refine wpAny_bind (wpAny_pure ?_)
  try dsimp only
  refine wpAny_bind (wpAny_pure ?_)
  try dsimp only
  refine wpAny_bind (StR.add1 R room fun h' b sb r => ?_)
  show wpAny _ _ (ret Value.none) _ _ _
  exact wpAny_pure ⟨_, rfl, q h' sb r⟩
/-- sorted(a set of texts) -/
theorem strs_vals : ∀ {vs : List Value}, (∀ v ∈ vs, ∃ k u, v = Value.str k u) → StrsAre vs (vs.map fun v => txE (0, v))
  | [], _ => .nil
  | v :: vs, h => by
    obtain ⟨k, u, rfl⟩ := h v List.mem_cons_self
    exact .cons k u (strs_vals fun x hx => h x (List.mem_cons_of_mem _ hx))
theorem StR.sorted {Q : Value → Shared → Prop} (R : StR P w s.heap a l) (hh : A.handled = none) (room : l.length < 64)
    (q : ∀ s' p (out : Array Value) (c : Nat) (ys : List Str), (∀ b o, s.heap.get? b = some o → s'.heap.get? b = some o) → s'.gens = s.gens → s'.os = s.os → s.heap.objs.size ≤ p →
      s'.heap.get? p = some (seqObj "list" out c) → StrsAre out.toList ys → ys.Perm l → sortedS ys = true → Q (.ref p) s') :
    wpAny (model P w) A (call (.builtin "sorted") [.ref a]) Q E s := by
  obtain ⟨D, g1, g2, g3, g4, g5, g6⟩ := R.ex
  obtain ⟨es, ep, t⟩ := D
  have d4 : es.size = l.length := g2.sz
  refine Calls.call_function_entry kind_sorted plain_sorted entry_sorted (args_sorted1 _) ?_
  unfold Builtin.«sorted»
  refine wpAny_bind (m := checkCount "sorted" 1 1 _) (wpAny_pure ?_)
  refine wpAny_bind (collect_set (A := A.in1) hh ⟨_, g1, rfl, rfl⟩ g2.fit (by show es.size < scanBound; unfold scanBound; omega) g5 g6 fun s1 vs k1 z1 e1 o1 pm => ?_)
  have vl : vs.length = l.length := by rw [pm.length_eq, List.length_map, Array.length_toList]; exact d4
  have av : StrsAre vs (vs.map fun v => txE (0, v)) := strs_vals fun v hv => by
    obtain ⟨e, he, rfl⟩ := List.mem_map.mp (pm.mem_iff.mp hv)
    exact g4 e he
  have pl : (vs.map fun v => txE (0, v)).Perm l := by
    refine (pm.map fun v => txE (0, v)).trans ?_
    rw [List.map_map]
    exact g3
  refine wpAny_bind (wpAny_newList ?_ (by rw [vl, sizeLine_eq]; omega))
  have lo : (s1.heap.push (seqObj "list" vs.toArray 0)).get? s1.heap.objs.size = some (seqObj "list" vs.toArray 0) := Heap.get?_push_size _ rfl
  refine wpAny_bind (wpAny_holding (wpAny_call_entry slot_list_sort ⟨_, lo, rfl⟩ entry_list_sort
    (list_sort_treeK strKind_oneLt lo av.keysOf (fun v1 v2 rest e => keyKind_strs (by rw [← e]; exact av)) (by rw [vl]; exact room) fun st' hp hs => ⟨_, rfl, ?_⟩) (args_list_sort _)))
  obtain ⟨ys, y1, y2, y3⟩ := sorted_out_str av hp hs
  obtain ⟨c, hc⟩ := sortedHeap_at (vs := vs) (out := (arrOf st').map (·.2)) lo
  refine wpAny_pure ⟨_, rfl, q _ s1.heap.objs.size _ c ys (fun b o e => ?_) e1 o1 z1 hc y1 (y2.trans pl) y3⟩
  have e2 := k1 b o e
  have lt := Heap.lt_size e2
  show (sortedHeap (s1.heap.push (seqObj "list" vs.toArray 0)) s1.heap.objs.size vs _).get? b = some o
  rw [sortedHeap_old (Nat.ne_of_lt lt) (by rw [size_push']; exact Nat.lt_succ_of_lt lt)]
  exact Heap.get?_push_of_some _ e2
end
end L3

namespace L3
open PySem PySem.Spec PyProof.Rows L2 PySem.Froz
/-- a set of the texts l, as a thing of the abstract heap -/
def StO (P : Program) (w : World) (a : Addr) (l : List Str) : HO := .ext fun h => StR P w h a l
theorem stO_ok {P : Program} {w : World} {H : Hp} {h : Heap} {a : Addr} {l : List Str} (R : StR P w h a l) : ObjOk P w H h a (StO P w a l) := ⟨R, R.there, fun _ _ r f => r.keep f⟩
theorem stO_at {X : Cx} {pins : List (Addr × Obj)} {σ : L2.St} {H : Hp} {s : Shared} {a : Addr} {l : List Str} (I : Inv X pins σ H s) (e : H a = some (StO X.prog X.w a l)) : StR X.prog X.w s.heap a l := (I.hok a _ e).1
/-- the step that puts a text into a set -/
theorem st_put {X : Cx} {pins : List (Addr × Obj)} {σ : L2.St} {H : Hp} {s : Shared} {a : Addr} {l : List Str} {k : Str} {v : Value} {E : Value → Shared → Prop} {Q : Value → Shared → Prop} (I : Inv X pins σ H s) (e : H a = some (StO X.prog X.w a l)) (rv : RelV (.str k) v) (room : l.length + 1 < scanBound)
    (q : ∀ s', Inv X pins σ (upd H a (StO X.prog X.w a (insT l k))) s' → Q .none s') : wpAny (model X.prog X.w) X.A (call (.builtin "set.add") [.ref a, v]) Q E s := by
  obtain ⟨u, rfl⟩ := rv
  refine (stO_at I e).add room fun h' sb r => ?_
  exact q _ (I.write (e := a) (t' := s.toks + 1) (by rw [e]; trivial) (.inl rfl) (fun b o hb hu => (sb.2 b hb).trans hu) r.there (stO_ok r))
section
variable {X : Cx}
/-- {e for target in iter if ..}, of texts: D the new set -/
def tSc (P : Program) (w : World) (wi : TI) (g : TG) (tt : TT) (te : TE) (vs : List Nat) : TE := fun σ H Q => wi σ H fun J H1 => ∀ D, H1 D = none →
  ∃ W : Nat → Nat → Hp → Prop, (∃ m, W 0 m (upd H1 D (StO P w D []))) ∧ ∀ i m H, W i m H → (J.stop i H ∧ Q (.ref D) H) ∨
    (J.go i H ∧ ∃ Nx : Hp → Prop, (∀ H', Nx H' → ∃ m', m' < m ∧ W (i + 1) m' H') ∧ ∀ x H', J.yld i H x H' →
      g x (wipe σ vs) H' fun σ2 H2 => wipe σ2 vs = wipe σ vs ∧ tt σ2 H2 fun b H3 => if b = true then te σ2 H3 fun y H4 => ∃ l k, y = .str k ∧ H4 D = some (StO P w D l) ∧ l.length + 1 < scanBound ∧ Nx (upd H4 D (StO P w D (insT l k))) else Nx H3)
theorem sc_core {pins : List (Addr × Obj)} {s : Shared} {σ : L2.St} {H : Hp} {Q : VK} {ex tg iter : Expr} {ifs : List Expr} {scope : Scope} {own : List (Str × Nat)} {pos pos' : Pos} {wi : TI} {g : TG} {tt : TT} {te : TE}
    {use : Option (Value → Sem Unit)} {Qf : Value → Shared → Prop} (calm : X.calm = true) (nd : X.N.Nodup) (I : Inv X pins σ H s) (hi : PI X tg iter wi) (ok : BlkOk X.N X.env.scope scope own)
    (hg : ∀ (s : Shared) (H : Hp) (C : Addr) (cl : List (Str × Addr)) (fp : List Addr), PG (X.blk s H scope (compEnvC scope cl C X.env) fp) tg g)
    (ht : ∀ (s : Shared) (H : Hp) (C : Addr) (cl : List (Str × Addr)) (fp : List Addr), PTs (X.blk s H scope (compEnvC scope cl C X.env) fp) ifs tt)
    (he : ∀ (s : Shared) (H : Hp) (C : Addr) (cl : List (Str × Addr)) (fp : List Addr), PE (X.blk s H scope (compEnvC scope cl C X.env) fp) ex te)
    (fold : ∀ x, foldedSetIterable iter X.env x = pure x) (h : tSc X.prog X.w wi g tt te (own.map (·.2)) σ H Q)
    (fin : ∀ D C s' m H', Inv X pins σ H' s' → Q (.ref D) H' → s'.heap.Ns C m → FpOk X pins H' C → compPost (model X.prog X.w) X.A X.xe use Qf (.ref D) C (.ok .next) s') :
    wpAny (model X.prog X.w) X.A (comprehension (.SetComp ex [⟨tg, iter, ifs, 0⟩] scope pos) scope X.env pos' (newSet (.type "set")) false (eval iter X.env) use) Qf X.xe s := by
  have free : ∀ y ∈ scope.names, y.2 = .free → ∃ c, X.env.cells.lookup y.1 = some c := by
    intro y hy e
    have z := ok.free y hy e
    exact I.ok.has _ z
  refine wpAny_comprehension_free (use := use) rfl fold (closure_ok free) ok.kind (fun y hy e => by rw [ok.uniq y hy, e]) ?_
  refine thn (hi.run pins s σ H _ I h) fun xv s1 hx => thn hx fun itv s2 z2 => ?_
  obtain ⟨it, fp, tn, J, H2, e, I2, T, st2, f2, q⟩ := z2
  subst e
  refine wpAny_newSet_raw fun led hled => newEnv_comp ?_
  subst hled
  generalize hD : s2.heap.objs.size = D
  have Dn : H2 D = none := I2.hok.fresh (Nat.le_of_eq hD)
  obtain ⟨W, ⟨m0, w0⟩, turn⟩ := q D Dn
  generalize ho : ({ cls := .type "set", dict := none, data := .set #[] 0 (.fresh 0 0 (!X.w.params.followText "set-order")) } : Obj) = o0
  generalize hs3 : ({ s2 with heap := s2.heap.push o0 } : Shared) = s3
  have ofr : o0.isFreed = false := by rw [← ho]; rfl
  have old3 : ∀ b o, s2.heap.get? b = some o → s3.heap.get? b = some o := fun b o e => by rw [← hs3]; exact Heap.get?_push_of_some _ e
  have I3 : Inv X pins σ (upd H2 D (StO X.prog X.w D [])) s3 := by
    rw [← hs3]
    refine I2.laid (t' := s2.toks) (fun b o e => Heap.get?_push_of_some _ e) (Nat.le_of_eq hD) (stO_ok (StR.new ?_))
    rw [ho, ← hD]
    exact Heap.get?_push_size _ ofr
  have h3 : s3.heap = s2.heap.push o0 := by rw [← hs3]
  have small : ∀ b ∈ fp, b < s2.heap.objs.size := fun b hb => let ⟨o, e, _⟩ := T.obj _ _ st2 b hb; Heap.lt_size e
  have f3 : ∀ b ∈ fp, FpOk X pins (upd H2 D (StO X.prog X.w D [])) b ∧ b < s3.heap.objs.size := by
    intro b hb
    have lt := small b hb
    refine ⟨⟨?_, (f2 b hb).2⟩, ?_⟩
    · rw [upd_ne (by rw [← hD]; exact Nat.ne_of_lt lt)]
      exact (f2 b hb).1
    · rw [h3, Heap.size_push]; exact Nat.lt_succ_of_lt lt
  have st3 : tn 0 s3.heap := T.keep _ _ _ st2 fun b _ o e => old3 b o e
  have I4 := block_start I3 ok nd f3
  have pg := hg s3 (upd H2 D (StO X.prog X.w D [])) s3.heap.objs.size (cellsFrom (s3.heap.objs.size + 1) scope.names (cloFrom X.env.cells scope.names [])) fp
  have pt := ht s3 (upd H2 D (StO X.prog X.w D [])) s3.heap.objs.size (cellsFrom (s3.heap.objs.size + 1) scope.names (cloFrom X.env.cells scope.names [])) fp
  have pe := he s3 (upd H2 D (StO X.prog X.w D [])) s3.heap.objs.size (cellsFrom (s3.heap.objs.size + 1) scope.names (cloFrom X.env.cells scope.names [])) fp
  have nfp : ∀ b ∈ fp, (upd H2 D (StO X.prog X.w D [])) b = none := fun b hb => (f3 b hb).1.1
  show codeAny _ _ (.compStart (.SetComp ex [⟨tg, iter, ifs, 0⟩] scope pos) 0 (.ref it) (.ref D) (compEnvC scope (cellsFrom (s3.heap.objs.size + 1) scope.names (cloFrom X.env.cells scope.names [])) s3.heap.objs.size X.env)) (compPost (model X.prog X.w) X.A X.xe use Qf (.ref D) s3.heap.objs.size) _
  generalize hce : compEnvC scope (cellsFrom (s3.heap.objs.size + 1) scope.names (cloFrom X.env.cells scope.names [])) s3.heap.objs.size X.env = ce at I4 pg pt pe ⊢
  have cL : ce.locals = s3.heap.objs.size := by subst hce; rfl
  generalize hH3 : upd H2 D (StO X.prog X.w D []) = H3 at I3 I4 pg pt pe w0 nfp f3
  generalize hs4 : ({ s3 with heap := pushCells (s3.heap.push { cls := .type "dict", data := .dict #[] }) scope.names } : Shared) = s4 at I4 ⊢
  have st4 : tn 0 s4.heap := T.keep _ _ _ st3 fun b _ o e => by rw [← hs4]; exact pushCells_keeps _ _ _ _ (Heap.get?_push_of_some _ e)
  have stat : ∀ {σ' : L2.St} {H' : Hp} {s' : Shared}, Inv (X.blk s3 H3 scope ce fp) [] σ' H' s' → (∀ b ∈ fp, H' b = none) → ∀ b ∈ fp, FpOk (X.blk s3 H3 scope ce fp) [] H' b := by
    intro σ' H' s' I' hn b hb
    exact ⟨hn b hb, (I'.ok.exf b hb).1, I'.ok.exfs b hb, .inl hb, fun x c e => (I'.ok.exf b hb).2 x c e, fun p hp => absurd (show p ∈ ([] : List (Addr × Obj)) ++ [] from hp) (by simp)⟩
  have loop : codeAny (model X.prog X.w) X.A (.compLoop (.SetComp ex [⟨tg, iter, ifs, 0⟩] scope pos) 0 (.ref it) (.ref D) ce) (compPost (model X.prog X.w) X.A X.xe use Qf (.ref D) s3.heap.objs.size) s4 := by
    refine compLoop_set_any (fun n s' => ∃ i H', Inv (X.blk s3 H3 scope ce fp) [] (wipe σ (own.map (·.2))) H' s' ∧ tn i s'.heap ∧ (∀ b ∈ fp, H' b = none) ∧ W i n H') ?_ m0 ⟨0, H3, I4, st4, nfp, w0⟩
    rintro n s5 ⟨i, H5, I5, st5, n5, w5⟩
    rcases turn i n H5 w5 with ⟨stop, qq⟩ | ⟨go, Nx, hNx, step⟩
    · have td := T.done (X.blk s3 H3 scope ce fp) rfl rfl rfl calm i [] s5 _ H5 (fun _ _ => False) I5 (stat I5 n5) st5 stop
      refine thnF td fun r s6 ⟨hr, I6⟩ => ?_
      subst hr
      have I7 : Inv X pins σ H5 s6 := I3.call' (ch := fp) I6.os I6.base I6.hok I6.bare fun b hb =>
        let z := (f3 b hb).1.2
        ⟨z.2.2.1, z.1, z.2.2.2.1, z.2.2.2.2⟩
      have nC : H5 s3.heap.objs.size = none := by
        have z : H5 ce.locals = none := I6.free
        rw [cL] at z
        exact z
      obtain ⟨m, hn, _⟩ := I6.loc
      have hn : s6.heap.Ns ce.locals m := hn
      rw [cL] at hn
      exact fin D s3.heap.objs.size s6 m H5 I7 qq hn (I3.fpOk (Nat.le_refl _) nC)
    · have ti := T.item (X.blk s3 H3 scope ce fp) rfl rfl rfl calm i [] s5 _ H5 (fun _ _ => False) I5 (stat I5 n5) st5 go
      refine thnF ti fun r s6 ⟨u, hr, z6⟩ => ?_
      subst hr
      refine thnF z6 fun _ s7 ⟨x, H7, I7, r7, y7, st7, n7⟩ => ?_
      have J7 := I7.pinned (stat I7 n7) (T.obj _ _ st7)
      refine thnF (pg.run _ s7 _ H7 x u _ J7 r7 (step x H7 y7)) fun _ s8 ⟨σ8, H8, I8, w8, q8⟩ => ?_
      refine thnF (pt.run _ s8 σ8 H8 _ I8 q8) fun b s9 ⟨H9, I9, q9⟩ => ?_
      have over : ∀ {s' : Shared} {H' : Hp}, Inv (X.blk s3 H3 scope ce fp) ([] ++ pinsAt fp s7.heap) σ8 H' s' → Nx H' → ∃ m, m < n ∧ ∃ i H', Inv (X.blk s3 H3 scope ce fp) [] (wipe σ (own.map (·.2))) H' s' ∧ tn i s'.heap ∧ (∀ b ∈ fp, H' b = none) ∧ W i m H' := by
        intro s' H' I' nx
        obtain ⟨m', lt, w'⟩ := hNx H' nx
        have pin : ∀ b ∈ fp, ∀ o, s7.heap.get? b = some o → s'.heap.get? b = some o ∧ H' b = none := by
          intro b hb o e
          have z := I'.pin (b, o) (List.mem_append_right _ (List.mem_append_right _ (mem_pinsAt hb e)))
          exact ⟨z.1, z.2.1⟩
        have len : (wipe σ (own.map (·.2))).length = σ8.length := by rw [← w8, wipe_length]
        refine ⟨m', lt, i + 1, H', (I'.unpinned (pins := [])).weak len ?_, T.keep _ _ _ st7 fun b hb o e => (pin b hb o e).1, ?_, w'⟩
        · intro j v e
          rw [← w8] at e
          exact (wipe_some e).1
        · intro b hb
          obtain ⟨o, e, _⟩ := T.obj _ _ st7 b hb
          exact (pin b hb o e).2
      cases b with
      | false =>
        simp only [Bool.false_eq_true, if_false] at q9 ⊢
        exact over I9 q9
      | true =>
        simp only [if_true] at q9 ⊢
        refine thnF (pe.run _ s9 σ8 H9 _ I9 q9) fun z s10 ⟨y, H10, I10, r10, l, k, ek, D10, room, nx⟩ => ?_
        subst ek
        exact st_put (X := X.blk s3 H3 scope ce fp) I10 D10 r10 room fun s11 I11 => over I11 nx
  exact codeAny_compStart_set loop (T.self X.A 0 _ _ _ st4 loop)
/-- .. as a value -/
theorem pe_sc {ex tg iter : Expr} {ifs : List Expr} {scope : Scope} {own : List (Str × Nat)} {pos : Pos} {wi : TI} {g : TG} {tt : TT} {te : TE} (calm : X.calm = true) (nd : X.N.Nodup) (hi : PI X tg iter wi) (ok : BlkOk X.N X.env.scope scope own)
    (hg : ∀ (s : Shared) (H : Hp) (C : Addr) (cl : List (Str × Addr)) (fp : List Addr), PG (X.blk s H scope (compEnvC scope cl C X.env) fp) tg g)
    (ht : ∀ (s : Shared) (H : Hp) (C : Addr) (cl : List (Str × Addr)) (fp : List Addr), PTs (X.blk s H scope (compEnvC scope cl C X.env) fp) ifs tt)
    (he : ∀ (s : Shared) (H : Hp) (C : Addr) (cl : List (Str × Addr)) (fp : List Addr), PE (X.blk s H scope (compEnvC scope cl C X.env) fp) ex te)
    (fold : ∀ x, foldedSetIterable iter X.env x = pure x := by intro _; rfl) : PE X (.SetComp ex [⟨tg, iter, ifs, 0⟩] scope pos) (tSc X.prog X.w wi g tt te (own.map (·.2))) := by
  refine ⟨fun pins s σ H Q I h => ?_⟩
  rw [arm_eval_SetComp]
  refine sc_core calm nd I hi ok hg ht he fold h fun D C s' m H' I' q hn f => ⟨m, hn, fun h2 sb => ?_⟩
  obtain ⟨f0, f1, f2, f3, f4, f5⟩ := f
  exact ⟨.ref D, H', I'.turned (t' := s'.toks) (fun b o hb e => (sb.2 b hb).trans e) f0 f1 f3 f4 f5, rfl, q⟩
/-- sorted(a set of texts) -/
def rSortSt (P : Program) (w : World) : List V → Hp → VK → Prop := fun vs H Q => ∃ a l, vs = [V.ref a] ∧ H a = some (StO P w a l) ∧ l.length < 64 ∧
  ∀ ys p, ys.Perm l → sortedS ys = true → H p = none → Q (.ref p) (upd H p (.lst (ys.map V.str)))
theorem cr_sortSt (calm : X.calm = true) : CallR X (.builtin "sorted") (rSortSt X.prog X.w) := by
  intro pins s σ H vs us Q I r h
  obtain ⟨a, l, rfl, ha, room, q⟩ := h
  rw [Vals.ref1 r]
  refine (stO_at I ha).sorted (I.ok.hd calm) room fun s' p out c ys k g o hp hg hs pm so => ?_
  have len : (ys.map V.str).length ≤ sizeLine := by rw [List.length_map, pm.length_eq, sizeLine_eq]; omega
  have np : H p = none := I.hok.fresh hp
  have J : Inv X pins σ (upd H p (.lst (ys.map V.str))) { s with heap := s'.heap, gens := s'.gens, drawn := s'.drawn, toks := s'.toks } :=
    I.call (ch := []) (Un.laid k hp np) (I.hok.laid k hp ⟨len, out.toList, c, vals_of_strs hs, hg⟩) (by rw [g]; exact I.bare) (fun _ z => nomatch z)
  have e : s' = { s with heap := s'.heap, gens := s'.gens, drawn := s'.drawn, toks := s'.toks } := by
    cases s'; cases s; cases o; rfl
  rw [e]
  exact ⟨.ref p, _, J, rfl, q ys p pm so np⟩
end
end L3

namespace L3
open PySem PySem.Spec PyProof.Rows L2
/-! ### a comprehension with two fors -/
/-- the inner walk, by what the outer turn left -/
def inS (vs1 : List Nat) (fi : SI) (g : SG) (tt : ST) (te : SE) : Env → Sto → R (List D) := fun ρ μ => (fi ρ μ).nox.bind fun it μ1 => lcS it.2 g tt te (wipeE ρ vs1) it.1 μ1
def lcS2 (gd : Sto → Bool) (g : SG) (tt : ST) (ti : Env → Sto → R (List D)) (ρ : Env) : List D → Sto → R (List D)
  | [], μ => if gd μ = true then .ok [] μ else .bad
  | d :: ds, μ => if gd μ = true then (match g d ρ μ with
    | some ρ1 => (tt ρ1 μ).nox.bind fun b μ1 => if b = true then (ti ρ1 μ1).nox.bind fun y μ2 => (lcS2 gd g tt ti ρ ds μ2).nox.bind fun ys μ3 => .ok (y ++ ys) μ3 else lcS2 gd g tt ti ρ ds μ1
    | none => .bad) else .bad
def eLc2 (vs vs1 : List Nat) (fi : SI) (g : SG) (tt : ST) (fi1 : SI) (g1 : SG) (tt1 : ST) (te : SE) : SE := fun ρ μ => (fi ρ μ).bind fun it μ1 =>
  (lcS2 it.2 g tt (inS vs1 fi1 g1 tt1 te) (wipeE ρ vs) it.1 μ1).nox.bind fun ys μ2 => if ys.length ≤ sizeLine then .ok (.lst ys) μ2 else .bad
section
variable {P : Pm} {W : WX} {X : Cx} {elt tg iter tg1 iter1 : Expr} {ifs ifs1 : List Expr} {scope : Scope} {own : List (Str × Nat)} {pos : Pos} {fi fi1 : SI} {sl sl1 vs1 : List Nat} {g g1 : SG} {tt tt1 : ST} {te : SE}
theorem lcS2_nox {gd : Sto → Bool} {ti : Env → Sto → R (List D)} {ρ : Env} {c : Str} {ns : List Str} {vs : List D} {μ' : Sto} : ∀ {ds : List D} {μ : Sto}, lcS2 gd g tt ti ρ ds μ ≠ .exc c ns vs μ'
  | [], μ, h => by
    unfold lcS2 at h
    split at h <;> cases h
  | d :: ds, μ, h => by
    unfold lcS2 at h
    split at h
    · split at h
      · rename_i ρ1 _
        cases e1 : tt ρ1 μ with
        | exc _ _ _ _ => rw [e1] at h; cases h
        | bad => rw [e1] at h; cases h
        | ok b μ1 =>
          rw [e1] at h
          have h : (if b = true then (ti ρ1 μ1).nox.bind fun y μ2 => (lcS2 gd g tt ti ρ ds μ2).nox.bind fun ys μ3 => .ok (y ++ ys) μ3 else lcS2 gd g tt ti ρ ds μ1) = R.exc c ns vs μ' := h
          split at h
          · cases e2 : ti ρ1 μ1 with
            | exc _ _ _ _ => rw [e2] at h; cases h
            | bad => rw [e2] at h; cases h
            | ok y μ2 =>
              rw [e2] at h
              have h : ((lcS2 gd g tt ti ρ ds μ2).nox.bind fun ys μ3 => R.ok (y ++ ys) μ3) = R.exc c ns vs μ' := h
              cases e3 : lcS2 gd g tt ti ρ ds μ2 with
              | exc _ _ _ _ => rw [e3] at h; cases h
              | bad => rw [e3] at h; cases h
              | ok ys μ3 => rw [e3] at h; cases h
          · exact lcS2_nox h
      · cases h
    · cases h
/-- what stands between two turns: the list so far, what is left gives ys and ends in μf -/
structure LcMid (P : Pm) (L1 : Lv) (H1 : Hp) (p : Addr) (σ0 : Slots) (ρ0 : Env) (total : List D) (H : Hp) (c : List Addr) (accD ys : List D) (μ : Sto) : Prop where
  rs : RelS P H ⟨c, p :: L1.x⟩ σ0 ρ0
  st : St3 P H ⟨c, p :: L1.x⟩ μ
  at_ : ∃ acc, H p = some (.lst acc) ∧ Reps P H ⟨c, p :: L1.x⟩ acc accD
  x : Ext0 L1 H1 ⟨c, p :: L1.x⟩ H
  prv : ∀ a ∈ L1.x, H a = H1 a
  sum : accD ++ ys = total
theorem LcMid.go {L1 : Lv} {H1 H H2 : Hp} {p : Addr} {σ0 σ1 : Slots} {ρ0 ρ1 : Env} {total accD ys : List D} {c : List Addr} {μ μ1 : Sto} {L2 : Lv} (m : LcMid P L1 H1 p σ0 ρ0 total H c accD ys μ) (x : Ext P ⟨c, p :: L1.x⟩ H L2 H2) (s : St3 P H2 L2 μ1) (r : RelS P H2 L2 σ1 ρ1) : ∃ c2, L2 = ⟨c2, p :: L1.x⟩ ∧ LcMid P L1 H1 p σ1 ρ1 total H2 c2 accD ys μ1 := by
  obtain ⟨c2, xx⟩ := L2
  have e : xx = p :: L1.x := x.px
  subst e
  obtain ⟨acc, h1, h2⟩ := m.at_
  exact ⟨c2, rfl, r, s, ⟨acc, (x.prv p List.mem_cons_self).trans h1, h2.ext x⟩, m.x.trans x.toExt0, fun a h => (x.prv a (List.mem_cons_of_mem _ h)).trans (m.prv a h), m.sum⟩
theorem LcMid.put {L1 : Lv} {H1 H : Hp} {p : Addr} {σ0 : Slots} {ρ0 : Env} {total accD zs : List D} {d : D} {v : V} {c : List Addr} {μ : Sto} (np : p ∉ L1.x) (m : LcMid P L1 H1 p σ0 ρ0 total H c accD (d :: zs) μ) (rv : Rep P H ⟨c, p :: L1.x⟩ v d) :
    ∃ acc, H p = some (.lst acc) ∧ acc.length = accD.length ∧ Ext0 ⟨c, p :: L1.x⟩ H ⟨c, p :: L1.x⟩ (upd H p (.lst (acc ++ [v]))) ∧ LcMid P L1 H1 p σ0 ρ0 total (upd H p (.lst (acc ++ [v]))) c (accD ++ [d]) zs μ := by
  obtain ⟨acc, h1, h2⟩ := m.at_
  obtain ⟨s9, x9⟩ := prv_put (acc' := acc ++ [v]) m.st (p := p) List.mem_cons_self h1
  refine ⟨acc, h1, h2.length, x9, m.rs.ext0 x9, s9, ⟨_, upd_same, (h2.append (.cons rv .nil)).ext0 x9⟩, m.x.trans x9, fun a h => ?_, by rw [List.append_assoc]; exact m.sum⟩
  have ne : a ≠ p := fun z => by subst z; exact np h
  rw [upd_ne ne]
  exact m.prv a h
theorem tLc2_of {vs : List Nat} {σ : L2.St} {H : Hp} {Q : VK} {L : Lv} {ρ : Env} {μ : Sto} (hsl : ∀ i ∈ sl, i ∈ vs) (hsl1 : ∀ i ∈ sl1, i ∈ vs1) (rs : RelS P H L σ ρ) (st : St3 P H L μ)
    (q : Post P (WE W σ) L H (fun d L' H' => ∀ v, Rep P H' L' v d → Q v H') (eLc2 vs vs1 fi g tt fi1 g1 tt1 te ρ μ)) :
    tLc2 (tVI P W fi) (tVG P sl g) (tVT P W0 tt) (tVI P W0 fi1) (tVG P sl1 g1) (tVT P W0 tt1) (tV P W0 te) vs vs1 σ H Q := by
  refine ⟨L, ρ, μ, rs, st, ?_⟩
  unfold eLc2 at q
  cases e : fi ρ μ with
  | exc c ns vs μ1 => rw [e] at q; exact q
  | bad => rw [e] at q; exact q
  | ok it μ1 =>
    rw [e] at q
    intro L1 H1 x1 s1 J gv p hp
    have q1 := Post.ext x1 q
    have q1 : Post P (WE W σ) L1 H1 (fun d L' H' => ∀ v, Rep P H' L' v d → Q v H') ((lcS2 it.2 g tt (inS vs1 fi1 g1 tt1 te) (wipeE ρ vs) it.1 μ1).nox.bind fun ys μ2 => if ys.length ≤ sizeLine then .ok (.lst ys) μ2 else .bad) := q1
    cases et : lcS2 it.2 g tt (inS vs1 fi1 g1 tt1 te) (wipeE ρ vs) it.1 μ1 with
    | exc _ _ _ _ => exact absurd et lcS2_nox
    | bad => rw [et] at q1; exact q1.elim
    | ok total μf =>
      rw [et] at q1
      have q1 : Post P (WE W σ) L1 H1 (fun d L' H' => ∀ v, Rep P H' L' v d → Q v H') (if total.length ≤ sizeLine then .ok (.lst total) μf else .bad) := q1
      by_cases hz : total.length ≤ sizeLine
      case neg => rw [if_neg hz] at q1; exact q1.elim
      rw [if_pos hz] at q1
      obtain ⟨s2, x2⟩ := prv_new s1 hp
      have np : p ∉ L1.x := fun z => s1.new_not hp (.inr z)
      have lt_of : ∀ {accD zs : List D} {d : D}, accD ++ d :: zs = total → accD.length < sizeLine := by
        intro accD zs d e
        have := congrArg List.length e
        rw [List.length_append, List.length_cons] at this
        omega
      refine ⟨fun i m H => ∃ (c : List Addr) (accD ys : List D) (μ : Sto), LcMid P L1 H1 p (wipe σ vs) (wipeE ρ vs) total H c accD ys μ ∧ Gives P J it.1 it.2 ⟨c, p :: L1.x⟩ H ∧ lcS2 it.2 g tt (inS vs1 fi1 g1 tt1 te) (wipeE ρ vs) (it.1.drop i) μ = .ok ys μf ∧ m = it.1.length - i,
        ⟨_, L1.c, [], total, μ1, ⟨(rs.ext x1).ext0 x2 |>.wipe vs, s2, ⟨[], upd_same, .nil⟩, x2, fun a h => upd_ne (fun z => by subst z; exact np h), rfl⟩, gv.ext x2, et, rfl⟩, ?_⟩
      rintro i m H3 ⟨c, accD, ys, μ3, m3, gv3, el3, rfl⟩
      cases e2 : it.1[i]? with
      | none =>
        rw [drop_none e2] at el3
        unfold lcS2 at el3
        by_cases cg : it.2 μ3 = true
        · rw [if_pos cg] at el3
          cases el3
          have es := m3.sum
          rw [List.append_nil] at es
          subst es
          obtain ⟨acc, h1, h2⟩ := m3.at_
          obtain ⟨a1, a2, a3⟩ := LcEnd.pure (P := P) ⟨hp, np, m3.x, m3.prv, m3.st, h1, h2⟩
          exact .inl ⟨(gv3 _ _ _ i .refl m3.st cg).2 e2, q1 _ _ a1 a2 _ a3⟩
        · rw [if_neg cg] at el3; cases el3
      | some d =>
        rw [drop_some e2] at el3
        unfold lcS2 at el3
        by_cases cg : it.2 μ3 = true
        case neg => rw [if_neg cg] at el3; cases el3
        rw [if_pos cg] at el3
        obtain ⟨hgo, hy⟩ := (gv3 _ _ _ i .refl m3.st cg).1 d e2
        have hlt : i < it.1.length := (List.getElem?_eq_some_iff.mp e2).1
        refine .inr ⟨hgo, fun H => ∃ (c : List Addr) (accD ys : List D) (μ : Sto), LcMid P L1 H1 p (wipe σ vs) (wipeE ρ vs) total H c accD ys μ ∧ Gives P J it.1 it.2 ⟨c, p :: L1.x⟩ H ∧ lcS2 it.2 g tt (inS vs1 fi1 g1 tt1 te) (wipeE ρ vs) (it.1.drop (i + 1)) μ = .ok ys μf,
          fun H' ⟨c, accD, ys, μ, a1, a2, a3⟩ => ⟨it.1.length - (i + 1), by omega, c, accD, ys, μ, a1, a2, a3, rfl⟩, fun x H4 y4 => ?_⟩
        obtain ⟨gr, rx⟩ := hy x H4 y4
        have x4 : Ext P ⟨c, p :: L1.x⟩ H3 ⟨c, p :: L1.x⟩ H4 := Ext.grow m3.st gr
        cases e3 : g d (wipeE ρ vs) μ3 with
        | none => rw [e3] at el3; cases el3
        | some ρ5 =>
          rw [e3] at el3
          dsimp only at el3
          refine ⟨⟨c, p :: L1.x⟩, wipeE ρ vs, μ3, d, ρ5, m3.rs.ext x4, m3.st.grow gr, rx, e3, fun σ5 rs5 w5 => ⟨by rw [w5 vs hsl, wipe_wipe], ?_⟩⟩
          refine ⟨⟨c, p :: L1.x⟩, ρ5, μ3, rs5, m3.st.grow gr, ?_⟩
          cases e6 : tt ρ5 μ3 with
          | exc _ _ _ _ => rw [e6] at el3; cases el3
          | bad => rw [e6] at el3; cases el3
          | ok b μ6 =>
            rw [e6] at el3
            have el3 : (if b = true then (inS vs1 fi1 g1 tt1 te ρ5 μ6).nox.bind fun y μ2 => (lcS2 it.2 g tt (inS vs1 fi1 g1 tt1 te) (wipeE ρ vs) (it.1.drop (i + 1)) μ2).nox.bind fun ys μ3 => R.ok (y ++ ys) μ3
              else lcS2 it.2 g tt (inS vs1 fi1 g1 tt1 te) (wipeE ρ vs) (it.1.drop (i + 1)) μ6) = .ok ys μf := el3
            intro L6 H6 x6 s6
            have x36 := x4.trans x6
            obtain ⟨c6, el, m6⟩ := m3.go x36 s6 (m3.rs.ext x36)
            subst el
            have gv6 := gv3.ext x36.toExt0
            dsimp only
            cases b with
            | false =>
              rw [if_neg Bool.false_ne_true] at el3 ⊢
              exact ⟨c6, accD, ys, μ6, m6, gv6, el3⟩
            | true =>
              rw [if_pos rfl] at el3 ⊢
              have rs6 := rs5.ext x6
              refine ⟨⟨c6, p :: L1.x⟩, ρ5, μ6, rs6, s6, ?_⟩
              unfold inS at el3
              cases e7 : fi1 ρ5 μ6 with
              | exc _ _ _ _ => rw [e7] at el3; cases el3
              | bad => rw [e7] at el3; cases el3
              | ok it1 μ7 =>
                rw [e7] at el3
                have el3 : (lcS it1.2 g1 tt1 te (wipeE ρ5 vs1) it1.1 μ7).nox.bind (fun y μ2 => (lcS2 it.2 g tt (inS vs1 fi1 g1 tt1 te) (wipeE ρ vs) (it.1.drop (i + 1)) μ2).nox.bind fun ys μ3 => R.ok (y ++ ys) μ3) = .ok ys μf := el3
                cases e8 : lcS it1.2 g1 tt1 te (wipeE ρ5 vs1) it1.1 μ7 with
                | exc _ _ _ _ => exact absurd e8 lcS_nox
                | bad => rw [e8] at el3; cases el3
                | ok ysI μ8 =>
                  rw [e8] at el3
                  have el3 : (lcS2 it.2 g tt (inS vs1 fi1 g1 tt1 te) (wipeE ρ vs) (it.1.drop (i + 1)) μ8).nox.bind (fun ys μ3 => R.ok (ysI ++ ys) μ3) = .ok ys μf := el3
                  cases e9 : lcS2 it.2 g tt (inS vs1 fi1 g1 tt1 te) (wipeE ρ vs) (it.1.drop (i + 1)) μ8 with
                  | exc _ _ _ _ => exact absurd e9 lcS2_nox
                  | bad => rw [e9] at el3; cases el3
                  | ok ysO μ9 =>
                    rw [e9] at el3
                    cases el3
                    intro L7 H7 x7 s7 J1 gi
                    obtain ⟨c7, el, m7⟩ := m6.go x7 s7 (m6.rs.ext x7)
                    subst el
                    have gv7 := gv6.ext x7.toExt0
                    have rs7 := (rs6.ext x7).wipe vs1
                    refine ⟨fun j k H => ∃ (c : List Addr) (accD zs : List D) (μ : Sto), LcMid P L1 H1 p (wipe σ vs) (wipeE ρ vs) total H c accD (zs ++ ysO) μ ∧ RelS P H ⟨c, p :: L1.x⟩ (wipe σ5 vs1) (wipeE ρ5 vs1) ∧ Gives P J it.1 it.2 ⟨c, p :: L1.x⟩ H ∧ Gives P J1 it1.1 it1.2 ⟨c, p :: L1.x⟩ H ∧
                        lcS it1.2 g1 tt1 te (wipeE ρ5 vs1) (it1.1.drop j) μ = .ok zs μ8 ∧ k = it1.1.length - j, ⟨_, c7, accD, ysI, μ7, m7, rs7, gv7, gi, e8, rfl⟩, ?_⟩
                    rintro j k H8 ⟨c8, accI, zs, μ10, m8, r8, gvo, gvi, el8, rfl⟩
                    cases e10 : it1.1[j]? with
                    | none =>
                      rw [drop_none e10] at el8
                      unfold lcS at el8
                      by_cases cg1 : it1.2 μ10 = true
                      · rw [if_pos cg1] at el8
                        cases el8
                        exact .inl ⟨(gvi _ _ _ j .refl m8.st cg1).2 e10, c8, accI, ysO, _, m8, gvo, e9⟩
                      · rw [if_neg cg1] at el8; cases el8
                    | some d1 =>
                      rw [drop_some e10] at el8
                      unfold lcS at el8
                      by_cases cg1 : it1.2 μ10 = true
                      case neg => rw [if_neg cg1] at el8; cases el8
                      rw [if_pos cg1] at el8
                      obtain ⟨hgo1, hy1⟩ := (gvi _ _ _ j .refl m8.st cg1).1 d1 e10
                      have hlt1 : j < it1.1.length := (List.getElem?_eq_some_iff.mp e10).1
                      refine .inr ⟨hgo1, fun H => ∃ (c : List Addr) (accD zs : List D) (μ : Sto), LcMid P L1 H1 p (wipe σ vs) (wipeE ρ vs) total H c accD (zs ++ ysO) μ ∧ RelS P H ⟨c, p :: L1.x⟩ (wipe σ5 vs1) (wipeE ρ5 vs1) ∧ Gives P J it.1 it.2 ⟨c, p :: L1.x⟩ H ∧ Gives P J1 it1.1 it1.2 ⟨c, p :: L1.x⟩ H ∧
                          lcS it1.2 g1 tt1 te (wipeE ρ5 vs1) (it1.1.drop (j + 1)) μ = .ok zs μ8, fun H' ⟨c, accD, zs, μ, a1, a2, a3, a4, a5⟩ => ⟨it1.1.length - (j + 1), by omega, c, accD, zs, μ, a1, a2, a3, a4, a5, rfl⟩, fun z H9 y9 => ?_⟩
                      obtain ⟨gr1, rx1⟩ := hy1 z H9 y9
                      have x9 : Ext P ⟨c8, p :: L1.x⟩ H8 ⟨c8, p :: L1.x⟩ H9 := Ext.grow m8.st gr1
                      cases e11 : g1 d1 (wipeE ρ5 vs1) μ10 with
                      | none => rw [e11] at el8; cases el8
                      | some ρ11 =>
                        rw [e11] at el8
                        dsimp only at el8
                        refine ⟨⟨c8, p :: L1.x⟩, wipeE ρ5 vs1, μ10, d1, ρ11, r8.ext x9, m8.st.grow gr1, rx1, e11, fun σ11 rs11 w11 => ⟨by rw [w11 vs1 hsl1, wipe_wipe], ?_⟩⟩
                        refine ⟨⟨c8, p :: L1.x⟩, ρ11, μ10, rs11, m8.st.grow gr1, ?_⟩
                        cases e12 : tt1 ρ11 μ10 with
                        | exc _ _ _ _ => rw [e12] at el8; cases el8
                        | bad => rw [e12] at el8; cases el8
                        | ok b1 μ12 =>
                          rw [e12] at el8
                          have el8 : (if b1 = true then (te ρ11 μ12).nox.bind fun y μ2 => (lcS it1.2 g1 tt1 te (wipeE ρ5 vs1) (it1.1.drop (j + 1)) μ2).nox.bind fun ys μ3 => R.ok (y :: ys) μ3 else lcS it1.2 g1 tt1 te (wipeE ρ5 vs1) (it1.1.drop (j + 1)) μ12) = .ok zs μ8 := el8
                          intro L12 H12 x12 s12
                          have x812 := x9.trans x12
                          obtain ⟨c12, el, m12⟩ := m8.go x812 s12 (m8.rs.ext x812)
                          subst el
                          dsimp only
                          cases b1 with
                          | false =>
                            rw [if_neg Bool.false_ne_true] at el8 ⊢
                            exact ⟨c12, accI, zs, μ12, m12, r8.ext x812, gvo.ext x812.toExt0, gvi.ext x812.toExt0, el8⟩
                          | true =>
                            rw [if_pos rfl] at el8 ⊢
                            refine ⟨⟨c12, p :: L1.x⟩, ρ11, μ12, rs11.ext x12, s12, ?_⟩
                            cases e13 : te ρ11 μ12 with
                            | exc _ _ _ _ => rw [e13] at el8; cases el8
                            | bad => rw [e13] at el8; cases el8
                            | ok yd μ13 =>
                              rw [e13] at el8
                              have el8 : ((lcS it1.2 g1 tt1 te (wipeE ρ5 vs1) (it1.1.drop (j + 1)) μ13).nox.bind fun ys μ3 => R.ok (yd :: ys) μ3) = .ok zs μ8 := el8
                              cases e14 : lcS it1.2 g1 tt1 te (wipeE ρ5 vs1) (it1.1.drop (j + 1)) μ13 with
                              | exc _ _ _ _ => exact absurd e14 lcS_nox
                              | bad => rw [e14] at el8; cases el8
                              | ok zs2 μ14 =>
                                rw [e14] at el8
                                cases el8
                                intro L13 H13 x13 s13 v rv
                                obtain ⟨c13, el, m13⟩ := m12.go x13 s13 (m12.rs.ext x13)
                                subst el
                                have x813 := x812.trans x13
                                obtain ⟨acc, h1, h2, xp, m14⟩ := LcMid.put (zs := zs2 ++ ysO) np m13 rv
                                exact ⟨acc, h1, by rw [h2]; exact lt_of m13.sum, c13, _, zs2, μ13, m14, (r8.ext x813).ext0 xp, (gvo.ext x813.toExt0).ext xp, (gvi.ext x813.toExt0).ext xp, e14⟩
theorem ve_lc2 (hc : X.calm = true) (hN : X.N.Nodup) (hi : VI P W X tg iter fi) (ok : BlkOk X.N X.env.scope scope own)
    (hg : ∀ (s : Shared) (H : Hp) (C : Addr) (cl : List (Str × Addr)) (fp : List Addr), VG P (X.blk s H scope (compEnvC scope cl C X.env) fp) tg sl g)
    (ht : ∀ (s : Shared) (H : Hp) (C : Addr) (cl : List (Str × Addr)) (fp : List Addr), PTs (X.blk s H scope (compEnvC scope cl C X.env) fp) ifs (tVT P W0 tt))
    (hi1 : ∀ (s : Shared) (H : Hp) (C : Addr) (cl : List (Str × Addr)) (fp : List Addr), VI P W0 (X.blk s H scope (compEnvC scope cl C X.env) fp) tg1 iter1 fi1)
    (hg1 : ∀ (s : Shared) (H : Hp) (C : Addr) (cl : List (Str × Addr)) (fp : List Addr), VG P (X.blk s H scope (compEnvC scope cl C X.env) fp) tg1 sl1 g1)
    (ht1 : ∀ (s : Shared) (H : Hp) (C : Addr) (cl : List (Str × Addr)) (fp : List Addr), PTs (X.blk s H scope (compEnvC scope cl C X.env) fp) ifs1 (tVT P W0 tt1))
    (he : ∀ (s : Shared) (H : Hp) (C : Addr) (cl : List (Str × Addr)) (fp : List Addr), VE P W0 (X.blk s H scope (compEnvC scope cl C X.env) fp) elt te)
    (hv : ∀ i ∈ vs1, i ∈ own.map (·.2) := by decide) (hsl : ∀ i ∈ sl, i ∈ own.map (·.2) := by decide) (hsl1 : ∀ i ∈ sl1, i ∈ vs1 := by decide) (hs : ∀ x, foldedSetIterable iter X.env x = pure x := by intro _; rfl) (hs1 : ∀ env x, foldedSetIterable iter1 env x = pure x := by intro _ _; rfl) :
    VE P W X (.ListComp elt [⟨tg, iter, ifs, 0⟩, ⟨tg1, iter1, ifs1, 0⟩] scope pos) (eLc2 (own.map (·.2)) vs1 fi g tt fi1 g1 tt1 te) :=
  (pe_lc2 hc hN hi ok hv hg ht hi1 hg1 ht1 he hs hs1).imp3 fun σ H Q ⟨L, ρ, μ, rs, st, q⟩ => tLc2_of hsl hsl1 rs st q
end
end L3

namespace L3
open PySem PySem.Spec PyProof.Rows L2 PySem.Froz
/-! ### set(a list of texts) -/
theorem insF_len (xs : List Str) : ∀ l : List Str, (xs.foldl insT l).length ≤ l.length + xs.length := by
  induction xs with
  | nil => intro l; exact Nat.le_refl _
  | cons x xs ih =>
    intro l
    have h1 := ih (insT l x)
    have h2 := insT_len l x
    rw [List.foldl_cons, List.length_cons]
    omega
theorem insF_mem (xs : List Str) : ∀ (l : List Str) (z : Str), z ∈ xs.foldl insT l ↔ z ∈ l ∨ z ∈ xs := by
  induction xs with
  | nil => intro l z; simp
  | cons x xs ih =>
    intro l z
    rw [List.foldl_cons, ih, insT_mem, List.mem_cons]
    constructor
    · rintro ((h | h) | h)
      · exact .inr (.inl h)
      · exact .inl h
      · exact .inr (.inr h)
    · rintro (h | h | h)
      · exact .inl (.inr h)
      · exact .inl (.inl h)
      · exact .inr h
theorem insF_nd (xs : List Str) : ∀ (l : List Str), l.Nodup → (xs.foldl insT l).Nodup := by
  induction xs with
  | nil => intro l h; exact h
  | cons x xs ih =>
    intro l h
    rw [List.foldl_cons]
    refine ih _ ?_
    unfold insT
    split
    · exact h
    · rename_i c; exact List.nodup_cons.mpr ⟨c, h⟩
abbrev set0 (w : World) : Obj := { cls := .type "set", dict := none, data := .set #[] 0 (.fresh 0 0 (!w.params.followText "set-order")) }
section
variable {P : Program} {w : World} {A : Around} {E : Value → Shared → Prop} {s : Shared}
theorem StR.upd {I : Addr} {fp wr : List Addr} {G : Array GenState → Array GenState → Prop} {n : Nat} {Pv : Nat → Value → Prop} {St : Nat → Shared → Prop} {R : Result → Shared → Prop} (W : WalksS P w A.in1 I fp wr G n Pv St) (S : Addr) (hS : S ∉ fp)
    (xs : List Str) (hn : n = xs.length) (hv : ∀ i v, Pv i v → ∃ z u, xs[i]? = some z ∧ v = Value.str z u) (room : xs.length + 1 < scanBound) : ∀ (k i : Nat) (s : Shared), n - i = k → i ≤ n → St i s → StR P w s.heap S ((xs.take i).foldl insT []) →
      (∀ s', Moved (S :: wr) G s s' → StR P w s'.heap S (xs.foldl insT []) → R (.ok (.ret .none)) s') → codeAny (model P w) A (.builtin "set.update.loop" ⟨[.ref S, .ref I], []⟩) R s := by
  have nw : S ∉ wr := fun h => hS (W.sub _ h)
  have sub : ∀ b ∈ wr, b ∈ S :: wr := fun b hb => List.mem_cons_of_mem _ hb
  intro k
  induction k with
  | zero =>
    intro i s e1 e2 st r q
    obtain rfl : i = n := by omega
    refine codeAny_builtin F.entry_set_update_loop ?_
    rw [Around.under_plainId F.plain_set_update_loop _]
    show wpAny _ A.in1 (pyNext (.ref I) >>= _) _ _ s
    refine wpAny_bind (W.done s _ _ st fun s' m => ?_)
    show wpAny _ A.in1 (ret Value.none) _ _ s'
    rw [hn, List.take_length] at r
    exact wpAny_pure (q s' (m.mono sub) (r.keep fun o e => m.heap S o nw e))
  | succ k ih =>
    intro i s e1 e2 st r q
    have lt : i < n := by omega
    refine codeAny_builtin F.entry_set_update_loop ?_
    rw [Around.under_plainId F.plain_set_update_loop _]
    show wpAny _ A.in1 (pyNext (.ref I) >>= _) _ _ s
    refine wpAny_bind (W.item i s _ _ lt st fun v s' pv st' m => ?_)
    obtain ⟨z, u, hz, rfl⟩ := hv i v pv
    have r' : StR P w s'.heap S ((xs.take i).foldl insT []) := r.keep fun o e => m.heap S o nw e
    have len := insF_len (xs.take i) []
    rw [List.length_take] at len
    show wpAny _ A.in1 (holding [Value.str z u] (setAdd S (.str z u)) >>= _) _ _ s'
    refine wpAny_bind (wpAny_holding (StR.add1 (k := z) r' (by simp at len; omega) fun h' b sb r2 => ?_))
    have e3 : insT ((xs.take i).foldl insT []) z = (xs.take (i + 1)).foldl insT [] := by
      have hi : i < xs.length := by omega
      rw [List.take_succ, hz, List.foldl_append]
      rfl
    rw [e3] at r2
    refine wpAny_pure ⟨plainId_quiet F.plain_set_update_loop _, ih (i + 1) _ (by omega) lt (W.frame _ s' _ _ st' (Nat.le_succ _) fun b hb o e => ?_) r2 fun s2 m2 rr => ?_⟩
    · rw [sb.2 b (fun h : b = S => hS (by rw [← h]; exact hb))]; exact e
    · refine q s2 (Moved.trans W.gtrans ((m.mono sub).then_heap (Nat.le_succ _) fun b o hb e => ?_) m2) rr
      rw [sb.2 b (fun h : b = S => hb (by rw [h]; exact List.mem_cons_self))]; exact e
theorem call_setStrs {l : Addr} {items : Array Value} {xs : List Str} {Q : Value → Shared → Prop} (hh : A.handled = none) (hl : s.heap.IsList l items) (hit : StrsAre items.toList xs) (room : xs.length + 1 < scanBound)
    (q : ∀ (h' : Heap) (tk : Nat), StR P w h' s.heap.objs.size (xs.foldl insT []) → (∀ b o, s.heap.get? b = some o → h'.get? b = some o) → Q (.ref s.heap.objs.size) { s with heap := h', toks := tk }) :
    wpAny (model P w) A (call (.type "set") [.ref l]) Q E s := by
  have len : items.size = xs.length := by rw [← Array.length_toList]; exact hit.length
  obtain ⟨c, tl, hmro⟩ := F.called_set.mro
  have hmade := F.called_set.made
  have hsub := F.called_set.sub
  refine wpAny_call (codeAny_of_tree ?_)
  show wpAny _ _ (callAny (.type "set") _) _ _ _
  refine wpAny_pure ⟨Code.quiet_builtin _ (by decide +kernel), codeAny_builtin F.entry_type_call ?_⟩
  rw [Around.under_plain (weight_type_call_type "set" [.ref l] []) rfl]
  have h1 := F.called_set.notType
  have h2 := F.called_set.canCreate
  have hct := F.typeCall_set_1 (.ref l)
  repeat (any_goals (first | assumption | wp_step))
  refine codeAny_mono (code_set_led1 (.ref l) (E := E) (Q₁ := fun obj s1 => obj = .ref s.heap.objs.size ∧ s1 = { s with heap := s.heap.push (set0 w) }) ⟨rfl, rfl⟩) fun r s1 hr => ?_
  cases r with
  | error e => exact hr
  | ok fl =>
    cases fl with
    | ret obj =>
      obtain ⟨rfl, rfl⟩ := hr
      have gS : (s.heap.push (set0 w)).get? s.heap.objs.size = some (set0 w) := Heap.get?_push_size _ rfl
      have hT : Shared.TypeIs { s with heap := s.heap.push (set0 w) } (.ref s.heap.objs.size) "set" := ⟨_, gS, rfl⟩
      have hli := F.called_set.init.lookup
      have hbi := F.called_set.init.bind (.ref s.heap.objs.size)
      repeat (any_goals (first | assumption | wp_step))
      refine codeAny_mono (codeAny_call_builtin (R := wants (fun r s2 => r = .none ∧ ∃ h' tk, s2 = { s with heap := h', toks := tk } ∧ StR P w h' s.heap.objs.size (xs.foldl insT []) ∧
          (∀ b o, s.heap.get? b = some o → h'.get? b = some o)) E) F.called_set.init.plain F.entry_set_init (check_set_init_1 hT ?_)) fun r2 s2 hr2 => ?_
      · obtain ⟨ol, hol, hcl, nl, hdl⟩ := hl
        obtain ⟨ocls, odict, odata, oslots⟩ := ol
        simp only at hcl hdl
        subst hcl; subst hdl
        have gl : (s.heap.push (set0 w)).get? l = some { cls := .type "list", dict := odict, data := .seq items nl, slots := oslots } := Heap.get?_push_of_some _ hol
        have hsls := F.sub_list_set
        have hslf := F.sub_list_frozenset
        have hne : (Value.type "list" == Value.type "dict") = false := by decide
        have hl1 : (s.heap.push (set0 w)).IsList l items := ⟨_, gl, rfl, nl, rfl⟩
        unfold Builtin.«set.__init__» noKeywords Builtin.Frozenset.updateFrom
        generalize hPI : pyIter = PI
        wp_walk
        subst hPI
        refine wpAny_pyIter_list hl1 (wpAny_bind (wpAny_runValue ?_))
        have lS : l < s.heap.objs.size := Heap.lt_size hol
        have hh3 : A.in1.in1.in1.handled = none := by simp [hh]
        have nI : l ≠ (s.heap.push (set0 w)).objs.size := by
          rw [Heap.size_push]; exact Nat.ne_of_lt (Nat.lt_succ_of_lt lS)
        have nf : s.heap.objs.size ∉ [(s.heap.push (set0 w)).objs.size, l] := by
          rw [Heap.size_push]; simp only [List.mem_cons, List.not_mem_nil, or_false, not_or]
          exact ⟨Nat.ne_of_lt (Nat.lt_succ_self _), Nat.ne_of_gt lS⟩
        have none_of : ∀ b, s.heap.objs.size ≤ b → s.heap.get? b = none := fun b hb => by
          cases z : s.heap.get? b with
          | none => rfl
          | some o => exact absurd (Nat.lt_of_lt_of_le (Heap.lt_size z) hb) (Nat.lt_irrefl _)
        refine StR.upd ((Walks.list hh3 _ l nI items).toS) s.heap.objs.size nf xs len (fun i v e => ?_) room (items.size - 0) 0 _ (by omega) (Nat.zero_le _) ⟨⟨_, Heap.get?_push_size _ rfl, rfl, rfl⟩, hl1.push _⟩ ?_ ?_
        · have e1 : items.toList[i]? = some v := by rw [Array.getElem?_toList]; exact e
          obtain ⟨z, u, e2, e3⟩ := hit.item i v e1
          exact ⟨z, u, e3, e2⟩
        · exact StR.new (Heap.get?_push_of_some _ gS)
        · intro s' m r
          obtain ⟨h', g2, d', tk', os'⟩ := s'
          have eg : g2 = s.gens := m.gens
          have ed : d' = s.drawn := m.drawn
          have eo : os' = s.os := m.os
          subst eg ed eo
          show wpAny _ _ _ _ _ _
          refine wpAny_pure ?_
          show wpAny _ _ (ret Value.none) _ _ _
          refine wpAny_pure ⟨rfl, h', tk', rfl, r, fun b o e => m.heap b o (fun z => ?_) (Heap.get?_push_of_some _ (Heap.get?_push_of_some _ e))⟩
          have lb := Heap.lt_size e
          rcases List.mem_cons.mp z with z | z
          · exact absurd lb (by rw [z]; exact Nat.lt_irrefl _)
          · exact absurd lb (by rw [List.mem_singleton.mp z, Heap.size_push]; exact Nat.not_lt_of_le (Nat.le_succ _))
      · cases r2 with
        | error e => exact hr2
        | ok fl2 =>
          cases fl2 with
          | ret r =>
            obtain ⟨rfl, h', tk, rfl, hS, k⟩ := hr2
            repeat (any_goals (first | assumption | wp_step))
            exact q _ _ hS k
          | _ => exact hr2.elim
    | _ => exact hr.elim
end
section
variable {X : Cx}
def rSetStrs (K : PySem.W.Frag) (P : Program) (w : World) : List V → Hp → VK → Prop := fun vs H Q => ∃ (l : Addr) (xs : List Str), vs = [V.ref l] ∧ SqL K H l (xs.map V.str) ∧ xs.length + 1 < scanBound ∧ ∀ a, H a = none → Q (.ref a) (upd H a (StO P w a (xs.foldl insT [])))
theorem cr_setStrs (calm : X.calm = true) : CallR X (.type "set") (rSetStrs X.K X.prog X.w) := by
  intro pins s σ H vs us Q I r h
  obtain ⟨l, xs, rfl, hl, room, q⟩ := h
  rw [Vals.ref1 r]
  obtain ⟨its, rv, pl, hz⟩ := I.list hl
  have hn : H s.heap.objs.size = none := I.hok.fresh (Nat.le_refl _)
  refine call_setStrs (I.ok.hd calm) pl.isList rv.strs room fun h' tk R k => ?_
  exact ⟨.ref s.heap.objs.size, _, I.laid (t' := tk) k (Nat.le_refl _) (stO_ok R), rfl, q _ hn⟩
theorem sql_upd {K : PySem.W.Frag} {H : Hp} {l D : Addr} {vs : List V} {o : HO} (h : SqL K H l vs) (n : H D = none) : SqL K (upd H D o) l vs := by
  rcases h with h | h
  · refine .inl ?_
    rcases h with h | ⟨o1, h⟩
    · exact .inl (by rw [upd_ne (fun z => by rw [z, n] at h; cases h)]; exact h)
    · exact .inr ⟨o1, by rw [upd_ne (fun z => by rw [z, n] at h; cases h)]; exact h⟩
  · exact .inr h
/-- {x for x in xs}, xs a list of texts: the reading -/
theorem tSc_id {K : PySem.W.Frag} {P : Program} {w : World} {l : Addr} {xs : List Str} {i : Nat} {σ : L2.St} {H1 : Hp} {Q : VK} (hi : i < σ.length) (hl : SqL K H1 l (xs.map V.str)) (room : xs.length + 1 < scanBound)
    (q : ∀ D, H1 D = none → Q (.ref D) (upd H1 D (StO P w D (xs.foldl insT [])))) : ∀ D, H1 D = none → ∃ W : Nat → Nat → Hp → Prop, (∃ m, W 0 m (upd H1 D (StO P w D []))) ∧ ∀ j m H, W j m H → ((Itl K l).stop j H ∧ Q (.ref D) H) ∨
    ((Itl K l).go j H ∧ ∃ Nx : Hp → Prop, (∀ H', Nx H' → ∃ m', m' < m ∧ W (j + 1) m' H') ∧ ∀ x H', (Itl K l).yld j H x H' →
      gName i x (wipe σ [i]) H' fun σ2 H2 => wipe σ2 [i] = wipe σ [i] ∧ tYes σ2 H2 fun b H3 => if b = true then tVar i σ2 H3 fun y H4 => ∃ l k, y = .str k ∧ H4 D = some (StO P w D l) ∧ l.length + 1 < scanBound ∧ Nx (upd H4 D (StO P w D (insT l k))) else Nx H3) := by
  intro D hD
  refine ⟨fun j m H => m = xs.length - j ∧ j ≤ xs.length ∧ H = upd H1 D (StO P w D ((xs.take j).foldl insT [])), ⟨xs.length, rfl, Nat.zero_le _, rfl⟩, ?_⟩
  rintro j m H ⟨rfl, hj, rfl⟩
  have hl2 : SqL K (upd H1 D (StO P w D ((xs.take j).foldl insT []))) l (xs.map V.str) := sql_upd hl hD
  by_cases lt : j < xs.length
  · have hx : (xs.map V.str)[j]? = some (.str xs[j]) := by rw [List.getElem?_map, List.getElem?_eq_getElem lt]; rfl
    refine .inr ⟨⟨_, _, hl2, hx⟩, fun H' => H' = upd H1 D (StO P w D ((xs.take (j + 1)).foldl insT [])), fun H' e => ⟨xs.length - (j + 1), by omega, rfl, lt, e⟩, fun x H' y => ?_⟩
    obtain ⟨rfl, y⟩ := y
    have ex : x = .str xs[j] := by
      have z := y _ hl2
      rw [hx] at z
      exact (Option.some.inj z).symm
    subst ex
    have len := insF_len (xs.take j) []
    rw [List.length_take] at len
    have sl : (wipe σ [i]).length = σ.length := wipe_length _ _
    refine ⟨?_, ?_⟩
    · simp [wipe]
    · unfold tYes
      dsimp only
      rw [if_pos rfl]
      refine ⟨.str xs[j], ?_, _, xs[j], rfl, upd_same, by simp at len; omega, ?_⟩
      · rw [List.getElem?_set_self (by omega)]
      · rw [L2.upd_upd]
        congr 2
        rw [List.take_succ, List.getElem?_eq_getElem lt, List.foldl_append]
        rfl
  · have e : j = xs.length := by omega
    subst e
    rw [List.take_length]
    refine .inl ⟨⟨_, sql_upd hl hD, by simp⟩, q D hD⟩
end
/-! ### sorted texts -/
def leS (a b : Str) : Bool := !ltCps b.cps.toList a.cps.toList
theorem leS_iff {a b : Str} : leS a b = true ↔ a.cps.toList ≤ b.cps.toList := by
  unfold leS
  rw [ltCps_eq]
  simp [List.not_lt]
theorem leS_trans (a b c : Str) (h1 : leS a b = true) (h2 : leS b c = true) : leS a c = true := leS_iff.mpr (List.le_trans (leS_iff.mp h1) (leS_iff.mp h2))
theorem leS_total (a b : Str) : (leS a b || leS b a) = true := by
  rw [Bool.or_eq_true, leS_iff, leS_iff]
  exact List.le_total _ _
theorem str_ext {a b : Str} (h : a.cps.toList = b.cps.toList) : a = b := by
  cases a; cases b
  simp only at h
  congr
  exact Array.toList_inj.mp h
theorem leS_anti {a b : Str} (h1 : leS a b = true) (h2 : leS b a = true) : a = b := str_ext (List.le_antisymm (leS_iff.mp h1) (leS_iff.mp h2))
theorem risingS_pw : ∀ {p : Str} {ys : List Str}, risingS p ys = true → (p :: ys).Pairwise fun a b => leS a b = true
  | p, [], _ => by simp
  | p, x :: r, h => by
    have h : (!ltCps x.cps.toList p.cps.toList && risingS x r) = true := h
    obtain ⟨h1, h2⟩ := Bool.and_eq_true_iff.mp h
    have ih := risingS_pw h2
    refine List.pairwise_cons.mpr ⟨fun b hb => ?_, ih⟩
    rcases List.mem_cons.mp hb with z | z
    · subst z; exact h1
    · exact leS_trans _ _ _ h1 ((List.pairwise_cons.mp ih).1 b z)
theorem sortedS_pw {ys : List Str} (h : sortedS ys = true) : ys.Pairwise fun a b => leS a b = true := by
  cases ys with
  | nil => exact .nil
  | cons x r => exact risingS_pw h
def sortS (l : List Str) : List Str := l.mergeSort leS
theorem sortS_eq {l ys : List Str} (p : ys.Perm l) (h : sortedS ys = true) : ys = sortS l :=
  List.Perm.eq_of_pairwise (le := fun a b => leS a b = true) (fun a b _ _ h1 h2 => leS_anti h1 h2) (sortedS_pw h) (List.pairwise_mergeSort leS_trans leS_total l) (p.trans (List.mergeSort_perm l leS).symm)
/-! ### sorted({x for x in f}), sorted(set(f)), sorted(f), of texts -/
def txsL (μ : Sto) (d : D) : Option (List Str) := (asL μ d).bind strsD
def dSortC : D → Sto → R D := fun d μ => match txsL μ d with
  | some xs => if (xs.foldl insT []).length < 64 ∧ xs.length ≤ 2000 then .ok (.lst ((sortS (xs.foldl insT [])).map D.str)) μ else .bad
  | none => .bad
/-- .. with room at place i -/
def eIdx (i : Nat) (f : SE) : SE := fun ρ μ => if i < ρ.length then f ρ μ else .bad
theorem strs_reps {P : Pm} {H : Hp} {L : Lv} : ∀ ys : List Str, Reps P H L (ys.map V.str) (ys.map D.str)
  | [] => .nil
  | y :: ys => .cons (.str y) (strs_reps ys)
section
variable {P : Pm} {X : Cx} {W : WX} {f : SE}
theorem upd2_grow {H : Hp} {D p : Addr} {o o2 : HO} (h1 : H D = none) (h2 : upd H D o p = none) : ∀ b u, H b = some u → upd (upd H D o) p o2 b = some u := fun b u e => upd_grow h2 b u (upd_grow h1 b u e)
theorem sort_end {Pr : Program} {w : World} {E : XK} {H : Hp} {L : Lv} {μ : Sto} {xs : List Str} {Q : VK} (s : St3 P H L μ) (hz : (xs.foldl insT []).length < 64)
    (q : Post P E L H (fun d L' H' => ∀ v, Rep P H' L' v d → Q v H') (.ok (.lst ((sortS (xs.foldl insT [])).map D.str)) μ)) : ∀ a, H a = none → rSortSt Pr w [.ref a] (upd H a (StO Pr w a (xs.foldl insT []))) Q := by
  intro a ha
  refine ⟨a, _, rfl, upd_same, hz, fun ys p pm so hp => ?_⟩
  have e := sortS_eq pm so
  have gr := upd2_grow (o := StO Pr w a (xs.foldl insT [])) (o2 := .lst (ys.map V.str)) ha hp
  have np : H p = none := by
    cases z : H p with
    | none => rfl
    | some u => rw [upd_grow ha p u z] at hp; cases hp
  refine q L _ (Ext.grow s gr) (s.grow gr) _ (.lst upd_same (fun z => s.new_not np z) ?_)
  rw [← e]
  exact strs_reps ys
/-- sorted({x for x in e}) -/
theorem ve_sortC {x y : Str} {i : Nat} {iter : Expr} {scope : Scope} {p p1 p2 pos cpos : Pos} (calm : X.calm = true) (nd : X.N.Nodup) (hK : P.K = X.K) (h : VE P W X iter f) (ok : BlkOk X.N X.env.scope scope [(y, i)]) (hi : X.N[i]? = some y)
    (hloc : ∀ (s : Shared) (H : Hp) (C : Addr) (cl : List (Str × Addr)) (fp : List Addr), Loc (X.blk s H scope (compEnvC scope cl C X.env) fp).env.scope y)
    (hfn : ∀ (s : Shared) (H : Hp) (C : Addr) (cl : List (Str × Addr)) (fp : List Addr), (X.blk s H scope (compEnvC scope cl C X.env) fp).fn y = true ∨ (X.blk s H scope (compEnvC scope cl C X.env) fp).env.scope.names.lookup y = some .local)
    (hvis : ∀ (s : Shared) (H : Hp) (C : Addr) (cl : List (Str × Addr)) (fp : List Addr), Vis (X.blk s H scope (compEnvC scope cl C X.env) fp).env.scope y) (d1 : (y == ("__debug__" : Str)) = false) (d2 : (y == ("__classdict__" : Str)) = false)
    (hg : Gl X x) (hm : X.mg x = none) (hv : bootBuiltins x = some (.builtin "sorted")) (fold : ∀ x, foldedSetIterable iter X.env x = pure x := by intro _; rfl) (hn : x ≠ "__name__" := by decide) (hdb : (x == ("__debug__" : Str)) = false := by decide)
    (he : starEach [.SetComp (.Name y p1) [⟨.Name y p2, iter, [], 0⟩] scope cpos] X.env = [(false, eval (.SetComp (.Name y p1) [⟨.Name y p2, iter, [], 0⟩] scope cpos) X.env)] := by rfl) :
    VE P W X (.Call (.Name x p) [.SetComp (.Name y p1) [⟨.Name y p2, iter, [], 0⟩] scope cpos] [] pos) (eIdx i (eU dSortC f)) := by
  have pe := pe_sc (X := X) (ex := .Name y p1) (tg := .Name y p2) (ifs := []) (pos := cpos) (own := [(y, i)]) calm nd (pi_list h) ok (fun s H C cl fp => pg_name (i := i) nd hi (hloc s H C cl fp) (hfn s H C cl fp)) (fun _ _ _ _ _ => pts_nil)
    (fun s H C cl fp => pe_var (i := i) hi (hvis s H C cl fp) d1 d2) fold
  refine (pe_callB (cr_sortSt calm) hg hm hv (pa_cons pe pa_nil he) hn hdb he rfl).imp3 fun σ H Q ⟨L, ρ, μ, rs, st, q⟩ => ?_
  have il : i < ρ.length := by
    by_cases c : i < ρ.length
    · exact c
    · unfold eIdx at q; rw [if_neg c] at q; exact q.elim
  unfold eIdx at q
  rw [if_pos il] at q
  refine tV.first (k := dSortC) rs st q fun d μ1 v L1 H1 x1 s1 r1 rs1 q1 => ?_
  unfold dSortC txsL at q1
  cases e1 : asL μ1 d with
  | none => rw [e1] at q1; exact q1.elim
  | some ds =>
    rw [e1] at q1
    cases e2 : strsD ds with
    | none => rw [show (some ds).bind strsD = none from e2] at q1; exact q1.elim
    | some xs =>
      rw [show (some ds).bind strsD = some xs from e2] at q1
      have q1 : Post P (WE W σ) L1 H1 (fun d L' H' => ∀ v, Rep P H' L' v d → Q v H') (if (xs.foldl insT []).length < 64 ∧ xs.length ≤ 2000 then .ok (.lst ((sortS (xs.foldl insT [])).map D.str)) μ1 else .bad) := q1
      by_cases c : (xs.foldl insT []).length < 64 ∧ xs.length ≤ 2000
      case neg => rw [if_neg c] at q1; exact q1.elim
      rw [if_pos c] at q1
      obtain ⟨a, vs, rfl, ha, ra⟩ := asL_ok s1 r1 e1
      have ev := strsD_ok e2 ra
      subst ev
      refine ⟨a, rfl, ⟨_, .inl (.inl ha)⟩, ?_⟩
      have fin := fun D hD => sort_end (Pr := X.prog) (w := X.w) s1 c.1 q1 D hD
      exact tSc_id (K := X.K) (P := X.prog) (w := X.w) (i := i) (Q := fun v H2 => rSortSt X.prog X.w [v] H2 Q) (by rw [rs.len]; exact il) (.inl (.inl ha)) (by unfold scanBound; omega) fin
/-- sorted(set(e)) -/
theorem ve_sortSet {x y : Str} {e : Expr} {p p1 pos cpos : Pos} (calm : X.calm = true) (h : VE P W X e f) (hg2 : Gl X y) (hm2 : X.mg y = none) (hv2 : bootBuiltins y = some (.type "set"))
    (hg : Gl X x) (hm : X.mg x = none) (hv : bootBuiltins x = some (.builtin "sorted")) (hn : x ≠ "__name__" := by decide) (hdb : (x == ("__debug__" : Str)) = false := by decide) (hn2 : y ≠ "__name__" := by decide) (hdb2 : (y == ("__debug__" : Str)) = false := by decide)
    (he2 : starEach [e] X.env = (false, eval e X.env) :: starEach [] X.env := by rfl) (he : starEach [.Call (.Name y p1) [e] [] cpos] X.env = (false, eval (.Call (.Name y p1) [e] [] cpos) X.env) :: starEach [] X.env := by rfl) :
    VE P W X (.Call (.Name x p) [.Call (.Name y p1) [e] [] cpos] [] pos) (eU dSortC f) := by
  have pe := pe_callTy (pos := cpos) (p := p1) (cr_setStrs calm) hg2 hm2 hv2 (pa_cons h pa_nil he2) hn2 hdb2 he2 rfl
  refine (pe_callB (cr_sortSt calm) hg hm hv (pa_cons pe pa_nil he) hn hdb he rfl).imp3 fun σ H Q ⟨L, ρ, μ, rs, st, q⟩ => ?_
  refine tV.first (k := dSortC) rs st q fun d μ1 v L1 H1 x1 s1 r1 rs1 q1 => ?_
  unfold dSortC txsL at q1
  cases e1 : asL μ1 d with
  | none => rw [e1] at q1; exact q1.elim
  | some ds =>
    rw [e1] at q1
    cases e2 : strsD ds with
    | none => rw [show (some ds).bind strsD = none from e2] at q1; exact q1.elim
    | some xs =>
      rw [show (some ds).bind strsD = some xs from e2] at q1
      have q1 : Post P (WE W σ) L1 H1 (fun d L' H' => ∀ v, Rep P H' L' v d → Q v H') (if (xs.foldl insT []).length < 64 ∧ xs.length ≤ 2000 then .ok (.lst ((sortS (xs.foldl insT [])).map D.str)) μ1 else .bad) := q1
      by_cases c : (xs.foldl insT []).length < 64 ∧ xs.length ≤ 2000
      case neg => rw [if_neg c] at q1; exact q1.elim
      rw [if_pos c] at q1
      obtain ⟨a, vs, rfl, ha, ra⟩ := asL_ok s1 r1 e1
      have ev := strsD_ok e2 ra
      subst ev
      exact ⟨a, xs, rfl, .inl (.inl ha), by unfold scanBound; omega, fun D hD => sort_end s1 c.1 q1 D hD⟩
end
end L3

namespace L3
open PySem PySem.Spec PyProof.Rows L2
/-! ### max(a list of ints, default=d) -/
section
variable {prog : Program} {w : World} {A : Around} {E : Value → Shared → Prop} {I : Addr} {fp wr : List Addr} {G : Array GenState → Array GenState → Prop} {n : Nat} {P : Nat → Value → Prop} {St : Nat → Shared → Prop} {R : Result → Shared → Prop}
theorem max_loopD (W : WalksS prog w A.in1 I fp wr G n P St) (bt : Nat → Nat → Bool) (cmp : CmpOf prog w A.in1 .Gt P bt) (S : Addr) (nS : S ∉ fp) (kw : List (Str × Value)) :
    ∀ (k j : Nat) (s : Shared) (vb : Value) (c : Nat), n - (j + 1) = k → j + 1 ≤ n → St (j + 1) s → P (argBest bt j) vb →
    s.heap.get? S = some { cls := .type "list", dict := none, data := .seq #[vb, vb] c, slots := #[] } →
    (∀ v s', P (argBest bt (n - 1)) v → Moved (S :: wr) G s s' → R (.ok (.ret v)) s') → codeAny (model prog w) A (.builtin "max.loop" ⟨[.ref I, .none, .ref S], kw⟩) R s := by
  have nw : S ∉ wr := fun h => nS (W.sub _ h)
  have sub : ∀ b ∈ wr, b ∈ S :: wr := fun b hb => List.mem_cons_of_mem _ hb
  have nm : (toString "max" ++ toString ".loop" : String) = "max.loop" := by decide
  have ne : ∀ {b : Addr}, b ∉ S :: wr → S ≠ b := fun hb h => hb (by rw [h]; exact List.mem_cons_self)
  intro k
  induction k with
  | zero =>
    intro j s vb c e1 e2 st pb gS q
    obtain rfl : j + 1 = n := by omega
    refine codeAny_builtin F.entry_max_loop ?_
    rw [Around.under_plainId F.plain_max_loop _]
    show wpAny _ A.in1 (seqItems? (.ref S) >>= _) _ _ s
    refine wpAny_bind (wpAny_seqItems gS rfl ?_)
    show wpAny _ A.in1 (tryCatch (pyNext (.ref I)) _ >>= _) _ _ s
    refine wpAny_bind (wpAny_tryCatch (W.done s _ _ st fun s' m => ?_))
    show wpAny _ A.in1 (updateSeq S (fun _ => #[]) >>= _) _ _ _
    refine wpAny_bind (wpAny_updateSeq (m.heap S _ nw gS) rfl (wpAny_bind (wpAny_letGo (wpAny_pure ?_))))
    exact q vb _ pb ((m.mono sub).then_heap (tk := s'.toks) (Nat.le_refl _) fun b o hb e => (Heap.get?_update_other _ _ (ne hb)).trans e)
  | succ k ih =>
    intro j s vb c e1 e2 st pb gS q
    have lt : j + 1 < n := by omega
    refine codeAny_builtin F.entry_max_loop ?_
    rw [Around.under_plainId F.plain_max_loop _]
    show wpAny _ A.in1 (seqItems? (.ref S) >>= _) _ _ s
    refine wpAny_bind (wpAny_seqItems gS rfl ?_)
    show wpAny _ A.in1 (tryCatch (pyNext (.ref I)) _ >>= _) _ _ s
    refine wpAny_bind (wpAny_tryCatch (W.item (j + 1) s _ _ lt st fun v s' pv st' m => ?_))
    have gS' := m.heap S _ nw gS
    show wpAny _ A.in1 (tryCatch (holding [v, v] (richCompare .Gt v vb >>= _)) _ >>= _) _ _ _
    refine wpAny_bind (wpAny_tryCatch (wpAny_holding (wpAny_bind (cmp (j + 1) (argBest bt j) v vb _ _ _ pv pb ?_))))
    refine wpAny_bind (wpAny_holding (wpAny_truthy_bool (wpAny_bind (wpAny_letGo (wpAny_pure ?_)))))
    cases hb : bt (j + 1) (argBest bt j) with
    | true =>
      simp only [if_true]
      refine wpAny_bind (wpAny_updateSeq gS' rfl (wpAny_bind (wpAny_letGo ?_)))
      rw [nm]
      refine wpAny_pure ⟨plainId_quiet F.plain_max_loop _, ih (j + 1) _ v _ (by omega) lt (W.frame _ s' _ s'.toks st' (Nat.le_refl _) fun b hbf o e => ?_) (by simp only [argBest, hb, if_true]; exact pv) (Heap.get?_update_self _ gS' rfl) fun v' s2 pv' m2 => ?_⟩
      · exact (Heap.get?_update_other _ _ (fun h : S = b => nS (by rw [h]; exact hbf))).trans e
      · exact q v' s2 pv' (Moved.trans W.gtrans ((m.mono sub).then_heap (Nat.le_refl _) fun b o hb e => (Heap.get?_update_other _ _ (ne hb)).trans e) m2)
    | false =>
      simp only [Bool.false_eq_true, if_false]
      refine wpAny_bind (wpAny_letGo ?_)
      rw [nm]
      refine wpAny_pure ⟨plainId_quiet F.plain_max_loop _, ih (j + 1) _ vb c (by omega) lt st' (by simp only [argBest, hb, Bool.false_eq_true, if_false]; exact pb) gS' fun v' s2 pv' m2 => ?_⟩
      exact q v' s2 pv' (Moved.trans W.gtrans (m.mono sub) m2)
theorem max_loopF (W : WalksS prog w A.in1 I fp wr G n P St) (bt : Nat → Nat → Bool) (cmp : CmpOf prog w A.in1 .Gt P bt) (S : Addr) (nS : S ∉ fp) (key : Str) (d : Value) {s : Shared} {c : Nat} (st : St 0 s)
    (gS : s.heap.get? S = some { cls := .type "list", dict := none, data := .seq #[] c, slots := #[] }) (q0 : n = 0 → ∀ s', Moved (S :: wr) G s s' → R (.ok (.ret d)) s')
    (q : 0 < n → ∀ v s', P (argBest bt (n - 1)) v → Moved (S :: wr) G s s' → R (.ok (.ret v)) s') : codeAny (model prog w) A (.builtin "max.loop" ⟨[.ref I, .none, .ref S], [(key, d)]⟩) R s := by
  have nw : S ∉ wr := fun h => nS (W.sub _ h)
  have sub : ∀ b ∈ wr, b ∈ S :: wr := fun b hb => List.mem_cons_of_mem _ hb
  have nm : (toString "max" ++ toString ".loop" : String) = "max.loop" := by decide
  have ne : ∀ {b : Addr}, b ∉ S :: wr → S ≠ b := fun hb h => hb (by rw [h]; exact List.mem_cons_self)
  refine codeAny_builtin F.entry_max_loop ?_
  rw [Around.under_plainId F.plain_max_loop _]
  show wpAny _ A.in1 (seqItems? (.ref S) >>= _) _ _ s
  refine wpAny_bind (wpAny_seqItems gS rfl ?_)
  show wpAny _ A.in1 (tryCatch (pyNext (.ref I)) _ >>= _) _ _ s
  by_cases hn : 0 < n
  · refine wpAny_bind (wpAny_tryCatch (W.item 0 s _ _ hn st fun v s' pv st' m => ?_))
    have gS' := m.heap S _ nw gS
    show wpAny _ A.in1 (updateSeq S (fun _ => #[v, v]) >>= _) _ _ _
    refine wpAny_bind (wpAny_updateSeq gS' rfl ?_)
    rw [nm]
    refine wpAny_pure ⟨plainId_quiet F.plain_max_loop _, max_loopD W bt cmp S nS _ _ 0 _ v _ rfl hn (W.frame _ s' _ s'.toks st' (Nat.le_refl _) fun b hb o e => ?_) pv (Heap.get?_update_self _ gS' rfl) fun v' s2 pv' m2 => ?_⟩
    · exact (Heap.get?_update_other _ _ (fun h : S = b => nS (by rw [h]; exact hb))).trans e
    · exact q hn v' s2 pv' (Moved.trans W.gtrans ((m.mono sub).then_heap (Nat.le_refl _) fun b o hb e => (Heap.get?_update_other _ _ (ne hb)).trans e) m2)
  · obtain rfl : n = 0 := by omega
    refine wpAny_bind (wpAny_tryCatch (W.done s _ _ st fun s' m => ?_))
    show wpAny _ A.in1 (rule _ >>= _) _ _ _
    exact wpAny_bind (wpAny_rule (wpAny_pure (q0 rfl s' (m.mono sub))))
end
section
variable {prog : Program} {w : World} {A : Around} {E : Value → Shared → Prop} {s : Shared} {l : Addr} {its : List Value} {ns : List Int} {Q : Value → Shared → Prop}
/-- the greatest, or d -/
def maxD (d : Int) : List Int → Int
  | [] => d
  | x :: xs => xs.foldl max x
theorem maxD_eq {d : Int} {ns : List Int} {m : Int} (h0 : ns ≠ []) (h1 : m ∈ ns) (h2 : ∀ a ∈ ns, a ≤ m) : maxD d ns = m := by
  have fold : ∀ (xs : List Int) (x : Int), x ≤ xs.foldl max x ∧ (∀ a ∈ xs, a ≤ xs.foldl max x) ∧ (xs.foldl max x = x ∨ xs.foldl max x ∈ xs) := by
    intro xs
    induction xs with
    | nil => intro x; exact ⟨Int.le_refl _, fun a h => (nomatch h), .inl rfl⟩
    | cons y ys ih =>
      intro x
      obtain ⟨g1, g2, g3⟩ := ih (max x y)
      rw [List.foldl_cons]
      refine ⟨by omega, fun a ha => ?_, ?_⟩
      · rcases List.mem_cons.mp ha with z | z
        · subst z; omega
        · exact g2 a z
      · rcases g3 with z | z
        · rw [z]
          by_cases c : x ≤ y
          · exact .inr (by rw [Int.max_eq_right c]; exact List.mem_cons_self)
          · exact .inl (Int.max_eq_left (by omega))
        · exact .inr (List.mem_cons_of_mem _ z)
  cases ns with
  | nil => exact absurd rfl h0
  | cons x xs =>
    obtain ⟨g1, g2, g3⟩ := fold xs x
    show xs.foldl max x = m
    have a1 : xs.foldl max x ≤ m := by
      rcases g3 with z | z
      · rw [z]; exact h2 x List.mem_cons_self
      · exact h2 _ (List.mem_cons_of_mem _ z)
    have a2 : m ≤ xs.foldl max x := by
      rcases List.mem_cons.mp h1 with z | z
      · rw [z]; exact g1
      · exact g2 m z
    omega
theorem args_maxD (a b : Value) : argsOk "max" ⟨[a], [(Str.ofString "default", b)]⟩ := by unfold argsOk; kernel_rfl
theorem max_rawD {d : Value} (hh : A.handled = none) (hl : s.heap.IsList l its.toArray) (hi : IntsAre its ns)
    (q0 : ∀ h' tk, ns = [] → (∀ b o, s.heap.get? b = some o → h'.get? b = some o) → Q d { s with heap := h', toks := tk })
    (q : ∀ h' tk m t', (∀ b o, s.heap.get? b = some o → h'.get? b = some o) → m ∈ ns → (∀ a, a ∈ ns → a ≤ m) → Q (.int m t') { s with heap := h', toks := tk }) :
    wpAny (model prog w) A (call (.builtin "max") [.ref l] [(Str.ofString "default", d)]) Q E s := by
  have nm : (toString "max" ++ toString ".loop" : String) = "max.loop" := by decide
  obtain ⟨xs, e⟩ := hi.allInts.items
  have hn : numsOf (intItems xs).toList = ns := by rw [← e]; exact hi.numsOf
  rw [nums_intItems] at hn
  subst hn
  rw [e] at hl
  refine wpAny_call (codeAny_call_builtin F.plain_max F.entry_max ?_)
  have chk := args_maxD (.ref l) d
  have body : wpAny (model prog w) A.in1 (Builtin.«max» ⟨[.ref l], [(Str.ofString "default", d)]⟩) (fun fin s' => match fin with
      | .done f => wants Q E (Except.ok f) s'
      | .again c' => c'.quiet = true ∧ codeAny (model prog w) A c' (wants Q E) s') (fun e s' => wants Q E (.error e) s') s := by
    show wpAny _ A.in1 (Builtin.Builtins.bindParams "max" ["key", "default"] 0 ⟨[], [(Str.ofString "default", d)]⟩ >>= _) _ _ s
    refine wpAny_bind (wpAny_of_eq (show Builtin.Builtins.bindParams "max" ["key", "default"] 0 ⟨[], [(Str.ofString "default", d)]⟩ = pure [none, some d] from by kernel_rfl) ?_)
    refine wpAny_bind (wpAny_pure ?_)
    refine wpAny_bind (iter_intList hl fun s2 e2 st hfp hlI => ?_)
    subst e2
    refine wpAny_bind (wpAny_newObj_type ?_)
    rw [nm]
    have lS : l < s.heap.objs.size := let ⟨_, z, _⟩ := hl; Heap.lt_size z
    refine wpAny_pure ⟨plainId_quiet F.plain_max_loop _, max_loopF (Walks.list (prog := prog) (w := w) (A := A.in1) hh _ l hlI (intItems xs)).toS _ (CmpOf.ints_gt (numAt xs) (fun _ _ => intItems_at)) _ (fun z => ?_) _ d ?_ (Heap.get?_push_size _ rfl) (fun z s' m => ?_) fun z v s' pv m => ?_⟩
    · exact absurd (hfp _ z) (Nat.lt_irrefl _)
    · exact (Walks.list (prog := prog) (w := w) (A := A.in1) hh _ l hlI (intItems xs)).toS.frame 0 _ _ _ st (Nat.le_refl _) fun b _ o e => Heap.get?_push_of_some _ e
    · obtain ⟨h', g2, d', tk', os'⟩ := s'
      have m2 := Moved.drop_new m (Nat.le_refl _)
      have eg : g2 = s.gens := m.gens
      have ed : d' = s.drawn := m.drawn
      have eo : os' = s.os := m.os
      subst eg ed eo
      refine q0 h' tk' ?_ (old_kept m2.heap)
      have : xs.size = 0 := by simpa [intItems] using z
      rw [Array.size_eq_zero_iff.mp this]
      rfl
    · obtain ⟨h', g2, d', tk', os'⟩ := s'
      have m2 := Moved.drop_new m (Nat.le_refl _)
      have eg : g2 = s.gens := m.gens
      have ed : d' = s.drawn := m.drawn
      have eo : os' = s.os := m.os
      subst eg ed eo
      have sz : (intItems xs).size = xs.size := by simp [intItems]
      rw [sz] at z pv
      obtain ⟨t, rfl⟩ := intItems_at pv
      obtain ⟨g1, g2⟩ := argBest_gt (numAt xs) (xs.size - 1)
      refine q h' tk' _ t (old_kept m2.heap) ?_ fun a ha => ?_
      · rw [numAt_eq]; exact PySem.getD_mem (by rw [List.length_map, Array.length_toList]; omega)
      · obtain ⟨j, hj, rfl⟩ := mem_getD ha
        rw [List.length_map, Array.length_toList] at hj
        rw [← numAt_eq]; exact g2 j (by omega)
  simp only [checkBuiltinCall, F.kind_max]
  cases hs : Manifest.signature? "max" with
  | none => exact wpAny_pure body
  | some sg =>
    simp only [argsOk, hs] at chk
    have c2 : Bind.checkArgs "max" sg ⟨[.ref l], [(Str.ofString "default", d)]⟩ = pure () := chk
    show wpAny _ A.in1 (Bind.checkArgs "max" sg ⟨[.ref l], [(Str.ofString "default", d)]⟩) _ _ s
    rw [c2]; exact wpAny_pure body
end
section
variable {X : Cx}
def rMaxD (K : PySem.W.Frag) : List V → List V → Hp → VK → Prop := fun vs zs H Q => ∃ (a : Addr) (ns : List Int) (d : Int), vs = [V.ref a] ∧ zs = [V.int d] ∧ SqL K H a (ns.map V.int) ∧ Q (.int (maxD d ns)) H
theorem cr_maxD (calm : X.calm = true) : CallRK X (.builtin "max") ["default"] (rMaxD X.K) := by
  intro pins s σ H vs zs us ws Q I r1 r2 h
  obtain ⟨a, ns, d, rfl, rfl, hs, q⟩ := h
  obtain ⟨its, rv, hl, _⟩ := I.list hs
  rw [Vals.ref1 r1]
  cases r2 with
  | cons rd t =>
    cases t
    obtain ⟨t, rfl⟩ := rd
    refine max_rawD (I.ok.hd calm) hl.isList rv.ints (fun h' tk e hk => ?_) fun h' tk m t' hk h1 h2 => ?_
    · subst e
      exact ⟨.int d, H, I.kept hk, ⟨_, rfl⟩, q⟩
    · have ne : ns ≠ [] := fun z => by rw [z] at h1; cases h1
      rw [maxD_eq ne h1 h2] at q
      exact ⟨.int _, H, I.kept hk, ⟨_, rfl⟩, q⟩
end
def eMaxD (d : Int) (f : SE) : SE := eU (fun x μ => match (asS μ x).bind intsD with
  | some ns => .ok (.int (maxD d ns)) μ
  | none => .bad) f
section
variable {P : Pm} {W : WX} {X : Cx} {f : SE}
theorem ve_maxD {x : Str} {e ed : Expr} {p pos kp : Pos} {d : Int} (calm : X.calm = true) (hK : P.K = X.K) (h : VE P W X e f) (hd : VE P W X ed (eC (.int d))) (hg : Gl X x) (hm : X.mg x = none) (hv : bootBuiltins x = some (.builtin "max"))
    (hn : x ≠ "__name__" := by decide) (hdb : (x == ("__debug__" : Str)) = false := by decide) (he : starEach [e] X.env = (false, eval e X.env) :: starEach [] X.env := by rfl)
    (he2 : backTo pos (starEach [e] X.env) = (false, eval e X.env) :: backTo pos (starEach [] X.env) := by rfl) (hp2 : (backTo pos (starEach [e] X.env)).any (·.1) = false := by rfl) : VE P W X (.Call (.Name x p) [e] [⟨some "default", ed, kp⟩] pos) (eMaxD d f) := by
  refine (pe_callBK (cr_maxD calm) hg hm hv (pa_cons h pa_nil he) (pk_cons hd pk_nil) hn hdb he2 hp2).imp3 fun σ H Q ⟨L, ρ, μ, rs, st, q⟩ => ?_
  refine tV.first rs st q fun dd μ1 v L1 H1 x1 s1 r1 rs1 q1 => ?_
  refine ⟨L1, ρ, μ1, rs1, s1, fun L2 H2 x2 s2 v2 r2 => ?_⟩
  cases r2
  have q2 := Post.ext x2 q1
  dsimp only at q2
  cases e1 : asS μ1 dd with
  | none => rw [e1] at q2; exact q2.elim
  | some ds =>
    rw [e1] at q2
    cases e2 : intsD ds with
    | none => rw [show (some ds).bind intsD = none from e2] at q2; exact q2.elim
    | some ns =>
      rw [show (some ds).bind intsD = some ns from e2] at q2
      obtain ⟨a, vs, rfl, hq, rq⟩ := asS_ok s2 (r1.ext x2) e1
      rw [hK] at hq
      have e3 := intsD_ok e2 rq
      subst e3
      exact ⟨a, ns, d, rfl, rfl, hq, q2 L2 H2 .refl s2 _ (.int _)⟩
end
end L3

namespace L3
open PySem PySem.Spec PyProof.Rows L2
/-! ### a written dict: in, [], get -/
def dKin (neg : Bool) (kvs : List (Str × D)) : D → Sto → R D := fun d μ => match d with
  | .str z => .ok (.bl (if neg then !(kvs.lookup z).isSome else (kvs.lookup z).isSome)) μ
  | _ => .bad
def eKget2 (kvs : List (Str × D)) (f f2 : SE) : SE := fun ρ μ => (f ρ μ).bind fun d μ1 => match d with
  | .str z => (f2 ρ μ1).bind fun e μ2 => .ok ((kvs.lookup z).getD e) μ2
  | _ => .bad
section
variable {P : Pm} {W : WX} {X : Cx} {f f2 : SE} {a : Addr} {kvs : List (Str × D)} {x : Str}
theorem KdAt.some_iff (K : KdAt P X.w a kvs) (z : Str) : ∃ r, PySem.W.nsIn P.K a z = some r ∧ r.isSome = (kvs.lookup z).isSome := by
  obtain ⟨r, h1, h2⟩ := K.get z
  refine ⟨r, h1, ?_⟩
  rcases h2 with ⟨g1, g2⟩ | ⟨d, u, v, g1, g2, _⟩
  · rw [g1, g2]; rfl
  · rw [g1, g2]; rfl
theorem vt_kin {e : Expr} {p pos : Pos} (hK : P.K = X.K) (K : KdAt P X.w a kvs) (hm : X.mg x = some (.ref a)) (hg : Gl X x) (h : VE P W X e f) (hd : (x == ("__debug__" : Str)) = false := by decide)
    (hmk : behindInMarks .In (.Name x p) = false := by rfl) : VT P W X (.Compare e [.In] [.Name x p] pos) (eT (eU (dKin false kvs) f)) := by
  obtain ⟨es, n, D0⟩ := K.kd
  rw [hK] at D0
  refine (pt_cmpR (op_in_kd D0) h (pe_glob (v := .ref a) hg hm rfl hd) hmk).imp3 fun σ H Q h0 => ?_
  obtain ⟨L, ρ, μ, rs, st, q⟩ := tT_of h0
  refine tV.first rs st q fun d μ1 v L1 H1 x1 s1 r1 rs1 q1 => ?_
  cases r1 with
  | str z =>
    obtain ⟨r, g1, g2⟩ := K.some_iff z
    rw [hK] at g1
    refine ⟨z, r, rfl, rfl, g1, ?_⟩
    rw [g2]
    exact q1 L1 H1 .refl s1 _ (.bl _)
  | _ => exact q1.elim
theorem vt_kni {e : Expr} {p pos : Pos} (hK : P.K = X.K) (K : KdAt P X.w a kvs) (hm : X.mg x = some (.ref a)) (hg : Gl X x) (h : VE P W X e f) (hd : (x == ("__debug__" : Str)) = false := by decide)
    (hmk : behindInMarks .NotIn (.Name x p) = false := by rfl) : VT P W X (.Compare e [.NotIn] [.Name x p] pos) (eT (eU (dKin true kvs) f)) := by
  obtain ⟨es, n, D0⟩ := K.kd
  rw [hK] at D0
  refine (pt_cmpR (op_notIn_kd D0) h (pe_glob (v := .ref a) hg hm rfl hd) hmk).imp3 fun σ H Q h0 => ?_
  obtain ⟨L, ρ, μ, rs, st, q⟩ := tT_of h0
  refine tV.first rs st q fun d μ1 v L1 H1 x1 s1 r1 rs1 q1 => ?_
  cases r1 with
  | str z =>
    obtain ⟨r, g1, g2⟩ := K.some_iff z
    rw [hK] at g1
    refine ⟨z, r, rfl, rfl, g1, ?_⟩
    rw [g2]
    exact q1 L1 H1 .refl s1 _ (.bl _)
  | _ => exact q1.elim
theorem ve_kget2 {e e2 : Expr} {p apos cpos : Pos} (hK : P.K = X.K) (K : KdAt P X.w a kvs) (hm : X.mg x = some (.ref a)) (hg : Gl X x) (h : VE P W X e f) (h2 : VE P W X e2 f2) (m : M2 X (.Name x p) "get" apos e e2 cpos) (hd : (x == ("__debug__" : Str)) = false := by decide) :
    VE P W X (.Call (.Attribute (.Name x p) "get" apos) [e, e2] [] cpos) (eKget2 kvs f f2) := by
  obtain ⟨es, n, D0⟩ := K.kd
  rw [hK] at D0
  refine ⟨fun pins s σ H Q I h0 => ?_⟩
  have hm0 := fun {h : Heap} (k : X.K.In h) => PySem.W.mapOf_K (prog := X.prog) (w := X.w) k D0.at_ D0.lit
  refine wpAny_Call_method m.base m.few m.line PySem.F.plainAttrs_dict PySem.F.slot_dict_get PySem.F.type_dict_get (thn ((pe_glob (v := .ref a) hg hm rfl hd).run pins s σ H (fun x H => x = .ref a ∧ tV P W (eKget2 kvs f f2) σ H Q) I ⟨rfl, h0⟩) fun u s1 ⟨y, H1, I1, ry, e1, q1⟩ => ?_)
  subst e1
  obtain rfl : u = Value.ref a := ry
  refine ⟨(hm0 I1.kIn).typeIs, fun b eb => by cases eb; exact ⟨_, I1.kIn _ _ D0.at_, rfl⟩, ?_⟩
  rw [m.trees]
  obtain ⟨L, ρ, μ, rs, st, q⟩ := q1
  have r1 := tV.first (Q := fun y1 H2 => ∃ z : Str, y1 = .str z ∧ tV P W f2 σ H2 fun y2 H3 => ∃ r : Option Value, ∃ v : V, PySem.W.nsIn X.K a z = some r ∧ (∀ w2, RelV y2 w2 → RelV v (r.getD w2)) ∧ Q v H3) rs st q fun d μ1 v L1 H1 x1 s1 r1 rs1 q1 => by
    cases r1 with
    | str z =>
      have z0 : Post P (WE W σ) L1 H1 (fun d L' H' => ∀ v, Rep P H' L' v d → Q v H') ((f2 ρ μ1).bind fun e μ2 => .ok ((kvs.lookup z).getD e) μ2) := q1
      refine ⟨z, rfl, tV.first rs1 s1 z0 fun d2 μ2 v2 L2 H2 x2 s2 r2 rs2 q2 => ?_⟩
      obtain ⟨r, g1, g2⟩ := K.get z
      rw [hK] at g1
      have q2 : Post P (WE W σ) L2 H2 (fun d L' H' => ∀ v, Rep P H' L' v d → Q v H') (.ok ((kvs.lookup z).getD d2) μ2) := q2
      rcases g2 with ⟨g2, g3⟩ | ⟨d, u, v, g2, g3, g4, g5⟩
      · subst g3
        rw [g2] at q2
        exact ⟨none, v2, g1, fun w2 rw2 => rw2, q2 L2 H2 .refl s2 _ r2⟩
      · subst g3
        rw [g2] at q2
        exact ⟨some u, v, g1, fun _ _ => g4, q2 L2 H2 .refl s2 _ (g5 _ _)⟩
    | _ => exact q1.elim
  refine Calls.callWith_builtin rfl (Calls.evalArgs_plain (Calls.spliced_cons (thn (h.run pins s1 σ H1 _ I1 r1) fun iv s2 ⟨y, H2, I2, ry, z, ez, q2⟩ =>
    Calls.spliced_cons (thn (h2.run pins s2 σ H2 _ I2 q2) fun fv s3 ⟨y2, H3, I3, ry2, r, v, g1, g2, q3⟩ => Calls.spliced_nil ?_))))
  subst ez
  obtain ⟨t, rfl⟩ := ry
  have hm3 := hm0 I3.kIn
  refine call_meetsIn PySem.F.slot_dict_get hm3.typeIs PySem.F.entry_dict_get (PySem.F.args_dict_get_3 _ _ _) (meets_dict_get_default (strKind X.prog X.w) a (strKind_is X.prog X.w z t) D0.low fv) ⟨_, hm3, ?_⟩
  rw [PySem.W.find_K D0.at_ g1]
  exact ⟨v, H3, I3.tok _, g2 _ ry2, q3⟩
end
end L3

namespace L3
open PySem PySem.Spec PyProof.Rows L2
section
variable {P : Pm} {X : Cx} {W : WX} {f : SE}
end
end L3

namespace L3
open PySem PySem.Spec PySem.Calls PyProof.Rows L2
/-! ### x, *ys = a tuple -/
section
variable {pr : Program} {w : World} {A : Around} {E : Value → Shared → Prop} {s : Shared}
theorem unpack_rest {t : Addr} {us : List Value} {u : Value} {Q : List Value → Shared → Prop} (ht : IsTup s.heap t (u :: us).toArray) (hh : A.handled = none) (hz : us.length ≤ 16000)
    (q : ∀ (g : Heap) (tk : Nat), (∀ b o, s.heap.get? b = some o → g.get? b = some o) → wpAny (model pr w) A (newList us) (fun d s' => Q [u, d] s') E { s with heap := g, toks := tk }) :
    wpAny (model pr w) A (unpackItems (.ref t) 2 (some 1)) Q E s := by
  have small : t < s.heap.objs.size := let ⟨_, e, _⟩ := ht; Heap.lt_size e
  have ne : t ≠ s.heap.objs.size := Nat.ne_of_lt small
  have sz : (u :: us).toArray.size = us.length + 1 := by simp
  unfold unpackItems notIterableAtAll
  refine wpAny_bind (wpAny_bind (wpAny_specialOf ht.typeIs slot_tuple_iter.lookup (wpAny_pure ?_)))
  simp only [Bool.false_eq_true, if_false]
  refine wpAny_bind (wpAny_holding (iter_tuple ht ?_))
  refine wpAny_bind (wpAny_holding ?_)
  refine draw_tuple ne 1 0 _ _ ⟨_, Heap.get?_push_size _ rfl, rfl, rfl⟩ (ht.push _) (by rw [sz]; omega) fun g1 at1 same1 => ?_
  have tup1 : IsTup g1 t (u :: us).toArray := (ht.push _).extBut same1.extBut ne
  rw [Nat.zero_add] at at1
  have lt1 : s.heap.objs.size < g1.objs.size := let ⟨_, e, _⟩ := at1; Heap.lt_size e
  have lt2 : t < g1.objs.size := let ⟨_, e, _⟩ := tup1; Heap.lt_size e
  show wpAny (model pr w) A (if ([u] : List Value).length < 1 then _ else _) Q E _
  rw [if_neg (by show ¬ (1 < 1); decide)]
  refine wpAny_bind (wpAny_holding ?_)
  refine PySem.W.kun_collect (s := { s with heap := g1 }) (k := 1) (T := "tuple_iterator") (.inr (.inr (.inr rfl))) (Walks.tuple (A := A.in1) hh s.heap.objs.size t ne (u :: us).toArray) (fun j v st => st.1.typeIs) (by rw [sz]; omega) ⟨at1, tup1⟩ lt1 lt2 (fun g2 tk kp => ?_) (by rw [sz, sizeLine_eq]; omega)
  show wpAny (model pr w) A (if us.length < 0 then _ else _) Q E _
  rw [if_neg (by omega)]
  show wpAny (model pr w) A (newList (us.take (us.length - 0)) >>= fun d => pure ([u] ++ [d] ++ us.drop (us.length - 0))) Q E _
  rw [Nat.sub_zero, List.take_length, List.drop_length]
  refine wpAny_bind (wpAny_mono (q g2 tk fun b o e => ?_) (fun d s' z => wpAny_pure z) fun _ _ z => z)
  have nb : b ≠ s.heap.objs.size := Nat.ne_of_lt (Heap.lt_size e)
  exact kp b o nb (same1.extBut b o nb (Heap.get?_push_of_some _ e))
end
section
variable {X : Cx} {e1 e2 : Expr} {sp pos : Pos} {k : Nat}
def gStar (K : PySem.W.Frag) (t : TGs) : TG := fun v σ H Q => ∃ a x xs, v = .ref a ∧ SqT K H a (x :: xs) ∧ xs.length ≤ 16000 ∧ ∀ p, H p = none → t [x, .ref p] σ (upd H p (.lst xs)) Q
theorem pg_star {t : TGs} (hc : X.calm = true) (h : PGs X [e1, e2] t) (hn : (assignEach [e1, .Starred e2 sp] X.env).length = 2 := by rfl) (hst : (assignEach [e1, .Starred e2 sp] X.env).findIdx? (·.1) = some 1 := by rfl)
    (hm : (assignEach [e1, .Starred e2 sp] X.env).map (·.2) = (assignEach [e1, e2] X.env).map (·.2) := by rfl) : PG X (.Tuple [e1, .Starred e2 sp] k pos) (gStar X.K t) := by
  refine ⟨fun pins s σ H v u Q I r hw => ?_⟩
  obtain ⟨a, x, xs, rfl, hq, hl, hw⟩ := hw
  cases r
  obtain ⟨its, rv, ht, hz⟩ := I.tuple hq
  cases rv with
  | @cons _ y _ ys rx rr =>
  rw [assign_Tuple]
  refine wpAny_bind (wpAny_standAt ?_)
  unfold unpack
  rw [hn, hst, hm]
  have ly : ys.length ≤ 16000 := by rw [← rr.length]; exact hl
  refine wpAny_bind (wpAny_holding (unpack_rest ht (I.ok.hd hc) ly fun g tk kp => ?_))
  have I1 : Inv X pins σ H { s with heap := g, toks := tk } := I.kept kp
  refine wpAny_newList ?_ (by rw [sizeLine_eq]; omega)
  have hp : H g.objs.size = none := I1.hok.fresh (Nat.le_refl _)
  have I2 := I1.laid (a := g.objs.size) (o := .lst xs) (h' := g.push { cls := .type "list", data := .seq ys.toArray }) (t' := tk) (fun b o e => Heap.get?_push_of_some _ e) (Nat.le_refl _) ⟨by rw [sizeLine_eq]; omega, ys, 0, rr, Heap.get?_push_size _ rfl⟩
  exact h.run pins _ σ _ [x, .ref g.objs.size] [y, .ref g.objs.size] Q I2 (.cons rx (.cons rfl .nil)) (hw _ hp)
end
section
variable {P : Pm} {X : Cx} {W : WX} {pos : Pos} {e : Expr} {fe : SE}
/-- x, *ys = e -/
def sStar (i j : Nat) (f : SE) : SS := fun ρ μ => (f ρ μ).thn ρ fun d μ1 => match d with
  | .tup (x :: xs) => if xs.length ≤ 16000 then .nx ((ρ.set i (some x)).set j (some (.lst xs))) μ1 else .bad
  | _ => .bad
theorem vs_star {i j : Nat} {x y : Str} {px py sp pt : Pos} {k : Nat} (hK : P.K = X.K) (hc : X.calm = true) (hN : X.N.Nodup) (hi : X.N[i]? = some x) (hj : X.N[j]? = some y) (hx : X.env.scope.names.lookup x = some .local) (hy : X.env.scope.names.lookup y = some .local) (he : VE P W X e fe)
    (hs : swapsWithSole [.Tuple [.Name x px, .Starred (.Name y py) sp] k pt] e pos.line X.env = pure false := by rfl) (hw : swappedStores [.Tuple [.Name x px, .Starred (.Name y py) sp] k pt] e X.env = pure none := by rfl) :
    VS P W X (.Assign [.Tuple [.Name x px, .Starred (.Name y py) sp] k pt] e pos) (sStar i j fe) :=
  (ps_asg he (pg_star hc (pgs_cons (pg_name hN hi (.inl hx) (.inr hx)) (pgs_cons (pg_name hN hj (.inl hy) (.inr hy)) pgs_nil) rfl)) hs hw rfl).imp3 fun D σ H ⟨L, ρ, μ, rs, s, q⟩ => tV.firstS rs s q fun d μ1 v L1 H1 x1 s1 r1 rs1 q1 => by
    match d, r1, q1 with
    | .tup (d :: ds), r1, q1 =>
      have q1 : PostS P W D L1 H1 (if ds.length ≤ 16000 then .nx ((ρ.set i (some d)).set j (some (.lst ds))) μ1 else .bad) := q1
      by_cases c : ds.length ≤ 16000
      case neg => rw [if_neg c] at q1; exact q1.elim
      rw [if_pos c] at q1
      obtain ⟨a, vs, rfl, hq, rq⟩ := tup_ok r1
      rw [hK] at hq
      cases rq with
      | @cons u _ us _ ru rr =>
      refine ⟨a, u, us, rfl, hq, by rw [rr.length]; exact c, fun p hp => ?_⟩
      have x2 := Ext.grow s1 (upd_grow (o := .lst us) hp)
      have s2 := s1.grow (upd_grow (o := .lst us) hp)
      have r2 := new_lst s1 hp rr
      refine ⟨_, _, rfl, _, _, rfl, rfl, ?_⟩
      exact q1 _ L1 _ x2 s2 (((rs1.ext x2).set (ru.ext x2)).set r2)
    | .tup [], _, q1 => exact q1.elim
end
end L3

namespace L3
open PySem PySem.Spec PySem.Calls PyProof.Rows L2
/-! ### dicts: cells with keys -/
def keyD : D → Option Key
  | .int i => some (.inl i)
  | .str z => some (.inr z)
  | _ => none
def valD : List Key → List D → Key → Option D
  | k :: ks, d :: ds, q => if k = q then some d else valD ks ds q
  | _, _, _ => none
def setD : List Key → List D → Key → D → List D
  | k :: ks, d :: ds, q, e => (if k = q then e else d) :: setD ks ds q e
  | _, _, _, _ => []
/-- in its place, or at the end -/
def hasK (ks : List Key) (q : Key) : Bool := ks.any fun k => decide (k = q)
def putD (ks : List Key) (ds : List D) (q : Key) (e : D) : MO := if hasK ks q = true then .dct ks (setD ks ds q e) else .dct (ks ++ [q]) (ds ++ [e])
def dctAt (μ : Sto) : D → Option (List Key × List D)
  | .cell k => (match μ[k]? with
    | some (.dct ks ds) => some (ks, ds)
    | _ => none)
  | .dct ks ds => some (ks, ds)
  | _ => none
section
variable {P : Pm} {H : Hp} {L : Lv} {μ : Sto}
theorem keyD_ok {v : V} {d : D} {k : Key} (r : Rep P H L v d) (e : keyD d = some k) : v = kV k := by
  cases r <;> first | cases e | skip
  all_goals rfl
theorem dctAt_cell {k : Nat} {ks : List Key} {ds : List D} (h : μ[k]? = some (.dct ks ds)) : dctAt μ (.cell k) = some (ks, ds) := by
  unfold dctAt; dsimp only; rw [h]
end
def dDget (o i z : D) (μ : Sto) : R D := match dctAt μ o, keyD i with
  | some (ks, ds), some q => .ok ((valD ks ds q).getD z) μ
  | _, _ => .bad
def eDget2 (fo fi fz : SE) : SE := fun ρ μ => (fo ρ μ).bind fun o μ1 => match dctAt μ1 o with
  | some _ => (fi ρ μ1).bind fun i μ2 => (fz ρ μ2).bind fun z μ3 => dDget o i z μ3
  | none => .bad
section
variable {P : Pm} {W : WX} {X : Cx} {o i z e : Expr} {fo fi fz fe : SE} {pos apos cpos : Pos}
/-- d[k] = e -/
def sDput (fe fo fi : SE) : SS := fun ρ μ => (fe ρ μ).thn ρ fun d μ1 => (fo ρ μ1).thn ρ fun o μ2 => (fi ρ μ2).thn ρ fun i μ3 => match o, dctAt μ3 o, keyD i with
  | .cell c, some (ks, ds), some q => if ks.length < 1000 then .nx ρ (μ3.set c (putD ks ds q d)) else .bad
  | _, _, _ => .bad
end
section
variable {P : Pm} {X : Cx} {H : Hp} {L : Lv} {μ : Sto}
end
end L3

namespace L3
open PySem PySem.Spec PySem.Calls PyProof.Rows L2
/-! ### targets that write: xs[i], d[k] -/
abbrev MG := D → Env → Sto → R Unit
abbrev MGs := List D → Env → Sto → R Unit
def mNil : MGs := fun ds _ μ => match ds with
  | [] => .ok () μ
  | _ => .bad
def mCons (g : MG) (gs : MGs) : MGs := fun ds ρ μ => match ds with
  | d :: ds => (g d ρ μ).bind fun _ μ1 => gs ds ρ μ1
  | [] => .bad
def mSub (fo fi : SE) : MG := fun d ρ μ => (fo ρ μ).bind fun o μ1 => (fi ρ μ1).bind fun i μ2 => match o, i with
  | .cell k, .int z => (match setL k z d μ2 with
    | some μ3 => .ok () μ3
    | none => .bad)
  | _, _ => .bad
def putAt (o i d : D) (μ : Sto) : Option Sto := match o, dctAt μ o, keyD i with
  | .cell c, some (ks, ds), some q => if ks.length < 1000 then some (μ.set c (putD ks ds q d)) else none
  | _, _, _ => none
def mSubD (fo fi : SE) : MG := fun d ρ μ => (fo ρ μ).bind fun o μ1 => (fi ρ μ1).bind fun i μ2 => match putAt o i d μ2 with
  | some μ3 => .ok () μ3
  | none => .bad
def sMul (n : Nat) (f : SE) (g : MGs) : SS := fun ρ μ => (f ρ μ).thn ρ fun d μ1 => match asQ μ1 d with
  | some ds => if ds.length = n then (g ds ρ μ1).thn ρ fun _ μ2 => .nx ρ μ2 else .bad
  | none => .bad
section
variable {P : Pm} {W : WX} {X : Cx} {pos p2 : Pos} {o i e : Expr} {es : List Expr} {fo fi fe : SE} {g : MG} {gs : MGs}
end
section
variable {P : Pm} {X : Cx} {H : Hp} {L : Lv} {μ : Sto}
end
/-! ### max of a list of ints -/
def dMaxL : D → Sto → R D := fun d μ => match (asS μ d).bind intsD with
  | some (n :: ns) => .ok (.int (maxD 0 (n :: ns))) μ
  | _ => .bad
theorem cs_maxL {P : Pm} {X : Cx} (hK : P.K = X.K) : CallS P (rMax X.K) (un dMaxL) := by
  refine cs_un fun E L H μ v d Q s rv q => ?_
  unfold dMaxL at q
  cases e1 : asS μ d with
  | none => rw [e1] at q; exact q.elim
  | some ds =>
    rw [e1] at q
    cases e2 : intsD ds with
    | none => rw [show (some ds).bind intsD = none from e2] at q; exact q.elim
    | some ns =>
      rw [show (some ds).bind intsD = some ns from e2] at q
      cases ns with
      | nil => exact q.elim
      | cons n ns =>
        obtain ⟨a, vs, rfl, hq, rq⟩ := asS_ok s rv e1
        rw [hK] at hq
        have e3 := intsD_ok e2 rq
        subst e3
        refine ⟨a, n :: ns, rfl, hq, by simp, fun m h1 h2 => ?_⟩
        have e4 := maxD_eq (d := 0) (by simp) h1 h2
        rw [← e4]
        exact q L H .refl s _ (.int _)
/-! ### a dict display -/
def ePairs : List (SE × SE) → Env → Sto → R (List (D × D))
  | [], _, μ => .ok [] μ
  | (fk, fv) :: r, ρ, μ => (fk ρ μ).bind fun k μ1 => (fv ρ μ1).bind fun v μ2 => (ePairs r ρ μ2).bind fun ps μ3 => .ok ((k, v) :: ps) μ3
def keysD : List (D × D) → Option (List Key)
  | [] => some []
  | (k, _) :: r => (match keyD k, keysD r with
    | some q, some ks => some (q :: ks)
    | _, _ => none)
def eDisp (fs : List (SE × SE)) : SE := fun ρ μ => (ePairs fs ρ (μ ++ [.dct [] []])).bind fun ps μ1 => match μ1[μ.length]?, keysD ps with
  | some (.dct [] []), some ks => if ks.Nodup ∧ ks.length ≤ 15 then .ok (.cell μ.length) (μ1.set μ.length (.dct ks (ps.map (·.2)))) else .bad
  | _, _ => .bad
inductive RepP (P : Pm) (H : Hp) (L : Lv) : List (V × V) → List (D × D) → Prop
  | nil : RepP P H L [] []
  | cons {k v : V} {dk dv : D} {r : List (V × V)} {dr : List (D × D)} (hk : Rep P H L k dk) (hv : Rep P H L v dv) (h : RepP P H L r dr) : RepP P H L ((k, v) :: r) ((dk, dv) :: dr)
section
variable {P : Pm} {X : Cx} {W : WX} {H : Hp} {L : Lv} {μ : Sto}
theorem RepP.ok {vs : List (V × V)} {ps : List (D × D)} (r : RepP P H L vs ps) : ∀ {ks : List Key}, keysD ps = some ks → ∃ us, vs = (ks.zip us).map (fun kv => (kV kv.1, kv.2)) ∧ ks.length = us.length ∧ Reps P H L us (ps.map (·.2)) := by
  induction r with
  | nil => intro ks e; cases e; exact ⟨[], rfl, rfl, .nil⟩
  | @cons k v dk dv r dr hk hv h ih =>
    intro ks e
    have e : (match keyD dk, keysD dr with
      | some q, some ks => some (q :: ks)
      | _, _ => none) = some ks := e
    cases e1 : keyD dk with
    | none => rw [e1] at e; cases e
    | some q =>
      cases e2 : keysD dr with
      | none => rw [e1, e2] at e; cases e
      | some js =>
        rw [e1, e2] at e
        cases e
        obtain ⟨us, h1, h2, h3⟩ := ih e2
        have ek := keyD_ok hk e1
        subst ek
        exact ⟨v :: us, by rw [h1]; rfl, by simp [h2], .cons hv h3⟩
theorem RepP.ext {L1 : Lv} {H1 : Hp} (x : Ext P L H L1 H1) {vs : List (V × V)} {ps : List (D × D)} (r : RepP P H L vs ps) : RepP P H1 L1 vs ps := by
  induction r with
  | nil => exact .nil
  | cons hk hv h ih => exact .cons (hk.ext x) (hv.ext x) ih
end
end L3

namespace L3
open PySem PySem.Spec PySem.Calls PyProof.Rows L2
/-! ### what is asked from behind, of stars, dicts, writing targets -/
section
variable {Q : D → Sto → Prop} {N B C : Env → Sto → Prop} {T : D → Sto → Prop} {E : Exs} {ρ : Env} {μ : Sto} {f fo fi fz fe : SE} {g : SS} {ks : List Key} {ds : List D} {q : Key}
theorem wp_sStar {i j : Nat} (h : (f ρ μ).wp (fun d μ1 => ∃ x xs, d = .tup (x :: xs) ∧ xs.length ≤ 16000 ∧ N ((ρ.set i (some x)).set j (some (.lst xs))) μ1) E) : (sStar i j f ρ μ).wp N T B C E :=
  wp_thn (wp_mono h (fun d μ1 ⟨x, xs, e, l, q⟩ => by subst e; dsimp only; rw [if_pos l]; exact q) fun _ _ _ _ z => z)
theorem wp_seqStar {i j : Nat} (h : (sStar i j f ρ μ).wp (fun ρ1 μ1 => (g ρ1 μ1).wp N T B C E) T B C E) : (sSeq (sStar i j f) g ρ μ).wp N T B C E := wp_sSeq h
theorem wp_dget2 (h : (fo ρ μ).wp (fun o μ1 => (∃ kd, dctAt μ1 o = some kd) ∧ (fi ρ μ1).wp (fun i μ2 => (fz ρ μ2).wp (fun z μ3 => (dDget o i z μ3).wp Q E) E) E) E) : (eDget2 fo fi fz ρ μ).wp Q E := by
  unfold eDget2
  refine wp_bind (wp_mono h (fun o μ1 ⟨⟨kd, e⟩, z⟩ => ?_) fun _ _ _ _ z => z)
  rw [e]
  exact wp_bind (wp_mono z (fun i μ2 z => wp_bind z) fun _ _ _ _ z => z)
theorem wp_sDput (h : (fe ρ μ).wp (fun d μ1 => (fo ρ μ1).wp (fun o μ2 => (fi ρ μ2).wp (fun i μ3 => ∃ c ks ds q, o = .cell c ∧ μ3[c]? = some (.dct ks ds) ∧ keyD i = some q ∧ ks.length < 1000 ∧ N ρ (μ3.set c (putD ks ds q d))) E) E) E) : (sDput fe fo fi ρ μ).wp N T B C E := by
  unfold sDput
  refine wp_thn (wp_mono h (fun d μ1 z => wp_thn (wp_mono z (fun o μ2 z => wp_thn (wp_mono z (fun i μ3 z => ?_) fun _ _ _ _ z => z)) fun _ _ _ _ z => z)) fun _ _ _ _ z => z)
  obtain ⟨c, ks, ds, q, rfl, h1, h2, h3, h4⟩ := z
  rw [dctAt_cell h1, h2]
  dsimp only
  rw [if_pos h3]
  exact h4
theorem wp_seqDput (h : (sDput fe fo fi ρ μ).wp (fun ρ1 μ1 => (g ρ1 μ1).wp N T B C E) T B C E) : (sSeq (sDput fe fo fi) g ρ μ).wp N T B C E := wp_sSeq h
theorem wp_sMul {n : Nat} {gs : MGs} (h : (f ρ μ).wp (fun d μ1 => ∃ ds, asQ μ1 d = some ds ∧ ds.length = n ∧ (gs ds ρ μ1).wp (fun _ μ2 => N ρ μ2) E) E) : (sMul n f gs ρ μ).wp N T B C E :=
  wp_thn (wp_mono h (fun d μ1 ⟨ds, e1, e2, z⟩ => by rw [e1]; dsimp only; rw [if_pos e2]; exact wp_thn z) fun _ _ _ _ z => z)
theorem wp_seqMul {n : Nat} {gs : MGs} (h : (sMul n f gs ρ μ).wp (fun ρ1 μ1 => (g ρ1 μ1).wp N T B C E) T B C E) : (sSeq (sMul n f gs) g ρ μ).wp N T B C E := wp_sSeq h
theorem wp_mNil {Q : Unit → Sto → Prop} (h : Q () μ) : (mNil [] ρ μ).wp Q E := h
theorem wp_mCons {Q : Unit → Sto → Prop} {g : MG} {gs : MGs} {d : D} {ds : List D} (h : (g d ρ μ).wp (fun _ μ1 => (gs ds ρ μ1).wp Q E) E) : (mCons g gs (d :: ds) ρ μ).wp Q E := wp_bind h
theorem wp_mSub {Q : Unit → Sto → Prop} {d : D} (h : (fo ρ μ).wp (fun o μ2 => (fi ρ μ2).wp (fun i μ3 => ∃ k z μ4, o = .cell k ∧ i = .int z ∧ setL k z d μ3 = some μ4 ∧ Q () μ4) E) E) : (mSub fo fi d ρ μ).wp Q E :=
  wp_bind (wp_mono h (fun o μ2 z => wp_bind (wp_mono z (fun i μ3 ⟨k, z, μ4, e1, e2, e3, q⟩ => by subst e1 e2; dsimp only; rw [e3]; exact q) fun _ _ _ _ z => z)) fun _ _ _ _ z => z)
theorem wp_mSubD {Q : Unit → Sto → Prop} {d : D} (h : (fo ρ μ).wp (fun o μ2 => (fi ρ μ2).wp (fun i μ3 => ∃ c ks ds q, o = .cell c ∧ μ3[c]? = some (.dct ks ds) ∧ keyD i = some q ∧ ks.length < 1000 ∧ Q () (μ3.set c (putD ks ds q d))) E) E) : (mSubD fo fi d ρ μ).wp Q E := by
  refine wp_bind (wp_mono h (fun o μ2 z => wp_bind (wp_mono z (fun i μ3 z => ?_) fun _ _ _ _ z => z)) fun _ _ _ _ z => z)
  obtain ⟨c, ks, ds, q, rfl, h1, h2, h3, h4⟩ := z
  unfold putAt
  rw [dctAt_cell h1, h2]
  dsimp only
  rw [if_pos h3]
  exact h4
theorem wp_maxL {d : D} {n : Int} {ns : List Int} (h : (asS μ d).bind intsD = some (n :: ns)) (qq : Q (.int (maxD 0 (n :: ns))) μ) : (dMaxL d μ).wp Q E := by
  unfold dMaxL
  rw [h]
  exact qq
theorem wp_disp {fs : List (SE × SE)} (h : (ePairs fs ρ (μ ++ [.dct [] []])).wp (fun ps μ1 => ∃ ks, μ1[μ.length]? = some (.dct [] []) ∧ keysD ps = some ks ∧ ks.Nodup ∧ ks.length ≤ 15 ∧ Q (.cell μ.length) (μ1.set μ.length (.dct ks (ps.map (·.2))))) E) : (eDisp fs ρ μ).wp Q E := by
  unfold eDisp
  refine wp_bind (wp_mono h (fun ps μ1 ⟨ks, e1, e2, e3, e4, z⟩ => ?_) fun _ _ _ _ z => z)
  rw [e1, e2]
  dsimp only
  rw [if_pos ⟨e3, e4⟩]
  exact z
theorem wp_pNil {Q : List (D × D) → Sto → Prop} (h : Q [] μ) : (ePairs [] ρ μ).wp Q E := h
theorem wp_pCons {Q : List (D × D) → Sto → Prop} {fk fv : SE} {r : List (SE × SE)} (h : (fk ρ μ).wp (fun k μ1 => (fv ρ μ1).wp (fun v μ2 => (ePairs r ρ μ2).wp (fun ps μ3 => Q ((k, v) :: ps) μ3) E) E) E) : (ePairs ((fk, fv) :: r) ρ μ).wp Q E :=
  wp_bind (wp_mono h (fun k μ1 z => wp_bind (wp_mono z (fun v μ2 z => wp_bind z) fun _ _ _ _ z => z)) fun _ _ _ _ z => z)
end
/-! ### xs[::-1]; min, max of two ints -/
def dRevL : D → Sto → R D := fun d μ => match asS μ d with
  | some ds => .ok (.lst ds.reverse) μ
  | none => .bad
section
variable {P : Pm} {W : WX} {X : Cx} {e : Expr} {f : SE} {H : Hp} {L : Lv}
theorem ve_revL {k : Nat} {p1 p2 p3 pos : Pos} (hK : P.K = X.K) (h : VE P W X e f) : VE P W X (.Subscript e (.Slice none none (some (.UnaryOp .USub (.Constant (.int 1) k p1) p2)) p3) pos) (eU dRevL f) :=
  (pe_revL h).imp3 fun σ H Q ⟨L, ρ, μ, rs, st, q⟩ => by
    refine tV.first rs st q fun d μ1 v L1 H1 x1 s1 r1 rs1 q1 => ?_
    unfold dRevL at q1
    cases e1 : asS μ1 d with
    | none => rw [e1] at q1; exact q1.elim
    | some ds =>
      rw [e1] at q1
      obtain ⟨a, vs, rfl, hq, rq⟩ := asS_ok s1 r1 e1
      rw [hK] at hq
      refine ⟨a, vs, rfl, hq, fun p hp => ?_⟩
      exact q1 L1 _ (Ext.grow s1 (upd_grow hp)) (s1.grow (upd_grow hp)) _ (new_lst s1 hp rq.rev)
end
end L3

namespace L3
open PySem PySem.Spec PySem.Calls PyProof.Rows L2
/-! ### a dict that is locked, and open again -/
structure Lk (H H' : Hp) (a : Addr) (kvs : List (Key × V)) : Prop where
  one : Rd H a (.dK kvs)
  two : Rd H' a (.dK kvs)
  same : ∀ b, b ≠ a → H' b = H b
section
variable {P : Pm} {H H' : Hp} {L : Lv} {a : Addr} {kvs : List (Key × V)} {μ : Sto}
theorem Lk.back (k : Lk H H' a kvs) : Lk H' H a kvs := ⟨k.two, k.one, fun b n => (k.same b n).symm⟩
theorem Lk.ne (k : Lk H H' a kvs) {b : Addr} {u : HO} (h : H b = some u) (n1 : u ≠ .dK kvs) (n2 : ∀ o, u ≠ .frz o (.dK kvs)) : H' b = some u := by
  have ne : b ≠ a := fun z => by
    subst z
    rcases k.one with e | ⟨o, e⟩
    · rw [h] at e; exact n1 (Option.some.inj e)
    · rw [h] at e; exact n2 o (Option.some.inj e)
  rw [k.same b ne]; exact h
theorem Lk.rd (k : Lk H H' a kvs) {b : Addr} {u : HO} (h : Rd H b u) (n1 : u ≠ .dK kvs) (n3 : ∀ o, .frz o u ≠ HO.dK kvs) (n2 : ∀ o, u ≠ .frz o (.dK kvs)) : Rd H' b u := by
  rcases h with h | ⟨o, h⟩
  · exact .inl (k.ne h n1 n2)
  · exact .inr ⟨o, k.ne h (n3 o) fun o2 z => by cases z; exact n1 rfl⟩
mutual
theorem Rep.swap (k : Lk H H' a kvs) : ∀ {v : V} {d : D}, Rep P H L v d → Rep P H' L v d
  | _, _, .non => .non
  | _, _, .bl b => .bl b
  | _, _, .int i => .int i
  | _, _, .str s => .str s
  | _, _, .lst h n r => .lst (k.ne h (fun z => nomatch z) fun _ z => nomatch z) n (Reps.swap k r)
  | _, _, .tup h r => .tup (h.elim (fun h => .inl ⟨k.rd h.1 (fun z => nomatch z) (fun _ z => nomatch z) (fun _ z => nomatch z), h.2⟩) .inr) (Reps.swap k r)
  | _, _, .dct (a := b) (ks := ks) (vs := vs) h n l r => by
    refine .dct ?_ n l (Reps.swap k r)
    by_cases e : b = a
    · subst e
      have z : ks.zip vs = kvs := by
        rcases h with h | ⟨o, h⟩ <;> rcases k.one with g | ⟨o2, g⟩ <;> (rw [h] at g; cases g) <;> rfl
      rw [z]; exact k.two
    · rcases h with h | ⟨o, h⟩
      · exact .inl (by rw [k.same b e]; exact h)
      · exact .inr ⟨o, by rw [k.same b e]; exact h⟩
  | _, _, .obj h hc n l r => .obj (k.ne h (fun z => nomatch z) fun _ z => nomatch z) hc n l (Reps.swap k r)
  | _, _, .cell h => .cell h
  | _, _, .scr h => .scr (h.elim (fun h => .inl ⟨k.rd h.1 (fun z => nomatch z) (fun _ z => nomatch z) (fun _ z => nomatch z), h.2⟩) .inr)
theorem Reps.swap (k : Lk H H' a kvs) : ∀ {vs : List V} {ds : List D}, Reps P H L vs ds → Reps P H' L vs ds
  | _, _, .nil => .nil
  | _, _, .cons h r => .cons (Rep.swap k h) (Reps.swap k r)
end
end
/-! ### for k in d, d a dict that stays -/
def kyD : Key → D
  | .inl i => .int i
  | .inr z => .str z
def sForK (i : Nat) (g : SG) (b : SS) : SS := fun ρ μ => match ρ[i]? with
  | some (some (.dct ks ds)) => (match forS (fun _ => true) g b (ks.map kyD) ρ μ with
    | .exc _ _ _ _ _ => .bad
    | r => r)
  | _ => .bad
section
variable {P : Pm} {W : WX} {X : Cx} {sl : List Nat} {g : SG} {b : SS} {L : Lv} {H : Hp} {σ : Slots} {ρ : L3.Env} {μ : Sto} {D0 : Ends}
end
section
variable {P : Pm} {W : WX} {X : Cx} {sl : List Nat} {g : SG} {tt : ST} {te : SE}
end
section
variable {P : Pm} {X : Cx} {H : Hp} {L : Lv} {μ : Sto}
end
end L3

namespace L3
open PySem PySem.Spec PySem.Calls PyProof.Rows L2
section
variable {P : Pm} {W : WX} {X : Cx} {i o : Expr} {fi fo : SE} {pos : Pos}
end
/-! ### what is asked from behind -/
section
variable {Q : D → Sto → Prop} {N B C : Env → Sto → Prop} {T : D → Sto → Prop} {E : Exs} {ρ : Env} {μ : Sto} {g : SG} {b f : SS} {ks : List Key} {ds : List D} {q : Key}
theorem wp_seqForK {i : Nat} (h : (sForK i g b ρ μ).wp (fun ρ1 μ1 => (f ρ1 μ1).wp N T B C E) T B C E) : (sSeq (sForK i g b) f ρ μ).wp N T B C E := wp_sSeq h
end
end L3

namespace L3
open PySem PySem.Spec PySem.Calls PyProof.Rows L2
/-! ### instances: cells with a class and fields -/
def insAt (cn : Str) (μ : Sto) : D → Option (List Str × List D)
  | .cell k => (match μ[k]? with
    | some (.ins c ns ds) => if c = cn then some (ns, ds) else none
    | _ => none)
  | _ => none
def putN : List Str → List D → Str → D → List Str × List D
  | n :: ns, d :: ds, f, e => if n = f then (n :: ns, e :: ds) else ((n :: (putN ns ds f e).1), (d :: (putN ns ds f e).2))
  | _, _, f, e => ([f], [e])
section
variable {P : Pm} {H : Hp} {L : Lv} {μ : Sto}
theorem insAt_cell {cn : Str} {k : Nat} {ns : List Str} {ds : List D} (h : μ[k]? = some (.ins cn ns ds)) : insAt cn μ (.cell k) = some (ns, ds) := by
  unfold insAt; dsimp only; rw [h]; dsimp only; rw [if_pos rfl]
end
/-- o.f = e -/
def sFset (cn f : Str) (fe fo : SE) : SS := fun ρ μ => (fe ρ μ).thn ρ fun d μ1 => (fo ρ μ1).thn ρ fun o μ2 => match o, insAt cn μ2 o with
  | .cell k, some (ns, ds) => if ns.length < 1000 then .nx ρ (μ2.set k (.ins cn (putN ns ds f d).1 (putN ns ds f d).2)) else .bad
  | _, _ => .bad
/-- o.m(e, ..), of a method that lets nothing out -/
def eMeth (cn m : Str) (n : Nat) (g : List D → Sto → R D) (fo : SE) (fa : SA) : SE := fun ρ μ => (fo ρ μ).bind fun o μ1 => match insAt cn μ1 o with
  | some (ns, _) => if m ∈ ns then .bad else (fa ρ μ1).bind fun ds μ2 => if ds.length + 1 = n then (g (o :: ds) μ2).nox else .bad
  | none => .bad
/-- C(e, ..) -/
def eMake (cn : Str) (n : Nat) (g : List D → Sto → R D) (fa : SA) : SE := fun ρ μ => (fa ρ μ).bind fun ds μ1 => if ds.length + 1 = n then ((g (.cell μ1.length :: ds) (μ1 ++ [.ins cn [] []])).nox.bind fun r μ2 => match r with
  | .non => .ok (.cell μ1.length) μ2
  | _ => .bad) else .bad
section
variable {P : Pm} {W : WX} {X : Cx} {e o : Expr} {es : List Expr} {fe fo : SE} {fa : SA} {pos pos' apos p : Pos} {cn f m x : Str} {k n : Nat} {fA : Addr} {fd : FuncData} {ps : List Str} {g : List D → Sto → R D}
abbrev E0 : XK := fun _ _ _ => False
end
end L3

namespace L3
open PySem PySem.Spec PySem.Calls PyProof.Rows L2
/-! ### instances: what is asked from behind -/
section
variable {Q : D → Sto → Prop} {N B C : Env → Sto → Prop} {T : D → Sto → Prop} {E : Exs} {ρ : Env} {μ : Sto} {fe fo : SE} {fa : SA} {s : SS} {cn f m : Str} {ns : List Str} {ds : List D} {g : List D → Sto → R D} {n : Nat}
theorem wp_sFset (h : (fe ρ μ).wp (fun d μ1 => (fo ρ μ1).wp (fun o μ2 => ∃ k ns ds, o = .cell k ∧ μ2[k]? = some (.ins cn ns ds) ∧ ns.length < 1000 ∧ N ρ (μ2.set k (.ins cn (putN ns ds f d).1 (putN ns ds f d).2))) E) E) : (sFset cn f fe fo ρ μ).wp N T B C E := by
  unfold sFset
  refine wp_thn (wp_mono h (fun d μ1 z => wp_thn (wp_mono z (fun o μ2 z => ?_) fun _ _ _ _ z => z)) fun _ _ _ _ z => z)
  obtain ⟨k, ns, ds, rfl, h1, h2, h3⟩ := z
  rw [insAt_cell h1]
  dsimp only
  rw [if_pos h2]
  exact h3
theorem wp_seqFset (h : (sFset cn f fe fo ρ μ).wp (fun ρ1 μ1 => (s ρ1 μ1).wp N T B C E) T B C E) : (sSeq (sFset cn f fe fo) s ρ μ).wp N T B C E := wp_sSeq h
theorem wp_meth (h : (fo ρ μ).wp (fun o μ1 => ∃ k ns ds0, o = .cell k ∧ μ1[k]? = some (.ins cn ns ds0) ∧ m ∉ ns ∧ (fa ρ μ1).wp (fun ds μ2 => ds.length + 1 = n ∧ (g (.cell k :: ds) μ2).wp Q noE) E) E) : (eMeth cn m n g fo fa ρ μ).wp Q E := by
  unfold eMeth
  refine wp_bind (wp_mono h (fun o μ1 z => ?_) fun _ _ _ _ z => z)
  obtain ⟨k, ns, ds0, rfl, h1, h2, h3⟩ := z
  rw [insAt_cell h1]
  dsimp only
  rw [if_neg h2]
  exact wp_bind (wp_mono h3 (fun ds μ2 ⟨a, b⟩ => by rw [if_pos a]; exact wp_nox b) fun _ _ _ _ z => z)
theorem wp_make (h : (fa ρ μ).wp (fun ds μ1 => ds.length + 1 = n ∧ (g (.cell μ1.length :: ds) (μ1 ++ [.ins cn [] []])).wp (fun r μ2 => r = .non ∧ Q (.cell μ1.length) μ2) noE) E) : (eMake cn n g fa ρ μ).wp Q E := by
  unfold eMake
  refine wp_bind (wp_mono h (fun ds μ1 ⟨a, b⟩ => ?_) fun _ _ _ _ z => z)
  rw [if_pos a]
  refine wp_bind (wp_mono (wp_nox (E := E) b) (fun r μ2 ⟨e, q⟩ => ?_) fun _ _ _ _ z => z)
  subst e
  exact q
end
end L3

namespace L3
open PySem PySem.Spec PySem.Calls PyProof.Rows L2
section
variable {P : Pm} {W : WX} {X : Cx} {pos : Pos}
end
section
variable {P : Pm} {W : WX} {X : Cx} {sl : List Nat} {g : SG} {tk te : SE} {H : Hp} {L : Lv} {μ : Sto}
end
section
variable {P : Pm} {X : Cx} {H : Hp} {L : Lv} {μ : Sto}
end
section
variable {P : Pm} {X : Cx} {H : Hp} {L : Lv} {μ : Sto}
end
/-! ### what is asked from behind -/
section
variable {Q : D → Sto → Prop} {E : Exs} {ρ : Env} {μ : Sto} {g : SG} {tk te : SE} {ks js : List Key} {ds es : List D}
end
section
variable {P : Pm} {W : WX} {X : Cx}
end
/-! a, b, c = e1, e2, e3 with local names -/
def sPar3 (i j l : Nat) (fa : SA) : SS := fun ρ μ => (fa ρ μ).thn ρ fun ds μ1 => match ds with
  | [d, e, f] => .nx (((ρ.set i (some d)).set j (some e)).set l (some f)) μ1
  | _ => .bad
section
variable {P : Pm} {W : WX} {X : Cx} {ρ : Env} {μ : Sto} {fa : SA} {g : SS} {N B C : Env → Sto → Prop} {T : D → Sto → Prop} {E : Exs}
theorem wp_sPar3 {i j l : Nat} (h : (fa ρ μ).wp (fun ds μ1 => ∃ d e f, ds = [d, e, f] ∧ N (((ρ.set i (some d)).set j (some e)).set l (some f)) μ1) E) : (sPar3 i j l fa ρ μ).wp N T B C E := wp_thn (wp_mono h (fun ds μ1 ⟨d, e, f, h1, q⟩ => by subst h1; exact q) fun _ _ _ _ z => z)
theorem wp_seqPar3 {i j l : Nat} (h : (sPar3 i j l fa ρ μ).wp (fun ρ1 μ1 => (g ρ1 μ1).wp N T B C E) T B C E) : (sSeq (sPar3 i j l fa) g ρ μ).wp N T B C E := wp_sSeq h
theorem three_ok {a b c : D} {A : D → D → D → Prop} (q : A a b c) : ∃ d e f, [a, b, c] = [d, e, f] ∧ A d e f := ⟨a, b, c, rfl, q⟩
end
end L3

namespace L3
open PySem PySem.Spec PySem.Calls PyProof.Rows L2
/-! ### f(a, .., k = b, ..) -/
abbrev VKw (P : Pm) (W : WX) (X : Cx) (kws : List Keyword) (f : SA) : Prop := PK X kws (tVA P W f)
/-- the names ks behind n places, in the def's own order -/
def BKw (K : PySem.W.Frag) (fd : FuncData) (ps : List Str) (n : Nat) (ks : List Str) : Prop := ∀ (s : Shared) (us ws : List Value), K.In s.heap → us.length = n → ws.length = ks.length → BindsTo s fd { pos := us, kw := ks.zip ws } (ps.zip (us ++ ws))
def eCallK (n m : Nat) (f : List D → Sto → R D) (fa fk : SA) : SE := fun ρ μ => (fa ρ μ).bind fun ds μ1 => (fk ρ μ1).bind fun es μ2 => if ds.length = n ∧ es.length = m then f (ds ++ es) μ2 else .bad
theorem binds_kw {K : PySem.W.Frag} {x qual : Str} {params : Arguments} {body : List Stmt} {scope : Scope} {kws : List (Str × L2.V)} {f : Addr} {fd : FuncData} {ps ks : List Str} {n : Nat} (F : FunD K x qual params body scope [] kws f fd)
    (h : ∀ (kV doc pm : Value) (an : Option Addr) (cdv ct : Value) (us ws : List Value), us.length = n → ws.length = ks.length → bindArgs (PySem.W.fnOf x qual params body scope Value.none kV doc pm an cdv ct) { pos := us, kw := ks.zip ws } = pure (ps.zip (us ++ ws))) : BKw K fd ps n ks := by
  intro s us ws _ h1 h2
  obtain ⟨oc, od, dV, kV, doc, pm, an, cdv, ct, osl, rfl, lk, hcd, hD, hK⟩ := F.ex
  rcases hD with ⟨_, rfl⟩ | ⟨e, _⟩
  · exact BindsTo.of_eq (h kV doc pm an cdv ct us ws h1 h2)
  · exact absurd rfl e
section
variable {P : Pm} {W : WX} {X : Cx} {pos p kpos : Pos} {e : Expr} {es : List Expr} {kws : List Keyword} {f : SE} {fa fk : SA} {k n : Nat} {fA : Addr} {fd : FuncData} {ps ks : List Str} {g : List D → Sto → R D} {x : Str} {nm : Option Str}
theorem vk_nil : VKw P W X [] aNil := ⟨fun pos pins s σ H Q I ⟨L, ρ, μ, rs, st, q⟩ => (pk_nil (X := X)).run pos pins s σ H Q I (q L H .refl st [] .nil)⟩
theorem vk_cons (h : VE P W X e f) (hr : VKw P W X kws fa) : VKw P W X (⟨nm, e, kpos⟩ :: kws) (aCons f fa) :=
  ⟨fun pos pins s σ H Q I ⟨L, ρ, μ, rs, st, q⟩ => (pk_cons (nm := nm) (kpos := kpos) h hr).run pos pins s σ H Q I (by
    refine tV.first rs st q fun d μ1 v L1 H1 x1 s1 r1 rs1 q1 => ?_
    exact tVA.first rs1 s1 q1 fun ds μ2 vs L2 H2 x2 s2 r2 rs2 q2 => q2 L2 H2 .refl s2 _ (.cons (r1.ext x2) r2))⟩
theorem run_fnSK {E : L2.St → XK} {sp : Sp} {pins : List (Addr × Obj)} {σ : L2.St} {H : Hp} {s : Shared} {Q : VK} {us ws : List Value} {vs zs : List V} (F : FnOk X.prog X.w X.K X.mg X.base (CXF X) k fA fd ps sp) (room : Room k X.A) (hb : BKw X.K fd ps n ks) (hx : PassesAt (CXF X) X σ (E σ))
    (I : Inv X pins σ H s) (rv : Vals vs us) (rz : Vals zs ws) (l1 : us.length = n) (l2 : ws.length = ks.length) (asks : sp (vs ++ zs) H Q (E σ)) : wpAny (model X.prog X.w) X.A (call (.ref fA) us (ks.zip ws)) (EP X pins σ Q) X.xe s := by
  have both := rv.append rz
  have bound := hb s us ws I.kIn l1 l2
  refine wpAny_call (codeAny_mono (F.run X.A X.stack s H ⟨us, ks.zip ws⟩ _ _ Q (E σ) room I.env0 bound both asks) fun out s2 got => ?_)
  match out, got with
  | .error er, got => exact hx pins H s er s2 I got
  | .ok (.ret _), got => exact I.after got
  | .ok .next, got => exact got.elim
  | .ok .brk, got => exact got.elim
  | .ok .cont, got => exact got.elim
theorem ve_callK (F : FnOk X.prog X.w X.K X.mg X.base (CXF X) k fA fd ps (spF P (n + ks.length) g)) (hr : Room k X.A) (hg : Gl X x) (hm : X.mg x = some (.ref fA)) (hk : PySem.W.keepIn X.K (.ref fA) = true) (hb : BKw X.K fd ps n ks) (tk : Takes X W)
    (ha : VA P W X (e :: es) fa) (hkw : VKw P W X kws fk) (hall : ((backToKw pos (keywordEach kws X.env)).all fun x => x.fst.isSome) = true := by rfl) (hks : (backToKw pos (keywordEach kws X.env)).filterMap (fun x => x.fst) = ks := by rfl)
    (hdb : (x == ("__debug__" : Str)) = false := by decide) (he : starEach (e :: es) X.env = (false, eval e X.env) :: starEach es X.env := by rfl) (hpl : (((backTo pos (starEach (e :: es) X.env)).any fun x => x.fst) || (backToKw pos (keywordEach kws X.env)).any fun x => x.fst.isNone) = false := by rfl) :
    VE P W X (.Call (.Name x p) (e :: es) kws pos) (eCallK n ks.length g fa fk) := by
  refine ⟨fun pins s σ H Q I h => ?_⟩
  refine wpAny_Call_Name_kw (ld_glob I hg hm ?_ hdb)
  obtain ⟨L, ρ, μ, rs, st, q⟩ := h
  have h : tVA P W fa σ H (fun vs H1 => tVA P W fk σ H1 fun zs H2 => vs.length = n ∧ zs.length = ks.length ∧ spF P (n + ks.length) g (vs ++ zs) H2 Q (WE W σ)) := by
    refine tVA.first rs st q fun ds μ1 vs L1 H1 x1 s1 r1 rs1 q1 => ?_
    refine tVA.first rs1 s1 q1 fun es μ2 zs L2 H2 x2 s2 r2 rs2 q2 => ?_
    by_cases c : ds.length = n ∧ es.length = ks.length
    · rw [if_pos c] at q2
      have r12 := (r1.ext x2).append r2
      exact ⟨by rw [r1.length]; exact c.1, by rw [r2.length]; exact c.2, by rw [List.length_append, r1.length, r2.length, c.1, c.2], L2, ds ++ es, μ2, r12, s2, q2⟩
    · rw [if_neg c] at q2; exact q2.elim
  refine PySem.W.callWith_KW (h₀ := X.base) I.ok.mod.kin hk hall (thn (ha.run pos pins s σ H _ I h) fun us s1 ⟨vs, H1, I1, r, q⟩ => thn (hkw.run pos pins s1 σ H1 _ I1 q) fun ws s2 ⟨zs, H2, I2, rz, l1, l2, q2⟩ => ⟨I2.kIn, ?_⟩) hpl he
  rw [hks]
  exact run_fnSK (E := WE W) (us := us) (ws := ws) F hr hb (passAt tk σ) I2 r rz (by rw [← r.length]; exact l1) (by rw [← rz.length]; exact l2) q2
end
section
variable {Q : D → Sto → Prop} {E : Exs} {ρ : Env} {μ : Sto} {fa fk : SA}
theorem wp_callK {n m : Nat} {g : List D → Sto → R D} (h : (fa ρ μ).wp (fun ds μ1 => (fk ρ μ1).wp (fun es μ2 => (ds.length = n ∧ es.length = m) ∧ (g (ds ++ es) μ2).wp Q E) E) E) : (eCallK n m g fa fk ρ μ).wp Q E :=
  wp_bind (wp_mono h (fun ds μ1 z => wp_bind (wp_mono z (fun es μ2 ⟨a, b⟩ => by rw [if_pos a]; exact b) fun _ _ _ _ z => z)) fun _ _ _ _ z => z)
end
end L3

namespace L3
open PySem PySem.Spec PySem.Calls PyProof.Rows L2
/-! ### what a law's facts tell of own classes -/
section
variable {l : Lw} {P : Pm} {mg : Str → Option Value} {base : Heap} {w : World}
end
/-! ### o.m(), o.f op= e, xs.pop(), x.count(y) -/
/-- o.f op= e -/
def sFaug (cn f : Str) (g : D → D → Sto → R D) (fo fe : SE) : SS := fun ρ μ => (fo ρ μ).thn ρ fun o μ1 => match o, insAt cn μ1 o with
  | .cell k, some (ns, ds) => (match lookD f ns ds with
    | some x => (fe ρ μ1).thn ρ fun y μ2 => (g x y μ2).thn ρ fun z μ3 => (match insAt cn μ3 (.cell k) with
      | some (ns', ds') => if ns'.length < 1000 then .nx ρ (μ3.set k (.ins cn (putN ns' ds' f z).1 (putN ns' ds' f z).2)) else .bad
      | none => .bad)
    | none => .bad)
  | _, _ => .bad
section
variable {P : Pm} {W : WX} {X : Cx} {e o : Expr} {fe fo : SE} {pos tpos apos : Pos} {cn f m : Str} {k : Nat} {fA : Addr} {fd : FuncData} {ps : List Str} {g : List D → Sto → R D}
end
section
variable {Q : D → Sto → Prop} {N B C : Env → Sto → Prop} {T : D → Sto → Prop} {E : Exs} {ρ : Env} {μ : Sto} {fe fo : SE} {s : SS} {cn f : Str} {gd : D → D → Sto → R D}
theorem wp_sFaug (h : (fo ρ μ).wp (fun o μ1 => ∃ k ns ds x, o = .cell k ∧ μ1[k]? = some (.ins cn ns ds) ∧ lookD f ns ds = some x ∧ (fe ρ μ1).wp (fun y μ2 => (gd x y μ2).wp (fun z μ3 => ∃ ns' ds', μ3[k]? = some (.ins cn ns' ds') ∧ ns'.length < 1000 ∧ N ρ (μ3.set k (.ins cn (putN ns' ds' f z).1 (putN ns' ds' f z).2))) E) E) E) : (sFaug cn f gd fo fe ρ μ).wp N T B C E := by
  unfold sFaug
  refine wp_thn (wp_mono h (fun o μ1 z => ?_) fun _ _ _ _ z => z)
  obtain ⟨k, ns, ds, x, rfl, h1, h2, h3⟩ := z
  rw [insAt_cell h1]
  dsimp only
  rw [h2]
  dsimp only
  refine wp_thn (wp_mono h3 (fun y μ2 z => wp_thn (wp_mono z (fun z μ3 q => ?_) fun _ _ _ _ z => z)) fun _ _ _ _ z => z)
  obtain ⟨ns', ds', h4, h5, h6⟩ := q
  rw [insAt_cell h4]
  dsimp only
  rw [if_pos h5]
  exact h6
theorem wp_seqFaug (h : (sFaug cn f gd fo fe ρ μ).wp (fun ρ1 μ1 => (s ρ1 μ1).wp N T B C E) T B C E) : (sSeq (sFaug cn f gd fo fe) s ρ μ).wp N T B C E := wp_sSeq h
end
end L3

namespace L3
open PySem PySem.Spec PySem.Calls PyProof.Rows L2
section
variable {P : Pm} {X : Cx}
end
section
variable {Q : D → Sto → Prop} {E : Exs} {μ : Sto} {z : Str} {k : Int}
end
end L3

namespace L3
open PySem PySem.Spec PySem.Calls PyProof.Rows L2
/-! ### methods and makings that let refusals out -/
/-- o.m(e, ..), refusals go on -/
def eMethX (cn m : Str) (n : Nat) (g : List D → Sto → R D) (fo : SE) (fa : SA) : SE := fun ρ μ => (fo ρ μ).bind fun o μ1 => match insAt cn μ1 o with
  | some (ns, _) => if m ∈ ns then .bad else (fa ρ μ1).bind fun ds μ2 => if ds.length + 1 = n then g (o :: ds) μ2 else .bad
  | none => .bad
/-- C(e, ..), refusals go on -/
def eMakeX (cn : Str) (n : Nat) (g : List D → Sto → R D) (fa : SA) : SE := fun ρ μ => (fa ρ μ).bind fun ds μ1 => if ds.length + 1 = n then ((g (.cell μ1.length :: ds) (μ1 ++ [.ins cn [] []])).bind fun r μ2 => match r with
  | .non => .ok (.cell μ1.length) μ2
  | _ => .bad) else .bad
section
variable {P : Pm} {W : WX} {X : Cx} {e o : Expr} {es : List Expr} {fe fo : SE} {fa : SA} {pos pos' apos p : Pos} {cn f m x : Str} {k n : Nat} {fA : Addr} {fd : FuncData} {ps : List Str} {g : List D → Sto → R D} {sp : Sp} {E : L2.St → XK} {ta : TE} {t : TA} {C : Addr}
end
section
variable {Q : D → Sto → Prop} {E : Exs} {ρ : Env} {μ : Sto} {fo : SE} {fa : SA} {cn m : Str} {n : Nat} {g : List D → Sto → R D}
theorem wp_methX (h : (fo ρ μ).wp (fun o μ1 => ∃ k ns ds0, o = .cell k ∧ μ1[k]? = some (.ins cn ns ds0) ∧ m ∉ ns ∧ (fa ρ μ1).wp (fun ds μ2 => ds.length + 1 = n ∧ (g (.cell k :: ds) μ2).wp Q E) E) E) : (eMethX cn m n g fo fa ρ μ).wp Q E := by
  unfold eMethX
  refine wp_bind (wp_mono h (fun o μ1 z => ?_) fun _ _ _ _ z => z)
  obtain ⟨k, ns, ds0, rfl, h1, h2, h3⟩ := z
  rw [insAt_cell h1]
  dsimp only
  rw [if_neg h2]
  exact wp_bind (wp_mono h3 (fun ds μ2 ⟨a, b⟩ => by rw [if_pos a]; exact b) fun _ _ _ _ z => z)
theorem wp_makeX (h : (fa ρ μ).wp (fun ds μ1 => ds.length + 1 = n ∧ (g (.cell μ1.length :: ds) (μ1 ++ [.ins cn [] []])).wp (fun r μ2 => r = .non ∧ Q (.cell μ1.length) μ2) E) E) : (eMakeX cn n g fa ρ μ).wp Q E := by
  unfold eMakeX
  refine wp_bind (wp_mono h (fun ds μ1 ⟨a, b⟩ => ?_) fun _ _ _ _ z => z)
  rw [if_pos a]
  refine wp_bind (wp_mono b (fun r μ2 ⟨e, q⟩ => ?_) fun _ _ _ _ z => z)
  subst e
  exact q
end
end L3

namespace L3
open PySem PySem.Spec PySem.Calls PyProof.Rows L2
end L3

namespace L3
open PySem PySem.Spec PySem.Calls PyProof.Rows L2
section
variable {P : Pm} {Pr : Program} {w : World} {H : Hp} {L : Lv} {μ : Sto}
end
section
variable {P : Pm} {X : Cx}
end
end L3

namespace L3
open PySem PySem.Spec PySem.Calls PyProof.Rows L2
/-! ### how long a plain thing's text is, and of which signs -/
structure TextOk (n : Nat) (t : Str) : Prop where
  len : t.length ≤ n
  ok : PyData.strOk t = true
theorem TextOk.mono {n m : Nat} {t : Str} (h : TextOk n t) (l : n ≤ m) : TextOk m t := ⟨Nat.le_trans h.len l, h.ok⟩
theorem TextOk.app {n m : Nat} {s t : Str} (h : TextOk n s) (k : TextOk m t) : TextOk (n + m) (s ++ t) := by
  refine ⟨by rw [strLen_append]; have := h.len; have := k.len; omega, ?_⟩
  have a := h.ok
  have b := k.ok
  unfold PyData.strOk at *
  show (s.cps ++ t.cps).all _ = true
  rw [Array.all_append, a, b]; rfl
theorem TextOk.int {i : Int} {k : Nat} (hk : 0 < k) (h : i.natAbs.log2 < k) : TextOk (k + 1) (Str.ofString (toString i)) := by
  have ok : PyData.strOk (Str.ofString (toString i)) = true := by
    rw [int_text]
    refine okT.s ?_
    unfold intL
    split
    · exact okT.cons (by decide) (okT.digits (TL.numL_digits _))
    · exact okT.digits (TL.numL_digits _)
  refine ⟨?_, ok⟩
  have := int_text_length_le hk h
  rw [PySem.ofString_length]
  exact this
theorem TextOk.from {b : Nat} : ∀ {ts : List Str} {a k : Nat} {acc : Str}, (∀ t ∈ ts, TextOk b t) → TextOk a acc → TextOk (a + ts.length * (b + 2)) (textFrom k acc ts)
  | [], a, k, acc, _, h => by simpa [textFrom] using h
  | t :: ts, a, k, acc, ht, h => by
    have c : TextOk 2 ((if k > 0 then ", " else "" : String) : Str) := by
      split
      · exact ⟨by decide, by decide +kernel⟩
      · exact ⟨by decide, by decide +kernel⟩
    have z := TextOk.from (k := k + 1) (fun u hu => ht u (List.mem_cons_of_mem _ hu)) ((h.app c).app (ht t (List.mem_cons_self ..)))
    refine TextOk.mono (n := (a + 2 + b) + ts.length * (b + 2)) z ?_
    rw [List.length_cons, Nat.succ_mul]; omega
theorem TextOk.join {b : Nat} : ∀ {ts : List Str}, (∀ t ∈ ts, TextOk b t) → TextOk (ts.length * (b + 2)) (Str.join ", " ts)
  | [], _ => ⟨Nat.zero_le _, by decide +kernel⟩
  | [t], h => (h t (List.mem_cons_self ..)).mono (by simp)
  | t :: u :: r, h => by
    have z := TextOk.join (ts := u :: r) fun x hx => h x (List.mem_cons_of_mem _ hx)
    have c : TextOk 2 ((", " : String) : Str) := ⟨by decide, by decide +kernel⟩
    refine TextOk.mono (((h t (List.mem_cons_self ..)).app c).app z) ?_
    rw [List.length_cons (a := t), Nat.succ_mul]; omega
theorem shownAll_map : ∀ ps : List PyData, PyData.shownAll ps = ps.map PyData.shown
  | [] => by simp [PyData.shownAll]
  | p :: ps => by simp [PyData.shownAll, shownAll_map ps]
theorem TextOk.list {b : Nat} {ps : List PyData} (h : ∀ p ∈ ps, TextOk b p.shown) : TextOk (ps.length * (b + 2) + 2) (PyData.shown (.list ps)) := by
  have e : PyData.shown (.list ps) = listText (ps.map PyData.shown) := by rw [← shownAll_map]; simp [PyData.shown]
  rw [e]
  unfold listText
  have z := TextOk.from (ts := ps.map PyData.shown) (a := 1) (k := 0) (acc := "[") (b := b) (fun t ht => by obtain ⟨p, hp, rfl⟩ := List.mem_map.mp ht; exact h p hp) ⟨by decide, by decide +kernel⟩
  have c : TextOk 1 (("]" : String) : Str) := ⟨by decide, by decide +kernel⟩
  refine (z.app c).mono ?_
  rw [List.length_map]; omega
theorem TextOk.tuple {b : Nat} {ps : List PyData} (h : ∀ p ∈ ps, TextOk b p.shown) : TextOk (ps.length * (b + 2) + 3) (PyData.shown (.tuple ps)) := by
  have e : PyData.shown (.tuple ps) = tupleText (ps.map PyData.shown) := by rw [← shownAll_map]; simp [PyData.shown]
  rw [e]
  unfold tupleText
  have z := TextOk.join (ts := ps.map PyData.shown) (b := b) (fun t ht => by obtain ⟨p, hp, rfl⟩ := List.mem_map.mp ht; exact h p hp)
  have c0 : TextOk 1 (("(" : String) : Str) := ⟨by decide, by decide +kernel⟩
  have c : TextOk 2 ((if (ps.map PyData.shown).length == 1 then ",)" else ")" : String) : Str) := by
    split
    · exact ⟨by decide, by decide +kernel⟩
    · exact ⟨by decide, by decide +kernel⟩
  refine ((c0.app z).app c).mono ?_
  rw [List.length_map]; omega
theorem canAll {ps : List PyData} (h : ∀ p ∈ ps, p.canLay0 = true) : PyData.canLayAll0 ps = true := by
  induction ps with
  | nil => simp [PyData.canLayAll0]
  | cons p ps ih => simp [PyData.canLayAll0, h p (List.mem_cons_self ..), ih fun q hq => h q (List.mem_cons_of_mem _ hq)]
theorem depAll {ps : List PyData} {n : Nat} (h : ∀ p ∈ ps, p.depth ≤ n) : PyData.depthAll ps ≤ n := by
  induction ps with
  | nil => simp [PyData.depthAll]
  | cons p ps ih =>
    have := h p (List.mem_cons_self ..)
    have := ih fun q hq => h q (List.mem_cons_of_mem _ hq)
    simp only [PyData.depthAll]; omega
theorem shwAll {ps : List PyData} (h : ∀ p ∈ ps, p.showable = true) : PyData.showableAll ps = true := by
  induction ps with
  | nil => simp [PyData.showableAll]
  | cons p ps ih => simp [PyData.showableAll, h p (List.mem_cons_self ..), ih fun q hq => h q (List.mem_cons_of_mem _ hq)]
/-- what == and repr ask of a plain thing -/
structure PyOk (n k : Nat) (p : PyData) : Prop where
  can : p.canLay0 = true
  dep : p.depth ≤ n
  shw : p.showable = true
  txt : TextOk k p.shown
theorem PyOk.mono {n m k l : Nat} {p : PyData} (h : PyOk n k p) (h1 : n ≤ m) (h2 : k ≤ l) : PyOk m l p := ⟨h.can, Nat.le_trans h.dep h1, h.shw, h.txt.mono h2⟩
theorem PyOk.shaped {n k : Nat} {p : PyData} (h : PyOk n k p) (l : n ≤ 64) : SeqAt.shaped p = true := by
  unfold SeqAt.shaped
  rw [h.can, decide_eq_true (Nat.le_trans h.dep l)]; rfl
theorem PyOk.int {i : Int} {k : Nat} (h : i.natAbs < 2 ^ k) (hk : 0 < k) (l : k ≤ 1900) : PyOk 0 (k + 1) (.int i) := by
  have lg : i.natAbs.log2 < k := by
    by_cases h0 : i.natAbs = 0
    · rw [h0]; simpa using hk
    · exact (Nat.log2_lt h0).mpr h
  refine ⟨by simp [PyData.canLay0], by simp [PyData.depth], by simp [PyData.showable]; omega, ?_⟩
  have := TextOk.int hk lg
  simpa [PyData.shown] using this
theorem PyOk.list {n b : Nat} {ps : List PyData} (h : ∀ p ∈ ps, PyOk n b p) : PyOk (n + 1) (ps.length * (b + 2) + 2) (.list ps) :=
  ⟨by simpa [PyData.canLay0] using canAll fun p hp => (h p hp).can, by simpa [PyData.depth] using depAll fun p hp => (h p hp).dep, by simpa [PyData.showable] using shwAll fun p hp => (h p hp).shw, .list fun p hp => (h p hp).txt⟩
theorem PyOk.tuple {n b : Nat} {ps : List PyData} (h : ∀ p ∈ ps, PyOk n b p) : PyOk (n + 1) (ps.length * (b + 2) + 3) (.tuple ps) :=
  ⟨by simpa [PyData.canLay0] using canAll fun p hp => (h p hp).can, by simpa [PyData.depth] using depAll fun p hp => (h p hp).dep, by simpa [PyData.showable] using shwAll fun p hp => (h p hp).shw, .tuple fun p hp => (h p hp).txt⟩
/-- what repr asks of a plain thing -/
structure PyShow (n k : Nat) (p : PyData) : Prop where
  dep : p.depth ≤ n
  shw : p.showable = true
  txt : TextOk k p.shown
theorem PyShow.mono {n m k l : Nat} {p : PyData} (h : PyShow n k p) (h1 : n ≤ m) (h2 : k ≤ l) : PyShow m l p := ⟨Nat.le_trans h.dep h1, h.shw, h.txt.mono h2⟩
theorem PyShow.list {n b : Nat} {ps : List PyData} (h : ∀ p ∈ ps, PyShow n b p) : PyShow (n + 1) (ps.length * (b + 2) + 2) (.list ps) :=
  ⟨by simpa [PyData.depth] using depAll fun p hp => (h p hp).dep, by simpa [PyData.showable] using shwAll fun p hp => (h p hp).shw, .list fun p hp => (h p hp).txt⟩
theorem PyShow.tuple {n b : Nat} {ps : List PyData} (h : ∀ p ∈ ps, PyShow n b p) : PyShow (n + 1) (ps.length * (b + 2) + 3) (.tuple ps) :=
  ⟨by simpa [PyData.depth] using depAll fun p hp => (h p hp).dep, by simpa [PyData.showable] using shwAll fun p hp => (h p hp).shw, .tuple fun p hp => (h p hp).txt⟩
theorem reprChar_ok {q c : Nat} (hc : c < 1114112) : ∀ d ∈ Builtin.Str.reprChar q c, d < 1114112 := by
  have hx : ∀ w : Nat, ∀ d ∈ List.replicate (w - ((Nat.toDigits 16 c).map Char.toNat).length) 48 ++ (Nat.toDigits 16 c).map Char.toNat, d < 1114112 := fun w d hd => by
    rcases List.mem_append.mp hd with h | h
    · have := (List.mem_replicate.mp h).2; omega
    · obtain ⟨ch, _, rfl⟩ := List.mem_map.mp h
      have := ch.valid
      show ch.val.toNat < 1114112
      rcases this with h | h
      · omega
      · exact h.2
  intro d hd
  unfold Builtin.Str.reprChar at hd
  dsimp only at hd
  repeat' split at hd
  all_goals first
    | (simp only [List.mem_cons, List.not_mem_nil, or_false] at hd; omega)
    | (rcases List.mem_append.mp hd with h | h
       · simp only [List.mem_cons, List.not_mem_nil, or_false] at h; omega
       · exact hx _ d h)
theorem TextOk.rep {x : Str} {n : Nat} (ok : PyData.strOk x = true) (h : x.length ≤ n) : TextOk (10 * n + 2) (reprText x) := by
  have hc : ∀ c ∈ x.cps.toList, c < 1114112 := by
    unfold PyData.strOk at ok
    rw [← Array.all_toList, List.all_eq_true] at ok
    exact fun c hc => by simpa using ok c hc
  refine ⟨Nat.le_trans (StrLaws.reprText_len x fun c h => Nat.lt_of_lt_of_le (hc c h) (by decide)) (by omega), ?_⟩
  have q : reprQuote x < 1114112 := by unfold reprQuote; split <;> decide
  have go : ∀ (l : List Nat) (acc : Array Nat), (∀ c ∈ l, c < 1114112) → (∀ c ∈ acc.toList, c < 1114112) → ∀ c ∈ (l.foldl (fun out c => out ++ (Builtin.Str.reprChar (reprQuote x) c).toArray) acc).toList, c < 1114112 := by
    intro l
    induction l with
    | nil => intro acc _ h; exact h
    | cons c l ih =>
      intro acc h1 h2
      refine ih _ (fun d hd => h1 d (List.mem_cons_of_mem _ hd)) fun d hd => ?_
      rw [Array.toList_append] at hd
      rcases List.mem_append.mp hd with h | h
      · exact h2 d h
      · exact reprChar_ok (h1 c (List.mem_cons_self ..)) d (by simpa using h)
  have z := go x.cps.toList #[reprQuote x] hc (fun c hc => by simp at hc; omega)
  unfold PyData.strOk reprText
  rw [← Array.all_toList, List.all_eq_true, Array.toList_push, ← Array.foldl_toList]
  intro c hc
  rcases List.mem_append.mp hc with h | h
  · exact decide_eq_true (z c h)
  · rw [List.mem_singleton] at h
    subst h
    exact decide_eq_true q
theorem PyShow.str {x : Str} {n : Nat} (ok : PyData.strOk x = true) (h : x.length ≤ n) : PyShow 0 (10 * n + 2) (.str x) :=
  ⟨by simp [PyData.depth], by simp [PyData.showable], by simpa [PyData.shown] using TextOk.rep ok h⟩
theorem TextOk.kv {b c : Nat} : ∀ {kvs : List (PyData × PyData)}, (∀ kv ∈ kvs, TextOk b kv.1.shown ∧ TextOk c kv.2.shown) → ∀ t ∈ PyData.shownKv kvs, TextOk (b + 2 + c) t
  | [], _, t, ht => by simp [PyData.shownKv] at ht
  | (k, v) :: r, h, t, ht => by
    rw [PyData.shownKv] at ht
    rcases List.mem_cons.mp ht with rfl | ht
    · obtain ⟨h1, h2⟩ := h (k, v) (List.mem_cons_self ..)
      exact (h1.app ⟨by decide, by decide +kernel⟩).app h2
    · exact TextOk.kv (fun kv hkv => h kv (List.mem_cons_of_mem _ hkv)) t ht
theorem shownKv_len : ∀ kvs : List (PyData × PyData), (PyData.shownKv kvs).length = kvs.length
  | [] => by simp [PyData.shownKv]
  | (k, v) :: r => by simp [PyData.shownKv, shownKv_len r]
theorem shwKv : ∀ {kvs : List (PyData × PyData)}, (∀ kv ∈ kvs, kv.1.showable = true ∧ kv.2.showable = true) → PyData.showableKv kvs = true
  | [], _ => by simp [PyData.showableKv]
  | (k, v) :: r, h => by
    obtain ⟨h1, h2⟩ := h (k, v) (List.mem_cons_self ..)
    simp only at h1 h2
    simp [PyData.showableKv, h1, h2, shwKv fun kv hkv => h kv (List.mem_cons_of_mem _ hkv)]
theorem depKv {n : Nat} : ∀ {kvs : List (PyData × PyData)}, (∀ kv ∈ kvs, kv.1.depth ≤ n ∧ kv.2.depth ≤ n) → PyData.depthKv kvs ≤ n
  | [], _ => by simp [PyData.depthKv]
  | (k, v) :: r, h => by
    obtain ⟨h1, h2⟩ := h (k, v) (List.mem_cons_self ..)
    have := depKv fun kv hkv => h kv (List.mem_cons_of_mem _ hkv)
    simp only at h1 h2
    simp only [PyData.depthKv]; omega
theorem PyShow.dict {n b c : Nat} {kvs : List (PyData × PyData)} (h : ∀ kv ∈ kvs, PyShow n b kv.1 ∧ PyShow n c kv.2) : PyShow (n + 1) (kvs.length * (b + 2 + c + 2) + 2) (.dict kvs) := by
  refine ⟨by simpa [PyData.depth] using depKv fun kv hkv => ⟨(h kv hkv).1.dep, (h kv hkv).2.dep⟩, by simpa [PyData.showable] using shwKv fun kv hkv => ⟨(h kv hkv).1.shw, (h kv hkv).2.shw⟩, ?_⟩
  have e : PyData.shown (.dict kvs) = dictText (PyData.shownKv kvs) := by simp [PyData.shown]
  rw [e]
  unfold dictText
  have z := TextOk.join (TextOk.kv fun kv hkv => ⟨(h kv hkv).1.txt, (h kv hkv).2.txt⟩)
  have c0 : TextOk 1 (("{" : String) : Str) := ⟨by decide, by decide +kernel⟩
  have c1 : TextOk 1 (("}" : String) : Str) := ⟨by decide, by decide +kernel⟩
  refine ((c0.app z).app c1).mono ?_
  rw [shownKv_len]; omega
section
variable {μ : Sto} {Q : D → Sto → Prop} {E : Exs} {d : D} {p : PyData} {n k : Nat}
end
end L3

namespace L3
open PySem PySem.Spec PySem.Calls PyProof.Rows L2
section
variable {P : Pm} {X : Cx} {H : Hp} {L : Lv} {μ : Sto}
end
end L3

namespace L3
open PySem PySem.Spec PySem.Calls PyProof.Rows L2
/-- what is walked at each turn: a list or a tuple -/
def walkB (μ : Sto) : D → Option (List D × (Sto → Bool))
  | .tup ds => some (ds, fun _ => true)
  | d => walkL μ d
def iEnumBD (fa : SA) : SI := fun ρ μ => (fa ρ μ).bind fun ds μ1 => match ds with
  | [d] => (match walkB μ1 d with
    | some it => .ok (enumD 0 it.1, it.2) μ1
    | none => .bad)
  | _ => .bad
section
variable {P : Pm} {W : WX} {X : Cx} {fa : SA} {p pos : Pos}
end
theorem wp_enumB {E : Exs} {ρ : Env} {μ : Sto} {fa : SA} {Q : List D × (Sto → Bool) → Sto → Prop} (h : (fa ρ μ).wp (fun ds μ1 => ∃ d, ds = [d] ∧ ∃ it, walkB μ1 d = some it ∧ Q (enumD 0 it.1, it.2) μ1) E) : (iEnumBD fa ρ μ).wp Q E :=
  wp_bind (wp_mono h (fun ds μ1 ⟨d, e, it, e2, q⟩ => by subst e; dsimp only; rw [e2]; exact q) fun _ _ _ _ z => z)
end L3

namespace L3
open PySem PySem.Spec PySem.Calls PyProof.Rows L2
end L3

namespace L3
open PySem PySem.Spec PySem.Calls PyProof.Rows L2
end L3

namespace L3
open PySem PySem.Spec PyProof.Rows L2
/-! ### lambdas that are kept in a list: their parameters, if any, all have the default 0 -/
abbrev lamNm (X : Cx) : Str := X.env.qual ++ "<lambda>"
abbrev lamOb (X : Cx) (params : Arguments) (body : Expr) (scope : Scope) (dV doc pm : Value) (cd : Addr) (ctv : Value) : Obj :=
  PySem.W.kdv_obj "<lambda>" (lamNm X) params (.expr body) scope (cloFrom X.env.cells scope.names []) dV doc pm cd ctv
/-- the function's own object is known -/
def LamO (f : Addr) (ob : Obj) : HO := .ext fun h => h.get? f = some ob
theorem LamO.ne {f : Addr} {ob : Obj} (ps : Array Value) : LamO f ob ≠ .tbl ps := fun z => by
  unfold LamO at z
  cases z
structure LamAt (X : Cx) (params : Arguments) (body : Expr) (scope : Scope) (f : Addr) (dV doc pm : Value) (cd : Addr) (ctv : Value) (H : Hp) : Prop where
  fn : H f = some (LamO f (lamOb X params body scope dV doc pm cd ctv))
  co : H cd = some (LamX.CodeO cd (lamNm X))
  df : (params.defaults = [] ∧ dV = .none) ∨ (params.defaults ≠ [] ∧ ∃ t, dV = .ref t ∧ H t = some (.tup (params.defaults.map fun _ => V.int 0)))
theorem LamAt.ext {X : Cx} {params : Arguments} {body : Expr} {scope : Scope} {f : Addr} {dV doc pm : Value} {cd : Addr} {ctv : Value} {H H1 : Hp} (a : LamAt X params body scope f dV doc pm cd ctv H) (e : LamX.ExtN H H1) : LamAt X params body scope f dV doc pm cd ctv H1 := by
  refine ⟨e _ _ a.fn LamO.ne, e _ _ a.co LamX.codeO_ne, ?_⟩
  rcases a.df with z | ⟨z, t, h1, h2⟩
  · exact .inl z
  · exact .inr ⟨z, t, h1, e _ _ h2 fun ps q => nomatch q⟩
def Zeros (es : List Expr) : Prop := ∀ e ∈ es, ∃ j p, e = .Constant (.int 0) j p
section
variable {X : Cx} {pins : List (Addr × Obj)} {σ : L2.St} {H : Hp}
theorem zeros_all {E : Value → Shared → Prop} : ∀ {es : List Expr}, Zeros es → ∀ {s : Shared} {Q : List Value → Shared → Prop}, Inv X pins σ H s → (∀ vs s', Vals (es.map fun _ => V.int 0) vs → Inv X pins σ H s' → Q vs s') →
    wpAny (model X.prog X.w) X.A (evalAll (evalEach es X.env)) Q E s
  | [], _, s, Q, I, h => PySem.W.kdv_all0 (h [] s .nil I)
  | e :: es, z, s, Q, I, h => by
    obtain ⟨j, p, rfl⟩ := z e List.mem_cons_self
    refine PySem.W.kdv_all1 (wpAny_Constant_int ?_)
    exact zeros_all (fun e he => z e (List.mem_cons_of_mem _ he)) (I.tok _) fun vs s' r I' => h (_ :: vs) s' (.cons ⟨_, rfl⟩ r) I'
/-- the tail of a lambda's making; dV: its defaults -/
theorem lam_tail {s : Shared} {T : List (Addr × Str)} {c Pt : Addr} {params : Arguments} {body : Expr} {scope : Scope} {pos : Pos} {dV : Value} {E Q : Value → Shared → Prop} (I : Inv X pins σ H s) (TB : LamX.TabB X.base X.mg c Pt) (hcode : X.env.code = .ref c)
    (hm : (Pt, lamNm X) ∈ T) (hu : ∀ p ∈ T, p.1 = Pt → p.2 = lamNm X) (hT : LamX.Tabs T H) (hfree : ∀ y ∈ scope.names, y.2 = .free → ∃ c, X.env.cells.lookup y.1 = some c)
    (h : ∀ (f cd : Addr) (doc pm ctv : Value) (H1 : Hp) (s' : Shared), Inv X pins σ H1 s' → LamX.ExtN H H1 → LamX.Tabs T H1 → f ∉ frs X.stack →
      H1 f = some (LamO f (lamOb X params body scope dV doc pm cd ctv)) → H1 cd = some (LamX.CodeO cd (lamNm X)) → Q (.ref f) s') :
    wpAny (model X.prog X.w) X.A (makeTail "<lambda>" (lamNm X) params (.expr body) scope X.env dV .none none pos pos.line) Q E s := by
  obtain ⟨tb, hTb, triples, among⟩ := hT _ hm
  have bltP : s.heap.BuiltinsAt X.mg Pt := TB.bm.keeps I.bk
  have rawP : s.heap.get? Pt = some { cls := .none, data := .fields tb } := I.hok Pt _ hTb
  have young : ∀ f, s.heap.objs.size ≤ f → f ∉ frs X.stack := fun f hf z => (List.mem_cons.mp (I.stkSub _ z)).elim (fun e => Nat.lt_irrefl _ (Nat.lt_of_lt_of_le (e ▸ I.lt) hf)) fun e => I.nofs hf e
  -- the function's object, laid behind all else
  have last : ∀ {H1 : Hp} {hp : Heap} {tk : Nat} {ob : Obj}, ob.isFreed = false → Inv X pins σ H1 { s with heap := hp, toks := tk } → Inv X pins σ (upd H1 hp.objs.size (LamO hp.objs.size ob)) { s with heap := hp.push ob, toks := tk } := fun {H1 hp tk ob} nf J =>
    J.laid (t' := tk) (fun b u e => Heap.get?_push_of_some _ e) (Nat.le_refl _) ⟨Heap.get?_push_size _ nf, ⟨_, Heap.get?_push_size _ nf⟩, fun h1 h2 e st => st _ e⟩
  cases got : codeAmong pos tb.toList with
  | none =>
    refine PySem.W.kdv_makeTail (mg := X.mg) (c := c) (P := Pt) (ps := tb) (closure_ok hfree) I.ok.glob (I.mod.glob.keeps I.bk) hcode (TB.code.keeps I.bk) rawP triples got TB.gP bltP fun cd ctv doc hp tk but above below rec_ tab_ => ?_
    obtain ⟨c2, oc, vs, t, ec, o1, o2, o3⟩ := rec_
    obtain rfl : cd = c2 := by cases ec; rfl
    have size_ : s.heap.objs.size ≤ hp.objs.size := Nat.le_trans above (Nat.le_of_lt below)
    have noC : H cd = none := I.hok.fresh above
    have J := LamX.inv_table (t' := tk) (more := #[rawInt pos.line, rawInt pos.col, .ref cd]) (h' := hp) (q := lamNm X) I hTb (fun b o hb e => but b o hb e) tab_ above ⟨oc, vs, t, o1, o2, o3⟩
    have J2 := last (ob := lamOb X params body scope dV doc ((X.mg "__name__").getD .none) cd ctv) rfl J
    generalize hG : upd (upd H Pt (.tbl (tb ++ #[rawInt pos.line, rawInt pos.col, .ref cd]))) cd (LamX.CodeO cd (lamNm X)) = G at J J2
    have grew : LamX.ExtN H G := fun b o e n => by
      rw [← hG, upd_ne (ne_of_none e noC), upd_ne (fun z => n tb (Option.some.inj (e.symm.trans (by rw [z]; exact hTb))))]
      exact e
    have noF : G hp.objs.size = none := J.hok.fresh (Nat.le_refl _)
    have grew2 : LamX.ExtN H (upd G hp.objs.size (LamO hp.objs.size (lamOb X params body scope dV doc ((X.mg "__name__").getD .none) cd ctv))) := fun b o e n => upd_grow noF b o (grew b o e n)
    have atC : G cd = some (LamX.CodeO cd (lamNm X)) := by rw [← hG, upd_same]
    have tabs : LamX.Tabs T G := fun p hp => by
      by_cases hb : p.1 = Pt
      · rw [hu p hp hb, hb]
        refine ⟨_, by rw [← hG, upd_ne (ne_of_none hTb noC), upd_same], by rw [show (tb ++ #[rawInt pos.line, rawInt pos.col, .ref cd]).toList = tb.toList ++ [rawInt pos.line, rawInt pos.col, .ref cd] by simp]; exact PySem.TriplesOk_snoc _ _ _ _ triples, fun p' cv hcv => ?_⟩
        rw [show (tb ++ #[rawInt pos.line, rawInt pos.col, .ref cd]).toList = tb.toList ++ [rawInt pos.line, rawInt pos.col, .ref cd] by simp] at hcv
        exact (LamX.among_app _ triples hcv).elim (fun z => let ⟨c0, e1, e2⟩ := among p' cv z; ⟨c0, e1, grew _ _ e2 LamX.codeO_ne⟩) fun z => ⟨cd, z, atC⟩
      · obtain ⟨tb2, a1, a2, a3⟩ := hT p hp
        refine ⟨tb2, by rw [← hG, upd_ne (ne_of_none a1 noC), upd_ne hb]; exact a1, a2, fun p' cv hcv => ?_⟩
        exact let ⟨c0, e1, e2⟩ := a3 p' cv hcv; ⟨c0, e1, grew _ _ e2 LamX.codeO_ne⟩
    exact h hp.objs.size cd doc _ ctv _ _ J2 grew2 (tabs.ext (upd_grow noF)) (young _ size_) upd_same (upd_grow noF _ _ atC)
  | some cv =>
    obtain ⟨cd, rfl, known⟩ := among pos cv got
    refine PySem.W.kdv_makeTailHit (mg := X.mg) (c := c) (P := Pt) (ps := tb) (closure_ok hfree) I.ok.glob (I.mod.glob.keeps I.bk) hcode (TB.code.keeps I.bk) rawP triples got bltP fun ctv doc hp tk keeps size_ => ?_
    have J : Inv X pins σ H { s with heap := hp, toks := tk } := I.kept fun b o e => keeps b o e
    have J2 := last (ob := lamOb X params body scope dV doc ((X.mg "__name__").getD .none) cd ctv) rfl J
    have noF : H hp.objs.size = none := J.hok.fresh (Nat.le_refl _)
    exact h hp.objs.size cd doc _ ctv _ _ J2 (.of (upd_grow noF)) (hT.ext (upd_grow noF)) (young _ size_) upd_same (upd_grow noF _ _ known)
/-- a lambda, as a thing -/
def tLam2 (T : List (Addr × Str)) (X : Cx) (params : Arguments) (body : Expr) (scope : Scope) : TE := fun _ H Q => LamX.Tabs T H ∧ ∀ (f : Addr) (dV doc pm : Value) (cd : Addr) (ctv : Value) (H1 : Hp), LamX.ExtN H H1 → LamX.Tabs T H1 → f ∉ frs X.stack → LamAt X params body scope f dV doc pm cd ctv H1 → Q (.ref f) H1
theorem pe_lam2 {T : List (Addr × Str)} {c Pt : Addr} {params : Arguments} {body : Expr} {scope : Scope} {pos : Pos} (TB : LamX.TabB X.base X.mg c Pt) (hcode : X.env.code = .ref c) (hm : (Pt, lamNm X) ∈ T) (hu : ∀ p ∈ T, p.1 = Pt → p.2 = lamNm X)
    (hfree : ∀ y ∈ scope.names, y.2 = .free → X.env.scope.names.lookup y.1 = some .cell ∨ X.env.scope.names.lookup y.1 = some .free) (hz : Zeros params.defaults) (hk : params.kw_defaults = []) (hl : params.defaults.length ≤ 100) :
    PE X (.Lambda params body scope pos) (tLam2 T X params body scope) := by
  refine ⟨fun pins s σ H Q I ⟨hT, h⟩ => ?_⟩
  have clo : ∀ y ∈ scope.names, y.2 = .free → ∃ c, X.env.cells.lookup y.1 = some c := fun y hy e => I.ok.has _ (hfree y hy e)
  cases hd : params.defaults with
  | nil =>
    have none_ : defaultsOf params X.env = ([], []) := by
      rw [defaultsOf_eq, hd, hk]
      rfl
    refine PySem.W.kla_eval none_ ?_
    rw [makeFunction_eq]
    simp only [List.zip_nil_right, List.filterMap_nil, List.isEmpty_nil, if_true, pure_bind]
    exact lam_tail I TB hcode hm hu hT clo fun f cd doc pm ctv H1 s' J ex tb nf a1 a2 => ⟨.ref f, H1, J, rfl, h f _ doc pm cd ctv H1 ex tb nf ⟨a1, a2, .inl ⟨hd, rfl⟩⟩⟩
  | cons e0 es =>
    have some_ : params.defaults.isEmpty = false := by rw [hd]; rfl
    refine PySem.W.kdv_lam some_ hk (zeros_all hz I fun dv s1 rv I1 => ?_)
    have lv := rv.length
    rw [List.length_map] at lv
    have dne : dv.isEmpty = false := by
      cases dv with
      | nil => rw [hd] at lv; cases lv
      | cons _ _ => rfl
    rw [makeFunction_eq]
    simp only [List.zip_nil_right, List.filterMap_nil, List.isEmpty_nil, if_true, pure_bind, dne, Bool.false_eq_true, if_false]
    refine wpAny_bind (wpAny_newTextTuple ?_)
    have noT : H s1.heap.objs.size = none := I1.hok.fresh (Nat.le_refl _)
    have I2 : Inv X pins σ (upd H s1.heap.objs.size (.tup (params.defaults.map fun _ => V.int 0))) { s1 with heap := s1.heap.push { cls := .type "tuple", data := .seq dv.toArray } } :=
      I1.laid (t' := s1.toks) (fun b u e => Heap.get?_push_of_some _ e) (Nat.le_refl _) ⟨by rw [List.length_map]; exact line100 hl, dv, rv, _, Heap.get?_push_size _ rfl, rfl, _, rfl⟩
    exact lam_tail I2 TB hcode hm hu (hT.ext (upd_grow noT)) clo fun f cd doc pm ctv H1 s' J ex tb nf a1 a2 =>
      ⟨.ref f, H1, J, rfl, h f _ doc pm cd ctv H1 ((LamX.ExtN.of (upd_grow noT)).trans ex) tb nf ⟨a1, a2, .inr ⟨(fun z => by simp [hd] at z), _, rfl, ex _ _ upd_same fun ps z => nomatch z⟩⟩⟩
end
end L3

namespace L3
open PySem PySem.Spec PyProof.Rows L2
/-! ### kept lambdas, called from a comprehension of the def that made them -/
structure LamK (N : List Str) (sc scope : Scope) (as : List Str) : Prop where
  kind : scope.kind = .function
  co : scope.isCoroutine = false
  gen : scope.isGenerator = false
  noc : ∀ y ∈ scope.names, y.2 ≠ .cell
  loc : ∀ y ∈ scope.names, y.2 = .local → y.1 ∉ N
  par : ∀ a ∈ as, scope.names.lookup a = some .local
  free : ∀ y ∈ scope.names, y.2 = .free → sc.names.lookup y.1 = some .cell ∨ sc.names.lookup y.1 = some .free
def lamKB (N : List Str) (sc scope : Scope) (as : List Str) : Bool :=
  decide (scope.kind = .function) && !scope.isCoroutine && !scope.isGenerator && (scope.names.all fun y => !decide (y.2 = .cell) && (!decide (y.2 = .local) || !decide (y.1 ∈ N)) && (!decide (y.2 = .free) || decide (sc.names.lookup y.1 = some .cell) || decide (sc.names.lookup y.1 = some .free))) &&
    as.all fun a => decide (scope.names.lookup a = some .local)
theorem lamK_by {N : List Str} {sc scope : Scope} {as : List Str} (h : lamKB N sc scope as = true) : LamK N sc scope as := by
  unfold lamKB at h
  simp only [Bool.and_eq_true, Bool.or_eq_true, Bool.not_eq_true', decide_eq_true_eq, decide_eq_false_iff_not, List.all_eq_true] at h
  obtain ⟨⟨⟨⟨k1, k2⟩, k3⟩, k4⟩, k5⟩ := h
  refine ⟨k1, k2, k3, fun y hy => (k4 y hy).1.1, fun y hy e => (k4 y hy).1.2.elim (fun z => absurd e z) id, k5, fun y hy e => ?_⟩
  rcases (k4 y hy).2 with (z | z) | z
  · exact absurd e z
  · exact .inl z
  · exact .inr z
structure LamBind (params : Arguments) (body : Expr) (scope : Scope) (as : List Str) : Prop where
  b0 : params.defaults = [] → as = [] ∧ ∀ (q : Str) (cl : List (Str × Addr)) (doc pm cv ctv : Value), bindArgs (PySem.W.kdv_fn "<lambda>" q params (.expr body) scope cl .none doc pm cv ctv) ⟨[], []⟩ = pure []
  b1 : params.defaults ≠ [] → ∀ (q : Str) (cl : List (Str × Addr)) (t : Addr) (doc pm cv ctv : Value) (us : List Value), us.length = params.defaults.length →
    ∃ k, bindArgs (PySem.W.kdv_fn "<lambda>" q params (.expr body) scope cl (.ref t) doc pm cv ctv) ⟨[], []⟩ = seqItems? (.ref t) >>= k ∧ k (some us.toArray) = pure (as.zip us)
section
variable {X : Cx} {pins : List (Addr × Obj)} {σ : L2.St} {H HZ : Hp} {s s1 : Shared} {fp : List Addr}
/-- none of the things at fp is a captured name's cell -/
def Off (X : Cx) (fp : List Addr) : Prop := ∀ b ∈ fp, ∀ y c, X.env.cells.lookup y = some c → c ≠ b
theorem kept_start {A : Around} {outer : List _root_.PySem.Env} {E : XK} {scope : Scope} {as : List Str} {f cd : Addr} {hp : Heap} {tk : Nat} {mB : Str → Option Value} (I : Inv X pins σ H s) (off : Off X fp) (K : LamK X.N X.env.scope scope as)
    (e0 : Env0 X.prog X.w X.K X.mg X.base A outer s1 HZ) (calm : A.handled = none) (un : Un (frs X.stack) fp H HZ s.heap s1.heap) (ns : hp.Ns s1.heap.objs.size mB) (kp : ∀ b o, s1.heap.get? b = some o → hp.get? b = some o) :
    Inv (LamX.lamCx X A outer s1 HZ E scope f cd) [] σ HZ { s1 with heap := hp, toks := tk } := by
  have has_ : ∀ y ∈ scope.names, y.2 = .free → ∃ c, X.env.cells.lookup y.1 = some c := fun y hy e => I.ok.has _ (K.free y hy e)
  have up : ∀ {y c}, (cloFrom X.env.cells scope.names []).lookup y = some c → X.env.cells.lookup y = some c := fun {y c} e => by
    rcases cloFrom_mem (PySem.mem_of_lookup e) with m | ⟨m, w⟩
    · cases m
    · obtain ⟨c1, q⟩ := has_ _ m rfl
      rw [w]
      have q : X.env.cells.lookup y = some c1 := q
      rw [q]
      rfl
  have down : ∀ {y}, scope.names.lookup y = some .free → ∃ c, (cloFrom X.env.cells scope.names []).lookup y = some c := fun {y} m =>
    mem_lookup (cloFrom_has (cells := X.env.cells) (acc := []) (PySem.mem_of_lookup m))
  have nfp : ∀ {y c}, X.env.cells.lookup y = some c → c ∉ fp := fun {y c} e m => off c m y c e rfl
  have stays : ∀ {y : Str} {c : Addr} {v : Option Value}, X.env.cells.lookup y = some c → s.heap.IsCell c v → hp.IsCell c v := fun {y c v} e ⟨o, ho, hd⟩ =>
    let ⟨_, q⟩ := un.any ho (I.freeC y c e) (nfp e)
    ⟨_, kp _ _ q, hd⟩
  have none_ : ∀ b : Addr, b ∉ (LamX.lamCx X A outer s1 HZ E scope f cd).ex := fun b z => absurd (show b ∈ ([] : List Addr) from z) (by simp)
  have okk : (LamX.lamCx X A outer s1 HZ E scope f cd).Ok :=
    { mod := e0.mod, kind := K.kind, glob := rfl, blt := rfl, above := Nat.le_refl _
      inj := fun y z c e1 e2 => I.ok.inj y z c (up e1) (up e2)
      has := fun y hy => by
        rcases (show scope.names.lookup y = some .cell ∨ scope.names.lookup y = some .free from hy) with m | m
        · exact absurd rfl (K.noc _ (PySem.mem_of_lookup m))
        · exact down m
      cab := fun y c z _ => nomatch (show false = true from z)
      hd := fun _ => calm, frames := Around.frames_deeper e0.frames, stk := .inr ⟨rfl, rfl⟩
      exf := fun b z => absurd z (none_ b), bs := e0.bs, bsz := e0.bsz, noex := fun b _ _ => none_ b, exfs := fun b z => absurd z (none_ b), funs := e0.funs, frf := e0.frf }
  refine ⟨okk, rfl, e0.bare, Un.kept kp, ⟨_, ns, fun i y v e1 e2 e3 => ?_⟩, fun y c e => ?_, e0.hok.fresh (Nat.le_refl _), fun y c e => ?_, (fun q hq => absurd (show q ∈ ([] : List (Addr × Obj)) ++ [] from hq) (by simp)), e0.hok.kept kp, I.len⟩
  · rcases (show Vis scope y from e3) with m | m | m
    · exact absurd (List.mem_of_getElem? e1) (K.loc _ (PySem.mem_of_lookup m) rfl)
    · exact absurd rfl (K.noc _ (PySem.mem_of_lookup m))
    · obtain ⟨mm, _, look⟩ := I.loc
      have fr := K.free _ (PySem.mem_of_lookup m) rfl
      obtain ⟨w, r, q⟩ := look i y v e1 e2 (fr.elim (fun k => .inr (.inl k)) fun k => .inr (.inr k))
      obtain ⟨c, ec⟩ := down m
      have eX := up ec
      refine ⟨w, r, .inr ⟨.inr m, c, ec, ?_⟩⟩
      rcases q with ⟨k, _⟩ | ⟨_, c3, e', z⟩
      · have k : X.env.scope.names.lookup y = some .local := k
        have fr : X.env.scope.names.lookup y = some .cell ∨ X.env.scope.names.lookup y = some .free := fr
        rw [k] at fr
        rcases fr with z | z <;> cases z
      · rw [eX] at e'
        cases e'
        exact stays eX z
  · obtain ⟨w, z⟩ := I.cell y c (up e)
    exact ⟨w, stays (up e) z⟩
  · obtain ⟨v, o, ho, _⟩ := I.cell y c (up e)
    exact un.free c o ho (I.freeC y c (up e)) (nfp (up e))
theorem LamAt.at_ {params : Arguments} {body : Expr} {scope : Scope} {f : Addr} {dV doc pm : Value} {cd : Addr} {ctv : Value} (a : LamAt X params body scope f dV doc pm cd ctv HZ) (ok : HOk X.prog X.w HZ s.heap) : s.heap.get? f = some (lamOb X params body scope dV doc pm cd ctv) := (ok f _ a.fn).1
/-- f(), in the def that got the kept lambda; that def was called at s -/
theorem kept_act {H0 : Hp} {s0 : Shared} {CXg : CXT} {Eg : XK} {Ng : List Str} {qg : Str} {sg : Scope} {g f cd : Addr} {cdg dV doc pm ctv : Value} {params : Arguments} {body : Expr} {scope : Scope} {as : List Str} {k i : Nat} {a : Str} {pn : List (Addr × Obj)} {xe : Value → Shared → Prop} {W : WX} {E : XK} {tb : TE} {p1 p2 : Pos}
    (I : Inv X pins σ H0 s0) (off : Off X fp) (un : Un (frs X.stack) fp H0 H s0.heap s.heap) (K : LamK X.N X.env.scope scope as) (B : LamBind params body scope as)
    (tk : Takes ((cxOf CXg X.prog X.w X.K X.mg X.base Ng qg sg g cdg X.A X.stack s H Eg).tr pn xe) W) (hW : ∀ cls d σ' H', E cls d H' → W cls d σ' H') (hr : Room (k + 1) (X.A.deeper (envOfC qg sg s.heap.objs.size g cdg)))
    (hbody : ∀ (A : Around) (outer : List _root_.PySem.Env) (s : Shared) (H : Hp), Room k (A.deeper (LamX.lamEnv X scope s.heap.objs.size f cd)) → PE (LamX.lamCx X A outer s H E scope f cd) body tb)
    (hN : Ng[i]? = some a) (hv : Vis sg a) (hd : (a == ("__debug__" : Str)) = false := by decide) (hcd : (a == ("__classdict__" : Str)) = false := by decide) :
    PE ((cxOf CXg X.prog X.w X.K X.mg X.base Ng qg sg g cdg X.A X.stack s H Eg).tr pn xe) (.Call (.Name a p1) [] [] p2)
      (fun σZ HZ Q => σZ[i]? = some (some (.ref f)) ∧ HZ cd = some (LamX.CodeO cd (lamNm X)) ∧ LamAt X params body scope f dV doc pm cd ctv HZ ∧ tb σ HZ Q) := by
  refine ⟨fun pinsZ sZ σZ HZ Q IZ ⟨hs, hc, hl, ht⟩ => ?_⟩
  have nm := (pe_var (X := (cxOf CXg X.prog X.w X.K X.mg X.base Ng qg sg g cdg X.A X.stack s H Eg).tr pn xe) (pos := p1) (i := i) hN hv hd hcd).run pinsZ sZ σZ HZ (fun v G => v = .ref f ∧ G = HZ) IZ ⟨.ref f, hs, rfl, rfl⟩
  refine wpAny_Call_Name_kw (thn nm fun u s1 ⟨v, G, I1, r1, ev, eG⟩ => ?_)
  subst ev
  subst eG
  obtain rfl : u = Value.ref f := r1
  have ob := hl.at_ I1.hok
  refine PySem.W.callWith_F0 ⟨_, _, _, _, ob⟩ ?_
  have step1 : Un (frs X.stack) fp H G s.heap s1.heap := Un.mono (show Un (frs X.stack) [] H G s.heap s1.heap from I1.base) (fun _ z => z) fun _ z => nomatch z
  have un1 : Un (frs X.stack) fp H0 G s0.heap s1.heap := un.trans step1
  obtain ⟨⟨oc, vs, t, o1, o2, o3⟩, _, _⟩ := I1.hok cd _ hl.co
  have rc : codeAny (model X.prog X.w) (X.A.deeper (envOfC qg sg s.heap.objs.size g cdg)) (.call (.ref f) ⟨[], []⟩) (CR (L2.CX X.prog X.w) (envOfC qg sg s.heap.objs.size g cdg :: X.stack) X.prog X.w G s1 Q E) s1 := by
    refine PySem.W.kla_callFunE hr.depth ob rfl K.co K.gen rfl ⟨cd, oc, vs, t, rfl, o1, o2, o3⟩ ?_
    have bound : ∃ us : List Value, BindsTo s1 (PySem.W.kdv_fn "<lambda>" (lamNm X) params (.expr body) scope (cloFrom X.env.cells scope.names []) dV doc pm (.ref cd) ctv) ⟨[], []⟩ (as.zip us) := by
      rcases hl.df with ⟨z, rfl⟩ | ⟨z, tt, rfl, hT⟩
      · obtain ⟨rfl, q⟩ := B.b0 z
        exact ⟨[], .of_eq (q _ _ _ _ _ _)⟩
      · obtain ⟨_, its, rv, oT, eT, _, nT, dT⟩ := I1.hok tt _ hT
        have lv := rv.length
        rw [List.length_map] at lv
        obtain ⟨kk, q1, q2⟩ := B.b1 z (lamNm X) (cloFrom X.env.cells scope.names []) tt doc pm (.ref cd) ctv its lv.symm
        exact ⟨its, .of_defaults rfl eT dT q1 q2⟩
    obtain ⟨us, bd⟩ := bound
    refine bd _ _ _ _ ?_
    refine wpAny_newFunctionEnv (fun y hy => K.noc y hy) (fun y hy => K.par _ (List.of_mem_zip hy).1) (fun hp ns sb => ⟨I1.nolimit.fresh _ sb, ?_⟩) K.kind
    show codeAny _ _ (.expr body (LamX.lamEnv X scope s1.heap.objs.size f cd)) _ _
    have kp : ∀ b o, s1.heap.get? b = some o → hp.get? b = some o := fun b o e => sb.extBut b o (Nat.ne_of_lt (Heap.lt_size e)) (Heap.get?_push_of_some _ e)
    have J : Inv (LamX.lamCx X (X.A.deeper (envOfC qg sg s.heap.objs.size g cdg)) (envOfC qg sg s.heap.objs.size g cdg :: X.stack) s1 G E scope f cd) [] σ G { s1 with heap := hp, toks := s1.toks + (as.zip us).length } :=
      kept_start I off K I1.env0 hr.hd un1 ns kp
    refine PySem.W.kla_codeExpr (wpAny_mono ((hbody _ _ s1 G (hr.deeper _)).run [] _ _ G Q J ht) (fun v s' ⟨w', H', J', rv, q⟩ => ?_) fun e s' q => q)
    exact ⟨w', H', J'.os, J'.bare, J'.base, J'.hok, rv, q⟩
  have px : Passes (L2.CX X.prog X.w) ((cxOf CXg X.prog X.w X.K X.mg X.base Ng qg sg g cdg X.A X.stack s H Eg).tr pn xe) E := passes_call tk hW
  refine wpAny_call (codeAny_mono rc fun r s' q => ?_)
  cases r with
  | error e => exact px pinsZ σZ G s1 e s' I1 q
  | ok fl =>
    cases fl with
    | ret u => exact I1.after q
    | next => exact q.elim
    | brk => exact q.elim
    | cont => exact q.elim
/-- what the asking def makes of the kept lambda at slot ia -/
def tKept (X : Cx) (k : Nat) (TT : (XK → Hp → VK → Prop) → Hp → VK → Prop) (ia : Nat) (σ0 : L2.St) : TE := fun σ H Q =>
  ∃ (params : Arguments) (body : Expr) (scope : Scope) (as : List Str) (f : Addr) (dV doc pm : Value) (cd : Addr) (ctv : Value) (t : XK → TE), σ[ia]? = some (some (.ref f)) ∧ LamAt X params body scope f dV doc pm cd ctv H ∧ LamK X.N X.env.scope scope as ∧ LamBind params body scope as ∧
    (∀ (A : Around) (outer : List _root_.PySem.Env) (s : Shared) (H : Hp) (E : XK), Room k (A.deeper (LamX.lamEnv X scope s.heap.objs.size f cd)) → PE (LamX.lamCx X A outer s H E scope f cd) body (t E)) ∧
    TT (fun E H' Q' => LamAt X params body scope f dV doc pm cd ctv H' ∧ t E σ0 H' Q') H Q
/-- x(av), in a comprehension's block that started at (s0, H0) -/
theorem pe_keptcall {H0 : Hp} {s0 : Shared} {TT : (XK → Hp → VK → Prop) → Hp → VK → Prop} {x a av : Str} {ia g : Nat} {k : Nat} {pg : Arguments} {bg : List Stmt} {sg : Scope} {dV kV doc pm cdv ct oc : Value} {an od : Option Addr} {osl : Array (Option Value)} {Ng : List Str} {bsc : Scope} {cenv : _root_.PySem.Env} {p p' pos : Pos}
    (I : Inv X pins σ H0 s0) (off : Off X fp) (hg : Gl (X.blk s0 H0 bsc cenv fp) x) (hm : X.mg x = some (.ref g)) (hk : PySem.W.keepIn X.K (.ref g) = true)
    (lk : X.K.lookup g = some ⟨oc, od, .func (PySem.W.fnOf x x pg bg sg dV kV doc pm an cdv ct), osl⟩) (hcg : PySem.W.codeIn X.K cdv x = true) (hb : L2.Binds X.K (PySem.W.fnOf x x pg bg sg dV kV doc pm an cdv ct) [a] []) (Sg : FnScope Ng [a] sg) (hNg : Ng[0]? = some a) (hva : Vis sg a)
    (hG : LamX.GivesTo X Ng x sg g cdv bg a (lamNm X) TT) (hr : Room (k + 2) X.A) (hai : X.N[ia]? = some av) (hav : Vis cenv.scope av)
    (hdb : (x == ("__debug__" : Str)) = false := by decide) (hd : (a == ("__debug__" : Str)) = false := by decide) (hcd : (a == ("__classdict__" : Str)) = false := by decide) (hd2 : (av == ("__debug__" : Str)) = false := by decide) (hcd2 : (av == ("__classdict__" : Str)) = false := by decide)
    (hst : starEach [.Name av p'] cenv = (false, eval (.Name av p') cenv) :: starEach [] cenv := by rfl) :
    PE (X.blk s0 H0 bsc cenv fp) (.Call (.Name x p) [.Name av p'] [] pos) (tKept X k TT ia σ) := by
  refine ⟨fun pinsB s σB H Q J ⟨params, body, scope, as, f, dVl, docl, pml, cd, ctv, t, at_, hl, K, B, hbody, h⟩ => ?_⟩
  refine wpAny_Call_Name_kw (ld_glob J hg hm ?_ hdb)
  refine PySem.W.callWith_K (h₀ := X.base) J.ok.mod.kin hk ?_ hst (by rfl)
  rw [hst]
  show wpAny _ _ (spliced ((false, eval (.Name av p') cenv) :: backTo pos (starEach [] cenv))) _ _ s
  have nm := (pe_var (X := X.blk s0 H0 bsc cenv fp) (pos := p') (i := ia) hai hav hd2 hcd2).run pinsB s σB H (fun v G => v = .ref f ∧ G = H) J ⟨.ref f, at_, rfl, rfl⟩
  refine Calls.spliced_cons (thn nm fun u s1 ⟨v, G, J1, r1, ev, eG⟩ => ?_)
  subst ev
  subst eG
  obtain rfl : u = Value.ref f := r1
  refine Calls.spliced_nil ⟨J1.kIn, ?_⟩
  have un : Un (frs X.stack) fp H0 G s0.heap s1.heap := J1.base
  have rc : codeAny (model X.prog X.w) X.A (.call (.ref g) ⟨[.ref f], []⟩) (CR C8.CX0 X.stack X.prog X.w G s1 Q C8.E0) s1 := by
    refine LamX.run_ofS (N := Ng) (ps := [a]) (us := [.ref f]) (vs := [.ref f]) lk hcg Sg hr J1.env0 (hb s1 [.ref f] J1.kIn rfl) (.cons rfl .nil) rfl fun hr2 => ?_
    obtain ⟨t2, ht2, hq2⟩ := hG f cd s1 G Q _ (fun W pn xe E p1 p2 tk hW => kept_act (i := 0) I off un K B tk hW hr2 (fun A outer s H hr3 => hbody A outer s H E hr3) hNg hva hd hcd) hl.co h
    exact ⟨t2, ht2.nox, hq2⟩
  refine wpAny_call (codeAny_mono rc fun r s2 q => ?_)
  cases r with
  | error e => exact (show False from q).elim
  | ok fl =>
    cases fl with
    | ret u => exact J1.after q
    | next => exact q.elim
    | brk => exact q.elim
    | cont => exact q.elim
end
end L3

namespace L3
open PySem PySem.Spec PyProof.Rows L2
/-! ### a comprehension whose element may lean on the maker's own state -/
section
variable {X : Cx}
theorem pe_lcI {elt tg iter : Expr} {scope : Scope} {own : List (Str × Nat)} {pos : Pos} {wi : TI} {g : TG} {te : L2.St → TE} (hc : X.calm = true) (hN : X.N.Nodup) (hi : PI X tg iter wi) (ok : BlkOk X.N X.env.scope scope own)
    (hg : ∀ (s : Shared) (H : Hp) (C : Addr) (cl : List (Str × Addr)) (fp : List Addr), PG (X.blk s H scope (compEnvC scope cl C X.env) fp) tg g)
    (he : ∀ (pins : List (Addr × Obj)) (σ : L2.St) (s : Shared) (H : Hp) (C : Addr) (cl : List (Str × Addr)) (fp : List Addr), Inv X pins σ H s → Off X fp → PE (X.blk s H scope (compEnvC scope cl C X.env) fp) elt (te σ))
    (hs : ∀ x, foldedSetIterable iter X.env x = pure x := by intro _; rfl) :
    PE X (.ListComp elt [⟨tg, iter, [], 0⟩] scope pos) (fun σ H Q => tLc wi g tYes (te σ) (own.map (·.2)) σ H Q) := by
  refine ⟨fun pins s σ H Q I asks => ?_⟩
  rw [eval_ListComp]
  have caught : ∀ y ∈ scope.names, y.2 = .free → ∃ c, X.env.cells.lookup y.1 = some c := fun y hy e => I.ok.has _ (ok.free y hy e)
  refine wpAny_comprehension_free (use := none) rfl hs (closure_ok caught) ok.kind (fun y hy e => (ok.uniq y hy).trans (congrArg some e)) (thn (hi.run pins s σ H _ I asks) fun xv sa ha => thn ha fun itv sb hb => ?_)
  obtain ⟨it, fp, tn, J, Hb, rfl, Ib, Tn, tnb, okb, goes⟩ := hb
  refine wpAny_newObj_type (newEnv_comp ?_) (by show 0 ≤ sizeLine; decide)
  have noD : Hb sb.heap.objs.size = none := Ib.hok.fresh (Nat.le_refl _)
  obtain ⟨W, ⟨m0, w0⟩, turn⟩ := goes _ noD
  -- the new list, laid
  have laid : Inv X pins σ (upd Hb sb.heap.objs.size (.lst [])) { sb with heap := sb.heap.push { cls := .type "list", data := .seq ([] : List Value).toArray } } :=
    Ib.laid (t' := sb.toks) (fun b o e => Heap.get?_push_of_some _ e) (Nat.le_refl _) ⟨Nat.zero_le _, [], 0, .nil, Heap.get?_push_size _ rfl⟩
  have kc : ∀ b o, sb.heap.get? b = some o → ({ sb with heap := sb.heap.push { cls := .type "list", data := .seq ([] : List Value).toArray } } : Shared).heap.get? b = some o := fun b o e => Heap.get?_push_of_some _ e
  have lc : sb.heap.objs.size < ({ sb with heap := sb.heap.push { cls := .type "list", data := .seq ([] : List Value).toArray } } : Shared).heap.objs.size := by
    show _ < (sb.heap.push _).objs.size
    rw [Heap.size_push]
    exact Nat.lt_succ_self _
  generalize eS : ({ sb with heap := sb.heap.push { cls := .type "list", data := .seq ([] : List Value).toArray } } : Shared) = sc at laid kc lc ⊢
  show codeAny (model X.prog X.w) X.A (.compStart (.ListComp elt [⟨tg, iter, [], 0⟩] scope pos) 0 (.ref it) (.ref sb.heap.objs.size) (compEnvC scope (cellsFrom (sc.heap.objs.size + 1) scope.names (cloFrom X.env.cells scope.names [])) sc.heap.objs.size X.env))
    (compPost (model X.prog X.w) X.A X.xe none _ (.ref sb.heap.objs.size) sc.heap.objs.size) { sc with heap := pushCells (sc.heap.push { cls := .type "dict", data := .dict #[] }) scope.names }
  have lows : ∀ b ∈ fp, b < sb.heap.objs.size := fun b hb => let ⟨_, e, _⟩ := Tn.obj _ _ tnb b hb; Heap.lt_size e
  generalize eD : sb.heap.objs.size = D at noD w0 turn laid lc lows ⊢
  generalize eG : upd Hb D (.lst []) = G at laid w0
  have okc : ∀ b ∈ fp, FpOk X pins G b ∧ b < sc.heap.objs.size := fun b hb =>
    ⟨⟨by rw [← eG, upd_ne (Nat.ne_of_lt (lows b hb))]; exact (okb b hb).1, (okb b hb).2⟩, Nat.lt_trans (lows b hb) lc⟩
  have off : Off X fp := fun b hb y c e => (okc b hb).1.2.2.2.2.1 y c e
  have tnc : tn 0 sc.heap := Tn.keep _ _ _ tnb fun b _ o e => kc b o e
  have start := block_start laid ok hN okc
  have pg := hg sc G sc.heap.objs.size (cellsFrom (sc.heap.objs.size + 1) scope.names (cloFrom X.env.cells scope.names [])) fp
  have pe := he pins σ sc G sc.heap.objs.size (cellsFrom (sc.heap.objs.size + 1) scope.names (cloFrom X.env.cells scope.names [])) fp laid off
  have own_ : (compEnvC scope (cellsFrom (sc.heap.objs.size + 1) scope.names (cloFrom X.env.cells scope.names [])) sc.heap.objs.size X.env).locals = sc.heap.objs.size := rfl
  generalize eE : compEnvC scope (cellsFrom (sc.heap.objs.size + 1) scope.names (cloFrom X.env.cells scope.names [])) sc.heap.objs.size X.env = en at start pg pe own_ ⊢
  have kd : ∀ b o, sc.heap.get? b = some o → ({ sc with heap := pushCells (sc.heap.push { cls := .type "dict", data := .dict #[] }) scope.names } : Shared).heap.get? b = some o := fun b o e => pushCells_keeps _ _ _ _ (Heap.get?_push_of_some _ e)
  generalize eT : ({ sc with heap := pushCells (sc.heap.push { cls := .type "dict", data := .dict #[] }) scope.names } : Shared) = sd at start kd ⊢
  have tnd : tn 0 sd.heap := Tn.keep _ _ _ tnc fun b _ o e => kd b o e
  have still : ∀ {τ : L2.St} {K : Hp} {s' : Shared}, Inv (X.blk sc G scope en fp) [] τ K s' → (∀ b ∈ fp, K b = none) → ∀ b ∈ fp, FpOk (X.blk sc G scope en fp) [] K b := fun {τ K s'} Z n b hb =>
    ⟨n b hb, (Z.ok.exf b hb).1, Z.ok.exfs b hb, .inl hb, fun x c e => (Z.ok.exf b hb).2 x c e, fun p hp => absurd (show p ∈ ([] : List (Addr × Obj)) ++ [] from hp) (by simp)⟩
  have loop : codeAny (model X.prog X.w) X.A (.compLoop (.ListComp elt [⟨tg, iter, [], 0⟩] scope pos) 0 (.ref it) (.ref D) en) (compPost (model X.prog X.w) X.A X.xe none (EP X pins σ Q) (.ref D) sc.heap.objs.size) sd := by
    refine compLoop_any (fun n z => ∃ i K, Inv (X.blk sc G scope en fp) [] (wipe σ (own.map (·.2))) K z ∧ tn i z.heap ∧ (∀ b ∈ fp, K b = none) ∧ W i n K) ?_ m0 ⟨0, G, start, tnd, fun b hb => (okc b hb).1.1, w0⟩
    rintro n se ⟨i, K, Ie, tne, ne, we⟩
    rcases turn i n K we with ⟨stop, wish⟩ | ⟨go, Nx, further, one⟩
    · refine thnF (Tn.done (X.blk sc G scope en fp) rfl rfl rfl hc i [] se _ K (fun _ _ => False) Ie (still Ie ne) tne stop) fun r sf ⟨er, If⟩ => ?_
      subst er
      have back : Inv X pins σ K sf := laid.call' (ch := fp) If.os If.base If.hok If.bare fun b hb => ⟨(okc b hb).1.2.2.2.1, (okc b hb).1.2.1, (okc b hb).1.2.2.2.2.1, (okc b hb).1.2.2.2.2.2⟩
      have nC : K sc.heap.objs.size = none := own_ ▸ (show K en.locals = none from If.free)
      obtain ⟨m, ns, _⟩ := If.loc
      obtain ⟨f0, f1, f2, f3, f4, f5⟩ := laid.fpOk (Nat.le_refl _) nC
      exact ⟨m, own_ ▸ (show sf.heap.Ns en.locals m from ns), fun h2 sb2 => ⟨.ref D, K, back.turned (t' := sf.toks) (fun b o hb e => (sb2.2 b hb).trans e) f0 f1 f3 f4 f5, rfl, wish⟩⟩
    · refine thnF (Tn.item (X.blk sc G scope en fp) rfl rfl rfl hc i [] se _ K (fun _ _ => False) Ie (still Ie ne) tne go) fun r sf ⟨u, er, hf⟩ => ?_
      subst er
      refine thnF hf fun _ sg ⟨x, Kg, Ig, rg, yg, tng, ng⟩ => ?_
      refine thnF (pg.run _ sg _ Kg x u _ (Ig.pinned (still Ig ng) (Tn.obj _ _ tng)) rg (one x Kg yg)) fun _ sh ⟨τ, Kh, Ih, eh, qh⟩ => ?_
      refine wpAny_tests_nil ?_
      show wpAny _ _ _ _ _ sh
      have qh : te σ τ Kh (fun y H4 => ∃ acc, H4 D = some (.lst acc) ∧ acc.length < sizeLine ∧ Nx (upd H4 D (.lst (acc ++ [y])))) := qh
      refine thnF (pe.run _ sh τ Kh _ Ih qh) fun z si ⟨y, Ki, Ii, ri, acc, at_, few, nx⟩ => ?_
      refine app_ok (X := X.blk sc G scope en fp) Ii at_ few ri fun sj Ij => ?_
      obtain ⟨m2, lt2, w2⟩ := further _ nx
      have pinned_ : ∀ b ∈ fp, ∀ o, sg.heap.get? b = some o → sj.heap.get? b = some o ∧ (upd Ki D (.lst (acc ++ [y]))) b = none := fun b hb o e =>
        let q := Ij.pin (b, o) (List.mem_append_right _ (List.mem_append_right _ (mem_pinsAt hb e)))
        ⟨q.1, q.2.1⟩
      refine ⟨m2, lt2, i + 1, _, (Ij.unpinned (pins := [])).weak (by rw [← eh, wipe_length]) (fun j v e => ?_), Tn.keep _ _ _ tng fun b hb o e => (pinned_ b hb o e).1, fun b hb => ?_, w2⟩
      · rw [← eh] at e
        exact (wipe_some e).1
      · obtain ⟨o, e, _⟩ := Tn.obj _ _ tng b hb
        exact (pinned_ b hb o e).2
  exact codeAny_compStart_list loop (Tn.self X.A 0 _ _ _ tnd loop)
end
end L3

namespace L3
open PySem PySem.Spec PyProof.Rows L2
/-! ### asks = [lambda: .., lambda a=0: .., ..]; if [x(ask) for ask in asks] != e: .. -/
/-- what the asking def makes of f, by its reading -/
theorem asked_of {P : Pm} {K : PySem.W.Frag} {cl : Str → Addr} {hs : List (List Str × Shape)} {pick : Str → Option Shape} {fb : SE} {σ : L2.St} {H1 : Hp} {L : Lv} {ρ : Env} {μ : Sto} {E : XK} {Q : VK} {Z : Hp → Prop}
    (hx : ∀ n C sh, P.cls n = some C → pick n = some sh → XfC K C ∧ (∀ f ∈ sh.flds, PySem.W.findIn K (.ref C) f = some none) ∧ pickS K cl (.ref C) hs = some sh)
    (rs : RelS P H1 L σ ρ) (st : St3 P H1 L μ) (z : Z H1) (q1 : Post P E L H1 (fun d L' H' => ∀ v, Rep P H' L' v d → Q v H') (eAsked pick fb ρ μ)) :
    TAsked K cl hs (fun E H' Q' => Z H' ∧ tV P (fun cls d _ H => E cls d H) fb σ H' Q') H1 Q := by
  refine ⟨z, L, ρ, μ, rs, st, ?_⟩
  unfold eAsked at q1
  cases e : fb ρ μ with
  | bad => rw [e] at q1; exact q1
  | ok d μ1 =>
    rw [e] at q1
    intro L2 H2 x2 s2 v rv
    refine ⟨by rw [sizeLine_eq]; simp, fun p hp => ?_⟩
    exact q1 _ _ (x2.trans (Ext.grow s2 (upd_grow hp))) (s2.grow (upd_grow hp)) _ (new_tup s2 hp (.cons (.str _) (.cons rv .nil)))
  | exc cn ns vs μ1 =>
    rw [e] at q1
    have q1 : Post P E L H1 (fun d L' H' => ∀ v, Rep P H' L' v d → Q v H') (match (pick cn).bind fun sh => sh.told ns vs with
      | some d => .ok d μ1
      | none => .bad) := q1
    cases ep : pick cn with
    | none => rw [ep] at q1; exact q1.elim
    | some sh =>
      rw [ep, Option.bind_some] at q1
      intro C dx L2 H2 hcl x2 s2 ⟨ws, at_, hl, rw'⟩
      obtain ⟨h1, h2, h3⟩ := hx cn C sh hcl ep
      refine ⟨C, dx, _, sh, rfl, rfl, at_, h1, h3, h2, ?_⟩
      cases sh with
      | w =>
        have q1 : Post P E L H1 (fun d L' H' => ∀ v, Rep P H' L' v d → Q v H') (match (lookD "word" ns vs).map fun d => D.tup [.str "no", d] with
          | some d => .ok d μ1
          | none => .bad) := q1
        cases el : lookD "word" ns vs with
        | none => rw [el] at q1; exact q1.elim
        | some d =>
          rw [el] at q1
          obtain ⟨v, lv, rv⟩ := look_rep rw' hl el
          exact ⟨v, lv, fun p hp => q1 _ _ (x2.trans (Ext.grow s2 (upd_grow hp))) (s2.grow (upd_grow hp)) _ (new_tup s2 hp (.cons (.str _) (.cons rv .nil)))⟩
      | f n =>
        have q1 : Post P E L H1 (fun d L' H' => ∀ v, Rep P H' L' v d → Q v H') (match (lookD "word" ns vs).bind fun d => (lookD n ns vs).map fun e => D.tup [.str "no", d, e] with
          | some d => .ok d μ1
          | none => .bad) := q1
        cases el : lookD "word" ns vs with
        | none => rw [el] at q1; exact q1.elim
        | some d =>
          rw [el, Option.bind_some] at q1
          cases em : lookD n ns vs with
          | none => rw [em] at q1; exact q1.elim
          | some d2 =>
            rw [em] at q1
            obtain ⟨v, lv, rv⟩ := look_rep rw' hl el
            obtain ⟨u, lu, ru⟩ := look_rep rw' hl em
            exact ⟨v, u, lv, lu, fun p hp => q1 _ _ (x2.trans (Ext.grow s2 (upd_grow hp))) (s2.grow (upd_grow hp)) _ (new_tup s2 hp (.cons (.str _) (.cons rv (.cons ru .nil))))⟩
      | g n m =>
        have q1 : Post P E L H1 (fun d L' H' => ∀ v, Rep P H' L' v d → Q v H') (match (lookD "word" ns vs).bind fun d => (lookD n ns vs).bind fun e => (lookD m ns vs).map fun f => D.tup [.str "no", d, .tup [e, f]] with
          | some d => .ok d μ1
          | none => .bad) := q1
        cases el : lookD "word" ns vs with
        | none => rw [el] at q1; exact q1.elim
        | some d =>
          rw [el, Option.bind_some] at q1
          cases em : lookD n ns vs with
          | none => rw [em] at q1; exact q1.elim
          | some d2 =>
            rw [em, Option.bind_some] at q1
            cases en : lookD m ns vs with
            | none => rw [en] at q1; exact q1.elim
            | some d3 =>
              rw [en] at q1
              obtain ⟨v, lv, rv⟩ := look_rep rw' hl el
              obtain ⟨u, lu, ru⟩ := look_rep rw' hl em
              obtain ⟨w, lw, rw2⟩ := look_rep rw' hl en
              refine ⟨v, u, w, lv, lu, lw, fun q' hq p hp => ?_⟩
              have x3 := Ext.grow (P := P) s2 (upd_grow (o := .tup [u, w]) hq)
              have s3 := s2.grow (upd_grow (o := .tup [u, w]) hq)
              have rt := new_tup s2 hq (.cons ru (.cons rw2 .nil))
              exact q1 _ _ ((x2.trans x3).trans (Ext.grow s3 (upd_grow hp))) (s3.grow (upd_grow hp)) _ (new_tup s3 hp (.cons (.str _) (.cons (rv.ext x3) (.cons rt .nil))))
/-! what is kept -/
section
variable {P : Pm} {X : Cx} {k : Nat} {H H1 : Hp} {L L1 : Lv} {μ : Sto}
theorem St3.mutk (s : St3 P H L μ) {a : Addr} (h : L.has a) : (∃ vs, H a = some (.lst vs)) ∨ (∃ kv, H a = some (.dK kv)) ∨ (∃ C dx fs, H a = some (.ins C dx fs)) := by
  rcases h with h | h
  · obtain ⟨i, hi⟩ := List.getElem?_of_mem h
    have li : i < μ.length := by rw [← s.len]; exact (List.getElem?_eq_some_iff.mp hi).1
    obtain ⟨m, hm⟩ : ∃ m, μ[i]? = some m := ⟨_, List.getElem?_eq_getElem li⟩
    have r := s.at_ i a m hi hm
    cases r with
    | lst e _ => exact .inl ⟨_, e⟩
    | dct e _ _ => exact .inr (.inl ⟨_, e⟩)
    | ins e _ _ _ => exact .inr (.inr ⟨_, _, _, e⟩)
  · exact .inl (s.dis a h).2
theorem St3.notext (s : St3 P H L μ) {a : Addr} {φ : Heap → Prop} (e : H a = some (.ext φ)) : ¬ L.has a := fun h => by
  rcases s.mutk h with ⟨_, z⟩ | ⟨_, z⟩ | ⟨_, _, _, z⟩ <;> (rw [e] at z; cases z)
theorem St3.nottup (s : St3 P H L μ) {a : Addr} {vs : List V} (e : H a = some (.tup vs)) : ¬ L.has a := fun h => by
  rcases s.mutk h with ⟨_, z⟩ | ⟨_, z⟩ | ⟨_, _, _, z⟩ <;> (rw [e] at z; cases z)
theorem LamAt.ext0 {params : Arguments} {body : Expr} {scope : Scope} {f : Addr} {dV doc pm : Value} {cd : Addr} {ctv : Value} (s : St3 P H L μ) (x : Ext0 L H L1 H1) (a : LamAt X params body scope f dV doc pm cd ctv H) : LamAt X params body scope f dV doc pm cd ctv H1 := by
  refine ⟨x.keep _ _ a.fn LamO.ne (s.notext a.fn), x.keep _ _ a.co LamX.codeO_ne (s.notext a.co), ?_⟩
  rcases a.df with z | ⟨z, t, h1, h2⟩
  · exact .inl z
  · exact .inr ⟨z, t, h1, x.keep _ _ h2 (fun ps q => nomatch q) (s.nottup h2)⟩
/-- the thing v is a kept lambda that is worth fb -/
inductive Kept (P : Pm) (X : Cx) (k : Nat) (H : Hp) : V → SE → Prop
  | mk {params : Arguments} {body : Expr} {scope : Scope} {as : List Str} {f : Addr} {dV doc pm : Value} {cd : Addr} {ctv : Value} {fb : SE} (at_ : LamAt X params body scope f dV doc pm cd ctv H) (K : LamK X.N X.env.scope scope as) (B : LamBind params body scope as)
    (hb : ∀ (A : Around) (outer : List _root_.PySem.Env) (s : Shared) (H : Hp) (E : XK), Room k (A.deeper (LamX.lamEnv X scope s.heap.objs.size f cd)) → VE P (fun cls d _ H => E cls d H) (LamX.lamCx X A outer s H E scope f cd) body fb) : Kept P X k H (.ref f) fb
inductive Kepts (P : Pm) (X : Cx) (k : Nat) (H : Hp) : List V → List SE → Prop
  | nil : Kepts P X k H [] []
  | cons {v : V} {fb : SE} {vs : List V} {fs : List SE} (h : Kept P X k H v fb) (r : Kepts P X k H vs fs) : Kepts P X k H (v :: vs) (fb :: fs)
theorem Kepts.ext {vs : List V} {fs : List SE} (a : Kepts P X k H vs fs) (e : LamX.ExtN H H1) : Kepts P X k H1 vs fs := by
  induction a with
  | nil => exact .nil
  | cons h r ih => exact .cons (match h with | .mk a K B hb => .mk (a.ext e) K B hb) ih
theorem Kepts.ext0 {vs : List V} {fs : List SE} (s : St3 P H L μ) (x : Ext0 L H L1 H1) (a : Kepts P X k H vs fs) : Kepts P X k H1 vs fs := by
  induction a with
  | nil => exact .nil
  | cons h r ih => exact .cons (match h with | .mk a K B hb => .mk (a.ext0 s x) K B hb) ih
theorem Kepts.length {vs : List V} {fs : List SE} (a : Kepts P X k H vs fs) : vs.length = fs.length := by
  induction a with
  | nil => rfl
  | cons _ _ ih => simp [ih]
theorem Kepts.get {vs : List V} {fs : List SE} (a : Kepts P X k H vs fs) {i : Nat} {v : V} (e : vs[i]? = some v) : ∃ fb, fs[i]? = some fb ∧ Kept P X k H v fb := by
  induction a generalizing i with
  | nil => simp at e
  | cons h r ih =>
    cases i with
    | zero => simp at e; subst e; exact ⟨_, rfl, h⟩
    | succ j => exact ih (by simpa using e)
/-- the written lambdas -/
inductive Lams (P : Pm) (X : Cx) (k : Nat) : List Expr → List SE → Prop
  | nil : Lams P X k [] []
  | cons {params : Arguments} {body : Expr} {scope : Scope} {lpos : Pos} {as : List Str} {fb : SE} {es : List Expr} {fs : List SE} (hz : Zeros params.defaults) (hk : params.kw_defaults = []) (hl : params.defaults.length ≤ 100) (K : LamK X.N X.env.scope scope as) (B : LamBind params body scope as)
    (hb : ∀ (A : Around) (outer : List _root_.PySem.Env) (s : Shared) (H : Hp) (E : XK) (f cd : Addr), Room k (A.deeper (LamX.lamEnv X scope s.heap.objs.size f cd)) → VE P (fun cls d _ H => E cls d H) (LamX.lamCx X A outer s H E scope f cd) body fb) (r : Lams P X k es fs) :
    Lams P X k (.Lambda params body scope lpos :: es) (fb :: fs)
theorem Lams.length {es : List Expr} {fs : List SE} (a : Lams P X k es fs) : es.length = fs.length := by
  induction a with
  | nil => rfl
  | cons _ _ _ _ _ _ _ ih => simp [ih]
def tLams (P : Pm) (X : Cx) (k : Nat) (fs : List SE) : TA := fun _ H Q => LamX.Tabs P.T H ∧ ∀ (vs : List V) (H1 : Hp), LamX.ExtN H H1 → LamX.Tabs P.T H1 → Kepts P X k H1 vs fs → Q vs H1
theorem pa_lams {c Pt : Addr} (TB : LamX.TabB X.base X.mg c Pt) (hcode : X.env.code = .ref c) (hm : (Pt, lamNm X) ∈ P.T) (hu : ∀ p ∈ P.T, p.1 = Pt → p.2 = lamNm X) {es : List Expr} {fs : List SE} (a : Lams P X k es fs) : PA X es (tLams P X k fs) := by
  induction a with
  | nil => exact pa_nil.imp3 fun σ H Q ⟨t, h⟩ => h [] H (.refl H) t .nil
  | cons hz hk hl K B hb r ih =>
    refine (pa_cons (pe_lam2 TB hcode hm hu K.free hz hk hl) ih).imp3 fun σ H Q ⟨t, h⟩ => ?_
    exact ⟨t, fun f dV doc pm cd ctv H1 e1 t1 _ at1 => ⟨t1, fun vs H2 e2 t2 kv => h _ H2 (e1.trans e2) t2 (.cons (.mk (at1.ext e2) K B fun A outer s H E hr => hb A outer s H E f cd hr) kv)⟩⟩
end
/-! the asking -/
def asksS (pick : Str → Option Shape) (ρ : Env) : List SE → Sto → R (List D)
  | [], μ => .ok [] μ
  | f :: fs, μ => (eAsked pick f ρ μ).nox.bind fun d μ1 => (asksS pick ρ fs μ1).nox.bind fun ds μ2 => .ok (d :: ds) μ2
def eAsks (pick : Str → Option Shape) (fs : List SE) : SE := fun ρ μ => if fs.length ≤ 100 then (asksS pick ρ fs μ).nox.bind fun ds μ1 => .ok (.lst ds) μ1 else .bad
theorem _root_.L2.PE.len3 {X : Cx} {e : Expr} {t : TE} (h : PE X e t) : PE X e (fun σ H Q => σ.length = X.N.length → t σ H Q) := ⟨fun pins s σ H Q I q => h.run pins s σ H Q I (q I.len)⟩
section
variable {P : Pm} {W : WX} {X : Cx} {k : Nat}
theorem R.nox_of {α : Type} {r : R α} {a : α} {μ : Sto} (h : r.nox = .ok a μ) : r = .ok a μ := by
  cases r with
  | ok _ _ => exact h
  | exc _ _ _ _ => cases h
  | bad => cases h
theorem R.bind_of {α β : Type} {r : R α} {f : α → Sto → R β} {b : β} {μ : Sto} (h : r.bind f = .ok b μ) : ∃ a μ1, r = .ok a μ1 ∧ f a μ1 = .ok b μ := by
  cases r with
  | ok a μ1 => exact ⟨a, μ1, rfl, h⟩
  | exc _ _ _ _ => cases h
  | bad => cases h
/-- how the state stands ahead of the asking -/
structure AskSt (P : Pm) (X : Cx) (k : Nat) (iy : Nat) (fs : List SE) (σ : L2.St) (H : Hp) (L : Lv) (ρ : Env) (μ : Sto) (a : Addr) (vs : List V) : Prop where
  rs : RelS P H L σ ρ
  st : St3 P H L μ
  at_ : σ[iy]? = some (some (.ref a))
  ls : H a = some (.lst vs)
  no : ¬ L.has a
  kp : Kepts P X k H vs fs
theorem pe_asks {cl : Str → Addr} {hs : List (List Str × Shape)} {pick : Str → Option Shape} {x a ev y av : Str} {iy ia : Nat} {g : Addr} {pg : Arguments} {bg : List Stmt} {sg : Scope} {fdg : FuncData} {bsc : Scope} {fs : List SE} {hds : List ExceptHandler} {j1 t1 : Nat} {p1 p2 p3 p4 p5 p20 q1 q2 q3 q4 q5 pos : Pos}
    (hK : P.K = X.K) (hm : X.mg x = some (.ref g)) (F : FunD X.K x x pg bg sg [] [] g fdg) (Sg : FnScope [a, ev] [a] sg) (loc : sg.names.lookup ev = some .local) (hva : Vis sg a)
    (hbind : ∀ (kV doc pm : Value) (an : Option Addr) (cdv ct : Value) (us : List Value), us.length = ([a] : List Str).length → bindArgs (PySem.W.fnOf x x pg bg sg .none kV doc pm an cdv ct) ⟨us, []⟩ = pure (([a] : List Str).zip us))
    (hne : hs ≠ []) (hA : AskH ev hds hs) (hC : ∀ q ∈ hs, q.1.length ≤ 100 ∧ ∀ x ∈ q.1, sg.names.lookup x = some .globalImplicit ∧ (x == ("__debug__" : Str)) = false ∧ X.mg x = some (.ref (cl x)))
    (hb : bg = [.Try [.Return (some (.Tuple [.Constant (.str "told") j1 p1, .Call (.Name a p2) [] [] p3] t1 p4)) p5] hds [] [] p20])
    (hx : ∀ n C sh, P.cls n = some C → pick n = some sh → XfC X.K C ∧ (∀ f ∈ sh.flds, PySem.W.findIn X.K (.ref C) f = some none) ∧ pickS X.K cl (.ref C) hs = some sh)
    (hr : Room (k + 2) X.A) (hc : X.calm = true) (hN : X.N.Nodup) (hiy : X.N[iy]? = some y) (hvy : Vis X.env.scope y) (hia : X.N[ia]? = some av) (ok : BlkOk X.N X.env.scope bsc [(av, ia)])
    (hgl : ∀ (s : Shared) (H : Hp) (C : Addr) (cl : List (Str × Addr)) (fp : List Addr), Gl (X.blk s H bsc (compEnvC bsc cl C X.env) fp) x)
    (hav : ∀ (C : Addr) (cl : List (Str × Addr)), Vis (compEnvC bsc cl C X.env).scope av) (hg : ∀ (s : Shared) (H : Hp) (C : Addr) (cl : List (Str × Addr)) (fp : List Addr), PG (X.blk s H bsc (compEnvC bsc cl C X.env) fp) (.Name av q4) (gName ia))
    (dv : (ev == ("__debug__" : Str)) = false := by decide) (cv : (ev == ("__classdict__" : Str)) = false := by decide) (hdb : (x == ("__debug__" : Str)) = false := by decide) (hda : (a == ("__debug__" : Str)) = false := by decide) (hca : (a == ("__classdict__" : Str)) = false := by decide)
    (dy : (y == ("__debug__" : Str)) = false := by decide) (cy : (y == ("__classdict__" : Str)) = false := by decide) (da : (av == ("__debug__" : Str)) = false := by decide) (ca : (av == ("__classdict__" : Str)) = false := by decide) :
    PE X (.ListComp (.Call (.Name x q1) [.Name av q2] [] q3) [⟨.Name av q4, .Name y q5, [], 0⟩] bsc pos)
      (fun σ H Q => ∃ L ρ μ b vs, AskSt P X k iy fs σ H L ρ μ b vs ∧ Post P (WE W σ) L H (fun d L' H' => ∀ v, Rep P H' L' v d → Q v H') (eAsks pick fs ρ μ)) := by
  obtain ⟨oc, od, dV, kV, doc, pm, an, cdv, ct, osl, e0, lk, hcg, hD, hKw⟩ := F.ex
  have hbs := F.bindsN hbind
  rcases hD with ⟨_, eD⟩ | ⟨z, _⟩
  case inr => exact absurd rfl z
  subst e0 eD
  have G := asked_gives (X := X) (x := x) (q := lamNm X) (sg := sg) (g := g) (cdg := cdv) Sg.nd loc hne hA hC dv cv hb
  have pc := pe_lcI (X := X) (elt := .Call (.Name x q1) [.Name av q2] [] q3) (tg := .Name av q4) (iter := .Name y q5) (scope := bsc) (own := [(av, ia)]) (pos := pos) (te := tKept X k (TAsked X.K cl hs) ia) hc hN (pi_list (pe_var (i := iy) hiy hvy dy cy)) ok hg
    fun pins σ s H C cl' fp I off => pe_keptcall (k := k) I off (hgl s H C cl' fp) hm F.kp lk hcg hbs Sg rfl hva G hr hia (hav C cl') hdb hda hca da ca
  refine pc.len3.imp3 fun σ H Q ⟨L, ρ, μ, b, vs, A, q⟩ lenN => ?_
  have iaN : ia < σ.length := by rw [lenN]; exact (List.getElem?_eq_some_iff.mp hia).1
  unfold eAsks at q
  by_cases few : fs.length ≤ 100
  case neg => rw [if_neg few] at q; exact q.elim
  rw [if_pos few] at q
  cases et : asksS pick ρ fs μ with
  | exc _ _ _ _ => rw [et] at q; exact q.elim
  | bad => rw [et] at q; exact q.elim
  | ok total μf =>
  rw [et] at q
  have q : Post P (WE W σ) L H (fun d L' H' => ∀ v, Rep P H' L' v d → Q v H') (.ok (.lst total) μf) := q
  have lens := A.kp.length
  refine ⟨.ref b, A.at_, b, rfl, ⟨vs, .inl (.inl A.ls)⟩, fun p hp => ?_⟩
  obtain ⟨s2, x2⟩ := prv_new A.st hp
  have np : p ∉ L.x := fun z => A.st.new_not hp (.inr z)
  have nbp : b ≠ p := fun z => by have := A.ls; rw [z, hp] at this; cases this
  have noL2 : ¬ (L.add p).has b := fun z => by
    rcases z with z | z
    · exact A.no (.inl z)
    · rcases List.mem_cons.mp (show b ∈ p :: L.x from z) with z | z
      · exact nbp z
      · exact A.no (.inr z)
  refine ⟨fun i m K => ∃ (c : List Addr) (acc : List V) (accD ys : List D) (μ' : Sto), AskSt P X k iy fs σ K ⟨c, p :: L.x⟩ ρ μ' b vs ∧ K p = some (.lst acc) ∧ Reps P K ⟨c, p :: L.x⟩ acc accD ∧ Ext0 L H ⟨c, p :: L.x⟩ K ∧ (∀ a ∈ L.x, K a = H a) ∧ accD.length = i ∧
      asksS pick ρ (fs.drop i) μ' = .ok ys μf ∧ accD ++ ys = total ∧ m = vs.length - i,
    ⟨_, L.c, [], [], total, μ, ⟨A.rs.ext0 x2, s2, A.at_, x2.keep _ _ A.ls (fun ps z => nomatch z) A.no, noL2, A.kp.ext0 A.st x2⟩, upd_same, .nil, x2, fun a h => upd_ne (fun z => by subst z; exact np h), rfl, et, rfl, rfl⟩, ?_⟩
  rintro i m K ⟨c, acc, accD, ys, μ3, B, kp3, ra3, x3, pv3, hl3, el3, ea3, rfl⟩
  have la := ra3.length
  cases e2 : vs[i]? with
  | none =>
    have big := List.getElem?_eq_none_iff.mp e2
    have e5 : fs.drop i = [] := List.drop_eq_nil_of_le (by omega)
    rw [e5] at el3
    cases el3
    rw [List.append_nil] at ea3
    subst ea3
    have en : LcEnd P L H c K p acc accD μf := ⟨hp, np, x3, pv3, B.st, kp3, ra3⟩
    obtain ⟨a1, a2, a3⟩ := en.pure
    exact .inl ⟨⟨vs, .inl (.inl B.ls), big⟩, q _ _ a1 a2 _ a3⟩
  | some v =>
    obtain ⟨fb, e6, kv⟩ := B.kp.get e2
    have lti : i < vs.length := (List.getElem?_eq_some_iff.mp e2).1
    rw [drop_some e6] at el3
    unfold asksS at el3
    obtain ⟨d, μ4, e7, el3⟩ := R.bind_of el3
    obtain ⟨zs, μ5, e8, el3⟩ := R.bind_of el3
    have e7 := R.nox_of e7
    have e8 := R.nox_of e8
    cases el3
    refine .inr ⟨⟨vs, v, .inl (.inl B.ls), e2⟩, fun K => ∃ (c : List Addr) (acc : List V) (accD ys : List D) (μ' : Sto), AskSt P X k iy fs σ K ⟨c, p :: L.x⟩ ρ μ' b vs ∧ K p = some (.lst acc) ∧ Reps P K ⟨c, p :: L.x⟩ acc accD ∧ Ext0 L H ⟨c, p :: L.x⟩ K ∧ (∀ a ∈ L.x, K a = H a) ∧ accD.length = i + 1 ∧
        asksS pick ρ (fs.drop (i + 1)) μ' = .ok ys μf ∧ accD ++ ys = total,
      fun K' ⟨c, acc, accD, ys, μ', a1, a2, a3, a4, a5, a6, a7, a8⟩ => ⟨vs.length - (i + 1), by omega, c, acc, accD, ys, μ', a1, a2, a3, a4, a5, a6, a7, a8, rfl⟩, ?_⟩
    rintro xx K' ⟨rfl, same⟩
    have exx := same vs (.inl (.inl B.ls))
    rw [e2] at exx
    cases exx
    refine ⟨?_, ?_⟩
    · show ((σ.set ia none).set ia (some v)).set ia none = σ.set ia none
      simp
    show tKept X k (TAsked X.K cl hs) ia σ ((σ.set ia none).set ia (some v)) K' fun z H4 => ∃ acc, H4 p = some (.lst acc) ∧ acc.length < sizeLine ∧ _
    cases kv with
    | mk at2 KK BB hb2 =>
      refine ⟨_, _, _, _, _, _, _, _, _, _, fun E => tV P (fun cls d _ H => E cls d H) fb, List.getElem?_set_self (by simpa using iaN), at2, KK, BB, hb2, ?_⟩
      refine asked_of (E := fun _ _ _ => False) (Z := fun H' => LamAt X _ _ _ _ _ _ _ _ _ H') hx B.rs B.st at2 ?_
      rw [e7]
      intro L7 H7 x7 s7 w rw7
      obtain ⟨c7, xx7⟩ := L7
      have ex : xx7 = p :: L.x := x7.px
      subst ex
      have hp7 : H7 p = some (.lst acc) := (x7.prv p List.mem_cons_self).trans kp3
      obtain ⟨s9, x9⟩ := prv_put (acc' := acc ++ [w]) s7 (p := p) List.mem_cons_self hp7
      have x79 : Ext0 ⟨c, p :: L.x⟩ K' ⟨c7, p :: L.x⟩ (upd H7 p (.lst (acc ++ [w]))) := x7.toExt0.trans x9
      refine ⟨acc, hp7, by rw [sizeLine_eq]; omega, c7, acc ++ [w], accD ++ [d], zs, μ4, ⟨B.rs.ext0 x79, s9, B.at_, ?_, ?_, B.kp.ext0 B.st x79⟩, upd_same, ((ra3.ext x7).append (.cons rw7 .nil)).ext0 x9, x3.trans x79, fun a h => ?_, by simp [hl3], e8, by rw [List.append_assoc]; exact ea3⟩
      · exact x79.keep _ _ B.ls (fun ps z => nomatch z) B.no
      · intro z
        rcases x79.new b z with z | z | ⟨ps, z⟩
        · exact B.no z
        · rw [B.ls] at z; cases z
        · rw [B.ls] at z; cases z
      · have ne : a ≠ p := fun z => by subst z; exact np h
        rw [upd_ne ne]
        exact (x7.prv a (List.mem_cons_of_mem _ h)).trans (pv3 a h)
end
end L3

namespace L3
open PySem PySem.Spec PyProof.Rows L2
/-! ### the two rows: asks = [lambda ..]; if [x(ask) for ask in asks] op e: .. -/
def sOut (i : Nat) : SS := fun ρ μ => .nx (ρ.set i none) μ
theorem R.bind_thn {α β : Type} {r : R α} {f : α → Sto → R β} {ρ : Env} {k : β → Sto → RS} : (r.bind f).thn ρ k = r.thn ρ fun a μ => (f a μ).thn ρ k := by
  cases r <;> rfl
theorem RelS.out {P : Pm} {H : Hp} {L : Lv} {σ : L2.St} {ρ : Env} {i : Nat} {v : V} (r : RelS P H L σ ρ) : RelS P H L (σ.set i (some v)) (ρ.set i none) := by
  refine ⟨by rw [List.length_set, List.length_set]; exact r.len, fun j d e => ?_⟩
  by_cases h : i = j
  · subst h
    by_cases hl : i < ρ.length
    · rw [List.getElem?_set_self hl] at e; cases e
    · rw [List.getElem?_eq_none (by simpa using hl)] at e; cases e
  · rw [List.getElem?_set_ne h] at e ⊢
    exact r.at_ j d e
theorem _root_.L2.PSs.len3 {X : Cx} {e : List Stmt} {t : TS} (h : PSs X e t) : PSs X e (fun D σ H => σ.length = X.N.length → t D σ H) := ⟨fun pins s σ H D I q => h.run pins s σ H D I (q I.len)⟩
section
variable {P : Pm} {W : WX} {X : Cx} {k : Nat}
theorem vss_asks {pick : Str → Option Shape} {y : Str} {iy : Nat} {C e2 : Expr} {es : List Expr} {fs : List SE} {f2 : SE} {c Pt : Addr} {op : CmpOp} {r : R2} {gg : D → D → Sto → R D} {body els rest : List Stmt} {fb fe fr : SS} {py lp ap cp ip : Pos}
    (TB : LamX.TabB X.base X.mg c Pt) (hcode : X.env.code = .ref c) (hmT : (Pt, lamNm X) ∈ P.T) (hu : ∀ p ∈ P.T, p.1 = Pt → p.2 = lamNm X) (a : Lams P X k es fs) (few : fs.length ≤ 100)
    (hN : X.N.Nodup) (hiy : X.N[iy]? = some y) (hly : Loc X.env.scope y) (hfy : X.fn y = true ∨ X.env.scope.names.lookup y = some .local)
    (hC : PE X C (fun σ H Q => ∃ L ρ μ b vs, AskSt P X k iy fs σ H L ρ μ b vs ∧ Post P (WE W σ) L H (fun d L' H' => ∀ v, Rep P H' L' v d → Q v H') (eAsks pick fs ρ μ)))
    (ho : OpR X (compareOp op) r) (hg : OpS P r gg) (h2 : VE P W X e2 f2) (hm : behindInMarks op e2 = false) (hb : VSs P W X body fb) (he : VSs P W X els fe) (hr : VSs P W X rest fr)
    (hs : swapsWith (.List es lp) (some (.Name y py)) ap.line X.env = pure false := by rfl) :
    VSs P W X (.Assign [.Name y py] (.List es lp) ap :: .If (.Compare C [op] [e2] cp) body els ip :: rest) (sSeq (sOut iy) (sSeq (sIf (eT (eB gg (eAsks pick fs) f2)) fb fe) fr)) := by
  have one := ps_set (pos := ap) (pos' := py) hN hiy hly (pe_lst (pos := lp) (pa_lams TB hcode hmT hu a)) hs hfy
  have two := ps_if (pos := ip) (pt_cmpR (pos := cp) ho hC h2 hm) hb he
  refine (pss_cons one (pss_cons two hr)).len3.imp3 fun D σ H ⟨L, ρ, μ, rs, st, q⟩ lenN => ?_
  have iyN : iy < σ.length := by rw [lenN]; exact (List.getElem?_eq_some_iff.mp hiy).1
  have q : PostS P W D L H (sSeq (sIf (eT (eB gg (eAsks pick fs) f2)) fb fe) fr (ρ.set iy none) μ) := q
  refine ⟨st.tab, fun vs H1 ex tb kv => ⟨by rw [kv.length]; exact line100 few, fun p hp => ?_⟩⟩
  have x1 : Ext P L H L H1 := ⟨⟨fun a o h t _ => ex a o h t, fun _ _ h => h, fun _ h => .inl h⟩, rfl, fun a h => by
    obtain ⟨vs, e⟩ := (st.dis a h).2
    rw [e]
    exact ex a _ e fun ps z => nomatch z⟩
  have s1 : St3 P H1 L μ := ⟨st.len, fun k a m h1 h2 => (st.at_ k a m h1 h2).ext0 (fun o e => ex a o e fun ps z => (st.at_ k a m h1 h2).notbl (z ▸ e)) x1.toExt0, st.nd, fun a h => ⟨(st.dis a h).1, let ⟨vs, e⟩ := (st.dis a h).2; ⟨vs, ex a _ e fun ps z => nomatch z⟩⟩, tb⟩
  have x2 : Ext P L H L (upd H1 p (.lst vs)) := x1.trans (Ext.grow s1 (upd_grow hp))
  have s2 : St3 P (upd H1 p (.lst vs)) L μ := s1.grow (upd_grow hp)
  have A : AskSt P X k iy fs (σ.set iy (some (.ref p))) (upd H1 p (.lst vs)) L (ρ.set iy none) μ p vs := ⟨(rs.ext x2).out, s2, List.getElem?_set_self iyN, upd_same, s1.new_not hp, kv.ext (.of (upd_grow hp))⟩
  have q := PostS.ext x2 q
  show tSeq _ _ D (σ.set iy (some (.ref p))) (upd H1 p (.lst vs))
  generalize σ.set iy (some (.ref p)) = τ at A ⊢
  generalize ρ.set iy none = ρ' at A q
  generalize upd H1 p (.lst vs) = G at A q ⊢
  -- the test, then either side
  have q3 : PostS P W { D with nx := fun σ' H' => tS P W fr D σ' H' } L G ((eT (eB gg (eAsks pick fs) f2) ρ' μ).thn ρ' fun c μ1 => if c = true then fb ρ' μ1 else fe ρ' μ1) := by
    unfold sSeq at q
    show PostS P W _ L G (sIf (eT (eB gg (eAsks pick fs) f2)) fb fe ρ' μ)
    cases e : sIf (eT (eB gg (eAsks pick fs) f2)) fb fe ρ' μ with
    | nx ρ1 μ1 => rw [e] at q; exact fun σ' L' H' x s' rs' => ⟨L', ρ1, μ1, rs', s', PostS.ext x q⟩
    | rt d μ1 => rw [e] at q; exact q
    | bk ρ1 μ1 => rw [e] at q; exact q
    | ct ρ1 μ1 => rw [e] at q; exact q
    | exc c ns vs ρ1 μ1 => rw [e] at q; exact q
    | bad => rw [e] at q; exact q
  unfold eT eB at q3
  rw [R.bind_thn, R.bind_thn] at q3
  refine ⟨L, ρ', μ, p, vs, A, ?_⟩
  cases e : eAsks pick fs ρ' μ with
  | bad => rw [e] at q3; exact q3
  | exc c ns vs μ1 => rw [e] at q3; exact fun C dx L' H' hc x s f => q3 τ C dx L' H' hc x s (A.rs.ext x) f
  | ok d μ1 =>
    rw [e] at q3
    intro L3 H3 x3 s3 v rv
    have q4 := PostS.ext x3 q3
    simp only [R.thn_ok] at q4
    rw [R.bind_thn] at q4
    refine tV.firstS (A.rs.ext x3) s3 q4 fun d2 μ2 v2 L4 H4 x4 s4 r4 rs4 q5 => ?_
    refine hg (WE W τ) L4 H4 μ2 v v2 d d2 _ s4 (rv.ext x4) r4 ?_
    cases eg : gg d d2 μ2 with
    | bad => rw [eg] at q5; exact q5
    | exc c ns vs μ3 => rw [eg] at q5; exact fun C dx L' H' hc x s f => q5 τ C dx L' H' hc x s (rs4.ext x) f
    | ok dd μ3 =>
      rw [eg] at q5
      intro L5 H5 x5 s5 w rw5
      have q6 := PostS.ext x5 q5
      cases rw5 with
      | bl b =>
        refine ⟨b, rfl, ?_⟩
        cases b with
        | true => exact ⟨L5, ρ', μ3, rs4.ext x5, s5, q6⟩
        | false => exact ⟨L5, ρ', μ3, rs4.ext x5, s5, q6⟩
      | _ => exact q6.elim
end
end L3

namespace L3
open PySem PySem.Spec PyProof.Rows L2
/-! ### kept lambdas: ready rules -/
def zeroB : Expr → Bool
  | .Constant (.int i) _ _ => i == 0
  | _ => false
theorem zeros_by {es : List Expr} (h : es.all zeroB = true) : Zeros es := fun e he => by
  have z := List.all_eq_true.mp h e he
  unfold zeroB at z
  split at z
  · rename_i i j p
    exact ⟨j, p, by rw [show i = 0 by simpa using z]⟩
  · cases z
def lamB (N : List Str) (sc : Scope) (params : Arguments) (scope : Scope) (as : List Str) : Bool :=
  params.defaults.all zeroB && params.kw_defaults.isEmpty && decide (params.defaults.length ≤ 100) && lamKB N sc scope as
theorem Lams.by {P : Pm} {X : Cx} {k : Nat} {params : Arguments} {body : Expr} {scope : Scope} {lpos : Pos} {as : List Str} {fb : SE} {es : List Expr} {fs : List SE} (h : lamB X.N X.env.scope params scope as = true) (B : LamBind params body scope as)
    (hb : ∀ (A : Around) (outer : List _root_.PySem.Env) (s : Shared) (H : Hp) (E : XK) (f cd : Addr), Room k (A.deeper (LamX.lamEnv X scope s.heap.objs.size f cd)) → VE P (fun cls d _ H => E cls d H) (LamX.lamCx X A outer s H E scope f cd) body fb) (r : Lams P X k es fs) :
    Lams P X k (.Lambda params body scope lpos :: es) (fb :: fs) := by
  unfold lamB at h
  simp only [Bool.and_eq_true, decide_eq_true_eq, List.isEmpty_iff] at h
  exact .cons (zeros_by h.1.1.1) h.1.1.2 h.1.2 (lamK_by h.2) B hb r
theorem LamBind.bare {params : Arguments} {body : Expr} {scope : Scope} (z : params.defaults = []) (h : ∀ (q : Str) (cl : List (Str × Addr)) (doc pm cv ctv : Value), bindArgs (PySem.W.kdv_fn "<lambda>" q params (.expr body) scope cl .none doc pm cv ctv) ⟨[], []⟩ = pure []) : LamBind params body scope [] :=
  ⟨fun _ => ⟨rfl, h⟩, fun n => absurd z n⟩
theorem LamBind.with {params : Arguments} {body : Expr} {scope : Scope} {as : List Str} (z : params.defaults.length = as.length) (n : as.isEmpty = false)
    (h : ∀ (q : Str) (cl : List (Str × Addr)) (t : Addr) (doc pm cv ctv : Value) (us : List Value), us.length = as.length → ∃ k, bindArgs (PySem.W.kdv_fn "<lambda>" q params (.expr body) scope cl (.ref t) doc pm cv ctv) ⟨[], []⟩ = seqItems? (.ref t) >>= k ∧ k (some us.toArray) = pure (as.zip us)) : LamBind params body scope as :=
  { b0 := fun e => by
      rw [e] at z
      cases as with
      | nil => cases n
      | cons _ _ => cases z
    b1 := fun _ q cl t doc pm cv ctv us e => h q cl t doc pm cv ctv us (e.trans z) }
/-! the walking rules -/
def asksA (pick : Str → Option Shape) : List SE → SA
  | [] => aNil
  | f :: fs => aCons (eAsked pick f) (asksA pick fs)
theorem eAsked_nox (pick : Str → Option Shape) (f : SE) (ρ : Env) (μ : Sto) : (eAsked pick f ρ μ).nox = eAsked pick f ρ μ := by
  unfold eAsked
  cases f ρ μ with
  | ok _ _ => rfl
  | bad => rfl
  | exc c ns vs μ1 => dsimp only; cases (pick c).bind fun sh => sh.told ns vs <;> rfl
theorem asks_same (pick : Str → Option Shape) (ρ : Env) : ∀ (fs : List SE) (μ : Sto), asksS pick ρ fs μ = asksA pick fs ρ μ ∧ (asksS pick ρ fs μ).nox = asksS pick ρ fs μ ∧ ∀ ds μ1, asksS pick ρ fs μ = .ok ds μ1 → ds.length = fs.length
  | [], μ => ⟨rfl, rfl, fun ds μ1 h => by cases h; rfl⟩
  | f :: fs, μ => by
    have e : asksS pick ρ (f :: fs) μ = (eAsked pick f ρ μ).bind fun d μ1 => (asksS pick ρ fs μ1).bind fun ds μ2 => .ok (d :: ds) μ2 := by
      have e0 : asksS pick ρ (f :: fs) μ = (eAsked pick f ρ μ).nox.bind fun d μ1 => (asksS pick ρ fs μ1).nox.bind fun ds μ2 => .ok (d :: ds) μ2 := rfl
      rw [e0, eAsked_nox]
      cases eAsked pick f ρ μ with
      | ok d μ1 => show (asksS pick ρ fs μ1).nox.bind _ = _; rw [(asks_same pick ρ fs μ1).2.1]; rfl
      | exc _ _ _ _ => rfl
      | bad => rfl
    have en := eAsked_nox pick f ρ μ
    refine ⟨?_, ?_, ?_⟩
    · rw [e]
      show _ = (eAsked pick f ρ μ).bind fun d μ1 => (asksA pick fs ρ μ1).bind fun ds μ2 => .ok (d :: ds) μ2
      cases eAsked pick f ρ μ with
      | ok d μ1 => show (asksS pick ρ fs μ1).bind _ = _; rw [(asks_same pick ρ fs μ1).1]; rfl
      | exc _ _ _ _ => rfl
      | bad => rfl
    · rw [e]
      cases h : eAsked pick f ρ μ with
      | ok d μ1 =>
        show ((asksS pick ρ fs μ1).bind _).nox = (asksS pick ρ fs μ1).bind _
        have z := (asks_same pick ρ fs μ1).2.1
        cases h2 : asksS pick ρ fs μ1 with
        | ok _ _ => rfl
        | exc _ _ _ _ => rw [h2] at z; cases z
        | bad => rfl
      | exc _ _ _ _ => rw [h] at en; cases en
      | bad => rfl
    · intro ds μ1 h
      rw [e] at h
      obtain ⟨d, μ2, _, h⟩ := R.bind_of h
      obtain ⟨ds2, μ3, h3, h⟩ := R.bind_of h
      cases h
      simp [(asks_same pick ρ fs μ2).2.2 _ _ h3]
theorem eAsks_eq (pick : Str → Option Shape) (fs : List SE) : eAsks pick fs = eLst (asksA pick fs) := by
  funext ρ μ
  obtain ⟨e1, e2, e3⟩ := asks_same pick ρ fs μ
  unfold eAsks eLst
  rw [e2, ← e1]
  cases h : asksS pick ρ fs μ with
  | ok ds μ1 =>
    rw [h] at e3
    have := e3 ds μ1 rfl
    by_cases c : fs.length ≤ 100
    · rw [if_pos c]; show _ = if _ then _ else _; rw [if_pos (by omega)]; rfl
    · rw [if_neg c]; show _ = if _ then _ else _; rw [if_neg (by omega)]
  | exc _ _ _ _ => rw [h] at e2; cases e2
  | bad => by_cases c : fs.length ≤ 100 <;> simp [c]
section
variable {pick : Str → Option Shape} {f : SE} {fs : List SE} {ρ : Env} {μ : Sto} {N : List D → Sto → Prop} {N1 : D → Sto → Prop} {E : Str → List Str → List D → Sto → Prop}
theorem wp_asks (h : (eLst (asksA pick fs) ρ μ).wp N1 E) : (eAsks pick fs ρ μ).wp N1 E := by rw [eAsks_eq]; exact h
theorem wp_asksC (h : (aCons (eAsked pick f) (asksA pick fs) ρ μ).wp N E) : (asksA pick (f :: fs) ρ μ).wp N E := h
theorem wp_asksN (h : (aNil ρ μ).wp N E) : (asksA pick [] ρ μ).wp N E := h
end
section
variable {ρ : Env} {μ : Sto} {N B C : Env → Sto → Prop} {T : D → Sto → Prop} {E : Str → List Str → List D → Sto → Prop} {i : Nat} {g : SS}
theorem wp_seqOut (h : (g (ρ.set i none) μ).wp N T B C E) : (sSeq (sOut i) g ρ μ).wp N T B C E := wp_sSeq h
end
end L3

namespace L3
open PySem PySem.Spec PyProof.Rows L2
/-! ### x(lambda a=0: ..), at once -/
theorem Un.same0 {fs ex : List Addr} {H : Hp} {h : Heap} : Un fs ex H H h h := Un.refl
section
variable {P : Pm} {W : WX} {X : Cx} {k : Nat}
theorem ve_asked2 {cl : Str → Addr} {hs : List (List Str × Shape)} {pick : Str → Option Shape} {x a ev : Str} {g : Addr} {pg : Arguments} {bg : List Stmt} {sg : Scope} {fdg : FuncData} {hds : List ExceptHandler} {j1 t1 : Nat} {p1 p2 p3 p4 p5 p20 q1 q3 lpos : Pos}
    {params : Arguments} {body : Expr} {scope : Scope} {as : List Str} {fb : SE} {c Pt : Addr}
    (hm : X.mg x = some (.ref g)) (F : FunD X.K x x pg bg sg [] [] g fdg) (Sg : FnScope [a, ev] [a] sg) (loc : sg.names.lookup ev = some .local) (hva : Vis sg a)
    (hbind : ∀ (kV doc pm : Value) (an : Option Addr) (cdv ct : Value) (us : List Value), us.length = ([a] : List Str).length → bindArgs (PySem.W.fnOf x x pg bg sg .none kV doc pm an cdv ct) ⟨us, []⟩ = pure (([a] : List Str).zip us))
    (hne : hs ≠ []) (hA : AskH ev hds hs) (hC : ∀ q ∈ hs, q.1.length ≤ 100 ∧ ∀ x ∈ q.1, sg.names.lookup x = some .globalImplicit ∧ (x == ("__debug__" : Str)) = false ∧ X.mg x = some (.ref (cl x)))
    (hb : bg = [.Try [.Return (some (.Tuple [.Constant (.str "told") j1 p1, .Call (.Name a p2) [] [] p3] t1 p4)) p5] hds [] [] p20])
    (hx : ∀ n C sh, P.cls n = some C → pick n = some sh → XfC X.K C ∧ (∀ f ∈ sh.flds, PySem.W.findIn X.K (.ref C) f = some none) ∧ pickS X.K cl (.ref C) hs = some sh)
    (TB : LamX.TabB X.base X.mg c Pt) (hcode : X.env.code = .ref c) (hmT : (Pt, lamNm X) ∈ P.T) (hu : ∀ p ∈ P.T, p.1 = Pt → p.2 = lamNm X) (hr : Room (k + 2) X.A) (hgl : Gl X x) (hl : lamB X.N X.env.scope params scope as = true) (B : LamBind params body scope as)
    (hbody : ∀ (A : Around) (outer : List _root_.PySem.Env) (s : Shared) (H : Hp) (E : XK) (f cd : Addr), Room k (A.deeper (LamX.lamEnv X scope s.heap.objs.size f cd)) → VE P (fun cls d _ H => E cls d H) (LamX.lamCx X A outer s H E scope f cd) body fb)
    (dv : (ev == ("__debug__" : Str)) = false := by decide) (cv : (ev == ("__classdict__" : Str)) = false := by decide) (hdb : (x == ("__debug__" : Str)) = false := by decide) (hda : (a == ("__debug__" : Str)) = false := by decide) (hca : (a == ("__classdict__" : Str)) = false := by decide) :
    VE P W X (.Call (.Name x q1) [.Lambda params body scope lpos] [] q3) (eAsked pick fb) := by
  obtain ⟨oc, od, dV, kV, doc, pm, an, cdv, ct, osl, e0, lk, hcg, hD, hKw⟩ := F.ex
  have hbs := F.bindsN hbind
  rcases hD with ⟨_, eD⟩ | ⟨z, _⟩
  case inr => exact absurd rfl z
  subst e0 eD
  have G := asked_gives (X := X) (x := x) (q := lamNm X) (sg := sg) (g := g) (cdg := cdv) Sg.nd loc hne hA hC dv cv hb
  unfold lamB at hl
  simp only [Bool.and_eq_true, decide_eq_true_eq, List.isEmpty_iff] at hl
  obtain ⟨⟨⟨l1, l2⟩, l3⟩, l4⟩ := hl
  have K := lamK_by l4
  refine ⟨fun pins s σ H Q I ⟨L, ρ, μ, rs, st, q⟩ => ?_⟩
  refine wpAny_Call_Name_kw (ld_glob I hgl hm ?_ hdb)
  refine PySem.W.callWith_K (h₀ := X.base) I.ok.mod.kin F.kp ?_ (by rfl) (by rfl)
  show wpAny _ _ (spliced ((false, eval (.Lambda params body scope lpos) X.env) :: backTo q3 (starEach [] X.env))) _ _ s
  have made := (pe_lam2 (T := P.T) (pos := lpos) (body := body) TB hcode hmT hu K.free (zeros_by l1) l2 l3).run pins s σ H
    (fun v H1 => ∃ f dVl docl pml cd ctv, v = .ref f ∧ LamX.ExtN H H1 ∧ LamX.Tabs P.T H1 ∧ LamAt X params body scope f dVl docl pml cd ctv H1) I ⟨st.tab, fun f dVl docl pml cd ctv H1 e1 t1 _ at1 => ⟨f, dVl, docl, pml, cd, ctv, rfl, e1, t1, at1⟩⟩
  refine Calls.spliced_cons (thn made fun u s1 ⟨v, H1, I1, r1, f, dVl, docl, pml, cd, ctv, ev_, ex, tb, at1⟩ => ?_)
  subst ev_
  obtain rfl : u = Value.ref f := r1
  refine Calls.spliced_nil ⟨I1.kIn, ?_⟩
  have x1 : Ext P L H L H1 := ⟨⟨fun a o h t _ => ex a o h t, fun _ _ h => h, fun _ h => .inl h⟩, rfl, fun a h => by
    obtain ⟨vs, e⟩ := (st.dis a h).2
    rw [e]
    exact ex a _ e fun ps z => nomatch z⟩
  have s3 : St3 P H1 L μ := ⟨st.len, fun k a m h1 h2 => (st.at_ k a m h1 h2).ext0 (fun o e => ex a o e fun ps z => (st.at_ k a m h1 h2).notbl (z ▸ e)) x1.toExt0, st.nd, fun a h => ⟨(st.dis a h).1, let ⟨vs, e⟩ := (st.dis a h).2; ⟨vs, ex a _ e fun ps z => nomatch z⟩⟩, tb⟩
  have told := asked_of (Z := fun H' => LamAt X params body scope f dVl docl pml cd ctv H') hx (rs.ext x1) s3 at1 (Post.ext x1 q)
  have off : Off X [] := fun b hb => nomatch hb
  have rc : codeAny (model X.prog X.w) X.A (.call (.ref g) ⟨[.ref f], []⟩) (CR C8.CX0 X.stack X.prog X.w H1 s1 Q C8.E0) s1 := by
    refine LamX.run_ofS (N := [a, ev]) (ps := [a]) (us := [.ref f]) (vs := [.ref f]) lk hcg Sg hr I1.env0 (hbs s1 [.ref f] I1.kIn rfl) (.cons rfl .nil) rfl fun hr2 => ?_
    obtain ⟨t2, ht2, hq2⟩ := G f cd s1 H1 Q _ (fun W pn xe E p1 p2 tk hW => kept_act (i := 0) I1 off Un.same0 K B tk hW hr2 (fun A outer s H hr3 => hbody A outer s H E f cd hr3) rfl hva hda hca) at1.co told
    exact ⟨t2, ht2.nox, hq2⟩
  refine wpAny_call (codeAny_mono rc fun r s2 q => ?_)
  cases r with
  | error e => exact (show False from q).elim
  | ok fl =>
    cases fl with
    | ret u => exact I1.after q
    | next => exact q.elim
    | brk => exact q.elim
    | cont => exact q.elim
end
/-! ### a keyword-only parameter that is left out -/
theorem Fct.kwd {l : Lw} {P : Pm} {mg : Str → Option Value} {base : Heap} {w : World} (T : Fct l P mg base w) (i : Nat) {x n qual : Str} {d : D} {params : Arguments} {body : List Stmt} {scope : Scope} {fd : FuncData} (h : l.kwv[i]? = some (x, n, d))
    (F : FunD P.K x qual params body scope [] [] (He.ga P.K x) fd) : ∃ v, FunD P.K x qual params body scope [] [(n, v)] (He.ga P.K x) fd ∧ ∀ L H, Reps P H L [v] [d] := by
  have h0 := (Bool.and_eq_true_iff.mp (Bool.and_eq_true_iff.mp (Bool.and_eq_true_iff.mp (Bool.and_eq_true_iff.mp (Bool.and_eq_true_iff.mp T.ex).2).2).2).2).2
  have h1 := List.all_eq_true.mp (Bool.and_eq_true_iff.mp h0).2 _ (List.mem_of_getElem? h)
  obtain ⟨oc, od, dV, kV, doc, pm, an, cdv, ct, osl, e0, lk, hcg, hD, hKw⟩ := F.ex
  unfold kwvB at h1
  dsimp only at h1
  rw [lk] at h1
  dsimp only at h1
  subst e0
  cases kV with
  | ref D =>
    dsimp only [PySem.W.fnOf] at h1
    cases e : PySem.W.nsIn P.K D n with
    | none => rw [e] at h1; cases h1
    | some r =>
      cases r with
      | none => rw [e] at h1; cases h1
      | some u =>
        rw [e] at h1
        obtain ⟨v, rv, hv⟩ := conV_ok (K := P.K) (u := u) (d := d) h1
        exact ⟨v, ⟨⟨oc, od, dV, .ref D, doc, pm, an, cdv, ct, osl, rfl, lk, hcg, hD, .inr ⟨D, rfl, fun q hq => by
          rw [List.mem_singleton] at hq
          subst hq
          exact ⟨u, e, rv⟩⟩⟩, F.kp⟩, fun L H => .cons (hv P H L rfl) .nil⟩
  | _ => cases h1
end L3

namespace Pf
open PySem PySem.Spec PyProof.Rows L2 L3
noncomputable def b__law_bag__1 : SS := (sSeq (sSet 1 (eC (.int 9454)))
  (sSeq (sFor (iAnyD (eSl dSl3 (eVar 0) oNone (oSome (eC (.int 63))))) (gSet 2) (sSet 1 (eB dMod (eB dAdd (eB dAdd (eB dMul (eVar 1) (eC (.int 48611))) (eB dMod (eVar 2) (eC (.int 2147483629)))) (eC (.int 23))) (eC (.int 2147483647)))))
  (sRet (eLstC (aCons (eCallB (un dListOf) (aCons (eSl dSl3 (eVar 0) oNone (oSome (eC (.int 63)))) aNil)) (aCons (eC (.int 0)) (aCons (eC (.int 0)) (aCons (eVar 1) (aCons (eC (.int 0)) aNil)))))))))
@[irreducible] noncomputable def f__law_bag__1 : List D → Sto → R D := fnF 3 b__law_bag__1
noncomputable def b__law_pull : SS := (sSeq (sIf (eAndT (eT (eB dEq (eB dIx (eVar 0) (eC (.int 2))) (eC (.int 0)))) (eT (eB dLt (eB dIx (eVar 0) (eC (.int 1))) (eCallB (un dLen) (aCons (eB dIx (eVar 0) (eC (.int 0))) aNil))))) (sSeq (sSet 2 (eB dIx (eB dIx (eVar 0) (eC (.int 0))) (eB dIx (eVar 0) (eC (.int 1)))))
  (sSeq (sSub (eB dAdd (eB dIx (eVar 0) (eC (.int 1))) (eC (.int 1))) (eVar 0) (eC (.int 1)))
  (sIf (eT (eB dGe (eVar 2) (eB dPow (eC (.int 10)) (eC (.int 18))))) (sSub (eVar 2) (eVar 0) (eC (.int 2))) (sSub (eB dMod (eB dAdd (eB dAdd (eB dMul (eB dIx (eVar 0) (eC (.int 3))) (eC (.int 40283))) (eB dMod (eVar 2) (eC (.int 2147483587)))) (eC (.int 7))) (eC (.int 2147483647))) (eVar 0) (eC (.int 3)))))) sNil)
  (sSeq (sIf (eT (eB dGt (eB dIx (eVar 0) (eC (.int 2))) (eC (.int 0)))) (sSeq (sSet 3 (eB dMod (eB dIx (eVar 0) (eC (.int 2))) (eVar 1)))
  (sSeq (sSub (eB dFdiv (eB dIx (eVar 0) (eC (.int 2))) (eVar 1)) (eVar 0) (eC (.int 2)))
  (sRet (eVar 3)))) sNil)
  (sSeq (sSub (eB dAdd (eB dIx (eVar 0) (eC (.int 4))) (eC (.int 1))) (eVar 0) (eC (.int 4)))
  (sSeq (sSet 4 (eB dMod (eB dAdd (eB dIx (eVar 0) (eC (.int 3))) (eB dMul (eB dIx (eVar 0) (eC (.int 4))) (eC (.int 7211)))) (eC (.int 2147483647))))
  (sSeq (sSub (eB dMod (eB dAdd (eB dAdd (eB dMul (eB dMod (eB dMul (eVar 4) (eVar 4)) (eC (.int 2147483629))) (eB dAdd (eB dMod (eVar 4) (eC (.int 30011))) (eC (.int 5)))) (eB dMul (eC (.int 20011)) (eVar 4))) (eC (.int 977))) (eC (.int 2147483647))) (eVar 0) (eC (.int 3)))
  (sRet (eB dMod (eB dAdd (eB dFdiv (eB dIx (eVar 0) (eC (.int 3))) (eC (.int 71))) (eB dMul (eB dMod (eB dIx (eVar 0) (eC (.int 3))) (eC (.int 8191))) (eC (.int 41)))) (eVar 1))))))))
@[irreducible] noncomputable def f__law_pull : List D → Sto → R D := fnF 5 b__law_pull
noncomputable def b__law_of : SS := (sRet (eB dIx (eVar 1) (eCall 2 f__law_pull (aCons (eVar 0) (aCons (eCallB (un dLen) (aCons (eVar 1) aNil)) aNil)))))
@[irreducible] noncomputable def f__law_of : List D → Sto → R D := fnF 2 b__law_of
noncomputable def b__law_abc : SS := (sSeq (sPar 2 3 (aCons (eCall 2 f__law_pull (aCons (eVar 0) (aCons (eC (.int 26)) aNil))) (aCons (eLstC aNil) aNil)))
  (sSeq (sSet 4 (eCall 2 f__law_of (aCons (eVar 0) (aCons (eLst (aCons (eC (.str "")) (aCons (eC (.str "")) (aCons (eC (.str "q")) (aCons (eC (.str "zzzzz")) (aCons (eC (.str "ab")) aNil)))))) aNil))))
  (sSeq (sSet 5 (eCall 2 f__law_pull (aCons (eVar 0) (aCons (eB dAdd (eCallB (un dLen) (aCons (eVar 4) aNil)) (eC (.int 1))) aNil))))
  (sSeq (sFor (iRange1 (aCons (eVar 1) aNil)) (gSet 6) (sSeq (sSet 7 (eB dIx (eC (.str "abcdefghijklmnopqrstuvwxyz")) (eB dMod (eB dAdd (eVar 2) (eB dMul (eC (.int 5)) (eVar 6))) (eC (.int 26)))))
  (sExpr (eM "list" dAppend (eVar 3) (aCons (eB dAdd (eB dAdd (eSl dSl3 (eVar 4) oNone (oSome (eVar 5))) (eVar 7)) (eSl dSl3 (eVar 4) (oSome (eVar 5)) oNone)) aNil)))))
  (sRet (eVar 3))))))
@[irreducible] noncomputable def f__law_abc : List D → Sto → R D := fnF 8 b__law_abc
noncomputable def b__law_gcd : SS := (sSeq (sWhile (eT (eB dNe (eVar 1) (eC (.int 0)))) (sPar 0 1 (aCons (eVar 1) (aCons (eB dMod (eVar 0) (eVar 1)) aNil))))
  (sRet (eCallB (un dAbsC) (aCons (eVar 0) aNil))))
@[irreducible] noncomputable def f__law_gcd : List D → Sto → R D := fnF 2 b__law_gcd
noncomputable def b__law_fr : SS := (sSeq (sSet 2 (eCall 2 f__law_gcd (aCons (eVar 0) (aCons (eVar 1) aNil))))
  (sSeq (sSet 2 (eIf (eT (eB dLt (eVar 1) (eC (.int 0)))) (eB dSub (eC (.int 0)) (eVar 2)) (eVar 2)))
  (sRet (eTup (aCons (eB dFdiv (eVar 0) (eVar 2)) (aCons (eB dFdiv (eVar 1) (eVar 2)) aNil))))))
@[irreducible] noncomputable def f__law_fr : List D → Sto → R D := fnF 3 b__law_fr
noncomputable def b__law_light : SS := (sRet (eCall 2 f__law_fr (aCons (eB dSub (eCall 2 f__law_pull (aCons (eVar 0) (aCons (eC (.int 9)) aNil))) (eC (.int 4))) (aCons (eB dIx (eLst (aCons (eC (.int 1)) (aCons (eC (.int 1)) (aCons (eC (.int 1)) (aCons (eC (.int 2)) (aCons (eC (.int 3)) (aCons (eC (.int 5)) aNil))))))) (eCall 2 f__law_pull (aCons (eVar 0) (aCons (eC (.int 6)) aNil)))) aNil))))
@[irreducible] noncomputable def f__law_light : List D → Sto → R D := fnF 1 b__law_light
noncomputable def b__law_leaf : SS := (sRet (eIf (eT (eB dEq (eCall 2 f__law_pull (aCons (eVar 0) (aCons (eC (.int 4)) aNil))) (eC (.int 0)))) (eTup (aCons (eC (.str "share")) (aCons (eCall 1 f__law_light (aCons (eVar 0) aNil)) aNil))) (eTup (aCons (eC (.str "letter")) (aCons (eCall 2 f__law_of (aCons (eVar 0) (aCons (eVar 1) aNil))) aNil)))))
@[irreducible] noncomputable def f__law_leaf : List D → Sto → R D := fnF 2 b__law_leaf
noncomputable def b__law_drawn (rec__law_drawn : List D → Sto → R D) : SS := (sSeq (sSet 4 (eCall 2 f__law_pull (aCons (eVar 0) (aCons (eC (.int 9)) aNil))))
  (sSeq (sIf (eOrT (eT (eB dLt (eVar 2) (eC (.int 2)))) (eOrT (eT (eB dEq (eVar 4) (eC (.int 0)))) (eAndT (eT (eB dLt (eVar 2) (eC (.int 3)))) (eT (eB dEq (eVar 3) (eC (.int 0))))))) (sRet (eCall 2 f__law_leaf (aCons (eVar 0) (aCons (eVar 1) aNil)))) sNil)
  (sSeq (sIf (eAndT (eT (eB dGt (eVar 3) (eC (.int 0)))) (eOrT (eT (eB dLt (eVar 4) (eC (.int 3)))) (eT (eB dLt (eVar 2) (eC (.int 3)))))) (sRet (eTup (aCons (eC (.str "undo")) (aCons (eCall 4 rec__law_drawn (aCons (eVar 0) (aCons (eVar 1) (aCons (eB dSub (eVar 2) (eC (.int 1))) (aCons (eB dSub (eVar 3) (eC (.int 1))) aNil))))) aNil)))) sNil)
  (sSeq (sSet 5 (eB dAdd (eC (.int 1)) (eCall 2 f__law_pull (aCons (eVar 0) (aCons (eB dSub (eVar 2) (eC (.int 2))) aNil)))))
  (sSeq (sSet 6 (eCall 4 rec__law_drawn (aCons (eVar 0) (aCons (eVar 1) (aCons (eVar 5) (aCons (eVar 3) aNil))))))
  (sRet (eTup (aCons (eB dIx (eLst (aCons (eC (.str "plus")) (aCons (eC (.str "less")) (aCons (eC (.str "times")) aNil)))) (eB dMod (eVar 4) (eC (.int 3)))) (aCons (eVar 6) (aCons (eCall 4 rec__law_drawn (aCons (eVar 0) (aCons (eVar 1) (aCons (eB dSub (eB dSub (eVar 2) (eC (.int 1))) (eVar 5)) (aCons (eVar 3) aNil))))) aNil))))))))))
noncomputable def g__law_drawn : Nat → Nat → List D → Sto → R D
  | 0, _ => fun _ _ => .bad
  | n + 1, _ => fnF 7 (b__law_drawn (g__law_drawn n 0))
@[irreducible] noncomputable def f__law_drawn (n : Nat) : List D → Sto → R D := g__law_drawn n 0
theorem f__law_drawn_0 : f__law_drawn 0 = fun _ _ => .bad := by unfold f__law_drawn; rfl
theorem f__law_drawn_s (n : Nat) : f__law_drawn (n + 1) = fnF 7 (b__law_drawn (f__law_drawn n)) := by unfold f__law_drawn; rfl
noncomputable def b_is_letter : SS := (sRet (eAndV (eChain dLe dLe (eC (.int 1)) (eCallB (un dLen) (aCons (eVar 0) aNil)) (eC (.int 6))) (eCallB (un dAll) (aCons (eLc [1] (iAnyD (eVar 0)) (gSet 1) tYesS (eB (dIn false) (eVar 1) (eC (.str "abcdefghijklmnopqrstuvwxyz")))) aNil))))
@[irreducible] noncomputable def f_is_letter : List D → Sto → R D := fnF 2 b_is_letter
noncomputable def b_divisor : SS := (sSeq (sPar 0 1 (aCons (eCallB (un dAbsC) (aCons (eVar 0) aNil)) (aCons (eCallB (un dAbsC) (aCons (eVar 1) aNil)) aNil)))
  (sSeq (sWhile (eT (eB dGt (eVar 1) (eC (.int 0)))) (sPar 0 1 (aCons (eVar 1) (aCons (eB dMod (eVar 0) (eVar 1)) aNil))))
  (sRet (eVar 0))))
@[irreducible] noncomputable def f_divisor : List D → Sto → R D := fnF 2 b_divisor
noncomputable def b_is_share : SS := (sSeq (sIf (eOrT (eNotT (eT (eU (dIsi [.tuple]) (eVar 0)))) (eT (eB dNe (eCallB (un dLen) (aCons (eVar 0) aNil)) (eC (.int 2))))) (sRet (eC (.bl false))) sNil)
  (sSeq (sFor (iAnyD (eVar 0)) (gSet 1) (sIf (eOrT (eNotT (eT (eU (dIsi [.int]) (eVar 1)))) (eT (eU (dIsi [.bool]) (eVar 1)))) (sRet (eC (.bl false))) sNil))
  (sRet (eAndV (eB dGt (eB dIx (eVar 0) (eC (.int 1))) (eC (.int 0))) (eB dEq (eCall 2 f_divisor (aCons (eB dIx (eVar 0) (eC (.int 0))) (aCons (eB dIx (eVar 0) (eC (.int 1))) aNil))) (eC (.int 1)))))))
@[irreducible] noncomputable def f_is_share : List D → Sto → R D := fnF 2 b_is_share
noncomputable def b_is_leaf : SS := (sSeq (sIf (eT (eB dNe (eCallB (un dLen) (aCons (eVar 0) aNil)) (eC (.int 2)))) (sRet (eC (.bl false))) sNil)
  (sSeq (sIf (eT (eB dEq (eB dIx (eVar 0) (eC (.int 0))) (eC (.str "letter")))) (sRet (eAndV (eU (dIsi [.str]) (eB dIx (eVar 0) (eC (.int 1)))) (eCall 1 f_is_letter (aCons (eB dIx (eVar 0) (eC (.int 1))) aNil)))) sNil)
  (sRet (eCall 1 f_is_share (aCons (eB dIx (eVar 0) (eC (.int 1))) aNil)))))
@[irreducible] noncomputable def f_is_leaf : List D → Sto → R D := fnF 1 b_is_leaf
noncomputable def b_is_built (rec_is_built : List D → Sto → R D) : SS := (sSeq (sIf (eOrT (eNotT (eT (eU (dIsi [.tuple]) (eVar 0)))) (eOrT (eT (eB dEq (eCallB (un dLen) (aCons (eVar 0) aNil)) (eC (.int 0)))) (eNotT (eT (eU (dIsi [.str]) (eB dIx (eVar 0) (eC (.int 0)))))))) (sRet (eC (.bl false))) sNil)
  (sSeq (sIf (eT (eB (dIn false) (eB dIx (eVar 0) (eC (.int 0))) (eTup (aCons (eC (.str "share")) (aCons (eC (.str "letter")) aNil))))) (sRet (eCall 1 f_is_leaf (aCons (eVar 0) aNil))) sNil)
  (sSeq (sIf (eOrT (eT (eB dNe (eCallB (un dLen) (aCons (eVar 0) aNil)) (eB dAdd (eKget2 kd_THINGS_v (eB dIx (eVar 0) (eC (.int 0))) (eC (.int 0))) (eC (.int 1))))) (eT (eU (dKin true kd_THINGS_v) (eB dIx (eVar 0) (eC (.int 0)))))) (sRet (eC (.bl false))) sNil)
  (sRet (eCallB (un dAll) (aCons (eLc [1] (iAnyD (eSl dSl3 (eVar 0) (oSome (eC (.int 1))) oNone)) (gSet 1) tYesS (eCall 1 rec_is_built (aCons (eVar 1) aNil))) aNil))))))
noncomputable def g_is_built : Nat → Nat → List D → Sto → R D
  | 0, _ => fun _ _ => .bad
  | n + 1, _ => fnF 2 (b_is_built (g_is_built n 0))
@[irreducible] noncomputable def f_is_built (n : Nat) : List D → Sto → R D := g_is_built n 0
theorem f_is_built_0 : f_is_built 0 = fun _ _ => .bad := by unfold f_is_built; rfl
theorem f_is_built_s (n : Nat) : f_is_built (n + 1) = fnF 2 (b_is_built (f_is_built n)) := by unfold f_is_built; rfl
noncomputable def b_things_in : SS := (sRet (eIf (eT (eU (dKin false kd_THINGS_v) (eB dIx (eVar 0) (eC (.int 0))))) (eSl dSl3 (eVar 0) (oSome (eC (.int 1))) oNone) (eTup aNil)))
@[irreducible] noncomputable def f_things_in : List D → Sto → R D := fnF 1 b_things_in
noncomputable def b_many_parts (rec_many_parts : List D → Sto → R D) : SS := (sRet (eB dAdd (eC (.int 1)) (eCallB (un dSum) (aCons (eLc [1] (iAnyD (eCall 1 f_things_in (aCons (eVar 0) aNil))) (gSet 1) tYesS (eCall 1 rec_many_parts (aCons (eVar 1) aNil))) aNil))))
noncomputable def g_many_parts : Nat → Nat → List D → Sto → R D
  | 0, _ => fun _ _ => .bad
  | n + 1, _ => fnF 2 (b_many_parts (g_many_parts n 0))
@[irreducible] noncomputable def f_many_parts (n : Nat) : List D → Sto → R D := g_many_parts n 0
theorem f_many_parts_0 : f_many_parts 0 = fun _ _ => .bad := by unfold f_many_parts; rfl
theorem f_many_parts_s (n : Nat) : f_many_parts (n + 1) = fnF 2 (b_many_parts (f_many_parts n)) := by unfold f_many_parts; rfl
noncomputable def b_all_letters (rec_all_letters : List D → Sto → R D) : SS := (sSeq (sIf (eT (eB dEq (eB dIx (eVar 0) (eC (.int 0))) (eC (.str "letter")))) (sRet (eLst (aCons (eB dIx (eVar 0) (eC (.int 1))) aNil))) sNil)
  (sRet (eLc2 [1, 2] [2] (iAnyD (eCall 1 f_things_in (aCons (eVar 0) aNil))) (gSet 1) tYesS (iAnyD (eCall 1 rec_all_letters (aCons (eVar 1) aNil))) (gSet 2) tYesS (eVar 2))))
noncomputable def g_all_letters : Nat → Nat → List D → Sto → R D
  | 0, _ => fun _ _ => .bad
  | n + 1, _ => fnF 3 (b_all_letters (g_all_letters n 0))
@[irreducible] noncomputable def f_all_letters (n : Nat) : List D → Sto → R D := g_all_letters n 0
theorem f_all_letters_0 : f_all_letters 0 = fun _ _ => .bad := by unfold f_all_letters; rfl
theorem f_all_letters_s (n : Nat) : f_all_letters (n + 1) = fnF 3 (b_all_letters (f_all_letters n)) := by unfold f_all_letters; rfl
noncomputable def b_letters_of : SS := (sRet (eIdx 1 (eU dSortC (eCall 1 (f_all_letters 30) (aCons (eVar 0) aNil)))))
@[irreducible] noncomputable def f_letters_of : List D → Sto → R D := fnF 2 b_letters_of
noncomputable def b_deep_of (rec_deep_of : List D → Sto → R D) : SS := (sSeq (sSet 1 (eMaxD 0 (eLc [2] (iAnyD (eCall 1 f_things_in (aCons (eVar 0) aNil))) (gSet 2) tYesS (eCall 1 rec_deep_of (aCons (eVar 2) aNil)))))
  (sRet (eB dAdd (eVar 1) (eCallB (un dIntC) (aCons (eB dEq (eB dIx (eVar 0) (eC (.int 0))) (eC (.str "undo"))) aNil)))))
noncomputable def g_deep_of : Nat → Nat → List D → Sto → R D
  | 0, _ => fun _ _ => .bad
  | n + 1, _ => fnF 3 (b_deep_of (g_deep_of n 0))
@[irreducible] noncomputable def f_deep_of (n : Nat) : List D → Sto → R D := g_deep_of n 0
theorem f_deep_of_0 : f_deep_of 0 = fun _ _ => .bad := by unfold f_deep_of; rfl
theorem f_deep_of_s (n : Nat) : f_deep_of (n + 1) = fnF 3 (b_deep_of (f_deep_of n)) := by unfold f_deep_of; rfl
noncomputable def b_flaw_in : SS := (sSeq (sIf (eT (eB dGt (eCall 1 (f_many_parts 30) (aCons (eVar 0) aNil)) (eC (.int 24)))) (sRet (eC (.str "many"))) sNil)
  (sSeq (sIf (eT (eB dGt (eCallB (un dLen) (aCons (eCall 1 f_letters_of (aCons (eVar 0) aNil)) aNil)) (eC (.int 4)))) (sRet (eC (.str "letters"))) sNil)
  (sRet (eIf (eT (eB dGt (eCall 1 (f_deep_of 30) (aCons (eVar 0) aNil)) (eC (.int 4)))) (eC (.str "deep")) (eC .non)))))
@[irreducible] noncomputable def f_flaw_in : List D → Sto → R D := fnF 1 b_flaw_in
noncomputable def b_flaw_of : SS := (sRet (eIf (eT (eCall 1 (f_is_built 30) (aCons (eVar 0) aNil))) (eCall 1 f_flaw_in (aCons (eVar 0) aNil)) (eC (.str "form"))))
@[irreducible] noncomputable def f_flaw_of : List D → Sto → R D := fnF 1 b_flaw_of
noncomputable def b_need_term : SS := (sSeq (sSet 1 (eCall 1 f_flaw_of (aCons (eVar 0) aNil)))
  (sIf (eT (eU dNotN (eVar 1))) (sRaise "BadTerm" 1 ["flaw", "word"] (fun ds => ds ++ [.str "BadTerm"]) (aCons (eVar 1) aNil)) sNil))
@[irreducible] noncomputable def f_need_term : List D → Sto → R D := fnF 2 b_need_term
noncomputable def b_nudged_by (rec_nudged_by : List D → Sto → R D) : SS := (sSeq (sStar 3 4 (eVar 0))
  (sSeq (sIf (eT (eB dEq (eVar 3) (eC (.str "letter")))) (sRet (eIf (eT (eB dEq (eB dIx (eVar 4) (eC (.int 0))) (eVar 1))) (eVar 2) (eC (.tup [.str "share", .tup [.int 0, .int 1]])))) sNil)
  (sSeq (sIf (eT (eB dEq (eVar 3) (eC (.str "share")))) (sRet (eC (.tup [.str "share", .tup [.int 0, .int 1]]))) sNil)
  (sSeq (sSet 5 (eLc [6] (iAnyD (eVar 4)) (gSet 6) tYesS (eCall 3 rec_nudged_by (aCons (eVar 6) (aCons (eVar 1) (aCons (eVar 2) aNil))))))
  (sSeq (sIf (eT (eB dEq (eVar 3) (eC (.str "undo")))) (sRet (eTup (aCons (eC (.str "less")) (aCons (eC (.tup [.str "share", .tup [.int 0, .int 1]])) (aCons (eTup (aCons (eC (.str "times")) (aCons (eVar 0) (aCons (eTup (aCons (eC (.str "times")) (aCons (eB dIx (eVar 5) (eC (.int 0))) (aCons (eVar 0) aNil)))) aNil)))) aNil))))) sNil)
  (sSeq (sIf (eT (eB dEq (eVar 3) (eC (.str "times")))) (sRet (eTup (aCons (eC (.str "plus")) (aCons (eTup (aCons (eC (.str "times")) (aCons (eB dIx (eVar 5) (eC (.int 0))) (aCons (eB dIx (eVar 4) (eC (.int 1))) aNil)))) (aCons (eTup (aCons (eC (.str "times")) (aCons (eB dIx (eVar 4) (eC (.int 0))) (aCons (eB dIx (eVar 5) (eC (.int 1))) aNil)))) aNil))))) sNil)
  (sRet (eTup (aCons (eVar 3) (aCons (eB dIx (eVar 5) (eC (.int 0))) (aCons (eB dIx (eVar 5) (eC (.int 1))) aNil)))))))))))
noncomputable def g_nudged_by : Nat → Nat → List D → Sto → R D
  | 0, _ => fun _ _ => .bad
  | n + 1, _ => fnF 7 (b_nudged_by (g_nudged_by n 0))
@[irreducible] noncomputable def f_nudged_by (n : Nat) : List D → Sto → R D := g_nudged_by n 0
theorem f_nudged_by_0 : f_nudged_by 0 = fun _ _ => .bad := by unfold f_nudged_by; rfl
theorem f_nudged_by_s (n : Nat) : f_nudged_by (n + 1) = fnF 7 (b_nudged_by (f_nudged_by n)) := by unfold f_nudged_by; rfl
noncomputable def b_need_good : SS := (sSeq (sSet 1 (eCall 1 f_flaw_in (aCons (eVar 0) aNil)))
  (sSeq (sIf (eT (eU dNotN (eVar 1))) (sRaise "BadTerm" 1 ["flaw", "word"] (fun ds => ds ++ [.str "BadTerm"]) (aCons (eVar 1) aNil)) sNil)
  (sRet (eVar 0))))
@[irreducible] noncomputable def f_need_good : List D → Sto → R D := fnF 2 b_need_good
noncomputable def b_nudged : SS := (sSeq (sExpr (eCall 1 f_need_term (aCons (eVar 0) aNil)))
  (sSeq (sExpr (eCall 1 f_need_term (aCons (eVar 2) aNil)))
  (sRet (eCall 1 f_need_good (aCons (eCall 3 (f_nudged_by 30) (aCons (eVar 0) (aCons (eVar 1) (aCons (eVar 2) aNil)))) aNil)))))
@[irreducible] noncomputable def f_nudged : List D → Sto → R D := fnF 3 b_nudged
noncomputable def b__law_moved (rec__law_moved : List D → Sto → R D) : SS := (sSeq (sSet 3 (eTup (aCons (eC (.str "share")) (aCons (eTup (aCons (eC (.int 0)) (aCons (eC (.int 1)) aNil))) aNil))))
  (sSeq (sIf (eT (eB (dIn false) (eB dIx (eVar 0) (eC (.int 0))) (eTup (aCons (eC (.str "share")) (aCons (eC (.str "letter")) aNil))))) (sRet (eIf (eT (eB dEq (eVar 0) (eTup (aCons (eC (.str "letter")) (aCons (eVar 1) aNil))))) (eVar 2) (eVar 3))) sNil)
  (sSeq (sSet 4 (eLc [5] (iAnyD (eSl dSl3 (eVar 0) (oSome (eC (.int 1))) oNone)) (gSet 5) tYesS (eCall 3 rec__law_moved (aCons (eVar 5) (aCons (eVar 1) (aCons (eVar 2) aNil))))))
  (sSeq (sIf (eT (eB dEq (eB dIx (eVar 0) (eC (.int 0))) (eC (.str "undo")))) (sRet (eTup (aCons (eC (.str "less")) (aCons (eVar 3) (aCons (eTup (aCons (eC (.str "times")) (aCons (eVar 0) (aCons (eTup (aCons (eC (.str "times")) (aCons (eB dIx (eVar 4) (eC (.int 0))) (aCons (eVar 0) aNil)))) aNil)))) aNil))))) sNil)
  (sSeq (sIf (eT (eB dEq (eB dIx (eVar 0) (eC (.int 0))) (eC (.str "times")))) (sRet (eTup (aCons (eC (.str "plus")) (aCons (eTup (aCons (eC (.str "times")) (aCons (eB dIx (eVar 4) (eC (.int 0))) (aCons (eB dIx (eVar 0) (eC (.int 2))) aNil)))) (aCons (eTup (aCons (eC (.str "times")) (aCons (eB dIx (eVar 0) (eC (.int 1))) (aCons (eB dIx (eVar 4) (eC (.int 1))) aNil)))) aNil))))) sNil)
  (sRet (eTup (aCons (eB dIx (eVar 0) (eC (.int 0))) (aCons (eB dIx (eVar 4) (eC (.int 0))) (aCons (eB dIx (eVar 4) (eC (.int 1))) aNil))))))))))
noncomputable def g__law_moved : Nat → Nat → List D → Sto → R D
  | 0, _ => fun _ _ => .bad
  | n + 1, _ => fnF 6 (b__law_moved (g__law_moved n 0))
@[irreducible] noncomputable def f__law_moved (n : Nat) : List D → Sto → R D := g__law_moved n 0
theorem f__law_moved_0 : f__law_moved 0 = fun _ _ => .bad := by unfold f__law_moved; rfl
theorem f__law_moved_s (n : Nat) : f__law_moved (n + 1) = fnF 6 (b__law_moved (f__law_moved n)) := by unfold f__law_moved; rfl
noncomputable def b__law_inner : SS := (sRet (eIf (eT (eB (dIn false) (eB dIx (eVar 0) (eC (.int 0))) (eTup (aCons (eC (.str "plus")) (aCons (eC (.str "less")) (aCons (eC (.str "times")) (aCons (eC (.str "undo")) aNil))))))) (eSl dSl3 (eVar 0) (oSome (eC (.int 1))) oNone) (eTup aNil)))
@[irreducible] noncomputable def f__law_inner : List D → Sto → R D := fnF 1 b__law_inner
noncomputable def b__law_count (rec__law_count : List D → Sto → R D) : SS := (sRet (eB dAdd (eC (.int 1)) (eCallB (un dSum) (aCons (eLc [1] (iAnyD (eCall 1 f__law_inner (aCons (eVar 0) aNil))) (gSet 1) tYesS (eCall 1 rec__law_count (aCons (eVar 1) aNil))) aNil))))
noncomputable def g__law_count : Nat → Nat → List D → Sto → R D
  | 0, _ => fun _ _ => .bad
  | n + 1, _ => fnF 2 (b__law_count (g__law_count n 0))
@[irreducible] noncomputable def f__law_count (n : Nat) : List D → Sto → R D := g__law_count n 0
theorem f__law_count_0 : f__law_count 0 = fun _ _ => .bad := by unfold f__law_count; rfl
theorem f__law_count_s (n : Nat) : f__law_count (n + 1) = fnF 2 (b__law_count (f__law_count n)) := by unfold f__law_count; rfl
noncomputable def b__law_all_parts (rec__law_all_parts : List D → Sto → R D) : SS := (sSeq (sSet 1 (eLst (aCons (eVar 0) aNil)))
  (sSeq (sFor (iAnyD (eCall 1 f__law_inner (aCons (eVar 0) aNil))) (gSet 2) (sSet 1 (eB dAdd (eVar 1) (eCall 1 rec__law_all_parts (aCons (eVar 2) aNil)))))
  (sRet (eVar 1))))
noncomputable def g__law_all_parts : Nat → Nat → List D → Sto → R D
  | 0, _ => fun _ _ => .bad
  | n + 1, _ => fnF 3 (b__law_all_parts (g__law_all_parts n 0))
@[irreducible] noncomputable def f__law_all_parts (n : Nat) : List D → Sto → R D := g__law_all_parts n 0
theorem f__law_all_parts_0 : f__law_all_parts 0 = fun _ _ => .bad := by unfold f__law_all_parts; rfl
theorem f__law_all_parts_s (n : Nat) : f__law_all_parts (n + 1) = fnF 3 (b__law_all_parts (f__law_all_parts n)) := by unfold f__law_all_parts; rfl
noncomputable def b__law_letters : SS := (sRet (eU dSortC (eLc [1] (iAnyD (eCall 1 (f__law_all_parts 30) (aCons (eVar 0) aNil))) (gSet 1) (eT (eB dEq (eB dIx (eVar 1) (eC (.int 0))) (eC (.str "letter")))) (eB dIx (eVar 1) (eC (.int 1))))))
@[irreducible] noncomputable def f__law_letters : List D → Sto → R D := fnF 2 b__law_letters
noncomputable def b__law_depth (rec__law_depth : List D → Sto → R D) : SS := (sRet (eB dAdd (eCallB (un dMaxL) (aCons (eB dAdd (eLst (aCons (eC (.int 0)) aNil)) (eLc [1] (iAnyD (eCall 1 f__law_inner (aCons (eVar 0) aNil))) (gSet 1) tYesS (eCall 1 rec__law_depth (aCons (eVar 1) aNil)))) aNil)) (eCallB (un dIntC) (aCons (eB dEq (eB dIx (eVar 0) (eC (.int 0))) (eC (.str "undo"))) aNil))))
noncomputable def g__law_depth : Nat → Nat → List D → Sto → R D
  | 0, _ => fun _ _ => .bad
  | n + 1, _ => fnF 2 (b__law_depth (g__law_depth n 0))
@[irreducible] noncomputable def f__law_depth (n : Nat) : List D → Sto → R D := g__law_depth n 0
theorem f__law_depth_0 : f__law_depth 0 = fun _ _ => .bad := by unfold f__law_depth; rfl
theorem f__law_depth_s (n : Nat) : f__law_depth (n + 1) = fnF 2 (b__law_depth (f__law_depth n)) := by unfold f__law_depth; rfl
noncomputable def b__law_fault : SS := (sSeq (sIf (eT (eB dGt (eCall 1 (f__law_count 30) (aCons (eVar 0) aNil)) (eC (.int 24)))) (sRet (eC (.str "many"))) sNil)
  (sSeq (sIf (eT (eB dGt (eCallB (un dLen) (aCons (eCall 1 f__law_letters (aCons (eVar 0) aNil)) aNil)) (eC (.int 4)))) (sRet (eC (.str "letters"))) sNil)
  (sRet (eIf (eT (eB dGt (eCall 1 (f__law_depth 30) (aCons (eVar 0) aNil)) (eC (.int 4)))) (eC (.str "deep")) (eC .non)))))
@[irreducible] noncomputable def f__law_fault : List D → Sto → R D := fnF 1 b__law_fault
noncomputable def b__law_same (rec__law_same : List D → Sto → R D) : SS := (sSeq (sIf (eT (eU (dIsi [.list, .tuple]) (eVar 1))) (sSeq (sIf (eOrT (eT (eB dNe (eU (dIsi [.list]) (eVar 0)) (eU (dIsi [.list]) (eVar 1)))) (eT (eB dNe (eU (dIsi [.tuple]) (eVar 0)) (eU (dIsi [.tuple]) (eVar 1))))) (sRet (eC (.bl false))) sNil)
  (sRet (eAndV (eB dEq (eCallB (un dLen) (aCons (eVar 0) aNil)) (eCallB (un dLen) (aCons (eVar 1) aNil))) (eCallB (un dAll) (aCons (eLc [2] (iRange1 (aCons (eCallB (un dLen) (aCons (eVar 1) aNil)) aNil)) (gSet 2) tYesS (eCall 2 rec__law_same (aCons (eB dIx (eVar 0) (eVar 2)) (aCons (eB dIx (eVar 1) (eVar 2)) aNil)))) aNil))))) sNil)
  (sSeq (sIf (eOrT (eT (eU dIsN (eVar 1))) (eT (eU dIsN (eVar 0)))) (sRet (eAndV (eU dIsN (eVar 0)) (eU dIsN (eVar 1)))) sNil)
  (sSeq (sIf (eOrT (eT (eB dNe (eU (dIsi [.bool]) (eVar 1)) (eU (dIsi [.bool]) (eVar 0)))) (eT (eB dNe (eU (dIsi [.int]) (eVar 1)) (eU (dIsi [.int]) (eVar 0))))) (sRet (eC (.bl false))) sNil)
  (sRet (eAndV (eB dEq (eU (dIsi [.str]) (eVar 1)) (eU (dIsi [.str]) (eVar 0))) (eB dEq (eVar 0) (eVar 1)))))))
noncomputable def g__law_same : Nat → Nat → List D → Sto → R D
  | 0, _ => fun _ _ => .bad
  | n + 1, _ => fnF 3 (b__law_same (g__law_same n 0))
@[irreducible] noncomputable def f__law_same (n : Nat) : List D → Sto → R D := g__law_same n 0
theorem f__law_same_0 : f__law_same 0 = fun _ _ => .bad := by unfold f__law_same; rfl
theorem f__law_same_s (n : Nat) : f__law_same (n + 1) = fnF 3 (b__law_same (f__law_same n)) := by unfold f__law_same; rfl
noncomputable def b_turned_in (rec_turned_in : List D → Sto → R D) : SS := (sSeq (sStar 1 2 (eVar 0))
  (sSeq (sIf (eT (eB (dIn false) (eVar 1) (eTup (aCons (eC (.str "share")) (aCons (eC (.str "letter")) aNil))))) (sRet (eVar 0)) sNil)
  (sSeq (sSet 3 (eLc [4] (iAnyD (eVar 2)) (gSet 4) tYesS (eCall 1 rec_turned_in (aCons (eVar 4) aNil))))
  (sRet (eB dAdd (eTup (aCons (eVar 1) aNil)) (eCallB (un dTupOf) (aCons (eIf (eT (eB dEq (eVar 1) (eC (.str "times")))) (eU dRevL (eVar 3)) (eVar 3)) aNil)))))))
noncomputable def g_turned_in : Nat → Nat → List D → Sto → R D
  | 0, _ => fun _ _ => .bad
  | n + 1, _ => fnF 5 (b_turned_in (g_turned_in n 0))
@[irreducible] noncomputable def f_turned_in (n : Nat) : List D → Sto → R D := g_turned_in n 0
theorem f_turned_in_0 : f_turned_in 0 = fun _ _ => .bad := by unfold f_turned_in; rfl
theorem f_turned_in_s (n : Nat) : f_turned_in (n + 1) = fnF 5 (b_turned_in (f_turned_in n)) := by unfold f_turned_in; rfl
noncomputable def b_turned : SS := (sSeq (sExpr (eCall 1 f_need_term (aCons (eVar 0) aNil)))
  (sRet (eCall 1 (f_turned_in 30) (aCons (eVar 0) aNil))))
@[irreducible] noncomputable def f_turned : List D → Sto → R D := fnF 1 b_turned
noncomputable def b__law_other_way (rec__law_other_way : List D → Sto → R D) : SS := (sSeq (sIf (eT (eB (dIn false) (eB dIx (eVar 0) (eC (.int 0))) (eTup (aCons (eC (.str "share")) (aCons (eC (.str "letter")) aNil))))) (sRet (eVar 0)) sNil)
  (sSeq (sSet 1 (eLc [2] (iAnyD (eSl dSl3 (eVar 0) (oSome (eC (.int 1))) oNone)) (gSet 2) tYesS (eCall 1 rec__law_other_way (aCons (eVar 2) aNil))))
  (sRet (eB dAdd (eTup (aCons (eB dIx (eVar 0) (eC (.int 0))) aNil)) (eCallB (un dTupOf) (aCons (eIf (eT (eB dEq (eB dIx (eVar 0) (eC (.int 0))) (eC (.str "times")))) (eU dRevL (eVar 1)) (eVar 1)) aNil))))))
noncomputable def g__law_other_way : Nat → Nat → List D → Sto → R D
  | 0, _ => fun _ _ => .bad
  | n + 1, _ => fnF 3 (b__law_other_way (g__law_other_way n 0))
@[irreducible] noncomputable def f__law_other_way (n : Nat) : List D → Sto → R D := g__law_other_way n 0
theorem f__law_other_way_0 : f__law_other_way 0 = fun _ _ => .bad := by unfold f__law_other_way; rfl
theorem f__law_other_way_s (n : Nat) : f__law_other_way (n + 1) = fnF 3 (b__law_other_way (f__law_other_way n)) := by unfold f__law_other_way; rfl
noncomputable def b__law_odd : SS := (sSeq (sSet 1 (eLst (aCons (eTup aNil) (aCons (eC .non) (aCons (eC (.int 5)) (aCons (eC (.str "x")) (aCons (eTup (aCons (eC (.str "x")) aNil)) (aCons (eTup (aCons (eC (.str "letter")) aNil)) (aCons (eTup (aCons (eC (.str "letter")) (aCons (eC (.str "")) aNil))) (aCons (eTup (aCons (eC (.str "letter")) (aCons (eC (.str "X")) aNil))) (aCons (eTup (aCons (eC (.str "letter")) (aCons (eC (.str "abcdefg")) aNil))) (aCons (eTup (aCons (eC (.str "letter")) (aCons (eC (.str "a1")) aNil))) aNil))))))))))))
  (sSeq (sSet 1 (eB dAdd (eVar 1) (eLst (aCons (eTup (aCons (eC (.str "letter")) (aCons (eC (.int 1)) aNil))) (aCons (eTup (aCons (eC (.str "letter")) (aCons (eC (.str "x")) (aCons (eC (.str "y")) aNil)))) (aCons (eTup (aCons (eC (.str "share")) (aCons (eTup (aCons (eC (.int 2)) (aCons (eC (.int 4)) aNil))) aNil))) (aCons (eTup (aCons (eC (.str "share")) (aCons (eTup (aCons (eC (.int 1)) (aCons (eC (.int 0)) aNil))) aNil))) (aCons (eTup (aCons (eC (.str "share")) (aCons (eTup (aCons (eC (.int 1)) (aCons (eU dNeg (eC (.int 2))) aNil))) aNil))) (aCons (eTup (aCons (eC (.str "share")) (aCons (eC (.int 1)) aNil))) aNil)))))))))
  (sSeq (sSet 1 (eB dAdd (eVar 1) (eLst (aCons (eTup (aCons (eC (.str "share")) (aCons (eTup (aCons (eC (.bl true)) (aCons (eC (.int 1)) aNil))) aNil))) (aCons (eTup (aCons (eC (.str "share")) (aCons (eTup (aCons (eC (.int 3)) (aCons (eC (.int 0)) aNil))) aNil))) (aCons (eTup (aCons (eC (.str "share")) (aCons (eTup (aCons (eC (.int 6)) (aCons (eC (.int 4)) aNil))) aNil))) aNil))))))
  (sSeq (sSet 2 (eTup (aCons (eC (.str "letter")) (aCons (eC (.str "x")) aNil))))
  (sSeq (sSet 1 (eB dAdd (eVar 1) (eLst (aCons (eTup (aCons (eC (.str "plus")) (aCons (eVar 2) aNil))) (aCons (eTup (aCons (eC (.str "plus")) (aCons (eVar 2) (aCons (eVar 2) (aCons (eVar 2) aNil))))) (aCons (eTup (aCons (eC (.str "undo")) aNil)) (aCons (eTup (aCons (eC (.str "undo")) (aCons (eVar 2) (aCons (eVar 2) aNil)))) (aCons (eTup (aCons (eC (.str "times")) (aCons (eVar 2) aNil))) (aCons (eTup (aCons (eC (.str "less")) (aCons (eVar 2) (aCons (eC (.int 1)) aNil)))) aNil)))))))))
  (sSeq (sSet 1 (eB dAdd (eVar 1) (eLst (aCons (eTup (aCons (eC (.str "over")) (aCons (eVar 2) (aCons (eVar 2) aNil)))) (aCons (eTup (aCons (eC (.str "undo")) (aCons (eC (.str "x")) aNil))) (aCons (eTup (aCons (eC (.str "name")) (aCons (eC (.str "A")) aNil))) (aCons (eTup (aCons (eC (.str "")) (aCons (eVar 2) aNil))) (aCons (eTup (aCons (eC .non) (aCons (eVar 2) aNil))) (aCons (eTup (aCons (eC (.str "share")) (aCons (eC .non) aNil))) (aCons (eTup (aCons (eVar 2) (aCons (eVar 2) aNil))) aNil))))))))))
  (sRet (eCall 2 f__law_of (aCons (eVar 0) (aCons (eVar 1) aNil))))))))))
@[irreducible] noncomputable def f__law_odd : List D → Sto → R D := fnF 3 b__law_odd
noncomputable def b__law_twist (rec__law_twist : List D → Sto → R D) : SS := (sSeq (sSet 3 (eCall 1 f__law_inner (aCons (eVar 1) aNil)))
  (sSeq (sIf (eOrT (eT (eB dEq (eVar 3) (eTup aNil))) (eT (eB dEq (eCall 2 f__law_pull (aCons (eVar 0) (aCons (eC (.int 3)) aNil))) (eC (.int 0))))) (sRet (eVar 2)) sNil)
  (sSeq (sSet 4 (eB dAdd (eC (.int 1)) (eCall 2 f__law_pull (aCons (eVar 0) (aCons (eCallB (un dLen) (aCons (eVar 3) aNil)) aNil)))))
  (sRet (eB dAdd (eB dAdd (eSl dSl3 (eVar 1) oNone (oSome (eVar 4))) (eTup (aCons (eCall 3 rec__law_twist (aCons (eVar 0) (aCons (eB dIx (eVar 1) (eVar 4)) (aCons (eVar 2) aNil)))) aNil))) (eSl dSl3 (eVar 1) (oSome (eB dAdd (eVar 4) (eC (.int 1)))) oNone))))))
noncomputable def g__law_twist : Nat → Nat → List D → Sto → R D
  | 0, _ => fun _ _ => .bad
  | n + 1, _ => fnF 5 (b__law_twist (g__law_twist n 0))
@[irreducible] noncomputable def f__law_twist (n : Nat) : List D → Sto → R D := g__law_twist n 0
theorem f__law_twist_0 : f__law_twist 0 = fun _ _ => .bad := by unfold f__law_twist; rfl
theorem f__law_twist_s (n : Nat) : f__law_twist (n + 1) = fnF 5 (b__law_twist (f__law_twist n)) := by unfold f__law_twist; rfl
noncomputable def b_law : SS := (sSeq (sSet 1 (eCall 1 f__law_bag__1 (aCons (eVar 0) aNil)))
  (sSeq (sFor (iRange1 (aCons (eC (.int 5)) aNil)) (gSet 2) (sSeq (sSet 3 (eCall 2 f__law_abc (aCons (eVar 1) (aCons (eC (.int 3)) aNil))))
  (sSeq (sSet 12 (eCall 4 (f__law_drawn 30) (aCons (eVar 1) (aCons (eVar 3) (aCons (eC (.int 9)) (aCons (eC (.int 2)) aNil))))))
  (sSeq (sSet 11 (eCall 2 f__law_of (aCons (eVar 1) (aCons (eB dAdd (eVar 3) (eLst (aCons (eC (.str "zz")) aNil))) aNil))))
  (sSeq (sSet 10 (eCall 2 f__law_of (aCons (eVar 1) (aCons (eLst (aCons (eTup (aCons (eC (.str "share")) (aCons (eCall 1 f__law_light (aCons (eVar 1) aNil)) aNil))) (aCons (eTup (aCons (eC (.str "letter")) (aCons (eB dIx (eVar 3) (eC (.int 0))) aNil))) (aCons (eTup (aCons (eC (.str "plus")) (aCons (eTup (aCons (eC (.str "letter")) (aCons (eB dIx (eVar 3) (eC (.int 1))) aNil))) (aCons (eTup (aCons (eC (.str "share")) (aCons (eTup (aCons (eC (.int 1)) (aCons (eC (.int 2)) aNil))) aNil))) aNil)))) aNil)))) aNil))))
  (sSeq (sFor (iAnyD (eLst (aCons (eTup (aCons (eVar 10) (aCons (eAsked (pickL ys__law_asked) (eCallK 2 1 f_nudged (aCons (eVar 12) (aCons (eVar 11) aNil)) (aCons (eVar 10) aNil))) aNil))) (aCons (eTup (aCons (eTup (aCons (eC (.str "share")) (aCons (eTup (aCons (eC (.int 1)) (aCons (eC (.int 1)) aNil))) aNil))) (aCons (eAsked (pickL ys__law_asked) (eCallD 2 [.tup [.str "share", .tup [.int 1, .int 1]]] f_nudged (aCons (eVar 12) (aCons (eVar 11) aNil)))) aNil))) aNil)))) (gTuple 2 (gsCons (gSet 4) (gsCons (gSet 5) gsNil))) (sSeq (sSet 6 (eCall 3 (f__law_moved 30) (aCons (eVar 12) (aCons (eVar 11) (aCons (eVar 4) aNil)))))
  (sSeq (sSet 7 (eCall 1 f__law_fault (aCons (eVar 6) aNil)))
  (sIf (eNotT (eT (eCall 2 (f__law_same 40) (aCons (eVar 5) (aCons (eIf (eT (eU dIsN (eVar 7))) (eTup (aCons (eC (.str "told")) (aCons (eVar 6) aNil))) (eTup (aCons (eC (.str "no")) (aCons (eC (.str "BadTerm")) (aCons (eVar 7) aNil))))) aNil))))) (sRet (eC (.bl false))) sNil))))
  (sSeq (sIf (eNotT (eT (eCall 2 (f__law_same 40) (aCons (eLst (aCons (eCall 1 f_turned (aCons (eVar 12) aNil)) (aCons (eCall 1 f_turned (aCons (eCall 1 f_turned (aCons (eVar 12) aNil)) aNil)) aNil))) (aCons (eLst (aCons (eCall 1 (f__law_other_way 30) (aCons (eVar 12) aNil)) (aCons (eVar 12) aNil))) aNil))))) (sRet (eC (.bl false))) sNil)
  (sSeq (sSet 9 (eCall 3 (f__law_twist 30) (aCons (eVar 1) (aCons (eVar 12) (aCons (eCall 1 f__law_odd (aCons (eVar 1) aNil)) aNil)))))
  (sSeq (sOut 8) (sSeq (sIf (eT (eB dNe (eAsks (pickL ys__law_asked) [(eCall 1 f_turned (aCons (eVar 9) aNil)), (eCallD 2 [.tup [.str "share", .tup [.int 1, .int 1]]] f_nudged (aCons (eVar 9) (aCons (eVar 11) aNil))), (eCallK 2 1 f_nudged (aCons (eVar 12) (aCons (eVar 11) aNil)) (aCons (eVar 9) aNil))]) (eB dMul (eLst (aCons (eTup (aCons (eC (.str "no")) (aCons (eC (.str "BadTerm")) (aCons (eC (.str "form")) aNil)))) aNil)) (eC (.int 3))))) (sRet (eC (.bl false))) sNil)
  sNil))))))))))
  (sRet (eC (.bl true)))))
@[irreducible] noncomputable def f_law : List D → Sto → R D := fnF 14 b_law
end Pf

namespace Pf
open PySem PySem.Spec PyProof.Rows L2 L3
local macro_rules | `(tactic| fail) => `(tactic| first
  | with_reducible refine wp_seqSet ?_
  | with_reducible refine wp_seqAsg ?_
  | with_reducible refine wp_seqPar ?_
  | with_reducible refine wp_seqPar3 ?_
  | with_reducible refine wp_seqFset ?_
  | with_reducible refine wp_seqFaug ?_
  | with_reducible refine wp_sFset ?_
  | with_reducible refine wp_sFaug ?_
  | with_reducible refine wp_meth ?_
  | with_reducible refine wp_make ?_
  | with_reducible refine wp_methX ?_
  | with_reducible refine wp_makeX ?_
  | with_reducible refine wp_sPar3 ?_
  | with_reducible refine three_ok ?_
  | with_reducible refine wp_seqAug ?_
  | with_reducible refine wp_seqExpr ?_
  | with_reducible refine wp_seqSub ?_
  | with_reducible refine wp_seqNil ?_
  | with_reducible refine wp_seqFor ?_
  | with_reducible refine wp_seqWhile ?_
  | with_reducible refine wp_seqStar ?_
  | with_reducible refine wp_seqForK ?_
  | with_reducible refine wp_seqDput ?_
  | with_reducible refine wp_seqMul ?_
  | with_reducible refine wp_sSet ?_
  | with_reducible refine wp_sRet ?_
  | with_reducible refine wp_sNil ?_
  | with_reducible refine wp_sIf ?_
  | with_reducible refine wp_sPar ?_
  | with_reducible refine wp_sAsg ?_
  | with_reducible refine wp_sSub ?_
  | with_reducible refine wp_sFor ?_
  | with_reducible refine wp_sRaise ?_
  | with_reducible refine wp_sExpr ?_
  | with_reducible refine wp_sRetN ?_
  | with_reducible refine wp_sBreak ?_
  | with_reducible refine wp_sCont ?_
  | ((with_reducible refine wp_varE ?_); refine ⟨_, rfl, ?_⟩)
  | with_reducible refine wp_c ?_
  | with_reducible refine wp_B ?_
  | with_reducible refine wp_U ?_
  | with_reducible refine wp_T ?_
  | with_reducible refine wp_andT ?_
  | with_reducible refine wp_orT ?_
  | with_reducible refine wp_notT ?_
  | with_reducible refine wp_andV ?_
  | with_reducible refine wp_orV ?_
  | with_reducible refine wp_notV ?_
  | with_reducible refine wp_if ?_
  | with_reducible refine wp_nil ?_
  | with_reducible refine wp_cons ?_
  | with_reducible refine wp_tup ?_
  | with_reducible refine wp_lst ?_
  | with_reducible refine wp_lstC ?_
  | with_reducible refine wp_call ?_
  | with_reducible refine wp_callD ?_
  | with_reducible refine wp_callB ?_
  | with_reducible refine wp_m ?_
  | with_reducible refine wp_oNone ?_
  | with_reducible refine wp_oSome ?_
  | with_reducible refine wp_sl ?_
  | with_reducible refine wp_tried ?_
  | with_reducible refine wp_asked ?_
  | with_reducible refine wp_seqOut ?_
  | with_reducible refine wp_asks ?_
  | with_reducible refine wp_asksC ?_
  | with_reducible refine wp_asksN ?_
  | with_reducible refine wp_chain ?_
  | with_reducible refine wp_enum ?_
  | with_reducible refine wp_enumB ?_
  | with_reducible refine wp_zip ?_
  | with_reducible refine wp_joinedT ?_
  | with_reducible refine wp_jNil ?_
  | with_reducible refine wp_jT ?_
  | with_reducible refine wp_lc ?_
  | with_reducible refine wp_lcC ?_
  | with_reducible refine wp_yes ?_
  | with_reducible refine wp_iAny ?_
  | with_reducible refine wp_range1 ?_
  | with_reducible refine wp_range2 ?_
  | with_reducible refine wp_sStar ?_
  | with_reducible refine wp_sDput ?_
  | with_reducible refine wp_sMul ?_
  | with_reducible refine wp_mNil ?_
  | with_reducible refine wp_mCons ?_
  | with_reducible refine wp_mSub ?_
  | with_reducible refine wp_mSubD ?_
  | with_reducible refine wp_dget2 ?_
  | with_reducible refine wp_disp ?_
  | with_reducible refine wp_pNil ?_
  | with_reducible refine wp_pCons ?_)
local macro_rules | `(tactic| fail) => `(tactic| first
  | with_reducible refine wp_eqI ?_
  | with_reducible refine wp_neI ?_
  | with_reducible refine wp_eqB ?_
  | with_reducible refine wp_neB ?_
  | ((with_reducible refine wp_eqStr ?_ ?_ ?_); decide +kernel; decide +kernel)
  | ((with_reducible refine wp_neStr ?_ ?_ ?_); decide +kernel; decide +kernel)
  | with_reducible refine wp_addI ?_
  | with_reducible refine wp_addII ?_
  | with_reducible refine wp_subI ?_
  | with_reducible refine wp_ltI ?_
  | with_reducible refine wp_leI ?_
  | with_reducible refine wp_gtI ?_
  | with_reducible refine wp_geI ?_
  | with_reducible refine wp_negI ?_
  | with_reducible refine wp_intI ?_
  | with_reducible refine wp_intB ?_
  | with_reducible refine wp_absI ?_
  | with_reducible refine wp_un ?_
  | ((with_reducible refine wp_mul ?_ ?_); first | exact mulOk_right (by decide) | exact mulOk_left (by decide) | exact mulOk_mod (by decide) (by decide))
  | ((with_reducible refine wp_mod ?_ ?_); decide)
  | ((with_reducible refine wp_fdiv ?_ ?_ ?_); decide; exact pylong_200 (by decide))
  | with_reducible refine wp_pow18 ?_
  | with_reducible refine wp_pow12 ?_
  | with_reducible refine wp_pow40 ?_
  | ((with_reducible refine wp_ixE ?_); refine ⟨_, rfl, ?_⟩)
  | with_reducible refine wp_len0 ?_
  | with_reducible refine wp_len1 ?_
  | with_reducible refine wp_len2 ?_
  | with_reducible refine wp_len3 ?_
  | with_reducible refine wp_lenT1 ?_
  | with_reducible refine wp_lenT2 ?_
  | with_reducible refine wp_lenT3 ?_
  | ((with_reducible refine wp_lenE ?_); refine ⟨_, rfl, ?_⟩)
  | ((with_reducible refine wp_listOfE ?_); refine ⟨_, rfl, ?_⟩)
  | ((with_reducible refine wp_isiE ?_); refine ⟨_, rfl, ?_⟩)
  | ((with_reducible refine wp_isNE ?_); refine ⟨_, rfl, ?_⟩)
  | ((with_reducible refine wp_notNE ?_); refine ⟨_, rfl, ?_⟩)
  | ((with_reducible refine wp_slE ?_); refine ⟨_, rfl, ?_⟩)
  | ((with_reducible refine sub_okE ?_); refine ⟨_, rfl, ?_⟩)
  | with_reducible refine Exists.intro _ (And.intro rfl ?_)
  | with_reducible refine Exists.intro _ (Exists.intro _ (And.intro rfl ?_))
  | ((with_reducible refine len_eq ?_ ?_); exact rfl)
  | ((with_reducible refine rng_ok ?_ ?_); omega)
  | ((with_reducible refine rng2_ok ?_ ?_); omega)
  | ((with_reducible refine rngD_len ?_ ?_); omega)
  | ((with_reducible refine len_100 ?_ ?_); exact Nat.le_of_ble_eq_true rfl)
  | ((with_reducible refine isTy_ok ?_ ?_); exact rfl)
  | ((with_reducible refine br_t ?_ ?_); first | with_reducible exact rfl | decide)
  | ((with_reducible refine br_f ?_ ?_); first | with_reducible exact rfl | decide)
  | with_reducible refine br_d (fun _ => ?_) (fun _ => ?_)
  | with_reducible refine br_n (fun _ => ?_) (fun _ => ?_))
/-- the bag of draws: what is left of the script, how many are taken, what is left of a great one, the state, how often -/
def Bg (g : MO) : Prop := ∃ (ns : List Int) (i r s c : Int), g = .lst [.lst (ns.map D.int), .int i, .int r, .int s, .int c] ∧ 0 ≤ i ∧ i ≤ ns.length ∧ ns.length ≤ 63 ∧ 0 ≤ r
theorem wp_pull {g : MO} {m : Sto} {s : Int} {Q : D → Sto → Prop} {E : Exs} (h : Bg g) (hs : 0 < s) (h2 : s < 2 ^ 200) (q : ∀ v g', 0 ≤ v → v < s → Bg g' → Q (.int v) (g' :: m)) : (f__law_pull [.cell 0, .int s] (g :: m)).wp Q E := by
  obtain ⟨ns, i, r, st, c, rfl, h3, h4, h5, h6⟩ := h
  have py : Builtin.divisionGoesByPylong st s = false := pylong_200 (by omega)
  unfold f__law_pull
  with_reducible refine wp_fn ?_
  unfold b__law_pull
  refine wp_cut (N0 := fun ρ1 μ1 => ∃ x i r st c, ρ1 = [some (.cell 0), some (.int s), x, none, none] ∧ μ1 = .lst [.lst (ns.map D.int), .int i, .int r, .int st, .int c] :: m ∧ 0 ≤ i ∧ i ≤ ns.length ∧ 0 ≤ r) ?_ ?_
  · repeat (first | fail | with_reducible refine wp_sSeq ?_)
    · rename_i hi
      have hi : i < ns.length := by simpa using hi
      have h1 : i.toNat < ns.length := by omega
      refine wp_ix (ix_lst (x := .int ns[i.toNat]) h3 (by rw [List.getElem?_map, List.getElem?_eq_getElem h1]; rfl)) ?_
      repeat (first | fail | with_reducible refine wp_sSeq ?_)
      · rename_i hg
        exact ⟨_, _, _, _, _, rfl, rfl, by omega, by omega, by omega⟩
      · repeat (first | fail | with_reducible refine wp_sSeq ?_)
        exact ⟨_, _, _, _, _, rfl, rfl, by omega, by omega, h6⟩
    · repeat (first | fail | with_reducible refine wp_sSeq ?_)
      exact ⟨_, _, _, _, _, rfl, rfl, h3, h4, h6⟩
    · repeat (first | fail | with_reducible refine wp_sSeq ?_)
      exact ⟨_, _, _, _, _, rfl, rfl, h3, h4, h6⟩
  · rintro ρ1 μ1 ⟨x, i, r, st, c, rfl, rfl, h3, h4, h6⟩
    repeat (first | fail | with_reducible refine wp_sSeq ?_)
    · refine wp_mod (by omega) ?_
      repeat (first | fail | with_reducible refine wp_sSeq ?_)
      refine wp_fdiv (by omega) (pylong_200 (by omega)) ?_
      repeat (first | fail | with_reducible refine wp_sSeq ?_)
      exact q _ _ (Int.fmod_nonneg_of_pos _ hs) (Int.fmod_lt_of_pos _ hs) ⟨ns, _, _, _, _, rfl, h3, h4, h5, by rw [Int.fdiv_eq_ediv_of_nonneg _ (Int.le_of_lt hs)]; exact Int.ediv_nonneg h6 (Int.le_of_lt hs)⟩
    · repeat (first | fail | with_reducible refine wp_sSeq ?_)
      refine wp_mod (by omega) ?_
      repeat (first | fail | with_reducible refine wp_sSeq ?_)
      exact q _ _ (Int.fmod_nonneg_of_pos _ hs) (Int.fmod_lt_of_pos _ hs) ⟨ns, _, _, _, _, rfl, h3, h4, h5, h6⟩
theorem wp_of {g : MO} {m : Sto} {xs : List D} {Q : D → Sto → Prop} {E : Exs} (h : Bg g) (hs : 0 < xs.length) (h2 : xs.length < 2 ^ 60) (q : ∀ (v : Nat) x g', xs[v]? = some x → Bg g' → Q x (g' :: m)) : (f__law_of [.cell 0, .lst xs] (g :: m)).wp Q E := by
  unfold f__law_of
  with_reducible refine wp_fn ?_
  unfold b__law_of
  repeat (first | fail | with_reducible refine wp_sSeq ?_)
  refine wp_pull h (by omega) (by omega) fun v g' h3 h4 hg => ?_
  have h5 : v.toNat < xs.length := by omega
  refine wp_ix (ix_lst h3 (List.getElem?_eq_getElem h5)) ?_
  repeat (first | fail | with_reducible refine wp_sSeq ?_)
  exact q v.toNat _ g' (List.getElem?_eq_getElem h5) hg
/-! gcd -/
theorem fmod_lt {x y : Int} (h : y ≠ 0) : (x.fmod y).natAbs < y.natAbs := by
  by_cases hy : 0 < y
  · have h1 := Int.fmod_nonneg_of_pos x hy
    have h2 := Int.fmod_lt_of_pos x hy
    omega
  · have hy : 0 < -y := by omega
    have e : x.fmod y = -((-x).fmod (-y)) := by rw [Int.neg_fmod_neg]; omega
    have h1 := Int.fmod_nonneg_of_pos (-x) hy
    have h2 := Int.fmod_lt_of_pos (-x) hy
    omega
theorem gcd_fmod (x y : Int) : Int.gcd y (x.fmod y) = Int.gcd x y := by
  have e : x.fmod y = x - y * x.fdiv y := by have := Int.mul_fdiv_add_fmod x y; omega
  rw [e, Int.gcd_comm x y]
  exact Int.gcd_sub_mul_left_right ..
theorem wp_gcd {m : Sto} {a b : Int} {Q : D → Sto → Prop} {E : Exs} (q : Q (.int (Int.gcd a b : Nat)) m) : (f__law_gcd [.int a, .int b] m).wp Q E := by
  unfold f__law_gcd
  with_reducible refine wp_fn ?_
  unfold b__law_gcd
  refine wp_sSeq ?_
  refine wp_while (I := fun k ρ μ => μ = m ∧ ∃ x y, ρ = [some (.int x), some (.int y)] ∧ Int.gcd x y = Int.gcd a b ∧ y.natAbs = k) (m := b.natAbs) ⟨rfl, a, b, rfl, rfl, rfl⟩ ?_
  rintro k ρ μ ⟨rfl, x, y, rfl, hg, hk⟩
  repeat (first | fail | with_reducible refine wp_sSeq ?_)
  · rename_i hy
    repeat (first | fail | with_reducible refine wp_sSeq ?_)
    refine wp_mod hy ?_
    repeat (first | fail | with_reducible refine wp_sSeq ?_)
    exact ⟨(x.fmod y).natAbs, by rw [← hk]; exact fmod_lt hy, rfl, _, _, rfl, by rw [gcd_fmod]; exact hg, rfl⟩
  · rename_i hy
    have hy : y = 0 := by simpa using hy
    subst hy
    have e : x.natAbs = Int.gcd a b := by rw [← hg]; simp
    repeat (first | fail | with_reducible refine wp_sSeq ?_)
    rw [e]; exact q
theorem wp_divisor {m : Sto} {a b : Int} {Q : D → Sto → Prop} {E : Exs} (q : Q (.int (Int.gcd a b : Nat)) m) : (f_divisor [.int a, .int b] m).wp Q E := by
  unfold f_divisor
  with_reducible refine wp_fn ?_
  unfold b_divisor
  repeat (first | fail | with_reducible refine wp_sSeq ?_)
  refine wp_while (I := fun k ρ μ => μ = m ∧ ∃ x : Nat, ρ = [some (.int x), some (.int k)] ∧ Nat.gcd x k = Int.gcd a b) (m := b.natAbs) ⟨rfl, a.natAbs, rfl, rfl⟩ ?_
  rintro k ρ μ ⟨rfl, x, rfl, hg⟩
  repeat (first | fail | with_reducible refine wp_sSeq ?_)
  · rename_i hy
    repeat (first | fail | with_reducible refine wp_sSeq ?_)
    refine wp_mod (by omega) ?_
    repeat (first | fail | with_reducible refine wp_sSeq ?_)
    have e : (x : Int).fmod k = ((x % k : Nat) : Int) := by rw [Int.fmod_eq_emod_of_nonneg _ (by omega)]; rfl
    rw [e]
    exact ⟨x % k, Nat.mod_lt _ (by omega), rfl, k, rfl, by rw [Nat.gcd_comm k, ← Nat.gcd_rec, Nat.gcd_comm]; exact hg⟩
  · rename_i hy
    have : k = 0 := by omega
    subst this
    have e : x = Int.gcd a b := by rw [← hg]; simp
    repeat (first | fail | with_reducible refine wp_sSeq ?_)
    rw [← e] at q
    exact q
/-! shares -/
def frG (t b : Int) : Int := if b < 0 then -(Int.gcd t b : Nat) else (Int.gcd t b : Nat)
def frI (t b : Int) : Int × Int := (t.fdiv (frG t b), b.fdiv (frG t b))
def dSh (s : Int × Int) : D := .tup [.int s.1, .int s.2]
/-- few bits -/
def NB (b : Int) : Prop := b.natAbs < 2 ^ 9000
theorem NB.py {a b : Int} (h : NB b) : Builtin.divisionGoesByPylong a b = false := pylong_small h
theorem NB.of {b : Int} {n : Nat} (h : b.natAbs < 2 ^ n) (hn : n ≤ 9000 := by decide) : NB b := Nat.lt_of_lt_of_le h (Nat.pow_le_pow_right (by decide) hn)
theorem frG_ne {t b : Int} (h : b ≠ 0) : frG t b ≠ 0 := by
  have : Int.gcd t b ≠ 0 := fun z => h (Int.gcd_eq_zero_iff.mp z).2
  unfold frG
  split <;> omega
theorem frG_NB {t b : Int} (h : b ≠ 0) (hb : NB b) : NB (frG t b) := by
  have h1 : Int.gcd t b ≤ b.natAbs := Nat.le_of_dvd (by omega) (Int.gcd_dvd_natAbs_right t b)
  have h2 : (frG t b).natAbs = Int.gcd t b := by unfold frG; split <;> omega
  unfold NB at hb ⊢
  rw [h2]
  exact Nat.lt_of_le_of_lt h1 hb
theorem wp_frP {m : Sto} {t b : Int} {Q : D → Sto → Prop} {E : Exs} (h : b ≠ 0) (hp : NB (frG t b)) (q : Q (dSh (frI t b)) m) : (f__law_fr [.int t, .int b] m).wp Q E := by
  unfold f__law_fr
  with_reducible refine wp_fn ?_
  unfold b__law_fr
  repeat (first | fail | with_reducible refine wp_sSeq ?_)
  refine wp_gcd ?_
  refine wp_cut (N0 := fun ρ μ => ρ = [some (.int t), some (.int b), some (.int (frG t b))] ∧ μ = m) ?_ ?_
  · repeat (first | fail | with_reducible refine wp_sSeq ?_)
    · exact ⟨by rename_i hb; unfold frG; rw [if_pos hb]; rw [Int.zero_sub]; rfl, rfl⟩
    · repeat (first | fail | with_reducible refine wp_sSeq ?_)
      exact ⟨by rename_i hb; unfold frG; rw [if_neg hb]; rfl, rfl⟩
  · rintro ρ1 μ1 ⟨rfl, rfl⟩
    repeat (first | fail | with_reducible refine wp_sSeq ?_)
    refine wp_fdiv (frG_ne h) hp.py ?_
    repeat (first | fail | with_reducible refine wp_sSeq ?_)
    refine wp_fdiv (frG_ne h) hp.py ?_
    repeat (first | fail | with_reducible refine wp_sSeq ?_)
    exact q
theorem wp_fr {m : Sto} {t b : Int} {Q : D → Sto → Prop} {E : Exs} (h : b ≠ 0) (hb : NB b) (q : Q (dSh (frI t b)) m) : (f__law_fr [.int t, .int b] m).wp Q E := wp_frP h (frG_NB h hb) q
/-! same -/
theorem wp_same {m : Sto} {n : Nat} {d : D} (h : Pu n d) : (f__law_same n [d, d] m).wp (fun r μ => r = .bl true ∧ μ = m) noE := by
  induction h with
  | non =>
    rw [f__law_same_s]; (with_reducible refine wp_fn ?_); unfold b__law_same
    repeat (first | fail | with_reducible refine wp_sSeq ?_)
    exact ⟨rfl, rfl⟩
  | bl b =>
    rw [f__law_same_s]; (with_reducible refine wp_fn ?_); unfold b__law_same
    repeat (first | fail | with_reducible refine wp_sSeq ?_)
    exact ⟨by simp, rfl⟩
  | int b =>
    rw [f__law_same_s]; (with_reducible refine wp_fn ?_); unfold b__law_same
    repeat (first | fail | with_reducible refine wp_sSeq ?_)
    exact ⟨by simp, rfl⟩
  | @str n b hb =>
    rw [f__law_same_s]; (with_reducible refine wp_fn ?_); unfold b__law_same
    repeat (first | fail | with_reducible refine wp_sSeq ?_)
    refine wp_prim (Pu.eq_self (n := 1) (.str hb) (by decide) _) ?_
    exact ⟨rfl, rfl⟩
  | @lst n xs hl h ih =>
    rw [f__law_same_s]; (with_reducible refine wp_fn ?_); unfold b__law_same
    repeat (first | fail | with_reducible refine wp_sSeq ?_)
    · refine wp_lcMap (h := fun _ => .bl true) ?_ fun i hi => ?_
      · repeat (first | fail | with_reducible refine wp_sSeq ?_)
        refine all_true ⟨rfl, rfl⟩
      · have hi : i < xs.length := by simpa using hi
        refine ⟨_, rfl, ?_⟩
        repeat (first | fail | with_reducible refine wp_sSeq ?_)
        refine wp_ix (ix_lst (by omega) (x := xs[i]) (by rw [← List.getElem?_eq_getElem hi]; congr 1; omega)) ?_
        repeat (first | fail | with_reducible refine wp_sSeq ?_)
        refine wp_ix (ix_lst (by omega) (x := xs[i]) (by rw [← List.getElem?_eq_getElem hi]; congr 1; omega)) ?_
        repeat (first | fail | with_reducible refine wp_sSeq ?_)
        exact ih _ (List.getElem_mem hi)
    · rename_i h; exact absurd rfl h
  | @tup n xs hl h ih =>
    rw [f__law_same_s]; (with_reducible refine wp_fn ?_); unfold b__law_same
    repeat (first | fail | with_reducible refine wp_sSeq ?_)
    · refine wp_lcMap (h := fun _ => .bl true) ?_ fun i hi => ?_
      · repeat (first | fail | with_reducible refine wp_sSeq ?_)
        refine all_true ⟨rfl, rfl⟩
      · have hi : i < xs.length := by simpa using hi
        refine ⟨_, rfl, ?_⟩
        repeat (first | fail | with_reducible refine wp_sSeq ?_)
        refine wp_ix (ix_tup (by omega) (x := xs[i]) (by rw [← List.getElem?_eq_getElem hi]; congr 1; omega)) ?_
        repeat (first | fail | with_reducible refine wp_sSeq ?_)
        refine wp_ix (ix_tup (by omega) (x := xs[i]) (by rw [← List.getElem?_eq_getElem hi]; congr 1; omega)) ?_
        repeat (first | fail | with_reducible refine wp_sSeq ?_)
        exact ih _ (List.getElem_mem hi)
    · rename_i h; exact absurd rfl h
theorem wp_sameQ {m : Sto} {n : Nat} {d : D} {Q : D → Sto → Prop} {E : Exs} (h : Pu n d) (q : Q (.bl true) m) : (f__law_same n [d, d] m).wp Q E :=
  wp_mono (wp_same h) (fun r μ ⟨e1, e2⟩ => by subst e1 e2; exact q) fun _ _ _ _ z => z.elim
theorem Pu.sh {n : Nat} {s : Int × Int} : Pu (n + 2) (dSh s) := .tup (by simp) (Pu.cons (.int _) (Pu.cons (.int _) Pu.nil))
theorem frG_dvd (t b : Int) : frG t b ∣ t ∧ frG t b ∣ b := by
  have h1 : ((Int.gcd t b : Nat) : Int) ∣ t := Int.gcd_dvd_left ..
  have h2 : ((Int.gcd t b : Nat) : Int) ∣ b := Int.gcd_dvd_right ..
  unfold frG
  split
  · exact ⟨Int.neg_dvd.mpr h1, Int.neg_dvd.mpr h2⟩
  · exact ⟨h1, h2⟩
theorem frI_pos {t b : Int} (h : b ≠ 0) : 0 < (frI t b).2 := by
  have hg := frG_ne (t := t) h
  obtain ⟨c, hc⟩ := (frG_dvd t b).2
  have e : (frI t b).2 = c := by
    show b.fdiv (frG t b) = c
    generalize frG t b = g at hg hc
    subst hc
    exact Int.mul_fdiv_cancel_left _ hg
  rw [e]
  have hs : (frG t b < 0 ↔ b < 0) := by
    have : Int.gcd t b ≠ 0 := fun z => h (Int.gcd_eq_zero_iff.mp z).2
    unfold frG
    split <;> omega
  by_cases hb : b < 0
  · have hg0 := hs.mpr hb
    rcases Int.lt_trichotomy c 0 with z | z | z
    · have := Int.mul_pos_of_neg_of_neg hg0 z; omega
    · subst z; omega
    · exact z
  · have hg0 : 0 < frG t b := by
      have := mt hs.mp hb
      omega
    rcases Int.lt_trichotomy c 0 with z | z | z
    · have := Int.mul_neg_of_pos_of_neg hg0 z; omega
    · subst z; omega
    · exact z
theorem cut63 {ns : List Int} (h : ns.length ≤ 63) : L3.cutD (ns.map D.int) none (some 63) = ns.map D.int := by
  have e1 : HT.sIx (ns.map D.int).length 0 none = 0 := rfl
  have e2 : HT.sIx (ns.map D.int).length (ns.map D.int).length (some 63) = ns.length := by
    show (if (63 : Int) < 0 then ((63 : Int) + ((ns.map D.int).length : Int)).toNat else min (Int.toNat 63) (ns.map D.int).length) = _
    rw [if_neg (by decide), List.length_map]
    show min 63 _ = _
    omega
  unfold L3.cutD
  rw [e1, e2, List.drop_zero, Nat.sub_zero]
  exact List.take_of_length_le (by simp)
theorem wp_bag {ns : List Int} {Q : D → Sto → Prop} {E : Exs} (h : ns.length ≤ 63) (q : ∀ g, Bg g → Q (.cell 0) [g]) : (f__law_bag__1 [.scr ns] []).wp Q E := by
  unfold f__law_bag__1
  with_reducible refine wp_fn ?_
  unfold b__law_bag__1
  repeat fail
  have e : dSl3 (.scr ns) none (some 63) [] = .ok (.lst (ns.map D.int)) [] := by
    show R.ok (D.lst (L3.cutD (ns.map D.int) none (some 63))) [] = _
    rw [cut63 h]
  dsimp only
  rw [cut63 h]
  refine wp_forS (I := fun ds ρ μ => μ = [] ∧ (∃ ms : List Int, ds = ms.map D.int) ∧ ∃ s x, ρ = [some (.scr ns), some (.int s), x]) ⟨rfl, ⟨ns, rfl⟩, _, _, rfl⟩ ?_ ?_
  · rintro ρ μ ⟨rfl, _, s, x, rfl⟩
    refine ⟨rfl, ?_⟩
    repeat fail
    rw [cut63 h]
    exact q _ ⟨ns, 0, 0, _, _, rfl, by omega, by omega, h, by omega⟩
  · rintro d ds ρ μ ⟨rfl, ⟨ms, hm⟩, s, x, rfl⟩
    cases ms with
    | nil => cases hm
    | cons z ms =>
      cases hm
      refine ⟨rfl, _, rfl, ?_⟩
      repeat fail
      exact ⟨rfl, ⟨ms, rfl⟩, _, _, rfl⟩
theorem wp_light {g : MO} {m : Sto} {Q : D → Sto → Prop} {E : Exs} (h : Bg g) (q : ∀ (t b : Int) g', -4 ≤ t → t ≤ 4 → 1 ≤ b → b ≤ 5 → Bg g' → Q (dSh (frI t b)) (g' :: m)) : (f__law_light [.cell 0] (g :: m)).wp Q E := by
  unfold f__law_light
  with_reducible refine wp_fn ?_
  unfold b__law_light
  repeat fail
  refine wp_pull h (by decide) (by decide) fun v g1 h1 h2 hg1 => ?_
  repeat fail
  refine wp_pull hg1 (by decide) (by decide) fun w g2 h3 h4 hg2 => ?_
  obtain ⟨b, hb, h5, h6⟩ : ∃ b : Int, ([.int 1, .int 1, .int 1, .int 2, .int 3, .int 5] : List D)[w.toNat]? = some (.int b) ∧ 1 ≤ b ∧ b ≤ 5 := by
    have : w = 0 ∨ w = 1 ∨ w = 2 ∨ w = 3 ∨ w = 4 ∨ w = 5 := by omega
    rcases this with e | e | e | e | e | e <;> subst e <;> exact ⟨_, rfl, by decide, by decide⟩
  refine wp_ix (ix_lst h3 hb) ?_
  repeat fail
  exact wp_fr (by omega) (NB.of (n := 64) (by omega)) (q _ _ g2 (by omega) (by omega) h5 h6 hg2)
theorem t_empty : ("" : Str) = SX.S [] := by decide +kernel
/-! shares as texts -/
def neg (a : List Nat) : Prop := a.take 1 = [45]
instance (a : List Nat) : Decidable (neg a) := by unfold neg; infer_instance
def bare (a : List Nat) : List Nat := if neg a then a.drop 1 else a
theorem frI_gcd {t b : Int} (h : b ≠ 0) : Int.gcd (frI t b).1 (frI t b).2 = 1 := by
  have hg := frG_ne (t := t) h
  have hgn : (frG t b).natAbs = Int.gcd t b := by unfold frG; split <;> omega
  obtain ⟨⟨c, hc⟩, ⟨d, hd⟩⟩ := frG_dvd t b
  show Int.gcd (t.fdiv (frG t b)) (b.fdiv (frG t b)) = 1
  generalize frG t b = g at *
  subst hc hd
  rw [Int.mul_fdiv_cancel_left _ hg, Int.mul_fdiv_cancel_left _ hg]
  rw [Int.gcd_mul_left] at hgn
  have h0 : 0 < g.natAbs := by omega
  have e : g.natAbs * 1 = g.natAbs * Int.gcd c d := by rw [Nat.mul_one]; exact hgn
  exact (Nat.eq_of_mul_eq_mul_left h0 e).symm
def IsLet (z : List Nat) : Prop := (1 ≤ z.length ∧ z.length ≤ 6) ∧ ∀ c ∈ z, 97 ≤ c ∧ c ≤ 122
theorem small : ("abcdefghijklmnopqrstuvwxyz" : Str) = SX.S ((List.range 26).map (97 + ·)) := by decide +kernel
def letsD (zs : List (List Nat)) : List D := zs.map fun z => .str (SX.S z)
/-! reckonings -/
inductive Op3 where
  | plus | less | times
def Op3.w : Op3 → Str
  | .plus => "plus"
  | .less => "less"
  | .times => "times"
inductive Tm where
  | sh (s : Int × Int)
  | lt (z : List Nat)
  | bi (o : Op3) (a b : Tm)
  | un (a : Tm)
def Tm.d : Tm → D
  | .sh s => .tup [.str "share", dSh s]
  | .lt z => .tup [.str "letter", .str (SX.S z)]
  | .bi o a b => .tup [.str o.w, a.d, b.d]
  | .un a => .tup [.str "undo", a.d]
def Tm.word : Tm → Str
  | .sh _ => "share"
  | .lt _ => "letter"
  | .bi o _ _ => o.w
  | .un _ => "undo"
/-- the things in it -/
def Tm.ins : Tm → List Tm
  | .bi _ a b => [a, b]
  | .un a => [a]
  | _ => []
/-- how many parts -/
def Tm.n : Tm → Nat
  | .bi _ a b => 1 + (a.n + b.n)
  | .un a => 1 + a.n
  | _ => 1
/-- how many levels -/
def Tm.dep : Tm → Nat
  | .bi _ a b => 1 + max a.dep b.dep
  | .un a => 1 + a.dep
  | _ => 1
/-- how deep its undoings lie -/
def Tm.ud : Tm → Nat
  | .bi _ a b => max a.ud b.ud
  | .un a => a.ud + 1
  | _ => 0
def Tm.ls : Tm → List (List Nat)
  | .lt z => [z]
  | .bi _ a b => a.ls ++ b.ls
  | .un a => a.ls
  | .sh _ => []
def Tm.all : Tm → List Tm
  | .bi o a b => .bi o a b :: (a.all ++ b.all)
  | .un a => .un a :: a.all
  | .sh s => [.sh s]
  | .lt z => [.lt z]
instance (z : List Nat) : Decidable (IsLet z) := by unfold IsLet; infer_instance
def ShOk (s : Int × Int) : Prop := 0 < s.2 ∧ Int.gcd s.1 s.2 = 1
def Tm.ok : Tm → Prop
  | .sh s => ShOk s
  | .lt z => IsLet z
  | .bi _ a b => a.ok ∧ b.ok
  | .un a => a.ok
theorem Tm.dep_n (t : Tm) : t.dep ≤ t.n := by
  induction t with
  | sh s => exact Nat.le_refl _
  | lt z => exact Nat.le_refl _
  | bi o a b h1 h2 => simp only [Tm.dep, Tm.n]; omega
  | un a h => simp only [Tm.dep, Tm.n]; omega
theorem Tm.n_pos (t : Tm) : 0 < t.n := by cases t <;> simp only [Tm.n] <;> omega
theorem Tm.dep_pos (t : Tm) : 0 < t.dep := by cases t <;> simp only [Tm.dep] <;> omega
theorem Tm.all_len (t : Tm) : t.all.length = t.n := by
  induction t with
  | sh s => rfl
  | lt z => rfl
  | bi o a b h1 h2 => simp only [Tm.all, Tm.n, List.length_cons, List.length_append, h1, h2]; omega
  | un a h => simp only [Tm.all, Tm.n, List.length_cons, h]; omega
theorem Tm.ls_n (t : Tm) : t.ls.length ≤ t.n := by
  induction t with
  | sh s => exact Nat.zero_le _
  | lt z => exact Nat.le_refl _
  | bi o a b h1 h2 => simp only [Tm.ls, Tm.n, List.length_append]; omega
  | un a h => simp only [Tm.ls, Tm.n]; omega
theorem Tm.all_ins (t : Tm) : t.all = t :: (t.ins.map Tm.all).flatten := by cases t <;> simp [Tm.all, Tm.ins]
theorem IsLet.ok {z : List Nat} (h : IsLet z) : okT z := fun c hc => by have := h.2 c hc; omega
theorem Op3.wok (o : Op3) : PyData.strOk o.w = true := by cases o <;> decide +kernel
theorem Tm.pu {t : Tm} (h : t.ok) : Pu (t.dep + 2) t.d := by
  induction t with
  | sh s => exact .tup (by simp) (Pu.cons (.str (by decide +kernel)) (Pu.cons Pu.sh Pu.nil))
  | lt z => exact .tup (by simp) (Pu.cons (.str (by decide +kernel)) (Pu.cons (.str h.ok.s) Pu.nil))
  | bi o a b h1 h2 =>
    refine Pu.le (n := max a.dep b.dep + 2 + 1) (.tup (by simp) (Pu.cons (.str o.wok) (Pu.cons ((h1 h.1).le (by omega)) (Pu.cons ((h2 h.2).le (by omega)) Pu.nil)))) ?_
    simp only [Tm.dep]; omega
  | un a h1 =>
    refine Pu.le (n := a.dep + 2 + 1) (.tup (by simp) (Pu.cons (.str (by decide +kernel)) (Pu.cons (h1 h) Pu.nil))) ?_
    simp only [Tm.dep]; omega
theorem kin_ok {neg : Bool} {kvs : List (Str × D)} {z : Str} {b : Bool} {μ : Sto} {Q : D → Sto → Prop} {E : Exs} (h : (kvs.lookup z).isSome = b) (q : Q (.bl (if neg then !b else b)) μ) : (dKin neg kvs (.str z) μ).wp Q E := by
  subst h; exact q
theorem Op3.things (o : Op3) : (kd_THINGS_v.lookup o.w) = some (.int 2) := by cases o <;> rfl
theorem wp_things {μ : Sto} {t : Tm} {Q : D → Sto → Prop} {E : Exs} (q : Q (.tup (t.ins.map Tm.d)) μ) : (f_things_in [t.d] μ).wp Q E := by
  unfold f_things_in
  with_reducible refine wp_fn ?_
  unfold b_things_in
  cases t with
  | sh s =>
    repeat' (first | fail | with_reducible refine wp_sSeq ?_)
    refine kin_ok (b := false) rfl ?_
    repeat' (first | fail | with_reducible refine wp_sSeq ?_)
    exact q
  | lt z =>
    repeat' (first | fail | with_reducible refine wp_sSeq ?_)
    refine kin_ok (b := false) rfl ?_
    repeat' (first | fail | with_reducible refine wp_sSeq ?_)
    exact q
  | bi o a b =>
    repeat' (first | fail | with_reducible refine wp_sSeq ?_)
    refine kin_ok (b := true) (by rw [o.things]; rfl) ?_
    repeat' (first | fail | with_reducible refine wp_sSeq ?_)
    exact q
  | un a =>
    repeat' (first | fail | with_reducible refine wp_sSeq ?_)
    refine kin_ok (b := true) rfl ?_
    repeat' (first | fail | with_reducible refine wp_sSeq ?_)
    exact q
theorem wp_lcM {α : Type} {E : Exs} {ρ : L3.Env} {μ : Sto} {sg : SG} {te : SE} {gd : Sto → Bool} {Q : List D → Sto → Prop} {l : List α} {g k : α → D} (hg : gd μ = true) (q : Q (l.map k) μ)
    (hs : ∀ x ∈ l, ∃ ρ1, sg (g x) ρ μ = some ρ1 ∧ (te ρ1 μ).wp (fun y μ2 => y = k x ∧ μ2 = μ) noE) : (lcS gd sg tYesS te ρ (l.map g) μ).wp Q E := by
  refine wp_lcS (fun ys zs μ' => μ' = μ ∧ ∃ us ws : List α, l = us ++ ws ∧ zs = ws.map g ∧ ys = us.map k) ⟨rfl, [], l, rfl, rfl, rfl⟩ (fun ys μ' ⟨e1, us, ws, e2, e3, e4⟩ => ?_) fun ys d zs μ' ⟨e1, us, ws, e2, e3, e4⟩ => ?_
  · subst e1 e4
    cases ws with
    | nil => rw [List.append_nil] at e2; subst e2; exact ⟨hg, q⟩
    | cons w ws => cases e3
  · subst e1 e4
    cases ws with
    | nil => cases e3
    | cons w ws =>
      cases e3
      obtain ⟨ρ1, h1, h2⟩ := hs w (by rw [e2]; simp)
      refine ⟨hg, ρ1, h1, ?_⟩
      show (true = true → _) ∧ (true = false → _)
      exact ⟨fun _ => wp_mono h2 (fun y μ2 ⟨e1, e4⟩ => ⟨e4, us ++ [w], ws, by rw [e2]; simp, rfl, by rw [e1]; simp⟩) fun _ _ _ _ z => z, fun z => nomatch z⟩
theorem intsD_int (l : List Int) : intsD (l.map D.int) = some l := by
  induction l with
  | nil => rfl
  | cons a r ih => show (intsD (r.map D.int)).map (a :: ·) = _; rw [ih]; rfl
theorem wp_sumI {μ : Sto} {l : List Int} {Q : D → Sto → Prop} {E : Exs} (q : Q (.int l.sum) μ) : (dSum (.lst (l.map D.int)) μ).wp Q E := by
  have e : dSum (.lst (l.map D.int)) μ = .ok (D.int l.sum) μ := by
    show (match (asS μ (.lst (l.map D.int))).bind intsD with
      | some bs => R.ok (D.int bs.sum) μ
      | none => .bad) = _
    show (match intsD (l.map D.int) with
      | some bs => R.ok (D.int bs.sum) μ
      | none => .bad) = _
    rw [intsD_int]
  rw [e]; exact q
theorem wp_maxD {μ : Sto} {ρ : L3.Env} {d : Int} {f : SE} {Q : D → Sto → Prop} {E : Exs} (h : (f ρ μ).wp (fun x μ1 => ∃ l : List Int, x = .lst (l.map D.int) ∧ Q (.int (maxD d l)) μ1) E) : (eMaxD d f ρ μ).wp Q E := by
  refine wp_U (wp_mono h (fun x μ1 ⟨l, e, q⟩ => ?_) fun _ _ _ _ z => z)
  subst e
  show R.wp (match intsD (l.map D.int) with
      | some bs => R.ok (D.int (maxD d bs)) μ1
      | none => .bad) Q E
  rw [intsD_int]
  exact q
theorem strsD_str (l : List Str) : strsD (l.map D.str) = some l := by
  induction l with
  | nil => rfl
  | cons a r ih => show (strsD (r.map D.str)).map (a :: ·) = _; rw [ih]; rfl
theorem wp_sortC {μ : Sto} {l : List Str} {Q : D → Sto → Prop} {E : Exs} (h : (l.foldl insT []).length < 64) (h2 : l.length ≤ 2000) (q : Q (.lst ((sortS (l.foldl insT [])).map D.str)) μ) : (dSortC (.lst (l.map D.str)) μ).wp Q E := by
  have e : txsL μ (.lst (l.map D.str)) = some l := strsD_str l
  unfold dSortC
  rw [e]
  dsimp only
  rw [if_pos ⟨h, h2⟩]
  exact q
theorem wp_idx {μ : Sto} {ρ : L3.Env} {i : Nat} {f : SE} {Q : D → Sto → Prop} {E : Exs} (h : i < ρ.length) (q : (f ρ μ).wp Q E) : (eIdx i f ρ μ).wp Q E := by
  unfold eIdx; rw [if_pos h]; exact q
/-- two fors, the outer one over l.map g, each inner walk gives k x -/
theorem wp_lc2M {α : Type} {E : Exs} {ρ : L3.Env} {μ : Sto} {sg : SG} {ti : L3.Env → Sto → R (List D)} {gd : Sto → Bool} {Q : List D → Sto → Prop} {g : α → D} {k : α → List D} : ∀ {l : List α}, (hg : gd μ = true) → (q : Q (l.map k).flatten μ) →
    (hs : ∀ x ∈ l, ∃ ρ1, sg (g x) ρ μ = some ρ1 ∧ ti ρ1 μ = .ok (k x) μ) → (lcS2 gd sg tYesS ti ρ (l.map g) μ).wp Q E := by
  intro l hg q hs
  have key : lcS2 gd sg tYesS ti ρ (l.map g) μ = .ok (l.map k).flatten μ := by
    clear q
    induction l with
    | nil => show lcS2 gd sg tYesS ti ρ [] μ = _; unfold lcS2; rw [if_pos hg]; rfl
    | cons x l ih =>
      obtain ⟨ρ1, h1, h2⟩ := hs x List.mem_cons_self
      show lcS2 gd sg tYesS ti ρ (g x :: l.map g) μ = _
      unfold lcS2
      rw [if_pos hg, h1]
      dsimp only
      show (if true = true then (ti ρ1 μ).nox.bind fun y μ2 => (lcS2 gd sg tYesS ti ρ (l.map g) μ2).nox.bind fun ys μ3 => R.ok (y ++ ys) μ3 else lcS2 gd sg tYesS ti ρ (l.map g) μ) = _
      rw [if_pos rfl, h2]
      show ((lcS2 gd sg tYesS ti ρ (l.map g) μ).nox.bind fun ys μ3 => R.ok (k x ++ ys) μ3) = _
      rw [ih fun y hy => hs y (List.mem_cons_of_mem _ hy)]
      rfl
  rw [key]; exact q
theorem wp_lc2 {E : Exs} {ρ : L3.Env} {μ : Sto} {fi fi1 : SI} {g g1 : SG} {tt tt1 : ST} {te : SE} {vs vs1 : List Nat} {Q : D → Sto → Prop} (h : (fi ρ μ).wp (fun it μ1 => (lcS2 it.2 g tt (inS vs1 fi1 g1 tt1 te) (wipeE ρ vs) it.1 μ1).wp (fun ys μ2 => ys.length ≤ sizeLine ∧ Q (.lst ys) μ2) noE) E) : (eLc2 vs vs1 fi g tt fi1 g1 tt1 te ρ μ).wp Q E := by
  refine wp_bind (wp_mono h (fun it μ1 z => wp_bind (wp_nox (wp_mono z (fun ys μ2 ⟨a, b⟩ => ?_) fun _ _ _ _ z => z))) fun _ _ _ _ z => z)
  rw [if_pos a]; exact b
theorem inS_ok {ρ : L3.Env} {μ : Sto} {fi1 : SI} {g1 : SG} {tt1 : ST} {te : SE} {vs1 : List Nat} {ys : List D} (h : (fi1 ρ μ).wp (fun it μ1 => (lcS it.2 g1 tt1 te (wipeE ρ vs1) it.1 μ1).wp (fun zs μ2 => zs = ys ∧ μ2 = μ) noE) noE) : inS vs1 fi1 g1 tt1 te ρ μ = .ok ys μ := by
  obtain ⟨it, μ1, e, z⟩ := wp_get h
  obtain ⟨zs, μ2, e2, rfl, rfl⟩ := wp_get z
  unfold inS
  rw [e]
  exact e2
theorem wp_of0 {α : Type} {a : α} {μ : Sto} {r : R α} {Q : α → Sto → Prop} {E : Exs} (h : r.wp (fun b μ' => b = a ∧ μ' = μ) noE) (q : Q a μ) : r.wp Q E := wp_mono h (fun r μ' ⟨e1, e2⟩ => by subst e1 e2; exact q) fun _ _ _ _ z => z.elim
theorem Tm.by_dep {P : Nat → Tm → Prop} (step : ∀ n t, (∀ x ∈ t.ins, P n x) → P (n + 1) t) : ∀ {t : Tm} {n : Nat}, t.dep ≤ n → P n t := by
  intro t
  induction t with
  | sh s =>
    intro n h
    cases n with
    | zero => simp [Tm.dep] at h
    | succ n => exact step _ _ fun x hx => nomatch hx
  | lt z =>
    intro n h
    cases n with
    | zero => simp [Tm.dep] at h
    | succ n => exact step _ _ fun x hx => nomatch hx
  | bi o a b h1 h2 =>
    intro n h
    cases n with
    | zero => simp [Tm.dep] at h
    | succ n =>
      refine step _ _ fun x hx => ?_
      simp only [Tm.dep] at h
      simp only [Tm.ins, List.mem_cons, List.not_mem_nil, or_false] at hx
      rcases hx with rfl | rfl
      · exact h1 (by omega)
      · exact h2 (by omega)
  | un a h1 =>
    intro n h
    cases n with
    | zero => simp [Tm.dep] at h
    | succ n =>
      refine step _ _ fun x hx => ?_
      simp only [Tm.dep] at h
      simp only [Tm.ins, List.mem_cons, List.not_mem_nil, or_false] at hx
      subst hx
      exact h1 (by omega)
theorem Tm.ins_len (t : Tm) (f : Tm → D) : (t.ins.map f).length ≤ sizeLine := by rw [sizeLine_eq]; cases t <;> simp [Tm.ins]
theorem wp_many {t : Tm} {n : Nat} {μ : Sto} {Q : D → Sto → Prop} {E : Exs} (h : t.dep ≤ n) (q : Q (.int t.n) μ) : (f_many_parts n [t.d] μ).wp Q E := by
  refine wp_of0 (Tm.by_dep (P := fun n t => ∀ μ, (f_many_parts n [t.d] μ).wp (fun r μ' => r = .int t.n ∧ μ' = μ) noE) (fun n t ih μ => ?_) h μ) q
  rw [f_many_parts_s]
  with_reducible refine wp_fn ?_
  unfold b_many_parts
  repeat' (first | fail | with_reducible refine wp_sSeq ?_)
  refine wp_things ?_
  refine ⟨_, rfl, t.ins_len _, ?_⟩
  refine wp_lcM (k := fun x => D.int x.n) rfl ?_ fun x hx => ⟨_, rfl, ?_⟩
  · have e : (t.ins.map fun x => D.int x.n) = (t.ins.map fun x => (x.n : Int)).map D.int := by rw [List.map_map]; rfl
    rw [e]
    repeat' (first | fail | with_reducible refine wp_sSeq ?_)
    refine wp_sumI ?_
    repeat' (first | fail | with_reducible refine wp_sSeq ?_)
    refine ⟨?_, rfl⟩
    congr 1
    cases t <;> simp [Tm.ins, Tm.n]
  · repeat' (first | fail | with_reducible refine wp_sSeq ?_)
    exact ih x hx _
theorem in_small (c : Nat) : decide (c ∈ (SX.S ((List.range 26).map (97 + ·))).cps.toList) = (decide (97 ≤ c) && decide (c ≤ 122)) := by
  rw [← Bool.decide_and]
  apply decide_eq_decide.mpr
  show c ∈ (List.range 26).map (97 + ·) ↔ _
  rw [List.mem_map]
  constructor
  · rintro ⟨a, ha, rfl⟩
    have := List.mem_range.mp ha
    omega
  · rintro ⟨h1, h2⟩
    exact ⟨c - 97, List.mem_range.mpr (by omega), by omega⟩
theorem wp_is_letter {μ : Sto} {a : List Nat} {Q : D → Sto → Prop} {E : Exs} (hl : a.length ≤ 1000000) (q : Q (.bl (decide (IsLet a))) μ) : (f_is_letter [.str (SX.S a)] μ).wp Q E := by
  unfold f_is_letter
  with_reducible refine wp_fn ?_
  unfold b_is_letter
  rw [small]
  repeat' (first | fail | with_reducible refine wp_sSeq ?_)
  refine wp_lenT (by omega) ?_
  repeat' (first | fail | with_reducible refine wp_sSeq ?_)
  · rename_i h1 h2
    refine ⟨by show (a.map fun c => D.str (SX.S [c])).length ≤ sizeLine; rw [List.length_map, sizeLine_eq]; omega, ?_⟩
    refine wp_lcM (l := a) (g := fun c => D.str (SX.S [c])) (k := fun c => D.bl (decide (97 ≤ c) && decide (c ≤ 122))) rfl ?_ fun c hc => ⟨_, rfl, ?_⟩
    · have e : (a.map fun c => D.bl (decide (97 ≤ c) && decide (c ≤ 122))) = (a.map fun c => (decide (97 ≤ c) && decide (c ≤ 122))).map D.bl := by rw [List.map_map]; rfl
      rw [e]
      repeat' (first | fail | with_reducible refine wp_sSeq ?_)
      refine wp_allB ?_
      have e2 : (a.map fun c => (decide (97 ≤ c) && decide (c ≤ 122))).all id = decide (IsLet a) := by
        by_cases h : IsLet a
        · rw [decide_eq_true h, List.all_eq_true]
          intro x hx
          obtain ⟨c, hc, rfl⟩ := List.mem_map.mp hx
          have := h.2 c hc
          simpa using this
        · rw [decide_eq_false h, List.all_eq_false]
          have : ¬ ∀ c ∈ a, 97 ≤ c ∧ c ≤ 122 := fun z => h ⟨⟨by omega, by omega⟩, z⟩
          simp only [Classical.not_forall] at this
          obtain ⟨c, hc, h⟩ := this
          exact ⟨_, List.mem_map.mpr ⟨c, hc, rfl⟩, by simpa using h⟩
      rw [e2]; exact q
    · repeat' (first | fail | with_reducible refine wp_sSeq ?_)
      refine wp_inSign ?_
      rw [in_small]
      exact ⟨rfl, rfl⟩
  · rename_i h1 h2
    rw [decide_eq_false fun z : IsLet a => h2 (by have := z.1.2; omega)] at q
    exact q
  · rename_i h1
    rw [decide_eq_false fun z : IsLet a => h1 (by have := z.1.1; omega)] at q
    exact q
theorem wp_is_share {μ : Sto} {s : Int × Int} {Q : D → Sto → Prop} {E : Exs} (h : ShOk s) (q : Q (.bl true) μ) : (f_is_share [dSh s] μ).wp Q E := by
  unfold f_is_share
  with_reducible refine wp_fn ?_
  unfold b_is_share
  unfold dSh
  refine wp_cut (N0 := fun ρ μ' => μ' = μ ∧ ρ = [some (dSh s), none]) ?_ ?_
  · repeat' (first | fail | with_reducible refine wp_sSeq ?_)
    exact ⟨rfl, rfl⟩
  · rintro ρ μ ⟨rfl, rfl⟩
    refine wp_cut (N0 := fun ρ μ' => μ' = μ ∧ ∃ x, ρ = [some (dSh s), x]) ?_ ?_
    · unfold dSh
      repeat' (first | fail | with_reducible refine wp_sSeq ?_)
      refine wp_forS (I := fun ds ρ μ' => μ' = μ ∧ (∃ x, ρ = [some (dSh s), x]) ∧ ∀ d ∈ ds, ∃ i, d = D.int i) ⟨rfl, ⟨_, rfl⟩, fun d hd => ?_⟩ ?_ ?_
      · simp only [List.mem_cons, List.not_mem_nil, or_false] at hd
        rcases hd with rfl | rfl <;> exact ⟨_, rfl⟩
      · rintro ρ μ ⟨rfl, ⟨x, rfl⟩, _⟩
        exact ⟨rfl, rfl, x, rfl⟩
      · rintro d ds ρ μ ⟨rfl, ⟨x, rfl⟩, hd⟩
        obtain ⟨i, rfl⟩ := hd d List.mem_cons_self
        refine ⟨rfl, _, rfl, ?_⟩
        repeat' (first | fail | with_reducible refine wp_sSeq ?_)
        exact ⟨rfl, ⟨_, rfl⟩, fun d h => hd d (List.mem_cons_of_mem _ h)⟩
    · rintro ρ μ ⟨rfl, x, rfl⟩
      unfold dSh
      repeat' (first | fail | with_reducible refine wp_sSeq ?_)
      · refine wp_divisor ?_
        repeat' (first | fail | with_reducible refine wp_sSeq ?_)
        have e : decide (((Int.gcd s.1 s.2 : Nat) : Int) = 1) = true := by rw [h.2]; rfl
        rw [e]; exact q
      · rename_i c; exact absurd h.1 c
theorem wp_is_leafL {μ : Sto} {z : List Nat} {Q : D → Sto → Prop} {E : Exs} (h : IsLet z) (q : Q (.bl true) μ) : (f_is_leaf [(Tm.lt z).d] μ).wp Q E := by
  unfold f_is_leaf
  with_reducible refine wp_fn ?_
  unfold b_is_leaf Tm.d
  repeat' (first | fail | with_reducible refine wp_sSeq ?_)
  refine wp_is_letter (by have := h.1.2; omega) ?_
  rw [decide_eq_true h]; exact q
theorem wp_is_leafS {μ : Sto} {s : Int × Int} {Q : D → Sto → Prop} {E : Exs} (h : ShOk s) (q : Q (.bl true) μ) : (f_is_leaf [(Tm.sh s).d] μ).wp Q E := by
  unfold f_is_leaf
  with_reducible refine wp_fn ?_
  unfold b_is_leaf Tm.d
  repeat' (first | fail | with_reducible refine wp_sSeq ?_)
  exact wp_is_share h q
theorem wp_kget2 {kvs : List (Str × D)} {f f2 : SE} {ρ : L3.Env} {μ : Sto} {Q : D → Sto → Prop} {E : Exs} (h : (f ρ μ).wp (fun d μ1 => ∃ z, d = .str z ∧ (f2 ρ μ1).wp (fun e μ2 => Q ((kvs.lookup z).getD e) μ2) E) E) : (eKget2 kvs f f2 ρ μ).wp Q E :=
  wp_bind (wp_mono h (fun d μ1 ⟨z, e, q⟩ => by subst e; exact wp_bind q) fun _ _ _ _ z => z)
theorem wp_inQ {μ : Sto} {a : D} {ds : List D} {b : Bool} {Q : D → Sto → Prop} {E : Exs} (fa : flatD a = true) (fd : ds.all flatD = true) (e : inD a ds = b) (q : Q (.bl b) μ) : (dIn false a (.tup ds) μ).wp Q E := wp_inFlat (ds := ds) rfl (fun z => nofun) fa fd (by rw [e]; exact q)
theorem all_true_map {α : Type} {l : List α} : (l.map fun _ => D.bl true) = (l.map fun _ => true).map D.bl := by rw [List.map_map]; rfl
theorem wp_allT {α : Type} {l : List α} {μ : Sto} {Q : D → Sto → Prop} {E : Exs} (q : Q (.bl true) μ) : (dAll (.lst (l.map fun _ => D.bl true)) μ).wp Q E := by
  rw [all_true_map]
  refine wp_allB ?_
  have e : (l.map fun _ => true).all id = true := by simp
  rw [e]; exact q
theorem wp_is_built {t : Tm} {n : Nat} {μ : Sto} {Q : D → Sto → Prop} {E : Exs} (h : t.dep ≤ n) (ok : t.ok) (q : Q (.bl true) μ) : (f_is_built n [t.d] μ).wp Q E := by
  refine wp_of0 (Tm.by_dep (P := fun n t => t.ok → ∀ μ, (f_is_built n [t.d] μ).wp (fun r μ' => r = .bl true ∧ μ' = μ) noE) (fun n t ih ok μ => ?_) h ok μ) q
  rw [f_is_built_s]
  with_reducible refine wp_fn ?_
  unfold b_is_built
  cases t with
  | sh s =>
    simp only [Tm.d]
    repeat' (first | fail | with_reducible refine wp_sSeq ?_)
    refine wp_inQ (b := true) ?_ ?_ ?_ ?_
    · exact rfl
    · exact rfl
    · decide +kernel
    repeat' (first | fail | with_reducible refine wp_sSeq ?_)
    exact wp_is_leafS ok ⟨rfl, rfl⟩
  | lt z =>
    simp only [Tm.d]
    repeat' (first | fail | with_reducible refine wp_sSeq ?_)
    refine wp_inQ (b := true) ?_ ?_ ?_ ?_
    · exact rfl
    · exact rfl
    · decide +kernel
    repeat' (first | fail | with_reducible refine wp_sSeq ?_)
    exact wp_is_leafL ok ⟨rfl, rfl⟩
  | bi o a b =>
    simp only [Tm.d]
    repeat' (first | fail | with_reducible refine wp_sSeq ?_)
    refine wp_inQ (b := false) ?_ ?_ ?_ ?_
    · exact rfl
    · exact rfl
    · cases o <;> decide +kernel
    repeat' (first | fail | with_reducible refine wp_kget2 ?_ | with_reducible refine wp_sSeq ?_)
    rw [o.things, Option.getD_some]
    repeat' (first | fail | with_reducible refine wp_sSeq ?_)
    refine kin_ok (b := true) (by rw [o.things]; rfl) ?_
    repeat' (first | fail | with_reducible refine wp_sSeq ?_)
    refine ⟨by show ([a, b].map Tm.d).length ≤ sizeLine; rw [sizeLine_eq]; simp, ?_⟩
    refine wp_lcM (l := [a, b]) (g := Tm.d) (k := fun _ => D.bl true) rfl ?_ fun x hx => ⟨_, rfl, ?_⟩
    · repeat' (first | fail | with_reducible refine wp_sSeq ?_)
      exact wp_allT ⟨rfl, rfl⟩
    · repeat' (first | fail | with_reducible refine wp_sSeq ?_)
      refine ih x hx ?_ _
      simp only [List.mem_cons, List.not_mem_nil, or_false] at hx
      rcases hx with rfl | rfl
      · exact ok.1
      · exact ok.2
  | un a =>
    simp only [Tm.d]
    repeat' (first | fail | with_reducible refine wp_sSeq ?_)
    refine wp_inQ (b := false) ?_ ?_ ?_ ?_
    · exact rfl
    · exact rfl
    · decide +kernel
    repeat' (first | fail | with_reducible refine wp_kget2 ?_ | with_reducible refine wp_sSeq ?_)
    have e : (kd_THINGS_v.lookup ("undo" : Str)) = some (D.int 1) := rfl
    rw [e, Option.getD_some]
    repeat' (first | fail | with_reducible refine wp_sSeq ?_)
    refine kin_ok (b := true) rfl ?_
    repeat' (first | fail | with_reducible refine wp_sSeq ?_)
    refine ⟨by show ([a].map Tm.d).length ≤ sizeLine; rw [sizeLine_eq]; simp, ?_⟩
    refine wp_lcM (l := [a]) (g := Tm.d) (k := fun _ => D.bl true) rfl ?_ fun x hx => ⟨_, rfl, ?_⟩
    · repeat' (first | fail | with_reducible refine wp_sSeq ?_)
      exact wp_allT ⟨rfl, rfl⟩
    · repeat' (first | fail | with_reducible refine wp_sSeq ?_)
      refine ih x hx ?_ _
      simp only [List.mem_cons, List.not_mem_nil, or_false] at hx
      subst hx
      exact ok
def lsD (t : Tm) : List D := t.ls.map fun z => .str (SX.S z)
theorem wp_all_letters {t : Tm} {n : Nat} {μ : Sto} {Q : D → Sto → Prop} {E : Exs} (h : t.dep ≤ n) (hn : t.n ≤ 1000000) (q : Q (.lst (lsD t)) μ) : (f_all_letters n [t.d] μ).wp Q E := by
  refine wp_of0 (Tm.by_dep (P := fun n t => t.n ≤ 1000000 → ∀ μ, (f_all_letters n [t.d] μ).wp (fun r μ' => r = .lst (lsD t) ∧ μ' = μ) noE) (fun n t ih hn μ => ?_) h hn μ) q
  rw [f_all_letters_s]
  with_reducible refine wp_fn ?_
  unfold b_all_letters
  have rest : ∀ t : Tm, (t.n ≤ 1000000) → (∀ x ∈ t.ins, x.n ≤ 1000000 → ∀ μ, (f_all_letters n [x.d] μ).wp (fun r μ' => r = .lst (lsD x) ∧ μ' = μ) noE) → (t.ins.map lsD).flatten = lsD t →
      (eLc2 [1, 2] [2] (iAnyD (eCall 1 f_things_in (aCons (eVar 0) aNil))) (gSet 1) tYesS (iAnyD (eCall 1 (f_all_letters n) (aCons (eVar 1) aNil))) (gSet 2) tYesS (eVar 2) [some t.d, none, none] μ).wp (fun d μ' => d = .lst (lsD t) ∧ μ' = μ) noE := by
    intro t hn ih e
    refine wp_lc2 ?_
    repeat' (first | fail | with_reducible refine wp_sSeq ?_)
    refine wp_things ?_
    refine ⟨_, rfl, ?_⟩
    refine wp_lc2M (k := lsD) rfl ?_ fun x hx => ⟨_, rfl, inS_ok ?_⟩
    · rw [e]
      refine ⟨?_, rfl, rfl⟩
      have := t.ls_n
      unfold lsD
      rw [List.length_map, sizeLine_eq]; omega
    · repeat' (first | fail | with_reducible refine wp_sSeq ?_)
      have hx2 : x.n ≤ 1000000 := by
        cases t <;> simp only [Tm.ins, List.mem_cons, List.not_mem_nil, or_false] at hx
        · rcases hx with rfl | rfl <;> simp only [Tm.n] at hn <;> omega
        · subst hx; simp only [Tm.n] at hn; omega
      refine wp_of0 (ih x hx hx2 _) ⟨_, rfl, ?_⟩
      refine wp_lcM (g := fun z => D.str (SX.S z)) (k := fun z => D.str (SX.S z)) rfl ⟨rfl, rfl⟩ fun z hz => ⟨_, rfl, ?_⟩
      exact wp_var rfl ⟨rfl, rfl⟩
  cases t with
  | sh s =>
    with_reducible refine wp_sSeq ?_
    simp only [Tm.d]
    repeat' fail
    exact rest (.sh s) hn (fun x hx => nomatch hx) rfl
  | lt z =>
    with_reducible refine wp_sSeq ?_
    simp only [Tm.d]
    repeat' fail
    exact ⟨rfl, rfl⟩
  | bi o a b =>
    with_reducible refine wp_sSeq ?_
    simp only [Tm.d]
    repeat' fail
    refine wp_eqStr o.wok (by decide +kernel) ?_
    rw [decide_eq_false (show ¬ o.w = ("letter" : Str) from by cases o <;> decide +kernel)]
    repeat' fail
    exact rest (.bi o a b) hn ih (by simp [Tm.ins, lsD, Tm.ls])
  | un a =>
    with_reducible refine wp_sSeq ?_
    simp only [Tm.d]
    repeat' fail
    exact rest (.un a) hn ih (by simp [Tm.ins, lsD, Tm.ls])
theorem nd_len {α : Type} [DecidableEq α] : ∀ {l m : List α}, l.Nodup → (∀ x ∈ l, x ∈ m) → l.length ≤ m.length
  | [], m, _, _ => Nat.zero_le _
  | a :: l, m, h, s => by
    obtain ⟨h1, h2⟩ := List.nodup_cons.mp h
    have ha := s a List.mem_cons_self
    have := nd_len (m := m.erase a) h2 fun x hx => by
      have ne : x ≠ a := fun z => h1 (z ▸ hx)
      exact (List.mem_erase_of_ne ne).mpr (s x (List.mem_cons_of_mem _ hx))
    rw [List.length_erase_of_mem ha] at this
    have : 0 < m.length := List.length_pos_of_mem ha
    rw [List.length_cons]
    omega
/-- its letters, each once, in some order -/
def lset (t : Tm) : List Str := (t.ls.map SX.S).foldl insT []
theorem lset_nd (t : Tm) : (lset t).Nodup := insF_nd _ _ .nil
theorem lset_mem (t : Tm) (z : Str) : z ∈ lset t ↔ z ∈ t.ls.map SX.S := by
  unfold lset; rw [insF_mem]; simp
theorem lset_le (t : Tm) : (lset t).length ≤ t.n := by
  have h1 := insF_len (t.ls.map SX.S) []
  have h2 := t.ls_n
  rw [List.length_map] at h1
  unfold lset
  simp at h1
  omega
theorem lset_few {t : Tm} {zs : List (List Nat)} (h : ∀ z ∈ t.ls, z ∈ zs) : (lset t).length ≤ zs.length := by
  have := nd_len (m := zs.map SX.S) (lset_nd t) fun x hx => by
    obtain ⟨z, hz, rfl⟩ := List.mem_map.mp ((lset_mem t x).mp hx)
    exact List.mem_map.mpr ⟨z, h z hz, rfl⟩
  rw [List.length_map] at this
  exact this
def lettersD (t : Tm) : List D := (sortS (lset t)).map D.str
theorem lsD_eq (t : Tm) : lsD t = (t.ls.map SX.S).map D.str := by unfold lsD; rw [List.map_map]; rfl
theorem wp_letters_of {t : Tm} {μ : Sto} {Q : D → Sto → Prop} {E : Exs} (h : t.dep ≤ 30) (hn : t.n ≤ 2000) (hl : (lset t).length < 64) (q : Q (.lst (lettersD t)) μ) : (f_letters_of [t.d] μ).wp Q E := by
  unfold f_letters_of
  with_reducible refine wp_fn ?_
  unfold b_letters_of
  repeat' fail
  refine wp_idx (by show 1 < 2; decide) ?_
  repeat' fail
  refine wp_all_letters h (by omega) ?_
  rw [lsD_eq]
  exact wp_sortC hl (by rw [List.length_map]; have := t.ls_n; omega) q
theorem wp_deep_of {t : Tm} {n : Nat} {μ : Sto} {Q : D → Sto → Prop} {E : Exs} (h : t.dep ≤ n) (q : Q (.int t.ud) μ) : (f_deep_of n [t.d] μ).wp Q E := by
  refine wp_of0 (Tm.by_dep (P := fun n t => ∀ μ, (f_deep_of n [t.d] μ).wp (fun r μ' => r = .int t.ud ∧ μ' = μ) noE) (fun n t ih μ => ?_) h μ) q
  rw [f_deep_of_s]
  with_reducible refine wp_fn ?_
  unfold b_deep_of
  refine wp_cut (N0 := fun ρ μ' => μ' = μ ∧ ∃ x, ρ = [some t.d, some (.int (maxD 0 (t.ins.map fun x => (x.ud : Int)))), x]) ?_ ?_
  · repeat' fail
    refine wp_maxD ?_
    repeat' fail
    refine wp_things ?_
    refine ⟨_, rfl, t.ins_len _, ?_⟩
    refine wp_lcM (k := fun x => D.int x.ud) rfl ?_ fun x hx => ⟨_, rfl, ?_⟩
    · exact ⟨t.ins.map fun x => (x.ud : Int), by rw [List.map_map]; rfl, rfl, _, rfl⟩
    · repeat' fail
      exact ih x hx _
  · rintro ρ1 μ1 ⟨rfl, x, rfl⟩
    cases t with
    | sh s =>
      simp only [Tm.d]
      repeat' fail
      exact ⟨rfl, rfl⟩
    | lt z =>
      simp only [Tm.d]
      repeat' fail
      exact ⟨rfl, rfl⟩
    | bi o a b =>
      simp only [Tm.d]
      repeat' fail
      refine wp_eqStr o.wok (by decide +kernel) ?_
      rw [decide_eq_false (show ¬ o.w = ("undo" : Str) from by cases o <;> decide +kernel)]
      repeat' fail
      refine ⟨?_, rfl⟩
      congr 1
      simp only [Tm.ins, Tm.ud, List.map_cons, List.map_nil, maxD, List.foldl_cons, List.foldl_nil]
      show max (a.ud : Int) b.ud + 0 = _
      omega
    | un a =>
      simp only [Tm.d]
      repeat' fail
      refine ⟨?_, rfl⟩
      congr 1
def flaw (t : Tm) : Option Str := if 24 < t.n then some "many" else if 4 < (lset t).length then some "letters" else if 4 < t.ud then some "deep" else none
def flD (t : Tm) : D := match flaw t with
  | some z => .str z
  | none => .non
theorem wp_flaw_in {t : Tm} {μ : Sto} {Q : D → Sto → Prop} {E : Exs} (h : t.dep ≤ 30) (hn : t.n ≤ 2000) (hl : (lset t).length < 64) (q : Q (flD t) μ) : (f_flaw_in [t.d] μ).wp Q E := by
  unfold f_flaw_in
  with_reducible refine wp_fn ?_
  unfold b_flaw_in
  unfold flD flaw at q
  repeat' (first | fail | with_reducible refine wp_sSeq ?_)
  refine wp_many h ?_
  repeat' (first | fail | with_reducible refine wp_sSeq ?_)
  · rename_i c
    rw [if_pos (by omega)] at q
    exact q
  · rename_i c
    rw [if_neg (by omega)] at q
    refine wp_letters_of h hn hl ?_
    have ll : (lettersD t).length = (lset t).length := by unfold lettersD sortS; rw [List.length_map, List.length_mergeSort]
    repeat' (first | fail | with_reducible refine wp_sSeq ?_)
    · rename_i c2
      rw [if_pos (by omega)] at q
      exact q
    · rename_i c2
      rw [if_neg (by omega)] at q
      refine wp_deep_of h ?_
      repeat' (first | fail | with_reducible refine wp_sSeq ?_)
      · rename_i c3
        rw [if_pos (by omega)] at q
        exact q
      · rename_i c3
        rw [if_neg (by omega)] at q
        exact q
theorem wp_flaw_of {t : Tm} {μ : Sto} {Q : D → Sto → Prop} {E : Exs} (ok : t.ok) (h : t.dep ≤ 30) (hn : t.n ≤ 2000) (hl : (lset t).length < 64) (q : Q (flD t) μ) : (f_flaw_of [t.d] μ).wp Q E := by
  unfold f_flaw_of
  with_reducible refine wp_fn ?_
  unfold b_flaw_of
  repeat' fail
  refine wp_is_built h ok ?_
  repeat' fail
  exact wp_flaw_in h hn hl q
theorem wp_need {t : Tm} {μ : Sto} {Q : D → Sto → Prop} {E : Exs} (ok : t.ok) (h : t.dep ≤ 30) (hn : t.n ≤ 2000) (hl : (lset t).length < 64) (q : flaw t = none → Q .non μ) (e : ∀ z, flaw t = some z → E "BadTerm" ["flaw", "word"] [.str z, .str "BadTerm"] μ) : (f_need_term [t.d] μ).wp Q E := by
  unfold f_need_term
  with_reducible refine wp_fn ?_
  unfold b_need_term
  repeat' (first | fail | with_reducible refine wp_sSeq ?_)
  refine wp_flaw_of ok h hn hl ?_
  unfold flD
  cases f : flaw t with
  | none =>
    dsimp only
    repeat' (first | fail | with_reducible refine wp_sSeq ?_)
    exact q f
  | some z =>
    dsimp only
    repeat' (first | fail | with_reducible refine wp_sSeq ?_)
    exact e z f
/-- a reckoning that is one -/
structure Good (t : Tm) : Prop where
  ok : t.ok
  n : t.n ≤ 24
  l : (lset t).length ≤ 4
  u : t.ud ≤ 4
theorem Good.flaw {t : Tm} (g : Good t) : flaw t = none := by
  unfold Pf.flaw
  rw [if_neg (by have := g.n; omega), if_neg (by have := g.l; omega), if_neg (by have := g.u; omega)]
theorem Good.dep {t : Tm} (g : Good t) : t.dep ≤ 24 := Nat.le_trans t.dep_n g.n
theorem wp_needG {t : Tm} {μ : Sto} {Q : D → Sto → Prop} {E : Exs} (g : Good t) (q : Q .non μ) : (f_need_term [t.d] μ).wp Q E :=
  wp_need g.ok (by have := g.dep; omega) (by have := g.n; omega) (by have := g.l; omega) (fun _ => q) fun z e => by rw [g.flaw] at e; cases e
def sumN : List Tm → Nat
  | [] => 0
  | x :: xs => x.n + sumN xs
theorem wp_word {t : Tm} {μ : Sto} {Q : D → Sto → Prop} {E : Exs} (q : Q (.str t.word) μ) : (dIx t.d (.int 0) μ).wp Q E := by
  cases t <;> exact wp_ix rfl q
theorem Tm.wok (t : Tm) : PyData.strOk t.word = true := by
  cases t with
  | bi o a b => exact o.wok
  | sh s => show PyData.strOk ("share" : Str) = true; decide +kernel
  | lt s => show PyData.strOk ("letter" : Str) = true; decide +kernel
  | un a => show PyData.strOk ("undo" : Str) = true; decide +kernel
theorem Tm.ins_lt {t x : Tm} (h : x ∈ t.ins) : x.n < t.n ∧ x.dep ≤ t.dep := by
  cases t with
  | sh s => cases h
  | lt z => cases h
  | bi o a b =>
    simp only [Tm.ins, List.mem_cons, List.not_mem_nil, or_false] at h
    simp only [Tm.n, Tm.dep]
    rcases h with rfl | rfl <;> constructor <;> omega
  | un a =>
    simp only [Tm.ins, List.mem_cons, List.not_mem_nil, or_false] at h
    subst h
    simp only [Tm.n, Tm.dep]
    constructor <;> omega
theorem Tm.sum_ins (t : Tm) : sumN t.ins < t.n := by cases t <;> simp [Tm.ins, sumN, Tm.n] <;> omega
theorem sumN_app (a b : List Tm) : sumN (a ++ b) = sumN a + sumN b := by
  induction a with
  | nil => simp [sumN]
  | cons x xs ih => simp only [List.cons_append, sumN, ih]; omega
section
variable {Q : D → Sto → Prop} {E : Exs} {μ : Sto} {k : Nat} {ds zs xs ys : List D} {y a b : D}
theorem isTy_cell (h : μ[k]? = some (.lst ds)) : isTy "list" μ (.cell k) = true := by
  unfold isTy tyD
  dsimp only
  rw [h]
  rfl
theorem wp_append (h : μ[k]? = some (.lst ds)) (l : ds.length < 16777216) (q : Q .non (μ.set k (.lst (ds ++ [y])))) : (dAppend (.cell k) [y] μ).wp Q E := by
  unfold dAppend
  dsimp only
  rw [h]
  dsimp only
  rw [if_pos (by rw [sizeLine_eq]; exact l)]
  exact q
end
theorem wp_linner {t : Tm} {μ : Sto} {Q : D → Sto → Prop} {E : Exs} (q : Q (.tup (t.ins.map Tm.d)) μ) : (f__law_inner [t.d] μ).wp Q E := by
  unfold f__law_inner
  with_reducible refine wp_fn ?_
  unfold b__law_inner
  cases t with
  | sh s =>
    simp only [Tm.d]
    repeat' fail
    refine wp_inQ (b := false) ?_ ?_ ?_ ?_
    · exact rfl
    · exact rfl
    · decide +kernel
    repeat' fail
    exact q
  | lt z =>
    simp only [Tm.d]
    repeat' fail
    refine wp_inQ (b := false) ?_ ?_ ?_ ?_
    · exact rfl
    · exact rfl
    · decide +kernel
    repeat' fail
    exact q
  | bi o a b =>
    simp only [Tm.d]
    repeat' fail
    refine wp_inQ (b := true) ?_ ?_ ?_ ?_
    · exact rfl
    · exact rfl
    · cases o <;> decide +kernel
    repeat' fail
    exact q
  | un a =>
    simp only [Tm.d]
    repeat' fail
    refine wp_inQ (b := true) ?_ ?_ ?_ ?_
    · exact rfl
    · exact rfl
    · decide +kernel
    repeat' fail
    exact q
def allL : List Tm → List Tm
  | [] => []
  | x :: xs => x.all ++ allL xs
theorem allL_eq (l : List Tm) : allL l = (l.map Tm.all).flatten := by
  induction l with
  | nil => rfl
  | cons x xs ih => simp [allL, ih]
theorem allL_snoc (l : List Tm) (x : Tm) : allL (l ++ [x]) = allL l ++ x.all := by rw [allL_eq, allL_eq]; simp
theorem allL_len (l : List Tm) : (allL l).length = sumN l := by
  induction l with
  | nil => rfl
  | cons x xs ih => simp [allL, sumN, ih, x.all_len]
def tmsD (l : List Tm) : List D := l.map Tm.d
theorem wp_lall {t : Tm} {n : Nat} {μ : Sto} {Q : D → Sto → Prop} {E : Exs} (h : t.dep ≤ n) (hs : t.n ≤ 1000) (q : Q (.lst (tmsD t.all)) μ) : (f__law_all_parts n [t.d] μ).wp Q E := by
  refine wp_of0 (Tm.by_dep (P := fun n t => t.n ≤ 1000 → ∀ μ, (f__law_all_parts n [t.d] μ).wp (fun r μ' => r = .lst (tmsD t.all) ∧ μ' = μ) noE) (fun n t ih hs μ => ?_) h hs μ) q
  rw [f__law_all_parts_s]
  with_reducible refine wp_fn ?_
  unfold b__law_all_parts
  repeat' fail
  refine wp_linner ?_
  refine ⟨_, rfl, ?_⟩
  refine wp_forS (I := fun ds ρ μ' => μ' = μ ∧ ∃ dn rest x, t.ins = dn ++ rest ∧ ds = rest.map Tm.d ∧ ρ = [some t.d, some (.lst (tmsD (t :: allL dn))), x]) ?_ ?_ ?_
  · exact ⟨rfl, [], t.ins, _, rfl, rfl, rfl⟩
  · rintro ρ μ' ⟨rfl, dn, rest, x, h1, h2, rfl⟩
    have hr : rest = [] := by cases rest with | nil => rfl | cons a b => cases h2
    subst hr
    rw [List.append_nil] at h1
    subst h1
    refine ⟨rfl, ?_⟩
    repeat' fail
    rw [t.all_ins, allL_eq]
    exact ⟨rfl, rfl⟩
  · rintro d ds ρ μ' ⟨rfl, dn, rest, x, h1, h2, rfl⟩
    cases rest with
    | nil => cases h2
    | cons y ys =>
      cases h2
      have hy : y ∈ t.ins := by rw [h1]; simp
      obtain ⟨y1, y2⟩ := Tm.ins_lt hy
      have l3 := t.sum_ins
      rw [h1, sumN_app] at l3
      refine ⟨rfl, _, rfl, ?_⟩
      repeat' fail
      refine wp_of0 (ih y hy (by omega) _) ?_
      refine wp_addL (by unfold tmsD; rw [List.length_map, List.length_map, List.length_cons, allL_len, y.all_len]; omega) ?_
      refine ⟨rfl, dn ++ [y], ys, some y.d, by rw [h1]; simp, rfl, ?_⟩
      rw [allL_snoc]
      have e : tmsD (t :: (allL dn ++ y.all)) = tmsD (t :: allL dn) ++ tmsD y.all := by simp [tmsD]
      rw [e]
      rfl
theorem wp_lcount {t : Tm} {n : Nat} {μ : Sto} {Q : D → Sto → Prop} {E : Exs} (h : t.dep ≤ n) (q : Q (.int t.n) μ) : (f__law_count n [t.d] μ).wp Q E := by
  refine wp_of0 (Tm.by_dep (P := fun n t => ∀ μ, (f__law_count n [t.d] μ).wp (fun r μ' => r = .int t.n ∧ μ' = μ) noE) (fun n t ih μ => ?_) h μ) q
  rw [f__law_count_s]
  with_reducible refine wp_fn ?_
  unfold b__law_count
  repeat' (first | fail | with_reducible refine wp_sSeq ?_)
  refine wp_linner ?_
  refine ⟨_, rfl, t.ins_len _, ?_⟩
  refine wp_lcM (k := fun x => D.int x.n) rfl ?_ fun x hx => ⟨_, rfl, ?_⟩
  · have e : (t.ins.map fun x => D.int x.n) = (t.ins.map fun x => (x.n : Int)).map D.int := by rw [List.map_map]; rfl
    rw [e]
    repeat' (first | fail | with_reducible refine wp_sSeq ?_)
    refine wp_sumI ?_
    repeat' (first | fail | with_reducible refine wp_sSeq ?_)
    refine ⟨?_, rfl⟩
    congr 1
    cases t <;> simp [Tm.ins, Tm.n]
  · repeat' (first | fail | with_reducible refine wp_sSeq ?_)
    exact ih x hx _
theorem wp_lcMF {α : Type} {E : Exs} {ρ : L3.Env} {μ : Sto} {sg : SG} {tt : ST} {te : SE} {gd : Sto → Bool} {Q : List D → Sto → Prop} {l : List α} {g k : α → D} {p : α → Bool} (hg : gd μ = true) (q : Q ((l.filter p).map k) μ)
    (hs : ∀ x ∈ l, ∃ ρ1, sg (g x) ρ μ = some ρ1 ∧ (tt ρ1 μ).wp (fun c μ1 => c = p x ∧ μ1 = μ) noE ∧ (p x = true → (te ρ1 μ).wp (fun y μ2 => y = k x ∧ μ2 = μ) noE)) : (lcS gd sg tt te ρ (l.map g) μ).wp Q E := by
  refine wp_lcS (fun ys zs μ' => μ' = μ ∧ ∃ us ws : List α, l = us ++ ws ∧ zs = ws.map g ∧ ys = (us.filter p).map k) ⟨rfl, [], l, rfl, rfl, rfl⟩ (fun ys μ' ⟨e1, us, ws, e2, e3, e4⟩ => ?_) fun ys d zs μ' ⟨e1, us, ws, e2, e3, e4⟩ => ?_
  · subst e1 e4
    cases ws with
    | nil => rw [List.append_nil] at e2; subst e2; exact ⟨hg, q⟩
    | cons w ws => cases e3
  · subst e1 e4
    cases ws with
    | nil => cases e3
    | cons w ws =>
      cases e3
      obtain ⟨ρ1, h1, h2, h3⟩ := hs w (by rw [e2]; simp)
      refine ⟨hg, ρ1, h1, wp_mono h2 (fun c μ1 ⟨e5, e6⟩ => ?_) fun _ _ _ _ z => z⟩
      subst e5 e6
      refine ⟨fun c => wp_mono (h3 c) (fun y μ2 ⟨e1, e4⟩ => ⟨e4, us ++ [w], ws, by rw [e2]; simp, rfl, by rw [e1]; simp [c]⟩) fun _ _ _ _ z => z, fun c => ⟨rfl, us ++ [w], ws, by rw [e2]; simp, rfl, by simp [c]⟩⟩
def Tm.isLt : Tm → Bool
  | .lt _ => true
  | _ => false
def Tm.item1 : Tm → D
  | .sh s => dSh s
  | .lt z => .str (SX.S z)
  | .bi _ a _ => a.d
  | .un a => a.d
theorem Tm.lt_ls (t : Tm) : ((t.all.filter Tm.isLt).map Tm.item1) = lsD t := by
  induction t with
  | sh s => rfl
  | lt z => rfl
  | bi o a b h1 h2 =>
    have e : (Tm.bi o a b).all.filter Tm.isLt = a.all.filter Tm.isLt ++ b.all.filter Tm.isLt := by simp [Tm.all, Tm.isLt]
    rw [e, List.map_append, h1, h2]
    simp [lsD, Tm.ls]
  | un a h =>
    have e : (Tm.un a).all.filter Tm.isLt = a.all.filter Tm.isLt := by simp [Tm.all, Tm.isLt]
    rw [e, h]
    rfl
theorem wp_word1 {t : Tm} {μ : Sto} {Q : D → Sto → Prop} {E : Exs} (q : Q t.item1 μ) : (dIx t.d (.int 1) μ).wp Q E := by
  cases t <;> exact wp_ix rfl q
theorem wp_eqLt {t : Tm} {μ : Sto} {Q : D → Sto → Prop} {E : Exs} (q : Q (.bl t.isLt) μ) : (dEq (.str t.word) (.str "letter") μ).wp Q E := by
  refine wp_eqStr t.wok (by decide +kernel) ?_
  have e : decide (t.word = ("letter" : Str)) = t.isLt := by
    cases t with
    | bi o a b => cases o <;> rfl
    | _ => rfl
  rw [e]; exact q
theorem wp_lletters {t : Tm} {μ : Sto} {Q : D → Sto → Prop} {E : Exs} (h : t.dep ≤ 30) (hn : t.n ≤ 1000) (hl : (lset t).length < 64) (q : Q (.lst (lettersD t)) μ) : (f__law_letters [t.d] μ).wp Q E := by
  unfold f__law_letters
  with_reducible refine wp_fn ?_
  unfold b__law_letters
  repeat' fail
  refine wp_lall h hn ?_
  refine ⟨_, rfl, by unfold tmsD; rw [List.length_map, t.all_len, sizeLine_eq]; omega, ?_⟩
  refine wp_lcMF (l := t.all) (g := Tm.d) (k := Tm.item1) (p := Tm.isLt) rfl ?_ fun x hx => ⟨_, rfl, ?_, fun c => ?_⟩
  · rw [t.lt_ls, lsD_eq]
    exact wp_sortC hl (by rw [List.length_map]; have := t.ls_n; omega) q
  · repeat' fail
    refine wp_word ?_
    repeat' fail
    refine wp_eqLt ?_
    exact ⟨_, rfl, rfl, rfl⟩
  · repeat' fail
    refine wp_word1 ?_
    exact ⟨rfl, rfl⟩
theorem ShOk.fr {t b : Int} (h : b ≠ 0) : ShOk (frI t b) := ⟨frI_pos h, frI_gcd h⟩
/-! same, of lists that are cells -/
inductive Eqs (μ : Sto) : Nat → D → D → Prop
  | pu {n : Nat} {d : D} (h : Pu n d) : Eqs μ n d d
  | lst {n : Nat} {d e : D} {xs ys : List D} (h1 : asL μ d = some xs) (h2 : asL μ e = some ys) (hl : xs.length = ys.length) (hz : ys.length ≤ 16777216) (h : ∀ (i : Nat) (x y : D), xs[i]? = some x → ys[i]? = some y → Eqs μ n x y) : Eqs μ (n + 1) d e
theorem asL_isi {μ : Sto} {d : D} {xs : List D} (h : asL μ d = some xs) : dIsi [.list, .tuple] d μ = .ok (.bl true) μ ∧ dIsi [.list] d μ = .ok (.bl true) μ ∧ dIsi [.tuple] d μ = .ok (.bl false) μ ∧ dLen d μ = .ok (.int xs.length) μ := by
  cases d with
  | lst ys => cases h; exact ⟨rfl, rfl, rfl, rfl⟩
  | cell k =>
    have h : (match μ[k]? with
      | some (.lst ds) => some ds
      | _ => none) = some xs := h
    cases e : μ[k]? with
    | none => rw [e] at h; cases h
    | some m =>
      cases m with
      | lst ds =>
        rw [e] at h
        cases h
        refine ⟨?_, ?_, ?_, len_cell e⟩
        all_goals
          unfold dIsi tyD
          dsimp only
          rw [e]
          rfl
      | dct _ _ => rw [e] at h; cases h
      | ins _ _ _ => rw [e] at h; cases h
  | _ => cases h
theorem asL_ix {μ : Sto} {d x : D} {xs : List D} {i : Int} (h : asL μ d = some xs) (h0 : 0 ≤ i) (hx : xs[i.toNat]? = some x) : dIx d (.int i) μ = .ok x μ := by
  cases d with
  | lst ys => cases h; exact ix_lst h0 hx
  | cell k =>
    have h : (match μ[k]? with
      | some (.lst ds) => some ds
      | _ => none) = some xs := h
    cases e : μ[k]? with
    | none => rw [e] at h; cases h
    | some m =>
      cases m with
      | lst ds =>
        rw [e] at h
        cases h
        exact ix_cell e h0 hx
      | dct _ _ => rw [e] at h; cases h
      | ins _ _ _ => rw [e] at h; cases h
  | _ => cases h
theorem wp_ofG {g : MO} {m : Sto} {sg : D} {xs : List D} {Q : D → Sto → Prop} {E : Exs} (h : Bg g) (hk : ∀ g, asL (g :: m) sg = some xs) (hs : 0 < xs.length) (h2 : xs.length < 2 ^ 60) (q : ∀ (v : Nat) x g', xs[v]? = some x → Bg g' → Q x (g' :: m)) : (f__law_of [.cell 0, sg] (g :: m)).wp Q E := by
  unfold f__law_of
  with_reducible refine wp_fn ?_
  unfold b__law_of
  repeat' fail
  refine wp_len (asL_isi (hk g)).2.2.2 ?_
  repeat' fail
  refine wp_pull h (by omega) (by omega) fun v g' h3 h4 hg => ?_
  have h5 : v.toNat < xs.length := by omega
  refine wp_ix (asL_ix (hk g') h3 (List.getElem?_eq_getElem h5)) ?_
  exact q v.toNat _ g' (List.getElem?_eq_getElem h5) hg
theorem wp_lleafG {g : MO} {m : Sto} {sg : D} {zs : List (List Nat)} {Q : D → Sto → Prop} {E : Exs} (h : Bg g) (hk : ∀ g, asL (g :: m) sg = some (letsD zs)) (h0 : 0 < zs.length) (h1 : zs.length < 100) (hz : ∀ z ∈ zs, IsLet z)
    (q : ∀ (t : Tm) g', Bg g' → t.ok → t.n = 1 → t.ud = 0 → (∀ z ∈ t.ls, z ∈ zs) → Q t.d (g' :: m)) : (f__law_leaf [.cell 0, sg] (g :: m)).wp Q E := by
  unfold f__law_leaf
  with_reducible refine wp_fn ?_
  unfold b__law_leaf
  repeat' fail
  refine wp_pull h (by decide) (by decide) fun v g1 h2 h3 hg1 => ?_
  repeat' fail
  · refine wp_light hg1 fun t b g2 _ _ h5 _ hg2 => ?_
    repeat' fail
    exact q (.sh (frI t b)) g2 hg2 (ShOk.fr (by omega)) rfl rfl (fun z hz => nomatch hz)
  · have l : (letsD zs).length = zs.length := by unfold letsD; rw [List.length_map]
    refine wp_ofG hg1 hk (by omega) (by omega) fun v x g2 hx hg2 => ?_
    unfold letsD at hx
    rw [List.getElem?_map] at hx
    cases e : zs[v]? with
    | none => rw [e] at hx; cases hx
    | some z =>
      rw [e] at hx
      cases hx
      have hm := List.mem_of_getElem? e
      repeat' fail
      exact q (.lt z) g2 hg2 (hz z hm) rfl rfl (fun y hy => by
        have : y = z := by simpa [Tm.ls] using hy
        rw [this]; exact hm)
theorem wp_ldrawnG {m : Sto} {sg : D} {zs : List (List Nat)} (hk : ∀ g, asL (g :: m) sg = some (letsD zs)) (h0 : 0 < zs.length) (h1 : zs.length < 100) (hz : ∀ z ∈ zs, IsLet z) : ∀ (n room deep : Nat) (g : MO) (Q : D → Sto → Prop) (E : Exs), Bg g → 1 ≤ room → room ≤ n → room ≤ 100 →
    (∀ (t : Tm) g', Bg g' → t.ok → t.n ≤ room → t.ud ≤ deep → (∀ z ∈ t.ls, z ∈ zs) → Q t.d (g' :: m)) → (f__law_drawn n [.cell 0, sg, .int room, .int deep] (g :: m)).wp Q E := by
  intro n
  induction n with
  | zero => intro room deep g Q E _ a b; omega
  | succ n ih =>
    intro room deep g Q E hg hr hn hc q
    rw [f__law_drawn_s]
    with_reducible refine wp_fn ?_
    unfold b__law_drawn
    repeat' fail
    refine wp_pull hg (by decide) (by decide) fun way g1 hw1 hw2 hg1 => ?_
    have leaf : (f__law_leaf [.cell 0, sg] (g1 :: m)).wp (fun d μ1 => Q d μ1) E := wp_lleafG hg1 hk h0 h1 hz fun t g' hg' ok n0 u0 ls => q t g' hg' ok (by omega) (by omega) ls
    refine wp_cut (N0 := fun ρ μ => μ = g1 :: m ∧ 2 ≤ room ∧ (room < 3 → 0 < deep) ∧ ∃ y z, ρ = [some (.cell 0), some sg, some (.int room), some (.int deep), some (.int way), y, z]) ?_ ?_
    · repeat' fail
      · exact leaf
      · exact leaf
      · exact leaf
      · exact ⟨rfl, by omega, fun _ => by omega, _, _, rfl⟩
      · exact ⟨rfl, by omega, fun _ => by omega, _, _, rfl⟩
    · rintro ρ μ ⟨rfl, r2, r3, y, z, rfl⟩
      have undo : ∀ {Q2 : D → Sto → Prop}, 0 < deep → (∀ (t : Tm) g', Bg g' → t.ok → t.n ≤ room - 1 → t.ud ≤ deep - 1 → (∀ z ∈ t.ls, z ∈ zs) → Q2 t.d (g' :: m)) → (f__law_drawn n [.cell 0, sg, .int ((room : Int) - 1), .int ((deep : Int) - 1)] (g1 :: m)).wp Q2 E := by
        intro Q2 hd q2
        rw [show ((room : Int) - 1) = ((room - 1 : Nat) : Int) from by omega, show ((deep : Int) - 1) = ((deep - 1 : Nat) : Int) from by omega]
        exact ih (room - 1) (deep - 1) g1 Q2 E hg1 (by omega) (by omega) (by omega) q2
      refine wp_cut (N0 := fun ρ μ => μ = g1 :: m ∧ 3 ≤ room ∧ ρ = [some (.cell 0), some sg, some (.int room), some (.int deep), some (.int way), y, z]) ?_ ?_
      · repeat' fail
        · refine undo (by omega) fun t g' hg' ok n0 u0 ls => ?_
          repeat' fail
          exact q (.un t) g' hg' ok (by simp only [Tm.n]; omega) (by simp only [Tm.ud]; omega) ls
        · refine undo (by omega) fun t g' hg' ok n0 u0 ls => ?_
          repeat' fail
          exact q (.un t) g' hg' ok (by simp only [Tm.n]; omega) (by simp only [Tm.ud]; omega) ls
        · exact ⟨rfl, by omega, rfl⟩
        · exact ⟨rfl, by omega, rfl⟩
      · rintro ρ μ ⟨rfl, r4, rfl⟩
        repeat' fail
        refine wp_pull hg1 (by omega) (by omega) fun v g2 hv1 hv2 hg2 => ?_
        repeat' fail
        obtain ⟨half, hh⟩ : ∃ half : Nat, 1 + v = half := ⟨(1 + v).toNat, by omega⟩
        rw [hh]
        refine ih half deep g2 _ _ hg2 (by omega) (by omega) (by omega) fun a g3 hg3 oka na ua la => ?_
        repeat' fail
        obtain ⟨o, ho⟩ : ∃ o : Op3, ([.str "plus", .str "less", .str "times"] : List D)[(way.fmod 3).toNat]? = some (.str o.w) := by
          have h3 := Int.fmod_nonneg_of_pos way (show (0 : Int) < 3 by decide)
          have h4 := Int.fmod_lt_of_pos way (show (0 : Int) < 3 by decide)
          have : way.fmod 3 = 0 ∨ way.fmod 3 = 1 ∨ way.fmod 3 = 2 := by omega
          rcases this with e | e | e <;> rw [e]
          · exact ⟨.plus, rfl⟩
          · exact ⟨.less, rfl⟩
          · exact ⟨.times, rfl⟩
        refine wp_ixL (Int.fmod_nonneg_of_pos way (by decide)) ho ?_
        repeat' fail
        rw [show ((room : Int) - 1 - (half : Int)) = ((room - 1 - half : Nat) : Int) from by omega]
        refine ih (room - 1 - half) deep g3 _ _ hg3 (by omega) (by omega) (by omega) fun b g4 hg4 okb nb ub lb => ?_
        repeat' fail
        exact q (.bi o a b) g4 hg4 ⟨oka, okb⟩ (by simp only [Tm.n]; omega) (by simp only [Tm.ud]; omega) fun z hz => (List.mem_append.mp hz).elim (la z) (lb z)
theorem wp_labcG {g : MO} {m : Sto} {n : Nat} {Q : D → Sto → Prop} {E : Exs} (h : Bg g) (hn : n ≤ 5) (q : ∀ zs g', Bg g' → zs.length = n → (∀ z ∈ zs, IsLet z) → zs.Nodup → Q (.cell (m.length + 1)) (g' :: (m ++ [.lst (letsD zs)]))) : (f__law_abc [.cell 0, .int n] (g :: m)).wp Q E := by
  unfold f__law_abc
  with_reducible refine wp_fn ?_
  unfold b__law_abc
  have t_q : ("q" : Str) = SX.S [113] := by decide +kernel
  have t_z : ("zzzzz" : Str) = SX.S [122, 122, 122, 122, 122] := by decide +kernel
  have t_ab : ("ab" : Str) = SX.S [97, 98] := by decide +kernel
  rw [small, t_q, t_z, t_ab, t_empty]
  repeat' fail
  refine wp_pull h (by decide) (by decide) fun f g1 h1 h2 hg1 => ?_
  repeat' fail
  refine wp_of hg1 (by show 0 < 5; decide) (by show 5 < 2 ^ 60; decide) fun u x g2 hx hg2 => ?_
  obtain ⟨pad, rfl, hp, hl⟩ : ∃ pad, x = .str (SX.S pad) ∧ (∀ c ∈ pad, 97 ≤ c ∧ c ≤ 122) ∧ pad.length ≤ 5 := by
    have m := List.mem_of_getElem? hx
    simp only [List.mem_cons, List.not_mem_nil, or_false] at m
    rcases m with rfl | rfl | rfl | rfl | rfl <;> exact ⟨_, rfl, by decide, by decide⟩
  repeat' fail
  refine wp_lenT (by omega) ?_
  repeat' fail
  refine wp_pull hg2 (by omega) (by omega) fun at_ g3 h3 h4 hg3 => ?_
  repeat' fail
  let lz : Nat → List Nat := fun j => pad.take at_.toNat ++ [97 + ((f + 5 * (0 + (j : Nat))).fmod 26).toNat] ++ pad.drop at_.toNat
  have hin : ∀ i j : Nat, i < j → j < 5 → lz i ≠ lz j := fun i j hij hj e => by
    have e2 : ((f + 5 * (i : Int)).fmod 26).toNat = ((f + 5 * (j : Int)).fmod 26).toNat := by simpa [lz, List.append_assoc] using e
    rw [Int.fmod_eq_emod_of_nonneg _ (by decide), Int.fmod_eq_emod_of_nonneg _ (by decide)] at e2
    omega
  refine wp_forR (I := fun i ρ μ => ∃ y z, μ = g3 :: (m ++ [.lst (letsD ((List.range i).map lz))]) ∧ ρ = [some (.cell 0), some (.int n), some (.int f), some (.cell (m.length + 1)), some (.str (SX.S pad)), some (.int at_), y, z]) ?_ ?_ ?_
  · exact ⟨none, none, rfl, rfl⟩
  · rintro ρ μ ⟨y, z, rfl, rfl⟩
    repeat' fail
    rw [show (Int.toNat (n : Int)) = n from Int.toNat_natCast n]
    refine q _ g3 hg3 (by simp) (fun w hw => ?_) ?_
    · obtain ⟨j, hj, rfl⟩ := List.mem_map.mp hw
      have h7 := Int.fmod_nonneg_of_pos (f + 5 * (0 + (j : Nat))) (show (0 : Int) < 26 by decide)
      have h8 := Int.fmod_lt_of_pos (f + 5 * (0 + (j : Nat))) (show (0 : Int) < 26 by decide)
      refine ⟨⟨by simp [lz]; omega, by simp [lz]; omega⟩, fun d hd => ?_⟩
      simp only [lz, List.mem_append, List.mem_singleton] at hd
      rcases hd with (hd | hd) | hd
      · exact hp d (List.mem_of_mem_take hd)
      · omega
      · exact hp d (List.mem_of_mem_drop hd)
    · refine List.pairwise_map.mpr ?_
      refine (List.pairwise_lt_range (n := n)).imp_of_mem fun {i j} hi hj hij => ?_
      exact hin i j hij (by have := List.mem_range.mp hj; omega)
  · rintro i ρ μ hi ⟨y, z, rfl, rfl⟩
    have hi : i < n := by omega
    refine ⟨_, rfl, ?_⟩
    repeat' fail
    have h7 := Int.fmod_nonneg_of_pos (f + 5 * (0 + (i : Nat))) (show (0 : Int) < 26 by decide)
    have h8 := Int.fmod_lt_of_pos (f + 5 * (0 + (i : Nat))) (show (0 : Int) < 26 by decide)
    have hc : ((List.range 26).map (97 + ·))[((f + 5 * (0 + (i : Nat))).fmod 26).toNat]? = some (97 + ((f + 5 * (0 + (i : Nat))).fmod 26).toNat) := by
      rw [List.getElem?_map, List.getElem?_range (by omega)]
      rfl
    refine wp_ixS (Int.fmod_nonneg_of_pos _ (by decide)) hc (by simp) ?_
    repeat' fail
    have hk : (g3 :: (m ++ [MO.lst (letsD ((List.range i).map lz))]))[m.length + 1]? = some (.lst (letsD ((List.range i).map lz))) := by simp
    refine isTy_ok (isTy_cell hk) ?_
    repeat' fail
    refine wp_takeT h3 (by omega) ?_
    repeat' fail
    refine wp_addT (by simp; omega) ?_
    repeat' fail
    refine wp_dropT h3 (by omega) ?_
    repeat' fail
    refine wp_addT (by simp; omega) ?_
    repeat' fail
    refine wp_append hk (by unfold letsD; rw [List.length_map, List.length_map, List.length_range]; omega) ?_
    refine ⟨_, _, ?_, rfl⟩
    show g3 :: ((m ++ [MO.lst (letsD ((List.range i).map lz))]).set m.length _) = _
    rw [List.set_append_right _ _ (Nat.le_refl _), Nat.sub_self, List.range_succ, List.map_append]
    unfold letsD
    rw [List.map_append]
    rfl
theorem wp_ldepth {t : Tm} {n : Nat} {μ : Sto} {Q : D → Sto → Prop} {E : Exs} (h : t.dep ≤ n) (q : Q (.int t.ud) μ) : (f__law_depth n [t.d] μ).wp Q E := by
  refine wp_of0 (Tm.by_dep (P := fun n t => ∀ μ, (f__law_depth n [t.d] μ).wp (fun r μ' => r = .int t.ud ∧ μ' = μ) noE) (fun n t ih μ => ?_) h μ) q
  rw [f__law_depth_s]
  with_reducible refine wp_fn ?_
  unfold b__law_depth
  repeat' (first | fail | with_reducible refine wp_sSeq ?_)
  refine wp_linner ?_
  refine ⟨_, rfl, t.ins_len _, ?_⟩
  refine wp_lcM (k := fun x => D.int x.ud) rfl ?_ fun x hx => ⟨_, rfl, ?_⟩
  · have e : (t.ins.map fun x => D.int x.ud) = (t.ins.map fun x => (x.ud : Int)).map D.int := by rw [List.map_map]; rfl
    refine wp_addL (by cases t <;> simp [Tm.ins]) ?_
    repeat' (first | fail | with_reducible refine wp_sSeq ?_)
    refine wp_maxL (n := 0) (ns := t.ins.map fun x => (x.ud : Int)) ?_ ?_
    · rw [e]
      show intsD _ = _
      exact intsD_int (0 :: t.ins.map fun x => (x.ud : Int))
    · cases t with
      | sh s =>
        simp only [Tm.d]
        repeat' (first | fail | with_reducible refine wp_sSeq ?_)
        exact ⟨rfl, rfl⟩
      | lt z =>
        simp only [Tm.d]
        repeat' (first | fail | with_reducible refine wp_sSeq ?_)
        exact ⟨rfl, rfl⟩
      | bi o a b =>
        simp only [Tm.d]
        repeat' (first | fail | with_reducible refine wp_sSeq ?_)
        refine wp_eqStr o.wok (by decide +kernel) ?_
        rw [decide_eq_false (show ¬ o.w = ("undo" : Str) from by cases o <;> decide +kernel)]
        repeat' (first | fail | with_reducible refine wp_sSeq ?_)
        refine ⟨?_, rfl⟩
        congr 1
        simp only [Tm.ins, Tm.ud, List.map_cons, List.map_nil, maxD, List.foldl_cons, List.foldl_nil]
        rw [Int.max_eq_right (show (0 : Int) ≤ a.ud by omega)]
        show max (a.ud : Int) b.ud + 0 = _
        omega
      | un a =>
        simp only [Tm.d]
        repeat' (first | fail | with_reducible refine wp_sSeq ?_)
        refine ⟨?_, rfl⟩
        congr 1
  · repeat' (first | fail | with_reducible refine wp_sSeq ?_)
    exact ih x hx _
theorem wp_lfault {t : Tm} {μ : Sto} {Q : D → Sto → Prop} {E : Exs} (h : t.dep ≤ 30) (hn : t.n ≤ 1000) (hl : (lset t).length < 64) (q : Q (flD t) μ) : (f__law_fault [t.d] μ).wp Q E := by
  unfold f__law_fault
  with_reducible refine wp_fn ?_
  unfold b__law_fault
  unfold flD flaw at q
  repeat' (first | fail | with_reducible refine wp_sSeq ?_)
  refine wp_lcount h ?_
  repeat' (first | fail | with_reducible refine wp_sSeq ?_)
  · rename_i c
    rw [if_pos (by omega)] at q
    exact q
  · rename_i c
    rw [if_neg (by omega)] at q
    refine wp_lletters h hn hl ?_
    have ll : (lettersD t).length = (lset t).length := by unfold lettersD sortS; rw [List.length_map, List.length_mergeSort]
    repeat' (first | fail | with_reducible refine wp_sSeq ?_)
    · rename_i c2
      rw [if_pos (by omega)] at q
      exact q
    · rename_i c2
      rw [if_neg (by omega)] at q
      refine wp_ldepth h ?_
      repeat' (first | fail | with_reducible refine wp_sSeq ?_)
      · rename_i c3
        rw [if_pos (by omega)] at q
        exact q
      · rename_i c3
        rw [if_neg (by omega)] at q
        exact q
theorem Good.of {t : Tm} (ok : t.ok) (h : Pf.flaw t = none) : Good t := by
  unfold Pf.flaw at h
  by_cases a : 24 < t.n
  · rw [if_pos a] at h; cases h
  rw [if_neg a] at h
  by_cases b : 4 < (lset t).length
  · rw [if_pos b] at h; cases h
  rw [if_neg b] at h
  by_cases c : 4 < t.ud
  · rw [if_pos c] at h; cases h
  exact ⟨ok, by omega, by omega, by omega⟩
theorem wp_good {t : Tm} {μ : Sto} {Q : D → Sto → Prop} {E : Exs} (h : t.dep ≤ 30) (hn : t.n ≤ 2000) (hl : (lset t).length < 64) (q : flaw t = none → Q t.d μ) (e : ∀ z, flaw t = some z → E "BadTerm" ["flaw", "word"] [.str z, .str "BadTerm"] μ) : (f_need_good [t.d] μ).wp Q E := by
  unfold f_need_good
  with_reducible refine wp_fn ?_
  unfold b_need_good
  repeat' (first | fail | with_reducible refine wp_sSeq ?_)
  refine wp_flaw_in h hn hl ?_
  unfold flD
  cases f : flaw t with
  | none =>
    dsimp only
    repeat' (first | fail | with_reducible refine wp_sSeq ?_)
    exact q f
  | some z =>
    dsimp only
    repeat' (first | fail | with_reducible refine wp_sSeq ?_)
    exact e z f
end Pf

namespace Pf
open PySem PySem.Spec PyProof.Rows L2 L3
local macro_rules | `(tactic| fail) => `(tactic| first
  | with_reducible refine wp_seqSet ?_
  | with_reducible refine wp_seqAsg ?_
  | with_reducible refine wp_seqPar ?_
  | with_reducible refine wp_seqPar3 ?_
  | with_reducible refine wp_seqFset ?_
  | with_reducible refine wp_seqFaug ?_
  | with_reducible refine wp_sFset ?_
  | with_reducible refine wp_sFaug ?_
  | with_reducible refine wp_meth ?_
  | with_reducible refine wp_make ?_
  | with_reducible refine wp_methX ?_
  | with_reducible refine wp_makeX ?_
  | with_reducible refine wp_sPar3 ?_
  | with_reducible refine three_ok ?_
  | with_reducible refine wp_seqAug ?_
  | with_reducible refine wp_seqExpr ?_
  | with_reducible refine wp_seqSub ?_
  | with_reducible refine wp_seqNil ?_
  | with_reducible refine wp_seqFor ?_
  | with_reducible refine wp_seqWhile ?_
  | with_reducible refine wp_seqStar ?_
  | with_reducible refine wp_seqForK ?_
  | with_reducible refine wp_seqDput ?_
  | with_reducible refine wp_seqMul ?_
  | with_reducible refine wp_sSet ?_
  | with_reducible refine wp_sRet ?_
  | with_reducible refine wp_sNil ?_
  | with_reducible refine wp_sIf ?_
  | with_reducible refine wp_sPar ?_
  | with_reducible refine wp_sAsg ?_
  | with_reducible refine wp_sSub ?_
  | with_reducible refine wp_sFor ?_
  | with_reducible refine wp_sRaise ?_
  | with_reducible refine wp_sExpr ?_
  | with_reducible refine wp_sRetN ?_
  | with_reducible refine wp_sBreak ?_
  | with_reducible refine wp_sCont ?_
  | ((with_reducible refine wp_varE ?_); refine ⟨_, rfl, ?_⟩)
  | with_reducible refine wp_c ?_
  | with_reducible refine wp_B ?_
  | with_reducible refine wp_U ?_
  | with_reducible refine wp_T ?_
  | with_reducible refine wp_andT ?_
  | with_reducible refine wp_orT ?_
  | with_reducible refine wp_notT ?_
  | with_reducible refine wp_andV ?_
  | with_reducible refine wp_orV ?_
  | with_reducible refine wp_notV ?_
  | with_reducible refine wp_if ?_
  | with_reducible refine wp_nil ?_
  | with_reducible refine wp_cons ?_
  | with_reducible refine wp_tup ?_
  | with_reducible refine wp_lst ?_
  | with_reducible refine wp_lstC ?_
  | with_reducible refine wp_call ?_
  | with_reducible refine wp_callD ?_
  | with_reducible refine wp_callB ?_
  | with_reducible refine wp_m ?_
  | with_reducible refine wp_oNone ?_
  | with_reducible refine wp_oSome ?_
  | with_reducible refine wp_sl ?_
  | with_reducible refine wp_tried ?_
  | with_reducible refine wp_asked ?_
  | with_reducible refine wp_seqOut ?_
  | with_reducible refine wp_asks ?_
  | with_reducible refine wp_asksC ?_
  | with_reducible refine wp_asksN ?_
  | with_reducible refine wp_chain ?_
  | with_reducible refine wp_enum ?_
  | with_reducible refine wp_enumB ?_
  | with_reducible refine wp_zip ?_
  | with_reducible refine wp_joinedT ?_
  | with_reducible refine wp_jNil ?_
  | with_reducible refine wp_jT ?_
  | with_reducible refine wp_lc ?_
  | with_reducible refine wp_lcC ?_
  | with_reducible refine wp_yes ?_
  | with_reducible refine wp_iAny ?_
  | with_reducible refine wp_range1 ?_
  | with_reducible refine wp_range2 ?_
  | with_reducible refine wp_sStar ?_
  | with_reducible refine wp_sDput ?_
  | with_reducible refine wp_sMul ?_
  | with_reducible refine wp_mNil ?_
  | with_reducible refine wp_mCons ?_
  | with_reducible refine wp_mSub ?_
  | with_reducible refine wp_mSubD ?_
  | with_reducible refine wp_dget2 ?_
  | with_reducible refine wp_disp ?_
  | with_reducible refine wp_pNil ?_
  | with_reducible refine wp_pCons ?_)
local macro_rules | `(tactic| fail) => `(tactic| first
  | with_reducible refine wp_eqI ?_
  | with_reducible refine wp_neI ?_
  | with_reducible refine wp_eqB ?_
  | with_reducible refine wp_neB ?_
  | ((with_reducible refine wp_eqStr ?_ ?_ ?_); decide +kernel; decide +kernel)
  | ((with_reducible refine wp_neStr ?_ ?_ ?_); decide +kernel; decide +kernel)
  | with_reducible refine wp_addI ?_
  | with_reducible refine wp_addII ?_
  | with_reducible refine wp_subI ?_
  | with_reducible refine wp_ltI ?_
  | with_reducible refine wp_leI ?_
  | with_reducible refine wp_gtI ?_
  | with_reducible refine wp_geI ?_
  | with_reducible refine wp_negI ?_
  | with_reducible refine wp_intI ?_
  | with_reducible refine wp_intB ?_
  | with_reducible refine wp_absI ?_
  | with_reducible refine wp_un ?_
  | ((with_reducible refine wp_mul ?_ ?_); first | exact mulOk_right (by decide) | exact mulOk_left (by decide) | exact mulOk_mod (by decide) (by decide))
  | ((with_reducible refine wp_mod ?_ ?_); decide)
  | ((with_reducible refine wp_fdiv ?_ ?_ ?_); decide; exact pylong_200 (by decide))
  | with_reducible refine wp_pow18 ?_
  | with_reducible refine wp_pow12 ?_
  | with_reducible refine wp_pow40 ?_
  | ((with_reducible refine wp_ixE ?_); refine ⟨_, rfl, ?_⟩)
  | with_reducible refine wp_len0 ?_
  | with_reducible refine wp_len1 ?_
  | with_reducible refine wp_len2 ?_
  | with_reducible refine wp_len3 ?_
  | with_reducible refine wp_lenT1 ?_
  | with_reducible refine wp_lenT2 ?_
  | with_reducible refine wp_lenT3 ?_
  | ((with_reducible refine wp_lenE ?_); refine ⟨_, rfl, ?_⟩)
  | ((with_reducible refine wp_listOfE ?_); refine ⟨_, rfl, ?_⟩)
  | ((with_reducible refine wp_isiE ?_); refine ⟨_, rfl, ?_⟩)
  | ((with_reducible refine wp_isNE ?_); refine ⟨_, rfl, ?_⟩)
  | ((with_reducible refine wp_notNE ?_); refine ⟨_, rfl, ?_⟩)
  | ((with_reducible refine wp_slE ?_); refine ⟨_, rfl, ?_⟩)
  | ((with_reducible refine sub_okE ?_); refine ⟨_, rfl, ?_⟩)
  | with_reducible refine Exists.intro _ (And.intro rfl ?_)
  | with_reducible refine Exists.intro _ (Exists.intro _ (And.intro rfl ?_))
  | ((with_reducible refine len_eq ?_ ?_); exact rfl)
  | ((with_reducible refine rng_ok ?_ ?_); omega)
  | ((with_reducible refine rng2_ok ?_ ?_); omega)
  | ((with_reducible refine rngD_len ?_ ?_); omega)
  | ((with_reducible refine len_100 ?_ ?_); exact Nat.le_of_ble_eq_true rfl)
  | ((with_reducible refine isTy_ok ?_ ?_); exact rfl)
  | ((with_reducible refine br_t ?_ ?_); first | with_reducible exact rfl | decide)
  | ((with_reducible refine br_f ?_ ?_); first | with_reducible exact rfl | decide)
  | with_reducible refine br_d (fun _ => ?_) (fun _ => ?_)
  | with_reducible refine br_n (fun _ => ?_) (fun _ => ?_))
/-! odd things in the place of a part -/
def oddL : List D := [D.tup [], D.non, D.int 5, D.str "x", D.tup [.str "x"], D.tup [.str "letter"], D.tup [.str "letter", .str ""], D.tup [.str "letter", .str "X"], D.tup [.str "letter", .str "abcdefg"], D.tup [.str "letter", .str "a1"], D.tup [.str "letter", .int 1], D.tup [.str "letter", .str "x", .str "y"], D.tup [.str "share", .tup [.int 2, .int 4]], D.tup [.str "share", .tup [.int 1, .int 0]], D.tup [.str "share", .tup [.int 1, .int (-2)]], D.tup [.str "share", .int 1], D.tup [.str "share", .tup [.bl true, .int 1]], D.tup [.str "share", .tup [.int 3, .int 0]], D.tup [.str "share", .tup [.int 6, .int 4]], D.tup [.str "plus", .tup [.str "letter", .str "x"]], D.tup [.str "plus", .tup [.str "letter", .str "x"], .tup [.str "letter", .str "x"], .tup [.str "letter", .str "x"]], D.tup [.str "undo"], D.tup [.str "undo", .tup [.str "letter", .str "x"], .tup [.str "letter", .str "x"]], D.tup [.str "times", .tup [.str "letter", .str "x"]], D.tup [.str "less", .tup [.str "letter", .str "x"], .int 1], D.tup [.str "over", .tup [.str "letter", .str "x"], .tup [.str "letter", .str "x"]], D.tup [.str "undo", .str "x"], D.tup [.str "name", .str "A"], D.tup [.str "", .tup [.str "letter", .str "x"]], D.tup [.non, .tup [.str "letter", .str "x"]], D.tup [.str "share", .non], D.tup [.tup [.str "letter", .str "x"], .tup [.str "letter", .str "x"]]]
theorem wp_lodd {g : MO} {m : Sto} {Q : D → Sto → Prop} {E : Exs} (h : Bg g) (q : ∀ o ∈ oddL, ∀ g', Bg g' → Q o (g' :: m)) : (f__law_odd [.cell 0] (g :: m)).wp Q E := by
  unfold f__law_odd
  with_reducible refine wp_fn ?_
  simp only [List.map_cons, List.map_nil, List.length_cons, List.length_nil, List.reduceReplicate, List.cons_append, List.nil_append, Nat.reduceAdd, Nat.reduceSub, Nat.zero_add, List.set_cons_zero, List.set_cons_succ, wipeE]
  unfold b__law_odd
  repeat' (first | fail | with_reducible refine wp_sSeq ?_ | (with_reducible refine wp_addL (by simp) ?_))
  refine wp_ofG (xs := oddL) h (fun g => rfl) (by decide) (by decide) fun v x g' hx hg' => ?_
  repeat' (first | fail | with_reducible refine wp_sSeq ?_)
  exact q x (List.mem_of_getElem? hx) g' hg'
theorem odd_share {a b : Int} (hb : 0 < b) (hg : Int.gcd a b ≠ 1) (n : Nat) (μ : Sto) : (f_is_built (n + 1) [.tup [.str "share", .tup [.int a, .int b]]] μ).wp (fun r μ' => r = .bl false ∧ μ' = μ) noE := by
  rw [f_is_built_s]
  with_reducible refine wp_fn ?_
  unfold b_is_built
  repeat' (first | fail | with_reducible refine wp_sSeq ?_)
  refine wp_inQ (b := true) ?_ ?_ ?_ ?_
  · exact rfl
  · exact rfl
  · decide +kernel
  repeat' (first | fail | with_reducible refine wp_sSeq ?_)
  unfold f_is_leaf
  with_reducible refine wp_fn ?_
  unfold b_is_leaf
  repeat' (first | fail | with_reducible refine wp_sSeq ?_)
  unfold f_is_share
  with_reducible refine wp_fn ?_
  unfold b_is_share
  repeat' (first | fail | with_reducible refine wp_sSeq ?_)
  refine wp_forS (I := fun ds ρ μ' => μ' = μ ∧ (∃ x, ρ = [some (.tup [.int a, .int b]), x]) ∧ ∀ d ∈ ds, ∃ i, d = D.int i) ⟨rfl, ⟨_, rfl⟩, fun d hd => ?_⟩ ?_ ?_
  · simp only [List.mem_cons, List.not_mem_nil, or_false] at hd
    rcases hd with rfl | rfl <;> exact ⟨_, rfl⟩
  · rintro ρ μ' ⟨rfl, ⟨x, rfl⟩, _⟩
    refine ⟨rfl, ?_⟩
    repeat' (first | fail | with_reducible refine wp_sSeq ?_)
    · refine wp_divisor ?_
      repeat' (first | fail | with_reducible refine wp_sSeq ?_)
      rw [decide_eq_false fun z : ((Int.gcd a b : Nat) : Int) = 1 => hg (by omega)]
      exact ⟨rfl, rfl⟩
    · rename_i c; exact absurd hb c
  · rintro d ds ρ μ' ⟨rfl, ⟨x, rfl⟩, hd⟩
    obtain ⟨i, rfl⟩ := hd d List.mem_cons_self
    refine ⟨rfl, _, rfl, ?_⟩
    repeat' (first | fail | with_reducible refine wp_sSeq ?_)
    exact ⟨rfl, ⟨_, rfl⟩, fun d h => hd d (List.mem_cons_of_mem _ h)⟩
theorem odd_built : ∀ o ∈ oddL, ∀ (n : Nat) (μ : Sto), (f_is_built (n + 3) [o] μ).wp (fun r μ' => r = .bl false ∧ μ' = μ) noE := by
  have go : ∀ o : D, (∀ (n : Nat) (μ : Sto), f_is_built (n + 3) [o] μ = .ok (.bl false) μ) → ∀ (n : Nat) (μ : Sto), (f_is_built (n + 3) [o] μ).wp (fun r μ' => r = .bl false ∧ μ' = μ) noE := fun o h n μ => by rw [h n μ]; exact ⟨rfl, rfl⟩
  unfold oddL
  simp only [List.forall_mem_cons]
  refine ⟨?_, ?_, ?_, ?_, ?_, ?_, ?_, ?_, ?_, ?_, ?_, ?_, ?_, ?_, ?_, ?_, ?_, ?_, ?_, ?_, ?_, ?_, ?_, ?_, ?_, ?_, ?_, ?_, ?_, ?_, ?_, ?_, fun x hx => by cases hx⟩
  case refine_13 => exact fun n μ => odd_share (by decide) (by decide) (n + 2) μ
  case refine_19 => exact fun n μ => odd_share (by decide) (by decide) (n + 2) μ
  all_goals (exact go _ fun n μ => by kernel_rfl)
/-- a thing with an odd one in it, so deep -/
inductive Tw : Nat → D → Prop
  | odd {o : D} {n : Nat} (h : o ∈ oddL) : Tw (n + 3) o
  | un {n : Nat} {d : D} (h : Tw n d) : Tw (n + 1) (.tup [.str "undo", d])
  | l {n : Nat} {o : Op3} {d : D} {b : Tm} (h : Tw n d) (ok : b.ok) (hb : b.dep ≤ n) : Tw (n + 1) (.tup [.str o.w, d, b.d])
  | r {n : Nat} {o : Op3} {a : Tm} {d : D} (ok : a.ok) (ha : a.dep ≤ n) (h : Tw n d) : Tw (n + 1) (.tup [.str o.w, a.d, d])
theorem built_bi {n : Nat} {o : Op3} {X Y : D} {bx by_ : Bool} (hX : ∀ μ, (f_is_built n [X] μ).wp (fun r μ' => r = .bl bx ∧ μ' = μ) noE) (hY : ∀ μ, (f_is_built n [Y] μ).wp (fun r μ' => r = .bl by_ ∧ μ' = μ) noE) (μ : Sto) :
    (f_is_built (n + 1) [.tup [.str o.w, X, Y]] μ).wp (fun r μ' => r = .bl (bx && by_) ∧ μ' = μ) noE := by
  rw [f_is_built_s]
  with_reducible refine wp_fn ?_
  unfold b_is_built
  repeat' (first | fail | with_reducible refine wp_sSeq ?_)
  refine wp_inQ (b := false) ?_ ?_ ?_ ?_
  · exact rfl
  · exact rfl
  · cases o <;> decide +kernel
  repeat' (first | fail | with_reducible refine wp_kget2 ?_ | with_reducible refine wp_sSeq ?_)
  rw [o.things, Option.getD_some]
  repeat' (first | fail | with_reducible refine wp_sSeq ?_)
  refine kin_ok (b := true) (by rw [o.things]; rfl) ?_
  repeat' (first | fail | with_reducible refine wp_sSeq ?_)
  refine ⟨by show ([(X, bx), (Y, by_)].map Prod.fst).length ≤ sizeLine; rw [sizeLine_eq]; simp, ?_⟩
  refine wp_lcM (l := [(X, bx), (Y, by_)]) (g := Prod.fst) (k := fun p => D.bl p.2) rfl ?_ fun x hx => ⟨_, rfl, ?_⟩
  · repeat' (first | fail | with_reducible refine wp_sSeq ?_)
    refine wp_allB (l := [bx, by_]) ?_
    refine ⟨by simp, rfl⟩
  · repeat' (first | fail | with_reducible refine wp_sSeq ?_)
    simp only [List.mem_cons, List.not_mem_nil, or_false] at hx
    rcases hx with rfl | rfl
    · exact hX _
    · exact hY _
theorem built_un {n : Nat} {X : D} {bx : Bool} (hX : ∀ μ, (f_is_built n [X] μ).wp (fun r μ' => r = .bl bx ∧ μ' = μ) noE) (μ : Sto) :
    (f_is_built (n + 1) [.tup [.str "undo", X]] μ).wp (fun r μ' => r = .bl bx ∧ μ' = μ) noE := by
  rw [f_is_built_s]
  with_reducible refine wp_fn ?_
  unfold b_is_built
  repeat' (first | fail | with_reducible refine wp_sSeq ?_)
  refine wp_inQ (b := false) ?_ ?_ ?_ ?_
  · exact rfl
  · exact rfl
  · decide +kernel
  repeat' (first | fail | with_reducible refine wp_kget2 ?_ | with_reducible refine wp_sSeq ?_)
  have e : (kd_THINGS_v.lookup ("undo" : Str)) = some (D.int 1) := rfl
  rw [e, Option.getD_some]
  repeat' (first | fail | with_reducible refine wp_sSeq ?_)
  refine kin_ok (b := true) rfl ?_
  repeat' (first | fail | with_reducible refine wp_sSeq ?_)
  refine ⟨by show ([(X, bx)].map Prod.fst).length ≤ sizeLine; rw [sizeLine_eq]; simp, ?_⟩
  refine wp_lcM (l := [(X, bx)]) (g := Prod.fst) (k := fun p => D.bl p.2) rfl ?_ fun x hx => ⟨_, rfl, ?_⟩
  · repeat' (first | fail | with_reducible refine wp_sSeq ?_)
    refine wp_allB (l := [bx]) ?_
    refine ⟨by simp, rfl⟩
  · repeat' (first | fail | with_reducible refine wp_sSeq ?_)
    simp only [List.mem_cons, List.not_mem_nil, or_false] at hx
    subst hx
    exact hX _
theorem wp_built_tw {n : Nat} {d : D} (h : Tw n d) : ∀ μ, (f_is_built n [d] μ).wp (fun r μ' => r = .bl false ∧ μ' = μ) noE := by
  induction h with
  | @odd o n h => exact odd_built o h n
  | un h ih => exact built_un ih
  | l h ok hb ih => exact fun μ => built_bi (bx := false) (by_ := true) ih (fun μ => wp_is_built hb ok ⟨rfl, rfl⟩) μ
  | r ok ha h ih => exact fun μ => built_bi (bx := true) (by_ := false) (fun μ => wp_is_built ha ok ⟨rfl, rfl⟩) ih μ
theorem Tw.mono {n m : Nat} {d : D} (h : Tw n d) (l : n ≤ m) : Tw m d := by
  induction h generalizing m with
  | @odd o n h => obtain ⟨k, rfl⟩ : ∃ k, m = k + 3 := ⟨m - 3, by omega⟩; exact .odd h
  | un h ih => obtain ⟨k, rfl⟩ : ∃ k, m = k + 1 := ⟨m - 1, by omega⟩; exact .un (ih (by omega))
  | l h ok hb ih => obtain ⟨k, rfl⟩ : ∃ k, m = k + 1 := ⟨m - 1, by omega⟩; exact .l (ih (by omega)) ok (by omega)
  | r ok ha h ih => obtain ⟨k, rfl⟩ : ∃ k, m = k + 1 := ⟨m - 1, by omega⟩; exact .r ok (by omega) (ih (by omega))
theorem wp_isB {n m : Nat} {d : D} {μ : Sto} {Q : D → Sto → Prop} {E : Exs} (h : Tw n d) (l : n ≤ m) (q : Q (.bl false) μ) : (f_is_built m [d] μ).wp Q E := wp_of0 (wp_built_tw (h.mono l) μ) q
theorem wp_needTw {n : Nat} {d : D} {μ : Sto} {Q : D → Sto → Prop} {E : Exs} (h : Tw n d) (l : n ≤ 30) (e : E "BadTerm" ["flaw", "word"] [.str "form", .str "BadTerm"] μ) : (f_need_term [d] μ).wp Q E := by
  unfold f_need_term
  with_reducible refine wp_fn ?_
  unfold b_need_term
  repeat' (first | fail | with_reducible refine wp_sSeq ?_)
  unfold f_flaw_of
  with_reducible refine wp_fn ?_
  unfold b_flaw_of
  repeat' (first | fail | with_reducible refine wp_sSeq ?_)
  refine wp_isB h l ?_
  repeat' (first | fail | with_reducible refine wp_sSeq ?_)
  exact e
theorem wp_eqT0 {n : Nat} {xs : List D} {μ : Sto} {Q : D → Sto → Prop} {E : Exs} (h : Pu n (.tup xs)) (hn : n ≤ 64) {b : Bool} (hb : xs.isEmpty = b) (q : Q (.bl b) μ) : (dEq (.tup xs) (.tup []) μ).wp Q E := by
  subst hb
  obtain ⟨x, h1, h2⟩ := h.shaped hn
  have e : ∃ ys, x = .tuple ys ∧ ys.isEmpty = xs.isEmpty := by
    have z : (toPyL xs).map PyData.tuple = some x := h1
    cases ez : toPyL xs with
    | none => rw [ez] at z; cases z
    | some ys =>
      rw [ez] at z
      cases z
      refine ⟨ys, rfl, ?_⟩
      cases xs with
      | nil => simp [toPyL] at ez; subst ez; rfl
      | cons a as =>
        simp only [toPyL] at ez
        cases ys with
        | nil => revert ez; cases toPy0 a <;> cases toPyL as <;> simp
        | cons _ _ => rfl
  obtain ⟨ys, rfl, ey⟩ := e
  rw [dEq_py ((h.toPy μ).trans h1) (y := .tuple []) rfl h2 rfl]
  have e2 : PyData.eqv (.tuple ys) (.tuple []) = xs.isEmpty := by
    rw [PyData.eqv]
    cases ys with
    | nil => rw [← ey]; rfl
    | cons _ _ => rw [← ey]; rw [PyData.eqvAll]; rfl
  rw [e2]
  exact q
theorem wp_addTu {xs ys : List D} {μ : Sto} {Q : D → Sto → Prop} {E : Exs} (h : xs ≠ []) (l : xs.length + ys.length ≤ 16777216) (q : Q (.tup (xs ++ ys)) μ) : (dAdd (.tup xs) (.tup ys) μ).wp Q E := by
  have c : xs ≠ [] ∧ xs.length + ys.length ≤ sizeLine := ⟨h, by rw [sizeLine_eq]; exact l⟩
  show (if xs ≠ [] ∧ xs.length + ys.length ≤ sizeLine then R.ok (D.tup (xs ++ ys)) μ else .bad : R D).wp Q E
  rw [if_pos c]
  exact q
theorem Tm.puT {t : Tm} (h : t.ok) : Pu (t.dep + 3) (.tup (t.ins.map Tm.d)) := by
  refine .tup (by rw [List.length_map]; cases t <;> simp [Tm.ins]) fun x hx => ?_
  obtain ⟨y, hy, rfl⟩ := List.mem_map.mp hx
  cases t with
  | sh s => cases hy
  | lt z => cases hy
  | bi o a b =>
    simp only [Tm.ins, List.mem_cons, List.not_mem_nil, or_false] at hy
    rcases hy with rfl | rfl
    · exact (Tm.pu h.1).le (by simp only [Tm.dep]; omega)
    · exact (Tm.pu h.2).le (by simp only [Tm.dep]; omega)
  | un a =>
    simp only [Tm.ins, List.mem_cons, List.not_mem_nil, or_false] at hy
    subst hy
    exact (Tm.pu (show y.ok from h)).le (by simp only [Tm.dep]; omega)
theorem wp_ltwist {t : Tm} {o : D} {n : Nat} {g : MO} {m : Sto} {Q : D → Sto → Prop} {E : Exs} (ho : o ∈ oddL) (hn : t.dep ≤ n) (hd : t.dep ≤ 24) (ok : t.ok) (hg : Bg g) (q : ∀ d g', Bg g' → Tw (t.dep + 2) d → Q d (g' :: m)) : (f__law_twist n [.cell 0, t.d, o] (g :: m)).wp Q E := by
  refine Tm.by_dep (P := fun n t => t.dep ≤ 24 → t.ok → ∀ (g : MO) (Q : D → Sto → Prop), Bg g → (∀ d g', Bg g' → Tw (t.dep + 2) d → Q d (g' :: m)) → (f__law_twist n [.cell 0, t.d, o] (g :: m)).wp Q E) (fun n t ih hd ok g Q hg q => ?_) hn hd ok g Q hg q
  rw [f__law_twist_s]
  with_reducible refine wp_fn ?_
  unfold b__law_twist
  repeat' (first | fail | with_reducible refine wp_sSeq ?_)
  refine wp_linner ?_
  repeat' (first | fail | with_reducible refine wp_sSeq ?_)
  have pu := Tm.puT ok
  have odd : ∀ g', Bg g' → Q o (g' :: m) := fun g' hg' => q o g' hg' ((Tw.odd (n := 0) ho).mono (by have := t.dep_pos; omega))
  cases t with
  | sh s =>
    refine wp_eqT0 (b := true) pu (by omega) rfl ?_
    repeat' (first | fail | with_reducible refine wp_sSeq ?_)
    exact odd g hg
  | lt z =>
    refine wp_eqT0 (b := true) pu (by omega) rfl ?_
    repeat' (first | fail | with_reducible refine wp_sSeq ?_)
    exact odd g hg
  | bi op a b =>
    refine wp_eqT0 (b := false) pu (by omega) rfl ?_
    repeat' (first | fail | with_reducible refine wp_sSeq ?_)
    refine wp_pull hg (by decide) (by decide) fun v g1 v1 v2 hg1 => ?_
    repeat' (first | fail | with_reducible refine wp_sSeq ?_)
    · exact odd g1 hg1
    · refine wp_pull hg1 (by show (0 : Int) < 2; decide) (by show (2 : Int) < 2 ^ 200; decide) fun w g2 w1 w2 hg2 => ?_
      have w3 : w < 2 := w2
      have w4 : w = 0 ∨ w = 1 := by omega
      have da : a.dep < (Tm.bi op a b).dep := by simp only [Tm.dep]; omega
      have db : b.dep < (Tm.bi op a b).dep := by simp only [Tm.dep]; omega
      rcases w4 with rfl | rfl
      · simp only [Tm.d]
        repeat' (first | fail | with_reducible refine wp_sSeq ?_)
        refine ih a List.mem_cons_self (by omega) ok.1 g2 _ hg2 fun d g3 hg3 tw => ?_
        repeat' (first | fail | with_reducible refine wp_sSeq ?_)
        rw [show L3.cutD [D.str op.w, a.d, b.d] none (some (1 + 0)) = [D.str op.w] from rfl]
        refine wp_addTu (by simp) (by simp) ?_
        repeat' (first | fail | with_reducible refine wp_sSeq ?_)
        rw [show L3.cutD [D.str op.w, a.d, b.d] (some (1 + 0 + 1)) none = [b.d] from rfl]
        refine wp_addTu (by simp) (by simp) ?_
        repeat' (first | fail | with_reducible refine wp_sSeq ?_)
        trace_state
        exact q _ g3 hg3 (((tw.mono (m := max a.dep b.dep + 2) (by omega)).l (o := op) ok.2 (by omega)).mono (by simp only [Tm.dep]; omega))
      · simp only [Tm.d]
        repeat' (first | fail | with_reducible refine wp_sSeq ?_)
        refine ih b (by simp [Tm.ins]) (by omega) ok.2 g2 _ hg2 fun d g3 hg3 tw => ?_
        repeat' (first | fail | with_reducible refine wp_sSeq ?_)
        rw [show L3.cutD [D.str op.w, a.d, b.d] none (some (1 + 1)) = [D.str op.w, a.d] from rfl]
        refine wp_addTu (by simp) (by simp) ?_
        repeat' (first | fail | with_reducible refine wp_sSeq ?_)
        rw [show L3.cutD [D.str op.w, a.d, b.d] (some (1 + 1 + 1)) none = [] from rfl]
        refine wp_addTu (by simp) (by simp) ?_
        repeat' (first | fail | with_reducible refine wp_sSeq ?_)
        exact q _ g3 hg3 ((Tw.r (o := op) ok.1 (show a.dep ≤ max a.dep b.dep + 2 by omega) (tw.mono (by omega))).mono (by simp only [Tm.dep]; omega))
  | un a =>
    refine wp_eqT0 (b := false) pu (by omega) rfl ?_
    repeat' (first | fail | with_reducible refine wp_sSeq ?_)
    refine wp_pull hg (by decide) (by decide) fun v g1 v1 v2 hg1 => ?_
    repeat' (first | fail | with_reducible refine wp_sSeq ?_)
    · exact odd g1 hg1
    · refine wp_pull hg1 (by show (0 : Int) < 1; decide) (by show (1 : Int) < 2 ^ 200; decide) fun w g2 w1 w2 hg2 => ?_
      have w3 : w < 1 := w2
      obtain rfl : w = 0 := by omega
      simp only [Tm.d]
      repeat' (first | fail | with_reducible refine wp_sSeq ?_)
      refine ih a List.mem_cons_self (by simp only [Tm.dep] at hd; omega) ok g2 _ hg2 fun d g3 hg3 tw => ?_
      repeat' (first | fail | with_reducible refine wp_sSeq ?_)
      rw [show L3.cutD [D.str "undo", a.d] none (some (1 + 0)) = [D.str "undo"] from rfl]
      refine wp_addTu (by simp) (by simp) ?_
      repeat' (first | fail | with_reducible refine wp_sSeq ?_)
      rw [show L3.cutD [D.str "undo", a.d] (some (1 + 0 + 1)) none = [] from rfl]
      refine wp_addTu (by simp) (by simp) ?_
      repeat' (first | fail | with_reducible refine wp_sSeq ?_)
      exact q _ g3 hg3 (tw.un.mono (by simp only [Tm.dep]; omega))
end Pf

namespace Pf
open PySem PySem.Spec PyProof.Rows L2 L3
local macro_rules | `(tactic| fail) => `(tactic| first
  | with_reducible refine wp_seqSet ?_
  | with_reducible refine wp_seqAsg ?_
  | with_reducible refine wp_seqPar ?_
  | with_reducible refine wp_seqPar3 ?_
  | with_reducible refine wp_seqFset ?_
  | with_reducible refine wp_seqFaug ?_
  | with_reducible refine wp_sFset ?_
  | with_reducible refine wp_sFaug ?_
  | with_reducible refine wp_meth ?_
  | with_reducible refine wp_make ?_
  | with_reducible refine wp_methX ?_
  | with_reducible refine wp_makeX ?_
  | with_reducible refine wp_sPar3 ?_
  | with_reducible refine three_ok ?_
  | with_reducible refine wp_seqAug ?_
  | with_reducible refine wp_seqExpr ?_
  | with_reducible refine wp_seqSub ?_
  | with_reducible refine wp_seqNil ?_
  | with_reducible refine wp_seqFor ?_
  | with_reducible refine wp_seqWhile ?_
  | with_reducible refine wp_seqStar ?_
  | with_reducible refine wp_seqForK ?_
  | with_reducible refine wp_seqDput ?_
  | with_reducible refine wp_seqMul ?_
  | with_reducible refine wp_sSet ?_
  | with_reducible refine wp_sRet ?_
  | with_reducible refine wp_sNil ?_
  | with_reducible refine wp_sIf ?_
  | with_reducible refine wp_sPar ?_
  | with_reducible refine wp_sAsg ?_
  | with_reducible refine wp_sSub ?_
  | with_reducible refine wp_sFor ?_
  | with_reducible refine wp_sRaise ?_
  | with_reducible refine wp_sExpr ?_
  | with_reducible refine wp_sRetN ?_
  | with_reducible refine wp_sBreak ?_
  | with_reducible refine wp_sCont ?_
  | ((with_reducible refine wp_varE ?_); refine ⟨_, rfl, ?_⟩)
  | with_reducible refine wp_c ?_
  | with_reducible refine wp_B ?_
  | with_reducible refine wp_U ?_
  | with_reducible refine wp_T ?_
  | with_reducible refine wp_andT ?_
  | with_reducible refine wp_orT ?_
  | with_reducible refine wp_notT ?_
  | with_reducible refine wp_andV ?_
  | with_reducible refine wp_orV ?_
  | with_reducible refine wp_notV ?_
  | with_reducible refine wp_if ?_
  | with_reducible refine wp_nil ?_
  | with_reducible refine wp_cons ?_
  | with_reducible refine wp_tup ?_
  | with_reducible refine wp_lst ?_
  | with_reducible refine wp_lstC ?_
  | with_reducible refine wp_call ?_
  | with_reducible refine wp_callD ?_
  | with_reducible refine wp_callB ?_
  | with_reducible refine wp_m ?_
  | with_reducible refine wp_oNone ?_
  | with_reducible refine wp_oSome ?_
  | with_reducible refine wp_sl ?_
  | with_reducible refine wp_tried ?_
  | with_reducible refine wp_asked ?_
  | with_reducible refine wp_seqOut ?_
  | with_reducible refine wp_asks ?_
  | with_reducible refine wp_asksC ?_
  | with_reducible refine wp_asksN ?_
  | with_reducible refine wp_chain ?_
  | with_reducible refine wp_enum ?_
  | with_reducible refine wp_enumB ?_
  | with_reducible refine wp_zip ?_
  | with_reducible refine wp_joinedT ?_
  | with_reducible refine wp_jNil ?_
  | with_reducible refine wp_jT ?_
  | with_reducible refine wp_lc ?_
  | with_reducible refine wp_lcC ?_
  | with_reducible refine wp_yes ?_
  | with_reducible refine wp_iAny ?_
  | with_reducible refine wp_range1 ?_
  | with_reducible refine wp_range2 ?_
  | with_reducible refine wp_sStar ?_
  | with_reducible refine wp_sDput ?_
  | with_reducible refine wp_sMul ?_
  | with_reducible refine wp_mNil ?_
  | with_reducible refine wp_mCons ?_
  | with_reducible refine wp_mSub ?_
  | with_reducible refine wp_mSubD ?_
  | with_reducible refine wp_dget2 ?_
  | with_reducible refine wp_disp ?_
  | with_reducible refine wp_pNil ?_
  | with_reducible refine wp_pCons ?_)
local macro_rules | `(tactic| fail) => `(tactic| first
  | with_reducible refine wp_eqI ?_
  | with_reducible refine wp_neI ?_
  | with_reducible refine wp_eqB ?_
  | with_reducible refine wp_neB ?_
  | ((with_reducible refine wp_eqStr ?_ ?_ ?_); decide +kernel; decide +kernel)
  | ((with_reducible refine wp_neStr ?_ ?_ ?_); decide +kernel; decide +kernel)
  | with_reducible refine wp_addI ?_
  | with_reducible refine wp_addII ?_
  | with_reducible refine wp_subI ?_
  | with_reducible refine wp_ltI ?_
  | with_reducible refine wp_leI ?_
  | with_reducible refine wp_gtI ?_
  | with_reducible refine wp_geI ?_
  | with_reducible refine wp_negI ?_
  | with_reducible refine wp_intI ?_
  | with_reducible refine wp_intB ?_
  | with_reducible refine wp_absI ?_
  | with_reducible refine wp_un ?_
  | ((with_reducible refine wp_mul ?_ ?_); first | exact mulOk_right (by decide) | exact mulOk_left (by decide) | exact mulOk_mod (by decide) (by decide))
  | ((with_reducible refine wp_mod ?_ ?_); decide)
  | ((with_reducible refine wp_fdiv ?_ ?_ ?_); decide; exact pylong_200 (by decide))
  | with_reducible refine wp_pow18 ?_
  | with_reducible refine wp_pow12 ?_
  | with_reducible refine wp_pow40 ?_
  | ((with_reducible refine wp_ixE ?_); refine ⟨_, rfl, ?_⟩)
  | with_reducible refine wp_len0 ?_
  | with_reducible refine wp_len1 ?_
  | with_reducible refine wp_len2 ?_
  | with_reducible refine wp_len3 ?_
  | with_reducible refine wp_lenT1 ?_
  | with_reducible refine wp_lenT2 ?_
  | with_reducible refine wp_lenT3 ?_
  | ((with_reducible refine wp_lenE ?_); refine ⟨_, rfl, ?_⟩)
  | ((with_reducible refine wp_listOfE ?_); refine ⟨_, rfl, ?_⟩)
  | ((with_reducible refine wp_isiE ?_); refine ⟨_, rfl, ?_⟩)
  | ((with_reducible refine wp_isNE ?_); refine ⟨_, rfl, ?_⟩)
  | ((with_reducible refine wp_notNE ?_); refine ⟨_, rfl, ?_⟩)
  | ((with_reducible refine wp_slE ?_); refine ⟨_, rfl, ?_⟩)
  | ((with_reducible refine sub_okE ?_); refine ⟨_, rfl, ?_⟩)
  | with_reducible refine Exists.intro _ (And.intro rfl ?_)
  | with_reducible refine Exists.intro _ (Exists.intro _ (And.intro rfl ?_))
  | ((with_reducible refine len_eq ?_ ?_); exact rfl)
  | ((with_reducible refine rng_ok ?_ ?_); omega)
  | ((with_reducible refine rng2_ok ?_ ?_); omega)
  | ((with_reducible refine rngD_len ?_ ?_); omega)
  | ((with_reducible refine len_100 ?_ ?_); exact Nat.le_of_ble_eq_true rfl)
  | ((with_reducible refine isTy_ok ?_ ?_); exact rfl)
  | ((with_reducible refine br_t ?_ ?_); first | with_reducible exact rfl | decide)
  | ((with_reducible refine br_f ?_ ?_); first | with_reducible exact rfl | decide)
  | with_reducible refine br_d (fun _ => ?_) (fun _ => ?_)
  | with_reducible refine br_n (fun _ => ?_) (fun _ => ?_))
theorem S_inj2 {a b : List Nat} (h : SX.S a = SX.S b) : a = b := by
  have := congrArg (fun x : Str => x.cps.toList) h
  simpa [SX.S] using this
theorem wp_eqO {o : Op3} {z : Str} {c : Bool} {μ : Sto} {Q : D → Sto → Prop} {E : Exs} (hz : PyData.strOk z = true) (h : decide (o.w = z) = c) (q : Q (.bl c) μ) : (dEq (.str o.w) (.str z) μ).wp Q E :=
  wp_eqStr o.wok hz (by rw [h]; exact q)
/-! nudges -/
def nud (z : List Nat) (v : Tm) : Tm → Tm
  | .sh _ => .sh (0, 1)
  | .lt y => if y = z then v else .sh (0, 1)
  | .bi .times a b => .bi .plus (.bi .times (nud z v a) b) (.bi .times a (nud z v b))
  | .bi .plus a b => .bi .plus (nud z v a) (nud z v b)
  | .bi .less a b => .bi .less (nud z v a) (nud z v b)
  | .un a => .bi .less (.sh (0, 1)) (.bi .times (.un a) (.bi .times (nud z v a) (.un a)))
section
variable {z : List Nat} {v : Tm}
theorem nudV_n (hv : v.n ≤ 3) (t : Tm) : (nud z v t).n ≤ 4 * (t.n * t.n) := by
  induction t with
  | sh s => simp [nud, Tm.n]
  | lt x => unfold nud; split <;> simp [Tm.n]; omega
  | bi o a b ha hb =>
    have pa := a.n_pos
    have pb := b.n_pos
    have e : (1 + (a.n + b.n)) * (1 + (a.n + b.n)) = 1 + 2 * (a.n + b.n) + (a.n * a.n + 2 * (a.n * b.n) + b.n * b.n) := by grind
    cases o <;> simp only [nud, Tm.n] <;> rw [e] <;> omega
  | un a ha =>
    have pa := a.n_pos
    have e : (1 + a.n) * (1 + a.n) = 1 + 2 * a.n + a.n * a.n := by grind
    simp only [nud, Tm.n]; rw [e]; omega
theorem nudV_dep (hv : v.dep ≤ 4) (t : Tm) : (nud z v t).dep ≤ 3 * t.dep + 1 := by
  induction t with
  | sh s => simp [nud, Tm.dep]
  | lt x => unfold nud; split <;> simp [Tm.dep]; omega
  | bi o a b ha hb =>
    have pa := a.dep_pos
    have pb := b.dep_pos
    cases o <;> simp only [nud, Tm.dep] <;> omega
  | un a ha =>
    have pa := a.dep_pos
    simp only [nud, Tm.dep]; omega
theorem nudV_ok (hy : v.ok) (t : Tm) (h : t.ok) : (nud z v t).ok := by
  have z0 : (Tm.sh (0, 1)).ok := ⟨by decide, by decide⟩
  induction t with
  | sh s => exact z0
  | lt x => unfold nud; split; exact hy; exact z0
  | bi o a b ha hb =>
    cases o
    · exact ⟨ha h.1, hb h.2⟩
    · exact ⟨ha h.1, hb h.2⟩
    · exact ⟨⟨ha h.1, h.2⟩, h.1, hb h.2⟩
  | un a ha => exact ⟨z0, h, ha h, h⟩
theorem nudV_ls {zs : List (List Nat)} (hy : ∀ x ∈ v.ls, x ∈ zs) (t : Tm) (h : ∀ x ∈ t.ls, x ∈ zs) : ∀ x ∈ (nud z v t).ls, x ∈ zs := by
  induction t with
  | sh s => intro x hx; simp [nud, Tm.ls] at hx
  | lt w =>
    unfold nud
    split
    · exact hy
    · intro x hx; simp [Tm.ls] at hx
  | bi o a b ha hb =>
    have h1 : ∀ x ∈ a.ls, x ∈ zs := fun x hx => h x (List.mem_append_left _ hx)
    have h2 : ∀ x ∈ b.ls, x ∈ zs := fun x hx => h x (List.mem_append_right _ hx)
    have ha := ha h1
    have hb := hb h2
    cases o <;> intro x hx <;> simp only [nud, Tm.ls, List.mem_append] at hx
    · exact hx.elim (ha x) (hb x)
    · exact hx.elim (ha x) (hb x)
    · rcases hx with (hx | hx) | (hx | hx)
      · exact ha x hx
      · exact h2 x hx
      · exact h1 x hx
      · exact hb x hx
  | un a ha =>
    intro x hx
    simp only [nud, Tm.ls, List.mem_append] at hx
    rcases hx with hx | hx | hx | hx
    · exact absurd hx (by simp)
    · exact h x hx
    · exact ha h x hx
    · exact h x hx
theorem Tm.dep2 (t : Tm) : 2 * t.dep ≤ t.n + t.ud + 1 := by
  induction t with
  | sh s => simp [Tm.dep, Tm.n, Tm.ud]
  | lt x => simp [Tm.dep, Tm.n, Tm.ud]
  | bi o a b ha hb =>
    have pa := a.n_pos
    have pb := b.n_pos
    simp only [Tm.dep, Tm.n, Tm.ud]; omega
  | un a ha => simp only [Tm.dep, Tm.n, Tm.ud]; omega
end
theorem wp_nudged_by {t v : Tm} {z : List Nat} {n : Nat} {μ : Sto} {Q : D → Sto → Prop} {E : Exs} (hz : IsLet z) (ok : t.ok) (h : t.dep ≤ n) (q : Q (nud z v t).d μ) : (f_nudged_by n [t.d, .str (SX.S z), v.d] μ).wp Q E := by
  refine wp_of0 (Tm.by_dep (P := fun n t => ∀ μ, t.ok → (f_nudged_by n [t.d, .str (SX.S z), v.d] μ).wp (fun r μ' => r = (nud z v t).d ∧ μ' = μ) noE) (fun n t ih μ ok => ?_) h μ ok) q
  rw [f_nudged_by_s]
  with_reducible refine wp_fn ?_
  unfold b_nudged_by
  cases t with
  | sh x =>
    simp only [Tm.d]
    repeat' (first | fail | with_reducible refine wp_sSeq ?_)
    refine ⟨by show 1 ≤ 16000; decide, ?_⟩
    repeat' (first | fail | with_reducible refine wp_sSeq ?_)
    exact ⟨rfl, rfl⟩
  | lt y =>
    simp only [Tm.d]
    repeat' (first | fail | with_reducible refine wp_sSeq ?_)
    refine ⟨by show 1 ≤ 16000; decide, ?_⟩
    repeat' (first | fail | with_reducible refine wp_sSeq ?_)
    refine wp_eqStr (IsLet.ok ok).s (IsLet.ok hz).s ?_
    unfold nud
    by_cases c : y = z
    · rw [if_pos c, c, decide_eq_true rfl]
      repeat' (first | fail | with_reducible refine wp_sSeq ?_)
      exact ⟨rfl, rfl⟩
    · rw [if_neg c, decide_eq_false fun e => c (S_inj2 e)]
      repeat' (first | fail | with_reducible refine wp_sSeq ?_)
      exact ⟨rfl, rfl⟩
  | bi o a b =>
    simp only [Tm.d]
    repeat' (first | fail | with_reducible refine wp_sSeq ?_)
    refine ⟨by show 2 ≤ 16000; decide, ?_⟩
    repeat' (first | fail | with_reducible refine wp_sSeq ?_)
    refine wp_eqO (c := false) (by decide +kernel) (by cases o <;> decide +kernel) ?_
    repeat' (first | fail | with_reducible refine wp_sSeq ?_)
    refine wp_eqO (c := false) (by decide +kernel) (by cases o <;> decide +kernel) ?_
    repeat' (first | fail | with_reducible refine wp_sSeq ?_)
    refine ⟨by rw [sizeLine_eq]; show 2 ≤ 16777216; decide, ?_⟩
    refine wp_lcM (l := [a, b]) (g := Tm.d) (k := fun x => (nud z v x).d) rfl ?_ fun x hx => ⟨_, rfl, ?_⟩
    · repeat' (first | fail | with_reducible refine wp_sSeq ?_)
      refine wp_eqO (c := false) (by decide +kernel) (by cases o <;> decide +kernel) ?_
      repeat' (first | fail | with_reducible refine wp_sSeq ?_)
      cases o with
      | plus =>
        refine wp_eqO (c := false) (by decide +kernel) (by decide +kernel) ?_
        repeat' (first | fail | with_reducible refine wp_sSeq ?_)
        exact ⟨rfl, rfl⟩
      | less =>
        refine wp_eqO (c := false) (by decide +kernel) (by decide +kernel) ?_
        repeat' (first | fail | with_reducible refine wp_sSeq ?_)
        exact ⟨rfl, rfl⟩
      | times =>
        refine wp_eqO (c := true) (by decide +kernel) (by decide +kernel) ?_
        repeat' (first | fail | with_reducible refine wp_sSeq ?_)
        exact ⟨rfl, rfl⟩
    · repeat' (first | fail | with_reducible refine wp_sSeq ?_)
      have okx : x.ok := by
        rcases List.mem_cons.mp hx with rfl | hx
        · exact ok.1
        · rw [List.mem_singleton] at hx; subst hx; exact ok.2
      exact ih x hx _ okx
  | un a =>
    simp only [Tm.d]
    repeat' (first | fail | with_reducible refine wp_sSeq ?_)
    refine ⟨by show 1 ≤ 16000; decide, ?_⟩
    repeat' (first | fail | with_reducible refine wp_sSeq ?_)
    refine ⟨by rw [sizeLine_eq]; show 1 ≤ 16777216; decide, ?_⟩
    refine wp_lcM (l := [a]) (g := Tm.d) (k := fun x => (nud z v x).d) rfl ?_ fun x hx => ⟨_, rfl, ?_⟩
    · repeat' (first | fail | with_reducible refine wp_sSeq ?_)
      exact ⟨rfl, rfl⟩
    · repeat' (first | fail | with_reducible refine wp_sSeq ?_)
      have okx : x.ok := by rw [List.mem_singleton] at hx; subst hx; exact ok
      exact ih x hx _ okx
theorem wp_revLE {a : D} {μ : Sto} {Q : D → Sto → Prop} {E : Exs} (h : ∃ d, dRevL a μ = .ok d μ ∧ Q d μ) : (dRevL a μ).wp Q E := let ⟨d, h1, h2⟩ := h; wp_prim h1 h2
/-! turning -/
def trn : Tm → Tm
  | .sh s => .sh s
  | .lt z => .lt z
  | .bi .times a b => .bi .times (trn b) (trn a)
  | .bi .plus a b => .bi .plus (trn a) (trn b)
  | .bi .less a b => .bi .less (trn a) (trn b)
  | .un a => .un (trn a)
theorem trn_trn (t : Tm) : trn (trn t) = t := by
  induction t with
  | sh s => rfl
  | lt z => rfl
  | bi o a b ha hb => cases o <;> simp only [trn, ha, hb]
  | un a ha => simp only [trn, ha]
theorem trn_n (t : Tm) : (trn t).n = t.n ∧ (trn t).dep = t.dep ∧ (trn t).ud = t.ud := by
  induction t with
  | sh s => exact ⟨rfl, rfl, rfl⟩
  | lt z => exact ⟨rfl, rfl, rfl⟩
  | bi o a b ha hb => cases o <;> simp only [trn, Tm.n, Tm.dep, Tm.ud] <;> omega
  | un a ha => simp only [trn, Tm.n, Tm.dep, Tm.ud]; omega
theorem trn_ok (t : Tm) (h : t.ok) : (trn t).ok := by
  induction t with
  | sh s => exact h
  | lt z => exact h
  | bi o a b ha hb =>
    cases o
    · exact ⟨ha h.1, hb h.2⟩
    · exact ⟨ha h.1, hb h.2⟩
    · exact ⟨hb h.2, ha h.1⟩
  | un a ha => exact ha h
theorem trn_ls (t : Tm) : ∀ x ∈ (trn t).ls, x ∈ t.ls := by
  induction t with
  | sh s => exact fun x h => h
  | lt z => exact fun x h => h
  | bi o a b ha hb =>
    cases o <;> intro x hx <;> simp only [trn, Tm.ls, List.mem_append] at hx ⊢
    · exact hx.elim (fun h => .inl (ha x h)) fun h => .inr (hb x h)
    · exact hx.elim (fun h => .inl (ha x h)) fun h => .inr (hb x h)
    · exact hx.elim (fun h => .inr (hb x h)) fun h => .inl (ha x h)
  | un a ha => exact ha
theorem wp_turned_in {t : Tm} {n : Nat} {μ : Sto} {Q : D → Sto → Prop} {E : Exs} (h : t.dep ≤ n) (q : Q (trn t).d μ) : (f_turned_in n [t.d] μ).wp Q E := by
  refine wp_of0 (Tm.by_dep (P := fun n t => ∀ μ, (f_turned_in n [t.d] μ).wp (fun r μ' => r = (trn t).d ∧ μ' = μ) noE) (fun n t ih μ => ?_) h μ) q
  rw [f_turned_in_s]
  with_reducible refine wp_fn ?_
  unfold b_turned_in
  cases t with
  | sh x =>
    simp only [Tm.d]
    repeat' (first | fail | with_reducible refine wp_sSeq ?_)
    refine ⟨by show 1 ≤ 16000; decide, ?_⟩
    repeat' (first | fail | with_reducible refine wp_sSeq ?_)
    refine wp_inQ (b := true) ?_ ?_ ?_ ?_
    · exact rfl
    · exact rfl
    · decide +kernel
    repeat' (first | fail | with_reducible refine wp_sSeq ?_)
    exact ⟨rfl, rfl⟩
  | lt y =>
    simp only [Tm.d]
    repeat' (first | fail | with_reducible refine wp_sSeq ?_)
    refine ⟨by show 1 ≤ 16000; decide, ?_⟩
    repeat' (first | fail | with_reducible refine wp_sSeq ?_)
    refine wp_inQ (b := true) ?_ ?_ ?_ ?_
    · exact rfl
    · exact rfl
    · decide +kernel
    repeat' (first | fail | with_reducible refine wp_sSeq ?_)
    exact ⟨rfl, rfl⟩
  | bi o a b =>
    simp only [Tm.d]
    repeat' (first | fail | with_reducible refine wp_sSeq ?_)
    refine ⟨by show 2 ≤ 16000; decide, ?_⟩
    repeat' (first | fail | with_reducible refine wp_sSeq ?_)
    refine wp_inQ (b := false) ?_ ?_ ?_ ?_
    · exact rfl
    · exact rfl
    · cases o <;> decide +kernel
    repeat' (first | fail | with_reducible refine wp_sSeq ?_)
    refine ⟨by rw [sizeLine_eq]; show 2 ≤ 16777216; decide, ?_⟩
    refine wp_lcM (l := [a, b]) (g := Tm.d) (k := fun x => (trn x).d) rfl ?_ fun x hx => ⟨_, rfl, ?_⟩
    · repeat' (first | fail | with_reducible refine wp_sSeq ?_)
      cases o with
      | plus =>
        refine wp_eqO (c := false) (by decide +kernel) (by decide +kernel) ?_
        repeat' (first | fail | with_reducible refine wp_sSeq ?_)
        refine wp_tupOfE ⟨_, rfl, ?_⟩
        repeat' (first | fail | with_reducible refine wp_sSeq ?_)
        refine wp_addTu (by simp) (by simp) ?_
        exact ⟨rfl, rfl⟩
      | less =>
        refine wp_eqO (c := false) (by decide +kernel) (by decide +kernel) ?_
        repeat' (first | fail | with_reducible refine wp_sSeq ?_)
        refine wp_tupOfE ⟨_, rfl, ?_⟩
        repeat' (first | fail | with_reducible refine wp_sSeq ?_)
        refine wp_addTu (by simp) (by simp) ?_
        exact ⟨rfl, rfl⟩
      | times =>
        refine wp_eqO (c := true) (by decide +kernel) (by decide +kernel) ?_
        repeat' (first | fail | with_reducible refine wp_sSeq ?_)
        refine wp_revLE ⟨_, rfl, ?_⟩
        repeat' (first | fail | with_reducible refine wp_sSeq ?_)
        refine wp_tupOfE ⟨_, rfl, ?_⟩
        repeat' (first | fail | with_reducible refine wp_sSeq ?_)
        refine wp_addTu (by simp) (by simp) ?_
        exact ⟨rfl, rfl⟩
    · repeat' (first | fail | with_reducible refine wp_sSeq ?_)
      exact ih x hx _
  | un a =>
    simp only [Tm.d]
    repeat' (first | fail | with_reducible refine wp_sSeq ?_)
    refine ⟨by show 1 ≤ 16000; decide, ?_⟩
    repeat' (first | fail | with_reducible refine wp_sSeq ?_)
    refine wp_inQ (b := false) ?_ ?_ ?_ ?_
    · exact rfl
    · exact rfl
    · decide +kernel
    repeat' (first | fail | with_reducible refine wp_sSeq ?_)
    refine ⟨by rw [sizeLine_eq]; show 1 ≤ 16777216; decide, ?_⟩
    refine wp_lcM (l := [a]) (g := Tm.d) (k := fun x => (trn x).d) rfl ?_ fun x hx => ⟨_, rfl, ?_⟩
    · repeat' (first | fail | with_reducible refine wp_sSeq ?_)
      refine wp_tupOfE ⟨_, rfl, ?_⟩
      repeat' (first | fail | with_reducible refine wp_sSeq ?_)
      refine wp_addTu (by simp) (by simp) ?_
      exact ⟨rfl, rfl⟩
    · repeat' (first | fail | with_reducible refine wp_sSeq ?_)
      exact ih x hx _
theorem wp_turned {t : Tm} {μ : Sto} {Q : D → Sto → Prop} {E : Exs} (g : Good t) (q : Q (trn t).d μ) : (f_turned [t.d] μ).wp Q E := by
  unfold f_turned
  with_reducible refine wp_fn ?_
  unfold b_turned
  repeat' (first | fail | with_reducible refine wp_sSeq ?_)
  refine wp_needG g ?_
  repeat' (first | fail | with_reducible refine wp_sSeq ?_)
  exact wp_turned_in (by have := g.dep; omega) q
theorem wp_turnedTw {d : D} {n : Nat} {μ : Sto} {Q : D → Sto → Prop} {E : Exs} (h : Tw n d) (l : n ≤ 30) (e : E "BadTerm" ["flaw", "word"] [.str "form", .str "BadTerm"] μ) : (f_turned [d] μ).wp Q E := by
  unfold f_turned
  with_reducible refine wp_fn ?_
  unfold b_turned
  repeat' (first | fail | with_reducible refine wp_sSeq ?_)
  exact wp_needTw h l e
theorem wp_nudgedV {t v : Tm} {z : List Nat} {μ : Sto} {Q : D → Sto → Prop} {E : Exs} (hz : IsLet z) (gt : Good t) (gv : Good v) (h1 : (nud z v t).dep ≤ 30) (h2 : (nud z v t).n ≤ 2000) (h3 : (lset (nud z v t)).length < 64)
    (q : flaw (nud z v t) = none → Q (nud z v t).d μ) (e : ∀ w, flaw (nud z v t) = some w → E "BadTerm" ["flaw", "word"] [.str w, .str "BadTerm"] μ) : (f_nudged [t.d, .str (SX.S z), v.d] μ).wp Q E := by
  unfold f_nudged
  with_reducible refine wp_fn ?_
  unfold b_nudged
  repeat' (first | fail | with_reducible refine wp_sSeq ?_)
  refine wp_needG gt ?_
  repeat' (first | fail | with_reducible refine wp_sSeq ?_)
  refine wp_needG gv ?_
  repeat' (first | fail | with_reducible refine wp_sSeq ?_)
  refine wp_nudged_by hz gt.ok (by have := gt.dep; omega) ?_
  repeat' (first | fail | with_reducible refine wp_sSeq ?_)
  exact wp_good h1 h2 h3 q e
theorem wp_nudgedT1 {d x y : D} {n : Nat} {μ : Sto} {Q : D → Sto → Prop} {E : Exs} (h : Tw n d) (l : n ≤ 30) (e : E "BadTerm" ["flaw", "word"] [.str "form", .str "BadTerm"] μ) : (f_nudged [d, x, y] μ).wp Q E := by
  unfold f_nudged
  with_reducible refine wp_fn ?_
  unfold b_nudged
  repeat' (first | fail | with_reducible refine wp_sSeq ?_)
  exact wp_needTw h l e
theorem wp_nudgedT2 {t : Tm} {d x : D} {n : Nat} {μ : Sto} {Q : D → Sto → Prop} {E : Exs} (g : Good t) (h : Tw n d) (l : n ≤ 30) (e : E "BadTerm" ["flaw", "word"] [.str "form", .str "BadTerm"] μ) : (f_nudged [t.d, x, d] μ).wp Q E := by
  unfold f_nudged
  with_reducible refine wp_fn ?_
  unfold b_nudged
  repeat' (first | fail | with_reducible refine wp_sSeq ?_)
  refine wp_needG g ?_
  repeat' (first | fail | with_reducible refine wp_sSeq ?_)
  exact wp_needTw h l e
theorem wp_other {t : Tm} {n : Nat} {μ : Sto} {Q : D → Sto → Prop} {E : Exs} (h : t.dep ≤ n) (q : Q (trn t).d μ) : (f__law_other_way n [t.d] μ).wp Q E := by
  refine wp_of0 (Tm.by_dep (P := fun n t => ∀ μ, (f__law_other_way n [t.d] μ).wp (fun r μ' => r = (trn t).d ∧ μ' = μ) noE) (fun n t ih μ => ?_) h μ) q
  rw [f__law_other_way_s]
  with_reducible refine wp_fn ?_
  unfold b__law_other_way
  cases t with
  | sh x =>
    simp only [Tm.d]
    repeat' (first | fail | with_reducible refine wp_sSeq ?_)
    refine wp_inQ (b := true) ?_ ?_ ?_ ?_
    · exact rfl
    · exact rfl
    · decide +kernel
    repeat' (first | fail | with_reducible refine wp_sSeq ?_)
    exact ⟨rfl, rfl⟩
  | lt y =>
    simp only [Tm.d]
    repeat' (first | fail | with_reducible refine wp_sSeq ?_)
    refine wp_inQ (b := true) ?_ ?_ ?_ ?_
    · exact rfl
    · exact rfl
    · decide +kernel
    repeat' (first | fail | with_reducible refine wp_sSeq ?_)
    exact ⟨rfl, rfl⟩
  | bi o a b =>
    simp only [Tm.d]
    repeat' (first | fail | with_reducible refine wp_sSeq ?_)
    refine wp_inQ (b := false) ?_ ?_ ?_ ?_
    · exact rfl
    · exact rfl
    · cases o <;> decide +kernel
    repeat' (first | fail | with_reducible refine wp_sSeq ?_)
    refine ⟨by show ([a, b].map Tm.d).length ≤ sizeLine; rw [sizeLine_eq]; simp, ?_⟩
    refine wp_lcM (l := [a, b]) (g := Tm.d) (k := fun x => (trn x).d) rfl ?_ fun x hx => ⟨_, rfl, ?_⟩
    · repeat' (first | fail | with_reducible refine wp_sSeq ?_)
      cases o with
      | plus =>
        refine wp_eqO (c := false) (by decide +kernel) (by decide +kernel) ?_
        repeat' (first | fail | with_reducible refine wp_sSeq ?_)
        refine wp_tupOfE ⟨_, rfl, ?_⟩
        repeat' (first | fail | with_reducible refine wp_sSeq ?_)
        refine wp_addTu (by simp) (by simp) ?_
        exact ⟨rfl, rfl⟩
      | less =>
        refine wp_eqO (c := false) (by decide +kernel) (by decide +kernel) ?_
        repeat' (first | fail | with_reducible refine wp_sSeq ?_)
        refine wp_tupOfE ⟨_, rfl, ?_⟩
        repeat' (first | fail | with_reducible refine wp_sSeq ?_)
        refine wp_addTu (by simp) (by simp) ?_
        exact ⟨rfl, rfl⟩
      | times =>
        refine wp_eqO (c := true) (by decide +kernel) (by decide +kernel) ?_
        repeat' (first | fail | with_reducible refine wp_sSeq ?_)
        refine wp_revLE ⟨_, rfl, ?_⟩
        repeat' (first | fail | with_reducible refine wp_sSeq ?_)
        refine wp_tupOfE ⟨_, rfl, ?_⟩
        repeat' (first | fail | with_reducible refine wp_sSeq ?_)
        refine wp_addTu (by simp) (by simp) ?_
        exact ⟨rfl, rfl⟩
    · repeat' (first | fail | with_reducible refine wp_sSeq ?_)
      exact ih x hx _
  | un a =>
    simp only [Tm.d]
    repeat' (first | fail | with_reducible refine wp_sSeq ?_)
    refine wp_inQ (b := false) ?_ ?_ ?_ ?_
    · exact rfl
    · exact rfl
    · decide +kernel
    repeat' (first | fail | with_reducible refine wp_sSeq ?_)
    refine ⟨by show ([a].map Tm.d).length ≤ sizeLine; rw [sizeLine_eq]; simp, ?_⟩
    refine wp_lcM (l := [a]) (g := Tm.d) (k := fun x => (trn x).d) rfl ?_ fun x hx => ⟨_, rfl, ?_⟩
    · repeat' (first | fail | with_reducible refine wp_sSeq ?_)
      refine wp_tupOfE ⟨_, rfl, ?_⟩
      repeat' (first | fail | with_reducible refine wp_sSeq ?_)
      refine wp_addTu (by simp) (by simp) ?_
      exact ⟨rfl, rfl⟩
    · repeat' (first | fail | with_reducible refine wp_sSeq ?_)
      exact ih x hx _
theorem wp_eqLet {y z : List Nat} {μ : Sto} {Q : D → Sto → Prop} {E : Exs} (hy : PyData.strOk (SX.S y) = true) (hz : PyData.strOk (SX.S z) = true) (q : Q (.bl (decide (y = z))) μ) : (dEq (.tup [.str "letter", .str (SX.S y)]) (.tup [.str "letter", .str (SX.S z)]) μ).wp Q E := by
  have pu : ∀ w : List Nat, PyData.strOk (SX.S w) = true → Pu 2 (.tup [.str "letter", .str (SX.S w)]) := fun w h => .tup (by simp) (Pu.cons (.str (by decide +kernel)) (Pu.cons (.str h) Pu.nil))
  obtain ⟨a, a1, a2⟩ := (pu y hy).shaped (by decide)
  obtain ⟨b, b1, b2⟩ := (pu z hz).shaped (by decide)
  cases a1
  cases b1
  rw [dEq_py rfl rfl a2 b2]
  have e : PyData.eqv (.tuple [.str "letter", .str (SX.S y)]) (.tuple [.str "letter", .str (SX.S z)]) = decide (y = z) := by
    simp only [PyData.eqv, PyData.eqvAll]
    by_cases c : y = z
    · subst c; simp
    · have : SX.S y ≠ SX.S z := fun e => c (S_inj2 e)
      simp [c, this]
  rw [e]
  exact q
theorem wp_eqShL {s : Int × Int} {z : List Nat} {μ : Sto} {Q : D → Sto → Prop} {E : Exs} (hz : PyData.strOk (SX.S z) = true) (q : Q (.bl false) μ) : (dEq (.tup [.str "share", dSh s]) (.tup [.str "letter", .str (SX.S z)]) μ).wp Q E := by
  have p1 : Pu 3 (.tup [.str "share", dSh s]) := .tup (by simp) (Pu.cons (.str (by decide +kernel)) (Pu.cons (.tup (by simp) (Pu.cons (.int _) (Pu.cons (.int _) Pu.nil))) Pu.nil))
  have p2 : Pu 2 (.tup [.str "letter", .str (SX.S z)]) := .tup (by simp) (Pu.cons (.str (by decide +kernel)) (Pu.cons (.str hz) Pu.nil))
  obtain ⟨a, a1, a2⟩ := p1.shaped (by decide)
  obtain ⟨b, b1, b2⟩ := p2.shaped (by decide)
  cases a1
  cases b1
  rw [dEq_py rfl rfl a2 b2]
  have e : PyData.eqv (.tuple [.str "share", .tuple [.int s.1, .int s.2]]) (.tuple [.str "letter", .str (SX.S z)]) = false := by
    simp [PyData.eqv, PyData.eqvAll]
  rw [e]
  exact q
theorem wp_moved {t v : Tm} {z : List Nat} {n : Nat} {μ : Sto} {Q : D → Sto → Prop} {E : Exs} (hz : IsLet z) (ok : t.ok) (h : t.dep ≤ n) (q : Q (nud z v t).d μ) : (f__law_moved n [t.d, .str (SX.S z), v.d] μ).wp Q E := by
  refine wp_of0 (Tm.by_dep (P := fun n t => ∀ μ, t.ok → (f__law_moved n [t.d, .str (SX.S z), v.d] μ).wp (fun r μ' => r = (nud z v t).d ∧ μ' = μ) noE) (fun n t ih μ ok => ?_) h μ ok) q
  rw [f__law_moved_s]
  with_reducible refine wp_fn ?_
  unfold b__law_moved
  cases t with
  | sh x =>
    simp only [Tm.d]
    repeat' (first | fail | with_reducible refine wp_sSeq ?_)
    refine wp_inQ (b := true) ?_ ?_ ?_ ?_
    · exact rfl
    · exact rfl
    · decide +kernel
    repeat' (first | fail | with_reducible refine wp_sSeq ?_)
    refine wp_eqShL (IsLet.ok hz).s ?_
    repeat' (first | fail | with_reducible refine wp_sSeq ?_)
    exact ⟨rfl, rfl⟩
  | lt y =>
    simp only [Tm.d]
    repeat' (first | fail | with_reducible refine wp_sSeq ?_)
    refine wp_inQ (b := true) ?_ ?_ ?_ ?_
    · exact rfl
    · exact rfl
    · decide +kernel
    repeat' (first | fail | with_reducible refine wp_sSeq ?_)
    refine wp_eqLet (IsLet.ok ok).s (IsLet.ok hz).s ?_
    unfold nud
    by_cases c : y = z
    · rw [if_pos c, decide_eq_true c]
      repeat' (first | fail | with_reducible refine wp_sSeq ?_)
      exact ⟨rfl, rfl⟩
    · rw [if_neg c, decide_eq_false c]
      repeat' (first | fail | with_reducible refine wp_sSeq ?_)
      exact ⟨rfl, rfl⟩
  | bi o a b =>
    simp only [Tm.d]
    repeat' (first | fail | with_reducible refine wp_sSeq ?_)
    refine wp_inQ (b := false) ?_ ?_ ?_ ?_
    · exact rfl
    · exact rfl
    · cases o <;> decide +kernel
    repeat' (first | fail | with_reducible refine wp_sSeq ?_)
    refine ⟨by show ([a, b].map Tm.d).length ≤ sizeLine; rw [sizeLine_eq]; simp, ?_⟩
    refine wp_lcM (l := [a, b]) (g := Tm.d) (k := fun x => (nud z v x).d) rfl ?_ fun x hx => ⟨_, rfl, ?_⟩
    · repeat' (first | fail | with_reducible refine wp_sSeq ?_)
      refine wp_eqO (c := false) (by decide +kernel) (by cases o <;> decide +kernel) ?_
      repeat' (first | fail | with_reducible refine wp_sSeq ?_)
      cases o with
      | plus =>
        refine wp_eqO (c := false) (by decide +kernel) (by decide +kernel) ?_
        repeat' (first | fail | with_reducible refine wp_sSeq ?_)
        exact ⟨rfl, rfl⟩
      | less =>
        refine wp_eqO (c := false) (by decide +kernel) (by decide +kernel) ?_
        repeat' (first | fail | with_reducible refine wp_sSeq ?_)
        exact ⟨rfl, rfl⟩
      | times =>
        refine wp_eqO (c := true) (by decide +kernel) (by decide +kernel) ?_
        repeat' (first | fail | with_reducible refine wp_sSeq ?_)
        exact ⟨rfl, rfl⟩
    · repeat' (first | fail | with_reducible refine wp_sSeq ?_)
      have okx : x.ok := by
        rcases List.mem_cons.mp hx with rfl | hx
        · exact ok.1
        · rw [List.mem_singleton] at hx; subst hx; exact ok.2
      exact ih x hx _ okx
  | un a =>
    simp only [Tm.d]
    repeat' (first | fail | with_reducible refine wp_sSeq ?_)
    refine wp_inQ (b := false) ?_ ?_ ?_ ?_
    · exact rfl
    · exact rfl
    · decide +kernel
    repeat' (first | fail | with_reducible refine wp_sSeq ?_)
    refine ⟨by show ([a].map Tm.d).length ≤ sizeLine; rw [sizeLine_eq]; simp, ?_⟩
    refine wp_lcM (l := [a]) (g := Tm.d) (k := fun x => (nud z v x).d) rfl ?_ fun x hx => ⟨_, rfl, ?_⟩
    · repeat' (first | fail | with_reducible refine wp_sSeq ?_)
      exact ⟨rfl, rfl⟩
    · repeat' (first | fail | with_reducible refine wp_sSeq ?_)
      have okx : x.ok := by rw [List.mem_singleton] at hx; subst hx; exact ok
      exact ih x hx _ okx
end Pf

namespace Pf
open PySem PySem.Spec PyProof.Rows L2 L3
local macro_rules | `(tactic| fail) => `(tactic| first
  | with_reducible refine wp_seqSet ?_
  | with_reducible refine wp_seqAsg ?_
  | with_reducible refine wp_seqPar ?_
  | with_reducible refine wp_seqPar3 ?_
  | with_reducible refine wp_seqFset ?_
  | with_reducible refine wp_seqFaug ?_
  | with_reducible refine wp_sFset ?_
  | with_reducible refine wp_sFaug ?_
  | with_reducible refine wp_meth ?_
  | with_reducible refine wp_make ?_
  | with_reducible refine wp_methX ?_
  | with_reducible refine wp_makeX ?_
  | with_reducible refine wp_sPar3 ?_
  | with_reducible refine three_ok ?_
  | with_reducible refine wp_seqAug ?_
  | with_reducible refine wp_seqExpr ?_
  | with_reducible refine wp_seqSub ?_
  | with_reducible refine wp_seqNil ?_
  | with_reducible refine wp_seqFor ?_
  | with_reducible refine wp_seqWhile ?_
  | with_reducible refine wp_seqStar ?_
  | with_reducible refine wp_seqForK ?_
  | with_reducible refine wp_seqDput ?_
  | with_reducible refine wp_seqMul ?_
  | with_reducible refine wp_sSet ?_
  | with_reducible refine wp_sRet ?_
  | with_reducible refine wp_sNil ?_
  | with_reducible refine wp_sIf ?_
  | with_reducible refine wp_sPar ?_
  | with_reducible refine wp_sAsg ?_
  | with_reducible refine wp_sSub ?_
  | with_reducible refine wp_sFor ?_
  | with_reducible refine wp_sRaise ?_
  | with_reducible refine wp_sExpr ?_
  | with_reducible refine wp_sRetN ?_
  | with_reducible refine wp_sBreak ?_
  | with_reducible refine wp_sCont ?_
  | ((with_reducible refine wp_varE ?_); refine ⟨_, rfl, ?_⟩)
  | with_reducible refine wp_c ?_
  | with_reducible refine wp_B ?_
  | with_reducible refine wp_U ?_
  | with_reducible refine wp_T ?_
  | with_reducible refine wp_andT ?_
  | with_reducible refine wp_orT ?_
  | with_reducible refine wp_notT ?_
  | with_reducible refine wp_andV ?_
  | with_reducible refine wp_orV ?_
  | with_reducible refine wp_notV ?_
  | with_reducible refine wp_if ?_
  | with_reducible refine wp_nil ?_
  | with_reducible refine wp_cons ?_
  | with_reducible refine wp_tup ?_
  | with_reducible refine wp_lst ?_
  | with_reducible refine wp_lstC ?_
  | with_reducible refine wp_call ?_
  | with_reducible refine wp_callD ?_
  | with_reducible refine wp_callB ?_
  | with_reducible refine wp_m ?_
  | with_reducible refine wp_oNone ?_
  | with_reducible refine wp_oSome ?_
  | with_reducible refine wp_sl ?_
  | with_reducible refine wp_tried ?_
  | with_reducible refine wp_asked ?_
  | with_reducible refine wp_seqOut ?_
  | with_reducible refine wp_asks ?_
  | with_reducible refine wp_asksC ?_
  | with_reducible refine wp_asksN ?_
  | with_reducible refine wp_chain ?_
  | with_reducible refine wp_enum ?_
  | with_reducible refine wp_enumB ?_
  | with_reducible refine wp_zip ?_
  | with_reducible refine wp_joinedT ?_
  | with_reducible refine wp_jNil ?_
  | with_reducible refine wp_jT ?_
  | with_reducible refine wp_lc ?_
  | with_reducible refine wp_lcC ?_
  | with_reducible refine wp_yes ?_
  | with_reducible refine wp_iAny ?_
  | with_reducible refine wp_range1 ?_
  | with_reducible refine wp_range2 ?_
  | with_reducible refine wp_sStar ?_
  | with_reducible refine wp_sDput ?_
  | with_reducible refine wp_sMul ?_
  | with_reducible refine wp_mNil ?_
  | with_reducible refine wp_mCons ?_
  | with_reducible refine wp_mSub ?_
  | with_reducible refine wp_mSubD ?_
  | with_reducible refine wp_dget2 ?_
  | with_reducible refine wp_disp ?_
  | with_reducible refine wp_pNil ?_
  | with_reducible refine wp_pCons ?_)
local macro_rules | `(tactic| fail) => `(tactic| first
  | with_reducible refine wp_eqI ?_
  | with_reducible refine wp_neI ?_
  | with_reducible refine wp_eqB ?_
  | with_reducible refine wp_neB ?_
  | ((with_reducible refine wp_eqStr ?_ ?_ ?_); decide +kernel; decide +kernel)
  | ((with_reducible refine wp_neStr ?_ ?_ ?_); decide +kernel; decide +kernel)
  | with_reducible refine wp_addI ?_
  | with_reducible refine wp_addII ?_
  | with_reducible refine wp_subI ?_
  | with_reducible refine wp_ltI ?_
  | with_reducible refine wp_leI ?_
  | with_reducible refine wp_gtI ?_
  | with_reducible refine wp_geI ?_
  | with_reducible refine wp_negI ?_
  | with_reducible refine wp_intI ?_
  | with_reducible refine wp_intB ?_
  | with_reducible refine wp_absI ?_
  | with_reducible refine wp_un ?_
  | ((with_reducible refine wp_mul ?_ ?_); first | exact mulOk_right (by decide) | exact mulOk_left (by decide) | exact mulOk_mod (by decide) (by decide))
  | ((with_reducible refine wp_mod ?_ ?_); decide)
  | ((with_reducible refine wp_fdiv ?_ ?_ ?_); decide; exact pylong_200 (by decide))
  | with_reducible refine wp_pow18 ?_
  | with_reducible refine wp_pow12 ?_
  | with_reducible refine wp_pow40 ?_
  | ((with_reducible refine wp_ixE ?_); refine ⟨_, rfl, ?_⟩)
  | with_reducible refine wp_len0 ?_
  | with_reducible refine wp_len1 ?_
  | with_reducible refine wp_len2 ?_
  | with_reducible refine wp_len3 ?_
  | with_reducible refine wp_lenT1 ?_
  | with_reducible refine wp_lenT2 ?_
  | with_reducible refine wp_lenT3 ?_
  | ((with_reducible refine wp_lenE ?_); refine ⟨_, rfl, ?_⟩)
  | ((with_reducible refine wp_listOfE ?_); refine ⟨_, rfl, ?_⟩)
  | ((with_reducible refine wp_isiE ?_); refine ⟨_, rfl, ?_⟩)
  | ((with_reducible refine wp_isNE ?_); refine ⟨_, rfl, ?_⟩)
  | ((with_reducible refine wp_notNE ?_); refine ⟨_, rfl, ?_⟩)
  | ((with_reducible refine wp_slE ?_); refine ⟨_, rfl, ?_⟩)
  | ((with_reducible refine sub_okE ?_); refine ⟨_, rfl, ?_⟩)
  | with_reducible refine Exists.intro _ (And.intro rfl ?_)
  | with_reducible refine Exists.intro _ (Exists.intro _ (And.intro rfl ?_))
  | ((with_reducible refine len_eq ?_ ?_); exact rfl)
  | ((with_reducible refine rng_ok ?_ ?_); omega)
  | ((with_reducible refine rng2_ok ?_ ?_); omega)
  | ((with_reducible refine rngD_len ?_ ?_); omega)
  | ((with_reducible refine len_100 ?_ ?_); exact Nat.le_of_ble_eq_true rfl)
  | ((with_reducible refine isTy_ok ?_ ?_); exact rfl)
  | ((with_reducible refine br_t ?_ ?_); first | with_reducible exact rfl | decide)
  | ((with_reducible refine br_f ?_ ?_); first | with_reducible exact rfl | decide)
  | with_reducible refine br_d (fun _ => ?_) (fun _ => ?_)
  | with_reducible refine br_n (fun _ => ?_) (fun _ => ?_))
theorem flaw_sok {t : Tm} {z : Str} (h : flaw t = some z) : PyData.strOk z = true := by
  unfold flaw at h
  by_cases a : 24 < t.n
  · rw [if_pos a] at h; cases h; decide +kernel
  rw [if_neg a] at h
  by_cases b : 4 < (lset t).length
  · rw [if_pos b] at h; cases h; decide +kernel
  rw [if_neg b] at h
  by_cases c : 4 < t.ud
  · rw [if_pos c] at h; cases h; decide +kernel
  rw [if_neg c] at h; cases h
/-- what is told of a reckoning, or of its flaw -/
def resD (t : Tm) : D := match flaw t with
  | none => .tup [.str "told", t.d]
  | some w => .tup [.str "no", .str "BadTerm", .str w]
theorem resD_none {t : Tm} (e : flaw t = none) : resD t = .tup [.str "told", t.d] := by unfold resD; rw [e]
theorem resD_some {t : Tm} {w : Str} (e : flaw t = some w) : resD t = .tup [.str "no", .str "BadTerm", .str w] := by unfold resD; rw [e]
theorem wp_addA {a b : D} {xs ys : List D} {μ : Sto} {Q : D → Sto → Prop} {E : Exs} (ha : asL μ a = some xs) (hb : asL μ b = some ys) (l : xs.length + ys.length ≤ 16777216) (q : Q (.lst (xs ++ ys)) μ) : (dAdd a b μ).wp Q E := by
  have c : xs.length + ys.length ≤ sizeLine := by rw [sizeLine_eq]; exact l
  have go : dAdd a b μ = (match asL μ a, asL μ b with
      | some xs, some ys => if xs.length + ys.length ≤ sizeLine then .ok (.lst (xs ++ ys)) μ else .bad
      | _, _ => .bad) := by
    cases a with
    | lst _ => cases b <;> rfl
    | cell _ => cases b <;> rfl
    | _ => cases ha
  rw [go, ha, hb]
  dsimp only
  rw [if_pos c]
  exact q
theorem wp_mulL {a : D} {xs : List D} {k : Nat} {μ : Sto} {Q : D → Sto → Prop} {E : Exs} (ha : asL μ a = some xs := by rfl) (h : k ≤ 100) (l : xs.length ≤ 100) (q : Q (.lst (List.replicate k xs).flatten) μ) : (dMul a (.int (k : Nat)) μ).wp Q E := by
  have c : -(2 ^ 63) ≤ ((k : Nat) : Int) ∧ ((k : Nat) : Int) < 2 ^ 63 ∧ xs.length * ((k : Nat) : Int).toNat ≤ sizeLine := by
    refine ⟨by omega, by omega, ?_⟩
    rw [Int.toNat_natCast, sizeLine_eq]
    have := Nat.mul_le_mul l h
    omega
  have e : dMul a (.int (k : Nat)) μ = .ok (.lst (List.replicate k xs).flatten) μ := by
    cases a with
    | int i => cases ha
    | _ =>
      unfold dMul
      dsimp only
      rw [ha]
      dsimp only
      rw [if_pos c, Int.toNat_natCast]
  rw [e]
  exact q
theorem law_true (ns : List Int) (hl : ns.length ≤ 63) (hbits : ∀ z ∈ ns, Builtin.Int.intBits z ≤ 1048576) : ∃ μ, f_law [.scr ns] [] = .ok (.bl true) μ := by
  have key : (f_law [.scr ns] []).wp (fun r _ => r = .bl true) noE := by
    unfold f_law
    with_reducible refine wp_fn ?_
    unfold b_law
    repeat fail
    refine wp_bag hl fun g hg => ?_
    repeat fail
    refine wp_forR (I := fun _ ρ μ => ∃ g m a0 a2 a3 a4 a5 a6 a7 a8 a9 a10 a11 a12 a13, μ = g :: m ∧ Bg g ∧ ρ = [a0, some (.cell 0), a2, a3, a4, a5, a6, a7, a8, a9, a10, a11, a12, a13]) ⟨g, [], _, _, _, _, _, _, _, _, _, _, _, _, _, rfl, hg, rfl⟩ (fun ρ μ h => ?_) ?_
    · obtain ⟨g, m, a0, a2, a3, a4, a5, a6, a7, a8, a9, a10, a11, a12, a13, rfl, hg, rfl⟩ := h
      repeat' (first | fail | with_reducible refine wp_sSeq ?_)
      rfl
    · rintro i ρ μ hi ⟨g, m, a0, a2, a3, a4, a5, a6, a7, a8, a9, a10, a11, a12, a13, rfl, hg, rfl⟩
      refine ⟨_, rfl, ?_⟩
      repeat' (first | fail | with_reducible refine wp_sSeq ?_)
      refine wp_labcG (n := 3) hg (by decide) fun zs g hg hz3 hz nd => ?_
      obtain ⟨y0, y1, y2, rfl⟩ : ∃ a b c, zs = [a, b, c] := by
        match zs, hz3 with
        | [a, b, c], _ => exact ⟨a, b, c, rfl⟩
      repeat' (first | fail | with_reducible refine wp_sSeq ?_)
      have hk : ∀ g, asL (g :: (m ++ [.lst (letsD [y0, y1, y2])])) (.cell (m.length + 1)) = some (letsD [y0, y1, y2]) := fun g => asL_cell (by rw [List.getElem?_cons_succ]; exact List.getElem?_concat_length)
      generalize hm : m ++ [.lst (letsD [y0, y1, y2])] = m2 at hk ⊢
      generalize m.length + 1 = kz at hk ⊢
      refine wp_ldrawnG (zs := [y0, y1, y2]) hk (by simp) (by simp) hz 30 9 2 g _ _ hg (by decide) (by decide) (by decide) fun t g hg ok tn tu tl => ?_
      repeat' (first | fail | with_reducible refine wp_sSeq ?_)
      have gt : Good t := ⟨ok, by omega, by have := lset_few tl; omega, by omega⟩
      have ll : (letsD [y0, y1, y2]).length = 3 := rfl
      refine wp_addA (hk g) rfl (by rw [ll]; simp) ?_
      have ez : (.str "zz" : D) = .str (SX.S [122, 122]) := congrArg D.str (by decide +kernel)
      repeat' (first | fail | with_reducible refine wp_sSeq ?_)
      refine wp_ofG (xs := letsD [y0, y1, y2] ++ [.str "zz"]) hg (fun g => rfl) (by simp) (by rw [List.length_append, ll]; simp) fun v x g hx hg => ?_
      obtain ⟨z, lz, rfl⟩ : ∃ z, IsLet z ∧ x = .str (SX.S z) := by
        rcases List.mem_append.mp (List.mem_of_getElem? hx) with h | h
        · obtain ⟨z, h1, rfl⟩ := List.mem_map.mp h
          exact ⟨z, hz z h1, rfl⟩
        · rw [List.mem_singleton] at h
          exact ⟨[122, 122], by decide, by rw [h, ez]⟩
      refine wp_cut (N0 := fun ρ μ => ∃ g v, μ = g :: m2 ∧ Bg g ∧ Good v ∧ v.n ≤ 3 ∧ v.dep ≤ 4 ∧ (∀ x ∈ v.ls, x ∈ [y0, y1, y2]) ∧ ρ = [a0, some (.cell 0), some (.int (0 + (i : Nat))), some (.cell kz), a4, a5, a6, a7, a8, a9, some v.d, some (.str (SX.S z)), some t.d, a13]) ?_ ?_
      · repeat' (first | fail | with_reducible refine wp_sSeq ?_)
        refine wp_light hg fun tt bb g h1 h2 h3 h4 hg => ?_
        repeat' (first | fail | with_reducible refine wp_sSeq ?_)
        refine wp_ix (asL_ix (hk g) (by decide) rfl) ?_
        repeat' (first | fail | with_reducible refine wp_sSeq ?_)
        refine wp_ix (asL_ix (hk g) (by decide) rfl) ?_
        repeat' (first | fail | with_reducible refine wp_sSeq ?_)
        refine wp_ofG hg (fun g => rfl) (by simp) (by simp) fun v x g hx hg => ?_
        have hm := List.mem_of_getElem? hx
        simp only [List.mem_cons, List.not_mem_nil, or_false] at hm
        repeat' (first | fail | with_reducible refine wp_sSeq ?_)
        rcases hm with rfl | rfl | rfl
        · exact ⟨g, .sh (frI tt bb), rfl, hg, ⟨ShOk.fr (by omega), by simp [Tm.n], Nat.le_trans (lset_le _) (by simp [Tm.n]), by simp [Tm.ud]⟩, by simp [Tm.n], by simp [Tm.dep], (fun x hx => by simp [Tm.ls] at hx), rfl⟩
        · exact ⟨g, .lt y0, rfl, hg, ⟨hz y0 (by simp), by simp [Tm.n], Nat.le_trans (lset_le _) (by simp [Tm.n]), by simp [Tm.ud]⟩, by simp [Tm.n], by simp [Tm.dep], (fun x hx => by simp [Tm.ls] at hx; simp [hx]), rfl⟩
        · exact ⟨g, .bi .plus (.lt y1) (.sh (1, 2)), rfl, hg, ⟨⟨hz y1 (by simp), by decide, by decide⟩, by simp [Tm.n], Nat.le_trans (lset_le _) (by simp [Tm.n]), by simp [Tm.ud]⟩, by simp [Tm.n], by simp [Tm.dep], (fun x hx => by simp [Tm.ls] at hx; simp [hx]), rfl⟩
      · rintro ρ μ ⟨g, v, rfl, hg, gv, vn, vd, vl, rfl⟩
        have d2 := t.dep2
        have nn : t.n * t.n ≤ 9 * 9 := Nat.mul_le_mul tn tn
        have bd : ∀ w : Tm, w.n ≤ 3 → w.dep ≤ 4 → (∀ x ∈ w.ls, x ∈ [y0, y1, y2]) → (nud z w t).dep ≤ 30 ∧ (nud z w t).n ≤ 1000 ∧ (lset (nud z w t)).length < 64 := fun w h1 h2 h3 => by
          have e1 := nudV_dep (z := z) h2 t
          have e2 := nudV_n (z := z) h1 t
          have e3 := lset_few (nudV_ls (z := z) h3 t tl)
          have e4 : ([y0, y1, y2] : List (List Nat)).length = 3 := rfl
          exact ⟨by omega, by omega, by omega⟩
        have g1 : Good (.sh (1, 1)) := ⟨⟨by decide, by decide⟩, by decide, Nat.le_trans (lset_le _) (by decide), by decide⟩
        have l1 : ∀ x ∈ (Tm.sh (1, 1)).ls, x ∈ [y0, y1, y2] := fun x hx => nomatch hx
        obtain ⟨b1, b2, b3⟩ := bd v vn vd vl
        obtain ⟨c1, c2, c3⟩ := bd (.sh (1, 1)) (by decide) (by decide) l1
        with_reducible refine wp_seqFor ?_
        refine wp_sFor (wp_of0 (μ := g :: m2) (a := ([.tup [v.d, resD (nud z v t)], .tup [(Tm.sh (1, 1)).d, resD (nud z (.sh (1, 1)) t)]], fun _ => true)) ?_ ?_)
        · repeat' (first | fail | with_reducible refine wp_sSeq ?_)
          refine wp_callK ?_
          repeat' (first | fail | with_reducible refine wp_sSeq ?_)
          refine ⟨⟨rfl, rfl⟩, ?_⟩
          refine wp_nudgedV (z := z) lz gt gv b1 (by omega) b3 (fun e => ?_) fun w e => ?_
          · rw [resD_none e]
            repeat' (first | fail | with_reducible refine wp_sSeq ?_)
            refine wp_nudgedV (z := z) (v := .sh (1, 1)) lz gt g1 c1 (by omega) c3 (fun e2 => ?_) fun w e2 => ?_
            · rw [resD_none e2]
              repeat' (first | fail | with_reducible refine wp_sSeq ?_)
              exact ⟨rfl, rfl⟩
            · rw [resD_some e2]
              refine ⟨.f "flaw", rfl, _, rfl, ?_⟩
              repeat' (first | fail | with_reducible refine wp_sSeq ?_)
              exact ⟨rfl, rfl⟩
          · rw [resD_some e]
            refine ⟨.f "flaw", rfl, _, rfl, ?_⟩
            repeat' (first | fail | with_reducible refine wp_sSeq ?_)
            refine wp_nudgedV (z := z) (v := .sh (1, 1)) lz gt g1 c1 (by omega) c3 (fun e2 => ?_) fun w e2 => ?_
            · rw [resD_none e2]
              repeat' (first | fail | with_reducible refine wp_sSeq ?_)
              exact ⟨rfl, rfl⟩
            · rw [resD_some e2]
              refine ⟨.f "flaw", rfl, _, rfl, ?_⟩
              repeat' (first | fail | with_reducible refine wp_sSeq ?_)
              exact ⟨rfl, rfl⟩
        · refine wp_forS (I := fun ds ρ μ => μ = g :: m2 ∧ (∀ d ∈ ds, ∃ w : Tm, w.ok ∧ (nud z w t).dep ≤ 30 ∧ (nud z w t).n ≤ 1000 ∧ (lset (nud z w t)).length < 64 ∧ d = .tup [w.d, resD (nud z w t)]) ∧
            ∃ b4 b5 b6 b7, ρ = [a0, some (.cell 0), some (.int (0 + (i : Nat))), some (.cell kz), b4, b5, b6, b7, a8, a9, some v.d, some (.str (SX.S z)), some t.d, a13]) ⟨rfl, fun d hd => ?_, _, _, _, _, rfl⟩ ?_ ?_
          · simp only [List.mem_cons, List.not_mem_nil, or_false] at hd
            rcases hd with rfl | rfl
            · exact ⟨v, gv.ok, b1, b2, b3, rfl⟩
            · exact ⟨.sh (1, 1), g1.ok, c1, c2, c3, rfl⟩
          · rintro ρ μ ⟨rfl, _, b4, b5, b6, b7, rfl⟩
            refine ⟨rfl, ?_⟩
            obtain ⟨n1, n2, n3⟩ := trn_n t
            have gr : Good (trn t) := ⟨trn_ok t ok, by omega, by have := lset_few fun x hx => tl x (trn_ls t x hx); have e4 : ([y0, y1, y2] : List (List Nat)).length = 3 := rfl; omega, by omega⟩
            repeat' (first | fail | with_reducible refine wp_sSeq ?_)
            refine wp_turned gt ?_
            repeat' (first | fail | with_reducible refine wp_sSeq ?_)
            refine wp_turned gt ?_
            repeat' (first | fail | with_reducible refine wp_sSeq ?_)
            refine wp_turned gr ?_
            rw [trn_trn]
            repeat' (first | fail | with_reducible refine wp_sSeq ?_)
            refine wp_other (by omega) ?_
            repeat' (first | fail | with_reducible refine wp_sSeq ?_)
            refine wp_sameQ (n := 40) (.lst (by simp) (Pu.cons ((Tm.pu gr.ok).le (by omega)) (Pu.cons ((Tm.pu ok).le (by omega)) Pu.nil))) ?_
            repeat' (first | fail | with_reducible refine wp_sSeq ?_)
            refine wp_lodd hg fun o ho g hg => ?_
            repeat' (first | fail | with_reducible refine wp_sSeq ?_)
            refine wp_ltwist ho (by omega) (by omega) ok hg fun d g hg tw => ?_
            repeat' (first | fail | with_reducible refine wp_sSeq ?_)
            refine wp_turnedTw tw (by omega) ⟨.f "flaw", rfl, _, rfl, ?_⟩
            repeat' (first | fail | with_reducible refine wp_sSeq ?_)
            refine wp_nudgedT1 tw (by omega) ⟨.f "flaw", rfl, _, rfl, ?_⟩
            repeat' (first | fail | with_reducible refine wp_sSeq ?_)
            refine wp_callK ?_
            repeat' (first | fail | with_reducible refine wp_sSeq ?_)
            refine ⟨⟨rfl, rfl⟩, ?_⟩
            refine wp_nudgedT2 gt tw (by omega) ⟨.f "flaw", rfl, _, rfl, ?_⟩
            repeat' (first | fail | with_reducible refine wp_sSeq ?_)
            have one : Pu 2 (.tup [.str "no", .str "BadTerm", .str "form"]) := .tup (by simp) (Pu.cons (.str (by decide +kernel)) (Pu.cons (.str (by decide +kernel)) (Pu.cons (.str (by decide +kernel)) Pu.nil)))
            have pu : Pu 3 (.lst [D.tup [.str "no", .str "BadTerm", .str "form"], .tup [.str "no", .str "BadTerm", .str "form"], .tup [.str "no", .str "BadTerm", .str "form"]]) := .lst (by simp) (Pu.cons one (Pu.cons one (Pu.cons one Pu.nil)))
            rw [show (3 : Int) = ((3 : Nat) : Int) from rfl]
            have a3 : asL (g :: m2) (.lst [D.tup [.str "no", .str "BadTerm", .str "form"]]) = some [D.tup [.str "no", .str "BadTerm", .str "form"]] := rfl
            with_reducible refine wp_mulL a3 (by decide) (by rw [List.length_singleton]; decide) ?_
            rw [show (List.replicate 3 [D.tup [.str "no", .str "BadTerm", .str "form"]]).flatten = [D.tup [.str "no", .str "BadTerm", .str "form"], .tup [.str "no", .str "BadTerm", .str "form"], .tup [.str "no", .str "BadTerm", .str "form"]] from rfl]
            refine wp_neS (pu.ne_self (by decide) _) ?_
            repeat' (first | fail | with_reducible refine wp_sSeq ?_)
            exact ⟨g, m2, _, _, _, _, _, _, _, _, _, _, _, _, _, rfl, hg, rfl⟩
          · rintro d ds ρ μ ⟨rfl, hd, b4, b5, b6, b7, rfl⟩
            obtain ⟨w, wok, w1, w2, w3, rfl⟩ := hd d List.mem_cons_self
            refine ⟨rfl, _, rfl, ?_⟩
            repeat' (first | fail | with_reducible refine wp_sSeq ?_)
            refine wp_moved lz ok (by omega) ?_
            repeat' (first | fail | with_reducible refine wp_sSeq ?_)
            refine wp_lfault w1 w2 w3 ?_
            have nok := nudV_ok (z := z) wok t ok
            have fin : ∀ x, (fun ds ρ μ => μ = g :: m2 ∧ (∀ d ∈ ds, ∃ w : Tm, w.ok ∧ (nud z w t).dep ≤ 30 ∧ (nud z w t).n ≤ 1000 ∧ (lset (nud z w t)).length < 64 ∧ d = D.tup [w.d, resD (nud z w t)]) ∧
              ∃ b4 b5 b6 b7, ρ = [a0, some (.cell 0), some (.int (0 + (i : Nat))), some (.cell kz), b4, b5, b6, b7, a8, a9, some v.d, some (.str (SX.S z)), some t.d, a13]) ds [a0, some (.cell 0), some (.int (0 + (i : Nat))), some (.cell kz), some w.d, some (resD (nud z w t)), some (nud z w t).d, some x, a8, a9, some v.d, some (.str (SX.S z)), some t.d, a13] (g :: m2) :=
              fun x => ⟨rfl, fun d h => hd d (List.mem_cons_of_mem _ h), _, _, _, _, rfl⟩
            cases e : flaw (nud z w t) with
            | none =>
              rw [resD_none e] at fin ⊢
              unfold flD
              rw [e]
              repeat' (first | fail | with_reducible refine wp_sSeq ?_)
              refine wp_sameQ (n := 40) (.tup (by simp) (Pu.cons (.str (by decide +kernel)) (Pu.cons ((Tm.pu nok).le (by omega)) Pu.nil))) ?_
              repeat' (first | fail | with_reducible refine wp_sSeq ?_)
              exact fin _
            | some y =>
              rw [resD_some e] at fin ⊢
              unfold flD
              rw [e]
              repeat' (first | fail | with_reducible refine wp_sSeq ?_)
              refine wp_sameQ (n := 40) (.tup (by simp) (Pu.cons (.str (by decide +kernel)) (Pu.cons (.str (by decide +kernel)) (Pu.cons (.str (flaw_sok e)) Pu.nil)))) ?_
              repeat' (first | fail | with_reducible refine wp_sSeq ?_)
              exact fin _
  obtain ⟨r, μ, e, rfl⟩ := wp_get key
  exact ⟨μ, e⟩
end Pf

namespace Pf
open PySem PySem.Spec PyProof.Rows L2 L3
section
variable {P : Pm} {Pr : Program} {w : World} {mg : Str → Option Value} {base : Heap}
theorem m__law_asked (T : T0 P mg base w) : mg "_law_asked" = some (.ref (He.ga P.K "_law_asked")) := T.glo 0 rfl
theorem F__law_asked (T : T0 P mg base w) : FunD P.K "_law_asked" "_law_asked" (defArgs s__law_asked) (defBody s__law_asked) (defScope s__law_asked) [] [] (He.ga P.K "_law_asked") (fdOf P.K ("_law_asked", none)) := T.fun_ 0 rfl
theorem m__law_bag (T : T0 P mg base w) : mg "_law_bag" = some (.ref (He.ga P.K "_law_bag")) := T.glo 1 rfl
theorem F__law_bag (T : T0 P mg base w) : FunD P.K "_law_bag" "_law_bag" (defArgs s__law_bag) (defBody s__law_bag) (defScope s__law_bag) [] [] (He.ga P.K "_law_bag") (fdOf P.K ("_law_bag", none)) := T.fun_ 1 rfl
theorem bd__law_bag (T : T0 P mg base w) : Binds P.K (fdOf P.K ("_law_bag", none)) ["_law_script"] [] := (F__law_bag T).bindsN fun _ _ _ _ _ _ us hl => match us, hl with | [_], _ => rfl
theorem m__law_pull (T : T0 P mg base w) : mg "_law_pull" = some (.ref (He.ga P.K "_law_pull")) := T.glo 2 rfl
theorem F__law_pull (T : T0 P mg base w) : FunD P.K "_law_pull" "_law_pull" (defArgs s__law_pull) (defBody s__law_pull) (defScope s__law_pull) [] [] (He.ga P.K "_law_pull") (fdOf P.K ("_law_pull", none)) := T.fun_ 2 rfl
theorem bd__law_pull (T : T0 P mg base w) : Binds P.K (fdOf P.K ("_law_pull", none)) ["_law_bag_here", "_law_sides"] [] := (F__law_pull T).bindsN fun _ _ _ _ _ _ us hl => match us, hl with | [_, _], _ => rfl
theorem m__law_of (T : T0 P mg base w) : mg "_law_of" = some (.ref (He.ga P.K "_law_of")) := T.glo 3 rfl
theorem F__law_of (T : T0 P mg base w) : FunD P.K "_law_of" "_law_of" (defArgs s__law_of) (defBody s__law_of) (defScope s__law_of) [] [] (He.ga P.K "_law_of") (fdOf P.K ("_law_of", none)) := T.fun_ 3 rfl
theorem bd__law_of (T : T0 P mg base w) : Binds P.K (fdOf P.K ("_law_of", none)) ["_law_bag_here", "_law_some"] [] := (F__law_of T).bindsN fun _ _ _ _ _ _ us hl => match us, hl with | [_, _], _ => rfl
theorem m__law_abc (T : T0 P mg base w) : mg "_law_abc" = some (.ref (He.ga P.K "_law_abc")) := T.glo 4 rfl
theorem F__law_abc (T : T0 P mg base w) : FunD P.K "_law_abc" "_law_abc" (defArgs s__law_abc) (defBody s__law_abc) (defScope s__law_abc) [] [] (He.ga P.K "_law_abc") (fdOf P.K ("_law_abc", none)) := T.fun_ 4 rfl
theorem bd__law_abc (T : T0 P mg base w) : Binds P.K (fdOf P.K ("_law_abc", none)) ["_law_bag_here", "_law_many"] [] := (F__law_abc T).bindsN fun _ _ _ _ _ _ us hl => match us, hl with | [_, _], _ => rfl
theorem m__law_gcd (T : T0 P mg base w) : mg "_law_gcd" = some (.ref (He.ga P.K "_law_gcd")) := T.glo 5 rfl
theorem F__law_gcd (T : T0 P mg base w) : FunD P.K "_law_gcd" "_law_gcd" (defArgs s__law_gcd) (defBody s__law_gcd) (defScope s__law_gcd) [] [] (He.ga P.K "_law_gcd") (fdOf P.K ("_law_gcd", none)) := T.fun_ 5 rfl
theorem bd__law_gcd (T : T0 P mg base w) : Binds P.K (fdOf P.K ("_law_gcd", none)) ["_law_one", "_law_other"] [] := (F__law_gcd T).bindsN fun _ _ _ _ _ _ us hl => match us, hl with | [_, _], _ => rfl
theorem m__law_fr (T : T0 P mg base w) : mg "_law_fr" = some (.ref (He.ga P.K "_law_fr")) := T.glo 6 rfl
theorem F__law_fr (T : T0 P mg base w) : FunD P.K "_law_fr" "_law_fr" (defArgs s__law_fr) (defBody s__law_fr) (defScope s__law_fr) [] [] (He.ga P.K "_law_fr") (fdOf P.K ("_law_fr", none)) := T.fun_ 6 rfl
theorem bd__law_fr (T : T0 P mg base w) : Binds P.K (fdOf P.K ("_law_fr", none)) ["_law_top", "_law_bottom"] [] := (F__law_fr T).bindsN fun _ _ _ _ _ _ us hl => match us, hl with | [_, _], _ => rfl
theorem m__law_light (T : T0 P mg base w) : mg "_law_light" = some (.ref (He.ga P.K "_law_light")) := T.glo 7 rfl
theorem F__law_light (T : T0 P mg base w) : FunD P.K "_law_light" "_law_light" (defArgs s__law_light) (defBody s__law_light) (defScope s__law_light) [] [] (He.ga P.K "_law_light") (fdOf P.K ("_law_light", none)) := T.fun_ 7 rfl
theorem bd__law_light (T : T0 P mg base w) : Binds P.K (fdOf P.K ("_law_light", none)) ["_law_bag_here"] [] := (F__law_light T).bindsN fun _ _ _ _ _ _ us hl => match us, hl with | [_], _ => rfl
theorem m__law_leaf (T : T0 P mg base w) : mg "_law_leaf" = some (.ref (He.ga P.K "_law_leaf")) := T.glo 8 rfl
theorem F__law_leaf (T : T0 P mg base w) : FunD P.K "_law_leaf" "_law_leaf" (defArgs s__law_leaf) (defBody s__law_leaf) (defScope s__law_leaf) [] [] (He.ga P.K "_law_leaf") (fdOf P.K ("_law_leaf", none)) := T.fun_ 8 rfl
theorem bd__law_leaf (T : T0 P mg base w) : Binds P.K (fdOf P.K ("_law_leaf", none)) ["_law_bag_here", "_law_signs"] [] := (F__law_leaf T).bindsN fun _ _ _ _ _ _ us hl => match us, hl with | [_, _], _ => rfl
theorem m__law_drawn (T : T0 P mg base w) : mg "_law_drawn" = some (.ref (He.ga P.K "_law_drawn")) := T.glo 9 rfl
theorem F__law_drawn (T : T0 P mg base w) : FunD P.K "_law_drawn" "_law_drawn" (defArgs s__law_drawn) (defBody s__law_drawn) (defScope s__law_drawn) [] [] (He.ga P.K "_law_drawn") (fdOf P.K ("_law_drawn", none)) := T.fun_ 9 rfl
theorem bd__law_drawn (T : T0 P mg base w) : Binds P.K (fdOf P.K ("_law_drawn", none)) ["_law_bag_here", "_law_signs", "_law_room", "_law_deep"] [] := (F__law_drawn T).bindsN fun _ _ _ _ _ _ us hl => match us, hl with | [_, _, _, _], _ => rfl
theorem m_is_letter (T : T0 P mg base w) : mg "is_letter" = some (.ref (He.ga P.K "is_letter")) := T.glo 10 rfl
theorem F_is_letter (T : T0 P mg base w) : FunD P.K "is_letter" "is_letter" (defArgs s_is_letter) (defBody s_is_letter) (defScope s_is_letter) [] [] (He.ga P.K "is_letter") (fdOf P.K ("is_letter", none)) := T.fun_ 10 rfl
theorem bd_is_letter (T : T0 P mg base w) : Binds P.K (fdOf P.K ("is_letter", none)) ["text"] [] := (F_is_letter T).bindsN fun _ _ _ _ _ _ us hl => match us, hl with | [_], _ => rfl
theorem m_divisor (T : T0 P mg base w) : mg "divisor" = some (.ref (He.ga P.K "divisor")) := T.glo 11 rfl
theorem F_divisor (T : T0 P mg base w) : FunD P.K "divisor" "divisor" (defArgs s_divisor) (defBody s_divisor) (defScope s_divisor) [] [] (He.ga P.K "divisor") (fdOf P.K ("divisor", none)) := T.fun_ 11 rfl
theorem bd_divisor (T : T0 P mg base w) : Binds P.K (fdOf P.K ("divisor", none)) ["one", "other"] [] := (F_divisor T).bindsN fun _ _ _ _ _ _ us hl => match us, hl with | [_, _], _ => rfl
theorem m_is_share (T : T0 P mg base w) : mg "is_share" = some (.ref (He.ga P.K "is_share")) := T.glo 12 rfl
theorem F_is_share (T : T0 P mg base w) : FunD P.K "is_share" "is_share" (defArgs s_is_share) (defBody s_is_share) (defScope s_is_share) [] [] (He.ga P.K "is_share") (fdOf P.K ("is_share", none)) := T.fun_ 12 rfl
theorem bd_is_share (T : T0 P mg base w) : Binds P.K (fdOf P.K ("is_share", none)) ["thing"] [] := (F_is_share T).bindsN fun _ _ _ _ _ _ us hl => match us, hl with | [_], _ => rfl
theorem m_is_leaf (T : T0 P mg base w) : mg "is_leaf" = some (.ref (He.ga P.K "is_leaf")) := T.glo 13 rfl
theorem F_is_leaf (T : T0 P mg base w) : FunD P.K "is_leaf" "is_leaf" (defArgs s_is_leaf) (defBody s_is_leaf) (defScope s_is_leaf) [] [] (He.ga P.K "is_leaf") (fdOf P.K ("is_leaf", none)) := T.fun_ 13 rfl
theorem bd_is_leaf (T : T0 P mg base w) : Binds P.K (fdOf P.K ("is_leaf", none)) ["thing"] [] := (F_is_leaf T).bindsN fun _ _ _ _ _ _ us hl => match us, hl with | [_], _ => rfl
theorem m_is_built (T : T0 P mg base w) : mg "is_built" = some (.ref (He.ga P.K "is_built")) := T.glo 14 rfl
theorem F_is_built (T : T0 P mg base w) : FunD P.K "is_built" "is_built" (defArgs s_is_built) (defBody s_is_built) (defScope s_is_built) [] [] (He.ga P.K "is_built") (fdOf P.K ("is_built", none)) := T.fun_ 14 rfl
theorem bd_is_built (T : T0 P mg base w) : Binds P.K (fdOf P.K ("is_built", none)) ["thing"] [] := (F_is_built T).bindsN fun _ _ _ _ _ _ us hl => match us, hl with | [_], _ => rfl
theorem m_things_in (T : T0 P mg base w) : mg "things_in" = some (.ref (He.ga P.K "things_in")) := T.glo 15 rfl
theorem F_things_in (T : T0 P mg base w) : FunD P.K "things_in" "things_in" (defArgs s_things_in) (defBody s_things_in) (defScope s_things_in) [] [] (He.ga P.K "things_in") (fdOf P.K ("things_in", none)) := T.fun_ 15 rfl
theorem bd_things_in (T : T0 P mg base w) : Binds P.K (fdOf P.K ("things_in", none)) ["term"] [] := (F_things_in T).bindsN fun _ _ _ _ _ _ us hl => match us, hl with | [_], _ => rfl
theorem m_many_parts (T : T0 P mg base w) : mg "many_parts" = some (.ref (He.ga P.K "many_parts")) := T.glo 16 rfl
theorem F_many_parts (T : T0 P mg base w) : FunD P.K "many_parts" "many_parts" (defArgs s_many_parts) (defBody s_many_parts) (defScope s_many_parts) [] [] (He.ga P.K "many_parts") (fdOf P.K ("many_parts", none)) := T.fun_ 16 rfl
theorem bd_many_parts (T : T0 P mg base w) : Binds P.K (fdOf P.K ("many_parts", none)) ["term"] [] := (F_many_parts T).bindsN fun _ _ _ _ _ _ us hl => match us, hl with | [_], _ => rfl
theorem m_all_letters (T : T0 P mg base w) : mg "all_letters" = some (.ref (He.ga P.K "all_letters")) := T.glo 17 rfl
theorem F_all_letters (T : T0 P mg base w) : FunD P.K "all_letters" "all_letters" (defArgs s_all_letters) (defBody s_all_letters) (defScope s_all_letters) [] [] (He.ga P.K "all_letters") (fdOf P.K ("all_letters", none)) := T.fun_ 17 rfl
theorem bd_all_letters (T : T0 P mg base w) : Binds P.K (fdOf P.K ("all_letters", none)) ["term"] [] := (F_all_letters T).bindsN fun _ _ _ _ _ _ us hl => match us, hl with | [_], _ => rfl
theorem m_letters_of (T : T0 P mg base w) : mg "letters_of" = some (.ref (He.ga P.K "letters_of")) := T.glo 18 rfl
theorem F_letters_of (T : T0 P mg base w) : FunD P.K "letters_of" "letters_of" (defArgs s_letters_of) (defBody s_letters_of) (defScope s_letters_of) [] [] (He.ga P.K "letters_of") (fdOf P.K ("letters_of", none)) := T.fun_ 18 rfl
theorem bd_letters_of (T : T0 P mg base w) : Binds P.K (fdOf P.K ("letters_of", none)) ["term"] [] := (F_letters_of T).bindsN fun _ _ _ _ _ _ us hl => match us, hl with | [_], _ => rfl
theorem m_deep_of (T : T0 P mg base w) : mg "deep_of" = some (.ref (He.ga P.K "deep_of")) := T.glo 19 rfl
theorem F_deep_of (T : T0 P mg base w) : FunD P.K "deep_of" "deep_of" (defArgs s_deep_of) (defBody s_deep_of) (defScope s_deep_of) [] [] (He.ga P.K "deep_of") (fdOf P.K ("deep_of", none)) := T.fun_ 19 rfl
theorem bd_deep_of (T : T0 P mg base w) : Binds P.K (fdOf P.K ("deep_of", none)) ["term"] [] := (F_deep_of T).bindsN fun _ _ _ _ _ _ us hl => match us, hl with | [_], _ => rfl
theorem m_flaw_in (T : T0 P mg base w) : mg "flaw_in" = some (.ref (He.ga P.K "flaw_in")) := T.glo 20 rfl
theorem F_flaw_in (T : T0 P mg base w) : FunD P.K "flaw_in" "flaw_in" (defArgs s_flaw_in) (defBody s_flaw_in) (defScope s_flaw_in) [] [] (He.ga P.K "flaw_in") (fdOf P.K ("flaw_in", none)) := T.fun_ 20 rfl
theorem bd_flaw_in (T : T0 P mg base w) : Binds P.K (fdOf P.K ("flaw_in", none)) ["term"] [] := (F_flaw_in T).bindsN fun _ _ _ _ _ _ us hl => match us, hl with | [_], _ => rfl
theorem m_flaw_of (T : T0 P mg base w) : mg "flaw_of" = some (.ref (He.ga P.K "flaw_of")) := T.glo 21 rfl
theorem F_flaw_of (T : T0 P mg base w) : FunD P.K "flaw_of" "flaw_of" (defArgs s_flaw_of) (defBody s_flaw_of) (defScope s_flaw_of) [] [] (He.ga P.K "flaw_of") (fdOf P.K ("flaw_of", none)) := T.fun_ 21 rfl
theorem bd_flaw_of (T : T0 P mg base w) : Binds P.K (fdOf P.K ("flaw_of", none)) ["term"] [] := (F_flaw_of T).bindsN fun _ _ _ _ _ _ us hl => match us, hl with | [_], _ => rfl
theorem m_need_term (T : T0 P mg base w) : mg "need_term" = some (.ref (He.ga P.K "need_term")) := T.glo 22 rfl
theorem F_need_term (T : T0 P mg base w) : FunD P.K "need_term" "need_term" (defArgs s_need_term) (defBody s_need_term) (defScope s_need_term) [] [] (He.ga P.K "need_term") (fdOf P.K ("need_term", none)) := T.fun_ 22 rfl
theorem bd_need_term (T : T0 P mg base w) : Binds P.K (fdOf P.K ("need_term", none)) ["term"] [] := (F_need_term T).bindsN fun _ _ _ _ _ _ us hl => match us, hl with | [_], _ => rfl
theorem m_nudged_by (T : T0 P mg base w) : mg "nudged_by" = some (.ref (He.ga P.K "nudged_by")) := T.glo 23 rfl
theorem F_nudged_by (T : T0 P mg base w) : FunD P.K "nudged_by" "nudged_by" (defArgs s_nudged_by) (defBody s_nudged_by) (defScope s_nudged_by) [] [] (He.ga P.K "nudged_by") (fdOf P.K ("nudged_by", none)) := T.fun_ 23 rfl
theorem bd_nudged_by (T : T0 P mg base w) : Binds P.K (fdOf P.K ("nudged_by", none)) ["term", "letter", "by"] [] := (F_nudged_by T).bindsN fun _ _ _ _ _ _ us hl => match us, hl with | [_, _, _], _ => rfl
theorem m_need_good (T : T0 P mg base w) : mg "need_good" = some (.ref (He.ga P.K "need_good")) := T.glo 24 rfl
theorem F_need_good (T : T0 P mg base w) : FunD P.K "need_good" "need_good" (defArgs s_need_good) (defBody s_need_good) (defScope s_need_good) [] [] (He.ga P.K "need_good") (fdOf P.K ("need_good", none)) := T.fun_ 24 rfl
theorem bd_need_good (T : T0 P mg base w) : Binds P.K (fdOf P.K ("need_good", none)) ["term"] [] := (F_need_good T).bindsN fun _ _ _ _ _ _ us hl => match us, hl with | [_], _ => rfl
theorem m_nudged (T : T0 P mg base w) : mg "nudged" = some (.ref (He.ga P.K "nudged")) := T.glo 25 rfl
theorem F_nudged (T : T0 P mg base w) : FunD P.K "nudged" "nudged" (defArgs s_nudged) (defBody s_nudged) (defScope s_nudged) [] [] (He.ga P.K "nudged") (fdOf P.K ("nudged", none)) := T.fun_ 25 rfl
theorem bdk_nudged (T : T0 P mg base w) : BKw P.K (fdOf P.K ("nudged", none)) ["term", "letter", "by"] 2 ["by"] := binds_kw (F_nudged T) fun _ _ _ _ _ _ us ws h1 h2 => match us, h1, ws, h2 with | [_, _], _, [_], _ => rfl
theorem bdw_nudged (T : T0 P mg base w) : ∃ (v : V) (ds : List Value), Vals [v] ds ∧ Binds P.K (fdOf P.K ("nudged", none)) ["term", "letter", "by"] ds ∧ ∀ L H, Reps P H L [v] [.tup [.str "share", .tup [.int 1, .int 1]]] := by
  obtain ⟨v, F, hv⟩ := T.kwd 0 rfl (F_nudged T)
  obtain ⟨ds, h1, h2⟩ := F.binds0 (ps := ["term", "letter", "by"]) 2 (by simp) rfl fun D doc pm an cdv ct us ks h1 h2 => match us, h1, ks, h2 with | [_, _], _, [_], _ => ⟨_, _, _, _, _, _, rfl, rfl, rfl⟩
  exact ⟨v, ds, h1, h2, hv⟩
theorem m__law_moved (T : T0 P mg base w) : mg "_law_moved" = some (.ref (He.ga P.K "_law_moved")) := T.glo 26 rfl
theorem F__law_moved (T : T0 P mg base w) : FunD P.K "_law_moved" "_law_moved" (defArgs s__law_moved) (defBody s__law_moved) (defScope s__law_moved) [] [] (He.ga P.K "_law_moved") (fdOf P.K ("_law_moved", none)) := T.fun_ 26 rfl
theorem bd__law_moved (T : T0 P mg base w) : Binds P.K (fdOf P.K ("_law_moved", none)) ["_law_term", "_law_sign", "_law_per"] [] := (F__law_moved T).bindsN fun _ _ _ _ _ _ us hl => match us, hl with | [_, _, _], _ => rfl
theorem m__law_inner (T : T0 P mg base w) : mg "_law_inner" = some (.ref (He.ga P.K "_law_inner")) := T.glo 27 rfl
theorem F__law_inner (T : T0 P mg base w) : FunD P.K "_law_inner" "_law_inner" (defArgs s__law_inner) (defBody s__law_inner) (defScope s__law_inner) [] [] (He.ga P.K "_law_inner") (fdOf P.K ("_law_inner", none)) := T.fun_ 27 rfl
theorem bd__law_inner (T : T0 P mg base w) : Binds P.K (fdOf P.K ("_law_inner", none)) ["_law_term"] [] := (F__law_inner T).bindsN fun _ _ _ _ _ _ us hl => match us, hl with | [_], _ => rfl
theorem m__law_count (T : T0 P mg base w) : mg "_law_count" = some (.ref (He.ga P.K "_law_count")) := T.glo 28 rfl
theorem F__law_count (T : T0 P mg base w) : FunD P.K "_law_count" "_law_count" (defArgs s__law_count) (defBody s__law_count) (defScope s__law_count) [] [] (He.ga P.K "_law_count") (fdOf P.K ("_law_count", none)) := T.fun_ 28 rfl
theorem bd__law_count (T : T0 P mg base w) : Binds P.K (fdOf P.K ("_law_count", none)) ["_law_term"] [] := (F__law_count T).bindsN fun _ _ _ _ _ _ us hl => match us, hl with | [_], _ => rfl
theorem m__law_all_parts (T : T0 P mg base w) : mg "_law_all_parts" = some (.ref (He.ga P.K "_law_all_parts")) := T.glo 29 rfl
theorem F__law_all_parts (T : T0 P mg base w) : FunD P.K "_law_all_parts" "_law_all_parts" (defArgs s__law_all_parts) (defBody s__law_all_parts) (defScope s__law_all_parts) [] [] (He.ga P.K "_law_all_parts") (fdOf P.K ("_law_all_parts", none)) := T.fun_ 29 rfl
theorem bd__law_all_parts (T : T0 P mg base w) : Binds P.K (fdOf P.K ("_law_all_parts", none)) ["_law_term"] [] := (F__law_all_parts T).bindsN fun _ _ _ _ _ _ us hl => match us, hl with | [_], _ => rfl
theorem m__law_letters (T : T0 P mg base w) : mg "_law_letters" = some (.ref (He.ga P.K "_law_letters")) := T.glo 30 rfl
theorem F__law_letters (T : T0 P mg base w) : FunD P.K "_law_letters" "_law_letters" (defArgs s__law_letters) (defBody s__law_letters) (defScope s__law_letters) [] [] (He.ga P.K "_law_letters") (fdOf P.K ("_law_letters", none)) := T.fun_ 30 rfl
theorem bd__law_letters (T : T0 P mg base w) : Binds P.K (fdOf P.K ("_law_letters", none)) ["_law_term"] [] := (F__law_letters T).bindsN fun _ _ _ _ _ _ us hl => match us, hl with | [_], _ => rfl
theorem m__law_depth (T : T0 P mg base w) : mg "_law_depth" = some (.ref (He.ga P.K "_law_depth")) := T.glo 31 rfl
theorem F__law_depth (T : T0 P mg base w) : FunD P.K "_law_depth" "_law_depth" (defArgs s__law_depth) (defBody s__law_depth) (defScope s__law_depth) [] [] (He.ga P.K "_law_depth") (fdOf P.K ("_law_depth", none)) := T.fun_ 31 rfl
theorem bd__law_depth (T : T0 P mg base w) : Binds P.K (fdOf P.K ("_law_depth", none)) ["_law_term"] [] := (F__law_depth T).bindsN fun _ _ _ _ _ _ us hl => match us, hl with | [_], _ => rfl
theorem m__law_fault (T : T0 P mg base w) : mg "_law_fault" = some (.ref (He.ga P.K "_law_fault")) := T.glo 32 rfl
theorem F__law_fault (T : T0 P mg base w) : FunD P.K "_law_fault" "_law_fault" (defArgs s__law_fault) (defBody s__law_fault) (defScope s__law_fault) [] [] (He.ga P.K "_law_fault") (fdOf P.K ("_law_fault", none)) := T.fun_ 32 rfl
theorem bd__law_fault (T : T0 P mg base w) : Binds P.K (fdOf P.K ("_law_fault", none)) ["_law_term"] [] := (F__law_fault T).bindsN fun _ _ _ _ _ _ us hl => match us, hl with | [_], _ => rfl
theorem m__law_same (T : T0 P mg base w) : mg "_law_same" = some (.ref (He.ga P.K "_law_same")) := T.glo 33 rfl
theorem F__law_same (T : T0 P mg base w) : FunD P.K "_law_same" "_law_same" (defArgs s__law_same) (defBody s__law_same) (defScope s__law_same) [] [] (He.ga P.K "_law_same") (fdOf P.K ("_law_same", none)) := T.fun_ 33 rfl
theorem bd__law_same (T : T0 P mg base w) : Binds P.K (fdOf P.K ("_law_same", none)) ["_law_found", "_law_due"] [] := (F__law_same T).bindsN fun _ _ _ _ _ _ us hl => match us, hl with | [_, _], _ => rfl
theorem m_turned_in (T : T0 P mg base w) : mg "turned_in" = some (.ref (He.ga P.K "turned_in")) := T.glo 34 rfl
theorem F_turned_in (T : T0 P mg base w) : FunD P.K "turned_in" "turned_in" (defArgs s_turned_in) (defBody s_turned_in) (defScope s_turned_in) [] [] (He.ga P.K "turned_in") (fdOf P.K ("turned_in", none)) := T.fun_ 34 rfl
theorem bd_turned_in (T : T0 P mg base w) : Binds P.K (fdOf P.K ("turned_in", none)) ["term"] [] := (F_turned_in T).bindsN fun _ _ _ _ _ _ us hl => match us, hl with | [_], _ => rfl
theorem m_turned (T : T0 P mg base w) : mg "turned" = some (.ref (He.ga P.K "turned")) := T.glo 35 rfl
theorem F_turned (T : T0 P mg base w) : FunD P.K "turned" "turned" (defArgs s_turned) (defBody s_turned) (defScope s_turned) [] [] (He.ga P.K "turned") (fdOf P.K ("turned", none)) := T.fun_ 35 rfl
theorem bd_turned (T : T0 P mg base w) : Binds P.K (fdOf P.K ("turned", none)) ["term"] [] := (F_turned T).bindsN fun _ _ _ _ _ _ us hl => match us, hl with | [_], _ => rfl
theorem m__law_other_way (T : T0 P mg base w) : mg "_law_other_way" = some (.ref (He.ga P.K "_law_other_way")) := T.glo 36 rfl
theorem F__law_other_way (T : T0 P mg base w) : FunD P.K "_law_other_way" "_law_other_way" (defArgs s__law_other_way) (defBody s__law_other_way) (defScope s__law_other_way) [] [] (He.ga P.K "_law_other_way") (fdOf P.K ("_law_other_way", none)) := T.fun_ 36 rfl
theorem bd__law_other_way (T : T0 P mg base w) : Binds P.K (fdOf P.K ("_law_other_way", none)) ["_law_term"] [] := (F__law_other_way T).bindsN fun _ _ _ _ _ _ us hl => match us, hl with | [_], _ => rfl
theorem m__law_odd (T : T0 P mg base w) : mg "_law_odd" = some (.ref (He.ga P.K "_law_odd")) := T.glo 37 rfl
theorem F__law_odd (T : T0 P mg base w) : FunD P.K "_law_odd" "_law_odd" (defArgs s__law_odd) (defBody s__law_odd) (defScope s__law_odd) [] [] (He.ga P.K "_law_odd") (fdOf P.K ("_law_odd", none)) := T.fun_ 37 rfl
theorem bd__law_odd (T : T0 P mg base w) : Binds P.K (fdOf P.K ("_law_odd", none)) ["_law_bag_here"] [] := (F__law_odd T).bindsN fun _ _ _ _ _ _ us hl => match us, hl with | [_], _ => rfl
theorem m__law_twist (T : T0 P mg base w) : mg "_law_twist" = some (.ref (He.ga P.K "_law_twist")) := T.glo 38 rfl
theorem F__law_twist (T : T0 P mg base w) : FunD P.K "_law_twist" "_law_twist" (defArgs s__law_twist) (defBody s__law_twist) (defScope s__law_twist) [] [] (He.ga P.K "_law_twist") (fdOf P.K ("_law_twist", none)) := T.fun_ 38 rfl
theorem bd__law_twist (T : T0 P mg base w) : Binds P.K (fdOf P.K ("_law_twist", none)) ["_law_bag_here", "_law_term", "_law_odd_here"] [] := (F__law_twist T).bindsN fun _ _ _ _ _ _ us hl => match us, hl with | [_, _, _], _ => rfl
theorem F_law (T : T0 P mg base w) : FunD P.K "law" "law" (defArgs s_law) (defBody s_law) (defScope s_law) [] [] (He.ga P.K "law") (fdOf P.K ("law", none)) := T.fun_ 39 rfl
theorem Fx_BadTerm (T : T0 P mg base w) : FunD P.K "__init__" "BadTerm.__init__" (defArgs sx_BadTerm) (defBody sx_BadTerm) (defScope sx_BadTerm) [] [] (He.ma P.K (He.ga P.K "BadTerm") "__init__") (fdOf P.K ("BadTerm", some "__init__")) := T.fun_ 40 rfl
theorem bx_BadTerm (T : T0 P mg base w) : Binds P.K (fdOf P.K ("BadTerm", some "__init__")) ["self", "flaw"] [] := (Fx_BadTerm T).bindsN fun _ _ _ _ _ _ us hl => match us, hl with | [_, _], _ => rfl
theorem m_BadTerm (T : T0 P mg base w) : mg "BadTerm" = some (.ref (He.ga P.K "BadTerm")) := T.glo 40 rfl
theorem o_BadTerm (T : T0 P mg base w) : OexC P.K (He.ga P.K "BadTerm") := (T.exc 0 rfl).1
theorem fx_BadTerm (T : T0 P mg base w) : ∀ f ∈ (["flaw", "word"] : List Str), PySem.W.findIn P.K (.ref (He.ga P.K "BadTerm")) f = some none := (T.exc 0 rfl).2.1
theorem i_BadTerm (T : T0 P mg base w) : PySem.W.findIn P.K (.ref (He.ga P.K "BadTerm")) "__init__" = some (some (.ref (He.ma P.K (He.ga P.K "BadTerm") "__init__"))) := (T.exc 0 rfl).2.2.1
theorem t_BadTerm (T : T0 P mg base w) : PySem.W.typeIn P.K (.ref (He.ma P.K (He.ga P.K "BadTerm") "__init__")) = some (.type "function") := (T.exc 0 rfl).2.2.2
theorem cl_BadTerm (T : T0 P mg base w) : P.cls "BadTerm" = some (He.ga P.K "BadTerm") := T.clsOf (by decide +kernel)
theorem okx_BadTerm (T : T0 P mg base w) : FnOk Pr w P.K mg base (L2.CX Pr w) 1 (He.ma P.K (He.ga P.K "BadTerm") "__init__") (fdOf P.K ("BadTerm", some "__init__")) ["self", "flaw"] (spXI P.K 1 ["flaw", "word"] (fun vs => vs ++ [.str "BadTerm"])) := xinit1 (Fx_BadTerm T) scx_BadTerm rfl
theorem z_abs (T : T0 P mg base w) : mg "abs" = none := T.free 41 rfl
theorem z_all (T : T0 P mg base w) : mg "all" = none := T.free 42 rfl
theorem z_bool (T : T0 P mg base w) : mg "bool" = none := T.free 43 rfl
theorem z_int (T : T0 P mg base w) : mg "int" = none := T.free 44 rfl
theorem z_isinstance (T : T0 P mg base w) : mg "isinstance" = none := T.free 45 rfl
theorem z_len (T : T0 P mg base w) : mg "len" = none := T.free 46 rfl
theorem z_list (T : T0 P mg base w) : mg "list" = none := T.free 47 rfl
theorem z_max (T : T0 P mg base w) : mg "max" = none := T.free 48 rfl
theorem z_range (T : T0 P mg base w) : mg "range" = none := T.free 49 rfl
theorem z_set (T : T0 P mg base w) : mg "set" = none := T.free 50 rfl
theorem z_sorted (T : T0 P mg base w) : mg "sorted" = none := T.free 51 rfl
theorem z_str (T : T0 P mg base w) : mg "str" = none := T.free 52 rfl
theorem z_sum (T : T0 P mg base w) : mg "sum" = none := T.free 53 rfl
theorem z_tuple (T : T0 P mg base w) : mg "tuple" = none := T.free 54 rfl
def hd__law_asked : List ExceptHandler := match defBody s__law_asked with
  | [.Try _ h _ _ _] => h
  | _ => []
theorem ask__law_asked : AskH "e" hd__law_asked hs__law_asked := (.one .f (.tup (.cons (.cons .nil)) .f (.tup (.cons (.cons (.cons .nil))) .f (.one .g (.one .f (.one .f (.tup (.cons (.cons (.cons (.cons (.cons (.cons .nil)))))) .f (.one .f (.one .f (.one .g (.one .f (.one .w (.one .w .nil)))))))))))))
theorem hC__law_asked (T : T0 P mg base w) : ∀ q ∈ hs__law_asked, q.1.length ≤ 100 ∧ ∀ x ∈ q.1, (defScope s__law_asked).names.lookup x = some .globalImplicit ∧ (x == ("__debug__" : Str)) = false ∧ mg x = some (.ref (He.ga P.K x)) := hC_of (fa := fa) T (by decide +kernel)
theorem kd_THINGS (T : T0 P mg base w) : KdAt P w (He.ga P.K "THINGS") kd_THINGS_v := (T.kdAt 0 rfl).1
theorem mk_THINGS (T : T0 P mg base w) : mg "THINGS" = some (.ref (He.ga P.K "THINGS")) := (T.kdAt 0 rfl).2
theorem n_LONGEST (T : T0 P mg base w) {W : WX} {X : Cx} {pos : Pos} (hmg : X.mg = mg := by rfl) (hg : Gl X "LONGEST" := by rfl) : VE P W X (.Name "LONGEST" pos) (eC (.int 6)) := T.name 0 rfl hmg hg
theorem n_SMALL (T : T0 P mg base w) {W : WX} {X : Cx} {pos : Pos} (hmg : X.mg = mg := by rfl) (hg : Gl X "SMALL" := by rfl) : VE P W X (.Name "SMALL" pos) (eC (.str "abcdefghijklmnopqrstuvwxyz")) := T.name 1 rfl hmg hg
theorem n_MOST_PARTS (T : T0 P mg base w) {W : WX} {X : Cx} {pos : Pos} (hmg : X.mg = mg := by rfl) (hg : Gl X "MOST_PARTS" := by rfl) : VE P W X (.Name "MOST_PARTS" pos) (eC (.int 24)) := T.name 2 rfl hmg hg
theorem n_MOST_LETTERS (T : T0 P mg base w) {W : WX} {X : Cx} {pos : Pos} (hmg : X.mg = mg := by rfl) (hg : Gl X "MOST_LETTERS" := by rfl) : VE P W X (.Name "MOST_LETTERS" pos) (eC (.int 4)) := T.name 3 rfl hmg hg
theorem n_MOST_DEEP (T : T0 P mg base w) {W : WX} {X : Cx} {pos : Pos} (hmg : X.mg = mg := by rfl) (hg : Gl X "MOST_DEEP" := by rfl) : VE P W X (.Name "MOST_DEEP" pos) (eC (.int 4)) := T.name 4 rfl hmg hg
theorem n_NOTHING (T : T0 P mg base w) {W : WX} {X : Cx} {pos : Pos} (hmg : X.mg = mg := by rfl) (hg : Gl X "NOTHING" := by rfl) : VE P W X (.Name "NOTHING" pos) (eC (.tup [.str "share", .tup [.int 0, .int 1]])) := T.name 5 rfl hmg hg
theorem tb_law (T : T0 P mg base w) : LamX.TabB base mg (He.cT P.K ("law", none)).1 (He.cT P.K ("law", none)).2 := T.tb _ (List.mem_of_getElem? (i := 0) rfl)
theorem tm_law (T : T0 P mg base w) : ((He.cT P.K ("law", none)).2, (("law" : Str) ++ (".<locals>." : Str) ++ ("<lambda>" : Str))) ∈ P.T := T.tm 0 rfl rfl
theorem tu_law (T : T0 P mg base w) : ∀ p ∈ P.T, p.1 = (He.cT P.K ("law", none)).2 → p.2 = (("law" : Str) ++ (".<locals>." : Str) ++ ("<lambda>" : Str)) := T.tu 0 rfl rfl
theorem ok__law_bag__1 (T : T0 P mg base w) : FnOk Pr w P.K mg base (L2.CX Pr w) 1 (He.ga P.K "_law_bag") (fdOf P.K ("_law_bag", none)) ["_law_script"] (spF P 1 f__law_bag__1) := by
  unfold f__law_bag__1
  exact fn_ok (F__law_bag T) sc__law_bag rfl fun cdv A outer s H E hr => (vss_cons (vs_set (i := 1) sc__law_bag.nd rfl (by first | exact Or.inl rfl | exact Or.inr rfl) ve_int)
    (vss_cons (vs_for (passes_of rfl) rfl (vi_any rfl (ve_slG sl3 (ss_sl3 rfl) (vv 0) vo_none (vo_some ve_int))) (vg_name (i := 2) sc__law_bag.nd rfl (by first | exact Or.inl rfl | exact Or.inr rfl)) (vss_one (vs_set (i := 1) sc__law_bag.nd rfl (by first | exact Or.inl rfl | exact Or.inr rfl) (ve_bin op_modN os_mod (ve_bin op_add4 (os_add rfl) (ve_bin op_add4 (os_add rfl) (ve_bin op_mul2 os_mul (vv 1) ve_int) (ve_bin op_modN os_mod (vv 2) ve_int)) ve_int) ve_int))))
    (vss_one (vs_ret (ve_lstC (va_cons (ve_callTy call_list_of (cs_listOf rfl) rfl (z_list T) (by decide +kernel) (va_cons (ve_slG sl3 (ss_sl3 rfl) (vv 0) vo_none (vo_some ve_int)) va_nil)) (va_cons ve_int (va_cons ve_int (va_cons (vv 1) (va_cons ve_int va_nil))))))))))
theorem ok__law_pull (T : T0 P mg base w) : FnOk Pr w P.K mg base (L2.CX Pr w) 1 (He.ga P.K "_law_pull") (fdOf P.K ("_law_pull", none)) ["_law_bag_here", "_law_sides"] (spF P 2 f__law_pull) := by
  unfold f__law_pull
  exact fn_ok (F__law_pull T) sc__law_pull rfl fun cdv A outer s H E hr => (vss_cons (vs_if (vt_w (vw_and (vt_cmp (op_eqD hr.units) (os_eq rfl) (ve_ix rfl (vv 0) ve_int) ve_int (nomark _)) (vw_and1 (vt_cmp op_lt os_lt (ve_ix rfl (vv 0) ve_int) (ve_callB call_len (cs_len rfl) rfl (z_len T) (by decide +kernel) (va_cons (ve_ix rfl (vv 0) ve_int) va_nil)) (nomark _))))) (vss_cons (vs_set (i := 2) sc__law_pull.nd rfl (by first | exact Or.inl rfl | exact Or.inr rfl) (ve_ix rfl (ve_ix rfl (vv 0) ve_int) (ve_ix rfl (vv 0) ve_int)))
    (vss_cons (vs_sub (ve_bin op_add4 (os_add rfl) (ve_ix rfl (vv 0) ve_int) ve_int) (vv 0) ve_int)
    (vss_one (vs_if (vt_cmp op_ge os_ge (vv 2) (ve_bin op_pow os_pow ve_int ve_int) (nomark _)) (vss_one (vs_sub (vv 2) (vv 0) ve_int)) (vss_one (vs_sub (ve_bin op_modN os_mod (ve_bin op_add4 (os_add rfl) (ve_bin op_add4 (os_add rfl) (ve_bin op_mul2 os_mul (ve_ix rfl (vv 0) ve_int) ve_int) (ve_bin op_modN os_mod (vv 2) ve_int)) ve_int) ve_int) (vv 0) ve_int)))))) vss_nil)
    (vss_cons (vs_if (vt_cmp op_gt os_gt (ve_ix rfl (vv 0) ve_int) ve_int (nomark _)) (vss_cons (vs_set (i := 3) sc__law_pull.nd rfl (by first | exact Or.inl rfl | exact Or.inr rfl) (ve_bin op_modN os_mod (ve_ix rfl (vv 0) ve_int) (vv 1)))
    (vss_cons (vs_sub (ve_bin op_fdivP os_fdiv (ve_ix rfl (vv 0) ve_int) (vv 1)) (vv 0) ve_int)
    (vss_one (vs_ret (vv 3))))) vss_nil)
    (vss_cons (vs_sub (ve_bin op_add4 (os_add rfl) (ve_ix rfl (vv 0) ve_int) ve_int) (vv 0) ve_int)
    (vss_cons (vs_set (i := 4) sc__law_pull.nd rfl (by first | exact Or.inl rfl | exact Or.inr rfl) (ve_bin op_modN os_mod (ve_bin op_add4 (os_add rfl) (ve_ix rfl (vv 0) ve_int) (ve_bin op_mul2 os_mul (ve_ix rfl (vv 0) ve_int) ve_int)) ve_int))
    (vss_cons (vs_sub (ve_bin op_modN os_mod (ve_bin op_add4 (os_add rfl) (ve_bin op_add4 (os_add rfl) (ve_bin op_mul2 os_mul (ve_bin op_modN os_mod (ve_bin op_mul2 os_mul (vv 4) (vv 4)) ve_int) (ve_bin op_add4 (os_add rfl) (ve_bin op_modN os_mod (vv 4) ve_int) ve_int)) (ve_bin op_mul2 os_mul ve_int (vv 4))) ve_int) ve_int) (vv 0) ve_int)
    (vss_one (vs_ret (ve_bin op_modN os_mod (ve_bin op_add4 (os_add rfl) (ve_bin op_fdivP os_fdiv (ve_ix rfl (vv 0) ve_int) ve_int) (ve_bin op_mul2 os_mul (ve_bin op_modN os_mod (ve_ix rfl (vv 0) ve_int) ve_int) ve_int)) (vv 1)))))))))
theorem ok__law_of (T : T0 P mg base w) : FnOk Pr w P.K mg base (L2.CX Pr w) 2 (He.ga P.K "_law_of") (fdOf P.K ("_law_of", none)) ["_law_bag_here", "_law_some"] (spF P 2 f__law_of) := by
  unfold f__law_of
  exact fn_ok (F__law_of T) sc__law_of rfl fun cdv A outer s H E hr => (vss_one (vs_ret (ve_ix rfl (vv 1) (ve_call (ok__law_pull T) (hr.mono (by omega)) rfl (m__law_pull T) (F__law_pull T).kp (bd__law_pull T) (takes_of rfl rfl rfl rfl) (va_cons (vv 0) (va_cons (ve_callB call_len (cs_len rfl) rfl (z_len T) (by decide +kernel) (va_cons (vv 1) va_nil)) va_nil))))))
theorem ok__law_abc (T : T0 P mg base w) : FnOk Pr w P.K mg base (L2.CX Pr w) 3 (He.ga P.K "_law_abc") (fdOf P.K ("_law_abc", none)) ["_law_bag_here", "_law_many"] (spF P 2 f__law_abc) := by
  unfold f__law_abc
  exact fn_ok (F__law_abc T) sc__law_abc rfl fun cdv A outer s H E hr => (vss_cons (vs_par (i := 2) (j := 3) rfl sc__law_abc.nd rfl rfl (by decide) rfl rfl (va_cons (ve_call (ok__law_pull T) (hr.mono (by omega)) rfl (m__law_pull T) (F__law_pull T).kp (bd__law_pull T) (takes_of rfl rfl rfl rfl) (va_cons (vv 0) (va_cons ve_int va_nil))) (va_cons (ve_lstC va_nil) va_nil)) (by rfl))
    (vss_cons (vs_set (i := 4) sc__law_abc.nd rfl (by first | exact Or.inl rfl | exact Or.inr rfl) (ve_call (ok__law_of T) (hr.mono (by omega)) rfl (m__law_of T) (F__law_of T).kp (bd__law_of T) (takes_of rfl rfl rfl rfl) (va_cons (vv 0) (va_cons (ve_lst (va_cons ve_str (va_cons ve_str (va_cons ve_str (va_cons ve_str (va_cons ve_str va_nil)))))) va_nil))))
    (vss_cons (vs_set (i := 5) sc__law_abc.nd rfl (by first | exact Or.inl rfl | exact Or.inr rfl) (ve_call (ok__law_pull T) (hr.mono (by omega)) rfl (m__law_pull T) (F__law_pull T).kp (bd__law_pull T) (takes_of rfl rfl rfl rfl) (va_cons (vv 0) (va_cons (ve_bin op_add4 (os_add rfl) (ve_callB call_len (cs_len rfl) rfl (z_len T) (by decide +kernel) (va_cons (vv 4) va_nil)) ve_int) va_nil))))
    (vss_cons (vs_for (passes_of rfl) rfl (vi_range1 rfl (z_range T) (va_cons (vv 1) va_nil)) (vg_name (i := 6) sc__law_abc.nd rfl (by first | exact Or.inl rfl | exact Or.inr rfl)) (vss_cons (vs_set (i := 7) sc__law_abc.nd rfl (by first | exact Or.inl rfl | exact Or.inr rfl) (ve_ix rfl ve_str (ve_bin op_modN os_mod (ve_bin op_add4 (os_add rfl) (vv 2) (ve_bin op_mul2 os_mul ve_int (vv 6))) ve_int)))
    (vss_one (vs_expr (ve_m rfl ⟨by decide, by decide, by decide⟩ PySem.F.plainAttrs_list PySem.F.slot_list_append PySem.F.type_list_append mt_append ms_append (vv 3) (va_cons (ve_bin op_add4 (os_add rfl) (ve_bin op_add4 (os_add rfl) (ve_slG sl3 (ss_sl3 rfl) (vv 4) vo_none (vo_some (vv 5))) (vv 7)) (ve_slG sl3 (ss_sl3 rfl) (vv 4) (vo_some (vv 5)) vo_none)) va_nil))))))
    (vss_one (vs_ret (vv 3)))))))
theorem ok__law_gcd (T : T0 P mg base w) : FnOk Pr w P.K mg base (L2.CX Pr w) 1 (He.ga P.K "_law_gcd") (fdOf P.K ("_law_gcd", none)) ["_law_one", "_law_other"] (spF P 2 f__law_gcd) := by
  unfold f__law_gcd
  exact fn_ok (F__law_gcd T) sc__law_gcd rfl fun cdv A outer s H E hr => (vss_cons (vs_while (passes_of rfl) (vt_cmp (op_neD hr.units) (os_ne rfl) (vv 1) ve_int (nomark _)) (vss_one (vs_par (i := 0) (j := 1) rfl sc__law_gcd.nd rfl rfl (by decide) rfl rfl (va_cons (vv 1) (va_cons (ve_bin op_modN os_mod (vv 0) (vv 1)) va_nil)) (by rfl))))
    (vss_one (vs_ret (ve_callB call_abs cs_abs rfl (z_abs T) (by decide +kernel) (va_cons (vv 0) va_nil)))))
theorem ok__law_fr (T : T0 P mg base w) : FnOk Pr w P.K mg base (L2.CX Pr w) 2 (He.ga P.K "_law_fr") (fdOf P.K ("_law_fr", none)) ["_law_top", "_law_bottom"] (spF P 2 f__law_fr) := by
  unfold f__law_fr
  exact fn_ok (F__law_fr T) sc__law_fr rfl fun cdv A outer s H E hr => (vss_cons (vs_set (i := 2) sc__law_fr.nd rfl (by first | exact Or.inl rfl | exact Or.inr rfl) (ve_call (ok__law_gcd T) (hr.mono (by omega)) rfl (m__law_gcd T) (F__law_gcd T).kp (bd__law_gcd T) (takes_of rfl rfl rfl rfl) (va_cons (vv 0) (va_cons (vv 1) va_nil))))
    (vss_cons (vs_set (i := 2) sc__law_fr.nd rfl (by first | exact Or.inl rfl | exact Or.inr rfl) (ve_if (vt_cmp op_lt os_lt (vv 1) ve_int (nomark _)) (ve_bin op_sub os_sub ve_int (vv 2)) (vv 2)))
    (vss_one (vs_ret (ve_tup (va_cons (ve_bin op_fdivP os_fdiv (vv 0) (vv 2)) (va_cons (ve_bin op_fdivP os_fdiv (vv 1) (vv 2)) va_nil)))))))
theorem ok__law_light (T : T0 P mg base w) : FnOk Pr w P.K mg base (L2.CX Pr w) 3 (He.ga P.K "_law_light") (fdOf P.K ("_law_light", none)) ["_law_bag_here"] (spF P 1 f__law_light) := by
  unfold f__law_light
  exact fn_ok (F__law_light T) sc__law_light rfl fun cdv A outer s H E hr => (vss_one (vs_ret (ve_call (ok__law_fr T) (hr.mono (by omega)) rfl (m__law_fr T) (F__law_fr T).kp (bd__law_fr T) (takes_of rfl rfl rfl rfl) (va_cons (ve_bin op_sub os_sub (ve_call (ok__law_pull T) (hr.mono (by omega)) rfl (m__law_pull T) (F__law_pull T).kp (bd__law_pull T) (takes_of rfl rfl rfl rfl) (va_cons (vv 0) (va_cons ve_int va_nil))) ve_int) (va_cons (ve_ix rfl (ve_lst (va_cons ve_int (va_cons ve_int (va_cons ve_int (va_cons ve_int (va_cons ve_int (va_cons ve_int va_nil))))))) (ve_call (ok__law_pull T) (hr.mono (by omega)) rfl (m__law_pull T) (F__law_pull T).kp (bd__law_pull T) (takes_of rfl rfl rfl rfl) (va_cons (vv 0) (va_cons ve_int va_nil)))) va_nil)))))
theorem ok__law_leaf (T : T0 P mg base w) : FnOk Pr w P.K mg base (L2.CX Pr w) 4 (He.ga P.K "_law_leaf") (fdOf P.K ("_law_leaf", none)) ["_law_bag_here", "_law_signs"] (spF P 2 f__law_leaf) := by
  unfold f__law_leaf
  exact fn_ok (F__law_leaf T) sc__law_leaf rfl fun cdv A outer s H E hr => (vss_one (vs_ret (ve_if (vt_cmp (op_eqD hr.units) (os_eq rfl) (ve_call (ok__law_pull T) (hr.mono (by omega)) rfl (m__law_pull T) (F__law_pull T).kp (bd__law_pull T) (takes_of rfl rfl rfl rfl) (va_cons (vv 0) (va_cons ve_int va_nil))) ve_int (nomark _)) (ve_tup (va_cons ve_str (va_cons (ve_call (ok__law_light T) (hr.mono (by omega)) rfl (m__law_light T) (F__law_light T).kp (bd__law_light T) (takes_of rfl rfl rfl rfl) (va_cons (vv 0) va_nil)) va_nil))) (ve_tup (va_cons ve_str (va_cons (ve_call (ok__law_of T) (hr.mono (by omega)) rfl (m__law_of T) (F__law_of T).kp (bd__law_of T) (takes_of rfl rfl rfl rfl) (va_cons (vv 0) (va_cons (vv 1) va_nil))) va_nil))))))
theorem ok__law_drawn (T : T0 P mg base w) : ∀ n : Nat, FnOk Pr w P.K mg base (L2.CX Pr w) (4 + n) (He.ga P.K "_law_drawn") (fdOf P.K ("_law_drawn", none)) ["_law_bag_here", "_law_signs", "_law_room", "_law_deep"] (spF P 4 (f__law_drawn n))
  | 0 => by rw [f__law_drawn_0]; exact fn_bad rfl
  | n + 1 => by
    have ih__law_drawn := ok__law_drawn T n
    rw [f__law_drawn_s]
    exact fn_ok (F__law_drawn T) sc__law_drawn rfl fun cdv A outer s H E hr0 => have hr : Room (4 + n) _ := hr0; (vss_cons (vs_set (i := 4) sc__law_drawn.nd rfl (by first | exact Or.inl rfl | exact Or.inr rfl) (ve_call (ok__law_pull T) (hr.mono (by omega)) rfl (m__law_pull T) (F__law_pull T).kp (bd__law_pull T) (takes_of rfl rfl rfl rfl) (va_cons (vv 0) (va_cons ve_int va_nil))))
    (vss_cons (vs_if (vt_w (vw_or (vt_cmp op_lt os_lt (vv 2) ve_int (nomark _)) (vw_or (vt_cmp (op_eqD hr.units) (os_eq rfl) (vv 4) ve_int (nomark _)) (vw_or1 (vt_w (vw_and (vt_cmp op_lt os_lt (vv 2) ve_int (nomark _)) (vw_and1 (vt_cmp (op_eqD hr.units) (os_eq rfl) (vv 3) ve_int (nomark _))))))))) (vss_one (vs_ret (ve_call (ok__law_leaf T) (hr.mono (by omega)) rfl (m__law_leaf T) (F__law_leaf T).kp (bd__law_leaf T) (takes_of rfl rfl rfl rfl) (va_cons (vv 0) (va_cons (vv 1) va_nil))))) vss_nil)
    (vss_cons (vs_if (vt_w (vw_and (vt_cmp op_gt os_gt (vv 3) ve_int (nomark _)) (vw_and1 (vt_w (vw_or (vt_cmp op_lt os_lt (vv 4) ve_int (nomark _)) (vw_or1 (vt_cmp op_lt os_lt (vv 2) ve_int (nomark _)))))))) (vss_one (vs_ret (ve_tup (va_cons ve_str (va_cons (ve_call (ih__law_drawn) hr rfl (m__law_drawn T) (F__law_drawn T).kp (bd__law_drawn T) (takes_of rfl rfl rfl rfl) (va_cons (vv 0) (va_cons (vv 1) (va_cons (ve_bin op_sub os_sub (vv 2) ve_int) (va_cons (ve_bin op_sub os_sub (vv 3) ve_int) va_nil))))) va_nil))))) vss_nil)
    (vss_cons (vs_set (i := 5) sc__law_drawn.nd rfl (by first | exact Or.inl rfl | exact Or.inr rfl) (ve_bin op_add4 (os_add rfl) ve_int (ve_call (ok__law_pull T) (hr.mono (by omega)) rfl (m__law_pull T) (F__law_pull T).kp (bd__law_pull T) (takes_of rfl rfl rfl rfl) (va_cons (vv 0) (va_cons (ve_bin op_sub os_sub (vv 2) ve_int) va_nil)))))
    (vss_cons (vs_set (i := 6) sc__law_drawn.nd rfl (by first | exact Or.inl rfl | exact Or.inr rfl) (ve_call (ih__law_drawn) hr rfl (m__law_drawn T) (F__law_drawn T).kp (bd__law_drawn T) (takes_of rfl rfl rfl rfl) (va_cons (vv 0) (va_cons (vv 1) (va_cons (vv 5) (va_cons (vv 3) va_nil))))))
    (vss_one (vs_ret (ve_tup (va_cons (ve_ix rfl (ve_lst (va_cons ve_str (va_cons ve_str (va_cons ve_str va_nil)))) (ve_bin op_modN os_mod (vv 4) ve_int)) (va_cons (vv 6) (va_cons (ve_call (ih__law_drawn) hr rfl (m__law_drawn T) (F__law_drawn T).kp (bd__law_drawn T) (takes_of rfl rfl rfl rfl) (va_cons (vv 0) (va_cons (vv 1) (va_cons (ve_bin op_sub os_sub (ve_bin op_sub os_sub (vv 2) ve_int) (vv 5)) (va_cons (vv 3) va_nil))))) va_nil)))))))))))
theorem ok_is_letter (T : T0 P mg base w) : FnOk Pr w P.K mg base (L2.CX Pr w) 1 (He.ga P.K "is_letter") (fdOf P.K ("is_letter", none)) ["text"] (spF P 1 f_is_letter) := by
  unfold f_is_letter
  exact fn_ok (F_is_letter T) sc_is_letter rfl fun cdv A outer s H E hr => (vss_one (vs_ret (ve_and (ve_chain op_le op_le os_le os_le ve_int (ve_callB call_len (cs_len rfl) rfl (z_len T) (by decide +kernel) (va_cons (vv 0) va_nil)) (n_LONGEST T)) (ve_one (ve_callB (cr_all rfl) (cs_all rfl) rfl (z_all T) (by decide +kernel) (va_cons (ve_lc (own := [("sign", 1)]) rfl sc_is_letter.nd (vi_any rfl (vv 0)) (blkOk_by (by kernel_rfl)) (fun _ _ _ _ _ => (vg_name (i := 1) sc_is_letter.nd rfl (by first | exact Or.inl rfl | exact Or.inr rfl))) (fun _ _ _ _ _ => vts_nil) (fun _ _ _ _ _ => (ve_cmp op_inA (os_in rfl false) (vv 1) (n_SMALL T) rfl))) va_nil))))))
theorem ok_divisor (T : T0 P mg base w) : FnOk Pr w P.K mg base (L2.CX Pr w) 1 (He.ga P.K "divisor") (fdOf P.K ("divisor", none)) ["one", "other"] (spF P 2 f_divisor) := by
  unfold f_divisor
  exact fn_ok (F_divisor T) sc_divisor rfl fun cdv A outer s H E hr => (vss_cons (vs_par (i := 0) (j := 1) rfl sc_divisor.nd rfl rfl (by decide) rfl rfl (va_cons (ve_callB call_abs cs_abs rfl (z_abs T) (by decide +kernel) (va_cons (vv 0) va_nil)) (va_cons (ve_callB call_abs cs_abs rfl (z_abs T) (by decide +kernel) (va_cons (vv 1) va_nil)) va_nil)) (by rfl))
    (vss_cons (vs_while (passes_of rfl) (vt_cmp op_gt os_gt (vv 1) ve_int (nomark _)) (vss_one (vs_par (i := 0) (j := 1) rfl sc_divisor.nd rfl rfl (by decide) rfl rfl (va_cons (vv 1) (va_cons (ve_bin op_modN os_mod (vv 0) (vv 1)) va_nil)) (by rfl))))
    (vss_one (vs_ret (vv 0)))))
theorem ok_is_share (T : T0 P mg base w) : FnOk Pr w P.K mg base (L2.CX Pr w) 2 (He.ga P.K "is_share") (fdOf P.K ("is_share", none)) ["thing"] (spF P 1 f_is_share) := by
  unfold f_is_share
  exact fn_ok (F_is_share T) sc_is_share rfl fun cdv A outer s H E hr => (vss_cons (vs_if (vt_w (vw_or (vt_not (vt_val (ve_isi .tuple rfl rfl (z_isinstance T) (vv 0) (pe_bltn rfl (z_tuple T) (by decide +kernel) rfl)))) (vw_or1 (vt_cmp (op_neD hr.units) (os_ne rfl) (ve_callB call_len (cs_len rfl) rfl (z_len T) (by decide +kernel) (va_cons (vv 0) va_nil)) ve_int (nomark _))))) (vss_one (vs_ret ve_bl)) vss_nil)
    (vss_cons (vs_for (passes_of rfl) rfl (vi_any rfl (vv 0)) (vg_name (i := 1) sc_is_share.nd rfl (by first | exact Or.inl rfl | exact Or.inr rfl)) (vss_one (vs_if (vt_w (vw_or (vt_not (vt_val (ve_isi .int rfl rfl (z_isinstance T) (vv 1) (pe_bltn rfl (z_int T) (by decide +kernel) rfl)))) (vw_or1 (vt_val (ve_isi .bool rfl rfl (z_isinstance T) (vv 1) (pe_bltn rfl (z_bool T) (by decide +kernel) rfl)))))) (vss_one (vs_ret ve_bl)) vss_nil)))
    (vss_one (vs_ret (ve_and (ve_cmp op_gt os_gt (ve_ix rfl (vv 0) ve_int) ve_int (nomark _)) (ve_one (ve_cmp (op_eqD hr.units) (os_eq rfl) (ve_call (ok_divisor T) (hr.mono (by omega)) rfl (m_divisor T) (F_divisor T).kp (bd_divisor T) (takes_of rfl rfl rfl rfl) (va_cons (ve_ix rfl (vv 0) ve_int) (va_cons (ve_ix rfl (vv 0) ve_int) va_nil))) ve_int (nomark _))))))))
theorem ok_is_leaf (T : T0 P mg base w) : FnOk Pr w P.K mg base (L2.CX Pr w) 3 (He.ga P.K "is_leaf") (fdOf P.K ("is_leaf", none)) ["thing"] (spF P 1 f_is_leaf) := by
  unfold f_is_leaf
  exact fn_ok (F_is_leaf T) sc_is_leaf rfl fun cdv A outer s H E hr => (vss_cons (vs_if (vt_cmp (op_neD hr.units) (os_ne rfl) (ve_callB call_len (cs_len rfl) rfl (z_len T) (by decide +kernel) (va_cons (vv 0) va_nil)) ve_int (nomark _)) (vss_one (vs_ret ve_bl)) vss_nil)
    (vss_cons (vs_if (vt_cmp (op_eqD hr.units) (os_eq rfl) (ve_ix rfl (vv 0) ve_int) ve_str (nomark _)) (vss_one (vs_ret (ve_and (ve_isi .str rfl rfl (z_isinstance T) (ve_ix rfl (vv 0) ve_int) (pe_bltn rfl (z_str T) (by decide +kernel) rfl)) (ve_one (ve_call (ok_is_letter T) (hr.mono (by omega)) rfl (m_is_letter T) (F_is_letter T).kp (bd_is_letter T) (takes_of rfl rfl rfl rfl) (va_cons (ve_ix rfl (vv 0) ve_int) va_nil)))))) vss_nil)
    (vss_one (vs_ret (ve_call (ok_is_share T) (hr.mono (by omega)) rfl (m_is_share T) (F_is_share T).kp (bd_is_share T) (takes_of rfl rfl rfl rfl) (va_cons (ve_ix rfl (vv 0) ve_int) va_nil))))))
theorem ok_is_built (T : T0 P mg base w) : ∀ n : Nat, FnOk Pr w P.K mg base (L2.CX Pr w) (3 + n) (He.ga P.K "is_built") (fdOf P.K ("is_built", none)) ["thing"] (spF P 1 (f_is_built n))
  | 0 => by rw [f_is_built_0]; exact fn_bad rfl
  | n + 1 => by
    have ih_is_built := ok_is_built T n
    rw [f_is_built_s]
    exact fn_ok (F_is_built T) sc_is_built rfl fun cdv A outer s H E hr0 => have hr : Room (3 + n) _ := hr0; (vss_cons (vs_if (vt_w (vw_or (vt_not (vt_val (ve_isi .tuple rfl rfl (z_isinstance T) (vv 0) (pe_bltn rfl (z_tuple T) (by decide +kernel) rfl)))) (vw_or (vt_cmp (op_eqD hr.units) (os_eq rfl) (ve_callB call_len (cs_len rfl) rfl (z_len T) (by decide +kernel) (va_cons (vv 0) va_nil)) ve_int (nomark _)) (vw_or1 (vt_not (vt_val (ve_isi .str rfl rfl (z_isinstance T) (ve_ix rfl (vv 0) ve_int) (pe_bltn rfl (z_str T) (by decide +kernel) rfl)))))))) (vss_one (vs_ret ve_bl)) vss_nil)
    (vss_cons (vs_if (vt_cmp op_inA (os_in rfl false) (ve_ix rfl (vv 0) ve_int) (ve_tup (va_cons ve_str (va_cons ve_str va_nil))) rfl) (vss_one (vs_ret (ve_call (ok_is_leaf T) (hr.mono (by omega)) rfl (m_is_leaf T) (F_is_leaf T).kp (bd_is_leaf T) (takes_of rfl rfl rfl rfl) (va_cons (vv 0) va_nil)))) vss_nil)
    (vss_cons (vs_if (vt_w (vw_or (vt_cmp (op_neD hr.units) (os_ne rfl) (ve_callB call_len (cs_len rfl) rfl (z_len T) (by decide +kernel) (va_cons (vv 0) va_nil)) (ve_bin op_add4 (os_add rfl) (ve_kget2 rfl (kd_THINGS T) (mk_THINGS T) rfl (ve_ix rfl (vv 0) ve_int) ve_int ⟨rfl, rfl, rfl, rfl⟩) ve_int) (nomark _)) (vw_or1 (vt_kni rfl (kd_THINGS T) (mk_THINGS T) rfl (ve_ix rfl (vv 0) ve_int))))) (vss_one (vs_ret ve_bl)) vss_nil)
    (vss_one (vs_ret (ve_callB (cr_all rfl) (cs_all rfl) rfl (z_all T) (by decide +kernel) (va_cons (ve_lc (own := [("inner", 1)]) rfl sc_is_built.nd (vi_any rfl (ve_slG sl3 (ss_sl3 rfl) (vv 0) (vo_some ve_int) vo_none)) (blkOk_by (by kernel_rfl)) (fun _ _ _ _ _ => (vg_name (i := 1) sc_is_built.nd rfl (by first | exact Or.inl rfl | exact Or.inr rfl))) (fun _ _ _ _ _ => vts_nil) (fun _ _ _ _ _ => (ve_call (ih_is_built) hr rfl (m_is_built T) (F_is_built T).kp (bd_is_built T) L2.takes0 (va_cons (vv 1) va_nil)))) va_nil)))))))
theorem ok_things_in (T : T0 P mg base w) : FnOk Pr w P.K mg base (L2.CX Pr w) 1 (He.ga P.K "things_in") (fdOf P.K ("things_in", none)) ["term"] (spF P 1 f_things_in) := by
  unfold f_things_in
  exact fn_ok (F_things_in T) sc_things_in rfl fun cdv A outer s H E hr => (vss_one (vs_ret (ve_if (vt_kin rfl (kd_THINGS T) (mk_THINGS T) rfl (ve_ix rfl (vv 0) ve_int)) (ve_slG sl3 (ss_sl3 rfl) (vv 0) (vo_some ve_int) vo_none) (ve_tup va_nil))))
theorem ok_many_parts (T : T0 P mg base w) : ∀ n : Nat, FnOk Pr w P.K mg base (L2.CX Pr w) (1 + n) (He.ga P.K "many_parts") (fdOf P.K ("many_parts", none)) ["term"] (spF P 1 (f_many_parts n))
  | 0 => by rw [f_many_parts_0]; exact fn_bad rfl
  | n + 1 => by
    have ih_many_parts := ok_many_parts T n
    rw [f_many_parts_s]
    exact fn_ok (F_many_parts T) sc_many_parts rfl fun cdv A outer s H E hr0 => have hr : Room (1 + n) _ := hr0; (vss_one (vs_ret (ve_bin op_add4 (os_add rfl) ve_int (ve_callB (cr_sum rfl) (cs_sum rfl) rfl (z_sum T) (by decide +kernel) (va_cons (ve_lc (own := [("inner", 1)]) rfl sc_many_parts.nd (vi_any rfl (ve_call (ok_things_in T) (hr.mono (by omega)) rfl (m_things_in T) (F_things_in T).kp (bd_things_in T) (takes_of rfl rfl rfl rfl) (va_cons (vv 0) va_nil))) (blkOk_by (by kernel_rfl)) (fun _ _ _ _ _ => (vg_name (i := 1) sc_many_parts.nd rfl (by first | exact Or.inl rfl | exact Or.inr rfl))) (fun _ _ _ _ _ => vts_nil) (fun _ _ _ _ _ => (ve_call (ih_many_parts) hr rfl (m_many_parts T) (F_many_parts T).kp (bd_many_parts T) L2.takes0 (va_cons (vv 1) va_nil)))) va_nil)))))
theorem ok_all_letters (T : T0 P mg base w) : ∀ n : Nat, FnOk Pr w P.K mg base (L2.CX Pr w) (1 + n) (He.ga P.K "all_letters") (fdOf P.K ("all_letters", none)) ["term"] (spF P 1 (f_all_letters n))
  | 0 => by rw [f_all_letters_0]; exact fn_bad rfl
  | n + 1 => by
    have ih_all_letters := ok_all_letters T n
    rw [f_all_letters_s]
    exact fn_ok (F_all_letters T) sc_all_letters rfl fun cdv A outer s H E hr0 => have hr : Room (1 + n) _ := hr0; (vss_cons (vs_if (vt_cmp (op_eqD hr.units) (os_eq rfl) (ve_ix rfl (vv 0) ve_int) ve_str (nomark _)) (vss_one (vs_ret (ve_lst (va_cons (ve_ix rfl (vv 0) ve_int) va_nil)))) vss_nil)
    (vss_one (vs_ret (ve_lc2 (own := [("inner", 1), ("letter", 2)]) (vs1 := [2]) rfl sc_all_letters.nd (vi_any rfl (ve_call (ok_things_in T) (hr.mono (by omega)) rfl (m_things_in T) (F_things_in T).kp (bd_things_in T) (takes_of rfl rfl rfl rfl) (va_cons (vv 0) va_nil))) (blkOk_by (by kernel_rfl)) (fun _ _ _ _ _ => (vg_name (i := 1) sc_all_letters.nd rfl (by first | exact Or.inl rfl | exact Or.inr rfl))) (fun _ _ _ _ _ => vts_nil) (fun _ _ _ _ _ => (vi_any rfl (ve_call (ih_all_letters) hr rfl (m_all_letters T) (F_all_letters T).kp (bd_all_letters T) L2.takes0 (va_cons (vv 1) va_nil)))) (fun _ _ _ _ _ => (vg_name (i := 2) sc_all_letters.nd rfl (by first | exact Or.inl rfl | exact Or.inr rfl))) (fun _ _ _ _ _ => vts_nil) (fun _ _ _ _ _ => (vv 2))))))
theorem ok_letters_of (T : T0 P mg base w) : FnOk Pr w P.K mg base (L2.CX Pr w) 32 (He.ga P.K "letters_of") (fdOf P.K ("letters_of", none)) ["term"] (spF P 1 f_letters_of) := by
  unfold f_letters_of
  exact fn_ok (F_letters_of T) sc_letters_of rfl fun cdv A outer s H E hr => (vss_one (vs_ret (ve_sortC (y := "letter") (i := 1) rfl sc_letters_of.nd rfl (ve_call (ok_all_letters T 30) (hr.mono (by omega)) rfl (m_all_letters T) (F_all_letters T).kp (bd_all_letters T) (takes_of rfl rfl rfl rfl) (va_cons (vv 0) va_nil)) (blkOk_by (by kernel_rfl)) rfl (fun _ _ _ _ _ => (by first | exact Or.inl rfl | exact Or.inr rfl)) (fun _ _ _ _ _ => (by first | exact Or.inl rfl | exact Or.inr rfl)) (fun _ _ _ _ _ => (by first | exact Or.inl rfl | exact Or.inr (Or.inl rfl) | exact Or.inr (Or.inr rfl))) (by decide) (by decide) rfl (z_sorted T) (by decide +kernel))))
theorem ok_deep_of (T : T0 P mg base w) : ∀ n : Nat, FnOk Pr w P.K mg base (L2.CX Pr w) (1 + n) (He.ga P.K "deep_of") (fdOf P.K ("deep_of", none)) ["term"] (spF P 1 (f_deep_of n))
  | 0 => by rw [f_deep_of_0]; exact fn_bad rfl
  | n + 1 => by
    have ih_deep_of := ok_deep_of T n
    rw [f_deep_of_s]
    exact fn_ok (F_deep_of T) sc_deep_of rfl fun cdv A outer s H E hr0 => have hr : Room (1 + n) _ := hr0; (vss_cons (vs_set (i := 1) sc_deep_of.nd rfl (by first | exact Or.inl rfl | exact Or.inr rfl) (ve_maxD rfl rfl (ve_lc (own := [("inner", 2)]) rfl sc_deep_of.nd (vi_any rfl (ve_call (ok_things_in T) (hr.mono (by omega)) rfl (m_things_in T) (F_things_in T).kp (bd_things_in T) (takes_of rfl rfl rfl rfl) (va_cons (vv 0) va_nil))) (blkOk_by (by kernel_rfl)) (fun _ _ _ _ _ => (vg_name (i := 2) sc_deep_of.nd rfl (by first | exact Or.inl rfl | exact Or.inr rfl))) (fun _ _ _ _ _ => vts_nil) (fun _ _ _ _ _ => (ve_call (ih_deep_of) hr rfl (m_deep_of T) (F_deep_of T).kp (bd_deep_of T) L2.takes0 (va_cons (vv 2) va_nil)))) ve_int rfl (z_max T) (by decide +kernel)))
    (vss_one (vs_ret (ve_bin op_add4 (os_add rfl) (vv 1) (ve_callTy cr_int3 cs_int3 rfl (z_int T) (by decide +kernel) (va_cons (ve_cmp (op_eqD hr.units) (os_eq rfl) (ve_ix rfl (vv 0) ve_int) ve_str (nomark _)) va_nil))))))
theorem ok_flaw_in (T : T0 P mg base w) : FnOk Pr w P.K mg base (L2.CX Pr w) 33 (He.ga P.K "flaw_in") (fdOf P.K ("flaw_in", none)) ["term"] (spF P 1 f_flaw_in) := by
  unfold f_flaw_in
  exact fn_ok (F_flaw_in T) sc_flaw_in rfl fun cdv A outer s H E hr => (vss_cons (vs_if (vt_cmp op_gt os_gt (ve_call (ok_many_parts T 30) (hr.mono (by omega)) rfl (m_many_parts T) (F_many_parts T).kp (bd_many_parts T) (takes_of rfl rfl rfl rfl) (va_cons (vv 0) va_nil)) (n_MOST_PARTS T) (nomark _)) (vss_one (vs_ret ve_str)) vss_nil)
    (vss_cons (vs_if (vt_cmp op_gt os_gt (ve_callB call_len (cs_len rfl) rfl (z_len T) (by decide +kernel) (va_cons (ve_call (ok_letters_of T) (hr.mono (by omega)) rfl (m_letters_of T) (F_letters_of T).kp (bd_letters_of T) (takes_of rfl rfl rfl rfl) (va_cons (vv 0) va_nil)) va_nil)) (n_MOST_LETTERS T) (nomark _)) (vss_one (vs_ret ve_str)) vss_nil)
    (vss_one (vs_ret (ve_if (vt_cmp op_gt os_gt (ve_call (ok_deep_of T 30) (hr.mono (by omega)) rfl (m_deep_of T) (F_deep_of T).kp (bd_deep_of T) (takes_of rfl rfl rfl rfl) (va_cons (vv 0) va_nil)) (n_MOST_DEEP T) (nomark _)) ve_str ve_non)))))
theorem ok_flaw_of (T : T0 P mg base w) : FnOk Pr w P.K mg base (L2.CX Pr w) 34 (He.ga P.K "flaw_of") (fdOf P.K ("flaw_of", none)) ["term"] (spF P 1 f_flaw_of) := by
  unfold f_flaw_of
  exact fn_ok (F_flaw_of T) sc_flaw_of rfl fun cdv A outer s H E hr => (vss_one (vs_ret (ve_if (vt_val (ve_call (ok_is_built T 30) (hr.mono (by omega)) rfl (m_is_built T) (F_is_built T).kp (bd_is_built T) (takes_of rfl rfl rfl rfl) (va_cons (vv 0) va_nil))) (ve_call (ok_flaw_in T) (hr.mono (by omega)) rfl (m_flaw_in T) (F_flaw_in T).kp (bd_flaw_in T) (takes_of rfl rfl rfl rfl) (va_cons (vv 0) va_nil)) ve_str)))
theorem ok_need_term (T : T0 P mg base w) : FnOk Pr w P.K mg base (L2.CX Pr w) 35 (He.ga P.K "need_term") (fdOf P.K ("need_term", none)) ["term"] (spF P 1 f_need_term) := by
  unfold f_need_term
  exact fn_ok (F_need_term T) sc_need_term rfl fun cdv A outer s H E hr => (vss_cons (vs_set (i := 1) sc_need_term.nd rfl (by first | exact Or.inl rfl | exact Or.inr rfl) (ve_call (ok_flaw_of T) (hr.mono (by omega)) rfl (m_flaw_of T) (F_flaw_of T).kp (bd_flaw_of T) (takes_of rfl rfl rfl rfl) (va_cons (vv 0) va_nil)))
    (vss_one (vs_if (vt_notN (vv 1)) (vss_one (vs_raise rfl (takes_of rfl rfl rfl rfl) (o_BadTerm T) (i_BadTerm T) (t_BadTerm T) (okx_BadTerm T) (hr.mono (by omega)) (bx_BadTerm T) L2.passL rfl (m_BadTerm T) xmk1 (fx_BadTerm T) (cl_BadTerm T) (va_cons (vv 1) va_nil))) vss_nil)))
theorem ok_nudged_by (T : T0 P mg base w) : ∀ n : Nat, FnOk Pr w P.K mg base (L2.CX Pr w) (0 + n) (He.ga P.K "nudged_by") (fdOf P.K ("nudged_by", none)) ["term", "letter", "by"] (spF P 3 (f_nudged_by n))
  | 0 => by rw [f_nudged_by_0]; exact fn_bad rfl
  | n + 1 => by
    have ih_nudged_by := ok_nudged_by T n
    rw [f_nudged_by_s]
    exact fn_ok (F_nudged_by T) sc_nudged_by rfl fun cdv A outer s H E hr0 => have hr : Room (0 + n) _ := hr0; (vss_cons (vs_star (i := 3) (j := 4) rfl rfl sc_nudged_by.nd rfl rfl rfl rfl (vv 0))
    (vss_cons (vs_if (vt_cmp (op_eqD hr.units) (os_eq rfl) (vv 3) ve_str (nomark _)) (vss_one (vs_ret (ve_if (vt_cmp (op_eqD hr.units) (os_eq rfl) (ve_ix rfl (vv 4) ve_int) (vv 1) (nomark _)) (vv 2) (n_NOTHING T)))) vss_nil)
    (vss_cons (vs_if (vt_cmp (op_eqD hr.units) (os_eq rfl) (vv 3) ve_str (nomark _)) (vss_one (vs_ret (n_NOTHING T))) vss_nil)
    (vss_cons (vs_setLc (i := 5) (own := [("inner", 6)]) rfl sc_nudged_by.nd rfl rfl (sw_true rfl rfl rfl (by decide +kernel)) (vi_any rfl (vv 4)) (blkOk_by (by kernel_rfl)) (fun _ _ _ _ _ => (vg_name (i := 6) sc_nudged_by.nd rfl (by first | exact Or.inl rfl | exact Or.inr rfl))) (fun _ _ _ _ _ => vts_nil) (fun _ _ _ _ _ => (ve_call (ih_nudged_by) hr rfl (m_nudged_by T) (F_nudged_by T).kp (bd_nudged_by T) L2.takes0 (va_cons (vv 6) (va_cons (vv 1) (va_cons (vv 2) va_nil))))))
    (vss_cons (vs_if (vt_cmp (op_eqD hr.units) (os_eq rfl) (vv 3) ve_str (nomark _)) (vss_one (vs_ret (ve_tup (va_cons ve_str (va_cons (n_NOTHING T) (va_cons (ve_tup (va_cons ve_str (va_cons (vv 0) (va_cons (ve_tup (va_cons ve_str (va_cons (ve_ix rfl (vv 5) ve_int) (va_cons (vv 0) va_nil)))) va_nil)))) va_nil)))))) vss_nil)
    (vss_cons (vs_if (vt_cmp (op_eqD hr.units) (os_eq rfl) (vv 3) ve_str (nomark _)) (vss_one (vs_ret (ve_tup (va_cons ve_str (va_cons (ve_tup (va_cons ve_str (va_cons (ve_ix rfl (vv 5) ve_int) (va_cons (ve_ix rfl (vv 4) ve_int) va_nil)))) (va_cons (ve_tup (va_cons ve_str (va_cons (ve_ix rfl (vv 4) ve_int) (va_cons (ve_ix rfl (vv 5) ve_int) va_nil)))) va_nil)))))) vss_nil)
    (vss_one (vs_ret (ve_tup (va_cons (vv 3) (va_cons (ve_ix rfl (vv 5) ve_int) (va_cons (ve_ix rfl (vv 5) ve_int) va_nil))))))))))))
theorem ok_need_good (T : T0 P mg base w) : FnOk Pr w P.K mg base (L2.CX Pr w) 34 (He.ga P.K "need_good") (fdOf P.K ("need_good", none)) ["term"] (spF P 1 f_need_good) := by
  unfold f_need_good
  exact fn_ok (F_need_good T) sc_need_good rfl fun cdv A outer s H E hr => (vss_cons (vs_set (i := 1) sc_need_good.nd rfl (by first | exact Or.inl rfl | exact Or.inr rfl) (ve_call (ok_flaw_in T) (hr.mono (by omega)) rfl (m_flaw_in T) (F_flaw_in T).kp (bd_flaw_in T) (takes_of rfl rfl rfl rfl) (va_cons (vv 0) va_nil)))
    (vss_cons (vs_if (vt_notN (vv 1)) (vss_one (vs_raise rfl (takes_of rfl rfl rfl rfl) (o_BadTerm T) (i_BadTerm T) (t_BadTerm T) (okx_BadTerm T) (hr.mono (by omega)) (bx_BadTerm T) L2.passL rfl (m_BadTerm T) xmk1 (fx_BadTerm T) (cl_BadTerm T) (va_cons (vv 1) va_nil))) vss_nil)
    (vss_one (vs_ret (vv 0)))))
theorem ok_nudged (T : T0 P mg base w) : FnOk Pr w P.K mg base (L2.CX Pr w) 36 (He.ga P.K "nudged") (fdOf P.K ("nudged", none)) ["term", "letter", "by"] (spF P 3 f_nudged) := by
  unfold f_nudged
  exact fn_ok (F_nudged T) sc_nudged rfl fun cdv A outer s H E hr => (vss_cons (vs_expr (ve_call (ok_need_term T) (hr.mono (by omega)) rfl (m_need_term T) (F_need_term T).kp (bd_need_term T) (takes_of rfl rfl rfl rfl) (va_cons (vv 0) va_nil)))
    (vss_cons (vs_expr (ve_call (ok_need_term T) (hr.mono (by omega)) rfl (m_need_term T) (F_need_term T).kp (bd_need_term T) (takes_of rfl rfl rfl rfl) (va_cons (vv 2) va_nil)))
    (vss_one (vs_ret (ve_call (ok_need_good T) (hr.mono (by omega)) rfl (m_need_good T) (F_need_good T).kp (bd_need_good T) (takes_of rfl rfl rfl rfl) (va_cons (ve_call (ok_nudged_by T 30) (hr.mono (by omega)) rfl (m_nudged_by T) (F_nudged_by T).kp (bd_nudged_by T) (takes_of rfl rfl rfl rfl) (va_cons (vv 0) (va_cons (vv 1) (va_cons (vv 2) va_nil)))) va_nil))))))
theorem ok__law_moved (T : T0 P mg base w) : ∀ n : Nat, FnOk Pr w P.K mg base (L2.CX Pr w) (0 + n) (He.ga P.K "_law_moved") (fdOf P.K ("_law_moved", none)) ["_law_term", "_law_sign", "_law_per"] (spF P 3 (f__law_moved n))
  | 0 => by rw [f__law_moved_0]; exact fn_bad rfl
  | n + 1 => by
    have ih__law_moved := ok__law_moved T n
    rw [f__law_moved_s]
    exact fn_ok (F__law_moved T) sc__law_moved rfl fun cdv A outer s H E hr0 => have hr : Room (0 + n) _ := hr0; (vss_cons (vs_set (i := 3) sc__law_moved.nd rfl (by first | exact Or.inl rfl | exact Or.inr rfl) (ve_tup (va_cons ve_str (va_cons (ve_tup (va_cons ve_int (va_cons ve_int va_nil))) va_nil))))
    (vss_cons (vs_if (vt_cmp op_inA (os_in rfl false) (ve_ix rfl (vv 0) ve_int) (ve_tup (va_cons ve_str (va_cons ve_str va_nil))) rfl) (vss_one (vs_ret (ve_if (vt_cmp (op_eqD hr.units) (os_eq rfl) (vv 0) (ve_tup (va_cons ve_str (va_cons (vv 1) va_nil))) (nomark _)) (vv 2) (vv 3)))) vss_nil)
    (vss_cons (vs_setLc (i := 4) (own := [("_law_part_now", 5)]) rfl sc__law_moved.nd rfl rfl (sw_true rfl rfl rfl (by decide +kernel)) (vi_any rfl (ve_slG sl3 (ss_sl3 rfl) (vv 0) (vo_some ve_int) vo_none)) (blkOk_by (by kernel_rfl)) (fun _ _ _ _ _ => (vg_name (i := 5) sc__law_moved.nd rfl (by first | exact Or.inl rfl | exact Or.inr rfl))) (fun _ _ _ _ _ => vts_nil) (fun _ _ _ _ _ => (ve_call (ih__law_moved) hr rfl (m__law_moved T) (F__law_moved T).kp (bd__law_moved T) L2.takes0 (va_cons (vv 5) (va_cons (vv 1) (va_cons (vv 2) va_nil))))))
    (vss_cons (vs_if (vt_cmp (op_eqD hr.units) (os_eq rfl) (ve_ix rfl (vv 0) ve_int) ve_str (nomark _)) (vss_one (vs_ret (ve_tup (va_cons ve_str (va_cons (vv 3) (va_cons (ve_tup (va_cons ve_str (va_cons (vv 0) (va_cons (ve_tup (va_cons ve_str (va_cons (ve_ix rfl (vv 4) ve_int) (va_cons (vv 0) va_nil)))) va_nil)))) va_nil)))))) vss_nil)
    (vss_cons (vs_if (vt_cmp (op_eqD hr.units) (os_eq rfl) (ve_ix rfl (vv 0) ve_int) ve_str (nomark _)) (vss_one (vs_ret (ve_tup (va_cons ve_str (va_cons (ve_tup (va_cons ve_str (va_cons (ve_ix rfl (vv 4) ve_int) (va_cons (ve_ix rfl (vv 0) ve_int) va_nil)))) (va_cons (ve_tup (va_cons ve_str (va_cons (ve_ix rfl (vv 0) ve_int) (va_cons (ve_ix rfl (vv 4) ve_int) va_nil)))) va_nil)))))) vss_nil)
    (vss_one (vs_ret (ve_tup (va_cons (ve_ix rfl (vv 0) ve_int) (va_cons (ve_ix rfl (vv 4) ve_int) (va_cons (ve_ix rfl (vv 4) ve_int) va_nil)))))))))))
theorem ok__law_inner (T : T0 P mg base w) : FnOk Pr w P.K mg base (L2.CX Pr w) 1 (He.ga P.K "_law_inner") (fdOf P.K ("_law_inner", none)) ["_law_term"] (spF P 1 f__law_inner) := by
  unfold f__law_inner
  exact fn_ok (F__law_inner T) sc__law_inner rfl fun cdv A outer s H E hr => (vss_one (vs_ret (ve_if (vt_cmp op_inA (os_in rfl false) (ve_ix rfl (vv 0) ve_int) (ve_tup (va_cons ve_str (va_cons ve_str (va_cons ve_str (va_cons ve_str va_nil))))) rfl) (ve_slG sl3 (ss_sl3 rfl) (vv 0) (vo_some ve_int) vo_none) (ve_tup va_nil))))
theorem ok__law_count (T : T0 P mg base w) : ∀ n : Nat, FnOk Pr w P.K mg base (L2.CX Pr w) (1 + n) (He.ga P.K "_law_count") (fdOf P.K ("_law_count", none)) ["_law_term"] (spF P 1 (f__law_count n))
  | 0 => by rw [f__law_count_0]; exact fn_bad rfl
  | n + 1 => by
    have ih__law_count := ok__law_count T n
    rw [f__law_count_s]
    exact fn_ok (F__law_count T) sc__law_count rfl fun cdv A outer s H E hr0 => have hr : Room (1 + n) _ := hr0; (vss_one (vs_ret (ve_bin op_add4 (os_add rfl) ve_int (ve_callB (cr_sum rfl) (cs_sum rfl) rfl (z_sum T) (by decide +kernel) (va_cons (ve_lc (own := [("_law_part_now", 1)]) rfl sc__law_count.nd (vi_any rfl (ve_call (ok__law_inner T) (hr.mono (by omega)) rfl (m__law_inner T) (F__law_inner T).kp (bd__law_inner T) (takes_of rfl rfl rfl rfl) (va_cons (vv 0) va_nil))) (blkOk_by (by kernel_rfl)) (fun _ _ _ _ _ => (vg_name (i := 1) sc__law_count.nd rfl (by first | exact Or.inl rfl | exact Or.inr rfl))) (fun _ _ _ _ _ => vts_nil) (fun _ _ _ _ _ => (ve_call (ih__law_count) hr rfl (m__law_count T) (F__law_count T).kp (bd__law_count T) L2.takes0 (va_cons (vv 1) va_nil)))) va_nil)))))
theorem ok__law_all_parts (T : T0 P mg base w) : ∀ n : Nat, FnOk Pr w P.K mg base (L2.CX Pr w) (1 + n) (He.ga P.K "_law_all_parts") (fdOf P.K ("_law_all_parts", none)) ["_law_term"] (spF P 1 (f__law_all_parts n))
  | 0 => by rw [f__law_all_parts_0]; exact fn_bad rfl
  | n + 1 => by
    have ih__law_all_parts := ok__law_all_parts T n
    rw [f__law_all_parts_s]
    exact fn_ok (F__law_all_parts T) sc__law_all_parts rfl fun cdv A outer s H E hr0 => have hr : Room (1 + n) _ := hr0; (vss_cons (vs_set (i := 1) sc__law_all_parts.nd rfl (by first | exact Or.inl rfl | exact Or.inr rfl) (ve_lst (va_cons (vv 0) va_nil)))
    (vss_cons (vs_for (passes_of rfl) rfl (vi_any rfl (ve_call (ok__law_inner T) (hr.mono (by omega)) rfl (m__law_inner T) (F__law_inner T).kp (bd__law_inner T) (takes_of rfl rfl rfl rfl) (va_cons (vv 0) va_nil))) (vg_name (i := 2) sc__law_all_parts.nd rfl (by first | exact Or.inl rfl | exact Or.inr rfl)) (vss_one (vs_set (i := 1) sc__law_all_parts.nd rfl (by first | exact Or.inl rfl | exact Or.inr rfl) (ve_bin op_add4 (os_add rfl) (vv 1) (ve_call (ih__law_all_parts) hr rfl (m__law_all_parts T) (F__law_all_parts T).kp (bd__law_all_parts T) (takes_of rfl rfl rfl rfl) (va_cons (vv 2) va_nil))))))
    (vss_one (vs_ret (vv 1)))))
theorem ok__law_letters (T : T0 P mg base w) : FnOk Pr w P.K mg base (L2.CX Pr w) 32 (He.ga P.K "_law_letters") (fdOf P.K ("_law_letters", none)) ["_law_term"] (spF P 1 f__law_letters) := by
  unfold f__law_letters
  exact fn_ok (F__law_letters T) sc__law_letters rfl fun cdv A outer s H E hr => (vss_one (vs_ret (ve_sortSet rfl (ve_lc (own := [("_law_one", 1)]) rfl sc__law_letters.nd (vi_any rfl (ve_call (ok__law_all_parts T 30) (hr.mono (by omega)) rfl (m__law_all_parts T) (F__law_all_parts T).kp (bd__law_all_parts T) (takes_of rfl rfl rfl rfl) (va_cons (vv 0) va_nil))) (blkOk_by (by kernel_rfl)) (fun _ _ _ _ _ => (vg_name (i := 1) sc__law_letters.nd rfl (by first | exact Or.inl rfl | exact Or.inr rfl))) (fun _ _ _ _ _ => (vts_one (vt_cmp (op_eqD hr.units) (os_eq rfl) (ve_ix rfl (vv 1) ve_int) ve_str (nomark _)))) (fun _ _ _ _ _ => (ve_ix rfl (vv 1) ve_int))) rfl (z_set T) (by decide +kernel) rfl (z_sorted T) (by decide +kernel))))
theorem ok__law_depth (T : T0 P mg base w) : ∀ n : Nat, FnOk Pr w P.K mg base (L2.CX Pr w) (1 + n) (He.ga P.K "_law_depth") (fdOf P.K ("_law_depth", none)) ["_law_term"] (spF P 1 (f__law_depth n))
  | 0 => by rw [f__law_depth_0]; exact fn_bad rfl
  | n + 1 => by
    have ih__law_depth := ok__law_depth T n
    rw [f__law_depth_s]
    exact fn_ok (F__law_depth T) sc__law_depth rfl fun cdv A outer s H E hr0 => have hr : Room (1 + n) _ := hr0; (vss_one (vs_ret (ve_bin op_add4 (os_add rfl) (ve_callB (cr_max rfl) (cs_maxL rfl) rfl (z_max T) (by decide +kernel) (va_cons (ve_bin op_add4 (os_add rfl) (ve_lst (va_cons ve_int va_nil)) (ve_lc (own := [("_law_part_now", 1)]) rfl sc__law_depth.nd (vi_any rfl (ve_call (ok__law_inner T) (hr.mono (by omega)) rfl (m__law_inner T) (F__law_inner T).kp (bd__law_inner T) (takes_of rfl rfl rfl rfl) (va_cons (vv 0) va_nil))) (blkOk_by (by kernel_rfl)) (fun _ _ _ _ _ => (vg_name (i := 1) sc__law_depth.nd rfl (by first | exact Or.inl rfl | exact Or.inr rfl))) (fun _ _ _ _ _ => vts_nil) (fun _ _ _ _ _ => (ve_call (ih__law_depth) hr rfl (m__law_depth T) (F__law_depth T).kp (bd__law_depth T) L2.takes0 (va_cons (vv 1) va_nil))))) va_nil)) (ve_callTy cr_int3 cs_int3 rfl (z_int T) (by decide +kernel) (va_cons (ve_cmp (op_eqD hr.units) (os_eq rfl) (ve_ix rfl (vv 0) ve_int) ve_str (nomark _)) va_nil)))))
theorem ok__law_fault (T : T0 P mg base w) : FnOk Pr w P.K mg base (L2.CX Pr w) 33 (He.ga P.K "_law_fault") (fdOf P.K ("_law_fault", none)) ["_law_term"] (spF P 1 f__law_fault) := by
  unfold f__law_fault
  exact fn_ok (F__law_fault T) sc__law_fault rfl fun cdv A outer s H E hr => (vss_cons (vs_if (vt_cmp op_gt os_gt (ve_call (ok__law_count T 30) (hr.mono (by omega)) rfl (m__law_count T) (F__law_count T).kp (bd__law_count T) (takes_of rfl rfl rfl rfl) (va_cons (vv 0) va_nil)) ve_int (nomark _)) (vss_one (vs_ret ve_str)) vss_nil)
    (vss_cons (vs_if (vt_cmp op_gt os_gt (ve_callB call_len (cs_len rfl) rfl (z_len T) (by decide +kernel) (va_cons (ve_call (ok__law_letters T) (hr.mono (by omega)) rfl (m__law_letters T) (F__law_letters T).kp (bd__law_letters T) (takes_of rfl rfl rfl rfl) (va_cons (vv 0) va_nil)) va_nil)) ve_int (nomark _)) (vss_one (vs_ret ve_str)) vss_nil)
    (vss_one (vs_ret (ve_if (vt_cmp op_gt os_gt (ve_call (ok__law_depth T 30) (hr.mono (by omega)) rfl (m__law_depth T) (F__law_depth T).kp (bd__law_depth T) (takes_of rfl rfl rfl rfl) (va_cons (vv 0) va_nil)) ve_int (nomark _)) ve_str ve_non)))))
theorem ok__law_same (T : T0 P mg base w) : ∀ n : Nat, FnOk Pr w P.K mg base (L2.CX Pr w) (0 + n) (He.ga P.K "_law_same") (fdOf P.K ("_law_same", none)) ["_law_found", "_law_due"] (spF P 2 (f__law_same n))
  | 0 => by rw [f__law_same_0]; exact fn_bad rfl
  | n + 1 => by
    have ih__law_same := ok__law_same T n
    rw [f__law_same_s]
    exact fn_ok (F__law_same T) sc__law_same rfl fun cdv A outer s H E hr0 => have hr : Room (0 + n) _ := hr0; (vss_cons (vs_if (vt_val (ve_isi2 .list .tuple rfl rfl (z_isinstance T) (vv 1) (pe_bltn rfl (z_list T) (by decide +kernel) rfl) (pe_bltn rfl (z_tuple T) (by decide +kernel) rfl))) (vss_cons (vs_if (vt_w (vw_or (vt_cmp (op_neD hr.units) (os_ne rfl) (ve_isi .list rfl rfl (z_isinstance T) (vv 0) (pe_bltn rfl (z_list T) (by decide +kernel) rfl)) (ve_isi .list rfl rfl (z_isinstance T) (vv 1) (pe_bltn rfl (z_list T) (by decide +kernel) rfl)) (nomark _)) (vw_or1 (vt_cmp (op_neD hr.units) (os_ne rfl) (ve_isi .tuple rfl rfl (z_isinstance T) (vv 0) (pe_bltn rfl (z_tuple T) (by decide +kernel) rfl)) (ve_isi .tuple rfl rfl (z_isinstance T) (vv 1) (pe_bltn rfl (z_tuple T) (by decide +kernel) rfl)) (nomark _))))) (vss_one (vs_ret ve_bl)) vss_nil)
    (vss_one (vs_ret (ve_and (ve_cmp (op_eqD hr.units) (os_eq rfl) (ve_callB call_len (cs_len rfl) rfl (z_len T) (by decide +kernel) (va_cons (vv 0) va_nil)) (ve_callB call_len (cs_len rfl) rfl (z_len T) (by decide +kernel) (va_cons (vv 1) va_nil)) (nomark _)) (ve_one (ve_callB (cr_all rfl) (cs_all rfl) rfl (z_all T) (by decide +kernel) (va_cons (ve_lc (own := [("_law_k", 2)]) rfl sc__law_same.nd (vi_range1 rfl (z_range T) (va_cons (ve_callB call_len (cs_len rfl) rfl (z_len T) (by decide +kernel) (va_cons (vv 1) va_nil)) va_nil)) (blkOk_by (by kernel_rfl)) (fun _ _ _ _ _ => (vg_name (i := 2) sc__law_same.nd rfl (by first | exact Or.inl rfl | exact Or.inr rfl))) (fun _ _ _ _ _ => vts_nil) (fun _ _ _ _ _ => (ve_call (ih__law_same) hr rfl (m__law_same T) (F__law_same T).kp (bd__law_same T) L2.takes0 (va_cons (ve_ix rfl (vv 0) (vv 2)) (va_cons (ve_ix rfl (vv 1) (vv 2)) va_nil))))) va_nil))))))) vss_nil)
    (vss_cons (vs_if (vt_w (vw_or (vt_isN (vv 1)) (vw_or1 (vt_isN (vv 0))))) (vss_one (vs_ret (ve_and (ve_isN (vv 0)) (ve_one (ve_isN (vv 1)))))) vss_nil)
    (vss_cons (vs_if (vt_w (vw_or (vt_cmp (op_neD hr.units) (os_ne rfl) (ve_isi .bool rfl rfl (z_isinstance T) (vv 1) (pe_bltn rfl (z_bool T) (by decide +kernel) rfl)) (ve_isi .bool rfl rfl (z_isinstance T) (vv 0) (pe_bltn rfl (z_bool T) (by decide +kernel) rfl)) (nomark _)) (vw_or1 (vt_cmp (op_neD hr.units) (os_ne rfl) (ve_isi .int rfl rfl (z_isinstance T) (vv 1) (pe_bltn rfl (z_int T) (by decide +kernel) rfl)) (ve_isi .int rfl rfl (z_isinstance T) (vv 0) (pe_bltn rfl (z_int T) (by decide +kernel) rfl)) (nomark _))))) (vss_one (vs_ret ve_bl)) vss_nil)
    (vss_one (vs_ret (ve_and (ve_cmp (op_eqD hr.units) (os_eq rfl) (ve_isi .str rfl rfl (z_isinstance T) (vv 1) (pe_bltn rfl (z_str T) (by decide +kernel) rfl)) (ve_isi .str rfl rfl (z_isinstance T) (vv 0) (pe_bltn rfl (z_str T) (by decide +kernel) rfl)) (nomark _)) (ve_one (ve_cmp (op_eqD hr.units) (os_eq rfl) (vv 0) (vv 1) (nomark _)))))))))
theorem ok_turned_in (T : T0 P mg base w) : ∀ n : Nat, FnOk Pr w P.K mg base (L2.CX Pr w) (0 + n) (He.ga P.K "turned_in") (fdOf P.K ("turned_in", none)) ["term"] (spF P 1 (f_turned_in n))
  | 0 => by rw [f_turned_in_0]; exact fn_bad rfl
  | n + 1 => by
    have ih_turned_in := ok_turned_in T n
    rw [f_turned_in_s]
    exact fn_ok (F_turned_in T) sc_turned_in rfl fun cdv A outer s H E hr0 => have hr : Room (0 + n) _ := hr0; (vss_cons (vs_star (i := 1) (j := 2) rfl rfl sc_turned_in.nd rfl rfl rfl rfl (vv 0))
    (vss_cons (vs_if (vt_cmp op_inA (os_in rfl false) (vv 1) (ve_tup (va_cons ve_str (va_cons ve_str va_nil))) rfl) (vss_one (vs_ret (vv 0))) vss_nil)
    (vss_cons (vs_setLc (i := 3) (own := [("inner", 4)]) rfl sc_turned_in.nd rfl rfl (sw_true rfl rfl rfl (by decide +kernel)) (vi_any rfl (vv 2)) (blkOk_by (by kernel_rfl)) (fun _ _ _ _ _ => (vg_name (i := 4) sc_turned_in.nd rfl (by first | exact Or.inl rfl | exact Or.inr rfl))) (fun _ _ _ _ _ => vts_nil) (fun _ _ _ _ _ => (ve_call (ih_turned_in) hr rfl (m_turned_in T) (F_turned_in T).kp (bd_turned_in T) L2.takes0 (va_cons (vv 4) va_nil))))
    (vss_one (vs_ret (ve_bin op_add4 (os_add rfl) (ve_tup (va_cons (vv 1) va_nil)) (ve_callTy call_tuple_of (cs_tupOf rfl) rfl (z_tuple T) (by decide +kernel) (va_cons (ve_if (vt_cmp (op_eqD hr.units) (os_eq rfl) (vv 1) ve_str (nomark _)) (ve_revL rfl (vv 3)) (vv 3)) va_nil))))))))
theorem ok_turned (T : T0 P mg base w) : FnOk Pr w P.K mg base (L2.CX Pr w) 36 (He.ga P.K "turned") (fdOf P.K ("turned", none)) ["term"] (spF P 1 f_turned) := by
  unfold f_turned
  exact fn_ok (F_turned T) sc_turned rfl fun cdv A outer s H E hr => (vss_cons (vs_expr (ve_call (ok_need_term T) (hr.mono (by omega)) rfl (m_need_term T) (F_need_term T).kp (bd_need_term T) (takes_of rfl rfl rfl rfl) (va_cons (vv 0) va_nil)))
    (vss_one (vs_ret (ve_call (ok_turned_in T 30) (hr.mono (by omega)) rfl (m_turned_in T) (F_turned_in T).kp (bd_turned_in T) (takes_of rfl rfl rfl rfl) (va_cons (vv 0) va_nil)))))
theorem ok__law_other_way (T : T0 P mg base w) : ∀ n : Nat, FnOk Pr w P.K mg base (L2.CX Pr w) (0 + n) (He.ga P.K "_law_other_way") (fdOf P.K ("_law_other_way", none)) ["_law_term"] (spF P 1 (f__law_other_way n))
  | 0 => by rw [f__law_other_way_0]; exact fn_bad rfl
  | n + 1 => by
    have ih__law_other_way := ok__law_other_way T n
    rw [f__law_other_way_s]
    exact fn_ok (F__law_other_way T) sc__law_other_way rfl fun cdv A outer s H E hr0 => have hr : Room (0 + n) _ := hr0; (vss_cons (vs_if (vt_cmp op_inA (os_in rfl false) (ve_ix rfl (vv 0) ve_int) (ve_tup (va_cons ve_str (va_cons ve_str va_nil))) rfl) (vss_one (vs_ret (vv 0))) vss_nil)
    (vss_cons (vs_setLc (i := 1) (own := [("_law_part_now", 2)]) rfl sc__law_other_way.nd rfl rfl (sw_true rfl rfl rfl (by decide +kernel)) (vi_any rfl (ve_slG sl3 (ss_sl3 rfl) (vv 0) (vo_some ve_int) vo_none)) (blkOk_by (by kernel_rfl)) (fun _ _ _ _ _ => (vg_name (i := 2) sc__law_other_way.nd rfl (by first | exact Or.inl rfl | exact Or.inr rfl))) (fun _ _ _ _ _ => vts_nil) (fun _ _ _ _ _ => (ve_call (ih__law_other_way) hr rfl (m__law_other_way T) (F__law_other_way T).kp (bd__law_other_way T) L2.takes0 (va_cons (vv 2) va_nil))))
    (vss_one (vs_ret (ve_bin op_add4 (os_add rfl) (ve_tup (va_cons (ve_ix rfl (vv 0) ve_int) va_nil)) (ve_callTy call_tuple_of (cs_tupOf rfl) rfl (z_tuple T) (by decide +kernel) (va_cons (ve_if (vt_cmp (op_eqD hr.units) (os_eq rfl) (ve_ix rfl (vv 0) ve_int) ve_str (nomark _)) (ve_revL rfl (vv 1)) (vv 1)) va_nil)))))))
theorem ok__law_odd (T : T0 P mg base w) : FnOk Pr w P.K mg base (L2.CX Pr w) 3 (He.ga P.K "_law_odd") (fdOf P.K ("_law_odd", none)) ["_law_bag_here"] (spF P 1 f__law_odd) := by
  unfold f__law_odd
  exact fn_ok (F__law_odd T) sc__law_odd rfl fun cdv A outer s H E hr => (vss_cons (vs_set (i := 1) sc__law_odd.nd rfl (by first | exact Or.inl rfl | exact Or.inr rfl) (ve_lst (va_cons (ve_tup va_nil) (va_cons ve_non (va_cons ve_int (va_cons ve_str (va_cons (ve_tup (va_cons ve_str va_nil)) (va_cons (ve_tup (va_cons ve_str va_nil)) (va_cons (ve_tup (va_cons ve_str (va_cons ve_str va_nil))) (va_cons (ve_tup (va_cons ve_str (va_cons ve_str va_nil))) (va_cons (ve_tup (va_cons ve_str (va_cons ve_str va_nil))) (va_cons (ve_tup (va_cons ve_str (va_cons ve_str va_nil))) va_nil))))))))))))
    (vss_cons (vs_set (i := 1) sc__law_odd.nd rfl (by first | exact Or.inl rfl | exact Or.inr rfl) (ve_bin op_add4 (os_add rfl) (vv 1) (ve_lst (va_cons (ve_tup (va_cons ve_str (va_cons ve_int va_nil))) (va_cons (ve_tup (va_cons ve_str (va_cons ve_str (va_cons ve_str va_nil)))) (va_cons (ve_tup (va_cons ve_str (va_cons (ve_tup (va_cons ve_int (va_cons ve_int va_nil))) va_nil))) (va_cons (ve_tup (va_cons ve_str (va_cons (ve_tup (va_cons ve_int (va_cons ve_int va_nil))) va_nil))) (va_cons (ve_tup (va_cons ve_str (va_cons (ve_tup (va_cons ve_int (va_cons (ve_neg ve_int) va_nil))) va_nil))) (va_cons (ve_tup (va_cons ve_str (va_cons ve_int va_nil))) va_nil)))))))))
    (vss_cons (vs_set (i := 1) sc__law_odd.nd rfl (by first | exact Or.inl rfl | exact Or.inr rfl) (ve_bin op_add4 (os_add rfl) (vv 1) (ve_lst (va_cons (ve_tup (va_cons ve_str (va_cons (ve_tup (va_cons ve_bl (va_cons ve_int va_nil))) va_nil))) (va_cons (ve_tup (va_cons ve_str (va_cons (ve_tup (va_cons ve_int (va_cons ve_int va_nil))) va_nil))) (va_cons (ve_tup (va_cons ve_str (va_cons (ve_tup (va_cons ve_int (va_cons ve_int va_nil))) va_nil))) va_nil))))))
    (vss_cons (vs_set (i := 2) sc__law_odd.nd rfl (by first | exact Or.inl rfl | exact Or.inr rfl) (ve_tup (va_cons ve_str (va_cons ve_str va_nil))))
    (vss_cons (vs_set (i := 1) sc__law_odd.nd rfl (by first | exact Or.inl rfl | exact Or.inr rfl) (ve_bin op_add4 (os_add rfl) (vv 1) (ve_lst (va_cons (ve_tup (va_cons ve_str (va_cons (vv 2) va_nil))) (va_cons (ve_tup (va_cons ve_str (va_cons (vv 2) (va_cons (vv 2) (va_cons (vv 2) va_nil))))) (va_cons (ve_tup (va_cons ve_str va_nil)) (va_cons (ve_tup (va_cons ve_str (va_cons (vv 2) (va_cons (vv 2) va_nil)))) (va_cons (ve_tup (va_cons ve_str (va_cons (vv 2) va_nil))) (va_cons (ve_tup (va_cons ve_str (va_cons (vv 2) (va_cons ve_int va_nil)))) va_nil)))))))))
    (vss_cons (vs_set (i := 1) sc__law_odd.nd rfl (by first | exact Or.inl rfl | exact Or.inr rfl) (ve_bin op_add4 (os_add rfl) (vv 1) (ve_lst (va_cons (ve_tup (va_cons ve_str (va_cons (vv 2) (va_cons (vv 2) va_nil)))) (va_cons (ve_tup (va_cons ve_str (va_cons ve_str va_nil))) (va_cons (ve_tup (va_cons ve_str (va_cons ve_str va_nil))) (va_cons (ve_tup (va_cons ve_str (va_cons (vv 2) va_nil))) (va_cons (ve_tup (va_cons ve_non (va_cons (vv 2) va_nil))) (va_cons (ve_tup (va_cons ve_str (va_cons ve_non va_nil))) (va_cons (ve_tup (va_cons (vv 2) (va_cons (vv 2) va_nil))) va_nil))))))))))
    (vss_one (vs_ret (ve_call (ok__law_of T) (hr.mono (by omega)) rfl (m__law_of T) (F__law_of T).kp (bd__law_of T) (takes_of rfl rfl rfl rfl) (va_cons (vv 0) (va_cons (vv 1) va_nil)))))))))))
theorem ok__law_twist (T : T0 P mg base w) : ∀ n : Nat, FnOk Pr w P.K mg base (L2.CX Pr w) (1 + n) (He.ga P.K "_law_twist") (fdOf P.K ("_law_twist", none)) ["_law_bag_here", "_law_term", "_law_odd_here"] (spF P 3 (f__law_twist n))
  | 0 => by rw [f__law_twist_0]; exact fn_bad rfl
  | n + 1 => by
    have ih__law_twist := ok__law_twist T n
    rw [f__law_twist_s]
    exact fn_ok (F__law_twist T) sc__law_twist rfl fun cdv A outer s H E hr0 => have hr : Room (1 + n) _ := hr0; (vss_cons (vs_set (i := 3) sc__law_twist.nd rfl (by first | exact Or.inl rfl | exact Or.inr rfl) (ve_call (ok__law_inner T) (hr.mono (by omega)) rfl (m__law_inner T) (F__law_inner T).kp (bd__law_inner T) (takes_of rfl rfl rfl rfl) (va_cons (vv 1) va_nil)))
    (vss_cons (vs_if (vt_w (vw_or (vt_cmp (op_eqD hr.units) (os_eq rfl) (vv 3) (ve_tup va_nil) (nomark _)) (vw_or1 (vt_cmp (op_eqD hr.units) (os_eq rfl) (ve_call (ok__law_pull T) (hr.mono (by omega)) rfl (m__law_pull T) (F__law_pull T).kp (bd__law_pull T) (takes_of rfl rfl rfl rfl) (va_cons (vv 0) (va_cons ve_int va_nil))) ve_int (nomark _))))) (vss_one (vs_ret (vv 2))) vss_nil)
    (vss_cons (vs_set (i := 4) sc__law_twist.nd rfl (by first | exact Or.inl rfl | exact Or.inr rfl) (ve_bin op_add4 (os_add rfl) ve_int (ve_call (ok__law_pull T) (hr.mono (by omega)) rfl (m__law_pull T) (F__law_pull T).kp (bd__law_pull T) (takes_of rfl rfl rfl rfl) (va_cons (vv 0) (va_cons (ve_callB call_len (cs_len rfl) rfl (z_len T) (by decide +kernel) (va_cons (vv 3) va_nil)) va_nil)))))
    (vss_one (vs_ret (ve_bin op_add4 (os_add rfl) (ve_bin op_add4 (os_add rfl) (ve_slG sl3 (ss_sl3 rfl) (vv 1) vo_none (vo_some (vv 4))) (ve_tup (va_cons (ve_call (ih__law_twist) hr rfl (m__law_twist T) (F__law_twist T).kp (bd__law_twist T) (takes_of rfl rfl rfl rfl) (va_cons (vv 0) (va_cons (ve_ix rfl (vv 1) (vv 4)) (va_cons (vv 2) va_nil)))) va_nil))) (ve_slG sl3 (ss_sl3 rfl) (vv 1) (vo_some (ve_bin op_add4 (os_add rfl) (vv 4) ve_int)) vo_none)))))))
theorem ok_law (T : T0 P mg base w) : FnOk Pr w P.K mg base (L2.CX Pr w) 44 (He.ga P.K "law") (fdOf P.K ("law", none)) ["_law_script"] (spF P 1 f_law) := by
  unfold f_law
  exact fn_okT (p := ("law", none)) (F_law T) sc_law rfl fun A outer s H E hr => (vss_cons (vs_set (i := 1) sc_law.nd rfl (by first | exact Or.inl rfl | exact Or.inr rfl) (ve_call (ok__law_bag__1 T) (hr.mono (by omega)) rfl (m__law_bag T) (F__law_bag T).kp (bd__law_bag T) (takes_of rfl rfl rfl rfl) (va_cons (vv 0) va_nil)))
    (vss_cons (vs_for (passes_of rfl) rfl (vi_range1 rfl (z_range T) (va_cons ve_int va_nil)) (vg_name (i := 2) sc_law.nd rfl (by first | exact Or.inl rfl | exact Or.inr rfl)) (vss_cons (vs_set (i := 3) sc_law.nd rfl (by first | exact Or.inl rfl | exact Or.inr rfl) (ve_call (ok__law_abc T) (hr.mono (by omega)) rfl (m__law_abc T) (F__law_abc T).kp (bd__law_abc T) (takes_of rfl rfl rfl rfl) (va_cons (vv 1) (va_cons ve_int va_nil))))
    (vss_cons (vs_set (i := 12) sc_law.nd rfl (by first | exact Or.inl rfl | exact Or.inr rfl) (ve_call (ok__law_drawn T 30) (hr.mono (by omega)) rfl (m__law_drawn T) (F__law_drawn T).kp (bd__law_drawn T) (takes_of rfl rfl rfl rfl) (va_cons (vv 1) (va_cons (vv 3) (va_cons ve_int (va_cons ve_int va_nil))))))
    (vss_cons (vs_set (i := 11) sc_law.nd rfl (by first | exact Or.inl rfl | exact Or.inr rfl) (ve_call (ok__law_of T) (hr.mono (by omega)) rfl (m__law_of T) (F__law_of T).kp (bd__law_of T) (takes_of rfl rfl rfl rfl) (va_cons (vv 1) (va_cons (ve_bin op_add4 (os_add rfl) (vv 3) (ve_lst (va_cons ve_str va_nil))) va_nil))))
    (vss_cons (vs_set (i := 10) sc_law.nd rfl (by first | exact Or.inl rfl | exact Or.inr rfl) (ve_call (ok__law_of T) (hr.mono (by omega)) rfl (m__law_of T) (F__law_of T).kp (bd__law_of T) (takes_of rfl rfl rfl rfl) (va_cons (vv 1) (va_cons (ve_lst (va_cons (ve_tup (va_cons ve_str (va_cons (ve_call (ok__law_light T) (hr.mono (by omega)) rfl (m__law_light T) (F__law_light T).kp (bd__law_light T) (takes_of rfl rfl rfl rfl) (va_cons (vv 1) va_nil)) va_nil))) (va_cons (ve_tup (va_cons ve_str (va_cons (ve_ix rfl (vv 3) ve_int) va_nil))) (va_cons (ve_tup (va_cons ve_str (va_cons (ve_tup (va_cons ve_str (va_cons (ve_ix rfl (vv 3) ve_int) va_nil))) (va_cons (ve_tup (va_cons ve_str (va_cons (ve_tup (va_cons ve_int (va_cons ve_int va_nil))) va_nil))) va_nil)))) va_nil)))) va_nil))))
    (vss_cons (vs_for (passes_of rfl) rfl (vi_any rfl (ve_lst (va_cons (ve_tup (va_cons (vv 10) (va_cons (ve_asked (k := 40) (pick := pickL ys__law_asked) (hs := hs__law_asked) rfl rfl (m__law_asked T) (F__law_asked T) sc__law_asked rfl (.inl rfl) (fun _ _ _ _ _ _ us hl => match us, hl with | [_], _ => rfl) (by decide) ask__law_asked (hC__law_asked T) rfl (T.xf 0 rfl) (tb_law T) rfl (tm_law T) (tu_law T) (hr.mono (by omega)) (LamX.lamS_by (by kernel_rfl)) rfl (fun _ _ _ _ _ => rfl) (fun A outer s H E f c' hr2 => (ve_callK (n := 2) (ks := ["by"]) (ok_nudged T) (hr2.mono (by omega)) rfl (m_nudged T) (F_nudged T).kp (bdk_nudged T) (takes_of rfl rfl rfl rfl) (va_cons (vv 12) (va_cons (vv 11) va_nil)) (vk_cons (vv 10) vk_nil)))) va_nil))) (va_cons (ve_tup (va_cons (ve_tup (va_cons ve_str (va_cons (ve_tup (va_cons ve_int (va_cons ve_int va_nil))) va_nil))) (va_cons (ve_asked2 (k := 40) (pick := pickL ys__law_asked) (hs := hs__law_asked) (as := ["_law_a"]) (m__law_asked T) (F__law_asked T) sc__law_asked rfl (.inl rfl) (fun _ _ _ _ _ _ us hl => match us, hl with | [_], _ => rfl) (by decide) ask__law_asked (hC__law_asked T) rfl (T.xf 0 rfl) (tb_law T) rfl (tm_law T) (tu_law T) (hr.mono (by omega)) rfl (by kernel_rfl) (.with (as := ["_law_a"]) rfl rfl fun _ _ _ _ _ _ _ us hl => match us, hl with | [_], _ => ⟨_, rfl, rfl⟩) (fun A outer s H E f c' hr2 => (ve_callD (ok_nudged T) (hr2.mono (by omega)) rfl (m_nudged T) (F_nudged T).kp (bdw_nudged T).choose_spec.choose_spec.2.1 (bdw_nudged T).choose_spec.choose_spec.1 (bdw_nudged T).choose_spec.choose_spec.2.2 rfl (takes_of rfl rfl rfl rfl) (va_cons (vv 12) (va_cons (vv 11) va_nil))))) va_nil))) va_nil)))) (vg_tup rfl rfl (vgs_cons (vg_name (i := 4) sc_law.nd rfl (by first | exact Or.inl rfl | exact Or.inr rfl)) (vgs_cons (vg_name (i := 5) sc_law.nd rfl (by first | exact Or.inl rfl | exact Or.inr rfl)) vgs_nil))) (vss_cons (vs_set (i := 6) sc_law.nd rfl (by first | exact Or.inl rfl | exact Or.inr rfl) (ve_call (ok__law_moved T 30) (hr.mono (by omega)) rfl (m__law_moved T) (F__law_moved T).kp (bd__law_moved T) (takes_of rfl rfl rfl rfl) (va_cons (vv 12) (va_cons (vv 11) (va_cons (vv 4) va_nil)))))
    (vss_cons (vs_set (i := 7) sc_law.nd rfl (by first | exact Or.inl rfl | exact Or.inr rfl) (ve_call (ok__law_fault T) (hr.mono (by omega)) rfl (m__law_fault T) (F__law_fault T).kp (bd__law_fault T) (takes_of rfl rfl rfl rfl) (va_cons (vv 6) va_nil)))
    (vss_one (vs_if (vt_not (vt_val (ve_call (ok__law_same T 40) (hr.mono (by omega)) rfl (m__law_same T) (F__law_same T).kp (bd__law_same T) (takes_of rfl rfl rfl rfl) (va_cons (vv 5) (va_cons (ve_if (vt_isN (vv 7)) (ve_tup (va_cons ve_str (va_cons (vv 6) va_nil))) (ve_tup (va_cons ve_str (va_cons ve_str (va_cons (vv 7) va_nil))))) va_nil))))) (vss_one (vs_ret ve_bl)) vss_nil)))))
    (vss_cons (vs_if (vt_not (vt_val (ve_call (ok__law_same T 40) (hr.mono (by omega)) rfl (m__law_same T) (F__law_same T).kp (bd__law_same T) (takes_of rfl rfl rfl rfl) (va_cons (ve_lst (va_cons (ve_call (ok_turned T) (hr.mono (by omega)) rfl (m_turned T) (F_turned T).kp (bd_turned T) (takes_of rfl rfl rfl rfl) (va_cons (vv 12) va_nil)) (va_cons (ve_call (ok_turned T) (hr.mono (by omega)) rfl (m_turned T) (F_turned T).kp (bd_turned T) (takes_of rfl rfl rfl rfl) (va_cons (ve_call (ok_turned T) (hr.mono (by omega)) rfl (m_turned T) (F_turned T).kp (bd_turned T) (takes_of rfl rfl rfl rfl) (va_cons (vv 12) va_nil)) va_nil)) va_nil))) (va_cons (ve_lst (va_cons (ve_call (ok__law_other_way T 30) (hr.mono (by omega)) rfl (m__law_other_way T) (F__law_other_way T).kp (bd__law_other_way T) (takes_of rfl rfl rfl rfl) (va_cons (vv 12) va_nil)) (va_cons (vv 12) va_nil))) va_nil))))) (vss_one (vs_ret ve_bl)) vss_nil)
    (vss_cons (vs_set (i := 9) sc_law.nd rfl (by first | exact Or.inl rfl | exact Or.inr rfl) (ve_call (ok__law_twist T 30) (hr.mono (by omega)) rfl (m__law_twist T) (F__law_twist T).kp (bd__law_twist T) (takes_of rfl rfl rfl rfl) (va_cons (vv 1) (va_cons (vv 12) (va_cons (ve_call (ok__law_odd T) (hr.mono (by omega)) rfl (m__law_odd T) (F__law_odd T).kp (bd__law_odd T) (takes_of rfl rfl rfl rfl) (va_cons (vv 1) va_nil)) va_nil)))))
    (vss_asks (k := 40) (iy := 8) (tb_law T) rfl (tm_law T) (tu_law T) (.by (as := []) (by kernel_rfl) (.bare rfl fun _ _ _ _ _ _ => rfl) (fun A outer s H E f c' hr2 => (ve_call (ok_turned T) (hr2.mono (by omega)) rfl (m_turned T) (F_turned T).kp (bd_turned T) (takes_of rfl rfl rfl rfl) (va_cons (vv 9) va_nil)))
      (.by (as := ["_law_a"]) (by kernel_rfl) (.with (as := ["_law_a"]) rfl rfl fun _ _ _ _ _ _ _ us hl => match us, hl with | [_], _ => ⟨_, rfl, rfl⟩) (fun A outer s H E f c' hr2 => (ve_callD (ok_nudged T) (hr2.mono (by omega)) rfl (m_nudged T) (F_nudged T).kp (bdw_nudged T).choose_spec.choose_spec.2.1 (bdw_nudged T).choose_spec.choose_spec.1 (bdw_nudged T).choose_spec.choose_spec.2.2 rfl (takes_of rfl rfl rfl rfl) (va_cons (vv 9) (va_cons (vv 11) va_nil))))
      (.by (as := ["_law_a", "_law_b"]) (by kernel_rfl) (.with (as := ["_law_a", "_law_b"]) rfl rfl fun _ _ _ _ _ _ _ us hl => match us, hl with | [_, _], _ => ⟨_, rfl, rfl⟩) (fun A outer s H E f c' hr2 => (ve_callK (n := 2) (ks := ["by"]) (ok_nudged T) (hr2.mono (by omega)) rfl (m_nudged T) (F_nudged T).kp (bdk_nudged T) (takes_of rfl rfl rfl rfl) (va_cons (vv 12) (va_cons (vv 11) va_nil)) (vk_cons (vv 9) vk_nil)))
      .nil))) (by decide) sc_law.nd rfl (by first | exact Or.inl rfl | exact Or.inr rfl) (.inr rfl) (pe_asks (k := 40) (pick := pickL ys__law_asked) (hs := hs__law_asked) (iy := 8) (ia := 13) rfl (m__law_asked T) (F__law_asked T) sc__law_asked rfl (.inl rfl) (fun _ _ _ _ _ _ us hl => match us, hl with | [_], _ => rfl) (by decide) ask__law_asked (hC__law_asked T) rfl (T.xf 0 rfl) (hr.mono (by omega)) rfl sc_law.nd rfl (by first | exact Or.inl rfl | exact Or.inr (Or.inl rfl) | exact Or.inr (Or.inr rfl)) rfl (blkOk_by (by kernel_rfl)) (fun _ _ _ _ _ => rfl) (fun _ _ => (by first | exact Or.inl rfl | exact Or.inr (Or.inl rfl) | exact Or.inr (Or.inr rfl))) (fun _ _ _ _ _ => pg_name sc_law.nd rfl (by first | exact Or.inl rfl | exact Or.inr rfl))) (op_neD hr.units) (os_ne rfl) (ve_bin op_mul2 os_mul (ve_lst (va_cons (ve_tup (va_cons ve_str (va_cons ve_str (va_cons ve_str va_nil)))) va_nil)) ve_int) (nomark _) (vss_one (vs_ret ve_bl)) vss_nil
    vss_nil)))))))))
    (vss_one (vs_ret ve_bl))))
end
end Pf

namespace Pf
open PySem PySem.Spec PyProof.Rows L2 L3
def pm (K : PySem.W.Frag) : Pm := ⟨K, tf.map fun p => ((He.cT K p).2, p.1 ++ (".<locals>." : Str) ++ ("<lambda>" : Str)), fun x => if x ∈ lw.cs then some (He.ga K x) else none⟩
theorem lawAt {w : World} {mg : Str → Option Value} {f : Addr} {h : Heap} (Y : ∃ K : PySem.W.Frag, K.In h ∧ He.SaysX fa fn tsk tf ex w h K) (G : h.Ns mainGlobals mg) (hfa : mg ("law" : Str) = some (.ref f)) :
    ∃ K : PySem.W.Frag, K.In h ∧ LamX.LawAtS PySem.Challenge.rw_nevernought_k40_reckonings_nudged_and_tu w K (L2.CX PySem.Challenge.rw_nevernought_k40_reckonings_nudged_and_tu.prog w) 44 63 "_law_script" mg f h := by
  obtain ⟨K, KX, c⟩ := Y
  have cd : He.SaysD fa fn K := c.t.d
  have F : FunD K "law" "law" (defArgs s_law) (defBody s_law) (defScope s_law) [] [] (He.ga K "law") (fdOf K ("law", none)) := by
    obtain ⟨fd, F⟩ := cd.def_ (39) (d := fn.getD (39) ⟨("", none), "", "", defArgs s_law, defBody s_law, defScope s_law, [], []⟩) rfl
    have e := fdOf_eq (p := ("law", none)) F
    rw [e]
    exact F
  have e : mg "law" = some (.ref (He.ga K "law")) := He.glo_ok KX G (cd.fact 39 rfl)
  rw [hfa] at e
  cases e
  refine ⟨K, KX, fdOf K ("law", none), tf.map (He.cT K), spF (pm K) 1 f_law, ?_, ?_, ?_, ?_, ?_, ?_⟩
  · intro p hp
    obtain ⟨d, hd, rfl⟩ := List.mem_map.mp hp
    exact c.empty d hd
  · intro p hp
    obtain ⟨d, hd, rfl⟩ := List.mem_map.mp hp
    exact c.out d hd
  · intro p hp
    obtain ⟨d, hd, rfl⟩ := List.mem_map.mp hp
    exact PySem.W.codeHd_of_K KX (c.hd d hd)
  · intro s u
    exact F.bindsA (ps := ["_law_script"]) (fun _ _ _ _ _ _ us hl => match us, hl with | [_], _ => rfl) s [u] rfl
  · intro H a ns hl hbits hT hS
    have st : St3 (pm K) H ⟨[], []⟩ [] := ⟨rfl, fun k a m h => (by simp at h), List.nodup_nil, fun a h => (by cases h), fun p hp => by
      obtain ⟨d, hd, rfl⟩ := List.mem_map.mp hp
      exact LamX.TabS.nil (hT _ (List.mem_map.mpr ⟨d, hd, rfl⟩))⟩
    refine ⟨rfl, ⟨[], []⟩, [.scr ns], [], .cons (.scr ?_) .nil, st, ?_⟩
    · rcases hS with hS | hS
      · exact .inl ⟨hS, fun z => z.elim (fun y => by cases y) fun y => by cases y⟩
      · exact .inr hS
    · obtain ⟨μ, e⟩ := law_true ns hl hbits
      rw [e]
      intro L' H' x s v r
      cases r
      rfl
  · intro base KX G tb
    exact ok_law (P := pm K) ⟨cd, KX, G, fun p hp => tb _ (List.mem_map.mpr ⟨p, hp, rfl⟩), c.more, rfl, rfl, fun q hq => by
      obtain ⟨i, hi, e⟩ := List.mem_iff_getElem.mp hq
      have z := c.t.tab i (t := (fun K => He.ga K q.1, q.2.map (·.1))) (by
        unfold tsk
        rw [List.getElem?_map, List.getElem?_eq_getElem hi, e]; rfl)
      exact z⟩
end Pf
open PySem PySem.W PySem.Calls PyProof.Rows
theorem PySem.Challenge.cw_nevernought_k40_reckonings_nudged_and_tu_holds : PySem.Challenge.rw_nevernought_k40_reckonings_nudged_and_tu.Holds := by
  w_on; o_law
  refine HandSHeadRun.head_any (r := OpenLaw.row PySem.Challenge.rw_nevernought_k40_reckonings_nudged_and_tu) (q := view (OpenLaw.row PySem.Challenge.rw_nevernought_k40_reckonings_nudged_and_tu).prog [73]) (H := Pf.hk) (ob := Pf.ob) (M := 8000) (loose := Pf.loose) (d := HandSHeadRun.topDef (OpenLaw.row PySem.Challenge.rw_nevernought_k40_reckonings_nudged_and_tu).prog 73) (kwd := []) Pf.ob_eq
    (by kernel_rfl) (fun s => by kernel_rfl) Pf.hrun (by kernel_rfl) (by kernel_rfl) (by kernel_rfl) (by rfl) (by first | assumption | decide +kernel) (by decide +kernel) ⟨rfl, rfl, rfl, rfl, rfl, by decide +kernel⟩ ?hw ?hc
  case hw => w_witness2
  case hc =>
    refine LamX.walk_ofTsE (l := PySem.Challenge.rw_nevernought_k40_reckonings_nudged_and_tu) (n := 63) (k := 44) (x := "_law_script") (CX := fun w => L2.CX PySem.Challenge.rw_nevernought_k40_reckonings_nudged_and_tu.prog w) rfl (by decide) (by kernel_rfl) ⟨rfl, by decide, by decide⟩ ?F (fun w H s e s' h => by
      obtain ⟨_, _, _, _, _, _, _, _, _, _, _, _, z⟩ := h
      exact z.elim)
    intro w mg fa h Y G hmg0
    have hmg : mg ("law" : PySem.Str) = some (.ref fa) := by
      have e : (HandSHeadRun.topDef (OpenLaw.row PySem.Challenge.rw_nevernought_k40_reckonings_nudged_and_tu).prog 73).name = ("law" : PySem.Str) := by kernel_rfl
      rw [← e]
      exact hmg0
    exact Pf.lawAt Y G hmg


