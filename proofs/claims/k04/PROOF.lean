import PyProof.Rows.All
import Wide.All
import OpenK.AllK
import Wide.FinOn
import HandS.ForMost
import HandS.ForExc
import HandS.Wide
import HandS.Defaults
import HandS.TryMany
import HandS.IsInst
import HandS.ExcInit
import HandS.ExcField
import HandS.Lambda
import HandS.Zip
import HandS.HeadHook4
import HandS.HeadWalk
import HandS.NestedK
import HandS.More
import HandS.Head1
import HandS.Head2
import HandS.FStr
import HandS.Deep
import HandS.NoneIn
import HandS.Style
import HandS.Codes
import KE.GoesSet
import HandS.Set
import HandS.SetTxt0
import HandS.TupSets
import HandS.DictComp
import HandS.SetFor
import HandS.SortKw
import HandS.Iter
import KE.KUnpackStar
import HandS.Small
import PyProof.ReprRoads
import PyProof.StrLawsRepr
import KE.GoesMore
import PyProof.ListStr
import KE.KDflt
import PySem.Challenge.RW_nevernought_k04_tables_reckoned
set_option Elab.async false
set_option linter.all false
set_option maxRecDepth 100000
set_option maxHeartbeats 0
set_option autoImplicit false
namespace L3
open PySem PySem.Spec PyProof.Rows L2

abbrev Slots := L2.St
/-- the places of the mutable things (by number), and private places (a list that a comprehension is making) -/
structure Lv where
  c : List Addr
  x : List Addr
def Lv.has (L : Lv) (a : Addr) : Prop := a ∈ L.c ∨ a ∈ L.x
def Lv.cell (L : Lv) (p : Addr) : Lv := ⟨L.c ++ [p], L.x⟩
/-- a datum: a value with all that hangs on it; cell k: the k-th mutable thing -/
inductive D where
  | non | bl (b : Bool) | int (i : Int) | str (s : Str)
  | lst (xs : List D) | tup (xs : List D)
  | dct (ks : List Key) (vs : List D)
  | obj (c : Str) (ns : List Str) (vs : List D)
  | cell (k : Nat)
  | scr (ns : List Int)
/-- a mutable thing -/
inductive MO where
  | lst (xs : List D)
  | dct (ks : List Key) (vs : List D)
  | ins (c : Str) (ns : List Str) (vs : List D)
abbrev Sto := List MO
abbrev Env := List (Option D)

/-- what is fixed through a law: the written part, the tables of code objects, the classes' places -/
structure Pm where
  K : PySem.W.Frag
  T : List (Addr × Str)
  cls : Str → Option Addr

section
variable (P : Pm) (H : Hp) (L : Lv)
/-- a tuple that stands -/
def TupAt (a : Addr) (vs : List V) : Prop := (Rd H a (.tup vs) ∧ ¬ L.has a) ∨
  ∃ (o : Obj) (its : Array Value) (n : Nat), P.K.lookup a = some o ∧ o.cls = .type "tuple" ∧ o.data = .seq its n ∧ its.size ≤ sizeLine ∧ Vals vs its.toList
/-- the script: a list that nobody writes -/
def ScrAt (a : Addr) (vs : List V) : Prop := (Rd H a (.lst vs) ∧ ¬ L.has a) ∨
  ∃ (o : Obj) (its : Array Value) (n : Nat), P.K.lookup a = some o ∧ o.cls = .type "list" ∧ o.dict = none ∧ o.data = .seq its n ∧ its.size ≤ sizeLine ∧ Vals vs its.toList
mutual
inductive Rep : V → D → Prop
  | non : Rep .non .non
  | bl (b : Bool) : Rep (.bl b) (.bl b)
  | int (i : Int) : Rep (.int i) (.int i)
  | str (s : Str) : Rep (.str s) (.str s)
  | lst {a : Addr} {vs : List V} {ds : List D} (h : H a = some (.lst vs)) (n : ¬ L.has a) (r : Reps vs ds) : Rep (.ref a) (.lst ds)
  | tup {a : Addr} {vs : List V} {ds : List D} (h : TupAt P H L a vs) (r : Reps vs ds) : Rep (.ref a) (.tup ds)
  | dct {a : Addr} {ks : List Key} {vs : List V} {ds : List D} (h : Rd H a (.dK (ks.zip vs))) (n : ¬ L.has a) (l : ks.length = vs.length) (r : Reps vs ds) : Rep (.ref a) (.dct ks ds)
  | obj {a C dx : Addr} {c : Str} {ns : List Str} {vs : List V} {ds : List D} (h : H a = some (.ins C dx (ns.zip vs))) (hc : P.cls c = some C) (n : ¬ L.has a) (l : ns.length = vs.length) (r : Reps vs ds) : Rep (.ref a) (.obj c ns ds)
  | cell {a : Addr} {k : Nat} (h : L.c[k]? = some a) : Rep (.ref a) (.cell k)
  | scr {a : Addr} {ns : List Int} (h : ScrAt P H L a (ns.map V.int)) : Rep (.ref a) (.scr ns)
inductive Reps : List V → List D → Prop
  | nil : Reps [] []
  | cons {v : V} {d : D} {vs : List V} {ds : List D} (h : Rep v d) (r : Reps vs ds) : Reps (v :: vs) (d :: ds)
end
/-- a mutable thing stands at a -/
inductive RepM (a : Addr) : MO → Prop
  | lst {vs : List V} {ds : List D} (h : H a = some (.lst vs)) (r : Reps P H L vs ds) : RepM a (.lst ds)
  | dct {ks : List Key} {vs : List V} {ds : List D} (h : H a = some (.dK (ks.zip vs))) (l : ks.length = vs.length) (r : Reps P H L vs ds) : RepM a (.dct ks ds)
  | ins {C dx : Addr} {c : Str} {ns : List Str} {vs : List V} {ds : List D} (h : H a = some (.ins C dx (ns.zip vs))) (hc : P.cls c = some C) (l : ns.length = vs.length) (r : Reps P H L vs ds) : RepM a (.ins c ns ds)
/-- the mutable things, and the tables -/
structure St3 (μ : Sto) : Prop where
  len : L.c.length = μ.length
  at_ : ∀ (k : Nat) (a : Addr) (m : MO), L.c[k]? = some a → μ[k]? = some m → RepM P H L a m
  nd : L.c.Nodup
  dis : ∀ a ∈ L.x, a ∉ L.c ∧ ∃ vs, H a = some (.lst vs)
  tab : LamX.Tabs P.T H
/-- the slots -/
structure RelS (σ : Slots) (ρ : Env) : Prop where
  len : σ.length = ρ.length
  at_ : ∀ (i : Nat) (d : D), ρ[i]? = some (some d) → ∃ v, σ[i]? = some (some v) ∧ Rep P H L v d
end

/-- from (L, H) to (L', H'): nothing that was a datum is another one -/
structure Ext0 (L : Lv) (H : Hp) (L' : Lv) (H' : Hp) : Prop where
  keep : ∀ a o, H a = some o → (∀ ps, o ≠ .tbl ps) → ¬ L.has a → H' a = some o
  pre : ∀ (k : Nat) a, L.c[k]? = some a → L'.c[k]? = some a
  new : ∀ a, L'.has a → L.has a ∨ H a = none ∨ ∃ ps, H a = some (.tbl ps)
/-- .. and nothing private was written -/
structure Ext (P : Pm) (L : Lv) (H : Hp) (L' : Lv) (H' : Hp) : Prop extends Ext0 L H L' H' where
  px : L'.x = L.x
  prv : ∀ a ∈ L.x, H' a = H a

section
variable {P : Pm} {H H1 H2 : Hp} {L L1 L2 : Lv}
theorem Ext0.refl : Ext0 L H L H := ⟨fun _ _ h _ _ => h, fun _ _ h => h, fun _ h => .inl h⟩
theorem Ext.refl : Ext P L H L H := ⟨.refl, rfl, fun _ _ => rfl⟩
theorem Ext0.trans (x : Ext0 L H L1 H1) (y : Ext0 L1 H1 L2 H2) : Ext0 L H L2 H2 := by
  refine ⟨fun a o h t n => ?_, fun k a h => y.pre k a (x.pre k a h), fun a h => ?_⟩
  · refine y.keep a o (x.keep a o h t n) t fun h1 => ?_
    rcases x.new a h1 with z | z | ⟨ps, z⟩
    · exact n z
    · rw [h] at z; cases z
    · rw [h] at z; exact t ps (Option.some.inj z)
  · rcases y.new a h with z | z
    · exact x.new a z
    · cases e : H a with
      | none => exact .inr (.inl rfl)
      | some o =>
        by_cases t : ∃ ps, o = .tbl ps
        · obtain ⟨ps, t⟩ := t
          exact .inr (.inr ⟨ps, by rw [t]⟩)
        · by_cases n : L.has a
          · exact .inl n
          · have k := x.keep a o e (fun ps q => t ⟨ps, q⟩) n
            rcases z with z | ⟨ps, z⟩
            · rw [k] at z; cases z
            · rw [k] at z; exact absurd ⟨ps, Option.some.inj z⟩ t
theorem Ext.trans (x : Ext P L H L1 H1) (y : Ext P L1 H1 L2 H2) : Ext P L H L2 H2 :=
  ⟨x.toExt0.trans y.toExt0, y.px.trans x.px, fun a h => (y.prv a (by rw [x.px]; exact h)).trans (x.prv a h)⟩
theorem Rd.keep3 {a : Addr} {u : HO} (x : Ext0 L H L1 H1) (h : Rd H a u) (hu : ∀ ps, u ≠ .tbl ps) (n : ¬ L.has a) : Rd H1 a u ∧ ¬ L1.has a := by
  have nn : ¬ L1.has a := fun z => by
    rcases x.new a z with q | q | ⟨ps, q⟩
    · exact n q
    · rcases h with h | ⟨o, h⟩ <;> (rw [h] at q; cases q)
    · rcases h with h | ⟨o, h⟩
      · rw [h] at q; exact hu ps (Option.some.inj q)
      · rw [h] at q; cases q
  refine ⟨?_, nn⟩
  rcases h with h | ⟨o, h⟩
  · exact .inl (x.keep a u h hu n)
  · exact .inr ⟨o, x.keep a _ h (fun ps z => nomatch z) n⟩
theorem TupAt.ext0 {a : Addr} {vs : List V} (x : Ext0 L H L1 H1) (h : TupAt P H L a vs) : TupAt P H1 L1 a vs := by
  rcases h with ⟨h, n⟩ | h
  · exact .inl (Rd.keep3 x h (fun ps z => nomatch z) n)
  · exact .inr h
theorem ScrAt.ext0 {a : Addr} {vs : List V} (x : Ext0 L H L1 H1) (h : ScrAt P H L a vs) : ScrAt P H1 L1 a vs := by
  rcases h with ⟨h, n⟩ | h
  · exact .inl (Rd.keep3 x h (fun ps z => nomatch z) n)
  · exact .inr h
mutual
theorem Rep.ext0 (x : Ext0 L H L1 H1) : ∀ {v : V} {d : D}, Rep P H L v d → Rep P H1 L1 v d
  | _, _, .non => .non
  | _, _, .bl b => .bl b
  | _, _, .int i => .int i
  | _, _, .str s => .str s
  | _, _, .lst h n r => .lst (x.keep _ _ h (fun ps z => nomatch z) n) (Rd.keep3 x (.inl h) (fun ps z => nomatch z) n).2 (Reps.ext0 x r)
  | _, _, .tup h r => .tup (h.ext0 x) (Reps.ext0 x r)
  | _, _, .dct h n l r => .dct (Rd.keep3 x h (fun ps z => nomatch z) n).1 (Rd.keep3 x h (fun ps z => nomatch z) n).2 l (Reps.ext0 x r)
  | _, _, .obj h hc n l r => .obj (x.keep _ _ h (fun ps z => nomatch z) n) hc (Rd.keep3 x (.inl h) (fun ps z => nomatch z) n).2 l (Reps.ext0 x r)
  | _, _, .cell h => .cell (x.pre _ _ h)
  | _, _, .scr h => .scr (h.ext0 x)
theorem Reps.ext0 (x : Ext0 L H L1 H1) : ∀ {vs : List V} {ds : List D}, Reps P H L vs ds → Reps P H1 L1 vs ds
  | _, _, .nil => .nil
  | _, _, .cons h r => .cons (Rep.ext0 x h) (Reps.ext0 x r)
end
theorem Rep.ext {v : V} {d : D} (r : Rep P H L v d) (x : Ext P L H L1 H1) : Rep P H1 L1 v d := r.ext0 x.toExt0
theorem Reps.ext {v : List V} {d : List D} (r : Reps P H L v d) (x : Ext P L H L1 H1) : Reps P H1 L1 v d := r.ext0 x.toExt0
theorem RelS.ext0 {σ : Slots} {ρ : Env} (x : Ext0 L H L1 H1) (r : RelS P H L σ ρ) : RelS P H1 L1 σ ρ :=
  ⟨r.len, fun i d e => let ⟨v, h, q⟩ := r.at_ i d e; ⟨v, h, q.ext0 x⟩⟩
theorem RelS.ext {σ : Slots} {ρ : Env} (r : RelS P H L σ ρ) (x : Ext P L H L1 H1) : RelS P H1 L1 σ ρ := r.ext0 x.toExt0
theorem Reps.length : ∀ {vs : List V} {ds : List D}, Reps P H L vs ds → vs.length = ds.length
  | _, _, .nil => rfl
  | _, _, .cons _ r => by simp [Reps.length r]
theorem Reps.get : ∀ {vs : List V} {ds : List D} {i : Nat} {d : D}, Reps P H L vs ds → ds[i]? = some d → ∃ v, vs[i]? = some v ∧ Rep P H L v d
  | _, _, _, _, .nil, e => by simp at e
  | _, _, 0, _, .cons h _, e => by simp at e; subst e; exact ⟨_, rfl, h⟩
  | _, _, i + 1, d, .cons _ t, e => by
    obtain ⟨u, h1, h2⟩ := Reps.get (i := i) (d := d) t (by simpa using e)
    exact ⟨u, by simpa using h1, h2⟩
theorem Reps.append : ∀ {vs ws : List V} {ds es : List D}, Reps P H L vs ds → Reps P H L ws es → Reps P H L (vs ++ ws) (ds ++ es)
  | _, _, _, _, .nil, s => s
  | _, _, _, _, .cons r t, s => .cons r (Reps.append t s)
theorem Reps.take : ∀ {vs : List V} {ds : List D} (n : Nat), Reps P H L vs ds → Reps P H L (vs.take n) (ds.take n)
  | _, _, 0, _ => .nil
  | _, _, _ + 1, .nil => .nil
  | _, _, n + 1, .cons r t => .cons r (Reps.take n t)
theorem Reps.drop : ∀ {vs : List V} {ds : List D} (n : Nat), Reps P H L vs ds → Reps P H L (vs.drop n) (ds.drop n)
  | _, _, 0, r => r
  | _, _, _ + 1, .nil => .nil
  | _, _, n + 1, .cons _ t => Reps.drop n t
theorem Reps.set {x : V} {d : D} (r : Rep P H L x d) : ∀ {vs : List V} {ds : List D} (i : Nat), Reps P H L vs ds → Reps P H L (vs.set i x) (ds.set i d)
  | _, _, _, .nil => .nil
  | _, _, 0, .cons _ t => .cons r t
  | _, _, i + 1, .cons q t => .cons q (Reps.set r i t)
theorem RelS.set {σ : Slots} {ρ : Env} {i : Nat} {v : V} {d : D} (r : RelS P H L σ ρ) (h : Rep P H L v d) : RelS P H L (σ.set i (some v)) (ρ.set i (some d)) := by
  refine ⟨by simp [r.len], fun j e q => ?_⟩
  by_cases hj : j = i
  · subst hj
    have hl : j < ρ.length := by
      have := (List.getElem?_eq_some_iff.mp q).1
      simpa using this
    rw [List.getElem?_set_self hl] at q
    cases q
    exact ⟨v, List.getElem?_set_self (by rw [r.len]; exact hl), h⟩
  · rw [List.getElem?_set_ne (Ne.symm hj)] at q ⊢
    exact r.at_ j e q
end

/-! ### what a piece of code comes to -/
inductive R (α : Type) where
  | ok (a : α) (μ : Sto)
  | exc (c : Str) (ns : List Str) (vs : List D) (μ : Sto)
  | bad
def R.bind {α β : Type} (r : R α) (k : α → Sto → R β) : R β := match r with
  | .ok a μ => k a μ
  | .exc c ns vs μ => .exc c ns vs μ
  | .bad => .bad
@[simp] theorem R.bind_ok {α β : Type} {a : α} {μ : Sto} {k : α → Sto → R β} : (R.ok a μ).bind k = k a μ := rfl
@[simp] theorem R.bind_exc {α β : Type} {c : Str} {ns vs} {μ : Sto} {k : α → Sto → R β} : (R.exc (α := α) c ns vs μ).bind k = .exc c ns vs μ := rfl
@[simp] theorem R.bind_bad {α β : Type} {k : α → Sto → R β} : (R.bad (α := α)).bind k = .bad := rfl
/-- an exception's fields -/
def XF (P : Pm) (L : Lv) (H : Hp) (dx : Addr) (ns : List Str) (ds : List D) : Prop := ∃ vs, H dx = some (.xd (ns.zip vs)) ∧ ns.length = vs.length ∧ Reps P H L vs ds
/-- what is wanted of an exception, at the slots σ -/
def PostX (P : Pm) (E : XK) (L : Lv) (H : Hp) (c : Str) (ns : List Str) (ds : List D) (μ : Sto) : Prop :=
  ∀ C dx L' H', P.cls c = some C → Ext P L H L' H' → St3 P H' L' μ → XF P L' H' dx ns ds → E (.ref C) (some dx) H'
/-- what is wanted of an end: V the value's relation -/
def Post {α : Type} (P : Pm) (E : XK) (L : Lv) (H : Hp) (q : α → Lv → Hp → Prop) : R α → Prop
  | .ok a μ => ∀ L' H', Ext P L H L' H' → St3 P H' L' μ → q a L' H'
  | .exc c ns vs μ => PostX P E L H c ns vs μ
  | .bad => False
section
variable {P : Pm} {E : XK} {H H1 : Hp} {L L1 : Lv} {α β : Type}
theorem PostX.ext {c ns ds μ} (x : Ext P L H L1 H1) (h : PostX P E L H c ns ds μ) : PostX P E L1 H1 c ns ds μ := fun C dx L' H' hc y s f => h C dx L' H' hc (x.trans y) s f
theorem Post.ext {q : α → Lv → Hp → Prop} {r : R α} (x : Ext P L H L1 H1) (h : Post P E L H q r) : Post P E L1 H1 q r := by
  cases r with
  | ok a μ => exact fun L' H' y s => h L' H' (x.trans y) s
  | exc c ns vs μ => exact PostX.ext (μ := μ) x h
  | bad => exact h
theorem Post.bind {q : β → Lv → Hp → Prop} {r : R α} {k : α → Sto → R β} (h : Post P E L H q (r.bind k)) : 
    match r with
    | .ok a μ => Post P E L H q (k a μ)
    | .exc c ns vs μ => PostX P E L H c ns vs μ
    | .bad => False := by
  cases r <;> exact h
end
abbrev SE := Env → Sto → R D
abbrev ST := Env → Sto → R Bool
abbrev SA := Env → Sto → R (List D)
/-- the reading of an expression by its semantics -/
def tV (P : Pm) (W : WX) (f : SE) : TE := fun σ H Q => ∃ L ρ μ, RelS P H L σ ρ ∧ St3 P H L μ ∧ Post P (WE W σ) L H (fun d L' H' => ∀ v, Rep P H' L' v d → Q v H') (f ρ μ)
def tVT (P : Pm) (W : WX) (f : ST) : TT := fun σ H Q => ∃ L ρ μ, RelS P H L σ ρ ∧ St3 P H L μ ∧ Post P (WE W σ) L H (fun b _ H' => Q b H') (f ρ μ)
def tVA (P : Pm) (W : WX) (f : SA) : TA := fun σ H Q => ∃ L ρ μ, RelS P H L σ ρ ∧ St3 P H L μ ∧ Post P (WE W σ) L H (fun ds L' H' => ∀ vs, Reps P H' L' vs ds → Q vs H') (f ρ μ)
/-- a rule's reading may be asked for more -/
theorem _root_.L2.PE.imp3 {X : Cx} {e : Expr} {t t' : TE} (h : PE X e t) (i : ∀ σ H Q, t' σ H Q → t σ H Q) : PE X e t' := ⟨fun pins s σ H Q I q => h.run pins s σ H Q I (i σ H Q q)⟩
theorem _root_.L2.PT.imp3 {X : Cx} {e : Expr} {t t' : TT} (h : PT X e t) (i : ∀ σ H Q, t' σ H Q → t σ H Q) : PT X e t' := ⟨fun pins s σ H Q I q => h.run pins s σ H Q I (i σ H Q q)⟩
theorem _root_.L2.PA.imp3 {X : Cx} {e : List Expr} {t t' : TA} (h : PA X e t) (i : ∀ σ H Q, t' σ H Q → t σ H Q) : PA X e t' := ⟨fun pos pins s σ H Q I q => h.run pos pins s σ H Q I (i σ H Q q)⟩
theorem _root_.L2.PS.imp3 {X : Cx} {e : Stmt} {t t' : TS} (h : PS X e t) (i : ∀ D σ H, t' D σ H → t D σ H) : PS X e t' := ⟨fun pins s σ H D I q => h.run pins s σ H D I (i D σ H q)⟩
theorem _root_.L2.PSs.imp3 {X : Cx} {e : List Stmt} {t t' : TS} (h : PSs X e t) (i : ∀ D σ H, t' D σ H → t D σ H) : PSs X e t' := ⟨fun pins s σ H D I q => h.run pins s σ H D I (i D σ H q)⟩
/-- an expression is worth f -/
abbrev VE (P : Pm) (W : WX) (X : Cx) (e : Expr) (f : SE) : Prop := PE X e (tV P W f)
abbrev VT (P : Pm) (W : WX) (X : Cx) (e : Expr) (f : ST) : Prop := PT X e (tVT P W f)
abbrev VA (P : Pm) (W : WX) (X : Cx) (e : List Expr) (f : SA) : Prop := PA X e (tVA P W f)

/-! the moves -/
section
variable {P : Pm} {W : WX} {σ : Slots} {H : Hp} {L : Lv} {ρ : Env} {μ : Sto} {α : Type}
/-- one expression ahead of the rest -/
theorem tV.first {f : SE} {k : D → Sto → R α} {Q : V → Hp → Prop} {q : α → Lv → Hp → Prop} (rs : RelS P H L σ ρ) (st : St3 P H L μ) (h : Post P (WE W σ) L H q ((f ρ μ).bind k))
    (go : ∀ d μ1 v L1 H1, Ext P L H L1 H1 → St3 P H1 L1 μ1 → Rep P H1 L1 v d → RelS P H1 L1 σ ρ → Post P (WE W σ) L1 H1 q (k d μ1) → Q v H1) : tV P W f σ H Q := by
  refine ⟨L, ρ, μ, rs, st, ?_⟩
  cases e : f ρ μ with
  | ok d μ1 => rw [e] at h; exact fun L1 H1 x s v r => go d μ1 v L1 H1 x s r (rs.ext x) (Post.ext x h)
  | exc c ns vs μ1 => rw [e] at h; exact h
  | bad => rw [e] at h; exact h
theorem tVT.first {f : ST} {k : Bool → Sto → R α} {Q : Bool → Hp → Prop} {q : α → Lv → Hp → Prop} (rs : RelS P H L σ ρ) (st : St3 P H L μ) (h : Post P (WE W σ) L H q ((f ρ μ).bind k))
    (go : ∀ b μ1 L1 H1, Ext P L H L1 H1 → St3 P H1 L1 μ1 → RelS P H1 L1 σ ρ → Post P (WE W σ) L1 H1 q (k b μ1) → Q b H1) : tVT P W f σ H Q := by
  refine ⟨L, ρ, μ, rs, st, ?_⟩
  cases e : f ρ μ with
  | ok d μ1 => rw [e] at h; exact fun L1 H1 x s => go d μ1 L1 H1 x s (rs.ext x) (Post.ext x h)
  | exc c ns vs μ1 => rw [e] at h; exact h
  | bad => rw [e] at h; exact h
theorem tVA.first {f : SA} {k : List D → Sto → R α} {Q : List V → Hp → Prop} {q : α → Lv → Hp → Prop} (rs : RelS P H L σ ρ) (st : St3 P H L μ) (h : Post P (WE W σ) L H q ((f ρ μ).bind k))
    (go : ∀ ds μ1 vs L1 H1, Ext P L H L1 H1 → St3 P H1 L1 μ1 → Reps P H1 L1 vs ds → RelS P H1 L1 σ ρ → Post P (WE W σ) L1 H1 q (k ds μ1) → Q vs H1) : tVA P W f σ H Q := by
  refine ⟨L, ρ, μ, rs, st, ?_⟩
  cases e : f ρ μ with
  | ok d μ1 => rw [e] at h; exact fun L1 H1 x s v r => go d μ1 v L1 H1 x s r (rs.ext x) (Post.ext x h)
  | exc c ns vs μ1 => rw [e] at h; exact h
  | bad => rw [e] at h; exact h
end
end L3

namespace L3
open PySem PySem.Spec PyProof.Rows L2
/-! ### new objects -/
section
variable {P : Pm} {H H1 : Hp} {L L1 : Lv} {μ : Sto}
theorem RepM.ext0 {a : Addr} {m : MO} (k : ∀ o, H a = some o → H1 a = some o) (x : Ext0 L H L1 H1) (r : RepM P H L a m) : RepM P H1 L1 a m := by
  cases r with
  | lst h r => exact .lst (k _ h) (r.ext0 x)
  | dct h l r => exact .dct (k _ h) l (r.ext0 x)
  | ins h hc l r => exact .ins (k _ h) hc l (r.ext0 x)
theorem RepM.there {a : Addr} {m : MO} (r : RepM P H L a m) : H a ≠ none := by
  cases r with
  | lst h r => rw [h]; exact fun z => nomatch z
  | dct h l r => rw [h]; exact fun z => nomatch z
  | ins h hc l r => rw [h]; exact fun z => nomatch z
theorem Ext0.grow (k : ∀ b o, H b = some o → H1 b = some o) : Ext0 L H L H1 :=
  ⟨fun a o h _ _ => k a o h, fun _ _ h => h, fun _ h => .inl h⟩
/-- all that stood stands, the private things among it -/
theorem Ext.grow {μ : Sto} (s : St3 P H L μ) (k : ∀ b o, H b = some o → H1 b = some o) : Ext P L H L H1 :=
  ⟨Ext0.grow k, rfl, fun a h => by
    obtain ⟨vs, e⟩ := (s.dis a h).2
    rw [e]
    exact k a _ e⟩
theorem St3.grow (k : ∀ b o, H b = some o → H1 b = some o) (s : St3 P H L μ) : St3 P H1 L μ :=
  ⟨s.len, fun i a m h1 h2 => (s.at_ i a m h1 h2).ext0 (fun o => k a o) (Ext0.grow k), s.nd, fun a h => ⟨(s.dis a h).1, let ⟨vs, e⟩ := (s.dis a h).2; ⟨vs, k a _ e⟩⟩, s.tab.ext k⟩
theorem upd_grow {p : Addr} {o : HO} (n : H p = none) : ∀ b u, H b = some u → upd H p o b = some u := fun b u e => by rw [upd_ne (ne_of_none e n)]; exact e
theorem St3.cell_there (s : St3 P H L μ) {a : Addr} (h : L.has a) : H a ≠ none := by
  rcases h with h | h
  · obtain ⟨k, hk, e⟩ := List.mem_iff_getElem.mp h
    have h1 : L.c[k]? = some a := by rw [List.getElem?_eq_getElem hk, e]
    have hk2 : k < μ.length := by rw [← s.len]; exact hk
    exact (s.at_ k a _ h1 (List.getElem?_eq_getElem hk2)).there
  · obtain ⟨vs, e⟩ := (s.dis a h).2
    rw [e]
    exact fun z => nomatch z
theorem RepM.notbl {a : Addr} {m : MO} (r : RepM P H L a m) {ps : Array Value} : H a ≠ some (.tbl ps) := by
  cases r with
  | lst h r => rw [h]; exact fun z => nomatch z
  | dct h l r => rw [h]; exact fun z => nomatch z
  | ins h hc l r => rw [h]; exact fun z => nomatch z
theorem St3.new_not (s : St3 P H L μ) {p : Addr} (n : H p = none) : ¬ L.has p := fun h => s.cell_there h n
/-- a new list, a new tuple -/
theorem new_lst (s : St3 P H L μ) {p : Addr} {vs : List V} {ds : List D} (n : H p = none) (r : Reps P H L vs ds) : Rep P (upd H p (.lst vs)) L (.ref p) (.lst ds) :=
  .lst upd_same (s.new_not n) (r.ext0 (Ext0.grow (upd_grow n)))
theorem new_tup (s : St3 P H L μ) {p : Addr} {vs : List V} {ds : List D} (n : H p = none) (r : Reps P H L vs ds) : Rep P (upd H p (.tup vs)) L (.ref p) (.tup ds) :=
  .tup (.inl ⟨.inl upd_same, s.new_not n⟩) (r.ext0 (Ext0.grow (upd_grow n)))
theorem TupAt.sq {a : Addr} {vs : List V} (h : TupAt P H L a vs) : SqT P.K H a vs := by
  rcases h with ⟨h, _⟩ | h
  · exact .inl h
  · exact .inr h
theorem ScrAt.sq {a : Addr} {vs : List V} (h : ScrAt P H L a vs) : SqL P.K H a vs := by
  rcases h with ⟨h, _⟩ | h
  · exact .inl h
  · exact .inr h
theorem Reps.ints : ∀ (ns : List Int), Reps P H L (ns.map V.int) (ns.map D.int)
  | [] => .nil
  | n :: r => .cons (.int n) (Reps.ints r)
/-! ### reading lists -/
/-- the items of a list, wherever it is -/
def asL (μ : Sto) : D → Option (List D)
  | .lst ds => some ds
  | .cell k => match μ[k]? with
    | some (.lst ds) => some ds
    | _ => none
  | _ => none
def asS (μ : Sto) : D → Option (List D)
  | .scr ns => some (ns.map D.int)
  | d => asL μ d
theorem asL_ok (s : St3 P H L μ) {v : V} {d : D} {ds : List D} (r : Rep P H L v d) (e : asL μ d = some ds) : ∃ a vs, v = .ref a ∧ H a = some (.lst vs) ∧ Reps P H L vs ds := by
  cases r with
  | lst h n r => cases e; exact ⟨_, _, rfl, h, r⟩
  | @cell a k h =>
    have e' : (match μ[k]? with
      | some (.lst ds) => some ds
      | _ => none) = some ds := e
    cases em : μ[k]? with
    | none => rw [em] at e'; cases e'
    | some m =>
      rw [em] at e'
      have q := s.at_ k a m h em
      cases q with
      | lst h' r' => cases e'; exact ⟨_, _, rfl, h', r'⟩
      | dct h' l r' => cases e'
      | ins h' hc l r' => cases e'
  | non => cases e
  | bl b => cases e
  | int i => cases e
  | str z => cases e
  | tup h r => cases e
  | dct h n l r => cases e
  | obj h hc n l r => cases e
  | scr h => cases e
theorem asS_ok (s : St3 P H L μ) {v : V} {d : D} {ds : List D} (r : Rep P H L v d) (e : asS μ d = some ds) : ∃ a vs, v = .ref a ∧ SqL P.K H a vs ∧ Reps P H L vs ds := by
  have go : asL μ d = some ds → ∃ a vs, v = .ref a ∧ SqL P.K H a vs ∧ Reps P H L vs ds := fun e =>
    let ⟨a, vs, h1, h2, h3⟩ := asL_ok s r e; ⟨a, vs, h1, .of h2, h3⟩
  cases d with
  | scr ns =>
    cases e
    cases r with
    | scr h => exact ⟨_, _, rfl, h.sq, Reps.ints ns⟩
  | _ => exact go e
theorem tup_ok {v : V} {ds : List D} (r : Rep P H L v (.tup ds)) : ∃ a vs, v = .ref a ∧ SqT P.K H a vs ∧ Reps P H L vs ds := by
  cases r with
  | tup h r => exact ⟨_, _, rfl, h.sq, r⟩
end

/-! ### names and constants -/
def eVar (i : Nat) : SE := fun ρ μ => match ρ[i]? with
  | some (some d) => .ok d μ
  | _ => .bad
def eC (d : D) : SE := fun _ μ => .ok d μ
section
variable {P : Pm} {W : WX} {X : Cx} {pos : Pos}
theorem ve_var {i : Nat} {x : Str} (hN : X.N[i]? = some x) (hv : Vis X.env.scope x) (hd : (x == ("__debug__" : Str)) = false := by decide) (hcd : (x == ("__classdict__" : Str)) = false := by decide) : VE P W X (.Name x pos) (eVar i) := by
  refine (pe_var hN hv hd hcd).imp3 fun σ H Q ⟨L, ρ, μ, rs, st, q⟩ => ?_
  unfold eVar at q
  cases e : ρ[i]? with
  | none => rw [e] at q; exact q.elim
  | some o =>
    cases o with
    | none => rw [e] at q; exact q.elim
    | some d =>
      rw [e] at q
      obtain ⟨v, h1, h2⟩ := rs.at_ i d e
      exact ⟨v, h1, q L H .refl st v h2⟩
theorem vv (i : Nat) {x : Str} {pos : Pos} (hN : X.N[i]? = some x := by rfl) (hv : Vis X.env.scope x := by first | exact Or.inl rfl | exact Or.inr (Or.inl rfl) | exact Or.inr (Or.inr rfl)) (hd : (x == ("__debug__" : Str)) = false := by decide)
    (hcd : (x == ("__classdict__" : Str)) = false := by decide) : VE P W X (.Name x pos) (eVar i) := ve_var hN hv hd hcd
theorem ve_c {e : Expr} {v : V} {d : D} (h : PE X e (tC v)) (r : ∀ L H, Rep P H L v d) : VE P W X e (eC d) :=
  h.imp3 fun σ H Q ⟨L, ρ, μ, rs, st, q⟩ => q L H .refl st v (r L H)
theorem ve_int {i j} : VE P W X (.Constant (.int i) j pos) (eC (.int i)) := ve_c pe_int fun _ _ => .int i
theorem ve_bl {b j} : VE P W X (.Constant (.bool b) j pos) (eC (.bl b)) := ve_c pe_bl fun _ _ => .bl b
theorem ve_str {x j} : VE P W X (.Constant (.str x) j pos) (eC (.str x)) := ve_c pe_str fun _ _ => .str x
end

/-! ### operators by values -/
def eB (g : D → D → Sto → R D) (f1 f2 : SE) : SE := fun ρ μ => (f1 ρ μ).bind fun a μ1 => (f2 ρ μ1).bind fun b μ2 => g a b μ2
def eU (g : D → Sto → R D) (f : SE) : SE := fun ρ μ => (f ρ μ).bind fun a μ1 => g a μ1
/-- the rule r is served where g gives something -/
def OpS (P : Pm) (r : R2) (g : D → D → Sto → R D) : Prop := ∀ (E : XK) (L : Lv) (H : Hp) (μ : Sto) (x y : V) (a b : D) (Q : VK), St3 P H L μ → Rep P H L x a → Rep P H L y b →
  Post P E L H (fun d L' H' => ∀ v, Rep P H' L' v d → Q v H') (g a b μ) → r x y H Q
theorem OpS.inl {P : Pm} {r r' : R2} {g : D → D → Sto → R D} (h : OpS P r g) : OpS P (fun x y H Q => r x y H Q ∨ r' x y H Q) g := fun E L H μ x y a b Q s ra rb q => .inl (h E L H μ x y a b Q s ra rb q)
section
variable {P : Pm} {W : WX} {X : Cx} {pos : Pos} {a b : Expr} {f1 f2 : SE} {r : R2} {g : D → D → Sto → R D}
theorem tOp_of (hg : OpS P r g) {σ : Slots} {H : Hp} {Q : VK} (h : tV P W (eB g f1 f2) σ H Q) : tOp r (tV P W f1) (tV P W f2) σ H Q := by
  obtain ⟨L, ρ, μ, rs, st, q⟩ := h
  refine tV.first rs st q fun d μ1 v L1 H1 x1 s1 r1 rs1 q1 => ?_
  exact tV.first rs1 s1 q1 fun d2 μ2 v2 L2 H2 x2 s2 r2 rs2 q2 => hg _ L2 H2 μ2 v v2 d d2 Q s2 (r1.ext x2) r2 q2
theorem ve_bin {op : Operator} (ho : OpR X (binaryOp op) r) (hg : OpS P r g) (h1 : VE P W X a f1) (h2 : VE P W X b f2) : VE P W X (.BinOp a op b pos) (eB g f1 f2) :=
  (pe_op ho h1 h2).imp3 fun _ _ _ h => tOp_of hg h
theorem ve_cmp {op : CmpOp} (ho : OpR X (compareOp op) r) (hg : OpS P r g) (h1 : VE P W X a f1) (h2 : VE P W X b f2) (hm : behindInMarks op b = false) : VE P W X (.Compare a [op] [b] pos) (eB g f1 f2) :=
  (pe_cmpR ho h1 h2 hm).imp3 fun _ _ _ h => tOp_of hg h
/-- a value that is a bool, as a test -/
def eT (f : SE) : ST := fun ρ μ => (f ρ μ).bind fun d μ1 => match d with
  | .bl c => .ok c μ1
  | _ => .bad
theorem tT_of {f : SE} {σ : Slots} {H : Hp} {Q : Bool → Hp → Prop} (h : tVT P W (eT f) σ H Q) : tV P W f σ H (fun x H1 => ∃ c, x = .bl c ∧ Q c H1) := by
  obtain ⟨L, ρ, μ, rs, st, q⟩ := h
  refine tV.first rs st q fun d μ1 v L1 H1 x1 s1 r1 rs1 q1 => ?_
  cases r1 with
  | bl c => exact ⟨c, rfl, q1 L1 H1 .refl s1⟩
  | _ => exact q1.elim
theorem vt_cmp {op : CmpOp} (ho : OpR X (compareOp op) r) (hg : OpS P r g) (h1 : VE P W X a f1) (h2 : VE P W X b f2) (hm : behindInMarks op b = false) : VT P W X (.Compare a [op] [b] pos) (eT (eB g f1 f2)) :=
  (pt_cmpR ho h1 h2 hm).imp3 fun _ _ _ h => by
    have z := tT_of h
    exact tOp_of hg z
theorem vt_val {e : Expr} {f : SE} (h : VE P W X e f) (he : ∀ whole, isTrue e X.env whole = (do let v ← whole; standAt e.pos; holding [v] (truthy v)) := by intro _; rfl) : VT P W X e (eT f) :=
  (pt_val h he).imp3 fun _ _ _ q => tT_of q
/-! and, or, not -/
variable {rest : List Expr} {t1 t2 : ST}
def eAndT (t1 t2 : ST) : ST := fun ρ μ => (t1 ρ μ).bind fun c μ1 => if c = true then t2 ρ μ1 else .ok false μ1
def eOrT (t1 t2 : ST) : ST := fun ρ μ => (t1 ρ μ).bind fun c μ1 => if c = true then .ok true μ1 else t2 ρ μ1
def eNotT (t1 : ST) : ST := fun ρ μ => (t1 ρ μ).bind fun c μ1 => .ok (!c) μ1
abbrev VW (P : Pm) (W : WX) (X : Cx) (e : Expr) (f : ST) : Prop := PW X e (tVT P W f)
theorem _root_.L2.PW.imp3 {X : Cx} {e : Expr} {t t' : TT} (h : PW X e t) (i : ∀ σ H Q, t' σ H Q → t σ H Q) : PW X e t' := ⟨fun wh pins s σ H Q I q => h.run wh pins s σ H Q I (i σ H Q q)⟩
theorem vw_and1 (h : VT P W X a t1) : VW P W X (.BoolOp .And [a] pos) t1 := pw_and1 h
theorem vw_or1 (h : VT P W X a t1) : VW P W X (.BoolOp .Or [a] pos) t1 := pw_or1 h
theorem vw_and (h1 : VT P W X a t1) (h2 : VW P W X (.BoolOp .And (b :: rest) pos) t2) : VW P W X (.BoolOp .And (a :: b :: rest) pos) (eAndT t1 t2) :=
  (pw_and h1 h2).imp3 fun σ H Q h => by
    obtain ⟨L, ρ, μ, rs, st, q⟩ := h
    refine tVT.first rs st q fun c μ1 L1 H1 x1 s1 rs1 q1 => ?_
    cases c with
    | true => exact ⟨L1, ρ, μ1, rs1, s1, q1⟩
    | false => exact q1 L1 H1 .refl s1
theorem vw_or (h1 : VT P W X a t1) (h2 : VW P W X (.BoolOp .Or (b :: rest) pos) t2) : VW P W X (.BoolOp .Or (a :: b :: rest) pos) (eOrT t1 t2) :=
  (pw_or h1 h2).imp3 fun σ H Q h => by
    obtain ⟨L, ρ, μ, rs, st, q⟩ := h
    refine tVT.first rs st q fun c μ1 L1 H1 x1 s1 rs1 q1 => ?_
    cases c with
    | false => exact ⟨L1, ρ, μ1, rs1, s1, q1⟩
    | true => exact q1 L1 H1 .refl s1
theorem vt_w {e : Expr} (h : VW P W X e t1) : VT P W X e t1 := h.pt
theorem vt_not (h : VT P W X a t1) : VT P W X (.UnaryOp .Not a pos) (eNotT t1) :=
  (pt_not h).imp3 fun σ H Q h => by
    obtain ⟨L, ρ, μ, rs, st, q⟩ := h
    exact tVT.first rs st q fun c μ1 L1 H1 x1 s1 rs1 q1 => q1 L1 H1 .refl s1
/-- as values -/
def eAndV (f1 f2 : SE) : SE := fun ρ μ => (f1 ρ μ).bind fun d μ1 => match d with
  | .bl true => f2 ρ μ1
  | .bl false => .ok (.bl false) μ1
  | _ => .bad
def eOrV (f1 f2 : SE) : SE := fun ρ μ => (f1 ρ μ).bind fun d μ1 => match d with
  | .bl false => f2 ρ μ1
  | .bl true => .ok (.bl true) μ1
  | _ => .bad
def eNotV (f1 : SE) : SE := fun ρ μ => (f1 ρ μ).bind fun d μ1 => match d with
  | .bl c => .ok (.bl (!c)) μ1
  | _ => .bad
theorem ve_one {op} (h : VE P W X a f1) : VE P W X (.BoolOp op [a] pos) f1 := pe_one h
theorem ve_and (h1 : VE P W X a f1) (h2 : VE P W X (.BoolOp .And (b :: rest) pos) f2) : VE P W X (.BoolOp .And (a :: b :: rest) pos) (eAndV f1 f2) :=
  (pe_and h1 h2).imp3 fun σ H Q h => by
    obtain ⟨L, ρ, μ, rs, st, q⟩ := h
    refine tV.first rs st q fun d μ1 v L1 H1 x1 s1 r1 rs1 q1 => ?_
    cases r1 with
    | bl c =>
      refine ⟨c, rfl, ?_⟩
      cases c with
      | true => exact ⟨L1, ρ, μ1, rs1, s1, q1⟩
      | false => exact q1 L1 H1 .refl s1 _ (.bl false)
    | _ => exact q1.elim
def eIf (t : ST) (f1 f2 : SE) : SE := fun ρ μ => (t ρ μ).bind fun c μ1 => if c = true then f1 ρ μ1 else f2 ρ μ1
theorem ve_if {c : Expr} (hc : VT P W X c t1) (h1 : VE P W X a f1) (h2 : VE P W X b f2) : VE P W X (.IfExp c a b pos) (eIf t1 f1 f2) :=
  (pe_ifExp hc h1 h2).imp3 fun σ H Q h => by
    obtain ⟨L, ρ, μ, rs, st, q⟩ := h
    refine tVT.first rs st q fun c μ1 L1 H1 x1 s1 rs1 q1 => ?_
    cases c with
    | true => exact ⟨L1, ρ, μ1, rs1, s1, q1⟩
    | false => exact ⟨L1, ρ, μ1, rs1, s1, q1⟩
end
/-! unary minus -/
def dNeg : D → Sto → R D
  | .int i, μ => .ok (.int (-i)) μ
  | _, _ => .bad
section
variable {P : Pm} {W : WX} {X : Cx} {pos : Pos} {a : Expr} {f1 : SE}
theorem ve_neg (h : VE P W X a f1) : VE P W X (.UnaryOp .USub a pos) (eU dNeg f1) :=
  (pe_un un_neg h).imp3 fun σ H Q h => by
    obtain ⟨L, ρ, μ, rs, st, q⟩ := h
    refine tV.first rs st q fun d μ1 v L1 H1 x1 s1 r1 rs1 q1 => ?_
    cases r1 with
    | int i => exact ⟨i, rfl, q1 L1 H1 .refl s1 _ (.int _)⟩
    | _ => exact q1.elim
end
/-! ### ints -/
instance (i j : Int) : Decidable (IntMulOk i j) := inferInstanceAs (Decidable (¬ (_ = true)))
def dSub : D → D → Sto → R D
  | .int i, .int j, μ => .ok (.int (i - j)) μ
  | _, _, _ => .bad
def dMod : D → D → Sto → R D
  | .int i, .int j, μ => if j ≠ 0 then .ok (.int (i.fmod j)) μ else .bad
  | _, _, _ => .bad
def dFdiv : D → D → Sto → R D
  | .int i, .int j, μ => if j ≠ 0 ∧ Builtin.divisionGoesByPylong i j = false then .ok (.int (i.fdiv j)) μ else .bad
  | _, _, _ => .bad
def dPow : D → D → Sto → R D
  | .int i, .int j, μ => if 0 ≤ j ∧ j ≤ 1000000 ∧ i.natAbs < 2 ^ 64 then .ok (.int (i ^ j.toNat)) μ else .bad
  | _, _, _ => .bad
def dLt : D → D → Sto → R D
  | .int i, .int j, μ => .ok (.bl (decide (i < j))) μ
  | _, _, _ => .bad
def dLe : D → D → Sto → R D
  | .int i, .int j, μ => .ok (.bl (decide (i ≤ j))) μ
  | _, _, _ => .bad
def dGt : D → D → Sto → R D
  | .int i, .int j, μ => .ok (.bl (decide (j < i))) μ
  | _, _, _ => .bad
def dGe : D → D → Sto → R D
  | .int i, .int j, μ => .ok (.bl (decide (j ≤ i))) μ
  | _, _, _ => .bad
theorem os_int {P : Pm} {C : Int → Int → Prop} [∀ i j, Decidable (C i j)] {k : Int → Int → V} {kd : Int → Int → D} {g : D → D → Sto → R D} (hk : ∀ H L i j, Rep P H L (k i j) (kd i j))
    (hg : ∀ a b μ, g a b μ = match a, b with
      | .int i, .int j => if C i j then .ok (kd i j) μ else .bad
      | _, _ => .bad) : OpS P (rI C k) g := by
  intro E L H μ x y a b Q s ra rb q
  rw [hg] at q
  cases ra with
  | int i =>
    cases rb with
    | int j =>
      by_cases c : C i j
      · have q' : Post P E L H (fun d L' H' => ∀ v, Rep P H' L' v d → Q v H') (if C i j then .ok (kd i j) μ else .bad) := q
        rw [if_pos c] at q'
        exact ⟨i, j, rfl, rfl, c, q' L H .refl s _ (hk H L i j)⟩
      · have q' : Post P E L H (fun d L' H' => ∀ v, Rep P H' L' v d → Q v H') (if C i j then .ok (kd i j) μ else .bad) := q
        rw [if_neg c] at q'
        exact q'.elim
    | _ => exact q.elim
  | _ => exact q.elim
theorem os_int0 {P : Pm} {k : Int → Int → V} {kd : Int → Int → D} {g : D → D → Sto → R D} (hk : ∀ H L i j, Rep P H L (k i j) (kd i j))
    (hg : ∀ a b μ, g a b μ = match a, b with
      | .int i, .int j => .ok (kd i j) μ
      | _, _ => .bad) : OpS P (rI0 k) g := by
  intro E L H μ x y a b Q s ra rb q
  rw [hg] at q
  cases ra with
  | int i =>
    cases rb with
    | int j => exact ⟨i, j, rfl, rfl, q L H .refl s _ (hk H L i j)⟩
    | _ => exact q.elim
  | _ => exact q.elim
section
variable {P : Pm} {X : Cx}
theorem os_sub : OpS P (rI0 fun i j => .int (i - j)) dSub := os_int0 (fun _ _ _ _ => .int _) fun a b μ => by cases a <;> cases b <;> rfl
theorem os_lt : OpS P (rI0 fun i j => .bl (decide (i < j))) dLt := os_int0 (fun _ _ _ _ => .bl _) fun a b μ => by cases a <;> cases b <;> rfl
theorem os_gt : OpS P (rI0 fun i j => .bl (decide (j < i))) dGt := os_int0 (fun _ _ _ _ => .bl _) fun a b μ => by cases a <;> cases b <;> rfl
theorem os_ge : OpS P (rI0 fun i j => .bl (decide (j ≤ i))) dGe := os_int0 (fun _ _ _ _ => .bl _) fun a b μ => by cases a <;> cases b <;> rfl
theorem os_mod : OpS P (rI (fun _ j => j ≠ 0) fun i j => .int (i.fmod j)) dMod := os_int (fun _ _ _ _ => .int _) fun a b μ => by cases a <;> cases b <;> rfl
theorem op_fdivP : OpR X (binaryOp .FloorDiv) (rI (fun i j => j ≠ 0 ∧ Builtin.divisionGoesByPylong i j = false) fun i j => .int (i.fdiv j)) := opI fun i j _ _ _ _ _ hc q => floordiv_int hc.1 q (.inl hc.2)
theorem os_fdiv : OpS P (rI (fun i j => j ≠ 0 ∧ Builtin.divisionGoesByPylong i j = false) fun i j => .int (i.fdiv j)) dFdiv := os_int (fun _ _ _ _ => .int _) fun a b μ => by cases a <;> cases b <;> rfl
instance (i j : Int) : Decidable (CPow i j) := inferInstanceAs (Decidable (_ ∧ _))
theorem os_pow : OpS P (rI CPow fun i j => .int (i ^ j.toNat)) dPow := os_int (C := CPow) (fun _ _ _ _ => .int _) fun a b μ => by cases a <;> cases b <;> rfl
/-! + and *: ints, texts, lists, tuples -/
def dAdd : D → D → Sto → R D := fun a b μ => match a, b with
  | .int i, .int j => .ok (.int (i + j)) μ
  | .str x, .str y => if x.length + y.length ≤ sizeLine then .ok (.str (x ++ y)) μ else .bad
  | .tup xs, .tup ys => if xs ≠ [] ∧ xs.length + ys.length ≤ sizeLine then .ok (.tup (xs ++ ys)) μ else .bad
  | a, b => match asL μ a, asL μ b with
    | some xs, some ys => if xs.length + ys.length ≤ sizeLine then .ok (.lst (xs ++ ys)) μ else .bad
    | _, _ => .bad
def rAdd4 (K : PySem.W.Frag) : R2 := fun x y H Q => (rI0 fun i j => .int (i + j)) x y H Q ∨ ((∃ i j, x = .str i ∧ y = .str j ∧ i.length + j.length ≤ sizeLine ∧ Q (.str (i ++ j)) H) ∨ (rCatT K x y H Q ∨ rCat x y H Q))
theorem op_add4 : OpR X (binaryOp .Add) (rAdd4 X.K) := op_add.or (op_add_str.or (op_catT.or op_cat))
theorem os_add (hK : P.K = X.K) : OpS P (rAdd4 X.K) dAdd := by
  intro E L H μ x y a b Q s ra rb q
  have lists : (match asL μ a, asL μ b with
      | some xs, some ys => Post P E L H (fun d L' H' => ∀ v, Rep P H' L' v d → Q v H') (if xs.length + ys.length ≤ sizeLine then .ok (.lst (xs ++ ys)) μ else .bad)
      | _, _ => False) → rAdd4 X.K x y H Q := fun h => by
    cases e1 : asL μ a with
    | none => rw [e1] at h; exact h.elim
    | some xs =>
      cases e2 : asL μ b with
      | none => rw [e1, e2] at h; exact h.elim
      | some ys =>
        rw [e1, e2] at h
        have h : Post P E L H (fun d L' H' => ∀ v, Rep P H' L' v d → Q v H') (if xs.length + ys.length ≤ sizeLine then .ok (.lst (xs ++ ys)) μ else .bad) := h
        by_cases c : xs.length + ys.length ≤ sizeLine
        · rw [if_pos c] at h
          obtain ⟨p1, vs1, rfl, h1, r1⟩ := asL_ok s ra e1
          obtain ⟨p2, vs2, rfl, h2, r2⟩ := asL_ok s rb e2
          exact .inr (.inr (.inr ⟨p1, p2, vs1, vs2, rfl, rfl, h1, h2, by rw [r1.length, r2.length]; exact c, fun p hp => h _ _ (Ext.grow s (upd_grow hp)) (s.grow (upd_grow hp)) _ (new_lst s hp (r1.append r2))⟩))
        · rw [if_neg c] at h; exact h.elim
  have fall : dAdd a b μ = (match asL μ a, asL μ b with
    | some xs, some ys => if xs.length + ys.length ≤ sizeLine then .ok (.lst (xs ++ ys)) μ else .bad
    | _, _ => .bad) → rAdd4 X.K x y H Q := fun e => lists (by
      rw [e] at q
      cases e1 : asL μ a with
      | none => rw [e1] at q; exact q
      | some xs =>
        cases e2 : asL μ b with
        | none => rw [e1, e2] at q; exact q
        | some ys => rw [e1, e2] at q; exact q)
  cases a with
  | int i =>
    cases b with
    | int j => cases ra; cases rb; exact .inl ⟨i, j, rfl, rfl, q L H .refl s _ (.int _)⟩
    | _ => exact fall rfl
  | str z =>
    cases b with
    | str z2 =>
      cases ra; cases rb
      have q : Post P E L H (fun d L' H' => ∀ v, Rep P H' L' v d → Q v H') (if z.length + z2.length ≤ sizeLine then .ok (.str (z ++ z2)) μ else .bad) := q
      by_cases c : z.length + z2.length ≤ sizeLine
      · rw [if_pos c] at q
        exact .inr (.inl ⟨z, z2, rfl, rfl, c, q L H .refl s _ (.str _)⟩)
      · rw [if_neg c] at q; exact q.elim
    | _ => exact fall rfl
  | tup xs =>
    cases b with
    | tup ys =>
      have q : Post P E L H (fun d L' H' => ∀ v, Rep P H' L' v d → Q v H') (if xs ≠ [] ∧ xs.length + ys.length ≤ sizeLine then .ok (.tup (xs ++ ys)) μ else .bad) := q
      by_cases c : xs ≠ [] ∧ xs.length + ys.length ≤ sizeLine
      · rw [if_pos c] at q
        have ra' := ra
        obtain ⟨p1, vs1, e1, h1, r1⟩ := tup_ok ra
        obtain ⟨p2, vs2, e2, h2, r2⟩ := tup_ok rb
        subst e1; subst e2
        rw [hK] at h1 h2
        refine .inr (.inr (.inl ⟨p1, p2, vs1, vs2, rfl, rfl, h1, h2, fun z => ?_, by rw [r1.length, r2.length]; exact c.2, fun z => ?_, fun z p hp => q _ _ (Ext.grow s (upd_grow hp)) (s.grow (upd_grow hp)) _ (new_tup s hp (r1.append r2))⟩))
        · subst z; cases r1; exact c.1 rfl
        · subst z; cases r2
          rw [List.append_nil] at q
          exact q L H .refl s _ ra'
      · rw [if_neg c] at q; exact q.elim
    | _ => exact fall rfl
  | _ => exact fall rfl
def rMulP : R2 := rI IntMulOk fun i j => .int (i * j)
theorem op_mulP : OpR X (binaryOp .Mult) rMulP := opI fun _ _ _ _ _ _ _ hc q => mul_int q hc
def dMul : D → D → Sto → R D := fun a b μ => match a, b with
  | .int i, .int j => if IntMulOk i j then .ok (.int (i * j)) μ else .bad
  | a, .int k => match asL μ a with
    | some xs => if -(2 ^ 63) ≤ k ∧ k < 2 ^ 63 ∧ xs.length * k.toNat ≤ sizeLine then .ok (.lst (List.replicate k.toNat xs).flatten) μ else .bad
    | none => .bad
  | _, _ => .bad
def rMul2 : R2 := fun x y H Q => rMulP x y H Q ∨ rRep x y H Q
theorem op_mul2 : OpR X (binaryOp .Mult) rMul2 := op_mulP.or op_rep
theorem Reps.flat {H : Hp} {L : Lv} {vs : List V} {ds : List D} (r : Reps P H L vs ds) : ∀ n : Nat, Reps P H L (List.replicate n vs).flatten (List.replicate n ds).flatten
  | 0 => .nil
  | n + 1 => by rw [List.replicate_succ, List.replicate_succ, List.flatten_cons, List.flatten_cons]; exact r.append (Reps.flat r n)
theorem os_mul : OpS P rMul2 dMul := by
  intro E L H μ x y a b Q s ra rb q
  have lists : ∀ k : Int, b = .int k → (match asL μ a with
      | some xs => Post P E L H (fun d L' H' => ∀ v, Rep P H' L' v d → Q v H') (if -(2 ^ 63) ≤ k ∧ k < 2 ^ 63 ∧ xs.length * k.toNat ≤ sizeLine then .ok (.lst (List.replicate k.toNat xs).flatten) μ else .bad)
      | none => False) → rMul2 x y H Q := fun k eb h => by
    subst eb
    cases e1 : asL μ a with
    | none => rw [e1] at h; exact h.elim
    | some xs =>
      rw [e1] at h
      have h : Post P E L H (fun d L' H' => ∀ v, Rep P H' L' v d → Q v H') (if -(2 ^ 63) ≤ k ∧ k < 2 ^ 63 ∧ xs.length * k.toNat ≤ sizeLine then .ok (.lst (List.replicate k.toNat xs).flatten) μ else .bad) := h
      by_cases c : -(2 ^ 63) ≤ k ∧ k < 2 ^ 63 ∧ xs.length * k.toNat ≤ sizeLine
      · rw [if_pos c] at h
        obtain ⟨p1, vs1, rfl, h1, r1⟩ := asL_ok s ra e1
        cases rb
        exact .inr ⟨p1, k, vs1, rfl, rfl, h1, c.1, c.2.1, by rw [r1.length]; exact c.2.2, fun p hp => h _ _ (Ext.grow s (upd_grow hp)) (s.grow (upd_grow hp)) _ (new_lst s hp (r1.flat _))⟩
      · rw [if_neg c] at h; exact h.elim
  cases b with
  | int k =>
    cases a with
    | int i =>
      have q : Post P E L H (fun d L' H' => ∀ v, Rep P H' L' v d → Q v H') (if IntMulOk i k then .ok (.int (i * k)) μ else .bad) := q
      cases ra; cases rb
      by_cases c : IntMulOk i k
      · rw [if_pos c] at q; exact .inl ⟨i, k, rfl, rfl, c, q L H .refl s _ (.int _)⟩
      · rw [if_neg c] at q; exact q.elim
    | lst xs => exact lists k rfl q
    | cell c => 
      refine lists k rfl ?_
      have q : Post P E L H (fun d L' H' => ∀ v, Rep P H' L' v d → Q v H') (match asL μ (.cell c) with
        | some xs => if -(2 ^ 63) ≤ k ∧ k < 2 ^ 63 ∧ xs.length * k.toNat ≤ sizeLine then .ok (.lst (List.replicate k.toNat xs).flatten) μ else .bad
        | none => .bad) := q
      cases e1 : asL μ (.cell c) with
      | none => rw [e1] at q; exact q
      | some xs => rw [e1] at q; exact q
    | _ => exact q.elim
  | _ => cases a <;> exact q.elim
end
end L3

namespace L3
open PySem PySem.Spec PyProof.Rows L2
/-! ### arguments, displays -/
def aNil : SA := fun _ μ => .ok [] μ
def aCons (f : SE) (g : SA) : SA := fun ρ μ => (f ρ μ).bind fun d μ1 => (g ρ μ1).bind fun ds μ2 => .ok (d :: ds) μ2
def eTup (fa : SA) : SE := fun ρ μ => (fa ρ μ).bind fun ds μ1 => if ds.length ≤ 100 then .ok (.tup ds) μ1 else .bad
def eLst (fa : SA) : SE := fun ρ μ => (fa ρ μ).bind fun ds μ1 => if ds.length ≤ 100 then .ok (.lst ds) μ1 else .bad
/-- a new list that will be changed -/
def eLstC (fa : SA) : SE := fun ρ μ => (fa ρ μ).bind fun ds μ1 => if ds.length ≤ 100 then .ok (.cell μ1.length) (μ1 ++ [.lst ds]) else .bad
section
variable {P : Pm} {W : WX} {X : Cx} {pos : Pos} {e : Expr} {es : List Expr} {f : SE} {fa : SA}
theorem va_nil : VA P W X [] aNil := pa_nil.imp3 fun σ H Q ⟨L, ρ, μ, rs, st, q⟩ => q L H .refl st [] .nil
theorem va_cons (h : VE P W X e f) (hr : VA P W X es fa) (hs : starEach (e :: es) X.env = (false, eval e X.env) :: starEach es X.env := by rfl) : VA P W X (e :: es) (aCons f fa) :=
  (pa_cons h hr hs).imp3 fun σ H Q ⟨L, ρ, μ, rs, st, q⟩ => by
    refine tV.first rs st q fun d μ1 v L1 H1 x1 s1 r1 rs1 q1 => ?_
    exact tVA.first rs1 s1 q1 fun ds μ2 vs L2 H2 x2 s2 r2 rs2 q2 => q2 L2 H2 .refl s2 _ (.cons (r1.ext x2) r2)
theorem line100 {n : Nat} (h : n ≤ 100) : n ≤ sizeLine := by rw [sizeLine_eq]; omega
theorem ve_tup {k} (h : VA P W X es fa) : VE P W X (.Tuple es k pos) (eTup fa) :=
  (pe_tup h).imp3 fun σ H Q ⟨L, ρ, μ, rs, st, q⟩ => by
    refine tVA.first rs st q fun ds μ1 vs L1 H1 x1 s1 r1 rs1 q1 => ?_
    by_cases c : ds.length ≤ 100
    · rw [if_pos c] at q1
      exact ⟨by rw [r1.length]; exact line100 c, fun p hp => q1 _ _ (Ext.grow s1 (upd_grow hp)) (s1.grow (upd_grow hp)) _ (new_tup s1 hp r1)⟩
    · rw [if_neg c] at q1; exact q1.elim
theorem ve_lst (h : VA P W X es fa) : VE P W X (.List es pos) (eLst fa) :=
  (pe_lst h).imp3 fun σ H Q ⟨L, ρ, μ, rs, st, q⟩ => by
    refine tVA.first rs st q fun ds μ1 vs L1 H1 x1 s1 r1 rs1 q1 => ?_
    by_cases c : ds.length ≤ 100
    · rw [if_pos c] at q1
      exact ⟨by rw [r1.length]; exact line100 c, fun p hp => q1 _ _ (Ext.grow s1 (upd_grow hp)) (s1.grow (upd_grow hp)) _ (new_lst s1 hp r1)⟩
    · rw [if_neg c] at q1; exact q1.elim
end
/-! ### a new mutable thing -/
section
variable {P : Pm} {H : Hp} {L : Lv} {μ : Sto}
theorem Ext0.cell {p : Addr} {o : HO} (n : H p = none) : Ext0 L H (L.cell p) (upd H p o) := by
  refine ⟨fun a u h _ _ => upd_grow n a u h, fun k a h => ?_, fun a h => ?_⟩
  · show (L.c ++ [p])[k]? = some a
    rw [List.getElem?_append_left (List.getElem?_eq_some_iff.mp h).1]; exact h
  · rcases h with h | h
    · rcases List.mem_append.mp (show a ∈ L.c ++ [p] from h) with h | h
      · exact .inl (.inl h)
      · rw [List.mem_singleton] at h; subst h; exact .inr (.inl n)
    · exact .inl (.inr h)
theorem Ext.cell (s : St3 P H L μ) {p : Addr} {o : HO} (n : H p = none) : Ext P L H (L.cell p) (upd H p o) :=
  ⟨Ext0.cell n, rfl, fun a h => upd_ne fun z => s.new_not n (.inr (z ▸ h))⟩
theorem St3.cell (s : St3 P H L μ) {p : Addr} {o : HO} {m : MO} (n : H p = none) (r : RepM P (upd H p o) (L.cell p) p m) : St3 P (upd H p o) (L.cell p) (μ ++ [m]) := by
  have x : Ext P L H (L.cell p) (upd H p o) := Ext.cell s n
  refine ⟨by simp [Lv.cell, s.len], fun k a m' h1 h2 => ?_, ?_, fun a h => ?_, s.tab.ext (upd_grow n)⟩
  · have h1 : (L.c ++ [p])[k]? = some a := h1
    by_cases hk : k < L.c.length
    · rw [List.getElem?_append_left hk] at h1
      rw [List.getElem?_append_left (by rw [← s.len]; exact hk)] at h2
      exact (s.at_ k a m' h1 h2).ext0 (fun o => upd_grow n a o) x.toExt0
    · rw [List.getElem?_append_right (by omega)] at h1
      rw [List.getElem?_append_right (by have := s.len; omega)] at h2
      have e1 : k - L.c.length = 0 := by
        have := (List.getElem?_eq_some_iff.mp h1).1
        simp at this
        omega
      have e2 : k - μ.length = 0 := by have := s.len; omega
      rw [e1] at h1; rw [e2] at h2
      cases h1; cases h2
      exact r
  · exact List.nodup_append.mpr ⟨s.nd, by simp, fun a ha b hb => by
      rw [List.mem_singleton] at hb; subst hb
      exact fun z => s.new_not n (z ▸ .inl ha)⟩
  · have h : a ∈ L.x := h
    have ne : a ≠ p := fun z => by subst z; exact s.new_not n (.inr h)
    refine ⟨fun z => ?_, by rw [upd_ne ne]; exact (s.dis a h).2⟩
    rcases List.mem_append.mp (show a ∈ L.c ++ [p] from z) with z | z
    · exact (s.dis a h).1 z
    · rw [List.mem_singleton] at z; exact ne z
theorem cell_last {p : Addr} (s : St3 P H L μ) : (L.cell p).c[μ.length]? = some p := by show (L.c ++ [p])[μ.length]? = some p; rw [← s.len]; simp
/-- a new list as a cell -/
theorem new_cell (s : St3 P H L μ) {p : Addr} {vs : List V} {ds : List D} (n : H p = none) (r : Reps P H L vs ds) :
    Ext P L H (L.cell p) (upd H p (.lst vs)) ∧ St3 P (upd H p (.lst vs)) (L.cell p) (μ ++ [.lst ds]) ∧ Rep P (upd H p (.lst vs)) (L.cell p) (.ref p) (.cell μ.length) :=
  ⟨Ext.cell s n, s.cell n (.lst upd_same (r.ext (Ext.cell s n))), .cell (cell_last s)⟩
end
section
variable {P : Pm} {W : WX} {X : Cx} {pos : Pos} {e : Expr} {es : List Expr} {f : SE} {fa : SA}
theorem ve_lstC (h : VA P W X es fa) : VE P W X (.List es pos) (eLstC fa) :=
  (pe_lst h).imp3 fun σ H Q ⟨L, ρ, μ, rs, st, q⟩ => by
    refine tVA.first rs st q fun ds μ1 vs L1 H1 x1 s1 r1 rs1 q1 => ?_
    by_cases c : ds.length ≤ 100
    · rw [if_pos c] at q1
      refine ⟨by rw [r1.length]; exact line100 c, fun p hp => ?_⟩
      obtain ⟨a1, a2, a3⟩ := new_cell s1 hp r1
      exact q1 _ _ a1 a2 _ a3
    · rw [if_neg c] at q1; exact q1.elim
end
/-! ### calls of defs -/
/-- a def is worth f -/
def spF (P : Pm) (n : Nat) (f : List D → Sto → R D) : Sp := fun vs H Q E => vs.length = n ∧ ∃ L ds μ, Reps P H L vs ds ∧ St3 P H L μ ∧ Post P E L H (fun d L' H' => ∀ v, Rep P H' L' v d → Q v H') (f ds μ)
def eCall (n : Nat) (f : List D → Sto → R D) (fa : SA) : SE := fun ρ μ => (fa ρ μ).bind fun ds μ1 => if ds.length = n then f ds μ1 else .bad
/-- with defaults: the first m are written -/
def eCallD (m : Nat) (dd : List D) (f : List D → Sto → R D) (fa : SA) : SE := fun ρ μ => (fa ρ μ).bind fun ds μ1 => if ds.length = m then f (ds ++ dd) μ1 else .bad
abbrev CXF (X : Cx) : CXT := L2.CX X.prog X.w
section
variable {P : Pm} {W : WX} {X : Cx} {pos p : Pos} {e : Expr} {es : List Expr} {f : SE} {fa : SA} {k n : Nat} {fA : Addr} {fd : FuncData} {ps : List Str} {g : List D → Sto → R D} {x : Str}
theorem ve_call (F : FnOk X.prog X.w X.K X.mg X.base (CXF X) k fA fd ps (spF P n g)) (hr : Room k X.A) (hg : Gl X x) (hm : X.mg x = some (.ref fA)) (hk : PySem.W.keepIn X.K (.ref fA) = true) (hb : Binds X.K fd ps []) (tk : Takes X W)
    (ha : VA P W X (e :: es) fa) (hdb : (x == ("__debug__" : Str)) = false := by decide) (he : starEach (e :: es) X.env = (false, eval e X.env) :: starEach es X.env := by rfl) (hpl : (backTo pos (starEach es X.env)).any (·.1) = false := by rfl) :
    VE P W X (.Call (.Name x p) (e :: es) [] pos) (eCall n g fa) :=
  (pe_callS (E := WE W) F hr hg hm hk hb (fun σ => passAt tk σ) ha hdb he hpl).imp3 fun σ H Q ⟨L, ρ, μ, rs, st, q⟩ => by
    refine tVA.first rs st q fun ds μ1 vs L1 H1 x1 s1 r1 rs1 q1 => ?_
    by_cases c : ds.length = n
    · rw [if_pos c] at q1
      exact ⟨by rw [r1.length]; exact c, L1, ds, μ1, r1, s1, q1⟩
    · rw [if_neg c] at q1; exact q1.elim
end
/-! ### calls of built-ins -/
def CallS (P : Pm) (r : List V → Hp → VK → Prop) (g : List D → Sto → R D) : Prop := ∀ (E : XK) (L : Lv) (H : Hp) (μ : Sto) (vs : List V) (ds : List D) (Q : VK), St3 P H L μ → Reps P H L vs ds →
  Post P E L H (fun d L' H' => ∀ v, Rep P H' L' v d → Q v H') (g ds μ) → r vs H Q
def eCallB (g : List D → Sto → R D) (fa : SA) : SE := fun ρ μ => (fa ρ μ).bind fun ds μ1 => g ds μ1
theorem CallR.or {X : Cx} {f : Value} {r r' : List V → Hp → VK → Prop} (h : CallR X f r) (h' : CallR X f r') : CallR X f (fun xs H Q => r xs H Q ∨ r' xs H Q) := by
  intro pins s σ H xs us Q I rx q
  rcases q with q | q
  · exact h pins s σ H xs us Q I rx q
  · exact h' pins s σ H xs us Q I rx q
section
variable {P : Pm} {W : WX} {X : Cx} {pos p : Pos} {e : Expr} {es : List Expr} {fa : SA} {g : List D → Sto → R D} {x : Str} {id T : String} {r : List V → Hp → VK → Prop}
theorem ve_callB (hc : CallR X (.builtin id) r) (hs : CallS P r g) (hg : Gl X x) (hm : X.mg x = none) (hv : bootBuiltins x = some (.builtin id)) (ha : VA P W X (e :: es) fa) (hn : x ≠ "__name__" := by decide) (hdb : (x == ("__debug__" : Str)) = false := by decide)
    (he : starEach (e :: es) X.env = (false, eval e X.env) :: starEach es X.env := by rfl) (hpl : (backTo pos (starEach es X.env)).any (·.1) = false := by rfl) : VE P W X (.Call (.Name x p) (e :: es) [] pos) (eCallB g fa) :=
  (pe_callB hc hg hm hv ha hn hdb he hpl).imp3 fun σ H Q ⟨L, ρ, μ, rs, st, q⟩ =>
    tVA.first rs st q fun ds μ1 vs L1 H1 x1 s1 r1 rs1 q1 => hs _ L1 H1 μ1 vs ds Q s1 r1 q1
theorem ve_callTy (hc : CallR X (.type T) r) (hs : CallS P r g) (hg : Gl X x) (hm : X.mg x = none) (hv : bootBuiltins x = some (.type T)) (ha : VA P W X (e :: es) fa) (hn : x ≠ "__name__" := by decide) (hdb : (x == ("__debug__" : Str)) = false := by decide)
    (he : starEach (e :: es) X.env = (false, eval e X.env) :: starEach es X.env := by rfl) (hpl : (backTo pos (starEach es X.env)).any (·.1) = false := by rfl) : VE P W X (.Call (.Name x p) (e :: es) [] pos) (eCallB g fa) :=
  (pe_callTy hc hg hm hv ha hn hdb he hpl).imp3 fun σ H Q ⟨L, ρ, μ, rs, st, q⟩ =>
    tVA.first rs st q fun ds μ1 vs L1 H1 x1 s1 r1 rs1 q1 => hs _ L1 H1 μ1 vs ds Q s1 r1 q1
end
/-- of one, of two -/
def un (g : D → Sto → R D) : List D → Sto → R D
  | [d], μ => g d μ
  | _, _ => .bad
theorem Reps.one {P : Pm} {H : Hp} {L : Lv} {vs : List V} {d : D} (r : Reps P H L vs [d]) : ∃ v, vs = [v] ∧ Rep P H L v d := by
  cases r with
  | cons h t => cases t; exact ⟨_, rfl, h⟩
theorem Reps.two {P : Pm} {H : Hp} {L : Lv} {vs : List V} {d e : D} (r : Reps P H L vs [d, e]) : ∃ v w, vs = [v, w] ∧ Rep P H L v d ∧ Rep P H L w e := by
  cases r with
  | cons h t => obtain ⟨w, rfl, h'⟩ := t.one; exact ⟨_, _, rfl, h, h'⟩
theorem cs_un {P : Pm} {r : List V → Hp → VK → Prop} {g : D → Sto → R D} (h : ∀ (E : XK) (L : Lv) (H : Hp) (μ : Sto) (v : V) (d : D) (Q : VK), St3 P H L μ → Rep P H L v d → Post P E L H (fun d L' H' => ∀ v, Rep P H' L' v d → Q v H') (g d μ) → r [v] H Q) : CallS P r (un g) := by
  intro E L H μ vs ds Q s rr q
  match ds, rr, q with
  | [], _, q => exact q.elim
  | _ :: _ :: _, _, q => exact q.elim
  | [d], rr, q =>
    obtain ⟨v, rfl, rv⟩ := rr.one
    exact h E L H μ v d Q s rv q
/-- the items of a list or a tuple -/
def asQ (μ : Sto) : D → Option (List D)
  | .tup ds => some ds
  | d => asS μ d
section
variable {P : Pm} {X : Cx} {H : Hp} {L : Lv} {μ : Sto}
theorem asQ_ok (s : St3 P H L μ) {v : V} {d : D} {ds : List D} (r : Rep P H L v d) (e : asQ μ d = some ds) : ∃ a vs, v = .ref a ∧ (SqL P.K H a vs ∨ SqT P.K H a vs) ∧ Reps P H L vs ds := by
  have go : asS μ d = some ds → ∃ a vs, v = .ref a ∧ (SqL P.K H a vs ∨ SqT P.K H a vs) ∧ Reps P H L vs ds := fun e =>
    let ⟨a, vs, h1, h2, h3⟩ := asS_ok s r e; ⟨a, vs, h1, .inl h2, h3⟩
  cases d with
  | tup ds' =>
    cases e
    obtain ⟨a, vs, h1, h2, h3⟩ := tup_ok r
    exact ⟨a, vs, h1, .inr h2, h3⟩
  | _ => exact go e
/-! len, abs, list, tuple, int, str -/
def dLen : D → Sto → R D
  | .str z, μ => if z.length ≤ sizeLine then .ok (.int z.length) μ else .bad
  | d, μ => match asQ μ d with
    | some ds => .ok (.int ds.length) μ
    | none => .bad
theorem cs_len (hK : P.K = X.K) : CallS P (fun xs H Q => ∃ x n, xs = [x] ∧ LenV X.K x H n ∧ Q (.int n) H) (un dLen) := by
  refine cs_un fun E L H μ v d Q s rv q => ?_
  · skip
    have seq : (match asQ μ d with
      | some ds => Post P E L H (fun d L' H' => ∀ v, Rep P H' L' v d → Q v H') (.ok (.int ds.length) μ)
      | none => False) → ∃ x n, [v] = [x] ∧ LenV X.K x H n ∧ Q (.int n) H := fun h => by
      cases e1 : asQ μ d with
      | none => rw [e1] at h; exact h.elim
      | some ds =>
        rw [e1] at h
        obtain ⟨a, vs, rfl, hq, rq⟩ := asQ_ok s rv e1
        rw [hK] at hq
        refine ⟨_, vs.length, rfl, ?_, by rw [rq.length]; exact h L H .refl s _ (.int _)⟩
        rcases hq with hq | hq
        · exact .inl ⟨vs, hq, rfl⟩
        · exact .inr ⟨vs, hq, rfl⟩
    have fall : dLen d μ = (match asQ μ d with
      | some ds => .ok (.int ds.length) μ
      | none => .bad) → ∃ x n, [v] = [x] ∧ LenV X.K x H n ∧ Q (.int n) H := fun e => seq (by
        rw [e] at q
        cases e1 : asQ μ d with
        | none => rw [e1] at q; exact q
        | some xs => rw [e1] at q; exact q)
    cases d with
    | str z =>
      have q : Post P E L H (fun d L' H' => ∀ v, Rep P H' L' v d → Q v H') (if z.length ≤ sizeLine then .ok (.int z.length) μ else .bad) := q
      cases rv
      by_cases c : z.length ≤ sizeLine
      · rw [if_pos c] at q
        exact ⟨_, z.length, rfl, ⟨c, rfl⟩, q L H .refl s _ (.int _)⟩
      · rw [if_neg c] at q; exact q.elim
    | _ => exact fall rfl
def dAbsC : D → Sto → R D
  | .int i, μ => .ok (.int (if i < 0 then -i else i)) μ
  | _, _ => .bad
theorem cs_abs : CallS P (fun xs H Q => ∃ i, xs = [.int i] ∧ Q (.int (if i < 0 then -i else i)) H) (un dAbsC) := by
  refine cs_un fun E L H μ v d Q s rv q => ?_
  · skip
    cases rv with
    | int i => exact ⟨i, rfl, q L H .refl s _ (.int _)⟩
    | _ => exact q.elim
/-- list(x): a new one -/
def dListOf : D → Sto → R D := fun d μ => match asQ μ d with
    | some ds => .ok (.lst ds) μ
    | none => .bad
theorem cs_listOf (hK : P.K = X.K) : CallS P (fun xs H Q => ∃ p ys, xs = [.ref p] ∧ (SqL X.K H p ys ∨ SqT X.K H p ys) ∧ ∀ l, H l = none → Q (.ref l) (upd H l (.lst ys))) (un dListOf) := by
  refine cs_un fun E L H μ v d Q s rv q => ?_
  · skip
    have q : Post P E L H (fun d L' H' => ∀ v, Rep P H' L' v d → Q v H') (match asQ μ d with
      | some ds => .ok (.lst ds) μ
      | none => .bad) := q
    cases e1 : asQ μ d with
    | none => rw [e1] at q; exact q.elim
    | some ds =>
      rw [e1] at q
      obtain ⟨a, vs, rfl, hq, rq⟩ := asQ_ok s rv e1
      rw [hK] at hq
      exact ⟨a, vs, rfl, hq, fun l hl => q _ _ (Ext.grow s (upd_grow hl)) (s.grow (upd_grow hl)) _ (new_lst s hl rq)⟩
/-- all([..]), any([..]) of bools -/
def bools : List D → Option (List Bool)
  | [] => some []
  | .bl b :: r => (bools r).map (b :: ·)
  | _ :: _ => none
theorem bools_ok : ∀ {ds : List D} {bs : List Bool} {vs : List V}, bools ds = some bs → Reps P H L vs ds → vs = bs.map V.bl
  | [], bs, vs, e, r => by cases r; cases e; rfl
  | d :: ds, bs, vs, e, r => by
    cases r with
    | cons h t =>
      cases h with
      | bl b =>
        have e : (bools ds).map (b :: ·) = some bs := e
        cases e1 : bools ds with
        | none => rw [e1] at e; cases e
        | some cs =>
          rw [e1] at e
          cases e
          rw [bools_ok e1 t]
          rfl
      | _ => cases e
def dAll : D → Sto → R D := fun d μ => match (asS μ d).bind bools with
    | some bs => .ok (.bl (bs.all id)) μ
    | none => .bad
theorem cs_all (hK : P.K = X.K) : CallS P (rAll X.K) (un dAll) := by
  refine cs_un fun E L H μ v d Q s rv q => ?_
  · skip
    have q : Post P E L H (fun d L' H' => ∀ v, Rep P H' L' v d → Q v H') (match (asS μ d).bind bools with
      | some bs => .ok (.bl (bs.all id)) μ
      | none => .bad) := q
    cases e1 : asS μ d with
    | none => rw [e1] at q; exact q.elim
    | some ds =>
      rw [e1] at q
      have q : Post P E L H (fun d L' H' => ∀ v, Rep P H' L' v d → Q v H') (match bools ds with
        | some bs => .ok (.bl (bs.all id)) μ
        | none => .bad) := q
      cases e2 : bools ds with
      | none => rw [e2] at q; exact q.elim
      | some bs =>
        rw [e2] at q
        obtain ⟨a, vs, rfl, hq, rq⟩ := asS_ok s rv e1
        rw [hK] at hq
        have e3 := bools_ok e2 rq
        subst e3
        exact ⟨a, bs, rfl, hq, q L H .refl s _ (.bl _)⟩
/-- sum([..]) of intsD -/
def intsD : List D → Option (List Int)
  | [] => some []
  | .int b :: r => (intsD r).map (b :: ·)
  | _ :: _ => none
theorem intsD_ok : ∀ {ds : List D} {bs : List Int} {vs : List V}, intsD ds = some bs → Reps P H L vs ds → vs = bs.map V.int
  | [], bs, vs, e, r => by cases r; cases e; rfl
  | d :: ds, bs, vs, e, r => by
    cases r with
    | cons h t =>
      cases h with
      | int b =>
        have e : (intsD ds).map (b :: ·) = some bs := e
        cases e1 : intsD ds with
        | none => rw [e1] at e; cases e
        | some cs =>
          rw [e1] at e
          cases e
          rw [intsD_ok e1 t]
          rfl
      | _ => cases e
def dSum : D → Sto → R D := fun d μ => match (asS μ d).bind intsD with
    | some bs => .ok (.int bs.sum) μ
    | none => .bad
theorem cs_sum (hK : P.K = X.K) : CallS P (rSum X.K) (un dSum) := by
  refine cs_un fun E L H μ v d Q s rv q => ?_
  · skip
    have q : Post P E L H (fun d L' H' => ∀ v, Rep P H' L' v d → Q v H') (match (asS μ d).bind intsD with
      | some bs => .ok (.int bs.sum) μ
      | none => .bad) := q
    cases e1 : asS μ d with
    | none => rw [e1] at q; exact q.elim
    | some ds =>
      rw [e1] at q
      have q : Post P E L H (fun d L' H' => ∀ v, Rep P H' L' v d → Q v H') (match intsD ds with
        | some bs => .ok (.int bs.sum) μ
        | none => .bad) := q
      cases e2 : intsD ds with
      | none => rw [e2] at q; exact q.elim
      | some bs =>
        rw [e2] at q
        obtain ⟨a, vs, rfl, hq, rq⟩ := asS_ok s rv e1
        rw [hK] at hq
        have e3 := intsD_ok e2 rq
        subst e3
        exact ⟨a, bs, rfl, hq, q L H .refl s _ (.int _)⟩
/-! ### subscripts, slices -/
def dIx : D → D → Sto → R D := fun a b μ => match a, b with
  | .str z, .int i => if z.length ≤ sizeLine then (match atI z.cps.toList i with
    | some c => .ok (.str ⟨#[c]⟩) μ
    | none => .bad) else .bad
  | d, .int i => match asQ μ d with
    | some ds => (match atI ds i with
      | some d => .ok d μ
      | none => .bad)
    | none => .bad
  | _, _ => .bad
theorem atI_rep {vs : List V} {ds : List D} {i : Int} {d : D} (r : Reps P H L vs ds) (e : atI ds i = some d) : ∃ v, atI vs i = some v ∧ Rep P H L v d := by
  unfold atI at e ⊢
  rw [r.length]
  cases e1 : ixN ds.length i with
  | none => rw [e1] at e; cases e
  | some j => rw [e1] at e; exact r.get e
theorem os_ix (hK : P.K = X.K) : OpS P (rIx X.K) dIx := by
  intro E L H μ x y a b Q s ra rb q
  have seq : ∀ i : Int, b = .int i → (match asQ μ a with
    | some ds => Post P E L H (fun d L' H' => ∀ v, Rep P H' L' v d → Q v H') (match atI ds i with
      | some d => .ok d μ
      | none => .bad)
    | none => False) → rIx X.K x y H Q := fun i eb h => by
    subst eb
    cases rb
    cases e1 : asQ μ a with
    | none => rw [e1] at h; exact h.elim
    | some ds =>
      rw [e1] at h
      have h : Post P E L H (fun d L' H' => ∀ v, Rep P H' L' v d → Q v H') (match atI ds i with
        | some d => .ok d μ
        | none => .bad) := h
      cases e2 : atI ds i with
      | none => rw [e2] at h; exact h.elim
      | some d =>
        rw [e2] at h
        obtain ⟨p, vs, rfl, hq, rq⟩ := asQ_ok s ra e1
        rw [hK] at hq
        obtain ⟨v, hv, rv⟩ := atI_rep rq e2
        have fin := h L H .refl s v rv
        rcases hq with hq | hq
        · exact .inl ⟨p, vs, i, v, rfl, rfl, hq, hv, fin⟩
        · exact .inr (.inl ⟨p, vs, i, v, rfl, rfl, hq, hv, fin⟩)
  cases b with
  | int i =>
    have fall : dIx a (.int i) μ = (match asQ μ a with
      | some ds => (match atI ds i with
        | some d => .ok d μ
        | none => .bad)
      | none => .bad) → rIx X.K x y H Q := fun e => seq i rfl (by
        rw [e] at q
        cases e1 : asQ μ a with
        | none => rw [e1] at q; exact q
        | some xs => rw [e1] at q; exact q)
    cases a with
    | str z =>
      have q : Post P E L H (fun d L' H' => ∀ v, Rep P H' L' v d → Q v H') (if z.length ≤ sizeLine then (match atI z.cps.toList i with
        | some c => .ok (.str ⟨#[c]⟩) μ
        | none => .bad) else .bad) := q
      cases ra; cases rb
      by_cases c : z.length ≤ sizeLine
      · rw [if_pos c] at q
        cases e2 : atI z.cps.toList i with
        | none => rw [e2] at q; exact q.elim
        | some d => rw [e2] at q; exact .inr (.inr ⟨z, i, d, rfl, rfl, c, e2, q L H .refl s _ (.str _)⟩)
      · rw [if_neg c] at q; exact q.elim
    | _ => exact fall rfl
  | _ => cases a <;> exact q.elim
end
section
variable {P : Pm} {W : WX} {X : Cx} {pos p2 : Pos} {a b : Expr} {f1 f2 : SE} {r : R2} {g : D → D → Sto → R D}
theorem ve_ixG (hr : IxR X r) (hg : OpS P r g) (ha : VE P W X a f1) (hb : VE P W X b f2) (hs : PlainIx b := by intro _ _; rfl) : VE P W X (.Subscript a b pos) (eB g f1 f2) :=
  (pe_ix hr ha hb hs).imp3 fun _ _ _ h => tOp_of hg h
theorem ve_ix (hK : P.K = X.K) (ha : VE P W X a f1) (hb : VE P W X b f2) (hs : PlainIx b := by intro _ _; rfl) : VE P W X (.Subscript a b pos) (eB dIx f1 f2) := ve_ixG ix_seq (os_ix hK) ha hb hs
/-- a part of a slice -/
abbrev SO := Env → Sto → R (Option Int)
def tVO (P : Pm) (W : WX) (f : SO) : TO := fun σ H Q => ∃ L ρ μ, RelS P H L σ ρ ∧ St3 P H L μ ∧ Post P (WE W σ) L H (fun o _ H' => Q o H') (f ρ μ)
abbrev VO (P : Pm) (W : WX) (X : Cx) (e : Option Expr) (f : SO) : Prop := PO X e (tVO P W f)
theorem _root_.L2.PO.imp3 {X : Cx} {e : Option Expr} {t t' : TO} (h : PO X e t) (i : ∀ σ H Q, t' σ H Q → t σ H Q) : PO X e t' := ⟨fun pins s σ H Q I q => h.run pins s σ H Q I (i σ H Q q)⟩
def oNone : SO := fun _ μ => .ok none μ
def oSome (f : SE) : SO := fun ρ μ => (f ρ μ).bind fun d μ1 => match d with
  | .int i => .ok (some i) μ1
  | _ => .bad
theorem vo_none : VO P W X none oNone := po_none.imp3 fun σ H Q ⟨L, ρ, μ, rs, st, q⟩ => q L H .refl st
theorem vo_some {e : Expr} {f : SE} (h : VE P W X e f) : VO P W X (some e) (oSome f) := (po_some h).imp3 fun σ H Q ⟨L, ρ, μ, rs, st, q⟩ => by
  refine tV.first rs st q fun d μ1 v L1 H1 x1 s1 r1 rs1 q1 => ?_
  cases r1 with
  | int i => exact ⟨i, rfl, q1 L1 H1 .refl s1⟩
  | _ => exact q1.elim
def cutD (xs : List D) (lo hi : Option Int) : List D := (xs.drop (HT.sIx xs.length 0 lo)).take (HT.sIx xs.length xs.length hi - HT.sIx xs.length 0 lo)
theorem cut_rep {H : Hp} {L : Lv} {vs : List V} {ds : List D} (r : Reps P H L vs ds) (lo hi : Option Int) : Reps P H L (cutV vs lo hi) (cutD ds lo hi) := by
  unfold cutV cutD
  rw [r.length]
  exact (r.drop _).take _
def dSlice : D → Option Int → Option Int → Sto → R D := fun a lo hi μ => match a with
  | .str z => if z.length ≤ sizeLine then .ok (.str (cutS z lo hi)) μ else .bad
  | .tup ds => if HT.sIx ds.length 0 lo = 0 ∧ HT.sIx ds.length ds.length hi = ds.length then .ok (.tup ds) μ else .ok (.tup (cutD ds lo hi)) μ
  | d => match asS μ d with
    | some ds => .ok (.lst (cutD ds lo hi)) μ
    | none => .bad
def eSl (g : D → Option Int → Option Int → Sto → R D) (f : SE) (fl fh : SO) : SE := fun ρ μ => (f ρ μ).bind fun d μ1 => (fl ρ μ1).bind fun lo μ2 => (fh ρ μ2).bind fun hi μ3 => g d lo hi μ3
def SlS (P : Pm) (r : V → Option Int → Option Int → Hp → VK → Prop) (g : D → Option Int → Option Int → Sto → R D) : Prop := ∀ (E : XK) (L : Lv) (H : Hp) (μ : Sto) (x : V) (a : D) (lo hi : Option Int) (Q : VK), St3 P H L μ → Rep P H L x a →
  Post P E L H (fun d L' H' => ∀ v, Rep P H' L' v d → Q v H') (g a lo hi μ) → r x lo hi H Q
theorem ve_slG {rs : V → Option Int → Option Int → Hp → VK → Prop} {gs : D → Option Int → Option Int → Sto → R D} {lo hi : Option Expr} {fl fh : SO} (hr : SlR X rs) (hg : SlS P rs gs) (he : VE P W X a f1) (hl : VO P W X lo fl) (hu : VO P W X hi fh) : VE P W X (.Subscript a (.Slice lo hi none p2) pos) (eSl gs f1 fl fh) :=
  (pe_slice hr he hl hu).imp3 fun σ H Q ⟨L, ρ, μ, rs, st, q⟩ => by
    refine tV.first rs st q fun d μ1 v L1 H1 x1 s1 r1 rs1 q1 => ?_
    refine ⟨L1, ρ, μ1, rs1, s1, ?_⟩
    cases e : fl ρ μ1 with
    | exc c ns vs μ2 => rw [e] at q1; exact q1
    | bad => rw [e] at q1; exact q1
    | ok o μ2 =>
      rw [e] at q1
      intro L2 H2 x2 s2
      have q2 := Post.ext x2 q1
      refine ⟨L2, ρ, μ2, rs1.ext x2, s2, ?_⟩
      have q2 : Post P (WE W σ) L2 H2 _ ((fh ρ μ2).bind fun hi μ3 => gs d o hi μ3) := q2
      cases e' : fh ρ μ2 with
      | exc c ns vs μ3 => rw [e'] at q2; exact q2
      | bad => rw [e'] at q2; exact q2
      | ok o' μ3 =>
        rw [e'] at q2
        intro L3 H3 x3 s3
        exact hg _ L3 H3 μ3 v d o o' Q s3 ((r1.ext x2).ext x3) (Post.ext x3 q2)
def rSl3 (K : PySem.W.Frag) : V → Option Int → Option Int → Hp → VK → Prop := fun x lo hi H Q => rSlS x lo hi H Q ∨ (rSlT K x lo hi H Q ∨ rSlL K x lo hi H Q)
theorem sl3 : SlR X (rSl3 X.K) := sl_str.or (sl_tup.or sl_list)
theorem ss_sl (hK : P.K = X.K) : SlS P (rSl3 X.K) (fun a lo hi μ => match a with
  | .tup ds => if HT.sIx ds.length 0 lo = 0 ∧ HT.sIx ds.length ds.length hi = ds.length then .bad else .ok (.tup (cutD ds lo hi)) μ
  | d => dSlice d lo hi μ) := by
  intro E L H μ x a lo hi Q s ra q
  have seq : (match asS μ a with
    | some ds => Post P E L H (fun d L' H' => ∀ v, Rep P H' L' v d → Q v H') (.ok (.lst (cutD ds lo hi)) μ)
    | none => False) → rSl3 X.K x lo hi H Q := fun h => by
    cases e1 : asS μ a with
    | none => rw [e1] at h; exact h.elim
    | some ds =>
      rw [e1] at h
      obtain ⟨p, vs, rfl, hq, rq⟩ := asS_ok s ra e1
      rw [hK] at hq
      exact .inr (.inr ⟨p, vs, rfl, hq, fun l hl => h _ _ (Ext.grow s (upd_grow hl)) (s.grow (upd_grow hl)) _ (new_lst s hl (cut_rep rq lo hi))⟩)
  have fall : Post P E L H (fun d L' H' => ∀ v, Rep P H' L' v d → Q v H') (match asS μ a with
      | some ds => .ok (.lst (cutD ds lo hi)) μ
      | none => .bad) → rSl3 X.K x lo hi H Q := fun q => seq (by
        cases e1 : asS μ a with
        | none => rw [e1] at q; exact q
        | some xs => rw [e1] at q; exact q)
  cases a with
  | str z =>
    have q : Post P E L H (fun d L' H' => ∀ v, Rep P H' L' v d → Q v H') (if z.length ≤ sizeLine then .ok (.str (cutS z lo hi)) μ else .bad) := q
    cases ra
    by_cases c : z.length ≤ sizeLine
    · rw [if_pos c] at q; exact .inl ⟨z, rfl, c, q L H .refl s _ (.str _)⟩
    · rw [if_neg c] at q; exact q.elim
  | tup ds =>
    have q : Post P E L H (fun d L' H' => ∀ v, Rep P H' L' v d → Q v H') (if HT.sIx ds.length 0 lo = 0 ∧ HT.sIx ds.length ds.length hi = ds.length then .bad else .ok (.tup (cutD ds lo hi)) μ) := q
    obtain ⟨p, vs, rfl, hq, rq⟩ := tup_ok ra
    rw [hK] at hq
    by_cases c : HT.sIx ds.length 0 lo = 0 ∧ HT.sIx ds.length ds.length hi = ds.length
    · rw [if_pos c] at q; exact q.elim
    · rw [if_neg c] at q
      exact .inr (.inl ⟨p, vs, rfl, hq, by rw [rq.length]; exact c, fun l hl => q _ _ (Ext.grow s (upd_grow hl)) (s.grow (upd_grow hl)) _ (new_tup s hl (cut_rep rq lo hi))⟩)
  | _ => exact fall q
end
end L3

namespace L3
open PySem PySem.Spec PyProof.Rows L2
/-! ### == -/
mutual
def toPy0 : D → Option PyData
  | .non => some .none
  | .bl b => some (.bool b)
  | .int i => some (.int i)
  | .str s => some (.str s)
  | .lst xs => (toPyL xs).map .list
  | .tup xs => (toPyL xs).map .tuple
  | .dct _ _ => none
  | .obj _ _ _ => none
  | .cell _ => none
  | .scr _ => none
def toPyL : List D → Option (List PyData)
  | [] => some []
  | d :: r => match toPy0 d, toPyL r with
    | some x, some y => some (x :: y)
    | _, _ => none
end
def toPy (μ : Sto) : D → Option PyData
  | .cell k => (match μ[k]? with
    | some (.lst ds) => (toPyL ds).map .list
    | _ => none)
  | d => toPy0 d
section
variable {P : Pm} {X : Cx} {H : Hp} {L : Lv} {μ : Sto}
mutual
theorem toPy0_ok (hK : P.K = X.K) : ∀ {v : V} {d : D} {x : PyData}, Rep P H L v d → toPy0 d = some x → Dp X.K H v x
  | _, .non, _, .non, e => by cases e; exact .non
  | _, .bl b, _, .bl _, e => by cases e; exact .bl b
  | _, .int b, _, .int _, e => by cases e; exact .int b
  | _, .str b, _, .str _, e => by cases e; exact .str b
  | _, .lst ds, x, .lst h n r, e => by
    have e : (toPyL ds).map PyData.list = some x := by simpa [toPy0] using e
    cases e1 : toPyL ds with
    | none => rw [e1] at e; cases e
    | some ys => rw [e1] at e; cases e; exact .lst (.of h) (toPyL_ok hK r e1)
  | _, .tup ds, x, .tup h r, e => by
    have e : (toPyL ds).map PyData.tuple = some x := by simpa [toPy0] using e
    cases e1 : toPyL ds with
    | none => rw [e1] at e; cases e
    | some ys => rw [e1] at e; cases e; exact .tup (hK ▸ h.sq) (toPyL_ok hK r e1)
theorem toPyL_ok (hK : P.K = X.K) : ∀ {vs : List V} {ds : List D} {ys : List PyData}, Reps P H L vs ds → toPyL ds = some ys → DpAll X.K H vs ys
  | _, [], _, .nil, e => by cases e; exact .nil
  | _, d :: ds, ys, .cons h r, e => by
    unfold toPyL at e
    cases e1 : toPy0 d with
    | none => rw [e1] at e; simp at e
    | some x =>
      cases e2 : toPyL ds with
      | none => rw [e1, e2] at e; simp at e
      | some zs =>
        rw [e1, e2] at e
        cases e
        exact .cons (toPy0_ok hK h e1) (toPyL_ok hK r e2)
end
theorem toPy_ok (hK : P.K = X.K) (s : St3 P H L μ) {v : V} {d : D} {x : PyData} (r : Rep P H L v d) (e : toPy μ d = some x) : Dp X.K H v x := by
  cases d with
  | cell k =>
    have e : (match μ[k]? with
      | some (.lst ds) => (toPyL ds).map PyData.list
      | _ => none) = some x := e
    cases em : μ[k]? with
    | none => rw [em] at e; cases e
    | some m =>
      rw [em] at e
      cases m with
      | lst ds =>
        obtain ⟨a, vs, rfl, h, rr⟩ := asL_ok s r (show asL μ (.cell k) = some ds by simp only [asL, em])
        have e : (toPyL ds).map PyData.list = some x := e
        cases e1 : toPyL ds with
        | none => rw [e1] at e; cases e
        | some ys => rw [e1] at e; cases e; exact .lst (.of h) (toPyL_ok hK rr e1)
      | dct _ _ => cases e
      | ins _ _ _ => cases e
  | _ => exact toPy0_ok hK r e
def dEq : D → D → Sto → R D := fun a b μ => match toPy μ a, toPy μ b with
  | some x, some y => if SeqAt.shaped x = true ∧ SeqAt.shaped y = true then .ok (.bl (PyData.eqv x y)) μ else .bad
  | _, _ => .bad
def dNe : D → D → Sto → R D := fun a b μ => match toPy μ a, toPy μ b with
  | some x, some y => if SeqAt.shaped x = true ∧ SeqAt.shaped y = true then .ok (.bl (!PyData.eqv x y)) μ else .bad
  | _, _ => .bad
theorem os_eqG (hK : P.K = X.K) (k : Bool → Bool) : OpS P (fun x y H Q => ∃ d e, Dp X.K H x d ∧ Dp X.K H y e ∧ SeqAt.shaped d = true ∧ SeqAt.shaped e = true ∧ Q (.bl (k (PyData.eqv d e))) H) (fun a b μ => match toPy μ a, toPy μ b with
  | some x, some y => if SeqAt.shaped x = true ∧ SeqAt.shaped y = true then .ok (.bl (k (PyData.eqv x y))) μ else .bad
  | _, _ => .bad) := by
  intro E L H μ x y a b Q s ra rb q
  cases e1 : toPy μ a with
  | none => simp only [e1] at q; exact q.elim
  | some d =>
    cases e2 : toPy μ b with
    | none => simp only [e1, e2] at q; exact q.elim
    | some e =>
      simp only [e1, e2] at q
      by_cases c : SeqAt.shaped d = true ∧ SeqAt.shaped e = true
      · rw [if_pos c] at q
        exact ⟨d, e, toPy_ok hK s ra e1, toPy_ok hK s rb e2, c.1, c.2, q L H .refl s _ (.bl _)⟩
      · rw [if_neg c] at q; exact q.elim
theorem os_eq (hK : P.K = X.K) : OpS P (rEqD X.K) dEq := os_eqG hK fun b => b
theorem os_ne (hK : P.K = X.K) : OpS P (rNeD X.K) dNe := os_eqG hK fun b => !b
def dIsN : D → Sto → R D
  | .non, μ => .ok (.bl true) μ
  | _, μ => .ok (.bl false) μ
def dNotN : D → Sto → R D
  | .non, μ => .ok (.bl false) μ
  | _, μ => .ok (.bl true) μ
theorem isN_ok {v : V} {d : D} (r : Rep P H L v d) : dIsN d μ = .ok (.bl (decide (v = .non))) μ := by
  cases r <;> first | rfl | (simp [dIsN])
end
section
variable {P : Pm} {W : WX} {X : Cx} {pos p2 : Pos} {a b : Expr} {f1 f2 : SE} {j : Nat}
theorem tIs_of {f : SE} {σ : Slots} {H : Hp} {Q : VK} (h : tV P W (eU dIsN f) σ H Q) : tIsN (tV P W f) σ H Q := by
  obtain ⟨L, ρ, μ, rs, st, q⟩ := h
  refine tV.first rs st q fun d μ1 v L1 H1 x1 s1 r1 rs1 q1 => ?_
  rw [isN_ok r1] at q1
  exact q1 L1 H1 .refl s1 _ (.bl _)
theorem ve_isN (h : VE P W X a f1) : VE P W X (.Compare a [.Is] [.Constant .none j p2] pos) (eU dIsN f1) := (pe_cmp (pc_isN h) rfl).imp3 fun _ _ _ q => tIs_of q
theorem vt_isN (h : VE P W X a f1) : VT P W X (.Compare a [.Is] [.Constant .none j p2] pos) (eT (eU dIsN f1)) := (pt_cmp (pc_isN h) rfl).imp3 fun _ _ _ q => by
  have z := tT_of q
  exact tIs_of z
end
/-! ### isinstance, of built-in classes -/
inductive Ty where
  | non | bool | int | str | list | tuple | dict
  deriving DecidableEq
def Ty.nm : Ty → String
  | .non => "NoneType"
  | .bool => "bool"
  | .int => "int"
  | .str => "str"
  | .list => "list"
  | .tuple => "tuple"
  | .dict => "dict"
def Ty.sub (a b : Ty) : Bool := a == b || (a == .bool && b == .int)
theorem Ty.kit (a b : Ty) : kitB a.nm b.nm = some (a.sub b) := by cases a <;> cases b <;> decide +kernel
def tyD (μ : Sto) : D → Option Ty
  | .non => some .non
  | .bl _ => some .bool
  | .int _ => some .int
  | .str _ => some .str
  | .lst _ => some .list
  | .tup _ => some .tuple
  | .dct _ _ => none
  | .scr _ => some .list
  | .cell k => (match μ[k]? with
    | some (.lst _) => some .list
    | some (.dct _ _) => some .dict
    | _ => none)
  | .obj _ _ _ => none
theorem tyD_ok {P : Pm} {X : Cx} {H : Hp} {L : Lv} {μ : Sto} (hK : P.K = X.K) (s : St3 P H L μ) {v : V} {d : D} {t : Ty} (r : Rep P H L v d) (e : tyD μ d = some t) : TyX X.K H v (.type t.nm) := by
  cases r with
  | non => cases e; exact .base .non
  | bl b => cases e; exact .base (.bl b)
  | int b => cases e; exact .base (.int b)
  | str b => cases e; exact .base (.str b)
  | lst h n r => cases e; exact .base (.lst h)
  | tup h r =>
    cases e
    rcases h with ⟨h | ⟨o, h⟩, n⟩ | ⟨o, its, n, h1, h2, _⟩
    · exact .base (.tup h)
    · exact .fTuple h
    · rw [hK] at h1; exact .kTuple h1 h2
  | dct h n l r => cases e
  | obj h hc n l r => cases e
  | scr h =>
    cases e
    rcases h with ⟨h | ⟨o, h⟩, n⟩ | ⟨o, its, n, h1, h2, _⟩
    · exact .base (.lst h)
    · exact .base (.frz h)
    · rw [hK] at h1; exact .kList h1 h2
  | @cell a k h =>
    have e : (match μ[k]? with
      | some (.lst _) => some Ty.list
      | some (.dct _ _) => some .dict
      | _ => none) = some t := e
    cases em : μ[k]? with
    | none => rw [em] at e; cases e
    | some m =>
      rw [em] at e
      have q := s.at_ k a m h em
      cases q with
      | lst h' r' => cases e; exact .base (.lst h')
      | dct h' l r' => cases e; exact .base (.dK h')
      | ins h' hc l r' => cases e
def dIsi (ts : List Ty) : D → Sto → R D := fun d μ => match tyD μ d with
  | some t => .ok (.bl (ts.any fun u => t.sub u)) μ
  | none => .bad
theorem kitAny_ty {K : PySem.W.Frag} (t : Ty) : ∀ ts : List Ty, PySem.W.kitAny K (.type t.nm) (ts.map fun u => .type u.nm) = some (ts.any fun u => t.sub u)
  | [] => rfl
  | u :: r => by
    rw [List.map_cons, List.any_cons]
    refine kitAny_cons (kit_ty (Ty.kit t u)) (fun h => ?_) fun h => ?_
    · rw [h, kitAny_ty t r]; rfl
    · rw [h]; rfl
section
variable {P : Pm} {W : WX} {X : Cx} {pos p p2 p3 : Pos} {a : Expr} {f1 : SE} {k : Nat}
theorem ve_isi {T : Str} (t : Ty) (hK : P.K = X.K) (hg : Gl X "isinstance") (hm : X.mg "isinstance" = none) (ha : VE P W X a f1) (hT : PE X (.Name T p2) (tC (.ty t.nm)))
    (hs2 : starEach [a, .Name T p2] X.env = (false, eval a X.env) :: starEach [.Name T p2] X.env := by rfl) (hs1 : starEach [.Name T p2] X.env = (false, eval (.Name T p2) X.env) :: starEach [] X.env := by rfl)
    (hpl : (backTo pos (starEach [.Name T p2] X.env)).any (·.1) = false := by rfl) : VE P W X (.Call (.Name "isinstance" p) [a, .Name T p2] [] pos) (eU (dIsi [t]) f1) :=
  (pe_callB call_isi hg hm PyProof.Rows.boot_isinstance (pa_cons ha (pa_cons hT pa_nil hs1) hs2) (by decide) (by decide) hs2 hpl).imp3 fun σ H Q ⟨L, ρ, μ, rs, st, q⟩ => by
    refine tV.first rs st q fun d μ1 v L1 H1 x1 s1 r1 rs1 q1 => ?_
    have q1 : Post P (WE W σ) L1 H1 (fun d L' H' => ∀ v, Rep P H' L' v d → Q v H') (match tyD μ1 d with
      | some t' => .ok (.bl ([t].any fun u => t'.sub u)) μ1
      | none => .bad) := q1
    cases e : tyD μ1 d with
    | none => rw [e] at q1; exact q1.elim
    | some t' =>
      rw [e] at q1
      have e2 : ([t].any fun u => t'.sub u) = t'.sub t := by simp
      have q1 : Post P (WE W σ) L1 H1 (fun d L' H' => ∀ v, Rep P H' L' v d → Q v H') (.ok (.bl ([t].any fun u => t'.sub u)) μ1) := q1
      rw [e2] at q1
      exact ⟨v, .ty t.nm, .type t'.nm, .type t.nm, _, rfl, .ty _, tyD_ok hK s1 r1 e, kit_ty (Ty.kit t' t), q1 L1 H1 .refl s1 _ (.bl _)⟩
theorem ve_isi2 {T1 T2 : Str} {p4 : Pos} (t1 t2 : Ty) (hK : P.K = X.K) (hg : Gl X "isinstance") (hm : X.mg "isinstance" = none) (ha : VE P W X a f1) (hT1 : PE X (.Name T1 p2) (tC (.ty t1.nm))) (hT2 : PE X (.Name T2 p3) (tC (.ty t2.nm)))
    (hs2 : starEach [a, .Tuple [.Name T1 p2, .Name T2 p3] k p4] X.env = (false, eval a X.env) :: starEach [.Tuple [.Name T1 p2, .Name T2 p3] k p4] X.env := by rfl)
    (hs1 : starEach [.Tuple [.Name T1 p2, .Name T2 p3] k p4] X.env = (false, eval (.Tuple [.Name T1 p2, .Name T2 p3] k p4) X.env) :: starEach [] X.env := by rfl)
    (ht2 : starEach [.Name T1 p2, .Name T2 p3] X.env = (false, eval (.Name T1 p2) X.env) :: starEach [.Name T2 p3] X.env := by rfl) (ht1 : starEach [.Name T2 p3] X.env = (false, eval (.Name T2 p3) X.env) :: starEach [] X.env := by rfl)
    (hpl : (backTo pos (starEach [.Tuple [.Name T1 p2, .Name T2 p3] k p4] X.env)).any (·.1) = false := by rfl) :
    VE P W X (.Call (.Name "isinstance" p) [a, .Tuple [.Name T1 p2, .Name T2 p3] k p4] [] pos) (eU (dIsi [t1, t2]) f1) :=
  (pe_callB call_isiT hg hm PyProof.Rows.boot_isinstance (pa_cons ha (pa_cons (pe_tup (pa_cons hT1 (pa_cons hT2 pa_nil ht1) ht2)) pa_nil hs1) hs2) (by decide) (by decide) hs2 hpl).imp3 fun σ H Q ⟨L, ρ, μ, rs, st, q⟩ => by
    refine tV.first rs st q fun d μ1 v L1 H1 x1 s1 r1 rs1 q1 => ?_
    have q1 : Post P (WE W σ) L1 H1 (fun d L' H' => ∀ v, Rep P H' L' v d → Q v H') (match tyD μ1 d with
      | some t' => .ok (.bl ([t1, t2].any fun u => t'.sub u)) μ1
      | none => .bad) := q1
    cases e : tyD μ1 d with
    | none => rw [e] at q1; exact q1.elim
    | some t' =>
      rw [e] at q1
      refine ⟨by rw [sizeLine_eq]; simp, fun tp hp => ?_⟩
      have gr := upd_grow (o := .tup [V.ty t1.nm, V.ty t2.nm]) hp
      refine ⟨v, tp, [.ty t1.nm, .ty t2.nm], .type t'.nm, [.type t1.nm, .type t2.nm], _, rfl, upd_same, .cons (.ty _) (.cons (.ty _) .nil), tyD_ok hK (s1.grow gr) (r1.ext (Ext.grow s1 gr)) e, kitAny_ty t' [t1, t2], ?_⟩
      exact q1 _ _ (Ext.grow s1 gr) (s1.grow gr) _ (.bl _)
end
end L3

namespace L3
open PySem PySem.Spec PyProof.Rows L2
/-! ### statements -/
inductive RS where
  | nx (ρ : Env) (μ : Sto)
  | rt (d : D) (μ : Sto)
  | bk (ρ : Env) (μ : Sto)
  | ct (ρ : Env) (μ : Sto)
  | exc (c : Str) (ns : List Str) (vs : List D) (ρ : Env) (μ : Sto)
  | bad
abbrev SS := Env → Sto → RS
/-- a value comes, then the rest -/
def R.thn {α : Type} (r : R α) (ρ : Env) (k : α → Sto → RS) : RS := match r with
  | .ok a μ => k a μ
  | .exc c ns vs μ => .exc c ns vs ρ μ
  | .bad => .bad
@[simp] theorem R.thn_ok {α : Type} {a : α} {μ : Sto} {ρ : Env} {k : α → Sto → RS} : (R.ok a μ).thn ρ k = k a μ := rfl
@[simp] theorem R.thn_exc {α : Type} {c : Str} {ns vs} {μ : Sto} {ρ : Env} {k : α → Sto → RS} : (R.exc (α := α) c ns vs μ).thn ρ k = .exc c ns vs ρ μ := rfl
@[simp] theorem R.thn_bad {α : Type} {ρ : Env} {k : α → Sto → RS} : (R.bad (α := α)).thn ρ k = .bad := rfl
def PostS (P : Pm) (W : WX) (D : Ends) (L : Lv) (H : Hp) : RS → Prop
  | .nx ρ μ => ∀ σ' L' H', Ext P L H L' H' → St3 P H' L' μ → RelS P H' L' σ' ρ → D.nx σ' H'
  | .rt d μ => ∀ v L' H', Ext P L H L' H' → St3 P H' L' μ → Rep P H' L' v d → D.rt v H'
  | .bk ρ μ => ∀ σ' L' H', Ext P L H L' H' → St3 P H' L' μ → RelS P H' L' σ' ρ → D.bk σ' H'
  | .ct ρ μ => ∀ σ' L' H', Ext P L H L' H' → St3 P H' L' μ → RelS P H' L' σ' ρ → D.ct σ' H'
  | .exc c ns vs ρ μ => ∀ σ' C dx L' H', P.cls c = some C → Ext P L H L' H' → St3 P H' L' μ → RelS P H' L' σ' ρ → XF P L' H' dx ns vs → W (.ref C) (some dx) σ' H'
  | .bad => False
def tS (P : Pm) (W : WX) (f : SS) : TS := fun D σ H => ∃ L ρ μ, RelS P H L σ ρ ∧ St3 P H L μ ∧ PostS P W D L H (f ρ μ)
abbrev VS (P : Pm) (W : WX) (X : Cx) (st : Stmt) (f : SS) : Prop := PS X st (tS P W f)
abbrev VSs (P : Pm) (W : WX) (X : Cx) (st : List Stmt) (f : SS) : Prop := PSs X st (tS P W f)
section
variable {P : Pm} {W : WX} {D : Ends} {H H1 : Hp} {L L1 : Lv} {r : RS} {σ : Slots} {ρ : Env} {μ : Sto}
theorem PostS.ext (x : Ext P L H L1 H1) (h : PostS P W D L H r) : PostS P W D L1 H1 r := by
  cases r with
  | nx ρ μ => exact fun σ' L' H' y => h σ' L' H' (x.trans y)
  | rt d μ => exact fun v L' H' y => h v L' H' (x.trans y)
  | bk ρ μ => exact fun σ' L' H' y => h σ' L' H' (x.trans y)
  | ct ρ μ => exact fun σ' L' H' y => h σ' L' H' (x.trans y)
  | exc c ns vs ρ μ => exact fun σ' C dx L' H' hc y => h σ' C dx L' H' hc (x.trans y)
  | bad => exact h
/-- an expression ahead of the rest of a statement -/
theorem tV.firstS {f : SE} {k : L3.D → Sto → RS} {Q : V → Hp → Prop} (rs : RelS P H L σ ρ) (st : St3 P H L μ) (h : PostS P W D L H ((f ρ μ).thn ρ k))
    (go : ∀ d μ1 v L1 H1, Ext P L H L1 H1 → St3 P H1 L1 μ1 → Rep P H1 L1 v d → RelS P H1 L1 σ ρ → PostS P W D L1 H1 (k d μ1) → Q v H1) : tV P W f σ H Q := by
  refine ⟨L, ρ, μ, rs, st, ?_⟩
  cases e : f ρ μ with
  | ok d μ1 => rw [e] at h; exact fun L1 H1 x s v r => go d μ1 v L1 H1 x s r (rs.ext x) (PostS.ext x h)
  | exc c ns vs μ1 => rw [e] at h; exact fun C dx L' H' hc x s f => h σ C dx L' H' hc x s (rs.ext x) f
  | bad => rw [e] at h; exact h
theorem tVT.firstS {f : ST} {k : Bool → Sto → RS} {Q : Bool → Hp → Prop} (rs : RelS P H L σ ρ) (st : St3 P H L μ) (h : PostS P W D L H ((f ρ μ).thn ρ k))
    (go : ∀ b μ1 L1 H1, Ext P L H L1 H1 → St3 P H1 L1 μ1 → RelS P H1 L1 σ ρ → PostS P W D L1 H1 (k b μ1) → Q b H1) : tVT P W f σ H Q := by
  refine ⟨L, ρ, μ, rs, st, ?_⟩
  cases e : f ρ μ with
  | ok d μ1 => rw [e] at h; exact fun L1 H1 x s => go d μ1 L1 H1 x s (rs.ext x) (PostS.ext x h)
  | exc c ns vs μ1 => rw [e] at h; exact fun C dx L' H' hc x s f => h σ C dx L' H' hc x s (rs.ext x) f
  | bad => rw [e] at h; exact h
theorem tVA.firstS {f : SA} {k : List L3.D → Sto → RS} {Q : List V → Hp → Prop} (rs : RelS P H L σ ρ) (st : St3 P H L μ) (h : PostS P W D L H ((f ρ μ).thn ρ k))
    (go : ∀ ds μ1 vs L1 H1, Ext P L H L1 H1 → St3 P H1 L1 μ1 → Reps P H1 L1 vs ds → RelS P H1 L1 σ ρ → PostS P W D L1 H1 (k ds μ1) → Q vs H1) : tVA P W f σ H Q := by
  refine ⟨L, ρ, μ, rs, st, ?_⟩
  cases e : f ρ μ with
  | ok d μ1 => rw [e] at h; exact fun L1 H1 x s v r => go d μ1 v L1 H1 x s r (rs.ext x) (PostS.ext x h)
  | exc c ns vs μ1 => rw [e] at h; exact fun C dx L' H' hc x s f => h σ C dx L' H' hc x s (rs.ext x) f
  | bad => rw [e] at h; exact h
end
def sNil : SS := fun ρ μ => .nx ρ μ
def sSeq (f g : SS) : SS := fun ρ μ => match f ρ μ with
  | .nx ρ1 μ1 => g ρ1 μ1
  | .rt d μ1 => .rt d μ1
  | .bk ρ1 μ1 => .bk ρ1 μ1
  | .ct ρ1 μ1 => .ct ρ1 μ1
  | .exc c ns vs ρ1 μ1 => .exc c ns vs ρ1 μ1
  | .bad => .bad
def sBreak : SS := fun ρ μ => .bk ρ μ
def sCont : SS := fun ρ μ => .ct ρ μ
def sExpr (f : SE) : SS := fun ρ μ => (f ρ μ).thn ρ fun _ μ1 => .nx ρ μ1
def sRet (f : SE) : SS := fun ρ μ => (f ρ μ).thn ρ fun d μ1 => .rt d μ1
def sRetN : SS := fun _ μ => .rt .non μ
def sIf (t : ST) (f g : SS) : SS := fun ρ μ => (t ρ μ).thn ρ fun c μ1 => if c = true then f ρ μ1 else g ρ μ1
def sSet (i : Nat) (f : SE) : SS := fun ρ μ => (f ρ μ).thn ρ fun d μ1 => .nx (ρ.set i (some d)) μ1
section
variable {P : Pm} {W : WX} {X : Cx} {pos : Pos} {st : Stmt} {rest : List Stmt} {f g : SS} {fe : SE} {e : Expr}
theorem vss_nil : VSs P W X [] sNil := pss_nil.imp3 fun D σ H ⟨L, ρ, μ, rs, s, q⟩ => q σ L H .refl s rs
theorem vss_cons (h1 : VS P W X st f) (h2 : VSs P W X rest g) : VSs P W X (st :: rest) (sSeq f g) :=
  (pss_cons h1 h2).imp3 fun D σ H ⟨L, ρ, μ, rs, s, q⟩ => by
    refine ⟨L, ρ, μ, rs, s, ?_⟩
    unfold sSeq at q
    cases e : f ρ μ with
    | nx ρ1 μ1 => rw [e] at q; exact fun σ' L' H' x s' rs' => ⟨L', ρ1, μ1, rs', s', PostS.ext x q⟩
    | rt d μ1 => rw [e] at q; exact q
    | bk ρ1 μ1 => rw [e] at q; exact q
    | ct ρ1 μ1 => rw [e] at q; exact q
    | exc c ns vs ρ1 μ1 => rw [e] at q; exact q
    | bad => rw [e] at q; exact q
theorem vss_one (h1 : VS P W X st f) : VSs P W X [st] f := pss_one h1
theorem vs_expr (he : VE P W X e fe) (hs : swapsWith e none pos.line X.env = pure false := by rfl) : VS P W X (.Expr e pos) (sExpr fe) :=
  (ps_expr he hs).imp3 fun D σ H ⟨L, ρ, μ, rs, s, q⟩ => tV.firstS rs s q fun d μ1 v L1 H1 x1 s1 r1 rs1 q1 => q1 σ L1 H1 .refl s1 rs1
theorem vs_ret (he : VE P W X e fe) : VS P W X (.Return (some e) pos) (sRet fe) :=
  (ps_ret he).imp3 fun D σ H ⟨L, ρ, μ, rs, s, q⟩ => tV.firstS rs s q fun d μ1 v L1 H1 x1 s1 r1 rs1 q1 => q1 v L1 H1 .refl s1 r1
theorem vs_if {t : ST} {c : Expr} {a b : List Stmt} (hc : VT P W X c t) (ha : VSs P W X a f) (hb : VSs P W X b g) : VS P W X (.If c a b pos) (sIf t f g) :=
  (ps_if hc ha hb).imp3 fun D σ H ⟨L, ρ, μ, rs, s, q⟩ => by
    refine tVT.firstS rs s q fun c μ1 L1 H1 x1 s1 rs1 q1 => ?_
    cases c with
    | true => exact ⟨L1, ρ, μ1, rs1, s1, q1⟩
    | false => exact ⟨L1, ρ, μ1, rs1, s1, q1⟩
theorem vs_set {i : Nat} {x : Str} {pos' : Pos} (hN : X.N.Nodup) (hi : X.N[i]? = some x) (hx : Loc X.env.scope x) (he : VE P W X e fe) (hs : swapsWith e (some (.Name x pos')) pos.line X.env = pure false := by rfl) (hf : X.fn x = true ∨ X.env.scope.names.lookup x = some .local := by first | exact .inl rfl | exact .inr rfl | assumption) :
    VS P W X (.Assign [.Name x pos'] e pos) (sSet i fe) :=
  (ps_set hN hi hx he hs hf).imp3 fun D σ H ⟨L, ρ, μ, rs, s, q⟩ => tV.firstS rs s q fun d μ1 v L1 H1 x1 s1 r1 rs1 q1 => q1 _ L1 H1 .refl s1 (rs1.set r1)
end
/-! ### targets -/
abbrev SG := D → Env → Sto → Option Env
abbrev SGs := List D → Env → Sto → Option Env
def tVG (P : Pm) (sl : List Nat) (g : SG) : TG := fun v σ H Q => ∃ L ρ μ d ρ', RelS P H L σ ρ ∧ St3 P H L μ ∧ Rep P H L v d ∧ g d ρ μ = some ρ' ∧
  ∀ σ', RelS P H L σ' ρ' → (∀ vs : List Nat, (∀ i ∈ sl, i ∈ vs) → wipe σ' vs = wipe σ vs) → Q σ' H
def tVGs (P : Pm) (sl : List Nat) (g : SGs) : TGs := fun v σ H Q => ∃ L ρ μ d ρ', RelS P H L σ ρ ∧ St3 P H L μ ∧ Reps P H L v d ∧ g d ρ μ = some ρ' ∧
  ∀ σ', RelS P H L σ' ρ' → (∀ vs : List Nat, (∀ i ∈ sl, i ∈ vs) → wipe σ' vs = wipe σ vs) → Q σ' H
theorem _root_.L2.PG.imp3 {X : Cx} {e : Expr} {t t' : TG} (h : PG X e t) (i : ∀ v σ H Q, t' v σ H Q → t v σ H Q) : PG X e t' := ⟨fun pins s σ H v u Q I r q => h.run pins s σ H v u Q I r (i v σ H Q q)⟩
theorem _root_.L2.PGs.imp3 {X : Cx} {e : List Expr} {t t' : TGs} (h : PGs X e t) (i : ∀ v σ H Q, t' v σ H Q → t v σ H Q) : PGs X e t' := ⟨fun pins s σ H v u Q I r q => h.run pins s σ H v u Q I r (i v σ H Q q)⟩
theorem _root_.L2.PG.or3 {X : Cx} {e : Expr} {t t' : TG} (h : PG X e t) (h' : PG X e t') : PG X e (fun v σ H Q => t v σ H Q ∨ t' v σ H Q) := ⟨fun pins s σ H v u Q I r q => by
  rcases q with q | q
  · exact h.run pins s σ H v u Q I r q
  · exact h'.run pins s σ H v u Q I r q⟩
abbrev VG (P : Pm) (X : Cx) (e : Expr) (sl : List Nat) (g : SG) : Prop := PG X e (tVG P sl g)
abbrev VGs (P : Pm) (X : Cx) (e : List Expr) (sl : List Nat) (g : SGs) : Prop := PGs X e (tVGs P sl g)
def gSet (i : Nat) : SG := fun d ρ _ => some (ρ.set i (some d))
def gsNil : SGs := fun ds ρ _ => match ds with
  | [] => some ρ
  | _ => none
def gsCons (g : SG) (gs : SGs) : SGs := fun ds ρ μ => match ds with
  | d :: r => (match g d ρ μ with
    | some ρ1 => gs r ρ1 μ
    | none => none)
  | [] => none
def gTuple (n : Nat) (gs : SGs) : SG := fun d ρ μ => match asQ μ d with
  | some ds => if ds.length = n then gs ds ρ μ else none
  | none => none
theorem wipe_set {σ : L2.St} {i : Nat} {o : Option V} : ∀ {vs : List Nat}, i ∈ vs → wipe (σ.set i o) vs = wipe σ vs
  | [], h => by cases h
  | v :: vs, h => by
    unfold wipe
    by_cases e : i ∈ vs
    · rw [wipe_set e]
    · have ei : i = v := by
        rcases List.mem_cons.mp h with z | z
        · exact z
        · exact absurd z e
      subst ei
      have : ∀ vs : List Nat, (wipe (σ.set i o) vs).set i none = (wipe σ vs).set i none := by
        intro vs
        induction vs with
        | nil => show (σ.set i o).set i none = σ.set i none; rw [List.set_set]
        | cons w ws ih =>
          show ((wipe (σ.set i o) ws).set w none).set i none = ((wipe σ ws).set w none).set i none
          by_cases ew : w = i
          · subst ew; rw [List.set_set, List.set_set]; exact ih
          · rw [List.set_comm _ _ ew, List.set_comm _ _ ew, ih]
      exact this vs
section
variable {P : Pm} {X : Cx} {pos : Pos} {e : Expr} {es : List Expr} {sl sl' : List Nat} {g : SG} {gs : SGs}
theorem vg_name {i : Nat} {x : Str} (hN : X.N.Nodup) (hi : X.N[i]? = some x) (hx : Loc X.env.scope x) (hf : X.fn x = true ∨ X.env.scope.names.lookup x = some .local := by first | exact .inl rfl | exact .inr rfl | assumption) : VG P X (.Name x pos) [i] (gSet i) :=
  (pg_name hN hi hx hf).imp3 fun v σ H Q ⟨L, ρ, μ, d, ρ', rs, s, r, eg, q⟩ => by
    cases eg
    exact q _ (rs.set r) fun vs h => wipe_set (h i (List.mem_singleton.mpr rfl))
theorem vgs_nil : VGs P X [] [] gsNil := pgs_nil.imp3 fun v σ H Q ⟨L, ρ, μ, d, ρ', rs, s, r, eg, q⟩ => by
  cases r with
  | nil => cases eg; exact ⟨rfl, q σ rs fun _ _ => rfl⟩
  | cons _ _ => cases eg
theorem vgs_cons (h1 : VG P X e sl g) (h2 : VGs P X es sl' gs) (hs : (assignEach (e :: es) X.env).map (·.2) = assign e X.env :: (assignEach es X.env).map (·.2) := by rfl) : VGs P X (e :: es) (sl ++ sl') (gsCons g gs) :=
  (pgs_cons h1 h2 hs).imp3 fun v σ H Q ⟨L, ρ, μ, d, ρ', rs, s, r, eg, q⟩ => by
    cases r with
    | nil => cases eg
    | @cons v0 d0 vr dr r0 rr =>
      have eg : (match g d0 ρ μ with
        | some ρ1 => gs dr ρ1 μ
        | none => none) = some ρ' := eg
      cases e1 : g d0 ρ μ with
      | none => rw [e1] at eg; cases eg
      | some ρ1 =>
        rw [e1] at eg
        refine ⟨v0, vr, rfl, L, ρ, μ, d0, ρ1, rs, s, r0, e1, fun σ1 rs1 w1 => ?_⟩
        exact ⟨L, ρ1, μ, dr, ρ', rs1, s, rr, eg, fun σ2 rs2 w2 => q σ2 rs2 fun vs h => (w2 vs fun i hi => h i (List.mem_append_right _ hi)).trans (w1 vs fun i hi => h i (List.mem_append_left _ hi))⟩
theorem vg_tup {k n : Nat} (hK : P.K = X.K) (hc : X.calm = true) (h : VGs P X es sl gs)
    (hn : (assignEach es X.env).length = n := by rfl) (hst : (assignEach es X.env).findIdx? (·.1) = none := by rfl) : VG P X (.Tuple es k pos) sl (gTuple n gs) :=
  ((pg_tup hc h hn hst).or3 (pg_lst hc h hn hst)).imp3 fun v σ H Q ⟨L, ρ, μ, d, ρ', rs, s, r, eg, q⟩ => by
    unfold gTuple at eg
    cases e1 : asQ μ d with
    | none => rw [e1] at eg; cases eg
    | some ds =>
      rw [e1] at eg
      have eg : (if ds.length = n then gs ds ρ μ else none) = some ρ' := eg
      by_cases c : ds.length = n
      · rw [if_pos c] at eg
        obtain ⟨a, vs, rfl, hq, rq⟩ := asQ_ok s r e1
        rw [hK] at hq
        rcases hq with hq | hq
        · exact .inr ⟨a, vs, rfl, hq, by rw [rq.length]; exact c, L, ρ, μ, ds, ρ', rs, s, rq, eg, q⟩
        · exact .inl ⟨a, vs, rfl, hq, by rw [rq.length]; exact c, L, ρ, μ, ds, ρ', rs, s, rq, eg, q⟩
      · rw [if_neg c] at eg; cases eg
def sAsg (f : SE) (g : SG) : SS := fun ρ μ => (f ρ μ).thn ρ fun d μ1 => match g d ρ μ1 with
  | some ρ1 => .nx ρ1 μ1
  | none => .bad
theorem vs_asg {W : WX} {tg : Expr} {fe : SE} (he : VE P W X e fe) (hg : VG P X tg sl g) (hs : swapsWithSole [tg] e pos.line X.env = pure false := by rfl) (hw : swappedStores [tg] e X.env = pure none := by rfl)
    (h1 : (assignEach [tg] X.env).map (·.2) = [assign tg X.env] := by rfl) : VS P W X (.Assign [tg] e pos) (sAsg fe g) :=
  (ps_asg he hg hs hw h1).imp3 fun D σ H ⟨L, ρ, μ, rs, s, q⟩ => tV.firstS rs s q fun d μ1 v L1 H1 x1 s1 r1 rs1 q1 => by
    cases e1 : g d ρ μ1 with
    | none => rw [e1] at q1; exact q1.elim
    | some ρ1 => rw [e1] at q1; exact ⟨L1, ρ, μ1, d, ρ1, rs1, s1, r1, e1, fun σ' rs' _ => q1 σ' L1 H1 .refl s1 rs'⟩
/-- a, b = e1, e2 with local names -/
def sPar (i j : Nat) (fa : SA) : SS := fun ρ μ => (fa ρ μ).thn ρ fun ds μ1 => match ds with
  | [d, e] => .nx ((ρ.set i (some d)).set j (some e)) μ1
  | _ => .bad
theorem vs_par {W : WX} {i j : Nat} {x y : Str} {a b : Expr} {fa : SA} {px py pt : Pos} {kt k2 pt2} (hc : X.calm = true) (hN : X.N.Nodup) (hi : X.N[i]? = some x) (hj : X.N[j]? = some y) (hij : i ≠ j)
    (hx : X.env.scope.names.lookup x = some .local) (hy : X.env.scope.names.lookup y = some .local) (ha : VA P W X [a, b] fa)
    (hw : swappedStores [.Tuple [.Name x px, .Name y py] kt pt] (.Tuple [a, b] k2 pt2) X.env = pure (some [x, y]))
    (hs : swapsWithSole [.Tuple [.Name x px, .Name y py] kt pt] (.Tuple [a, b] k2 pt2) pos.line X.env = pure false := by rfl) :
    VS P W X (.Assign [.Tuple [.Name x px, .Name y py] kt pt] (.Tuple [a, b] k2 pt2) pos) (sPar i j fa) :=
  (ps_par hc hN hi hj hij hx hy ha hw hs).imp3 fun D σ H ⟨L, ρ, μ, rs, s, q⟩ => tVA.firstS rs s q fun ds μ1 vs L1 H1 x1 s1 r1 rs1 q1 => by
    match ds, r1, q1 with
    | [], _, q1 => exact q1.elim
    | [_], _, q1 => exact q1.elim
    | _ :: _ :: _ :: _, _, q1 => exact q1.elim
    | [d, e], r1, q1 =>
      obtain ⟨v, w, rfl, rv, rw⟩ := r1.two
      exact ⟨v, w, rfl, q1 _ L1 H1 .refl s1 ((rs1.set rv).set rw)⟩
/-- name op= e -/
def sAug (i : Nat) (g : D → D → Sto → R D) (f : SE) : SS := fun ρ μ => match ρ[i]? with
  | some (some a) => (f ρ μ).thn ρ fun b μ1 => (g a b μ1).thn ρ fun d μ2 => .nx (ρ.set i (some d)) μ2
  | _ => .bad
end
/-! ### what is walked -/
/-- J gives the data ds, as long as gd -/
def Gives (P : Pm) (J : It) (ds : List D) (gd : Sto → Bool) (L0 : Lv) (H0 : Hp) : Prop := ∀ (L : Lv) (H : Hp) (μ : Sto) (i : Nat), Ext0 L0 H0 L H → St3 P H L μ → gd μ = true →
  (∀ d, ds[i]? = some d → J.go i H ∧ ∀ x H', J.yld i H x H' → (∀ b o, H b = some o → H' b = some o) ∧ Rep P H' L x d) ∧ (ds[i]? = none → J.stop i H)
theorem Gives.ext {P : Pm} {J : It} {ds : List D} {gd : Sto → Bool} {L0 L1 : Lv} {H0 H1 : Hp} (x : Ext0 L0 H0 L1 H1) (g : Gives P J ds gd L0 H0) : Gives P J ds gd L1 H1 := fun L H μ i y => g L H μ i (x.trans y)
abbrev SI := Env → Sto → R (List D × (Sto → Bool))
def tVI (P : Pm) (W : WX) (f : SI) : TI := fun σ H R => ∃ L ρ μ, RelS P H L σ ρ ∧ St3 P H L μ ∧ Post P (WE W σ) L H (fun it L' H' => ∀ J, Gives P J it.1 it.2 L' H' → R J H') (f ρ μ)
abbrev VI (P : Pm) (W : WX) (X : Cx) (tg iter : Expr) (f : SI) : Prop := PI X tg iter (tVI P W f)
theorem _root_.L2.PI.imp3 {X : Cx} {tg e : Expr} {t t' : TI} (h : PI X tg e t) (i : ∀ σ H R, t' σ H R → t σ H R) : PI X tg e t' := ⟨fun pins s σ H R I q => h.run pins s σ H R I (i σ H R q)⟩
mutual
def D.beq : D → D → Bool
  | .non, .non => true
  | .bl a, .bl b => a == b
  | .int a, .int b => a == b
  | .str a, .str b => decide (a = b)
  | .lst a, .lst b => D.beqL a b
  | .tup a, .tup b => D.beqL a b
  | .dct k a, .dct l b => decide (k = l) && D.beqL a b
  | .obj c k a, .obj d l b => decide (c = d) && (decide (k = l) && D.beqL a b)
  | .cell a, .cell b => a == b
  | .scr a, .scr b => decide (a = b)
  | _, _ => false
def D.beqL : List D → List D → Bool
  | [], [] => true
  | a :: r, b :: s => D.beq a b && D.beqL r s
  | _, _ => false
end
mutual
theorem D.beq_eq : ∀ {a b : D}, D.beq a b = true → a = b
  | .non, b, h => by cases b <;> simp [D.beq] at h ⊢
  | .bl _, b, h => by cases b <;> simp [D.beq] at h ⊢; exact h
  | .int _, b, h => by cases b <;> simp [D.beq] at h ⊢; exact h
  | .str _, b, h => by cases b <;> simp [D.beq] at h ⊢; exact h
  | .lst _, b, h => by cases b <;> simp [D.beq] at h ⊢; exact D.beqL_eq h
  | .tup _, b, h => by cases b <;> simp [D.beq] at h ⊢; exact D.beqL_eq h
  | .dct _ _, b, h => by cases b <;> simp [D.beq] at h ⊢; exact ⟨h.1, D.beqL_eq h.2⟩
  | .obj _ _ _, b, h => by cases b <;> simp [D.beq] at h ⊢; exact ⟨h.1, h.2.1, D.beqL_eq h.2.2⟩
  | .cell _, b, h => by cases b <;> simp [D.beq] at h ⊢; exact h
  | .scr _, b, h => by cases b <;> simp [D.beq] at h ⊢; exact h
theorem D.beqL_eq : ∀ {a b : List D}, D.beqL a b = true → a = b
  | [], b, h => by cases b <;> simp [D.beqL] at h ⊢
  | x :: r, b, h => by
    cases b with
    | nil => simp [D.beqL] at h
    | cons y s => simp [D.beqL] at h; rw [D.beq_eq h.1, D.beqL_eq h.2]
end
mutual
theorem D.beq_self : ∀ a : D, D.beq a a = true
  | .non => by simp [D.beq]
  | .bl _ => by simp [D.beq]
  | .int _ => by simp [D.beq]
  | .str _ => by simp [D.beq]
  | .lst a => by simp [D.beq, D.beqL_self a]
  | .tup a => by simp [D.beq, D.beqL_self a]
  | .dct _ a => by simp [D.beq, D.beqL_self a]
  | .obj _ _ a => by simp [D.beq, D.beqL_self a]
  | .cell _ => by simp [D.beq]
  | .scr _ => by simp [D.beq]
theorem D.beqL_self : ∀ a : List D, D.beqL a a = true
  | [] => by simp [D.beqL]
  | x :: r => by simp [D.beqL, D.beq_self x, D.beqL_self r]
end
/-- a list's items, and what must stay so while it is walked -/
def walkD (μ : Sto) : D → Option (List D × (Sto → Bool))
  | .lst ds => some (ds, fun _ => true)
  | .tup ds => some (ds, fun _ => true)
  | .scr ns => some (ns.map D.int, fun _ => true)
  | .str z => some (z.cps.toList.map fun c => .str ⟨#[c]⟩, fun _ => true)
  | .cell k => (match μ[k]? with
    | some (.lst ds) => some (ds, fun μ' => match μ'[k]? with
      | some (.lst es) => D.beqL es ds
      | _ => false)
    | _ => none)
  | _ => none
def iAnyD (f : SE) : SI := fun ρ μ => (f ρ μ).bind fun d μ1 => match walkD μ1 d with
  | some it => .ok it μ1
  | none => .bad
def iAny (K : PySem.W.Frag) (tl : TE) : TI := fun σ H R => tl σ H fun x H1 => (∃ a, x = .ref a ∧ (∃ xs, SqL K H1 a xs) ∧ R (Itl K a) H1) ∨ (∃ a, x = .ref a ∧ (∃ xs, SqT K H1 a xs) ∧ R (Itt K a) H1) ∨ ∃ z, x = .str z ∧ R (Its z) H1
theorem pi_any {X : Cx} {tg l : Expr} {tl : TE} (hl : PE X l tl) : PI X tg l (iAny X.K tl) := ⟨fun pins s σ H R I asks => thn (hl.run pins s σ H _ I asks) fun v s1 got => by
  obtain ⟨x, H1, J, rx, kinds⟩ := got
  rcases kinds with ⟨a, ex, ⟨_, sq⟩, goes⟩ | ⟨a, ex, ⟨_, sq⟩, goes⟩ | ⟨z, ex, goes⟩ <;> subst ex
  · obtain ⟨_, _, isL, _⟩ := J.list sq
    cases rx
    exact wpAny_pyIter_list isL.isList (pi_one (tk := s1.toks) J _ (turn_list a _) ⟨_, Heap.get?_push_size _ rfl, rfl, rfl⟩ goes)
  · obtain ⟨its, _, isT, _⟩ := J.tuple sq
    cases rx
    exact wpAny_pyIter_tuple (show s1.heap.IsTuple a its.toArray from isT) (pi_one (tk := s1.toks) J _ (turn_tuple a _) ⟨_, Heap.get?_push_size _ rfl, rfl, rfl⟩ goes)
  · rcases rx with ⟨tok, rfl⟩
    rcases Bool.eq_false_or_eq_true (z.cps.all (· < 128)) with plain | wide
    · exact wpAny_pyIter_ascii plain (pi_one (tk := s1.toks) J _ (turn_str _ z tok "str_ascii_iterator" (.inl rfl)) ⟨_, Heap.get?_push_size _ rfl, rfl, rfl⟩ goes)
    · exact wpAny_pyIter_wide wide (pi_one (tk := s1.toks) J _ (turn_str _ z tok "str_iterator" (.inr rfl)) ⟨_, Heap.get?_push_size _ rfl, rfl, rfl⟩ goes)⟩
/-- a source's datum, read at each turn -/
theorem walk_gives {P : Pm} {L0 : Lv} {H0 : Hp} {μ0 : Sto} {v : V} {d : D} {it : List D × (Sto → Bool)} (s0 : St3 P H0 L0 μ0) (r : Rep P H0 L0 v d) (e : walkD μ0 d = some it) :
    (∃ a, v = .ref a ∧ (∃ xs, SqL P.K H0 a xs) ∧ Gives P (Itl P.K a) it.1 it.2 L0 H0) ∨ (∃ a, v = .ref a ∧ (∃ xs, SqT P.K H0 a xs) ∧ Gives P (Itt P.K a) it.1 it.2 L0 H0) ∨ ∃ z, v = .str z ∧ Gives P (Its z) it.1 it.2 L0 H0 := by
  have lists : ∀ {a : Addr} {ds : List D} {gd : Sto → Bool}, (∀ L H μ, Ext0 L0 H0 L H → St3 P H L μ → gd μ = true → ∃ vs, SqL P.K H a vs ∧ Reps P H L vs ds) → Gives P (Itl P.K a) ds gd L0 H0 := fun {a ds gd} h L H μ i x s g => by
    obtain ⟨vs, hq, rq⟩ := h L H μ x s g
    refine ⟨fun d hd => ?_, fun hn => ⟨vs, hq, ?_⟩⟩
    · obtain ⟨w, hw, rw⟩ := rq.get hd
      refine ⟨⟨vs, w, hq, hw⟩, fun y H' hy => ?_⟩
      obtain ⟨e1, e2⟩ := hy
      subst e1
      have e3 := e2 vs hq
      rw [hw] at e3; cases e3
      exact ⟨fun _ _ z => z, rw⟩
    · rw [rq.length]; exact List.getElem?_eq_none_iff.mp hn
  have tups : ∀ {a : Addr} {ds : List D} {gd : Sto → Bool}, (∀ L H μ, Ext0 L0 H0 L H → St3 P H L μ → gd μ = true → ∃ vs, SqT P.K H a vs ∧ Reps P H L vs ds) → Gives P (Itt P.K a) ds gd L0 H0 := fun {a ds gd} h L H μ i x s g => by
    obtain ⟨vs, hq, rq⟩ := h L H μ x s g
    refine ⟨fun d hd => ?_, fun hn => ⟨vs, hq, ?_⟩⟩
    · obtain ⟨w, hw, rw⟩ := rq.get hd
      refine ⟨⟨vs, w, hq, hw⟩, fun y H' hy => ?_⟩
      obtain ⟨e1, e2⟩ := hy
      subst e1
      have e3 := e2 vs hq
      rw [hw] at e3; cases e3
      exact ⟨fun _ _ z => z, rw⟩
    · rw [rq.length]; exact List.getElem?_eq_none_iff.mp hn
  cases d with
  | lst ds =>
    cases e
    cases r with
    | @lst a vs _ h n rr => exact .inl ⟨a, rfl, ⟨vs, .of h⟩, lists fun L H μ x s g => ⟨vs, .of (x.keep _ _ h (fun ps z => nomatch z) n), rr.ext0 x⟩⟩
  | tup ds =>
    cases e
    cases r with
    | @tup a vs _ h rr => exact .inr (.inl ⟨a, rfl, ⟨vs, h.sq⟩, tups fun L H μ x s g => ⟨vs, (h.ext0 x).sq, rr.ext0 x⟩⟩)
  | scr ns =>
    cases e
    cases r with
    | @scr a _ h => exact .inl ⟨a, rfl, ⟨_, h.sq⟩, lists fun L H μ x s g => ⟨_, (h.ext0 x).sq, Reps.ints ns⟩⟩
  | str z =>
    cases e
    cases r
    refine .inr (.inr ⟨z, rfl, fun L H μ i x s g => ⟨fun d hd => ?_, fun hn => ?_⟩⟩)
    · have hd : (z.cps.toList.map fun c => D.str ⟨#[c]⟩)[i]? = some d := hd
      rw [List.getElem?_map] at hd
      cases e2 : z.cps.toList[i]? with
      | none => rw [e2] at hd; cases hd
      | some c =>
        rw [e2] at hd
        cases hd
        have e3 : z.cps[i]? = some c := by rw [← Array.getElem?_toList]; exact e2
        refine ⟨(Array.getElem?_eq_some_iff.mp e3).1, fun y H' hy => ?_⟩
        obtain ⟨e4, c', e5, e6⟩ := hy
        subst e4 e6
        rw [e3] at e5; cases e5
        exact ⟨fun _ _ z => z, .str _⟩
    · have hn : (z.cps.toList.map fun c => D.str ⟨#[c]⟩)[i]? = none := hn
      have := List.getElem?_eq_none_iff.mp hn
      show z.cps.size ≤ i
      simpa using this
  | cell k =>
    have e : (match μ0[k]? with
      | some (.lst ds) => some (ds, fun μ' : Sto => match μ'[k]? with
        | some (.lst es) => D.beqL es ds
        | _ => false)
      | _ => none) = some it := e
    cases em : μ0[k]? with
    | none => rw [em] at e; cases e
    | some m =>
      rw [em] at e
      cases m with
      | dct _ _ => cases e
      | ins _ _ _ => cases e
      | lst ds =>
        cases e
        cases r with
        | @cell a _ hk =>
          have q0 := s0.at_ k a _ hk em
          cases q0 with
          | @lst vs0 _ h0 r0 =>
            refine .inl ⟨a, rfl, ⟨vs0, .of h0⟩, lists fun L H μ x s g => ?_⟩
            have g : (match μ[k]? with
              | some (.lst es) => D.beqL es ds
              | _ => false) = true := g
            cases em1 : μ[k]? with
            | none => rw [em1] at g; cases g
            | some m1 =>
              rw [em1] at g
              cases m1 with
              | dct _ _ => cases g
              | ins _ _ _ => cases g
              | lst es =>
                have ee := D.beqL_eq g
                subst ee
                have q1 := s.at_ k a _ (x.pre k a hk) em1
                cases q1 with
                | @lst vs1 _ h1 r1 => exact ⟨vs1, .of h1, r1⟩
  | non => cases e
  | bl _ => cases e
  | int _ => cases e
  | dct _ _ => cases e
  | obj _ _ _ => cases e
end L3

namespace L3
open PySem PySem.Spec PyProof.Rows L2
section
variable {P : Pm} {W : WX} {X : Cx} {tg : Expr} {fe : SE} {fa : SA} {pos p : Pos}
theorem vi_any {l : Expr} (hK : P.K = X.K) (h : VE P W X l fe) : VI P W X tg l (iAnyD fe) :=
  (pi_any h).imp3 fun σ H R ⟨L, ρ, μ, rs, s, q⟩ => by
    refine tV.first rs s q fun d μ1 v L1 H1 x1 s1 r1 rs1 q1 => ?_
    cases e : walkD μ1 d with
    | none => rw [e] at q1; exact q1.elim
    | some it =>
      rw [e] at q1
      have q2 := q1 L1 H1 .refl s1
      rw [← hK]
      rcases walk_gives s1 r1 e with ⟨a, e1, h1, g⟩ | ⟨a, e1, h1, g⟩ | ⟨z, e1, g⟩
      · exact .inl ⟨a, e1, h1, q2 _ g⟩
      · exact .inr (.inl ⟨a, e1, h1, q2 _ g⟩)
      · exact .inr (.inr ⟨z, e1, q2 _ g⟩)
/-- range(n), range(a, b) -/
def rngD (lo : Int) (n : Nat) : List D := (List.range n).map fun i => .int (lo + (i : Nat))
def iRange1 (fa : SA) : SI := fun ρ μ => (fa ρ μ).bind fun ds μ1 => match ds with
  | [.int j] => if -(2 ^ 62) ≤ j ∧ j < 2 ^ 62 then .ok (rngD 0 j.toNat, fun _ => true) μ1 else .bad
  | _ => .bad
def iRange2 (fa : SA) : SI := fun ρ μ => (fa ρ μ).bind fun ds μ1 => match ds with
  | [.int i, .int j] => if -(2 ^ 62) ≤ i ∧ i < 2 ^ 62 ∧ -(2 ^ 62) ≤ j ∧ j < 2 ^ 62 then .ok (rngD i (j - i).toNat, fun _ => true) μ1 else .bad
  | _ => .bad
theorem gives_rng {L0 : Lv} {H0 : Hp} (lo : Int) (n : Nat) : Gives P (Itr lo n) (rngD lo n) (fun _ => true) L0 H0 := fun L H μ i x s g => by
  refine ⟨fun d hd => ?_, fun hn => ?_⟩
  · unfold rngD at hd
    rw [List.getElem?_map] at hd
    cases e : (List.range n)[i]? with
    | none => rw [e] at hd; cases hd
    | some k =>
      rw [e] at hd
      cases hd
      obtain ⟨h1, h2⟩ := List.getElem?_eq_some_iff.mp e
      have h3 : i < n := by simpa using h1
      have h4 : k = i := by simp at h2; omega
      subst h4
      refine ⟨h3, fun y H' hy => ?_⟩
      obtain ⟨e1, e2⟩ := hy
      subst e1 e2
      exact ⟨fun _ _ z => z, .int _⟩
  · have := List.getElem?_eq_none_iff.mp hn
    show n ≤ i
    simpa [rngD] using this
theorem vi_range1 {a : Expr} (hg : Gl X "range") (hm : X.mg "range" = none) (ha : VA P W X [a] fa) (hs : starEach [a] X.env = [(false, eval a X.env)] := by rfl) : VI P W X tg (.Call (.Name "range" p) [a] [] pos) (iRange1 fa) :=
  (pi_range1 hg hm ha hs).imp3 fun σ H R ⟨L, ρ, μ, rs, s, q⟩ => by
    refine tVA.first rs s q fun ds μ1 vs L1 H1 x1 s1 r1 rs1 q1 => ?_
    match ds, r1, q1 with
    | [], _, q1 => exact q1.elim
    | _ :: _ :: _, r1, q1 => exact (by cases r1 with | cons h t => cases h <;> exact q1.elim)
    | [d], r1, q1 =>
      obtain ⟨v, rfl, rv⟩ := r1.one
      cases rv with
      | int j =>
        have q1 : Post P (WE W σ) L1 H1 (fun it L' H' => ∀ J, Gives P J it.1 it.2 L' H' → R J H') (if -(2 ^ 62) ≤ j ∧ j < 2 ^ 62 then .ok (rngD 0 j.toNat, fun _ => true) μ1 else .bad) := q1
        by_cases c : -(2 ^ 62) ≤ j ∧ j < 2 ^ 62
        · rw [if_pos c] at q1
          exact ⟨j, rfl, c.1, c.2, q1 L1 H1 .refl s1 _ (gives_rng _ _)⟩
        · rw [if_neg c] at q1; exact q1.elim
      | _ => exact q1.elim
/-- a list that is read at each turn: its items, the guard -/
def walkL (μ : Sto) : D → Option (List D × (Sto → Bool))
  | .lst ds => some (ds, fun _ => true)
  | .scr ns => some (ns.map D.int, fun _ => true)
  | .cell k => (match μ[k]? with
    | some (.lst ds) => some (ds, fun μ' => match μ'[k]? with
      | some (.lst es) => D.beqL es ds
      | _ => false)
    | _ => none)
  | _ => none
theorem walkL_ok {L0 : Lv} {H0 : Hp} {μ0 : Sto} {v : V} {d : D} {it : List D × (Sto → Bool)} (s0 : St3 P H0 L0 μ0) (r : Rep P H0 L0 v d) (e : walkL μ0 d = some it) :
    ∃ a, v = .ref a ∧ (∃ xs, SqL P.K H0 a xs) ∧ ∀ L H μ, Ext0 L0 H0 L H → St3 P H L μ → it.2 μ = true → ∃ vs, SqL P.K H a vs ∧ Reps P H L vs it.1 := by
  cases d with
  | lst ds =>
    cases e
    cases r with
    | @lst a vs _ h n rr => exact ⟨a, rfl, ⟨vs, .of h⟩, fun L H μ x s g => ⟨vs, .of (x.keep _ _ h (fun ps z => nomatch z) n), rr.ext0 x⟩⟩
  | scr ns =>
    cases e
    cases r with
    | @scr a _ h => exact ⟨a, rfl, ⟨_, h.sq⟩, fun L H μ x s g => ⟨_, (h.ext0 x).sq, Reps.ints ns⟩⟩
  | cell k =>
    have e : (match μ0[k]? with
      | some (.lst ds) => some (ds, fun μ' : Sto => match μ'[k]? with
        | some (.lst es) => D.beqL es ds
        | _ => false)
      | _ => none) = some it := e
    cases em : μ0[k]? with
    | none => rw [em] at e; cases e
    | some m =>
      rw [em] at e
      cases m with
      | dct _ _ => cases e
      | ins _ _ _ => cases e
      | lst ds =>
        cases e
        cases r with
        | @cell a _ hk =>
          have q0 := s0.at_ k a _ hk em
          cases q0 with
          | @lst vs0 _ h0 r0 =>
            refine ⟨a, rfl, ⟨vs0, .of h0⟩, fun L H μ x s g => ?_⟩
            have g : (match μ[k]? with
              | some (.lst es) => D.beqL es ds
              | _ => false) = true := g
            cases em1 : μ[k]? with
            | none => rw [em1] at g; cases g
            | some m1 =>
              rw [em1] at g
              cases m1 with
              | dct _ _ => cases g
              | ins _ _ _ => cases g
              | lst es =>
                have ee := D.beqL_eq g
                subst ee
                have q1 := s.at_ k a _ (x.pre k a hk) em1
                cases q1 with
                | @lst vs1 _ h1 r1 => exact ⟨vs1, .of h1, r1⟩
  | _ => cases e
/-- enumerate(xs) -/
def enumD : Nat → List D → List D
  | _, [] => []
  | i, d :: r => .tup [.int i, d] :: enumD (i + 1) r
def iEnumD (fa : SA) : SI := fun ρ μ => (fa ρ μ).bind fun ds μ1 => match ds with
  | [d] => (match walkL μ1 d with
    | some it => .ok (enumD 0 it.1, it.2) μ1
    | none => .bad)
  | _ => .bad
/-- zip(xs, ys) -/
def zipD : List D → List D → List D
  | a :: r, b :: s => .tup [a, b] :: zipD r s
  | _, _ => []
theorem zipD_get : ∀ (xs ys : List D) (i : Nat), (zipD xs ys)[i]? = (match xs[i]?, ys[i]? with
    | some x, some y => some (.tup [x, y])
    | _, _ => none)
  | [], ys, i => by simp [zipD]
  | x :: r, [], i => by cases h : (x :: r)[i]? <;> simp [zipD]
  | x :: r, y :: s, 0 => by simp [zipD]
  | x :: r, y :: s, i + 1 => by
    show (zipD r s)[i]? = _
    rw [zipD_get r s i]
    simp
def iZipD (fa : SA) : SI := fun ρ μ => (fa ρ μ).bind fun ds μ1 => match ds with
  | [d, e] => (match walkL μ1 d, walkL μ1 e with
    | some it, some iu => .ok (zipD it.1 iu.1, fun μ' => it.2 μ' && iu.2 μ') μ1
    | _, _ => .bad)
  | _ => .bad
theorem vi_zip {e e2 : Expr} {tpos : Pos} {elts : List Expr} {kk : Nat} (hK : P.K = X.K) (hg : Gl X "zip") (hm : X.mg "zip" = none) (ha : VA P W X [e, e2] fa)
    (hs : starEach [e, e2] X.env = (false, eval e X.env) :: starEach [e2] X.env := by rfl) (hpl : (backTo pos (starEach [e2] X.env)).any (·.1) = false := by rfl) :
    VI P W X (.Tuple elts kk tpos) (.Call (.Name "zip" p) [e, e2] [] pos) (iZipD fa) :=
  (pi_zip hg hm ha hs hpl).imp3 fun σ H R ⟨L, ρ, μ, rs, s, q⟩ => by
    refine tVA.first rs s q fun ds μ1 vs L1 H1 x1 s1 r1 rs1 q1 => ?_
    match ds, r1, q1 with
    | [], _, q1 => exact q1.elim
    | [_], r1, q1 => exact q1.elim
    | _ :: _ :: _ :: _, r1, q1 => exact q1.elim
    | [d, d'], r1, q1 =>
      obtain ⟨v, w, rfl, rv, rw'⟩ := r1.two
      have q1 : Post P (WE W σ) L1 H1 (fun it L' H' => ∀ J, Gives P J it.1 it.2 L' H' → R J H') (match walkL μ1 d, walkL μ1 d' with
        | some it, some iu => .ok (zipD it.1 iu.1, fun μ' => it.2 μ' && iu.2 μ') μ1
        | _, _ => .bad) := q1
      cases e : walkL μ1 d with
      | none => rw [e] at q1; exact q1.elim
      | some it =>
        cases e' : walkL μ1 d' with
        | none => rw [e, e'] at q1; exact q1.elim
        | some iu =>
          rw [e, e'] at q1
          obtain ⟨a, e1, ⟨xs, hx⟩, gg⟩ := walkL_ok s1 rv e
          obtain ⟨b, e1', ⟨ys, hy⟩, gg'⟩ := walkL_ok s1 rw' e'
          subst e1 e1'
          rw [hK] at hx gg hy gg'
          refine ⟨a, b, xs, ys, rfl, hx, hy, q1 L1 H1 .refl s1 _ fun L H μ i x s g => ?_⟩
          have g : (it.2 μ && iu.2 μ) = true := g
          rw [Bool.and_eq_true] at g
          obtain ⟨vs, hq, rq⟩ := gg L H μ x s g.1
          obtain ⟨vs', hq', rq'⟩ := gg' L H μ x s g.2
          refine ⟨fun d' hd => ?_, fun hn => ⟨vs, vs', hq, hq', ?_⟩⟩
          · have hd : (zipD it.1 iu.1)[i]? = some d' := hd
            rw [zipD_get] at hd
            cases e2 : it.1[i]? with
            | none => rw [e2] at hd; cases hd
            | some d0 =>
              cases e3 : iu.1[i]? with
              | none => rw [e2, e3] at hd; cases hd
              | some d1 =>
                rw [e2, e3] at hd
                cases hd
                obtain ⟨w0, hw0, rw0⟩ := rq.get e2
                obtain ⟨w1, hw1, rw1⟩ := rq'.get e3
                refine ⟨⟨vs, vs', w0, w1, hq, hq', hw0, hw1⟩, fun y H' hy => ?_⟩
                obtain ⟨T, x', y', e4, hT, e5, un, un'⟩ := hy
                subst e4 e5
                have e6 := un vs hq
                have e7 := un' vs' hq'
                rw [hw0] at e6; cases e6
                rw [hw1] at e7; cases e7
                exact ⟨upd_grow hT, new_tup s hT (.cons rw0 (.cons rw1 .nil))⟩
          · have hn : (zipD it.1 iu.1)[i]? = none := hn
            rw [zipD_get] at hn
            rw [rq.length, rq'.length]
            cases e2 : it.1[i]? with
            | none => exact .inl (List.getElem?_eq_none_iff.mp e2)
            | some d0 =>
              cases e3 : iu.1[i]? with
              | none => exact .inr (List.getElem?_eq_none_iff.mp e3)
              | some d1 => rw [e2, e3] at hn; cases hn
end
/-! ### for -/
def forS (gd : Sto → Bool) (g : SG) (b : SS) : List D → SS
  | [], ρ, μ => if gd μ = true then .nx ρ μ else .bad
  | d :: ds, ρ, μ => if gd μ = true then (match g d ρ μ with
    | some ρ1 => (match b ρ1 μ with
      | .nx ρ2 μ2 => forS gd g b ds ρ2 μ2
      | .ct ρ2 μ2 => forS gd g b ds ρ2 μ2
      | .bk ρ2 μ2 => .nx ρ2 μ2
      | .rt d μ2 => .rt d μ2
      | .exc c ns vs ρ2 μ2 => .exc c ns vs ρ2 μ2
      | .bad => .bad)
    | none => .bad) else .bad
def sFor (fi : SI) (g : SG) (b : SS) : SS := fun ρ μ => (fi ρ μ).thn ρ fun it μ1 => forS it.2 g b it.1 ρ μ1
theorem drop_some {α : Type} {l : List α} {i : Nat} {x : α} (h : l[i]? = some x) : l.drop i = x :: l.drop (i + 1) := by
  obtain ⟨h1, h2⟩ := List.getElem?_eq_some_iff.mp h
  rw [List.drop_eq_getElem_cons h1, h2]
theorem drop_none {α : Type} {l : List α} {i : Nat} (h : l[i]? = none) : l.drop i = [] := List.drop_eq_nil_of_le (List.getElem?_eq_none_iff.mp h)
section
variable {P : Pm} {W : WX} {X : Cx} {tg iter : Expr} {body : List Stmt} {fi : SI} {sl : List Nat} {g : SG} {b : SS} {pos : Pos}
theorem vs_for (hp : PassesOwn (model X.prog X.w) X.A X.env X.xe) (hc : X.calm = true) (hi : VI P W X tg iter fi) (hg : VG P X tg sl g) (hb : VSs P W X body b)
    (hs : ∀ x, foldedSetIterable iter X.env x = pure x := by intro _; rfl) : VS P W X (.For tg iter body [] pos) (sFor fi g b) :=
  (ps_for hp hc hi hg hb hs).imp3 fun D σ H ⟨L, ρ, μ, rs, s, q⟩ => by
    refine ⟨L, ρ, μ, rs, s, ?_⟩
    unfold sFor at q
    cases e : fi ρ μ with
    | exc c ns vs μ1 => rw [e] at q; exact fun C dx L' H' hc x s f => q σ C dx L' H' hc x s (rs.ext x) f
    | bad => rw [e] at q; exact q
    | ok it μ1 =>
      rw [e] at q
      intro L1 H1 x1 s1 J gv
      have q1 : PostS P W D L1 H1 (forS it.2 g b it.1 ρ μ1) := PostS.ext x1 q
      refine ⟨fun i m σ H => ∃ L ρ μ, RelS P H L σ ρ ∧ St3 P H L μ ∧ PostS P W D L H (forS it.2 g b (it.1.drop i) ρ μ) ∧ Gives P J it.1 it.2 L H ∧ m = it.1.length - i,
        ⟨_, L1, ρ, μ1, rs.ext x1, s1, q1, gv, rfl⟩, ?_⟩
      rintro i m σ2 H2 ⟨L2, ρ2, μ2, rs2, s2, q2, gv2, rfl⟩
      cases e2 : it.1[i]? with
      | none =>
        rw [drop_none e2] at q2
        unfold forS at q2
        by_cases c : it.2 μ2 = true
        · rw [if_pos c] at q2
          exact .inl ⟨(gv2 L2 H2 μ2 i .refl s2 c).2 e2, q2 σ2 L2 H2 .refl s2 rs2⟩
        · rw [if_neg c] at q2; exact q2.elim
      | some d =>
        rw [drop_some e2] at q2
        unfold forS at q2
        by_cases c : it.2 μ2 = true
        · rw [if_pos c] at q2
          obtain ⟨hgo, hy⟩ := (gv2 L2 H2 μ2 i .refl s2 c).1 d e2
          have hlt : i < it.1.length := (List.getElem?_eq_some_iff.mp e2).1
          refine .inr ⟨hgo, fun σ' H' => ∃ L ρ μ, RelS P H' L σ' ρ ∧ St3 P H' L μ ∧ PostS P W D L H' (forS it.2 g b (it.1.drop (i + 1)) ρ μ) ∧ Gives P J it.1 it.2 L H',
            fun σ' H' ⟨L, ρ, μ, a1, a2, a3, a4⟩ => ⟨it.1.length - (i + 1), by omega, L, ρ, μ, a1, a2, a3, a4, rfl⟩, fun x H' y => ?_⟩
          obtain ⟨gr, rx⟩ := hy x H' y
          have x3 : Ext P L2 H2 L2 H' := Ext.grow s2 gr
          cases e3 : g d ρ2 μ2 with
          | none => rw [e3] at q2; exact q2.elim
          | some ρ3 =>
            rw [e3] at q2
            refine ⟨L2, ρ2, μ2, d, ρ3, rs2.ext x3, s2.grow gr, rx, e3, fun σ3 rs3 _ => ?_⟩
            refine ⟨L2, ρ3, μ2, rs3, s2.grow gr, ?_⟩
            have q3 := PostS.ext x3 q2
            dsimp only at q3
            cases e4 : b ρ3 μ2 with
            | nx ρ4 μ4 => rw [e4] at q3; exact fun σ' L' H4 x4 s4 rs4 => ⟨L', ρ4, μ4, rs4, s4, PostS.ext x4 q3, (gv2.ext x3.toExt0).ext x4.toExt0⟩
            | ct ρ4 μ4 => rw [e4] at q3; exact fun σ' L' H4 x4 s4 rs4 => ⟨L', ρ4, μ4, rs4, s4, PostS.ext x4 q3, (gv2.ext x3.toExt0).ext x4.toExt0⟩
            | bk ρ4 μ4 => rw [e4] at q3; exact q3
            | rt d μ4 => rw [e4] at q3; exact q3
            | exc c ns vs ρ4 μ4 => rw [e4] at q3; exact q3
            | bad => rw [e4] at q3; exact q3
        · rw [if_neg c] at q2; exact q2.elim
end
/-! ### while -/
def whileN (t : ST) (b : SS) : Nat → SS
  | 0, _, _ => .bad
  | n + 1, ρ, μ => match t ρ μ with
    | .ok c μ1 => if c = true then (match b ρ μ1 with
      | .nx ρ2 μ2 => whileN t b n ρ2 μ2
      | .ct ρ2 μ2 => whileN t b n ρ2 μ2
      | .bk ρ2 μ2 => .nx ρ2 μ2
      | .rt d μ2 => .rt d μ2
      | .exc c ns vs ρ2 μ2 => .exc c ns vs ρ2 μ2
      | .bad => .bad) else .nx ρ μ1
    | .exc c ns vs μ1 => .exc c ns vs ρ μ1
    | .bad => .bad
theorem whileN_more {t : ST} {b : SS} : ∀ {n : Nat} {ρ : Env} {μ : Sto}, whileN t b n ρ μ ≠ .bad → whileN t b (n + 1) ρ μ = whileN t b n ρ μ
  | 0, _, _, h => absurd rfl h
  | n + 1, ρ, μ, h => by
    unfold whileN at h ⊢
    cases e : t ρ μ with
    | exc c ns vs μ1 => rfl
    | bad => rfl
    | ok c μ1 =>
      rw [e] at h
      have h : (if c = true then (match b ρ μ1 with
        | .nx ρ2 μ2 => whileN t b n ρ2 μ2
        | .ct ρ2 μ2 => whileN t b n ρ2 μ2
        | .bk ρ2 μ2 => .nx ρ2 μ2
        | .rt d μ2 => .rt d μ2
        | .exc c ns vs ρ2 μ2 => .exc c ns vs ρ2 μ2
        | .bad => .bad) else .nx ρ μ1) ≠ RS.bad := h
      cases c with
      | false => rfl
      | true =>
        rw [if_pos rfl] at h
        show (if true = true then _ else _) = (if true = true then _ else _)
        rw [if_pos rfl, if_pos rfl]
        cases e2 : b ρ μ1 with
        | nx ρ2 μ2 => rw [e2] at h; exact whileN_more h
        | ct ρ2 μ2 => rw [e2] at h; exact whileN_more h
        | _ => rfl
theorem whileN_le {t : ST} {b : SS} {n m : Nat} {ρ : Env} {μ : Sto} (h : whileN t b n ρ μ ≠ .bad) (hl : n ≤ m) : whileN t b m ρ μ = whileN t b n ρ μ := by
  induction hl with
  | refl => rfl
  | step _ ih => rw [whileN_more (by rw [ih]; exact h), ih]
open Classical in
/-- however many turns it takes -/
noncomputable def sWhile (t : ST) (b : SS) : SS := fun ρ μ => if h : ∃ n, whileN t b n ρ μ ≠ .bad then whileN t b (Classical.choose h) ρ μ else .bad
theorem sWhile_eq {t : ST} {b : SS} {ρ : Env} {μ : Sto} (n : Nat) {r : RS} (h : whileN t b n ρ μ = r) (hr : r ≠ .bad) : sWhile t b ρ μ = r := by
  have hx : ∃ n, whileN t b n ρ μ ≠ .bad := ⟨n, by rw [h]; exact hr⟩
  unfold sWhile
  rw [dif_pos hx]
  have h1 := Classical.choose_spec hx
  have h2 : whileN t b n ρ μ ≠ .bad := by rw [h]; exact hr
  rcases Nat.le_total (Classical.choose hx) n with l | l
  · rw [← whileN_le h1 l, h]
  · rw [whileN_le h2 l, h]
theorem sWhile_at {t : ST} {b : SS} {ρ : Env} {μ : Sto} (h : sWhile t b ρ μ ≠ .bad) : ∃ n, whileN t b n ρ μ = sWhile t b ρ μ := by
  unfold sWhile at h ⊢
  by_cases hx : ∃ n, whileN t b n ρ μ ≠ .bad
  · rw [dif_pos hx]; exact ⟨_, rfl⟩
  · rw [dif_neg hx] at h; exact absurd rfl h
section
variable {P : Pm} {W : WX} {X : Cx} {c : Expr} {body : List Stmt} {t : ST} {b : SS} {pos : Pos}
theorem vs_while (hp : PassesOwn (model X.prog X.w) X.A X.env X.xe) (hc : VT P W X c t) (hb : VSs P W X body b) : VS P W X (.While c body [] pos) (sWhile t b) :=
  (ps_while hp hc hb).imp3 fun D σ H ⟨L, ρ, μ, rs, s, q⟩ => by
    have nb : sWhile t b ρ μ ≠ .bad := fun z => by rw [z] at q; exact q
    obtain ⟨n0, e0⟩ := sWhile_at nb
    rw [← e0] at q
    refine ⟨fun m σ H => ∃ L ρ μ, RelS P H L σ ρ ∧ St3 P H L μ ∧ PostS P W D L H (whileN t b m ρ μ), ⟨n0, L, ρ, μ, rs, s, q⟩, ?_⟩
    rintro m σ2 H2 ⟨L2, ρ2, μ2, rs2, s2, q2⟩
    cases m with
    | zero => exact q2.elim
    | succ m =>
      unfold whileN at q2
      refine ⟨L2, ρ2, μ2, rs2, s2, ?_⟩
      cases e : t ρ2 μ2 with
      | exc c ns vs μ1 => rw [e] at q2; exact fun C dx L' H' hc x s f => q2 σ2 C dx L' H' hc x s (rs2.ext x) f
      | bad => rw [e] at q2; exact q2
      | ok c μ3 =>
        rw [e] at q2
        intro L3 H3 x3 s3
        cases c with
        | false =>
          have q2 : PostS P W D L2 H2 (.nx ρ2 μ3) := q2
          exact q2 σ2 L3 H3 x3 s3 (rs2.ext x3)
        | true =>
          have q3 := PostS.ext x3 q2
          refine ⟨fun σ' H' => ∃ L ρ μ, RelS P H' L σ' ρ ∧ St3 P H' L μ ∧ PostS P W D L H' (whileN t b m ρ μ), fun σ' H' z => ⟨m, Nat.lt_succ_self m, z⟩, ?_⟩
          refine ⟨L3, ρ2, μ3, rs2.ext x3, s3, ?_⟩
          cases e4 : b ρ2 μ3 with
          | nx ρ4 μ4 => simp only [if_pos, e4] at q3; exact fun σ' L' H4 x4 s4 rs4 => ⟨L', ρ4, μ4, rs4, s4, PostS.ext x4 q3⟩
          | ct ρ4 μ4 => simp only [if_pos, e4] at q3; exact fun σ' L' H4 x4 s4 rs4 => ⟨L', ρ4, μ4, rs4, s4, PostS.ext x4 q3⟩
          | bk ρ4 μ4 => simp only [if_pos, e4] at q3; exact q3
          | rt d μ4 => simp only [if_pos, e4] at q3; exact q3
          | exc c ns vs ρ4 μ4 => simp only [if_pos, e4] at q3; exact q3
          | bad => simp only [if_pos, e4] at q3; exact q3
end
end L3

namespace L3
open PySem PySem.Spec PyProof.Rows L2
/-! ### comprehensions -/
def wipeE (ρ : Env) : List Nat → Env
  | [] => ρ
  | v :: vs => (wipeE ρ vs).set v none
theorem wipe_get {σ : L2.St} {i : Nat} : ∀ {vs : List Nat}, i ∉ vs → (wipe σ vs)[i]? = σ[i]?
  | [], _ => rfl
  | v :: vs, h => by
    unfold wipe
    rw [List.getElem?_set_ne (fun z => h (by rw [z]; exact List.mem_cons_self)), wipe_get fun z => h (List.mem_cons_of_mem _ z)]
theorem wipeE_some {ρ : Env} {i : Nat} {d : D} : ∀ {vs : List Nat}, (wipeE ρ vs)[i]? = some (some d) → ρ[i]? = some (some d) ∧ i ∉ vs
  | [], h => ⟨h, by simp⟩
  | v :: vs, h => by
    unfold wipeE at h
    by_cases e : v = i
    · subst e
      by_cases hl : v < (wipeE ρ vs).length
      · rw [List.getElem?_set_self hl] at h; cases h
      · rw [List.getElem?_eq_none (by simpa using hl)] at h; cases h
    · rw [List.getElem?_set_ne e] at h
      obtain ⟨h1, h2⟩ := wipeE_some h
      exact ⟨h1, fun z => (List.mem_cons.mp z).elim (fun z => e z.symm) h2⟩
theorem wipeE_length (ρ : Env) : ∀ vs : List Nat, (wipeE ρ vs).length = ρ.length
  | [] => rfl
  | v :: vs => by unfold wipeE; rw [List.length_set, wipeE_length ρ vs]
theorem wipe_wipe (σ : L2.St) (vs : List Nat) : wipe (wipe σ vs) vs = wipe σ vs := by
  have set_in : ∀ {ws : List Nat} {v : Nat}, v ∈ ws → (wipe σ ws).set v none = wipe σ ws := by
    intro ws v h
    apply List.ext_getElem?
    intro i
    by_cases e : v = i
    · subst e
      have key : ∀ {ws : List Nat}, v ∈ ws → (wipe σ ws)[v]? = (wipe σ ws)[v]?.map fun _ => none := by
        intro ws
        induction ws with
        | nil => intro h; cases h
        | cons w ws ih =>
          intro h
          unfold wipe
          by_cases ew : w = v
          · subst ew
            by_cases hl : w < (wipe σ ws).length
            · rw [List.getElem?_set_self hl]; rfl
            · rw [List.getElem?_eq_none (by simpa using hl)]; rfl
          · rw [List.getElem?_set_ne ew]
            exact ih ((List.mem_cons.mp h).elim (fun z => absurd z.symm ew) id)
      by_cases hl : v < (wipe σ ws).length
      · rw [List.getElem?_set_self hl, key h, List.getElem?_eq_getElem hl]; rfl
      · rw [List.getElem?_eq_none (by simpa using hl), List.getElem?_eq_none (by simpa using hl)]
    · rw [List.getElem?_set_ne e]
  have gen : ∀ ws : List Nat, (∀ w ∈ ws, w ∈ vs) → wipe (wipe σ vs) ws = wipe σ vs := by
    intro ws
    induction ws with
    | nil => intro _; rfl
    | cons w ws ih =>
      intro h
      show (L2.wipe (L2.wipe σ vs) ws).set w none = _
      rw [ih fun x hx => h x (List.mem_cons_of_mem _ hx)]
      exact set_in (h w List.mem_cons_self)
  exact gen vs fun _ h => h
theorem RelS.wipe {P : Pm} {H : Hp} {L : Lv} {σ : L2.St} {ρ : Env} (r : RelS P H L σ ρ) (vs : List Nat) : RelS P H L (L2.wipe σ vs) (wipeE ρ vs) := by
  refine ⟨by rw [wipe_length, wipeE_length]; exact r.len, fun i d h => ?_⟩
  obtain ⟨h1, h2⟩ := wipeE_some h
  obtain ⟨v, h3, h4⟩ := r.at_ i d h1
  exact ⟨v, by rw [wipe_get h2]; exact h3, h4⟩
/-- where nothing may be raised -/
def R.nox {α : Type} : R α → R α
  | .exc _ _ _ _ => .bad
  | r => r
@[simp] theorem R.nox_ok {α : Type} {a : α} {μ : Sto} : (R.ok a μ).nox = .ok a μ := rfl
@[simp] theorem R.nox_bad {α : Type} : (R.bad (α := α)).nox = .bad := rfl
def lcS (gd : Sto → Bool) (g : SG) (tt : ST) (te : SE) (ρ : Env) : List D → Sto → R (List D)
  | [], μ => if gd μ = true then .ok [] μ else .bad
  | d :: ds, μ => if gd μ = true then (match g d ρ μ with
    | some ρ1 => (tt ρ1 μ).nox.bind fun b μ1 => if b = true then (te ρ1 μ1).nox.bind fun y μ2 => (lcS gd g tt te ρ ds μ2).nox.bind fun ys μ3 => .ok (y :: ys) μ3 else lcS gd g tt te ρ ds μ1
    | none => .bad) else .bad
def eLc (vs : List Nat) (fi : SI) (g : SG) (tt : ST) (te : SE) : SE := fun ρ μ => (fi ρ μ).bind fun it μ1 => if it.1.length ≤ sizeLine then (lcS it.2 g tt te (wipeE ρ vs) it.1 μ1).nox.bind fun ys μ2 => .ok (.lst ys) μ2 else .bad
def eLcC (vs : List Nat) (fi : SI) (g : SG) (tt : ST) (te : SE) : SE := fun ρ μ => (fi ρ μ).bind fun it μ1 => if it.1.length ≤ sizeLine then (lcS it.2 g tt te (wipeE ρ vs) it.1 μ1).nox.bind fun ys μ2 => .ok (.cell μ2.length) (μ2 ++ [.lst ys]) else .bad
abbrev W0 : WX := fun _ _ _ _ => False
def Lv.add (L : Lv) (p : Addr) : Lv := ⟨L.c, p :: L.x⟩
section
variable {P : Pm} {H H1 : Hp} {L L1 : Lv} {μ : Sto} {p : Addr}
theorem tabs_upd {T : List (Addr × Str)} {acc acc' : List V} (h : H p = some (.lst acc)) (t : LamX.Tabs T H) : LamX.Tabs T (upd H p (.lst acc')) := fun q hq => by
  obtain ⟨ps, h1, h2, h3⟩ := t q hq
  refine ⟨ps, ?_, h2, fun pos cv hc => ?_⟩
  · rw [upd_ne (fun z => by rw [z, h] at h1; cases h1)]; exact h1
  · obtain ⟨c, e, h4⟩ := h3 pos cv hc
    refine ⟨c, e, ?_⟩
    rw [upd_ne (fun z => by
      rw [z, h] at h4
      have h5 : HO.lst acc = HO.ext _ := Option.some.inj h4
      cases h5)]
    exact h4
theorem prv_new (s : St3 P H L μ) (n : H p = none) : St3 P (upd H p (.lst [])) (L.add p) μ ∧ Ext0 L H (L.add p) (upd H p (.lst [])) := by
  have x : Ext0 L H (L.add p) (upd H p (.lst [])) := by
    refine ⟨fun a o h _ _ => upd_grow n a o h, fun _ _ h => h, fun a h => ?_⟩
    rcases h with h | h
    · exact .inl (.inl h)
    · rcases List.mem_cons.mp (show a ∈ p :: L.x from h) with h | h
      · subst h; exact .inr (.inl n)
      · exact .inl (.inr h)
  refine ⟨⟨s.len, fun k a m h1 h2 => (s.at_ k a m h1 h2).ext0 (fun o => upd_grow n a o) x, s.nd, fun a h => ?_, s.tab.ext (upd_grow n)⟩, x⟩
  rcases List.mem_cons.mp (show a ∈ p :: L.x from h) with h | h
  · subst h
    exact ⟨fun z => s.cell_there (.inl z) n, [], upd_same⟩
  · obtain ⟨vs, e⟩ := (s.dis a h).2
    exact ⟨(s.dis a h).1, vs, upd_grow n a _ e⟩
theorem prv_put {acc acc' : List V} (s : St3 P H L μ) (hp : p ∈ L.x) (h : H p = some (.lst acc)) : St3 P (upd H p (.lst acc')) L μ ∧ Ext0 L H L (upd H p (.lst acc')) := by
  have x : Ext0 L H L (upd H p (.lst acc')) := by
    refine ⟨fun a o e _ n => ?_, fun _ _ h => h, fun a h => .inl h⟩
    have ne : a ≠ p := fun z => by subst z; exact n (.inr hp)
    rw [upd_ne ne]; exact e
  refine ⟨⟨s.len, fun k a m h1 h2 => (s.at_ k a m h1 h2).ext0 (fun o e => ?_) x, s.nd, fun a h' => ⟨(s.dis a h').1, by
    by_cases ea : a = p
    · subst ea; exact ⟨acc', upd_same⟩
    · rw [upd_ne ea]; exact (s.dis a h').2⟩, tabs_upd h s.tab⟩, x⟩
  have ne : a ≠ p := fun z => by subst z; exact (s.dis a hp).1 (List.mem_of_getElem? h1)
  rw [upd_ne ne]
  exact e
/-- private places are let go -/
theorem prv_drop {c x x1 : List Addr} (hx : ∀ a ∈ x, a ∈ x1) : Ext0 ⟨c, x1⟩ H ⟨c, x⟩ H := ⟨fun _ _ h _ _ => h, fun _ _ h => h, fun a h => .inl (h.elim .inl fun z => .inr (hx a z))⟩
theorem St3.drop {c x x1 : List Addr} (hx : ∀ a ∈ x, a ∈ x1) (s : St3 P H ⟨c, x1⟩ μ) : St3 P H ⟨c, x⟩ μ :=
  ⟨s.len, fun k a m h1 h2 => (s.at_ k a m h1 h2).ext0 (fun _ h => h) (prv_drop hx), s.nd, fun a h => s.dis a (hx a h), s.tab⟩
end
section
variable {P : Pm} {W : WX} {X : Cx} {elt tg iter : Expr} {ifs : List Expr} {scope : Scope} {own : List (Str × Nat)} {pos : Pos} {fi : SI} {sl : List Nat} {g : SG} {tt : ST} {te : SE}
/-- what stands when the list is made -/
structure LcEnd (P : Pm) (L1 : Lv) (H1 : Hp) (c : List Addr) (H2 : Hp) (p : Addr) (acc : List V) (ys : List D) (μ2 : Sto) : Prop where
  n : H1 p = none
  ne : p ∉ L1.x
  x : Ext0 L1 H1 ⟨c, p :: L1.x⟩ H2
  prv : ∀ a ∈ L1.x, H2 a = H1 a
  st : St3 P H2 ⟨c, p :: L1.x⟩ μ2
  hp : H2 p = some (.lst acc)
  r : Reps P H2 ⟨c, p :: L1.x⟩ acc ys
theorem Ext0.less {L1 : Lv} {H1 H2 : Hp} {c : List Addr} {p : Addr} (x : Ext0 L1 H1 ⟨c, p :: L1.x⟩ H2) : Ext0 L1 H1 ⟨c, L1.x⟩ H2 :=
  ⟨x.keep, x.pre, fun a h => x.new a (h.elim .inl fun z => .inr (List.mem_cons_of_mem _ z))⟩
theorem LcEnd.pure {P : Pm} {L1 : Lv} {H1 H2 : Hp} {c : List Addr} {p : Addr} {acc : List V} {ys : List D} {μ2 : Sto} (e : LcEnd P L1 H1 c H2 p acc ys μ2) :
    Ext P L1 H1 ⟨c, L1.x⟩ H2 ∧ St3 P H2 ⟨c, L1.x⟩ μ2 ∧ Rep P H2 ⟨c, L1.x⟩ (.ref p) (.lst ys) := by
  refine ⟨⟨e.x.less, rfl, e.prv⟩, e.st.drop fun a h => List.mem_cons_of_mem _ h, .lst e.hp (fun h => ?_) (e.r.ext0 (prv_drop fun a h => List.mem_cons_of_mem _ h))⟩
  rcases h with h | h
  · exact (e.st.dis p List.mem_cons_self).1 h
  · exact e.ne h
theorem LcEnd.cell {P : Pm} {L1 : Lv} {H1 H2 : Hp} {c : List Addr} {p : Addr} {acc : List V} {ys : List D} {μ2 : Sto} (e : LcEnd P L1 H1 c H2 p acc ys μ2) :
    Ext P L1 H1 ⟨c ++ [p], L1.x⟩ H2 ∧ St3 P H2 ⟨c ++ [p], L1.x⟩ (μ2 ++ [.lst ys]) ∧ Rep P H2 ⟨c ++ [p], L1.x⟩ (.ref p) (.cell μ2.length) := by
  have np : p ∉ c := (e.st.dis p List.mem_cons_self).1
  have x2 : Ext0 ⟨c, p :: L1.x⟩ H2 ⟨c ++ [p], L1.x⟩ H2 := by
    refine ⟨fun _ _ h _ _ => h, fun k a h => ?_, fun a h => ?_⟩
    · show (c ++ [p])[k]? = some a
      rw [List.getElem?_append_left (List.getElem?_eq_some_iff.mp h).1]; exact h
    · rcases h with h | h
      · rcases List.mem_append.mp (show a ∈ c ++ [p] from h) with h | h
        · exact .inl (.inl h)
        · rw [List.mem_singleton] at h; subst h; exact .inl (.inr List.mem_cons_self)
      · exact .inl (.inr (List.mem_cons_of_mem _ h))
  have sl : c.length = μ2.length := e.st.len
  refine ⟨⟨e.x.trans x2, rfl, e.prv⟩, ⟨by simp [sl], fun k a m h1 h2 => ?_, ?_, fun a h => ?_, e.st.tab⟩, .cell ?_⟩
  · have h1 : (c ++ [p])[k]? = some a := h1
    by_cases hk : k < c.length
    · rw [List.getElem?_append_left hk] at h1
      rw [List.getElem?_append_left (by rw [← sl]; exact hk)] at h2
      exact (e.st.at_ k a m h1 h2).ext0 (fun _ h => h) x2
    · rw [List.getElem?_append_right (by omega)] at h1
      rw [List.getElem?_append_right (by omega)] at h2
      have e1 : k - c.length = 0 := by
        have := (List.getElem?_eq_some_iff.mp h1).1
        simp at this
        omega
      have e2 : k - μ2.length = 0 := by omega
      rw [e1] at h1; rw [e2] at h2
      cases h1; cases h2
      exact .lst e.hp (e.r.ext0 x2)
  · exact List.nodup_append.mpr ⟨e.st.nd, by simp, fun a ha b hb => by
      rw [List.mem_singleton] at hb; subst hb
      exact fun z => np (z ▸ ha)⟩
  · have h : a ∈ L1.x := h
    have q := e.st.dis a (List.mem_cons_of_mem _ h)
    refine ⟨fun z => ?_, q.2⟩
    rcases List.mem_append.mp (show a ∈ c ++ [p] from z) with z | z
    · exact q.1 z
    · rw [List.mem_singleton] at z; subst z; exact e.ne h
  · show (c ++ [p])[μ2.length]? = some p
    rw [← sl]; simp
theorem lcS_nox {gd : Sto → Bool} {ρ : Env} {c : Str} {ns : List Str} {vs : List D} {μ' : Sto} : ∀ {ds : List D} {μ : Sto}, lcS gd g tt te ρ ds μ ≠ .exc c ns vs μ'
  | [], μ, h => by
    unfold lcS at h
    split at h <;> cases h
  | d :: ds, μ, h => by
    unfold lcS at h
    split at h
    · split at h
      · rename_i ρ1 _
        cases e1 : (tt ρ1 μ).nox with
        | exc _ _ _ _ => cases e0 : tt ρ1 μ <;> (rw [e0] at e1; cases e1)
        | bad => rw [e1] at h; cases h
        | ok b μ1 =>
          rw [e1] at h
          have h : (if b = true then (te ρ1 μ1).nox.bind fun y μ2 => (lcS gd g tt te ρ ds μ2).nox.bind fun ys μ3 => .ok (y :: ys) μ3 else lcS gd g tt te ρ ds μ1) = R.exc c ns vs μ' := h
          split at h
          · cases e2 : (te ρ1 μ1).nox with
            | exc _ _ _ _ => cases e0 : te ρ1 μ1 <;> (rw [e0] at e2; cases e2)
            | bad => rw [e2] at h; cases h
            | ok y μ2 =>
              rw [e2] at h
              have h : ((lcS gd g tt te ρ ds μ2).nox.bind fun ys μ3 => R.ok (y :: ys) μ3) = R.exc c ns vs μ' := h
              cases e3 : lcS gd g tt te ρ ds μ2 with
              | exc _ _ _ _ => rw [e3] at h; cases h
              | bad => rw [e3] at h; cases h
              | ok ys μ3 => rw [e3] at h; cases h
          · exact lcS_nox h
      · cases h
    · cases h
/-- the list is made, item by item; Q is asked of it at the end -/
theorem lc_turns {vs : List Nat} {σ : L2.St} {Q : VK} {L1 : Lv} {H1 : Hp} {ρ : Env} {μ1 : Sto} {k : List D → Sto → R D} {it : List D × (Sto → Bool)} {J : It} {p : Addr} (hsl : ∀ i ∈ sl, i ∈ vs) (rs1 : RelS P H1 L1 σ ρ) (s1 : St3 P H1 L1 μ1)
    (q1 : Post P (WE W σ) L1 H1 (fun d L' H' => ∀ v, Rep P H' L' v d → Q v H') (if it.1.length ≤ sizeLine then (lcS it.2 g tt te (wipeE ρ vs) it.1 μ1).nox.bind k else .bad))
    (fin : ∀ (L1 : Lv) (H1 : Hp) (c : List Addr) (H2 : Hp) (p : Addr) (acc : List V) (ys : List D) (μ2 : Sto), LcEnd P L1 H1 c H2 p acc ys μ2 → Post P (WE W σ) L1 H1 (fun d L' H' => ∀ v, Rep P H' L' v d → Q v H') (k ys μ2) → Q (.ref p) H2)
    (gv : Gives P J it.1 it.2 L1 H1) (hp : H1 p = none) :
    ∃ I : Nat → Nat → Hp → Prop, (∃ m, I 0 m (upd H1 p (.lst []))) ∧ ∀ i m H, I i m H →
      (J.stop i H ∧ Q (.ref p) H) ∨ (J.go i H ∧ ∃ Nx : Hp → Prop, (∀ H', Nx H' → ∃ m', m' < m ∧ I (i + 1) m' H') ∧ ∀ x H', J.yld i H x H' → tVG P sl g x (wipe σ vs) H' fun σ2 H2 => wipe σ2 vs = wipe σ vs ∧ tVT P W0 tt σ2 H2 fun b H3 =>
        if b = true then tV P W0 te σ2 H3 fun y H4 => ∃ acc, H4 p = some (.lst acc) ∧ acc.length < sizeLine ∧ Nx (upd H4 p (.lst (acc ++ [y]))) else Nx H3) := by
  by_cases hz : it.1.length ≤ sizeLine
  case neg => rw [if_neg hz] at q1; exact q1.elim
  rw [if_pos hz] at q1
  cases et : lcS it.2 g tt te (wipeE ρ vs) it.1 μ1 with
  | exc _ _ _ _ => exact absurd et lcS_nox
  | bad => rw [et] at q1; exact q1.elim
  | ok total μf =>
    rw [et] at q1
    have q1 : Post P (WE W σ) L1 H1 (fun d L' H' => ∀ v, Rep P H' L' v d → Q v H') (k total μf) := q1
    obtain ⟨s2, x2⟩ := prv_new s1 hp
    have np : p ∉ L1.x := fun z => s1.new_not hp (.inr z)
    refine ⟨fun i m H => ∃ (c : List Addr) (acc : List V) (accD ys : List D) (μ : Sto), RelS P H ⟨c, p :: L1.x⟩ (wipe σ vs) (wipeE ρ vs) ∧ St3 P H ⟨c, p :: L1.x⟩ μ ∧ H p = some (.lst acc) ∧ Reps P H ⟨c, p :: L1.x⟩ acc accD ∧
        Ext0 L1 H1 ⟨c, p :: L1.x⟩ H ∧ (∀ a ∈ L1.x, H a = H1 a) ∧ Gives P J it.1 it.2 ⟨c, p :: L1.x⟩ H ∧ accD.length ≤ i ∧ lcS it.2 g tt te (wipeE ρ vs) (it.1.drop i) μ = .ok ys μf ∧ accD ++ ys = total ∧ m = it.1.length - i,
      ⟨_, L1.c, [], [], total, μ1, rs1.ext0 x2 |>.wipe vs, s2, upd_same, .nil, x2, fun a h => upd_ne (fun z => by subst z; exact np h), gv.ext x2, Nat.zero_le _, et, rfl, rfl⟩, ?_⟩
    rintro i m H3 ⟨c, acc, accD, ys, μ3, rs3, s3, hp3, ra3, x3, pv3, gv3, hl3, el3, ea3, rfl⟩
    cases e2 : it.1[i]? with
    | none =>
      rw [drop_none e2] at el3
      unfold lcS at el3
      by_cases cg : it.2 μ3 = true
      · rw [if_pos cg] at el3
        cases el3
        rw [List.append_nil] at ea3
        subst ea3
        exact .inl ⟨(gv3 _ _ _ i .refl s3 cg).2 e2, fin L1 H1 c H3 p acc accD _ ⟨hp, np, x3, pv3, s3, hp3, ra3⟩ q1⟩
      · rw [if_neg cg] at el3; cases el3
    | some d =>
      rw [drop_some e2] at el3
      unfold lcS at el3
      by_cases cg : it.2 μ3 = true
      case neg => rw [if_neg cg] at el3; cases el3
      rw [if_pos cg] at el3
      obtain ⟨hgo, hy⟩ := (gv3 _ _ _ i .refl s3 cg).1 d e2
      have hlt : i < it.1.length := (List.getElem?_eq_some_iff.mp e2).1
      refine .inr ⟨hgo, fun H => ∃ (c : List Addr) (acc : List V) (accD ys : List D) (μ : Sto), RelS P H ⟨c, p :: L1.x⟩ (wipe σ vs) (wipeE ρ vs) ∧ St3 P H ⟨c, p :: L1.x⟩ μ ∧ H p = some (.lst acc) ∧ Reps P H ⟨c, p :: L1.x⟩ acc accD ∧
          Ext0 L1 H1 ⟨c, p :: L1.x⟩ H ∧ (∀ a ∈ L1.x, H a = H1 a) ∧ Gives P J it.1 it.2 ⟨c, p :: L1.x⟩ H ∧ accD.length ≤ i + 1 ∧ lcS it.2 g tt te (wipeE ρ vs) (it.1.drop (i + 1)) μ = .ok ys μf ∧ accD ++ ys = total,
        fun H' ⟨c, acc, accD, ys, μ, a1, a2, a3, a4, a5, a6, a7, a8, a9, a10⟩ => ⟨it.1.length - (i + 1), by omega, c, acc, accD, ys, μ, a1, a2, a3, a4, a5, a6, a7, a8, a9, a10, rfl⟩, fun x H4 y4 => ?_⟩
      obtain ⟨gr, rx⟩ := hy x H4 y4
      have x4 : Ext P ⟨c, p :: L1.x⟩ H3 ⟨c, p :: L1.x⟩ H4 := Ext.grow s3 gr
      cases e3 : g d (wipeE ρ vs) μ3 with
      | none => rw [e3] at el3; cases el3
      | some ρ5 =>
        rw [e3] at el3
        dsimp only at el3
        refine ⟨⟨c, p :: L1.x⟩, wipeE ρ vs, μ3, d, ρ5, rs3.ext x4, s3.grow gr, rx, e3, fun σ5 rs5 w5 => ⟨by rw [w5 vs hsl, wipe_wipe], ?_⟩⟩
        refine ⟨⟨c, p :: L1.x⟩, ρ5, μ3, rs5, s3.grow gr, ?_⟩
        cases e6 : tt ρ5 μ3 with
        | exc _ _ _ _ => rw [e6] at el3; cases el3
        | bad => rw [e6] at el3; cases el3
        | ok b μ6 =>
          rw [e6] at el3
          have el3 : (if b = true then (te ρ5 μ6).nox.bind fun y μ2 => (lcS it.2 g tt te (wipeE ρ vs) (it.1.drop (i + 1)) μ2).nox.bind fun ys μ3 => R.ok (y :: ys) μ3 else lcS it.2 g tt te (wipeE ρ vs) (it.1.drop (i + 1)) μ6) = .ok ys μf := el3
          intro L6 H6 x6 s6
          obtain ⟨c6, xx6⟩ := L6
          have ex : xx6 = p :: L1.x := x6.px
          subst ex
          have x36 : Ext P ⟨c, p :: L1.x⟩ H3 ⟨c6, p :: L1.x⟩ H6 := x4.trans x6
          have hp6 : H6 p = some (.lst acc) := (x36.prv p List.mem_cons_self).trans hp3
          have pv6 : ∀ a ∈ L1.x, H6 a = H1 a := fun a h => (x36.prv a (List.mem_cons_of_mem _ h)).trans (pv3 a h)
          cases b with
          | false =>
            rw [if_neg Bool.false_ne_true] at el3 ⊢
            exact ⟨c6, acc, accD, ys, μ6, rs3.ext x36, s6, hp6, ra3.ext x36, x3.trans x36.toExt0, pv6, gv3.ext x36.toExt0, Nat.le_succ_of_le hl3, el3, ea3⟩
          | true =>
            rw [if_pos rfl] at el3 ⊢
            refine ⟨⟨c6, p :: L1.x⟩, ρ5, μ6, rs5.ext x6, s6, ?_⟩
            cases e7 : te ρ5 μ6 with
            | exc _ _ _ _ => rw [e7] at el3; cases el3
            | bad => rw [e7] at el3; cases el3
            | ok yd μ7 =>
              rw [e7] at el3
              have el3 : ((lcS it.2 g tt te (wipeE ρ vs) (it.1.drop (i + 1)) μ7).nox.bind fun ys μ3 => R.ok (yd :: ys) μ3) = .ok ys μf := el3
              cases e8 : lcS it.2 g tt te (wipeE ρ vs) (it.1.drop (i + 1)) μ7 with
              | exc _ _ _ _ => rw [e8] at el3; cases el3
              | bad => rw [e8] at el3; cases el3
              | ok zs μ8 =>
                rw [e8] at el3
                cases el3
                intro L7 H7 x7 s7 v rv
                obtain ⟨c7, xx7⟩ := L7
                have ex : xx7 = p :: L1.x := x7.px
                subst ex
                have x37 : Ext P ⟨c, p :: L1.x⟩ H3 ⟨c7, p :: L1.x⟩ H7 := x36.trans x7
                have hp7 : H7 p = some (.lst acc) := (x7.prv p List.mem_cons_self).trans hp6
                have hlen : acc.length = accD.length := ra3.length
                obtain ⟨s9, x9⟩ := prv_put (acc' := acc ++ [v]) s7 (p := p) List.mem_cons_self hp7
                refine ⟨acc, hp7, by omega, c7, acc ++ [v], accD ++ [yd], zs, μ7, (rs3.ext x37).ext0 x9, s9, upd_same, ((ra3.ext x37).append (.cons rv .nil)).ext0 x9, (x3.trans x37.toExt0).trans x9, fun a h => ?_, (gv3.ext x37.toExt0).ext x9, ?_, e8, ?_⟩
                · have ne : a ≠ p := fun z => by subst z; exact np h
                  rw [upd_ne ne]
                  exact (x37.prv a (List.mem_cons_of_mem _ h)).trans (pv3 a h)
                · rw [List.length_append]; simp; exact hl3
                · rw [List.append_assoc]; exact ea3
theorem tLc_of {vs : List Nat} {σ : L2.St} {H : Hp} {Q : VK} {L : Lv} {ρ : Env} {μ : Sto} {k : List D → Sto → R D} (hsl : ∀ i ∈ sl, i ∈ vs) (rs : RelS P H L σ ρ) (st : St3 P H L μ)
    (q : Post P (WE W σ) L H (fun d L' H' => ∀ v, Rep P H' L' v d → Q v H') ((fi ρ μ).bind fun it μ1 => if it.1.length ≤ sizeLine then (lcS it.2 g tt te (wipeE ρ vs) it.1 μ1).nox.bind k else .bad))
    (fin : ∀ (L1 : Lv) (H1 : Hp) (c : List Addr) (H2 : Hp) (p : Addr) (acc : List V) (ys : List D) (μ2 : Sto), LcEnd P L1 H1 c H2 p acc ys μ2 → Post P (WE W σ) L1 H1 (fun d L' H' => ∀ v, Rep P H' L' v d → Q v H') (k ys μ2) → Q (.ref p) H2) :
    tLc (tVI P W fi) (tVG P sl g) (tVT P W0 tt) (tV P W0 te) vs σ H Q := by
  refine ⟨L, ρ, μ, rs, st, ?_⟩
  cases e : fi ρ μ with
  | exc c ns vs μ1 => rw [e] at q; exact q
  | bad => rw [e] at q; exact q
  | ok it μ1 =>
    rw [e] at q
    intro L1 H1 x1 s1 J gv p hp
    have q1 := Post.ext x1 q
    have q1 : Post P (WE W σ) L1 H1 (fun d L' H' => ∀ v, Rep P H' L' v d → Q v H') (if it.1.length ≤ sizeLine then (lcS it.2 g tt te (wipeE ρ vs) it.1 μ1).nox.bind k else .bad) := q1
    exact lc_turns hsl (rs.ext x1) s1 q1 fin gv hp
theorem ve_lc (hc : X.calm = true) (hN : X.N.Nodup) (hi : VI P W X tg iter fi) (ok : BlkOk X.N X.env.scope scope own)
    (hg : ∀ (s : Shared) (H : Hp) (C : Addr) (cl : List (Str × Addr)) (fp : List Addr), VG P (X.blk s H scope (compEnvC scope cl C X.env) fp) tg sl g)
    (ht : ∀ (s : Shared) (H : Hp) (C : Addr) (cl : List (Str × Addr)) (fp : List Addr), PTs (X.blk s H scope (compEnvC scope cl C X.env) fp) ifs (tVT P W0 tt))
    (he : ∀ (s : Shared) (H : Hp) (C : Addr) (cl : List (Str × Addr)) (fp : List Addr), VE P W0 (X.blk s H scope (compEnvC scope cl C X.env) fp) elt te) (hsl : ∀ i ∈ sl, i ∈ own.map (·.2) := by decide) (hs : ∀ x, foldedSetIterable iter X.env x = pure x := by intro _; rfl) :
    VE P W X (.ListComp elt [⟨tg, iter, ifs, 0⟩] scope pos) (eLc (own.map (·.2)) fi g tt te) :=
  (pe_lc hc hN hi ok hg ht he hs).imp3 fun σ H Q ⟨L, ρ, μ, rs, st, q⟩ => tLc_of hsl rs st q fun L1 H1 c H2 p acc ys μ2 e q2 =>
    let ⟨a1, a2, a3⟩ := e.pure; q2 _ _ a1 a2 _ a3
theorem ve_lcC (hc : X.calm = true) (hN : X.N.Nodup) (hi : VI P W X tg iter fi) (ok : BlkOk X.N X.env.scope scope own)
    (hg : ∀ (s : Shared) (H : Hp) (C : Addr) (cl : List (Str × Addr)) (fp : List Addr), VG P (X.blk s H scope (compEnvC scope cl C X.env) fp) tg sl g)
    (ht : ∀ (s : Shared) (H : Hp) (C : Addr) (cl : List (Str × Addr)) (fp : List Addr), PTs (X.blk s H scope (compEnvC scope cl C X.env) fp) ifs (tVT P W0 tt))
    (he : ∀ (s : Shared) (H : Hp) (C : Addr) (cl : List (Str × Addr)) (fp : List Addr), VE P W0 (X.blk s H scope (compEnvC scope cl C X.env) fp) elt te) (hsl : ∀ i ∈ sl, i ∈ own.map (·.2) := by decide) (hs : ∀ x, foldedSetIterable iter X.env x = pure x := by intro _; rfl) :
    VE P W X (.ListComp elt [⟨tg, iter, ifs, 0⟩] scope pos) (eLcC (own.map (·.2)) fi g tt te) :=
  (pe_lc hc hN hi ok hg ht he hs).imp3 fun σ H Q ⟨L, ρ, μ, rs, st, q⟩ => tLc_of hsl rs st q fun L1 H1 c H2 p acc ys μ2 e q2 =>
    let ⟨a1, a2, a3⟩ := e.cell; q2 _ _ a1 a2 _ a3
theorem vs_setLc {i : Nat} {y : Str} {py spos : Pos} (hc : X.calm = true) (hN : X.N.Nodup) (hy : X.N[i]? = some y) (hyl : X.env.scope.names.lookup y = some .local)
    (hsw : swapsWith (.ListComp elt [⟨tg, iter, ifs, 0⟩] scope pos) (some (.Name y py)) spos.line X.env = pure true) (hi : VI P W X tg iter fi) (ok : BlkOk X.N X.env.scope scope own)
    (hg : ∀ (s : Shared) (H : Hp) (C : Addr) (cl : List (Str × Addr)) (fp : List Addr), VG P (X.blk s H scope (compEnvC scope cl C X.env) fp) tg sl g)
    (ht : ∀ (s : Shared) (H : Hp) (C : Addr) (cl : List (Str × Addr)) (fp : List Addr), PTs (X.blk s H scope (compEnvC scope cl C X.env) fp) ifs (tVT P W0 tt))
    (he : ∀ (s : Shared) (H : Hp) (C : Addr) (cl : List (Str × Addr)) (fp : List Addr), VE P W0 (X.blk s H scope (compEnvC scope cl C X.env) fp) elt te) (hsl : ∀ i ∈ sl, i ∈ own.map (·.2) := by decide) (hs : ∀ x, foldedSetIterable iter X.env x = pure x := by intro _; rfl) :
    VS P W X (.Assign [.Name y py] (.ListComp elt [⟨tg, iter, ifs, 0⟩] scope pos) spos) (sSet i (eLc (own.map (·.2)) fi g tt te)) :=
  (ps_setLc hc hN hy hyl hsw hi ok hg ht he hs).imp3 fun D σ H ⟨L, ρ, μ, rs, st, q⟩ => by
    refine tLc_of (k := fun ys μ2 => .ok (.lst ys) μ2) (Q := fun x H1 => gName i x σ H1 D.nx) hsl rs st ?_ fun L1 H1 c H2 p acc ys μ2 e q2 => ?_
    · have q : PostS P W D L H ((eLc (own.map (·.2)) fi g tt te ρ μ).thn ρ fun d μ1 => .nx (ρ.set i (some d)) μ1) := q
      cases e : eLc (own.map (·.2)) fi g tt te ρ μ with
      | bad => rw [e] at q; exact q.elim
      | exc c ns vs μ1 =>
        rw [e] at q
        show Post P (WE W σ) L H _ (eLc (own.map (·.2)) fi g tt te ρ μ)
        rw [e]
        exact fun C dx L' H' hc x s f => q σ C dx L' H' hc x s (rs.ext x) f
      | ok d μ1 =>
        rw [e] at q
        show Post P (WE W σ) L H _ (eLc (own.map (·.2)) fi g tt te ρ μ)
        rw [e]
        exact fun L' H' x s v rv => q _ L' H' x s ((rs.ext x).set rv)
    · obtain ⟨a1, a2, a3⟩ := e.pure
      exact q2 _ _ a1 a2 _ a3
def tYesS : ST := fun _ μ => .ok true μ
theorem vts_nil {X : Cx} : PTs X [] (tVT P W0 tYesS) := ⟨fun pins s σ H Q I ⟨L, ρ, μ, rs, st, q⟩ => pts_nil.run pins s σ H Q I (q L H .refl st)⟩
end
end L3

namespace L3
open PySem PySem.Spec PyProof.Rows L2
/-! ### a def by its body -/
def fnF (n : Nat) (fs : SS) : List D → Sto → R D := fun ds μ => match fs (ds.map some ++ List.replicate (n - ds.length) none) μ with
  | .nx _ μ' => .ok .non μ'
  | .rt d μ' => .ok d μ'
  | .exc c ns vs _ μ' => .exc c ns vs μ'
  | _ => .bad
theorem start_rel {P : Pm} {H : Hp} {L : Lv} {N : List Str} {vs : List V} {ds : List D} (r : Reps P H L vs ds) : RelS P H L (L2.start N vs) (ds.map some ++ List.replicate (N.length - ds.length) none) := by
  have hl := r.length
  refine ⟨by simp [L2.start, hl], fun i d h => ?_⟩
  by_cases hi : i < ds.length
  · rw [List.getElem?_append_left (by simpa using hi), List.getElem?_map] at h
    cases e : ds[i]? with
    | none => rw [e] at h; cases h
    | some d' =>
      rw [e] at h
      cases h
      obtain ⟨v, h1, h2⟩ := r.get e
      refine ⟨v, ?_, h2⟩
      unfold L2.start
      rw [List.getElem?_append_left (by rw [List.length_map, hl]; exact hi), List.getElem?_map, h1]
      rfl
  · rw [List.getElem?_append_right (by simpa using hi), List.getElem?_replicate] at h
    split at h <;> cases h
section
variable {P : Pm} {Pr : Program} {w : World} {mg : Str → Option Value} {base : Heap} {x qual : Str} {params : Arguments} {body : List Stmt} {scope : Scope} {dvs : List V} {kws : List (Str × V)} {f : Addr} {fd : FuncData} {N ps : List Str} {k n : Nat}
theorem fn_ok {fs : SS} (F : FunD P.K x qual params body scope dvs kws f fd) (S : FnScope N ps scope) (hn : ps.length = n)
    (hb : ∀ (cdv : Value) (A : Around) (outer : List _root_.PySem.Env) (s : Shared) (H : Hp) (E : XK), Room k (A.deeper (envOfC qual scope s.heap.objs.size f cdv)) →
      VSs P (fun cls d _ H => E cls d H) (cxOf (L2.CX Pr w) Pr w P.K mg base N qual scope f cdv A outer s H E) body fs) :
    FnOk Pr w P.K mg base (L2.CX Pr w) (k + 1) f fd ps (spF P n (fnF N.length fs)) := by
  refine F.ok S (fun vs H Q E h => by rw [hn]; exact h.1) fun cdv A outer s H vs Q E hr h => ?_
  obtain ⟨_, L, ds, μ, r, st, q⟩ := h
  refine ⟨_, hb cdv A outer s H E hr, L, _, μ, start_rel r, st, ?_⟩
  unfold fnF at q
  cases e : fs (ds.map some ++ List.replicate (N.length - ds.length) none) μ with
  | nx ρ μ' => rw [e] at q; exact fun σ' L' H' x s' rs' => q L' H' x s' _ .non
  | rt d μ' => rw [e] at q; exact fun v L' H' x s' r' => q L' H' x s' v r'
  | bk ρ μ' => rw [e] at q; exact q.elim
  | ct ρ μ' => rw [e] at q; exact q.elim
  | exc c ns vs ρ μ' => rw [e] at q; exact fun σ' C dx L' H' hc x s' rs' f => q C dx L' H' hc x s' f
  | bad => rw [e] at q; exact q.elim
end
theorem fn_bad {P : Pm} {Pr : Program} {w : World} {mg : Str → Option Value} {base : Heap} {CX : CXT} {f : Addr} {fd : FuncData} {ps : List Str} {k n : Nat} (hn : ps.length = n) : FnOk Pr w P.K mg base CX k f fd ps (spF P n fun _ _ => .bad) :=
  ⟨fun vs H Q E h => by rw [hn]; exact h.1, fun A outer s H args us vs Q E hr e0 hb hv h => by
    obtain ⟨_, L, ds, μ, r, st, q⟩ := h
    exact q.elim⟩
/-! ### raising -/
/-- what an exception class's __init__ leaves: the fields ns with the values mk of the arguments -/
def spXI (K : PySem.W.Frag) (n : Nat) (ns : List Str) (mk : List V → List V) : Sp := fun vs H Q _ => ∃ (a C : Addr) (args : List V), vs = .ref a :: args ∧ args.length = n ∧ OexC K C ∧ (∀ f ∈ ns, PySem.W.findIn K (.ref C) f = some none) ∧ H a = some (exo a C none) ∧
  ∀ (dx : Addr) (H' : Hp), H dx = none → dx ≠ a → H' a = some (exo a C (some dx)) → H' dx = some (exd dx (ns.zip (mk args))) → (∀ b, b ≠ a → b ≠ dx → H' b = H b) → Q .non H'
/-- how an exception's fields come of its arguments -/
structure XMk (n : Nat) (ns : List Str) (mkV : List V → List V) (mkD : List D → List D) : Prop where
  len : ∀ vs : List V, vs.length = n → (mkV vs).length = ns.length
  rel : ∀ (P : Pm) (H : Hp) (L : Lv) (vs : List V) (ds : List D), Reps P H L vs ds → ds.length = n → Reps P H L (mkV vs) (mkD ds)
def sRaise (c : Str) (n : Nat) (ns : List Str) (mk : List D → List D) (fa : SA) : SS := fun ρ μ => (fa ρ μ).thn ρ fun ds μ1 => if ds.length = n then .exc c ns (mk ds) ρ μ1 else .bad
section
variable {P : Pm} {W : WX} {X : Cx} {CXc : CXT} {x c : Str} {C fI : Addr} {k n : Nat} {fd : FuncData} {ps : List Str} {ns : List Str} {mkV : List V → List V} {mkD : List D → List D} {pos p ppos : Pos} {e : Expr} {es : List Expr} {fa : SA}
theorem tMk_of {D : Ends} {σ : L2.St} {H : Hp} (M : XMk n ns mkV mkD) (T : OexC X.K C) (hf : ∀ f ∈ ns, PySem.W.findIn X.K (.ref C) f = some none) (hcls : P.cls c = some C) (hn : n ≤ 1000) (h : tS P W (sRaise c n ns mkD fa) D σ H) :
    tMkO C (spXI X.K n ns mkV) [] (tVA P W fa) σ H (fun cls d H' => W cls d σ H') := by
  obtain ⟨L, ρ, μ, rs, st, q⟩ := h
  refine tVA.firstS rs st q fun ds μ1 vs L1 H1 x1 s1 r1 rs1 q1 => ?_
  by_cases cl : ds.length = n
  case neg => rw [if_neg cl] at q1; exact q1.elim
  rw [if_pos cl] at q1
  have hl : vs.length = n := r1.length.trans cl
  refine ⟨by omega, fun a na => ⟨a, C, vs, by rw [List.append_nil], hl, T, hf, upd_same, fun dx H' nd ne e1 e2 e3 => ⟨rfl, dx, _, e1, e2, ?_, ?_⟩⟩⟩
  · rw [upd_ne ne] at nd; exact nd
  · have nd1 : H1 dx = none := by rw [upd_ne ne] at nd; exact nd
    have gr : ∀ b o, H1 b = some o → (upd (L2.del H' a) dx (.xd (ns.zip (mkV vs)))) b = some o := fun b o e => by
      have h1 : b ≠ dx := ne_of_none e nd1
      have h2 : b ≠ a := ne_of_none e na
      rw [upd_ne h1, del_ne h2, e3 b h2 h1, upd_ne h2]
      exact e
    have x2 : Ext P L1 H1 L1 _ := Ext.grow s1 gr
    exact q1 σ C dx L1 _ hcls x2 (s1.grow gr) (rs1.ext x2) ⟨mkV vs, upd_same, (M.len vs hl).symm, (M.rel P _ _ _ _ (r1.ext x2) cl)⟩
/-- the class's call by values: what it makes may be raised -/
theorem oex_called {sp : Sp} {pins : List (Addr × Obj)} {σ : L2.St} {H : Hp} {s : Shared} {Q : XK} {us : List Value} {vs : List V} (T : OexC X.K C) (iC : PySem.W.findIn X.K (.ref C) "__init__" = some (some (.ref fI))) (tI : PySem.W.typeIn X.K (.ref fI) = some (.type "function"))
    (F1 : FnOk X.prog X.w X.K X.mg X.base CXc k fI fd ps sp) (room : Room (k + 1) X.A) (hb : Binds X.K fd ps []) (hx : Passes CXc X (fun _ _ _ => False)) (I : Inv X pins σ H s) (rv : Vals vs us) (few : vs.length ≤ 1000)
    (ask : ∀ a, H a = none → sp (.ref a :: vs) (upd H a (exo a C none)) (fun v H2 => v = .non ∧ ∃ (d : Addr) (fs : List (Str × V)), H2 a = some (exo a C (some d)) ∧ H2 d = some (exd d fs) ∧ H d = none ∧ Q (.ref C) (some d) (upd (L2.del H2 a) d (.xd fs))) (fun _ _ _ => False)) :
    wpAny (model X.prog X.w) X.A (call (.ref C) us) (MkP X pins σ Q) X.xe s := by
  have room2 := room
  rcases T.cls with ⟨_, _, _, _, bm, _, _, _, _, _, _, _, _, _, _, atC, tail⟩
  cases s with
  | mk hp gs dr tk os =>
    let ar : Heap := hp.push (PySem.W.kdv_tup us)
    let ex : Heap := ar.push (PySem.HandSPX.excO C hp.objs.size)
    have grows : ∀ q u, hp.get? q = some u → ex.get? q = some u := fun q u e => Heap.get?_push_of_some _ (Heap.get?_push_of_some _ e)
    have place : ex.get? (hp.objs.size + 1) = some (PySem.HandSPX.excO C hp.objs.size) := by
      show ((hp.push (PySem.W.kdv_tup us)).push (PySem.HandSPX.excO C hp.objs.size)).get? (hp.objs.size + 1) = _
      heap_get
    have free : H (hp.objs.size + 1) = none := I.hok.fresh (Nat.le_succ _)
    have laid : Inv X pins σ (upd H (hp.objs.size + 1) (exo (hp.objs.size + 1) C none)) ⟨ex, gs, dr, tk, os⟩ := I.laid (t' := tk) grows (Nat.le_succ _) (exo_ok place)
    have few2 : us.length ≤ sizeLine := by
      have := rv.length
      rw [sizeLine_eq]; omega
    have asked := ask _ free
    have same : (.ref (hp.objs.size + 1) :: us : List Value).length = ps.length := by
      rw [← F1.len _ _ _ _ asked]
      simp [rv.length]
    have bound := hb ⟨ex, gs, dr, tk, os⟩ (.ref (hp.objs.size + 1) :: us) laid.kIn (by rw [List.append_nil]; exact same)
    rw [List.append_nil] at bound
    have body := F1.run _ X.stack _ _ ⟨.ref (hp.objs.size + 1) :: us, []⟩ _ _ _ (fun _ _ _ => False) (room2.make C us []) (laid.env0.make C us []) bound (.cons (show RelV (V.ref (hp.objs.size + 1)) _ from rfl) rv) asked
    refine wpAny_call (PySem.HandSPX.call_own F.excBase_ValueError (fun Y => PySem.HandSPX.refsVE_contains Y bm tail) (I.kIn _ _ atC) (PySem.W.looks_findIn I.kIn iC) (fun self => PySem.W.bind_fn I.kIn self tI) few2 (codeAny_mono body fun out s2 got => ?_))
    match out, got with
    | .error er, got => exact hx pins σ _ _ er s2 laid got
    | .ok .next, got => exact got.elim
    | .ok .brk, got => exact got.elim
    | .ok .cont, got => exact got.elim
    | .ok (.ret u), ⟨_, H2, sameOs, bare, un, hok, ru, isNone, d, fs, atE, atD, freeD, q⟩ =>
      subst isNone
      cases s2
      exact ⟨ru, mk_end (raises_own T.exC T.tyC) I (Nat.le_succ _) grows un hok sameOs bare atE atD freeD q⟩
theorem pmk_oex0 {sp : Sp} (T : OexC X.K C) (iC : PySem.W.findIn X.K (.ref C) "__init__" = some (some (.ref fI))) (tI : PySem.W.typeIn X.K (.ref fI) = some (.type "function"))
    (F1 : FnOk X.prog X.w X.K X.mg X.base CXc k fI fd ps sp) (room : Room (k + 1) X.A) (hb : Binds X.K fd ps []) (hx : Passes CXc X (fun _ _ _ => False)) (hg : Gl X x) (hm : X.mg x = some (.ref C)) (notDebug : (x == ("__debug__" : Str)) = false := by decide) :
    PMk X (.Call (.Name x p) [] [] pos) (tMkO C sp [] tNil) := fun pins s σ H Q I asks =>
  wpAny_Call_Name_kw (ld_glob I hg hm (PySem.W.callWith_K0 I.kIn T.kC (oex_called T iC tI F1 room hb hx I .nil (Nat.zero_le _) fun a free => asks.2 a free)) notDebug)
theorem vs_raise0 (hcalm : X.calm = true) (tk : Takes X W) (T : OexC X.K C) (iC : PySem.W.findIn X.K (.ref C) "__init__" = some (some (.ref fI))) (tI : PySem.W.typeIn X.K (.ref fI) = some (.type "function"))
    (F1 : FnOk X.prog X.w X.K X.mg X.base CXc k fI fd ps (spXI X.K 0 ns mkV)) (hr : Room (k + 1) X.A) (hb : Binds X.K fd ps []) (hx : Passes CXc X (fun _ _ _ => False)) (hg : Gl X x) (hm : X.mg x = some (.ref C)) (M : XMk 0 ns mkV mkD)
    (hf : ∀ f ∈ ns, PySem.W.findIn X.K (.ref C) f = some none) (hcls : P.cls c = some C) (hdb : (x == ("__debug__" : Str)) = false := by decide) :
    VS P W X (.Raise (some (.Call (.Name x p) [] [] pos)) none ppos) (sRaise c 0 ns mkD aNil) :=
  (ps_raise hcalm tk (pmk_oex0 T iC tI F1 hr hb hx hg hm hdb)).imp3 fun D σ H h => by
    have z := tMk_of M T hf hcls (Nat.zero_le _) h
    obtain ⟨L, ρ, μ, rs, st, q⟩ := z
    exact q L H .refl st [] .nil
end
/-! ### the __init__ of an exception class: self.word = .., self.f = f -/
section
variable {P : Pm} {Pr : Program} {w : World} {K : PySem.W.Frag} {mg : Str → Option Value} {base : Heap} {qual : Str} {params : Arguments} {body : List Stmt} {scope : Scope} {f : Addr} {fd : FuncData} {CXc : CXT}
theorem xinit0 {wd fw : Str} {p1 p2 p3 p4 : Pos} {k0 : Nat} (F : FunD K "__init__" qual params body scope [] [] f fd) (S : FnScope ["self"] ["self"] scope) (hb : body = [.Assign [.Attribute (.Name "self" p1) fw p2] (.Constant (.str wd) k0 p3) p4]) :
    FnOk Pr w K mg base CXc 1 f fd ["self"] (spXI K 0 [fw] fun _ => [.str wd]) := by
  subst hb
  refine F.ok S (fun vs H Q E ⟨a, C, args, e, hl, _⟩ => by rw [e]; simp [hl]) fun cdv A outer s H vs Q E hr h => ?_
  obtain ⟨a, C, args, rfl, hl, T, hf, ha, q⟩ := h
  have e0 : args = [] := List.length_eq_zero_iff.mp hl
  subst e0
  have v0 : Vis scope "self" := by rcases S.par "self" (by simp) with z | z; exact .inl z; exact .inr (.inl z)
  refine ⟨_, pss_one (ps_ost (pe_var (i := 0) rfl v0) pe_str), ?_⟩
  refine ⟨_, rfl, a, C, rfl, T, hf fw (by simp), .inl ⟨ha, fun dx n ne => q dx _ n ne upd_same ?_ ?_⟩⟩
  · rw [upd_ne ne, upd_same]; rfl
  · intro b h1 h2
    rw [upd_ne h1, upd_ne h2]
end
theorem xmk0 {fw wd : Str} : XMk 0 [fw] (fun _ => [.str wd]) (fun _ => [.str wd]) := ⟨fun _ _ => rfl, fun P H L vs ds r h => .cons (.str _) .nil⟩
/-- what a class must be so that its instances can be raised: checked of the written part -/
def oexC1 (C : Addr) (oc : Value) (dt : Data) (sl : List (Option Value)) : Bool := match oc, dt, sl with
  | .type t, .cls cd, [_, _, _, _, some (.builtin n), _] => (match cd.mro with
    | .ref C' :: bm => decide (t = "type") && (decide (C' = C) && (decide (n = "ValueError.__new__") && (cd.hasDict && (!cd.hasDel && PySem.HandSPX.refsVE bm))))
    | _ => false)
  | _, _, _ => false
theorem oexC1_ok {C : Addr} {oc : Value} {dt : Data} {sl : List (Option Value)} (h : oexC1 C oc dt sl = true) : ∃ (cd : ClassData) (bm : List Value) (s0 s1 s2 s3 s5 : Option Value),
    oc = .type "type" ∧ dt = .cls cd ∧ sl = [s0, s1, s2, s3, some (.builtin "ValueError.__new__"), s5] ∧ cd.mro = .ref C :: bm ∧ cd.hasDict = true ∧ cd.hasDel = false ∧ PySem.HandSPX.refsVE bm = true := by
  unfold oexC1 at h
  split at h
  · rename_i t cd s0 s1 s2 s3 n s5
    split at h
    · rename_i C' bm hm
      simp only [Bool.and_eq_true, decide_eq_true_eq, Bool.not_eq_true'] at h
      obtain ⟨g0, g1, g2, g3, g4, g5⟩ := h
      subst g0 g1 g2
      exact ⟨cd, bm, s0, s1, s2, s3, s5, rfl, rfl, rfl, hm, g3, g4, g5⟩
    · cases h
  · cases h
def oexB (K : PySem.W.Frag) (C : Addr) : Bool := (match K.lookup C with
  | some o => oexC1 C o.cls o.data o.slots.toList
  | none => false) && (decide (PySem.W.findIn K (.ref C) "__setattr__" = some (some (.builtin "object.__setattr__"))) && (decide (PySem.W.subIn K (.ref C) (.type "BaseException") = some true) && (decide (PySem.W.typeIn K (.ref C) = some (.type "type")) && PySem.W.keepIn K (.ref C))))
theorem oexB_ok {K : PySem.W.Frag} {C : Addr} (h : oexB K C = true) : OexC K C := by
  obtain ⟨h1, h⟩ := Bool.and_eq_true_iff.mp h
  obtain ⟨h2, h⟩ := Bool.and_eq_true_iff.mp h
  obtain ⟨h3, h⟩ := Bool.and_eq_true_iff.mp h
  obtain ⟨h4, h5⟩ := Bool.and_eq_true_iff.mp h
  refine ⟨?_, of_decide_eq_true h2, of_decide_eq_true h3, of_decide_eq_true h4, h5⟩
  cases q : K.lookup C with
  | none => rw [q] at h1; cases h1
  | some o =>
    rw [q] at h1
    obtain ⟨cd, bm, s0, s1, s2, s3, s5, e1, e2, e3, e4, e5, e6, e7⟩ := oexC1_ok h1
    obtain ⟨oc, od, dt, sl⟩ := o
    have e1 : oc = _ := e1
    have e2 : dt = _ := e2
    have e3 : sl.toList = _ := e3
    obtain ⟨c1, c2, c3, c4, c5, c6, c7, c8, c9, c10, c11⟩ := cd
    have e4 : c3 = .ref C :: bm := e4
    have e5 : c6 = true := e5
    have e6 : c11 = false := e6
    have es : sl = #[s0, s1, s2, s3, some (.builtin "ValueError.__new__"), s5] := by
      apply Array.ext'
      simpa using e3
    subst e1 e2 e4 e5 e6 es
    exact ⟨_, _, _, _, _, _, _, _, _, _, _, _, _, _, _, rfl, e7⟩
end L3

namespace L3
open PySem PySem.Spec PyProof.Rows L2
/-! ### several except clauses, each as a name -/
/-- behind a suite the name in slot i is gone -/
def Ends.gone (D : Ends) (i : Nat) : Ends := { nx := fun σ H => D.nx (σ.set i none) H, rt := D.rt, bk := fun σ H => D.bk (σ.set i none) H, ct := fun σ H => D.ct (σ.set i none) H }
abbrev Suite := Addr → Value → Option Addr → TS
def wManyA (K : PySem.W.Frag) (i : Nat) (Wout : WX) (D : Ends) : List (Value × Suite) → WX
  | [] => Wout
  | (c, ts) :: r => fun cls d σ H => ∃ b, PySem.W.exmOne K cls c = some b ∧ (b = true → ∀ a, H a = none → ts a cls d (Ends.gone D i) (σ.set i (some (.ref a))) H) ∧ (b = false → wManyA K i Wout D r cls d σ H)
inductive HdsA (X : Cx) (n : Str) : List ExceptHandler → List (Value × Suite) → Prop
  | nil : HdsA X n [] []
  | cons {x : Str} {c : Value} {ts : Suite} {st : Stmt} {sts : List Stmt} {p1 p2 : Pos} {hds : List ExceptHandler} {l : List (Value × Suite)} (nm : Names X x c)
      (su : ∀ (a : Addr) (oe : Obj) (cls : Value) (d : Option Addr) (pn : List (Addr × Obj)), Zc cls d oe → (∃ vs, oe.data = .fields vs) → PSs (X.suite a ((a, oe) :: pn)) (st :: sts) (ts a cls d)) (more : HdsA X n hds l) :
      HdsA X n (.ExceptHandler (some (.Name x p1)) (some n) (st :: sts) p2 :: hds) ((c, ts) :: l)
/-- an exception that the frame of X has met: the object is a, noted over the ground B; without it the state is good -/
structure Met (X : Cx) (pins : List (Addr × Obj)) (σ : L2.St) (H : Hp) (a : Addr) (B : Heap) (cls : Value) (d : Option Addr) (s : Shared) : Prop where
  fly : HandSPX.FlyingZ B (X.env :: X.outer) a (Zc cls d) s.heap
  inv : Inv X pins σ H s
  free : H a = none
  notL : a ≠ X.env.locals
  notF : a ∉ X.fs
  /-- whatever state is reached from here by the frames' slots alone is good, too -/
  again : ∀ h, HandSPX.FlyingZ B (X.env :: X.outer) a (Zc cls d) h → s.heap.UpToSlots h → Inv X pins σ H { s with heap := h }
  /-- and if it is let go on, it is in the air of X -/
  air : ∀ h (W : WX), X.stack = X.env :: X.outer → HandSPX.HeldZ B (X.env :: X.outer) a (Zc cls d) X.env.locals h → s.heap.UpToSlots h → W cls d σ H → XE X W (.ref a) { s with heap := h }
section
variable {X : Cx} {n : Str} {i : Nat} {pins : List (Addr × Obj)} {Wout : WX} {D : Ends} {σ : L2.St} {H : Hp} {a : Addr} {B : Heap} {cls : Value} {d : Option Addr} {s : Shared}
/-- the name of the clause's class, looked up where the exception is handled -/
theorem clause_name {x : Str} {c : Value} {p1 : Pos} {oe : Obj} {pn : List (Addr × Obj)} {E : Value → Shared → Prop} {Q : Value → Shared → Prop} (nm : Names X x c) (S : Inv (X.suite a ((a, oe) :: pn)) [] σ H s) (q : Q c s) :
    wpAny (model X.prog X.w) (X.A.mark (some (.ref a))) (eval (.Name x p1) X.env) Q E s := by
  rcases nm with ⟨gl, nd, inMod | ⟨notMod, blt, nn⟩⟩
  · exact ld_glob (X := X.suite a ((a, oe) :: pn)) S gl inMod q nd
  · exact ld_blt (X := X.suite a ((a, oe) :: pn)) S gl notMod blt q nn nd
/-- no clause took it: it goes on -/
theorem clause_none (hs : X.stack = X.env :: X.outer) (hf : X.env.frame = some X.env.locals) (tk : Takes X Wout) (m : Met X pins σ H a B cls d s) (w : Wout cls d σ H) :
    wpAny (model X.prog X.w) X.A (handleBy (.ref a) X.env []) (SP X pins D) X.xe s := by
  refine wpAny_handleBy_nil ?_
  have thrown : wpAny (model X.prog X.w) X.A (setFlight (.ref a) X.env.frame) (fun _ s2 => wpAny (model X.prog X.w) X.A (throw (.ref a) : Sem Flow) (SP X pins D) X.xe s2) X.xe s := by
    rw [hf]
    exact HandSPX.setFlight_upZ m.fly fun h2 held up => wpAny_throw (tk _ _ (m.air h2 Wout hs held up w))
  rcases id m.fly with ⟨_, _, _, _, _, tb, _, _, atE, _, isF, one, _⟩
  unfold PySem.passOn
  refine wpAny_bind (wpAny_field atE isF one ?_)
  have notNone : ¬ ((Value.ref tb == Value.none) = true) := by simp
  rw [if_neg notNone]
  first
    | exact wpAny_bind (wpAny_pure (wpAny_bind thrown))
    | exact wpAny_bind thrown
/-- a clause's suite, and the name goes -/
theorem clause_suite {st : Stmt} {sts : List Stmt} {p2 : Pos} {ts : Suite} {oe : Obj} (hN : X.N.Nodup) (hi : X.N[i]? = some n) (loc : X.env.kindOf n = some .local) (ok : X.Ok)
    (su : PSs (X.suite a ((a, oe) :: (X.pn ++ pins))) (st :: sts) (ts a cls d)) (S : Inv (X.suite a ((a, oe) :: (X.pn ++ pins))) [] (σ.set i (some (.ref a))) H s) (asks : ts a cls d (Ends.gone D i) (σ.set i (some (.ref a))) H) :
    wpAny (model X.prog X.w) (X.A.mark (some (.ref a))) (execs (st :: sts) X.env) (fun f s2 => wpAny (model X.prog X.w) X.A (do bindName X.env n .none; unbindBehindTheSuite X.env n p2) (fun _ s3 => SP X pins D f s3) X.xe s2) (fun _ _ => False) s := by
  refine wpAny_mono (su.run [] s _ H (Ends.gone D i) S asks) (fun f s2 got => ?_) fun _ _ z => z.elim
  match f, got with
  | .next, ⟨_, _, J, q⟩ => exact gone_ok (J.unsuite ok) hN hi loc fun _ J2 => ⟨_, _, J2, q⟩
  | .brk, ⟨_, _, J, q⟩ => exact gone_ok (J.unsuite ok) hN hi loc fun _ J2 => ⟨_, _, J2, q⟩
  | .cont, ⟨_, _, J, q⟩ => exact gone_ok (J.unsuite ok) hN hi loc fun _ J2 => ⟨_, _, J2, q⟩
  | .ret u, ⟨_, _, _, J, r, q⟩ => exact gone_ok (J.unsuite ok) hN hi loc fun _ J2 => ⟨_, _, _, J2, r, q⟩
/-- the clauses, one after the other -/
theorem clauses (hs : X.stack = X.env :: X.outer) (hf : X.env.frame = some X.env.locals) (hN : X.N.Nodup) (hi : X.N[i]? = some n) (loc : X.env.kindOf n = some .local) (tk : Takes X Wout) (ok : X.Ok) (m : Met X pins σ H a B cls d s) :
    ∀ {hds : List ExceptHandler} {l : List (Value × Suite)}, HdsA X n hds l → wManyA X.K i Wout D l cls d σ H → wpAny (model X.prog X.w) X.A (handleBy (.ref a) X.env hds) (SP X pins D) X.xe s
  | _, _, .nil, w => clause_none hs hf tk m w
  | _, _, .cons nm su more, ⟨b, isOne, yes, no⟩ => by
    obtain ⟨oe, vs, atE, hz, isF⟩ := m.fly.there
    have S := m.inv.suite atE isF m.free m.notL m.notF
    refine wpAny_handleBy_cons (codeAny_handlers_test (clause_name nm S ?_)) (fun z => by cases z)
    have cl : PySem.W.Looks (model X.prog X.w) s.heap (typeOf (.ref a)) cls := fun A Q E s' k q => wpAny_typeOf_ref (k _ _ atE) (by rw [hz.1]; exact q)
    refine (PySem.W.exm_one (M := model X.prog X.w) m.inv.kIn cl isOne).here ?_
    match b, yes, no with
    | false, _, no => exact clauses hs hf hN hi loc tk ok m more (no rfl)
    | true, yes, _ =>
      refine codeAny_handlers_suite_as (HandSPX.lands_againZ m.fly fun h2 fly2 up2 => ?_)
      obtain ⟨oe2, vs2, atE2, hz2, isF2⟩ := fly2.there
      have S2 := (m.again h2 fly2 up2).suite atE2 isF2 m.free m.notL m.notF
      exact store_ok (X := X.suite a ((a, oe2) :: (X.pn ++ pins))) (v := .ref a) S2 hN hi (.inl loc) rfl (fun s3 S3 => wpAny_mono (clause_suite hN hi loc ok (su a oe2 cls d (X.pn ++ pins) hz2 ⟨_, isF2⟩) S3 (yes rfl a m.free)) (fun _ _ q => q) fun _ _ z => z.elim) (.inr loc)
end
end L3

namespace L3
open PySem PySem.Spec PyProof.Rows L2
/-! ### a def that asks what it was handed, and tells what came: told or no, by the word -/
def lookD (f : Str) : List Str → List D → Option D
  | n :: ns, v :: vs => if f = n then some v else lookD f ns vs
  | _, _ => none
theorem look_rep {P : Pm} {H : Hp} {L : Lv} {f : Str} {d : D} : ∀ {ns : List Str} {vs : List V} {ds : List D}, Reps P H L vs ds → ns.length = vs.length → lookD f ns ds = some d → ∃ v, (ns.zip vs).lookup f = some v ∧ Rep P H L v d
  | [], _, _, _, _, h => by cases h
  | _ :: _, _, _, .nil, hl, _ => by simp at hl
  | n :: ns, _, _, .cons (v := v) (vs := vs) r rr, hl, h => by
    unfold lookD at h
    rw [List.zip_cons_cons, List.lookup_cons]
    by_cases e : f = n
    · rw [if_pos e] at h
      cases h
      have e2 : (f == n) = true := by simp [e]
      rw [e2]
      exact ⟨_, rfl, r⟩
    · rw [if_neg e] at h
      have e2 : (f == n) = false := by simp [e]
      rw [e2]
      exact look_rep rr (by simpa using hl) h
def eTried (caught : Str → Bool) (f : SE) : SE := fun ρ μ => match f ρ μ with
  | .ok d μ1 => .ok (.tup [.str "told", d]) μ1
  | .exc c ns vs μ1 => if caught c = true then (match lookD "word" ns vs with
    | some d => .ok (.tup [.str "no", d]) μ1
    | none => .bad) else .bad
  | .bad => .bad
/-- err.f where the class is not known beforehand -/
theorem pe_xfU {X : Cx} {a : Addr} {oe : Obj} {cls : Value} {d : Option Addr} {pn : List (Addr × Obj)} {e : Expr} {te : TE} {pos : Pos} {n : Str} (hz : Zc cls d oe) (hf : ∃ vs, oe.data = .fields vs) (he : PE (X.suite a ((a, oe) :: pn)) e te) (hb : attributeBase e n X.env (eval e X.env) = eval e X.env := by rfl) :
    PE (X.suite a ((a, oe) :: pn)) (.Attribute e n pos) (fun σ H Q => ∃ C, XfC X.K C ∧ PySem.W.findIn X.K (.ref C) n = some none ∧ tXf a cls d C n te σ H Q) :=
  ⟨fun pins s σ H Q I ⟨_, T, hn, asks⟩ => (pe_xf T hn hz hf he hb).run pins s σ H Q I asks⟩
/-- a wish may lean on how many slots there are -/
theorem takes_len {X : Cx} {W : WX} (tk : Takes X W) : Takes X (fun cls d σ H => σ.length = X.N.length → W cls d σ H) := fun u s' got =>
  let ⟨a, B, sI, pins, σ, H, cls, d, e, I, g, up, sky, na, os, ag, w⟩ := got
  tk u s' ⟨a, B, sI, pins, σ, H, cls, d, e, I, g, up, sky, na, os, ag, w I.len⟩
section
variable {X : Cx}
end
section
variable {P : Pm} {W : WX} {X : Cx}
end
end L3

namespace L3
open PySem PySem.Spec PyProof.Rows L2
/-! ### a cell is written -/
section
variable {P : Pm} {H : Hp} {L : Lv} {μ : Sto}
theorem cell_write {k : Nat} {a : Addr} {o o' : HO} {m' : MO} (s : St3 P H L μ) (hk : L.c[k]? = some a) (ho : H a = some o) (hnt : ∀ ps, o ≠ .tbl ps) (hne : ∀ φ, o ≠ .ext φ) (hm : Ext0 L H L (upd H a o') → RepM P (upd H a o') L a m') :
    Ext P L H L (upd H a o') ∧ St3 P (upd H a o') L (μ.set k m') := by
  have ina : a ∈ L.c := List.mem_of_getElem? hk
  have x0 : Ext0 L H L (upd H a o') := by
    refine ⟨fun b u e _ n => ?_, fun _ _ h => h, fun b h => .inl h⟩
    have ne : b ≠ a := fun z => by subst z; exact n (.inl ina)
    rw [upd_ne ne]; exact e
  have prv : ∀ b ∈ L.x, upd H a o' b = H b := fun b h => upd_ne fun z => by subst z; exact (s.dis b h).1 ina
  have hkl : k < μ.length := by rw [← s.len]; exact (List.getElem?_eq_some_iff.mp hk).1
  refine ⟨⟨x0, rfl, prv⟩, ⟨by rw [List.length_set]; exact s.len, fun j b m h1 h2 => ?_, s.nd, fun b h => ⟨(s.dis b h).1, by rw [prv b h]; exact (s.dis b h).2⟩, fun q hq => ?_⟩⟩
  · by_cases hj : k = j
    · subst hj
      rw [List.getElem?_set_self hkl] at h2
      rw [hk] at h1
      cases h1; cases h2
      exact hm x0
    · rw [List.getElem?_set_ne hj] at h2
      have ne : b ≠ a := fun z => by
        subst z
        obtain ⟨l1, e1⟩ := List.getElem?_eq_some_iff.mp hk
        obtain ⟨l2, e2⟩ := List.getElem?_eq_some_iff.mp h1
        exact hj ((List.getElem_inj s.nd).mp (e1.trans e2.symm))
      exact (s.at_ j b m h1 h2).ext0 (fun u e => by rw [upd_ne ne]; exact e) x0
  · obtain ⟨ps, h1, h2, h3⟩ := s.tab q hq
    refine ⟨ps, ?_, h2, fun pos cv hc => ?_⟩
    · rw [upd_ne (fun z => by rw [z, ho] at h1; exact hnt ps (Option.some.inj h1))]; exact h1
    · obtain ⟨c, e, h4⟩ := h3 pos cv hc
      refine ⟨c, e, ?_⟩
      rw [upd_ne (fun z => by rw [z, ho] at h4; exact hne _ (Option.some.inj h4))]
      exact h4
theorem cell_lst {k : Nat} {ds : List D} (s : St3 P H L μ) {v : V} (r : Rep P H L v (.cell k)) (e : μ[k]? = some (.lst ds)) : ∃ a vs, v = .ref a ∧ L.c[k]? = some a ∧ H a = some (.lst vs) ∧ Reps P H L vs ds := by
  cases r with
  | @cell a _ h =>
    have q := s.at_ k a _ h e
    cases q with
    | lst h' r' => exact ⟨a, _, rfl, h, h', r'⟩
theorem lst_write {k : Nat} {a : Addr} {vs vs' : List V} {ds' : List D} (s : St3 P H L μ) (hk : L.c[k]? = some a) (ho : H a = some (.lst vs)) (r : Reps P H L vs' ds') :
    Ext P L H L (upd H a (.lst vs')) ∧ St3 P (upd H a (.lst vs')) L (μ.set k (.lst ds')) :=
  cell_write s hk ho (fun _ z => nomatch z) (fun _ z => nomatch z) fun x => .lst upd_same (r.ext0 x)
end
/-! ### xs[i] = e -/
def setL (k : Nat) (i : Int) (d : D) (μ : Sto) : Option Sto := match μ[k]? with
  | some (.lst ds) => (match ixN ds.length i with
    | some j => some (μ.set k (.lst (ds.set j d)))
    | none => none)
  | _ => none
def sSub (fe fo fi : SE) : SS := fun ρ μ => (fe ρ μ).thn ρ fun d μ1 => (fo ρ μ1).thn ρ fun o μ2 => (fi ρ μ2).thn ρ fun i μ3 => match o, i with
  | .cell k, .int z => (match setL k z d μ3 with
    | some μ4 => .nx ρ μ4
    | none => .bad)
  | _, _ => .bad
section
variable {P : Pm} {W : WX} {X : Cx} {pos p2 : Pos} {o i e : Expr} {fe fo fi : SE}
theorem vs_sub (he : VE P W X e fe) (ho : VE P W X o fo) (hi : VE P W X i fi) (hs : swapsWithSole [.Subscript o i p2] e pos.line X.env = pure false := by rfl) (hw : swappedStores [.Subscript o i p2] e X.env = pure none := by rfl)
    (h1 : (assignEach [.Subscript o i p2] X.env).map (·.2) = [assign (.Subscript o i p2) X.env] := by rfl)
    (ha : ∀ v, assign (.Subscript o i p2) X.env v = (do
      let ov ← holding [v] (eval o X.env)
      let iv ← holding [v, ov] (eval i X.env)
      standAt p2
      holding [v, ov, iv] (setItem ov iv v)
      release [v, ov, iv] []) := by intro _; rfl) : VS P W X (.Assign [.Subscript o i p2] e pos) (sSub fe fo fi) :=
  (ps_asg he (pg_sub ho hi set_list ha) hs hw h1).imp3 fun D σ H ⟨L, ρ, μ, rs, s, q⟩ => by
    refine tV.firstS rs s q fun d μ1 v L1 H1 x1 s1 r1 rs1 q1 => ?_
    refine tV.firstS rs1 s1 q1 fun od μ2 ov L2 H2 x2 s2 r2 rs2 q2 => ?_
    refine tV.firstS rs2 s2 q2 fun id μ3 iv L3 H3 x3 s3 r3 rs3 q3 => ?_
    cases od with
    | cell k =>
      cases id with
      | int z =>
        cases r3
        have q3 : PostS P W D L3 H3 (match setL k z d μ3 with
          | some μ4 => .nx ρ μ4
          | none => .bad) := q3
        unfold setL at q3
        cases e1 : μ3[k]? with
        | none => simp only [e1] at q3; exact q3.elim
        | some m =>
          cases m with
          | dct _ _ => simp only [e1] at q3; exact q3.elim
          | ins _ _ _ => simp only [e1] at q3; exact q3.elim
          | lst ds =>
            simp only [e1] at q3
            cases e2 : ixN ds.length z with
            | none => simp only [e2] at q3; exact q3.elim
            | some j =>
              simp only [e2] at q3
              obtain ⟨a, vs, rfl, hk, ho', rr⟩ := cell_lst s3 (r2.ext x3) e1
              obtain ⟨x4, s4⟩ := lst_write s3 hk ho' (rr.set ((r1.ext x2).ext x3) j)
              exact ⟨a, vs, z, j, rfl, rfl, ho', by rw [rr.length]; exact e2, q3 σ L3 _ x4 s4 (rs3.ext x4)⟩
      | _ => exact q3.elim
    | _ => exact (by cases id <;> exact q3.elim)
end
/-! ### methods of lists that change them -/
/-- a built-in method: the rule r of the receiver and the arguments is served where g gives something -/
def MtS (P : Pm) (r : V → List V → Hp → VK → Prop) (g : D → List D → Sto → R D) : Prop := ∀ (E : XK) (L : Lv) (H : Hp) (μ : Sto) (v : V) (vs : List V) (d : D) (ds : List D) (Q : VK), St3 P H L μ → Rep P H L v d → Reps P H L vs ds →
  Post P E L H (fun d L' H' => ∀ v, Rep P H' L' v d → Q v H') (g d ds μ) → r v vs H Q
/-- the receiver is of the built-in type T -/
def isTy (T : String) (μ : Sto) (d : D) : Bool := match tyD μ d with
  | some t => t.nm == T
  | none => false
def eM (T : String) (g : D → List D → Sto → R D) (f : SE) (fa : SA) : SE := fun ρ μ => (f ρ μ).bind fun d μ1 => if isTy T μ1 d = true then (fa ρ μ1).bind fun ds μ2 => g d ds μ2 else .bad
theorem tyV_of {P : Pm} {X : Cx} {H : Hp} {L : Lv} {μ : Sto} {T : String} (hK : P.K = X.K) (s : St3 P H L μ) {v : V} {d : D} (r : Rep P H L v d) (e : isTy T μ d = true) (hT : T ≠ "tuple" ∧ T ≠ "bool" ∧ T ≠ "NoneType") : tyV X.K T v H := by
  unfold isTy at e
  cases r with
  | non => exact absurd (eq_of_beq e).symm hT.2.2
  | bl b => exact absurd (eq_of_beq e).symm hT.2.1
  | int b => exact (eq_of_beq e).symm
  | str b => exact (eq_of_beq e).symm
  | lst h n r => exact .inl ⟨(eq_of_beq e).symm, _, .of h⟩
  | tup h r => exact absurd (eq_of_beq e).symm hT.1
  | dct h n l r => cases e
  | obj h hc n l r => cases e
  | scr h => exact .inl ⟨(eq_of_beq e).symm, _, hK ▸ h.sq⟩
  | @cell a k h =>
    have e' : (match (match μ[k]? with
      | some (.lst _) => some Ty.list
      | some (.dct _ _) => some .dict
      | _ => none) with
      | some t => t.nm == T
      | none => false) = true := e
    cases em : μ[k]? with
    | none => rw [em] at e'; cases e'
    | some m =>
      rw [em] at e'
      have q := s.at_ k a m h em
      cases q with
      | lst h' r' => exact .inl ⟨(eq_of_beq e').symm, _, .of h'⟩
      | dct h' l r' => exact .inr (.inr (.inl ⟨(eq_of_beq e').symm, .inl ⟨_, h'⟩⟩))
      | ins h' hc l r' => cases e'
section
variable {P : Pm} {W : WX} {X : Cx} {o e : Expr} {es : List Expr} {fo : SE} {fa : SA} {name : Str} {apos cpos : Pos} {T id : String} {r : V → List V → Hp → VK → Prop} {g : D → List D → Sto → R D}
theorem ve_m (hK : P.K = X.K) (hT : T ≠ "tuple" ∧ T ≠ "bool" ∧ T ≠ "NoneType") (pa : PlainAttrs T) (slot : Slot T name id) (hty : typeOf (.builtin id) = pure (.type "method_descriptor")) (hm : MtR X id r) (hg : MtS P r g) (ho : VE P W X o fo) (ha : VA P W X (e :: es) fa)
    (hbase : attributeBase o name X.env (eval o X.env) = eval o X.env := by rfl)
    (hfew : ((backTo cpos (starEach (e :: es) X.env)).all (fun x => !x.1) && (backToKw cpos (keywordEach [] X.env)).all (fun x => x.1.isSome)
      && decide ((e :: es).length + ([] : List Keyword).length + (if ([] : List Keyword).isEmpty then 0 else 1) < 30)) = true := by rfl)
    (hline : (apos.endLine == cpos.line) = true := by rfl) (hs : starEach (e :: es) X.env = (false, eval e X.env) :: starEach es X.env := by rfl) (hplain : (backTo cpos (starEach es X.env)).any (·.1) = false := by rfl) :
    VE P W X (.Call (.Attribute o name apos) (e :: es) [] cpos) (eM T g fo fa) :=
  (pe_bm pa slot hty hm ho ha hbase hfew hline hs hplain).imp3 fun σ H Q ⟨L, ρ, μ, rs, st, q⟩ => by
    refine tV.first rs st q fun d μ1 v L1 H1 x1 s1 r1 rs1 q1 => ?_
    by_cases c : isTy T μ1 d = true
    case neg => rw [if_neg c] at q1; exact q1.elim
    rw [if_pos c] at q1
    exact ⟨tyV_of hK s1 r1 c hT, tVA.first rs1 s1 q1 fun ds μ2 vs L2 H2 x2 s2 r2 rs2 q2 => hg _ L2 H2 μ2 v vs d ds Q s2 (r1.ext x2) r2 q2⟩
/-- xs.append(y) -/
def dAppend : D → List D → Sto → R D := fun d es μ => match d, es with
  | .cell k, [y] => (match μ[k]? with
    | some (.lst ds) => if ds.length < sizeLine then .ok .non (μ.set k (.lst (ds ++ [y]))) else .bad
    | _ => .bad)
  | _, _ => .bad
theorem ms_append : MtS P rAppend dAppend := by
  intro E L H μ v vs d es Q s rv rs q
  match d, es, rv, rs, q with
  | .cell k, [y], rv, rs, q =>
    obtain ⟨w, rfl, rw'⟩ := rs.one
    have q : Post P E L H (fun d L' H' => ∀ v, Rep P H' L' v d → Q v H') (match μ[k]? with
      | some (.lst ds) => if ds.length < sizeLine then .ok .non (μ.set k (.lst (ds ++ [y]))) else .bad
      | _ => .bad) := q
    cases e1 : μ[k]? with
    | none => rw [e1] at q; exact q.elim
    | some m =>
      rw [e1] at q
      cases m with
      | dct _ _ => exact q.elim
      | ins _ _ _ => exact q.elim
      | lst ds =>
        have q : Post P E L H (fun d L' H' => ∀ v, Rep P H' L' v d → Q v H') (if ds.length < sizeLine then .ok .non (μ.set k (.lst (ds ++ [y]))) else .bad) := q
        by_cases c : ds.length < sizeLine
        case neg => rw [if_neg c] at q; exact q.elim
        rw [if_pos c] at q
        obtain ⟨a, ws, rfl, hk, ho, rr⟩ := cell_lst s rv e1
        obtain ⟨x4, s4⟩ := lst_write s hk ho (rr.append (.cons rw' .nil))
        exact ⟨a, ws, w, rfl, rfl, ho, by rw [rr.length]; exact c, q L _ x4 s4 _ .non⟩
  | .cell k, [], rv, rs, q => exact q.elim
  | .cell k, _ :: _ :: _, rv, rs, q => exact q.elim
  | .non, _, rv, rs, q => exact q.elim
  | .bl _, _, rv, rs, q => exact q.elim
  | .int _, _, rv, rs, q => exact q.elim
  | .str _, _, rv, rs, q => exact q.elim
  | .lst _, _, rv, rs, q => exact q.elim
  | .tup _, _, rv, rs, q => exact q.elim
  | .dct _ _, _, rv, rs, q => exact q.elim
  | .obj _ _ _, _, rv, rs, q => exact q.elim
  | .scr _, _, rv, rs, q => exact q.elim
end
end L3

namespace L3
open PySem PySem.Spec PyProof.Rows L2
open PySem.W in
theorem exm_tupL {M : Model} {K : PySem.W.Frag} {cls : Value} {tp e : Addr} {b : Bool} {h : Heap} {cs : List Value} (X : K.In h) (LT : PySem.W.Looks M h (typeOf (.ref e)) cls) (hp : h.get? tp = some { cls := .type "tuple", data := .seq cs.toArray }) (hx : PySem.W.exmAny K cls cs = some b) :
    PySem.W.Looks M h (excMatches (.ref e) (.ref tp)) b := by
  intro A Q E s k₀ q
  obtain ⟨hh, g, d, tk, os⟩ := s
  have k : ∀ b o, h.get? b = some o → hh.get? b = some o := k₀
  have LT0 : Looks M h (isInstance (.ref tp) (.type "tuple")) true := ((Looks.ld hp).andThen .now).andThen (Looks.of_pure isSubtype_tuple_tuple)
  have LT := LT.keeps k
  have LT0 := LT0.keeps k
  have hp' := k _ _ hp
  unfold excMatches
  refine wpAny_bind (LT0.at ?_)
  dsimp only
  rw [if_pos rfl]
  first
    | refine wpAny_bind (wpAny_seqItems hp' rfl ?_)
    | refine wpAny_bind (wpAny_bind (wpAny_seqItems hp' rfl (wpAny_pure ?_)))
  dsimp only [Option.getD_some, Option.getD]
  have I1 : ∀ (ds : List Value) (b' : Bool), exmAny K cls ds = some b' → ∀ Q' : PUnit → Shared → Prop, Q' PUnit.unit ⟨hh, g, d, tk, os⟩ → wpAny M A (forIn ds PUnit.unit fun c __s => do
          let __do_lift ← isExcClass c
          if (!__do_lift) = true then do
              rule "try.except-non-exception-class"
              raiseErrorWords "TypeError" "catching classes that do not inherit from BaseException is not allowed"
              pure (ForInStep.yield PUnit.unit)
            else pure (ForInStep.yield PUnit.unit)) Q' E ⟨hh, g, d, tk, os⟩ := by
    intro ds
    induction ds with
    | nil => intro b' _ Q' q'; rw [List.forIn_nil]; exact wpAny_pure q'
    | cons c ds ih =>
      intro b' hb Q' q'
      obtain ⟨b1, d1, x1, y1, z1⟩ := exmAny_cons hb
      obtain ⟨e1, S1⟩ := exm_cls (M := M) X x1
      have e1 := e1.keeps k
      rw [List.forIn_cons]
      refine wpAny_bind (wpAny_bind (e1.at ?_))
      rw [if_neg (by simp)]
      exact wpAny_pure (ih d1 y1 Q' q')
  have I2 : ∀ (ds : List Value) (b' : Bool), exmAny K cls ds = some b' → ∀ Q' : (Option Bool × Unit) → Shared → Prop, Q' (if b' = true then (some true, ()) else (none, ())) ⟨hh, g, d, tk, os⟩ → wpAny M A (forIn ds (none, ()) fun c __s => do
            let __do_lift ← isSubtype cls c
            if __do_lift = true then pure (ForInStep.done (some true, ())) else pure (ForInStep.yield (none, ()))) Q' E ⟨hh, g, d, tk, os⟩ := by
    intro ds
    induction ds with
    | nil => intro b' hb Q' q'; cases hb; rw [List.forIn_nil]; exact wpAny_pure q'
    | cons c ds ih =>
      intro b' hb Q' q'
      obtain ⟨b1, d1, x1, y1, z1⟩ := exmAny_cons hb
      obtain ⟨e1, S1⟩ := exm_cls (M := M) X x1
      have S1 := S1.keeps k
      rw [List.forIn_cons]
      refine wpAny_bind (wpAny_bind (S1.at ?_))
      subst z1
      cases b1 with
      | true =>
        rw [if_pos rfl]
        exact wpAny_pure (wpAny_pure q')
      | false =>
        rw [if_neg Bool.false_ne_true]
        exact wpAny_pure (ih d1 y1 Q' q')
  refine wpAny_bind (wpAny_pure (wpAny_bind (I1 cs b hx _ (wpAny_bind (LT.at (wpAny_bind (I2 cs b hx _ ?_)))))))
  cases b with
  | true => exact wpAny_pure q
  | false => exact wpAny_pure q

/-! ### except clauses of one class or of several -/
/-- whether a clause of these classes takes it -/
def clMatch (K : PySem.W.Frag) (cls : Value) : List Value → Option Bool
  | [c] => PySem.W.exmOne K cls c
  | cs => PySem.W.exmAny K cls cs
def wManyB (K : PySem.W.Frag) (i : Nat) (Wout : WX) (D : Ends) : List (List Value × Suite) → WX
  | [] => Wout
  | (cs, ts) :: r => fun cls d σ H => ∃ b, clMatch K cls cs = some b ∧ (b = true → ∀ a, H a = none → ts a cls d (Ends.gone D i) (σ.set i (some (.ref a))) H) ∧ (b = false → wManyB K i Wout D r cls d σ H)
inductive NamesL (X : Cx) : List Expr → List Value → Prop
  | nil : NamesL X [] []
  | cons {x : Str} {a : Addr} {p : Pos} {es : List Expr} {cs : List Value} (hg : Gl X x) (nd : (x == ("__debug__" : Str)) = false) (hm : X.mg x = some (.ref a)) (hs : starEach (.Name x p :: es) X.env = (false, eval (.Name x p) X.env) :: starEach es X.env) (r : NamesL X es cs) : NamesL X (.Name x p :: es) (.ref a :: cs)
inductive HdsB (X : Cx) (n : Str) : List ExceptHandler → List (List Value × Suite) → Prop
  | nil : HdsB X n [] []
  | one {x : Str} {a : Addr} {ts : Suite} {st : Stmt} {sts : List Stmt} {p1 p2 : Pos} {hds : List ExceptHandler} {l : List (List Value × Suite)} (hg : Gl X x) (nd : (x == ("__debug__" : Str)) = false) (hm : X.mg x = some (.ref a))
      (su : ∀ (a : Addr) (oe : Obj) (cls : Value) (d : Option Addr) (pn : List (Addr × Obj)), Zc cls d oe → (∃ vs, oe.data = .fields vs) → PSs (X.suite a ((a, oe) :: pn)) (st :: sts) (ts a cls d)) (more : HdsB X n hds l) :
      HdsB X n (.ExceptHandler (some (.Name x p1)) (some n) (st :: sts) p2 :: hds) (([.ref a], ts) :: l)
  | tup {es : List Expr} {c1 c2 : Value} {cs : List Value} {ts : Suite} {st : Stmt} {sts : List Stmt} {kk : Nat} {p1 p2 : Pos} {hds : List ExceptHandler} {l : List (List Value × Suite)} (nm : NamesL X es (c1 :: c2 :: cs))
      (hl : (c1 :: c2 :: cs).length ≤ sizeLine)
      (su : ∀ (a : Addr) (oe : Obj) (cls : Value) (d : Option Addr) (pn : List (Addr × Obj)), Zc cls d oe → (∃ vs, oe.data = .fields vs) → PSs (X.suite a ((a, oe) :: pn)) (st :: sts) (ts a cls d)) (more : HdsB X n hds l) :
      HdsB X n (.ExceptHandler (some (.Tuple es kk p1)) (some n) (st :: sts) p2 :: hds) ((c1 :: c2 :: cs, ts) :: l)
theorem FlyingZ.grow {B h h' : Heap} {l : List _root_.PySem.Env} {a : Addr} {Z : Obj → Prop} (k : ∀ b o, h.get? b = some o → h'.get? b = some o) (x : HandSPX.FlyingZ B l a Z h) : HandSPX.FlyingZ B l a Z h' := by
  obtain ⟨h1, h2, h3, oe, vs, T, oT, ts, g1, g2, g3, g4, g5, g6, g7, g8, g9⟩ := x
  exact ⟨fun b o e => k b o (h1 b o e), h2, h3.of_keeps fun b o e _ => ⟨o, k b o e, rfl⟩, oe, vs, T, oT, ts, k _ _ g1, g2, g3, g4, g5, g6, k _ _ g7, g8, g9⟩
section
variable {X : Cx} {n : Str} {i : Nat} {pins : List (Addr × Obj)} {Wout : WX} {D : Ends} {σ : L2.St} {H : Hp} {a : Addr} {B : Heap} {cls : Value} {d : Option Addr} {s : Shared}
theorem upTo_grow {h h' : Heap} (k : ∀ b o, h.get? b = some o → h'.get? b = some o) : h.UpToSlots h' := fun b o e _ => ⟨o.slots, by rw [k b o e]⟩
/-- the state with more in its heap -/
theorem Met.grow {h' : Heap} (m : Met X pins σ H a B cls d s) (k : ∀ b o, s.heap.get? b = some o → h'.get? b = some o) : Met X pins σ H a B cls d { s with heap := h' } :=
  ⟨FlyingZ.grow k m.fly, m.again h' (FlyingZ.grow k m.fly) (upTo_grow k), m.free, m.notL, m.notF, fun h fl u => m.again h fl ((upTo_grow k).trans u), fun h W hs held u w => m.air h W hs held ((upTo_grow k).trans u) w⟩
/-- names of classes, one after the other -/
theorem names_spliced {oe : Obj} {pn : List (Addr × Obj)} {E : Value → Shared → Prop} {pos : Pos} (S : Inv (X.suite a ((a, oe) :: pn)) [] σ H s) : ∀ {es : List Expr} {cs : List Value} {Q : List Value → Shared → Prop}, NamesL X es cs → Q cs s →
    wpAny (model X.prog X.w) (X.A.mark (some (.ref a))) (spliced (backTo pos (starEach es X.env))) Q E s
  | _, _, _, .nil, q => Calls.spliced_nil q
  | _, _, Q, .cons (x := x) (a := c) (p := p) (es := es) (cs := cs) hg nd hm hs r, q => by
    rw [hs]
    show wpAny _ _ (spliced ((false, eval (.Name x p) X.env) :: backTo pos (starEach es X.env))) _ _ s
    refine Calls.spliced_cons ?_
    refine ld_glob (X := X.suite a ((a, oe) :: pn)) S hg hm ?_ nd
    exact names_spliced S (Q := fun us s' => Q (.ref c :: us) s') r q
theorem clausesB (hs : X.stack = X.env :: X.outer) (hf : X.env.frame = some X.env.locals) (hN : X.N.Nodup) (hi : X.N[i]? = some n) (loc : X.env.kindOf n = some .local) (tk : Takes X Wout) (ok : X.Ok) :
    ∀ {hds : List ExceptHandler} {l : List (List Value × Suite)} {s : Shared}, HdsB X n hds l → Met X pins σ H a B cls d s → wManyB X.K i Wout D l cls d σ H → wpAny (model X.prog X.w) X.A (handleBy (.ref a) X.env hds) (SP X pins D) X.xe s
  | _, _, s, .nil, m, w => clause_none hs hf tk m w
  | _, _, s, .one hg nd hm su more, m, ⟨b, isOne, yes, no⟩ => by
    obtain ⟨oe, vs, atE, hz, isF⟩ := m.fly.there
    have S := m.inv.suite atE isF m.free m.notL m.notF
    refine wpAny_handleBy_cons (codeAny_handlers_test (clause_name ⟨hg, nd, .inl hm⟩ S ?_)) (fun z => by cases z)
    have cl : PySem.W.Looks (model X.prog X.w) s.heap (typeOf (.ref a)) cls := fun A Q E s' k q => wpAny_typeOf_ref (k _ _ atE) (by rw [hz.1]; exact q)
    refine (PySem.W.exm_one (M := model X.prog X.w) m.inv.kIn cl isOne).here ?_
    match b, yes, no with
    | false, _, no => exact clausesB hs hf hN hi loc tk ok more m (no rfl)
    | true, yes, _ =>
      refine codeAny_handlers_suite_as (HandSPX.lands_againZ m.fly fun h2 fly2 up2 => ?_)
      obtain ⟨oe2, vs2, atE2, hz2, isF2⟩ := fly2.there
      have S2 := (m.again h2 fly2 up2).suite atE2 isF2 m.free m.notL m.notF
      exact store_ok (X := X.suite a ((a, oe2) :: (X.pn ++ pins))) (v := .ref a) S2 hN hi (.inl loc) rfl (fun s3 S3 => wpAny_mono (clause_suite hN hi loc ok (su a oe2 cls d (X.pn ++ pins) hz2 ⟨_, isF2⟩) S3 (yes rfl a m.free)) (fun _ _ q => q) fun _ _ z => z.elim) (.inr loc)
  | _, _, s, .tup (es := es) (c1 := c1) (c2 := c2) (cs := cs) nm hl su more, m0, ⟨b, isOne, yes, no⟩ => by
    obtain ⟨oe, vs, atE, hz, isF⟩ := m0.fly.there
    have S := m0.inv.suite atE isF m0.free m0.notL m0.notF
    have k : ∀ b o, s.heap.get? b = some o → (s.heap.push { cls := .type "tuple", data := .seq (c1 :: c2 :: cs).toArray }).get? b = some o := fun b o e => Heap.get?_push_of_some _ e
    refine wpAny_handleBy_cons (codeAny_handlers_test (wpAny_Tuple_spliced (names_spliced S nm ⟨hl, ?_⟩))) (fun z => by cases z)
    have m := m0.grow k
    have cl : PySem.W.Looks (model X.prog X.w) (s.heap.push { cls := .type "tuple", data := .seq (c1 :: c2 :: cs).toArray }) (typeOf (.ref a)) cls := fun A Q E s' k' q => wpAny_typeOf_ref (k' _ _ (k _ _ atE)) (by rw [hz.1]; exact q)
    refine (exm_tupL (M := model X.prog X.w) m.inv.kIn cl (Heap.get?_push_size _ rfl) isOne).here ?_
    match b, yes, no with
    | false, _, no => exact clausesB hs hf hN hi loc tk ok more m (no rfl)
    | true, yes, _ =>
      refine codeAny_handlers_suite_as (HandSPX.lands_againZ m.fly fun h2 fly2 up2 => ?_)
      obtain ⟨oe2, vs2, atE2, hz2, isF2⟩ := fly2.there
      have S2 := (m.again h2 fly2 up2).suite atE2 isF2 m.free m.notL m.notF
      exact store_ok (X := X.suite a ((a, oe2) :: (X.pn ++ pins))) (v := .ref a) S2 hN hi (.inl loc) rfl (fun s3 S3 => wpAny_mono (clause_suite hN hi loc ok (su a oe2 cls d (X.pn ++ pins) hz2 ⟨_, isF2⟩) S3 (yes rfl a m.free)) (fun _ _ q => q) fun _ _ z => z.elim) (.inr loc)
end
theorem ps_try_manyB {X : Cx} {n : Str} {i : Nat} {body : List Stmt} {hds : List ExceptHandler} {h₀ : ExceptHandler} {l : List (List Value × Suite)} {pos : Pos} {tb : WX → TS} {Wout : WX} (hs : X.stack = X.env :: X.outer) (hf : X.env.frame = some X.env.locals) (hN : X.N.Nodup) (hi : X.N[i]? = some n) (loc : X.env.kindOf n = some .local) (tk : Takes X Wout)
    (hb : ∀ (W : WX) (pn : List (Addr × Obj)) (xe : Value → Shared → Prop), Takes (X.tr pn xe) W → PassesOwn (model X.prog X.w) X.A X.env xe → PSs (X.tr pn xe) body (tb W)) (hh : HdsB X n (h₀ :: hds) l) :
    PS X (.Try body (h₀ :: hds) [] [] pos) (fun D σ H => tb (wManyB X.K i Wout D l) D σ H) := ⟨fun pins s σ H D I asks => by
  have ok := I.ok
  refine wpAny_Try_except (wpAny_mono ((hb (wManyB X.K i Wout D l) (X.pn ++ pins) _ (fun u s2 got => ?_) PassesOwn.looking).run [] s σ H D (I.toTry _) asks) (fun f s2 got => ?_) fun _ _ z => z)
  · rcases got with ⟨a, B, s0, _, σ2, H2, cls, d, eu, J0, ground, up, sky, free, sameOs, bare, w⟩
    subst eu
    have J := Inv.ofTry J0 ok
    have frames : X.A.frames = some (X.env :: X.outer) := by rw [ok.frames, hs]
    have sky2 : Sky B (X.env :: X.outer) a (Zc cls d) X.env.locals s2.heap := by rw [← hs]; exact sky
    show wpAny (model X.prog X.w) X.A (noteFrame (.ref a) X.env) _ _ _
    refine Sky.land Zc.steady frames hf sky2 fun h3 fly up3 => ?_
    have good : ∀ h, HandSPX.FlyingZ B (X.env :: X.outer) a (Zc cls d) h → s2.heap.UpToSlots h → Inv X pins σ2 H2 { s2 with heap := h } := fun h fl u => J.landed ground fl.1 (up.trans u) sameOs bare
    have notFrame : a ∉ frs (X.env :: X.outer) := fun hm => by
      obtain ⟨_, _, atE, _, isF⟩ := fly.there
      obtain ⟨_, _, atE2, noF⟩ := fly.2.2.1.mem hm
      rw [atE] at atE2
      cases atE2
      exact noF _ isF
    refine clausesB hs hf hN hi loc tk ok (s := { s2 with heap := h3 }) (B := B) hh ⟨fly, good h3 fly up3, free, fun z => notFrame ?_, fun z => notFrame ?_, fun h fl u => good h fl (up3.trans u), fun h W hs' held u wv => ?_⟩ w
    · exact List.mem_filterMap.mpr ⟨X.env, List.mem_cons_self, by rw [hf, z]⟩
    · obtain ⟨e, he, q⟩ := List.mem_filterMap.mp z
      exact List.mem_filterMap.mpr ⟨e, List.mem_cons_of_mem _ he, q⟩
    · exact ⟨a, B, s0, pins, σ2, H2, cls, d, rfl, J, ground, (up.trans up3).trans u, .inr (.inr (by rw [hs']; exact held)), free, sameOs, bare, wv⟩
  · match f, got with
    | .next, ⟨_, _, J, q⟩ => exact wpAny_execs_nil ⟨_, _, Inv.ofTry J ok, q⟩
    | .brk, ⟨_, _, J, q⟩ => exact ⟨_, _, Inv.ofTry J ok, q⟩
    | .cont, ⟨_, _, J, q⟩ => exact ⟨_, _, Inv.ofTry J ok, q⟩
    | .ret _, ⟨_, _, _, J, r, q⟩ => exact ⟨_, _, _, Inv.ofTry J ok, r, q⟩⟩

/-! ### the telling def with any clauses -/
/-- what a clause tells: the word; and a field; and two fields -/
inductive Shape where
  | w | f (n : Str) | g (n m : Str)
  deriving DecidableEq
def Shape.flds : Shape → List Str
  | .w => ["word"]
  | .f n => ["word", n]
  | .g n m => ["word", n, m]
def Shape.told (ns : List Str) (vs : List D) : Shape → Option D
  | .w => (lookD "word" ns vs).map fun d => .tup [.str "no", d]
  | .f n => (lookD "word" ns vs).bind fun d => (lookD n ns vs).map fun e => .tup [.str "no", d, e]
  | .g n m => (lookD "word" ns vs).bind fun d => (lookD n ns vs).bind fun e => (lookD m ns vs).map fun f => .tup [.str "no", d, .tup [e, f]]
def eAsked (pick : Str → Option Shape) (f : SE) : SE := fun ρ μ => match f ρ μ with
  | .ok d μ1 => .ok (.tup [.str "told", d]) μ1
  | .exc c ns vs μ1 => (match (pick c).bind fun sh => sh.told ns vs with
    | some d => .ok d μ1
    | none => .bad)
  | .bad => .bad
inductive AskS (ev : Str) : List Stmt → Shape → Prop
  | w {j t : Nat} {p1 p2 p3 p4 p5 : Pos} : AskS ev [.Return (some (.Tuple [.Constant (.str "no") j p1, .Attribute (.Name ev p2) "word" p3] t p4)) p5] .w
  | f {j t : Nat} {n : Str} {p1 p2 p3 p4 p5 p6 p7 : Pos} : AskS ev [.Return (some (.Tuple [.Constant (.str "no") j p1, .Attribute (.Name ev p2) "word" p3, .Attribute (.Name ev p6) n p7] t p4)) p5] (.f n)
  | g {j t u : Nat} {n m : Str} {p1 p2 p3 p4 p5 p6 p7 p8 p9 p10 : Pos} : AskS ev [.Return (some (.Tuple [.Constant (.str "no") j p1, .Attribute (.Name ev p2) "word" p3, .Tuple [.Attribute (.Name ev p6) n p7, .Attribute (.Name ev p8) m p9] u p10] t p4)) p5] (.g n m)
/-- the written clauses, their classes' names, what they tell -/
inductive AskN : List Expr → List Str → Prop
  | nil : AskN [] []
  | cons {x : Str} {p : Pos} {es : List Expr} {xs : List Str} (r : AskN es xs) : AskN (.Name x p :: es) (x :: xs)
inductive AskH (ev : Str) : List ExceptHandler → List (List Str × Shape) → Prop
  | nil : AskH ev [] []
  | one {x : Str} {sh : Shape} {su : List Stmt} {p1 p2 : Pos} {hds : List ExceptHandler} {l : List (List Str × Shape)} (s : AskS ev su sh) (r : AskH ev hds l) : AskH ev (.ExceptHandler (some (.Name x p1)) (some ev) su p2 :: hds) (([x], sh) :: l)
  | tup {es : List Expr} {x y : Str} {xs : List Str} {sh : Shape} {su : List Stmt} {k : Nat} {p1 p2 : Pos} {hds : List ExceptHandler} {l : List (List Str × Shape)} (nm : AskN es (x :: y :: xs)) (s : AskS ev su sh) (r : AskH ev hds l) :
      AskH ev (.ExceptHandler (some (.Tuple es k p1)) (some ev) su p2 :: hds) ((x :: y :: xs, sh) :: l)
/-- what is asked of a caught exception by a shape -/
def tShape (K : PySem.W.Frag) (a : Addr) (cls : Value) (d : Option Addr) : Shape → TE := fun sh σ H Q => ∃ C dx fs, σ[1]? = some (some (.ref a)) ∧ cls = .ref C ∧ d = some dx ∧ H dx = some (.xd fs) ∧ XfC K C ∧ (∀ n ∈ sh.flds, PySem.W.findIn K (.ref C) n = some none) ∧ match sh with
  | .w => ∃ v, fs.lookup ("word" : Str) = some v ∧ ∀ p, H p = none → Q (.ref p) (upd H p (.tup [.str "no", v]))
  | .f n => ∃ v u, fs.lookup ("word" : Str) = some v ∧ fs.lookup n = some u ∧ ∀ p, H p = none → Q (.ref p) (upd H p (.tup [.str "no", v, u]))
  | .g n m => ∃ v u w, fs.lookup ("word" : Str) = some v ∧ fs.lookup n = some u ∧ fs.lookup m = some w ∧ ∀ q, H q = none → ∀ p, (upd H q (.tup [u, w])) p = none → Q (.ref p) (upd (upd H q (.tup [u, w])) p (.tup [.str "no", v, .ref q]))
section
variable {X : Cx}
theorem askS_ok {a0 ev : Str} {su : List Stmt} {sh : Shape} {a : Addr} {oe : Obj} {cls : Value} {d : Option Addr} {pn : List (Addr × Obj)} (s : AskS ev su sh) (hN : X.N = [a0, ev]) (loc : X.env.scope.names.lookup ev = some .local) (dv : (ev == ("__debug__" : Str)) = false) (cv : (ev == ("__classdict__" : Str)) = false)
    (hz : Zc cls d oe) (hf : ∃ vs, oe.data = .fields vs) : ∃ st sts, su = st :: sts ∧ PSs (X.suite a ((a, oe) :: pn)) (st :: sts) (tRet (tShape X.K a cls d sh)) := by
  have var : ∀ p, PE (X.suite a ((a, oe) :: pn)) (.Name ev p) (tVar 1) := fun p => pe_var (i := 1) (by show X.N[1]? = _; rw [hN]; rfl) (.inl loc) dv cv
  cases s with
  | @w j t p1 p2 p3 p4 p5 =>
    refine ⟨_, _, rfl, (pss_one (ps_ret (pe_tup (pa_cons pe_str (pa_cons (pe_xfU hz hf (var p2)) pa_nil))))).imp3 fun D σ H h => ?_⟩
    obtain ⟨C, dx, fs, h1, h2, h3, h4, h5, h6, v, h7, q⟩ := h
    exact ⟨C, h5, h6 _ (by simp [Shape.flds]), .ref a, h1, rfl, h2, dx, fs, v, h3, h4, h7, by rw [sizeLine_eq]; simp, q⟩
  | @f j t n p1 p2 p3 p4 p5 p6 p7 =>
    refine ⟨_, _, rfl, (pss_one (ps_ret (pe_tup (pa_cons pe_str (pa_cons (pe_xfU hz hf (var p2)) (pa_cons (pe_xfU hz hf (var p6)) pa_nil)))))).imp3 fun D σ H h => ?_⟩
    obtain ⟨C, dx, fs, h1, h2, h3, h4, h5, h6, v, u, h7, h8, q⟩ := h
    exact ⟨C, h5, h6 _ (by simp [Shape.flds]), .ref a, h1, rfl, h2, dx, fs, v, h3, h4, h7, C, h5, h6 _ (by simp [Shape.flds]), .ref a, h1, rfl, h2, dx, fs, u, h3, h4, h8, by rw [sizeLine_eq]; simp, q⟩
  | @g j t u n m p1 p2 p3 p4 p5 p6 p7 p8 p9 p10 =>
    refine ⟨_, _, rfl, (pss_one (ps_ret (pe_tup (pa_cons pe_str (pa_cons (pe_xfU hz hf (var p2)) (pa_cons (pe_tup (pa_cons (pe_xfU hz hf (var p6)) (pa_cons (pe_xfU hz hf (var p8)) pa_nil))) pa_nil)))))).imp3 fun D σ H h => ?_⟩
    obtain ⟨C, dx, fs, h1, h2, h3, h4, h5, h6, v, u, w, h7, h8, h9, q⟩ := h
    exact ⟨C, h5, h6 _ (by simp [Shape.flds]), .ref a, h1, rfl, h2, dx, fs, v, h3, h4, h7, C, h5, h6 _ (by simp [Shape.flds]), .ref a, h1, rfl, h2, dx, fs, u, h3, h4, h8, C, h5, h6 _ (by simp [Shape.flds]), .ref a, h1, rfl, h2, dx, fs, w, h3, h4, h9,
      by rw [sizeLine_eq]; simp, fun q' hq => ⟨by rw [sizeLine_eq]; simp, q q' hq⟩⟩
end

def pickS (K : PySem.W.Frag) (cl : Str → Addr) (cls : Value) : List (List Str × Shape) → Option Shape
  | [] => none
  | (xs, sh) :: r => match clMatch K cls (xs.map fun x => .ref (cl x)) with
    | some true => some sh
    | some false => pickS K cl cls r
    | none => none
def shTail (K : PySem.W.Frag) (fs : List (Str × V)) (sh : Shape) (H : Hp) (Q : VK) : Prop := match sh with
  | .w => ∃ v, fs.lookup ("word" : Str) = some v ∧ ∀ p, H p = none → Q (.ref p) (upd H p (.tup [.str "no", v]))
  | .f n => ∃ v u, fs.lookup ("word" : Str) = some v ∧ fs.lookup n = some u ∧ ∀ p, H p = none → Q (.ref p) (upd H p (.tup [.str "no", v, u]))
  | .g n m => ∃ v u w, fs.lookup ("word" : Str) = some v ∧ fs.lookup n = some u ∧ fs.lookup m = some w ∧ ∀ q, H q = none → ∀ p, (upd H q (.tup [u, w])) p = none → Q (.ref p) (upd (upd H q (.tup [u, w])) p (.tup [.str "no", v, .ref q]))
def TAsked (K : PySem.W.Frag) (cl : Str → Addr) (hs : List (List Str × Shape)) : (XK → Hp → VK → Prop) → Hp → VK → Prop := fun tl H Q =>
  tl (fun cls d H' => ∃ (C dx : Addr) (fs : List (Str × V)) (sh : Shape), cls = .ref C ∧ d = some dx ∧ H' dx = some (.xd fs) ∧ XfC K C ∧ pickS K cl cls hs = some sh ∧ (∀ n ∈ sh.flds, PySem.W.findIn K (.ref C) n = some none) ∧ shTail K fs sh H' Q)
    H fun v H' => ([V.str "told", v] : List V).length ≤ sizeLine ∧ ∀ p, H' p = none → Q (.ref p) (upd H' p (.tup [.str "told", v]))
section
variable {X : Cx}
def askL (K : PySem.W.Frag) (cl : Str → Addr) (hs : List (List Str × Shape)) : List (List Value × Suite) := hs.map fun q => (q.1.map fun x => .ref (cl x), fun b cls d => tRet (tShape K b cls d q.2))
theorem askN_ok {cl : Str → Addr} : ∀ {es : List Expr} {xs : List Str}, AskN es xs → (∀ x ∈ xs, Gl X x ∧ (x == ("__debug__" : Str)) = false ∧ X.mg x = some (.ref (cl x))) → NamesL X es (xs.map fun x => .ref (cl x))
  | _, _, .nil, _ => .nil
  | _, _, .cons r, h => .cons (h _ List.mem_cons_self).1 (h _ List.mem_cons_self).2.1 (h _ List.mem_cons_self).2.2 rfl (askN_ok r fun x hx => h x (List.mem_cons_of_mem _ hx))
theorem askH_ok {cl : Str → Addr} {a0 ev : Str} (hN : X.N = [a0, ev]) (loc : X.env.scope.names.lookup ev = some .local) (dv : (ev == ("__debug__" : Str)) = false) (cv : (ev == ("__classdict__" : Str)) = false) : ∀ {hds : List ExceptHandler} {hs : List (List Str × Shape)}, AskH ev hds hs →
    (∀ q ∈ hs, q.1.length ≤ 100 ∧ ∀ x ∈ q.1, Gl X x ∧ (x == ("__debug__" : Str)) = false ∧ X.mg x = some (.ref (cl x))) → HdsB X ev hds (askL X.K cl hs)
  | _, _, .nil, _ => .nil
  | _, _, .one (x := x) (sh := sh) (su := su) s r, h => by
    have su_ok : ∃ st sts, su = st :: sts := by cases s <;> exact ⟨_, _, rfl⟩
    obtain ⟨st, sts, e⟩ := su_ok
    subst e
    have hx := (h _ List.mem_cons_self).2 x (by simp)
    refine .one hx.1 hx.2.1 hx.2.2 (fun a oe cls d pn hz hf => ?_) (askH_ok hN loc dv cv r fun q hq => h q (List.mem_cons_of_mem _ hq))
    obtain ⟨st', sts', e, p⟩ := askS_ok (X := X) (a := a) (pn := pn) s hN loc dv cv hz hf
    cases e
    exact p
  | _, _, .tup (x := x) (y := y) (xs := xs) (sh := sh) (su := su) nm s r, h => by
    have su_ok : ∃ st sts, su = st :: sts := by cases s <;> exact ⟨_, _, rfl⟩
    obtain ⟨st, sts, e⟩ := su_ok
    subst e
    have hx := h _ List.mem_cons_self
    refine .tup (askN_ok nm hx.2) (line100 (by have := hx.1; simpa using this)) (fun a oe cls d pn hz hf => ?_) (askH_ok hN loc dv cv r fun q hq => h q (List.mem_cons_of_mem _ hq))
    obtain ⟨st', sts', e, p⟩ := askS_ok (X := X) (a := a) (pn := pn) s hN loc dv cv hz hf
    cases e
    exact p
theorem pick_many {K : PySem.W.Frag} {cl : Str → Addr} {i : Nat} {Wout : WX} {D : Ends} {cls : Value} {d : Option Addr} {σ : L2.St} {H : Hp} {sh : Shape} : ∀ {hs : List (List Str × Shape)}, pickS K cl cls hs = some sh →
    (∀ a, H a = none → tRet (tShape K a cls d sh) (Ends.gone D i) (σ.set i (some (.ref a))) H) → wManyB K i Wout D (askL K cl hs) cls d σ H
  | [], h, _ => by cases h
  | (xs, sh') :: r, h, q => by
    unfold pickS at h
    cases e : clMatch K cls (xs.map fun x => .ref (cl x)) with
    | none => rw [e] at h; cases h
    | some b =>
      rw [e] at h
      refine ⟨b, e, fun hb a ha => ?_, fun hb => ?_⟩
      · subst hb
        cases h
        exact q a ha
      · subst hb
        exact pick_many h q
theorem asked_gives {cl : Str → Addr} {hs : List (List Str × Shape)} {x a ev q : Str} {sg : Scope} {g : Addr} {cdg : Value} {bg : List Stmt} {hds : List ExceptHandler} {j1 t1 : Nat} {p1 p2 p3 p4 p5 p20 : Pos}
    (nd : ([a, ev] : List Str).Nodup) (loc : sg.names.lookup ev = some .local) (hne : hs ≠ []) (hA : AskH ev hds hs) (hC : ∀ q ∈ hs, q.1.length ≤ 100 ∧ ∀ x ∈ q.1, sg.names.lookup x = some .globalImplicit ∧ (x == ("__debug__" : Str)) = false ∧ X.mg x = some (.ref (cl x)))
    (dv : (ev == ("__debug__" : Str)) = false) (cv : (ev == ("__classdict__" : Str)) = false)
    (hb : bg = [.Try [.Return (some (.Tuple [.Constant (.str "told") j1 p1, .Call (.Name a p2) [] [] p3] t1 p4)) p5] hds [] [] p20]) :
    LamX.GivesTo X [a, ev] x sg g cdg bg a q (TAsked X.K cl hs) := by
  subst hb
  intro f c' s H Q tl act hc asks
  let Z := (cxOf C8.CX0 X.prog X.w X.K X.mg X.base [a, ev] x sg g cdg X.A X.stack s H C8.E0).nox
  obtain ⟨h0, hds', e0⟩ : ∃ h0 hds', hds = h0 :: hds' := by
    cases hA with
    | nil => exact absurd rfl hne
    | one s r => exact ⟨_, _, rfl⟩
    | tup nm s r => exact ⟨_, _, rfl⟩
  subst e0
  have HB : HdsB Z ev (h0 :: hds') (askL X.K cl hs) := askH_ok (X := Z) (a0 := a) rfl loc dv cv hA hC
  refine ⟨_, pss_one (ps_try_manyB (X := Z) (n := ev) (i := 1)
    (tb := fun W D σ H => ∃ E : XK, (∀ cls d (σ' : L2.St) H', E cls d H' → σ'.length = 2 → W cls d σ' H') ∧ σ[0]? = some (some (.ref f)) ∧ H c' = some (LamX.CodeO c' q) ∧ tl E H fun v H' => ([V.str "told", v] : List V).length ≤ sizeLine ∧ ∀ p, H' p = none → D.rt (.ref p) (upd H' p (.tup [.str "told", v])))
    rfl rfl nd rfl loc L2.takes0 (fun W pn xe tk _ => ?_) HB), ?_⟩
  · refine ⟨fun pins s2 σ H2 D I ⟨E, hW, h1, h2, h3⟩ => ?_⟩
    have called := act (fun cls d σ H => σ.length = 2 → W cls d σ H) pn xe E p2 p3 (takes_len tk) (fun cls d σ' H' h l => hW cls d σ' H' h l)
    exact (pss_one (ps_ret (pos := p5) (pe_tup (pos := p4) (x1 := t1) (pa_cons pe_str (pa_cons called pa_nil))))).run pins s2 σ H2 D I ⟨h1, h2, h3⟩
  · refine ⟨_, fun cls d σ' H' got l2 => ?_, rfl, hc, asks⟩
    obtain ⟨C, dx, fs, sh, ec, ed, at_, T, pk, hn, fin⟩ := got
    refine pick_many pk fun b hb => ?_
    refine ⟨C, dx, fs, List.getElem?_set_self (by omega), ec, ed, at_, T, hn, ?_⟩
    cases sh <;> exact fin
end
section
variable {P : Pm} {W : WX} {X : Cx}
end
end L3

namespace L3
open PySem PySem.Spec PyProof.Rows L2
/-! ### what the printed texts name -/
def dSl3 : D → Option Int → Option Int → Sto → R D := fun a lo hi μ => match a with
  | .tup ds => if HT.sIx ds.length 0 lo = 0 ∧ HT.sIx ds.length ds.length hi = ds.length then .bad else .ok (.tup (cutD ds lo hi)) μ
  | d => dSlice d lo hi μ
theorem ss_sl3 {P : Pm} {X : Cx} (hK : P.K = X.K) : SlS P (rSl3 X.K) dSl3 := ss_sl hK
def dAddI : D → D → Sto → R D := fun a b μ => match a, b with
  | .int i, .int j => .ok (.int (i + j)) μ
  | _, _ => .bad
/-! ### a def's datum, found in the written part -/
def fdOf (K : PySem.W.Frag) (p : Str × Option Str) : FuncData := match K.lookup (He.fAd K p) with
  | some ⟨_, _, .func fd, _⟩ => fd
  | _ => default
theorem fdOf_eq {K : PySem.W.Frag} {p : Str × Option Str} {x qual : Str} {params : Arguments} {body : List Stmt} {scope : Scope} {dvs : List V} {kws : List (Str × V)} {fd : FuncData} (F : FunD K x qual params body scope dvs kws (He.fAd K p) fd) : fdOf K p = fd := by
  obtain ⟨oc, od, dV, kV, doc, pm, an, cdv, ct, osl, rfl, lk, _, _, _⟩ := F.ex
  unfold fdOf
  rw [lk]
/-- what an exception class must be -/
def exc1 (K : PySem.W.Frag) (q : Str × List Str) : Bool := oexB K (He.ga K q.1) && (q.2.all (fun f => decide (PySem.W.findIn K (.ref (He.ga K q.1)) f = some none)) && (decide (PySem.W.findIn K (.ref (He.ga K q.1)) "__init__" = some (some (.ref (He.ma K (He.ga K q.1) "__init__")))) &&
  decide (PySem.W.typeIn K (.ref (He.ma K (He.ga K q.1) "__init__")) = some (.type "function"))))
/-- what a telling def's clauses hs make of an exception -/
def caught2 (K : PySem.W.Frag) (hs : List (List Str × Shape)) (q : Str × Shape) : Bool := xfB K (He.ga K q.1) && (q.2.flds.all (fun f => decide (PySem.W.findIn K (.ref (He.ga K q.1)) f = some none)) && decide (pickS K (He.ga K) (.ref (He.ga K q.1)) hs = some q.2))
def tdB (K : PySem.W.Frag) (q : List (List Str × Shape) × List (Str × Shape)) : Bool := q.2.all (caught2 K q.1)
/-! the module's constants -/
mutual
def conV (K : PySem.W.Frag) : Value → D → Bool
  | .int i _, .int j => decide (i = j)
  | .str z _, .str y => decide (z = y)
  | .bool b, .bl c => decide (b = c)
  | .none, .non => true
  | .ref a, .tup ds => (match K.lookup a with
    | some ⟨.type t, _, .seq its _, _⟩ => decide (t = "tuple") && (decide (its.size ≤ 1000) && conVs K its.toList ds)
    | _ => false)
  | _, _ => false
def conVs (K : PySem.W.Frag) : List Value → List D → Bool
  | [], [] => true
  | u :: us, d :: ds => conV K u d && conVs K us ds
  | _, _ => false
end
mutual
theorem conV_ok {K : PySem.W.Frag} : ∀ {u : Value} {d : D}, conV K u d = true → ∃ v, RelV v u ∧ ∀ (P : Pm) (H : Hp) (L : Lv), P.K = K → Rep P H L v d
  | u, .int j, h => by
    cases u <;> simp [conV] at h
    exact ⟨.int j, ⟨_, by rw [h]⟩, fun _ _ _ _ => .int j⟩
  | u, .str j, h => by
    cases u <;> simp [conV] at h
    exact ⟨.str j, ⟨_, by rw [h]⟩, fun _ _ _ _ => .str j⟩
  | u, .bl j, h => by
    cases u <;> simp [conV] at h
    exact ⟨.bl j, by rw [h]; rfl, fun _ _ _ _ => .bl j⟩
  | u, .non, h => by
    cases u <;> simp [conV] at h
    exact ⟨.non, rfl, fun _ _ _ _ => .non⟩
  | u, .tup ds, h => by
    cases u with
    | ref a =>
      unfold conV at h
      split at h
      · rename_i t o1 its o2 o3 e
        simp only [Bool.and_eq_true, decide_eq_true_eq] at h
        obtain ⟨h1, h2, h3⟩ := h
        subst h1
        obtain ⟨vs, r, rp⟩ := conVs_ok h3
        exact ⟨.ref a, rfl, fun P H L hK => .tup (.inr ⟨_, its, _, by rw [hK]; exact e, rfl, rfl, by rw [sizeLine_eq]; omega, r⟩) (rp P H L hK)⟩
      · cases h
    | _ => simp [conV] at h
  | u, .lst ds, h => by cases u <;> simp [conV] at h
  | u, .dct ks ds, h => by cases u <;> simp [conV] at h
  | u, .obj c ns ds, h => by cases u <;> simp [conV] at h
  | u, .cell k, h => by cases u <;> simp [conV] at h
  | u, .scr k, h => by cases u <;> simp [conV] at h
theorem conVs_ok {K : PySem.W.Frag} : ∀ {us : List Value} {ds : List D}, conVs K us ds = true → ∃ vs, Vals vs us ∧ ∀ (P : Pm) (H : Hp) (L : Lv), P.K = K → Reps P H L vs ds
  | [], [], _ => ⟨[], .nil, fun _ _ _ _ => .nil⟩
  | [], d :: ds, h => by simp [conVs] at h
  | u :: us, [], h => by simp [conVs] at h
  | u :: us, d :: ds, h => by
    simp only [conVs, Bool.and_eq_true] at h
    obtain ⟨v, r1, p1⟩ := conV_ok h.1
    obtain ⟨vs, r2, p2⟩ := conVs_ok h.2
    exact ⟨v :: vs, .cons r1 r2, fun P H L hK => .cons (p1 P H L hK) (p2 P H L hK)⟩
end
def conB (K : PySem.W.Frag) (q : Str × D) : Bool := match PySem.W.nsIn K mainGlobals q.1 with
  | some (some u) => conV K u q.2
  | _ => false
/-- a law's tables: facts, defs, defs with lambdas, exceptions raised with their fields, telling defs with what they catch, constants, classes -/
structure Lw where
  fa : List He.Fa
  fn : List He.DefD
  tf : List He.Defn
  xs : List (Str × List Str)
  tds : List (List (List Str × Shape) × List (Str × Shape))
  cn : List (Str × D)
  cs : List Str
  kds : List (Str × List (Str × D)) := []
/-- a written dict's entries are these -/
def kdL (K : PySem.W.Frag) : List DictEntry → List (Str × D) → Bool
  | [], [] => true
  | e :: es, q :: qs => (match e.key with
    | .str k _ => decide (k = q.1)
    | _ => false) && (conV K e.val q.2 && kdL K es qs)
  | _, _ => false
def kdB (K : PySem.W.Frag) (q : Str × List (Str × D)) : Bool := match K.lookup (He.ga K q.1) with
  | some ⟨_, _, .dict es _, _⟩ => kdL K es.toList q.2
  | _ => false
def Lw.ex (l : Lw) (K : PySem.W.Frag) : Bool := l.xs.all (exc1 K) && (l.tds.all (tdB K) && (l.cn.all (conB K) && (decide ((l.tf.map fun p => (He.cT K p).2).Nodup) && (l.kds.all (kdB K) && l.kds.all fun q => match PySem.W.nsIn K mainGlobals q.1 with
    | some (some (.ref a)) => decide (a = He.ga K q.1)
    | _ => false))))
/-- a law's facts -/
structure Fct (l : Lw) (P : Pm) (mg : Str → Option Value) (base : Heap) (w : World) : Prop where
  c : He.SaysD l.fa l.fn P.K
  X : P.K.In base
  G : base.Ns mainGlobals mg
  tb : ∀ p ∈ l.tf, LamX.TabB base mg (He.cT P.K p).1 (He.cT P.K p).2
  ex : l.ex P.K = true
  cls : P.cls = fun x => if x ∈ l.cs then some (He.ga P.K x) else none
  hT : P.T = l.tf.map fun p => ((He.cT P.K p).2, p.1 ++ (".<locals>." : Str) ++ ("<lambda>" : Str))
  kd : ∀ q ∈ l.kds, ∃ es n, KDict P.K w (He.ga P.K q.1) es n
def pickL (ys : List (Str × Shape)) : Str → Option Shape := fun x => ys.lookup x
section
variable {l : Lw} {P : Pm} {mg : Str → Option Value} {base : Heap} {w : World}
theorem Fct.fun_ (T : Fct l P mg base w) (i : Nat) {d : He.DefD} (h : l.fn[i]? = some d) : FunD P.K d.name d.qual d.params d.body d.scope (d.dvs P.K) (d.kws P.K) (He.fAd P.K d.at_) (fdOf P.K d.at_) := by
  obtain ⟨fd, F⟩ := T.c.def_ i h
  rw [fdOf_eq F]
  exact F
theorem Fct.glo (T : Fct l P mg base w) (i : Nat) {x : Str} (h : l.fa[i]? = some (.glo x)) : mg x = some (.ref (He.ga P.K x)) := He.glo_ok T.X T.G (T.c.fact i h)
theorem Fct.free (T : Fct l P mg base w) (i : Nat) {x : Str} (h : l.fa[i]? = some (.free x)) : mg x = none := He.free_ok T.X T.G (T.c.fact i h)
def isGlo (x : Str) : He.Fa → Bool
  | .glo y => decide (x = y)
  | _ => false
def hCb (fa : List He.Fa) (sc : Scope) (hs : List (List Str × Shape)) : Bool := hs.all fun q => decide (q.1.length ≤ 100) && q.1.all fun x => decide (sc.names.lookup x = some .globalImplicit) && (!(x == ("__debug__" : Str)) && fa.any (isGlo x))
theorem hC_of {fa : List He.Fa} (T : Fct l P mg base w) {hs : List (List Str × Shape)} {sc : Scope} (h : hCb fa sc hs = true) (hfa : l.fa = fa := by rfl) :
    ∀ q ∈ hs, q.1.length ≤ 100 ∧ ∀ x ∈ q.1, sc.names.lookup x = some .globalImplicit ∧ (x == ("__debug__" : Str)) = false ∧ mg x = some (.ref (He.ga P.K x)) := fun q hq => by
  have h1 := List.all_eq_true.mp h q hq
  obtain ⟨g1, g2⟩ := Bool.and_eq_true_iff.mp h1
  refine ⟨of_decide_eq_true g1, fun x hx => ?_⟩
  have h2 := List.all_eq_true.mp g2 x hx
  obtain ⟨g3, g4⟩ := Bool.and_eq_true_iff.mp h2
  obtain ⟨g5, g6⟩ := Bool.and_eq_true_iff.mp g4
  refine ⟨of_decide_eq_true g3, by simpa using g5, ?_⟩
  obtain ⟨f, hf, e⟩ := List.any_eq_true.mp g6
  cases f <;> simp [isGlo] at e
  subst e
  rw [← hfa] at hf
  obtain ⟨i, hi, e⟩ := List.mem_iff_getElem.mp hf
  exact T.glo i (by rw [List.getElem?_eq_getElem hi, e])
theorem Fct.exc (T : Fct l P mg base w) (i : Nat) {q : Str × List Str} (h : l.xs[i]? = some q) : OexC P.K (He.ga P.K q.1) ∧ (∀ f ∈ q.2, PySem.W.findIn P.K (.ref (He.ga P.K q.1)) f = some none) ∧ PySem.W.findIn P.K (.ref (He.ga P.K q.1)) "__init__" = some (some (.ref (He.ma P.K (He.ga P.K q.1) "__init__"))) ∧
    PySem.W.typeIn P.K (.ref (He.ma P.K (He.ga P.K q.1) "__init__")) = some (.type "function") := by
  have h1 := List.all_eq_true.mp (Bool.and_eq_true_iff.mp T.ex).1 q (List.mem_of_getElem? h)
  obtain ⟨g1, h1⟩ := Bool.and_eq_true_iff.mp h1
  obtain ⟨g2, h1⟩ := Bool.and_eq_true_iff.mp h1
  obtain ⟨g3, g4⟩ := Bool.and_eq_true_iff.mp h1
  exact ⟨oexB_ok g1, fun f hf => of_decide_eq_true (List.all_eq_true.mp g2 f hf), of_decide_eq_true g3, of_decide_eq_true g4⟩
theorem Fct.clsOf (T : Fct l P mg base w) {x : Str} (h : decide (x ∈ l.cs) = true) : P.cls x = some (He.ga P.K x) := by
  rw [T.cls]
  exact if_pos (of_decide_eq_true h)
theorem Fct.xf (T : Fct l P mg base w) (i : Nat) {hs : List (List Str × Shape)} {ys : List (Str × Shape)} (h : l.tds[i]? = some (hs, ys)) : ∀ n C sh, P.cls n = some C → pickL ys n = some sh → XfC P.K C ∧ (∀ f ∈ sh.flds, PySem.W.findIn P.K (.ref C) f = some none) ∧ pickS P.K (He.ga P.K) (.ref C) hs = some sh := fun n C sh hC hn => by
  rw [T.cls] at hC
  have hC : (if n ∈ l.cs then some (He.ga P.K n) else none) = some C := hC
  split at hC
  · cases hC
    have h1 := List.all_eq_true.mp (Bool.and_eq_true_iff.mp (Bool.and_eq_true_iff.mp T.ex).2).1 _ (List.mem_of_getElem? h)
    have mem : ∀ {zs : List (Str × Shape)}, zs.lookup n = some sh → (n, sh) ∈ zs := by
      intro zs
      induction zs with
      | nil => intro z; cases z
      | cons q r ih =>
        intro z
        rw [List.lookup_cons] at z
        by_cases e : n = q.1
        · have e2 : (n == q.1) = true := by simp [e]
          rw [e2] at z
          cases z
          rw [e]; exact List.mem_cons_self
        · have e2 : (n == q.1) = false := by simp [e]
          rw [e2] at z
          exact List.mem_cons_of_mem _ (ih z)
    have h2 := List.all_eq_true.mp h1 (n, sh) (mem hn)
    obtain ⟨g1, h2⟩ := Bool.and_eq_true_iff.mp h2
    obtain ⟨g2, g3⟩ := Bool.and_eq_true_iff.mp h2
    exact ⟨xfB_ok g1, fun f hf => of_decide_eq_true (List.all_eq_true.mp g2 f hf), of_decide_eq_true g3⟩
  · cases hC
theorem Fct.con (T : Fct l P mg base w) (i : Nat) {x : Str} {d : D} (h : l.cn[i]? = some (x, d)) : ∃ u v, mg x = some u ∧ RelV v u ∧ ∀ (H : Hp) (L : Lv), Rep P H L v d := by
  have h1 := List.all_eq_true.mp (Bool.and_eq_true_iff.mp (Bool.and_eq_true_iff.mp (Bool.and_eq_true_iff.mp T.ex).2).2).1 _ (List.mem_of_getElem? h)
  unfold conB at h1
  split at h1
  · rename_i u e
    obtain ⟨v, r, p⟩ := conV_ok h1
    exact ⟨u, v, PySem.W.mg_of T.X T.G e, r, fun H L => p P H L rfl⟩
  · cases h1
theorem Fct.name (T : Fct l P mg base w) {W : WX} {X : Cx} {pos : Pos} {x : Str} {d : D} (i : Nat) (h : l.cn[i]? = some (x, d)) (hmg : X.mg = mg) (hg : Gl X x) (hd : (x == ("__debug__" : Str)) = false := by decide) : VE P W X (.Name x pos) (eC d) := by
  obtain ⟨u, v, h1, h2, h3⟩ := T.con i h
  exact ve_c (pe_glob hg (by rw [hmg]; exact h1) h2 hd) fun L H => h3 H L
theorem Fct.tm (T : Fct l P mg base w) (i : Nat) {p : He.Defn} (h : l.tf[i]? = some p) {q : Str} (hq : q = p.1 ++ (".<locals>." : Str) ++ ("<lambda>" : Str)) : ((He.cT P.K p).2, q) ∈ P.T := by
  rw [T.hT, hq]
  exact List.mem_map.mpr ⟨p, List.mem_of_getElem? h, rfl⟩
theorem Fct.tu (T : Fct l P mg base w) (i : Nat) {p : He.Defn} (h : l.tf[i]? = some p) {q : Str} (hq : q = p.1 ++ (".<locals>." : Str) ++ ("<lambda>" : Str)) : ∀ z ∈ P.T, z.1 = (He.cT P.K p).2 → z.2 = q := fun z hz e => by
  rw [T.hT] at hz
  obtain ⟨p', hp', e'⟩ := List.mem_map.mp hz
  have nd := of_decide_eq_true (Bool.and_eq_true_iff.mp (Bool.and_eq_true_iff.mp (Bool.and_eq_true_iff.mp (Bool.and_eq_true_iff.mp T.ex).2).2).2).1
  rw [← e'] at e
  have e : (He.cT P.K p').2 = (He.cT P.K p).2 := e
  have : p' = p := by
    obtain ⟨j, hj, ej⟩ := List.mem_iff_getElem.mp hp'
    obtain ⟨hi, ei⟩ := List.getElem?_eq_some_iff.mp h
    have nd := List.pairwise_iff_getElem.mp nd
    have this : j = i := by
      rcases Nat.lt_trichotomy j i with z | z | z
      · exact (nd j i (by simpa using hj) (by simpa using hi) z (by simp only [List.getElem_map]; rw [ej, ei]; exact e)).elim
      · exact z
      · exact (nd i j (by simpa using hi) (by simpa using hj) z (by simp only [List.getElem_map]; rw [ej, ei]; exact e.symm)).elim
    subst this
    rw [← ej, ← ei]
  subst this
  rw [← e', hq]
end
/-- a written dict: its value, what stands at a key -/
structure KdAt (P : Pm) (w : World) (a : Addr) (kvs : List (Str × D)) : Prop where
  kd : ∃ es n, KDict P.K w a es n
  get : ∀ z : Str, ∃ r, PySem.W.nsIn P.K a z = some r ∧ ((kvs.lookup z = none ∧ r = none) ∨ ∃ d u v, kvs.lookup z = some d ∧ r = some u ∧ RelV v u ∧ ∀ (H : Hp) (L : Lv), Rep P H L v d)
section
variable {l : Lw} {P : Pm} {mg : Str → Option Value} {base : Heap} {w : World}
end
/-! ### a def with lambdas -/
section
variable {P : Pm} {Pr : Program} {w : World} {mg : Str → Option Value} {base : Heap} {x qual : Str} {params : Arguments} {body : List Stmt} {scope : Scope} {dvs : List V} {kws : List (Str × V)} {p : Str × Option Str} {N ps : List Str} {k n : Nat}
end
end L3

namespace Pf
open PySem PySem.Spec PyProof.Rows L2 L3
abbrev hs__law_tried : List (List Str × L3.Shape) := [(["NeverError"], .w), (["Missing"], .w)]
abbrev ys__law_tried : List (Str × L3.Shape) := [("ByNought", .w), ("Unfit", .w)]
end Pf

namespace Pf
open PySem PySem.Spec PyProof.Rows L2 L3
def top (i : Nat) : Stmt := PySem.Challenge.pw_nevernought_k04_tables_reckoned.main.body.getD i (.Pass ⟨0, 0, 0, 0⟩)
abbrev s__law_tried : Stmt := top 29
theorem sc__law_tried : FnScope ["_law_ask", "e"] ["_law_ask"] (defScope s__law_tried) := ⟨rfl, rfl, rfl, by decide +kernel, rfl, by decide +kernel, by decide +kernel⟩
abbrev s__law_bag : Stmt := top 26
theorem sc__law_bag : FnScope ["_law_script", "_law_salt", "_law_cell"] ["_law_script"] (defScope s__law_bag) := ⟨rfl, rfl, rfl, by decide +kernel, rfl, by decide +kernel, by decide +kernel⟩
abbrev s__law_pull : Stmt := top 27
theorem sc__law_pull : FnScope ["_law_bag_here", "_law_sides", "_law_cell", "_law_got", "_law_seed"] ["_law_bag_here", "_law_sides"] (defScope s__law_pull) := ⟨rfl, rfl, rfl, by decide +kernel, rfl, by decide +kernel, by decide +kernel⟩
abbrev s__law_gcd : Stmt := top 30
theorem sc__law_gcd : FnScope ["_law_one", "_law_other"] ["_law_one", "_law_other"] (defScope s__law_gcd) := ⟨rfl, rfl, rfl, by decide +kernel, rfl, by decide +kernel, by decide +kernel⟩
abbrev s__law_fr : Stmt := top 31
theorem sc__law_fr : FnScope ["_law_top", "_law_bottom", "_law_per"] ["_law_top", "_law_bottom"] (defScope s__law_fr) := ⟨rfl, rfl, rfl, by decide +kernel, rfl, by decide +kernel, by decide +kernel⟩
abbrev s__law_light : Stmt := top 35
theorem sc__law_light : FnScope ["_law_bag_here"] ["_law_bag_here"] (defScope s__law_light) := ⟨rfl, rfl, rfl, by decide +kernel, rfl, by decide +kernel, by decide +kernel⟩
abbrev s__law_grid : Stmt := top 36
theorem sc__law_grid : FnScope ["_law_bag_here", "_law_size", "_law_row", "_law_column"] ["_law_bag_here", "_law_size"] (defScope s__law_grid) := ⟨rfl, rfl, rfl, by decide +kernel, rfl, by decide +kernel, by decide +kernel⟩
abbrev s__law_share : Stmt := top 34
theorem sc__law_share : FnScope ["_law_bag_here", "_law_way"] ["_law_bag_here"] (defScope s__law_share) := ⟨rfl, rfl, rfl, by decide +kernel, rfl, by decide +kernel, by decide +kernel⟩
abbrev s__law_mul : Stmt := top 33
theorem sc__law_mul : FnScope ["_law_one", "_law_other"] ["_law_one", "_law_other"] (defScope s__law_mul) := ⟨rfl, rfl, rfl, by decide +kernel, rfl, by decide +kernel, by decide +kernel⟩
abbrev s__law_tscale : Stmt := top 38
theorem sc__law_tscale : FnScope ["_law_one", "_law_per", "_law_row", "_law_x"] ["_law_one", "_law_per"] (defScope s__law_tscale) := ⟨rfl, rfl, rfl, by decide +kernel, rfl, by decide +kernel, by decide +kernel⟩
abbrev s_need_like : Stmt := top 17
theorem sc_need_like : FnScope ["one", "other"] ["one", "other"] (defScope s_need_like) := ⟨rfl, rfl, rfl, by decide +kernel, rfl, by decide +kernel, by decide +kernel⟩
abbrev s_divisor : Stmt := top 8
theorem sc_divisor : FnScope ["one", "other"] ["one", "other"] (defScope s_divisor) := ⟨rfl, rfl, rfl, by decide +kernel, rfl, by decide +kernel, by decide +kernel⟩
abbrev s_share : Stmt := top 10
theorem sc_share : FnScope ["top", "bottom", "by"] ["top", "bottom"] (defScope s_share) := ⟨rfl, rfl, rfl, by decide +kernel, rfl, by decide +kernel, by decide +kernel⟩
abbrev s_plus : Stmt := top 11
theorem sc_plus : FnScope ["one", "other"] ["one", "other"] (defScope s_plus) := ⟨rfl, rfl, rfl, by decide +kernel, rfl, by decide +kernel, by decide +kernel⟩
abbrev s_added : Stmt := top 18
theorem sc_added : FnScope ["one", "other", "row", "beside", "x", "y"] ["one", "other"] (defScope s_added) := ⟨rfl, rfl, rfl, by decide +kernel, rfl, by decide +kernel, by decide +kernel⟩
abbrev s_less : Stmt := top 12
theorem sc_less : FnScope ["one", "other"] ["one", "other"] (defScope s_less) := ⟨rfl, rfl, rfl, by decide +kernel, rfl, by decide +kernel, by decide +kernel⟩
abbrev s_taken : Stmt := top 19
theorem sc_taken : FnScope ["one", "other", "row", "beside", "x", "y"] ["one", "other"] (defScope s_taken) := ⟨rfl, rfl, rfl, by decide +kernel, rfl, by decide +kernel, by decide +kernel⟩
abbrev s_multiple : Stmt := top 9
theorem sc_multiple : FnScope ["numbers", "found", "number"] ["numbers"] (defScope s_multiple) := ⟨rfl, rfl, rfl, by decide +kernel, rfl, by decide +kernel, by decide +kernel⟩
abbrev s_wholes : Stmt := top 15
theorem sc_wholes : FnScope ["row", "by", "top", "bottom"] ["row"] (defScope s_wholes) := ⟨rfl, rfl, rfl, by decide +kernel, rfl, by decide +kernel, by decide +kernel⟩
abbrev s_as_wholes : Stmt := top 21
theorem sc_as_wholes : FnScope ["one", "row", "size", "k", "part", "x"] ["one"] (defScope s_as_wholes) := ⟨rfl, rfl, rfl, by decide +kernel, rfl, by decide +kernel, by decide +kernel⟩
abbrev s_as_shares : Stmt := top 22
theorem sc_as_shares : FnScope ["rows", "below", "row", "number"] ["rows", "below"] (defScope s_as_shares) := ⟨rfl, rfl, rfl, by decide +kernel, rfl, by decide +kernel, by decide +kernel⟩
abbrev s_product : Stmt := top 23
theorem sc_product : FnScope ["one", "other", "left", "below", "right", "beside", "columns", "rows", "k", "row", "column", "x", "y"] ["one", "other"] (defScope s_product) := ⟨rfl, rfl, rfl, by decide +kernel, rfl, by decide +kernel, by decide +kernel⟩
abbrev s_times : Stmt := top 13
theorem sc_times : FnScope ["one", "other"] ["one", "other"] (defScope s_times) := ⟨rfl, rfl, rfl, by decide +kernel, rfl, by decide +kernel, by decide +kernel⟩
abbrev s_scaled : Stmt := top 20
theorem sc_scaled : FnScope ["one", "by", "row", "x"] ["one", "by"] (defScope s_scaled) := ⟨rfl, rfl, rfl, by decide +kernel, rfl, by decide +kernel, by decide +kernel⟩
abbrev s__law_add : Stmt := top 32
theorem sc__law_add : FnScope ["_law_one", "_law_other"] ["_law_one", "_law_other"] (defScope s__law_add) := ⟨rfl, rfl, rfl, by decide +kernel, rfl, by decide +kernel, by decide +kernel⟩
abbrev s__law_tadd : Stmt := top 37
theorem sc__law_tadd : FnScope ["_law_one", "_law_other", "_law_row", "_law_line", "_law_x", "_law_y"] ["_law_one", "_law_other"] (defScope s__law_tadd) := ⟨rfl, rfl, rfl, by decide +kernel, rfl, by decide +kernel, by decide +kernel⟩
abbrev s__law_dot : Stmt := top 39
theorem sc__law_dot : FnScope ["_law_row", "_law_column", "_law_found", "_law_x", "_law_y"] ["_law_row", "_law_column"] (defScope s__law_dot) := ⟨rfl, rfl, rfl, by decide +kernel, rfl, by decide +kernel, by decide +kernel⟩
abbrev s__law_tmul : Stmt := top 40
theorem sc__law_tmul : FnScope ["_law_one", "_law_other", "_law_columns", "_law_k", "_law_row", "_law_column"] ["_law_one", "_law_other"] (defScope s__law_tmul) := ⟨rfl, rfl, rfl, by decide +kernel, rfl, by decide +kernel, by decide +kernel⟩
abbrev s__law_same : Stmt := top 28
theorem sc__law_same : FnScope ["_law_found", "_law_due", "_law_k"] ["_law_found", "_law_due"] (defScope s__law_same) := ⟨rfl, rfl, rfl, by decide +kernel, rfl, by decide +kernel, by decide +kernel⟩
abbrev s_corners : Stmt := top 24
theorem sc_corners : FnScope ["one", "other", "high", "low", "row"] ["one", "other"] (defScope s_corners) := ⟨rfl, rfl, rfl, by decide +kernel, rfl, by decide +kernel, by decide +kernel⟩
abbrev s_law : Stmt := top 41
theorem sc_law : FnScope ["_law_script", "_law_bag_here", "_law_turn", "_law_size", "_law_far", "_law_other", "_law_per", "_law_text", "_law_less_other", "_law_found", "_law_due", "_law_table", "_law_wide", "_law_asks", "_law_one", "_law_third", "_law_row", "_law_ask"] ["_law_script"] (defScope s_law) := ⟨rfl, rfl, rfl, by decide +kernel, rfl, by decide +kernel, by decide +kernel⟩
abbrev sx_ByNought : Stmt := inClass (top 2) 0
theorem scx_ByNought : FnScope ["self"] ["self"] (defScope sx_ByNought) := ⟨rfl, rfl, rfl, by decide +kernel, rfl, by decide +kernel, by decide +kernel⟩
abbrev sx_Unfit : Stmt := inClass (top 3) 0
theorem scx_Unfit : FnScope ["self"] ["self"] (defScope sx_Unfit) := ⟨rfl, rfl, rfl, by decide +kernel, rfl, by decide +kernel, by decide +kernel⟩
def fn : List He.DefD := [⟨("_law_tried", none), "_law_tried", "_law_tried", defArgs s__law_tried, defBody s__law_tried, defScope s__law_tried, [], []⟩,
  ⟨("_law_bag", none), "_law_bag", "_law_bag", defArgs s__law_bag, defBody s__law_bag, defScope s__law_bag, [], []⟩,
  ⟨("_law_pull", none), "_law_pull", "_law_pull", defArgs s__law_pull, defBody s__law_pull, defScope s__law_pull, [], []⟩,
  ⟨("_law_gcd", none), "_law_gcd", "_law_gcd", defArgs s__law_gcd, defBody s__law_gcd, defScope s__law_gcd, [], []⟩,
  ⟨("_law_fr", none), "_law_fr", "_law_fr", defArgs s__law_fr, defBody s__law_fr, defScope s__law_fr, [], []⟩,
  ⟨("_law_light", none), "_law_light", "_law_light", defArgs s__law_light, defBody s__law_light, defScope s__law_light, [], []⟩,
  ⟨("_law_grid", none), "_law_grid", "_law_grid", defArgs s__law_grid, defBody s__law_grid, defScope s__law_grid, [], []⟩,
  ⟨("_law_share", none), "_law_share", "_law_share", defArgs s__law_share, defBody s__law_share, defScope s__law_share, [], []⟩,
  ⟨("_law_mul", none), "_law_mul", "_law_mul", defArgs s__law_mul, defBody s__law_mul, defScope s__law_mul, [], []⟩,
  ⟨("_law_tscale", none), "_law_tscale", "_law_tscale", defArgs s__law_tscale, defBody s__law_tscale, defScope s__law_tscale, [], []⟩,
  ⟨("need_like", none), "need_like", "need_like", defArgs s_need_like, defBody s_need_like, defScope s_need_like, [], []⟩,
  ⟨("divisor", none), "divisor", "divisor", defArgs s_divisor, defBody s_divisor, defScope s_divisor, [], []⟩,
  ⟨("share", none), "share", "share", defArgs s_share, defBody s_share, defScope s_share, [.int 1], []⟩,
  ⟨("plus", none), "plus", "plus", defArgs s_plus, defBody s_plus, defScope s_plus, [], []⟩,
  ⟨("added", none), "added", "added", defArgs s_added, defBody s_added, defScope s_added, [], []⟩,
  ⟨("less", none), "less", "less", defArgs s_less, defBody s_less, defScope s_less, [], []⟩,
  ⟨("taken", none), "taken", "taken", defArgs s_taken, defBody s_taken, defScope s_taken, [], []⟩,
  ⟨("multiple", none), "multiple", "multiple", defArgs s_multiple, defBody s_multiple, defScope s_multiple, [], []⟩,
  ⟨("wholes", none), "wholes", "wholes", defArgs s_wholes, defBody s_wholes, defScope s_wholes, [], []⟩,
  ⟨("as_wholes", none), "as_wholes", "as_wholes", defArgs s_as_wholes, defBody s_as_wholes, defScope s_as_wholes, [], []⟩,
  ⟨("as_shares", none), "as_shares", "as_shares", defArgs s_as_shares, defBody s_as_shares, defScope s_as_shares, [], []⟩,
  ⟨("product", none), "product", "product", defArgs s_product, defBody s_product, defScope s_product, [], []⟩,
  ⟨("times", none), "times", "times", defArgs s_times, defBody s_times, defScope s_times, [], []⟩,
  ⟨("scaled", none), "scaled", "scaled", defArgs s_scaled, defBody s_scaled, defScope s_scaled, [], []⟩,
  ⟨("_law_add", none), "_law_add", "_law_add", defArgs s__law_add, defBody s__law_add, defScope s__law_add, [], []⟩,
  ⟨("_law_tadd", none), "_law_tadd", "_law_tadd", defArgs s__law_tadd, defBody s__law_tadd, defScope s__law_tadd, [], []⟩,
  ⟨("_law_dot", none), "_law_dot", "_law_dot", defArgs s__law_dot, defBody s__law_dot, defScope s__law_dot, [], []⟩,
  ⟨("_law_tmul", none), "_law_tmul", "_law_tmul", defArgs s__law_tmul, defBody s__law_tmul, defScope s__law_tmul, [], []⟩,
  ⟨("_law_same", none), "_law_same", "_law_same", defArgs s__law_same, defBody s__law_same, defScope s__law_same, [], []⟩,
  ⟨("corners", none), "corners", "corners", defArgs s_corners, defBody s_corners, defScope s_corners, [], []⟩,
  ⟨("law", none), "law", "law", defArgs s_law, defBody s_law, defScope s_law, [], []⟩,
  ⟨("ByNought", some "__init__"), "__init__", "ByNought.__init__", defArgs sx_ByNought, defBody sx_ByNought, defScope sx_ByNought, [], []⟩,
  ⟨("Unfit", some "__init__"), "__init__", "Unfit.__init__", defArgs sx_Unfit, defBody sx_Unfit, defScope sx_Unfit, [], []⟩]
def fa : List He.Fa := [.glo "_law_tried", .glo "_law_bag", .glo "_law_pull", .glo "_law_gcd", .glo "_law_fr", .glo "_law_light", .glo "_law_grid", .glo "_law_share", .glo "_law_mul", .glo "_law_tscale", .glo "need_like", .glo "divisor", .glo "share", .glo "plus", .glo "added", .glo "less", .glo "taken", .glo "multiple", .glo "wholes", .glo "as_wholes", .glo "as_shares", .glo "product", .glo "times", .glo "scaled", .glo "_law_add", .glo "_law_tadd", .glo "_law_dot", .glo "_law_tmul", .glo "_law_same", .glo "corners", .glo "law", .glo "ByNought", .glo "Unfit", .free "abs", .free "all", .free "bool", .free "int", .free "isinstance", .free "len", .free "list", .free "range", .free "repr", .free "str", .free "sum", .free "tuple", .free "zip", .glo "NeverError", .glo "Missing"]
def tf : List He.Defn := [("law", none)]
def lw : Lw := ⟨fa, fn, tf, [("ByNought", ["word"]), ("Unfit", ["word"])], [(hs__law_tried, ys__law_tried)], [("ONE", .tup [.int 1, .int 1]), ("NOUGHT", .tup [.int 0, .int 1])], ["ByNought", "Unfit"], []⟩
abbrev T0 (P : Pm) (mg : Str → Option Value) (base : Heap) (w : World) : Prop := Fct lw P mg base w
end Pf

namespace Pf
open PySem PySem.Spec PyProof.Rows L2 L3
def ex : PySem.W.Frag → Bool := lw.ex
abbrev Rw : PySem.W.OpenRow := PySem.W.OpenLaw.row PySem.Challenge.rw_nevernought_k04_tables_reckoned
def tsk : List He.Tab := lw.kds.map fun q => (fun K => He.ga K q.1, q.2.map (·.1))
abbrev hk : PySem.W.Hook := He.hookX 4 fa fn tsk tf ex
def ob (s : PySem.W.SharedT) : He.AlX := He.obsX 4 fa fn tsk tf ex (HandSHeadRun.getT s)
theorem ob_eq (s : PySem.W.SharedT) : ob s = hk.obs s.abs := He.obsX_eq (HandSHeadRun.getT_eq s)
abbrev loose : List PySem.Str := [("NeverError" : PySem.Str), ("ByNought" : PySem.Str), ("Unfit" : PySem.Str), ("Missing" : PySem.Str), ("divisor" : PySem.Str), ("multiple" : PySem.Str), ("share" : PySem.Str), ("plus" : PySem.Str), ("less" : PySem.Str), ("times" : PySem.Str), ("wholes" : PySem.Str), ("need_like" : PySem.Str), ("added" : PySem.Str), ("taken" : PySem.Str), ("scaled" : PySem.Str), ("as_wholes" : PySem.Str), ("as_shares" : PySem.Str), ("product" : PySem.Str), ("corners" : PySem.Str), ("_law_bag" : PySem.Str), ("_law_pull" : PySem.Str), ("_law_same" : PySem.Str), ("_law_tried" : PySem.Str), ("_law_gcd" : PySem.Str), ("_law_fr" : PySem.Str), ("_law_add" : PySem.Str), ("_law_mul" : PySem.Str), ("_law_share" : PySem.Str), ("_law_light" : PySem.Str), ("_law_grid" : PySem.Str), ("_law_tadd" : PySem.Str), ("_law_tscale" : PySem.Str), ("_law_dot" : PySem.Str), ("_law_tmul" : PySem.Str), ("NOUGHT" : PySem.Str), ("ONE" : PySem.Str)]
theorem hrun (w : World) : HandSHeadRun.RunEq Rw (PySem.W.view Rw.prog [41]) hk ob 8000 loose w := by
  intro os
  kernel_rfl
end Pf

namespace L3
open PySem PySem.Spec PyProof.Rows L2
/-! ### what a piece of code comes to, asked from behind -/
abbrev Exs := Str → List Str → List D → Sto → Prop
def R.wp {α : Type} (r : R α) (Q : α → Sto → Prop) (E : Exs) : Prop := match r with
  | .ok a μ => Q a μ
  | .exc c ns vs μ => E c ns vs μ
  | .bad => False
def RS.wp (r : RS) (N : Env → Sto → Prop) (T : D → Sto → Prop) (B C : Env → Sto → Prop) (E : Exs) : Prop := match r with
  | .nx ρ μ => N ρ μ
  | .rt d μ => T d μ
  | .bk ρ μ => B ρ μ
  | .ct ρ μ => C ρ μ
  | .exc c ns vs ρ μ => E c ns vs μ
  | .bad => False
abbrev noP : Env → Sto → Prop := fun _ _ => False
abbrev noE : Exs := fun _ _ _ _ => False
section
variable {α β : Type} {Q Q' : α → Sto → Prop} {E E' : Exs} {r : R α} {k : α → Sto → R β} {ρ : Env} {μ : Sto}
theorem wp_mono (h : r.wp Q E) (i : ∀ a μ, Q a μ → Q' a μ) (j : ∀ c ns vs μ, E c ns vs μ → E' c ns vs μ) : r.wp Q' E' := by
  cases r with
  | ok a μ => exact i _ _ h
  | exc c ns vs μ => exact j _ _ _ _ h
  | bad => exact h
theorem wp_get (h : r.wp Q noE) : ∃ a μ, r = .ok a μ ∧ Q a μ := by
  cases r with
  | ok a μ => exact ⟨a, μ, rfl, h⟩
  | exc c ns vs μ => exact h.elim
  | bad => exact h.elim
theorem wp_bind {Q : β → Sto → Prop} (h : r.wp (fun a μ => (k a μ).wp Q E) E) : (r.bind k).wp Q E := by
  cases r with
  | ok a μ => exact h
  | exc c ns vs μ => exact h
  | bad => exact h
theorem wp_thn {k : α → Sto → RS} {N : Env → Sto → Prop} {T : D → Sto → Prop} {B C : Env → Sto → Prop} (h : r.wp (fun a μ => (k a μ).wp N T B C E) E) : (r.thn ρ k).wp N T B C E := by
  cases r with
  | ok a μ => exact h
  | exc c ns vs μ => exact h
  | bad => exact h
theorem wp_nox {α : Type} {r : R α} {Q : α → Sto → Prop} (h : r.wp Q noE) : r.nox.wp Q E := by
  cases r with
  | ok a μ => exact h
  | exc c ns vs μ => exact h.elim
  | bad => exact h
end
section
variable {Q : D → Sto → Prop} {QB : Bool → Sto → Prop} {QA : List D → Sto → Prop} {E : Exs} {ρ : Env} {μ : Sto} {f f1 f2 : SE} {t t1 t2 : ST} {fa : SA} {g : D → D → Sto → R D}
theorem wp_var {i : Nat} {d : D} (h : ρ[i]? = some (some d)) (q : Q d μ) : (eVar i ρ μ).wp Q E := by unfold eVar; rw [h]; exact q
theorem wp_varE {i : Nat} (h : ∃ d, ρ[i]? = some (some d) ∧ Q d μ) : (eVar i ρ μ).wp Q E := let ⟨d, h1, h2⟩ := h; wp_var h1 h2
theorem wp_c {d : D} (q : Q d μ) : (eC d ρ μ).wp Q E := q
theorem wp_B (h : (f1 ρ μ).wp (fun a μ1 => (f2 ρ μ1).wp (fun b μ2 => (g a b μ2).wp Q E) E) E) : (eB g f1 f2 ρ μ).wp Q E := wp_bind (wp_mono h (fun a μ1 z => wp_bind z) fun _ _ _ _ z => z)
theorem wp_U {g : D → Sto → R D} (h : (f ρ μ).wp (fun a μ1 => (g a μ1).wp Q E) E) : (eU g f ρ μ).wp Q E := wp_bind h
theorem wp_T (h : (f ρ μ).wp (fun d μ1 => ∃ c, d = .bl c ∧ QB c μ1) E) : (eT f ρ μ).wp QB E := wp_bind (wp_mono h (fun a μ1 ⟨c, e, q⟩ => by subst e; exact q) fun _ _ _ _ z => z)
theorem wp_andT (h : (t1 ρ μ).wp (fun c μ1 => (c = true → (t2 ρ μ1).wp QB E) ∧ (c = false → QB false μ1)) E) : (eAndT t1 t2 ρ μ).wp QB E := wp_bind (wp_mono h (fun c μ1 ⟨h1, h2⟩ => by cases c; exact h2 rfl; exact h1 rfl) fun _ _ _ _ z => z)
theorem wp_orT (h : (t1 ρ μ).wp (fun c μ1 => (c = true → QB true μ1) ∧ (c = false → (t2 ρ μ1).wp QB E)) E) : (eOrT t1 t2 ρ μ).wp QB E := wp_bind (wp_mono h (fun c μ1 ⟨h1, h2⟩ => by cases c; exact h2 rfl; exact h1 rfl) fun _ _ _ _ z => z)
theorem wp_notT (h : (t ρ μ).wp (fun c μ1 => QB (!c) μ1) E) : (eNotT t ρ μ).wp QB E := wp_bind h
theorem wp_andV (h : (f1 ρ μ).wp (fun d μ1 => ∃ c, d = .bl c ∧ (c = true → (f2 ρ μ1).wp Q E) ∧ (c = false → Q (.bl false) μ1)) E) : (eAndV f1 f2 ρ μ).wp Q E := wp_bind (wp_mono h (fun a μ1 ⟨c, e, h1, h2⟩ => by subst e; cases c; exact h2 rfl; exact h1 rfl) fun _ _ _ _ z => z)
theorem wp_orV (h : (f1 ρ μ).wp (fun d μ1 => ∃ c, d = .bl c ∧ (c = true → Q (.bl true) μ1) ∧ (c = false → (f2 ρ μ1).wp Q E)) E) : (eOrV f1 f2 ρ μ).wp Q E := wp_bind (wp_mono h (fun a μ1 ⟨c, e, h1, h2⟩ => by subst e; cases c; exact h2 rfl; exact h1 rfl) fun _ _ _ _ z => z)
theorem wp_notV (h : (f1 ρ μ).wp (fun d μ1 => ∃ c, d = .bl c ∧ Q (.bl (!c)) μ1) E) : (eNotV f1 ρ μ).wp Q E := wp_bind (wp_mono h (fun a μ1 ⟨c, e, h1⟩ => by subst e; exact h1) fun _ _ _ _ z => z)
theorem wp_if (h : (t ρ μ).wp (fun c μ1 => (c = true → (f1 ρ μ1).wp Q E) ∧ (c = false → (f2 ρ μ1).wp Q E)) E) : (eIf t f1 f2 ρ μ).wp Q E := wp_bind (wp_mono h (fun c μ1 ⟨h1, h2⟩ => by cases c; exact h2 rfl; exact h1 rfl) fun _ _ _ _ z => z)
theorem wp_nil (q : QA [] μ) : (aNil ρ μ).wp QA E := q
theorem wp_cons (h : (f ρ μ).wp (fun d μ1 => (fa ρ μ1).wp (fun ds μ2 => QA (d :: ds) μ2) E) E) : (aCons f fa ρ μ).wp QA E := wp_bind (wp_mono h (fun d μ1 z => wp_bind z) fun _ _ _ _ z => z)
theorem wp_tup (h : (fa ρ μ).wp (fun ds μ1 => ds.length ≤ 100 ∧ Q (.tup ds) μ1) E) : (eTup fa ρ μ).wp Q E := wp_bind (wp_mono h (fun ds μ1 ⟨a, b⟩ => by rw [if_pos a]; exact b) fun _ _ _ _ z => z)
theorem wp_lst (h : (fa ρ μ).wp (fun ds μ1 => ds.length ≤ 100 ∧ Q (.lst ds) μ1) E) : (eLst fa ρ μ).wp Q E := wp_bind (wp_mono h (fun ds μ1 ⟨a, b⟩ => by rw [if_pos a]; exact b) fun _ _ _ _ z => z)
theorem wp_lstC (h : (fa ρ μ).wp (fun ds μ1 => ds.length ≤ 100 ∧ Q (.cell μ1.length) (μ1 ++ [.lst ds])) E) : (eLstC fa ρ μ).wp Q E := wp_bind (wp_mono h (fun ds μ1 ⟨a, b⟩ => by rw [if_pos a]; exact b) fun _ _ _ _ z => z)
theorem wp_call {n : Nat} {g : List D → Sto → R D} (h : (fa ρ μ).wp (fun ds μ1 => ds.length = n ∧ (g ds μ1).wp Q E) E) : (eCall n g fa ρ μ).wp Q E := wp_bind (wp_mono h (fun ds μ1 ⟨a, b⟩ => by rw [if_pos a]; exact b) fun _ _ _ _ z => z)
theorem wp_callD {m : Nat} {dd : List D} {g : List D → Sto → R D} (h : (fa ρ μ).wp (fun ds μ1 => ds.length = m ∧ (g (ds ++ dd) μ1).wp Q E) E) : (eCallD m dd g fa ρ μ).wp Q E := wp_bind (wp_mono h (fun ds μ1 ⟨a, b⟩ => by rw [if_pos a]; exact b) fun _ _ _ _ z => z)
theorem wp_callB {g : List D → Sto → R D} (h : (fa ρ μ).wp (fun ds μ1 => (g ds μ1).wp Q E) E) : (eCallB g fa ρ μ).wp Q E := wp_bind h
theorem wp_m {T : String} {g : D → List D → Sto → R D} (h : (f ρ μ).wp (fun d μ1 => isTy T μ1 d = true ∧ (fa ρ μ1).wp (fun ds μ2 => (g d ds μ2).wp Q E) E) E) : (eM T g f fa ρ μ).wp Q E := wp_bind (wp_mono h (fun d μ1 ⟨a, b⟩ => by rw [if_pos a]; exact wp_bind b) fun _ _ _ _ z => z)
theorem wp_oNone {QO : Option Int → Sto → Prop} (q : QO none μ) : (oNone ρ μ).wp QO E := q
theorem wp_oSome {QO : Option Int → Sto → Prop} (h : (f ρ μ).wp (fun d μ1 => ∃ i, d = .int i ∧ QO (some i) μ1) E) : (oSome f ρ μ).wp QO E := wp_bind (wp_mono h (fun d μ1 ⟨i, e, q⟩ => by subst e; exact q) fun _ _ _ _ z => z)
theorem wp_sl {g : D → Option Int → Option Int → Sto → R D} {fl fh : SO} (h : (f ρ μ).wp (fun d μ1 => (fl ρ μ1).wp (fun lo μ2 => (fh ρ μ2).wp (fun hi μ3 => (g d lo hi μ3).wp Q E) E) E) E) : (eSl g f fl fh ρ μ).wp Q E :=
  wp_bind (wp_mono h (fun d μ1 z => wp_bind (wp_mono z (fun _ _ z => wp_bind z) fun _ _ _ _ z => z)) fun _ _ _ _ z => z)
theorem wp_tried {caught : Str → Bool} (h : (f ρ μ).wp (fun d μ1 => Q (.tup [.str "told", d]) μ1) (fun c ns vs μ1 => caught c = true ∧ ∃ d, lookD "word" ns vs = some d ∧ Q (.tup [.str "no", d]) μ1)) : (eTried caught f ρ μ).wp Q E := by
  unfold eTried
  cases e : f ρ μ with
  | bad => rw [e] at h; exact h
  | ok d μ1 => rw [e] at h; exact h
  | exc c ns vs μ1 =>
    rw [e] at h
    obtain ⟨h1, d, h2, h3⟩ := h
    dsimp only
    rw [if_pos h1, h2]
    exact h3
theorem wp_fn {n : Nat} {b : SS} {ds : List D} (h : (b (ds.map some ++ List.replicate (n - ds.length) none) μ).wp (fun _ μ' => Q .non μ') Q noP noP E) : (fnF n b ds μ).wp Q E := by
  unfold fnF
  generalize b (ds.map some ++ List.replicate (n - ds.length) none) μ = r at h
  cases r <;> exact h
end
section
variable {N N' : Env → Sto → Prop} {T T' : D → Sto → Prop} {B B' C C' : Env → Sto → Prop} {E E' : Exs} {ρ : Env} {μ : Sto} {f g : SS} {fe fo fi : SE} {t : ST} {fa : SA}
theorem wp_sMono {r : RS} (h : r.wp N T B C E) (hN : ∀ ρ μ, N ρ μ → N' ρ μ) (hT : ∀ d μ, T d μ → T' d μ) (hB : ∀ ρ μ, B ρ μ → B' ρ μ) (hC : ∀ ρ μ, C ρ μ → C' ρ μ) (hE : ∀ c ns vs μ, E c ns vs μ → E' c ns vs μ) : r.wp N' T' B' C' E' := by
  cases r with
  | nx ρ μ => exact hN _ _ h
  | rt ρ μ => exact hT _ _ h
  | bk ρ μ => exact hB _ _ h
  | ct ρ μ => exact hC _ _ h
  | exc c ns vs ρ μ => exact hE _ _ _ _ h
  | bad => exact h
theorem wp_sNil (q : N ρ μ) : (sNil ρ μ).wp N T B C E := q
theorem wp_sSeq (h : (f ρ μ).wp (fun ρ1 μ1 => (g ρ1 μ1).wp N T B C E) T B C E) : (sSeq f g ρ μ).wp N T B C E := by
  unfold sSeq
  generalize f ρ μ = r at h
  cases r <;> exact h
theorem wp_seqSet {i : Nat} (h : (sSet i fe ρ μ).wp (fun ρ1 μ1 => (g ρ1 μ1).wp N T B C E) T B C E) : (sSeq (sSet i fe) g ρ μ).wp N T B C E := wp_sSeq h
theorem wp_seqAsg {gg : SG} (h : (sAsg fe gg ρ μ).wp (fun ρ1 μ1 => (g ρ1 μ1).wp N T B C E) T B C E) : (sSeq (sAsg fe gg) g ρ μ).wp N T B C E := wp_sSeq h
theorem wp_seqPar {i j : Nat} (h : (sPar i j fa ρ μ).wp (fun ρ1 μ1 => (g ρ1 μ1).wp N T B C E) T B C E) : (sSeq (sPar i j fa) g ρ μ).wp N T B C E := wp_sSeq h
theorem wp_seqAug {i : Nat} {gg : D → D → Sto → R D} (h : (sAug i gg fe ρ μ).wp (fun ρ1 μ1 => (g ρ1 μ1).wp N T B C E) T B C E) : (sSeq (sAug i gg fe) g ρ μ).wp N T B C E := wp_sSeq h
theorem wp_seqExpr (h : (sExpr fe ρ μ).wp (fun ρ1 μ1 => (g ρ1 μ1).wp N T B C E) T B C E) : (sSeq (sExpr fe) g ρ μ).wp N T B C E := wp_sSeq h
theorem wp_seqSub (h : (sSub fe fo fi ρ μ).wp (fun ρ1 μ1 => (g ρ1 μ1).wp N T B C E) T B C E) : (sSeq (sSub fe fo fi) g ρ μ).wp N T B C E := wp_sSeq h
theorem wp_seqFor {fi : SI} {gg : SG} {b : SS} (h : (sFor fi gg b ρ μ).wp (fun ρ1 μ1 => (g ρ1 μ1).wp N T B C E) T B C E) : (sSeq (sFor fi gg b) g ρ μ).wp N T B C E := wp_sSeq h
theorem wp_seqWhile {b : SS} (h : (sWhile t b ρ μ).wp (fun ρ1 μ1 => (g ρ1 μ1).wp N T B C E) T B C E) : (sSeq (sWhile t b) g ρ μ).wp N T B C E := wp_sSeq h
theorem wp_seqNil (h : (g ρ μ).wp N T B C E) : (sSeq sNil g ρ μ).wp N T B C E := wp_sSeq h
theorem wp_cut {N0 : Env → Sto → Prop} (h : (f ρ μ).wp N0 T B C E) (k : ∀ ρ1 μ1, N0 ρ1 μ1 → (g ρ1 μ1).wp N T B C E) : (sSeq f g ρ μ).wp N T B C E :=
  wp_sSeq (wp_sMono h k (fun _ _ z => z) (fun _ _ z => z) (fun _ _ z => z) fun _ _ _ _ z => z)
theorem wp_sBreak (q : B ρ μ) : (sBreak ρ μ).wp N T B C E := q
theorem wp_sCont (q : C ρ μ) : (sCont ρ μ).wp N T B C E := q
theorem wp_sExpr (h : (fe ρ μ).wp (fun _ μ1 => N ρ μ1) E) : (sExpr fe ρ μ).wp N T B C E := wp_thn h
theorem wp_sRet (h : (fe ρ μ).wp (fun d μ1 => T d μ1) E) : (sRet fe ρ μ).wp N T B C E := wp_thn h
theorem wp_sRetN (h : T .non μ) : (sRetN ρ μ).wp N T B C E := h
theorem wp_sIf (h : (t ρ μ).wp (fun c μ1 => (c = true → (f ρ μ1).wp N T B C E) ∧ (c = false → (g ρ μ1).wp N T B C E)) E) : (sIf t f g ρ μ).wp N T B C E := wp_thn (wp_mono h (fun c μ1 ⟨h1, h2⟩ => by cases c; exact h2 rfl; exact h1 rfl) fun _ _ _ _ z => z)
theorem wp_sSet {i : Nat} (h : (fe ρ μ).wp (fun d μ1 => N (ρ.set i (some d)) μ1) E) : (sSet i fe ρ μ).wp N T B C E := wp_thn h
theorem wp_sAsg {g : SG} (h : (fe ρ μ).wp (fun d μ1 => ∃ ρ1, g d ρ μ1 = some ρ1 ∧ N ρ1 μ1) E) : (sAsg fe g ρ μ).wp N T B C E := wp_thn (wp_mono h (fun d μ1 ⟨ρ1, e, q⟩ => by rw [e]; exact q) fun _ _ _ _ z => z)
theorem wp_sPar {i j : Nat} (h : (fa ρ μ).wp (fun ds μ1 => ∃ d e, ds = [d, e] ∧ N ((ρ.set i (some d)).set j (some e)) μ1) E) : (sPar i j fa ρ μ).wp N T B C E := wp_thn (wp_mono h (fun ds μ1 ⟨d, e, h1, q⟩ => by subst h1; exact q) fun _ _ _ _ z => z)
theorem wp_sSub (h : (fe ρ μ).wp (fun d μ1 => (fo ρ μ1).wp (fun o μ2 => (fi ρ μ2).wp (fun i μ3 => ∃ k z μ4, o = .cell k ∧ i = .int z ∧ setL k z d μ3 = some μ4 ∧ N ρ μ4) E) E) E) : (sSub fe fo fi ρ μ).wp N T B C E :=
  wp_thn (wp_mono h (fun d μ1 z => wp_thn (wp_mono z (fun o μ2 z => wp_thn (wp_mono z (fun i μ3 ⟨k, z, μ4, e1, e2, e3, q⟩ => by subst e1 e2; dsimp only; rw [e3]; exact q) fun _ _ _ _ z => z)) fun _ _ _ _ z => z)) fun _ _ _ _ z => z)
theorem wp_sRaise {c : Str} {n : Nat} {ns : List Str} {mk : List D → List D} (h : (fa ρ μ).wp (fun ds μ1 => ds.length = n ∧ E c ns (mk ds) μ1) E) : (sRaise c n ns mk fa ρ μ).wp N T B C E := wp_thn (wp_mono h (fun ds μ1 ⟨a, b⟩ => by rw [if_pos a]; exact b) fun _ _ _ _ z => z)
theorem wp_sFor {fi : SI} {g : SG} {b : SS} (h : (fi ρ μ).wp (fun it μ1 => (forS it.2 g b it.1 ρ μ1).wp N T B C E) E) : (sFor fi g b ρ μ).wp N T B C E := wp_thn h
/-- a for by its invariant of the items that are left -/
theorem wp_forS {gd : Sto → Bool} {g : SG} {b : SS} (I : List D → Env → Sto → Prop) {ds : List D} (h0 : I ds ρ μ) (hn : ∀ ρ μ, I [] ρ μ → gd μ = true ∧ N ρ μ)
    (hs : ∀ d ds ρ μ, I (d :: ds) ρ μ → gd μ = true ∧ ∃ ρ1, g d ρ μ = some ρ1 ∧ (b ρ1 μ).wp (I ds) T N (I ds) E) : (forS gd g b ds ρ μ).wp N T B C E := by
  induction ds generalizing ρ μ with
  | nil =>
    obtain ⟨h1, h2⟩ := hn ρ μ h0
    unfold forS
    rw [if_pos h1]
    exact h2
  | cons d ds ih =>
    obtain ⟨h1, ρ1, h2, h3⟩ := hs d ds ρ μ h0
    unfold forS
    rw [if_pos h1, h2]
    dsimp only
    cases e : b ρ1 μ with
    | nx ρ2 μ2 => rw [e] at h3; exact ih h3
    | ct ρ2 μ2 => rw [e] at h3; exact ih h3
    | bk ρ2 μ2 => rw [e] at h3; exact h3
    | rt d μ2 => rw [e] at h3; exact h3
    | exc c ns vs ρ2 μ2 => rw [e] at h3; exact h3
    | bad => rw [e] at h3; exact h3
theorem rngD_succ (lo : Int) (n : Nat) : rngD lo (n + 1) = .int lo :: rngD (lo + 1) n := by
  unfold rngD
  rw [List.range_succ_eq_map, List.map_cons, List.map_map]
  congr 1
  · simp
  · apply List.map_congr_left
    intro i _
    show D.int (lo + ((i + 1 : Nat) : Int)) = D.int (lo + 1 + (i : Nat))
    congr 1
    omega
/-- .. over a range, by how many turns are done -/
theorem wp_forR {g : SG} {b : SS} (I : Nat → Env → Sto → Prop) {lo : Int} {n : Nat} (h0 : I 0 ρ μ) (hn : ∀ ρ μ, I n ρ μ → N ρ μ)
    (hs : ∀ i ρ μ, i < n → I i ρ μ → ∃ ρ1, g (.int (lo + (i : Nat))) ρ μ = some ρ1 ∧ (b ρ1 μ).wp (I (i + 1)) T N (I (i + 1)) E) : (forS (fun _ => true) g b (rngD lo n) ρ μ).wp N T B C E := by
  refine wp_forS (fun ds ρ μ => ∃ i, i ≤ n ∧ ds = rngD (lo + (i : Nat)) (n - i) ∧ I i ρ μ) ⟨0, Nat.zero_le _, by simp, h0⟩ (fun ρ μ ⟨i, hi, e, q⟩ => ⟨rfl, ?_⟩) fun d ds ρ μ ⟨i, hi, e, q⟩ => ⟨rfl, ?_⟩
  · have : n - i = 0 := by
      cases hm : n - i with
      | zero => rfl
      | succ m => rw [hm, rngD_succ] at e; cases e
    have : i = n := by omega
    subst this
    exact hn _ _ q
  · cases hm : n - i with
    | zero => rw [hm] at e; cases e
    | succ m =>
      rw [hm, rngD_succ] at e
      cases e
      obtain ⟨ρ1, e1, h⟩ := hs i ρ μ (by omega) q
      have mv : ∀ ρ μ, I (i + 1) ρ μ → ∃ j, j ≤ n ∧ rngD (lo + (i : Nat) + 1) m = rngD (lo + (j : Nat)) (n - j) ∧ I j ρ μ := fun ρ μ z => ⟨i + 1, by omega, by
        have e2 : n - (i + 1) = m := by omega
        rw [e2]
        congr 1
        omega, z⟩
      exact ⟨ρ1, e1, wp_sMono h mv (fun _ _ z => z) (fun _ _ z => z) mv fun _ _ _ _ z => z⟩
/-- a while by an invariant with a measure -/
theorem wp_while {t : ST} {b : SS} (I : Nat → Env → Sto → Prop) {m : Nat} (h0 : I m ρ μ)
    (hs : ∀ m ρ μ, I m ρ μ → (t ρ μ).wp (fun c μ1 => (c = true → (b ρ μ1).wp (fun ρ μ => ∃ k, k < m ∧ I k ρ μ) T N (fun ρ μ => ∃ k, k < m ∧ I k ρ μ) E) ∧ (c = false → N ρ μ1)) E) : (sWhile t b ρ μ).wp N T B C E := by
  have key : ∀ (m : Nat) (ρ : Env) (μ : Sto), I m ρ μ → ∃ n, (whileN t b n ρ μ).wp N T B C E := by
    intro m
    induction m using Nat.strongRecOn with
    | ind m ih =>
      intro ρ μ h
      have h1 := hs m ρ μ h
      cases e : t ρ μ with
      | bad => rw [e] at h1; exact h1.elim
      | exc c ns vs μ1 => rw [e] at h1; exact ⟨1, by unfold whileN; rw [e]; exact h1⟩
      | ok c μ1 =>
        rw [e] at h1
        obtain ⟨h2, h3⟩ := h1
        cases c with
        | false => exact ⟨1, by unfold whileN; rw [e]; exact h3 rfl⟩
        | true =>
          have h4 := h2 rfl
          cases e4 : b ρ μ1 with
          | bad => rw [e4] at h4; exact h4.elim
          | exc c ns vs ρ2 μ2 => rw [e4] at h4; exact ⟨1, by unfold whileN; rw [e]; simp only [if_true, e4]; exact h4⟩
          | rt d μ2 => rw [e4] at h4; exact ⟨1, by unfold whileN; rw [e]; simp only [if_true, e4]; exact h4⟩
          | bk ρ2 μ2 => rw [e4] at h4; exact ⟨1, by unfold whileN; rw [e]; simp only [if_true, e4]; exact h4⟩
          | nx ρ2 μ2 =>
            rw [e4] at h4
            obtain ⟨k, hk, z⟩ := h4
            obtain ⟨n, hn⟩ := ih k hk ρ2 μ2 z
            exact ⟨n + 1, by unfold whileN; rw [e]; simp only [if_true, e4]; exact hn⟩
          | ct ρ2 μ2 =>
            rw [e4] at h4
            obtain ⟨k, hk, z⟩ := h4
            obtain ⟨n, hn⟩ := ih k hk ρ2 μ2 z
            exact ⟨n + 1, by unfold whileN; rw [e]; simp only [if_true, e4]; exact hn⟩
  obtain ⟨n, hn⟩ := key m ρ μ h0
  have nb : whileN t b n ρ μ ≠ .bad := fun z => by rw [z] at hn; exact hn
  rw [sWhile_eq n rfl nb]
  exact hn
end
/-! ### comprehensions -/
section
variable {E : Exs} {ρ : Env} {μ : Sto} {g : SG} {tt : ST} {te : SE} {gd : Sto → Bool}
theorem wp_lcS {Q : List D → Sto → Prop} (I : List D → List D → Sto → Prop) {ds : List D} (h0 : I [] ds μ) (hn : ∀ ys μ, I ys [] μ → gd μ = true ∧ Q ys μ)
    (hs : ∀ ys d ds μ, I ys (d :: ds) μ → gd μ = true ∧ ∃ ρ1, g d ρ μ = some ρ1 ∧ (tt ρ1 μ).wp (fun c μ1 => (c = true → (te ρ1 μ1).wp (fun y μ2 => I (ys ++ [y]) ds μ2) noE) ∧ (c = false → I ys ds μ1)) noE) : (lcS gd g tt te ρ ds μ).wp Q E := by
  have key : ∀ (ds ys : List D) (μ : Sto), I ys ds μ → ∃ zs μ', lcS gd g tt te ρ ds μ = .ok zs μ' ∧ Q (ys ++ zs) μ' := by
    intro ds
    induction ds with
    | nil =>
      intro ys μ h
      obtain ⟨h1, h2⟩ := hn ys μ h
      exact ⟨[], μ, by unfold lcS; rw [if_pos h1], by rw [List.append_nil]; exact h2⟩
    | cons d ds ih =>
      intro ys μ h
      obtain ⟨h1, ρ1, h2, h3⟩ := hs ys d ds μ h
      unfold lcS
      rw [if_pos h1, h2]
      dsimp only
      obtain ⟨c, μ1, e, h4, h5⟩ := wp_get h3
      rw [e]
      cases c with
      | false =>
        obtain ⟨zs, μ', e1, q⟩ := ih ys μ1 (h5 rfl)
        exact ⟨zs, μ', e1, q⟩
      | true =>
        obtain ⟨y, μ2, e1, z⟩ := wp_get (h4 rfl)
        obtain ⟨zs, μ', e2, q⟩ := ih (ys ++ [y]) μ2 z
        refine ⟨y :: zs, μ', ?_, by rw [List.append_assoc] at q; exact q⟩
        simp only [R.nox_ok, R.bind_ok, if_true, e1, e2]
  obtain ⟨zs, μ', e, q⟩ := key ds [] μ h0
  rw [e]
  exact q
/-- .. over a range, by the results so far -/
theorem wp_lcR {Q : List D → Sto → Prop} (I : List D → Nat → Sto → Prop) {lo : Int} {n : Nat} (h0 : I [] 0 μ) (hn : ∀ ys μ, I ys n μ → Q ys μ)
    (hs : ∀ ys i μ, i < n → I ys i μ → ∃ ρ1, g (.int (lo + (i : Nat))) ρ μ = some ρ1 ∧ (tt ρ1 μ).wp (fun c μ1 => (c = true → (te ρ1 μ1).wp (fun y μ2 => I (ys ++ [y]) (i + 1) μ2) noE) ∧ (c = false → I ys (i + 1) μ1)) noE) : (lcS (fun _ => true) g tt te ρ (rngD lo n) μ).wp Q E := by
  refine wp_lcS (fun ys ds μ => ∃ i, i ≤ n ∧ ds = rngD (lo + (i : Nat)) (n - i) ∧ I ys i μ) ⟨0, Nat.zero_le _, by simp, h0⟩ (fun ys μ ⟨i, hi, e, q⟩ => ⟨rfl, ?_⟩) fun ys d ds μ ⟨i, hi, e, q⟩ => ⟨rfl, ?_⟩
  · have : n - i = 0 := by
      cases hm : n - i with
      | zero => rfl
      | succ m => rw [hm, rngD_succ] at e; cases e
    have : i = n := by omega
    subst this
    exact hn _ _ q
  · cases hm : n - i with
    | zero => rw [hm] at e; cases e
    | succ m =>
      rw [hm, rngD_succ] at e
      cases e
      obtain ⟨ρ1, e1, h⟩ := hs ys i μ (by omega) q
      have mv : ∀ zs μ, I zs (i + 1) μ → ∃ j, j ≤ n ∧ rngD (lo + (i : Nat) + 1) m = rngD (lo + (j : Nat)) (n - j) ∧ I zs j μ := fun zs μ z => ⟨i + 1, by omega, by
        have e2 : n - (i + 1) = m := by omega
        rw [e2]
        congr 1
        omega, z⟩
      exact ⟨ρ1, e1, wp_mono h (fun c μ1 ⟨h1, h2⟩ => ⟨fun hc => wp_mono (h1 hc) (fun y μ2 z => mv _ _ z) fun _ _ _ _ z => z, fun hc => mv _ _ (h2 hc)⟩) fun _ _ _ _ z => z⟩
/-- each item of a range gives something, nothing is written -/
theorem wp_lcMap {Q : List D → Sto → Prop} {h : Nat → D} {lo : Int} {n : Nat} (q : Q ((List.range n).map h) μ)
    (hs : ∀ i, i < n → ∃ ρ1, g (.int (lo + (i : Nat))) ρ μ = some ρ1 ∧ (te ρ1 μ).wp (fun y μ2 => y = h i ∧ μ2 = μ) noE) : (lcS (fun _ => true) g tYesS te ρ (rngD lo n) μ).wp Q E := by
  refine wp_lcR (fun ys i μ' => μ' = μ ∧ ys = (List.range i).map h) ⟨rfl, rfl⟩ (fun ys μ' ⟨e1, e2⟩ => by subst e1 e2; exact q) fun ys i μ' hi ⟨e1, e2⟩ => ?_
  subst e1 e2
  obtain ⟨ρ1, e, z⟩ := hs i hi
  refine ⟨ρ1, e, ?_⟩
  show (true = true → _) ∧ (true = false → _)
  refine ⟨fun _ => wp_mono z (fun y μ2 ⟨e1, e2⟩ => ⟨e2, by rw [e1, List.range_succ, List.map_append]; rfl⟩) fun _ _ _ _ z => z, fun z => nomatch z⟩
theorem wp_lc {Q : D → Sto → Prop} {vs : List Nat} {fi : SI} (h : (fi ρ μ).wp (fun it μ1 => it.1.length ≤ sizeLine ∧ (lcS it.2 g tt te (wipeE ρ vs) it.1 μ1).wp (fun ys μ2 => Q (.lst ys) μ2) noE) E) : (eLc vs fi g tt te ρ μ).wp Q E :=
  wp_bind (wp_mono h (fun it μ1 ⟨a, b⟩ => by rw [if_pos a]; exact wp_bind (wp_nox b)) fun _ _ _ _ z => z)
theorem wp_lcC {Q : D → Sto → Prop} {vs : List Nat} {fi : SI} (h : (fi ρ μ).wp (fun it μ1 => it.1.length ≤ sizeLine ∧ (lcS it.2 g tt te (wipeE ρ vs) it.1 μ1).wp (fun ys μ2 => Q (.cell μ2.length) (μ2 ++ [.lst ys])) noE) E) : (eLcC vs fi g tt te ρ μ).wp Q E :=
  wp_bind (wp_mono h (fun it μ1 ⟨a, b⟩ => by rw [if_pos a]; exact wp_bind (wp_nox b)) fun _ _ _ _ z => z)
theorem wp_yes {Q : Bool → Sto → Prop} (q : Q true μ) : (tYesS ρ μ).wp Q E := q
theorem wp_iAny {Q : List D × (Sto → Bool) → Sto → Prop} {f : SE} (h : (f ρ μ).wp (fun d μ1 => ∃ it, walkD μ1 d = some it ∧ Q it μ1) E) : (iAnyD f ρ μ).wp Q E := wp_bind (wp_mono h (fun d μ1 ⟨it, e, q⟩ => by rw [e]; exact q) fun _ _ _ _ z => z)
end
/-! ### ints -/
section
variable {Q : D → Sto → Prop} {E : Exs} {μ : Sto} {i j : Int}
theorem wp_prim {r : R D} {d : D} (h : r = .ok d μ) (q : Q d μ) : r.wp Q E := by rw [h]; exact q
theorem wp_eqI (q : Q (.bl (decide (i = j))) μ) : (dEq (.int i) (.int j) μ).wp Q E := by
  have e : dEq (.int i) (.int j) μ = .ok (.bl (decide (i = j))) μ := by
    show (if SeqAt.shaped (.int i) = true ∧ SeqAt.shaped (.int j) = true then R.ok (D.bl (PyData.eqv (.int i) (.int j))) μ else .bad) = _
    rw [if_pos ⟨rfl, rfl⟩]
    congr 2
  rw [e]; exact q
theorem wp_neI (q : Q (.bl (!decide (i = j))) μ) : (dNe (.int i) (.int j) μ).wp Q E := by
  have e : dNe (.int i) (.int j) μ = .ok (.bl (!decide (i = j))) μ := by
    show (if SeqAt.shaped (.int i) = true ∧ SeqAt.shaped (.int j) = true then R.ok (D.bl (!PyData.eqv (.int i) (.int j))) μ else .bad) = _
    rw [if_pos ⟨rfl, rfl⟩]
    congr 2
  rw [e]; exact q
theorem br_t {c : Bool} {A B : Prop} (hc : c = true) (h : A) : (c = true → A) ∧ (c = false → B) := ⟨fun _ => h, fun z => (Bool.noConfusion (hc.symm.trans z))⟩
theorem br_f {c : Bool} {A B : Prop} (hc : c = false) (h : B) : (c = true → A) ∧ (c = false → B) := ⟨fun z => (Bool.noConfusion (hc.symm.trans z)), fun _ => h⟩
theorem br_d {c : Prop} [Decidable c] {A B : Prop} (h1 : c → A) (h2 : ¬ c → B) : (decide c = true → A) ∧ (decide c = false → B) := ⟨fun z => h1 (of_decide_eq_true z), fun z => h2 (of_decide_eq_false z)⟩
theorem br_n {c : Prop} [Decidable c] {A B : Prop} (h1 : ¬ c → A) (h2 : c → B) : ((!decide c) = true → A) ∧ ((!decide c) = false → B) := ⟨fun z => h1 (by simpa using z), fun z => h2 (by simpa using z)⟩
theorem wp_mul (h : IntMulOk i j) (q : Q (.int (i * j)) μ) : (dMul (.int i) (.int j) μ).wp Q E := by
  show R.wp (if IntMulOk i j then _ else _) Q E
  rw [if_pos h]; exact q
theorem wp_mod (h : j ≠ 0) (q : Q (.int (i.fmod j)) μ) : (dMod (.int i) (.int j) μ).wp Q E := by
  show R.wp (if j ≠ 0 then _ else _) Q E
  rw [if_pos h]; exact q
theorem wp_fdiv (h : j ≠ 0) (h2 : Builtin.divisionGoesByPylong i j = false) (q : Q (.int (i.fdiv j)) μ) : (dFdiv (.int i) (.int j) μ).wp Q E := by
  show R.wp (if j ≠ 0 ∧ Builtin.divisionGoesByPylong i j = false then _ else _) Q E
  rw [if_pos ⟨h, h2⟩]; exact q
theorem wp_pow (h : 0 ≤ j ∧ j ≤ 1000000 ∧ i.natAbs < 2 ^ 64) (q : Q (.int (i ^ j.toNat)) μ) : (dPow (.int i) (.int j) μ).wp Q E := by
  show R.wp (if 0 ≤ j ∧ j ≤ 1000000 ∧ i.natAbs < 2 ^ 64 then _ else _) Q E
  rw [if_pos h]; exact q
theorem pylong_small (h : j.natAbs < 2 ^ 9000) : Builtin.divisionGoesByPylong i j = false := by
  have key : (if j == 0 then 0 else j.natAbs.log2 / 30 + 1) ≤ 300 := by
    split
    · omega
    · rename_i z
      have z : j ≠ 0 := by simpa using z
      have h0 : j.natAbs ≠ 0 := by omega
      have : j.natAbs.log2 < 9000 := (Nat.log2_lt h0).mpr h
      omega
  unfold Builtin.divisionGoesByPylong
  dsimp only
  rw [decide_eq_false (p := (if j == 0 then 0 else j.natAbs.log2 / 30 + 1) > 300) (by omega)]
  rfl
theorem mulOk_right {a b : Int} (h : b.natAbs < 2 ^ 64) : IntMulOk a b := by
  have hb : Builtin.Int.intBits b ≤ 64 := intBits_le_iff.mpr h
  have h' : ¬ (Builtin.Int.intBits b > shortFactorBits) := Nat.not_lt.mpr hb
  unfold IntMulOk; rw [decide_eq_false h']; simp
theorem mulOk_left {a b : Int} (h : a.natAbs < 2 ^ 64) : IntMulOk a b := IntMulOk.of_left (intBits_le_iff.mpr h)
theorem mulOk_lt {a b : Int} {m n : Nat} (ha : a.natAbs < 2 ^ m) (hb : b.natAbs < 2 ^ n) (h : m + n ≤ 134217728 := by decide) : IntMulOk a b := IntMulOk.of_le (intBits_le_iff.mpr ha) (intBits_le_iff.mpr hb) h
theorem wp_pow18 (q : Q (.int 1000000000000000000) μ) : (dPow (.int 10) (.int 18) μ).wp Q E := wp_pow (by decide) (by rw [show (10 : Int) ^ Int.toNat 18 = 1000000000000000000 by decide]; exact q)
theorem wp_pow12 (q : Q (.int 1000000000000) μ) : (dPow (.int 10) (.int 12) μ).wp Q E := wp_pow (by decide) (by rw [show (10 : Int) ^ Int.toNat 12 = 1000000000000 by decide]; exact q)
theorem wp_pow40 (q : Q (.int 10000000000000000000000000000000000000000) μ) : (dPow (.int 10) (.int 40) μ).wp Q E := wp_pow (by decide) (by rw [show (10 : Int) ^ Int.toNat 40 = 10000000000000000000000000000000000000000 by decide]; exact q)
theorem mulOk_mod {a b : Int} {m : Int} (hm : 0 < m) (h : m ≤ 2 ^ 64) : IntMulOk (a.fmod m) b := mulOk_left (by
  have h1 := Int.fmod_nonneg_of_pos a hm
  have h2 := Int.fmod_lt_of_pos a hm
  have h3 : ((a.fmod m).natAbs : Int) = a.fmod m := Int.natAbs_of_nonneg h1
  omega)
theorem wp_addI (q : Q (.int (i + j)) μ) : (dAdd (.int i) (.int j) μ).wp Q E := q
theorem wp_addII (q : Q (.int (i + j)) μ) : (dAddI (.int i) (.int j) μ).wp Q E := q
theorem wp_subI (q : Q (.int (i - j)) μ) : (dSub (.int i) (.int j) μ).wp Q E := q
theorem wp_ltI (q : Q (.bl (decide (i < j))) μ) : (dLt (.int i) (.int j) μ).wp Q E := q
theorem wp_leI (q : Q (.bl (decide (i ≤ j))) μ) : (dLe (.int i) (.int j) μ).wp Q E := q
theorem wp_gtI (q : Q (.bl (decide (j < i))) μ) : (dGt (.int i) (.int j) μ).wp Q E := q
theorem wp_geI (q : Q (.bl (decide (j ≤ i))) μ) : (dGe (.int i) (.int j) μ).wp Q E := q
theorem wp_negI (q : Q (.int (-i)) μ) : (dNeg (.int i) μ).wp Q E := q
theorem wp_absI (q : Q (.int (i.natAbs : Int)) μ) : (un dAbsC [.int i] μ).wp Q E := by
  have e : (if i < 0 then -i else i) = (i.natAbs : Int) := by split <;> omega
  show Q (.int (if i < 0 then -i else i)) μ
  rw [e]; exact q
theorem wp_un {g : D → Sto → R D} {d : D} (q : (g d μ).wp Q E) : (un g [d] μ).wp Q E := q
theorem wp_ixE {a b : D} (h : ∃ d, dIx a b μ = .ok d μ ∧ Q d μ) : (dIx a b μ).wp Q E := let ⟨d, h1, h2⟩ := h; wp_prim h1 h2
theorem wp_ix {a b d : D} (h : dIx a b μ = .ok d μ) (q : Q d μ) : (dIx a b μ).wp Q E := by rw [h]; exact q
theorem wp_lenE {a : D} (h : ∃ d, dLen a μ = .ok d μ ∧ Q d μ) : (dLen a μ).wp Q E := let ⟨d, h1, h2⟩ := h; wp_prim h1 h2
theorem wp_len {a d : D} (h : dLen a μ = .ok d μ) (q : Q d μ) : (dLen a μ).wp Q E := by rw [h]; exact q
theorem wp_listOfE {a : D} (h : ∃ d, dListOf a μ = .ok d μ ∧ Q d μ) : (dListOf a μ).wp Q E := let ⟨d, h1, h2⟩ := h; wp_prim h1 h2
theorem wp_listOf {a d : D} (h : dListOf a μ = .ok d μ) (q : Q d μ) : (dListOf a μ).wp Q E := by rw [h]; exact q
theorem wp_isiE {ts : List Ty} {a : D} (h : ∃ d, dIsi ts a μ = .ok d μ ∧ Q d μ) : (dIsi ts a μ).wp Q E := let ⟨d, h1, h2⟩ := h; wp_prim h1 h2
theorem wp_isi {ts : List Ty} {a d : D} (h : dIsi ts a μ = .ok d μ) (q : Q d μ) : (dIsi ts a μ).wp Q E := by rw [h]; exact q
theorem wp_isNE {a : D} (h : ∃ d, dIsN a μ = .ok d μ ∧ Q d μ) : (dIsN a μ).wp Q E := let ⟨d, h1, h2⟩ := h; wp_prim h1 h2
theorem wp_notNE {a : D} (h : ∃ d, dNotN a μ = .ok d μ ∧ Q d μ) : (dNotN a μ).wp Q E := let ⟨d, h1, h2⟩ := h; wp_prim h1 h2
theorem wp_neS {a b d : D} (h : dNe a b μ = .ok d μ) (q : Q d μ) : (dNe a b μ).wp Q E := by rw [h]; exact q
theorem pylong_200 (h : j.natAbs < 2 ^ 200) : Builtin.divisionGoesByPylong i j = false := pylong_small (Nat.lt_of_lt_of_le h (Nat.pow_le_pow_right (by decide) (by decide)))
/-- walked lists, slices -/
theorem wp_slE {a : D} {lo hi : Option Int} (h : ∃ d, dSl3 a lo hi μ = .ok d μ ∧ Q d μ) : (dSl3 a lo hi μ).wp Q E := let ⟨d, h1, h2⟩ := h; wp_prim h1 h2
end
theorem all_true {n : Nat} {Q : D → Sto → Prop} {E : Exs} {μ : Sto} (q : Q (.bl true) μ) : (dAll (.lst ((List.range n).map fun _ => D.bl true)) μ).wp Q E := by
  have e : ∀ l : List Nat, bools (l.map fun _ => D.bl true) = some (l.map fun _ => true) := fun l => by
    induction l with
    | nil => rfl
    | cons a r ih => show (bools (r.map _)).map _ = _; rw [ih]; rfl
  have e2 : dAll (.lst ((List.range n).map fun _ => D.bl true)) μ = .ok (.bl true) μ := by
    show (match bools ((List.range n).map fun _ => D.bl true) with
      | some bs => R.ok (D.bl (bs.all id)) μ
      | none => .bad) = _
    rw [e]
    dsimp only
    congr 2
    simp
  rw [e2]; exact q
/-- texts, numbers, truth values, None, and lists and tuples of such, so deep -/
inductive Pu : Nat → D → Prop
  | non {n : Nat} : Pu (n + 1) .non
  | bl {n : Nat} (b : Bool) : Pu (n + 1) (.bl b)
  | int {n : Nat} (i : Int) : Pu (n + 1) (.int i)
  | str {n : Nat} {z : Str} (h : PyData.strOk z = true) : Pu (n + 1) (.str z)
  | lst {n : Nat} {xs : List D} (hl : xs.length ≤ 16777216) (h : ∀ x ∈ xs, Pu n x) : Pu (n + 1) (.lst xs)
  | tup {n : Nat} {xs : List D} (hl : xs.length ≤ 16777216) (h : ∀ x ∈ xs, Pu n x) : Pu (n + 1) (.tup xs)
theorem Pu.nil {n : Nat} : ∀ x ∈ ([] : List D), Pu n x := fun x h => by cases h
theorem Pu.cons {n : Nat} {d : D} {ds : List D} (h : Pu n d) (t : ∀ x ∈ ds, Pu n x) : ∀ x ∈ d :: ds, Pu n x := fun x hx => by
  rcases List.mem_cons.mp hx with e | e
  · subst e; exact h
  · exact t x e
theorem Pu.le {n m : Nat} {d : D} (h : Pu n d) (hm : n ≤ m) : Pu m d := by
  induction h generalizing m with
  | non => cases m with | zero => omega | succ m => exact .non
  | bl b => cases m with | zero => omega | succ m => exact .bl b
  | int b => cases m with | zero => omega | succ m => exact .int b
  | str b => cases m with | zero => omega | succ m => exact .str b
  | lst hl h ih => cases m with | zero => omega | succ m => exact .lst hl fun x hx => ih x hx (by omega)
  | tup hl h ih => cases m with | zero => omega | succ m => exact .tup hl fun x hx => ih x hx (by omega)
theorem Pu.py {n : Nat} {d : D} (h : Pu n d) : ∃ x, toPy0 d = some x ∧ x.canLay0 = true ∧ x.depth ≤ n := by
  have lists : ∀ {n : Nat} {xs : List D}, (∀ x ∈ xs, ∃ y, toPy0 x = some y ∧ y.canLay0 = true ∧ y.depth ≤ n) → ∃ ys, toPyL xs = some ys ∧ PyData.canLayAll0 ys = true ∧ PyData.depthAll ys ≤ n := by
    intro n xs
    induction xs with
    | nil => intro _; exact ⟨[], rfl, rfl, Nat.zero_le _⟩
    | cons x xs ih =>
      intro h
      obtain ⟨y, h1, h2, h3⟩ := h x List.mem_cons_self
      obtain ⟨ys, h4, h5, h6⟩ := ih fun x hx => h x (List.mem_cons_of_mem _ hx)
      refine ⟨y :: ys, by simp [toPyL, h1, h4], by simp [PyData.canLayAll0, h2, h5], ?_⟩
      simp only [PyData.depthAll]
      omega
  induction h with
  | non => exact ⟨.none, rfl, rfl, by simp [PyData.depth]⟩
  | bl b => exact ⟨.bool b, rfl, rfl, by simp [PyData.depth]⟩
  | int b => exact ⟨.int b, rfl, rfl, by simp [PyData.depth]⟩
  | @str n z h => exact ⟨.str z, rfl, by simp [PyData.canLay0, h], by simp [PyData.depth]⟩
  | lst hl h ih =>
    obtain ⟨ys, h1, h2, h3⟩ := lists ih
    exact ⟨.list ys, by simp [toPy0, h1], by simp [PyData.canLay0, h2], by simp only [PyData.depth]; omega⟩
  | tup hl h ih =>
    obtain ⟨ys, h1, h2, h3⟩ := lists ih
    exact ⟨.tuple ys, by simp [toPy0, h1], by simp [PyData.canLay0, h2], by simp only [PyData.depth]; omega⟩
theorem Pu.toPy {n : Nat} {d : D} (h : Pu n d) (μ : Sto) : toPy μ d = toPy0 d := by cases h <;> rfl
theorem dEq_py {μ : Sto} {a b : D} {x y : PyData} (h1 : toPy μ a = some x) (h2 : toPy μ b = some y) (h3 : SeqAt.shaped x = true) (h4 : SeqAt.shaped y = true) : dEq a b μ = .ok (.bl (PyData.eqv x y)) μ := by
  unfold dEq
  rw [h1, h2]
  dsimp only
  rw [if_pos ⟨h3, h4⟩]
theorem dNe_py {μ : Sto} {a b : D} {x y : PyData} (h1 : toPy μ a = some x) (h2 : toPy μ b = some y) (h3 : SeqAt.shaped x = true) (h4 : SeqAt.shaped y = true) : dNe a b μ = .ok (.bl (!PyData.eqv x y)) μ := by
  unfold dNe
  rw [h1, h2]
  dsimp only
  rw [if_pos ⟨h3, h4⟩]
theorem Pu.shaped {n : Nat} {d : D} (h : Pu n d) (hn : n ≤ 64) : ∃ x, toPy0 d = some x ∧ SeqAt.shaped x = true := by
  obtain ⟨x, h1, h2, h3⟩ := h.py
  refine ⟨x, h1, ?_⟩
  unfold SeqAt.shaped
  rw [h2, decide_eq_true (by omega)]
  rfl
theorem Pu.eq_self {n : Nat} {d : D} (h : Pu n d) (hn : n ≤ 64) (μ : Sto) : dEq d d μ = .ok (.bl true) μ := by
  obtain ⟨x, h1, h2⟩ := h.shaped hn
  rw [dEq_py ((h.toPy μ).trans h1) ((h.toPy μ).trans h1) h2 h2, SeqAt.eqv_refl x (SeqAt.canLay_of_shaped h2)]
theorem Pu.ne_self {n : Nat} {d : D} (h : Pu n d) (hn : n ≤ 64) (μ : Sto) : dNe d d μ = .ok (.bl false) μ := by
  obtain ⟨x, h1, h2⟩ := h.shaped hn
  rw [dNe_py ((h.toPy μ).trans h1) ((h.toPy μ).trans h1) h2 h2, SeqAt.eqv_refl x (SeqAt.canLay_of_shaped h2)]
  rfl
theorem wp_eqB {a b : Bool} {Q : D → Sto → Prop} {E : Exs} {μ : Sto} (q : Q (.bl (a == b)) μ) : (dEq (.bl a) (.bl b) μ).wp Q E := by
  rw [dEq_py (x := .bool a) (y := .bool b) rfl rfl rfl rfl]; exact q
theorem wp_neB {a b : Bool} {Q : D → Sto → Prop} {E : Exs} {μ : Sto} (q : Q (.bl (!(a == b))) μ) : (dNe (.bl a) (.bl b) μ).wp Q E := by
  rw [dNe_py (x := .bool a) (y := .bool b) rfl rfl rfl rfl]; exact q
theorem wp_eqStr {a b : Str} {Q : D → Sto → Prop} {E : Exs} {μ : Sto} (ha : PyData.strOk a = true) (hb : PyData.strOk b = true) (q : Q (.bl (decide (a = b))) μ) : (dEq (.str a) (.str b) μ).wp Q E := by
  have e : ∀ z : Str, PyData.strOk z = true → SeqAt.shaped (.str z) = true := fun z h => by
    unfold SeqAt.shaped
    simp [PyData.canLay0, PyData.depth, h]
  rw [dEq_py (x := .str a) (y := .str b) rfl rfl (e a ha) (e b hb)]
  have e2 : PyData.eqv (.str a) (.str b) = decide (a = b) := by
    simp only [PyData.eqv]
    rfl
  rw [e2]; exact q
theorem wp_neStr {a b : Str} {Q : D → Sto → Prop} {E : Exs} {μ : Sto} (ha : PyData.strOk a = true) (hb : PyData.strOk b = true) (q : Q (.bl (!decide (a = b))) μ) : (dNe (.str a) (.str b) μ).wp Q E := by
  have e : ∀ z : Str, PyData.strOk z = true → SeqAt.shaped (.str z) = true := fun z h => by
    unfold SeqAt.shaped
    simp [PyData.canLay0, PyData.depth, h]
  rw [dNe_py (x := .str a) (y := .str b) rfl rfl (e a ha) (e b hb)]
  have e2 : PyData.eqv (.str a) (.str b) = decide (a = b) := by
    simp only [PyData.eqv]
    rfl
  rw [e2]; exact q
theorem sub_okE {k : Nat} {z : Int} {d : D} {μ3 : Sto} {N : Sto → Prop} (h : ∃ μ4, setL k z d μ3 = some μ4 ∧ N μ4) : ∃ k' z' μ', D.cell k = D.cell k' ∧ D.int z = D.int z' ∧ setL k' z' d μ3 = some μ' ∧ N μ' := let ⟨μ4, h1, h2⟩ := h; ⟨k, z, μ4, rfl, rfl, h1, h2⟩
theorem rng_ok {hi : Int} {A : Prop} (h : -(2 ^ 62) ≤ hi ∧ hi < 2 ^ 62) (q : A) : (-(2 ^ 62) ≤ hi ∧ hi < 2 ^ 62) ∧ A := ⟨h, q⟩
theorem rng2_ok {lo hi : Int} {A : Prop} (h : -(2 ^ 62) ≤ lo ∧ lo < 2 ^ 62 ∧ -(2 ^ 62) ≤ hi ∧ hi < 2 ^ 62) (q : A) : (-(2 ^ 62) ≤ lo ∧ lo < 2 ^ 62 ∧ -(2 ^ 62) ≤ hi ∧ hi < 2 ^ 62) ∧ A := ⟨h, q⟩
theorem len_eq {α : Type} {ds : List α} {n : Nat} {A : Prop} (h : ds.length = n) (q : A) : ds.length = n ∧ A := ⟨h, q⟩
theorem len_100 {α : Type} {ds : List α} {A : Prop} (h : ds.length ≤ 100) (q : A) : ds.length ≤ 100 ∧ A := ⟨h, q⟩
theorem rngD_len {lo : Int} {n : Nat} {A : Prop} (h : n ≤ 16777216) (q : A) : (rngD lo n).length ≤ sizeLine ∧ A := ⟨by simp only [rngD, List.length_map, List.length_range, sizeLine_eq]; omega, q⟩
theorem isTy_ok {T : String} {μ : Sto} {d : D} {A : Prop} (h : isTy T μ d = true) (q : A) : isTy T μ d = true ∧ A := ⟨h, q⟩
theorem sub_ok {k : Nat} {z : Int} {d : D} {μ3 μ4 : Sto} {N : Sto → Prop} (h : setL k z d μ3 = some μ4) (q : N μ4) : ∃ k' z' μ', D.cell k = D.cell k' ∧ D.int z = D.int z' ∧ setL k' z' d μ3 = some μ' ∧ N μ' := ⟨k, z, μ4, rfl, rfl, h, q⟩
theorem ixN_nat {n : Nat} {i : Int} (h0 : 0 ≤ i) (h1 : i < n) : ixN n i = some i.toNat := by
  unfold ixN
  rw [if_pos h0, if_pos (by omega)]
theorem ix_lst {xs : List D} {i : Int} {x : D} {μ : Sto} (h0 : 0 ≤ i) (h : xs[i.toNat]? = some x) : dIx (.lst xs) (.int i) μ = .ok x μ := by
  have h1 : i.toNat < xs.length := (List.getElem?_eq_some_iff.mp h).1
  show (match atI xs i with
    | some d => R.ok d μ
    | none => .bad) = _
  unfold atI
  rw [ixN_nat h0 (by omega), Option.bind_some, h]
theorem ix_tup {xs : List D} {i : Int} {x : D} {μ : Sto} (h0 : 0 ≤ i) (h : xs[i.toNat]? = some x) : dIx (.tup xs) (.int i) μ = .ok x μ := ix_lst (μ := μ) h0 h
section
variable {E : Exs} {ρ : Env} {μ : Sto} {fa : SA}
theorem wp_range1 {Q : List D × (Sto → Bool) → Sto → Prop} (h : (fa ρ μ).wp (fun ds μ1 => ∃ hi, ds = [.int hi] ∧ (-(2 ^ 62) ≤ hi ∧ hi < 2 ^ 62) ∧ Q (rngD 0 hi.toNat, fun _ => true) μ1) E) : (iRange1 fa ρ μ).wp Q E := by
  refine wp_bind (wp_mono h (fun ds μ1 ⟨hi, e, c, q⟩ => ?_) fun _ _ _ _ z => z)
  subst e
  show R.wp (if -(2 ^ 62) ≤ hi ∧ hi < 2 ^ 62 then _ else _) Q E
  rw [if_pos c]
  exact q
theorem wp_range2 {Q : List D × (Sto → Bool) → Sto → Prop} (h : (fa ρ μ).wp (fun ds μ1 => ∃ lo hi, ds = [.int lo, .int hi] ∧ (-(2 ^ 62) ≤ lo ∧ lo < 2 ^ 62 ∧ -(2 ^ 62) ≤ hi ∧ hi < 2 ^ 62) ∧ Q (rngD lo (hi - lo).toNat, fun _ => true) μ1) E) : (iRange2 fa ρ μ).wp Q E := by
  refine wp_bind (wp_mono h (fun ds μ1 ⟨lo, hi, e, c, q⟩ => ?_) fun _ _ _ _ z => z)
  subst e
  show R.wp (if -(2 ^ 62) ≤ lo ∧ lo < 2 ^ 62 ∧ -(2 ^ 62) ≤ hi ∧ hi < 2 ^ 62 then _ else _) Q E
  rw [if_pos c]
  exact q
end
end L3

namespace L3
open PySem PySem.Spec PyProof.Rows L2
/-! ### int(x), str(x), bool(x), tuple(x) -/
def dIntC : D → Sto → R D
  | .int i, μ => .ok (.int i) μ
  | .bl b, μ => .ok (.int (if b then 1 else 0)) μ
  | .str z, μ => (match PySem.intText? z with
    | some n => if z.length ≤ 640 then .ok (.int n) μ else .bad
    | none => .bad)
  | _, _ => .bad
section
variable {P : Pm} {X : Cx}
/-- tuple(x): a list's items, or the tuple itself -/
def dTupOf : D → Sto → R D := fun d μ => match d with
  | .tup ds => .ok (.tup ds) μ
  | d => (match asS μ d with
    | some ds => .ok (.tup ds) μ
    | none => .bad)
def rTupOf (K : PySem.W.Frag) : List V → Hp → VK → Prop := fun xs H Q => ∃ p ys, xs = [.ref p] ∧ ((SqL K H p ys ∧ ∀ l, H l = none → Q (.ref l) (upd H l (.tup ys))) ∨ (SqT K H p ys ∧ Q (.ref p) H))
theorem cs_tupOf (hK : P.K = X.K) : CallS P (rTupOf X.K) (un dTupOf) := by
  refine cs_un fun E L H μ v d Q s rv q => ?_
  have seq : Post P E L H (fun d L' H' => ∀ v, Rep P H' L' v d → Q v H') (match asS μ d with
      | some ds => .ok (.tup ds) μ
      | none => .bad) → rTupOf X.K [v] H Q := fun q => by
    cases e1 : asS μ d with
    | none => rw [e1] at q; exact q.elim
    | some ds =>
      rw [e1] at q
      obtain ⟨a, vs, rfl, hq, rq⟩ := asS_ok s rv e1
      rw [hK] at hq
      exact ⟨a, vs, rfl, .inl ⟨hq, fun l hl => q _ _ (Ext.grow s (upd_grow hl)) (s.grow (upd_grow hl)) _ (new_tup s hl rq)⟩⟩
  cases d with
  | tup ds =>
    have rv' := rv
    obtain ⟨a, vs, rfl, hq, rq⟩ := tup_ok rv
    rw [hK] at hq
    exact ⟨a, vs, rfl, .inr ⟨hq, q L H .refl s _ rv'⟩⟩
  | _ => exact seq q
end
section
variable {P : Pm} {X : Cx}
end
/-! ### a < b < c -/
def eChain (g g' : D → D → Sto → R D) (f1 f2 f3 : SE) : SE := fun ρ μ => (f1 ρ μ).bind fun a μ1 => (f2 ρ μ1).bind fun b μ2 => (g a b μ2).bind fun r μ3 => match r with
  | .bl true => (f3 ρ μ3).bind fun c μ4 => g' b c μ4
  | .bl false => .ok (.bl false) μ3
  | _ => .bad
section
variable {P : Pm} {W : WX} {X : Cx} {pos : Pos} {a b c : Expr} {f1 f2 f3 : SE} {r r' : R2} {g g' : D → D → Sto → R D}
end
section
variable {P : Pm} {X : Cx}
end
/-! ### f-strings -/
def jS : List SE → Str → Env → Sto → R D
  | [], acc, _, μ => .ok (.str acc) μ
  | f :: fs, acc, ρ, μ => (f ρ μ).bind fun d μ1 => match d with
    | .str y => if (acc ++ y).length ≤ sizeLine then jS fs (acc ++ y) ρ μ1 else .bad
    | _ => .bad
def eJoined (fs : List SE) : SE := fun ρ μ => jS fs Str.empty ρ μ
inductive VJ (P : Pm) (W : WX) (X : Cx) : List Expr → List SE → Prop
  | nil : VJ P W X [] []
  | cons {e : Expr} {f : SE} {es : List Expr} {fs : List SE} (h : VE P W X e f) (r : VJ P W X es fs) : VJ P W X (e :: es) (f :: fs)
section
variable {P : Pm} {W : WX} {X : Cx} {pos : Pos} {e : Expr} {f : SE}
end
section
variable {P : Pm} {X : Cx}
end
end L3

namespace L3
open PySem PySem.Spec PyProof.Rows L2
section
variable {Q : D → Sto → Prop} {E : Exs} {ρ : Env} {μ : Sto} {f f1 f2 f3 : SE} {fa : SA}
theorem wp_asked {pick : Str → Option Shape} (h : (f ρ μ).wp (fun d μ1 => Q (.tup [.str "told", d]) μ1) (fun c ns vs μ1 => ∃ sh, pick c = some sh ∧ ∃ d, sh.told ns vs = some d ∧ Q d μ1)) : (eAsked pick f ρ μ).wp Q E := by
  unfold eAsked
  cases e : f ρ μ with
  | bad => rw [e] at h; exact h
  | ok d μ1 => rw [e] at h; exact h
  | exc c ns vs μ1 =>
    rw [e] at h
    obtain ⟨sh, h1, d, h2, h3⟩ := h
    dsimp only
    rw [h1, Option.bind_some, h2]
    exact h3
theorem wp_chain {g g' : D → D → Sto → R D} (h : (f1 ρ μ).wp (fun a μ1 => (f2 ρ μ1).wp (fun b μ2 => (g a b μ2).wp (fun r μ3 => ∃ c, r = .bl c ∧ (c = true → (f3 ρ μ3).wp (fun d μ4 => (g' b d μ4).wp Q E) E) ∧ (c = false → Q (.bl false) μ3)) E) E) E) : (eChain g g' f1 f2 f3 ρ μ).wp Q E :=
  wp_bind (wp_mono h (fun a μ1 z => wp_bind (wp_mono z (fun b μ2 z => wp_bind (wp_mono z (fun r μ3 ⟨c, e, h1, h2⟩ => by
    subst e
    cases c with
    | true => exact wp_bind (h1 rfl)
    | false => exact h2 rfl) fun _ _ _ _ z => z)) fun _ _ _ _ z => z)) fun _ _ _ _ z => z)
theorem wp_joined {fs : List SE} (h : (jS fs Str.empty ρ μ).wp Q E) : (eJoined fs ρ μ).wp Q E := h
theorem wp_jNil {acc : Str} (q : Q (.str acc) μ) : (jS [] acc ρ μ).wp Q E := q
theorem wp_jCons {acc : Str} {fs : List SE} (h : (f ρ μ).wp (fun d μ1 => ∃ y, d = .str y ∧ (acc ++ y).length ≤ sizeLine ∧ (jS fs (acc ++ y) ρ μ1).wp Q E) E) : (jS (f :: fs) acc ρ μ).wp Q E :=
  wp_bind (wp_mono h (fun d μ1 ⟨y, e, c, q⟩ => by
    subst e
    show R.wp (if (acc ++ y).length ≤ sizeLine then _ else _) Q E
    rw [if_pos c]; exact q) fun _ _ _ _ z => z)
theorem wp_intI {i : Int} (q : Q (.int i) μ) : (dIntC (.int i) μ).wp Q E := q
theorem wp_intB {b : Bool} (q : Q (.int (if b = true then 1 else 0)) μ) : (dIntC (.bl b) μ).wp Q E := q
theorem wp_addL {xs ys : List D} (h : xs.length + ys.length ≤ 16777216) (q : Q (.lst (xs ++ ys)) μ) : (dAdd (.lst xs) (.lst ys) μ).wp Q E := by
  show R.wp (if xs.length + ys.length ≤ sizeLine then _ else _) Q E
  rw [if_pos (by rw [sizeLine_eq]; exact h)]; exact q
end
section
variable {E : Exs} {ρ : Env} {μ : Sto} {fa : SA}
theorem wp_enum {Q : List D × (Sto → Bool) → Sto → Prop} (h : (fa ρ μ).wp (fun ds μ1 => ∃ d, ds = [d] ∧ ∃ it, walkL μ1 d = some it ∧ Q (enumD 0 it.1, it.2) μ1) E) : (iEnumD fa ρ μ).wp Q E :=
  wp_bind (wp_mono h (fun ds μ1 ⟨d, e, it, e2, q⟩ => by subst e; dsimp only; rw [e2]; exact q) fun _ _ _ _ z => z)
theorem wp_zip {Q : List D × (Sto → Bool) → Sto → Prop} (h : (fa ρ μ).wp (fun ds μ1 => ∃ d e, ds = [d, e] ∧ ∃ it iu, walkL μ1 d = some it ∧ walkL μ1 e = some iu ∧ Q (zipD it.1 iu.1, fun μ' => it.2 μ' && iu.2 μ') μ1) E) : (iZipD fa ρ μ).wp Q E :=
  wp_bind (wp_mono h (fun ds μ1 ⟨d, e, e1, it, iu, e2, e3, q⟩ => by subst e1; dsimp only; rw [e2, e3]; exact q) fun _ _ _ _ z => z)
end
/-! ### lists that are cells -/
section
variable {μ : Sto} {k : Nat} {ds : List D} {i : Int} {x d : D} {g : MO} {m : Sto}
theorem asL_cell (h : μ[k]? = some (.lst ds)) : asL μ (.cell k) = some ds := by
  show (match μ[k]? with
    | some (.lst ds) => some ds
    | _ => none) = _
  rw [h]
theorem ix_cell (h : μ[k]? = some (.lst ds)) (h0 : 0 ≤ i) (hx : ds[i.toNat]? = some x) : dIx (.cell k) (.int i) μ = .ok x μ := by
  have h1 : i.toNat < ds.length := (List.getElem?_eq_some_iff.mp hx).1
  show (match asL μ (.cell k) with
    | some ds => (match atI ds i with
      | some d => R.ok d μ
      | none => .bad)
    | none => .bad) = _
  rw [asL_cell h]
  show (match atI ds i with
    | some d => R.ok d μ
    | none => .bad) = _
  unfold atI
  rw [ixN_nat h0 (by omega), Option.bind_some, hx]
theorem len_cell (h : μ[k]? = some (.lst ds)) : dLen (.cell k) μ = .ok (.int ds.length) μ := by
  show (match asL μ (.cell k) with
    | some ds => R.ok (D.int ds.length) μ
    | none => .bad) = _
  rw [asL_cell h]
theorem walkD_cell (h : μ[k]? = some (.lst ds)) : walkD μ (.cell k) = some (ds, fun μ' => match μ'[k]? with
      | some (.lst es) => D.beqL es ds
      | _ => false) := by
  show (match μ[k]? with
    | some (.lst ds) => some (ds, fun μ' : Sto => match μ'[k]? with
      | some (.lst es) => D.beqL es ds
      | _ => false)
    | _ => none) = _
  rw [h]
theorem gd_cell {μ' : Sto} (h : μ'[k]? = some (.lst ds)) : (fun μ' : Sto => match μ'[k]? with
      | some (.lst es) => D.beqL es ds
      | _ => false) μ' = true := by
  dsimp only
  rw [h]
  exact D.beqL_self ds
end
theorem wp_ixC {Q : D → Sto → Prop} {E : Exs} {μ : Sto} {k : Nat} {xs : List D} {i : Int} {x : D} (h : μ[k]? = some (.lst xs)) (h0 : 0 ≤ i) (hx : xs[i.toNat]? = some x) (q : Q x μ) : (dIx (.cell k) (.int i) μ).wp Q E := wp_ix (ix_cell h h0 hx) q
end L3

namespace L3
open PySem PySem.Spec PyProof.Rows L2
open SX (S)
/-! ### texts by their signs -/
def okT (a : List Nat) : Prop := ∀ c ∈ a, c < 1114112
instance (a : List Nat) : Decidable (okT a) := by unfold okT; infer_instance
theorem okT.s {a : List Nat} (h : okT a) : PyData.strOk (S a) = true := by
  show a.toArray.all (· < 0x110000) = true
  simp only [List.all_toArray, List.all_eq_true, decide_eq_true_eq]
  exact h
theorem okT.nil : okT [] := fun _ h => nomatch h
theorem okT.cons {c : Nat} {a : List Nat} (h : c < 1114112) (t : okT a) : okT (c :: a) := fun d hd => by
  rcases List.mem_cons.mp hd with e | e
  · subst e; exact h
  · exact t d e
theorem okT.app {a b : List Nat} (h : okT a) (t : okT b) : okT (a ++ b) := fun d hd => by
  rcases List.mem_append.mp hd with e | e
  · exact h d e
  · exact t d e
theorem okT.sub {a b : List Nat} (h : okT a) (t : ∀ c ∈ b, c ∈ a) : okT b := fun d hd => h d (t d hd)
theorem okT.take {a : List Nat} {n : Nat} (h : okT a) : okT (a.take n) := h.sub fun c hc => List.mem_of_mem_take hc
theorem okT.drop {a : List Nat} {n : Nat} (h : okT a) : okT (a.drop n) := h.sub fun c hc => List.mem_of_mem_drop hc
theorem okT.digits {a : List Nat} (h : NumText.AllDigits a) : okT a := fun c hc => by have := h c hc; omega
section
variable {Q : D → Sto → Prop} {E : Exs} {μ : Sto} {a b : List Nat}
/-- a whole number's signs -/
def intL (i : Int) : List Nat := if i < 0 then 45 :: TL.numL i.natAbs else TL.numL i.natAbs
theorem int_text (i : Int) : Str.ofString (toString i) = S (intL i) := by
  by_cases h : i < 0
  · obtain ⟨n, rfl⟩ : ∃ n : Nat, i = Int.negSucc n := ⟨(-i - 1).toNat, by omega⟩
    unfold intL
    rw [if_pos h]
    have e := SX.num_S (n + 1)
    have e2 := congrArg TL.tl e
    rw [TL.tl_ofString] at e2
    refine TL.ext_tl ?_
    rw [TL.tl_ofString]
    have e3 : (toString (Int.negSucc n)).toList = '-' :: (toString ((n + 1 : Nat) : Int)).toList := by
      show ("-" ++ toString (n + 1) : String).toList = '-' :: (toString (n + 1)).toList
      rw [String.toList_append]
      rfl
    rw [e3, List.map_cons, e2]
    rfl
  · obtain ⟨n, rfl⟩ : ∃ n : Nat, i = n := ⟨i.toNat, by omega⟩
    unfold intL
    rw [if_neg h]
    exact SX.num_S n
/-- joined pieces, by signs -/
theorem wp_jT {ρ : Env} {acc : List Nat} {f : SE} {fs : List SE} (h : (f ρ μ).wp (fun d μ1 => ∃ y, d = .str (S y) ∧ acc.length + y.length ≤ 16777216 ∧ (jS fs (S (acc ++ y)) ρ μ1).wp Q E) E) : (jS (f :: fs) (S acc) ρ μ).wp Q E :=
  wp_jCons (wp_mono h (fun d μ1 ⟨y, e, c, q⟩ => ⟨S y, e, by rw [SX.S_cat, SX.S_len, List.length_append, sizeLine_eq]; exact c, by rw [SX.S_cat]; exact q⟩) fun _ _ _ _ z => z)
theorem wp_joinedT {ρ : Env} {fs : List SE} (h : (jS fs (S []) ρ μ).wp Q E) : (eJoined fs ρ μ).wp Q E := wp_joined h
end
/-! ### numbers as texts -/
def IsNum (a : List Nat) : Prop := (1 ≤ a.length ∧ a.length ≤ 12) ∧ (∀ c ∈ a, 48 ≤ c ∧ c ≤ 57) ∧ (a = [48] ∨ a.head? ≠ some 48)
instance (a : List Nat) : Decidable (IsNum a) := by unfold IsNum; infer_instance
theorem IsNum.ne {a : List Nat} (h : IsNum a) : a ≠ [] := fun z => by subst z; exact absurd h.1.1 (by decide)
/-! lengths of written lists -/
section
variable {Q : D → Sto → Prop} {E : Exs} {μ : Sto} {a b c : D}
theorem wp_len0 (q : Q (.int 0) μ) : (dLen (.lst []) μ).wp Q E := q
theorem wp_len1 (q : Q (.int 1) μ) : (dLen (.lst [a]) μ).wp Q E := q
theorem wp_len2 (q : Q (.int 2) μ) : (dLen (.lst [a, b]) μ).wp Q E := q
theorem wp_len3 (q : Q (.int 3) μ) : (dLen (.lst [a, b, c]) μ).wp Q E := q
theorem wp_lenT1 (q : Q (.int 1) μ) : (dLen (.tup [a]) μ).wp Q E := q
theorem wp_lenT2 (q : Q (.int 2) μ) : (dLen (.tup [a, b]) μ).wp Q E := q
theorem wp_lenT3 (q : Q (.int 3) μ) : (dLen (.tup [a, b, c]) μ).wp Q E := q
end
end L3

namespace L3
open PySem PySem.Spec PyProof.Rows L2 PySem.Froz
/-! ### sets of texts: what stands at a place -/
def txE (e : Int × Value) : Str := match e.2 with
  | .str k _ => k
  | _ => Str.empty
theorem tailTx_all {ep : Nat} {xs : Array (Int × Value)} {t : SetTable} {d : Bool} (r : Ris t.place.toList) : Ris (tailTx ep xs t d).2.2.place.toList ∧ (tailTx ep xs t d).2.2.led = t.led ∧ (tailTx ep xs t d).1.toList.Perm xs.toList := by
  unfold tailTx
  by_cases c : (!d && t.tooFull) = true
  · rw [if_pos c]
    exact ⟨relayAll_ris _ _ _, relayAll_led _ _ _, relayAll_perm _ _ _⟩
  · rw [if_neg c]
    exact ⟨r, rfl, .refl _⟩
theorem offTx {t : SetTable} : (if t.plain = true then { t with plain := false } else t).place = t.place ∧ (if t.plain = true then { t with plain := false } else t).led = t.led := by
  split <;> exact ⟨rfl, rfl⟩
theorem addTx_all {D : SD} {z : Int} {v : Value} (r : Ris D.2.2.place.toList) : Ris (addTx z v D).2.2.place.toList ∧ (addTx z v D).2.2.led = D.2.2.led ∧ (addTx z v D).1.toList.Perm ((z, v) :: D.1.toList) := by
  have p1 := layNew_perm D.2.2 D.1 z v
  rw [Array.toList_push] at p1
  have p2 := p1.trans (List.perm_append_singleton _ _)
  have r1 := layNew_ris D.2.2 D.1 z v r
  have r2 := layNew_led D.2.2 D.1 z v
  obtain ⟨o1, o2⟩ := offTx (t := (layNew D.2.2 D.1 z v).2.1)
  unfold addTx
  generalize (if (layNew D.2.2 D.1 z v).2.1.plain = true then { (layNew D.2.2 D.1 z v).2.1 with plain := false } else (layNew D.2.2 D.1 z v).2.1) = t2 at o1 o2 ⊢
  obtain ⟨q1, q2, q3⟩ := tailTx_all (ep := D.2.1) (xs := (layNew D.2.2 D.1 z v).1) (t := t2) (d := (layNew D.2.2 D.1 z v).2.2.1) (by rw [o1]; exact r1)
  exact ⟨q1, q2.trans (o2.trans r2), q3.trans p2⟩
/-- the texts l (in any order), each once, in a set at a -/
structure StR (P : Program) (w : World) (h : Heap) (a : Addr) (l : List Str) : Prop where
  ex : ∃ D : SD, h.get? a = some (sObj "set" D) ∧ TxOk P w D l ∧ (D.1.toList.map txE).Perm l ∧ (∀ e ∈ D.1.toList, ∃ k u, e.2 = Value.str k u) ∧ Ris D.2.2.place.toList ∧ (w.params.followText "set-order" = true ∨ D.2.2.led = true)
  nd : l.Nodup
instance : DecidableEq Str := inferInstance
def insT (l : List Str) (k : Str) : List Str := if k ∈ l then l else k :: l
theorem insT_len (l : List Str) (k : Str) : (insT l k).length ≤ l.length + 1 := by
  unfold insT; split
  · omega
  · rw [List.length_cons]; omega
section
variable {P : Program} {w : World} {A : Around} {E : Value → Shared → Prop} {s : Shared} {a : Addr} {l : List Str} {k : Str} {u : Tok}
theorem StR.keep {h h' : Heap} (R : StR P w h a l) (f : ∀ o, h.get? a = some o → h'.get? a = some o) : StR P w h' a l := by
  obtain ⟨D, g1, g2⟩ := R.ex
  exact ⟨⟨D, f _ g1, g2⟩, R.nd⟩
theorem StR.new {h : Heap} (g : h.get? a = some { cls := .type "set", dict := none, data := .set #[] 0 (.fresh 0 0 (!w.params.followText "set-order")) }) : StR P w h a [] := by
  refine ⟨⟨(#[], 0, .fresh 0 0 (!w.params.followText "set-order")), g, TxOk.nil (by rfl), .refl _, fun e z => by simp at z, .nil, ?_⟩, .nil⟩
  show _ ∨ (!w.params.followText "set-order") = true
  cases w.params.followText "set-order"
  · exact .inr rfl
  · exact .inl rfl
theorem StR.addH {Q : Bool → Shared → Prop} (R : StR P w s.heap a l) (room : l.length + 1 < scanBound)
    (q : ∀ h' b, Heap.SameBut a s.heap h' → StR P w h' a (insT l k) → Q b { s with heap := h' }) : wpAny (model P w) A (setAddHashed a (.str k u) (hashStr w k)) Q E s := by
  obtain ⟨D, g1, g2, g3, g4, g5, g6⟩ := R.ex
  by_cases c : k ∈ l
  · have q := q s.heap false (Heap.SameBut.refl a s.heap) (by unfold insT; rw [if_pos c]; exact R)
    obtain ⟨es, ep, t⟩ := D
    have d1 : (sObj "set" (es, ep, t)).data = .set es ep t := rfl
    have d2 : t.fits es.size = true := g2.fit
    have d3 : ElemsOf (strKind P w) es.toList := g2.el
    have d4 : es.size = l.length := g2.sz
    have d5 : es.size < scanBound := by omega
    obtain ⟨e, he, hk⟩ := (g2.mem k).mp c
    unfold setAddHashed setAddHashedIn
    refine wpAny_holding (wpAny_bind (wpAny_setState_of g1 d1 d2 ?_))
    dsimp only
    rw [byScan_of rfl d5 d3]
    simp only [↓reduceIte]
    unfold setAddByScan
    refine wpAny_bind (wpAny_bind (wpAny_rule (wpAny_bind (wpAny_setScan_of (knd := strKind P w) (k := k) (is_str k u) g1 d1 d2 d3 ?_))))
    cases f : List.findIdx? (fun e => (strKind P w).is k e.2) es.toList with
    | none =>
      have z := List.findIdx?_eq_none_iff.mp f e he
      rw [hk] at z; cases z
    | some j =>
      dsimp only
      exact wpAny_pure (wpAny_pure q)
  · have q := q (s.heap.update a (fun _ => sObj "set" (addTx (hashStr w k) (.str k u) D))) true (Heap.SameBut.update _ _ _)
    refine add_x g1 g2 c room (q ⟨⟨addTx (hashStr w k) (.str k u) D, get_upd _ g1 rfl, ?_, ?_, ?_, (addTx_all g5).1, ?_⟩, ?_⟩)
    · unfold insT; rw [if_neg c]; exact add_ok u g2
    · unfold insT; rw [if_neg c]
      exact ((addTx_all g5).2.2.map txE).trans (.cons _ g3)
    · intro e he
      rcases List.mem_cons.mp ((addTx_all g5).2.2.mem_iff.mp he) with z | z
      · subst z; exact ⟨k, u, rfl⟩
      · exact g4 e z
    · rw [(addTx_all g5).2.1]; exact g6
    · unfold insT; rw [if_neg c]; exact List.nodup_cons.mpr ⟨c, R.nd⟩
theorem StR.typ (R : StR P w s.heap a l) : s.TypeIs (.ref a) "set" := let ⟨_, g1, _⟩ := R.ex; ⟨_, g1, rfl⟩
theorem StR.add1 {Q : Bool → Shared → Prop} (R : StR P w s.heap a l) (room : l.length + 1 < scanBound)
    (q : ∀ h' b, Heap.SameBut a s.heap h' → StR P w h' a (insT l k) → Q b { s with heap := h', toks := s.toks + 1 }) : wpAny (model P w) A (setAdd a (.str k u)) Q E s := by
  unfold setAdd
  refine wpAny_holding (wpAny_bind ((strKind P w).pyHash (is_str k u) ?_))
  exact StR.addH (s := { s with toks := s.toks + 1 }) R room q
theorem StR.add {Q : Value → Shared → Prop} (R : StR P w s.heap a l) (room : l.length + 1 < scanBound)
    (q : ∀ h', Heap.SameBut a s.heap h' → StR P w h' a (insT l k) → Q .none { s with heap := h', toks := s.toks + 1 }) :
    wpAny (model P w) A (call (.builtin "set.add") [.ref a, .str k u]) Q E s := by
  refine wpAny_call_entry F.slot_set_add R.typ F.entry_set_add ?_ (F.args_set_add_2 _ _)
  unfold Builtin.«set.add» Builtin.Frozenset.oneOther
  simp only [List.isEmpty_nil, bind_assoc]
  unfold Builtin.Frozenset.addrOf
  refine wpAny_bind (wpAny_pure ?_)
  try dsimp only
  refine wpAny_bind (wpAny_pure ?_)
  try dsimp only
  refine wpAny_bind (StR.add1 R room fun h' b sb r => ?_)
  show wpAny _ _ (ret Value.none) _ _ _
  exact wpAny_pure ⟨_, rfl, q h' sb r⟩
end
end L3

namespace L3
open PySem PySem.Spec PyProof.Rows L2 PySem.Froz
section
variable {X : Cx}
end
end L3

namespace L3
open PySem PySem.Spec PyProof.Rows L2
/-! ### a comprehension with two fors -/
/-- the inner walk, by what the outer turn left -/
def inS (vs1 : List Nat) (fi : SI) (g : SG) (tt : ST) (te : SE) : Env → Sto → R (List D) := fun ρ μ => (fi ρ μ).nox.bind fun it μ1 => lcS it.2 g tt te (wipeE ρ vs1) it.1 μ1
def lcS2 (gd : Sto → Bool) (g : SG) (tt : ST) (ti : Env → Sto → R (List D)) (ρ : Env) : List D → Sto → R (List D)
  | [], μ => if gd μ = true then .ok [] μ else .bad
  | d :: ds, μ => if gd μ = true then (match g d ρ μ with
    | some ρ1 => (tt ρ1 μ).nox.bind fun b μ1 => if b = true then (ti ρ1 μ1).nox.bind fun y μ2 => (lcS2 gd g tt ti ρ ds μ2).nox.bind fun ys μ3 => .ok (y ++ ys) μ3 else lcS2 gd g tt ti ρ ds μ1
    | none => .bad) else .bad
def eLc2 (vs vs1 : List Nat) (fi : SI) (g : SG) (tt : ST) (fi1 : SI) (g1 : SG) (tt1 : ST) (te : SE) : SE := fun ρ μ => (fi ρ μ).bind fun it μ1 =>
  (lcS2 it.2 g tt (inS vs1 fi1 g1 tt1 te) (wipeE ρ vs) it.1 μ1).nox.bind fun ys μ2 => if ys.length ≤ sizeLine then .ok (.lst ys) μ2 else .bad
section
variable {P : Pm} {W : WX} {X : Cx} {elt tg iter tg1 iter1 : Expr} {ifs ifs1 : List Expr} {scope : Scope} {own : List (Str × Nat)} {pos : Pos} {fi fi1 : SI} {sl sl1 vs1 : List Nat} {g g1 : SG} {tt tt1 : ST} {te : SE}
theorem lcS2_nox {gd : Sto → Bool} {ti : Env → Sto → R (List D)} {ρ : Env} {c : Str} {ns : List Str} {vs : List D} {μ' : Sto} : ∀ {ds : List D} {μ : Sto}, lcS2 gd g tt ti ρ ds μ ≠ .exc c ns vs μ'
  | [], μ, h => by
    unfold lcS2 at h
    split at h <;> cases h
  | d :: ds, μ, h => by
    unfold lcS2 at h
    split at h
    · split at h
      · rename_i ρ1 _
        cases e1 : tt ρ1 μ with
        | exc _ _ _ _ => rw [e1] at h; cases h
        | bad => rw [e1] at h; cases h
        | ok b μ1 =>
          rw [e1] at h
          have h : (if b = true then (ti ρ1 μ1).nox.bind fun y μ2 => (lcS2 gd g tt ti ρ ds μ2).nox.bind fun ys μ3 => .ok (y ++ ys) μ3 else lcS2 gd g tt ti ρ ds μ1) = R.exc c ns vs μ' := h
          split at h
          · cases e2 : ti ρ1 μ1 with
            | exc _ _ _ _ => rw [e2] at h; cases h
            | bad => rw [e2] at h; cases h
            | ok y μ2 =>
              rw [e2] at h
              have h : ((lcS2 gd g tt ti ρ ds μ2).nox.bind fun ys μ3 => R.ok (y ++ ys) μ3) = R.exc c ns vs μ' := h
              cases e3 : lcS2 gd g tt ti ρ ds μ2 with
              | exc _ _ _ _ => rw [e3] at h; cases h
              | bad => rw [e3] at h; cases h
              | ok ys μ3 => rw [e3] at h; cases h
          · exact lcS2_nox h
      · cases h
    · cases h
/-- what stands between two turns: the list so far, what is left gives ys and ends in μf -/
structure LcMid (P : Pm) (L1 : Lv) (H1 : Hp) (p : Addr) (σ0 : Slots) (ρ0 : Env) (total : List D) (H : Hp) (c : List Addr) (accD ys : List D) (μ : Sto) : Prop where
  rs : RelS P H ⟨c, p :: L1.x⟩ σ0 ρ0
  st : St3 P H ⟨c, p :: L1.x⟩ μ
  at_ : ∃ acc, H p = some (.lst acc) ∧ Reps P H ⟨c, p :: L1.x⟩ acc accD
  x : Ext0 L1 H1 ⟨c, p :: L1.x⟩ H
  prv : ∀ a ∈ L1.x, H a = H1 a
  sum : accD ++ ys = total
theorem LcMid.go {L1 : Lv} {H1 H H2 : Hp} {p : Addr} {σ0 σ1 : Slots} {ρ0 ρ1 : Env} {total accD ys : List D} {c : List Addr} {μ μ1 : Sto} {L2 : Lv} (m : LcMid P L1 H1 p σ0 ρ0 total H c accD ys μ) (x : Ext P ⟨c, p :: L1.x⟩ H L2 H2) (s : St3 P H2 L2 μ1) (r : RelS P H2 L2 σ1 ρ1) : ∃ c2, L2 = ⟨c2, p :: L1.x⟩ ∧ LcMid P L1 H1 p σ1 ρ1 total H2 c2 accD ys μ1 := by
  obtain ⟨c2, xx⟩ := L2
  have e : xx = p :: L1.x := x.px
  subst e
  obtain ⟨acc, h1, h2⟩ := m.at_
  exact ⟨c2, rfl, r, s, ⟨acc, (x.prv p List.mem_cons_self).trans h1, h2.ext x⟩, m.x.trans x.toExt0, fun a h => (x.prv a (List.mem_cons_of_mem _ h)).trans (m.prv a h), m.sum⟩
theorem LcMid.put {L1 : Lv} {H1 H : Hp} {p : Addr} {σ0 : Slots} {ρ0 : Env} {total accD zs : List D} {d : D} {v : V} {c : List Addr} {μ : Sto} (np : p ∉ L1.x) (m : LcMid P L1 H1 p σ0 ρ0 total H c accD (d :: zs) μ) (rv : Rep P H ⟨c, p :: L1.x⟩ v d) :
    ∃ acc, H p = some (.lst acc) ∧ acc.length = accD.length ∧ Ext0 ⟨c, p :: L1.x⟩ H ⟨c, p :: L1.x⟩ (upd H p (.lst (acc ++ [v]))) ∧ LcMid P L1 H1 p σ0 ρ0 total (upd H p (.lst (acc ++ [v]))) c (accD ++ [d]) zs μ := by
  obtain ⟨acc, h1, h2⟩ := m.at_
  obtain ⟨s9, x9⟩ := prv_put (acc' := acc ++ [v]) m.st (p := p) List.mem_cons_self h1
  refine ⟨acc, h1, h2.length, x9, m.rs.ext0 x9, s9, ⟨_, upd_same, (h2.append (.cons rv .nil)).ext0 x9⟩, m.x.trans x9, fun a h => ?_, by rw [List.append_assoc]; exact m.sum⟩
  have ne : a ≠ p := fun z => by subst z; exact np h
  rw [upd_ne ne]
  exact m.prv a h
theorem tLc2_of {vs : List Nat} {σ : L2.St} {H : Hp} {Q : VK} {L : Lv} {ρ : Env} {μ : Sto} (hsl : ∀ i ∈ sl, i ∈ vs) (hsl1 : ∀ i ∈ sl1, i ∈ vs1) (rs : RelS P H L σ ρ) (st : St3 P H L μ)
    (q : Post P (WE W σ) L H (fun d L' H' => ∀ v, Rep P H' L' v d → Q v H') (eLc2 vs vs1 fi g tt fi1 g1 tt1 te ρ μ)) :
    tLc2 (tVI P W fi) (tVG P sl g) (tVT P W0 tt) (tVI P W0 fi1) (tVG P sl1 g1) (tVT P W0 tt1) (tV P W0 te) vs vs1 σ H Q := by
  refine ⟨L, ρ, μ, rs, st, ?_⟩
  unfold eLc2 at q
  cases e : fi ρ μ with
  | exc c ns vs μ1 => rw [e] at q; exact q
  | bad => rw [e] at q; exact q
  | ok it μ1 =>
    rw [e] at q
    intro L1 H1 x1 s1 J gv p hp
    have q1 := Post.ext x1 q
    have q1 : Post P (WE W σ) L1 H1 (fun d L' H' => ∀ v, Rep P H' L' v d → Q v H') ((lcS2 it.2 g tt (inS vs1 fi1 g1 tt1 te) (wipeE ρ vs) it.1 μ1).nox.bind fun ys μ2 => if ys.length ≤ sizeLine then .ok (.lst ys) μ2 else .bad) := q1
    cases et : lcS2 it.2 g tt (inS vs1 fi1 g1 tt1 te) (wipeE ρ vs) it.1 μ1 with
    | exc _ _ _ _ => exact absurd et lcS2_nox
    | bad => rw [et] at q1; exact q1.elim
    | ok total μf =>
      rw [et] at q1
      have q1 : Post P (WE W σ) L1 H1 (fun d L' H' => ∀ v, Rep P H' L' v d → Q v H') (if total.length ≤ sizeLine then .ok (.lst total) μf else .bad) := q1
      by_cases hz : total.length ≤ sizeLine
      case neg => rw [if_neg hz] at q1; exact q1.elim
      rw [if_pos hz] at q1
      obtain ⟨s2, x2⟩ := prv_new s1 hp
      have np : p ∉ L1.x := fun z => s1.new_not hp (.inr z)
      have lt_of : ∀ {accD zs : List D} {d : D}, accD ++ d :: zs = total → accD.length < sizeLine := by
        intro accD zs d e
        have := congrArg List.length e
        rw [List.length_append, List.length_cons] at this
        omega
      refine ⟨fun i m H => ∃ (c : List Addr) (accD ys : List D) (μ : Sto), LcMid P L1 H1 p (wipe σ vs) (wipeE ρ vs) total H c accD ys μ ∧ Gives P J it.1 it.2 ⟨c, p :: L1.x⟩ H ∧ lcS2 it.2 g tt (inS vs1 fi1 g1 tt1 te) (wipeE ρ vs) (it.1.drop i) μ = .ok ys μf ∧ m = it.1.length - i,
        ⟨_, L1.c, [], total, μ1, ⟨(rs.ext x1).ext0 x2 |>.wipe vs, s2, ⟨[], upd_same, .nil⟩, x2, fun a h => upd_ne (fun z => by subst z; exact np h), rfl⟩, gv.ext x2, et, rfl⟩, ?_⟩
      rintro i m H3 ⟨c, accD, ys, μ3, m3, gv3, el3, rfl⟩
      cases e2 : it.1[i]? with
      | none =>
        rw [drop_none e2] at el3
        unfold lcS2 at el3
        by_cases cg : it.2 μ3 = true
        · rw [if_pos cg] at el3
          cases el3
          have es := m3.sum
          rw [List.append_nil] at es
          subst es
          obtain ⟨acc, h1, h2⟩ := m3.at_
          obtain ⟨a1, a2, a3⟩ := LcEnd.pure (P := P) ⟨hp, np, m3.x, m3.prv, m3.st, h1, h2⟩
          exact .inl ⟨(gv3 _ _ _ i .refl m3.st cg).2 e2, q1 _ _ a1 a2 _ a3⟩
        · rw [if_neg cg] at el3; cases el3
      | some d =>
        rw [drop_some e2] at el3
        unfold lcS2 at el3
        by_cases cg : it.2 μ3 = true
        case neg => rw [if_neg cg] at el3; cases el3
        rw [if_pos cg] at el3
        obtain ⟨hgo, hy⟩ := (gv3 _ _ _ i .refl m3.st cg).1 d e2
        have hlt : i < it.1.length := (List.getElem?_eq_some_iff.mp e2).1
        refine .inr ⟨hgo, fun H => ∃ (c : List Addr) (accD ys : List D) (μ : Sto), LcMid P L1 H1 p (wipe σ vs) (wipeE ρ vs) total H c accD ys μ ∧ Gives P J it.1 it.2 ⟨c, p :: L1.x⟩ H ∧ lcS2 it.2 g tt (inS vs1 fi1 g1 tt1 te) (wipeE ρ vs) (it.1.drop (i + 1)) μ = .ok ys μf,
          fun H' ⟨c, accD, ys, μ, a1, a2, a3⟩ => ⟨it.1.length - (i + 1), by omega, c, accD, ys, μ, a1, a2, a3, rfl⟩, fun x H4 y4 => ?_⟩
        obtain ⟨gr, rx⟩ := hy x H4 y4
        have x4 : Ext P ⟨c, p :: L1.x⟩ H3 ⟨c, p :: L1.x⟩ H4 := Ext.grow m3.st gr
        cases e3 : g d (wipeE ρ vs) μ3 with
        | none => rw [e3] at el3; cases el3
        | some ρ5 =>
          rw [e3] at el3
          dsimp only at el3
          refine ⟨⟨c, p :: L1.x⟩, wipeE ρ vs, μ3, d, ρ5, m3.rs.ext x4, m3.st.grow gr, rx, e3, fun σ5 rs5 w5 => ⟨by rw [w5 vs hsl, wipe_wipe], ?_⟩⟩
          refine ⟨⟨c, p :: L1.x⟩, ρ5, μ3, rs5, m3.st.grow gr, ?_⟩
          cases e6 : tt ρ5 μ3 with
          | exc _ _ _ _ => rw [e6] at el3; cases el3
          | bad => rw [e6] at el3; cases el3
          | ok b μ6 =>
            rw [e6] at el3
            have el3 : (if b = true then (inS vs1 fi1 g1 tt1 te ρ5 μ6).nox.bind fun y μ2 => (lcS2 it.2 g tt (inS vs1 fi1 g1 tt1 te) (wipeE ρ vs) (it.1.drop (i + 1)) μ2).nox.bind fun ys μ3 => R.ok (y ++ ys) μ3
              else lcS2 it.2 g tt (inS vs1 fi1 g1 tt1 te) (wipeE ρ vs) (it.1.drop (i + 1)) μ6) = .ok ys μf := el3
            intro L6 H6 x6 s6
            have x36 := x4.trans x6
            obtain ⟨c6, el, m6⟩ := m3.go x36 s6 (m3.rs.ext x36)
            subst el
            have gv6 := gv3.ext x36.toExt0
            dsimp only
            cases b with
            | false =>
              rw [if_neg Bool.false_ne_true] at el3 ⊢
              exact ⟨c6, accD, ys, μ6, m6, gv6, el3⟩
            | true =>
              rw [if_pos rfl] at el3 ⊢
              have rs6 := rs5.ext x6
              refine ⟨⟨c6, p :: L1.x⟩, ρ5, μ6, rs6, s6, ?_⟩
              unfold inS at el3
              cases e7 : fi1 ρ5 μ6 with
              | exc _ _ _ _ => rw [e7] at el3; cases el3
              | bad => rw [e7] at el3; cases el3
              | ok it1 μ7 =>
                rw [e7] at el3
                have el3 : (lcS it1.2 g1 tt1 te (wipeE ρ5 vs1) it1.1 μ7).nox.bind (fun y μ2 => (lcS2 it.2 g tt (inS vs1 fi1 g1 tt1 te) (wipeE ρ vs) (it.1.drop (i + 1)) μ2).nox.bind fun ys μ3 => R.ok (y ++ ys) μ3) = .ok ys μf := el3
                cases e8 : lcS it1.2 g1 tt1 te (wipeE ρ5 vs1) it1.1 μ7 with
                | exc _ _ _ _ => exact absurd e8 lcS_nox
                | bad => rw [e8] at el3; cases el3
                | ok ysI μ8 =>
                  rw [e8] at el3
                  have el3 : (lcS2 it.2 g tt (inS vs1 fi1 g1 tt1 te) (wipeE ρ vs) (it.1.drop (i + 1)) μ8).nox.bind (fun ys μ3 => R.ok (ysI ++ ys) μ3) = .ok ys μf := el3
                  cases e9 : lcS2 it.2 g tt (inS vs1 fi1 g1 tt1 te) (wipeE ρ vs) (it.1.drop (i + 1)) μ8 with
                  | exc _ _ _ _ => exact absurd e9 lcS2_nox
                  | bad => rw [e9] at el3; cases el3
                  | ok ysO μ9 =>
                    rw [e9] at el3
                    cases el3
                    intro L7 H7 x7 s7 J1 gi
                    obtain ⟨c7, el, m7⟩ := m6.go x7 s7 (m6.rs.ext x7)
                    subst el
                    have gv7 := gv6.ext x7.toExt0
                    have rs7 := (rs6.ext x7).wipe vs1
                    refine ⟨fun j k H => ∃ (c : List Addr) (accD zs : List D) (μ : Sto), LcMid P L1 H1 p (wipe σ vs) (wipeE ρ vs) total H c accD (zs ++ ysO) μ ∧ RelS P H ⟨c, p :: L1.x⟩ (wipe σ5 vs1) (wipeE ρ5 vs1) ∧ Gives P J it.1 it.2 ⟨c, p :: L1.x⟩ H ∧ Gives P J1 it1.1 it1.2 ⟨c, p :: L1.x⟩ H ∧
                        lcS it1.2 g1 tt1 te (wipeE ρ5 vs1) (it1.1.drop j) μ = .ok zs μ8 ∧ k = it1.1.length - j, ⟨_, c7, accD, ysI, μ7, m7, rs7, gv7, gi, e8, rfl⟩, ?_⟩
                    rintro j k H8 ⟨c8, accI, zs, μ10, m8, r8, gvo, gvi, el8, rfl⟩
                    cases e10 : it1.1[j]? with
                    | none =>
                      rw [drop_none e10] at el8
                      unfold lcS at el8
                      by_cases cg1 : it1.2 μ10 = true
                      · rw [if_pos cg1] at el8
                        cases el8
                        exact .inl ⟨(gvi _ _ _ j .refl m8.st cg1).2 e10, c8, accI, ysO, _, m8, gvo, e9⟩
                      · rw [if_neg cg1] at el8; cases el8
                    | some d1 =>
                      rw [drop_some e10] at el8
                      unfold lcS at el8
                      by_cases cg1 : it1.2 μ10 = true
                      case neg => rw [if_neg cg1] at el8; cases el8
                      rw [if_pos cg1] at el8
                      obtain ⟨hgo1, hy1⟩ := (gvi _ _ _ j .refl m8.st cg1).1 d1 e10
                      have hlt1 : j < it1.1.length := (List.getElem?_eq_some_iff.mp e10).1
                      refine .inr ⟨hgo1, fun H => ∃ (c : List Addr) (accD zs : List D) (μ : Sto), LcMid P L1 H1 p (wipe σ vs) (wipeE ρ vs) total H c accD (zs ++ ysO) μ ∧ RelS P H ⟨c, p :: L1.x⟩ (wipe σ5 vs1) (wipeE ρ5 vs1) ∧ Gives P J it.1 it.2 ⟨c, p :: L1.x⟩ H ∧ Gives P J1 it1.1 it1.2 ⟨c, p :: L1.x⟩ H ∧
                          lcS it1.2 g1 tt1 te (wipeE ρ5 vs1) (it1.1.drop (j + 1)) μ = .ok zs μ8, fun H' ⟨c, accD, zs, μ, a1, a2, a3, a4, a5⟩ => ⟨it1.1.length - (j + 1), by omega, c, accD, zs, μ, a1, a2, a3, a4, a5, rfl⟩, fun z H9 y9 => ?_⟩
                      obtain ⟨gr1, rx1⟩ := hy1 z H9 y9
                      have x9 : Ext P ⟨c8, p :: L1.x⟩ H8 ⟨c8, p :: L1.x⟩ H9 := Ext.grow m8.st gr1
                      cases e11 : g1 d1 (wipeE ρ5 vs1) μ10 with
                      | none => rw [e11] at el8; cases el8
                      | some ρ11 =>
                        rw [e11] at el8
                        dsimp only at el8
                        refine ⟨⟨c8, p :: L1.x⟩, wipeE ρ5 vs1, μ10, d1, ρ11, r8.ext x9, m8.st.grow gr1, rx1, e11, fun σ11 rs11 w11 => ⟨by rw [w11 vs1 hsl1, wipe_wipe], ?_⟩⟩
                        refine ⟨⟨c8, p :: L1.x⟩, ρ11, μ10, rs11, m8.st.grow gr1, ?_⟩
                        cases e12 : tt1 ρ11 μ10 with
                        | exc _ _ _ _ => rw [e12] at el8; cases el8
                        | bad => rw [e12] at el8; cases el8
                        | ok b1 μ12 =>
                          rw [e12] at el8
                          have el8 : (if b1 = true then (te ρ11 μ12).nox.bind fun y μ2 => (lcS it1.2 g1 tt1 te (wipeE ρ5 vs1) (it1.1.drop (j + 1)) μ2).nox.bind fun ys μ3 => R.ok (y :: ys) μ3 else lcS it1.2 g1 tt1 te (wipeE ρ5 vs1) (it1.1.drop (j + 1)) μ12) = .ok zs μ8 := el8
                          intro L12 H12 x12 s12
                          have x812 := x9.trans x12
                          obtain ⟨c12, el, m12⟩ := m8.go x812 s12 (m8.rs.ext x812)
                          subst el
                          dsimp only
                          cases b1 with
                          | false =>
                            rw [if_neg Bool.false_ne_true] at el8 ⊢
                            exact ⟨c12, accI, zs, μ12, m12, r8.ext x812, gvo.ext x812.toExt0, gvi.ext x812.toExt0, el8⟩
                          | true =>
                            rw [if_pos rfl] at el8 ⊢
                            refine ⟨⟨c12, p :: L1.x⟩, ρ11, μ12, rs11.ext x12, s12, ?_⟩
                            cases e13 : te ρ11 μ12 with
                            | exc _ _ _ _ => rw [e13] at el8; cases el8
                            | bad => rw [e13] at el8; cases el8
                            | ok yd μ13 =>
                              rw [e13] at el8
                              have el8 : ((lcS it1.2 g1 tt1 te (wipeE ρ5 vs1) (it1.1.drop (j + 1)) μ13).nox.bind fun ys μ3 => R.ok (yd :: ys) μ3) = .ok zs μ8 := el8
                              cases e14 : lcS it1.2 g1 tt1 te (wipeE ρ5 vs1) (it1.1.drop (j + 1)) μ13 with
                              | exc _ _ _ _ => exact absurd e14 lcS_nox
                              | bad => rw [e14] at el8; cases el8
                              | ok zs2 μ14 =>
                                rw [e14] at el8
                                cases el8
                                intro L13 H13 x13 s13 v rv
                                obtain ⟨c13, el, m13⟩ := m12.go x13 s13 (m12.rs.ext x13)
                                subst el
                                have x813 := x812.trans x13
                                obtain ⟨acc, h1, h2, xp, m14⟩ := LcMid.put (zs := zs2 ++ ysO) np m13 rv
                                exact ⟨acc, h1, by rw [h2]; exact lt_of m13.sum, c13, _, zs2, μ13, m14, (r8.ext x813).ext0 xp, (gvo.ext x813.toExt0).ext xp, (gvi.ext x813.toExt0).ext xp, e14⟩
theorem ve_lc2 (hc : X.calm = true) (hN : X.N.Nodup) (hi : VI P W X tg iter fi) (ok : BlkOk X.N X.env.scope scope own)
    (hg : ∀ (s : Shared) (H : Hp) (C : Addr) (cl : List (Str × Addr)) (fp : List Addr), VG P (X.blk s H scope (compEnvC scope cl C X.env) fp) tg sl g)
    (ht : ∀ (s : Shared) (H : Hp) (C : Addr) (cl : List (Str × Addr)) (fp : List Addr), PTs (X.blk s H scope (compEnvC scope cl C X.env) fp) ifs (tVT P W0 tt))
    (hi1 : ∀ (s : Shared) (H : Hp) (C : Addr) (cl : List (Str × Addr)) (fp : List Addr), VI P W0 (X.blk s H scope (compEnvC scope cl C X.env) fp) tg1 iter1 fi1)
    (hg1 : ∀ (s : Shared) (H : Hp) (C : Addr) (cl : List (Str × Addr)) (fp : List Addr), VG P (X.blk s H scope (compEnvC scope cl C X.env) fp) tg1 sl1 g1)
    (ht1 : ∀ (s : Shared) (H : Hp) (C : Addr) (cl : List (Str × Addr)) (fp : List Addr), PTs (X.blk s H scope (compEnvC scope cl C X.env) fp) ifs1 (tVT P W0 tt1))
    (he : ∀ (s : Shared) (H : Hp) (C : Addr) (cl : List (Str × Addr)) (fp : List Addr), VE P W0 (X.blk s H scope (compEnvC scope cl C X.env) fp) elt te)
    (hv : ∀ i ∈ vs1, i ∈ own.map (·.2) := by decide) (hsl : ∀ i ∈ sl, i ∈ own.map (·.2) := by decide) (hsl1 : ∀ i ∈ sl1, i ∈ vs1 := by decide) (hs : ∀ x, foldedSetIterable iter X.env x = pure x := by intro _; rfl) (hs1 : ∀ env x, foldedSetIterable iter1 env x = pure x := by intro _ _; rfl) :
    VE P W X (.ListComp elt [⟨tg, iter, ifs, 0⟩, ⟨tg1, iter1, ifs1, 0⟩] scope pos) (eLc2 (own.map (·.2)) vs1 fi g tt fi1 g1 tt1 te) :=
  (pe_lc2 hc hN hi ok hv hg ht hi1 hg1 ht1 he hs hs1).imp3 fun σ H Q ⟨L, ρ, μ, rs, st, q⟩ => tLc2_of hsl hsl1 rs st q
end
end L3

namespace L3
open PySem PySem.Spec PyProof.Rows L2 PySem.Froz
/-! ### set(a list of texts) -/
theorem insF_len (xs : List Str) : ∀ l : List Str, (xs.foldl insT l).length ≤ l.length + xs.length := by
  induction xs with
  | nil => intro l; exact Nat.le_refl _
  | cons x xs ih =>
    intro l
    have h1 := ih (insT l x)
    have h2 := insT_len l x
    rw [List.foldl_cons, List.length_cons]
    omega
section
variable {P : Program} {w : World} {A : Around} {E : Value → Shared → Prop} {s : Shared}
theorem StR.upd {I : Addr} {fp wr : List Addr} {G : Array GenState → Array GenState → Prop} {n : Nat} {Pv : Nat → Value → Prop} {St : Nat → Shared → Prop} {R : Result → Shared → Prop} (W : WalksS P w A.in1 I fp wr G n Pv St) (S : Addr) (hS : S ∉ fp)
    (xs : List Str) (hn : n = xs.length) (hv : ∀ i v, Pv i v → ∃ z u, xs[i]? = some z ∧ v = Value.str z u) (room : xs.length + 1 < scanBound) : ∀ (k i : Nat) (s : Shared), n - i = k → i ≤ n → St i s → StR P w s.heap S ((xs.take i).foldl insT []) →
      (∀ s', Moved (S :: wr) G s s' → StR P w s'.heap S (xs.foldl insT []) → R (.ok (.ret .none)) s') → codeAny (model P w) A (.builtin "set.update.loop" ⟨[.ref S, .ref I], []⟩) R s := by
  have nw : S ∉ wr := fun h => hS (W.sub _ h)
  have sub : ∀ b ∈ wr, b ∈ S :: wr := fun b hb => List.mem_cons_of_mem _ hb
  intro k
  induction k with
  | zero =>
    intro i s e1 e2 st r q
    obtain rfl : i = n := by omega
    refine codeAny_builtin F.entry_set_update_loop ?_
    rw [Around.under_plainId F.plain_set_update_loop _]
    show wpAny _ A.in1 (pyNext (.ref I) >>= _) _ _ s
    refine wpAny_bind (W.done s _ _ st fun s' m => ?_)
    show wpAny _ A.in1 (ret Value.none) _ _ s'
    rw [hn, List.take_length] at r
    exact wpAny_pure (q s' (m.mono sub) (r.keep fun o e => m.heap S o nw e))
  | succ k ih =>
    intro i s e1 e2 st r q
    have lt : i < n := by omega
    refine codeAny_builtin F.entry_set_update_loop ?_
    rw [Around.under_plainId F.plain_set_update_loop _]
    show wpAny _ A.in1 (pyNext (.ref I) >>= _) _ _ s
    refine wpAny_bind (W.item i s _ _ lt st fun v s' pv st' m => ?_)
    obtain ⟨z, u, hz, rfl⟩ := hv i v pv
    have r' : StR P w s'.heap S ((xs.take i).foldl insT []) := r.keep fun o e => m.heap S o nw e
    have len := insF_len (xs.take i) []
    rw [List.length_take] at len
    show wpAny _ A.in1 (holding [Value.str z u] (setAdd S (.str z u)) >>= _) _ _ s'
    refine wpAny_bind (wpAny_holding (StR.add1 (k := z) r' (by simp at len; omega) fun h' b sb r2 => ?_))
    have e3 : insT ((xs.take i).foldl insT []) z = (xs.take (i + 1)).foldl insT [] := by
      have hi : i < xs.length := by omega
      rw [List.take_succ, hz, List.foldl_append]
      rfl
    rw [e3] at r2
    refine wpAny_pure ⟨plainId_quiet F.plain_set_update_loop _, ih (i + 1) _ (by omega) lt (W.frame _ s' _ _ st' (Nat.le_succ _) fun b hb o e => ?_) r2 fun s2 m2 rr => ?_⟩
    · rw [sb.2 b (fun h : b = S => hS (by rw [← h]; exact hb))]; exact e
    · refine q s2 (Moved.trans W.gtrans ((m.mono sub).then_heap (Nat.le_succ _) fun b o hb e => ?_) m2) rr
      rw [sb.2 b (fun h : b = S => hb (by rw [h]; exact List.mem_cons_self))]; exact e
end
section
variable {X : Cx}
end
section
variable {P : Pm} {X : Cx} {W : WX} {f : SE}
end
end L3

namespace L3
open PySem PySem.Spec PyProof.Rows L2
/-! ### max(a list of ints, default=d) -/
section
variable {prog : Program} {w : World} {A : Around} {E : Value → Shared → Prop} {I : Addr} {fp wr : List Addr} {G : Array GenState → Array GenState → Prop} {n : Nat} {P : Nat → Value → Prop} {St : Nat → Shared → Prop} {R : Result → Shared → Prop}
end
section
variable {prog : Program} {w : World} {A : Around} {E : Value → Shared → Prop} {s : Shared} {l : Addr} {its : List Value} {ns : List Int} {Q : Value → Shared → Prop}
end
section
variable {X : Cx}
end
section
variable {P : Pm} {W : WX} {X : Cx} {f : SE}
end
end L3

namespace L3
open PySem PySem.Spec PyProof.Rows L2
section
variable {P : Pm} {W : WX} {X : Cx} {f f2 : SE} {a : Addr} {kvs : List (Str × D)} {x : Str}
end
end L3

namespace L3
open PySem PySem.Spec PyProof.Rows L2
section
variable {P : Pm} {X : Cx} {W : WX} {f : SE}
end
end L3

namespace L3
open PySem PySem.Spec PySem.Calls PyProof.Rows L2
/-! ### x, *ys = a tuple -/
section
variable {pr : Program} {w : World} {A : Around} {E : Value → Shared → Prop} {s : Shared}
end
section
variable {X : Cx} {e1 e2 : Expr} {sp pos : Pos} {k : Nat}
end
section
variable {P : Pm} {X : Cx} {W : WX} {pos : Pos} {e : Expr} {fe : SE}
/-- x, *ys = e -/
def sStar (i j : Nat) (f : SE) : SS := fun ρ μ => (f ρ μ).thn ρ fun d μ1 => match d with
  | .tup (x :: xs) => if xs.length ≤ 16000 then .nx ((ρ.set i (some x)).set j (some (.lst xs))) μ1 else .bad
  | _ => .bad
end
end L3

namespace L3
open PySem PySem.Spec PySem.Calls PyProof.Rows L2
/-! ### dicts: cells with keys -/
def keyD : D → Option Key
  | .int i => some (.inl i)
  | .str z => some (.inr z)
  | _ => none
def valD : List Key → List D → Key → Option D
  | k :: ks, d :: ds, q => if k = q then some d else valD ks ds q
  | _, _, _ => none
def setD : List Key → List D → Key → D → List D
  | k :: ks, d :: ds, q, e => (if k = q then e else d) :: setD ks ds q e
  | _, _, _, _ => []
/-- in its place, or at the end -/
def hasK (ks : List Key) (q : Key) : Bool := ks.any fun k => decide (k = q)
def putD (ks : List Key) (ds : List D) (q : Key) (e : D) : MO := if hasK ks q = true then .dct ks (setD ks ds q e) else .dct (ks ++ [q]) (ds ++ [e])
def dctAt (μ : Sto) : D → Option (List Key × List D)
  | .cell k => (match μ[k]? with
    | some (.dct ks ds) => some (ks, ds)
    | _ => none)
  | .dct ks ds => some (ks, ds)
  | _ => none
section
variable {P : Pm} {H : Hp} {L : Lv} {μ : Sto}
theorem keyD_ok {v : V} {d : D} {k : Key} (r : Rep P H L v d) (e : keyD d = some k) : v = kV k := by
  cases r <;> first | cases e | skip
  all_goals rfl
theorem dctAt_cell {k : Nat} {ks : List Key} {ds : List D} (h : μ[k]? = some (.dct ks ds)) : dctAt μ (.cell k) = some (ks, ds) := by
  unfold dctAt; dsimp only; rw [h]
end
def dDget (o i z : D) (μ : Sto) : R D := match dctAt μ o, keyD i with
  | some (ks, ds), some q => .ok ((valD ks ds q).getD z) μ
  | _, _ => .bad
def eDget2 (fo fi fz : SE) : SE := fun ρ μ => (fo ρ μ).bind fun o μ1 => match dctAt μ1 o with
  | some _ => (fi ρ μ1).bind fun i μ2 => (fz ρ μ2).bind fun z μ3 => dDget o i z μ3
  | none => .bad
section
variable {P : Pm} {W : WX} {X : Cx} {o i z e : Expr} {fo fi fz fe : SE} {pos apos cpos : Pos}
/-- d[k] = e -/
def sDput (fe fo fi : SE) : SS := fun ρ μ => (fe ρ μ).thn ρ fun d μ1 => (fo ρ μ1).thn ρ fun o μ2 => (fi ρ μ2).thn ρ fun i μ3 => match o, dctAt μ3 o, keyD i with
  | .cell c, some (ks, ds), some q => if ks.length < 1000 then .nx ρ (μ3.set c (putD ks ds q d)) else .bad
  | _, _, _ => .bad
end
section
variable {P : Pm} {X : Cx} {H : Hp} {L : Lv} {μ : Sto}
end
end L3

namespace L3
open PySem PySem.Spec PySem.Calls PyProof.Rows L2
/-! ### targets that write: xs[i], d[k] -/
abbrev MG := D → Env → Sto → R Unit
abbrev MGs := List D → Env → Sto → R Unit
def mNil : MGs := fun ds _ μ => match ds with
  | [] => .ok () μ
  | _ => .bad
def mCons (g : MG) (gs : MGs) : MGs := fun ds ρ μ => match ds with
  | d :: ds => (g d ρ μ).bind fun _ μ1 => gs ds ρ μ1
  | [] => .bad
def mSub (fo fi : SE) : MG := fun d ρ μ => (fo ρ μ).bind fun o μ1 => (fi ρ μ1).bind fun i μ2 => match o, i with
  | .cell k, .int z => (match setL k z d μ2 with
    | some μ3 => .ok () μ3
    | none => .bad)
  | _, _ => .bad
def putAt (o i d : D) (μ : Sto) : Option Sto := match o, dctAt μ o, keyD i with
  | .cell c, some (ks, ds), some q => if ks.length < 1000 then some (μ.set c (putD ks ds q d)) else none
  | _, _, _ => none
def mSubD (fo fi : SE) : MG := fun d ρ μ => (fo ρ μ).bind fun o μ1 => (fi ρ μ1).bind fun i μ2 => match putAt o i d μ2 with
  | some μ3 => .ok () μ3
  | none => .bad
def sMul (n : Nat) (f : SE) (g : MGs) : SS := fun ρ μ => (f ρ μ).thn ρ fun d μ1 => match asQ μ1 d with
  | some ds => if ds.length = n then (g ds ρ μ1).thn ρ fun _ μ2 => .nx ρ μ2 else .bad
  | none => .bad
section
variable {P : Pm} {W : WX} {X : Cx} {pos p2 : Pos} {o i e : Expr} {es : List Expr} {fo fi fe : SE} {g : MG} {gs : MGs}
end
section
variable {P : Pm} {X : Cx} {H : Hp} {L : Lv} {μ : Sto}
end
/-! ### a dict display -/
def ePairs : List (SE × SE) → Env → Sto → R (List (D × D))
  | [], _, μ => .ok [] μ
  | (fk, fv) :: r, ρ, μ => (fk ρ μ).bind fun k μ1 => (fv ρ μ1).bind fun v μ2 => (ePairs r ρ μ2).bind fun ps μ3 => .ok ((k, v) :: ps) μ3
def keysD : List (D × D) → Option (List Key)
  | [] => some []
  | (k, _) :: r => (match keyD k, keysD r with
    | some q, some ks => some (q :: ks)
    | _, _ => none)
def eDisp (fs : List (SE × SE)) : SE := fun ρ μ => (ePairs fs ρ (μ ++ [.dct [] []])).bind fun ps μ1 => match μ1[μ.length]?, keysD ps with
  | some (.dct [] []), some ks => if ks.Nodup ∧ ks.length ≤ 15 then .ok (.cell μ.length) (μ1.set μ.length (.dct ks (ps.map (·.2)))) else .bad
  | _, _ => .bad
inductive RepP (P : Pm) (H : Hp) (L : Lv) : List (V × V) → List (D × D) → Prop
  | nil : RepP P H L [] []
  | cons {k v : V} {dk dv : D} {r : List (V × V)} {dr : List (D × D)} (hk : Rep P H L k dk) (hv : Rep P H L v dv) (h : RepP P H L r dr) : RepP P H L ((k, v) :: r) ((dk, dv) :: dr)
section
variable {P : Pm} {X : Cx} {W : WX} {H : Hp} {L : Lv} {μ : Sto}
theorem RepP.ok {vs : List (V × V)} {ps : List (D × D)} (r : RepP P H L vs ps) : ∀ {ks : List Key}, keysD ps = some ks → ∃ us, vs = (ks.zip us).map (fun kv => (kV kv.1, kv.2)) ∧ ks.length = us.length ∧ Reps P H L us (ps.map (·.2)) := by
  induction r with
  | nil => intro ks e; cases e; exact ⟨[], rfl, rfl, .nil⟩
  | @cons k v dk dv r dr hk hv h ih =>
    intro ks e
    have e : (match keyD dk, keysD dr with
      | some q, some ks => some (q :: ks)
      | _, _ => none) = some ks := e
    cases e1 : keyD dk with
    | none => rw [e1] at e; cases e
    | some q =>
      cases e2 : keysD dr with
      | none => rw [e1, e2] at e; cases e
      | some js =>
        rw [e1, e2] at e
        cases e
        obtain ⟨us, h1, h2, h3⟩ := ih e2
        have ek := keyD_ok hk e1
        subst ek
        exact ⟨v :: us, by rw [h1]; rfl, by simp [h2], .cons hv h3⟩
theorem RepP.ext {L1 : Lv} {H1 : Hp} (x : Ext P L H L1 H1) {vs : List (V × V)} {ps : List (D × D)} (r : RepP P H L vs ps) : RepP P H1 L1 vs ps := by
  induction r with
  | nil => exact .nil
  | cons hk hv h ih => exact .cons (hk.ext x) (hv.ext x) ih
end
end L3

namespace L3
open PySem PySem.Spec PySem.Calls PyProof.Rows L2
/-! ### what is asked from behind, of stars, dicts, writing targets -/
section
variable {Q : D → Sto → Prop} {N B C : Env → Sto → Prop} {T : D → Sto → Prop} {E : Exs} {ρ : Env} {μ : Sto} {f fo fi fz fe : SE} {g : SS} {ks : List Key} {ds : List D} {q : Key}
theorem wp_sStar {i j : Nat} (h : (f ρ μ).wp (fun d μ1 => ∃ x xs, d = .tup (x :: xs) ∧ xs.length ≤ 16000 ∧ N ((ρ.set i (some x)).set j (some (.lst xs))) μ1) E) : (sStar i j f ρ μ).wp N T B C E :=
  wp_thn (wp_mono h (fun d μ1 ⟨x, xs, e, l, q⟩ => by subst e; dsimp only; rw [if_pos l]; exact q) fun _ _ _ _ z => z)
theorem wp_seqStar {i j : Nat} (h : (sStar i j f ρ μ).wp (fun ρ1 μ1 => (g ρ1 μ1).wp N T B C E) T B C E) : (sSeq (sStar i j f) g ρ μ).wp N T B C E := wp_sSeq h
theorem wp_dget2 (h : (fo ρ μ).wp (fun o μ1 => (∃ kd, dctAt μ1 o = some kd) ∧ (fi ρ μ1).wp (fun i μ2 => (fz ρ μ2).wp (fun z μ3 => (dDget o i z μ3).wp Q E) E) E) E) : (eDget2 fo fi fz ρ μ).wp Q E := by
  unfold eDget2
  refine wp_bind (wp_mono h (fun o μ1 ⟨⟨kd, e⟩, z⟩ => ?_) fun _ _ _ _ z => z)
  rw [e]
  exact wp_bind (wp_mono z (fun i μ2 z => wp_bind z) fun _ _ _ _ z => z)
theorem wp_sDput (h : (fe ρ μ).wp (fun d μ1 => (fo ρ μ1).wp (fun o μ2 => (fi ρ μ2).wp (fun i μ3 => ∃ c ks ds q, o = .cell c ∧ μ3[c]? = some (.dct ks ds) ∧ keyD i = some q ∧ ks.length < 1000 ∧ N ρ (μ3.set c (putD ks ds q d))) E) E) E) : (sDput fe fo fi ρ μ).wp N T B C E := by
  unfold sDput
  refine wp_thn (wp_mono h (fun d μ1 z => wp_thn (wp_mono z (fun o μ2 z => wp_thn (wp_mono z (fun i μ3 z => ?_) fun _ _ _ _ z => z)) fun _ _ _ _ z => z)) fun _ _ _ _ z => z)
  obtain ⟨c, ks, ds, q, rfl, h1, h2, h3, h4⟩ := z
  rw [dctAt_cell h1, h2]
  dsimp only
  rw [if_pos h3]
  exact h4
theorem wp_seqDput (h : (sDput fe fo fi ρ μ).wp (fun ρ1 μ1 => (g ρ1 μ1).wp N T B C E) T B C E) : (sSeq (sDput fe fo fi) g ρ μ).wp N T B C E := wp_sSeq h
theorem wp_sMul {n : Nat} {gs : MGs} (h : (f ρ μ).wp (fun d μ1 => ∃ ds, asQ μ1 d = some ds ∧ ds.length = n ∧ (gs ds ρ μ1).wp (fun _ μ2 => N ρ μ2) E) E) : (sMul n f gs ρ μ).wp N T B C E :=
  wp_thn (wp_mono h (fun d μ1 ⟨ds, e1, e2, z⟩ => by rw [e1]; dsimp only; rw [if_pos e2]; exact wp_thn z) fun _ _ _ _ z => z)
theorem wp_seqMul {n : Nat} {gs : MGs} (h : (sMul n f gs ρ μ).wp (fun ρ1 μ1 => (g ρ1 μ1).wp N T B C E) T B C E) : (sSeq (sMul n f gs) g ρ μ).wp N T B C E := wp_sSeq h
theorem wp_mNil {Q : Unit → Sto → Prop} (h : Q () μ) : (mNil [] ρ μ).wp Q E := h
theorem wp_mCons {Q : Unit → Sto → Prop} {g : MG} {gs : MGs} {d : D} {ds : List D} (h : (g d ρ μ).wp (fun _ μ1 => (gs ds ρ μ1).wp Q E) E) : (mCons g gs (d :: ds) ρ μ).wp Q E := wp_bind h
theorem wp_mSub {Q : Unit → Sto → Prop} {d : D} (h : (fo ρ μ).wp (fun o μ2 => (fi ρ μ2).wp (fun i μ3 => ∃ k z μ4, o = .cell k ∧ i = .int z ∧ setL k z d μ3 = some μ4 ∧ Q () μ4) E) E) : (mSub fo fi d ρ μ).wp Q E :=
  wp_bind (wp_mono h (fun o μ2 z => wp_bind (wp_mono z (fun i μ3 ⟨k, z, μ4, e1, e2, e3, q⟩ => by subst e1 e2; dsimp only; rw [e3]; exact q) fun _ _ _ _ z => z)) fun _ _ _ _ z => z)
theorem wp_mSubD {Q : Unit → Sto → Prop} {d : D} (h : (fo ρ μ).wp (fun o μ2 => (fi ρ μ2).wp (fun i μ3 => ∃ c ks ds q, o = .cell c ∧ μ3[c]? = some (.dct ks ds) ∧ keyD i = some q ∧ ks.length < 1000 ∧ Q () (μ3.set c (putD ks ds q d))) E) E) : (mSubD fo fi d ρ μ).wp Q E := by
  refine wp_bind (wp_mono h (fun o μ2 z => wp_bind (wp_mono z (fun i μ3 z => ?_) fun _ _ _ _ z => z)) fun _ _ _ _ z => z)
  obtain ⟨c, ks, ds, q, rfl, h1, h2, h3, h4⟩ := z
  unfold putAt
  rw [dctAt_cell h1, h2]
  dsimp only
  rw [if_pos h3]
  exact h4
theorem wp_disp {fs : List (SE × SE)} (h : (ePairs fs ρ (μ ++ [.dct [] []])).wp (fun ps μ1 => ∃ ks, μ1[μ.length]? = some (.dct [] []) ∧ keysD ps = some ks ∧ ks.Nodup ∧ ks.length ≤ 15 ∧ Q (.cell μ.length) (μ1.set μ.length (.dct ks (ps.map (·.2))))) E) : (eDisp fs ρ μ).wp Q E := by
  unfold eDisp
  refine wp_bind (wp_mono h (fun ps μ1 ⟨ks, e1, e2, e3, e4, z⟩ => ?_) fun _ _ _ _ z => z)
  rw [e1, e2]
  dsimp only
  rw [if_pos ⟨e3, e4⟩]
  exact z
theorem wp_pNil {Q : List (D × D) → Sto → Prop} (h : Q [] μ) : (ePairs [] ρ μ).wp Q E := h
theorem wp_pCons {Q : List (D × D) → Sto → Prop} {fk fv : SE} {r : List (SE × SE)} (h : (fk ρ μ).wp (fun k μ1 => (fv ρ μ1).wp (fun v μ2 => (ePairs r ρ μ2).wp (fun ps μ3 => Q ((k, v) :: ps) μ3) E) E) E) : (ePairs ((fk, fv) :: r) ρ μ).wp Q E :=
  wp_bind (wp_mono h (fun k μ1 z => wp_bind (wp_mono z (fun v μ2 z => wp_bind z) fun _ _ _ _ z => z)) fun _ _ _ _ z => z)
end
section
variable {P : Pm} {W : WX} {X : Cx} {e : Expr} {f : SE} {H : Hp} {L : Lv}
end
end L3

namespace L3
open PySem PySem.Spec PySem.Calls PyProof.Rows L2
/-! ### a dict that is locked, and open again -/
structure Lk (H H' : Hp) (a : Addr) (kvs : List (Key × V)) : Prop where
  one : Rd H a (.dK kvs)
  two : Rd H' a (.dK kvs)
  same : ∀ b, b ≠ a → H' b = H b
section
variable {P : Pm} {H H' : Hp} {L : Lv} {a : Addr} {kvs : List (Key × V)} {μ : Sto}
theorem Lk.back (k : Lk H H' a kvs) : Lk H' H a kvs := ⟨k.two, k.one, fun b n => (k.same b n).symm⟩
theorem Lk.ne (k : Lk H H' a kvs) {b : Addr} {u : HO} (h : H b = some u) (n1 : u ≠ .dK kvs) (n2 : ∀ o, u ≠ .frz o (.dK kvs)) : H' b = some u := by
  have ne : b ≠ a := fun z => by
    subst z
    rcases k.one with e | ⟨o, e⟩
    · rw [h] at e; exact n1 (Option.some.inj e)
    · rw [h] at e; exact n2 o (Option.some.inj e)
  rw [k.same b ne]; exact h
theorem Lk.rd (k : Lk H H' a kvs) {b : Addr} {u : HO} (h : Rd H b u) (n1 : u ≠ .dK kvs) (n3 : ∀ o, .frz o u ≠ HO.dK kvs) (n2 : ∀ o, u ≠ .frz o (.dK kvs)) : Rd H' b u := by
  rcases h with h | ⟨o, h⟩
  · exact .inl (k.ne h n1 n2)
  · exact .inr ⟨o, k.ne h (n3 o) fun o2 z => by cases z; exact n1 rfl⟩
mutual
theorem Rep.swap (k : Lk H H' a kvs) : ∀ {v : V} {d : D}, Rep P H L v d → Rep P H' L v d
  | _, _, .non => .non
  | _, _, .bl b => .bl b
  | _, _, .int i => .int i
  | _, _, .str s => .str s
  | _, _, .lst h n r => .lst (k.ne h (fun z => nomatch z) fun _ z => nomatch z) n (Reps.swap k r)
  | _, _, .tup h r => .tup (h.elim (fun h => .inl ⟨k.rd h.1 (fun z => nomatch z) (fun _ z => nomatch z) (fun _ z => nomatch z), h.2⟩) .inr) (Reps.swap k r)
  | _, _, .dct (a := b) (ks := ks) (vs := vs) h n l r => by
    refine .dct ?_ n l (Reps.swap k r)
    by_cases e : b = a
    · subst e
      have z : ks.zip vs = kvs := by
        rcases h with h | ⟨o, h⟩ <;> rcases k.one with g | ⟨o2, g⟩ <;> (rw [h] at g; cases g) <;> rfl
      rw [z]; exact k.two
    · rcases h with h | ⟨o, h⟩
      · exact .inl (by rw [k.same b e]; exact h)
      · exact .inr ⟨o, by rw [k.same b e]; exact h⟩
  | _, _, .obj h hc n l r => .obj (k.ne h (fun z => nomatch z) fun _ z => nomatch z) hc n l (Reps.swap k r)
  | _, _, .cell h => .cell h
  | _, _, .scr h => .scr (h.elim (fun h => .inl ⟨k.rd h.1 (fun z => nomatch z) (fun _ z => nomatch z) (fun _ z => nomatch z), h.2⟩) .inr)
theorem Reps.swap (k : Lk H H' a kvs) : ∀ {vs : List V} {ds : List D}, Reps P H L vs ds → Reps P H' L vs ds
  | _, _, .nil => .nil
  | _, _, .cons h r => .cons (Rep.swap k h) (Reps.swap k r)
end
theorem RelS.swap (k : Lk H H' a kvs) {σ : Slots} {ρ : L3.Env} (r : RelS P H L σ ρ) : RelS P H' L σ ρ :=
  ⟨r.len, fun i d e => let ⟨v, h1, h2⟩ := r.at_ i d e; ⟨v, h1, Rep.swap k h2⟩⟩
theorem St3.swap (k : Lk H H' a kvs) (na : ¬ L.has a) (s : St3 P H L μ) : St3 P H' L μ := by
  refine ⟨s.len, fun j b m h1 h2 => ?_, s.nd, fun b h => ⟨(s.dis b h).1, ?_⟩, fun q hq => ?_⟩
  · have ne : b ≠ a := fun z => na (.inl (z ▸ List.mem_of_getElem? h1))
    have e := k.same b ne
    cases s.at_ j b m h1 h2 with
    | lst h r => exact .lst (by rw [e]; exact h) (Reps.swap k r)
    | dct h l r => exact .dct (by rw [e]; exact h) l (Reps.swap k r)
    | ins h hc l r => exact .ins (by rw [e]; exact h) hc l (Reps.swap k r)
  · have ne : b ≠ a := fun z => na (.inr (z ▸ h))
    rw [k.same b ne]; exact (s.dis b h).2
  · obtain ⟨ps, h1, h2, h3⟩ := s.tab q hq
    refine ⟨ps, k.ne h1 (fun z => nomatch z) (fun _ z => nomatch z), h2, fun pos cv hc => ?_⟩
    obtain ⟨c, e, h4⟩ := h3 pos cv hc
    exact ⟨c, e, k.ne h4 (fun z => by unfold LamX.CodeO at z; cases z) (fun _ z => by unfold LamX.CodeO at z; cases z)⟩
end
/-! ### for k in d, d a dict that stays -/
def kyD : Key → D
  | .inl i => .int i
  | .inr z => .str z
def sForK (i : Nat) (g : SG) (b : SS) : SS := fun ρ μ => match ρ[i]? with
  | some (some (.dct ks ds)) => (match forS (fun _ => true) g b (ks.map kyD) ρ μ with
    | .exc _ _ _ _ _ => .bad
    | r => r)
  | _ => .bad
section
variable {P : Pm} {W : WX} {X : Cx} {sl : List Nat} {g : SG} {b : SS} {L : Lv} {H : Hp} {σ : Slots} {ρ : L3.Env} {μ : Sto} {D0 : Ends}
end
section
variable {P : Pm} {W : WX} {X : Cx} {sl : List Nat} {g : SG} {tt : ST} {te : SE}
end
section
variable {P : Pm} {X : Cx} {H : Hp} {L : Lv} {μ : Sto}
end
end L3

namespace L3
open PySem PySem.Spec PySem.Calls PyProof.Rows L2
section
variable {P : Pm} {W : WX} {X : Cx} {i o : Expr} {fi fo : SE} {pos : Pos}
end
/-! ### what is asked from behind -/
section
variable {Q : D → Sto → Prop} {N B C : Env → Sto → Prop} {T : D → Sto → Prop} {E : Exs} {ρ : Env} {μ : Sto} {g : SG} {b f : SS} {ks : List Key} {ds : List D} {q : Key}
theorem wp_seqForK {i : Nat} (h : (sForK i g b ρ μ).wp (fun ρ1 μ1 => (f ρ1 μ1).wp N T B C E) T B C E) : (sSeq (sForK i g b) f ρ μ).wp N T B C E := wp_sSeq h
end
end L3

namespace L3
open PySem PySem.Spec PySem.Calls PyProof.Rows L2
/-! ### instances: cells with a class and fields -/
def insAt (cn : Str) (μ : Sto) : D → Option (List Str × List D)
  | .cell k => (match μ[k]? with
    | some (.ins c ns ds) => if c = cn then some (ns, ds) else none
    | _ => none)
  | _ => none
def putN : List Str → List D → Str → D → List Str × List D
  | n :: ns, d :: ds, f, e => if n = f then (n :: ns, e :: ds) else ((n :: (putN ns ds f e).1), (d :: (putN ns ds f e).2))
  | _, _, f, e => ([f], [e])
section
variable {P : Pm} {H : Hp} {L : Lv} {μ : Sto}
theorem insAt_cell {cn : Str} {k : Nat} {ns : List Str} {ds : List D} (h : μ[k]? = some (.ins cn ns ds)) : insAt cn μ (.cell k) = some (ns, ds) := by
  unfold insAt; dsimp only; rw [h]; dsimp only; rw [if_pos rfl]
end
/-- o.f = e -/
def sFset (cn f : Str) (fe fo : SE) : SS := fun ρ μ => (fe ρ μ).thn ρ fun d μ1 => (fo ρ μ1).thn ρ fun o μ2 => match o, insAt cn μ2 o with
  | .cell k, some (ns, ds) => if ns.length < 1000 then .nx ρ (μ2.set k (.ins cn (putN ns ds f d).1 (putN ns ds f d).2)) else .bad
  | _, _ => .bad
/-- o.m(e, ..), of a method that lets nothing out -/
def eMeth (cn m : Str) (n : Nat) (g : List D → Sto → R D) (fo : SE) (fa : SA) : SE := fun ρ μ => (fo ρ μ).bind fun o μ1 => match insAt cn μ1 o with
  | some (ns, _) => if m ∈ ns then .bad else (fa ρ μ1).bind fun ds μ2 => if ds.length + 1 = n then (g (o :: ds) μ2).nox else .bad
  | none => .bad
/-- C(e, ..) -/
def eMake (cn : Str) (n : Nat) (g : List D → Sto → R D) (fa : SA) : SE := fun ρ μ => (fa ρ μ).bind fun ds μ1 => if ds.length + 1 = n then ((g (.cell μ1.length :: ds) (μ1 ++ [.ins cn [] []])).nox.bind fun r μ2 => match r with
  | .non => .ok (.cell μ1.length) μ2
  | _ => .bad) else .bad
section
variable {P : Pm} {W : WX} {X : Cx} {e o : Expr} {es : List Expr} {fe fo : SE} {fa : SA} {pos pos' apos p : Pos} {cn f m x : Str} {k n : Nat} {fA : Addr} {fd : FuncData} {ps : List Str} {g : List D → Sto → R D}
abbrev E0 : XK := fun _ _ _ => False
end
end L3

namespace L3
open PySem PySem.Spec PySem.Calls PyProof.Rows L2
/-! ### instances: what is asked from behind -/
section
variable {Q : D → Sto → Prop} {N B C : Env → Sto → Prop} {T : D → Sto → Prop} {E : Exs} {ρ : Env} {μ : Sto} {fe fo : SE} {fa : SA} {s : SS} {cn f m : Str} {ns : List Str} {ds : List D} {g : List D → Sto → R D} {n : Nat}
theorem wp_sFset (h : (fe ρ μ).wp (fun d μ1 => (fo ρ μ1).wp (fun o μ2 => ∃ k ns ds, o = .cell k ∧ μ2[k]? = some (.ins cn ns ds) ∧ ns.length < 1000 ∧ N ρ (μ2.set k (.ins cn (putN ns ds f d).1 (putN ns ds f d).2))) E) E) : (sFset cn f fe fo ρ μ).wp N T B C E := by
  unfold sFset
  refine wp_thn (wp_mono h (fun d μ1 z => wp_thn (wp_mono z (fun o μ2 z => ?_) fun _ _ _ _ z => z)) fun _ _ _ _ z => z)
  obtain ⟨k, ns, ds, rfl, h1, h2, h3⟩ := z
  rw [insAt_cell h1]
  dsimp only
  rw [if_pos h2]
  exact h3
theorem wp_seqFset (h : (sFset cn f fe fo ρ μ).wp (fun ρ1 μ1 => (s ρ1 μ1).wp N T B C E) T B C E) : (sSeq (sFset cn f fe fo) s ρ μ).wp N T B C E := wp_sSeq h
theorem wp_meth (h : (fo ρ μ).wp (fun o μ1 => ∃ k ns ds0, o = .cell k ∧ μ1[k]? = some (.ins cn ns ds0) ∧ m ∉ ns ∧ (fa ρ μ1).wp (fun ds μ2 => ds.length + 1 = n ∧ (g (.cell k :: ds) μ2).wp Q noE) E) E) : (eMeth cn m n g fo fa ρ μ).wp Q E := by
  unfold eMeth
  refine wp_bind (wp_mono h (fun o μ1 z => ?_) fun _ _ _ _ z => z)
  obtain ⟨k, ns, ds0, rfl, h1, h2, h3⟩ := z
  rw [insAt_cell h1]
  dsimp only
  rw [if_neg h2]
  exact wp_bind (wp_mono h3 (fun ds μ2 ⟨a, b⟩ => by rw [if_pos a]; exact wp_nox b) fun _ _ _ _ z => z)
theorem wp_make (h : (fa ρ μ).wp (fun ds μ1 => ds.length + 1 = n ∧ (g (.cell μ1.length :: ds) (μ1 ++ [.ins cn [] []])).wp (fun r μ2 => r = .non ∧ Q (.cell μ1.length) μ2) noE) E) : (eMake cn n g fa ρ μ).wp Q E := by
  unfold eMake
  refine wp_bind (wp_mono h (fun ds μ1 ⟨a, b⟩ => ?_) fun _ _ _ _ z => z)
  rw [if_pos a]
  refine wp_bind (wp_mono (wp_nox (E := E) b) (fun r μ2 ⟨e, q⟩ => ?_) fun _ _ _ _ z => z)
  subst e
  exact q
end
end L3

namespace L3
open PySem PySem.Spec PySem.Calls PyProof.Rows L2
section
variable {P : Pm} {W : WX} {X : Cx} {pos : Pos}
end
section
variable {P : Pm} {W : WX} {X : Cx} {sl : List Nat} {g : SG} {tk te : SE} {H : Hp} {L : Lv} {μ : Sto}
end
section
variable {P : Pm} {X : Cx} {H : Hp} {L : Lv} {μ : Sto}
end
section
variable {P : Pm} {X : Cx} {H : Hp} {L : Lv} {μ : Sto}
end
/-! ### what is asked from behind -/
section
variable {Q : D → Sto → Prop} {E : Exs} {ρ : Env} {μ : Sto} {g : SG} {tk te : SE} {ks js : List Key} {ds es : List D}
end
section
variable {P : Pm} {W : WX} {X : Cx}
end
/-! a, b, c = e1, e2, e3 with local names -/
def sPar3 (i j l : Nat) (fa : SA) : SS := fun ρ μ => (fa ρ μ).thn ρ fun ds μ1 => match ds with
  | [d, e, f] => .nx (((ρ.set i (some d)).set j (some e)).set l (some f)) μ1
  | _ => .bad
section
variable {P : Pm} {W : WX} {X : Cx} {ρ : Env} {μ : Sto} {fa : SA} {g : SS} {N B C : Env → Sto → Prop} {T : D → Sto → Prop} {E : Exs}
theorem wp_sPar3 {i j l : Nat} (h : (fa ρ μ).wp (fun ds μ1 => ∃ d e f, ds = [d, e, f] ∧ N (((ρ.set i (some d)).set j (some e)).set l (some f)) μ1) E) : (sPar3 i j l fa ρ μ).wp N T B C E := wp_thn (wp_mono h (fun ds μ1 ⟨d, e, f, h1, q⟩ => by subst h1; exact q) fun _ _ _ _ z => z)
theorem wp_seqPar3 {i j l : Nat} (h : (sPar3 i j l fa ρ μ).wp (fun ρ1 μ1 => (g ρ1 μ1).wp N T B C E) T B C E) : (sSeq (sPar3 i j l fa) g ρ μ).wp N T B C E := wp_sSeq h
theorem three_ok {a b c : D} {A : D → D → D → Prop} (q : A a b c) : ∃ d e f, [a, b, c] = [d, e, f] ∧ A d e f := ⟨a, b, c, rfl, q⟩
end
end L3

namespace L3
open PySem PySem.Spec PySem.Calls PyProof.Rows L2
section
variable {P : Pm} {W : WX} {X : Cx} {pos p kpos : Pos} {e : Expr} {es : List Expr} {kws : List Keyword} {f : SE} {fa fk : SA} {k n : Nat} {fA : Addr} {fd : FuncData} {ps ks : List Str} {g : List D → Sto → R D} {x : Str} {nm : Option Str}
end
section
variable {Q : D → Sto → Prop} {E : Exs} {ρ : Env} {μ : Sto} {fa fk : SA}
end
end L3

namespace L3
open PySem PySem.Spec PySem.Calls PyProof.Rows L2
/-! ### what a law's facts tell of own classes -/
section
variable {l : Lw} {P : Pm} {mg : Str → Option Value} {base : Heap} {w : World}
end
/-! ### o.m(), o.f op= e, xs.pop(), x.count(y) -/
/-- o.f op= e -/
def sFaug (cn f : Str) (g : D → D → Sto → R D) (fo fe : SE) : SS := fun ρ μ => (fo ρ μ).thn ρ fun o μ1 => match o, insAt cn μ1 o with
  | .cell k, some (ns, ds) => (match lookD f ns ds with
    | some x => (fe ρ μ1).thn ρ fun y μ2 => (g x y μ2).thn ρ fun z μ3 => (match insAt cn μ3 (.cell k) with
      | some (ns', ds') => if ns'.length < 1000 then .nx ρ (μ3.set k (.ins cn (putN ns' ds' f z).1 (putN ns' ds' f z).2)) else .bad
      | none => .bad)
    | none => .bad)
  | _, _ => .bad
section
variable {P : Pm} {W : WX} {X : Cx} {e o : Expr} {fe fo : SE} {pos tpos apos : Pos} {cn f m : Str} {k : Nat} {fA : Addr} {fd : FuncData} {ps : List Str} {g : List D → Sto → R D}
end
section
variable {Q : D → Sto → Prop} {N B C : Env → Sto → Prop} {T : D → Sto → Prop} {E : Exs} {ρ : Env} {μ : Sto} {fe fo : SE} {s : SS} {cn f : Str} {gd : D → D → Sto → R D}
theorem wp_sFaug (h : (fo ρ μ).wp (fun o μ1 => ∃ k ns ds x, o = .cell k ∧ μ1[k]? = some (.ins cn ns ds) ∧ lookD f ns ds = some x ∧ (fe ρ μ1).wp (fun y μ2 => (gd x y μ2).wp (fun z μ3 => ∃ ns' ds', μ3[k]? = some (.ins cn ns' ds') ∧ ns'.length < 1000 ∧ N ρ (μ3.set k (.ins cn (putN ns' ds' f z).1 (putN ns' ds' f z).2))) E) E) E) : (sFaug cn f gd fo fe ρ μ).wp N T B C E := by
  unfold sFaug
  refine wp_thn (wp_mono h (fun o μ1 z => ?_) fun _ _ _ _ z => z)
  obtain ⟨k, ns, ds, x, rfl, h1, h2, h3⟩ := z
  rw [insAt_cell h1]
  dsimp only
  rw [h2]
  dsimp only
  refine wp_thn (wp_mono h3 (fun y μ2 z => wp_thn (wp_mono z (fun z μ3 q => ?_) fun _ _ _ _ z => z)) fun _ _ _ _ z => z)
  obtain ⟨ns', ds', h4, h5, h6⟩ := q
  rw [insAt_cell h4]
  dsimp only
  rw [if_pos h5]
  exact h6
theorem wp_seqFaug (h : (sFaug cn f gd fo fe ρ μ).wp (fun ρ1 μ1 => (s ρ1 μ1).wp N T B C E) T B C E) : (sSeq (sFaug cn f gd fo fe) s ρ μ).wp N T B C E := wp_sSeq h
end
end L3

namespace L3
open PySem PySem.Spec PySem.Calls PyProof.Rows L2
section
variable {P : Pm} {X : Cx}
end
section
variable {Q : D → Sto → Prop} {E : Exs} {μ : Sto} {z : Str} {k : Int}
end
end L3

namespace L3
open PySem PySem.Spec PySem.Calls PyProof.Rows L2
/-! ### methods and makings that let refusals out -/
/-- o.m(e, ..), refusals go on -/
def eMethX (cn m : Str) (n : Nat) (g : List D → Sto → R D) (fo : SE) (fa : SA) : SE := fun ρ μ => (fo ρ μ).bind fun o μ1 => match insAt cn μ1 o with
  | some (ns, _) => if m ∈ ns then .bad else (fa ρ μ1).bind fun ds μ2 => if ds.length + 1 = n then g (o :: ds) μ2 else .bad
  | none => .bad
/-- C(e, ..), refusals go on -/
def eMakeX (cn : Str) (n : Nat) (g : List D → Sto → R D) (fa : SA) : SE := fun ρ μ => (fa ρ μ).bind fun ds μ1 => if ds.length + 1 = n then ((g (.cell μ1.length :: ds) (μ1 ++ [.ins cn [] []])).bind fun r μ2 => match r with
  | .non => .ok (.cell μ1.length) μ2
  | _ => .bad) else .bad
section
variable {P : Pm} {W : WX} {X : Cx} {e o : Expr} {es : List Expr} {fe fo : SE} {fa : SA} {pos pos' apos p : Pos} {cn f m x : Str} {k n : Nat} {fA : Addr} {fd : FuncData} {ps : List Str} {g : List D → Sto → R D} {sp : Sp} {E : L2.St → XK} {ta : TE} {t : TA} {C : Addr}
end
section
variable {Q : D → Sto → Prop} {E : Exs} {ρ : Env} {μ : Sto} {fo : SE} {fa : SA} {cn m : Str} {n : Nat} {g : List D → Sto → R D}
theorem wp_methX (h : (fo ρ μ).wp (fun o μ1 => ∃ k ns ds0, o = .cell k ∧ μ1[k]? = some (.ins cn ns ds0) ∧ m ∉ ns ∧ (fa ρ μ1).wp (fun ds μ2 => ds.length + 1 = n ∧ (g (.cell k :: ds) μ2).wp Q E) E) E) : (eMethX cn m n g fo fa ρ μ).wp Q E := by
  unfold eMethX
  refine wp_bind (wp_mono h (fun o μ1 z => ?_) fun _ _ _ _ z => z)
  obtain ⟨k, ns, ds0, rfl, h1, h2, h3⟩ := z
  rw [insAt_cell h1]
  dsimp only
  rw [if_neg h2]
  exact wp_bind (wp_mono h3 (fun ds μ2 ⟨a, b⟩ => by rw [if_pos a]; exact b) fun _ _ _ _ z => z)
theorem wp_makeX (h : (fa ρ μ).wp (fun ds μ1 => ds.length + 1 = n ∧ (g (.cell μ1.length :: ds) (μ1 ++ [.ins cn [] []])).wp (fun r μ2 => r = .non ∧ Q (.cell μ1.length) μ2) E) E) : (eMakeX cn n g fa ρ μ).wp Q E := by
  unfold eMakeX
  refine wp_bind (wp_mono h (fun ds μ1 ⟨a, b⟩ => ?_) fun _ _ _ _ z => z)
  rw [if_pos a]
  refine wp_bind (wp_mono b (fun r μ2 ⟨e, q⟩ => ?_) fun _ _ _ _ z => z)
  subst e
  exact q
end
end L3

namespace L3
open PySem PySem.Spec PySem.Calls PyProof.Rows L2
/-! ### the law, called where nothing stands around it -/
/-- what the law's def comes to, called by the caller alone -/
def RunC (Pr : Program) (w : World) (K : PySem.W.Frag) (mg : Str → Option Value) (base : Heap) (CX : CXT) (f : Addr) (fd : FuncData) (ps : List Str) (sp : Sp) : Prop :=
  ∀ (s : Shared) (H : Hp) (args : Args) (us : List Value) (vs : List V) (Q : VK) (E : XK), Env0 Pr w K mg base callerA [] s H → BindsTo s fd args (ps.zip us) → Vals vs us → sp vs H Q E →
    codeAny (model Pr w) callerA (.call (.ref f) args) (CR CX [] Pr w H s Q E) s
/-- a def's body, run by the caller alone: the guards are known -/
theorem runC_of {CX : CXT} {Pr : Program} {w : World} {K : PySem.W.Frag} {mg : Str → Option Value} {base : Heap} {k : Nat} {f : Addr} {nm qual : Str} {params : Arguments} {body : List Stmt} {scope : Scope} {dV kV doc pm cdv ct oc : Value} {an od : Option Addr}
    {osl : Array (Option Value)} {N ps : List Str} {sp : Sp} (room : Room (k + 1) callerA) (at_ : K.lookup f = some ⟨oc, od, .func (PySem.W.fnOf nm qual params body scope dV kV doc pm an cdv ct), osl⟩) (cd : PySem.W.codeIn K cdv qual = true) (S : FnScope N ps scope)
    (few : ∀ vs H Q E, sp vs H Q E → vs.length = ps.length)
    (goes : ∀ (s : Shared) (H : Hp) (vs : List V) (Q : VK) (E : XK), sp vs H Q E →
      ∃ t, PSs (cxOf CX Pr w K mg base N qual scope f cdv callerA [] s H E) body t ∧ t { nx := fun _ H' => Q .non H', rt := Q } (start N vs) H) :
    RunC Pr w K mg base CX f (PySem.W.fnOf nm qual params body scope dV kV doc pm an cdv ct) ps sp := by
  intro s H args us vs Q E z0 bd rv ask
  have many := few _ _ _ _ ask
  have kin : K.In s.heap := z0.mod.kin.keeps fun b o e => (z0.bs b o e).1
  have nolim : s.heap.NoLimit := z0.mod.nolimit.keeps fun b o e => (z0.bs b o e).1
  have kinds : ∀ y ∈ ps.zip us, scope.names.lookup y.1 = some .local ∨ (scope.names.lookup y.1 = some .cell ∧ ((cellsFrom (s.heap.objs.size + 1) scope.names []).lookup y.1).isSome = true) := by
    rintro ⟨n, v⟩ hy
    exact (S.par n (List.of_mem_zip hy).1).imp id fun q => ⟨q, PySem.W.cellsFrom_some _ _ _ (.inl q)⟩
  refine codeAny_call_function room.depth (kin _ _ at_) rfl S.co S.gen rfl (PySem.W.codeRec_of kin cd) (bd _ _ _ _ ?_)
  refine wpAny_newFunctionEnv_cells S.kind kinds fun env he s1 x => ?_
  subst he
  refine ⟨nolim.keeps x.toInCall.keep, codeAny_func ?_⟩
  obtain ⟨t, run, due⟩ := goes s H vs Q E ask
  have J : Inv (cxOf CX Pr w K mg base N qual scope f cdv callerA [] s H E) [] (start N vs) H s1 := inv_start S room.hd z0 many rv x
  refine wpAny_mono (run.run [] s1 (start N vs) H _ J due) (fun fl s' got => ?_) fun e s' got => got
  cases fl with
  | ret u =>
    obtain ⟨v, σ', H', J', rv', q⟩ := got
    exact ⟨v, H', J'.os, J'.bare, J'.base, J'.hok, rv', q⟩
  | next =>
    obtain ⟨σ', H', J', q⟩ := got
    exact ⟨.non, H', J'.os, J'.bare, J'.base, J'.hok, rfl, q⟩
  | brk =>
    obtain ⟨_, _, _, q⟩ := got
    exact q.elim
  | cont =>
    obtain ⟨_, _, _, q⟩ := got
    exact q.elim

/-- the heap at the law's call: the tables, and the script where it isn't a written one -/
def topH (K : PySem.W.Frag) (T : List Addr) (a : Addr) (o : Obj) (xs : List V) : Hp := fun b =>
  if b ∈ T then some (.tbl #[]) else if b = a ∧ K.lookup a = none then some (.frz o (.lst xs)) else none
theorem topH_some {K : PySem.W.Frag} {T : List Addr} {a b : Addr} {o : Obj} {xs : List V} {u : HO} (h : topH K T a o xs b = some u) : (b ∈ T ∧ u = .tbl #[]) ∨ (b = a ∧ K.lookup a = none ∧ u = .frz o (.lst xs)) := by
  unfold topH at h
  split at h
  · rename_i c; exact .inl ⟨c, (Option.some.inj h).symm⟩
  · split at h
    · rename_i c; exact .inr ⟨c.1, c.2, (Option.some.inj h).symm⟩
    · cases h
theorem law_callC {Pr : Program} {w : World} {K : PySem.W.Frag} {g0 b0 : Str → Option Value} {CX : CXT} {fa a : Addr} {zs : List (Addr × Addr)} {fd : FuncData} {x : Str} {sp : Sp} {t : Shared} {vs : List Value} {ns : List Int}
    (kin : K.In t.heap) (hg : t.heap.Ns mainGlobals g0) (hb : t.heap.Ns builtinsNs b0) (boot : ∀ x : Str, x ≠ "__name__" → b0 x = bootBuiltins x) (lim : t.heap.NoLimit) (gn : t.gens = #[])
    (emp : ∀ p ∈ zs, t.heap.get? p.2 = some { cls := .none, data := .fields #[] }) (out : ∀ p ∈ zs, K.lookup p.2 = none) (chd : ∀ p ∈ zs, PySem.W.CodeHd t.heap p.1 p.2)
    (bmn : ∃ (bm : Addr) (ob : Obj), g0 "__builtins__" = some (.ref bm) ∧ bm ≠ builtinsNs ∧ t.heap.get? bm = some ob ∧ ob.cls = .type "module" ∧ ob.dict = some builtinsNs ∧ ob.data = .plain)
    (scr : t.heap.get? a = some { cls := .type "list", data := .seq vs.toArray }) (allint : IntsAre vs ns) (few : ns.length ≤ sizeLine)
    (seer : ∃ m, t.heap.Ns sysModules m) (F : ∀ base : Heap, K.In base → base.Ns mainGlobals g0 → (∃ m, base.Ns sysModules m) → (∀ p ∈ zs, LamX.TabB base g0 p.1 p.2) → RunC Pr w K g0 base CX fa fd [x] sp) (bnd : ∀ (s : Shared) (u : Value), BindsTo s fd ⟨[u], []⟩ [(x, u)])
    (want : ∀ H : Hp, (∀ p ∈ zs, H p.2 = some (.tbl #[])) → SqL K H a (ns.map V.int) → sp [.ref a] H (fun v _ => v = .bl true) fun _ _ _ => False)
    (noX : ∀ H e s', CX [] H t (fun _ _ _ => False) e s' → False) :
    codeAny (model Pr w) callerA (.call (.ref fa) ⟨[.ref a], []⟩) (fun r s' => r = .ok (.ret (.bool true)) ∧ OldK t.heap s'.heap ∧ s'.os = t.os ∧ AllBare s'.gens) t := by
  have rv := vals_ints allint
  have vl := allint.length
  generalize hT : zs.map (·.2) = T
  have inT : ∀ p ∈ zs, p.2 ∈ T := fun p hp => by rw [← hT]; exact List.mem_map_of_mem hp
  have ofT : ∀ b ∈ T, ∃ p ∈ zs, p.2 = b := fun b hb => by rw [← hT] at hb; exact List.mem_map.mp hb
  have tb : ∀ b ∈ T, t.heap.get? b = some { cls := .none, data := .fields #[] } := fun b hb => by
    obtain ⟨p, hp, e⟩ := ofT b hb
    exact e ▸ emp p hp
  have aT : a ∉ T := fun z => by
    have q := (tb a z).symm.trans scr
    cases Option.some.inj q
  generalize hH : topH K T a { cls := .type "list", data := .seq vs.toArray } (ns.map V.int) = H
  have cases_ : ∀ {b : Addr} {u : HO}, H b = some u → (b ∈ T ∧ u = .tbl #[]) ∨ (b = a ∧ K.lookup a = none ∧ u = .frz { cls := .type "list", data := .seq vs.toArray } (.lst (ns.map V.int))) := fun h => by
    rw [← hH] at h
    exact topH_some h
  have hTb : ∀ b ∈ T, H b = some (.tbl #[]) := fun b hb => by rw [← hH]; exact if_pos hb
  -- an object that is neither a list nor a table is not tracked
  have apart : ∀ {b : Addr} {o : Obj}, t.heap.get? b = some o → (∀ l n, o.data ≠ .seq l n) → o.data ≠ .fields #[] → H b = none := fun {b o} e n1 n2 => by
    cases q : H b with
    | none => rfl
    | some u =>
      rcases cases_ q with ⟨c, _⟩ | ⟨c, _⟩
      · rw [tb b c] at e; cases e; exact absurd rfl n2
      · rw [c, scr] at e; cases e; exact absurd rfl (n1 _ _)
  have down : ∀ {b : Addr} {o : Obj}, t.heap.get? b = some o → H b = none → (hidT t.heap H).get? b = some o := fun e n => hidT_get e n
  have nsd : ∀ {b : Addr} {m : Str → Option Value}, t.heap.Ns b m → (hidT t.heap H).Ns b m := fun {b m} hn => by
    obtain ⟨o, es, ep, e, d, r⟩ := hn
    exact ⟨o, es, ep, down e (apart e (fun l n z => by rw [d] at z; cases z) fun z => by rw [d] at z; cases z), d, r⟩
  have kinb : K.In (hidT t.heap H) := fun b o e => down (kin b o e) (by
    cases q : H b with
    | none => rfl
    | some u =>
      rcases cases_ q with ⟨c, _⟩ | ⟨c, kn, _⟩
      · obtain ⟨p, hp, z⟩ := ofT b c
        have := out p hp
        rw [z, e] at this
        cases this
      · rw [c, kn] at e; cases e)
  have md : L2.Mod K g0 (hidT t.heap H) := ⟨kinb, nsd hg, ⟨b0, nsd hb, boot⟩, lim.imp fun mc z => ⟨nsd z.1, z.2⟩⟩
  have tabs : ∀ p ∈ zs, LamX.TabB (hidT t.heap H) g0 p.1 p.2 := fun p hp => by
    have e0 := emp p hp
    have nm : mainGlobals ≠ p.2 := fun z => by
      obtain ⟨o, es, ep, e, d, _⟩ := hg
      rw [z, e0] at e
      cases e
      cases d
    refine ⟨?_, ?_, nm⟩
    · obtain ⟨o, us, file, tf, flags, tg, inF, text, tt, e1, r1, r2, r3, r⟩ := chd p hp
      refine ⟨o, us, file, tf, flags, tg, inF, text, tt, down e1 (apart e1 (fun l n z => ?_) fun z => ?_), r1, r2, r3, r⟩
      · rw [r2] at z; cases z
      · rw [r2] at z; cases z; simp at r3
    · obtain ⟨bm, ob, c1, c2, c3, c4, c5, c6⟩ := bmn
      refine ⟨bm, ob, c1, c2, fun z => ?_, fun z => ?_, down c3 (apart c3 (fun l n z => ?_) fun z => ?_), c4, c5, c6⟩
      · obtain ⟨o, es, ep, e, d, _⟩ := hg
        rw [z, e] at c3
        cases c3
        rw [d] at c6
        cases c6
      · rw [z, e0] at c3; cases c3; cases c6
      · rw [c6] at z; cases z
      · rw [c6] at z; cases z
  have hok : HOk Pr w H t.heap := fun b u e => by
    rcases cases_ e with ⟨c, rfl⟩ | ⟨rfl, _, rfl⟩
    · exact tb b c
    · exact ⟨scr, by rw [List.length_map]; exact few, vs, _, rv, scr⟩
  have sq : SqL K H a (ns.map V.int) := by
    cases hk : K.lookup a with
    | none =>
      refine .inl (.inr ⟨{ cls := .type "list", data := .seq vs.toArray }, ?_⟩)
      rw [← hH]
      unfold topH
      rw [if_neg aT, if_pos ⟨rfl, hk⟩]
    | some o =>
      have e := kin a o hk
      rw [scr] at e
      cases e
      exact .inr ⟨_, vs.toArray, _, hk, rfl, rfl, rfl, by rw [List.size_toArray, vl]; exact few, by simpa using rv⟩
  have z0 : Env0 Pr w K g0 (hidT t.heap H) callerA [] t H := ⟨rfl, md, fun b o e => of_hidT e, Nat.le_of_eq (hidT_size _ _), trivial, (fun b hb => nomatch (show b ∈ ([] : List Addr) from hb)), hok, .of_eq gn⟩
  refine codeAny_mono (F _ kinb (nsd hg) (seer.imp fun m z => nsd z) tabs t H ⟨[.ref a], []⟩ [.ref a] [.ref a] _ _ z0 (bnd t (.ref a)) (.cons rfl .nil) (want H (fun p hp => hTb _ (inT p hp)) sq)) fun r s' got => ?_
  match r, got with
  | .error e, got => exact (noX H e s' got).elim
  | .ok .next, got => exact got.elim
  | .ok .brk, got => exact got.elim
  | .ok .cont, got => exact got.elim
  | .ok (.ret u), got =>
    obtain ⟨v, H', os, bare, un, hok', rv', (q : v = .bl true)⟩ := got
    subst q
    obtain rfl : u = Value.bool true := rv'
    have stays : ∀ b o, b ∉ T → t.heap.get? b = some o → s'.heap.get? b = some o := fun b o nb e => by
      cases q : H b with
      | none => exact un.keep b o e q (fun z => nomatch (show b ∈ ([] : List Addr) from z)) (fun z => nomatch z)
      | some u =>
        rcases cases_ q with ⟨c, _⟩ | ⟨_, _, rfl⟩
        · exact absurd c nb
        · have e1 := (hok b _ q).1
          have e2 := (hok' b _ (un.frzs b _ _ q)).1
          rw [e] at e1; cases e1
          exact e2
    have grows : ∀ b ∈ T, ∃ more : Array Value, s'.heap.get? b = some { cls := .none, data := .fields more } := fun b hb => by
      obtain ⟨more, z⟩ := un.tbls b #[] (hTb b hb)
      exact ⟨_, hok' b _ z⟩
    refine ⟨rfl, ⟨fun b o e => ?_, fun b o e => ?_⟩, os, bare⟩
    · by_cases c : b ∈ T
      · obtain ⟨more, z⟩ := grows b c
        obtain ⟨p, hp, eb⟩ := ofT b c
        rw [tb b c] at e
        cases e
        refine .inr (.inl ⟨?_, rfl, #[], more, rfl, by rw [Array.empty_append]; exact z⟩)
        rw [← eb]
        exact ((chd p hp).tab (emp p hp)).isCodeTable
      · exact .inl (stays b o c e)
    · by_cases c : b ∈ T
      · obtain ⟨more, z⟩ := grows b c
        exact ⟨_, z⟩
      · exact ⟨o, stays b o c e⟩
theorem noSeer_sys {h : Heap} (x : h.NoSeer) : ∃ m, h.Ns sysModules m := x.mods.imp fun m z => z.1
/-- what is known of the law's promise, called so -/
def LawAtC (l : PySem.W.OpenLaw) (w : World) (K : PySem.W.Frag) (CX : CXT) (n : Nat) (x : Str) (mg : Str → Option Value) (fa : Addr) (h : Heap) : Prop :=
  ∃ (fd : FuncData) (zs : List (Addr × Addr)) (sp : Sp), (∀ p ∈ zs, h.get? p.2 = some { cls := .none, data := .fields #[] }) ∧ (∀ p ∈ zs, K.lookup p.2 = none) ∧ (∀ p ∈ zs, PySem.W.CodeHd h p.1 p.2) ∧ (∀ (s : Shared) (u : Value), BindsTo s fd ⟨[u], []⟩ [(x, u)]) ∧
    (∀ (H : Hp) (a : Addr) (ns : List Int), ns.length ≤ n → (∀ z ∈ ns, Builtin.Int.intBits z ≤ 1048576) → (∀ p ∈ zs, H p.2 = some (.tbl #[])) → SqL K H a (ns.map V.int) → sp [.ref a] H (fun v _ => v = .bl true) fun _ _ _ => False) ∧
    ∀ base : Heap, K.In base → base.Ns mainGlobals mg → (∃ m, base.Ns sysModules m) → (∀ p ∈ zs, LamX.TabB base mg p.1 p.2) → RunC l.prog w K mg base CX fa fd [x] sp
theorem walkC {l : PySem.W.OpenLaw} {n : Nat} {q : Program} {loose : List Str} {XP : (Str → Option Value) → Heap → Prop} {YP : World → Heap → Prop} {d : DefRec} {CX : World → CXT} {x : Str}
    (hn : l.most = some n) (hn2 : n ≤ sizeLine) (hdf : d.params.defaults = []) (himp : importsNone q = true)
    (F : ∀ (w : World) (mg : Str → Option Value) (fa : Addr) (h : Heap), YP w h → h.Ns mainGlobals mg → mg d.name = some (.ref fa) → ∃ K : PySem.W.Frag, K.In h ∧ LawAtC l w K (CX w) n x mg fa h)
    (noX : ∀ (w : World) (H : Hp) (s : Shared) (e : Value) (s' : Shared), CX w [] H s (fun _ _ _ => False) e s' → False) :
    PySem.W.WalkO q loose XP YP l.row.toRowW d [] (fun f vs => PySem.call f vs) := by
  refine Att.attach_callB hn hdf fun w s₀ s₁ mg mb fa o pm cd doc a vs ns G Y ho hd hcd hmg hobj hints hlen hbits hg => ?_
  obtain ⟨K, kin, fd, zs, sp, e1, e2, e3, e4, e5, e6⟩ := F w mg fa _ Y G.T.g hmg
  exact law_callC kin G.T.g G.T.b G.T.builtins G.T.nolimit hg e1 e2 e3 G.T.bmain hobj hints (Nat.le_trans hlen hn2) (noSeer_sys (G.T.seer himp)) e6 e4 (fun H hH hS => e5 H a ns hlen hbits hH hS) fun H e s' => noX w H s₁ e s'
/-- the law's def by its body -/
theorem fn_okC {P : Pm} {Pr : Program} {w : World} {mg : Str → Option Value} {base : Heap} {x qual : Str} {params : Arguments} {body : List Stmt} {scope : Scope} {dvs : List V} {kws : List (Str × V)} {p : He.Defn} {N ps : List Str} {k n : Nat} {fs : SS}
    (room : Room (k + 1) callerA) (F : FunD P.K x qual params body scope dvs kws (He.fAd P.K p) (fdOf P.K p)) (S : FnScope N ps scope) (hn : ps.length = n)
    (hb : ∀ (s : Shared) (H : Hp) (E : XK), Room k (callerA.deeper (envOfC qual scope s.heap.objs.size (He.fAd P.K p) (.ref (He.cT P.K p).1))) →
      VSs P (fun cls d _ H => E cls d H) (cxOf (L2.CX Pr w) Pr w P.K mg base N qual scope (He.fAd P.K p) (.ref (He.cT P.K p).1) callerA [] s H E) body fs) :
    RunC Pr w P.K mg base (L2.CX Pr w) (He.fAd P.K p) (fdOf P.K p) ps (spF P n (fnF N.length fs)) := by
  obtain ⟨oc, od, dV, kV, doc, pm, an, cdv, ct, osl, efd, lk, hcg, hD, hK⟩ := F.ex
  obtain ⟨c, rfl⟩ := He.codeIn_ref hcg
  rw [efd] at lk ⊢
  have ec : (He.cT P.K p).1 = c := He.codeOf_eq lk rfl
  rw [ec] at hb
  refine runC_of room lk hcg S (fun vs H Q E h => by rw [hn]; exact h.1) fun s H vs Q E h => ?_
  obtain ⟨_, L, ds, μ, r, st, q⟩ := h
  refine ⟨_, hb s H E (room.deeper _), L, _, μ, start_rel r, st, ?_⟩
  unfold fnF at q
  generalize fs (ds.map some ++ List.replicate (N.length - ds.length) none) μ = z at q ⊢
  match z, q with
  | .nx ρ μ', q => exact fun σ' L' H' x s' rs' => q L' H' x s' _ .non
  | .rt d μ', q => exact fun v L' H' x s' r' => q L' H' x s' v r'
  | .bk ρ μ', q => exact q.elim
  | .ct ρ μ', q => exact q.elim
  | .exc c ns vs ρ μ', q => exact fun σ' C dx L' H' hc x s' rs' f => q C dx L' H' hc x s' f
  | .bad, q => exact q.elim
end L3

namespace L3
open PySem PySem.Spec PySem.Calls PyProof.Rows L2
/-! ### repr of plain things -/
/-- a key as a plain thing -/
def keyP : Key → PyData
  | .inl i => .int i
  | .inr x => .str x
/-- the plain thing that a datum is, where it is one -/
def pyD : Nat → Sto → D → Option PyData
  | 0, _, _ => none
  | n + 1, μ, d => match d with
    | .non => some .none
    | .bl b => some (.bool b)
    | .int i => some (.int i)
    | .str z => some (.str z)
    | .lst ds => (ds.mapM (pyD n μ)).map PyData.list
    | .tup ds => (ds.mapM (pyD n μ)).map PyData.tuple
    | .cell k => match μ[k]? with
      | some (.lst ds) => (ds.mapM (pyD n μ)).map PyData.list
      | _ => none
    | _ => none
/-- .. dicts too -/
def pyK : Nat → Sto → D → Option PyData
  | 0, _, _ => none
  | n + 1, μ, d => match d with
    | .non => some .none
    | .bl b => some (.bool b)
    | .int i => some (.int i)
    | .str z => some (.str z)
    | .lst ds => (ds.mapM (pyK n μ)).map PyData.list
    | .tup ds => (ds.mapM (pyK n μ)).map PyData.tuple
    | .dct ks ds => (ds.mapM (pyK n μ)).map fun ps => PyData.dict ((ks.map keyP).zip ps)
    | .cell k => match μ[k]? with
      | some (.lst ds) => (ds.mapM (pyK n μ)).map PyData.list
      | some (.dct ks ds) => (ds.mapM (pyK n μ)).map fun ps => PyData.dict ((ks.map keyP).zip ps)
      | _ => none
    | _ => none
/-- repr(x), of lists, tuples and dicts -/
def dRepr : D → Sto → R D := fun d μ => match pyK 12 μ d with
  | some p => if p.showable = true ∧ p.shown.length ≤ sizeLine ∧ p.depth ≤ 12 then (match d with
    | .lst _ => .ok (.str p.shown) μ
    | .cell _ => .ok (.str p.shown) μ
    | .tup _ => .ok (.str p.shown) μ
    | .dct _ _ => .ok (.str p.shown) μ
    | _ => .bad) else .bad
  | none => .bad
/-- the modules' dict stands, and nobody tracks it -/
def SysAt (H : Hp) (h : Heap) : Prop := H sysModules = none ∧ ∃ (o : Obj) (es : Array DictEntry) (ep : Nat), h.get? sysModules = some o ∧ o.data = .dict es ep
/-- what H tells of a plain thing -/
def Tells (Pr : Program) (w : World) (K : PySem.W.Frag) (H : Hp) (v : V) (p : PyData) : Prop :=
  ∀ h : Heap, HOk Pr w H h → K.In h → SysAt H h → ∀ u, RelV v u → ∃ as, Reads h u p as ∧ sysModules ∉ as
def TellsAll (Pr : Program) (w : World) (K : PySem.W.Frag) (H : Hp) (vs : List V) (ps : List PyData) : Prop :=
  ∀ h : Heap, HOk Pr w H h → K.In h → SysAt H h → ∀ us, Vals vs us → ∃ as, ReadsAll h us ps as ∧ sysModules ∉ as
section
variable {P : Pm} {Pr : Program} {w : World} {H : Hp} {L : Lv} {μ : Sto}
theorem tells_all {f : D → Option PyData} (one : ∀ (v : V) (d : D) (p : PyData), Rep P H L v d → f d = some p → Tells Pr w P.K H v p) : ∀ {vs : List V} {ds : List D} {ps : List PyData}, Reps P H L vs ds → ds.mapM f = some ps → TellsAll Pr w P.K H vs ps
  | _, _, ps, .nil, e => by
    have : ps = [] := by simpa using e.symm
    subst this
    intro h hok kin sy us r
    cases r
    exact ⟨[], .nil, fun z => nomatch z⟩
  | _, _, ps, .cons (d := d) (ds := ds) rd r, e => by
    rw [List.mapM_cons] at e
    cases e1 : f d with
    | none => rw [e1] at e; cases e
    | some p =>
      rw [e1] at e
      cases e2 : ds.mapM f with
      | none => rw [e2] at e; cases e
      | some qs =>
        rw [e2] at e
        cases e
        intro h hok kin sy us rv
        cases rv with
        | cons ru rus =>
          obtain ⟨as, z1, n1⟩ := one _ _ _ rd e1 h hok kin sy _ ru
          obtain ⟨bs, z2, n2⟩ := tells_all one r e2 h hok kin sy _ rus
          exact ⟨as ++ bs, .cons z1 z2, fun z => (List.mem_append.mp z).elim n1 n2⟩
theorem rd_ne {a : Addr} {u : HO} {h : Heap} (hl : Rd H a u) (sy : SysAt H h) : a ≠ sysModules := by
  rintro rfl
  rcases hl with hl | ⟨o, hl⟩ <;> (rw [sy.1] at hl; cases hl)
theorem tells_sqL {a : Addr} {vs : List V} {ps : List PyData} (hl : SqL P.K H a vs) (t : TellsAll Pr w P.K H vs ps) : Tells Pr w P.K H (.ref a) (.list ps) := by
  intro h hok kin sy u ru
  obtain rfl : u = Value.ref a := ru
  rcases hl with hl | ⟨o, its, n, e, c, _, dt, _, rv⟩
  · obtain ⟨_, its, n, rv, e⟩ := hl.ok hok
    obtain ⟨as, z, nn⟩ := t h hok kin sy its rv
    exact ⟨a :: as, .list e rfl rfl (by simpa using z), fun z => (List.mem_cons.mp z).elim (fun e => rd_ne hl sy e.symm) nn⟩
  · obtain ⟨as, z, nn⟩ := t h hok kin sy _ rv
    refine ⟨a :: as, .list (kin a o e) c dt z, fun z => (List.mem_cons.mp z).elim (fun ea => ?_) nn⟩
    obtain ⟨o', es, ep, g, d⟩ := sy.2
    rw [ea, kin a o e] at g
    cases g
    rw [dt] at d
    cases d
theorem tells_tup {a : Addr} {vs : List V} {ps : List PyData} (hl : TupAt P H L a vs) (t : TellsAll Pr w P.K H vs ps) : Tells Pr w P.K H (.ref a) (.tuple ps) := by
  intro h hok kin sy u ru
  obtain rfl : u = Value.ref a := ru
  rcases hl with ⟨hl, _⟩ | ⟨o, its, n, e, c, dt, _, rv⟩
  · obtain ⟨_, its, rv, o, e, c, n, dt⟩ := hl.ok hok
    obtain ⟨as, z, nn⟩ := t h hok kin sy its rv
    exact ⟨as, .tuple e c dt (by simpa using z), nn⟩
  · obtain ⟨as, z, nn⟩ := t h hok kin sy _ rv
    exact ⟨as, .tuple (kin a o e) c dt z, nn⟩
theorem pairs_read {es : List DictEntry} {kvs : List (Key × Value)} (p : Pairs (mixKind Pr w) es kvs) : ∀ {ks : List Key} {vs : List V}, ks.length = vs.length → KV (ks.zip vs) kvs →
    (∀ h : Heap, ReadsAll h (es.map (·.key)) (ks.map keyP) []) ∧ Vals vs (es.map (·.val)) := by
  induction p with
  | nil =>
    intro ks vs l r
    cases ks with
    | nil =>
      cases vs with
      | nil => exact ⟨fun h => .nil, .nil⟩
      | cons v vs => cases l
    | cons k ks =>
      cases vs with
      | nil => cases l
      | cons v vs => cases r
  | @cons e kv es kvs h1 h2 _ ih =>
    intro ks vs l r
    cases ks with
    | nil => cases vs <;> cases r
    | cons k ks =>
      cases vs with
      | nil => cases l
      | cons v vs =>
        cases r with
        | cons r1 r2 =>
          obtain ⟨e1, e2⟩ := ih (by simpa using l) r2
          have ek : k = kv.1 := r1.1
          refine ⟨fun h => ?_, .cons (by show L2.RelV v e.val; rw [h2]; exact r1.2) e2⟩
          have rk : Reads h e.key (keyP k) [] := by
            rw [ek]
            rcases keyIs_shape h1 with ⟨i, t, a, b⟩ | ⟨x, t, a, b⟩
            · rw [a, b]; exact .int i t
            · rw [a, b]; exact .str x t
          exact ReadsAll.cons (as := []) (bs := []) rk (e1 h)
theorem tells_dct {a : Addr} {ks : List Key} {vs : List V} {ps : List PyData} (hl : Rd H a (.dK (ks.zip vs))) (l : ks.length = vs.length) (lp : vs.length = ps.length) (t : TellsAll Pr w P.K H vs ps) : Tells Pr w P.K H (.ref a) (.dict ((ks.map keyP).zip ps)) := by
  intro h hok kin sy u ru
  obtain rfl : u = Value.ref a := ru
  obtain ⟨_, ns, kvs, kv, o, es, ep, g, ex, dt, ko, pr, nd⟩ := hl.ok hok
  obtain ⟨r1, r2⟩ := pairs_read pr l kv
  obtain ⟨as, z, nn⟩ := t h hok kin sy _ r2
  refine ⟨a :: [] ++ as, .dict g ex.1 dt ?_ ?_, ?_⟩
  · rw [List.map_fst_zip (by rw [List.length_map, l, lp]; exact Nat.le_refl _)]
    exact r1 h
  · rw [List.map_snd_zip (by rw [List.length_map, l, lp]; exact Nat.le_refl _)]
    exact z
  · intro z
    rcases List.mem_cons.mp z with z | z
    · exact rd_ne hl sy z.symm
    · exact nn z
theorem mapM_len {α β : Type} {f : α → Option β} : ∀ {xs : List α} {ys : List β}, xs.mapM f = some ys → xs.length = ys.length
  | [], ys, e => by
    have : ys = [] := by simpa using e.symm
    subst this; rfl
  | x :: xs, ys, e => by
    rw [List.mapM_cons] at e
    cases e1 : f x with
    | none => rw [e1] at e; cases e
    | some y =>
      rw [e1] at e
      cases e2 : xs.mapM f with
      | none => rw [e2] at e; cases e
      | some zs =>
        rw [e2] at e
        cases e
        rw [List.length_cons, List.length_cons, mapM_len e2]
theorem tells_of (s : St3 P H L μ) : ∀ (n : Nat) (v : V) (d : D) (p : PyData), Rep P H L v d → pyK n μ d = some p → Tells Pr w P.K H v p := by
  intro n
  induction n with
  | zero => intro v d p _ e; cases e
  | succ n ih =>
    intro v d p r e
    have many : ∀ {vs : List V} {ds : List D} {g : List PyData → PyData}, Reps P H L vs ds → (ds.mapM (pyK n μ)).map g = some p → ∃ ps, g ps = p ∧ vs.length = ps.length ∧ TellsAll Pr w P.K H vs ps := fun {vs ds g} r e => by
      cases e2 : ds.mapM (pyK n μ) with
      | none => rw [e2] at e; cases e
      | some ps =>
        rw [e2] at e
        exact ⟨ps, Option.some.inj e, r.length.trans (mapM_len e2), tells_all (ih) r e2⟩
    cases r with
    | non => cases e; exact fun h _ _ _ u ru => by cases ru; exact ⟨[], .none, fun z => nomatch z⟩
    | bl b => cases e; exact fun h _ _ _ u ru => by cases ru; exact ⟨[], .bool b, fun z => nomatch z⟩
    | int i => cases e; exact fun h _ _ _ u ru => by obtain ⟨t, rfl⟩ := ru; exact ⟨[], .int i t, fun z => nomatch z⟩
    | str z => cases e; exact fun h _ _ _ u ru => by obtain ⟨t, rfl⟩ := ru; exact ⟨[], .str z t, fun z => nomatch z⟩
    | lst h nn r =>
      obtain ⟨ps, rfl, _, t⟩ := many (g := PyData.list) r e
      exact tells_sqL (.of h) t
    | tup h r =>
      obtain ⟨ps, rfl, _, t⟩ := many (g := PyData.tuple) r e
      exact tells_tup h t
    | @dct a ks vs ds h nn l r =>
      obtain ⟨ps, rfl, lp, t⟩ := many (g := fun ps => PyData.dict ((ks.map keyP).zip ps)) r e
      exact tells_dct h l lp t
    | cell h =>
      rename_i a k
      have e' : (match μ[k]? with
        | some (.lst ds) => (ds.mapM (pyK n μ)).map PyData.list
        | some (.dct ks ds) => (ds.mapM (pyK n μ)).map fun ps => PyData.dict ((ks.map keyP).zip ps)
        | _ => none) = some p := e
      cases em : μ[k]? with
      | none => rw [em] at e'; cases e'
      | some m =>
        rw [em] at e'
        cases m with
        | lst ds =>
          cases s.at_ k a _ h em with
          | lst hh r =>
            obtain ⟨ps, rfl, _, t⟩ := many (g := PyData.list) r e'
            exact tells_sqL (.of hh) t
        | dct ks ds =>
          cases s.at_ k a _ h em with
          | dct hh l r =>
            obtain ⟨ps, rfl, lp, t⟩ := many (g := fun ps => PyData.dict ((ks.map keyP).zip ps)) r e'
            exact tells_dct (.of hh) l lp t
        | ins c ns ds => cases e'
    | obj h hc nn l r => cases e
    | scr h => cases e
end
section
variable {P : Pm} {X : Cx}
def rRepr (Pr : Program) (w : World) (K : PySem.W.Frag) : List V → Hp → VK → Prop := fun xs H Q => ∃ a p, xs = [.ref a] ∧ Tells Pr w K H (.ref a) p ∧ p.showable = true ∧ p.shown.length ≤ sizeLine ∧ p.depth ≤ 12 ∧ Q (.str p.shown) H
theorem call_repr (hg : X.A.guards = some []) (hu : X.A.units + 20 < cLine) (hs : ∃ m, X.base.Ns sysModules m) : CallR X (.builtin "repr") (rRepr X.prog X.w X.K) := by
  intro pins s σ H xs us Q I r h
  obtain ⟨a, p, rfl, t, sh, sz, dp, q⟩ := h
  obtain ⟨u, rfl, rfl⟩ := vals1 r
  obtain ⟨m, o, es, ep, g, d, _⟩ := hs
  obtain ⟨b1, b2⟩ := I.bs _ _ g
  obtain ⟨as, rd, nn⟩ := t s.heap I.hok (I.mod.kin.keeps I.bk) ⟨b2, o, es, ep, b1, d⟩ _ rfl
  exact PySem.repr_of_reads' rd sh (fun _ => nn) hg (by omega) (fun _ _ e => e) (fun h' u tk keep => ⟨.str p.shown, H, I.kept keep, ⟨_, rfl⟩, q⟩) sz
theorem cs_repr (hK : P.K = X.K) : CallS P (rRepr X.prog X.w X.K) (un dRepr) := by
  refine cs_un fun E L H μ v d Q s rv q => ?_
  unfold dRepr at q
  cases e : pyK 12 μ d with
  | none => rw [e] at q; exact q.elim
  | some p =>
    rw [e] at q
    dsimp only at q
    by_cases c : p.showable = true ∧ p.shown.length ≤ sizeLine ∧ p.depth ≤ 12
    case neg => rw [if_neg c] at q; exact q.elim
    rw [if_pos c] at q
    have t := tells_of (Pr := X.prog) (w := X.w) s 12 v d p rv e
    rw [hK] at t
    have fin : ∀ a, v = .ref a → Post P E L H (fun d L' H' => ∀ v, Rep P H' L' v d → Q v H') (.ok (.str p.shown) μ) → rRepr X.prog X.w X.K [v] H Q := fun a ea q => by
      subst ea
      exact ⟨a, p, rfl, t, c.1, c.2.1, c.2.2, q L H .refl s _ (.str _)⟩
    cases rv with
    | lst h n r => exact fin _ rfl q
    | tup h r => exact fin _ rfl q
    | cell h => exact fin _ rfl q
    | dct h n l r => exact fin _ rfl q
    | _ => exact q.elim
end
end L3

namespace L3
open PySem PySem.Spec PySem.Calls PyProof.Rows L2
/-! ### how long a plain thing's text is, and of which signs -/
structure TextOk (n : Nat) (t : Str) : Prop where
  len : t.length ≤ n
  ok : PyData.strOk t = true
theorem TextOk.mono {n m : Nat} {t : Str} (h : TextOk n t) (l : n ≤ m) : TextOk m t := ⟨Nat.le_trans h.len l, h.ok⟩
theorem TextOk.app {n m : Nat} {s t : Str} (h : TextOk n s) (k : TextOk m t) : TextOk (n + m) (s ++ t) := by
  refine ⟨by rw [strLen_append]; have := h.len; have := k.len; omega, ?_⟩
  have a := h.ok
  have b := k.ok
  unfold PyData.strOk at *
  show (s.cps ++ t.cps).all _ = true
  rw [Array.all_append, a, b]; rfl
theorem TextOk.int {i : Int} {k : Nat} (hk : 0 < k) (h : i.natAbs.log2 < k) : TextOk (k + 1) (Str.ofString (toString i)) := by
  have ok : PyData.strOk (Str.ofString (toString i)) = true := by
    rw [int_text]
    refine okT.s ?_
    unfold intL
    split
    · exact okT.cons (by decide) (okT.digits (TL.numL_digits _))
    · exact okT.digits (TL.numL_digits _)
  refine ⟨?_, ok⟩
  have := int_text_length_le hk h
  rw [PySem.ofString_length]
  exact this
theorem TextOk.from {b : Nat} : ∀ {ts : List Str} {a k : Nat} {acc : Str}, (∀ t ∈ ts, TextOk b t) → TextOk a acc → TextOk (a + ts.length * (b + 2)) (textFrom k acc ts)
  | [], a, k, acc, _, h => by simpa [textFrom] using h
  | t :: ts, a, k, acc, ht, h => by
    have c : TextOk 2 ((if k > 0 then ", " else "" : String) : Str) := by
      split
      · exact ⟨by decide, by decide +kernel⟩
      · exact ⟨by decide, by decide +kernel⟩
    have z := TextOk.from (k := k + 1) (fun u hu => ht u (List.mem_cons_of_mem _ hu)) ((h.app c).app (ht t (List.mem_cons_self ..)))
    refine TextOk.mono (n := (a + 2 + b) + ts.length * (b + 2)) z ?_
    rw [List.length_cons, Nat.succ_mul]; omega
theorem TextOk.join {b : Nat} : ∀ {ts : List Str}, (∀ t ∈ ts, TextOk b t) → TextOk (ts.length * (b + 2)) (Str.join ", " ts)
  | [], _ => ⟨Nat.zero_le _, by decide +kernel⟩
  | [t], h => (h t (List.mem_cons_self ..)).mono (by simp)
  | t :: u :: r, h => by
    have z := TextOk.join (ts := u :: r) fun x hx => h x (List.mem_cons_of_mem _ hx)
    have c : TextOk 2 ((", " : String) : Str) := ⟨by decide, by decide +kernel⟩
    refine TextOk.mono (((h t (List.mem_cons_self ..)).app c).app z) ?_
    rw [List.length_cons (a := t), Nat.succ_mul]; omega
theorem shownAll_map : ∀ ps : List PyData, PyData.shownAll ps = ps.map PyData.shown
  | [] => by simp [PyData.shownAll]
  | p :: ps => by simp [PyData.shownAll, shownAll_map ps]
theorem TextOk.list {b : Nat} {ps : List PyData} (h : ∀ p ∈ ps, TextOk b p.shown) : TextOk (ps.length * (b + 2) + 2) (PyData.shown (.list ps)) := by
  have e : PyData.shown (.list ps) = listText (ps.map PyData.shown) := by rw [← shownAll_map]; simp [PyData.shown]
  rw [e]
  unfold listText
  have z := TextOk.from (ts := ps.map PyData.shown) (a := 1) (k := 0) (acc := "[") (b := b) (fun t ht => by obtain ⟨p, hp, rfl⟩ := List.mem_map.mp ht; exact h p hp) ⟨by decide, by decide +kernel⟩
  have c : TextOk 1 (("]" : String) : Str) := ⟨by decide, by decide +kernel⟩
  refine (z.app c).mono ?_
  rw [List.length_map]; omega
theorem TextOk.tuple {b : Nat} {ps : List PyData} (h : ∀ p ∈ ps, TextOk b p.shown) : TextOk (ps.length * (b + 2) + 3) (PyData.shown (.tuple ps)) := by
  have e : PyData.shown (.tuple ps) = tupleText (ps.map PyData.shown) := by rw [← shownAll_map]; simp [PyData.shown]
  rw [e]
  unfold tupleText
  have z := TextOk.join (ts := ps.map PyData.shown) (b := b) (fun t ht => by obtain ⟨p, hp, rfl⟩ := List.mem_map.mp ht; exact h p hp)
  have c0 : TextOk 1 (("(" : String) : Str) := ⟨by decide, by decide +kernel⟩
  have c : TextOk 2 ((if (ps.map PyData.shown).length == 1 then ",)" else ")" : String) : Str) := by
    split
    · exact ⟨by decide, by decide +kernel⟩
    · exact ⟨by decide, by decide +kernel⟩
  refine ((c0.app z).app c).mono ?_
  rw [List.length_map]; omega
/-! ### plain things of lists, tuples, numbers -/
theorem pyD_asL {μ : Sto} {d : D} {xs : List D} {n : Nat} (h : asL μ d = some xs) : pyD (n + 1) μ d = (xs.mapM (pyD n μ)).map PyData.list := by
  cases d with
  | lst ys => cases h; rfl
  | cell k =>
    have h' : (match μ[k]? with
      | some (.lst ds) => some ds
      | _ => none) = some xs := h
    show (match μ[k]? with
      | some (.lst ds) => (ds.mapM (pyD n μ)).map PyData.list
      | _ => none) = _
    cases e : μ[k]? with
    | none => rw [e] at h'; cases h'
    | some m =>
      rw [e] at h'
      cases m with
      | lst ds => cases h'; rfl
      | dct ks ds => cases h'
      | ins c ns ds => cases h'
  | _ => cases h
theorem mapM_at {α β : Type} {f : α → Option β} : ∀ {xs : List α} {ys : List β}, xs.length = ys.length → (∀ (i : Nat) (x : α), xs[i]? = some x → ∃ y, ys[i]? = some y ∧ f x = some y) → xs.mapM f = some ys
  | [], [], _, _ => rfl
  | x :: xs, y :: ys, hl, h => by
    obtain ⟨z, e1, e2⟩ := h 0 x rfl
    cases e1
    rw [List.mapM_cons, e2, mapM_at (ys := ys) (by simpa using hl) fun i u hu => h (i + 1) u (by simpa using hu)]
    rfl
theorem canAll {ps : List PyData} (h : ∀ p ∈ ps, p.canLay0 = true) : PyData.canLayAll0 ps = true := by
  induction ps with
  | nil => simp [PyData.canLayAll0]
  | cons p ps ih => simp [PyData.canLayAll0, h p (List.mem_cons_self ..), ih fun q hq => h q (List.mem_cons_of_mem _ hq)]
theorem depAll {ps : List PyData} {n : Nat} (h : ∀ p ∈ ps, p.depth ≤ n) : PyData.depthAll ps ≤ n := by
  induction ps with
  | nil => simp [PyData.depthAll]
  | cons p ps ih =>
    have := h p (List.mem_cons_self ..)
    have := ih fun q hq => h q (List.mem_cons_of_mem _ hq)
    simp only [PyData.depthAll]; omega
theorem shwAll {ps : List PyData} (h : ∀ p ∈ ps, p.showable = true) : PyData.showableAll ps = true := by
  induction ps with
  | nil => simp [PyData.showableAll]
  | cons p ps ih => simp [PyData.showableAll, h p (List.mem_cons_self ..), ih fun q hq => h q (List.mem_cons_of_mem _ hq)]
/-- what == and repr ask of a plain thing -/
structure PyOk (n k : Nat) (p : PyData) : Prop where
  can : p.canLay0 = true
  dep : p.depth ≤ n
  shw : p.showable = true
  txt : TextOk k p.shown
theorem PyOk.mono {n m k l : Nat} {p : PyData} (h : PyOk n k p) (h1 : n ≤ m) (h2 : k ≤ l) : PyOk m l p := ⟨h.can, Nat.le_trans h.dep h1, h.shw, h.txt.mono h2⟩
theorem PyOk.int {i : Int} {k : Nat} (h : i.natAbs < 2 ^ k) (hk : 0 < k) (l : k ≤ 1900) : PyOk 0 (k + 1) (.int i) := by
  have lg : i.natAbs.log2 < k := by
    by_cases h0 : i.natAbs = 0
    · rw [h0]; simpa using hk
    · exact (Nat.log2_lt h0).mpr h
  refine ⟨by simp [PyData.canLay0], by simp [PyData.depth], by simp [PyData.showable]; omega, ?_⟩
  have := TextOk.int hk lg
  simpa [PyData.shown] using this
theorem PyOk.list {n b : Nat} {ps : List PyData} (h : ∀ p ∈ ps, PyOk n b p) : PyOk (n + 1) (ps.length * (b + 2) + 2) (.list ps) :=
  ⟨by simpa [PyData.canLay0] using canAll fun p hp => (h p hp).can, by simpa [PyData.depth] using depAll fun p hp => (h p hp).dep, by simpa [PyData.showable] using shwAll fun p hp => (h p hp).shw, .list fun p hp => (h p hp).txt⟩
theorem PyOk.tuple {n b : Nat} {ps : List PyData} (h : ∀ p ∈ ps, PyOk n b p) : PyOk (n + 1) (ps.length * (b + 2) + 3) (.tuple ps) :=
  ⟨by simpa [PyData.canLay0] using canAll fun p hp => (h p hp).can, by simpa [PyData.depth] using depAll fun p hp => (h p hp).dep, by simpa [PyData.showable] using shwAll fun p hp => (h p hp).shw, .tuple fun p hp => (h p hp).txt⟩
/-- what repr asks of a plain thing -/
structure PyShow (n k : Nat) (p : PyData) : Prop where
  dep : p.depth ≤ n
  shw : p.showable = true
  txt : TextOk k p.shown
theorem PyOk.show_ {n k : Nat} {p : PyData} (h : PyOk n k p) : PyShow n k p := ⟨h.dep, h.shw, h.txt⟩
theorem PyShow.mono {n m k l : Nat} {p : PyData} (h : PyShow n k p) (h1 : n ≤ m) (h2 : k ≤ l) : PyShow m l p := ⟨Nat.le_trans h.dep h1, h.shw, h.txt.mono h2⟩
theorem PyShow.list {n b : Nat} {ps : List PyData} (h : ∀ p ∈ ps, PyShow n b p) : PyShow (n + 1) (ps.length * (b + 2) + 2) (.list ps) :=
  ⟨by simpa [PyData.depth] using depAll fun p hp => (h p hp).dep, by simpa [PyData.showable] using shwAll fun p hp => (h p hp).shw, .list fun p hp => (h p hp).txt⟩
theorem PyShow.tuple {n b : Nat} {ps : List PyData} (h : ∀ p ∈ ps, PyShow n b p) : PyShow (n + 1) (ps.length * (b + 2) + 3) (.tuple ps) :=
  ⟨by simpa [PyData.depth] using depAll fun p hp => (h p hp).dep, by simpa [PyData.showable] using shwAll fun p hp => (h p hp).shw, .tuple fun p hp => (h p hp).txt⟩
theorem reprChar_ok {q c : Nat} (hc : c < 1114112) : ∀ d ∈ Builtin.Str.reprChar q c, d < 1114112 := by
  have hx : ∀ w : Nat, ∀ d ∈ List.replicate (w - ((Nat.toDigits 16 c).map Char.toNat).length) 48 ++ (Nat.toDigits 16 c).map Char.toNat, d < 1114112 := fun w d hd => by
    rcases List.mem_append.mp hd with h | h
    · have := (List.mem_replicate.mp h).2; omega
    · obtain ⟨ch, _, rfl⟩ := List.mem_map.mp h
      have := ch.valid
      show ch.val.toNat < 1114112
      rcases this with h | h
      · omega
      · exact h.2
  intro d hd
  unfold Builtin.Str.reprChar at hd
  dsimp only at hd
  repeat' split at hd
  all_goals first
    | (simp only [List.mem_cons, List.not_mem_nil, or_false] at hd; omega)
    | (rcases List.mem_append.mp hd with h | h
       · simp only [List.mem_cons, List.not_mem_nil, or_false] at h; omega
       · exact hx _ d h)
theorem TextOk.rep {x : Str} {n : Nat} (ok : PyData.strOk x = true) (h : x.length ≤ n) : TextOk (10 * n + 2) (reprText x) := by
  have hc : ∀ c ∈ x.cps.toList, c < 1114112 := by
    unfold PyData.strOk at ok
    rw [← Array.all_toList, List.all_eq_true] at ok
    exact fun c hc => by simpa using ok c hc
  refine ⟨Nat.le_trans (StrLaws.reprText_len x fun c h => Nat.lt_of_lt_of_le (hc c h) (by decide)) (by omega), ?_⟩
  have q : reprQuote x < 1114112 := by unfold reprQuote; split <;> decide
  have go : ∀ (l : List Nat) (acc : Array Nat), (∀ c ∈ l, c < 1114112) → (∀ c ∈ acc.toList, c < 1114112) → ∀ c ∈ (l.foldl (fun out c => out ++ (Builtin.Str.reprChar (reprQuote x) c).toArray) acc).toList, c < 1114112 := by
    intro l
    induction l with
    | nil => intro acc _ h; exact h
    | cons c l ih =>
      intro acc h1 h2
      refine ih _ (fun d hd => h1 d (List.mem_cons_of_mem _ hd)) fun d hd => ?_
      rw [Array.toList_append] at hd
      rcases List.mem_append.mp hd with h | h
      · exact h2 d h
      · exact reprChar_ok (h1 c (List.mem_cons_self ..)) d (by simpa using h)
  have z := go x.cps.toList #[reprQuote x] hc (fun c hc => by simp at hc; omega)
  unfold PyData.strOk reprText
  rw [← Array.all_toList, List.all_eq_true, Array.toList_push, ← Array.foldl_toList]
  intro c hc
  rcases List.mem_append.mp hc with h | h
  · exact decide_eq_true (z c h)
  · rw [List.mem_singleton] at h
    subst h
    exact decide_eq_true q
theorem PyShow.str {x : Str} {n : Nat} (ok : PyData.strOk x = true) (h : x.length ≤ n) : PyShow 0 (10 * n + 2) (.str x) :=
  ⟨by simp [PyData.depth], by simp [PyData.showable], by simpa [PyData.shown] using TextOk.rep ok h⟩
theorem TextOk.kv {b c : Nat} : ∀ {kvs : List (PyData × PyData)}, (∀ kv ∈ kvs, TextOk b kv.1.shown ∧ TextOk c kv.2.shown) → ∀ t ∈ PyData.shownKv kvs, TextOk (b + 2 + c) t
  | [], _, t, ht => by simp [PyData.shownKv] at ht
  | (k, v) :: r, h, t, ht => by
    rw [PyData.shownKv] at ht
    rcases List.mem_cons.mp ht with rfl | ht
    · obtain ⟨h1, h2⟩ := h (k, v) (List.mem_cons_self ..)
      exact (h1.app ⟨by decide, by decide +kernel⟩).app h2
    · exact TextOk.kv (fun kv hkv => h kv (List.mem_cons_of_mem _ hkv)) t ht
theorem shownKv_len : ∀ kvs : List (PyData × PyData), (PyData.shownKv kvs).length = kvs.length
  | [] => by simp [PyData.shownKv]
  | (k, v) :: r => by simp [PyData.shownKv, shownKv_len r]
theorem shwKv : ∀ {kvs : List (PyData × PyData)}, (∀ kv ∈ kvs, kv.1.showable = true ∧ kv.2.showable = true) → PyData.showableKv kvs = true
  | [], _ => by simp [PyData.showableKv]
  | (k, v) :: r, h => by
    obtain ⟨h1, h2⟩ := h (k, v) (List.mem_cons_self ..)
    simp only at h1 h2
    simp [PyData.showableKv, h1, h2, shwKv fun kv hkv => h kv (List.mem_cons_of_mem _ hkv)]
theorem depKv {n : Nat} : ∀ {kvs : List (PyData × PyData)}, (∀ kv ∈ kvs, kv.1.depth ≤ n ∧ kv.2.depth ≤ n) → PyData.depthKv kvs ≤ n
  | [], _ => by simp [PyData.depthKv]
  | (k, v) :: r, h => by
    obtain ⟨h1, h2⟩ := h (k, v) (List.mem_cons_self ..)
    have := depKv fun kv hkv => h kv (List.mem_cons_of_mem _ hkv)
    simp only at h1 h2
    simp only [PyData.depthKv]; omega
theorem PyShow.dict {n b c : Nat} {kvs : List (PyData × PyData)} (h : ∀ kv ∈ kvs, PyShow n b kv.1 ∧ PyShow n c kv.2) : PyShow (n + 1) (kvs.length * (b + 2 + c + 2) + 2) (.dict kvs) := by
  refine ⟨by simpa [PyData.depth] using depKv fun kv hkv => ⟨(h kv hkv).1.dep, (h kv hkv).2.dep⟩, by simpa [PyData.showable] using shwKv fun kv hkv => ⟨(h kv hkv).1.shw, (h kv hkv).2.shw⟩, ?_⟩
  have e : PyData.shown (.dict kvs) = dictText (PyData.shownKv kvs) := by simp [PyData.shown]
  rw [e]
  unfold dictText
  have z := TextOk.join (TextOk.kv fun kv hkv => ⟨(h kv hkv).1.txt, (h kv hkv).2.txt⟩)
  have c0 : TextOk 1 (("{" : String) : Str) := ⟨by decide, by decide +kernel⟩
  have c1 : TextOk 1 (("}" : String) : Str) := ⟨by decide, by decide +kernel⟩
  refine ((c0.app z).app c1).mono ?_
  rw [shownKv_len]; omega
theorem mapM_imp {α β : Type} {f g : α → Option β} (h : ∀ x y, f x = some y → g x = some y) : ∀ {xs : List α} {ys : List β}, xs.mapM f = some ys → xs.mapM g = some ys
  | [], ys, e => by simpa using e
  | x :: xs, ys, e => by
    rw [List.mapM_cons] at e ⊢
    cases e1 : f x with
    | none => rw [e1] at e; cases e
    | some y =>
      rw [e1] at e
      cases e2 : xs.mapM f with
      | none => rw [e2] at e; cases e
      | some zs =>
        rw [e2] at e
        cases e
        rw [h x y e1, mapM_imp h e2]; rfl
theorem pyD_K {μ : Sto} : ∀ (n : Nat) (d : D) (p : PyData), pyD n μ d = some p → pyK n μ d = some p := by
  intro n
  induction n with
  | zero => intro d p e; cases e
  | succ n ih =>
    intro d p e
    have many : ∀ {ds : List D} {g : List PyData → PyData}, (ds.mapM (pyD n μ)).map g = some p → (ds.mapM (pyK n μ)).map g = some p := fun {ds g} e => by
      cases e2 : ds.mapM (pyD n μ) with
      | none => rw [e2] at e; cases e
      | some ps =>
        rw [e2] at e
        rw [mapM_imp ih e2]; exact e
    cases d with
    | lst ds => exact many (g := PyData.list) e
    | tup ds => exact many (g := PyData.tuple) e
    | cell k =>
      have e' : (match μ[k]? with
        | some (.lst ds) => (ds.mapM (pyD n μ)).map PyData.list
        | _ => none) = some p := e
      show (match μ[k]? with
        | some (.lst ds) => (ds.mapM (pyK n μ)).map PyData.list
        | some (.dct ks ds) => (ds.mapM (pyK n μ)).map fun ps => PyData.dict ((ks.map keyP).zip ps)
        | _ => none) = some p
      cases em : μ[k]? with
      | none => rw [em] at e'; cases e'
      | some m =>
        rw [em] at e'
        cases m with
        | lst ds => exact many (g := PyData.list) e'
        | dct ks ds => cases e'
        | ins c ns ds => cases e'
    | non => exact e
    | bl b => exact e
    | int i => exact e
    | str z => exact e
    | dct ks ds => cases e
    | obj c ns ds => cases e
    | scr ns => cases e
section
variable {μ : Sto} {Q : D → Sto → Prop} {E : Exs} {d : D} {p : PyData} {n k : Nat}
theorem wp_reprK (hd : (∃ xs, d = .lst xs) ∨ (∃ xs, d = .tup xs) ∨ (∃ c, d = .cell c) ∨ ∃ ks ds, d = .dct ks ds) (h : pyK 12 μ d = some p) (ok : PyShow n k p) (hn : n ≤ 12) (hk : k ≤ 16777216) (q : Q (.str p.shown) μ) : (dRepr d μ).wp Q E := by
  unfold dRepr
  rw [h]
  dsimp only
  rw [if_pos ⟨ok.shw, by rw [sizeLine_eq]; exact Nat.le_trans ok.txt.len hk, Nat.le_trans ok.dep hn⟩]
  rcases hd with ⟨xs, rfl⟩ | ⟨xs, rfl⟩ | ⟨c, rfl⟩ | ⟨ks, ds, rfl⟩ <;> exact q
theorem wp_repr (hd : (∃ xs, d = .lst xs) ∨ (∃ xs, d = .tup xs) ∨ ∃ c, d = .cell c) (h : pyD 12 μ d = some p) (ok : PyOk n k p) (hn : n ≤ 12) (hk : k ≤ 16777216) (q : Q (.str p.shown) μ) : (dRepr d μ).wp Q E :=
  wp_reprK (hd.imp id fun z => z.imp id .inl) (pyD_K 12 d p h) ok.show_ hn hk q
end
end L3

namespace L3
open PySem PySem.Spec PySem.Calls PyProof.Rows L2
section
variable {P : Pm} {X : Cx} {H : Hp} {L : Lv} {μ : Sto}
end
end L3

namespace L3
open PySem PySem.Spec PySem.Calls PyProof.Rows L2
/-- what is walked at each turn: a list or a tuple -/
def walkB (μ : Sto) : D → Option (List D × (Sto → Bool))
  | .tup ds => some (ds, fun _ => true)
  | d => walkL μ d
def iEnumBD (fa : SA) : SI := fun ρ μ => (fa ρ μ).bind fun ds μ1 => match ds with
  | [d] => (match walkB μ1 d with
    | some it => .ok (enumD 0 it.1, it.2) μ1
    | none => .bad)
  | _ => .bad
section
variable {P : Pm} {W : WX} {X : Cx} {fa : SA} {p pos : Pos}
end
theorem wp_enumB {E : Exs} {ρ : Env} {μ : Sto} {fa : SA} {Q : List D × (Sto → Bool) → Sto → Prop} (h : (fa ρ μ).wp (fun ds μ1 => ∃ d, ds = [d] ∧ ∃ it, walkB μ1 d = some it ∧ Q (enumD 0 it.1, it.2) μ1) E) : (iEnumBD fa ρ μ).wp Q E :=
  wp_bind (wp_mono h (fun ds μ1 ⟨d, e, it, e2, q⟩ => by subst e; dsimp only; rw [e2]; exact q) fun _ _ _ _ z => z)
end L3

namespace L3
open PySem PySem.Spec PySem.Calls PyProof.Rows L2
end L3

namespace L3
open PySem PySem.Spec PySem.Calls PyProof.Rows L2
end L3

namespace L3
open PySem PySem.Spec PyProof.Rows L2
/-! ### lambdas that are kept in a list: their parameters, if any, all have the default 0 -/
abbrev lamNm (X : Cx) : Str := X.env.qual ++ "<lambda>"
abbrev lamOb (X : Cx) (params : Arguments) (body : Expr) (scope : Scope) (dV doc pm : Value) (cd : Addr) (ctv : Value) : Obj :=
  PySem.W.kdv_obj "<lambda>" (lamNm X) params (.expr body) scope (cloFrom X.env.cells scope.names []) dV doc pm cd ctv
/-- the function's own object is known -/
def LamO (f : Addr) (ob : Obj) : HO := .ext fun h => h.get? f = some ob
theorem LamO.ne {f : Addr} {ob : Obj} (ps : Array Value) : LamO f ob ≠ .tbl ps := fun z => by
  unfold LamO at z
  cases z
structure LamAt (X : Cx) (params : Arguments) (body : Expr) (scope : Scope) (f : Addr) (dV doc pm : Value) (cd : Addr) (ctv : Value) (H : Hp) : Prop where
  fn : H f = some (LamO f (lamOb X params body scope dV doc pm cd ctv))
  co : H cd = some (LamX.CodeO cd (lamNm X))
  df : (params.defaults = [] ∧ dV = .none) ∨ (params.defaults ≠ [] ∧ ∃ t, dV = .ref t ∧ H t = some (.tup (params.defaults.map fun _ => V.int 0)))
theorem LamAt.ext {X : Cx} {params : Arguments} {body : Expr} {scope : Scope} {f : Addr} {dV doc pm : Value} {cd : Addr} {ctv : Value} {H H1 : Hp} (a : LamAt X params body scope f dV doc pm cd ctv H) (e : LamX.ExtN H H1) : LamAt X params body scope f dV doc pm cd ctv H1 := by
  refine ⟨e _ _ a.fn LamO.ne, e _ _ a.co LamX.codeO_ne, ?_⟩
  rcases a.df with z | ⟨z, t, h1, h2⟩
  · exact .inl z
  · exact .inr ⟨z, t, h1, e _ _ h2 fun ps q => nomatch q⟩
def Zeros (es : List Expr) : Prop := ∀ e ∈ es, ∃ j p, e = .Constant (.int 0) j p
section
variable {X : Cx} {pins : List (Addr × Obj)} {σ : L2.St} {H : Hp}
theorem zeros_all {E : Value → Shared → Prop} : ∀ {es : List Expr}, Zeros es → ∀ {s : Shared} {Q : List Value → Shared → Prop}, Inv X pins σ H s → (∀ vs s', Vals (es.map fun _ => V.int 0) vs → Inv X pins σ H s' → Q vs s') →
    wpAny (model X.prog X.w) X.A (evalAll (evalEach es X.env)) Q E s
  | [], _, s, Q, I, h => PySem.W.kdv_all0 (h [] s .nil I)
  | e :: es, z, s, Q, I, h => by
    obtain ⟨j, p, rfl⟩ := z e List.mem_cons_self
    refine PySem.W.kdv_all1 (wpAny_Constant_int ?_)
    exact zeros_all (fun e he => z e (List.mem_cons_of_mem _ he)) (I.tok _) fun vs s' r I' => h (_ :: vs) s' (.cons ⟨_, rfl⟩ r) I'
/-- the tail of a lambda's making; dV: its defaults -/
theorem lam_tail {s : Shared} {T : List (Addr × Str)} {c Pt : Addr} {params : Arguments} {body : Expr} {scope : Scope} {pos : Pos} {dV : Value} {E Q : Value → Shared → Prop} (I : Inv X pins σ H s) (TB : LamX.TabB X.base X.mg c Pt) (hcode : X.env.code = .ref c)
    (hm : (Pt, lamNm X) ∈ T) (hu : ∀ p ∈ T, p.1 = Pt → p.2 = lamNm X) (hT : LamX.Tabs T H) (hfree : ∀ y ∈ scope.names, y.2 = .free → ∃ c, X.env.cells.lookup y.1 = some c)
    (h : ∀ (f cd : Addr) (doc pm ctv : Value) (H1 : Hp) (s' : Shared), Inv X pins σ H1 s' → LamX.ExtN H H1 → LamX.Tabs T H1 → f ∉ frs X.stack →
      H1 f = some (LamO f (lamOb X params body scope dV doc pm cd ctv)) → H1 cd = some (LamX.CodeO cd (lamNm X)) → Q (.ref f) s') :
    wpAny (model X.prog X.w) X.A (makeTail "<lambda>" (lamNm X) params (.expr body) scope X.env dV .none none pos pos.line) Q E s := by
  obtain ⟨tb, hTb, triples, among⟩ := hT _ hm
  have bltP : s.heap.BuiltinsAt X.mg Pt := TB.bm.keeps I.bk
  have rawP : s.heap.get? Pt = some { cls := .none, data := .fields tb } := I.hok Pt _ hTb
  have young : ∀ f, s.heap.objs.size ≤ f → f ∉ frs X.stack := fun f hf z => (List.mem_cons.mp (I.stkSub _ z)).elim (fun e => Nat.lt_irrefl _ (Nat.lt_of_lt_of_le (e ▸ I.lt) hf)) fun e => I.nofs hf e
  -- the function's object, laid behind all else
  have last : ∀ {H1 : Hp} {hp : Heap} {tk : Nat} {ob : Obj}, ob.isFreed = false → Inv X pins σ H1 { s with heap := hp, toks := tk } → Inv X pins σ (upd H1 hp.objs.size (LamO hp.objs.size ob)) { s with heap := hp.push ob, toks := tk } := fun {H1 hp tk ob} nf J =>
    J.laid (t' := tk) (fun b u e => Heap.get?_push_of_some _ e) (Nat.le_refl _) ⟨Heap.get?_push_size _ nf, ⟨_, Heap.get?_push_size _ nf⟩, fun h1 h2 e st => st _ e⟩
  cases got : codeAmong pos tb.toList with
  | none =>
    refine PySem.W.kdv_makeTail (mg := X.mg) (c := c) (P := Pt) (ps := tb) (closure_ok hfree) I.ok.glob (I.mod.glob.keeps I.bk) hcode (TB.code.keeps I.bk) rawP triples got TB.gP bltP fun cd ctv doc hp tk but above below rec_ tab_ => ?_
    obtain ⟨c2, oc, vs, t, ec, o1, o2, o3⟩ := rec_
    obtain rfl : cd = c2 := by cases ec; rfl
    have size_ : s.heap.objs.size ≤ hp.objs.size := Nat.le_trans above (Nat.le_of_lt below)
    have noC : H cd = none := I.hok.fresh above
    have J := LamX.inv_table (t' := tk) (more := #[rawInt pos.line, rawInt pos.col, .ref cd]) (h' := hp) (q := lamNm X) I hTb (fun b o hb e => but b o hb e) tab_ above ⟨oc, vs, t, o1, o2, o3⟩
    have J2 := last (ob := lamOb X params body scope dV doc ((X.mg "__name__").getD .none) cd ctv) rfl J
    generalize hG : upd (upd H Pt (.tbl (tb ++ #[rawInt pos.line, rawInt pos.col, .ref cd]))) cd (LamX.CodeO cd (lamNm X)) = G at J J2
    have grew : LamX.ExtN H G := fun b o e n => by
      rw [← hG, upd_ne (ne_of_none e noC), upd_ne (fun z => n tb (Option.some.inj (e.symm.trans (by rw [z]; exact hTb))))]
      exact e
    have noF : G hp.objs.size = none := J.hok.fresh (Nat.le_refl _)
    have grew2 : LamX.ExtN H (upd G hp.objs.size (LamO hp.objs.size (lamOb X params body scope dV doc ((X.mg "__name__").getD .none) cd ctv))) := fun b o e n => upd_grow noF b o (grew b o e n)
    have atC : G cd = some (LamX.CodeO cd (lamNm X)) := by rw [← hG, upd_same]
    have tabs : LamX.Tabs T G := fun p hp => by
      by_cases hb : p.1 = Pt
      · rw [hu p hp hb, hb]
        refine ⟨_, by rw [← hG, upd_ne (ne_of_none hTb noC), upd_same], by rw [show (tb ++ #[rawInt pos.line, rawInt pos.col, .ref cd]).toList = tb.toList ++ [rawInt pos.line, rawInt pos.col, .ref cd] by simp]; exact PySem.TriplesOk_snoc _ _ _ _ triples, fun p' cv hcv => ?_⟩
        rw [show (tb ++ #[rawInt pos.line, rawInt pos.col, .ref cd]).toList = tb.toList ++ [rawInt pos.line, rawInt pos.col, .ref cd] by simp] at hcv
        exact (LamX.among_app _ triples hcv).elim (fun z => let ⟨c0, e1, e2⟩ := among p' cv z; ⟨c0, e1, grew _ _ e2 LamX.codeO_ne⟩) fun z => ⟨cd, z, atC⟩
      · obtain ⟨tb2, a1, a2, a3⟩ := hT p hp
        refine ⟨tb2, by rw [← hG, upd_ne (ne_of_none a1 noC), upd_ne hb]; exact a1, a2, fun p' cv hcv => ?_⟩
        exact let ⟨c0, e1, e2⟩ := a3 p' cv hcv; ⟨c0, e1, grew _ _ e2 LamX.codeO_ne⟩
    exact h hp.objs.size cd doc _ ctv _ _ J2 grew2 (tabs.ext (upd_grow noF)) (young _ size_) upd_same (upd_grow noF _ _ atC)
  | some cv =>
    obtain ⟨cd, rfl, known⟩ := among pos cv got
    refine PySem.W.kdv_makeTailHit (mg := X.mg) (c := c) (P := Pt) (ps := tb) (closure_ok hfree) I.ok.glob (I.mod.glob.keeps I.bk) hcode (TB.code.keeps I.bk) rawP triples got bltP fun ctv doc hp tk keeps size_ => ?_
    have J : Inv X pins σ H { s with heap := hp, toks := tk } := I.kept fun b o e => keeps b o e
    have J2 := last (ob := lamOb X params body scope dV doc ((X.mg "__name__").getD .none) cd ctv) rfl J
    have noF : H hp.objs.size = none := J.hok.fresh (Nat.le_refl _)
    exact h hp.objs.size cd doc _ ctv _ _ J2 (.of (upd_grow noF)) (hT.ext (upd_grow noF)) (young _ size_) upd_same (upd_grow noF _ _ known)
/-- a lambda, as a thing -/
def tLam2 (T : List (Addr × Str)) (X : Cx) (params : Arguments) (body : Expr) (scope : Scope) : TE := fun _ H Q => LamX.Tabs T H ∧ ∀ (f : Addr) (dV doc pm : Value) (cd : Addr) (ctv : Value) (H1 : Hp), LamX.ExtN H H1 → LamX.Tabs T H1 → f ∉ frs X.stack → LamAt X params body scope f dV doc pm cd ctv H1 → Q (.ref f) H1
theorem pe_lam2 {T : List (Addr × Str)} {c Pt : Addr} {params : Arguments} {body : Expr} {scope : Scope} {pos : Pos} (TB : LamX.TabB X.base X.mg c Pt) (hcode : X.env.code = .ref c) (hm : (Pt, lamNm X) ∈ T) (hu : ∀ p ∈ T, p.1 = Pt → p.2 = lamNm X)
    (hfree : ∀ y ∈ scope.names, y.2 = .free → X.env.scope.names.lookup y.1 = some .cell ∨ X.env.scope.names.lookup y.1 = some .free) (hz : Zeros params.defaults) (hk : params.kw_defaults = []) (hl : params.defaults.length ≤ 100) :
    PE X (.Lambda params body scope pos) (tLam2 T X params body scope) := by
  refine ⟨fun pins s σ H Q I ⟨hT, h⟩ => ?_⟩
  have clo : ∀ y ∈ scope.names, y.2 = .free → ∃ c, X.env.cells.lookup y.1 = some c := fun y hy e => I.ok.has _ (hfree y hy e)
  cases hd : params.defaults with
  | nil =>
    have none_ : defaultsOf params X.env = ([], []) := by
      rw [defaultsOf_eq, hd, hk]
      rfl
    refine PySem.W.kla_eval none_ ?_
    rw [makeFunction_eq]
    simp only [List.zip_nil_right, List.filterMap_nil, List.isEmpty_nil, if_true, pure_bind]
    exact lam_tail I TB hcode hm hu hT clo fun f cd doc pm ctv H1 s' J ex tb nf a1 a2 => ⟨.ref f, H1, J, rfl, h f _ doc pm cd ctv H1 ex tb nf ⟨a1, a2, .inl ⟨hd, rfl⟩⟩⟩
  | cons e0 es =>
    have some_ : params.defaults.isEmpty = false := by rw [hd]; rfl
    refine PySem.W.kdv_lam some_ hk (zeros_all hz I fun dv s1 rv I1 => ?_)
    have lv := rv.length
    rw [List.length_map] at lv
    have dne : dv.isEmpty = false := by
      cases dv with
      | nil => rw [hd] at lv; cases lv
      | cons _ _ => rfl
    rw [makeFunction_eq]
    simp only [List.zip_nil_right, List.filterMap_nil, List.isEmpty_nil, if_true, pure_bind, dne, Bool.false_eq_true, if_false]
    refine wpAny_bind (wpAny_newTextTuple ?_)
    have noT : H s1.heap.objs.size = none := I1.hok.fresh (Nat.le_refl _)
    have I2 : Inv X pins σ (upd H s1.heap.objs.size (.tup (params.defaults.map fun _ => V.int 0))) { s1 with heap := s1.heap.push { cls := .type "tuple", data := .seq dv.toArray } } :=
      I1.laid (t' := s1.toks) (fun b u e => Heap.get?_push_of_some _ e) (Nat.le_refl _) ⟨by rw [List.length_map]; exact line100 hl, dv, rv, _, Heap.get?_push_size _ rfl, rfl, _, rfl⟩
    exact lam_tail I2 TB hcode hm hu (hT.ext (upd_grow noT)) clo fun f cd doc pm ctv H1 s' J ex tb nf a1 a2 =>
      ⟨.ref f, H1, J, rfl, h f _ doc pm cd ctv H1 ((LamX.ExtN.of (upd_grow noT)).trans ex) tb nf ⟨a1, a2, .inr ⟨(fun z => by simp [hd] at z), _, rfl, ex _ _ upd_same fun ps z => nomatch z⟩⟩⟩
end
end L3

namespace L3
open PySem PySem.Spec PyProof.Rows L2
/-! ### kept lambdas, called from a comprehension of the def that made them -/
structure LamK (N : List Str) (sc scope : Scope) (as : List Str) : Prop where
  kind : scope.kind = .function
  co : scope.isCoroutine = false
  gen : scope.isGenerator = false
  noc : ∀ y ∈ scope.names, y.2 ≠ .cell
  loc : ∀ y ∈ scope.names, y.2 = .local → y.1 ∉ N
  par : ∀ a ∈ as, scope.names.lookup a = some .local
  free : ∀ y ∈ scope.names, y.2 = .free → sc.names.lookup y.1 = some .cell ∨ sc.names.lookup y.1 = some .free
def lamKB (N : List Str) (sc scope : Scope) (as : List Str) : Bool :=
  decide (scope.kind = .function) && !scope.isCoroutine && !scope.isGenerator && (scope.names.all fun y => !decide (y.2 = .cell) && (!decide (y.2 = .local) || !decide (y.1 ∈ N)) && (!decide (y.2 = .free) || decide (sc.names.lookup y.1 = some .cell) || decide (sc.names.lookup y.1 = some .free))) &&
    as.all fun a => decide (scope.names.lookup a = some .local)
theorem lamK_by {N : List Str} {sc scope : Scope} {as : List Str} (h : lamKB N sc scope as = true) : LamK N sc scope as := by
  unfold lamKB at h
  simp only [Bool.and_eq_true, Bool.or_eq_true, Bool.not_eq_true', decide_eq_true_eq, decide_eq_false_iff_not, List.all_eq_true] at h
  obtain ⟨⟨⟨⟨k1, k2⟩, k3⟩, k4⟩, k5⟩ := h
  refine ⟨k1, k2, k3, fun y hy => (k4 y hy).1.1, fun y hy e => (k4 y hy).1.2.elim (fun z => absurd e z) id, k5, fun y hy e => ?_⟩
  rcases (k4 y hy).2 with (z | z) | z
  · exact absurd e z
  · exact .inl z
  · exact .inr z
structure LamBind (params : Arguments) (body : Expr) (scope : Scope) (as : List Str) : Prop where
  b0 : params.defaults = [] → as = [] ∧ ∀ (q : Str) (cl : List (Str × Addr)) (doc pm cv ctv : Value), bindArgs (PySem.W.kdv_fn "<lambda>" q params (.expr body) scope cl .none doc pm cv ctv) ⟨[], []⟩ = pure []
  b1 : params.defaults ≠ [] → ∀ (q : Str) (cl : List (Str × Addr)) (t : Addr) (doc pm cv ctv : Value) (us : List Value), us.length = params.defaults.length →
    ∃ k, bindArgs (PySem.W.kdv_fn "<lambda>" q params (.expr body) scope cl (.ref t) doc pm cv ctv) ⟨[], []⟩ = seqItems? (.ref t) >>= k ∧ k (some us.toArray) = pure (as.zip us)
section
variable {X : Cx} {pins : List (Addr × Obj)} {σ : L2.St} {H HZ : Hp} {s s1 : Shared} {fp : List Addr}
/-- none of the things at fp is a captured name's cell -/
def Off (X : Cx) (fp : List Addr) : Prop := ∀ b ∈ fp, ∀ y c, X.env.cells.lookup y = some c → c ≠ b
theorem kept_start {A : Around} {outer : List _root_.PySem.Env} {E : XK} {scope : Scope} {as : List Str} {f cd : Addr} {hp : Heap} {tk : Nat} {mB : Str → Option Value} (I : Inv X pins σ H s) (off : Off X fp) (K : LamK X.N X.env.scope scope as)
    (e0 : Env0 X.prog X.w X.K X.mg X.base A outer s1 HZ) (calm : A.handled = none) (un : Un (frs X.stack) fp H HZ s.heap s1.heap) (ns : hp.Ns s1.heap.objs.size mB) (kp : ∀ b o, s1.heap.get? b = some o → hp.get? b = some o) :
    Inv (LamX.lamCx X A outer s1 HZ E scope f cd) [] σ HZ { s1 with heap := hp, toks := tk } := by
  have has_ : ∀ y ∈ scope.names, y.2 = .free → ∃ c, X.env.cells.lookup y.1 = some c := fun y hy e => I.ok.has _ (K.free y hy e)
  have up : ∀ {y c}, (cloFrom X.env.cells scope.names []).lookup y = some c → X.env.cells.lookup y = some c := fun {y c} e => by
    rcases cloFrom_mem (PySem.mem_of_lookup e) with m | ⟨m, w⟩
    · cases m
    · obtain ⟨c1, q⟩ := has_ _ m rfl
      rw [w]
      have q : X.env.cells.lookup y = some c1 := q
      rw [q]
      rfl
  have down : ∀ {y}, scope.names.lookup y = some .free → ∃ c, (cloFrom X.env.cells scope.names []).lookup y = some c := fun {y} m =>
    mem_lookup (cloFrom_has (cells := X.env.cells) (acc := []) (PySem.mem_of_lookup m))
  have nfp : ∀ {y c}, X.env.cells.lookup y = some c → c ∉ fp := fun {y c} e m => off c m y c e rfl
  have stays : ∀ {y : Str} {c : Addr} {v : Option Value}, X.env.cells.lookup y = some c → s.heap.IsCell c v → hp.IsCell c v := fun {y c v} e ⟨o, ho, hd⟩ =>
    let ⟨_, q⟩ := un.any ho (I.freeC y c e) (nfp e)
    ⟨_, kp _ _ q, hd⟩
  have none_ : ∀ b : Addr, b ∉ (LamX.lamCx X A outer s1 HZ E scope f cd).ex := fun b z => absurd (show b ∈ ([] : List Addr) from z) (by simp)
  have okk : (LamX.lamCx X A outer s1 HZ E scope f cd).Ok :=
    { mod := e0.mod, kind := K.kind, glob := rfl, blt := rfl, above := Nat.le_refl _
      inj := fun y z c e1 e2 => I.ok.inj y z c (up e1) (up e2)
      has := fun y hy => by
        rcases (show scope.names.lookup y = some .cell ∨ scope.names.lookup y = some .free from hy) with m | m
        · exact absurd rfl (K.noc _ (PySem.mem_of_lookup m))
        · exact down m
      cab := fun y c z _ => nomatch (show false = true from z)
      hd := fun _ => calm, frames := Around.frames_deeper e0.frames, stk := .inr ⟨rfl, rfl⟩
      exf := fun b z => absurd z (none_ b), bs := e0.bs, bsz := e0.bsz, noex := fun b _ _ => none_ b, exfs := fun b z => absurd z (none_ b), funs := e0.funs, frf := e0.frf }
  refine ⟨okk, rfl, e0.bare, Un.kept kp, ⟨_, ns, fun i y v e1 e2 e3 => ?_⟩, fun y c e => ?_, e0.hok.fresh (Nat.le_refl _), fun y c e => ?_, (fun q hq => absurd (show q ∈ ([] : List (Addr × Obj)) ++ [] from hq) (by simp)), e0.hok.kept kp, I.len⟩
  · rcases (show Vis scope y from e3) with m | m | m
    · exact absurd (List.mem_of_getElem? e1) (K.loc _ (PySem.mem_of_lookup m) rfl)
    · exact absurd rfl (K.noc _ (PySem.mem_of_lookup m))
    · obtain ⟨mm, _, look⟩ := I.loc
      have fr := K.free _ (PySem.mem_of_lookup m) rfl
      obtain ⟨w, r, q⟩ := look i y v e1 e2 (fr.elim (fun k => .inr (.inl k)) fun k => .inr (.inr k))
      obtain ⟨c, ec⟩ := down m
      have eX := up ec
      refine ⟨w, r, .inr ⟨.inr m, c, ec, ?_⟩⟩
      rcases q with ⟨k, _⟩ | ⟨_, c3, e', z⟩
      · have k : X.env.scope.names.lookup y = some .local := k
        have fr : X.env.scope.names.lookup y = some .cell ∨ X.env.scope.names.lookup y = some .free := fr
        rw [k] at fr
        rcases fr with z | z <;> cases z
      · rw [eX] at e'
        cases e'
        exact stays eX z
  · obtain ⟨w, z⟩ := I.cell y c (up e)
    exact ⟨w, stays (up e) z⟩
  · obtain ⟨v, o, ho, _⟩ := I.cell y c (up e)
    exact un.free c o ho (I.freeC y c (up e)) (nfp (up e))
theorem LamAt.at_ {params : Arguments} {body : Expr} {scope : Scope} {f : Addr} {dV doc pm : Value} {cd : Addr} {ctv : Value} (a : LamAt X params body scope f dV doc pm cd ctv HZ) (ok : HOk X.prog X.w HZ s.heap) : s.heap.get? f = some (lamOb X params body scope dV doc pm cd ctv) := (ok f _ a.fn).1
/-- f(), in the def that got the kept lambda; that def was called at s -/
theorem kept_act {H0 : Hp} {s0 : Shared} {CXg : CXT} {Eg : XK} {Ng : List Str} {qg : Str} {sg : Scope} {g f cd : Addr} {cdg dV doc pm ctv : Value} {params : Arguments} {body : Expr} {scope : Scope} {as : List Str} {k i : Nat} {a : Str} {pn : List (Addr × Obj)} {xe : Value → Shared → Prop} {W : WX} {E : XK} {tb : TE} {p1 p2 : Pos}
    (I : Inv X pins σ H0 s0) (off : Off X fp) (un : Un (frs X.stack) fp H0 H s0.heap s.heap) (K : LamK X.N X.env.scope scope as) (B : LamBind params body scope as)
    (tk : Takes ((cxOf CXg X.prog X.w X.K X.mg X.base Ng qg sg g cdg X.A X.stack s H Eg).tr pn xe) W) (hW : ∀ cls d σ' H', E cls d H' → W cls d σ' H') (hr : Room (k + 1) (X.A.deeper (envOfC qg sg s.heap.objs.size g cdg)))
    (hbody : ∀ (A : Around) (outer : List _root_.PySem.Env) (s : Shared) (H : Hp), Room k (A.deeper (LamX.lamEnv X scope s.heap.objs.size f cd)) → PE (LamX.lamCx X A outer s H E scope f cd) body tb)
    (hN : Ng[i]? = some a) (hv : Vis sg a) (hd : (a == ("__debug__" : Str)) = false := by decide) (hcd : (a == ("__classdict__" : Str)) = false := by decide) :
    PE ((cxOf CXg X.prog X.w X.K X.mg X.base Ng qg sg g cdg X.A X.stack s H Eg).tr pn xe) (.Call (.Name a p1) [] [] p2)
      (fun σZ HZ Q => σZ[i]? = some (some (.ref f)) ∧ HZ cd = some (LamX.CodeO cd (lamNm X)) ∧ LamAt X params body scope f dV doc pm cd ctv HZ ∧ tb σ HZ Q) := by
  refine ⟨fun pinsZ sZ σZ HZ Q IZ ⟨hs, hc, hl, ht⟩ => ?_⟩
  have nm := (pe_var (X := (cxOf CXg X.prog X.w X.K X.mg X.base Ng qg sg g cdg X.A X.stack s H Eg).tr pn xe) (pos := p1) (i := i) hN hv hd hcd).run pinsZ sZ σZ HZ (fun v G => v = .ref f ∧ G = HZ) IZ ⟨.ref f, hs, rfl, rfl⟩
  refine wpAny_Call_Name_kw (thn nm fun u s1 ⟨v, G, I1, r1, ev, eG⟩ => ?_)
  subst ev
  subst eG
  obtain rfl : u = Value.ref f := r1
  have ob := hl.at_ I1.hok
  refine PySem.W.callWith_F0 ⟨_, _, _, _, ob⟩ ?_
  have step1 : Un (frs X.stack) fp H G s.heap s1.heap := Un.mono (show Un (frs X.stack) [] H G s.heap s1.heap from I1.base) (fun _ z => z) fun _ z => nomatch z
  have un1 : Un (frs X.stack) fp H0 G s0.heap s1.heap := un.trans step1
  obtain ⟨⟨oc, vs, t, o1, o2, o3⟩, _, _⟩ := I1.hok cd _ hl.co
  have rc : codeAny (model X.prog X.w) (X.A.deeper (envOfC qg sg s.heap.objs.size g cdg)) (.call (.ref f) ⟨[], []⟩) (CR (L2.CX X.prog X.w) (envOfC qg sg s.heap.objs.size g cdg :: X.stack) X.prog X.w G s1 Q E) s1 := by
    refine PySem.W.kla_callFunE hr.depth ob rfl K.co K.gen rfl ⟨cd, oc, vs, t, rfl, o1, o2, o3⟩ ?_
    have bound : ∃ us : List Value, BindsTo s1 (PySem.W.kdv_fn "<lambda>" (lamNm X) params (.expr body) scope (cloFrom X.env.cells scope.names []) dV doc pm (.ref cd) ctv) ⟨[], []⟩ (as.zip us) := by
      rcases hl.df with ⟨z, rfl⟩ | ⟨z, tt, rfl, hT⟩
      · obtain ⟨rfl, q⟩ := B.b0 z
        exact ⟨[], .of_eq (q _ _ _ _ _ _)⟩
      · obtain ⟨_, its, rv, oT, eT, _, nT, dT⟩ := I1.hok tt _ hT
        have lv := rv.length
        rw [List.length_map] at lv
        obtain ⟨kk, q1, q2⟩ := B.b1 z (lamNm X) (cloFrom X.env.cells scope.names []) tt doc pm (.ref cd) ctv its lv.symm
        exact ⟨its, .of_defaults rfl eT dT q1 q2⟩
    obtain ⟨us, bd⟩ := bound
    refine bd _ _ _ _ ?_
    refine wpAny_newFunctionEnv (fun y hy => K.noc y hy) (fun y hy => K.par _ (List.of_mem_zip hy).1) (fun hp ns sb => ⟨I1.nolimit.fresh _ sb, ?_⟩) K.kind
    show codeAny _ _ (.expr body (LamX.lamEnv X scope s1.heap.objs.size f cd)) _ _
    have kp : ∀ b o, s1.heap.get? b = some o → hp.get? b = some o := fun b o e => sb.extBut b o (Nat.ne_of_lt (Heap.lt_size e)) (Heap.get?_push_of_some _ e)
    have J : Inv (LamX.lamCx X (X.A.deeper (envOfC qg sg s.heap.objs.size g cdg)) (envOfC qg sg s.heap.objs.size g cdg :: X.stack) s1 G E scope f cd) [] σ G { s1 with heap := hp, toks := s1.toks + (as.zip us).length } :=
      kept_start I off K I1.env0 hr.hd un1 ns kp
    refine PySem.W.kla_codeExpr (wpAny_mono ((hbody _ _ s1 G (hr.deeper _)).run [] _ _ G Q J ht) (fun v s' ⟨w', H', J', rv, q⟩ => ?_) fun e s' q => q)
    exact ⟨w', H', J'.os, J'.bare, J'.base, J'.hok, rv, q⟩
  have px : Passes (L2.CX X.prog X.w) ((cxOf CXg X.prog X.w X.K X.mg X.base Ng qg sg g cdg X.A X.stack s H Eg).tr pn xe) E := passes_call tk hW
  refine wpAny_call (codeAny_mono rc fun r s' q => ?_)
  cases r with
  | error e => exact px pinsZ σZ G s1 e s' I1 q
  | ok fl =>
    cases fl with
    | ret u => exact I1.after q
    | next => exact q.elim
    | brk => exact q.elim
    | cont => exact q.elim
/-- what the asking def makes of the kept lambda at slot ia -/
def tKept (X : Cx) (k : Nat) (TT : (XK → Hp → VK → Prop) → Hp → VK → Prop) (ia : Nat) (σ0 : L2.St) : TE := fun σ H Q =>
  ∃ (params : Arguments) (body : Expr) (scope : Scope) (as : List Str) (f : Addr) (dV doc pm : Value) (cd : Addr) (ctv : Value) (t : XK → TE), σ[ia]? = some (some (.ref f)) ∧ LamAt X params body scope f dV doc pm cd ctv H ∧ LamK X.N X.env.scope scope as ∧ LamBind params body scope as ∧
    (∀ (A : Around) (outer : List _root_.PySem.Env) (s : Shared) (H : Hp) (E : XK), Room k (A.deeper (LamX.lamEnv X scope s.heap.objs.size f cd)) → PE (LamX.lamCx X A outer s H E scope f cd) body (t E)) ∧
    TT (fun E H' Q' => LamAt X params body scope f dV doc pm cd ctv H' ∧ t E σ0 H' Q') H Q
/-- x(av), in a comprehension's block that started at (s0, H0) -/
theorem pe_keptcall {H0 : Hp} {s0 : Shared} {TT : (XK → Hp → VK → Prop) → Hp → VK → Prop} {x a av : Str} {ia g : Nat} {k : Nat} {pg : Arguments} {bg : List Stmt} {sg : Scope} {dV kV doc pm cdv ct oc : Value} {an od : Option Addr} {osl : Array (Option Value)} {Ng : List Str} {bsc : Scope} {cenv : _root_.PySem.Env} {p p' pos : Pos}
    (I : Inv X pins σ H0 s0) (off : Off X fp) (hg : Gl (X.blk s0 H0 bsc cenv fp) x) (hm : X.mg x = some (.ref g)) (hk : PySem.W.keepIn X.K (.ref g) = true)
    (lk : X.K.lookup g = some ⟨oc, od, .func (PySem.W.fnOf x x pg bg sg dV kV doc pm an cdv ct), osl⟩) (hcg : PySem.W.codeIn X.K cdv x = true) (hb : L2.Binds X.K (PySem.W.fnOf x x pg bg sg dV kV doc pm an cdv ct) [a] []) (Sg : FnScope Ng [a] sg) (hNg : Ng[0]? = some a) (hva : Vis sg a)
    (hG : LamX.GivesTo X Ng x sg g cdv bg a (lamNm X) TT) (hr : Room (k + 2) X.A) (hai : X.N[ia]? = some av) (hav : Vis cenv.scope av)
    (hdb : (x == ("__debug__" : Str)) = false := by decide) (hd : (a == ("__debug__" : Str)) = false := by decide) (hcd : (a == ("__classdict__" : Str)) = false := by decide) (hd2 : (av == ("__debug__" : Str)) = false := by decide) (hcd2 : (av == ("__classdict__" : Str)) = false := by decide)
    (hst : starEach [.Name av p'] cenv = (false, eval (.Name av p') cenv) :: starEach [] cenv := by rfl) :
    PE (X.blk s0 H0 bsc cenv fp) (.Call (.Name x p) [.Name av p'] [] pos) (tKept X k TT ia σ) := by
  refine ⟨fun pinsB s σB H Q J ⟨params, body, scope, as, f, dVl, docl, pml, cd, ctv, t, at_, hl, K, B, hbody, h⟩ => ?_⟩
  refine wpAny_Call_Name_kw (ld_glob J hg hm ?_ hdb)
  refine PySem.W.callWith_K (h₀ := X.base) J.ok.mod.kin hk ?_ hst (by rfl)
  rw [hst]
  show wpAny _ _ (spliced ((false, eval (.Name av p') cenv) :: backTo pos (starEach [] cenv))) _ _ s
  have nm := (pe_var (X := X.blk s0 H0 bsc cenv fp) (pos := p') (i := ia) hai hav hd2 hcd2).run pinsB s σB H (fun v G => v = .ref f ∧ G = H) J ⟨.ref f, at_, rfl, rfl⟩
  refine Calls.spliced_cons (thn nm fun u s1 ⟨v, G, J1, r1, ev, eG⟩ => ?_)
  subst ev
  subst eG
  obtain rfl : u = Value.ref f := r1
  refine Calls.spliced_nil ⟨J1.kIn, ?_⟩
  have un : Un (frs X.stack) fp H0 G s0.heap s1.heap := J1.base
  have rc : codeAny (model X.prog X.w) X.A (.call (.ref g) ⟨[.ref f], []⟩) (CR C8.CX0 X.stack X.prog X.w G s1 Q C8.E0) s1 := by
    refine LamX.run_ofS (N := Ng) (ps := [a]) (us := [.ref f]) (vs := [.ref f]) lk hcg Sg hr J1.env0 (hb s1 [.ref f] J1.kIn rfl) (.cons rfl .nil) rfl fun hr2 => ?_
    obtain ⟨t2, ht2, hq2⟩ := hG f cd s1 G Q _ (fun W pn xe E p1 p2 tk hW => kept_act (i := 0) I off un K B tk hW hr2 (fun A outer s H hr3 => hbody A outer s H E hr3) hNg hva hd hcd) hl.co h
    exact ⟨t2, ht2.nox, hq2⟩
  refine wpAny_call (codeAny_mono rc fun r s2 q => ?_)
  cases r with
  | error e => exact (show False from q).elim
  | ok fl =>
    cases fl with
    | ret u => exact J1.after q
    | next => exact q.elim
    | brk => exact q.elim
    | cont => exact q.elim
end
end L3

namespace L3
open PySem PySem.Spec PyProof.Rows L2
/-! ### a comprehension whose element may lean on the maker's own state -/
section
variable {X : Cx}
theorem pe_lcI {elt tg iter : Expr} {scope : Scope} {own : List (Str × Nat)} {pos : Pos} {wi : TI} {g : TG} {te : L2.St → TE} (hc : X.calm = true) (hN : X.N.Nodup) (hi : PI X tg iter wi) (ok : BlkOk X.N X.env.scope scope own)
    (hg : ∀ (s : Shared) (H : Hp) (C : Addr) (cl : List (Str × Addr)) (fp : List Addr), PG (X.blk s H scope (compEnvC scope cl C X.env) fp) tg g)
    (he : ∀ (pins : List (Addr × Obj)) (σ : L2.St) (s : Shared) (H : Hp) (C : Addr) (cl : List (Str × Addr)) (fp : List Addr), Inv X pins σ H s → Off X fp → PE (X.blk s H scope (compEnvC scope cl C X.env) fp) elt (te σ))
    (hs : ∀ x, foldedSetIterable iter X.env x = pure x := by intro _; rfl) :
    PE X (.ListComp elt [⟨tg, iter, [], 0⟩] scope pos) (fun σ H Q => tLc wi g tYes (te σ) (own.map (·.2)) σ H Q) := by
  refine ⟨fun pins s σ H Q I asks => ?_⟩
  rw [eval_ListComp]
  have caught : ∀ y ∈ scope.names, y.2 = .free → ∃ c, X.env.cells.lookup y.1 = some c := fun y hy e => I.ok.has _ (ok.free y hy e)
  refine wpAny_comprehension_free (use := none) rfl hs (closure_ok caught) ok.kind (fun y hy e => (ok.uniq y hy).trans (congrArg some e)) (thn (hi.run pins s σ H _ I asks) fun xv sa ha => thn ha fun itv sb hb => ?_)
  obtain ⟨it, fp, tn, J, Hb, rfl, Ib, Tn, tnb, okb, goes⟩ := hb
  refine wpAny_newObj_type (newEnv_comp ?_) (by show 0 ≤ sizeLine; decide)
  have noD : Hb sb.heap.objs.size = none := Ib.hok.fresh (Nat.le_refl _)
  obtain ⟨W, ⟨m0, w0⟩, turn⟩ := goes _ noD
  -- the new list, laid
  have laid : Inv X pins σ (upd Hb sb.heap.objs.size (.lst [])) { sb with heap := sb.heap.push { cls := .type "list", data := .seq ([] : List Value).toArray } } :=
    Ib.laid (t' := sb.toks) (fun b o e => Heap.get?_push_of_some _ e) (Nat.le_refl _) ⟨Nat.zero_le _, [], 0, .nil, Heap.get?_push_size _ rfl⟩
  have kc : ∀ b o, sb.heap.get? b = some o → ({ sb with heap := sb.heap.push { cls := .type "list", data := .seq ([] : List Value).toArray } } : Shared).heap.get? b = some o := fun b o e => Heap.get?_push_of_some _ e
  have lc : sb.heap.objs.size < ({ sb with heap := sb.heap.push { cls := .type "list", data := .seq ([] : List Value).toArray } } : Shared).heap.objs.size := by
    show _ < (sb.heap.push _).objs.size
    rw [Heap.size_push]
    exact Nat.lt_succ_self _
  generalize eS : ({ sb with heap := sb.heap.push { cls := .type "list", data := .seq ([] : List Value).toArray } } : Shared) = sc at laid kc lc ⊢
  show codeAny (model X.prog X.w) X.A (.compStart (.ListComp elt [⟨tg, iter, [], 0⟩] scope pos) 0 (.ref it) (.ref sb.heap.objs.size) (compEnvC scope (cellsFrom (sc.heap.objs.size + 1) scope.names (cloFrom X.env.cells scope.names [])) sc.heap.objs.size X.env))
    (compPost (model X.prog X.w) X.A X.xe none _ (.ref sb.heap.objs.size) sc.heap.objs.size) { sc with heap := pushCells (sc.heap.push { cls := .type "dict", data := .dict #[] }) scope.names }
  have lows : ∀ b ∈ fp, b < sb.heap.objs.size := fun b hb => let ⟨_, e, _⟩ := Tn.obj _ _ tnb b hb; Heap.lt_size e
  generalize eD : sb.heap.objs.size = D at noD w0 turn laid lc lows ⊢
  generalize eG : upd Hb D (.lst []) = G at laid w0
  have okc : ∀ b ∈ fp, FpOk X pins G b ∧ b < sc.heap.objs.size := fun b hb =>
    ⟨⟨by rw [← eG, upd_ne (Nat.ne_of_lt (lows b hb))]; exact (okb b hb).1, (okb b hb).2⟩, Nat.lt_trans (lows b hb) lc⟩
  have off : Off X fp := fun b hb y c e => (okc b hb).1.2.2.2.2.1 y c e
  have tnc : tn 0 sc.heap := Tn.keep _ _ _ tnb fun b _ o e => kc b o e
  have start := block_start laid ok hN okc
  have pg := hg sc G sc.heap.objs.size (cellsFrom (sc.heap.objs.size + 1) scope.names (cloFrom X.env.cells scope.names [])) fp
  have pe := he pins σ sc G sc.heap.objs.size (cellsFrom (sc.heap.objs.size + 1) scope.names (cloFrom X.env.cells scope.names [])) fp laid off
  have own_ : (compEnvC scope (cellsFrom (sc.heap.objs.size + 1) scope.names (cloFrom X.env.cells scope.names [])) sc.heap.objs.size X.env).locals = sc.heap.objs.size := rfl
  generalize eE : compEnvC scope (cellsFrom (sc.heap.objs.size + 1) scope.names (cloFrom X.env.cells scope.names [])) sc.heap.objs.size X.env = en at start pg pe own_ ⊢
  have kd : ∀ b o, sc.heap.get? b = some o → ({ sc with heap := pushCells (sc.heap.push { cls := .type "dict", data := .dict #[] }) scope.names } : Shared).heap.get? b = some o := fun b o e => pushCells_keeps _ _ _ _ (Heap.get?_push_of_some _ e)
  generalize eT : ({ sc with heap := pushCells (sc.heap.push { cls := .type "dict", data := .dict #[] }) scope.names } : Shared) = sd at start kd ⊢
  have tnd : tn 0 sd.heap := Tn.keep _ _ _ tnc fun b _ o e => kd b o e
  have still : ∀ {τ : L2.St} {K : Hp} {s' : Shared}, Inv (X.blk sc G scope en fp) [] τ K s' → (∀ b ∈ fp, K b = none) → ∀ b ∈ fp, FpOk (X.blk sc G scope en fp) [] K b := fun {τ K s'} Z n b hb =>
    ⟨n b hb, (Z.ok.exf b hb).1, Z.ok.exfs b hb, .inl hb, fun x c e => (Z.ok.exf b hb).2 x c e, fun p hp => absurd (show p ∈ ([] : List (Addr × Obj)) ++ [] from hp) (by simp)⟩
  have loop : codeAny (model X.prog X.w) X.A (.compLoop (.ListComp elt [⟨tg, iter, [], 0⟩] scope pos) 0 (.ref it) (.ref D) en) (compPost (model X.prog X.w) X.A X.xe none (EP X pins σ Q) (.ref D) sc.heap.objs.size) sd := by
    refine compLoop_any (fun n z => ∃ i K, Inv (X.blk sc G scope en fp) [] (wipe σ (own.map (·.2))) K z ∧ tn i z.heap ∧ (∀ b ∈ fp, K b = none) ∧ W i n K) ?_ m0 ⟨0, G, start, tnd, fun b hb => (okc b hb).1.1, w0⟩
    rintro n se ⟨i, K, Ie, tne, ne, we⟩
    rcases turn i n K we with ⟨stop, wish⟩ | ⟨go, Nx, further, one⟩
    · refine thnF (Tn.done (X.blk sc G scope en fp) rfl rfl rfl hc i [] se _ K (fun _ _ => False) Ie (still Ie ne) tne stop) fun r sf ⟨er, If⟩ => ?_
      subst er
      have back : Inv X pins σ K sf := laid.call' (ch := fp) If.os If.base If.hok If.bare fun b hb => ⟨(okc b hb).1.2.2.2.1, (okc b hb).1.2.1, (okc b hb).1.2.2.2.2.1, (okc b hb).1.2.2.2.2.2⟩
      have nC : K sc.heap.objs.size = none := own_ ▸ (show K en.locals = none from If.free)
      obtain ⟨m, ns, _⟩ := If.loc
      obtain ⟨f0, f1, f2, f3, f4, f5⟩ := laid.fpOk (Nat.le_refl _) nC
      exact ⟨m, own_ ▸ (show sf.heap.Ns en.locals m from ns), fun h2 sb2 => ⟨.ref D, K, back.turned (t' := sf.toks) (fun b o hb e => (sb2.2 b hb).trans e) f0 f1 f3 f4 f5, rfl, wish⟩⟩
    · refine thnF (Tn.item (X.blk sc G scope en fp) rfl rfl rfl hc i [] se _ K (fun _ _ => False) Ie (still Ie ne) tne go) fun r sf ⟨u, er, hf⟩ => ?_
      subst er
      refine thnF hf fun _ sg ⟨x, Kg, Ig, rg, yg, tng, ng⟩ => ?_
      refine thnF (pg.run _ sg _ Kg x u _ (Ig.pinned (still Ig ng) (Tn.obj _ _ tng)) rg (one x Kg yg)) fun _ sh ⟨τ, Kh, Ih, eh, qh⟩ => ?_
      refine wpAny_tests_nil ?_
      show wpAny _ _ _ _ _ sh
      have qh : te σ τ Kh (fun y H4 => ∃ acc, H4 D = some (.lst acc) ∧ acc.length < sizeLine ∧ Nx (upd H4 D (.lst (acc ++ [y])))) := qh
      refine thnF (pe.run _ sh τ Kh _ Ih qh) fun z si ⟨y, Ki, Ii, ri, acc, at_, few, nx⟩ => ?_
      refine app_ok (X := X.blk sc G scope en fp) Ii at_ few ri fun sj Ij => ?_
      obtain ⟨m2, lt2, w2⟩ := further _ nx
      have pinned_ : ∀ b ∈ fp, ∀ o, sg.heap.get? b = some o → sj.heap.get? b = some o ∧ (upd Ki D (.lst (acc ++ [y]))) b = none := fun b hb o e =>
        let q := Ij.pin (b, o) (List.mem_append_right _ (List.mem_append_right _ (mem_pinsAt hb e)))
        ⟨q.1, q.2.1⟩
      refine ⟨m2, lt2, i + 1, _, (Ij.unpinned (pins := [])).weak (by rw [← eh, wipe_length]) (fun j v e => ?_), Tn.keep _ _ _ tng fun b hb o e => (pinned_ b hb o e).1, fun b hb => ?_, w2⟩
      · rw [← eh] at e
        exact (wipe_some e).1
      · obtain ⟨o, e, _⟩ := Tn.obj _ _ tng b hb
        exact (pinned_ b hb o e).2
  exact codeAny_compStart_list loop (Tn.self X.A 0 _ _ _ tnd loop)
end
end L3

namespace L3
open PySem PySem.Spec PyProof.Rows L2
/-! ### asks = [lambda: .., lambda a=0: .., ..]; if [x(ask) for ask in asks] != e: .. -/
/-- what the asking def makes of f, by its reading -/
theorem asked_of {P : Pm} {K : PySem.W.Frag} {cl : Str → Addr} {hs : List (List Str × Shape)} {pick : Str → Option Shape} {fb : SE} {σ : L2.St} {H1 : Hp} {L : Lv} {ρ : Env} {μ : Sto} {E : XK} {Q : VK} {Z : Hp → Prop}
    (hx : ∀ n C sh, P.cls n = some C → pick n = some sh → XfC K C ∧ (∀ f ∈ sh.flds, PySem.W.findIn K (.ref C) f = some none) ∧ pickS K cl (.ref C) hs = some sh)
    (rs : RelS P H1 L σ ρ) (st : St3 P H1 L μ) (z : Z H1) (q1 : Post P E L H1 (fun d L' H' => ∀ v, Rep P H' L' v d → Q v H') (eAsked pick fb ρ μ)) :
    TAsked K cl hs (fun E H' Q' => Z H' ∧ tV P (fun cls d _ H => E cls d H) fb σ H' Q') H1 Q := by
  refine ⟨z, L, ρ, μ, rs, st, ?_⟩
  unfold eAsked at q1
  cases e : fb ρ μ with
  | bad => rw [e] at q1; exact q1
  | ok d μ1 =>
    rw [e] at q1
    intro L2 H2 x2 s2 v rv
    refine ⟨by rw [sizeLine_eq]; simp, fun p hp => ?_⟩
    exact q1 _ _ (x2.trans (Ext.grow s2 (upd_grow hp))) (s2.grow (upd_grow hp)) _ (new_tup s2 hp (.cons (.str _) (.cons rv .nil)))
  | exc cn ns vs μ1 =>
    rw [e] at q1
    have q1 : Post P E L H1 (fun d L' H' => ∀ v, Rep P H' L' v d → Q v H') (match (pick cn).bind fun sh => sh.told ns vs with
      | some d => .ok d μ1
      | none => .bad) := q1
    cases ep : pick cn with
    | none => rw [ep] at q1; exact q1.elim
    | some sh =>
      rw [ep, Option.bind_some] at q1
      intro C dx L2 H2 hcl x2 s2 ⟨ws, at_, hl, rw'⟩
      obtain ⟨h1, h2, h3⟩ := hx cn C sh hcl ep
      refine ⟨C, dx, _, sh, rfl, rfl, at_, h1, h3, h2, ?_⟩
      cases sh with
      | w =>
        have q1 : Post P E L H1 (fun d L' H' => ∀ v, Rep P H' L' v d → Q v H') (match (lookD "word" ns vs).map fun d => D.tup [.str "no", d] with
          | some d => .ok d μ1
          | none => .bad) := q1
        cases el : lookD "word" ns vs with
        | none => rw [el] at q1; exact q1.elim
        | some d =>
          rw [el] at q1
          obtain ⟨v, lv, rv⟩ := look_rep rw' hl el
          exact ⟨v, lv, fun p hp => q1 _ _ (x2.trans (Ext.grow s2 (upd_grow hp))) (s2.grow (upd_grow hp)) _ (new_tup s2 hp (.cons (.str _) (.cons rv .nil)))⟩
      | f n =>
        have q1 : Post P E L H1 (fun d L' H' => ∀ v, Rep P H' L' v d → Q v H') (match (lookD "word" ns vs).bind fun d => (lookD n ns vs).map fun e => D.tup [.str "no", d, e] with
          | some d => .ok d μ1
          | none => .bad) := q1
        cases el : lookD "word" ns vs with
        | none => rw [el] at q1; exact q1.elim
        | some d =>
          rw [el, Option.bind_some] at q1
          cases em : lookD n ns vs with
          | none => rw [em] at q1; exact q1.elim
          | some d2 =>
            rw [em] at q1
            obtain ⟨v, lv, rv⟩ := look_rep rw' hl el
            obtain ⟨u, lu, ru⟩ := look_rep rw' hl em
            exact ⟨v, u, lv, lu, fun p hp => q1 _ _ (x2.trans (Ext.grow s2 (upd_grow hp))) (s2.grow (upd_grow hp)) _ (new_tup s2 hp (.cons (.str _) (.cons rv (.cons ru .nil))))⟩
      | g n m =>
        have q1 : Post P E L H1 (fun d L' H' => ∀ v, Rep P H' L' v d → Q v H') (match (lookD "word" ns vs).bind fun d => (lookD n ns vs).bind fun e => (lookD m ns vs).map fun f => D.tup [.str "no", d, .tup [e, f]] with
          | some d => .ok d μ1
          | none => .bad) := q1
        cases el : lookD "word" ns vs with
        | none => rw [el] at q1; exact q1.elim
        | some d =>
          rw [el, Option.bind_some] at q1
          cases em : lookD n ns vs with
          | none => rw [em] at q1; exact q1.elim
          | some d2 =>
            rw [em, Option.bind_some] at q1
            cases en : lookD m ns vs with
            | none => rw [en] at q1; exact q1.elim
            | some d3 =>
              rw [en] at q1
              obtain ⟨v, lv, rv⟩ := look_rep rw' hl el
              obtain ⟨u, lu, ru⟩ := look_rep rw' hl em
              obtain ⟨w, lw, rw2⟩ := look_rep rw' hl en
              refine ⟨v, u, w, lv, lu, lw, fun q' hq p hp => ?_⟩
              have x3 := Ext.grow (P := P) s2 (upd_grow (o := .tup [u, w]) hq)
              have s3 := s2.grow (upd_grow (o := .tup [u, w]) hq)
              have rt := new_tup s2 hq (.cons ru (.cons rw2 .nil))
              exact q1 _ _ ((x2.trans x3).trans (Ext.grow s3 (upd_grow hp))) (s3.grow (upd_grow hp)) _ (new_tup s3 hp (.cons (.str _) (.cons (rv.ext x3) (.cons rt .nil))))
/-! what is kept -/
section
variable {P : Pm} {X : Cx} {k : Nat} {H H1 : Hp} {L L1 : Lv} {μ : Sto}
theorem St3.mutk (s : St3 P H L μ) {a : Addr} (h : L.has a) : (∃ vs, H a = some (.lst vs)) ∨ (∃ kv, H a = some (.dK kv)) ∨ (∃ C dx fs, H a = some (.ins C dx fs)) := by
  rcases h with h | h
  · obtain ⟨i, hi⟩ := List.getElem?_of_mem h
    have li : i < μ.length := by rw [← s.len]; exact (List.getElem?_eq_some_iff.mp hi).1
    obtain ⟨m, hm⟩ : ∃ m, μ[i]? = some m := ⟨_, List.getElem?_eq_getElem li⟩
    have r := s.at_ i a m hi hm
    cases r with
    | lst e _ => exact .inl ⟨_, e⟩
    | dct e _ _ => exact .inr (.inl ⟨_, e⟩)
    | ins e _ _ _ => exact .inr (.inr ⟨_, _, _, e⟩)
  · exact .inl (s.dis a h).2
theorem St3.notext (s : St3 P H L μ) {a : Addr} {φ : Heap → Prop} (e : H a = some (.ext φ)) : ¬ L.has a := fun h => by
  rcases s.mutk h with ⟨_, z⟩ | ⟨_, z⟩ | ⟨_, _, _, z⟩ <;> (rw [e] at z; cases z)
theorem St3.nottup (s : St3 P H L μ) {a : Addr} {vs : List V} (e : H a = some (.tup vs)) : ¬ L.has a := fun h => by
  rcases s.mutk h with ⟨_, z⟩ | ⟨_, z⟩ | ⟨_, _, _, z⟩ <;> (rw [e] at z; cases z)
theorem LamAt.ext0 {params : Arguments} {body : Expr} {scope : Scope} {f : Addr} {dV doc pm : Value} {cd : Addr} {ctv : Value} (s : St3 P H L μ) (x : Ext0 L H L1 H1) (a : LamAt X params body scope f dV doc pm cd ctv H) : LamAt X params body scope f dV doc pm cd ctv H1 := by
  refine ⟨x.keep _ _ a.fn LamO.ne (s.notext a.fn), x.keep _ _ a.co LamX.codeO_ne (s.notext a.co), ?_⟩
  rcases a.df with z | ⟨z, t, h1, h2⟩
  · exact .inl z
  · exact .inr ⟨z, t, h1, x.keep _ _ h2 (fun ps q => nomatch q) (s.nottup h2)⟩
/-- the thing v is a kept lambda that is worth fb -/
inductive Kept (P : Pm) (X : Cx) (k : Nat) (H : Hp) : V → SE → Prop
  | mk {params : Arguments} {body : Expr} {scope : Scope} {as : List Str} {f : Addr} {dV doc pm : Value} {cd : Addr} {ctv : Value} {fb : SE} (at_ : LamAt X params body scope f dV doc pm cd ctv H) (K : LamK X.N X.env.scope scope as) (B : LamBind params body scope as)
    (hb : ∀ (A : Around) (outer : List _root_.PySem.Env) (s : Shared) (H : Hp) (E : XK), Room k (A.deeper (LamX.lamEnv X scope s.heap.objs.size f cd)) → VE P (fun cls d _ H => E cls d H) (LamX.lamCx X A outer s H E scope f cd) body fb) : Kept P X k H (.ref f) fb
inductive Kepts (P : Pm) (X : Cx) (k : Nat) (H : Hp) : List V → List SE → Prop
  | nil : Kepts P X k H [] []
  | cons {v : V} {fb : SE} {vs : List V} {fs : List SE} (h : Kept P X k H v fb) (r : Kepts P X k H vs fs) : Kepts P X k H (v :: vs) (fb :: fs)
theorem Kepts.ext {vs : List V} {fs : List SE} (a : Kepts P X k H vs fs) (e : LamX.ExtN H H1) : Kepts P X k H1 vs fs := by
  induction a with
  | nil => exact .nil
  | cons h r ih => exact .cons (match h with | .mk a K B hb => .mk (a.ext e) K B hb) ih
theorem Kepts.ext0 {vs : List V} {fs : List SE} (s : St3 P H L μ) (x : Ext0 L H L1 H1) (a : Kepts P X k H vs fs) : Kepts P X k H1 vs fs := by
  induction a with
  | nil => exact .nil
  | cons h r ih => exact .cons (match h with | .mk a K B hb => .mk (a.ext0 s x) K B hb) ih
theorem Kepts.length {vs : List V} {fs : List SE} (a : Kepts P X k H vs fs) : vs.length = fs.length := by
  induction a with
  | nil => rfl
  | cons _ _ ih => simp [ih]
theorem Kepts.get {vs : List V} {fs : List SE} (a : Kepts P X k H vs fs) {i : Nat} {v : V} (e : vs[i]? = some v) : ∃ fb, fs[i]? = some fb ∧ Kept P X k H v fb := by
  induction a generalizing i with
  | nil => simp at e
  | cons h r ih =>
    cases i with
    | zero => simp at e; subst e; exact ⟨_, rfl, h⟩
    | succ j => exact ih (by simpa using e)
/-- the written lambdas -/
inductive Lams (P : Pm) (X : Cx) (k : Nat) : List Expr → List SE → Prop
  | nil : Lams P X k [] []
  | cons {params : Arguments} {body : Expr} {scope : Scope} {lpos : Pos} {as : List Str} {fb : SE} {es : List Expr} {fs : List SE} (hz : Zeros params.defaults) (hk : params.kw_defaults = []) (hl : params.defaults.length ≤ 100) (K : LamK X.N X.env.scope scope as) (B : LamBind params body scope as)
    (hb : ∀ (A : Around) (outer : List _root_.PySem.Env) (s : Shared) (H : Hp) (E : XK) (f cd : Addr), Room k (A.deeper (LamX.lamEnv X scope s.heap.objs.size f cd)) → VE P (fun cls d _ H => E cls d H) (LamX.lamCx X A outer s H E scope f cd) body fb) (r : Lams P X k es fs) :
    Lams P X k (.Lambda params body scope lpos :: es) (fb :: fs)
theorem Lams.length {es : List Expr} {fs : List SE} (a : Lams P X k es fs) : es.length = fs.length := by
  induction a with
  | nil => rfl
  | cons _ _ _ _ _ _ _ ih => simp [ih]
def tLams (P : Pm) (X : Cx) (k : Nat) (fs : List SE) : TA := fun _ H Q => LamX.Tabs P.T H ∧ ∀ (vs : List V) (H1 : Hp), LamX.ExtN H H1 → LamX.Tabs P.T H1 → Kepts P X k H1 vs fs → Q vs H1
theorem pa_lams {c Pt : Addr} (TB : LamX.TabB X.base X.mg c Pt) (hcode : X.env.code = .ref c) (hm : (Pt, lamNm X) ∈ P.T) (hu : ∀ p ∈ P.T, p.1 = Pt → p.2 = lamNm X) {es : List Expr} {fs : List SE} (a : Lams P X k es fs) : PA X es (tLams P X k fs) := by
  induction a with
  | nil => exact pa_nil.imp3 fun σ H Q ⟨t, h⟩ => h [] H (.refl H) t .nil
  | cons hz hk hl K B hb r ih =>
    refine (pa_cons (pe_lam2 TB hcode hm hu K.free hz hk hl) ih).imp3 fun σ H Q ⟨t, h⟩ => ?_
    exact ⟨t, fun f dV doc pm cd ctv H1 e1 t1 _ at1 => ⟨t1, fun vs H2 e2 t2 kv => h _ H2 (e1.trans e2) t2 (.cons (.mk (at1.ext e2) K B fun A outer s H E hr => hb A outer s H E f cd hr) kv)⟩⟩
end
/-! the asking -/
def asksS (pick : Str → Option Shape) (ρ : Env) : List SE → Sto → R (List D)
  | [], μ => .ok [] μ
  | f :: fs, μ => (eAsked pick f ρ μ).nox.bind fun d μ1 => (asksS pick ρ fs μ1).nox.bind fun ds μ2 => .ok (d :: ds) μ2
def eAsks (pick : Str → Option Shape) (fs : List SE) : SE := fun ρ μ => if fs.length ≤ 100 then (asksS pick ρ fs μ).nox.bind fun ds μ1 => .ok (.lst ds) μ1 else .bad
theorem _root_.L2.PE.len3 {X : Cx} {e : Expr} {t : TE} (h : PE X e t) : PE X e (fun σ H Q => σ.length = X.N.length → t σ H Q) := ⟨fun pins s σ H Q I q => h.run pins s σ H Q I (q I.len)⟩
section
variable {P : Pm} {W : WX} {X : Cx} {k : Nat}
theorem R.nox_of {α : Type} {r : R α} {a : α} {μ : Sto} (h : r.nox = .ok a μ) : r = .ok a μ := by
  cases r with
  | ok _ _ => exact h
  | exc _ _ _ _ => cases h
  | bad => cases h
theorem R.bind_of {α β : Type} {r : R α} {f : α → Sto → R β} {b : β} {μ : Sto} (h : r.bind f = .ok b μ) : ∃ a μ1, r = .ok a μ1 ∧ f a μ1 = .ok b μ := by
  cases r with
  | ok a μ1 => exact ⟨a, μ1, rfl, h⟩
  | exc _ _ _ _ => cases h
  | bad => cases h
/-- how the state stands ahead of the asking -/
structure AskSt (P : Pm) (X : Cx) (k : Nat) (iy : Nat) (fs : List SE) (σ : L2.St) (H : Hp) (L : Lv) (ρ : Env) (μ : Sto) (a : Addr) (vs : List V) : Prop where
  rs : RelS P H L σ ρ
  st : St3 P H L μ
  at_ : σ[iy]? = some (some (.ref a))
  ls : H a = some (.lst vs)
  no : ¬ L.has a
  kp : Kepts P X k H vs fs
theorem pe_asks {cl : Str → Addr} {hs : List (List Str × Shape)} {pick : Str → Option Shape} {x a ev y av : Str} {iy ia : Nat} {g : Addr} {pg : Arguments} {bg : List Stmt} {sg : Scope} {fdg : FuncData} {bsc : Scope} {fs : List SE} {hds : List ExceptHandler} {j1 t1 : Nat} {p1 p2 p3 p4 p5 p20 q1 q2 q3 q4 q5 pos : Pos}
    (hK : P.K = X.K) (hm : X.mg x = some (.ref g)) (F : FunD X.K x x pg bg sg [] [] g fdg) (Sg : FnScope [a, ev] [a] sg) (loc : sg.names.lookup ev = some .local) (hva : Vis sg a)
    (hbind : ∀ (kV doc pm : Value) (an : Option Addr) (cdv ct : Value) (us : List Value), us.length = ([a] : List Str).length → bindArgs (PySem.W.fnOf x x pg bg sg .none kV doc pm an cdv ct) ⟨us, []⟩ = pure (([a] : List Str).zip us))
    (hne : hs ≠ []) (hA : AskH ev hds hs) (hC : ∀ q ∈ hs, q.1.length ≤ 100 ∧ ∀ x ∈ q.1, sg.names.lookup x = some .globalImplicit ∧ (x == ("__debug__" : Str)) = false ∧ X.mg x = some (.ref (cl x)))
    (hb : bg = [.Try [.Return (some (.Tuple [.Constant (.str "told") j1 p1, .Call (.Name a p2) [] [] p3] t1 p4)) p5] hds [] [] p20])
    (hx : ∀ n C sh, P.cls n = some C → pick n = some sh → XfC X.K C ∧ (∀ f ∈ sh.flds, PySem.W.findIn X.K (.ref C) f = some none) ∧ pickS X.K cl (.ref C) hs = some sh)
    (hr : Room (k + 2) X.A) (hc : X.calm = true) (hN : X.N.Nodup) (hiy : X.N[iy]? = some y) (hvy : Vis X.env.scope y) (hia : X.N[ia]? = some av) (ok : BlkOk X.N X.env.scope bsc [(av, ia)])
    (hgl : ∀ (s : Shared) (H : Hp) (C : Addr) (cl : List (Str × Addr)) (fp : List Addr), Gl (X.blk s H bsc (compEnvC bsc cl C X.env) fp) x)
    (hav : ∀ (C : Addr) (cl : List (Str × Addr)), Vis (compEnvC bsc cl C X.env).scope av) (hg : ∀ (s : Shared) (H : Hp) (C : Addr) (cl : List (Str × Addr)) (fp : List Addr), PG (X.blk s H bsc (compEnvC bsc cl C X.env) fp) (.Name av q4) (gName ia))
    (dv : (ev == ("__debug__" : Str)) = false := by decide) (cv : (ev == ("__classdict__" : Str)) = false := by decide) (hdb : (x == ("__debug__" : Str)) = false := by decide) (hda : (a == ("__debug__" : Str)) = false := by decide) (hca : (a == ("__classdict__" : Str)) = false := by decide)
    (dy : (y == ("__debug__" : Str)) = false := by decide) (cy : (y == ("__classdict__" : Str)) = false := by decide) (da : (av == ("__debug__" : Str)) = false := by decide) (ca : (av == ("__classdict__" : Str)) = false := by decide) :
    PE X (.ListComp (.Call (.Name x q1) [.Name av q2] [] q3) [⟨.Name av q4, .Name y q5, [], 0⟩] bsc pos)
      (fun σ H Q => ∃ L ρ μ b vs, AskSt P X k iy fs σ H L ρ μ b vs ∧ Post P (WE W σ) L H (fun d L' H' => ∀ v, Rep P H' L' v d → Q v H') (eAsks pick fs ρ μ)) := by
  obtain ⟨oc, od, dV, kV, doc, pm, an, cdv, ct, osl, e0, lk, hcg, hD, hKw⟩ := F.ex
  have hbs := F.bindsN hbind
  rcases hD with ⟨_, eD⟩ | ⟨z, _⟩
  case inr => exact absurd rfl z
  subst e0 eD
  have G := asked_gives (X := X) (x := x) (q := lamNm X) (sg := sg) (g := g) (cdg := cdv) Sg.nd loc hne hA hC dv cv hb
  have pc := pe_lcI (X := X) (elt := .Call (.Name x q1) [.Name av q2] [] q3) (tg := .Name av q4) (iter := .Name y q5) (scope := bsc) (own := [(av, ia)]) (pos := pos) (te := tKept X k (TAsked X.K cl hs) ia) hc hN (pi_list (pe_var (i := iy) hiy hvy dy cy)) ok hg
    fun pins σ s H C cl' fp I off => pe_keptcall (k := k) I off (hgl s H C cl' fp) hm F.kp lk hcg hbs Sg rfl hva G hr hia (hav C cl') hdb hda hca da ca
  refine pc.len3.imp3 fun σ H Q ⟨L, ρ, μ, b, vs, A, q⟩ lenN => ?_
  have iaN : ia < σ.length := by rw [lenN]; exact (List.getElem?_eq_some_iff.mp hia).1
  unfold eAsks at q
  by_cases few : fs.length ≤ 100
  case neg => rw [if_neg few] at q; exact q.elim
  rw [if_pos few] at q
  cases et : asksS pick ρ fs μ with
  | exc _ _ _ _ => rw [et] at q; exact q.elim
  | bad => rw [et] at q; exact q.elim
  | ok total μf =>
  rw [et] at q
  have q : Post P (WE W σ) L H (fun d L' H' => ∀ v, Rep P H' L' v d → Q v H') (.ok (.lst total) μf) := q
  have lens := A.kp.length
  refine ⟨.ref b, A.at_, b, rfl, ⟨vs, .inl (.inl A.ls)⟩, fun p hp => ?_⟩
  obtain ⟨s2, x2⟩ := prv_new A.st hp
  have np : p ∉ L.x := fun z => A.st.new_not hp (.inr z)
  have nbp : b ≠ p := fun z => by have := A.ls; rw [z, hp] at this; cases this
  have noL2 : ¬ (L.add p).has b := fun z => by
    rcases z with z | z
    · exact A.no (.inl z)
    · rcases List.mem_cons.mp (show b ∈ p :: L.x from z) with z | z
      · exact nbp z
      · exact A.no (.inr z)
  refine ⟨fun i m K => ∃ (c : List Addr) (acc : List V) (accD ys : List D) (μ' : Sto), AskSt P X k iy fs σ K ⟨c, p :: L.x⟩ ρ μ' b vs ∧ K p = some (.lst acc) ∧ Reps P K ⟨c, p :: L.x⟩ acc accD ∧ Ext0 L H ⟨c, p :: L.x⟩ K ∧ (∀ a ∈ L.x, K a = H a) ∧ accD.length = i ∧
      asksS pick ρ (fs.drop i) μ' = .ok ys μf ∧ accD ++ ys = total ∧ m = vs.length - i,
    ⟨_, L.c, [], [], total, μ, ⟨A.rs.ext0 x2, s2, A.at_, x2.keep _ _ A.ls (fun ps z => nomatch z) A.no, noL2, A.kp.ext0 A.st x2⟩, upd_same, .nil, x2, fun a h => upd_ne (fun z => by subst z; exact np h), rfl, et, rfl, rfl⟩, ?_⟩
  rintro i m K ⟨c, acc, accD, ys, μ3, B, kp3, ra3, x3, pv3, hl3, el3, ea3, rfl⟩
  have la := ra3.length
  cases e2 : vs[i]? with
  | none =>
    have big := List.getElem?_eq_none_iff.mp e2
    have e5 : fs.drop i = [] := List.drop_eq_nil_of_le (by omega)
    rw [e5] at el3
    cases el3
    rw [List.append_nil] at ea3
    subst ea3
    have en : LcEnd P L H c K p acc accD μf := ⟨hp, np, x3, pv3, B.st, kp3, ra3⟩
    obtain ⟨a1, a2, a3⟩ := en.pure
    exact .inl ⟨⟨vs, .inl (.inl B.ls), big⟩, q _ _ a1 a2 _ a3⟩
  | some v =>
    obtain ⟨fb, e6, kv⟩ := B.kp.get e2
    have lti : i < vs.length := (List.getElem?_eq_some_iff.mp e2).1
    rw [drop_some e6] at el3
    unfold asksS at el3
    obtain ⟨d, μ4, e7, el3⟩ := R.bind_of el3
    obtain ⟨zs, μ5, e8, el3⟩ := R.bind_of el3
    have e7 := R.nox_of e7
    have e8 := R.nox_of e8
    cases el3
    refine .inr ⟨⟨vs, v, .inl (.inl B.ls), e2⟩, fun K => ∃ (c : List Addr) (acc : List V) (accD ys : List D) (μ' : Sto), AskSt P X k iy fs σ K ⟨c, p :: L.x⟩ ρ μ' b vs ∧ K p = some (.lst acc) ∧ Reps P K ⟨c, p :: L.x⟩ acc accD ∧ Ext0 L H ⟨c, p :: L.x⟩ K ∧ (∀ a ∈ L.x, K a = H a) ∧ accD.length = i + 1 ∧
        asksS pick ρ (fs.drop (i + 1)) μ' = .ok ys μf ∧ accD ++ ys = total,
      fun K' ⟨c, acc, accD, ys, μ', a1, a2, a3, a4, a5, a6, a7, a8⟩ => ⟨vs.length - (i + 1), by omega, c, acc, accD, ys, μ', a1, a2, a3, a4, a5, a6, a7, a8, rfl⟩, ?_⟩
    rintro xx K' ⟨rfl, same⟩
    have exx := same vs (.inl (.inl B.ls))
    rw [e2] at exx
    cases exx
    refine ⟨?_, ?_⟩
    · show ((σ.set ia none).set ia (some v)).set ia none = σ.set ia none
      simp
    show tKept X k (TAsked X.K cl hs) ia σ ((σ.set ia none).set ia (some v)) K' fun z H4 => ∃ acc, H4 p = some (.lst acc) ∧ acc.length < sizeLine ∧ _
    cases kv with
    | mk at2 KK BB hb2 =>
      refine ⟨_, _, _, _, _, _, _, _, _, _, fun E => tV P (fun cls d _ H => E cls d H) fb, List.getElem?_set_self (by simpa using iaN), at2, KK, BB, hb2, ?_⟩
      refine asked_of (E := fun _ _ _ => False) (Z := fun H' => LamAt X _ _ _ _ _ _ _ _ _ H') hx B.rs B.st at2 ?_
      rw [e7]
      intro L7 H7 x7 s7 w rw7
      obtain ⟨c7, xx7⟩ := L7
      have ex : xx7 = p :: L.x := x7.px
      subst ex
      have hp7 : H7 p = some (.lst acc) := (x7.prv p List.mem_cons_self).trans kp3
      obtain ⟨s9, x9⟩ := prv_put (acc' := acc ++ [w]) s7 (p := p) List.mem_cons_self hp7
      have x79 : Ext0 ⟨c, p :: L.x⟩ K' ⟨c7, p :: L.x⟩ (upd H7 p (.lst (acc ++ [w]))) := x7.toExt0.trans x9
      refine ⟨acc, hp7, by rw [sizeLine_eq]; omega, c7, acc ++ [w], accD ++ [d], zs, μ4, ⟨B.rs.ext0 x79, s9, B.at_, ?_, ?_, B.kp.ext0 B.st x79⟩, upd_same, ((ra3.ext x7).append (.cons rw7 .nil)).ext0 x9, x3.trans x79, fun a h => ?_, by simp [hl3], e8, by rw [List.append_assoc]; exact ea3⟩
      · exact x79.keep _ _ B.ls (fun ps z => nomatch z) B.no
      · intro z
        rcases x79.new b z with z | z | ⟨ps, z⟩
        · exact B.no z
        · rw [B.ls] at z; cases z
        · rw [B.ls] at z; cases z
      · have ne : a ≠ p := fun z => by subst z; exact np h
        rw [upd_ne ne]
        exact (x7.prv a (List.mem_cons_of_mem _ h)).trans (pv3 a h)
end
end L3

namespace L3
open PySem PySem.Spec PyProof.Rows L2
/-! ### the two rows: asks = [lambda ..]; if [x(ask) for ask in asks] op e: .. -/
def sOut (i : Nat) : SS := fun ρ μ => .nx (ρ.set i none) μ
theorem R.bind_thn {α β : Type} {r : R α} {f : α → Sto → R β} {ρ : Env} {k : β → Sto → RS} : (r.bind f).thn ρ k = r.thn ρ fun a μ => (f a μ).thn ρ k := by
  cases r <;> rfl
theorem RelS.out {P : Pm} {H : Hp} {L : Lv} {σ : L2.St} {ρ : Env} {i : Nat} {v : V} (r : RelS P H L σ ρ) : RelS P H L (σ.set i (some v)) (ρ.set i none) := by
  refine ⟨by rw [List.length_set, List.length_set]; exact r.len, fun j d e => ?_⟩
  by_cases h : i = j
  · subst h
    by_cases hl : i < ρ.length
    · rw [List.getElem?_set_self hl] at e; cases e
    · rw [List.getElem?_eq_none (by simpa using hl)] at e; cases e
  · rw [List.getElem?_set_ne h] at e ⊢
    exact r.at_ j d e
theorem _root_.L2.PSs.len3 {X : Cx} {e : List Stmt} {t : TS} (h : PSs X e t) : PSs X e (fun D σ H => σ.length = X.N.length → t D σ H) := ⟨fun pins s σ H D I q => h.run pins s σ H D I (q I.len)⟩
section
variable {P : Pm} {W : WX} {X : Cx} {k : Nat}
theorem vss_asks {pick : Str → Option Shape} {y : Str} {iy : Nat} {C e2 : Expr} {es : List Expr} {fs : List SE} {f2 : SE} {c Pt : Addr} {op : CmpOp} {r : R2} {gg : D → D → Sto → R D} {body els rest : List Stmt} {fb fe fr : SS} {py lp ap cp ip : Pos}
    (TB : LamX.TabB X.base X.mg c Pt) (hcode : X.env.code = .ref c) (hmT : (Pt, lamNm X) ∈ P.T) (hu : ∀ p ∈ P.T, p.1 = Pt → p.2 = lamNm X) (a : Lams P X k es fs) (few : fs.length ≤ 100)
    (hN : X.N.Nodup) (hiy : X.N[iy]? = some y) (hly : Loc X.env.scope y) (hfy : X.fn y = true ∨ X.env.scope.names.lookup y = some .local)
    (hC : PE X C (fun σ H Q => ∃ L ρ μ b vs, AskSt P X k iy fs σ H L ρ μ b vs ∧ Post P (WE W σ) L H (fun d L' H' => ∀ v, Rep P H' L' v d → Q v H') (eAsks pick fs ρ μ)))
    (ho : OpR X (compareOp op) r) (hg : OpS P r gg) (h2 : VE P W X e2 f2) (hm : behindInMarks op e2 = false) (hb : VSs P W X body fb) (he : VSs P W X els fe) (hr : VSs P W X rest fr)
    (hs : swapsWith (.List es lp) (some (.Name y py)) ap.line X.env = pure false := by rfl) :
    VSs P W X (.Assign [.Name y py] (.List es lp) ap :: .If (.Compare C [op] [e2] cp) body els ip :: rest) (sSeq (sOut iy) (sSeq (sIf (eT (eB gg (eAsks pick fs) f2)) fb fe) fr)) := by
  have one := ps_set (pos := ap) (pos' := py) hN hiy hly (pe_lst (pos := lp) (pa_lams TB hcode hmT hu a)) hs hfy
  have two := ps_if (pos := ip) (pt_cmpR (pos := cp) ho hC h2 hm) hb he
  refine (pss_cons one (pss_cons two hr)).len3.imp3 fun D σ H ⟨L, ρ, μ, rs, st, q⟩ lenN => ?_
  have iyN : iy < σ.length := by rw [lenN]; exact (List.getElem?_eq_some_iff.mp hiy).1
  have q : PostS P W D L H (sSeq (sIf (eT (eB gg (eAsks pick fs) f2)) fb fe) fr (ρ.set iy none) μ) := q
  refine ⟨st.tab, fun vs H1 ex tb kv => ⟨by rw [kv.length]; exact line100 few, fun p hp => ?_⟩⟩
  have x1 : Ext P L H L H1 := ⟨⟨fun a o h t _ => ex a o h t, fun _ _ h => h, fun _ h => .inl h⟩, rfl, fun a h => by
    obtain ⟨vs, e⟩ := (st.dis a h).2
    rw [e]
    exact ex a _ e fun ps z => nomatch z⟩
  have s1 : St3 P H1 L μ := ⟨st.len, fun k a m h1 h2 => (st.at_ k a m h1 h2).ext0 (fun o e => ex a o e fun ps z => (st.at_ k a m h1 h2).notbl (z ▸ e)) x1.toExt0, st.nd, fun a h => ⟨(st.dis a h).1, let ⟨vs, e⟩ := (st.dis a h).2; ⟨vs, ex a _ e fun ps z => nomatch z⟩⟩, tb⟩
  have x2 : Ext P L H L (upd H1 p (.lst vs)) := x1.trans (Ext.grow s1 (upd_grow hp))
  have s2 : St3 P (upd H1 p (.lst vs)) L μ := s1.grow (upd_grow hp)
  have A : AskSt P X k iy fs (σ.set iy (some (.ref p))) (upd H1 p (.lst vs)) L (ρ.set iy none) μ p vs := ⟨(rs.ext x2).out, s2, List.getElem?_set_self iyN, upd_same, s1.new_not hp, kv.ext (.of (upd_grow hp))⟩
  have q := PostS.ext x2 q
  show tSeq _ _ D (σ.set iy (some (.ref p))) (upd H1 p (.lst vs))
  generalize σ.set iy (some (.ref p)) = τ at A ⊢
  generalize ρ.set iy none = ρ' at A q
  generalize upd H1 p (.lst vs) = G at A q ⊢
  -- the test, then either side
  have q3 : PostS P W { D with nx := fun σ' H' => tS P W fr D σ' H' } L G ((eT (eB gg (eAsks pick fs) f2) ρ' μ).thn ρ' fun c μ1 => if c = true then fb ρ' μ1 else fe ρ' μ1) := by
    unfold sSeq at q
    show PostS P W _ L G (sIf (eT (eB gg (eAsks pick fs) f2)) fb fe ρ' μ)
    cases e : sIf (eT (eB gg (eAsks pick fs) f2)) fb fe ρ' μ with
    | nx ρ1 μ1 => rw [e] at q; exact fun σ' L' H' x s' rs' => ⟨L', ρ1, μ1, rs', s', PostS.ext x q⟩
    | rt d μ1 => rw [e] at q; exact q
    | bk ρ1 μ1 => rw [e] at q; exact q
    | ct ρ1 μ1 => rw [e] at q; exact q
    | exc c ns vs ρ1 μ1 => rw [e] at q; exact q
    | bad => rw [e] at q; exact q
  unfold eT eB at q3
  rw [R.bind_thn, R.bind_thn] at q3
  refine ⟨L, ρ', μ, p, vs, A, ?_⟩
  cases e : eAsks pick fs ρ' μ with
  | bad => rw [e] at q3; exact q3
  | exc c ns vs μ1 => rw [e] at q3; exact fun C dx L' H' hc x s f => q3 τ C dx L' H' hc x s (A.rs.ext x) f
  | ok d μ1 =>
    rw [e] at q3
    intro L3 H3 x3 s3 v rv
    have q4 := PostS.ext x3 q3
    simp only [R.thn_ok] at q4
    rw [R.bind_thn] at q4
    refine tV.firstS (A.rs.ext x3) s3 q4 fun d2 μ2 v2 L4 H4 x4 s4 r4 rs4 q5 => ?_
    refine hg (WE W τ) L4 H4 μ2 v v2 d d2 _ s4 (rv.ext x4) r4 ?_
    cases eg : gg d d2 μ2 with
    | bad => rw [eg] at q5; exact q5
    | exc c ns vs μ3 => rw [eg] at q5; exact fun C dx L' H' hc x s f => q5 τ C dx L' H' hc x s (rs4.ext x) f
    | ok dd μ3 =>
      rw [eg] at q5
      intro L5 H5 x5 s5 w rw5
      have q6 := PostS.ext x5 q5
      cases rw5 with
      | bl b =>
        refine ⟨b, rfl, ?_⟩
        cases b with
        | true => exact ⟨L5, ρ', μ3, rs4.ext x5, s5, q6⟩
        | false => exact ⟨L5, ρ', μ3, rs4.ext x5, s5, q6⟩
      | _ => exact q6.elim
end
end L3

namespace L3
open PySem PySem.Spec PyProof.Rows L2
/-! ### kept lambdas: ready rules -/
def zeroB : Expr → Bool
  | .Constant (.int i) _ _ => i == 0
  | _ => false
theorem zeros_by {es : List Expr} (h : es.all zeroB = true) : Zeros es := fun e he => by
  have z := List.all_eq_true.mp h e he
  unfold zeroB at z
  split at z
  · rename_i i j p
    exact ⟨j, p, by rw [show i = 0 by simpa using z]⟩
  · cases z
def lamB (N : List Str) (sc : Scope) (params : Arguments) (scope : Scope) (as : List Str) : Bool :=
  params.defaults.all zeroB && params.kw_defaults.isEmpty && decide (params.defaults.length ≤ 100) && lamKB N sc scope as
theorem Lams.by {P : Pm} {X : Cx} {k : Nat} {params : Arguments} {body : Expr} {scope : Scope} {lpos : Pos} {as : List Str} {fb : SE} {es : List Expr} {fs : List SE} (h : lamB X.N X.env.scope params scope as = true) (B : LamBind params body scope as)
    (hb : ∀ (A : Around) (outer : List _root_.PySem.Env) (s : Shared) (H : Hp) (E : XK) (f cd : Addr), Room k (A.deeper (LamX.lamEnv X scope s.heap.objs.size f cd)) → VE P (fun cls d _ H => E cls d H) (LamX.lamCx X A outer s H E scope f cd) body fb) (r : Lams P X k es fs) :
    Lams P X k (.Lambda params body scope lpos :: es) (fb :: fs) := by
  unfold lamB at h
  simp only [Bool.and_eq_true, decide_eq_true_eq, List.isEmpty_iff] at h
  exact .cons (zeros_by h.1.1.1) h.1.1.2 h.1.2 (lamK_by h.2) B hb r
theorem LamBind.bare {params : Arguments} {body : Expr} {scope : Scope} (z : params.defaults = []) (h : ∀ (q : Str) (cl : List (Str × Addr)) (doc pm cv ctv : Value), bindArgs (PySem.W.kdv_fn "<lambda>" q params (.expr body) scope cl .none doc pm cv ctv) ⟨[], []⟩ = pure []) : LamBind params body scope [] :=
  ⟨fun _ => ⟨rfl, h⟩, fun n => absurd z n⟩
theorem LamBind.with {params : Arguments} {body : Expr} {scope : Scope} {as : List Str} (z : params.defaults.length = as.length) (n : as.isEmpty = false)
    (h : ∀ (q : Str) (cl : List (Str × Addr)) (t : Addr) (doc pm cv ctv : Value) (us : List Value), us.length = as.length → ∃ k, bindArgs (PySem.W.kdv_fn "<lambda>" q params (.expr body) scope cl (.ref t) doc pm cv ctv) ⟨[], []⟩ = seqItems? (.ref t) >>= k ∧ k (some us.toArray) = pure (as.zip us)) : LamBind params body scope as :=
  { b0 := fun e => by
      rw [e] at z
      cases as with
      | nil => cases n
      | cons _ _ => cases z
    b1 := fun _ q cl t doc pm cv ctv us e => h q cl t doc pm cv ctv us (e.trans z) }
/-! the walking rules -/
def asksA (pick : Str → Option Shape) : List SE → SA
  | [] => aNil
  | f :: fs => aCons (eAsked pick f) (asksA pick fs)
theorem eAsked_nox (pick : Str → Option Shape) (f : SE) (ρ : Env) (μ : Sto) : (eAsked pick f ρ μ).nox = eAsked pick f ρ μ := by
  unfold eAsked
  cases f ρ μ with
  | ok _ _ => rfl
  | bad => rfl
  | exc c ns vs μ1 => dsimp only; cases (pick c).bind fun sh => sh.told ns vs <;> rfl
theorem asks_same (pick : Str → Option Shape) (ρ : Env) : ∀ (fs : List SE) (μ : Sto), asksS pick ρ fs μ = asksA pick fs ρ μ ∧ (asksS pick ρ fs μ).nox = asksS pick ρ fs μ ∧ ∀ ds μ1, asksS pick ρ fs μ = .ok ds μ1 → ds.length = fs.length
  | [], μ => ⟨rfl, rfl, fun ds μ1 h => by cases h; rfl⟩
  | f :: fs, μ => by
    have e : asksS pick ρ (f :: fs) μ = (eAsked pick f ρ μ).bind fun d μ1 => (asksS pick ρ fs μ1).bind fun ds μ2 => .ok (d :: ds) μ2 := by
      have e0 : asksS pick ρ (f :: fs) μ = (eAsked pick f ρ μ).nox.bind fun d μ1 => (asksS pick ρ fs μ1).nox.bind fun ds μ2 => .ok (d :: ds) μ2 := rfl
      rw [e0, eAsked_nox]
      cases eAsked pick f ρ μ with
      | ok d μ1 => show (asksS pick ρ fs μ1).nox.bind _ = _; rw [(asks_same pick ρ fs μ1).2.1]; rfl
      | exc _ _ _ _ => rfl
      | bad => rfl
    have en := eAsked_nox pick f ρ μ
    refine ⟨?_, ?_, ?_⟩
    · rw [e]
      show _ = (eAsked pick f ρ μ).bind fun d μ1 => (asksA pick fs ρ μ1).bind fun ds μ2 => .ok (d :: ds) μ2
      cases eAsked pick f ρ μ with
      | ok d μ1 => show (asksS pick ρ fs μ1).bind _ = _; rw [(asks_same pick ρ fs μ1).1]; rfl
      | exc _ _ _ _ => rfl
      | bad => rfl
    · rw [e]
      cases h : eAsked pick f ρ μ with
      | ok d μ1 =>
        show ((asksS pick ρ fs μ1).bind _).nox = (asksS pick ρ fs μ1).bind _
        have z := (asks_same pick ρ fs μ1).2.1
        cases h2 : asksS pick ρ fs μ1 with
        | ok _ _ => rfl
        | exc _ _ _ _ => rw [h2] at z; cases z
        | bad => rfl
      | exc _ _ _ _ => rw [h] at en; cases en
      | bad => rfl
    · intro ds μ1 h
      rw [e] at h
      obtain ⟨d, μ2, _, h⟩ := R.bind_of h
      obtain ⟨ds2, μ3, h3, h⟩ := R.bind_of h
      cases h
      simp [(asks_same pick ρ fs μ2).2.2 _ _ h3]
theorem eAsks_eq (pick : Str → Option Shape) (fs : List SE) : eAsks pick fs = eLst (asksA pick fs) := by
  funext ρ μ
  obtain ⟨e1, e2, e3⟩ := asks_same pick ρ fs μ
  unfold eAsks eLst
  rw [e2, ← e1]
  cases h : asksS pick ρ fs μ with
  | ok ds μ1 =>
    rw [h] at e3
    have := e3 ds μ1 rfl
    by_cases c : fs.length ≤ 100
    · rw [if_pos c]; show _ = if _ then _ else _; rw [if_pos (by omega)]; rfl
    · rw [if_neg c]; show _ = if _ then _ else _; rw [if_neg (by omega)]
  | exc _ _ _ _ => rw [h] at e2; cases e2
  | bad => by_cases c : fs.length ≤ 100 <;> simp [c]
section
variable {pick : Str → Option Shape} {f : SE} {fs : List SE} {ρ : Env} {μ : Sto} {N : List D → Sto → Prop} {N1 : D → Sto → Prop} {E : Str → List Str → List D → Sto → Prop}
theorem wp_asks (h : (eLst (asksA pick fs) ρ μ).wp N1 E) : (eAsks pick fs ρ μ).wp N1 E := by rw [eAsks_eq]; exact h
theorem wp_asksC (h : (aCons (eAsked pick f) (asksA pick fs) ρ μ).wp N E) : (asksA pick (f :: fs) ρ μ).wp N E := h
theorem wp_asksN (h : (aNil ρ μ).wp N E) : (asksA pick [] ρ μ).wp N E := h
end
section
variable {ρ : Env} {μ : Sto} {N B C : Env → Sto → Prop} {T : D → Sto → Prop} {E : Str → List Str → List D → Sto → Prop} {i : Nat} {g : SS}
theorem wp_seqOut (h : (g (ρ.set i none) μ).wp N T B C E) : (sSeq (sOut i) g ρ μ).wp N T B C E := wp_sSeq h
end
end L3

namespace Pf
open PySem PySem.Spec PyProof.Rows L2 L3
noncomputable def b__law_bag__1 : SS := (sSeq (sSet 1 (eC (.int 9454)))
  (sSeq (sFor (iAnyD (eSl dSl3 (eVar 0) oNone (oSome (eC (.int 63))))) (gSet 2) (sSet 1 (eB dMod (eB dAdd (eB dAdd (eB dMul (eVar 1) (eC (.int 48611))) (eB dMod (eVar 2) (eC (.int 2147483629)))) (eC (.int 23))) (eC (.int 2147483647)))))
  (sRet (eLstC (aCons (eCallB (un dListOf) (aCons (eSl dSl3 (eVar 0) oNone (oSome (eC (.int 63)))) aNil)) (aCons (eC (.int 0)) (aCons (eC (.int 0)) (aCons (eVar 1) (aCons (eC (.int 0)) aNil)))))))))
@[irreducible] noncomputable def f__law_bag__1 : List D → Sto → R D := fnF 3 b__law_bag__1
noncomputable def b__law_pull : SS := (sSeq (sIf (eAndT (eT (eB dEq (eB dIx (eVar 0) (eC (.int 2))) (eC (.int 0)))) (eT (eB dLt (eB dIx (eVar 0) (eC (.int 1))) (eCallB (un dLen) (aCons (eB dIx (eVar 0) (eC (.int 0))) aNil))))) (sSeq (sSet 2 (eB dIx (eB dIx (eVar 0) (eC (.int 0))) (eB dIx (eVar 0) (eC (.int 1)))))
  (sSeq (sSub (eB dAdd (eB dIx (eVar 0) (eC (.int 1))) (eC (.int 1))) (eVar 0) (eC (.int 1)))
  (sIf (eT (eB dGe (eVar 2) (eB dPow (eC (.int 10)) (eC (.int 18))))) (sSub (eVar 2) (eVar 0) (eC (.int 2))) (sSub (eB dMod (eB dAdd (eB dAdd (eB dMul (eB dIx (eVar 0) (eC (.int 3))) (eC (.int 40283))) (eB dMod (eVar 2) (eC (.int 2147483587)))) (eC (.int 7))) (eC (.int 2147483647))) (eVar 0) (eC (.int 3)))))) sNil)
  (sSeq (sIf (eT (eB dGt (eB dIx (eVar 0) (eC (.int 2))) (eC (.int 0)))) (sSeq (sSet 3 (eB dMod (eB dIx (eVar 0) (eC (.int 2))) (eVar 1)))
  (sSeq (sSub (eB dFdiv (eB dIx (eVar 0) (eC (.int 2))) (eVar 1)) (eVar 0) (eC (.int 2)))
  (sRet (eVar 3)))) sNil)
  (sSeq (sSub (eB dAdd (eB dIx (eVar 0) (eC (.int 4))) (eC (.int 1))) (eVar 0) (eC (.int 4)))
  (sSeq (sSet 4 (eB dMod (eB dAdd (eB dIx (eVar 0) (eC (.int 3))) (eB dMul (eB dIx (eVar 0) (eC (.int 4))) (eC (.int 7211)))) (eC (.int 2147483647))))
  (sSeq (sSub (eB dMod (eB dAdd (eB dAdd (eB dMul (eB dMod (eB dMul (eVar 4) (eVar 4)) (eC (.int 2147483629))) (eB dAdd (eB dMod (eVar 4) (eC (.int 30011))) (eC (.int 5)))) (eB dMul (eC (.int 20011)) (eVar 4))) (eC (.int 977))) (eC (.int 2147483647))) (eVar 0) (eC (.int 3)))
  (sRet (eB dMod (eB dAdd (eB dFdiv (eB dIx (eVar 0) (eC (.int 3))) (eC (.int 71))) (eB dMul (eB dMod (eB dIx (eVar 0) (eC (.int 3))) (eC (.int 8191))) (eC (.int 41)))) (eVar 1))))))))
@[irreducible] noncomputable def f__law_pull : List D → Sto → R D := fnF 5 b__law_pull
noncomputable def b__law_gcd : SS := (sSeq (sWhile (eT (eB dNe (eVar 1) (eC (.int 0)))) (sPar 0 1 (aCons (eVar 1) (aCons (eB dMod (eVar 0) (eVar 1)) aNil))))
  (sRet (eCallB (un dAbsC) (aCons (eVar 0) aNil))))
@[irreducible] noncomputable def f__law_gcd : List D → Sto → R D := fnF 2 b__law_gcd
noncomputable def b__law_fr : SS := (sSeq (sSet 2 (eCall 2 f__law_gcd (aCons (eVar 0) (aCons (eVar 1) aNil))))
  (sSeq (sSet 2 (eIf (eT (eB dLt (eVar 1) (eC (.int 0)))) (eB dSub (eC (.int 0)) (eVar 2)) (eVar 2)))
  (sRet (eTup (aCons (eB dFdiv (eVar 0) (eVar 2)) (aCons (eB dFdiv (eVar 1) (eVar 2)) aNil))))))
@[irreducible] noncomputable def f__law_fr : List D → Sto → R D := fnF 3 b__law_fr
noncomputable def b__law_light : SS := (sRet (eCall 2 f__law_fr (aCons (eB dSub (eCall 2 f__law_pull (aCons (eVar 0) (aCons (eC (.int 9)) aNil))) (eC (.int 4))) (aCons (eB dIx (eLst (aCons (eC (.int 1)) (aCons (eC (.int 1)) (aCons (eC (.int 1)) (aCons (eC (.int 2)) (aCons (eC (.int 3)) (aCons (eC (.int 5)) aNil))))))) (eCall 2 f__law_pull (aCons (eVar 0) (aCons (eC (.int 6)) aNil)))) aNil))))
@[irreducible] noncomputable def f__law_light : List D → Sto → R D := fnF 1 b__law_light
noncomputable def b__law_grid__2 : SS := (sRet (eLcC [2] (iRange1 (aCons (eVar 1) aNil)) (gSet 2) tYesS (eLcC [3] (iRange1 (aCons (eVar 1) aNil)) (gSet 3) tYesS (eCall 1 f__law_light (aCons (eVar 0) aNil)))))
@[irreducible] noncomputable def f__law_grid__2 : List D → Sto → R D := fnF 4 b__law_grid__2
noncomputable def b__law_grid : SS := (sRet (eLc [2] (iRange1 (aCons (eVar 1) aNil)) (gSet 2) tYesS (eLc [3] (iRange1 (aCons (eVar 1) aNil)) (gSet 3) tYesS (eCall 1 f__law_light (aCons (eVar 0) aNil)))))
@[irreducible] noncomputable def f__law_grid : List D → Sto → R D := fnF 4 b__law_grid
noncomputable def b__law_share : SS := (sSeq (sSet 1 (eCall 2 f__law_pull (aCons (eVar 0) (aCons (eC (.int 12)) aNil))))
  (sSeq (sIf (eT (eB dEq (eVar 1) (eC (.int 0)))) (sRet (eCall 2 f__law_fr (aCons (eB dAdd (eB dSub (eCall 2 f__law_pull (aCons (eVar 0) (aCons (eB dSub (eB dMul (eC (.int 2)) (eB dPow (eC (.int 10)) (eC (.int 12)))) (eC (.int 1))) aNil))) (eB dPow (eC (.int 10)) (eC (.int 12)))) (eC (.int 1))) (aCons (eB dAdd (eC (.int 1)) (eCall 2 f__law_pull (aCons (eVar 0) (aCons (eB dSub (eB dPow (eC (.int 10)) (eC (.int 12))) (eC (.int 1))) aNil)))) aNil)))) sNil)
  (sSeq (sIf (eT (eB dEq (eVar 1) (eC (.int 1)))) (sRet (eCall 2 f__law_fr (aCons (eB dIx (eLst (aCons (eB dSub (eC (.int 1)) (eB dPow (eC (.int 10)) (eC (.int 12)))) (aCons (eB dSub (eB dPow (eC (.int 10)) (eC (.int 12))) (eC (.int 1))) aNil))) (eCall 2 f__law_pull (aCons (eVar 0) (aCons (eC (.int 2)) aNil)))) (aCons (eB dIx (eLst (aCons (eC (.int 1)) (aCons (eB dSub (eB dPow (eC (.int 10)) (eC (.int 12))) (eC (.int 1))) (aCons (eB dSub (eB dPow (eC (.int 10)) (eC (.int 12))) (eC (.int 2))) aNil)))) (eCall 2 f__law_pull (aCons (eVar 0) (aCons (eC (.int 3)) aNil)))) aNil)))) sNil)
  (sRet (eCall 1 f__law_light (aCons (eVar 0) aNil))))))
@[irreducible] noncomputable def f__law_share : List D → Sto → R D := fnF 2 b__law_share
noncomputable def b__law_mul : SS := (sRet (eCall 2 f__law_fr (aCons (eB dMul (eB dIx (eVar 0) (eC (.int 0))) (eB dIx (eVar 1) (eC (.int 0)))) (aCons (eB dMul (eB dIx (eVar 0) (eC (.int 1))) (eB dIx (eVar 1) (eC (.int 1)))) aNil))))
@[irreducible] noncomputable def f__law_mul : List D → Sto → R D := fnF 2 b__law_mul
noncomputable def b__law_tscale : SS := (sRet (eLc [2] (iAnyD (eVar 0)) (gSet 2) tYesS (eLc [3] (iAnyD (eVar 2)) (gSet 3) tYesS (eCall 2 f__law_mul (aCons (eVar 3) (aCons (eVar 1) aNil))))))
@[irreducible] noncomputable def f__law_tscale : List D → Sto → R D := fnF 4 b__law_tscale
noncomputable def b_need_like : SS := (sIf (eT (eB dNe (eCallB (un dLen) (aCons (eVar 0) aNil)) (eCallB (un dLen) (aCons (eVar 1) aNil)))) (sRaise "Unfit" 0 ["word"] (fun _ => [.str "Unfit"]) aNil) sNil)
@[irreducible] noncomputable def f_need_like : List D → Sto → R D := fnF 2 b_need_like
noncomputable def b_divisor : SS := (sSeq (sPar 0 1 (aCons (eCallB (un dAbsC) (aCons (eVar 0) aNil)) (aCons (eCallB (un dAbsC) (aCons (eVar 1) aNil)) aNil)))
  (sSeq (sWhile (eT (eB dGt (eVar 1) (eC (.int 0)))) (sPar 0 1 (aCons (eVar 1) (aCons (eB dMod (eVar 0) (eVar 1)) aNil))))
  (sRet (eVar 0))))
@[irreducible] noncomputable def f_divisor : List D → Sto → R D := fnF 2 b_divisor
noncomputable def b_share : SS := (sSeq (sIf (eT (eB dEq (eVar 1) (eC (.int 0)))) (sRaise "ByNought" 0 ["word"] (fun _ => [.str "ByNought"]) aNil) sNil)
  (sSeq (sSet 2 (eCall 2 f_divisor (aCons (eVar 0) (aCons (eVar 1) aNil))))
  (sSeq (sIf (eT (eB dLt (eVar 1) (eC (.int 0)))) (sSet 2 (eU dNeg (eVar 2))) sNil)
  (sRet (eTup (aCons (eB dFdiv (eVar 0) (eVar 2)) (aCons (eB dFdiv (eVar 1) (eVar 2)) aNil)))))))
@[irreducible] noncomputable def f_share : List D → Sto → R D := fnF 3 b_share
noncomputable def b_plus : SS := (sRet (eCall 2 f_share (aCons (eB dAdd (eB dMul (eB dIx (eVar 0) (eC (.int 0))) (eB dIx (eVar 1) (eC (.int 1)))) (eB dMul (eB dIx (eVar 1) (eC (.int 0))) (eB dIx (eVar 0) (eC (.int 1))))) (aCons (eB dMul (eB dIx (eVar 0) (eC (.int 1))) (eB dIx (eVar 1) (eC (.int 1)))) aNil))))
@[irreducible] noncomputable def f_plus : List D → Sto → R D := fnF 2 b_plus
noncomputable def b_added__2 : SS := (sSeq (sExpr (eCall 2 f_need_like (aCons (eVar 0) (aCons (eVar 1) aNil))))
  (sRet (eLcC [2, 3] (iZipD (aCons (eVar 0) (aCons (eVar 1) aNil))) (gTuple 2 (gsCons (gSet 2) (gsCons (gSet 3) gsNil))) tYesS (eLcC [4, 5] (iZipD (aCons (eVar 2) (aCons (eVar 3) aNil))) (gTuple 2 (gsCons (gSet 4) (gsCons (gSet 5) gsNil))) tYesS (eCall 2 f_plus (aCons (eVar 4) (aCons (eVar 5) aNil)))))))
@[irreducible] noncomputable def f_added__2 : List D → Sto → R D := fnF 6 b_added__2
noncomputable def b_less : SS := (sRet (eCall 2 f_share (aCons (eB dSub (eB dMul (eB dIx (eVar 0) (eC (.int 0))) (eB dIx (eVar 1) (eC (.int 1)))) (eB dMul (eB dIx (eVar 1) (eC (.int 0))) (eB dIx (eVar 0) (eC (.int 1))))) (aCons (eB dMul (eB dIx (eVar 0) (eC (.int 1))) (eB dIx (eVar 1) (eC (.int 1)))) aNil))))
@[irreducible] noncomputable def f_less : List D → Sto → R D := fnF 2 b_less
noncomputable def b_taken__2 : SS := (sSeq (sExpr (eCall 2 f_need_like (aCons (eVar 0) (aCons (eVar 1) aNil))))
  (sRet (eLcC [2, 3] (iZipD (aCons (eVar 0) (aCons (eVar 1) aNil))) (gTuple 2 (gsCons (gSet 2) (gsCons (gSet 3) gsNil))) tYesS (eLcC [4, 5] (iZipD (aCons (eVar 2) (aCons (eVar 3) aNil))) (gTuple 2 (gsCons (gSet 4) (gsCons (gSet 5) gsNil))) tYesS (eCall 2 f_less (aCons (eVar 4) (aCons (eVar 5) aNil)))))))
@[irreducible] noncomputable def f_taken__2 : List D → Sto → R D := fnF 6 b_taken__2
noncomputable def b_multiple : SS := (sSeq (sSet 1 (eC (.int 1)))
  (sSeq (sFor (iAnyD (eVar 0)) (gSet 2) (sSet 1 (eB dMul (eB dFdiv (eVar 1) (eCall 2 f_divisor (aCons (eVar 1) (aCons (eVar 2) aNil)))) (eVar 2))))
  (sRet (eVar 1))))
@[irreducible] noncomputable def f_multiple : List D → Sto → R D := fnF 3 b_multiple
noncomputable def b_wholes : SS := (sSeq (sSet 1 (eCall 1 f_multiple (aCons (eLc [2, 3] (iAnyD (eVar 0)) (gTuple 2 (gsCons (gSet 2) (gsCons (gSet 3) gsNil))) tYesS (eVar 3)) aNil)))
  (sRet (eLc [2, 3] (iAnyD (eVar 0)) (gTuple 2 (gsCons (gSet 2) (gsCons (gSet 3) gsNil))) tYesS (eB dMul (eVar 2) (eB dFdiv (eVar 1) (eVar 3))))))
@[irreducible] noncomputable def f_wholes : List D → Sto → R D := fnF 4 b_wholes
noncomputable def b_as_wholes : SS := (sSeq (sSet 1 (eCall 1 f_wholes (aCons (eB dAdd (eLc2 [4, 5] [5] (iAnyD (eVar 0)) (gSet 4) tYesS (iAnyD (eVar 4)) (gSet 5) tYesS (eVar 5)) (eLst (aCons (eC (.tup [.int 1, .int 1])) aNil))) aNil)))
  (sSeq (sSet 2 (eCallB (un dLen) (aCons (eVar 0) aNil)))
  (sRet (eTup (aCons (eLc [3] (iRange1 (aCons (eVar 2) aNil)) (gSet 3) tYesS (eSl dSl3 (eVar 1) (oSome (eB dMul (eVar 3) (eVar 2))) (oSome (eB dAdd (eB dMul (eVar 3) (eVar 2)) (eVar 2))))) (aCons (eB dIx (eVar 1) (eU dNeg (eC (.int 1)))) aNil))))))
@[irreducible] noncomputable def f_as_wholes : List D → Sto → R D := fnF 6 b_as_wholes
noncomputable def b_as_shares__2 : SS := (sRet (eLcC [2] (iAnyD (eVar 0)) (gSet 2) tYesS (eLcC [3] (iAnyD (eVar 2)) (gSet 3) tYesS (eCall 2 f_share (aCons (eVar 3) (aCons (eVar 1) aNil))))))
@[irreducible] noncomputable def f_as_shares__2 : List D → Sto → R D := fnF 4 b_as_shares__2
noncomputable def b_product__2 : SS := (sSeq (sExpr (eCall 2 f_need_like (aCons (eVar 0) (aCons (eVar 1) aNil))))
  (sSeq (sAsg (eCall 1 f_as_wholes (aCons (eVar 0) aNil)) (gTuple 2 (gsCons (gSet 2) (gsCons (gSet 3) gsNil))))
  (sSeq (sAsg (eCall 1 f_as_wholes (aCons (eVar 1) aNil)) (gTuple 2 (gsCons (gSet 4) (gsCons (gSet 5) gsNil))))
  (sSeq (sSet 6 (eLc [8] (iRange1 (aCons (eCallB (un dLen) (aCons (eVar 4) aNil)) aNil)) (gSet 8) tYesS (eLc [9] (iAnyD (eVar 4)) (gSet 9) tYesS (eB dIx (eVar 9) (eVar 8)))))
  (sSeq (sSet 7 (eLc [9] (iAnyD (eVar 2)) (gSet 9) tYesS (eLc [10] (iAnyD (eVar 6)) (gSet 10) tYesS (eCallB (un dSum) (aCons (eLc [11, 12] (iZipD (aCons (eVar 9) (aCons (eVar 10) aNil))) (gTuple 2 (gsCons (gSet 11) (gsCons (gSet 12) gsNil))) tYesS (eB dMul (eVar 11) (eVar 12))) aNil)))))
  (sRet (eCall 2 f_as_shares__2 (aCons (eVar 7) (aCons (eB dMul (eVar 3) (eVar 5)) aNil)))))))))
@[irreducible] noncomputable def f_product__2 : List D → Sto → R D := fnF 13 b_product__2
noncomputable def b_times : SS := (sRet (eCall 2 f_share (aCons (eB dMul (eB dIx (eVar 0) (eC (.int 0))) (eB dIx (eVar 1) (eC (.int 0)))) (aCons (eB dMul (eB dIx (eVar 0) (eC (.int 1))) (eB dIx (eVar 1) (eC (.int 1)))) aNil))))
@[irreducible] noncomputable def f_times : List D → Sto → R D := fnF 2 b_times
noncomputable def b_scaled__2 : SS := (sRet (eLcC [2] (iAnyD (eVar 0)) (gSet 2) tYesS (eLcC [3] (iAnyD (eVar 2)) (gSet 3) tYesS (eCall 2 f_times (aCons (eVar 3) (aCons (eVar 1) aNil))))))
@[irreducible] noncomputable def f_scaled__2 : List D → Sto → R D := fnF 4 b_scaled__2
noncomputable def b__law_add : SS := (sRet (eCall 2 f__law_fr (aCons (eB dAdd (eB dMul (eB dIx (eVar 0) (eC (.int 0))) (eB dIx (eVar 1) (eC (.int 1)))) (eB dMul (eB dIx (eVar 1) (eC (.int 0))) (eB dIx (eVar 0) (eC (.int 1))))) (aCons (eB dMul (eB dIx (eVar 0) (eC (.int 1))) (eB dIx (eVar 1) (eC (.int 1)))) aNil))))
@[irreducible] noncomputable def f__law_add : List D → Sto → R D := fnF 2 b__law_add
noncomputable def b__law_tadd : SS := (sRet (eLc [2, 3] (iZipD (aCons (eVar 0) (aCons (eVar 1) aNil))) (gTuple 2 (gsCons (gSet 2) (gsCons (gSet 3) gsNil))) tYesS (eLc [4, 5] (iZipD (aCons (eVar 2) (aCons (eVar 3) aNil))) (gTuple 2 (gsCons (gSet 4) (gsCons (gSet 5) gsNil))) tYesS (eCall 2 f__law_add (aCons (eVar 4) (aCons (eVar 5) aNil))))))
@[irreducible] noncomputable def f__law_tadd : List D → Sto → R D := fnF 6 b__law_tadd
noncomputable def b__law_dot : SS := (sSeq (sSet 2 (eTup (aCons (eC (.int 0)) (aCons (eC (.int 1)) aNil))))
  (sSeq (sFor (iZipD (aCons (eVar 0) (aCons (eVar 1) aNil))) (gTuple 2 (gsCons (gSet 3) (gsCons (gSet 4) gsNil))) (sSet 2 (eCall 2 f__law_add (aCons (eVar 2) (aCons (eCall 2 f__law_mul (aCons (eVar 3) (aCons (eVar 4) aNil))) aNil)))))
  (sRet (eVar 2))))
@[irreducible] noncomputable def f__law_dot : List D → Sto → R D := fnF 5 b__law_dot
noncomputable def b__law_tmul : SS := (sSeq (sSet 2 (eLc [3] (iRange1 (aCons (eCallB (un dLen) (aCons (eVar 1) aNil)) aNil)) (gSet 3) tYesS (eLc [4] (iAnyD (eVar 1)) (gSet 4) tYesS (eB dIx (eVar 4) (eVar 3)))))
  (sRet (eLc [4] (iAnyD (eVar 0)) (gSet 4) tYesS (eLc [5] (iAnyD (eVar 2)) (gSet 5) tYesS (eCall 2 f__law_dot (aCons (eVar 4) (aCons (eVar 5) aNil)))))))
@[irreducible] noncomputable def f__law_tmul : List D → Sto → R D := fnF 6 b__law_tmul
noncomputable def b__law_same (rec__law_same : List D → Sto → R D) : SS := (sSeq (sIf (eT (eU (dIsi [.list, .tuple]) (eVar 1))) (sSeq (sIf (eOrT (eT (eB dNe (eU (dIsi [.list]) (eVar 0)) (eU (dIsi [.list]) (eVar 1)))) (eT (eB dNe (eU (dIsi [.tuple]) (eVar 0)) (eU (dIsi [.tuple]) (eVar 1))))) (sRet (eC (.bl false))) sNil)
  (sRet (eAndV (eB dEq (eCallB (un dLen) (aCons (eVar 0) aNil)) (eCallB (un dLen) (aCons (eVar 1) aNil))) (eCallB (un dAll) (aCons (eLc [2] (iRange1 (aCons (eCallB (un dLen) (aCons (eVar 1) aNil)) aNil)) (gSet 2) tYesS (eCall 2 rec__law_same (aCons (eB dIx (eVar 0) (eVar 2)) (aCons (eB dIx (eVar 1) (eVar 2)) aNil)))) aNil))))) sNil)
  (sSeq (sIf (eOrT (eT (eU dIsN (eVar 1))) (eT (eU dIsN (eVar 0)))) (sRet (eAndV (eU dIsN (eVar 0)) (eU dIsN (eVar 1)))) sNil)
  (sSeq (sIf (eOrT (eT (eB dNe (eU (dIsi [.bool]) (eVar 1)) (eU (dIsi [.bool]) (eVar 0)))) (eT (eB dNe (eU (dIsi [.int]) (eVar 1)) (eU (dIsi [.int]) (eVar 0))))) (sRet (eC (.bl false))) sNil)
  (sRet (eAndV (eB dEq (eU (dIsi [.str]) (eVar 1)) (eU (dIsi [.str]) (eVar 0))) (eB dEq (eVar 0) (eVar 1)))))))
noncomputable def g__law_same : Nat → Nat → List D → Sto → R D
  | 0, _ => fun _ _ => .bad
  | n + 1, _ => fnF 3 (b__law_same (g__law_same n 0))
@[irreducible] noncomputable def f__law_same (n : Nat) : List D → Sto → R D := g__law_same n 0
theorem f__law_same_0 : f__law_same 0 = fun _ _ => .bad := by unfold f__law_same; rfl
theorem f__law_same_s (n : Nat) : f__law_same (n + 1) = fnF 3 (b__law_same (f__law_same n)) := by unfold f__law_same; rfl
noncomputable def b_as_shares : SS := (sRet (eLc [2] (iAnyD (eVar 0)) (gSet 2) tYesS (eLc [3] (iAnyD (eVar 2)) (gSet 3) tYesS (eCall 2 f_share (aCons (eVar 3) (aCons (eVar 1) aNil))))))
@[irreducible] noncomputable def f_as_shares : List D → Sto → R D := fnF 4 b_as_shares
noncomputable def b_product : SS := (sSeq (sExpr (eCall 2 f_need_like (aCons (eVar 0) (aCons (eVar 1) aNil))))
  (sSeq (sAsg (eCall 1 f_as_wholes (aCons (eVar 0) aNil)) (gTuple 2 (gsCons (gSet 2) (gsCons (gSet 3) gsNil))))
  (sSeq (sAsg (eCall 1 f_as_wholes (aCons (eVar 1) aNil)) (gTuple 2 (gsCons (gSet 4) (gsCons (gSet 5) gsNil))))
  (sSeq (sSet 6 (eLc [8] (iRange1 (aCons (eCallB (un dLen) (aCons (eVar 4) aNil)) aNil)) (gSet 8) tYesS (eLc [9] (iAnyD (eVar 4)) (gSet 9) tYesS (eB dIx (eVar 9) (eVar 8)))))
  (sSeq (sSet 7 (eLc [9] (iAnyD (eVar 2)) (gSet 9) tYesS (eLc [10] (iAnyD (eVar 6)) (gSet 10) tYesS (eCallB (un dSum) (aCons (eLc [11, 12] (iZipD (aCons (eVar 9) (aCons (eVar 10) aNil))) (gTuple 2 (gsCons (gSet 11) (gsCons (gSet 12) gsNil))) tYesS (eB dMul (eVar 11) (eVar 12))) aNil)))))
  (sRet (eCall 2 f_as_shares (aCons (eVar 7) (aCons (eB dMul (eVar 3) (eVar 5)) aNil)))))))))
@[irreducible] noncomputable def f_product : List D → Sto → R D := fnF 13 b_product
noncomputable def b_added : SS := (sSeq (sExpr (eCall 2 f_need_like (aCons (eVar 0) (aCons (eVar 1) aNil))))
  (sRet (eLc [2, 3] (iZipD (aCons (eVar 0) (aCons (eVar 1) aNil))) (gTuple 2 (gsCons (gSet 2) (gsCons (gSet 3) gsNil))) tYesS (eLc [4, 5] (iZipD (aCons (eVar 2) (aCons (eVar 3) aNil))) (gTuple 2 (gsCons (gSet 4) (gsCons (gSet 5) gsNil))) tYesS (eCall 2 f_plus (aCons (eVar 4) (aCons (eVar 5) aNil)))))))
@[irreducible] noncomputable def f_added : List D → Sto → R D := fnF 6 b_added
noncomputable def b_corners : SS := (sSeq (sAsg (eTup (aCons (eCallB (un dLen) (aCons (eVar 0) aNil)) (aCons (eCallB (un dLen) (aCons (eVar 1) aNil)) aNil))) (gTuple 2 (gsCons (gSet 2) (gsCons (gSet 3) gsNil))))
  (sRet (eB dAdd (eLc [4] (iAnyD (eVar 0)) (gSet 4) tYesS (eB dAdd (eCallB (un dListOf) (aCons (eVar 4) aNil)) (eB dMul (eLst (aCons (eC (.tup [.int 0, .int 1])) aNil)) (eVar 3)))) (eLc [4] (iAnyD (eVar 1)) (gSet 4) tYesS (eB dAdd (eB dMul (eLst (aCons (eC (.tup [.int 0, .int 1])) aNil)) (eVar 2)) (eCallB (un dListOf) (aCons (eVar 4) aNil)))))))
@[irreducible] noncomputable def f_corners : List D → Sto → R D := fnF 5 b_corners
noncomputable def b_taken : SS := (sSeq (sExpr (eCall 2 f_need_like (aCons (eVar 0) (aCons (eVar 1) aNil))))
  (sRet (eLc [2, 3] (iZipD (aCons (eVar 0) (aCons (eVar 1) aNil))) (gTuple 2 (gsCons (gSet 2) (gsCons (gSet 3) gsNil))) tYesS (eLc [4, 5] (iZipD (aCons (eVar 2) (aCons (eVar 3) aNil))) (gTuple 2 (gsCons (gSet 4) (gsCons (gSet 5) gsNil))) tYesS (eCall 2 f_less (aCons (eVar 4) (aCons (eVar 5) aNil)))))))
@[irreducible] noncomputable def f_taken : List D → Sto → R D := fnF 6 b_taken
noncomputable def b_law : SS := (sSeq (sSet 1 (eCall 1 f__law_bag__1 (aCons (eVar 0) aNil)))
  (sSeq (sFor (iRange1 (aCons (eC (.int 3)) aNil)) (gSet 2) (sSeq (sAsg (eTup (aCons (eB dAdd (eC (.int 1)) (eCall 2 f__law_pull (aCons (eVar 1) (aCons (eC (.int 4)) aNil)))) (aCons (eB dAdd (eC (.int 1)) (eCall 2 f__law_pull (aCons (eVar 1) (aCons (eC (.int 4)) aNil)))) aNil))) (gTuple 2 (gsCons (gSet 3) (gsCons (gSet 4) gsNil))))
  (sSeq (sAsg (eTup (aCons (eCall 2 f__law_grid__2 (aCons (eVar 1) (aCons (eVar 3) aNil))) (aCons (eCall 2 f__law_grid (aCons (eVar 1) (aCons (eVar 3) aNil))) (aCons (eCall 2 f__law_grid (aCons (eVar 1) (aCons (eVar 4) aNil))) aNil)))) (gTuple 3 (gsCons (gSet 14) (gsCons (gSet 5) (gsCons (gSet 15) gsNil)))))
  (sSeq (sSub (eCall 1 f__law_share (aCons (eVar 1) aNil)) (eB dIx (eVar 14) (eCall 2 f__law_pull (aCons (eVar 1) (aCons (eVar 3) aNil)))) (eCall 2 f__law_pull (aCons (eVar 1) (aCons (eVar 3) aNil))))
  (sSeq (sPar 6 7 (aCons (eCall 1 f__law_share (aCons (eVar 1) aNil)) (aCons (eCallB (un dRepr) (aCons (eLst (aCons (eVar 14) (aCons (eVar 5) (aCons (eVar 15) aNil)))) aNil)) aNil)))
  (sSeq (sSet 8 (eCall 2 f__law_tscale (aCons (eVar 5) (aCons (eTup (aCons (eB dSub (eC (.int 0)) (eC (.int 1))) (aCons (eC (.int 1)) aNil))) aNil))))
  (sSeq (sSet 9 (eLstC (aCons (eCall 2 f_added__2 (aCons (eVar 14) (aCons (eVar 5) aNil))) (aCons (eCall 2 f_taken__2 (aCons (eVar 14) (aCons (eVar 5) aNil))) (aCons (eCall 2 f_product__2 (aCons (eVar 14) (aCons (eVar 5) aNil))) (aCons (eCall 2 f_product__2 (aCons (eVar 5) (aCons (eVar 14) aNil))) (aCons (eCall 2 f_scaled__2 (aCons (eVar 14) (aCons (eVar 6) aNil))) aNil)))))))
  (sSeq (sSet 10 (eLst (aCons (eCall 2 f__law_tadd (aCons (eVar 14) (aCons (eVar 5) aNil))) (aCons (eCall 2 f__law_tadd (aCons (eVar 14) (aCons (eVar 8) aNil))) (aCons (eCall 2 f__law_tmul (aCons (eVar 14) (aCons (eVar 5) aNil))) (aCons (eCall 2 f__law_tmul (aCons (eVar 5) (aCons (eVar 14) aNil))) (aCons (eCall 2 f__law_tscale (aCons (eVar 14) (aCons (eVar 6) aNil))) aNil)))))))
  (sSeq (sIf (eOrT (eNotT (eT (eCall 2 (f__law_same 40) (aCons (eVar 9) (aCons (eVar 10) aNil))))) (eNotT (eT (eCall 2 (f__law_same 40) (aCons (eCall 2 f_product (aCons (eCallB (un dTupOf) (aCons (eLc [16] (iAnyD (eVar 14)) (gSet 16) tYesS (eCallB (un dTupOf) (aCons (eVar 16) aNil))) aNil)) (aCons (eVar 5) aNil))) (aCons (eB dIx (eVar 10) (eC (.int 2))) aNil)))))) (sRet (eC (.bl false))) sNil)
  (sSeq (sFor (iAnyD (eVar 9)) (gSet 11) (sSeq (sSub (eTup (aCons (eC (.int 9)) (aCons (eC (.int 1)) aNil))) (eB dIx (eVar 11) (eC (.int 0))) (eC (.int 0)))
  (sExpr (eM "list" dAppend (eVar 11) (aCons (eLst aNil) aNil)))))
  (sSeq (sSet 12 (eB dAdd (eLc [16] (iAnyD (eVar 14)) (gSet 16) tYesS (eB dAdd (eVar 16) (eB dMul (eLst (aCons (eTup (aCons (eC (.int 0)) (aCons (eC (.int 1)) aNil))) aNil)) (eVar 4)))) (eLc [16] (iAnyD (eVar 15)) (gSet 16) tYesS (eB dAdd (eB dMul (eLst (aCons (eTup (aCons (eC (.int 0)) (aCons (eC (.int 1)) aNil))) aNil)) (eVar 3)) (eVar 16)))))
  (sSeq (sIf (eNotT (eT (eCall 2 (f__law_same 40) (aCons (eLst (aCons (eCall 2 f_added (aCons (eVar 14) (aCons (eVar 5) aNil))) (aCons (eCall 2 f_corners (aCons (eVar 14) (aCons (eVar 15) aNil))) aNil))) (aCons (eLst (aCons (eB dIx (eVar 10) (eC (.int 0))) (aCons (eVar 12) aNil))) aNil))))) (sRet (eC (.bl false))) sNil)
  (sSeq (sIf (eT (eB dNe (eVar 3) (eVar 4))) (sSeq (sOut 13) (sSeq (sIf (eT (eB dNe (eAsks (pickL ys__law_tried) [(eCall 2 f_added (aCons (eVar 14) (aCons (eVar 15) aNil))), (eCall 2 f_taken (aCons (eVar 15) (aCons (eVar 14) aNil))), (eCall 2 f_product (aCons (eVar 14) (aCons (eVar 15) aNil)))]) (eB dMul (eLst (aCons (eTup (aCons (eC (.str "no")) (aCons (eC (.str "Unfit")) aNil))) aNil)) (eC (.int 3))))) (sRet (eC (.bl false))) sNil)
  sNil)) sNil)
  (sIf (eT (eB dNe (eCallB (un dRepr) (aCons (eLst (aCons (eVar 14) (aCons (eVar 5) (aCons (eVar 15) aNil)))) aNil)) (eVar 7))) (sRet (eC (.bl false))) sNil))))))))))))))
  (sRet (eC (.bl true)))))
@[irreducible] noncomputable def f_law : List D → Sto → R D := fnF 18 b_law
end Pf

namespace Pf
/-! minors: rows are functions from places to numbers, the last one taken in stands ahead -/
namespace Mn
abbrev Row := Nat → Int
def E (x : Row) (F : List Nat → Int) : List Nat → Int
  | [] => 0
  | c :: cs => x c * F cs - E x (fun l => F (c :: l)) cs
def det : List Row → List Nat → Int
  | [], [] => 1
  | [], _ :: _ => 0
  | x :: rs, cs => E x (det rs) cs
theorem E_addF (x : Row) : ∀ (cs : List Nat) (F G : List Nat → Int), E x (fun l => F l + G l) cs = E x F cs + E x G cs
  | [], _, _ => by simp [E]
  | c :: cs, F, G => by
    simp only [E]; rw [E_addF x cs (fun l => F (c :: l)) (fun l => G (c :: l))]; grind
theorem E_mulF (x : Row) (k : Int) : ∀ (cs : List Nat) (F : List Nat → Int), E x (fun l => k * F l) cs = k * E x F cs
  | [], _ => by simp [E]
  | c :: cs, F => by
    simp only [E]; rw [E_mulF x k cs (fun l => F (c :: l))]; grind
theorem E_zeroF (x : Row) : ∀ (cs : List Nat), E x (fun _ => 0) cs = 0
  | [] => by simp [E]
  | c :: cs => by simp only [E]; rw [E_zeroF x cs]; simp
theorem E_add (x y : Row) : ∀ (cs : List Nat) (F : List Nat → Int), E (fun c => x c + y c) F cs = E x F cs + E y F cs
  | [], _ => by simp [E]
  | c :: cs, F => by
    simp only [E]; rw [E_add x y cs]; grind
theorem E_mul (k : Int) (x : Row) : ∀ (cs : List Nat) (F : List Nat → Int), E (fun c => k * x c) F cs = k * E x F cs
  | [], _ => by simp [E]
  | c :: cs, F => by
    simp only [E]; rw [E_mul k x cs]; grind
theorem E_nil {x : Row} : ∀ {cs : List Nat} {F : List Nat → Int}, (∀ c ∈ cs, x c = 0) → E x F cs = 0
  | [], _, _ => by simp [E]
  | c :: cs, F, h => by
    simp only [E]
    rw [h c (by simp), E_nil (fun c hc => h c (by simp [hc]))]; simp
theorem E_cons {x : Row} {c : Nat} {cs : List Nat} {F : List Nat → Int} (h : ∀ c ∈ cs, x c = 0) : E x F (c :: cs) = x c * F cs := by
  simp only [E]; rw [E_nil h]; simp
theorem E_swap (x y : Row) : ∀ (cs : List Nat) (F : List Nat → Int), E x (E y F) cs = - E y (E x F) cs
  | [], _ => by simp [E]
  | c :: cs, F => by
    have h1 : (fun l => E y F (c :: l)) = fun l => y c * F l + (-1) * E y (fun l => F (c :: l)) l := by funext l; simp only [E]; grind
    have h2 : (fun l => E x F (c :: l)) = fun l => x c * F l + (-1) * E x (fun l => F (c :: l)) l := by funext l; simp only [E]; grind
    have e1 : E x (E y F) (c :: cs) = x c * E y F cs - E x (fun l => E y F (c :: l)) cs := rfl
    have e2 : E y (E x F) (c :: cs) = y c * E x F cs - E y (fun l => E x F (c :: l)) cs := rfl
    have ih := E_swap x y cs (fun l => F (c :: l))
    rw [e1, e2, h1, h2, E_addF x cs (fun l => y c * F l) (fun l => (-1) * E y (fun l => F (c :: l)) l), E_addF y cs (fun l => x c * F l) (fun l => (-1) * E x (fun l => F (c :: l)) l), E_mulF, E_mulF, E_mulF, E_mulF, ih]
    grind
theorem E_self (x : Row) (cs : List Nat) (F : List Nat → Int) : E x (E x F) cs = 0 := by have := E_swap x x cs F; omega
theorem E_mem {r : Row} : ∀ {rs : List Row}, r ∈ rs → ∀ cs, E r (det rs) cs = 0
  | y :: rs, h, cs => by
    show E r (E y (det rs)) cs = 0
    rcases List.mem_cons.mp h with rfl | h
    · exact E_self ..
    · rw [E_swap, show E r (det rs) = fun _ => 0 from funext fun l => E_mem h l, E_zeroF]; simp
/-- what the rows lead to nought -/
def Kill (R : List Row) (w : Row) : Prop := ∀ rs : List Row, (∀ r ∈ R, r ∈ rs) → ∀ cs, E w (det rs) cs = 0
structure Lin (L : (List Nat → Int) → Int) : Prop where
  add : ∀ F G, L (fun l => F l + G l) = L F + L G
  mul : ∀ (k : Int) F, L (fun l => k * F l) = k * L F
theorem kill_det : ∀ (R : List Row) (L : (List Nat → Int) → Int), Lin L → Kill R (fun j => L (fun l => det R (j :: l)))
  | [], L, hL => fun rs _ cs => by
    have : (fun j : Nat => L (fun l => det [] (j :: l))) = fun c => (0 : Int) * (fun _ => (0 : Int)) c := by
      funext j
      have e : (fun l => det [] (j :: l)) = fun l : List Nat => (0 : Int) * (fun _ => (0 : Int)) l := by funext l; simp [det]
      rw [e, hL.mul]; simp
    rw [this, E_mul]; simp
  | x :: R, L, hL => fun rs h cs => by
    have e : (fun j : Nat => L (fun l => det (x :: R) (j :: l))) = fun j => L (det R) * x j + (fun j => (-1) * (fun j => L (fun l => E x (fun l => det R (j :: l)) l)) j) j := by
      funext j
      have e : (fun l => det (x :: R) (j :: l)) = fun l => x j * det R l + (-1) * E x (fun l => det R (j :: l)) l := by funext l; simp only [det, E]; grind
      rw [e, hL.add (fun l => x j * det R l) (fun l => (-1) * E x (fun l => det R (j :: l)) l), hL.mul, hL.mul]; grind
    have hL2 : Lin (fun F => L (fun l => E x F l)) := ⟨fun F G => by
      show L (fun l => E x (fun l => F l + G l) l) = _
      rw [show (fun l => E x (fun l => F l + G l) l) = fun l => E x F l + E x G l from funext fun l => E_addF x l F G, hL.add (fun l => E x F l) (fun l => E x G l)], fun k F => by
      show L (fun l => E x (fun l => k * F l) l) = _
      rw [show (fun l => E x (fun l => k * F l) l) = fun l => k * E x F l from funext fun l => E_mulF x k l F, hL.mul k (fun l => E x F l)]⟩
    have ih := kill_det R _ hL2 rs (fun r hr => h r (by simp [hr])) cs
    rw [e, E_add (fun j => L (det R) * x j), E_mul, E_mul, E_mem (h x (by simp)), ih]; simp
def Alt (F : List Nat → Int) : Prop := ∀ a c d b, F (a ++ c :: d :: b) = - F (a ++ d :: c :: b)
theorem alt_E {x : Row} : ∀ {F : List Nat → Int}, Alt F → Alt (E x F) := by
  intro F h a
  induction a generalizing F with
  | nil =>
    intro c d b
    simp only [List.nil_append, E]
    have e : (fun l => F (c :: d :: l)) = fun l => (-1) * F (d :: c :: l) := by funext l; have := h [] c d l; simp at this; omega
    rw [e, E_mulF]; grind
  | cons a0 a ih =>
    intro c d b
    simp only [List.cons_append, E]
    rw [h a c d b, ih (F := fun l => F (a0 :: l)) (fun a' => by have := h (a0 :: a'); simpa using this)]; grind
theorem alt_det : ∀ rs : List Row, Alt (det rs)
  | [] => fun a c d b => by cases a <;> simp [det]
  | x :: rs => by
    have := alt_E (x := x) (alt_det rs)
    exact this
theorem alt_rep {F : List Nat → Int} (h : Alt F) (j : Nat) (v : List Nat) : ∀ (u a : List Nat), F (a ++ j :: (u ++ j :: v)) = 0
  | [], a => by have := h a j j v; simp; omega
  | e :: u, a => by
    have h1 := h a j e (u ++ j :: v)
    have h2 := alt_rep h j v u (a ++ [e])
    simp at h2
    simp only [List.cons_append]
    rw [h1, h2]; simp
theorem det_rep {rs : List Row} {j : Nat} {S : List Nat} (h : j ∈ S) : det rs (j :: S) = 0 := by
  obtain ⟨u, v, rfl⟩ := List.append_of_mem h
  have := alt_rep (alt_det rs) j v u []
  simpa using this
/-- what is left of a row -/
def lf (R : List Row) (S : List Nat) (x : Row) : Row := fun j => det (x :: R) (j :: S)
theorem lf_eq (R : List Row) (S : List Nat) (x : Row) (j : Nat) : lf R S x j = det R S * x j - E x (fun l => det R (j :: l)) S := by simp only [lf, det, E]; grind
theorem lf_add (R : List Row) (S : List Nat) (x y : Row) (a b : Int) (j : Nat) : lf R S (fun c => a * x c + b * y c) j = a * lf R S x j + b * lf R S y j := by
  show E (fun c => a * x c + b * y c) (det R) (j :: S) = _
  rw [E_add (fun c => a * x c) (fun c => b * y c), E_mul, E_mul]; rfl
theorem lf_nil {R : List Row} {S : List Nat} {x : Row} {j : Nat} (h : j ∈ S) : lf R S x j = 0 := det_rep h
theorem lf_kill (R : List Row) (S : List Nat) (z : Row) : Kill R (fun j => lf R S z j - det R S * z j) := by
  have h := kill_det R (fun F => (-1) * E z F S) ⟨fun F G => by rw [E_addF]; grind, fun k F => by rw [E_mulF]; grind⟩
  have e : (fun j => lf R S z j - det R S * z j) = fun j => (-1) * E z (fun l => det R (j :: l)) S := by funext j; rw [lf_eq]; grind
  rw [e]; exact h
theorem syl {R : List Row} {S : List Nat} {p x : Row} {c : Nat} (h : lf R S p c ≠ 0) (j : Nat) :
    lf R S p c * lf R S x j - lf R S x c * lf R S p j = det R S * lf (p :: R) (c :: S) x j := by
  let z : Row := fun i => lf R S p c * x i + (- lf R S x c) * p i
  have hz : ∀ i, lf R S z i = lf R S p c * lf R S x i - lf R S x c * lf R S p i := fun i => by rw [lf_add]; grind
  have hzc : ∀ i ∈ c :: S, lf R S z i = 0 := fun i hi => by
    rcases List.mem_cons.mp hi with rfl | hi
    · rw [hz]; grind
    · exact lf_nil hi
  -- the row z beside p and R
  have a1 : E z (det (p :: R)) (j :: c :: S) = lf R S p c * E x (det (p :: R)) (j :: c :: S) := by
    rw [E_add (fun i => lf R S p c * x i) (fun i => (- lf R S x c) * p i), E_mul, E_mul, E_mem (r := p) (by simp)]; simp
  have a2 : E (lf R S z) (det (p :: R)) (j :: c :: S) = det R S * E z (det (p :: R)) (j :: c :: S) := by
    have k := lf_kill R S z (p :: R) (fun r hr => by simp [hr]) (j :: c :: S)
    have e : lf R S z = fun i => (fun i => lf R S z i - det R S * z i) i + (fun i => det R S * z i) i := by funext i; grind
    rw [e, E_add, k, E_mul]; simp
  have a3 : E (lf R S z) (det (p :: R)) (j :: c :: S) = lf R S z j * lf R S p c := by
    rw [E_cons hzc]; rfl
  have a4 : lf R S p c * (det R S * lf (p :: R) (c :: S) x j) = lf R S p c * lf R S z j := by
    have : lf (p :: R) (c :: S) x j = E x (det (p :: R)) (j :: c :: S) := rfl
    rw [this]; grind
  rw [← hz]
  exact (Int.eq_of_mul_eq_mul_left h a4).symm
end Mn
end Pf

namespace Pf
namespace Mn
/-! shares in lowest terms -/
def frg (t b : Int) : Int := if b < 0 then -(Int.gcd t b : Nat) else (Int.gcd t b : Nat)
def frq (t b : Int) : Int × Int := (t.fdiv (frg t b), b.fdiv (frg t b))
theorem frg_ne {t b : Int} (h : b ≠ 0) : frg t b ≠ 0 := by
  have : Int.gcd t b ≠ 0 := fun z => h (Int.gcd_eq_zero_iff.mp z).2
  unfold frg; split <;> omega
theorem frg_dvd (t b : Int) : frg t b ∣ t ∧ frg t b ∣ b := by
  unfold frg
  split
  · exact ⟨Int.neg_dvd.mpr (Int.gcd_dvd_left ..), Int.neg_dvd.mpr (Int.gcd_dvd_right ..)⟩
  · exact ⟨Int.gcd_dvd_left .., Int.gcd_dvd_right ..⟩
theorem frq_eq {t b : Int} (h : b ≠ 0) : frg t b * (frq t b).1 = t ∧ frg t b * (frq t b).2 = b :=
  ⟨Int.mul_fdiv_cancel' (frg_dvd t b).1, Int.mul_fdiv_cancel' (frg_dvd t b).2⟩
theorem frq_cross {t b : Int} (h : b ≠ 0) : (frq t b).1 * b = t * (frq t b).2 := by
  obtain ⟨h1, h2⟩ := frq_eq (t := t) h
  generalize frg t b = g at *
  generalize (frq t b).1 = x at *
  generalize (frq t b).2 = y at *
  subst h1; subst h2; grind
theorem frq_pos {t b : Int} (h : b ≠ 0) : 0 < (frq t b).2 := by
  obtain ⟨h1, h2⟩ := frq_eq (t := t) h
  have g0 : (0 : Int) < (Int.gcd t b : Nat) := by
    have : Int.gcd t b ≠ 0 := fun z => h (Int.gcd_eq_zero_iff.mp z).2
    omega
  generalize (frq t b).2 = y at *
  unfold frg at h2
  split at h2
  · rename_i c
    rcases Int.lt_trichotomy 0 y with q | q | q
    · exact q
    · rw [← q] at h2; simp at h2; exact absurd h2.symm h
    · have := Int.mul_pos_of_neg_of_neg (a := -(Int.gcd t b : Int)) (by omega) q
      omega
  · rename_i c
    rcases Int.lt_trichotomy 0 y with q | q | q
    · exact q
    · rw [← q] at h2; simp at h2; exact absurd h2.symm h
    · have := Int.mul_neg_of_pos_of_neg g0 q
      omega
theorem frg_mul {k t b : Int} (hk : k ≠ 0) (h : b ≠ 0) : frg (k * t) (k * b) = k * frg t b := by
  unfold frg
  rw [Int.gcd_mul_left]
  have e : ((k.natAbs * Int.gcd t b : Nat) : Int) = (if k < 0 then -k else k) * (Int.gcd t b : Nat) := by
    rw [Int.natCast_mul]
    congr 1
    split <;> omega
  rw [e]
  rcases Int.lt_or_gt_of_ne hk with k1 | k1 <;> rcases Int.lt_or_gt_of_ne h with b1 | b1
  · have := Int.mul_pos_of_neg_of_neg k1 b1
    rw [if_neg (by omega), if_pos k1, if_pos b1]; grind
  · have := Int.mul_neg_of_neg_of_pos k1 b1
    rw [if_pos this, if_pos k1, if_neg (by omega)]; grind
  · have := Int.mul_neg_of_pos_of_neg k1 b1
    rw [if_pos this, if_neg (by omega), if_pos b1]; grind
  · have := Int.mul_pos k1 b1
    rw [if_neg (by omega), if_neg (by omega), if_neg (by omega)]
theorem frq_mul {k t b : Int} (hk : k ≠ 0) (h : b ≠ 0) : frq (k * t) (k * b) = frq t b := by
  have hg := frg_ne (t := t) h
  obtain ⟨h1, h2⟩ := frq_eq (t := t) h
  have e : ∀ x, (k * (frg t b * x)).fdiv (k * frg t b) = x := fun x => by
    rw [← Int.mul_assoc]; exact Int.mul_fdiv_cancel_left _ (Int.mul_ne_zero hk hg)
  unfold frq
  rw [frg_mul hk h]
  have e1 := e (frq t b).1
  have e2 := e (frq t b).2
  rw [h1] at e1
  rw [h2] at e2
  rw [e1, e2]; rfl
theorem frq_ext {a b c d : Int} (hb : b ≠ 0) (hd : d ≠ 0) (h : a * d = c * b) : frq a b = frq c d := by
  rw [← frq_mul (t := a) hd hb, ← frq_mul (t := c) hb hd]
  congr 1 <;> grind
theorem frq_zero {a b : Int} (hb : b ≠ 0) : (frq a b).1 = 0 ↔ a = 0 := by
  obtain ⟨h1, _⟩ := frq_eq (t := a) hb
  constructor
  · intro z; rw [← h1, z]; simp
  · intro z
    have : frg a b * (frq a b).1 = 0 := h1.trans z
    rcases Int.mul_eq_zero.mp this with q | q
    · exact absurd q (frg_ne hb)
    · exact q
theorem frq_inj {a b c d : Int} (hb : b ≠ 0) (hd : d ≠ 0) (h : frq a b = frq c d) : a * d = c * b := by
  have x := frq_cross (t := a) hb
  have y := frq_cross (t := c) hd
  rw [← h] at y
  have p := frq_pos (t := a) hb
  generalize (frq a b).1 = u at *
  generalize (frq a b).2 = v at *
  have : v * (a * d) = v * (c * b) := by grind
  exact Int.eq_of_mul_eq_mul_left (by omega) this
theorem frq_le (t b : Int) : (frq t b).1.natAbs ≤ t.natAbs ∧ (frq t b).2.natAbs ≤ b.natAbs := by
  have key : ∀ x y : Int, y ∣ x → (x.fdiv y).natAbs ≤ x.natAbs := fun x y h => by
    obtain ⟨z, rfl⟩ := h
    by_cases c : y = 0
    · subst c; simp
    · rw [Int.mul_fdiv_cancel_left _ c, Int.natAbs_mul]
      exact Nat.le_mul_of_pos_left _ (by omega)
  exact ⟨key _ _ (frg_dvd t b).1, key _ _ (frg_dvd t b).2⟩
def addq (x y : Int × Int) : Int × Int := frq (x.1 * y.2 + y.1 * x.2) (x.2 * y.2)
def subq (x y : Int × Int) : Int × Int := frq (x.1 * y.2 - y.1 * x.2) (x.2 * y.2)
def mulq (x y : Int × Int) : Int × Int := frq (x.1 * y.1) (x.2 * y.2)
def divq (x y : Int × Int) : Int × Int := frq (x.1 * y.2) (x.2 * y.1)
section
variable {a b c d : Int} (hb : b ≠ 0) (hd : d ≠ 0)
theorem nz2 {x y : Int} (h : 0 < x) (g : 0 < y) : x * y ≠ 0 := Int.mul_ne_zero (by omega) (by omega)
include hb hd
theorem addq_eq : addq (frq a b) (frq c d) = frq (a * d + c * b) (b * d) := by
  refine frq_ext (nz2 (frq_pos hb) (frq_pos hd)) (Int.mul_ne_zero hb hd) ?_
  have x := frq_cross (t := a) hb
  have y := frq_cross (t := c) hd
  generalize (frq a b).1 = u at *; generalize (frq a b).2 = v at *; generalize (frq c d).1 = u' at *; generalize (frq c d).2 = v' at *
  grind
theorem subq_eq : subq (frq a b) (frq c d) = frq (a * d - c * b) (b * d) := by
  refine frq_ext (nz2 (frq_pos hb) (frq_pos hd)) (Int.mul_ne_zero hb hd) ?_
  have x := frq_cross (t := a) hb
  have y := frq_cross (t := c) hd
  generalize (frq a b).1 = u at *; generalize (frq a b).2 = v at *; generalize (frq c d).1 = u' at *; generalize (frq c d).2 = v' at *
  grind
theorem mulq_eq : mulq (frq a b) (frq c d) = frq (a * c) (b * d) := by
  refine frq_ext (nz2 (frq_pos hb) (frq_pos hd)) (Int.mul_ne_zero hb hd) ?_
  have x := frq_cross (t := a) hb
  have y := frq_cross (t := c) hd
  generalize (frq a b).1 = u at *; generalize (frq a b).2 = v at *; generalize (frq c d).1 = u' at *; generalize (frq c d).2 = v' at *
  grind
theorem divq_eq (hc : c ≠ 0) : divq (frq a b) (frq c d) = frq (a * d) (b * c) := by
  have hz : (frq c d).1 ≠ 0 := fun z => hc ((frq_zero hd).mp z)
  refine frq_ext (Int.mul_ne_zero (by have := frq_pos (t := a) hb; omega) hz) (Int.mul_ne_zero hb hc) ?_
  have x := frq_cross (t := a) hb
  have y := frq_cross (t := c) hd
  generalize (frq a b).1 = u at *; generalize (frq a b).2 = v at *; generalize (frq c d).1 = u' at *; generalize (frq c d).2 = v' at *
  grind
end
/-! rows brought to steps -/
def unitR (c : Nat) : Row := fun j => if j = c then 1 else 0
theorem lf_unit {R : List Row} {S : List Nat} {c : Nat} (h : c ∉ S) (j : Nat) : lf R S (unitR c) j = det R S * unitR c j := by
  show E (unitR c) (det R) (j :: S) = _
  rw [E_cons (fun s hs => by unfold unitR; rw [if_neg]; intro z; exact h (z ▸ hs))]; grind
def swp {α : Type} (k g : Nat) (A : Nat → α) : Nat → α := fun i => if i = k then A g else if i = g then A k else A i
def bar (d : Int) (k c : Nat) (A : Nat → Row) : Nat → Row := fun i j => if i = k then A k j else (A k c * A i j - A i c * A k j).fdiv d
structure BS (X A : Nat → Row) (R : List Row) (sp : List Nat) (r : Nat) (d : Int) : Prop where
  len : R.length = sp.length
  le : sp.length ≤ r
  dd : d = det R sp.reverse
  nz : d ≠ 0
  np : ∀ i, sp.length ≤ i → i < r → ∀ j, A i j = lf R sp.reverse (X i) j
  pv : ∀ t s, sp[t]? = some s → ∀ j, A t j = d * unitR s j - lf R sp.reverse (unitR s) j
theorem BS.init {X : Nat → Row} {r : Nat} : BS X X [] [] r 1 :=
  ⟨rfl, Nat.zero_le _, rfl, by decide, fun i _ _ j => by show _ = E (X i) (det []) [j]; simp [E, det], fun t s h => by simp at h⟩
section
variable {X A : Nat → Row} {R : List Row} {sp : List Nat} {r : Nat} {d : Int} {g c : Nat}
theorem swp_lt {α : Type} {A : Nat → α} {k g t : Nat} (h : t < k) (hg : k ≤ g) : swp k g A t = A t := by unfold swp; rw [if_neg (by omega), if_neg (by omega)]
theorem swp_k {α : Type} {A : Nat → α} {k g : Nat} : swp k g A k = A g := by unfold swp; rw [if_pos rfl]
/-- both sides of a step's division -/
theorem BS.swap (b : BS X A R sp r d) (hg : sp.length ≤ g) (hr : g < r) : BS (swp sp.length g X) (swp sp.length g A) R sp r d := by
  refine ⟨b.len, b.le, b.dd, b.nz, fun i h1 h2 j => ?_, fun t s h j => ?_⟩
  · unfold swp
    split
    · exact b.np g hg hr j
    · split
      · exact b.np _ (Nat.le_refl _) (by omega) j
      · exact b.np i h1 h2 j
  · have := (List.getElem?_eq_some_iff.mp h).1
    rw [swp_lt this hg]; exact b.pv t s h j
theorem BS.exact (b : BS X A R sp r d) (hk : sp.length < r) (hc : ∀ s ∈ sp, s < c) (hp : A sp.length c ≠ 0) {i : Nat} (hi : i < r) (ne : i ≠ sp.length) (j : Nat) :
    A sp.length c * A i j - A i c * A sp.length j = d * (if sp.length ≤ i then lf (X sp.length :: R) (c :: sp.reverse) (X i) j else
      match sp[i]? with | some s => A sp.length c * unitR s j - lf (X sp.length :: R) (c :: sp.reverse) (unitR s) j | none => 0) := by
  have hk1 : ∀ j, A sp.length j = lf R sp.reverse (X sp.length) j := b.np _ (Nat.le_refl _) hk
  have hp' : lf R sp.reverse (X sp.length) c ≠ 0 := by rw [← hk1]; exact hp
  split
  · rename_i h
    have e := syl hp' (x := X i) j
    rw [b.np i h hi, b.np i h hi, hk1, hk1, b.dd]
    exact e
  · rename_i h
    have hl : i < sp.length := by omega
    rw [List.getElem?_eq_getElem hl]
    have hs : sp[i]? = some sp[i] := List.getElem?_eq_getElem hl
    have e := syl hp' (x := unitR sp[i]) j
    have u0 : unitR sp[i] c = 0 := by
      have := hc sp[i] (List.getElem_mem hl)
      unfold unitR; rw [if_neg (by omega)]
    dsimp only
    rw [b.pv i _ hs j, b.pv i _ hs c, u0, hk1, hk1]
    rw [← b.dd] at e
    grind
theorem BS.fd (b : BS X A R sp r d) (hk : sp.length < r) (hc : ∀ s ∈ sp, s < c) (hp : A sp.length c ≠ 0) {i : Nat} (hi : i < r) (ne : i ≠ sp.length) (j : Nat) :
    d * bar d sp.length c A i j = A sp.length c * A i j - A i c * A sp.length j := by
  unfold bar
  rw [if_neg ne]
  exact Int.mul_fdiv_cancel' ⟨_, b.exact hk hc hp hi ne j⟩
theorem BS.step1 (b : BS X A R sp r d) (hk : sp.length < r) (hc : ∀ s ∈ sp, s < c) (hp : A sp.length c ≠ 0) : BS X (bar d sp.length c A) (X sp.length :: R) (sp ++ [c]) r (A sp.length c) := by
  have hk1 : ∀ j, A sp.length j = lf R sp.reverse (X sp.length) j := b.np _ (Nat.le_refl _) hk
  have rv : (sp ++ [c]).reverse = c :: sp.reverse := by simp
  have val : ∀ i, i < r → i ≠ sp.length → ∀ j, bar d sp.length c A i j = if sp.length ≤ i then lf (X sp.length :: R) (c :: sp.reverse) (X i) j else
      match sp[i]? with | some s => A sp.length c * unitR s j - lf (X sp.length :: R) (c :: sp.reverse) (unitR s) j | none => 0 := fun i hi ne j => by
    have e := b.fd hk hc hp hi ne j
    rw [b.exact hk hc hp hi ne j] at e
    exact Int.eq_of_mul_eq_mul_left b.nz e
  refine ⟨by simp [b.len], by simp; omega, by rw [rv, hk1]; rfl, hp, fun i h1 h2 j => ?_, fun t s h j => ?_⟩
  · simp at h1
    rw [val i h2 (by omega) j, if_pos (by omega), rv]
  · rw [rv]
    by_cases ht : t < sp.length
    · rw [List.getElem?_append_left ht] at h
      rw [val t (by omega) (by omega) j, if_neg (by omega), h]
    · rw [List.getElem?_append_right (by omega)] at h
      have ht2 : t = sp.length := by
        have := (List.getElem?_eq_some_iff.mp h).1
        simp at this; omega
      subst ht2
      simp at h
      subst h
      have nc : c ∉ sp.reverse := fun z => by have := hc c (by simpa using z); omega
      have hp' : lf R sp.reverse (X sp.length) c ≠ 0 := by rw [← hk1]; exact hp
      have e := syl hp' (x := unitR c) j
      have uc : unitR c c = 1 := by unfold unitR; rw [if_pos rfl]
      rw [lf_unit nc, lf_unit nc, uc, ← b.dd] at e
      have e2 : d * A sp.length j = d * (A sp.length c * unitR c j - lf (X sp.length :: R) (c :: sp.reverse) (unitR c) j) := by
        rw [hk1 j, hk1 c]; grind
      unfold bar
      rw [if_pos rfl]
      exact Int.eq_of_mul_eq_mul_left b.nz e2
end
/-- rows all within 2^m -/
def Bd (m : Nat) (x : Row) : Prop := ∀ j, (x j).natAbs ≤ 2 ^ m
structure Bo (m : Nat) (X : Nat → Row) (R : List Row) (r : Nat) : Prop where
  x : ∀ i, i < r → Bd m (X i)
  r : ∀ y ∈ R, Bd m y
theorem Bo.swap {m : Nat} {X : Nat → Row} {R : List Row} {r k g : Nat} (b : Bo m X R r) (hk : k < r) (hg : g < r) : Bo m (swp k g X) R r :=
  ⟨fun i hi => by unfold swp; split; · exact b.x g hg
                  · split; · exact b.x k hk
                    · exact b.x i hi, b.r⟩
theorem Bo.step {m : Nat} {X : Nat → Row} {R : List Row} {r k : Nat} (b : Bo m X R r) (hk : k < r) : Bo m X (X k :: R) r :=
  ⟨b.x, fun y hy => by rcases List.mem_cons.mp hy with rfl | hy; · exact b.x k hk
                       · exact b.r y hy⟩
end Mn
end Pf

namespace Pf
namespace Mn
/-! the steps in a row, and the law's own beside them -/
def goods (r : Nat) (A : Nat → Row) (k c : Nat) : List Nat := ((List.range (r - k)).map (k + ·)).filter fun i => decide (A i c ≠ 0)
structure Ps where
  A : Nat → Row
  sp : List Nat
  d : Int
def pst (r : Nat) (s : Ps) (c : Nat) : Ps := match goods r s.A s.sp.length c with
  | [] => s
  | g :: _ => ⟨bar s.d s.sp.length c (swp s.sp.length g s.A), s.sp ++ [c], s.A g c⟩
theorem goods_mem {r : Nat} {A : Nat → Row} {k c g : Nat} (h : g ∈ goods r A k c) : k ≤ g ∧ g < r ∧ A g c ≠ 0 := by
  unfold goods at h
  obtain ⟨h1, h2⟩ := List.mem_filter.mp h
  obtain ⟨i, h3, h4⟩ := List.mem_map.mp h1
  have := List.mem_range.mp h3
  exact ⟨by omega, by omega, of_decide_eq_true h2⟩
/-- what holds of a state -/
structure Pok (m r n : Nat) (s : Ps) : Prop where
  ex : ∃ X R, BS X s.A R s.sp r s.d ∧ Bo m X R r
  lt : ∀ x ∈ s.sp, x < n
theorem Pok.init {m r : Nat} {A : Nat → Row} (h : ∀ i, i < r → Bd m (A i)) : Pok m r 0 ⟨A, [], 1⟩ := ⟨⟨A, [], BS.init, h, fun y z => by simp at z⟩, fun x z => by simp at z⟩
theorem Pok.mono {m r n n' : Nat} {s : Ps} (o : Pok m r n s) (h : n ≤ n') : Pok m r n' s := ⟨o.ex, fun x z => Nat.lt_of_lt_of_le (o.lt x z) h⟩
theorem Pok.step {m r n : Nat} {s : Ps} (o : Pok m r n s) : Pok m r (n + 1) (pst r s n) := by
  unfold pst
  split
  · exact o.mono (by omega)
  · rename_i g _ e
    obtain ⟨h1, h2, h3⟩ := goods_mem (g := g) (by rw [e]; simp)
    obtain ⟨X, R, b, bo⟩ := o.ex
    have b1 := b.swap h1 h2
    have q := swp_k (A := s.A) (k := s.sp.length) (g := g)
    have h3' : swp s.sp.length g s.A s.sp.length n ≠ 0 := by rw [q]; exact h3
    have b2 := b1.step1 (by omega) o.lt h3'
    rw [q] at b2
    exact ⟨⟨_, _, b2, (bo.swap (by omega) h2).step (by omega)⟩, fun x hx => by
      rcases List.mem_append.mp hx with hx | hx
      · have := o.lt x hx; omega
      · simp at hx; omega⟩
/-! the law's -/
structure Ls where
  L : Nat → Nat → Int × Int
  k : Nat
def lgoods (r : Nat) (L : Nat → Nat → Int × Int) (k c : Nat) : List Nat := ((List.range (r - k)).map (k + ·)).filter fun i => decide ((L i c).1 ≠ 0)
def lead (k c : Nat) (L : Nat → Nat → Int × Int) : Nat → Nat → Int × Int := fun i j => if i = k then divq (L k j) (L k c) else L i j
def lrow (k c i : Nat) (L : Nat → Nat → Int × Int) : Nat → Int × Int := fun j => if i = k ∨ (L i c).1 = 0 then L i j else subq (L i j) (mulq (L i c) (L k j))
def lstep (k c : Nat) (L : Nat → Nat → Int × Int) : Nat → Nat → Int × Int := fun i => lrow k c i (lead k c L)
def lst (r : Nat) (s : Ls) (c : Nat) : Ls := match lgoods r s.L s.k c with
  | [] => s
  | g :: _ => ⟨lstep s.k c (swp s.k g s.L), s.k + 1⟩
/-- column weights: b where it is a column of the table, 1 in the unit's -/
def sg (n : Nat) (b : Int) (j : Nat) : Int := if j < n then b else 1
theorem sg_ne {n : Nat} {b : Int} (hb : b ≠ 0) (j : Nat) : sg n b j ≠ 0 := by unfold sg; split; exact hb; decide
/-- law and program side by side -/
structure Lk (r w n : Nat) (b : Int) (s : Ps) (l : Ls) : Prop where
  k : l.k = s.sp.length
  hi : ∀ i, l.k ≤ i → i < r → ∀ j, j < w → l.L i j = frq (s.A i j) (s.d * sg n b j)
  lo : ∀ i, i < l.k → i < r → ∀ j, j < w → l.L i j = frq (s.A i j * b) (s.d * sg n b j)
section
variable {r w n m c : Nat} {b : Int} {s : Ps} {l : Ls}
theorem Lk.goods (h : Lk r w n b s l) (hd : s.d ≠ 0) (hb : b ≠ 0) (hw : c < w) : lgoods r l.L l.k c = goods r s.A s.sp.length c := by
  unfold lgoods Mn.goods
  rw [h.k]
  refine List.filter_congr fun i hi => ?_
  obtain ⟨i', h1, h2⟩ := List.mem_map.mp hi
  have h1 := List.mem_range.mp h1
  have e := h.hi i (by rw [h.k]; omega) (by omega) c hw
  rw [e]
  have := frq_zero (a := s.A i c) (Int.mul_ne_zero hd (sg_ne (n := n) hb c))
  simp only [ne_eq, decide_eq_decide]
  rw [this]
theorem Lk.swap {g : Nat} (h : Lk r w n b s l) (hk : l.k < r) (h1 : l.k ≤ g) (h2 : g < r) : Lk r w n b ⟨swp s.sp.length g s.A, s.sp, s.d⟩ ⟨swp l.k g l.L, l.k⟩ := by
  refine ⟨h.k, fun i hi hr j hj => ?_, fun i hi hr j hj => ?_⟩
  · have hi : l.k ≤ i := hi
    rw [← h.k]
    show swp l.k g l.L i j = frq (swp l.k g s.A i j) _
    unfold swp
    split
    · exact h.hi g h1 h2 j hj
    · split
      · exact h.hi l.k (Nat.le_refl _) hk j hj
      · exact h.hi i hi hr j hj
  · have hi : i < l.k := hi
    rw [← h.k]
    show swp l.k g l.L i j = frq (swp l.k g s.A i j * b) _
    rw [swp_lt hi h1, swp_lt hi h1]
    exact h.lo i hi hr j hj
theorem Lk.step (h : Lk r w n b s l) (o : Pok m r c s) (hb : b ≠ 0) (hc : c < n) (hw : c < w) : Lk r w n b (pst r s c) (lst r l c) := by
  obtain ⟨X, R, bs, bo⟩ := o.ex
  have hd := bs.nz
  have eg := h.goods hd hb hw
  unfold pst lst
  rw [eg]
  split
  · exact h
  · rename_i g gs e
    obtain ⟨h1, h2, h3⟩ := goods_mem (g := g) (by rw [e]; simp)
    have hk : l.k < r := by rw [h.k]; omega
    have h1 := h.swap hk (by rw [h.k]; exact h1) h2
    rename_i h1'
    have bs2 := bs.swap h1' h2
    have q := swp_k (A := s.A) (k := s.sp.length) (g := g)
    rw [← h.k] at bs2 q ⊢
    have h1 : Lk r w n b ⟨swp l.k g s.A, s.sp, s.d⟩ ⟨swp l.k g l.L, l.k⟩ := by
      have := h1; rwa [← h.k] at this
    have fd := fun {i : Nat} (hi : i < r) (ne : i ≠ l.k) (j : Nat) => bs2.fd (c := c) (by rw [← h.k]; exact hk) o.lt (by rw [← h.k, q]; exact h3) hi (by rw [← h.k]; exact ne) j
    rw [← h.k] at fd
    rw [← q] at h3 ⊢
    generalize swp l.k g s.A = A at *
    generalize swp l.k g l.L = L at *
    generalize hkk : l.k = k at *
    -- the entries
    have sc : sg n b c = b := by unfold sg; rw [if_pos hc]
    have top : ∀ j, j < w → L k j = frq (A k j) (s.d * sg n b j) := fun j hj => h1.hi k (Nat.le_refl _) hk j hj
    have tc := top c hw
    rw [sc] at tc
    have db : s.d * b ≠ 0 := Int.mul_ne_zero hd hb
    have ds : ∀ j, s.d * sg n b j ≠ 0 := fun j => Int.mul_ne_zero hd (sg_ne hb j)
    have As : ∀ j, A k c * sg n b j ≠ 0 := fun j => Int.mul_ne_zero h3 (sg_ne hb j)
    have ld : ∀ j, j < w → lead k c L k j = frq (A k j * b) (A k c * sg n b j) := fun j hj => by
      unfold lead
      rw [if_pos rfl, top j hj, tc, divq_eq (ds j) db h3]
      exact frq_ext (Int.mul_ne_zero (ds j) h3) (As j) (by grind)
    refine ⟨by show k + 1 = (s.sp ++ [c]).length; rw [List.length_append, ← h.k, hkk]; rfl, fun i hi hr j hj => ?_, fun i hi hr j hj => ?_⟩
    · have hi : k + 1 ≤ i := hi
      show lrow k c i (lead k c L) j = frq (bar s.d k c A i j) (A k c * sg n b j)
      have ei : ∀ j, lead k c L i j = L i j := fun j => by unfold lead; rw [if_neg (by omega)]
      have f := fd hr (by omega) j
      have e0 := h1.hi i (by show k ≤ i; omega) hr j hj
      have ec := h1.hi i (by show k ≤ i; omega) hr c hw
      simp only at e0 ec
      rw [sc] at ec
      unfold lrow
      rw [ei, ei, ld j hj, ec, e0]
      split
      · rename_i z
        have z : A i c = 0 := by
          rcases z with z | z
          · omega
          · exact (frq_zero db).mp z
        rw [z] at f
        exact frq_ext (ds j) (As j) (by grind)
      · rw [mulq_eq db (As j), subq_eq (ds j) (Int.mul_ne_zero db (As j))]
        refine frq_ext (Int.mul_ne_zero (ds j) (Int.mul_ne_zero db (As j))) (As j) ?_
        generalize sg n b j = σ at *
        generalize bar s.d k c A i j = y at *
        grind
    · have hi : i < k + 1 := hi
      show lrow k c i (lead k c L) j = frq (bar s.d k c A i j * b) (A k c * sg n b j)
      by_cases ik : i = k
      · subst ik
        unfold lrow bar
        rw [if_pos (.inl rfl), if_pos rfl]
        exact ld j hj
      · have ei : ∀ j, lead k c L i j = L i j := fun j => by unfold lead; rw [if_neg ik]
        have f := fd hr ik j
        have e0 := h1.lo i (by show i < k; omega) hr j hj
        have ec := h1.lo i (by show i < k; omega) hr c hw
        simp only at e0 ec
        rw [sc] at ec
        unfold lrow
        rw [ei, ei, ld j hj, ec, e0]
        split
        · rename_i z
          have z : A i c = 0 := by
            rcases z with z | z
            · exact absurd z ik
            · have := (frq_zero db).mp z
              rcases Int.mul_eq_zero.mp this with z | z
              · exact z
              · exact absurd z hb
          rw [z] at f
          exact frq_ext (ds j) (As j) (by grind)
        · rw [mulq_eq db (As j), subq_eq (ds j) (Int.mul_ne_zero db (As j))]
          refine frq_ext (Int.mul_ne_zero (ds j) (Int.mul_ne_zero db (As j))) (As j) ?_
          generalize sg n b j = σ at *
          generalize bar s.d k c A i j = y at *
          grind
end
end Mn
end Pf

namespace Pf.Mn
abbrev Mq := Nat → Nat → Int × Int
abbrev Mi := Nat → Nat → Int
/-- whole numbers over one bottom, for a table of shares -/
structure Gp (n m : Nat) (L : Mq) (A : Mi) (b : Int) : Prop where
  nz : b ≠ 0
  bb : b.natAbs ≤ 2 ^ m
  el : ∀ i, i < n → ∀ j, j < n → (A i j).natAbs ≤ 2 ^ m ∧ L i j = frq (A i j) b
section
variable {n m m1 m2 : Nat} {L M : Mq} {A B : Mi} {b c : Int}
theorem Gp.mono (h : Gp n m L A b) {m' : Nat} (l : m ≤ m') : Gp n m' L A b :=
  have p := Nat.pow_le_pow_right (n := 2) (by decide) l
  ⟨h.nz, Nat.le_trans h.bb p, fun i hi j hj => ⟨Nat.le_trans (h.el i hi j hj).1 p, (h.el i hi j hj).2⟩⟩
theorem Gp.light {g b' : Int} {A' : Mi} (h : Gp n m L A b) (eb : b = g * b') (eA : ∀ i, i < n → ∀ j, j < n → A i j = g * A' i j) : Gp n m L A' b' := by
  have hg : g ≠ 0 := fun z => h.nz (by rw [eb, z, Int.zero_mul])
  have hb : b' ≠ 0 := fun z => h.nz (by rw [eb, z, Int.mul_zero])
  have le : ∀ x : Int, x.natAbs ≤ (g * x).natAbs := fun x => by
    rw [Int.natAbs_mul]; exact Nat.le_mul_of_pos_left _ (by omega)
  refine ⟨hb, Nat.le_trans (le b') (eb ▸ h.bb), fun i hi j hj => ?_⟩
  obtain ⟨h1, h2⟩ := h.el i hi j hj
  rw [eA i hi j hj] at h1 h2
  refine ⟨Nat.le_trans (le _) h1, ?_⟩
  rw [h2, eb, frq_mul hg hb]
def one (i j : Nat) : Int := if i = j then 1 else 0
def shM (s : Int × Int) : Mq := fun i j => mulq (one i j, 1) s
theorem one_le (i j : Nat) : (one i j).natAbs ≤ 1 := by unfold one; split <;> decide
theorem Gp.sh {s : Int × Int} (h : 0 < s.2) (h1 : s.1.natAbs ≤ 2 ^ m) (h2 : s.2.natAbs ≤ 2 ^ m) : Gp n m (shM s) (fun i j => s.1 * one i j) s.2 := by
  refine ⟨by omega, h2, fun i _ j _ => ⟨?_, ?_⟩⟩
  · rw [Int.natAbs_mul]
    exact Nat.le_trans (Nat.mul_le_mul_left _ (one_le i j)) (by omega)
  · show frq (one i j * s.1) (1 * s.2) = _
    rw [Int.one_mul, Int.mul_comm]
def addM (L M : Mq) : Mq := fun i j => addq (L i j) (M i j)
def negM (M : Mq) : Mq := fun i j => mulq (M i j) (0 - 1, 1)
theorem mul_le {x y : Int} (h1 : x.natAbs ≤ 2 ^ m1) (h2 : y.natAbs ≤ 2 ^ m2) : (x * y).natAbs ≤ 2 ^ (m1 + m2) := by
  rw [Int.natAbs_mul, Nat.pow_add]; exact Nat.mul_le_mul h1 h2
theorem two_add {x y : Int} {k : Nat} (h1 : x.natAbs ≤ 2 ^ k) (h2 : y.natAbs ≤ 2 ^ k) : (x + y).natAbs ≤ 2 ^ (k + 1) := by
  rw [Nat.pow_succ]; omega
theorem Gp.bot (h : Gp n m1 L A b) (g : Gp n m2 M B c) : b * c ≠ 0 ∧ (b * c).natAbs ≤ 2 ^ (m1 + m2) := ⟨Int.mul_ne_zero h.nz g.nz, mul_le h.bb g.bb⟩
theorem negq (hc : c ≠ 0) (x : Int) : mulq (frq x c) (0 - 1, 1) = frq (-x) c := by
  have e : ((0 - 1 : Int), (1 : Int)) = frq (-1) 1 := by decide
  rw [e, mulq_eq hc (by decide)]
  congr 1 <;> omega
theorem Gp.less (h : Gp n m1 L A b) (g : Gp n m2 M B c) : Gp n (m1 + m2 + 1) (addM L (negM M)) (fun i j => A i j * c + -1 * B i j * b) (b * c) := by
  obtain ⟨z1, z2⟩ := h.bot g
  refine ⟨z1, Nat.le_trans z2 (Nat.pow_le_pow_right (by decide) (by omega)), fun i hi j hj => ?_⟩
  obtain ⟨h1, h2⟩ := h.el i hi j hj
  obtain ⟨g1, g2⟩ := g.el i hi j hj
  have e : -1 * B i j = -(B i j) := by omega
  refine ⟨two_add (mul_le h1 g.bb) ?_, ?_⟩
  · rw [e, Nat.add_comm m1 m2]; exact mul_le (by omega) h.bb
  · show addq (L i j) (mulq (M i j) (0 - 1, 1)) = _
    rw [h2, g2, negq g.nz, addq_eq h.nz g.nz, e]
def dotP (L M : Mq) (i j k : Nat) : Int × Int := (List.range k).foldl (fun a t => addq a (mulq (L i t) (M t j))) (0, 1)
def sumP (A B : Mi) (i j k : Nat) : Int := ((List.range k).map fun t => A i t * B t j).sum
def dotM (n : Nat) (L M : Mq) : Mq := fun i j => dotP L M i j n
theorem dotP_succ {i j k : Nat} : dotP L M i j (k + 1) = addq (dotP L M i j k) (mulq (L i k) (M k j)) := by
  unfold dotP; rw [List.range_succ, List.foldl_append]; rfl
theorem sumP_succ {i j k : Nat} : sumP A B i j (k + 1) = sumP A B i j k + A i k * B k j := by
  unfold sumP; rw [List.range_succ, List.map_append, List.sum_append]; simp
theorem frq_nought (hb : b ≠ 0) : frq 0 b = (0, 1) := by
  have e : ((0 : Int), (1 : Int)) = frq 0 1 := by decide
  rw [e]; exact frq_ext hb (by decide) (by omega)
theorem dot_part (h : Gp n m1 L A b) (g : Gp n m2 M B c) {i j : Nat} (hi : i < n) (hj : j < n) : ∀ k, k ≤ n → dotP L M i j k = frq (sumP A B i j k) (b * c) ∧ (sumP A B i j k).natAbs ≤ k * 2 ^ (m1 + m2)
  | 0, _ => ⟨by show ((0 : Int), (1 : Int)) = frq 0 _; rw [frq_nought (h.bot g).1], by simp [sumP]⟩
  | k + 1, hk => by
    obtain ⟨e1, e2⟩ := dot_part h g hi hj k (by omega)
    obtain ⟨h1, h2⟩ := h.el i hi k (by omega)
    obtain ⟨g1, g2⟩ := g.el k (by omega) j hj
    have z := (h.bot g).1
    have q := mul_le h1 g1
    rw [dotP_succ, sumP_succ, e1, h2, g2, mulq_eq h.nz g.nz, addq_eq z z]
    refine ⟨?_, by rw [Nat.succ_mul]; omega⟩
    rw [← Int.add_mul, Int.mul_comm _ (b * c), frq_mul z z]
theorem Gp.mul (h4 : n ≤ 4) (h : Gp n m1 L A b) (g : Gp n m2 M B c) : Gp n (m1 + m2 + 2) (dotM n L M) (fun i j => sumP A B i j n) (b * c) := by
  obtain ⟨z1, z2⟩ := h.bot g
  refine ⟨z1, Nat.le_trans z2 (Nat.pow_le_pow_right (by decide) (by omega)), fun i hi j hj => ?_⟩
  obtain ⟨e1, e2⟩ := dot_part h g hi hj n (Nat.le_refl _)
  refine ⟨Nat.le_trans e2 ?_, e1⟩
  rw [Nat.pow_add 2 (m1 + m2) 2, Nat.mul_comm n]
  exact Nat.mul_le_mul_left _ (by omega)
theorem frq_one (x : Int) : frq x 1 = (x, 1) := by
  have e : frg x 1 = 1 := by unfold frg; rw [if_neg (by decide), Int.gcd_one]; rfl
  unfold frq; rw [e]; simp
/-- a table less itself -/
theorem Gp.nil (h : Gp n m1 L A b) (g : Gp n m2 (addM L (negM L)) B c) : ∀ i, i < n → ∀ j, j < n → B i j = 0 := fun i hi j hj => by
  have e := ((h.less h).el i hi j hj).2
  rw [(g.el i hi j hj).2] at e
  have e2 : A i j * b + -1 * A i j * b = 0 := by grind
  rw [e2, frq_nought (h.bot h).1] at e
  have : (frq (B i j) c).1 = 0 := by rw [e]
  exact (frq_zero g.nz).mp this
end
end Pf.Mn

namespace Pf.Mn
section
variable {f g : Nat → Int} {n m : Nat}
end
section
variable {m r n c N : Nat} {s : Ps} {w : Row}
end
section
variable {m r n c N : Nat} {A : Nat → Row} {w : Row}
end
section
variable {n m : Nat} {L : Mq} {A : Mi} {b : Int}
end
end Pf.Mn

namespace Pf.Mn
section
variable {r r2 k c : Nat} {A A2 : Nat → Row}
end
section
variable {n m m2 : Nat} {A B : Mi}
end
/-! shares and what they are -/
def Vl (x : Int × Int) (q : Rat) : Prop := ∃ a b : Int, b ≠ 0 ∧ x = frq a b ∧ (a : Rat) = q * (b : Rat)
theorem castI {b : Int} (h : b ≠ 0) : (b : Rat) ≠ 0 := fun z => h (Rat.intCast_inj.mp z)
section
variable {x y : Int × Int} {p q : Rat}
theorem Vl.mul (h : Vl x p) (g : Vl y q) : Vl (mulq x y) (p * q) := by
  obtain ⟨a, b, hb, rfl, e⟩ := h
  obtain ⟨c, d, hd, rfl, f⟩ := g
  refine ⟨_, _, Int.mul_ne_zero hb hd, mulq_eq hb hd, ?_⟩
  rw [Rat.intCast_mul, Rat.intCast_mul]; grind
theorem Vl.inj (h : Vl x p) (g : Vl y p) : x = y := by
  obtain ⟨a, b, hb, rfl, e⟩ := h
  obtain ⟨c, d, hd, rfl, f⟩ := g
  refine frq_ext hb hd (Rat.intCast_inj.mp ?_)
  rw [Rat.intCast_mul, Rat.intCast_mul]; grind
theorem Vl.uni (h : Vl x p) (g : Vl x q) : p = q := by
  obtain ⟨a, b, hb, rfl, e⟩ := h
  obtain ⟨c, d, hd, e2, f⟩ := g
  have z := congrArg (fun i : Int => (i : Rat)) (frq_inj hb hd e2)
  have hb := castI hb
  have hd := castI hd
  rw [Rat.intCast_mul, Rat.intCast_mul] at z
  have : (p - q) * ((b : Rat) * d) = 0 := by grind
  grind
theorem Vl.frq {a b : Int} (hb : b ≠ 0) (e : (a : Rat) = p * (b : Rat)) : Vl (frq a b) p := ⟨a, b, hb, rfl, e⟩
theorem Vl.int (a : Int) : Vl (a, 1) (a : Rat) := ⟨a, 1, by decide, (frq_one a).symm, by grind⟩
theorem Vl.sh {s : Int × Int} (h : s.2 ≠ 0) (low : s = Mn.frq s.1 s.2) : Vl s ((s.1 : Rat) / (s.2 : Rat)) := ⟨s.1, s.2, h, low, by have := castI h; grind⟩
end
section
variable {f g : Nat → Rat} {n m : Nat}
end
abbrev Mr := Nat → Nat → Rat
section
variable {n : Nat} {X Y X2 Y2 P N : Mr}
end
section
variable {n m m2 mF : Nat} {L L2 F : Mq} {A A2 AF : Mi} {b b2 bF : Int} {X X2 : Mr}
theorem Gp.vl (g : Gp n m L A b) : ∀ i, i < n → ∀ j, j < n → Vl (L i j) ((A i j : Rat) / (b : Rat)) := fun i hi j hj => by
  rw [(g.el i hi j hj).2]
  exact Vl.frq g.nz (by have := castI g.nz; grind)
theorem Gp.at_ (g : Gp n m L A b) {i j : Nat} (hi : i < n) (hj : j < n) {q : Rat} (h : Vl (L i j) q) : (A i j : Rat) = q * (b : Rat) := by
  rw [h.uni (g.vl i hi j hj)]
  have := castI g.nz; grind
end
end Pf.Mn

namespace Pf
namespace Mn
/-! rows times numbers: the same steps -/
def Rsc (r : Nat) (A B : Nat → Row) : Prop := ∃ u v : Nat → Int, ∀ i, i < r → u i ≠ 0 ∧ v i ≠ 0 ∧ ∀ j, A i j * u i = B i j * v i
theorem Rsc.zero {r : Nat} {A B : Nat → Row} (h : Rsc r A B) {i : Nat} (hi : i < r) (j : Nat) : A i j = 0 ↔ B i j = 0 := by
  obtain ⟨u, v, h⟩ := h
  obtain ⟨h1, h2, h3⟩ := h i hi
  have e := h3 j
  constructor
  · intro z
    rw [z, Int.zero_mul] at e
    exact (Int.mul_eq_zero.mp e.symm).resolve_right h2
  · intro z
    rw [z, Int.zero_mul] at e
    exact (Int.mul_eq_zero.mp e).resolve_right h1
end Mn
end Pf

namespace Pf
open PySem PySem.Spec PyProof.Rows L2 L3
local macro_rules | `(tactic| fail) => `(tactic| first
  | with_reducible refine wp_seqSet ?_
  | with_reducible refine wp_seqAsg ?_
  | with_reducible refine wp_seqPar ?_
  | with_reducible refine wp_seqPar3 ?_
  | with_reducible refine wp_seqFset ?_
  | with_reducible refine wp_seqFaug ?_
  | with_reducible refine wp_sFset ?_
  | with_reducible refine wp_sFaug ?_
  | with_reducible refine wp_meth ?_
  | with_reducible refine wp_make ?_
  | with_reducible refine wp_methX ?_
  | with_reducible refine wp_makeX ?_
  | with_reducible refine wp_sPar3 ?_
  | with_reducible refine three_ok ?_
  | with_reducible refine wp_seqAug ?_
  | with_reducible refine wp_seqExpr ?_
  | with_reducible refine wp_seqSub ?_
  | with_reducible refine wp_seqNil ?_
  | with_reducible refine wp_seqFor ?_
  | with_reducible refine wp_seqWhile ?_
  | with_reducible refine wp_seqStar ?_
  | with_reducible refine wp_seqForK ?_
  | with_reducible refine wp_seqDput ?_
  | with_reducible refine wp_seqMul ?_
  | with_reducible refine wp_sSet ?_
  | with_reducible refine wp_sRet ?_
  | with_reducible refine wp_sNil ?_
  | with_reducible refine wp_sIf ?_
  | with_reducible refine wp_sPar ?_
  | with_reducible refine wp_sAsg ?_
  | with_reducible refine wp_sSub ?_
  | with_reducible refine wp_sFor ?_
  | with_reducible refine wp_sRaise ?_
  | with_reducible refine wp_sExpr ?_
  | with_reducible refine wp_sRetN ?_
  | with_reducible refine wp_sBreak ?_
  | with_reducible refine wp_sCont ?_
  | ((with_reducible refine wp_varE ?_); refine ⟨_, rfl, ?_⟩)
  | with_reducible refine wp_c ?_
  | with_reducible refine wp_B ?_
  | with_reducible refine wp_U ?_
  | with_reducible refine wp_T ?_
  | with_reducible refine wp_andT ?_
  | with_reducible refine wp_orT ?_
  | with_reducible refine wp_notT ?_
  | with_reducible refine wp_andV ?_
  | with_reducible refine wp_orV ?_
  | with_reducible refine wp_notV ?_
  | with_reducible refine wp_if ?_
  | with_reducible refine wp_nil ?_
  | with_reducible refine wp_cons ?_
  | with_reducible refine wp_tup ?_
  | with_reducible refine wp_lst ?_
  | with_reducible refine wp_lstC ?_
  | with_reducible refine wp_call ?_
  | with_reducible refine wp_callD ?_
  | with_reducible refine wp_callB ?_
  | with_reducible refine wp_m ?_
  | with_reducible refine wp_oNone ?_
  | with_reducible refine wp_oSome ?_
  | with_reducible refine wp_sl ?_
  | with_reducible refine wp_tried ?_
  | with_reducible refine wp_asked ?_
  | with_reducible refine wp_seqOut ?_
  | with_reducible refine wp_asks ?_
  | with_reducible refine wp_asksC ?_
  | with_reducible refine wp_asksN ?_
  | with_reducible refine wp_chain ?_
  | with_reducible refine wp_enum ?_
  | with_reducible refine wp_enumB ?_
  | with_reducible refine wp_zip ?_
  | with_reducible refine wp_joinedT ?_
  | with_reducible refine wp_jNil ?_
  | with_reducible refine wp_jT ?_
  | with_reducible refine wp_lc ?_
  | with_reducible refine wp_lcC ?_
  | with_reducible refine wp_yes ?_
  | with_reducible refine wp_iAny ?_
  | with_reducible refine wp_range1 ?_
  | with_reducible refine wp_range2 ?_
  | with_reducible refine wp_sStar ?_
  | with_reducible refine wp_sDput ?_
  | with_reducible refine wp_sMul ?_
  | with_reducible refine wp_mNil ?_
  | with_reducible refine wp_mCons ?_
  | with_reducible refine wp_mSub ?_
  | with_reducible refine wp_mSubD ?_
  | with_reducible refine wp_dget2 ?_
  | with_reducible refine wp_disp ?_
  | with_reducible refine wp_pNil ?_
  | with_reducible refine wp_pCons ?_)
local macro_rules | `(tactic| fail) => `(tactic| first
  | with_reducible refine wp_eqI ?_
  | with_reducible refine wp_neI ?_
  | with_reducible refine wp_eqB ?_
  | with_reducible refine wp_neB ?_
  | ((with_reducible refine wp_eqStr ?_ ?_ ?_); decide +kernel; decide +kernel)
  | ((with_reducible refine wp_neStr ?_ ?_ ?_); decide +kernel; decide +kernel)
  | with_reducible refine wp_addI ?_
  | with_reducible refine wp_addII ?_
  | with_reducible refine wp_subI ?_
  | with_reducible refine wp_ltI ?_
  | with_reducible refine wp_leI ?_
  | with_reducible refine wp_gtI ?_
  | with_reducible refine wp_geI ?_
  | with_reducible refine wp_negI ?_
  | with_reducible refine wp_intI ?_
  | with_reducible refine wp_intB ?_
  | with_reducible refine wp_absI ?_
  | with_reducible refine wp_un ?_
  | ((with_reducible refine wp_mul ?_ ?_); first | exact mulOk_right (by decide) | exact mulOk_left (by decide) | exact mulOk_mod (by decide) (by decide))
  | ((with_reducible refine wp_mod ?_ ?_); decide)
  | ((with_reducible refine wp_fdiv ?_ ?_ ?_); decide; exact pylong_200 (by decide))
  | with_reducible refine wp_pow18 ?_
  | with_reducible refine wp_pow12 ?_
  | with_reducible refine wp_pow40 ?_
  | ((with_reducible refine wp_ixE ?_); refine ⟨_, rfl, ?_⟩)
  | with_reducible refine wp_len0 ?_
  | with_reducible refine wp_len1 ?_
  | with_reducible refine wp_len2 ?_
  | with_reducible refine wp_len3 ?_
  | with_reducible refine wp_lenT1 ?_
  | with_reducible refine wp_lenT2 ?_
  | with_reducible refine wp_lenT3 ?_
  | ((with_reducible refine wp_lenE ?_); refine ⟨_, rfl, ?_⟩)
  | ((with_reducible refine wp_listOfE ?_); refine ⟨_, rfl, ?_⟩)
  | ((with_reducible refine wp_isiE ?_); refine ⟨_, rfl, ?_⟩)
  | ((with_reducible refine wp_isNE ?_); refine ⟨_, rfl, ?_⟩)
  | ((with_reducible refine wp_notNE ?_); refine ⟨_, rfl, ?_⟩)
  | ((with_reducible refine wp_slE ?_); refine ⟨_, rfl, ?_⟩)
  | ((with_reducible refine sub_okE ?_); refine ⟨_, rfl, ?_⟩)
  | with_reducible refine Exists.intro _ (And.intro rfl ?_)
  | with_reducible refine Exists.intro _ (Exists.intro _ (And.intro rfl ?_))
  | ((with_reducible refine len_eq ?_ ?_); exact rfl)
  | ((with_reducible refine rng_ok ?_ ?_); omega)
  | ((with_reducible refine rng2_ok ?_ ?_); omega)
  | ((with_reducible refine rngD_len ?_ ?_); omega)
  | ((with_reducible refine len_100 ?_ ?_); exact Nat.le_of_ble_eq_true rfl)
  | ((with_reducible refine isTy_ok ?_ ?_); exact rfl)
  | ((with_reducible refine br_t ?_ ?_); first | with_reducible exact rfl | decide)
  | ((with_reducible refine br_f ?_ ?_); first | with_reducible exact rfl | decide)
  | with_reducible refine br_d (fun _ => ?_) (fun _ => ?_)
  | with_reducible refine br_n (fun _ => ?_) (fun _ => ?_))
/-- the bag of draws: what is left of the script, how many are taken, what is left of a great one, the state, how often -/
def Bg (g : MO) : Prop := ∃ (ns : List Int) (i r s c : Int), g = .lst [.lst (ns.map D.int), .int i, .int r, .int s, .int c] ∧ 0 ≤ i ∧ i ≤ ns.length ∧ ns.length ≤ 63 ∧ 0 ≤ r
theorem wp_pull {g : MO} {m : Sto} {s : Int} {Q : D → Sto → Prop} {E : Exs} (h : Bg g) (hs : 0 < s) (h2 : s < 2 ^ 200) (q : ∀ v g', 0 ≤ v → v < s → Bg g' → Q (.int v) (g' :: m)) : (f__law_pull [.cell 0, .int s] (g :: m)).wp Q E := by
  obtain ⟨ns, i, r, st, c, rfl, h3, h4, h5, h6⟩ := h
  have py : Builtin.divisionGoesByPylong st s = false := pylong_200 (by omega)
  unfold f__law_pull
  with_reducible refine wp_fn ?_
  unfold b__law_pull
  refine wp_cut (N0 := fun ρ1 μ1 => ∃ x i r st c, ρ1 = [some (.cell 0), some (.int s), x, none, none] ∧ μ1 = .lst [.lst (ns.map D.int), .int i, .int r, .int st, .int c] :: m ∧ 0 ≤ i ∧ i ≤ ns.length ∧ 0 ≤ r) ?_ ?_
  · repeat (first | fail | with_reducible refine wp_sSeq ?_)
    · rename_i hi
      have hi : i < ns.length := by simpa using hi
      have h1 : i.toNat < ns.length := by omega
      refine wp_ix (ix_lst (x := .int ns[i.toNat]) h3 (by rw [List.getElem?_map, List.getElem?_eq_getElem h1]; rfl)) ?_
      repeat (first | fail | with_reducible refine wp_sSeq ?_)
      · rename_i hg
        exact ⟨_, _, _, _, _, rfl, rfl, by omega, by omega, by omega⟩
      · repeat (first | fail | with_reducible refine wp_sSeq ?_)
        exact ⟨_, _, _, _, _, rfl, rfl, by omega, by omega, h6⟩
    · repeat (first | fail | with_reducible refine wp_sSeq ?_)
      exact ⟨_, _, _, _, _, rfl, rfl, h3, h4, h6⟩
    · repeat (first | fail | with_reducible refine wp_sSeq ?_)
      exact ⟨_, _, _, _, _, rfl, rfl, h3, h4, h6⟩
  · rintro ρ1 μ1 ⟨x, i, r, st, c, rfl, rfl, h3, h4, h6⟩
    repeat (first | fail | with_reducible refine wp_sSeq ?_)
    · refine wp_mod (by omega) ?_
      repeat (first | fail | with_reducible refine wp_sSeq ?_)
      refine wp_fdiv (by omega) (pylong_200 (by omega)) ?_
      repeat (first | fail | with_reducible refine wp_sSeq ?_)
      exact q _ _ (Int.fmod_nonneg_of_pos _ hs) (Int.fmod_lt_of_pos _ hs) ⟨ns, _, _, _, _, rfl, h3, h4, h5, by rw [Int.fdiv_eq_ediv_of_nonneg _ (Int.le_of_lt hs)]; exact Int.ediv_nonneg h6 (Int.le_of_lt hs)⟩
    · repeat (first | fail | with_reducible refine wp_sSeq ?_)
      refine wp_mod (by omega) ?_
      repeat (first | fail | with_reducible refine wp_sSeq ?_)
      exact q _ _ (Int.fmod_nonneg_of_pos _ hs) (Int.fmod_lt_of_pos _ hs) ⟨ns, _, _, _, _, rfl, h3, h4, h5, h6⟩
/-! gcd -/
theorem fmod_lt {x y : Int} (h : y ≠ 0) : (x.fmod y).natAbs < y.natAbs := by
  by_cases hy : 0 < y
  · have h1 := Int.fmod_nonneg_of_pos x hy
    have h2 := Int.fmod_lt_of_pos x hy
    omega
  · have hy : 0 < -y := by omega
    have e : x.fmod y = -((-x).fmod (-y)) := by rw [Int.neg_fmod_neg]; omega
    have h1 := Int.fmod_nonneg_of_pos (-x) hy
    have h2 := Int.fmod_lt_of_pos (-x) hy
    omega
theorem gcd_fmod (x y : Int) : Int.gcd y (x.fmod y) = Int.gcd x y := by
  have e : x.fmod y = x - y * x.fdiv y := by have := Int.mul_fdiv_add_fmod x y; omega
  rw [e, Int.gcd_comm x y]
  exact Int.gcd_sub_mul_left_right ..
theorem wp_gcd {m : Sto} {a b : Int} {Q : D → Sto → Prop} {E : Exs} (q : Q (.int (Int.gcd a b : Nat)) m) : (f__law_gcd [.int a, .int b] m).wp Q E := by
  unfold f__law_gcd
  with_reducible refine wp_fn ?_
  unfold b__law_gcd
  refine wp_sSeq ?_
  refine wp_while (I := fun k ρ μ => μ = m ∧ ∃ x y, ρ = [some (.int x), some (.int y)] ∧ Int.gcd x y = Int.gcd a b ∧ y.natAbs = k) (m := b.natAbs) ⟨rfl, a, b, rfl, rfl, rfl⟩ ?_
  rintro k ρ μ ⟨rfl, x, y, rfl, hg, hk⟩
  repeat (first | fail | with_reducible refine wp_sSeq ?_)
  · rename_i hy
    repeat (first | fail | with_reducible refine wp_sSeq ?_)
    refine wp_mod hy ?_
    repeat (first | fail | with_reducible refine wp_sSeq ?_)
    exact ⟨(x.fmod y).natAbs, by rw [← hk]; exact fmod_lt hy, rfl, _, _, rfl, by rw [gcd_fmod]; exact hg, rfl⟩
  · rename_i hy
    have hy : y = 0 := by simpa using hy
    subst hy
    have e : x.natAbs = Int.gcd a b := by rw [← hg]; simp
    repeat (first | fail | with_reducible refine wp_sSeq ?_)
    rw [e]; exact q
theorem wp_divisor {m : Sto} {a b : Int} {Q : D → Sto → Prop} {E : Exs} (q : Q (.int (Int.gcd a b : Nat)) m) : (f_divisor [.int a, .int b] m).wp Q E := by
  unfold f_divisor
  with_reducible refine wp_fn ?_
  unfold b_divisor
  repeat (first | fail | with_reducible refine wp_sSeq ?_)
  refine wp_while (I := fun k ρ μ => μ = m ∧ ∃ x : Nat, ρ = [some (.int x), some (.int k)] ∧ Nat.gcd x k = Int.gcd a b) (m := b.natAbs) ⟨rfl, a.natAbs, rfl, rfl⟩ ?_
  rintro k ρ μ ⟨rfl, x, rfl, hg⟩
  repeat (first | fail | with_reducible refine wp_sSeq ?_)
  · rename_i hy
    repeat (first | fail | with_reducible refine wp_sSeq ?_)
    refine wp_mod (by omega) ?_
    repeat (first | fail | with_reducible refine wp_sSeq ?_)
    have e : (x : Int).fmod k = ((x % k : Nat) : Int) := by rw [Int.fmod_eq_emod_of_nonneg _ (by omega)]; rfl
    rw [e]
    exact ⟨x % k, Nat.mod_lt _ (by omega), rfl, k, rfl, by rw [Nat.gcd_comm k, ← Nat.gcd_rec, Nat.gcd_comm]; exact hg⟩
  · rename_i hy
    have : k = 0 := by omega
    subst this
    have e : x = Int.gcd a b := by rw [← hg]; simp
    repeat (first | fail | with_reducible refine wp_sSeq ?_)
    rw [← e] at q
    exact q
/-! shares -/
def frG (t b : Int) : Int := if b < 0 then -(Int.gcd t b : Nat) else (Int.gcd t b : Nat)
def frI (t b : Int) : Int × Int := (t.fdiv (frG t b), b.fdiv (frG t b))
def dSh (s : Int × Int) : D := .tup [.int s.1, .int s.2]
/-- few bits -/
def NB (b : Int) : Prop := b.natAbs < 2 ^ 9000
theorem NB.py {a b : Int} (h : NB b) : Builtin.divisionGoesByPylong a b = false := pylong_small h
theorem NB.of {b : Int} {n : Nat} (h : b.natAbs < 2 ^ n) (hn : n ≤ 9000 := by decide) : NB b := Nat.lt_of_lt_of_le h (Nat.pow_le_pow_right (by decide) hn)
theorem frG_ne {t b : Int} (h : b ≠ 0) : frG t b ≠ 0 := by
  have : Int.gcd t b ≠ 0 := fun z => h (Int.gcd_eq_zero_iff.mp z).2
  unfold frG
  split <;> omega
theorem frG_NB {t b : Int} (h : b ≠ 0) (hb : NB b) : NB (frG t b) := by
  have h1 : Int.gcd t b ≤ b.natAbs := Nat.le_of_dvd (by omega) (Int.gcd_dvd_natAbs_right t b)
  have h2 : (frG t b).natAbs = Int.gcd t b := by unfold frG; split <;> omega
  unfold NB at hb ⊢
  rw [h2]
  exact Nat.lt_of_le_of_lt h1 hb
theorem wp_frP {m : Sto} {t b : Int} {Q : D → Sto → Prop} {E : Exs} (h : b ≠ 0) (hp : NB (frG t b)) (q : Q (dSh (frI t b)) m) : (f__law_fr [.int t, .int b] m).wp Q E := by
  unfold f__law_fr
  with_reducible refine wp_fn ?_
  unfold b__law_fr
  repeat (first | fail | with_reducible refine wp_sSeq ?_)
  refine wp_gcd ?_
  refine wp_cut (N0 := fun ρ μ => ρ = [some (.int t), some (.int b), some (.int (frG t b))] ∧ μ = m) ?_ ?_
  · repeat (first | fail | with_reducible refine wp_sSeq ?_)
    · exact ⟨by rename_i hb; unfold frG; rw [if_pos hb]; rw [Int.zero_sub]; rfl, rfl⟩
    · repeat (first | fail | with_reducible refine wp_sSeq ?_)
      exact ⟨by rename_i hb; unfold frG; rw [if_neg hb]; rfl, rfl⟩
  · rintro ρ1 μ1 ⟨rfl, rfl⟩
    repeat (first | fail | with_reducible refine wp_sSeq ?_)
    refine wp_fdiv (frG_ne h) hp.py ?_
    repeat (first | fail | with_reducible refine wp_sSeq ?_)
    refine wp_fdiv (frG_ne h) hp.py ?_
    repeat (first | fail | with_reducible refine wp_sSeq ?_)
    exact q
theorem wp_fr {m : Sto} {t b : Int} {Q : D → Sto → Prop} {E : Exs} (h : b ≠ 0) (hb : NB b) (q : Q (dSh (frI t b)) m) : (f__law_fr [.int t, .int b] m).wp Q E := wp_frP h (frG_NB h hb) q
theorem wp_share {m : Sto} {t b : Int} {Q : D → Sto → Prop} {E : Exs} (hb : NB b) (q : b ≠ 0 → Q (dSh (frI t b)) m) (e : b = 0 → E "ByNought" ["word"] [.str "ByNought"] m) : (f_share [.int t, .int b] m).wp Q E := by
  unfold f_share
  with_reducible refine wp_fn ?_
  unfold b_share
  repeat (first | fail | with_reducible refine wp_sSeq ?_)
  · rename_i h
    exact e h
  · rename_i h
    repeat (first | fail | with_reducible refine wp_sSeq ?_)
    refine wp_divisor ?_
    refine wp_cut (N0 := fun ρ μ => ρ = [some (.int t), some (.int b), some (.int (frG t b))] ∧ μ = m) ?_ ?_
    · repeat (first | fail | with_reducible refine wp_sSeq ?_)
      · exact ⟨by rename_i hb; unfold frG; rw [if_pos hb]; rfl, rfl⟩
      · repeat (first | fail | with_reducible refine wp_sSeq ?_)
        exact ⟨by rename_i hb; unfold frG; rw [if_neg hb]; rfl, rfl⟩
    · rintro ρ1 μ1 ⟨rfl, rfl⟩
      repeat (first | fail | with_reducible refine wp_sSeq ?_)
      refine wp_fdiv (frG_ne h) (frG_NB h hb).py ?_
      repeat (first | fail | with_reducible refine wp_sSeq ?_)
      refine wp_fdiv (frG_ne h) (frG_NB h hb).py ?_
      repeat (first | fail | with_reducible refine wp_sSeq ?_)
      exact q h
/-! same -/
theorem wp_same {m : Sto} {n : Nat} {d : D} (h : Pu n d) : (f__law_same n [d, d] m).wp (fun r μ => r = .bl true ∧ μ = m) noE := by
  induction h with
  | non =>
    rw [f__law_same_s]; (with_reducible refine wp_fn ?_); unfold b__law_same
    repeat (first | fail | with_reducible refine wp_sSeq ?_)
    exact ⟨rfl, rfl⟩
  | bl b =>
    rw [f__law_same_s]; (with_reducible refine wp_fn ?_); unfold b__law_same
    repeat (first | fail | with_reducible refine wp_sSeq ?_)
    exact ⟨by simp, rfl⟩
  | int b =>
    rw [f__law_same_s]; (with_reducible refine wp_fn ?_); unfold b__law_same
    repeat (first | fail | with_reducible refine wp_sSeq ?_)
    exact ⟨by simp, rfl⟩
  | @str n b hb =>
    rw [f__law_same_s]; (with_reducible refine wp_fn ?_); unfold b__law_same
    repeat (first | fail | with_reducible refine wp_sSeq ?_)
    refine wp_prim (Pu.eq_self (n := 1) (.str hb) (by decide) _) ?_
    exact ⟨rfl, rfl⟩
  | @lst n xs hl h ih =>
    rw [f__law_same_s]; (with_reducible refine wp_fn ?_); unfold b__law_same
    repeat (first | fail | with_reducible refine wp_sSeq ?_)
    · refine wp_lcMap (h := fun _ => .bl true) ?_ fun i hi => ?_
      · repeat (first | fail | with_reducible refine wp_sSeq ?_)
        refine all_true ⟨rfl, rfl⟩
      · have hi : i < xs.length := by simpa using hi
        refine ⟨_, rfl, ?_⟩
        repeat (first | fail | with_reducible refine wp_sSeq ?_)
        refine wp_ix (ix_lst (by omega) (x := xs[i]) (by rw [← List.getElem?_eq_getElem hi]; congr 1; omega)) ?_
        repeat (first | fail | with_reducible refine wp_sSeq ?_)
        refine wp_ix (ix_lst (by omega) (x := xs[i]) (by rw [← List.getElem?_eq_getElem hi]; congr 1; omega)) ?_
        repeat (first | fail | with_reducible refine wp_sSeq ?_)
        exact ih _ (List.getElem_mem hi)
    · rename_i h; exact absurd rfl h
  | @tup n xs hl h ih =>
    rw [f__law_same_s]; (with_reducible refine wp_fn ?_); unfold b__law_same
    repeat (first | fail | with_reducible refine wp_sSeq ?_)
    · refine wp_lcMap (h := fun _ => .bl true) ?_ fun i hi => ?_
      · repeat (first | fail | with_reducible refine wp_sSeq ?_)
        refine all_true ⟨rfl, rfl⟩
      · have hi : i < xs.length := by simpa using hi
        refine ⟨_, rfl, ?_⟩
        repeat (first | fail | with_reducible refine wp_sSeq ?_)
        refine wp_ix (ix_tup (by omega) (x := xs[i]) (by rw [← List.getElem?_eq_getElem hi]; congr 1; omega)) ?_
        repeat (first | fail | with_reducible refine wp_sSeq ?_)
        refine wp_ix (ix_tup (by omega) (x := xs[i]) (by rw [← List.getElem?_eq_getElem hi]; congr 1; omega)) ?_
        repeat (first | fail | with_reducible refine wp_sSeq ?_)
        exact ih _ (List.getElem_mem hi)
    · rename_i h; exact absurd rfl h
theorem wp_sameQ {m : Sto} {n : Nat} {d : D} {Q : D → Sto → Prop} {E : Exs} (h : Pu n d) (q : Q (.bl true) m) : (f__law_same n [d, d] m).wp Q E :=
  wp_mono (wp_same h) (fun r μ ⟨e1, e2⟩ => by subst e1 e2; exact q) fun _ _ _ _ z => z.elim
theorem Pu.sh {n : Nat} {s : Int × Int} : Pu (n + 2) (dSh s) := .tup (by simp) (Pu.cons (.int _) (Pu.cons (.int _) Pu.nil))
/-- a share in its lowest terms, not too great -/
def Shr (n : Nat) (s : Int × Int) : Prop := 0 < s.2 ∧ s.1.natAbs < 2 ^ n ∧ s.2.natAbs < 2 ^ n
theorem fdiv_dvd_le {a b : Int} (h : b ∣ a) : (a.fdiv b).natAbs ≤ a.natAbs := by
  by_cases h0 : b = 0
  · subst h0; simp
  · obtain ⟨c, rfl⟩ := h
    rw [Int.mul_fdiv_cancel_left _ h0, Int.natAbs_mul]
    exact Nat.le_mul_of_pos_left _ (by omega)
theorem frG_dvd (t b : Int) : frG t b ∣ t ∧ frG t b ∣ b := by
  have h1 : ((Int.gcd t b : Nat) : Int) ∣ t := Int.gcd_dvd_left ..
  have h2 : ((Int.gcd t b : Nat) : Int) ∣ b := Int.gcd_dvd_right ..
  unfold frG
  split
  · exact ⟨Int.neg_dvd.mpr h1, Int.neg_dvd.mpr h2⟩
  · exact ⟨h1, h2⟩
theorem frI_pos {t b : Int} (h : b ≠ 0) : 0 < (frI t b).2 := by
  have hg := frG_ne (t := t) h
  obtain ⟨c, hc⟩ := (frG_dvd t b).2
  have e : (frI t b).2 = c := by
    show b.fdiv (frG t b) = c
    generalize frG t b = g at hg hc
    subst hc
    exact Int.mul_fdiv_cancel_left _ hg
  rw [e]
  have hs : (frG t b < 0 ↔ b < 0) := by
    have : Int.gcd t b ≠ 0 := fun z => h (Int.gcd_eq_zero_iff.mp z).2
    unfold frG
    split <;> omega
  by_cases hb : b < 0
  · have hg0 := hs.mpr hb
    rcases Int.lt_trichotomy c 0 with z | z | z
    · have := Int.mul_pos_of_neg_of_neg hg0 z; omega
    · subst z; omega
    · exact z
  · have hg0 : 0 < frG t b := by
      have := mt hs.mp hb
      omega
    rcases Int.lt_trichotomy c 0 with z | z | z
    · have := Int.mul_neg_of_pos_of_neg hg0 z; omega
    · subst z; omega
    · exact z
theorem wp__law_add {m : Sto} {s u : Int × Int} {Q : D → Sto → Prop} {E : Exs} (m0 : IntMulOk s.1 u.2) (m1 : IntMulOk u.1 s.2) (m2 : IntMulOk s.2 u.2) (n : s.2 * u.2 ≠ 0) (b : NB (s.2 * u.2)) (q : Q (dSh (frI (s.1 * u.2 + u.1 * s.2) (s.2 * u.2))) m) : (f__law_add [dSh s, dSh u] m).wp Q E := by
  unfold f__law_add
  with_reducible refine wp_fn ?_
  unfold b__law_add
  repeat fail
  refine wp_mul m0 ?_
  repeat fail
  refine wp_mul m1 ?_
  repeat fail
  refine wp_mul m2 ?_
  repeat fail
  exact wp_fr n b q
theorem wp__law_mul {m : Sto} {s u : Int × Int} {Q : D → Sto → Prop} {E : Exs} (m0 : IntMulOk s.1 u.1) (m1 : IntMulOk s.2 u.2) (n : s.2 * u.2 ≠ 0) (b : NB (s.2 * u.2)) (q : Q (dSh (frI (s.1 * u.1) (s.2 * u.2))) m) : (f__law_mul [dSh s, dSh u] m).wp Q E := by
  unfold f__law_mul
  with_reducible refine wp_fn ?_
  unfold b__law_mul
  repeat fail
  refine wp_mul m0 ?_
  repeat fail
  refine wp_mul m1 ?_
  repeat fail
  exact wp_fr n b q
theorem wp_plus {m : Sto} {s u : Int × Int} {Q : D → Sto → Prop} {E : Exs} (m0 : IntMulOk s.1 u.2) (m1 : IntMulOk u.1 s.2) (m2 : IntMulOk s.2 u.2) (n : s.2 * u.2 ≠ 0) (b : NB (s.2 * u.2)) (q : Q (dSh (frI (s.1 * u.2 + u.1 * s.2) (s.2 * u.2))) m) : (f_plus [dSh s, dSh u] m).wp Q E := by
  unfold f_plus
  with_reducible refine wp_fn ?_
  unfold b_plus
  repeat fail
  refine wp_mul m0 ?_
  repeat fail
  refine wp_mul m1 ?_
  repeat fail
  refine wp_mul m2 ?_
  repeat fail
  exact wp_share b (fun _ => q) fun h => absurd h n
theorem wp_less {m : Sto} {s u : Int × Int} {Q : D → Sto → Prop} {E : Exs} (m0 : IntMulOk s.1 u.2) (m1 : IntMulOk u.1 s.2) (m2 : IntMulOk s.2 u.2) (n : s.2 * u.2 ≠ 0) (b : NB (s.2 * u.2)) (q : Q (dSh (frI (s.1 * u.2 - u.1 * s.2) (s.2 * u.2))) m) : (f_less [dSh s, dSh u] m).wp Q E := by
  unfold f_less
  with_reducible refine wp_fn ?_
  unfold b_less
  repeat fail
  refine wp_mul m0 ?_
  repeat fail
  refine wp_mul m1 ?_
  repeat fail
  refine wp_mul m2 ?_
  repeat fail
  exact wp_share b (fun _ => q) fun h => absurd h n
theorem wp_times {m : Sto} {s u : Int × Int} {Q : D → Sto → Prop} {E : Exs} (m0 : IntMulOk s.1 u.1) (m1 : IntMulOk s.2 u.2) (n : s.2 * u.2 ≠ 0) (b : NB (s.2 * u.2)) (q : Q (dSh (frI (s.1 * u.1) (s.2 * u.2))) m) : (f_times [dSh s, dSh u] m).wp Q E := by
  unfold f_times
  with_reducible refine wp_fn ?_
  unfold b_times
  repeat fail
  refine wp_mul m0 ?_
  repeat fail
  refine wp_mul m1 ?_
  repeat fail
  exact wp_share b (fun _ => q) fun h => absurd h n
theorem cut63 {ns : List Int} (h : ns.length ≤ 63) : L3.cutD (ns.map D.int) none (some 63) = ns.map D.int := by
  have e1 : HT.sIx (ns.map D.int).length 0 none = 0 := rfl
  have e2 : HT.sIx (ns.map D.int).length (ns.map D.int).length (some 63) = ns.length := by
    show (if (63 : Int) < 0 then ((63 : Int) + ((ns.map D.int).length : Int)).toNat else min (Int.toNat 63) (ns.map D.int).length) = _
    rw [if_neg (by decide), List.length_map]
    show min 63 _ = _
    omega
  unfold L3.cutD
  rw [e1, e2, List.drop_zero, Nat.sub_zero]
  exact List.take_of_length_le (by simp)
theorem wp_bag {ns : List Int} {Q : D → Sto → Prop} {E : Exs} (h : ns.length ≤ 63) (q : ∀ g, Bg g → Q (.cell 0) [g]) : (f__law_bag__1 [.scr ns] []).wp Q E := by
  unfold f__law_bag__1
  with_reducible refine wp_fn ?_
  unfold b__law_bag__1
  repeat fail
  have e : dSl3 (.scr ns) none (some 63) [] = .ok (.lst (ns.map D.int)) [] := by
    show R.ok (D.lst (L3.cutD (ns.map D.int) none (some 63))) [] = _
    rw [cut63 h]
  dsimp only
  rw [cut63 h]
  refine wp_forS (I := fun ds ρ μ => μ = [] ∧ (∃ ms : List Int, ds = ms.map D.int) ∧ ∃ s x, ρ = [some (.scr ns), some (.int s), x]) ⟨rfl, ⟨ns, rfl⟩, _, _, rfl⟩ ?_ ?_
  · rintro ρ μ ⟨rfl, _, s, x, rfl⟩
    refine ⟨rfl, ?_⟩
    repeat fail
    rw [cut63 h]
    exact q _ ⟨ns, 0, 0, _, _, rfl, by omega, by omega, h, by omega⟩
  · rintro d ds ρ μ ⟨rfl, ⟨ms, hm⟩, s, x, rfl⟩
    cases ms with
    | nil => cases hm
    | cons z ms =>
      cases hm
      refine ⟨rfl, _, rfl, ?_⟩
      repeat fail
      exact ⟨rfl, ⟨ms, rfl⟩, _, _, rfl⟩
theorem wp_light {g : MO} {m : Sto} {Q : D → Sto → Prop} {E : Exs} (h : Bg g) (q : ∀ (t b : Int) g', -4 ≤ t → t ≤ 4 → 1 ≤ b → b ≤ 5 → Bg g' → Q (dSh (frI t b)) (g' :: m)) : (f__law_light [.cell 0] (g :: m)).wp Q E := by
  unfold f__law_light
  with_reducible refine wp_fn ?_
  unfold b__law_light
  repeat fail
  refine wp_pull h (by decide) (by decide) fun v g1 h1 h2 hg1 => ?_
  repeat fail
  refine wp_pull hg1 (by decide) (by decide) fun w g2 h3 h4 hg2 => ?_
  obtain ⟨b, hb, h5, h6⟩ : ∃ b : Int, ([.int 1, .int 1, .int 1, .int 2, .int 3, .int 5] : List D)[w.toNat]? = some (.int b) ∧ 1 ≤ b ∧ b ≤ 5 := by
    have : w = 0 ∨ w = 1 ∨ w = 2 ∨ w = 3 ∨ w = 4 ∨ w = 5 := by omega
    rcases this with e | e | e | e | e | e <;> subst e <;> exact ⟨_, rfl, by decide, by decide⟩
  refine wp_ix (ix_lst h3 hb) ?_
  repeat fail
  exact wp_fr (by omega) (NB.of (n := 64) (by omega)) (q _ _ g2 (by omega) (by omega) h5 h6 hg2)
/-! shares as texts -/
def neg (a : List Nat) : Prop := a.take 1 = [45]
instance (a : List Nat) : Decidable (neg a) := by unfold neg; infer_instance
def bare (a : List Nat) : List Nat := if neg a then a.drop 1 else a
/-- a share in its lowest terms, of twelve figures at most -/
def Sh12 (s : Int × Int) : Prop := 0 < s.2 ∧ s.1.natAbs < 10 ^ 12 ∧ s.2.natAbs < 10 ^ 12 ∧ Int.gcd s.1 s.2 = 1
theorem Sh12.shr {s : Int × Int} (h : Sh12 s) : Shr 40 s := ⟨h.1, Nat.lt_of_lt_of_le h.2.1 (by decide), Nat.lt_of_lt_of_le h.2.2.1 (by decide)⟩
theorem frI_gcd {t b : Int} (h : b ≠ 0) : Int.gcd (frI t b).1 (frI t b).2 = 1 := by
  have hg := frG_ne (t := t) h
  have hgn : (frG t b).natAbs = Int.gcd t b := by unfold frG; split <;> omega
  obtain ⟨⟨c, hc⟩, ⟨d, hd⟩⟩ := frG_dvd t b
  show Int.gcd (t.fdiv (frG t b)) (b.fdiv (frG t b)) = 1
  generalize frG t b = g at *
  subst hc hd
  rw [Int.mul_fdiv_cancel_left _ hg, Int.mul_fdiv_cancel_left _ hg]
  rw [Int.gcd_mul_left] at hgn
  have h0 : 0 < g.natAbs := by omega
  have e : g.natAbs * 1 = g.natAbs * Int.gcd c d := by rw [Nat.mul_one]; exact hgn
  exact (Nat.eq_of_mul_eq_mul_left h0 e).symm
theorem frI_12 {t b : Int} (h : b ≠ 0) (ht : t.natAbs < 10 ^ 12) (hb : b.natAbs < 10 ^ 12) : Sh12 (frI t b) :=
  ⟨frI_pos h, Nat.lt_of_le_of_lt (fdiv_dvd_le (frG_dvd t b).1) ht, Nat.lt_of_le_of_lt (fdiv_dvd_le (frG_dvd t b).2) hb, frI_gcd h⟩
theorem wp_lshare12 {g : MO} {m : Sto} {Q : D → Sto → Prop} {E : Exs} (h : Bg g) (q : ∀ s g', Sh12 s → Bg g' → Q (dSh s) (g' :: m)) : (f__law_share [.cell 0] (g :: m)).wp Q E := by
  unfold f__law_share
  with_reducible refine wp_fn ?_
  unfold b__law_share
  repeat fail
  refine wp_pull h (by decide) (by decide) fun v g1 h1 h2 hg1 => ?_
  repeat (first | fail | with_reducible refine wp_sSeq ?_)
  · refine wp_pull hg1 (by decide) (by decide) fun w g2 h3 h4 hg2 => ?_
    repeat fail
    refine wp_pull hg2 (by decide) (by decide) fun x g3 h5 h6 hg3 => ?_
    repeat fail
    refine wp_fr (by omega) (NB.of (n := 64) (by omega)) (q _ _ (frI_12 (by omega) (by omega) (by omega)) hg3)
  · repeat (first | fail | with_reducible refine wp_sSeq ?_)
    · refine wp_pull hg1 (by decide) (by decide) fun w g2 h3 h4 hg2 => ?_
      obtain ⟨b, hb, h5⟩ : ∃ b : Int, ([.int (1 - 1000000000000), .int (1000000000000 - 1)] : List D)[w.toNat]? = some (.int b) ∧ b.natAbs < 1000000000000 := by
        have : w = 0 ∨ w = 1 := by omega
        rcases this with e | e <;> subst e <;> exact ⟨_, rfl, by decide⟩
      refine wp_ix (ix_lst h3 hb) ?_
      repeat fail
      refine wp_pull hg2 (by decide) (by decide) fun x g3 h6 h7 hg3 => ?_
      obtain ⟨c, hc, h8, h9⟩ : ∃ b : Int, ([.int 1, .int (1000000000000 - 1), .int (1000000000000 - 2)] : List D)[x.toNat]? = some (.int b) ∧ b.natAbs < 1000000000000 ∧ b ≠ 0 := by
        have : x = 0 ∨ x = 1 ∨ x = 2 := by omega
        rcases this with e | e | e <;> subst e <;> exact ⟨_, rfl, by decide, by decide⟩
      refine wp_ix (ix_lst h6 hc) ?_
      repeat fail
      refine wp_fr h9 (NB.of (n := 64) (by omega)) (q _ _ (frI_12 h9 (by omega) (by omega)) hg3)
    · repeat fail
      refine wp_light hg1 fun t b g2 h3 h4 h5 h6 hg2 => ?_
      exact q _ _ (frI_12 (by omega) (by omega) (by omega)) hg2
theorem wp_lcM {α : Type} {E : Exs} {ρ : L3.Env} {μ : Sto} {sg : SG} {te : SE} {gd : Sto → Bool} {Q : List D → Sto → Prop} {l : List α} {g k : α → D} (hg : gd μ = true) (q : Q (l.map k) μ)
    (hs : ∀ x ∈ l, ∃ ρ1, sg (g x) ρ μ = some ρ1 ∧ (te ρ1 μ).wp (fun y μ2 => y = k x ∧ μ2 = μ) noE) : (lcS gd sg tYesS te ρ (l.map g) μ).wp Q E := by
  refine wp_lcS (fun ys zs μ' => μ' = μ ∧ ∃ us ws : List α, l = us ++ ws ∧ zs = ws.map g ∧ ys = us.map k) ⟨rfl, [], l, rfl, rfl, rfl⟩ (fun ys μ' ⟨e1, us, ws, e2, e3, e4⟩ => ?_) fun ys d zs μ' ⟨e1, us, ws, e2, e3, e4⟩ => ?_
  · subst e1 e4
    cases ws with
    | nil => rw [List.append_nil] at e2; subst e2; exact ⟨hg, q⟩
    | cons w ws => cases e3
  · subst e1 e4
    cases ws with
    | nil => cases e3
    | cons w ws =>
      cases e3
      obtain ⟨ρ1, h1, h2⟩ := hs w (by rw [e2]; simp)
      refine ⟨hg, ρ1, h1, ?_⟩
      show (true = true → _) ∧ (true = false → _)
      exact ⟨fun _ => wp_mono h2 (fun y μ2 ⟨e1, e4⟩ => ⟨e4, us ++ [w], ws, by rw [e2]; simp, rfl, by rw [e1]; simp⟩) fun _ _ _ _ z => z, fun z => nomatch z⟩
theorem intsD_int (l : List Int) : intsD (l.map D.int) = some l := by
  induction l with
  | nil => rfl
  | cons a r ih => show (intsD (r.map D.int)).map (a :: ·) = _; rw [ih]; rfl
theorem wp_sumI {μ : Sto} {l : List Int} {Q : D → Sto → Prop} {E : Exs} (q : Q (.int l.sum) μ) : (dSum (.lst (l.map D.int)) μ).wp Q E := by
  have e : dSum (.lst (l.map D.int)) μ = .ok (D.int l.sum) μ := by
    show (match (asS μ (.lst (l.map D.int))).bind intsD with
      | some bs => R.ok (D.int bs.sum) μ
      | none => .bad) = _
    show (match intsD (l.map D.int) with
      | some bs => R.ok (D.int bs.sum) μ
      | none => .bad) = _
    rw [intsD_int]
  rw [e]; exact q
/-- two fors, the outer one over l.map g, each inner walk gives k x -/
theorem wp_lc2M {α : Type} {E : Exs} {ρ : L3.Env} {μ : Sto} {sg : SG} {ti : L3.Env → Sto → R (List D)} {gd : Sto → Bool} {Q : List D → Sto → Prop} {g : α → D} {k : α → List D} : ∀ {l : List α}, (hg : gd μ = true) → (q : Q (l.map k).flatten μ) →
    (hs : ∀ x ∈ l, ∃ ρ1, sg (g x) ρ μ = some ρ1 ∧ ti ρ1 μ = .ok (k x) μ) → (lcS2 gd sg tYesS ti ρ (l.map g) μ).wp Q E := by
  intro l hg q hs
  have key : lcS2 gd sg tYesS ti ρ (l.map g) μ = .ok (l.map k).flatten μ := by
    clear q
    induction l with
    | nil => show lcS2 gd sg tYesS ti ρ [] μ = _; unfold lcS2; rw [if_pos hg]; rfl
    | cons x l ih =>
      obtain ⟨ρ1, h1, h2⟩ := hs x List.mem_cons_self
      show lcS2 gd sg tYesS ti ρ (g x :: l.map g) μ = _
      unfold lcS2
      rw [if_pos hg, h1]
      dsimp only
      show (if true = true then (ti ρ1 μ).nox.bind fun y μ2 => (lcS2 gd sg tYesS ti ρ (l.map g) μ2).nox.bind fun ys μ3 => R.ok (y ++ ys) μ3 else lcS2 gd sg tYesS ti ρ (l.map g) μ) = _
      rw [if_pos rfl, h2]
      show ((lcS2 gd sg tYesS ti ρ (l.map g) μ).nox.bind fun ys μ3 => R.ok (k x ++ ys) μ3) = _
      rw [ih fun y hy => hs y (List.mem_cons_of_mem _ hy)]
      rfl
  rw [key]; exact q
theorem wp_lc2 {E : Exs} {ρ : L3.Env} {μ : Sto} {fi fi1 : SI} {g g1 : SG} {tt tt1 : ST} {te : SE} {vs vs1 : List Nat} {Q : D → Sto → Prop} (h : (fi ρ μ).wp (fun it μ1 => (lcS2 it.2 g tt (inS vs1 fi1 g1 tt1 te) (wipeE ρ vs) it.1 μ1).wp (fun ys μ2 => ys.length ≤ sizeLine ∧ Q (.lst ys) μ2) noE) E) : (eLc2 vs vs1 fi g tt fi1 g1 tt1 te ρ μ).wp Q E := by
  refine wp_bind (wp_mono h (fun it μ1 z => wp_bind (wp_nox (wp_mono z (fun ys μ2 ⟨a, b⟩ => ?_) fun _ _ _ _ z => z))) fun _ _ _ _ z => z)
  rw [if_pos a]; exact b
theorem inS_ok {ρ : L3.Env} {μ : Sto} {fi1 : SI} {g1 : SG} {tt1 : ST} {te : SE} {vs1 : List Nat} {ys : List D} (h : (fi1 ρ μ).wp (fun it μ1 => (lcS it.2 g1 tt1 te (wipeE ρ vs1) it.1 μ1).wp (fun zs μ2 => zs = ys ∧ μ2 = μ) noE) noE) : inS vs1 fi1 g1 tt1 te ρ μ = .ok ys μ := by
  obtain ⟨it, μ1, e, z⟩ := wp_get h
  obtain ⟨zs, μ2, e2, rfl, rfl⟩ := wp_get z
  unfold inS
  rw [e]
  exact e2
theorem wp_of0 {α : Type} {a : α} {μ : Sto} {r : R α} {Q : α → Sto → Prop} {E : Exs} (h : r.wp (fun b μ' => b = a ∧ μ' = μ) noE) (q : Q a μ) : r.wp Q E := wp_mono h (fun r μ' ⟨e1, e2⟩ => by subst e1 e2; exact q) fun _ _ _ _ z => z.elim
section
variable {Q : D → Sto → Prop} {E : Exs} {μ : Sto} {k : Nat} {ds zs xs ys : List D} {y a b : D}
theorem isTy_cell (h : μ[k]? = some (.lst ds)) : isTy "list" μ (.cell k) = true := by
  unfold isTy tyD
  dsimp only
  rw [h]
  rfl
theorem wp_append (h : μ[k]? = some (.lst ds)) (l : ds.length < 16777216) (q : Q .non (μ.set k (.lst (ds ++ [y])))) : (dAppend (.cell k) [y] μ).wp Q E := by
  unfold dAppend
  dsimp only
  rw [h]
  dsimp only
  rw [if_pos (by rw [sizeLine_eq]; exact l)]
  exact q
end
/-! same, of lists that are cells -/
inductive Eqs (μ : Sto) : Nat → D → D → Prop
  | pu {n : Nat} {d : D} (h : Pu n d) : Eqs μ n d d
  | lst {n : Nat} {d e : D} {xs ys : List D} (h1 : asL μ d = some xs) (h2 : asL μ e = some ys) (hl : xs.length = ys.length) (hz : ys.length ≤ 16777216) (h : ∀ (i : Nat) (x y : D), xs[i]? = some x → ys[i]? = some y → Eqs μ n x y) : Eqs μ (n + 1) d e
theorem asL_isi {μ : Sto} {d : D} {xs : List D} (h : asL μ d = some xs) : dIsi [.list, .tuple] d μ = .ok (.bl true) μ ∧ dIsi [.list] d μ = .ok (.bl true) μ ∧ dIsi [.tuple] d μ = .ok (.bl false) μ ∧ dLen d μ = .ok (.int xs.length) μ := by
  cases d with
  | lst ys => cases h; exact ⟨rfl, rfl, rfl, rfl⟩
  | cell k =>
    have h : (match μ[k]? with
      | some (.lst ds) => some ds
      | _ => none) = some xs := h
    cases e : μ[k]? with
    | none => rw [e] at h; cases h
    | some m =>
      cases m with
      | lst ds =>
        rw [e] at h
        cases h
        refine ⟨?_, ?_, ?_, len_cell e⟩
        all_goals
          unfold dIsi tyD
          dsimp only
          rw [e]
          rfl
      | dct _ _ => rw [e] at h; cases h
      | ins _ _ _ => rw [e] at h; cases h
  | _ => cases h
theorem asL_ix {μ : Sto} {d x : D} {xs : List D} {i : Int} (h : asL μ d = some xs) (h0 : 0 ≤ i) (hx : xs[i.toNat]? = some x) : dIx d (.int i) μ = .ok x μ := by
  cases d with
  | lst ys => cases h; exact ix_lst h0 hx
  | cell k =>
    have h : (match μ[k]? with
      | some (.lst ds) => some ds
      | _ => none) = some xs := h
    cases e : μ[k]? with
    | none => rw [e] at h; cases h
    | some m =>
      cases m with
      | lst ds =>
        rw [e] at h
        cases h
        exact ix_cell e h0 hx
      | dct _ _ => rw [e] at h; cases h
      | ins _ _ _ => rw [e] at h; cases h
  | _ => cases h
theorem wp_sameE {μ : Sto} {n : Nat} {d e : D} (h : Eqs μ n d e) : (f__law_same n [d, e] μ).wp (fun r μ' => r = .bl true ∧ μ' = μ) noE := by
  induction h with
  | pu h => exact wp_same h
  | @lst n d e xs ys h1 h2 hl hz h ih =>
    rw [f__law_same_s]
    with_reducible refine wp_fn ?_
    unfold b__law_same
    obtain ⟨d1, d2, d3, d4⟩ := asL_isi h1
    obtain ⟨e1, e2, e3, e4⟩ := asL_isi h2
    repeat' (first | fail | with_reducible refine wp_sSeq ?_)
    refine wp_isi e1 ?_
    repeat' (first | fail | with_reducible refine wp_sSeq ?_)
    refine wp_isi d2 ?_
    repeat' (first | fail | with_reducible refine wp_sSeq ?_)
    refine wp_isi e2 ?_
    repeat' (first | fail | with_reducible refine wp_sSeq ?_)
    refine wp_isi d3 ?_
    repeat' (first | fail | with_reducible refine wp_sSeq ?_)
    refine wp_isi e3 ?_
    repeat' (first | fail | with_reducible refine wp_sSeq ?_)
    refine wp_len d4 ?_
    repeat' (first | fail | with_reducible refine wp_sSeq ?_)
    refine wp_len e4 ?_
    repeat' (first | fail | with_reducible refine wp_sSeq ?_)
    · rename_i c
      refine wp_len e4 ?_
      repeat' (first | fail | with_reducible refine wp_sSeq ?_)
      refine wp_lcMap (h := fun _ => .bl true) ?_ fun i hi => ?_
      · repeat' (first | fail | with_reducible refine wp_sSeq ?_)
        refine all_true ⟨rfl, rfl⟩
      · have hi : i < ys.length := by simpa using hi
        have hx : xs[(0 + (i : Nat) : Int).toNat]? = some xs[i] := by rw [← List.getElem?_eq_getElem (by omega)]; congr 1; omega
        have hy : ys[(0 + (i : Nat) : Int).toNat]? = some ys[i] := by rw [← List.getElem?_eq_getElem hi]; congr 1; omega
        refine ⟨_, rfl, ?_⟩
        repeat' (first | fail | with_reducible refine wp_sSeq ?_)
        refine wp_ix (asL_ix h1 (by omega) hx) ?_
        repeat' (first | fail | with_reducible refine wp_sSeq ?_)
        refine wp_ix (asL_ix h2 (by omega) hy) ?_
        repeat' (first | fail | with_reducible refine wp_sSeq ?_)
        exact ih i _ _ (List.getElem?_eq_getElem (by omega)) (List.getElem?_eq_getElem hi)
    · rename_i c; exact absurd (by omega) c
theorem wp_sameC {μ : Sto} {n : Nat} {d e : D} {Q : D → Sto → Prop} {E : Exs} (h : Eqs μ n d e) (q : Q (.bl true) μ) : (f__law_same n [d, e] μ).wp Q E := wp_of0 (wp_sameE h) q
end Pf

namespace Pf
open PySem PySem.Spec PyProof.Rows L2 L3
local macro_rules | `(tactic| fail) => `(tactic| first
  | with_reducible refine wp_seqSet ?_
  | with_reducible refine wp_seqAsg ?_
  | with_reducible refine wp_seqPar ?_
  | with_reducible refine wp_seqPar3 ?_
  | with_reducible refine wp_seqFset ?_
  | with_reducible refine wp_seqFaug ?_
  | with_reducible refine wp_sFset ?_
  | with_reducible refine wp_sFaug ?_
  | with_reducible refine wp_meth ?_
  | with_reducible refine wp_make ?_
  | with_reducible refine wp_methX ?_
  | with_reducible refine wp_makeX ?_
  | with_reducible refine wp_sPar3 ?_
  | with_reducible refine three_ok ?_
  | with_reducible refine wp_seqAug ?_
  | with_reducible refine wp_seqExpr ?_
  | with_reducible refine wp_seqSub ?_
  | with_reducible refine wp_seqNil ?_
  | with_reducible refine wp_seqFor ?_
  | with_reducible refine wp_seqWhile ?_
  | with_reducible refine wp_seqStar ?_
  | with_reducible refine wp_seqForK ?_
  | with_reducible refine wp_seqDput ?_
  | with_reducible refine wp_seqMul ?_
  | with_reducible refine wp_sSet ?_
  | with_reducible refine wp_sRet ?_
  | with_reducible refine wp_sNil ?_
  | with_reducible refine wp_sIf ?_
  | with_reducible refine wp_sPar ?_
  | with_reducible refine wp_sAsg ?_
  | with_reducible refine wp_sSub ?_
  | with_reducible refine wp_sFor ?_
  | with_reducible refine wp_sRaise ?_
  | with_reducible refine wp_sExpr ?_
  | with_reducible refine wp_sRetN ?_
  | with_reducible refine wp_sBreak ?_
  | with_reducible refine wp_sCont ?_
  | ((with_reducible refine wp_varE ?_); refine ⟨_, rfl, ?_⟩)
  | with_reducible refine wp_c ?_
  | with_reducible refine wp_B ?_
  | with_reducible refine wp_U ?_
  | with_reducible refine wp_T ?_
  | with_reducible refine wp_andT ?_
  | with_reducible refine wp_orT ?_
  | with_reducible refine wp_notT ?_
  | with_reducible refine wp_andV ?_
  | with_reducible refine wp_orV ?_
  | with_reducible refine wp_notV ?_
  | with_reducible refine wp_if ?_
  | with_reducible refine wp_nil ?_
  | with_reducible refine wp_cons ?_
  | with_reducible refine wp_tup ?_
  | with_reducible refine wp_lst ?_
  | with_reducible refine wp_lstC ?_
  | with_reducible refine wp_call ?_
  | with_reducible refine wp_callD ?_
  | with_reducible refine wp_callB ?_
  | with_reducible refine wp_m ?_
  | with_reducible refine wp_oNone ?_
  | with_reducible refine wp_oSome ?_
  | with_reducible refine wp_sl ?_
  | with_reducible refine wp_tried ?_
  | with_reducible refine wp_asked ?_
  | with_reducible refine wp_seqOut ?_
  | with_reducible refine wp_asks ?_
  | with_reducible refine wp_asksC ?_
  | with_reducible refine wp_asksN ?_
  | with_reducible refine wp_chain ?_
  | with_reducible refine wp_enum ?_
  | with_reducible refine wp_enumB ?_
  | with_reducible refine wp_zip ?_
  | with_reducible refine wp_joinedT ?_
  | with_reducible refine wp_jNil ?_
  | with_reducible refine wp_jT ?_
  | with_reducible refine wp_lc ?_
  | with_reducible refine wp_lcC ?_
  | with_reducible refine wp_yes ?_
  | with_reducible refine wp_iAny ?_
  | with_reducible refine wp_range1 ?_
  | with_reducible refine wp_range2 ?_
  | with_reducible refine wp_sStar ?_
  | with_reducible refine wp_sDput ?_
  | with_reducible refine wp_sMul ?_
  | with_reducible refine wp_mNil ?_
  | with_reducible refine wp_mCons ?_
  | with_reducible refine wp_mSub ?_
  | with_reducible refine wp_mSubD ?_
  | with_reducible refine wp_dget2 ?_
  | with_reducible refine wp_disp ?_
  | with_reducible refine wp_pNil ?_
  | with_reducible refine wp_pCons ?_)
local macro_rules | `(tactic| fail) => `(tactic| first
  | with_reducible refine wp_eqI ?_
  | with_reducible refine wp_neI ?_
  | with_reducible refine wp_eqB ?_
  | with_reducible refine wp_neB ?_
  | ((with_reducible refine wp_eqStr ?_ ?_ ?_); decide +kernel; decide +kernel)
  | ((with_reducible refine wp_neStr ?_ ?_ ?_); decide +kernel; decide +kernel)
  | with_reducible refine wp_addI ?_
  | with_reducible refine wp_addII ?_
  | with_reducible refine wp_subI ?_
  | with_reducible refine wp_ltI ?_
  | with_reducible refine wp_leI ?_
  | with_reducible refine wp_gtI ?_
  | with_reducible refine wp_geI ?_
  | with_reducible refine wp_negI ?_
  | with_reducible refine wp_intI ?_
  | with_reducible refine wp_intB ?_
  | with_reducible refine wp_absI ?_
  | with_reducible refine wp_un ?_
  | ((with_reducible refine wp_mul ?_ ?_); first | exact mulOk_right (by decide) | exact mulOk_left (by decide) | exact mulOk_mod (by decide) (by decide))
  | ((with_reducible refine wp_mod ?_ ?_); decide)
  | ((with_reducible refine wp_fdiv ?_ ?_ ?_); decide; exact pylong_200 (by decide))
  | with_reducible refine wp_pow18 ?_
  | with_reducible refine wp_pow12 ?_
  | with_reducible refine wp_pow40 ?_
  | ((with_reducible refine wp_ixE ?_); refine ⟨_, rfl, ?_⟩)
  | with_reducible refine wp_len0 ?_
  | with_reducible refine wp_len1 ?_
  | with_reducible refine wp_len2 ?_
  | with_reducible refine wp_len3 ?_
  | with_reducible refine wp_lenT1 ?_
  | with_reducible refine wp_lenT2 ?_
  | with_reducible refine wp_lenT3 ?_
  | ((with_reducible refine wp_lenE ?_); refine ⟨_, rfl, ?_⟩)
  | ((with_reducible refine wp_listOfE ?_); refine ⟨_, rfl, ?_⟩)
  | ((with_reducible refine wp_isiE ?_); refine ⟨_, rfl, ?_⟩)
  | ((with_reducible refine wp_isNE ?_); refine ⟨_, rfl, ?_⟩)
  | ((with_reducible refine wp_notNE ?_); refine ⟨_, rfl, ?_⟩)
  | ((with_reducible refine wp_slE ?_); refine ⟨_, rfl, ?_⟩)
  | ((with_reducible refine sub_okE ?_); refine ⟨_, rfl, ?_⟩)
  | with_reducible refine Exists.intro _ (And.intro rfl ?_)
  | with_reducible refine Exists.intro _ (Exists.intro _ (And.intro rfl ?_))
  | ((with_reducible refine len_eq ?_ ?_); exact rfl)
  | ((with_reducible refine rng_ok ?_ ?_); omega)
  | ((with_reducible refine rng2_ok ?_ ?_); omega)
  | ((with_reducible refine rngD_len ?_ ?_); omega)
  | ((with_reducible refine len_100 ?_ ?_); exact Nat.le_of_ble_eq_true rfl)
  | ((with_reducible refine isTy_ok ?_ ?_); exact rfl)
  | ((with_reducible refine br_t ?_ ?_); first | with_reducible exact rfl | decide)
  | ((with_reducible refine br_f ?_ ?_); first | with_reducible exact rfl | decide)
  | with_reducible refine br_d (fun _ => ?_) (fun _ => ?_)
  | with_reducible refine br_n (fun _ => ?_) (fun _ => ?_))
abbrev tb (n : Nat) (F : Nat → D) : List D := (List.range n).map F
abbrev gM (h w : Nat) (A : Nat → Nat → Int) : D := .lst (tb h fun i => .lst (tb w fun j => .int (A i j)))
abbrev qM (h w : Nat) (L : Nat → Nat → Int × Int) : D := .lst (tb h fun i => .lst (tb w fun j => dSh (L i j)))
theorem tb_len (n : Nat) (F : Nat → D) : (tb n F).length = n := by simp
theorem tb_get {n i : Nat} {F : Nat → D} (h : i < n) : (tb n F)[i]? = some (F i) := by
  rw [List.getElem?_map, List.getElem?_range h]; rfl
theorem tb_congr {n : Nat} {F G : Nat → D} (h : ∀ i, i < n → F i = G i) : tb n F = tb n G := List.map_congr_left fun i hi => h i (List.mem_range.mp hi)
theorem tb_ext {n : Nat} {F : Nat → D} {xs : List D} (hl : xs.length = n) (h : ∀ i, i < n → xs[i]? = some (F i)) : xs = tb n F := by
  apply List.ext_getElem?
  intro i
  by_cases c : i < n
  · rw [h i c, tb_get c]
  · rw [List.getElem?_eq_none (by omega), List.getElem?_eq_none (by rw [tb_len]; omega)]
theorem tb_set {n k : Nat} {F : Nat → D} {d : D} : (tb n F).set k d = tb n (fun i => if i = k then d else F i) := by
  refine tb_ext (by rw [List.length_set, tb_len]) fun i hi => ?_
  rw [List.getElem?_set]
  by_cases c : k = i
  · subst c; rw [if_pos rfl, if_pos (by rw [tb_len]; exact hi), if_pos rfl]
  · rw [if_neg c, if_neg (fun z => c z.symm), tb_get hi]
theorem tb_zip {n : Nat} {F G : Nat → D} : zipD (tb n F) (tb n G) = tb n fun i => .tup [F i, G i] := by
  have key : ∀ l : List Nat, zipD (l.map F) (l.map G) = l.map fun i => .tup [F i, G i] := fun l => by
    induction l with
    | nil => rfl
    | cons a r ih =>
      show D.tup [F a, G a] :: zipD (r.map F) (r.map G) = _
      rw [ih]; rfl
  exact key _
theorem tb_ix {n : Nat} {F : Nat → D} {i : Int} {μ : Sto} (h0 : 0 ≤ i) (h1 : i < n) : dIx (.lst (tb n F)) (.int i) μ = .ok (F i.toNat) μ := ix_lst h0 (tb_get (by omega))
theorem wp_tbIx {n : Nat} {F : Nat → D} {i : Nat} {μ : Sto} {Q : D → Sto → Prop} {E : Exs} (h : i < n) (q : Q (F i) μ) : (dIx (.lst (tb n F)) (.int (i : Nat)) μ).wp Q E := by
  rw [tb_ix (by omega) (by omega)]; exact q
theorem tb_int {n : Nat} {f : Nat → Int} : (tb n fun i => .int (f i)) = ((List.range n).map f).map D.int := by rw [List.map_map]; rfl
theorem tb_sz {n : Nat} {F : Nat → D} {A : Prop} (h : n ≤ 1000) (q : A) : (tb n F).length ≤ sizeLine ∧ A := ⟨by rw [tb_len, sizeLine_eq]; omega, q⟩
theorem wp_forT {ρ : L3.Env} {μ : Sto} {N B C : L3.Env → Sto → Prop} {T : D → Sto → Prop} {E : Exs} {gd : Sto → Bool} {g : SG} {b : SS} {n : Nat} {F : Nat → D} (I : Nat → L3.Env → Sto → Prop) (h0 : I 0 ρ μ) (hn : ∀ ρ μ, I n ρ μ → gd μ = true ∧ N ρ μ)
    (hs : ∀ i ρ μ, i < n → I i ρ μ → gd μ = true ∧ ∃ ρ1, g (F i) ρ μ = some ρ1 ∧ (b ρ1 μ).wp (I (i + 1)) T N (I (i + 1)) E) : (forS gd g b (tb n F) ρ μ).wp N T B C E := by
  refine wp_forS (fun ds ρ μ => ∃ i, i ≤ n ∧ ds = (tb n F).drop i ∧ I i ρ μ) ⟨0, Nat.zero_le _, rfl, h0⟩ (fun ρ μ ⟨i, hi, e, q⟩ => ?_) fun d ds ρ μ ⟨i, hi, e, q⟩ => ?_
  · have z := congrArg List.length e
    rw [List.length_drop, tb_len] at z
    have : i = n := by simp at z; omega
    subst this
    exact hn _ _ q
  · have z := congrArg List.length e
    rw [List.length_drop, tb_len, List.length_cons] at z
    have hl : i < n := by omega
    rw [List.drop_eq_getElem_cons (by rw [tb_len]; exact hl)] at e
    obtain ⟨e1, e2⟩ := List.cons.inj e
    have e3 : d = F i := by rw [e1]; simp
    subst e3
    obtain ⟨h1, ρ1, h2, h3⟩ := hs i ρ μ hl q
    exact ⟨h1, ρ1, h2, wp_sMono h3 (fun ρ μ z => ⟨i + 1, hl, e2, z⟩) (fun _ _ z => z) (fun _ _ z => z) (fun ρ μ z => ⟨i + 1, hl, e2, z⟩) fun _ _ _ _ z => z⟩
/-- a list comprehension over a table -/
theorem wp_lcT {E : Exs} {ρ : L3.Env} {μ : Sto} {sg : SG} {te : SE} {gd : Sto → Bool} {Q : List D → Sto → Prop} {n : Nat} {F k : Nat → D} (hg : gd μ = true) (q : Q (tb n k) μ)
    (hs : ∀ i, i < n → ∃ ρ1, sg (F i) ρ μ = some ρ1 ∧ (te ρ1 μ).wp (fun y μ2 => y = k i ∧ μ2 = μ) noE) : (lcS gd sg tYesS te ρ (tb n F) μ).wp Q E :=
  wp_lcM (l := List.range n) (g := F) (k := k) hg q fun x hx => hs x (List.mem_range.mp hx)
theorem setL_nat {k i : Nat} {d : D} {ds : List D} {μ : Sto} (h : μ[k]? = some (.lst ds)) (hi : i < ds.length) : setL k (i : Nat) d μ = some (μ.set k (.lst (ds.set i d))) := by
  unfold setL
  rw [h]
  dsimp only
  rw [ixN_nat (by omega) (by omega)]
  rfl
theorem rng0 (n : Nat) : rngD 0 n = tb n fun i => .int (i : Nat) := tb_congr fun i _ => by rw [Int.zero_add]
theorem div_nz {a b : Int} (h : a ∣ b) (hb : b ≠ 0) : a ≠ 0 := fun z => hb (by obtain ⟨c, rfl⟩ := h; rw [z, Int.zero_mul])
theorem mulOk_le {a b : Int} {m n : Nat} (ha : a.natAbs ≤ 2 ^ m) (hb : b.natAbs ≤ 2 ^ n) (h : m + n ≤ 100000) : IntMulOk a b := by
  refine mulOk_lt (m := m + 1) (n := n + 1) ?_ ?_ (by omega)
  · rw [Nat.pow_succ]; have : 0 < 2 ^ m := Nat.two_pow_pos _; omega
  · rw [Nat.pow_succ]; have : 0 < 2 ^ n := Nat.two_pow_pos _; omega
theorem NB.le {b : Int} {m : Nat} (h : b.natAbs ≤ 2 ^ m) (l : m < 9000) : NB b := by
  exact NB.of (n := m + 1) (by rw [Nat.pow_succ]; have : 0 < 2 ^ m := Nat.two_pow_pos _; omega) l
theorem wp_as_shares {n m : Nat} {L : Mn.Mq} {A : Nat → Nat → Int} {b : Int} {μ : Sto} {Q : D → Sto → Prop} {E : Exs} (n4 : n ≤ 4) (g : Mn.Gp n m L A b) (hm : m < 9000) (q : Q (qM n n L) μ) : (f_as_shares [gM n n A, .int b] μ).wp Q E := by
  unfold f_as_shares
  with_reducible refine wp_fn ?_
  simp only [List.map_cons, List.map_nil, List.length_cons, List.length_nil, List.reduceReplicate, List.cons_append, List.nil_append, Nat.reduceAdd, Nat.reduceSub, Nat.zero_add, List.set_cons_zero, List.set_cons_succ, wipeE]
  unfold b_as_shares
  repeat' (first | fail | with_reducible refine wp_sSeq ?_)
  refine tb_sz (by omega) ?_
  refine wp_lcT (k := fun i => .lst (tb n fun j => dSh (L i j))) rfl ?_ fun i hi => ⟨_, rfl, ?_⟩
  · exact q
  · repeat' (first | fail | with_reducible refine wp_sSeq ?_)
    refine tb_sz (by omega) ?_
    refine wp_lcT (k := fun j => dSh (L i j)) rfl ⟨rfl, rfl⟩ fun j hj => ⟨_, rfl, ?_⟩
    repeat' (first | fail | with_reducible refine wp_sSeq ?_)
    refine wp_share (NB.le g.bb hm) (fun _ => ?_) fun z => absurd z g.nz
    rw [(g.el i hi j hj).2]
    exact ⟨rfl, rfl⟩
/-- rows that are cells, in a cell -/
theorem wp_as_sharesC {n m : Nat} {L : Mn.Mq} {A : Nat → Nat → Int} {b : Int} {μ : Sto} {Q : D → Sto → Prop} {E : Exs} (n4 : n ≤ 4) (g : Mn.Gp n m L A b) (hm : m < 9000)
    (q : Q (.cell (μ.length + n)) (μ ++ (List.range n).map (fun i => MO.lst (tb n fun j => dSh (L i j))) ++ [.lst (tb n fun i => .cell (μ.length + i))])) : (f_as_shares__2 [gM n n A, .int b] μ).wp Q E := by
  unfold f_as_shares__2
  with_reducible refine wp_fn ?_
  simp only [List.map_cons, List.map_nil, List.length_cons, List.length_nil, List.reduceReplicate, List.cons_append, List.nil_append, Nat.reduceAdd, Nat.reduceSub, Nat.zero_add, List.set_cons_zero, List.set_cons_succ, wipeE]
  unfold b_as_shares__2
  repeat' (first | fail | with_reducible refine wp_sSeq ?_)
  refine tb_sz (by omega) ?_
  refine wp_lcS (fun ys rest μ' => ∃ i, i ≤ n ∧ ys = tb i (fun i => .cell (μ.length + i)) ∧ rest = (tb n fun i => .lst (tb n fun j => .int (A i j))).drop i ∧ μ' = μ ++ (List.range i).map (fun i => MO.lst (tb n fun j => dSh (L i j)))) ⟨0, Nat.zero_le _, rfl, rfl, by simp⟩ (fun ys μ' h => ⟨rfl, ?_⟩) fun ys d rest μ' h => ⟨rfl, ?_⟩
  · obtain ⟨i, hi, rfl, e, rfl⟩ := h
    have z := congrArg List.length e
    rw [List.length_drop, tb_len] at z
    have : i = n := by simp at z; omega
    subst this
    have el : (μ ++ (List.range i).map fun i' => MO.lst (tb i fun j => dSh (L i' j))).length = μ.length + i := by simp
    rw [el]
    exact q
  · obtain ⟨i, hi, rfl, e, rfl⟩ := h
    have z := congrArg List.length e
    rw [List.length_drop, tb_len, List.length_cons] at z
    have hl : i < n := by omega
    rw [List.drop_eq_getElem_cons (by rw [tb_len]; exact hl)] at e
    obtain ⟨e1, e2⟩ := List.cons.inj e
    have e3 : d = .lst (tb n fun j => .int (A i j)) := by rw [e1]; simp
    subst e3
    refine ⟨_, rfl, ?_⟩
    refine wp_yes ?_
    refine ⟨fun _ => ?_, fun z => nomatch z⟩
    repeat' (first | fail | with_reducible refine wp_sSeq ?_)
    refine tb_sz (by omega) ?_
    refine wp_lcT (k := fun j => dSh (L i j)) rfl ?_ fun j hj => ⟨_, rfl, ?_⟩
    · refine ⟨i + 1, hl, ?_, e2, ?_⟩
      · rw [show (tb (i + 1) fun i => D.cell (μ.length + i)) = tb i (fun i => D.cell (μ.length + i)) ++ [D.cell (μ.length + i)] from by unfold tb; rw [List.range_succ, List.map_append]; rfl]
        simp
      · rw [List.range_succ, List.map_append, List.append_assoc]; rfl
    · repeat' (first | fail | with_reducible refine wp_sSeq ?_)
      refine wp_share (NB.le g.bb hm) (fun _ => ?_) fun z => absurd z g.nz
      rw [(g.el i hl j hj).2]
      exact ⟨rfl, rfl⟩
end Pf

namespace Pf
open PySem PySem.Spec PyProof.Rows L2 L3
local macro_rules | `(tactic| fail) => `(tactic| first
  | with_reducible refine wp_seqSet ?_
  | with_reducible refine wp_seqAsg ?_
  | with_reducible refine wp_seqPar ?_
  | with_reducible refine wp_seqPar3 ?_
  | with_reducible refine wp_seqFset ?_
  | with_reducible refine wp_seqFaug ?_
  | with_reducible refine wp_sFset ?_
  | with_reducible refine wp_sFaug ?_
  | with_reducible refine wp_meth ?_
  | with_reducible refine wp_make ?_
  | with_reducible refine wp_methX ?_
  | with_reducible refine wp_makeX ?_
  | with_reducible refine wp_sPar3 ?_
  | with_reducible refine three_ok ?_
  | with_reducible refine wp_seqAug ?_
  | with_reducible refine wp_seqExpr ?_
  | with_reducible refine wp_seqSub ?_
  | with_reducible refine wp_seqNil ?_
  | with_reducible refine wp_seqFor ?_
  | with_reducible refine wp_seqWhile ?_
  | with_reducible refine wp_seqStar ?_
  | with_reducible refine wp_seqForK ?_
  | with_reducible refine wp_seqDput ?_
  | with_reducible refine wp_seqMul ?_
  | with_reducible refine wp_sSet ?_
  | with_reducible refine wp_sRet ?_
  | with_reducible refine wp_sNil ?_
  | with_reducible refine wp_sIf ?_
  | with_reducible refine wp_sPar ?_
  | with_reducible refine wp_sAsg ?_
  | with_reducible refine wp_sSub ?_
  | with_reducible refine wp_sFor ?_
  | with_reducible refine wp_sRaise ?_
  | with_reducible refine wp_sExpr ?_
  | with_reducible refine wp_sRetN ?_
  | with_reducible refine wp_sBreak ?_
  | with_reducible refine wp_sCont ?_
  | ((with_reducible refine wp_varE ?_); refine ⟨_, rfl, ?_⟩)
  | with_reducible refine wp_c ?_
  | with_reducible refine wp_B ?_
  | with_reducible refine wp_U ?_
  | with_reducible refine wp_T ?_
  | with_reducible refine wp_andT ?_
  | with_reducible refine wp_orT ?_
  | with_reducible refine wp_notT ?_
  | with_reducible refine wp_andV ?_
  | with_reducible refine wp_orV ?_
  | with_reducible refine wp_notV ?_
  | with_reducible refine wp_if ?_
  | with_reducible refine wp_nil ?_
  | with_reducible refine wp_cons ?_
  | with_reducible refine wp_tup ?_
  | with_reducible refine wp_lst ?_
  | with_reducible refine wp_lstC ?_
  | with_reducible refine wp_call ?_
  | with_reducible refine wp_callD ?_
  | with_reducible refine wp_callB ?_
  | with_reducible refine wp_m ?_
  | with_reducible refine wp_oNone ?_
  | with_reducible refine wp_oSome ?_
  | with_reducible refine wp_sl ?_
  | with_reducible refine wp_tried ?_
  | with_reducible refine wp_asked ?_
  | with_reducible refine wp_seqOut ?_
  | with_reducible refine wp_asks ?_
  | with_reducible refine wp_asksC ?_
  | with_reducible refine wp_asksN ?_
  | with_reducible refine wp_chain ?_
  | with_reducible refine wp_enum ?_
  | with_reducible refine wp_enumB ?_
  | with_reducible refine wp_zip ?_
  | with_reducible refine wp_joinedT ?_
  | with_reducible refine wp_jNil ?_
  | with_reducible refine wp_jT ?_
  | with_reducible refine wp_lc ?_
  | with_reducible refine wp_lcC ?_
  | with_reducible refine wp_yes ?_
  | with_reducible refine wp_iAny ?_
  | with_reducible refine wp_range1 ?_
  | with_reducible refine wp_range2 ?_
  | with_reducible refine wp_sStar ?_
  | with_reducible refine wp_sDput ?_
  | with_reducible refine wp_sMul ?_
  | with_reducible refine wp_mNil ?_
  | with_reducible refine wp_mCons ?_
  | with_reducible refine wp_mSub ?_
  | with_reducible refine wp_mSubD ?_
  | with_reducible refine wp_dget2 ?_
  | with_reducible refine wp_disp ?_
  | with_reducible refine wp_pNil ?_
  | with_reducible refine wp_pCons ?_)
local macro_rules | `(tactic| fail) => `(tactic| first
  | with_reducible refine wp_eqI ?_
  | with_reducible refine wp_neI ?_
  | with_reducible refine wp_eqB ?_
  | with_reducible refine wp_neB ?_
  | ((with_reducible refine wp_eqStr ?_ ?_ ?_); decide +kernel; decide +kernel)
  | ((with_reducible refine wp_neStr ?_ ?_ ?_); decide +kernel; decide +kernel)
  | with_reducible refine wp_addI ?_
  | with_reducible refine wp_addII ?_
  | with_reducible refine wp_subI ?_
  | with_reducible refine wp_ltI ?_
  | with_reducible refine wp_leI ?_
  | with_reducible refine wp_gtI ?_
  | with_reducible refine wp_geI ?_
  | with_reducible refine wp_negI ?_
  | with_reducible refine wp_intI ?_
  | with_reducible refine wp_intB ?_
  | with_reducible refine wp_absI ?_
  | with_reducible refine wp_un ?_
  | ((with_reducible refine wp_mul ?_ ?_); first | exact mulOk_right (by decide) | exact mulOk_left (by decide) | exact mulOk_mod (by decide) (by decide))
  | ((with_reducible refine wp_mod ?_ ?_); decide)
  | ((with_reducible refine wp_fdiv ?_ ?_ ?_); decide; exact pylong_200 (by decide))
  | with_reducible refine wp_pow18 ?_
  | with_reducible refine wp_pow12 ?_
  | with_reducible refine wp_pow40 ?_
  | ((with_reducible refine wp_ixE ?_); refine ⟨_, rfl, ?_⟩)
  | with_reducible refine wp_len0 ?_
  | with_reducible refine wp_len1 ?_
  | with_reducible refine wp_len2 ?_
  | with_reducible refine wp_len3 ?_
  | with_reducible refine wp_lenT1 ?_
  | with_reducible refine wp_lenT2 ?_
  | with_reducible refine wp_lenT3 ?_
  | ((with_reducible refine wp_lenE ?_); refine ⟨_, rfl, ?_⟩)
  | ((with_reducible refine wp_listOfE ?_); refine ⟨_, rfl, ?_⟩)
  | ((with_reducible refine wp_isiE ?_); refine ⟨_, rfl, ?_⟩)
  | ((with_reducible refine wp_isNE ?_); refine ⟨_, rfl, ?_⟩)
  | ((with_reducible refine wp_notNE ?_); refine ⟨_, rfl, ?_⟩)
  | ((with_reducible refine wp_slE ?_); refine ⟨_, rfl, ?_⟩)
  | ((with_reducible refine sub_okE ?_); refine ⟨_, rfl, ?_⟩)
  | with_reducible refine Exists.intro _ (And.intro rfl ?_)
  | with_reducible refine Exists.intro _ (Exists.intro _ (And.intro rfl ?_))
  | ((with_reducible refine len_eq ?_ ?_); exact rfl)
  | ((with_reducible refine rng_ok ?_ ?_); omega)
  | ((with_reducible refine rng2_ok ?_ ?_); omega)
  | ((with_reducible refine rngD_len ?_ ?_); omega)
  | ((with_reducible refine len_100 ?_ ?_); exact Nat.le_of_ble_eq_true rfl)
  | ((with_reducible refine isTy_ok ?_ ?_); exact rfl)
  | ((with_reducible refine br_t ?_ ?_); first | with_reducible exact rfl | decide)
  | ((with_reducible refine br_f ?_ ?_); first | with_reducible exact rfl | decide)
  | with_reducible refine br_d (fun _ => ?_) (fun _ => ?_)
  | with_reducible refine br_n (fun _ => ?_) (fun _ => ?_))
theorem cut_mid {xs : List D} {a b : Nat} (h1 : a ≤ b) (h2 : b ≤ xs.length) : L3.cutD xs (some (a : Nat)) (some (b : Nat)) = (xs.drop a).take (b - a) := by
  unfold L3.cutD
  rw [HT.sIx_nat, HT.sIx_nat, Nat.min_eq_left h2, Nat.min_eq_left (by omega)]
theorem wp_last {xs : List D} {x : D} {μ : Sto} {Q : D → Sto → Prop} {E : Exs} (q : Q x μ) : (dIx (.lst (xs ++ [x])) (.int (-1)) μ).wp Q E := by
  have e : dIx (.lst (xs ++ [x])) (.int (-1)) μ = .ok x μ := by
    show (match atI (xs ++ [x]) (-1) with
      | some d => R.ok d μ
      | none => .bad) = _
    have e : atI (xs ++ [x]) (-1) = some x := by
      unfold atI ixN
      rw [List.length_append, List.length_singleton, if_neg (by decide), if_pos (by omega), Option.bind_some]
      have : ((-1 : Int) + ((xs.length + 1 : Nat) : Int)).toNat = xs.length := by omega
      rw [this]
      exact List.getElem?_concat_length
    rw [e]
  rw [e]; exact q
end Pf

namespace Pf
open PySem PySem.Spec PyProof.Rows L2 L3
local macro_rules | `(tactic| fail) => `(tactic| first
  | with_reducible refine wp_seqSet ?_
  | with_reducible refine wp_seqAsg ?_
  | with_reducible refine wp_seqPar ?_
  | with_reducible refine wp_seqPar3 ?_
  | with_reducible refine wp_seqFset ?_
  | with_reducible refine wp_seqFaug ?_
  | with_reducible refine wp_sFset ?_
  | with_reducible refine wp_sFaug ?_
  | with_reducible refine wp_meth ?_
  | with_reducible refine wp_make ?_
  | with_reducible refine wp_methX ?_
  | with_reducible refine wp_makeX ?_
  | with_reducible refine wp_sPar3 ?_
  | with_reducible refine three_ok ?_
  | with_reducible refine wp_seqAug ?_
  | with_reducible refine wp_seqExpr ?_
  | with_reducible refine wp_seqSub ?_
  | with_reducible refine wp_seqNil ?_
  | with_reducible refine wp_seqFor ?_
  | with_reducible refine wp_seqWhile ?_
  | with_reducible refine wp_seqStar ?_
  | with_reducible refine wp_seqForK ?_
  | with_reducible refine wp_seqDput ?_
  | with_reducible refine wp_seqMul ?_
  | with_reducible refine wp_sSet ?_
  | with_reducible refine wp_sRet ?_
  | with_reducible refine wp_sNil ?_
  | with_reducible refine wp_sIf ?_
  | with_reducible refine wp_sPar ?_
  | with_reducible refine wp_sAsg ?_
  | with_reducible refine wp_sSub ?_
  | with_reducible refine wp_sFor ?_
  | with_reducible refine wp_sRaise ?_
  | with_reducible refine wp_sExpr ?_
  | with_reducible refine wp_sRetN ?_
  | with_reducible refine wp_sBreak ?_
  | with_reducible refine wp_sCont ?_
  | ((with_reducible refine wp_varE ?_); refine ⟨_, rfl, ?_⟩)
  | with_reducible refine wp_c ?_
  | with_reducible refine wp_B ?_
  | with_reducible refine wp_U ?_
  | with_reducible refine wp_T ?_
  | with_reducible refine wp_andT ?_
  | with_reducible refine wp_orT ?_
  | with_reducible refine wp_notT ?_
  | with_reducible refine wp_andV ?_
  | with_reducible refine wp_orV ?_
  | with_reducible refine wp_notV ?_
  | with_reducible refine wp_if ?_
  | with_reducible refine wp_nil ?_
  | with_reducible refine wp_cons ?_
  | with_reducible refine wp_tup ?_
  | with_reducible refine wp_lst ?_
  | with_reducible refine wp_lstC ?_
  | with_reducible refine wp_call ?_
  | with_reducible refine wp_callD ?_
  | with_reducible refine wp_callB ?_
  | with_reducible refine wp_m ?_
  | with_reducible refine wp_oNone ?_
  | with_reducible refine wp_oSome ?_
  | with_reducible refine wp_sl ?_
  | with_reducible refine wp_tried ?_
  | with_reducible refine wp_asked ?_
  | with_reducible refine wp_seqOut ?_
  | with_reducible refine wp_asks ?_
  | with_reducible refine wp_asksC ?_
  | with_reducible refine wp_asksN ?_
  | with_reducible refine wp_chain ?_
  | with_reducible refine wp_enum ?_
  | with_reducible refine wp_enumB ?_
  | with_reducible refine wp_zip ?_
  | with_reducible refine wp_joinedT ?_
  | with_reducible refine wp_jNil ?_
  | with_reducible refine wp_jT ?_
  | with_reducible refine wp_lc ?_
  | with_reducible refine wp_lcC ?_
  | with_reducible refine wp_yes ?_
  | with_reducible refine wp_iAny ?_
  | with_reducible refine wp_range1 ?_
  | with_reducible refine wp_range2 ?_
  | with_reducible refine wp_sStar ?_
  | with_reducible refine wp_sDput ?_
  | with_reducible refine wp_sMul ?_
  | with_reducible refine wp_mNil ?_
  | with_reducible refine wp_mCons ?_
  | with_reducible refine wp_mSub ?_
  | with_reducible refine wp_mSubD ?_
  | with_reducible refine wp_dget2 ?_
  | with_reducible refine wp_disp ?_
  | with_reducible refine wp_pNil ?_
  | with_reducible refine wp_pCons ?_)
local macro_rules | `(tactic| fail) => `(tactic| first
  | with_reducible refine wp_eqI ?_
  | with_reducible refine wp_neI ?_
  | with_reducible refine wp_eqB ?_
  | with_reducible refine wp_neB ?_
  | ((with_reducible refine wp_eqStr ?_ ?_ ?_); decide +kernel; decide +kernel)
  | ((with_reducible refine wp_neStr ?_ ?_ ?_); decide +kernel; decide +kernel)
  | with_reducible refine wp_addI ?_
  | with_reducible refine wp_addII ?_
  | with_reducible refine wp_subI ?_
  | with_reducible refine wp_ltI ?_
  | with_reducible refine wp_leI ?_
  | with_reducible refine wp_gtI ?_
  | with_reducible refine wp_geI ?_
  | with_reducible refine wp_negI ?_
  | with_reducible refine wp_intI ?_
  | with_reducible refine wp_intB ?_
  | with_reducible refine wp_absI ?_
  | with_reducible refine wp_un ?_
  | ((with_reducible refine wp_mul ?_ ?_); first | exact mulOk_right (by decide) | exact mulOk_left (by decide) | exact mulOk_mod (by decide) (by decide))
  | ((with_reducible refine wp_mod ?_ ?_); decide)
  | ((with_reducible refine wp_fdiv ?_ ?_ ?_); decide; exact pylong_200 (by decide))
  | with_reducible refine wp_pow18 ?_
  | with_reducible refine wp_pow12 ?_
  | with_reducible refine wp_pow40 ?_
  | ((with_reducible refine wp_ixE ?_); refine ⟨_, rfl, ?_⟩)
  | with_reducible refine wp_len0 ?_
  | with_reducible refine wp_len1 ?_
  | with_reducible refine wp_len2 ?_
  | with_reducible refine wp_len3 ?_
  | with_reducible refine wp_lenT1 ?_
  | with_reducible refine wp_lenT2 ?_
  | with_reducible refine wp_lenT3 ?_
  | ((with_reducible refine wp_lenE ?_); refine ⟨_, rfl, ?_⟩)
  | ((with_reducible refine wp_listOfE ?_); refine ⟨_, rfl, ?_⟩)
  | ((with_reducible refine wp_isiE ?_); refine ⟨_, rfl, ?_⟩)
  | ((with_reducible refine wp_isNE ?_); refine ⟨_, rfl, ?_⟩)
  | ((with_reducible refine wp_notNE ?_); refine ⟨_, rfl, ?_⟩)
  | ((with_reducible refine wp_slE ?_); refine ⟨_, rfl, ?_⟩)
  | ((with_reducible refine sub_okE ?_); refine ⟨_, rfl, ?_⟩)
  | with_reducible refine Exists.intro _ (And.intro rfl ?_)
  | with_reducible refine Exists.intro _ (Exists.intro _ (And.intro rfl ?_))
  | ((with_reducible refine len_eq ?_ ?_); exact rfl)
  | ((with_reducible refine rng_ok ?_ ?_); omega)
  | ((with_reducible refine rng2_ok ?_ ?_); omega)
  | ((with_reducible refine rngD_len ?_ ?_); omega)
  | ((with_reducible refine len_100 ?_ ?_); exact Nat.le_of_ble_eq_true rfl)
  | ((with_reducible refine isTy_ok ?_ ?_); exact rfl)
  | ((with_reducible refine br_t ?_ ?_); first | with_reducible exact rfl | decide)
  | ((with_reducible refine br_f ?_ ?_); first | with_reducible exact rfl | decide)
  | with_reducible refine br_d (fun _ => ?_) (fun _ => ?_)
  | with_reducible refine br_n (fun _ => ?_) (fun _ => ?_))
def Shq (m : Nat) (s : Int × Int) : Prop := 0 < s.2 ∧ s.1.natAbs ≤ 2 ^ m ∧ s.2.natAbs ≤ 2 ^ m
theorem Shq.mono {m k : Nat} {s : Int × Int} (h : Shq m s) (l : m ≤ k) : Shq k s :=
  have p := Nat.pow_le_pow_right (n := 2) (by decide) l
  ⟨h.1, Nat.le_trans h.2.1 p, Nat.le_trans h.2.2 p⟩
theorem Shq.frq {m : Nat} {a b : Int} (hb : b ≠ 0) (h1 : a.natAbs ≤ 2 ^ m) (h2 : b.natAbs ≤ 2 ^ m) : Shq m (Mn.frq a b) :=
  ⟨Mn.frq_pos hb, Nat.le_trans (Mn.frq_le a b).1 h1, Nat.le_trans (Mn.frq_le a b).2 h2⟩
section
variable {m k : Nat} {s u : Int × Int}
theorem Shq.bot (hs : Shq m s) (hu : Shq k u) : s.2 * u.2 ≠ 0 ∧ (s.2 * u.2).natAbs ≤ 2 ^ (m + k) := ⟨Int.mul_ne_zero (by have := hs.1; omega) (by have := hu.1; omega), Mn.mul_le hs.2.2 hu.2.2⟩
theorem Shq.mul (hs : Shq m s) (hu : Shq k u) : Shq (m + k) (Mn.mulq s u) := Shq.frq (hs.bot hu).1 (Mn.mul_le hs.2.1 hu.2.1) (hs.bot hu).2
end
abbrev qRow (w : Nat) (r : Nat → Int × Int) : D := .lst (tb w fun j => dSh (r j))
abbrev qRows (h w : Nat) (L : Nat → Nat → Int × Int) : List D := tb h fun i => qRow w (L i)
theorem asL_cellE {k : Nat} {xs : List D} {μ : Sto} (h : asL μ (.cell k) = some xs) : μ[k]? = some (.lst xs) := by
  have h : (match μ[k]? with
    | some (.lst ds) => some ds
    | _ => none) = some xs := h
  cases e : μ[k]? with
  | none => rw [e] at h; cases h
  | some m =>
    cases m with
    | lst ds => rw [e] at h; cases h; rfl
    | dct _ _ => rw [e] at h; cases h
    | ins _ _ _ => rw [e] at h; cases h
theorem asL_walkL {d : D} {xs : List D} {μ : Sto} (h : asL μ d = some xs) : ∃ gd, walkL μ d = some (xs, gd) ∧ gd μ = true := by
  cases d with
  | lst ys => cases h; exact ⟨_, rfl, rfl⟩
  | cell k =>
    have e := asL_cellE h
    exact ⟨_, walkD_cell e, gd_cell e⟩
  | _ => cases h
theorem asL_walkD {d : D} {xs : List D} {μ : Sto} (h : asL μ d = some xs) : ∃ gd, walkD μ d = some (xs, gd) ∧ gd μ = true := by
  cases d with
  | lst ys => cases h; exact ⟨_, rfl, rfl⟩
  | cell k => exact asL_walkL h
  | _ => cases h
theorem asL_app {d : D} {xs : List D} {μ ex : Sto} (h : asL μ d = some xs) : asL (μ ++ ex) d = some xs := by
  cases d with
  | lst ys => cases h; rfl
  | cell k =>
    have e := asL_cellE h
    exact asL_cell (by rw [List.getElem?_append_left (List.getElem?_eq_some_iff.mp e).1]; exact e)
  | _ => cases h
theorem Gp.shq {n m : Nat} {L : Mn.Mq} {A : Nat → Nat → Int} {b : Int} (g : Mn.Gp n m L A b) : ∀ i, i < n → ∀ j, j < n → Shq m (L i j) := fun i hi j hj => by
  obtain ⟨e1, e2⟩ := g.el i hi j hj
  rw [e2]; exact Shq.frq g.nz e1 g.bb
theorem Gp.pos {n m : Nat} {L : Mn.Mq} {A : Nat → Nat → Int} {b : Int} (g : Mn.Gp n m L A b) : ∃ A' b', 0 < b' ∧ Mn.Gp n m L A' b' := by
  by_cases c : 0 < b
  · exact ⟨A, b, c, g⟩
  · refine ⟨fun i j => -A i j, -b, by have := g.nz; omega, g.light (g := -1) (by omega) fun i _ j _ => by omega⟩
/-- rows, each a list wherever it is -/
def QM (μ : Sto) (d : D) (r w : Nat) (L : Nat → Nat → Int × Int) : Prop := ∃ X : Nat → D, asL μ d = some (tb r X) ∧ ∀ i, i < r → asL μ (X i) = some (tb w fun j => dSh (L i j))
theorem QM.app {μ ex : Sto} {d : D} {r w : Nat} {L : Nat → Nat → Int × Int} (h : QM μ d r w L) : QM (μ ++ ex) d r w L := by
  obtain ⟨X, h1, h2⟩ := h
  exact ⟨X, asL_app h1, fun i hi => asL_app (h2 i hi)⟩
theorem QM.rows {μ : Sto} {d : D} {r w : Nat} {L : Nat → Nat → Int × Int} (h : asL μ d = some (qRows r w L)) : QM μ d r w L := ⟨fun i => qRow w (L i), h, fun i hi => rfl⟩
theorem wp_listOfA {d : D} {xs : List D} {μ : Sto} {Q : D → Sto → Prop} {E : Exs} (h : asL μ d = some xs) (q : Q (.lst xs) μ) : (dListOf d μ).wp Q E := by
  cases d with
  | lst ys => cases h; exact wp_listOf rfl q
  | cell k =>
    refine wp_listOf (d := .lst xs) ?_ q
    show (match asQ μ (.cell k) with
      | some ds => R.ok (D.lst ds) μ
      | none => .bad) = _
    have e : asQ μ (.cell k) = some xs := h
    rw [e]
  | _ => cases h
theorem wp_qmul {m k : Nat} {s u : Int × Int} {μ : Sto} {Q : D → Sto → Prop} {E : Exs} (hs : Shq m s) (hu : Shq k u) (h : m + k < 9000) (q : Q (dSh (Mn.mulq s u)) μ) : (f__law_mul [dSh s, dSh u] μ).wp Q E :=
  wp__law_mul (mulOk_le hs.2.1 hu.2.1 (by omega)) (mulOk_le hs.2.2 hu.2.2 (by omega)) (hs.bot hu).1 (NB.le (hs.bot hu).2 h) q
theorem wp_qadd {m k : Nat} {s u : Int × Int} {μ : Sto} {Q : D → Sto → Prop} {E : Exs} (hs : Shq m s) (hu : Shq k u) (h : m + k < 9000) (q : Q (dSh (Mn.addq s u)) μ) : (f__law_add [dSh s, dSh u] μ).wp Q E :=
  wp__law_add (mulOk_le hs.2.1 hu.2.2 (by omega)) (mulOk_le hu.2.1 hs.2.2 (by omega)) (mulOk_le hs.2.2 hu.2.2 (by omega)) (hs.bot hu).1 (NB.le (hs.bot hu).2 h) q
theorem wp_ltscale {d : D} {n m k : Nat} {L : Mn.Mq} {s : Int × Int} {μ : Sto} {Q : D → Sto → Prop} {E : Exs} (hn : n ≤ 4) (hd : asL μ d = some (qRows n n L)) (hL : ∀ i, i < n → ∀ j, j < n → Shq m (L i j)) (hs : Shq k s) (h : m + k < 9000)
    (q : Q (qM n n fun i j => Mn.mulq (L i j) s) μ) : (f__law_tscale [d, dSh s] μ).wp Q E := by
  unfold f__law_tscale
  with_reducible refine wp_fn ?_
  simp only [List.map_cons, List.map_nil, List.length_cons, List.length_nil, List.reduceReplicate, List.cons_append, List.nil_append, Nat.reduceAdd, Nat.reduceSub, Nat.zero_add, List.set_cons_zero, List.set_cons_succ, wipeE]
  unfold b__law_tscale
  obtain ⟨gd, w1, w2⟩ := asL_walkD hd
  repeat' (first | fail | with_reducible refine wp_sSeq ?_)
  refine ⟨_, w1, ?_⟩
  simp only [List.map_cons, List.map_nil, List.length_cons, List.length_nil, List.reduceReplicate, List.cons_append, List.nil_append, Nat.reduceAdd, Nat.reduceSub, Nat.zero_add, List.set_cons_zero, List.set_cons_succ, wipeE]
  refine tb_sz (by omega) ?_
  refine wp_lcT (k := fun i => qRow n fun j => Mn.mulq (L i j) s) w2 q fun i hi => ⟨_, rfl, ?_⟩
  repeat' (first | fail | with_reducible refine wp_sSeq ?_)
  simp only [List.map_cons, List.map_nil, List.length_cons, List.length_nil, List.reduceReplicate, List.cons_append, List.nil_append, Nat.reduceAdd, Nat.reduceSub, Nat.zero_add, List.set_cons_zero, List.set_cons_succ, wipeE]
  refine tb_sz (by omega) ?_
  refine wp_lcT (k := fun j => dSh (Mn.mulq (L i j) s)) rfl ⟨rfl, rfl⟩ fun j hj => ⟨_, rfl, ?_⟩
  repeat' (first | fail | with_reducible refine wp_sSeq ?_)
  exact wp_qmul (hL i hi j hj) hs h ⟨rfl, rfl⟩
end Pf

namespace Pf
open PySem PySem.Spec PyProof.Rows L2 L3
local macro_rules | `(tactic| fail) => `(tactic| first
  | with_reducible refine wp_seqSet ?_
  | with_reducible refine wp_seqAsg ?_
  | with_reducible refine wp_seqPar ?_
  | with_reducible refine wp_seqPar3 ?_
  | with_reducible refine wp_seqFset ?_
  | with_reducible refine wp_seqFaug ?_
  | with_reducible refine wp_sFset ?_
  | with_reducible refine wp_sFaug ?_
  | with_reducible refine wp_meth ?_
  | with_reducible refine wp_make ?_
  | with_reducible refine wp_methX ?_
  | with_reducible refine wp_makeX ?_
  | with_reducible refine wp_sPar3 ?_
  | with_reducible refine three_ok ?_
  | with_reducible refine wp_seqAug ?_
  | with_reducible refine wp_seqExpr ?_
  | with_reducible refine wp_seqSub ?_
  | with_reducible refine wp_seqNil ?_
  | with_reducible refine wp_seqFor ?_
  | with_reducible refine wp_seqWhile ?_
  | with_reducible refine wp_seqStar ?_
  | with_reducible refine wp_seqForK ?_
  | with_reducible refine wp_seqDput ?_
  | with_reducible refine wp_seqMul ?_
  | with_reducible refine wp_sSet ?_
  | with_reducible refine wp_sRet ?_
  | with_reducible refine wp_sNil ?_
  | with_reducible refine wp_sIf ?_
  | with_reducible refine wp_sPar ?_
  | with_reducible refine wp_sAsg ?_
  | with_reducible refine wp_sSub ?_
  | with_reducible refine wp_sFor ?_
  | with_reducible refine wp_sRaise ?_
  | with_reducible refine wp_sExpr ?_
  | with_reducible refine wp_sRetN ?_
  | with_reducible refine wp_sBreak ?_
  | with_reducible refine wp_sCont ?_
  | ((with_reducible refine wp_varE ?_); refine ⟨_, rfl, ?_⟩)
  | with_reducible refine wp_c ?_
  | with_reducible refine wp_B ?_
  | with_reducible refine wp_U ?_
  | with_reducible refine wp_T ?_
  | with_reducible refine wp_andT ?_
  | with_reducible refine wp_orT ?_
  | with_reducible refine wp_notT ?_
  | with_reducible refine wp_andV ?_
  | with_reducible refine wp_orV ?_
  | with_reducible refine wp_notV ?_
  | with_reducible refine wp_if ?_
  | with_reducible refine wp_nil ?_
  | with_reducible refine wp_cons ?_
  | with_reducible refine wp_tup ?_
  | with_reducible refine wp_lst ?_
  | with_reducible refine wp_lstC ?_
  | with_reducible refine wp_call ?_
  | with_reducible refine wp_callD ?_
  | with_reducible refine wp_callB ?_
  | with_reducible refine wp_m ?_
  | with_reducible refine wp_oNone ?_
  | with_reducible refine wp_oSome ?_
  | with_reducible refine wp_sl ?_
  | with_reducible refine wp_tried ?_
  | with_reducible refine wp_asked ?_
  | with_reducible refine wp_seqOut ?_
  | with_reducible refine wp_asks ?_
  | with_reducible refine wp_asksC ?_
  | with_reducible refine wp_asksN ?_
  | with_reducible refine wp_chain ?_
  | with_reducible refine wp_enum ?_
  | with_reducible refine wp_enumB ?_
  | with_reducible refine wp_zip ?_
  | with_reducible refine wp_joinedT ?_
  | with_reducible refine wp_jNil ?_
  | with_reducible refine wp_jT ?_
  | with_reducible refine wp_lc ?_
  | with_reducible refine wp_lcC ?_
  | with_reducible refine wp_yes ?_
  | with_reducible refine wp_iAny ?_
  | with_reducible refine wp_range1 ?_
  | with_reducible refine wp_range2 ?_
  | with_reducible refine wp_sStar ?_
  | with_reducible refine wp_sDput ?_
  | with_reducible refine wp_sMul ?_
  | with_reducible refine wp_mNil ?_
  | with_reducible refine wp_mCons ?_
  | with_reducible refine wp_mSub ?_
  | with_reducible refine wp_mSubD ?_
  | with_reducible refine wp_dget2 ?_
  | with_reducible refine wp_disp ?_
  | with_reducible refine wp_pNil ?_
  | with_reducible refine wp_pCons ?_)
local macro_rules | `(tactic| fail) => `(tactic| first
  | with_reducible refine wp_eqI ?_
  | with_reducible refine wp_neI ?_
  | with_reducible refine wp_eqB ?_
  | with_reducible refine wp_neB ?_
  | ((with_reducible refine wp_eqStr ?_ ?_ ?_); decide +kernel; decide +kernel)
  | ((with_reducible refine wp_neStr ?_ ?_ ?_); decide +kernel; decide +kernel)
  | with_reducible refine wp_addI ?_
  | with_reducible refine wp_addII ?_
  | with_reducible refine wp_subI ?_
  | with_reducible refine wp_ltI ?_
  | with_reducible refine wp_leI ?_
  | with_reducible refine wp_gtI ?_
  | with_reducible refine wp_geI ?_
  | with_reducible refine wp_negI ?_
  | with_reducible refine wp_intI ?_
  | with_reducible refine wp_intB ?_
  | with_reducible refine wp_absI ?_
  | with_reducible refine wp_un ?_
  | ((with_reducible refine wp_mul ?_ ?_); first | exact mulOk_right (by decide) | exact mulOk_left (by decide) | exact mulOk_mod (by decide) (by decide))
  | ((with_reducible refine wp_mod ?_ ?_); decide)
  | ((with_reducible refine wp_fdiv ?_ ?_ ?_); decide; exact pylong_200 (by decide))
  | with_reducible refine wp_pow18 ?_
  | with_reducible refine wp_pow12 ?_
  | with_reducible refine wp_pow40 ?_
  | ((with_reducible refine wp_ixE ?_); refine ⟨_, rfl, ?_⟩)
  | with_reducible refine wp_len0 ?_
  | with_reducible refine wp_len1 ?_
  | with_reducible refine wp_len2 ?_
  | with_reducible refine wp_len3 ?_
  | with_reducible refine wp_lenT1 ?_
  | with_reducible refine wp_lenT2 ?_
  | with_reducible refine wp_lenT3 ?_
  | ((with_reducible refine wp_lenE ?_); refine ⟨_, rfl, ?_⟩)
  | ((with_reducible refine wp_listOfE ?_); refine ⟨_, rfl, ?_⟩)
  | ((with_reducible refine wp_isiE ?_); refine ⟨_, rfl, ?_⟩)
  | ((with_reducible refine wp_isNE ?_); refine ⟨_, rfl, ?_⟩)
  | ((with_reducible refine wp_notNE ?_); refine ⟨_, rfl, ?_⟩)
  | ((with_reducible refine wp_slE ?_); refine ⟨_, rfl, ?_⟩)
  | ((with_reducible refine sub_okE ?_); refine ⟨_, rfl, ?_⟩)
  | with_reducible refine Exists.intro _ (And.intro rfl ?_)
  | with_reducible refine Exists.intro _ (Exists.intro _ (And.intro rfl ?_))
  | ((with_reducible refine len_eq ?_ ?_); exact rfl)
  | ((with_reducible refine rng_ok ?_ ?_); omega)
  | ((with_reducible refine rng2_ok ?_ ?_); omega)
  | ((with_reducible refine rngD_len ?_ ?_); omega)
  | ((with_reducible refine len_100 ?_ ?_); exact Nat.le_of_ble_eq_true rfl)
  | ((with_reducible refine isTy_ok ?_ ?_); exact rfl)
  | ((with_reducible refine br_t ?_ ?_); first | with_reducible exact rfl | decide)
  | ((with_reducible refine br_f ?_ ?_); first | with_reducible exact rfl | decide)
  | with_reducible refine br_d (fun _ => ?_) (fun _ => ?_)
  | with_reducible refine br_n (fun _ => ?_) (fun _ => ?_))
theorem qM_pu {n : Nat} {L : Nat → Nat → Int × Int} (n4 : n ≤ 4) : Pu 5 (qM n n L) := .lst (by rw [tb_len]; omega) fun x hx => by
  obtain ⟨i, _, rfl⟩ := List.mem_map.mp hx
  exact .lst (by rw [tb_len]; omega) fun y hy => by
    obtain ⟨j, _, rfl⟩ := List.mem_map.mp hy
    exact Pu.sh (n := 1)
end Pf

namespace Pf
open PySem PySem.Spec PyProof.Rows L2 L3
local macro_rules | `(tactic| fail) => `(tactic| first
  | with_reducible refine wp_seqSet ?_
  | with_reducible refine wp_seqAsg ?_
  | with_reducible refine wp_seqPar ?_
  | with_reducible refine wp_seqPar3 ?_
  | with_reducible refine wp_seqFset ?_
  | with_reducible refine wp_seqFaug ?_
  | with_reducible refine wp_sFset ?_
  | with_reducible refine wp_sFaug ?_
  | with_reducible refine wp_meth ?_
  | with_reducible refine wp_make ?_
  | with_reducible refine wp_methX ?_
  | with_reducible refine wp_makeX ?_
  | with_reducible refine wp_sPar3 ?_
  | with_reducible refine three_ok ?_
  | with_reducible refine wp_seqAug ?_
  | with_reducible refine wp_seqExpr ?_
  | with_reducible refine wp_seqSub ?_
  | with_reducible refine wp_seqNil ?_
  | with_reducible refine wp_seqFor ?_
  | with_reducible refine wp_seqWhile ?_
  | with_reducible refine wp_seqStar ?_
  | with_reducible refine wp_seqForK ?_
  | with_reducible refine wp_seqDput ?_
  | with_reducible refine wp_seqMul ?_
  | with_reducible refine wp_sSet ?_
  | with_reducible refine wp_sRet ?_
  | with_reducible refine wp_sNil ?_
  | with_reducible refine wp_sIf ?_
  | with_reducible refine wp_sPar ?_
  | with_reducible refine wp_sAsg ?_
  | with_reducible refine wp_sSub ?_
  | with_reducible refine wp_sFor ?_
  | with_reducible refine wp_sRaise ?_
  | with_reducible refine wp_sExpr ?_
  | with_reducible refine wp_sRetN ?_
  | with_reducible refine wp_sBreak ?_
  | with_reducible refine wp_sCont ?_
  | ((with_reducible refine wp_varE ?_); refine ⟨_, rfl, ?_⟩)
  | with_reducible refine wp_c ?_
  | with_reducible refine wp_B ?_
  | with_reducible refine wp_U ?_
  | with_reducible refine wp_T ?_
  | with_reducible refine wp_andT ?_
  | with_reducible refine wp_orT ?_
  | with_reducible refine wp_notT ?_
  | with_reducible refine wp_andV ?_
  | with_reducible refine wp_orV ?_
  | with_reducible refine wp_notV ?_
  | with_reducible refine wp_if ?_
  | with_reducible refine wp_nil ?_
  | with_reducible refine wp_cons ?_
  | with_reducible refine wp_tup ?_
  | with_reducible refine wp_lst ?_
  | with_reducible refine wp_lstC ?_
  | with_reducible refine wp_call ?_
  | with_reducible refine wp_callD ?_
  | with_reducible refine wp_callB ?_
  | with_reducible refine wp_m ?_
  | with_reducible refine wp_oNone ?_
  | with_reducible refine wp_oSome ?_
  | with_reducible refine wp_sl ?_
  | with_reducible refine wp_tried ?_
  | with_reducible refine wp_asked ?_
  | with_reducible refine wp_seqOut ?_
  | with_reducible refine wp_asks ?_
  | with_reducible refine wp_asksC ?_
  | with_reducible refine wp_asksN ?_
  | with_reducible refine wp_chain ?_
  | with_reducible refine wp_enum ?_
  | with_reducible refine wp_enumB ?_
  | with_reducible refine wp_zip ?_
  | with_reducible refine wp_joinedT ?_
  | with_reducible refine wp_jNil ?_
  | with_reducible refine wp_jT ?_
  | with_reducible refine wp_lc ?_
  | with_reducible refine wp_lcC ?_
  | with_reducible refine wp_yes ?_
  | with_reducible refine wp_iAny ?_
  | with_reducible refine wp_range1 ?_
  | with_reducible refine wp_range2 ?_
  | with_reducible refine wp_sStar ?_
  | with_reducible refine wp_sDput ?_
  | with_reducible refine wp_sMul ?_
  | with_reducible refine wp_mNil ?_
  | with_reducible refine wp_mCons ?_
  | with_reducible refine wp_mSub ?_
  | with_reducible refine wp_mSubD ?_
  | with_reducible refine wp_dget2 ?_
  | with_reducible refine wp_disp ?_
  | with_reducible refine wp_pNil ?_
  | with_reducible refine wp_pCons ?_)
local macro_rules | `(tactic| fail) => `(tactic| first
  | with_reducible refine wp_eqI ?_
  | with_reducible refine wp_neI ?_
  | with_reducible refine wp_eqB ?_
  | with_reducible refine wp_neB ?_
  | ((with_reducible refine wp_eqStr ?_ ?_ ?_); decide +kernel; decide +kernel)
  | ((with_reducible refine wp_neStr ?_ ?_ ?_); decide +kernel; decide +kernel)
  | with_reducible refine wp_addI ?_
  | with_reducible refine wp_addII ?_
  | with_reducible refine wp_subI ?_
  | with_reducible refine wp_ltI ?_
  | with_reducible refine wp_leI ?_
  | with_reducible refine wp_gtI ?_
  | with_reducible refine wp_geI ?_
  | with_reducible refine wp_negI ?_
  | with_reducible refine wp_intI ?_
  | with_reducible refine wp_intB ?_
  | with_reducible refine wp_absI ?_
  | with_reducible refine wp_un ?_
  | ((with_reducible refine wp_mul ?_ ?_); first | exact mulOk_right (by decide) | exact mulOk_left (by decide) | exact mulOk_mod (by decide) (by decide))
  | ((with_reducible refine wp_mod ?_ ?_); decide)
  | ((with_reducible refine wp_fdiv ?_ ?_ ?_); decide; exact pylong_200 (by decide))
  | with_reducible refine wp_pow18 ?_
  | with_reducible refine wp_pow12 ?_
  | with_reducible refine wp_pow40 ?_
  | ((with_reducible refine wp_ixE ?_); refine ⟨_, rfl, ?_⟩)
  | with_reducible refine wp_len0 ?_
  | with_reducible refine wp_len1 ?_
  | with_reducible refine wp_len2 ?_
  | with_reducible refine wp_len3 ?_
  | with_reducible refine wp_lenT1 ?_
  | with_reducible refine wp_lenT2 ?_
  | with_reducible refine wp_lenT3 ?_
  | ((with_reducible refine wp_lenE ?_); refine ⟨_, rfl, ?_⟩)
  | ((with_reducible refine wp_listOfE ?_); refine ⟨_, rfl, ?_⟩)
  | ((with_reducible refine wp_isiE ?_); refine ⟨_, rfl, ?_⟩)
  | ((with_reducible refine wp_isNE ?_); refine ⟨_, rfl, ?_⟩)
  | ((with_reducible refine wp_notNE ?_); refine ⟨_, rfl, ?_⟩)
  | ((with_reducible refine wp_slE ?_); refine ⟨_, rfl, ?_⟩)
  | ((with_reducible refine sub_okE ?_); refine ⟨_, rfl, ?_⟩)
  | with_reducible refine Exists.intro _ (And.intro rfl ?_)
  | with_reducible refine Exists.intro _ (Exists.intro _ (And.intro rfl ?_))
  | ((with_reducible refine len_eq ?_ ?_); exact rfl)
  | ((with_reducible refine rng_ok ?_ ?_); omega)
  | ((with_reducible refine rng2_ok ?_ ?_); omega)
  | ((with_reducible refine rngD_len ?_ ?_); omega)
  | ((with_reducible refine len_100 ?_ ?_); exact Nat.le_of_ble_eq_true rfl)
  | ((with_reducible refine isTy_ok ?_ ?_); exact rfl)
  | ((with_reducible refine br_t ?_ ?_); first | with_reducible exact rfl | decide)
  | ((with_reducible refine br_f ?_ ?_); first | with_reducible exact rfl | decide)
  | with_reducible refine br_d (fun _ => ?_) (fun _ => ?_)
  | with_reducible refine br_n (fun _ => ?_) (fun _ => ?_))
end Pf

namespace Pf
open PySem PySem.Spec PyProof.Rows L2 L3
local macro_rules | `(tactic| fail) => `(tactic| first
  | with_reducible refine wp_seqSet ?_
  | with_reducible refine wp_seqAsg ?_
  | with_reducible refine wp_seqPar ?_
  | with_reducible refine wp_seqPar3 ?_
  | with_reducible refine wp_seqFset ?_
  | with_reducible refine wp_seqFaug ?_
  | with_reducible refine wp_sFset ?_
  | with_reducible refine wp_sFaug ?_
  | with_reducible refine wp_meth ?_
  | with_reducible refine wp_make ?_
  | with_reducible refine wp_methX ?_
  | with_reducible refine wp_makeX ?_
  | with_reducible refine wp_sPar3 ?_
  | with_reducible refine three_ok ?_
  | with_reducible refine wp_seqAug ?_
  | with_reducible refine wp_seqExpr ?_
  | with_reducible refine wp_seqSub ?_
  | with_reducible refine wp_seqNil ?_
  | with_reducible refine wp_seqFor ?_
  | with_reducible refine wp_seqWhile ?_
  | with_reducible refine wp_seqStar ?_
  | with_reducible refine wp_seqForK ?_
  | with_reducible refine wp_seqDput ?_
  | with_reducible refine wp_seqMul ?_
  | with_reducible refine wp_sSet ?_
  | with_reducible refine wp_sRet ?_
  | with_reducible refine wp_sNil ?_
  | with_reducible refine wp_sIf ?_
  | with_reducible refine wp_sPar ?_
  | with_reducible refine wp_sAsg ?_
  | with_reducible refine wp_sSub ?_
  | with_reducible refine wp_sFor ?_
  | with_reducible refine wp_sRaise ?_
  | with_reducible refine wp_sExpr ?_
  | with_reducible refine wp_sRetN ?_
  | with_reducible refine wp_sBreak ?_
  | with_reducible refine wp_sCont ?_
  | ((with_reducible refine wp_varE ?_); refine ⟨_, rfl, ?_⟩)
  | with_reducible refine wp_c ?_
  | with_reducible refine wp_B ?_
  | with_reducible refine wp_U ?_
  | with_reducible refine wp_T ?_
  | with_reducible refine wp_andT ?_
  | with_reducible refine wp_orT ?_
  | with_reducible refine wp_notT ?_
  | with_reducible refine wp_andV ?_
  | with_reducible refine wp_orV ?_
  | with_reducible refine wp_notV ?_
  | with_reducible refine wp_if ?_
  | with_reducible refine wp_nil ?_
  | with_reducible refine wp_cons ?_
  | with_reducible refine wp_tup ?_
  | with_reducible refine wp_lst ?_
  | with_reducible refine wp_lstC ?_
  | with_reducible refine wp_call ?_
  | with_reducible refine wp_callD ?_
  | with_reducible refine wp_callB ?_
  | with_reducible refine wp_m ?_
  | with_reducible refine wp_oNone ?_
  | with_reducible refine wp_oSome ?_
  | with_reducible refine wp_sl ?_
  | with_reducible refine wp_tried ?_
  | with_reducible refine wp_asked ?_
  | with_reducible refine wp_seqOut ?_
  | with_reducible refine wp_asks ?_
  | with_reducible refine wp_asksC ?_
  | with_reducible refine wp_asksN ?_
  | with_reducible refine wp_chain ?_
  | with_reducible refine wp_enum ?_
  | with_reducible refine wp_enumB ?_
  | with_reducible refine wp_zip ?_
  | with_reducible refine wp_joinedT ?_
  | with_reducible refine wp_jNil ?_
  | with_reducible refine wp_jT ?_
  | with_reducible refine wp_lc ?_
  | with_reducible refine wp_lcC ?_
  | with_reducible refine wp_yes ?_
  | with_reducible refine wp_iAny ?_
  | with_reducible refine wp_range1 ?_
  | with_reducible refine wp_range2 ?_
  | with_reducible refine wp_sStar ?_
  | with_reducible refine wp_sDput ?_
  | with_reducible refine wp_sMul ?_
  | with_reducible refine wp_mNil ?_
  | with_reducible refine wp_mCons ?_
  | with_reducible refine wp_mSub ?_
  | with_reducible refine wp_mSubD ?_
  | with_reducible refine wp_dget2 ?_
  | with_reducible refine wp_disp ?_
  | with_reducible refine wp_pNil ?_
  | with_reducible refine wp_pCons ?_)
local macro_rules | `(tactic| fail) => `(tactic| first
  | with_reducible refine wp_eqI ?_
  | with_reducible refine wp_neI ?_
  | with_reducible refine wp_eqB ?_
  | with_reducible refine wp_neB ?_
  | ((with_reducible refine wp_eqStr ?_ ?_ ?_); decide +kernel; decide +kernel)
  | ((with_reducible refine wp_neStr ?_ ?_ ?_); decide +kernel; decide +kernel)
  | with_reducible refine wp_addI ?_
  | with_reducible refine wp_addII ?_
  | with_reducible refine wp_subI ?_
  | with_reducible refine wp_ltI ?_
  | with_reducible refine wp_leI ?_
  | with_reducible refine wp_gtI ?_
  | with_reducible refine wp_geI ?_
  | with_reducible refine wp_negI ?_
  | with_reducible refine wp_intI ?_
  | with_reducible refine wp_intB ?_
  | with_reducible refine wp_absI ?_
  | with_reducible refine wp_un ?_
  | ((with_reducible refine wp_mul ?_ ?_); first | exact mulOk_right (by decide) | exact mulOk_left (by decide) | exact mulOk_mod (by decide) (by decide))
  | ((with_reducible refine wp_mod ?_ ?_); decide)
  | ((with_reducible refine wp_fdiv ?_ ?_ ?_); decide; exact pylong_200 (by decide))
  | with_reducible refine wp_pow18 ?_
  | with_reducible refine wp_pow12 ?_
  | with_reducible refine wp_pow40 ?_
  | ((with_reducible refine wp_ixE ?_); refine ⟨_, rfl, ?_⟩)
  | with_reducible refine wp_len0 ?_
  | with_reducible refine wp_len1 ?_
  | with_reducible refine wp_len2 ?_
  | with_reducible refine wp_len3 ?_
  | with_reducible refine wp_lenT1 ?_
  | with_reducible refine wp_lenT2 ?_
  | with_reducible refine wp_lenT3 ?_
  | ((with_reducible refine wp_lenE ?_); refine ⟨_, rfl, ?_⟩)
  | ((with_reducible refine wp_listOfE ?_); refine ⟨_, rfl, ?_⟩)
  | ((with_reducible refine wp_isiE ?_); refine ⟨_, rfl, ?_⟩)
  | ((with_reducible refine wp_isNE ?_); refine ⟨_, rfl, ?_⟩)
  | ((with_reducible refine wp_notNE ?_); refine ⟨_, rfl, ?_⟩)
  | ((with_reducible refine wp_slE ?_); refine ⟨_, rfl, ?_⟩)
  | ((with_reducible refine sub_okE ?_); refine ⟨_, rfl, ?_⟩)
  | with_reducible refine Exists.intro _ (And.intro rfl ?_)
  | with_reducible refine Exists.intro _ (Exists.intro _ (And.intro rfl ?_))
  | ((with_reducible refine len_eq ?_ ?_); exact rfl)
  | ((with_reducible refine rng_ok ?_ ?_); omega)
  | ((with_reducible refine rng2_ok ?_ ?_); omega)
  | ((with_reducible refine rngD_len ?_ ?_); omega)
  | ((with_reducible refine len_100 ?_ ?_); exact Nat.le_of_ble_eq_true rfl)
  | ((with_reducible refine isTy_ok ?_ ?_); exact rfl)
  | ((with_reducible refine br_t ?_ ?_); first | with_reducible exact rfl | decide)
  | ((with_reducible refine br_f ?_ ?_); first | with_reducible exact rfl | decide)
  | with_reducible refine br_d (fun _ => ?_) (fun _ => ?_)
  | with_reducible refine br_n (fun _ => ?_) (fun _ => ?_))
/-! shares of any bottoms made whole -/
theorem lcm_step {f x B : Int} (f0 : 0 < f) (x0 : 0 < x) (hf : f ∣ B) (hx : x ∣ B) : 0 < f.fdiv (Int.gcd f x : Nat) * x ∧ f.fdiv (Int.gcd f x : Nat) * x ∣ B ∧ f ∣ f.fdiv (Int.gcd f x : Nat) * x ∧ x ∣ f.fdiv (Int.gcd f x : Nat) * x := by
  obtain ⟨a, rfl⟩ : ∃ a : Nat, f = a := ⟨f.toNat, by omega⟩
  obtain ⟨c, rfl⟩ : ∃ c : Nat, x = c := ⟨x.toNat, by omega⟩
  have a0 : 0 < a := by omega
  have c0 : 0 < c := by omega
  have e : ((a : Nat) : Int).fdiv (Int.gcd a c : Nat) * (c : Nat) = ((Nat.lcm a c : Nat) : Int) := by
    have e1 : Int.gcd (a : Int) (c : Int) = Nat.gcd a c := rfl
    rw [e1, Int.fdiv_eq_ediv_of_nonneg _ (by omega), ← Int.natCast_ediv, ← Int.natCast_mul]
    congr 1
    exact Nat.div_mul_right_comm (Nat.gcd_dvd_left a c) c
  rw [e]
  refine ⟨?_, ?_, Int.natCast_dvd_natCast.mpr (Nat.dvd_lcm_left a c), Int.natCast_dvd_natCast.mpr (Nat.dvd_lcm_right a c)⟩
  · have := Nat.lcm_pos a0 c0; omega
  · rw [← Int.dvd_natAbs]
    exact Int.natCast_dvd_natCast.mpr (Nat.lcm_dvd (Int.natAbs_dvd_natAbs.mpr hf) (Int.natAbs_dvd_natAbs.mpr hx))
theorem abs_dvd {a b : Int} {m : Nat} (h : a ∣ b) (hb : b ≠ 0) (l : b.natAbs ≤ 2 ^ m) : a.natAbs ≤ 2 ^ m :=
  Nat.le_trans (Nat.le_of_dvd (by omega) (Int.natAbs_dvd_natAbs.mpr h)) l
theorem fdiv_abs {a b : Int} (h : b ∣ a) (hb : b ≠ 0) : (a.fdiv b).natAbs ≤ a.natAbs := by
  obtain ⟨c, rfl⟩ := h
  rw [Int.mul_fdiv_cancel_left _ hb, Int.natAbs_mul]
  exact Nat.le_mul_of_pos_left _ (by omega)
theorem wp_multipleG {l : List Int} {B : Int} {m : Nat} {μ : Sto} {Q : D → Sto → Prop} {E : Exs} (hB : B ≠ 0) (hm : B.natAbs ≤ 2 ^ m) (m9 : m < 9000) (hl : ∀ x ∈ l, 0 < x ∧ x ∣ B) (q : ∀ f, 0 < f → f ∣ B → (∀ x ∈ l, x ∣ f) → Q (.int f) μ) : (f_multiple [.lst (l.map D.int)] μ).wp Q E := by
  unfold f_multiple
  with_reducible refine wp_fn ?_
  simp only [List.map_cons, List.map_nil, List.length_cons, List.length_nil, List.reduceReplicate, List.cons_append, List.nil_append, Nat.reduceAdd, Nat.reduceSub, Nat.zero_add, List.set_cons_zero, List.set_cons_succ, wipeE]
  unfold b_multiple
  repeat' (first | fail | with_reducible refine wp_sSeq ?_)
  refine wp_forS (fun ds ρ μ' => μ' = μ ∧ ∃ us ws f a, l = us ++ ws ∧ ds = ws.map D.int ∧ ρ = [some (.lst (l.map D.int)), some (.int f), a] ∧ 0 < f ∧ f ∣ B ∧ ∀ x ∈ us, x ∣ f) ⟨rfl, [], l, 1, _, rfl, rfl, rfl, by decide, Int.one_dvd _, fun x hx => nomatch hx⟩ (fun ρ μ' z => ⟨rfl, ?_⟩) fun x ds ρ μ' z => ⟨rfl, ?_⟩
  · obtain ⟨rfl, us, ws, f, a, e1, e2, rfl, f0, fB, fu⟩ := z
    repeat' (first | fail | with_reducible refine wp_sSeq ?_)
    cases ws with
    | cons _ _ => cases e2
    | nil =>
      rw [List.append_nil] at e1; subst e1
      exact q f f0 fB fu
  · obtain ⟨rfl, us, ws, f, a, e1, e2, rfl, f0, fB, fu⟩ := z
    cases ws with
    | nil => cases e2
    | cons z1 r =>
      cases e2
      obtain ⟨x0, xB⟩ := hl z1 (by rw [e1]; simp)
      obtain ⟨n1, n2, n3, n4⟩ := lcm_step f0 x0 fB xB
      have gd : ((Int.gcd f z1 : Nat) : Int) ∣ f := Int.gcd_dvd_left ..
      have gz : ((Int.gcd f z1 : Nat) : Int) ≠ 0 := div_nz gd (by omega)
      refine ⟨_, rfl, ?_⟩
      repeat' (first | fail | with_reducible refine wp_sSeq ?_)
      refine wp_divisor ?_
      refine wp_fdiv gz (NB.le (abs_dvd (Int.dvd_trans gd fB) hB hm) m9).py ?_
      repeat' (first | fail | with_reducible refine wp_sSeq ?_)
      refine wp_mul (mulOk_le (Nat.le_trans (fdiv_abs gd gz) (abs_dvd fB hB hm)) (abs_dvd xB hB hm) (by omega)) ?_
      exact ⟨rfl, us ++ [z1], r, _, _, by rw [e1]; simp, rfl, rfl, n1, n2, fun x hx => by
        rcases List.mem_append.mp hx with h | h
        · exact Int.dvd_trans (fu x h) n3
        · rw [List.mem_singleton] at h; subst h; exact n4⟩
theorem wp_wholesG {l : List (Int × Int)} {B : Int} {m : Nat} {μ : Sto} {Q : D → Sto → Prop} {E : Exs} (hB : B ≠ 0) (hm : B.natAbs ≤ 2 ^ m) (m9 : m < 9000) (hl : ∀ s ∈ l, 0 < s.2 ∧ s.2 ∣ B ∧ s.1.natAbs ≤ 2 ^ m) (ll : l.length ≤ 100) (q : ∀ f, 0 < f → f ∣ B → (∀ s ∈ l, s.2 ∣ f) → Q (.lst (l.map fun s => .int (s.1 * f.fdiv s.2))) μ) : (f_wholes [.lst (l.map dSh)] μ).wp Q E := by
  have l2 : ∀ (F : Int × Int → D) {A : Prop}, A → ((l.map F).length ≤ sizeLine ∧ A) := fun F A a => ⟨by rw [List.length_map, sizeLine_eq]; omega, a⟩
  unfold f_wholes
  with_reducible refine wp_fn ?_
  simp only [List.map_cons, List.map_nil, List.length_cons, List.length_nil, List.reduceReplicate, List.cons_append, List.nil_append, Nat.reduceAdd, Nat.reduceSub, Nat.zero_add, List.set_cons_zero, List.set_cons_succ, wipeE]
  unfold b_wholes
  repeat' (first | fail | with_reducible refine wp_sSeq ?_)
  refine l2 _ ?_
  refine wp_lcM (l := l) (g := dSh) (k := fun s => .int s.2) rfl ?_ fun x hx => ⟨_, rfl, ?_⟩
  · repeat' (first | fail | with_reducible refine wp_sSeq ?_)
    rw [show (l.map fun s => D.int s.2) = (l.map fun s => s.2).map D.int from by rw [List.map_map]; rfl]
    refine wp_multipleG hB hm m9 (fun x hx => by
      obtain ⟨s, hs, rfl⟩ := List.mem_map.mp hx
      exact ⟨(hl s hs).1, (hl s hs).2.1⟩) fun f f0 fB fu => ?_
    have fu : ∀ s ∈ l, s.2 ∣ f := fun s hs => fu _ (List.mem_map.mpr ⟨s, hs, rfl⟩)
    repeat' (first | fail | with_reducible refine wp_sSeq ?_)
    simp only [List.map_cons, List.map_nil, List.length_cons, List.length_nil, List.reduceReplicate, List.cons_append, List.nil_append, Nat.reduceAdd, Nat.reduceSub, Nat.zero_add, List.set_cons_zero, List.set_cons_succ, wipeE]
    refine l2 _ ?_
    refine wp_lcM (l := l) (g := dSh) (k := fun s => .int (s.1 * f.fdiv s.2)) rfl (q f f0 fB fu) fun x hx => ⟨_, rfl, ?_⟩
    obtain ⟨x0, xB, xt⟩ := hl x hx
    repeat' (first | fail | with_reducible refine wp_sSeq ?_)
    refine wp_fdiv (by omega) (NB.le (abs_dvd xB hB hm) m9).py ?_
    repeat' (first | fail | with_reducible refine wp_sSeq ?_)
    refine wp_mul (mulOk_le xt (Nat.le_trans (fdiv_abs (fu x hx) (by omega)) (abs_dvd fB hB hm)) (by omega)) ?_
    exact ⟨rfl, rfl⟩
  · repeat' (first | fail | with_reducible refine wp_sSeq ?_)
    exact ⟨rfl, rfl⟩
theorem flat_gen {α : Type} {n : Nat} {T : Nat → Nat → α} : ∀ {m : Nat}, (((List.range m).map fun i => (List.range n).map (T i)).flatten).length = m * n ∧ ∀ k j, k < m → j < n → (((List.range m).map fun i => (List.range n).map (T i)).flatten)[k * n + j]? = some (T k j)
  | 0 => ⟨by simp, fun k j h => absurd h (Nat.not_lt_zero _)⟩
  | m + 1 => by
    obtain ⟨hl, hg⟩ := flat_gen (n := n) (T := T) (m := m)
    have e : ((List.range (m + 1)).map fun i => (List.range n).map (T i)).flatten = ((List.range m).map fun i => (List.range n).map (T i)).flatten ++ (List.range n).map (T m) := by
      rw [List.range_succ, List.map_append, List.flatten_append]; simp
    rw [e]
    refine ⟨by rw [List.length_append, hl, List.length_map, List.length_range, Nat.succ_mul], fun k j hk hj => ?_⟩
    by_cases c : k < m
    · have lt : k * n + j < m * n := by
        have : (k + 1) * n ≤ m * n := Nat.mul_le_mul_right _ c
        rw [Nat.succ_mul] at this
        omega
      rw [List.getElem?_append_left (by rw [hl]; exact lt)]
      exact hg k j c hj
    · have : k = m := by omega
      subst this
      rw [List.getElem?_append_right (by rw [hl]; omega), hl, Nat.add_sub_cancel_left, List.getElem?_map, List.getElem?_range hj]
      rfl
theorem Gp.whole {n m : Nat} {L : Mn.Mq} {A : Nat → Nat → Int} {b f : Int} (g : Mn.Gp n m L A b) (f0 : 0 < f) (fb : f ∣ b) (hf : ∀ i, i < n → ∀ j, j < n → (L i j).2 ∣ f) : Mn.Gp n m L (fun i j => (L i j).1 * f.fdiv (L i j).2) f := by
  obtain ⟨c, hc⟩ := fb
  refine g.light (g := c) (by rw [hc, Int.mul_comm]) fun i hi j hj => ?_
  obtain ⟨e1, e2⟩ := g.el i hi j hj
  obtain ⟨y1, y2⟩ := Mn.frq_eq (t := A i j) g.nz
  have p := Mn.frq_pos (t := A i j) g.nz
  obtain ⟨e, he⟩ := hf i hi j hj
  rw [e2] at he ⊢
  rw [he, Int.mul_fdiv_cancel_left _ (by omega)]
  have z : (Mn.frg (A i j) b - e * c) * (Mn.frq (A i j) b).2 = 0 := by
    rw [he] at hc
    grind
  have z2 : Mn.frg (A i j) b = e * c := by
    have := (Int.mul_eq_zero.mp z).resolve_right (by omega)
    omega
  rw [z2] at y1
  rw [← y1]
  grind
end Pf

namespace Pf
open PySem PySem.Spec PyProof.Rows L2 L3
local macro_rules | `(tactic| fail) => `(tactic| first
  | with_reducible refine wp_seqSet ?_
  | with_reducible refine wp_seqAsg ?_
  | with_reducible refine wp_seqPar ?_
  | with_reducible refine wp_seqPar3 ?_
  | with_reducible refine wp_seqFset ?_
  | with_reducible refine wp_seqFaug ?_
  | with_reducible refine wp_sFset ?_
  | with_reducible refine wp_sFaug ?_
  | with_reducible refine wp_meth ?_
  | with_reducible refine wp_make ?_
  | with_reducible refine wp_methX ?_
  | with_reducible refine wp_makeX ?_
  | with_reducible refine wp_sPar3 ?_
  | with_reducible refine three_ok ?_
  | with_reducible refine wp_seqAug ?_
  | with_reducible refine wp_seqExpr ?_
  | with_reducible refine wp_seqSub ?_
  | with_reducible refine wp_seqNil ?_
  | with_reducible refine wp_seqFor ?_
  | with_reducible refine wp_seqWhile ?_
  | with_reducible refine wp_seqStar ?_
  | with_reducible refine wp_seqForK ?_
  | with_reducible refine wp_seqDput ?_
  | with_reducible refine wp_seqMul ?_
  | with_reducible refine wp_sSet ?_
  | with_reducible refine wp_sRet ?_
  | with_reducible refine wp_sNil ?_
  | with_reducible refine wp_sIf ?_
  | with_reducible refine wp_sPar ?_
  | with_reducible refine wp_sAsg ?_
  | with_reducible refine wp_sSub ?_
  | with_reducible refine wp_sFor ?_
  | with_reducible refine wp_sRaise ?_
  | with_reducible refine wp_sExpr ?_
  | with_reducible refine wp_sRetN ?_
  | with_reducible refine wp_sBreak ?_
  | with_reducible refine wp_sCont ?_
  | ((with_reducible refine wp_varE ?_); refine ⟨_, rfl, ?_⟩)
  | with_reducible refine wp_c ?_
  | with_reducible refine wp_B ?_
  | with_reducible refine wp_U ?_
  | with_reducible refine wp_T ?_
  | with_reducible refine wp_andT ?_
  | with_reducible refine wp_orT ?_
  | with_reducible refine wp_notT ?_
  | with_reducible refine wp_andV ?_
  | with_reducible refine wp_orV ?_
  | with_reducible refine wp_notV ?_
  | with_reducible refine wp_if ?_
  | with_reducible refine wp_nil ?_
  | with_reducible refine wp_cons ?_
  | with_reducible refine wp_tup ?_
  | with_reducible refine wp_lst ?_
  | with_reducible refine wp_lstC ?_
  | with_reducible refine wp_call ?_
  | with_reducible refine wp_callD ?_
  | with_reducible refine wp_callB ?_
  | with_reducible refine wp_m ?_
  | with_reducible refine wp_oNone ?_
  | with_reducible refine wp_oSome ?_
  | with_reducible refine wp_sl ?_
  | with_reducible refine wp_tried ?_
  | with_reducible refine wp_asked ?_
  | with_reducible refine wp_seqOut ?_
  | with_reducible refine wp_asks ?_
  | with_reducible refine wp_asksC ?_
  | with_reducible refine wp_asksN ?_
  | with_reducible refine wp_chain ?_
  | with_reducible refine wp_enum ?_
  | with_reducible refine wp_enumB ?_
  | with_reducible refine wp_zip ?_
  | with_reducible refine wp_joinedT ?_
  | with_reducible refine wp_jNil ?_
  | with_reducible refine wp_jT ?_
  | with_reducible refine wp_lc ?_
  | with_reducible refine wp_lcC ?_
  | with_reducible refine wp_yes ?_
  | with_reducible refine wp_iAny ?_
  | with_reducible refine wp_range1 ?_
  | with_reducible refine wp_range2 ?_
  | with_reducible refine wp_sStar ?_
  | with_reducible refine wp_sDput ?_
  | with_reducible refine wp_sMul ?_
  | with_reducible refine wp_mNil ?_
  | with_reducible refine wp_mCons ?_
  | with_reducible refine wp_mSub ?_
  | with_reducible refine wp_mSubD ?_
  | with_reducible refine wp_dget2 ?_
  | with_reducible refine wp_disp ?_
  | with_reducible refine wp_pNil ?_
  | with_reducible refine wp_pCons ?_)
local macro_rules | `(tactic| fail) => `(tactic| first
  | with_reducible refine wp_eqI ?_
  | with_reducible refine wp_neI ?_
  | with_reducible refine wp_eqB ?_
  | with_reducible refine wp_neB ?_
  | ((with_reducible refine wp_eqStr ?_ ?_ ?_); decide +kernel; decide +kernel)
  | ((with_reducible refine wp_neStr ?_ ?_ ?_); decide +kernel; decide +kernel)
  | with_reducible refine wp_addI ?_
  | with_reducible refine wp_addII ?_
  | with_reducible refine wp_subI ?_
  | with_reducible refine wp_ltI ?_
  | with_reducible refine wp_leI ?_
  | with_reducible refine wp_gtI ?_
  | with_reducible refine wp_geI ?_
  | with_reducible refine wp_negI ?_
  | with_reducible refine wp_intI ?_
  | with_reducible refine wp_intB ?_
  | with_reducible refine wp_absI ?_
  | with_reducible refine wp_un ?_
  | ((with_reducible refine wp_mul ?_ ?_); first | exact mulOk_right (by decide) | exact mulOk_left (by decide) | exact mulOk_mod (by decide) (by decide))
  | ((with_reducible refine wp_mod ?_ ?_); decide)
  | ((with_reducible refine wp_fdiv ?_ ?_ ?_); decide; exact pylong_200 (by decide))
  | with_reducible refine wp_pow18 ?_
  | with_reducible refine wp_pow12 ?_
  | with_reducible refine wp_pow40 ?_
  | ((with_reducible refine wp_ixE ?_); refine ⟨_, rfl, ?_⟩)
  | with_reducible refine wp_len0 ?_
  | with_reducible refine wp_len1 ?_
  | with_reducible refine wp_len2 ?_
  | with_reducible refine wp_len3 ?_
  | with_reducible refine wp_lenT1 ?_
  | with_reducible refine wp_lenT2 ?_
  | with_reducible refine wp_lenT3 ?_
  | ((with_reducible refine wp_lenE ?_); refine ⟨_, rfl, ?_⟩)
  | ((with_reducible refine wp_listOfE ?_); refine ⟨_, rfl, ?_⟩)
  | ((with_reducible refine wp_isiE ?_); refine ⟨_, rfl, ?_⟩)
  | ((with_reducible refine wp_isNE ?_); refine ⟨_, rfl, ?_⟩)
  | ((with_reducible refine wp_notNE ?_); refine ⟨_, rfl, ?_⟩)
  | ((with_reducible refine wp_slE ?_); refine ⟨_, rfl, ?_⟩)
  | ((with_reducible refine sub_okE ?_); refine ⟨_, rfl, ?_⟩)
  | with_reducible refine Exists.intro _ (And.intro rfl ?_)
  | with_reducible refine Exists.intro _ (Exists.intro _ (And.intro rfl ?_))
  | ((with_reducible refine len_eq ?_ ?_); exact rfl)
  | ((with_reducible refine rng_ok ?_ ?_); omega)
  | ((with_reducible refine rng2_ok ?_ ?_); omega)
  | ((with_reducible refine rngD_len ?_ ?_); omega)
  | ((with_reducible refine len_100 ?_ ?_); exact Nat.le_of_ble_eq_true rfl)
  | ((with_reducible refine isTy_ok ?_ ?_); exact rfl)
  | ((with_reducible refine br_t ?_ ?_); first | with_reducible exact rfl | decide)
  | ((with_reducible refine br_f ?_ ?_); first | with_reducible exact rfl | decide)
  | with_reducible refine br_d (fun _ => ?_) (fun _ => ?_)
  | with_reducible refine br_n (fun _ => ?_) (fun _ => ?_))
/-- a table of shares as a plain thing -/
def pT (r w : Nat) (L : Nat → Nat → Int × Int) : PyData := .list ((List.range r).map fun i => .list ((List.range w).map fun j => .tuple [.int (L i j).1, .int (L i j).2]))
theorem pyD_sh {n : Nat} {μ : Sto} {s : Int × Int} : pyD (n + 2) μ (dSh s) = some (.tuple [.int s.1, .int s.2]) := rfl
theorem QM.py {μ : Sto} {d : D} {r w : Nat} {L : Nat → Nat → Int × Int} (h : QM μ d r w L) {n : Nat} : pyD (n + 4) μ d = some (pT r w L) := by
  obtain ⟨X, h1, h2⟩ := h
  rw [pyD_asL h1]
  have e : (tb r X).mapM (pyD (n + 3) μ) = some ((List.range r).map fun i => .list ((List.range w).map fun j => .tuple [.int (L i j).1, .int (L i j).2])) := by
    refine mapM_at (by rw [tb_len]; simp) fun i x hx => ?_
    have hi : i < r := by
      have := (List.getElem?_eq_some_iff.mp hx).1
      rw [tb_len] at this; exact this
    rw [tb_get hi] at hx
    cases hx
    refine ⟨_, by rw [List.getElem?_map, List.getElem?_range hi]; rfl, ?_⟩
    rw [pyD_asL (h2 i hi)]
    have e2 : (tb w fun j => dSh (L i j)).mapM (pyD (n + 2) μ) = some ((List.range w).map fun j => .tuple [.int (L i j).1, .int (L i j).2]) := by
      refine mapM_at (by rw [tb_len]; simp) fun j y hy => ?_
      have hj : j < w := by
        have := (List.getElem?_eq_some_iff.mp hy).1
        rw [tb_len] at this; exact this
      rw [tb_get hj] at hy
      cases hy
      exact ⟨_, by rw [List.getElem?_map, List.getElem?_range hj]; rfl, pyD_sh⟩
    rw [e2]; rfl
  rw [e]; rfl
theorem pT_ok {r w k : Nat} {L : Nat → Nat → Int × Int} (hr : r ≤ 8) (hw : w ≤ 8) (h0 : 0 < k) (hk : k ≤ 1900) (h : ∀ i, i < r → ∀ j, j < w → (L i j).1.natAbs < 2 ^ k ∧ (L i j).2.natAbs < 2 ^ k) : PyOk 3 300000 (pT r w L) := by
  have z := PyOk.list (n := 2) (b := 8 * (2 * (k + 3) + 5) + 2) (ps := (List.range r).map fun i => .list ((List.range w).map fun j => .tuple [.int (L i j).1, .int (L i j).2])) fun p hp => by
    obtain ⟨i, hi, rfl⟩ := List.mem_map.mp hp
    have hi := List.mem_range.mp hi
    refine PyOk.mono (n := 2) (PyOk.list (n := 1) (b := 2 * (k + 3) + 3) fun p hp => ?_) (Nat.le_refl _) ?_
    · obtain ⟨j, hj, rfl⟩ := List.mem_map.mp hp
      have hj := List.mem_range.mp hj
      obtain ⟨a1, a2⟩ := h i hi j hj
      refine PyOk.mono (n := 1) (PyOk.tuple (n := 0) (b := k + 1) fun p hp => ?_) (Nat.le_refl _) (by simp only [List.length_cons, List.length_nil]; omega)
      rcases List.mem_cons.mp hp with rfl | hp
      · exact PyOk.int a1 h0 hk
      · rw [List.mem_singleton] at hp
        subst hp
        exact PyOk.int a2 h0 hk
    · rw [List.length_map, List.length_range]
      have := Nat.mul_le_mul_right (2 * (k + 3) + 3 + 2) hw
      omega
  refine z.mono (Nat.le_refl _) ?_
  rw [List.length_map, List.length_range]
  have := Nat.mul_le_mul_right (8 * (2 * (k + 3) + 5) + 2 + 2) hr
  omega
theorem QM.ref {μ : Sto} {d : D} {r w : Nat} {L : Nat → Nat → Int × Int} (h : QM μ d r w L) : (∃ xs, d = .lst xs) ∨ (∃ xs, d = .tup xs) ∨ ∃ c, d = .cell c := by
  obtain ⟨X, h1, _⟩ := h
  cases d with
  | lst xs => exact .inl ⟨_, rfl⟩
  | cell k => exact .inr (.inr ⟨_, rfl⟩)
  | _ => cases h1
theorem wp_ldotQ {x : D} {n m1 m2 : Nat} {L M : Mn.Mq} {A B : Nat → Nat → Int} {b c : Int} {i j : Nat} {μ : Sto} {Q : D → Sto → Prop} {E : Exs} (n4 : n ≤ 4) (ga : Mn.Gp n m1 L A b) (gb : Mn.Gp n m2 M B c) (pb : 0 < b) (pc : 0 < c) (hm : 2 * (m1 + m2) + 3 < 9000) (hi : i < n) (hj : j < n)
    (hx : asL μ x = some (tb n fun j => dSh (L i j))) (q : Q (dSh (Mn.dotM n L M i j)) μ) : (f__law_dot [x, qRow n fun t => M t j] μ).wp Q E := by
  have bot := ga.bot gb
  have sh : ∀ k, k ≤ n → Shq (m1 + m2 + 2) (Mn.dotP L M i j k) := fun k hk => by
    obtain ⟨e1, e2⟩ := Mn.dot_part ga gb hi hj k hk
    rw [e1]
    refine Shq.frq bot.1 (Nat.le_trans e2 ?_) (Nat.le_trans bot.2 (Nat.pow_le_pow_right (by decide) (by omega)))
    rw [Nat.pow_add 2 (m1 + m2) 2, Nat.mul_comm k]
    exact Nat.mul_le_mul_left _ (by omega)
  have la : ∀ t, t < n → Shq m1 (L i t) := fun t ht => by
    obtain ⟨e1, e2⟩ := ga.el i hi t ht
    rw [e2]; exact Shq.frq ga.nz e1 ga.bb
  have lb : ∀ t, t < n → Shq m2 (M t j) := fun t ht => by
    obtain ⟨e1, e2⟩ := gb.el t ht j hj
    rw [e2]; exact Shq.frq gb.nz e1 gb.bb
  obtain ⟨gd, w1, w2⟩ := asL_walkL hx
  unfold f__law_dot
  with_reducible refine wp_fn ?_
  simp only [List.map_cons, List.map_nil, List.length_cons, List.length_nil, List.reduceReplicate, List.cons_append, List.nil_append, Nat.reduceAdd, Nat.reduceSub, Nat.zero_add, List.set_cons_zero, List.set_cons_succ, wipeE]
  unfold b__law_dot
  repeat' (first | fail | with_reducible refine wp_sSeq ?_)
  refine ⟨_, _, w1, rfl, ?_⟩
  rw [tb_zip]
  simp only [List.map_cons, List.map_nil, List.length_cons, List.length_nil, List.reduceReplicate, List.cons_append, List.nil_append, Nat.reduceAdd, Nat.reduceSub, Nat.zero_add, List.set_cons_zero, List.set_cons_succ, wipeE]
  refine wp_forT (I := fun k ρ μ' => μ' = μ ∧ ∃ a3 a4, ρ = [some x, some (qRow n fun t => M t j), some (dSh (Mn.dotP L M i j k)), a3, a4]) ⟨rfl, _, _, rfl⟩ (fun ρ μ' z => ⟨by rw [z.1, w2]; rfl, ?_⟩) fun k ρ μ' hk z => ⟨by rw [z.1, w2]; rfl, ?_⟩
  · obtain ⟨rfl, a3, a4, rfl⟩ := z
    repeat' (first | fail | with_reducible refine wp_sSeq ?_)
    exact q
  · obtain ⟨rfl, a3, a4, rfl⟩ := z
    refine ⟨_, rfl, ?_⟩
    simp only [List.map_cons, List.map_nil, List.length_cons, List.length_nil, List.reduceReplicate, List.cons_append, List.nil_append, Nat.reduceAdd, Nat.reduceSub, Nat.zero_add, List.set_cons_zero, List.set_cons_succ, wipeE]
    repeat' (first | fail | with_reducible refine wp_sSeq ?_)
    refine wp_qmul (la k hk) (lb k hk) (by omega) ?_
    repeat' (first | fail | with_reducible refine wp_sSeq ?_)
    refine wp_qadd (sh k (by omega)) ((la k hk).mul (lb k hk)) (by omega) ?_
    rw [← Mn.dotP_succ]
    exact ⟨rfl, _, _, rfl⟩
theorem wp_ltmulQ {d e : D} {n m1 m2 : Nat} {L M : Mn.Mq} {A B : Nat → Nat → Int} {b c : Int} {μ : Sto} {Q : D → Sto → Prop} {E : Exs} (n4 : n ≤ 4) (ga : Mn.Gp n m1 L A b) (gb : Mn.Gp n m2 M B c) (pb : 0 < b) (pc : 0 < c) (hm : 2 * (m1 + m2) + 3 < 9000)
    (hd : QM μ d n n L) (he : QM μ e n n M) (q : Q (qM n n (Mn.dotM n L M)) μ) : (f__law_tmul [d, e] μ).wp Q E := by
  obtain ⟨X, hX, hr⟩ := hd
  obtain ⟨Y, hY, hs⟩ := he
  unfold f__law_tmul
  with_reducible refine wp_fn ?_
  simp only [List.map_cons, List.map_nil, List.length_cons, List.length_nil, List.reduceReplicate, List.cons_append, List.nil_append, Nat.reduceAdd, Nat.reduceSub, Nat.zero_add, List.set_cons_zero, List.set_cons_succ, wipeE]
  unfold b__law_tmul
  obtain ⟨gd, w1, w2⟩ := asL_walkD hX
  obtain ⟨ge, v1, v2⟩ := asL_walkD hY
  repeat' (first | fail | with_reducible refine wp_sSeq ?_)
  refine wp_len (asL_isi hY).2.2.2 ?_
  rw [tb_len]
  repeat' (first | fail | with_reducible refine wp_sSeq ?_)
  rw [Int.toNat_natCast, rng0]
  simp only [List.map_cons, List.map_nil, List.length_cons, List.length_nil, List.reduceReplicate, List.cons_append, List.nil_append, Nat.reduceAdd, Nat.reduceSub, Nat.zero_add, List.set_cons_zero, List.set_cons_succ, wipeE]
  refine wp_lcT (k := fun k => qRow n fun t => M t k) rfl ?_ fun k hk => ⟨_, rfl, ?_⟩
  · repeat' (first | fail | with_reducible refine wp_sSeq ?_)
    refine ⟨_, w1, ?_⟩
    simp only [List.map_cons, List.map_nil, List.length_cons, List.length_nil, List.reduceReplicate, List.cons_append, List.nil_append, Nat.reduceAdd, Nat.reduceSub, Nat.zero_add, List.set_cons_zero, List.set_cons_succ, wipeE]
    refine tb_sz (by omega) ?_
    refine wp_lcT (k := fun i => qRow n fun j => Mn.dotM n L M i j) w2 q fun i hi => ⟨_, rfl, ?_⟩
    repeat' (first | fail | with_reducible refine wp_sSeq ?_)
    simp only [List.map_cons, List.map_nil, List.length_cons, List.length_nil, List.reduceReplicate, List.cons_append, List.nil_append, Nat.reduceAdd, Nat.reduceSub, Nat.zero_add, List.set_cons_zero, List.set_cons_succ, wipeE]
    refine tb_sz (by omega) ?_
    refine wp_lcT (F := fun k => qRow n fun t => M t k) (k := fun j => dSh (Mn.dotM n L M i j)) rfl ⟨rfl, rfl⟩ fun j hj => ⟨_, rfl, ?_⟩
    repeat' (first | fail | with_reducible refine wp_sSeq ?_)
    exact wp_ldotQ n4 ga gb pb pc hm hi hj (hr i hi) ⟨rfl, rfl⟩
  · repeat' (first | fail | with_reducible refine wp_sSeq ?_)
    refine ⟨_, v1, ?_⟩
    simp only [List.map_cons, List.map_nil, List.length_cons, List.length_nil, List.reduceReplicate, List.cons_append, List.nil_append, Nat.reduceAdd, Nat.reduceSub, Nat.zero_add, List.set_cons_zero, List.set_cons_succ, wipeE]
    refine tb_sz (by omega) ?_
    refine wp_lcT (k := fun t => dSh (M t k)) v2 ⟨rfl, rfl⟩ fun t ht => ⟨_, rfl, ?_⟩
    repeat' (first | fail | with_reducible refine wp_sSeq ?_)
    refine wp_ix (asL_ix (hs t ht) (by omega) (by rw [Int.toNat_natCast]; exact tb_get hk)) ?_
    exact ⟨rfl, rfl⟩
end Pf

namespace Pf
open PySem PySem.Spec PyProof.Rows L2 L3
local macro_rules | `(tactic| fail) => `(tactic| first
  | with_reducible refine wp_seqSet ?_
  | with_reducible refine wp_seqAsg ?_
  | with_reducible refine wp_seqPar ?_
  | with_reducible refine wp_seqPar3 ?_
  | with_reducible refine wp_seqFset ?_
  | with_reducible refine wp_seqFaug ?_
  | with_reducible refine wp_sFset ?_
  | with_reducible refine wp_sFaug ?_
  | with_reducible refine wp_meth ?_
  | with_reducible refine wp_make ?_
  | with_reducible refine wp_methX ?_
  | with_reducible refine wp_makeX ?_
  | with_reducible refine wp_sPar3 ?_
  | with_reducible refine three_ok ?_
  | with_reducible refine wp_seqAug ?_
  | with_reducible refine wp_seqExpr ?_
  | with_reducible refine wp_seqSub ?_
  | with_reducible refine wp_seqNil ?_
  | with_reducible refine wp_seqFor ?_
  | with_reducible refine wp_seqWhile ?_
  | with_reducible refine wp_seqStar ?_
  | with_reducible refine wp_seqForK ?_
  | with_reducible refine wp_seqDput ?_
  | with_reducible refine wp_seqMul ?_
  | with_reducible refine wp_sSet ?_
  | with_reducible refine wp_sRet ?_
  | with_reducible refine wp_sNil ?_
  | with_reducible refine wp_sIf ?_
  | with_reducible refine wp_sPar ?_
  | with_reducible refine wp_sAsg ?_
  | with_reducible refine wp_sSub ?_
  | with_reducible refine wp_sFor ?_
  | with_reducible refine wp_sRaise ?_
  | with_reducible refine wp_sExpr ?_
  | with_reducible refine wp_sRetN ?_
  | with_reducible refine wp_sBreak ?_
  | with_reducible refine wp_sCont ?_
  | ((with_reducible refine wp_varE ?_); refine ⟨_, rfl, ?_⟩)
  | with_reducible refine wp_c ?_
  | with_reducible refine wp_B ?_
  | with_reducible refine wp_U ?_
  | with_reducible refine wp_T ?_
  | with_reducible refine wp_andT ?_
  | with_reducible refine wp_orT ?_
  | with_reducible refine wp_notT ?_
  | with_reducible refine wp_andV ?_
  | with_reducible refine wp_orV ?_
  | with_reducible refine wp_notV ?_
  | with_reducible refine wp_if ?_
  | with_reducible refine wp_nil ?_
  | with_reducible refine wp_cons ?_
  | with_reducible refine wp_tup ?_
  | with_reducible refine wp_lst ?_
  | with_reducible refine wp_lstC ?_
  | with_reducible refine wp_call ?_
  | with_reducible refine wp_callD ?_
  | with_reducible refine wp_callB ?_
  | with_reducible refine wp_m ?_
  | with_reducible refine wp_oNone ?_
  | with_reducible refine wp_oSome ?_
  | with_reducible refine wp_sl ?_
  | with_reducible refine wp_tried ?_
  | with_reducible refine wp_asked ?_
  | with_reducible refine wp_seqOut ?_
  | with_reducible refine wp_asks ?_
  | with_reducible refine wp_asksC ?_
  | with_reducible refine wp_asksN ?_
  | with_reducible refine wp_chain ?_
  | with_reducible refine wp_enum ?_
  | with_reducible refine wp_enumB ?_
  | with_reducible refine wp_zip ?_
  | with_reducible refine wp_joinedT ?_
  | with_reducible refine wp_jNil ?_
  | with_reducible refine wp_jT ?_
  | with_reducible refine wp_lc ?_
  | with_reducible refine wp_lcC ?_
  | with_reducible refine wp_yes ?_
  | with_reducible refine wp_iAny ?_
  | with_reducible refine wp_range1 ?_
  | with_reducible refine wp_range2 ?_
  | with_reducible refine wp_sStar ?_
  | with_reducible refine wp_sDput ?_
  | with_reducible refine wp_sMul ?_
  | with_reducible refine wp_mNil ?_
  | with_reducible refine wp_mCons ?_
  | with_reducible refine wp_mSub ?_
  | with_reducible refine wp_mSubD ?_
  | with_reducible refine wp_dget2 ?_
  | with_reducible refine wp_disp ?_
  | with_reducible refine wp_pNil ?_
  | with_reducible refine wp_pCons ?_)
local macro_rules | `(tactic| fail) => `(tactic| first
  | with_reducible refine wp_eqI ?_
  | with_reducible refine wp_neI ?_
  | with_reducible refine wp_eqB ?_
  | with_reducible refine wp_neB ?_
  | ((with_reducible refine wp_eqStr ?_ ?_ ?_); decide +kernel; decide +kernel)
  | ((with_reducible refine wp_neStr ?_ ?_ ?_); decide +kernel; decide +kernel)
  | with_reducible refine wp_addI ?_
  | with_reducible refine wp_addII ?_
  | with_reducible refine wp_subI ?_
  | with_reducible refine wp_ltI ?_
  | with_reducible refine wp_leI ?_
  | with_reducible refine wp_gtI ?_
  | with_reducible refine wp_geI ?_
  | with_reducible refine wp_negI ?_
  | with_reducible refine wp_intI ?_
  | with_reducible refine wp_intB ?_
  | with_reducible refine wp_absI ?_
  | with_reducible refine wp_un ?_
  | ((with_reducible refine wp_mul ?_ ?_); first | exact mulOk_right (by decide) | exact mulOk_left (by decide) | exact mulOk_mod (by decide) (by decide))
  | ((with_reducible refine wp_mod ?_ ?_); decide)
  | ((with_reducible refine wp_fdiv ?_ ?_ ?_); decide; exact pylong_200 (by decide))
  | with_reducible refine wp_pow18 ?_
  | with_reducible refine wp_pow12 ?_
  | with_reducible refine wp_pow40 ?_
  | ((with_reducible refine wp_ixE ?_); refine ⟨_, rfl, ?_⟩)
  | with_reducible refine wp_len0 ?_
  | with_reducible refine wp_len1 ?_
  | with_reducible refine wp_len2 ?_
  | with_reducible refine wp_len3 ?_
  | with_reducible refine wp_lenT1 ?_
  | with_reducible refine wp_lenT2 ?_
  | with_reducible refine wp_lenT3 ?_
  | ((with_reducible refine wp_lenE ?_); refine ⟨_, rfl, ?_⟩)
  | ((with_reducible refine wp_listOfE ?_); refine ⟨_, rfl, ?_⟩)
  | ((with_reducible refine wp_isiE ?_); refine ⟨_, rfl, ?_⟩)
  | ((with_reducible refine wp_isNE ?_); refine ⟨_, rfl, ?_⟩)
  | ((with_reducible refine wp_notNE ?_); refine ⟨_, rfl, ?_⟩)
  | ((with_reducible refine wp_slE ?_); refine ⟨_, rfl, ?_⟩)
  | ((with_reducible refine sub_okE ?_); refine ⟨_, rfl, ?_⟩)
  | with_reducible refine Exists.intro _ (And.intro rfl ?_)
  | with_reducible refine Exists.intro _ (Exists.intro _ (And.intro rfl ?_))
  | ((with_reducible refine len_eq ?_ ?_); exact rfl)
  | ((with_reducible refine rng_ok ?_ ?_); omega)
  | ((with_reducible refine rng2_ok ?_ ?_); omega)
  | ((with_reducible refine rngD_len ?_ ?_); omega)
  | ((with_reducible refine len_100 ?_ ?_); exact Nat.le_of_ble_eq_true rfl)
  | ((with_reducible refine isTy_ok ?_ ?_); exact rfl)
  | ((with_reducible refine br_t ?_ ?_); first | with_reducible exact rfl | decide)
  | ((with_reducible refine br_f ?_ ?_); first | with_reducible exact rfl | decide)
  | with_reducible refine br_d (fun _ => ?_) (fun _ => ?_)
  | with_reducible refine br_n (fun _ => ?_) (fun _ => ?_))
/-- a share of small things: over 60 ^ e -/
def Le (e : Nat) (s : Int × Int) : Prop := ∃ t : Int, s = Mn.frq t (60 ^ e) ∧ t.natAbs ≤ 240 ^ e
theorem p60 (e : Nat) : (60 : Int) ^ e ≠ 0 := Int.pow_ne_zero (by decide)
theorem Le.up {e : Nat} {s : Int × Int} (h : Le e s) : Le (e + 1) s := by
  obtain ⟨t, h1, h2⟩ := h
  refine ⟨60 * t, ?_, ?_⟩
  · rw [Int.pow_succ, Int.mul_comm _ (60 : Int), Mn.frq_mul (by decide) (p60 e)]; exact h1
  · rw [Int.natAbs_mul, Nat.pow_succ, Nat.mul_comm]
    exact Nat.mul_le_mul h2 (by decide)
theorem Le.nought (e : Nat) : Le e (0, 1) := ⟨0, (Mn.frq_nought (p60 e)).symm, Nat.zero_le _⟩
theorem Le.light {t b : Int} (h1 : -4 ≤ t) (h2 : t ≤ 4) (h3 : 1 ≤ b) (h4 : b ≤ 5) : Le 1 (frI t b) := by
  have e : b = 1 ∨ b = 2 ∨ b = 3 ∨ b = 4 ∨ b = 5 := by omega
  have go : ∀ c : Int, c ≠ 0 → c * b = 60 → (c * t).natAbs ≤ 240 → Le 1 (frI t b) := fun c c0 cb ct => ⟨c * t, by
    rw [show (60 : Int) ^ 1 = c * b from cb.symm, Mn.frq_mul c0 (by omega)]; rfl, ct⟩
  rcases e with rfl | rfl | rfl | rfl | rfl
  · exact go 60 (by decide) rfl (by omega)
  · exact go 30 (by decide) rfl (by omega)
  · exact go 20 (by decide) rfl (by omega)
  · exact go 15 (by decide) rfl (by omega)
  · exact go 12 (by decide) rfl (by omega)
theorem Le.mul {e : Nat} {s u : Int × Int} (h : Le e s) (k : Le 1 u) : Le (e + 1) (Mn.mulq s u) := by
  obtain ⟨t, rfl, h2⟩ := h
  obtain ⟨v, rfl, k2⟩ := k
  refine ⟨t * v, ?_, ?_⟩
  · rw [Mn.mulq_eq (p60 e) (p60 1), Int.pow_succ]; rfl
  · rw [Int.natAbs_mul, Nat.pow_succ]
    exact Nat.mul_le_mul h2 k2
theorem Le.shq {e : Nat} {s : Int × Int} (h : Le e s) (he : e ≤ 3) : Shq 24 s := by
  obtain ⟨t, rfl, h2⟩ := h
  have h3 : (240 : Nat) ^ e ≤ 240 ^ 3 := Nat.pow_le_pow_right (by decide) he
  have h4 : (60 : Nat) ^ e ≤ 60 ^ 3 := Nat.pow_le_pow_right (by decide) he
  refine Shq.frq (p60 e) (Nat.le_trans (Nat.le_trans h2 h3) (by decide)) ?_
  rw [Int.natAbs_pow]
  exact Nat.le_trans h4 (by decide)
theorem frq_self {s : Int × Int} (h : 0 < s.2) (g : Int.gcd s.1 s.2 = 1) : Mn.frq s.1 s.2 = s := by
  have e : Mn.frg s.1 s.2 = 1 := by unfold Mn.frg; rw [if_neg (by omega), g]; rfl
  unfold Mn.frq
  rw [e, Int.fdiv_one, Int.fdiv_one]
/-- a table of small shares, one great one in it perhaps -/
theorem gp_small {n : Nat} {L : Mn.Mq} {u : Int × Int} (h0 : 0 < u.2) (hg : Int.gcd u.1 u.2 = 1) (hu : Shr 40 u) (h : ∀ i, i < n → ∀ j, j < n → Le 3 (L i j) ∨ L i j = u) : ∃ A b, 0 < b ∧ Mn.Gp n 70 L A b := by
  have ex : ∀ i, i < n → ∀ j, j < n → ∃ a : Int, a.natAbs ≤ 2 ^ 70 ∧ L i j = Mn.frq a (216000 * u.2) := fun i hi j hj => by
    rcases h i hi j hj with ⟨t, e, ht⟩ | e
    · refine ⟨u.2 * t, ?_, ?_⟩
      · have h2 : u.2.natAbs ≤ 2 ^ 40 := Nat.le_of_lt hu.2.2
        have h3 : t.natAbs ≤ 2 ^ 24 := Nat.le_trans ht (by decide)
        exact Nat.le_trans (Mn.mul_le h2 h3) (by decide)
      · rw [Int.mul_comm (216000 : Int), Mn.frq_mul (by omega) (by decide)]
        exact e
    · refine ⟨216000 * u.1, ?_, ?_⟩
      · have h2 : u.1.natAbs ≤ 2 ^ 40 := Nat.le_of_lt hu.2.1
        exact Nat.le_trans (Mn.mul_le (m1 := 18) (by decide) h2) (by decide)
      · rw [Mn.frq_mul (by decide) (by omega), frq_self h0 hg]
        exact e
  refine ⟨fun i j => if h : i < n ∧ j < n then (ex i h.1 j h.2).choose else 0, 216000 * u.2, by omega, by omega, ?_, fun i hi j hj => ?_⟩
  · have h2 : u.2.natAbs ≤ 2 ^ 40 := Nat.le_of_lt hu.2.2
    exact Nat.le_trans (Mn.mul_le (m1 := 18) (by decide) h2) (by decide)
  · have e : (if h : i < n ∧ j < n then (ex i h.1 j h.2).choose else 0) = (ex i hi j hj).choose := dif_pos ⟨hi, hj⟩
    rw [e]
    exact (ex i hi j hj).choose_spec
/-- rows that are cells, in a cell, behind the bag -/
structure QC (m : Sto) (k n : Nat) (L : Nat → Nat → Int × Int) (cs : List Nat) : Prop where
  at_ : m[k]? = some (.lst (cs.map fun c => D.cell (c + 1)))
  len : cs.length = n
  nd : ∀ (i j c : Nat), cs[i]? = some c → cs[j]? = some c → i = j
  ne : k ∉ cs
  row : ∀ (i c : Nat), cs[i]? = some c → m[c]? = some (.lst (tb n fun j => dSh (L i j)))
theorem QC.lt {m : Sto} {k n : Nat} {L : Nat → Nat → Int × Int} {cs : List Nat} (h : QC m k n L cs) : ∀ c ∈ cs, c < m.length := fun c hc => by
  obtain ⟨i, hi, rfl⟩ := List.mem_iff_getElem.mp hc
  exact (List.getElem?_eq_some_iff.mp (h.row i _ (List.getElem?_eq_getElem hi))).1
theorem QC.app {m ex : Sto} {k n : Nat} {L : Nat → Nat → Int × Int} {cs : List Nat} (h : QC m k n L cs) : QC (m ++ ex) k n L cs :=
  ⟨by rw [List.getElem?_append_left (List.getElem?_eq_some_iff.mp h.at_).1]; exact h.at_, h.len, h.nd, h.ne, fun i c e => by
    have z := h.row i c e
    rw [List.getElem?_append_left (List.getElem?_eq_some_iff.mp z).1]; exact z⟩
theorem QC.qm {m : Sto} {k n : Nat} {L : Nat → Nat → Int × Int} {cs : List Nat} (h : QC m k n L cs) (g : MO) : QM (g :: m) (.cell (k + 1)) n n L := by
  refine ⟨fun i => .cell (cs.getD i 0 + 1), ?_, fun i hi => ?_⟩
  · refine asL_cell ?_
    rw [List.getElem?_cons_succ, h.at_]
    congr 2
    refine tb_ext (by rw [List.length_map, h.len]) fun i hi => ?_
    rw [← h.len] at hi
    rw [List.getElem?_map, List.getElem?_eq_getElem hi, List.getD_eq_getElem?_getD, List.getElem?_eq_getElem hi]
    rfl
  · rw [← h.len] at hi
    have e : cs[i]? = some (cs.getD i 0) := by rw [List.getD_eq_getElem?_getD, List.getElem?_eq_getElem hi]; rfl
    exact asL_cell (by rw [List.getElem?_cons_succ]; exact h.row i _ e)
theorem wp_lgrid2 {g : MO} {m : Sto} {n : Nat} {Q : D → Sto → Prop} {E : Exs} (h : Bg g) (n4 : n ≤ 4) (q : ∀ L g' m' k cs, Bg g' → (∀ i j, Le 1 (L i j)) → QC m' k n L cs → Q (.cell (k + 1)) (g' :: m')) : (f__law_grid__2 [.cell 0, .int (n : Nat)] (g :: m)).wp Q E := by
  unfold f__law_grid__2
  with_reducible refine wp_fn ?_
  simp only [List.map_cons, List.map_nil, List.length_cons, List.length_nil, List.reduceReplicate, List.cons_append, List.nil_append, Nat.reduceAdd, Nat.reduceSub, Nat.zero_add, List.set_cons_zero, List.set_cons_succ, wipeE]
  unfold b__law_grid__2
  repeat' (first | fail | with_reducible refine wp_sSeq ?_)
  simp only [List.map_cons, List.map_nil, List.length_cons, List.length_nil, List.reduceReplicate, List.cons_append, List.nil_append, Nat.reduceAdd, Nat.reduceSub, Nat.zero_add, List.set_cons_zero, List.set_cons_succ, wipeE]
  refine wp_lcR (fun ys i μ' => ∃ g' L, Bg g' ∧ (∀ a b, Le 1 (L a b)) ∧ μ' = g' :: (m ++ (List.range i).map fun a => MO.lst (tb n fun b => dSh (L a b))) ∧ ys = tb i fun a => .cell (m.length + a + 1)) ⟨g, fun _ _ => (0, 1), h, fun _ _ => Le.nought 1, by simp, rfl⟩ (fun ys μ' z => ?_) fun ys i μ' hi z => ?_
  · obtain ⟨g', L, hg, hL, rfl, rfl⟩ := z
    rw [Int.toNat_natCast]
    have z := q L g' (m ++ (List.range n).map (fun a => MO.lst (tb n fun b => dSh (L a b))) ++ [.lst (tb n fun a => .cell (m.length + a + 1))]) (m.length + n) ((List.range n).map (m.length + ·)) hg hL ?_
    · have el : (g' :: (m ++ (List.range n).map fun a => MO.lst (tb n fun b => dSh (L a b)))).length = m.length + n + 1 := by simp
      rw [el]
      exact z
    · refine ⟨?_, by simp, ?_, ?_, fun i c e => ?_⟩
      · rw [List.getElem?_append_right (by simp), show m.length + n - (m ++ (List.range n).map (fun a => MO.lst (tb n fun b => dSh (L a b)))).length = 0 from by simp, List.map_map]
        rfl
      · have go : ∀ (i c : Nat), ((List.range n).map (m.length + ·))[i]? = some c → c = m.length + i := fun i c e => by
          rw [List.getElem?_map] at e
          cases ei : (List.range n)[i]? with
          | none => rw [ei] at e; cases e
          | some a =>
            rw [ei] at e
            obtain ⟨hl, ea⟩ := List.getElem?_eq_some_iff.mp ei
            rw [List.getElem_range] at ea
            subst ea
            exact (Option.some.inj e).symm
        intro i j c hi hj
        have := go i c hi
        have := go j c hj
        omega
      · intro z
        obtain ⟨a, ha, e⟩ := List.mem_map.mp z
        have := List.mem_range.mp ha
        omega
      · rw [List.getElem?_map] at e
        cases ei : (List.range n)[i]? with
        | none => rw [ei] at e; cases e
        | some a =>
          rw [ei] at e
          obtain ⟨hl, ea⟩ := List.getElem?_eq_some_iff.mp ei
          rw [List.getElem_range] at ea
          subst ea
          obtain rfl : m.length + i = c := Option.some.inj e
          rw [List.length_range] at hl
          rw [List.getElem?_append_left (by simp; omega), List.getElem?_append_right (by omega), Nat.add_sub_cancel_left, List.getElem?_map, List.getElem?_range hl]
          rfl
  · obtain ⟨g', L, hg, hL, rfl, rfl⟩ := z
    refine ⟨_, rfl, ?_⟩
    refine wp_yes ?_
    refine ⟨fun _ => ?_, fun z => nomatch z⟩
    repeat' (first | fail | with_reducible refine wp_sSeq ?_)
    simp only [List.map_cons, List.map_nil, List.length_cons, List.length_nil, List.reduceReplicate, List.cons_append, List.nil_append, Nat.reduceAdd, Nat.reduceSub, Nat.zero_add, List.set_cons_zero, List.set_cons_succ, wipeE]
    generalize hm : m ++ (List.range i).map (fun a => MO.lst (tb n fun b => dSh (L a b))) = m1
    have ml : m1.length = m.length + i := by rw [← hm]; simp
    refine wp_lcR (fun ys j μ' => ∃ g' f, Bg g' ∧ μ' = g' :: m1 ∧ (∀ b, Le 1 (f b)) ∧ ys = tb j fun b => dSh (f b)) ⟨g', fun _ => (0, 1), hg, rfl, fun _ => Le.nought 1, rfl⟩ (fun ys μ' z => ?_) fun ys j μ' hj z => ?_
    · obtain ⟨g2, f, hg2, rfl, hf, rfl⟩ := z
      refine ⟨g2, fun a b => if a = i then f b else L a b, hg2, fun a b => by dsimp only; split; exact hf b; exact hL a b, ?_, ?_⟩
      · rw [Int.toNat_natCast, ← hm, List.range_succ, List.map_append, ← List.append_assoc]
        have e1 : ∀ a ∈ List.range i, MO.lst (tb n fun b => dSh (if a = i then f b else L a b)) = MO.lst (tb n fun b => dSh (L a b)) := fun a ha => by
          have := List.mem_range.mp ha
          refine congrArg MO.lst (tb_congr fun b _ => ?_)
          rw [if_neg (by omega)]
        rw [List.map_congr_left e1]
        refine congrArg (fun z => g2 :: (_ ++ [MO.lst z])) (tb_congr fun b _ => ?_)
        dsimp only
        rw [if_pos rfl]
      · rw [List.length_cons, ml]
        unfold tb
        rw [List.range_succ, List.map_append]
        rfl
    · obtain ⟨g2, f, hg2, rfl, hf, rfl⟩ := z
      refine ⟨_, rfl, ?_⟩
      refine wp_yes ?_
      refine ⟨fun _ => ?_, fun z => nomatch z⟩
      repeat' (first | fail | with_reducible refine wp_sSeq ?_)
      refine wp_light hg2 fun t b g3 h1 h2 h3 h4 hg3 => ?_
      repeat' (first | fail | with_reducible refine wp_sSeq ?_)
      refine ⟨g3, fun b' => if b' = j then frI t b else f b', hg3, rfl, fun b' => by dsimp only; split; exact Le.light h1 h2 h3 h4; exact hf b', ?_⟩
      unfold tb
      rw [List.range_succ, List.map_append]
      congr 1
      · refine List.map_congr_left fun a ha => ?_
        have := List.mem_range.mp ha
        dsimp only
        rw [if_neg (by omega)]
      · show [_] = [dSh (if j = j then _ else _)]
        rw [if_pos rfl]
end Pf

namespace Pf
open PySem PySem.Spec PyProof.Rows L2 L3
local macro_rules | `(tactic| fail) => `(tactic| first
  | with_reducible refine wp_seqSet ?_
  | with_reducible refine wp_seqAsg ?_
  | with_reducible refine wp_seqPar ?_
  | with_reducible refine wp_seqPar3 ?_
  | with_reducible refine wp_seqFset ?_
  | with_reducible refine wp_seqFaug ?_
  | with_reducible refine wp_sFset ?_
  | with_reducible refine wp_sFaug ?_
  | with_reducible refine wp_meth ?_
  | with_reducible refine wp_make ?_
  | with_reducible refine wp_methX ?_
  | with_reducible refine wp_makeX ?_
  | with_reducible refine wp_sPar3 ?_
  | with_reducible refine three_ok ?_
  | with_reducible refine wp_seqAug ?_
  | with_reducible refine wp_seqExpr ?_
  | with_reducible refine wp_seqSub ?_
  | with_reducible refine wp_seqNil ?_
  | with_reducible refine wp_seqFor ?_
  | with_reducible refine wp_seqWhile ?_
  | with_reducible refine wp_seqStar ?_
  | with_reducible refine wp_seqForK ?_
  | with_reducible refine wp_seqDput ?_
  | with_reducible refine wp_seqMul ?_
  | with_reducible refine wp_sSet ?_
  | with_reducible refine wp_sRet ?_
  | with_reducible refine wp_sNil ?_
  | with_reducible refine wp_sIf ?_
  | with_reducible refine wp_sPar ?_
  | with_reducible refine wp_sAsg ?_
  | with_reducible refine wp_sSub ?_
  | with_reducible refine wp_sFor ?_
  | with_reducible refine wp_sRaise ?_
  | with_reducible refine wp_sExpr ?_
  | with_reducible refine wp_sRetN ?_
  | with_reducible refine wp_sBreak ?_
  | with_reducible refine wp_sCont ?_
  | ((with_reducible refine wp_varE ?_); refine ⟨_, rfl, ?_⟩)
  | with_reducible refine wp_c ?_
  | with_reducible refine wp_B ?_
  | with_reducible refine wp_U ?_
  | with_reducible refine wp_T ?_
  | with_reducible refine wp_andT ?_
  | with_reducible refine wp_orT ?_
  | with_reducible refine wp_notT ?_
  | with_reducible refine wp_andV ?_
  | with_reducible refine wp_orV ?_
  | with_reducible refine wp_notV ?_
  | with_reducible refine wp_if ?_
  | with_reducible refine wp_nil ?_
  | with_reducible refine wp_cons ?_
  | with_reducible refine wp_tup ?_
  | with_reducible refine wp_lst ?_
  | with_reducible refine wp_lstC ?_
  | with_reducible refine wp_call ?_
  | with_reducible refine wp_callD ?_
  | with_reducible refine wp_callB ?_
  | with_reducible refine wp_m ?_
  | with_reducible refine wp_oNone ?_
  | with_reducible refine wp_oSome ?_
  | with_reducible refine wp_sl ?_
  | with_reducible refine wp_tried ?_
  | with_reducible refine wp_asked ?_
  | with_reducible refine wp_seqOut ?_
  | with_reducible refine wp_asks ?_
  | with_reducible refine wp_asksC ?_
  | with_reducible refine wp_asksN ?_
  | with_reducible refine wp_chain ?_
  | with_reducible refine wp_enum ?_
  | with_reducible refine wp_enumB ?_
  | with_reducible refine wp_zip ?_
  | with_reducible refine wp_joinedT ?_
  | with_reducible refine wp_jNil ?_
  | with_reducible refine wp_jT ?_
  | with_reducible refine wp_lc ?_
  | with_reducible refine wp_lcC ?_
  | with_reducible refine wp_yes ?_
  | with_reducible refine wp_iAny ?_
  | with_reducible refine wp_range1 ?_
  | with_reducible refine wp_range2 ?_
  | with_reducible refine wp_sStar ?_
  | with_reducible refine wp_sDput ?_
  | with_reducible refine wp_sMul ?_
  | with_reducible refine wp_mNil ?_
  | with_reducible refine wp_mCons ?_
  | with_reducible refine wp_mSub ?_
  | with_reducible refine wp_mSubD ?_
  | with_reducible refine wp_dget2 ?_
  | with_reducible refine wp_disp ?_
  | with_reducible refine wp_pNil ?_
  | with_reducible refine wp_pCons ?_)
local macro_rules | `(tactic| fail) => `(tactic| first
  | with_reducible refine wp_eqI ?_
  | with_reducible refine wp_neI ?_
  | with_reducible refine wp_eqB ?_
  | with_reducible refine wp_neB ?_
  | ((with_reducible refine wp_eqStr ?_ ?_ ?_); decide +kernel; decide +kernel)
  | ((with_reducible refine wp_neStr ?_ ?_ ?_); decide +kernel; decide +kernel)
  | with_reducible refine wp_addI ?_
  | with_reducible refine wp_addII ?_
  | with_reducible refine wp_subI ?_
  | with_reducible refine wp_ltI ?_
  | with_reducible refine wp_leI ?_
  | with_reducible refine wp_gtI ?_
  | with_reducible refine wp_geI ?_
  | with_reducible refine wp_negI ?_
  | with_reducible refine wp_intI ?_
  | with_reducible refine wp_intB ?_
  | with_reducible refine wp_absI ?_
  | with_reducible refine wp_un ?_
  | ((with_reducible refine wp_mul ?_ ?_); first | exact mulOk_right (by decide) | exact mulOk_left (by decide) | exact mulOk_mod (by decide) (by decide))
  | ((with_reducible refine wp_mod ?_ ?_); decide)
  | ((with_reducible refine wp_fdiv ?_ ?_ ?_); decide; exact pylong_200 (by decide))
  | with_reducible refine wp_pow18 ?_
  | with_reducible refine wp_pow12 ?_
  | with_reducible refine wp_pow40 ?_
  | ((with_reducible refine wp_ixE ?_); refine ⟨_, rfl, ?_⟩)
  | with_reducible refine wp_len0 ?_
  | with_reducible refine wp_len1 ?_
  | with_reducible refine wp_len2 ?_
  | with_reducible refine wp_len3 ?_
  | with_reducible refine wp_lenT1 ?_
  | with_reducible refine wp_lenT2 ?_
  | with_reducible refine wp_lenT3 ?_
  | ((with_reducible refine wp_lenE ?_); refine ⟨_, rfl, ?_⟩)
  | ((with_reducible refine wp_listOfE ?_); refine ⟨_, rfl, ?_⟩)
  | ((with_reducible refine wp_isiE ?_); refine ⟨_, rfl, ?_⟩)
  | ((with_reducible refine wp_isNE ?_); refine ⟨_, rfl, ?_⟩)
  | ((with_reducible refine wp_notNE ?_); refine ⟨_, rfl, ?_⟩)
  | ((with_reducible refine wp_slE ?_); refine ⟨_, rfl, ?_⟩)
  | ((with_reducible refine sub_okE ?_); refine ⟨_, rfl, ?_⟩)
  | with_reducible refine Exists.intro _ (And.intro rfl ?_)
  | with_reducible refine Exists.intro _ (Exists.intro _ (And.intro rfl ?_))
  | ((with_reducible refine len_eq ?_ ?_); exact rfl)
  | ((with_reducible refine rng_ok ?_ ?_); omega)
  | ((with_reducible refine rng2_ok ?_ ?_); omega)
  | ((with_reducible refine rngD_len ?_ ?_); omega)
  | ((with_reducible refine len_100 ?_ ?_); exact Nat.le_of_ble_eq_true rfl)
  | ((with_reducible refine isTy_ok ?_ ?_); exact rfl)
  | ((with_reducible refine br_t ?_ ?_); first | with_reducible exact rfl | decide)
  | ((with_reducible refine br_f ?_ ?_); first | with_reducible exact rfl | decide)
  | with_reducible refine br_d (fun _ => ?_) (fun _ => ?_)
  | with_reducible refine br_n (fun _ => ?_) (fun _ => ?_))
/-- rows, walked: lists or tuples -/
def QW (μ : Sto) (d : D) (r w : Nat) (L : Mn.Mq) : Prop := ∃ (X : Nat → D) (gd : Sto → Bool), walkD μ d = some (tb r X, gd) ∧ gd μ = true ∧ dLen d μ = .ok (.int (r : Nat)) μ ∧ ∀ i, i < r → ∃ ge, walkD μ (X i) = some (tb w fun j => dSh (L i j), ge) ∧ ge μ = true
theorem QM.qw {μ : Sto} {d : D} {r w : Nat} {L : Mn.Mq} (h : QM μ d r w L) : QW μ d r w L := by
  obtain ⟨X, h1, h2⟩ := h
  obtain ⟨gd, w1, w2⟩ := asL_walkD h1
  exact ⟨X, gd, w1, w2, by have := (asL_isi h1).2.2.2; rw [tb_len] at this; exact this, fun i hi => asL_walkD (h2 i hi)⟩
theorem QW.len {μ : Sto} {d : D} {r w : Nat} {L : Mn.Mq} (h : QW μ d r w L) : dLen d μ = .ok (.int (r : Nat)) μ := by
  obtain ⟨X, gd, _, _, h3, _⟩ := h
  exact h3
theorem QW.tup {μ : Sto} {r w : Nat} {L : Mn.Mq} : QW μ (.tup (tb r fun i => .tup (tb w fun j => dSh (L i j)))) r w L :=
  ⟨fun i => .tup (tb w fun j => dSh (L i j)), fun _ => true, rfl, rfl, by show R.ok (D.int (tb r _).length) μ = _; rw [tb_len], fun i hi => ⟨fun _ => true, rfl, rfl⟩⟩
theorem wp_likeW {d e : D} {r s : Nat} {μ : Sto} {Q : D → Sto → Prop} {E : Exs} (h1 : dLen d μ = .ok (.int (r : Nat)) μ) (h2 : dLen e μ = .ok (.int (s : Nat)) μ) (q : r = s → Q .non μ) (no : r ≠ s → E "Unfit" ["word"] [.str "Unfit"] μ) : (f_need_like [d, e] μ).wp Q E := by
  unfold f_need_like
  with_reducible refine wp_fn ?_
  simp only [List.map_cons, List.map_nil, List.length_cons, List.length_nil, List.reduceReplicate, List.cons_append, List.nil_append, Nat.reduceAdd, Nat.reduceSub, Nat.zero_add, List.set_cons_zero, List.set_cons_succ, wipeE]
  unfold b_need_like
  repeat' (first | fail | with_reducible refine wp_sSeq ?_)
  refine wp_len h1 ?_
  repeat' (first | fail | with_reducible refine wp_sSeq ?_)
  refine wp_len h2 ?_
  repeat' (first | fail | with_reducible refine wp_sSeq ?_)
  · rename_i c; exact no fun z => c (by rw [z])
  · rename_i c; exact q (by omega)
theorem wp_as_wholesW {d : D} {n m : Nat} {L : Mn.Mq} {A : Nat → Nat → Int} {b : Int} {μ : Sto} {Q : D → Sto → Prop} {E : Exs} (n4 : n ≤ 4) (gp : Mn.Gp n m L A b) (m9 : m < 9000) (hd : QW μ d n n L) (q : ∀ A' f, 0 < f → Mn.Gp n m L A' f → Q (.tup [gM n n A', .int f]) μ) : (f_as_wholes [d] μ).wp Q E := by
  obtain ⟨X, gd, w1, w2, hlen, hr⟩ := hd
  have nn : n * n ≤ 16 := Nat.mul_le_mul n4 n4
  obtain ⟨fl, fg⟩ := flat_gen (n := n) (T := L) (m := n)
  have fm : ∀ s ∈ (((List.range n).map fun i => (List.range n).map (L i)).flatten), 0 < s.2 ∧ s.2 ∣ b ∧ s.1.natAbs ≤ 2 ^ m := fun s hs => by
    obtain ⟨r, hr, hs⟩ := List.mem_flatten.mp hs
    obtain ⟨i, hi, rfl⟩ := List.mem_map.mp hr
    obtain ⟨j, hj, rfl⟩ := List.mem_map.mp hs
    have hi := List.mem_range.mp hi
    have hj := List.mem_range.mp hj
    obtain ⟨e1, e2⟩ := gp.el i hi j hj
    obtain ⟨y1, y2⟩ := Mn.frq_eq (t := A i j) gp.nz
    rw [e2]
    exact ⟨Mn.frq_pos gp.nz, ⟨_, by rw [Int.mul_comm]; exact y2.symm⟩, Nat.le_trans (Mn.frq_le _ _).1 e1⟩
  unfold f_as_wholes
  with_reducible refine wp_fn ?_
  simp only [List.map_cons, List.map_nil, List.length_cons, List.length_nil, List.reduceReplicate, List.cons_append, List.nil_append, Nat.reduceAdd, Nat.reduceSub, Nat.zero_add, List.set_cons_zero, List.set_cons_succ, wipeE]
  unfold b_as_wholes
  repeat' (first | fail | with_reducible refine wp_sSeq ?_)
  refine wp_lc2 ?_
  repeat' (first | fail | with_reducible refine wp_sSeq ?_)
  refine ⟨_, w1, ?_⟩
  refine wp_lc2M (l := List.range n) (g := X) (k := fun i => tb n fun j => dSh (L i j)) w2 ?_ fun i hi => ⟨_, rfl, inS_ok ?_⟩
  · have ef : ((List.range n).map fun i => tb n fun j => dSh (L i j)).flatten = (((List.range n).map fun i => (List.range n).map (L i)).flatten).map dSh := by
      rw [List.map_flatten, List.map_map]
      congr 1
      refine List.map_congr_left fun i _ => ?_
      show _ = ((List.range n).map (L i)).map _
      rw [List.map_map]; rfl
    rw [ef]
    have mem : ∀ i, i < n → ∀ j, j < n → L i j ∈ (((List.range n).map fun i => (List.range n).map (L i)).flatten) := fun i hi j hj => List.mem_of_getElem? (fg i j hi hj)
    generalize (((List.range n).map fun i => (List.range n).map (L i)).flatten) = l at *
    refine ⟨by rw [List.length_map, sizeLine_eq]; omega, ?_⟩
    repeat' (first | fail | with_reducible refine wp_sSeq ?_)
    refine wp_addL (by rw [List.length_map]; simp; omega) ?_
    have e2 : (l.map dSh) ++ [D.tup [.int 1, .int 1]] = (l ++ [(1, 1)]).map dSh := by rw [List.map_append]; rfl
    rw [e2]
    repeat' (first | fail | with_reducible refine wp_sSeq ?_)
    refine wp_wholesG (l := l ++ [(1, 1)]) gp.nz gp.bb m9 (fun s hs => by
      rcases List.mem_append.mp hs with h | h
      · exact fm s h
      · rw [List.mem_singleton] at h; subst h
        exact ⟨by decide, Int.one_dvd _, by show 1 ≤ _; exact Nat.one_le_two_pow⟩) (by rw [List.length_append, List.length_singleton]; omega) fun f f0 fB fu => ?_
    have gw := Gp.whole gp f0 fB fun i hi j hj => fu _ (List.mem_append_left _ (mem i hi j hj))
    repeat' (first | fail | with_reducible refine wp_sSeq ?_)
    refine wp_len hlen ?_
    repeat' (first | fail | with_reducible refine wp_sSeq ?_)
    rw [Int.toNat_natCast, rng0]
    simp only [List.map_cons, List.map_nil, List.length_cons, List.length_nil, List.reduceReplicate, List.cons_append, List.nil_append, Nat.reduceAdd, Nat.reduceSub, Nat.zero_add, List.set_cons_zero, List.set_cons_succ, wipeE]
    refine wp_lcT (k := fun k => .lst (tb n fun j => .int ((L k j).1 * f.fdiv (L k j).2))) rfl ?_ fun k hk => ⟨_, rfl, ?_⟩
    · repeat' (first | fail | with_reducible refine wp_sSeq ?_)
      rw [List.map_append]
      refine wp_last ?_
      have e1 : f.fdiv 1 = f := by rw [Int.fdiv_eq_ediv_of_nonneg _ (by decide), Int.ediv_one]
      dsimp only
      rw [e1, Int.one_mul]
      exact ⟨by simp, q _ f f0 gw⟩
    · have kn : k * n + n ≤ n * n := by
        have : (k + 1) * n ≤ n * n := Nat.mul_le_mul_right _ hk
        rw [Nat.succ_mul] at this
        exact this
      repeat' (first | fail | with_reducible refine wp_sSeq ?_)
      refine wp_mul (mulOk_left (by omega)) ?_
      repeat' (first | fail | with_reducible refine wp_sSeq ?_)
      refine wp_mul (mulOk_left (by omega)) ?_
      repeat' (first | fail | with_reducible refine wp_sSeq ?_)
      refine ⟨congrArg D.lst ?_, rfl⟩
      rw [show ((k : Nat) : Int) * (n : Nat) = ((k * n : Nat) : Int) from by rw [Int.natCast_mul], show (((k * n : Nat) : Int) + (n : Nat)) = ((k * n + n : Nat) : Int) from by rw [Int.natCast_add]]
      refine (cut_mid (by omega) (by rw [List.length_map, List.length_append, List.length_singleton, fl]; omega)).trans ?_
      refine tb_ext ?_ fun j hj => ?_
      · rw [List.length_take, List.length_drop, List.length_map, List.length_append, List.length_singleton, fl]; omega
      · rw [List.getElem?_take_of_lt (by omega), List.getElem?_drop, List.getElem?_map, List.getElem?_append_left (by rw [fl]; omega), fg k j hk hj]
        rfl
  · obtain ⟨ge, v1, v2⟩ := hr i (List.mem_range.mp hi)
    repeat' (first | fail | with_reducible refine wp_sSeq ?_)
    refine ⟨_, v1, ?_⟩
    refine wp_lcT (k := fun j => dSh (L i j)) v2 ⟨rfl, rfl⟩ fun j hj => ⟨_, rfl, ?_⟩
    repeat' (first | fail | with_reducible refine wp_sSeq ?_)
    exact ⟨rfl, rfl⟩
theorem wp_prodW {d e : D} {n m1 m2 : Nat} {L M : Mn.Mq} {A B : Nat → Nat → Int} {b c : Int} {μ : Sto} {Q : D → Sto → Prop} {E : Exs} (n4 : n ≤ 4) (g1 : Mn.Gp n m1 L A b) (g2 : Mn.Gp n m2 M B c) (hm : m1 + m2 + 2 < 9000)
    (hd : QW μ d n n L) (he : QW μ e n n M) (q : Q (qM n n (Mn.dotM n L M)) μ) : (f_product [d, e] μ).wp Q E := by
  unfold f_product
  with_reducible refine wp_fn ?_
  simp only [List.map_cons, List.map_nil, List.length_cons, List.length_nil, List.reduceReplicate, List.cons_append, List.nil_append, Nat.reduceAdd, Nat.reduceSub, Nat.zero_add, List.set_cons_zero, List.set_cons_succ, wipeE]
  unfold b_product
  repeat' (first | fail | with_reducible refine wp_sSeq ?_)
  refine wp_likeW hd.len he.len (fun _ => ?_) fun z => absurd rfl z
  repeat' (first | fail | with_reducible refine wp_sSeq ?_)
  refine wp_as_wholesW n4 g1 (by omega) hd fun A f f0 g1 => ?_
  repeat' (first | fail | with_reducible refine wp_sSeq ?_)
  refine wp_as_wholesW n4 g2 (by omega) he fun B h h0 g2 => ?_
  repeat' (first | fail | with_reducible refine wp_sSeq ?_)
  rw [tb_len]
  repeat' (first | fail | with_reducible refine wp_sSeq ?_)
  refine wp_lcMap (h := fun k => .lst (tb n fun i => .int (B i k))) ?_ fun k hk => ⟨_, rfl, ?_⟩
  · repeat' (first | fail | with_reducible refine wp_sSeq ?_)
    simp only [List.map_cons, List.map_nil, List.length_cons, List.length_nil, List.reduceReplicate, List.cons_append, List.nil_append, Nat.reduceAdd, Nat.reduceSub, Nat.zero_add, List.set_cons_zero, List.set_cons_succ, wipeE]
    refine tb_sz (by omega) ?_
    refine wp_lcT (k := fun i => .lst (tb n fun j => .int (Mn.sumP A B i j n))) rfl ?_ fun i hi => ⟨_, rfl, ?_⟩
    · repeat' (first | fail | with_reducible refine wp_sSeq ?_)
      refine wp_mul (mulOk_le g1.bb g2.bb (by omega)) ?_
      repeat' (first | fail | with_reducible refine wp_sSeq ?_)
      exact wp_as_shares n4 (g1.mul n4 g2) hm q
    · repeat' (first | fail | with_reducible refine wp_sSeq ?_)
      simp only [List.map_cons, List.map_nil, List.length_cons, List.length_nil, List.reduceReplicate, List.cons_append, List.nil_append, Nat.reduceAdd, Nat.reduceSub, Nat.zero_add, List.set_cons_zero, List.set_cons_succ, wipeE]
      refine tb_sz (by simp; omega) ?_
      refine wp_lcT (n := n) (F := fun k => .lst (tb n fun i => .int (B i k))) (k := fun j => .int (Mn.sumP A B i j n)) rfl ⟨rfl, rfl⟩ fun j hj => ⟨_, rfl, ?_⟩
      repeat' (first | fail | with_reducible refine wp_sSeq ?_)
      refine ⟨_, _, rfl, rfl, ?_⟩
      rw [tb_zip]
      simp only [List.map_cons, List.map_nil, List.length_cons, List.length_nil, List.reduceReplicate, List.cons_append, List.nil_append, Nat.reduceAdd, Nat.reduceSub, Nat.zero_add, List.set_cons_zero, List.set_cons_succ, wipeE]
      refine tb_sz (by omega) ?_
      refine wp_lcT (F := fun t => .tup [.int (A i t), .int (B t j)]) (k := fun t => .int (A i t * B t j)) rfl ?_ fun t ht => ⟨_, rfl, ?_⟩
      · repeat' (first | fail | with_reducible refine wp_sSeq ?_)
        rw [show (tb n fun t => D.int (A i t * B t j)) = _ from tb_int]
        refine wp_sumI ?_
        exact ⟨rfl, rfl⟩
      · repeat' (first | fail | with_reducible refine wp_sSeq ?_)
        refine wp_mul (mulOk_le (g1.el i hi t ht).1 (g2.el t ht j hj).1 (by omega)) ?_
        exact ⟨rfl, rfl⟩
  · repeat' (first | fail | with_reducible refine wp_sSeq ?_)
    simp only [List.map_cons, List.map_nil, List.length_cons, List.length_nil, List.reduceReplicate, List.cons_append, List.nil_append, Nat.reduceAdd, Nat.reduceSub, Nat.zero_add, List.set_cons_zero, List.set_cons_succ, wipeE]
    refine tb_sz (by omega) ?_
    refine wp_lcT (k := fun i => .int (B i k)) rfl ⟨rfl, rfl⟩ fun i hi => ⟨_, rfl, ?_⟩
    repeat' (first | fail | with_reducible refine wp_sSeq ?_)
    rw [show (0 + (k : Nat) : Int) = (k : Nat) from by omega]
    refine wp_tbIx hk ?_
    exact ⟨rfl, rfl⟩
theorem asL_walkX {d : D} {xs : List D} {μ : Sto} (h : asL μ d = some xs) : ∃ gd, walkL μ d = some (xs, gd) ∧ walkD μ d = some (xs, gd) ∧ ∀ ex, gd (μ ++ ex) = true := by
  cases d with
  | lst ys => cases h; exact ⟨_, rfl, rfl, fun _ => rfl⟩
  | cell k =>
    have e := asL_cellE h
    exact ⟨_, walkD_cell e, walkD_cell e, fun ex => gd_cell (by rw [List.getElem?_append_left (List.getElem?_eq_some_iff.mp e).1]; exact e)⟩
  | _ => cases h
theorem wp_lcRows {E : Exs} {ρ : L3.Env} {μ : Sto} {sg : SG} {te : SE} {gd : Sto → Bool} {Q : List D → Sto → Prop} {n : Nat} {F : Nat → D} {k : Nat → List D} (hg : ∀ ex, gd (μ ++ ex) = true) (q : Q (tb n fun i => .cell (μ.length + i)) (μ ++ (List.range n).map fun i => MO.lst (k i)))
    (hs : ∀ i, i < n → ∀ ex, ∃ ρ1, sg (F i) ρ (μ ++ ex) = some ρ1 ∧ (te ρ1 (μ ++ ex)).wp (fun y μ2 => y = .cell (μ ++ ex).length ∧ μ2 = μ ++ ex ++ [.lst (k i)]) noE) : (lcS gd sg tYesS te ρ (tb n F) μ).wp Q E := by
  refine wp_lcS (fun ys rest μ' => ∃ i, i ≤ n ∧ ys = tb i (fun i => .cell (μ.length + i)) ∧ rest = (tb n F).drop i ∧ μ' = μ ++ (List.range i).map (fun i => MO.lst (k i))) ⟨0, Nat.zero_le _, rfl, rfl, by simp⟩ (fun ys μ' h => ?_) fun ys d rest μ' h => ?_
  · obtain ⟨i, hi, rfl, e, rfl⟩ := h
    have z := congrArg List.length e
    rw [List.length_drop, tb_len] at z
    have : i = n := by simp at z; omega
    subst this
    exact ⟨hg _, q⟩
  · obtain ⟨i, hi, rfl, e, rfl⟩ := h
    refine ⟨hg _, ?_⟩
    have z := congrArg List.length e
    rw [List.length_drop, tb_len, List.length_cons] at z
    have hl : i < n := by omega
    rw [List.drop_eq_getElem_cons (by rw [tb_len]; exact hl)] at e
    obtain ⟨e1, e2⟩ := List.cons.inj e
    have e3 : d = F i := by rw [e1]; simp
    subst e3
    obtain ⟨ρ1, e4, w⟩ := hs i hl _
    refine ⟨ρ1, e4, wp_yes ⟨fun _ => ?_, fun z => nomatch z⟩⟩
    refine wp_mono w (fun y μ2 ⟨a, b⟩ => ?_) fun _ _ _ _ z => z
    subst a b
    refine ⟨i + 1, hl, ?_, e2, ?_⟩
    · rw [show (tb (i + 1) fun i => D.cell (μ.length + i)) = tb i (fun i => D.cell (μ.length + i)) ++ [D.cell (μ.length + i)] from by unfold tb; rw [List.range_succ, List.map_append]; rfl]
      simp
    · rw [List.range_succ, List.map_append, List.append_assoc]; rfl
/-- rows that are cells, in a cell, all new -/
abbrev rwC (μ : Sto) (n : Nat) (L : Mn.Mq) : Sto := μ ++ (List.range n).map (fun i => MO.lst (tb n fun j => dSh (L i j))) ++ [.lst (tb n fun i => .cell (μ.length + i))]
theorem rwC_len {μ : Sto} {n : Nat} {L : Mn.Mq} : (rwC μ n L).length = μ.length + n + 1 := by simp [rwC]; omega
theorem rwC_at {μ : Sto} {n : Nat} {L : Mn.Mq} : (rwC μ n L)[μ.length + n]? = some (.lst (tb n fun i => .cell (μ.length + i))) := by
  unfold rwC
  rw [List.getElem?_append_right (by simp), show μ.length + n - (μ ++ (List.range n).map fun i => MO.lst (tb n fun j => dSh (L i j))).length = 0 from by simp]
  rfl
theorem rwC_row {μ : Sto} {n i : Nat} {L : Mn.Mq} (hi : i < n) : (rwC μ n L)[μ.length + i]? = some (.lst (tb n fun j => dSh (L i j))) := by
  unfold rwC
  rw [List.getElem?_append_left (by simp; omega), List.getElem?_append_right (by omega), Nat.add_sub_cancel_left, List.getElem?_map, List.getElem?_range hi]
  rfl
theorem rwC_qm {μ : Sto} {n : Nat} {L : Mn.Mq} : QM (rwC μ n L) (.cell (μ.length + n)) n n L := ⟨fun i => .cell (μ.length + i), asL_cell rwC_at, fun i hi => asL_cell (rwC_row hi)⟩
theorem QM.rwC {μ : Sto} {d : D} {r w n : Nat} {L M : Mn.Mq} (h : QM μ d r w L) : QM (rwC μ n M) d r w L := h.app.app
theorem QM.len {μ : Sto} {d : D} {r w : Nat} {L : Mn.Mq} (h : QM μ d r w L) : dLen d μ = .ok (.int (r : Nat)) μ := h.qw.len
theorem wp_prodC {d e : D} {n m1 m2 : Nat} {L M : Mn.Mq} {A B : Nat → Nat → Int} {b c : Int} {μ : Sto} {Q : D → Sto → Prop} {E : Exs} (n4 : n ≤ 4) (g1 : Mn.Gp n m1 L A b) (g2 : Mn.Gp n m2 M B c) (hm : m1 + m2 + 2 < 9000)
    (hd : QW μ d n n L) (he : QW μ e n n M) (q : Q (.cell (μ.length + n)) (rwC μ n (Mn.dotM n L M))) : (f_product__2 [d, e] μ).wp Q E := by
  unfold f_product__2
  with_reducible refine wp_fn ?_
  simp only [List.map_cons, List.map_nil, List.length_cons, List.length_nil, List.reduceReplicate, List.cons_append, List.nil_append, Nat.reduceAdd, Nat.reduceSub, Nat.zero_add, List.set_cons_zero, List.set_cons_succ, wipeE]
  unfold b_product__2
  repeat' (first | fail | with_reducible refine wp_sSeq ?_)
  refine wp_likeW hd.len he.len (fun _ => ?_) fun z => absurd rfl z
  repeat' (first | fail | with_reducible refine wp_sSeq ?_)
  refine wp_as_wholesW n4 g1 (by omega) hd fun A f f0 g1 => ?_
  repeat' (first | fail | with_reducible refine wp_sSeq ?_)
  refine wp_as_wholesW n4 g2 (by omega) he fun B h h0 g2 => ?_
  repeat' (first | fail | with_reducible refine wp_sSeq ?_)
  rw [tb_len]
  repeat' (first | fail | with_reducible refine wp_sSeq ?_)
  refine wp_lcMap (h := fun k => .lst (tb n fun i => .int (B i k))) ?_ fun k hk => ⟨_, rfl, ?_⟩
  · repeat' (first | fail | with_reducible refine wp_sSeq ?_)
    simp only [List.map_cons, List.map_nil, List.length_cons, List.length_nil, List.reduceReplicate, List.cons_append, List.nil_append, Nat.reduceAdd, Nat.reduceSub, Nat.zero_add, List.set_cons_zero, List.set_cons_succ, wipeE]
    refine tb_sz (by omega) ?_
    refine wp_lcT (k := fun i => .lst (tb n fun j => .int (Mn.sumP A B i j n))) rfl ?_ fun i hi => ⟨_, rfl, ?_⟩
    · repeat' (first | fail | with_reducible refine wp_sSeq ?_)
      refine wp_mul (mulOk_le g1.bb g2.bb (by omega)) ?_
      repeat' (first | fail | with_reducible refine wp_sSeq ?_)
      exact wp_as_sharesC n4 (g1.mul n4 g2) hm q
    · repeat' (first | fail | with_reducible refine wp_sSeq ?_)
      simp only [List.map_cons, List.map_nil, List.length_cons, List.length_nil, List.reduceReplicate, List.cons_append, List.nil_append, Nat.reduceAdd, Nat.reduceSub, Nat.zero_add, List.set_cons_zero, List.set_cons_succ, wipeE]
      refine tb_sz (by simp; omega) ?_
      refine wp_lcT (n := n) (F := fun k => .lst (tb n fun i => .int (B i k))) (k := fun j => .int (Mn.sumP A B i j n)) rfl ⟨rfl, rfl⟩ fun j hj => ⟨_, rfl, ?_⟩
      repeat' (first | fail | with_reducible refine wp_sSeq ?_)
      refine ⟨_, _, rfl, rfl, ?_⟩
      rw [tb_zip]
      simp only [List.map_cons, List.map_nil, List.length_cons, List.length_nil, List.reduceReplicate, List.cons_append, List.nil_append, Nat.reduceAdd, Nat.reduceSub, Nat.zero_add, List.set_cons_zero, List.set_cons_succ, wipeE]
      refine tb_sz (by omega) ?_
      refine wp_lcT (F := fun t => .tup [.int (A i t), .int (B t j)]) (k := fun t => .int (A i t * B t j)) rfl ?_ fun t ht => ⟨_, rfl, ?_⟩
      · repeat' (first | fail | with_reducible refine wp_sSeq ?_)
        rw [show (tb n fun t => D.int (A i t * B t j)) = _ from tb_int]
        refine wp_sumI ?_
        exact ⟨rfl, rfl⟩
      · repeat' (first | fail | with_reducible refine wp_sSeq ?_)
        refine wp_mul (mulOk_le (g1.el i hi t ht).1 (g2.el t ht j hj).1 (by omega)) ?_
        exact ⟨rfl, rfl⟩
  · repeat' (first | fail | with_reducible refine wp_sSeq ?_)
    simp only [List.map_cons, List.map_nil, List.length_cons, List.length_nil, List.reduceReplicate, List.cons_append, List.nil_append, Nat.reduceAdd, Nat.reduceSub, Nat.zero_add, List.set_cons_zero, List.set_cons_succ, wipeE]
    refine tb_sz (by omega) ?_
    refine wp_lcT (k := fun i => .int (B i k)) rfl ⟨rfl, rfl⟩ fun i hi => ⟨_, rfl, ?_⟩
    repeat' (first | fail | with_reducible refine wp_sSeq ?_)
    rw [show (0 + (k : Nat) : Int) = (k : Nat) from by omega]
    refine wp_tbIx hk ?_
    exact ⟨rfl, rfl⟩
theorem wp_addW {d e : D} {n m k : Nat} {L M : Mn.Mq} {μ : Sto} {Q : D → Sto → Prop} {E : Exs} (n4 : n ≤ 4) (hL : ∀ i, i < n → ∀ j, j < n → Shq m (L i j)) (hM : ∀ i, i < n → ∀ j, j < n → Shq k (M i j)) (hm : m + k < 9000)
    (hd : QM μ d n n L) (he : QM μ e n n M) (q : Q (qM n n (Mn.addM L M)) μ) : (f_added [d, e] μ).wp Q E := by
  have l1 := hd.len
  have l2 := he.len
  obtain ⟨X, hX, hr⟩ := hd
  obtain ⟨Y, hY, hs⟩ := he
  obtain ⟨gd, w1, _, w2⟩ := asL_walkX hX
  obtain ⟨ge, v1, _, v2⟩ := asL_walkX hY
  unfold f_added
  with_reducible refine wp_fn ?_
  simp only [List.map_cons, List.map_nil, List.length_cons, List.length_nil, List.reduceReplicate, List.cons_append, List.nil_append, Nat.reduceAdd, Nat.reduceSub, Nat.zero_add, List.set_cons_zero, List.set_cons_succ, wipeE]
  unfold b_added
  repeat' (first | fail | with_reducible refine wp_sSeq ?_)
  refine wp_likeW l1 l2 (fun _ => ?_) fun z => absurd rfl z
  repeat' (first | fail | with_reducible refine wp_sSeq ?_)
  refine ⟨_, _, w1, v1, ?_⟩
  rw [tb_zip]
  simp only [List.map_cons, List.map_nil, List.length_cons, List.length_nil, List.reduceReplicate, List.cons_append, List.nil_append, Nat.reduceAdd, Nat.reduceSub, Nat.zero_add, List.set_cons_zero, List.set_cons_succ, wipeE]
  refine tb_sz (by omega) ?_
  have w2 := w2 []
  have v2 := v2 []
  rw [List.append_nil] at w2 v2
  refine wp_lcT (k := fun i => .lst (tb n fun j => dSh (Mn.addq (L i j) (M i j)))) (by rw [w2, v2]; rfl) q fun i hi => ⟨_, rfl, ?_⟩
  repeat' (first | fail | with_reducible refine wp_sSeq ?_)
  obtain ⟨gr, x1, x2⟩ := asL_walkL (hr i hi)
  obtain ⟨gs, y1, y2⟩ := asL_walkL (hs i hi)
  refine ⟨_, _, x1, y1, ?_⟩
  rw [tb_zip]
  simp only [List.map_cons, List.map_nil, List.length_cons, List.length_nil, List.reduceReplicate, List.cons_append, List.nil_append, Nat.reduceAdd, Nat.reduceSub, Nat.zero_add, List.set_cons_zero, List.set_cons_succ, wipeE]
  refine tb_sz (by omega) ?_
  refine wp_lcT (k := fun j => dSh (Mn.addq (L i j) (M i j))) (by rw [x2, y2]; rfl) ⟨rfl, rfl⟩ fun j hj => ⟨_, rfl, ?_⟩
  repeat' (first | fail | with_reducible refine wp_sSeq ?_)
  have hs := hL i hi j hj
  have hu := hM i hi j hj
  exact wp_plus (mulOk_le hs.2.1 hu.2.2 (by omega)) (mulOk_le hu.2.1 hs.2.2 (by omega)) (mulOk_le hs.2.2 hu.2.2 (by omega)) (hs.bot hu).1 (NB.le (hs.bot hu).2 hm) ⟨rfl, rfl⟩
theorem wp_addtC {d e : D} {n m k : Nat} {L M : Mn.Mq} {μ : Sto} {Q : D → Sto → Prop} {E : Exs} (n4 : n ≤ 4) (hL : ∀ i, i < n → ∀ j, j < n → Shq m (L i j)) (hM : ∀ i, i < n → ∀ j, j < n → Shq k (M i j)) (hm : m + k < 9000)
    (hd : QM μ d n n L) (he : QM μ e n n M) (q : Q (.cell (μ.length + n)) (rwC μ n (Mn.addM L M))) : (f_added__2 [d, e] μ).wp Q E := by
  have l1 := hd.len
  have l2 := he.len
  obtain ⟨X, hX, hr⟩ := hd
  obtain ⟨Y, hY, hs⟩ := he
  obtain ⟨gd, w1, _, w2⟩ := asL_walkX hX
  obtain ⟨ge, v1, _, v2⟩ := asL_walkX hY
  unfold f_added__2
  with_reducible refine wp_fn ?_
  simp only [List.map_cons, List.map_nil, List.length_cons, List.length_nil, List.reduceReplicate, List.cons_append, List.nil_append, Nat.reduceAdd, Nat.reduceSub, Nat.zero_add, List.set_cons_zero, List.set_cons_succ, wipeE]
  unfold b_added__2
  repeat' (first | fail | with_reducible refine wp_sSeq ?_)
  refine wp_likeW l1 l2 (fun _ => ?_) fun z => absurd rfl z
  repeat' (first | fail | with_reducible refine wp_sSeq ?_)
  refine ⟨_, _, w1, v1, ?_⟩
  rw [tb_zip]
  simp only [List.map_cons, List.map_nil, List.length_cons, List.length_nil, List.reduceReplicate, List.cons_append, List.nil_append, Nat.reduceAdd, Nat.reduceSub, Nat.zero_add, List.set_cons_zero, List.set_cons_succ, wipeE]
  refine tb_sz (by omega) ?_
  refine wp_lcRows (k := fun i => tb n fun j => dSh (Mn.addq (L i j) (M i j))) (fun ex => by rw [w2, v2]; rfl) ?_ fun i hi ex => ⟨_, rfl, ?_⟩
  · have el : (μ ++ (List.range n).map fun i => MO.lst (tb n fun j => dSh (Mn.addq (L i j) (M i j)))).length = μ.length + n := by simp
    rw [el]
    exact q
  repeat' (first | fail | with_reducible refine wp_sSeq ?_)
  obtain ⟨gr, x1, _, x2⟩ := asL_walkX (asL_app (ex := ex) (hr i hi))
  obtain ⟨gs, y1, _, y2⟩ := asL_walkX (asL_app (ex := ex) (hs i hi))
  have x2 := x2 []
  have y2 := y2 []
  rw [List.append_nil] at x2 y2
  refine ⟨_, _, x1, y1, ?_⟩
  rw [tb_zip]
  simp only [List.map_cons, List.map_nil, List.length_cons, List.length_nil, List.reduceReplicate, List.cons_append, List.nil_append, Nat.reduceAdd, Nat.reduceSub, Nat.zero_add, List.set_cons_zero, List.set_cons_succ, wipeE]
  refine tb_sz (by omega) ?_
  refine wp_lcT (k := fun j => dSh (Mn.addq (L i j) (M i j))) (by rw [x2, y2]; rfl) ⟨rfl, rfl⟩ fun j hj => ⟨_, rfl, ?_⟩
  repeat' (first | fail | with_reducible refine wp_sSeq ?_)
  have hs := hL i hi j hj
  have hu := hM i hi j hj
  exact wp_plus (mulOk_le hs.2.1 hu.2.2 (by omega)) (mulOk_le hu.2.1 hs.2.2 (by omega)) (mulOk_le hs.2.2 hu.2.2 (by omega)) (hs.bot hu).1 (NB.le (hs.bot hu).2 hm) ⟨rfl, rfl⟩
theorem wp_takeC {d e : D} {n m k : Nat} {L M : Mn.Mq} {μ : Sto} {Q : D → Sto → Prop} {E : Exs} (n4 : n ≤ 4) (hL : ∀ i, i < n → ∀ j, j < n → Shq m (L i j)) (hM : ∀ i, i < n → ∀ j, j < n → Shq k (M i j)) (hm : m + k < 9000)
    (hd : QM μ d n n L) (he : QM μ e n n M) (q : Q (.cell (μ.length + n)) (rwC μ n fun i j => Mn.subq (L i j) (M i j))) : (f_taken__2 [d, e] μ).wp Q E := by
  have l1 := hd.len
  have l2 := he.len
  obtain ⟨X, hX, hr⟩ := hd
  obtain ⟨Y, hY, hs⟩ := he
  obtain ⟨gd, w1, _, w2⟩ := asL_walkX hX
  obtain ⟨ge, v1, _, v2⟩ := asL_walkX hY
  unfold f_taken__2
  with_reducible refine wp_fn ?_
  simp only [List.map_cons, List.map_nil, List.length_cons, List.length_nil, List.reduceReplicate, List.cons_append, List.nil_append, Nat.reduceAdd, Nat.reduceSub, Nat.zero_add, List.set_cons_zero, List.set_cons_succ, wipeE]
  unfold b_taken__2
  repeat' (first | fail | with_reducible refine wp_sSeq ?_)
  refine wp_likeW l1 l2 (fun _ => ?_) fun z => absurd rfl z
  repeat' (first | fail | with_reducible refine wp_sSeq ?_)
  refine ⟨_, _, w1, v1, ?_⟩
  rw [tb_zip]
  simp only [List.map_cons, List.map_nil, List.length_cons, List.length_nil, List.reduceReplicate, List.cons_append, List.nil_append, Nat.reduceAdd, Nat.reduceSub, Nat.zero_add, List.set_cons_zero, List.set_cons_succ, wipeE]
  refine tb_sz (by omega) ?_
  refine wp_lcRows (k := fun i => tb n fun j => dSh (Mn.subq (L i j) (M i j))) (fun ex => by rw [w2, v2]; rfl) ?_ fun i hi ex => ⟨_, rfl, ?_⟩
  · have el : (μ ++ (List.range n).map fun i => MO.lst (tb n fun j => dSh (Mn.subq (L i j) (M i j)))).length = μ.length + n := by simp
    rw [el]
    exact q
  repeat' (first | fail | with_reducible refine wp_sSeq ?_)
  obtain ⟨gr, x1, _, x2⟩ := asL_walkX (asL_app (ex := ex) (hr i hi))
  obtain ⟨gs, y1, _, y2⟩ := asL_walkX (asL_app (ex := ex) (hs i hi))
  have x2 := x2 []
  have y2 := y2 []
  rw [List.append_nil] at x2 y2
  refine ⟨_, _, x1, y1, ?_⟩
  rw [tb_zip]
  simp only [List.map_cons, List.map_nil, List.length_cons, List.length_nil, List.reduceReplicate, List.cons_append, List.nil_append, Nat.reduceAdd, Nat.reduceSub, Nat.zero_add, List.set_cons_zero, List.set_cons_succ, wipeE]
  refine tb_sz (by omega) ?_
  refine wp_lcT (k := fun j => dSh (Mn.subq (L i j) (M i j))) (by rw [x2, y2]; rfl) ⟨rfl, rfl⟩ fun j hj => ⟨_, rfl, ?_⟩
  repeat' (first | fail | with_reducible refine wp_sSeq ?_)
  have hs := hL i hi j hj
  have hu := hM i hi j hj
  exact wp_less (mulOk_le hs.2.1 hu.2.2 (by omega)) (mulOk_le hu.2.1 hs.2.2 (by omega)) (mulOk_le hs.2.2 hu.2.2 (by omega)) (hs.bot hu).1 (NB.le (hs.bot hu).2 hm) ⟨rfl, rfl⟩
theorem wp_scaleC {d : D} {n m k : Nat} {L : Mn.Mq} {s : Int × Int} {μ : Sto} {Q : D → Sto → Prop} {E : Exs} (n4 : n ≤ 4) (hL : ∀ i, i < n → ∀ j, j < n → Shq m (L i j)) (hu : Shq k s) (hm : m + k < 9000)
    (hd : QM μ d n n L) (q : Q (.cell (μ.length + n)) (rwC μ n fun i j => Mn.mulq (L i j) s)) : (f_scaled__2 [d, dSh s] μ).wp Q E := by
  obtain ⟨X, hX, hr⟩ := hd
  obtain ⟨gd, _, w1, w2⟩ := asL_walkX hX
  unfold f_scaled__2
  with_reducible refine wp_fn ?_
  simp only [List.map_cons, List.map_nil, List.length_cons, List.length_nil, List.reduceReplicate, List.cons_append, List.nil_append, Nat.reduceAdd, Nat.reduceSub, Nat.zero_add, List.set_cons_zero, List.set_cons_succ, wipeE]
  unfold b_scaled__2
  repeat' (first | fail | with_reducible refine wp_sSeq ?_)
  refine ⟨_, w1, ?_⟩
  simp only [List.map_cons, List.map_nil, List.length_cons, List.length_nil, List.reduceReplicate, List.cons_append, List.nil_append, Nat.reduceAdd, Nat.reduceSub, Nat.zero_add, List.set_cons_zero, List.set_cons_succ, wipeE]
  refine tb_sz (by omega) ?_
  refine wp_lcRows (k := fun i => tb n fun j => dSh (Mn.mulq (L i j) s)) w2 ?_ fun i hi ex => ⟨_, rfl, ?_⟩
  · have el : (μ ++ (List.range n).map fun i => MO.lst (tb n fun j => dSh (Mn.mulq (L i j) s))).length = μ.length + n := by simp
    rw [el]
    exact q
  repeat' (first | fail | with_reducible refine wp_sSeq ?_)
  obtain ⟨gr, _, x1, x2⟩ := asL_walkX (asL_app (ex := ex) (hr i hi))
  have x2 := x2 []
  rw [List.append_nil] at x2
  refine ⟨_, x1, ?_⟩
  simp only [List.map_cons, List.map_nil, List.length_cons, List.length_nil, List.reduceReplicate, List.cons_append, List.nil_append, Nat.reduceAdd, Nat.reduceSub, Nat.zero_add, List.set_cons_zero, List.set_cons_succ, wipeE]
  refine tb_sz (by omega) ?_
  refine wp_lcT (k := fun j => dSh (Mn.mulq (L i j) s)) x2 ⟨rfl, rfl⟩ fun j hj => ⟨_, rfl, ?_⟩
  repeat' (first | fail | with_reducible refine wp_sSeq ?_)
  have hs := hL i hi j hj
  exact wp_times (mulOk_le hs.2.1 hu.2.1 (by omega)) (mulOk_le hs.2.2 hu.2.2 (by omega)) (hs.bot hu).1 (NB.le (hs.bot hu).2 hm) ⟨rfl, rfl⟩
end Pf

namespace Pf
open PySem PySem.Spec PyProof.Rows L2 L3
local macro_rules | `(tactic| fail) => `(tactic| first
  | with_reducible refine wp_seqSet ?_
  | with_reducible refine wp_seqAsg ?_
  | with_reducible refine wp_seqPar ?_
  | with_reducible refine wp_seqPar3 ?_
  | with_reducible refine wp_seqFset ?_
  | with_reducible refine wp_seqFaug ?_
  | with_reducible refine wp_sFset ?_
  | with_reducible refine wp_sFaug ?_
  | with_reducible refine wp_meth ?_
  | with_reducible refine wp_make ?_
  | with_reducible refine wp_methX ?_
  | with_reducible refine wp_makeX ?_
  | with_reducible refine wp_sPar3 ?_
  | with_reducible refine three_ok ?_
  | with_reducible refine wp_seqAug ?_
  | with_reducible refine wp_seqExpr ?_
  | with_reducible refine wp_seqSub ?_
  | with_reducible refine wp_seqNil ?_
  | with_reducible refine wp_seqFor ?_
  | with_reducible refine wp_seqWhile ?_
  | with_reducible refine wp_seqStar ?_
  | with_reducible refine wp_seqForK ?_
  | with_reducible refine wp_seqDput ?_
  | with_reducible refine wp_seqMul ?_
  | with_reducible refine wp_sSet ?_
  | with_reducible refine wp_sRet ?_
  | with_reducible refine wp_sNil ?_
  | with_reducible refine wp_sIf ?_
  | with_reducible refine wp_sPar ?_
  | with_reducible refine wp_sAsg ?_
  | with_reducible refine wp_sSub ?_
  | with_reducible refine wp_sFor ?_
  | with_reducible refine wp_sRaise ?_
  | with_reducible refine wp_sExpr ?_
  | with_reducible refine wp_sRetN ?_
  | with_reducible refine wp_sBreak ?_
  | with_reducible refine wp_sCont ?_
  | ((with_reducible refine wp_varE ?_); refine ⟨_, rfl, ?_⟩)
  | with_reducible refine wp_c ?_
  | with_reducible refine wp_B ?_
  | with_reducible refine wp_U ?_
  | with_reducible refine wp_T ?_
  | with_reducible refine wp_andT ?_
  | with_reducible refine wp_orT ?_
  | with_reducible refine wp_notT ?_
  | with_reducible refine wp_andV ?_
  | with_reducible refine wp_orV ?_
  | with_reducible refine wp_notV ?_
  | with_reducible refine wp_if ?_
  | with_reducible refine wp_nil ?_
  | with_reducible refine wp_cons ?_
  | with_reducible refine wp_tup ?_
  | with_reducible refine wp_lst ?_
  | with_reducible refine wp_lstC ?_
  | with_reducible refine wp_call ?_
  | with_reducible refine wp_callD ?_
  | with_reducible refine wp_callB ?_
  | with_reducible refine wp_m ?_
  | with_reducible refine wp_oNone ?_
  | with_reducible refine wp_oSome ?_
  | with_reducible refine wp_sl ?_
  | with_reducible refine wp_tried ?_
  | with_reducible refine wp_asked ?_
  | with_reducible refine wp_seqOut ?_
  | with_reducible refine wp_asks ?_
  | with_reducible refine wp_asksC ?_
  | with_reducible refine wp_asksN ?_
  | with_reducible refine wp_chain ?_
  | with_reducible refine wp_enum ?_
  | with_reducible refine wp_enumB ?_
  | with_reducible refine wp_zip ?_
  | with_reducible refine wp_joinedT ?_
  | with_reducible refine wp_jNil ?_
  | with_reducible refine wp_jT ?_
  | with_reducible refine wp_lc ?_
  | with_reducible refine wp_lcC ?_
  | with_reducible refine wp_yes ?_
  | with_reducible refine wp_iAny ?_
  | with_reducible refine wp_range1 ?_
  | with_reducible refine wp_range2 ?_
  | with_reducible refine wp_sStar ?_
  | with_reducible refine wp_sDput ?_
  | with_reducible refine wp_sMul ?_
  | with_reducible refine wp_mNil ?_
  | with_reducible refine wp_mCons ?_
  | with_reducible refine wp_mSub ?_
  | with_reducible refine wp_mSubD ?_
  | with_reducible refine wp_dget2 ?_
  | with_reducible refine wp_disp ?_
  | with_reducible refine wp_pNil ?_
  | with_reducible refine wp_pCons ?_)
local macro_rules | `(tactic| fail) => `(tactic| first
  | with_reducible refine wp_eqI ?_
  | with_reducible refine wp_neI ?_
  | with_reducible refine wp_eqB ?_
  | with_reducible refine wp_neB ?_
  | ((with_reducible refine wp_eqStr ?_ ?_ ?_); decide +kernel; decide +kernel)
  | ((with_reducible refine wp_neStr ?_ ?_ ?_); decide +kernel; decide +kernel)
  | with_reducible refine wp_addI ?_
  | with_reducible refine wp_addII ?_
  | with_reducible refine wp_subI ?_
  | with_reducible refine wp_ltI ?_
  | with_reducible refine wp_leI ?_
  | with_reducible refine wp_gtI ?_
  | with_reducible refine wp_geI ?_
  | with_reducible refine wp_negI ?_
  | with_reducible refine wp_intI ?_
  | with_reducible refine wp_intB ?_
  | with_reducible refine wp_absI ?_
  | with_reducible refine wp_un ?_
  | ((with_reducible refine wp_mul ?_ ?_); first | exact mulOk_right (by decide) | exact mulOk_left (by decide) | exact mulOk_mod (by decide) (by decide))
  | ((with_reducible refine wp_mod ?_ ?_); decide)
  | ((with_reducible refine wp_fdiv ?_ ?_ ?_); decide; exact pylong_200 (by decide))
  | with_reducible refine wp_pow18 ?_
  | with_reducible refine wp_pow12 ?_
  | with_reducible refine wp_pow40 ?_
  | ((with_reducible refine wp_ixE ?_); refine ⟨_, rfl, ?_⟩)
  | with_reducible refine wp_len0 ?_
  | with_reducible refine wp_len1 ?_
  | with_reducible refine wp_len2 ?_
  | with_reducible refine wp_len3 ?_
  | with_reducible refine wp_lenT1 ?_
  | with_reducible refine wp_lenT2 ?_
  | with_reducible refine wp_lenT3 ?_
  | ((with_reducible refine wp_lenE ?_); refine ⟨_, rfl, ?_⟩)
  | ((with_reducible refine wp_listOfE ?_); refine ⟨_, rfl, ?_⟩)
  | ((with_reducible refine wp_isiE ?_); refine ⟨_, rfl, ?_⟩)
  | ((with_reducible refine wp_isNE ?_); refine ⟨_, rfl, ?_⟩)
  | ((with_reducible refine wp_notNE ?_); refine ⟨_, rfl, ?_⟩)
  | ((with_reducible refine wp_slE ?_); refine ⟨_, rfl, ?_⟩)
  | ((with_reducible refine sub_okE ?_); refine ⟨_, rfl, ?_⟩)
  | with_reducible refine Exists.intro _ (And.intro rfl ?_)
  | with_reducible refine Exists.intro _ (Exists.intro _ (And.intro rfl ?_))
  | ((with_reducible refine len_eq ?_ ?_); exact rfl)
  | ((with_reducible refine rng_ok ?_ ?_); omega)
  | ((with_reducible refine rng2_ok ?_ ?_); omega)
  | ((with_reducible refine rngD_len ?_ ?_); omega)
  | ((with_reducible refine len_100 ?_ ?_); exact Nat.le_of_ble_eq_true rfl)
  | ((with_reducible refine isTy_ok ?_ ?_); exact rfl)
  | ((with_reducible refine br_t ?_ ?_); first | with_reducible exact rfl | decide)
  | ((with_reducible refine br_f ?_ ?_); first | with_reducible exact rfl | decide)
  | with_reducible refine br_d (fun _ => ?_) (fun _ => ?_)
  | with_reducible refine br_n (fun _ => ?_) (fun _ => ?_))
theorem wp_lgridD {g : MO} {m : Sto} {n : Nat} {Q : D → Sto → Prop} {E : Exs} (h : Bg g) (n4 : n ≤ 4) (q : ∀ L g', Bg g' → (∀ i j, Le 1 (L i j)) → Q (qM n n L) (g' :: m)) : (f__law_grid [.cell 0, .int (n : Nat)] (g :: m)).wp Q E := by
  unfold f__law_grid
  with_reducible refine wp_fn ?_
  simp only [List.map_cons, List.map_nil, List.length_cons, List.length_nil, List.reduceReplicate, List.cons_append, List.nil_append, Nat.reduceAdd, Nat.reduceSub, Nat.zero_add, List.set_cons_zero, List.set_cons_succ, wipeE]
  unfold b__law_grid
  repeat' (first | fail | with_reducible refine wp_sSeq ?_)
  simp only [List.map_cons, List.map_nil, List.length_cons, List.length_nil, List.reduceReplicate, List.cons_append, List.nil_append, Nat.reduceAdd, Nat.reduceSub, Nat.zero_add, List.set_cons_zero, List.set_cons_succ, wipeE]
  refine wp_lcR (fun ys i μ' => ∃ g' L, Bg g' ∧ (∀ a b, Le 1 (L a b)) ∧ μ' = g' :: m ∧ ys = tb i fun a => qRow n (L a)) ⟨g, fun _ _ => (0, 1), h, fun _ _ => Le.nought 1, rfl, rfl⟩ (fun ys μ' z => ?_) fun ys i μ' hi z => ?_
  · obtain ⟨g', L, hg, hL, rfl, rfl⟩ := z
    rw [Int.toNat_natCast]
    exact q L g' hg hL
  · obtain ⟨g', L, hg, hL, rfl, rfl⟩ := z
    refine ⟨_, rfl, ?_⟩
    refine wp_yes ?_
    refine ⟨fun _ => ?_, fun z => nomatch z⟩
    repeat' (first | fail | with_reducible refine wp_sSeq ?_)
    simp only [List.map_cons, List.map_nil, List.length_cons, List.length_nil, List.reduceReplicate, List.cons_append, List.nil_append, Nat.reduceAdd, Nat.reduceSub, Nat.zero_add, List.set_cons_zero, List.set_cons_succ, wipeE]
    refine wp_lcR (fun ys j μ' => ∃ g' f, Bg g' ∧ μ' = g' :: m ∧ (∀ b, Le 1 (f b)) ∧ ys = tb j fun b => dSh (f b)) ⟨g', fun _ => (0, 1), hg, rfl, fun _ => Le.nought 1, rfl⟩ (fun ys μ' z => ?_) fun ys j μ' hj z => ?_
    · obtain ⟨g2, f, hg2, rfl, hf, rfl⟩ := z
      refine ⟨g2, fun a b => if a = i then f b else L a b, hg2, fun a b => by dsimp only; split; exact hf b; exact hL a b, rfl, ?_⟩
      rw [Int.toNat_natCast]
      unfold tb
      rw [List.range_succ, List.map_append]
      congr 1
      · refine List.map_congr_left fun a ha => ?_
        have := List.mem_range.mp ha
        refine congrArg D.lst (tb_congr fun b _ => ?_)
        dsimp only
        rw [if_neg (by omega)]
      · refine congrArg (fun z => [D.lst z]) (tb_congr fun b _ => ?_)
        dsimp only
        rw [if_pos rfl]
    · obtain ⟨g2, f, hg2, rfl, hf, rfl⟩ := z
      refine ⟨_, rfl, ?_⟩
      refine wp_yes ?_
      refine ⟨fun _ => ?_, fun z => nomatch z⟩
      repeat' (first | fail | with_reducible refine wp_sSeq ?_)
      refine wp_light hg2 fun t b g3 h1 h2 h3 h4 hg3 => ?_
      repeat' (first | fail | with_reducible refine wp_sSeq ?_)
      refine ⟨g3, fun b' => if b' = j then frI t b else f b', hg3, rfl, fun b' => by dsimp only; split; exact Le.light h1 h2 h3 h4; exact hf b', ?_⟩
      unfold tb
      rw [List.range_succ, List.map_append]
      congr 1
      · refine List.map_congr_left fun a ha => ?_
        have := List.mem_range.mp ha
        dsimp only
        rw [if_neg (by omega)]
      · show [_] = [dSh (if j = j then _ else _)]
        rw [if_pos rfl]
/-- a share put in anywhere -/
theorem QC.putA {m : Sto} {k n c0 x y : Nat} {L : Nat → Nat → Int × Int} {cs : List Nat} {s : Int × Int} (h : QC m k n L cs) (hc : cs[x]? = some c0) (hy : y < n) :
    QC (m.set c0 (MO.lst ((tb n fun j => dSh (L x j)).set y (dSh s)))) k n (fun i j => if i = x ∧ j = y then s else L i j) cs := by
  have kc := List.mem_of_getElem? hc
  refine ⟨by rw [List.getElem?_set_ne (fun z => h.ne (by rw [← z]; exact kc))]; exact h.at_, h.len, h.nd, h.ne, fun i c e => ?_⟩
  by_cases ci : i = x
  · subst ci
    rw [hc] at e
    cases e
    rw [List.getElem?_set_self (h.lt _ kc), tb_set]
    refine congrArg (fun z => some (MO.lst z)) (tb_congr fun j hj => ?_)
    by_cases cj : j = y
    · rw [if_pos cj, if_pos ⟨rfl, cj⟩]
    · rw [if_neg cj, if_neg (fun z => cj z.2)]
  · have nc : c ≠ c0 := fun z => by
      subst z
      exact ci (h.nd i x c e hc)
    rw [List.getElem?_set_ne (Ne.symm nc), h.row i c e]
    refine congrArg (fun z => some (MO.lst z)) (tb_congr fun j hj => ?_)
    rw [if_neg (fun z => ci z.1)]
/-- what stands further down stays so -/
theorem QC.same {m m' : Sto} {k n : Nat} {L : Mn.Mq} {cs : List Nat} (h : QC m k n L cs) (e : ∀ i, i < m.length → m'[i]? = m[i]?) : QC m' k n L cs :=
  ⟨by rw [e _ (List.getElem?_eq_some_iff.mp h.at_).1]; exact h.at_, h.len, h.nd, h.ne, fun i c hc => by rw [e _ (h.lt c (List.mem_of_getElem? hc))]; exact h.row i c hc⟩
/-- lists of nothing but shares that two things agree in -/
inductive All2 (R : D → D → Prop) : List D → List D → Prop
  | nil : All2 R [] []
  | cons {x y : D} {xs ys : List D} (h : R x y) (r : All2 R xs ys) : All2 R (x :: xs) (y :: ys)
theorem All2.len {R : D → D → Prop} {xs ys : List D} (h : All2 R xs ys) : xs.length = ys.length := by
  induction h with
  | nil => rfl
  | cons _ _ ih => simp [ih]
theorem All2.get {R : D → D → Prop} {xs ys : List D} (h : All2 R xs ys) : ∀ (i : Nat) (x y : D), xs[i]? = some x → ys[i]? = some y → R x y := by
  induction h with
  | nil => intro i x y hx; simp at hx
  | cons h _ ih =>
    intro i x y hx hy
    cases i with
    | zero => simp at hx hy; subst hx hy; exact h
    | succ i => exact ih i x y (by simpa using hx) (by simpa using hy)
theorem Eqs.of2 {μ : Sto} {n : Nat} {d : D} {xs ys : List D} (h : asL μ d = some xs) (a : All2 (Eqs μ n) xs ys) (l : ys.length ≤ 16777216) : Eqs μ (n + 1) d (.lst ys) := .lst h rfl a.len l a.get
theorem Pu.sh2 {s : Int × Int} {n : Nat} : Pu (n + 2) (dSh s) := Pu.le (n := 2) (.tup (by simp) (Pu.cons (.int _) (Pu.cons (.int _) Pu.nil))) (by omega)
theorem QM.eqs {μ : Sto} {d : D} {r w n : Nat} {L : Mn.Mq} (h : QM μ d r w L) (hr : r ≤ 100) (hw : w ≤ 100) : Eqs μ (n + 4) d (qM r w L) := by
  obtain ⟨X, h1, h2⟩ := h
  refine .lst h1 rfl (by rw [tb_len, tb_len]) (by rw [tb_len]; omega) fun i x y hx hy => ?_
  have hi : i < r := by
    have := (List.getElem?_eq_some_iff.mp hx).1
    rw [tb_len] at this; exact this
  rw [tb_get hi] at hx hy
  cases hx
  cases hy
  refine .lst (h2 i hi) rfl rfl (by rw [tb_len]; omega) fun j x y hx hy => ?_
  rw [hx] at hy
  cases hy
  have hj : j < w := by
    have := (List.getElem?_eq_some_iff.mp hx).1
    rw [tb_len] at this; exact this
  rw [tb_get hj] at hx
  cases hx
  exact .pu Pu.sh2
/-! corners -/
abbrev zr (n : Nat) : List D := tb n fun _ => dSh (0, 1)
abbrev wid (n f : Nat) (L T : Mn.Mq) : D := .lst ((tb n fun i => .lst ((tb n fun j => dSh (L i j)) ++ zr f)) ++ tb f fun i => .lst (zr n ++ tb f fun j => dSh (T i j)))
theorem noughts_zr (n : Nat) : (List.replicate n [D.tup [.int 0, .int 1]]).flatten = zr n := by
  induction n with
  | zero => rfl
  | succ n ih =>
    rw [List.replicate_succ', List.flatten_append, ih]
    unfold zr tb
    rw [List.range_succ, List.map_append]
    rfl
theorem wp_mulL {a : D} {xs : List D} {k : Nat} {μ : Sto} {Q : D → Sto → Prop} {E : Exs} (ha : asL μ a = some xs := by rfl) (h : k ≤ 100) (l : xs.length ≤ 100) (q : Q (.lst (List.replicate k xs).flatten) μ) : (dMul a (.int (k : Nat)) μ).wp Q E := by
  have c : -(2 ^ 63) ≤ ((k : Nat) : Int) ∧ ((k : Nat) : Int) < 2 ^ 63 ∧ xs.length * ((k : Nat) : Int).toNat ≤ sizeLine := by
    refine ⟨by omega, by omega, ?_⟩
    rw [Int.toNat_natCast, sizeLine_eq]
    have := Nat.mul_le_mul l h
    omega
  have e : dMul a (.int (k : Nat)) μ = .ok (.lst (List.replicate k xs).flatten) μ := by
    cases a with
    | int i => cases ha
    | _ =>
      unfold dMul
      dsimp only
      rw [ha]
      dsimp only
      rw [if_pos c, Int.toNat_natCast]
  rw [e]
  exact q
theorem wp_addA {a b : D} {xs ys : List D} {μ : Sto} {Q : D → Sto → Prop} {E : Exs} (ha : asL μ a = some xs) (hb : asL μ b = some ys) (l : xs.length + ys.length ≤ 16777216) (q : Q (.lst (xs ++ ys)) μ) : (dAdd a b μ).wp Q E := by
  have c : xs.length + ys.length ≤ sizeLine := by rw [sizeLine_eq]; exact l
  have go : dAdd a b μ = (match asL μ a, asL μ b with
      | some xs, some ys => if xs.length + ys.length ≤ sizeLine then .ok (.lst (xs ++ ys)) μ else .bad
      | _, _ => .bad) := by
    cases a with
    | lst _ => cases b <;> rfl
    | cell _ => cases b <;> rfl
    | _ => cases ha
  rw [go, ha, hb]
  dsimp only
  rw [if_pos c]
  exact q
theorem wp_corners {d e : D} {n f : Nat} {L T : Mn.Mq} {μ : Sto} {Q : D → Sto → Prop} {E : Exs} (n4 : n ≤ 4) (f4 : f ≤ 4) (hd : QM μ d n n L) (he : QM μ e f f T) (q : Q (wid n f L T) μ) : (f_corners [d, e] μ).wp Q E := by
  have l1 := hd.len
  have l2 := he.len
  obtain ⟨X, hX, hr⟩ := hd
  obtain ⟨Y, hY, hs⟩ := he
  obtain ⟨gd, w1, w2⟩ := asL_walkD hX
  obtain ⟨ge, v1, v2⟩ := asL_walkD hY
  have al : ∀ ν : Sto, asL ν (.lst [.tup [.int 0, .int 1]]) = some [.tup [.int 0, .int 1]] := fun _ => rfl
  unfold f_corners
  with_reducible refine wp_fn ?_
  simp only [List.map_cons, List.map_nil, List.length_cons, List.length_nil, List.reduceReplicate, List.cons_append, List.nil_append, Nat.reduceAdd, Nat.reduceSub, Nat.zero_add, List.set_cons_zero, List.set_cons_succ, wipeE]
  unfold b_corners
  repeat' (first | fail | with_reducible refine wp_sSeq ?_)
  refine wp_len l1 ?_
  repeat' (first | fail | with_reducible refine wp_sSeq ?_)
  refine wp_len l2 ?_
  repeat' (first | fail | with_reducible refine wp_sSeq ?_)
  refine ⟨_, w1, ?_⟩
  simp only [List.map_cons, List.map_nil, List.length_cons, List.length_nil, List.reduceReplicate, List.cons_append, List.nil_append, Nat.reduceAdd, Nat.reduceSub, Nat.zero_add, List.set_cons_zero, List.set_cons_succ, wipeE]
  refine tb_sz (by omega) ?_
  refine wp_lcT (k := fun i => .lst ((tb n fun j => dSh (L i j)) ++ zr f)) w2 ?_ fun i hi => ⟨_, rfl, ?_⟩
  · repeat' (first | fail | with_reducible refine wp_sSeq ?_)
    refine ⟨_, v1, ?_⟩
    simp only [List.map_cons, List.map_nil, List.length_cons, List.length_nil, List.reduceReplicate, List.cons_append, List.nil_append, Nat.reduceAdd, Nat.reduceSub, Nat.zero_add, List.set_cons_zero, List.set_cons_succ, wipeE]
    refine tb_sz (by omega) ?_
    refine wp_lcT (k := fun i => .lst (zr n ++ tb f fun j => dSh (T i j))) v2 ?_ fun i hi => ⟨_, rfl, ?_⟩
    · repeat' (first | fail | with_reducible refine wp_sSeq ?_)
      refine wp_addL (by simp; omega) ?_
      exact q
    · repeat' (first | fail | with_reducible refine wp_sSeq ?_)
      with_reducible refine wp_mulL (al _) (by omega) (by rw [List.length_singleton]; omega) ?_
      rw [noughts_zr]
      repeat' (first | fail | with_reducible refine wp_sSeq ?_)
      refine wp_listOfA (hs i hi) ?_
      repeat' (first | fail | with_reducible refine wp_sSeq ?_)
      refine wp_addL (by simp; omega) ?_
      exact ⟨rfl, rfl⟩
  · repeat' (first | fail | with_reducible refine wp_sSeq ?_)
    refine wp_listOfA (hr i hi) ?_
    repeat' (first | fail | with_reducible refine wp_sSeq ?_)
    with_reducible refine wp_mulL (al _) (by omega) (by rw [List.length_singleton]; omega) ?_
    rw [noughts_zr]
    repeat' (first | fail | with_reducible refine wp_sSeq ?_)
    refine wp_addL (by simp; omega) ?_
    exact ⟨rfl, rfl⟩
theorem wid_pu {n f : Nat} {L T : Mn.Mq} (n4 : n ≤ 4) (f4 : f ≤ 4) : Pu 4 (wid n f L T) := by
  have row : ∀ xs : List D, xs.length ≤ 100 → (∀ x ∈ xs, ∃ s, x = dSh s) → Pu 3 (.lst xs) := fun xs hl h => .lst (by omega) fun x hx => by
    obtain ⟨s, rfl⟩ := h x hx
    exact Pu.sh2 (n := 0)
  have sh : ∀ (k : Nat) (F : Nat → Int × Int), ∀ x ∈ (tb k fun j => dSh (F j)), ∃ s, x = dSh s := fun k F x hx => by
    obtain ⟨j, _, rfl⟩ := List.mem_map.mp hx
    exact ⟨_, rfl⟩
  refine .lst (by simp; omega) fun x hx => ?_
  rcases List.mem_append.mp hx with hx | hx
  · obtain ⟨i, _, rfl⟩ := List.mem_map.mp hx
    exact row _ (by simp; omega) fun x hx => (List.mem_append.mp hx).elim (sh _ _ x) (sh _ _ x)
  · obtain ⟨i, _, rfl⟩ := List.mem_map.mp hx
    exact row _ (by simp; omega) fun x hx => (List.mem_append.mp hx).elim (sh _ _ x) (sh _ _ x)
theorem wp_unfit {d e : D} {r s : Nat} {μ : Sto} (h1 : dLen d μ = .ok (.int (r : Nat)) μ) (h2 : dLen e μ = .ok (.int (s : Nat)) μ) (ne : r ≠ s) {E : Exs} (no : E "Unfit" ["word"] [.str "Unfit"] μ) {Q : D → Sto → Prop} : (f_added [d, e] μ).wp Q E ∧ (f_taken [d, e] μ).wp Q E ∧ (f_product [d, e] μ).wp Q E := by
  refine ⟨?_, ?_, ?_⟩
  · unfold f_added
    with_reducible refine wp_fn ?_
    simp only [List.map_cons, List.map_nil, List.length_cons, List.length_nil, List.reduceReplicate, List.cons_append, List.nil_append, Nat.reduceAdd, Nat.reduceSub, Nat.zero_add, List.set_cons_zero, List.set_cons_succ, wipeE]
    unfold b_added
    repeat' (first | fail | with_reducible refine wp_sSeq ?_)
    exact wp_likeW h1 h2 (fun z => absurd z ne) fun _ => no
  · unfold f_taken
    with_reducible refine wp_fn ?_
    simp only [List.map_cons, List.map_nil, List.length_cons, List.length_nil, List.reduceReplicate, List.cons_append, List.nil_append, Nat.reduceAdd, Nat.reduceSub, Nat.zero_add, List.set_cons_zero, List.set_cons_succ, wipeE]
    unfold b_taken
    repeat' (first | fail | with_reducible refine wp_sSeq ?_)
    exact wp_likeW h1 h2 (fun z => absurd z ne) fun _ => no
  · unfold f_product
    with_reducible refine wp_fn ?_
    simp only [List.map_cons, List.map_nil, List.length_cons, List.length_nil, List.reduceReplicate, List.cons_append, List.nil_append, Nat.reduceAdd, Nat.reduceSub, Nat.zero_add, List.set_cons_zero, List.set_cons_succ, wipeE]
    unfold b_product
    repeat' (first | fail | with_reducible refine wp_sSeq ?_)
    exact wp_likeW h1 h2 (fun z => absurd z ne) fun _ => no
theorem wp_ltaddW {d e : D} {n m k : Nat} {L M : Mn.Mq} {μ : Sto} {Q : D → Sto → Prop} {E : Exs} (n4 : n ≤ 4) (hL : ∀ i, i < n → ∀ j, j < n → Shq m (L i j)) (hM : ∀ i, i < n → ∀ j, j < n → Shq k (M i j)) (hm : m + k < 9000)
    (hd : QM μ d n n L) (he : QM μ e n n M) (q : Q (qM n n (Mn.addM L M)) μ) : (f__law_tadd [d, e] μ).wp Q E := by
  obtain ⟨X, hX, hr⟩ := hd
  obtain ⟨Y, hY, hs⟩ := he
  unfold f__law_tadd
  with_reducible refine wp_fn ?_
  simp only [List.map_cons, List.map_nil, List.length_cons, List.length_nil, List.reduceReplicate, List.cons_append, List.nil_append, Nat.reduceAdd, Nat.reduceSub, Nat.zero_add, List.set_cons_zero, List.set_cons_succ, wipeE]
  unfold b__law_tadd
  obtain ⟨gd, w1, w2⟩ := asL_walkL hX
  obtain ⟨ge, v1, v2⟩ := asL_walkL hY
  repeat' (first | fail | with_reducible refine wp_sSeq ?_)
  refine ⟨_, _, w1, v1, ?_⟩
  rw [tb_zip]
  simp only [List.map_cons, List.map_nil, List.length_cons, List.length_nil, List.reduceReplicate, List.cons_append, List.nil_append, Nat.reduceAdd, Nat.reduceSub, Nat.zero_add, List.set_cons_zero, List.set_cons_succ, wipeE]
  refine tb_sz (by omega) ?_
  refine wp_lcT (k := fun i => qRow n fun j => Mn.addq (L i j) (M i j)) (by rw [w2, v2]; rfl) q fun i hi => ⟨_, rfl, ?_⟩
  repeat' (first | fail | with_reducible refine wp_sSeq ?_)
  obtain ⟨gr, x1, x2⟩ := asL_walkL (hr i hi)
  obtain ⟨gs, y1, y2⟩ := asL_walkL (hs i hi)
  refine ⟨_, _, x1, y1, ?_⟩
  rw [tb_zip]
  simp only [List.map_cons, List.map_nil, List.length_cons, List.length_nil, List.reduceReplicate, List.cons_append, List.nil_append, Nat.reduceAdd, Nat.reduceSub, Nat.zero_add, List.set_cons_zero, List.set_cons_succ, wipeE]
  refine tb_sz (by omega) ?_
  refine wp_lcT (k := fun j => dSh (Mn.addq (L i j) (M i j))) (by rw [x2, y2]; rfl) ⟨rfl, rfl⟩ fun j hj => ⟨_, rfl, ?_⟩
  repeat' (first | fail | with_reducible refine wp_sSeq ?_)
  exact wp_qadd (hL i hi j hj) (hM i hi j hj) hm ⟨rfl, rfl⟩
theorem wp_ltscaleW {d : D} {n m k : Nat} {L : Mn.Mq} {s : Int × Int} {μ : Sto} {Q : D → Sto → Prop} {E : Exs} (hn : n ≤ 4) (hd : QM μ d n n L) (hL : ∀ i, i < n → ∀ j, j < n → Shq m (L i j)) (hs : Shq k s) (h : m + k < 9000)
    (q : Q (qM n n fun i j => Mn.mulq (L i j) s) μ) : (f__law_tscale [d, dSh s] μ).wp Q E := by
  obtain ⟨X, hX, hr⟩ := hd
  unfold f__law_tscale
  with_reducible refine wp_fn ?_
  simp only [List.map_cons, List.map_nil, List.length_cons, List.length_nil, List.reduceReplicate, List.cons_append, List.nil_append, Nat.reduceAdd, Nat.reduceSub, Nat.zero_add, List.set_cons_zero, List.set_cons_succ, wipeE]
  unfold b__law_tscale
  obtain ⟨gd, w1, w2⟩ := asL_walkD hX
  repeat' (first | fail | with_reducible refine wp_sSeq ?_)
  refine ⟨_, w1, ?_⟩
  simp only [List.map_cons, List.map_nil, List.length_cons, List.length_nil, List.reduceReplicate, List.cons_append, List.nil_append, Nat.reduceAdd, Nat.reduceSub, Nat.zero_add, List.set_cons_zero, List.set_cons_succ, wipeE]
  refine tb_sz (by omega) ?_
  refine wp_lcT (k := fun i => qRow n fun j => Mn.mulq (L i j) s) w2 q fun i hi => ⟨_, rfl, ?_⟩
  repeat' (first | fail | with_reducible refine wp_sSeq ?_)
  obtain ⟨gr, x1, x2⟩ := asL_walkD (hr i hi)
  refine ⟨_, x1, ?_⟩
  simp only [List.map_cons, List.map_nil, List.length_cons, List.length_nil, List.reduceReplicate, List.cons_append, List.nil_append, Nat.reduceAdd, Nat.reduceSub, Nat.zero_add, List.set_cons_zero, List.set_cons_succ, wipeE]
  refine tb_sz (by omega) ?_
  refine wp_lcT (k := fun j => dSh (Mn.mulq (L i j) s)) x2 ⟨rfl, rfl⟩ fun j hj => ⟨_, rfl, ?_⟩
  repeat' (first | fail | with_reducible refine wp_sSeq ?_)
  exact wp_qmul (hL i hi j hj) hs h ⟨rfl, rfl⟩
theorem wp_tupA {d : D} {xs : List D} {μ : Sto} {Q : D → Sto → Prop} {E : Exs} (h : asL μ d = some xs) (q : Q (.tup xs) μ) : (dTupOf d μ).wp Q E := by
  have e : dTupOf d μ = .ok (.tup xs) μ := by
    cases d with
    | lst _ => cases h; rfl
    | cell k =>
      show (match asS μ (.cell k) with
        | some ds => R.ok (D.tup ds) μ
        | none => .bad) = _
      rw [show asS μ (.cell k) = some xs from h]
    | _ => cases h
  rw [e]
  exact q
end Pf

namespace Pf
open PySem PySem.Spec PyProof.Rows L2 L3
local macro_rules | `(tactic| fail) => `(tactic| first
  | with_reducible refine wp_seqSet ?_
  | with_reducible refine wp_seqAsg ?_
  | with_reducible refine wp_seqPar ?_
  | with_reducible refine wp_seqPar3 ?_
  | with_reducible refine wp_seqFset ?_
  | with_reducible refine wp_seqFaug ?_
  | with_reducible refine wp_sFset ?_
  | with_reducible refine wp_sFaug ?_
  | with_reducible refine wp_meth ?_
  | with_reducible refine wp_make ?_
  | with_reducible refine wp_methX ?_
  | with_reducible refine wp_makeX ?_
  | with_reducible refine wp_sPar3 ?_
  | with_reducible refine three_ok ?_
  | with_reducible refine wp_seqAug ?_
  | with_reducible refine wp_seqExpr ?_
  | with_reducible refine wp_seqSub ?_
  | with_reducible refine wp_seqNil ?_
  | with_reducible refine wp_seqFor ?_
  | with_reducible refine wp_seqWhile ?_
  | with_reducible refine wp_seqStar ?_
  | with_reducible refine wp_seqForK ?_
  | with_reducible refine wp_seqDput ?_
  | with_reducible refine wp_seqMul ?_
  | with_reducible refine wp_sSet ?_
  | with_reducible refine wp_sRet ?_
  | with_reducible refine wp_sNil ?_
  | with_reducible refine wp_sIf ?_
  | with_reducible refine wp_sPar ?_
  | with_reducible refine wp_sAsg ?_
  | with_reducible refine wp_sSub ?_
  | with_reducible refine wp_sFor ?_
  | with_reducible refine wp_sRaise ?_
  | with_reducible refine wp_sExpr ?_
  | with_reducible refine wp_sRetN ?_
  | with_reducible refine wp_sBreak ?_
  | with_reducible refine wp_sCont ?_
  | ((with_reducible refine wp_varE ?_); refine ⟨_, rfl, ?_⟩)
  | with_reducible refine wp_c ?_
  | with_reducible refine wp_B ?_
  | with_reducible refine wp_U ?_
  | with_reducible refine wp_T ?_
  | with_reducible refine wp_andT ?_
  | with_reducible refine wp_orT ?_
  | with_reducible refine wp_notT ?_
  | with_reducible refine wp_andV ?_
  | with_reducible refine wp_orV ?_
  | with_reducible refine wp_notV ?_
  | with_reducible refine wp_if ?_
  | with_reducible refine wp_nil ?_
  | with_reducible refine wp_cons ?_
  | with_reducible refine wp_tup ?_
  | with_reducible refine wp_lst ?_
  | with_reducible refine wp_lstC ?_
  | with_reducible refine wp_call ?_
  | with_reducible refine wp_callD ?_
  | with_reducible refine wp_callB ?_
  | with_reducible refine wp_m ?_
  | with_reducible refine wp_oNone ?_
  | with_reducible refine wp_oSome ?_
  | with_reducible refine wp_sl ?_
  | with_reducible refine wp_tried ?_
  | with_reducible refine wp_asked ?_
  | with_reducible refine wp_seqOut ?_
  | with_reducible refine wp_asks ?_
  | with_reducible refine wp_asksC ?_
  | with_reducible refine wp_asksN ?_
  | with_reducible refine wp_chain ?_
  | with_reducible refine wp_enum ?_
  | with_reducible refine wp_enumB ?_
  | with_reducible refine wp_zip ?_
  | with_reducible refine wp_joinedT ?_
  | with_reducible refine wp_jNil ?_
  | with_reducible refine wp_jT ?_
  | with_reducible refine wp_lc ?_
  | with_reducible refine wp_lcC ?_
  | with_reducible refine wp_yes ?_
  | with_reducible refine wp_iAny ?_
  | with_reducible refine wp_range1 ?_
  | with_reducible refine wp_range2 ?_
  | with_reducible refine wp_sStar ?_
  | with_reducible refine wp_sDput ?_
  | with_reducible refine wp_sMul ?_
  | with_reducible refine wp_mNil ?_
  | with_reducible refine wp_mCons ?_
  | with_reducible refine wp_mSub ?_
  | with_reducible refine wp_mSubD ?_
  | with_reducible refine wp_dget2 ?_
  | with_reducible refine wp_disp ?_
  | with_reducible refine wp_pNil ?_
  | with_reducible refine wp_pCons ?_)
local macro_rules | `(tactic| fail) => `(tactic| first
  | with_reducible refine wp_eqI ?_
  | with_reducible refine wp_neI ?_
  | with_reducible refine wp_eqB ?_
  | with_reducible refine wp_neB ?_
  | ((with_reducible refine wp_eqStr ?_ ?_ ?_); decide +kernel; decide +kernel)
  | ((with_reducible refine wp_neStr ?_ ?_ ?_); decide +kernel; decide +kernel)
  | with_reducible refine wp_addI ?_
  | with_reducible refine wp_addII ?_
  | with_reducible refine wp_subI ?_
  | with_reducible refine wp_ltI ?_
  | with_reducible refine wp_leI ?_
  | with_reducible refine wp_gtI ?_
  | with_reducible refine wp_geI ?_
  | with_reducible refine wp_negI ?_
  | with_reducible refine wp_intI ?_
  | with_reducible refine wp_intB ?_
  | with_reducible refine wp_absI ?_
  | with_reducible refine wp_un ?_
  | ((with_reducible refine wp_mul ?_ ?_); first | exact mulOk_right (by decide) | exact mulOk_left (by decide) | exact mulOk_mod (by decide) (by decide))
  | ((with_reducible refine wp_mod ?_ ?_); decide)
  | ((with_reducible refine wp_fdiv ?_ ?_ ?_); decide; exact pylong_200 (by decide))
  | with_reducible refine wp_pow18 ?_
  | with_reducible refine wp_pow12 ?_
  | with_reducible refine wp_pow40 ?_
  | ((with_reducible refine wp_ixE ?_); refine ⟨_, rfl, ?_⟩)
  | with_reducible refine wp_len0 ?_
  | with_reducible refine wp_len1 ?_
  | with_reducible refine wp_len2 ?_
  | with_reducible refine wp_len3 ?_
  | with_reducible refine wp_lenT1 ?_
  | with_reducible refine wp_lenT2 ?_
  | with_reducible refine wp_lenT3 ?_
  | ((with_reducible refine wp_lenE ?_); refine ⟨_, rfl, ?_⟩)
  | ((with_reducible refine wp_listOfE ?_); refine ⟨_, rfl, ?_⟩)
  | ((with_reducible refine wp_isiE ?_); refine ⟨_, rfl, ?_⟩)
  | ((with_reducible refine wp_isNE ?_); refine ⟨_, rfl, ?_⟩)
  | ((with_reducible refine wp_notNE ?_); refine ⟨_, rfl, ?_⟩)
  | ((with_reducible refine wp_slE ?_); refine ⟨_, rfl, ?_⟩)
  | ((with_reducible refine sub_okE ?_); refine ⟨_, rfl, ?_⟩)
  | with_reducible refine Exists.intro _ (And.intro rfl ?_)
  | with_reducible refine Exists.intro _ (Exists.intro _ (And.intro rfl ?_))
  | ((with_reducible refine len_eq ?_ ?_); exact rfl)
  | ((with_reducible refine rng_ok ?_ ?_); omega)
  | ((with_reducible refine rng2_ok ?_ ?_); omega)
  | ((with_reducible refine rngD_len ?_ ?_); omega)
  | ((with_reducible refine len_100 ?_ ?_); exact Nat.le_of_ble_eq_true rfl)
  | ((with_reducible refine isTy_ok ?_ ?_); exact rfl)
  | ((with_reducible refine br_t ?_ ?_); first | with_reducible exact rfl | decide)
  | ((with_reducible refine br_f ?_ ?_); first | with_reducible exact rfl | decide)
  | with_reducible refine br_d (fun _ => ?_) (fun _ => ?_)
  | with_reducible refine br_n (fun _ => ?_) (fun _ => ?_))
theorem rwC_up {μ : Sto} {n i : Nat} {L : Mn.Mq} {x : MO} (h : μ[i]? = some x) : (rwC μ n L)[i]? = some x := by
  unfold rwC
  rw [List.append_assoc, List.getElem?_append_left (List.getElem?_eq_some_iff.mp h).1]; exact h
theorem app_up {μ ex : Sto} {i : Nat} {x : MO} (h : μ[i]? = some x) : (μ ++ ex)[i]? = some x := by
  rw [List.getElem?_append_left (List.getElem?_eq_some_iff.mp h).1]; exact h
/-- tables in a list, their first rows: what a loop that writes into them leans on -/
structure Wk (μ0 μ : Sto) (p : Nat) (ts cs : List Nat) (b : Nat) : Prop where
  same : ∀ i, i < μ0.length → μ[i]? = μ0[i]?
  at_ : μ[p]? = some (.lst (ts.map D.cell))
  tbs : ∀ t ∈ ts, ∃ c ∈ cs, ∃ rest, μ[t]? = some (.lst (.cell c :: rest)) ∧ rest.length ≤ b
  rw : ∀ c ∈ cs, ∃ d ds, μ[c]? = some (.lst (d :: ds))
  lo : ∀ i ∈ ts ++ cs, μ0.length ≤ i
  ap : ∀ t ∈ ts, t ∉ cs
  np : p ∉ ts ∧ p ∉ cs
theorem Wk.step {μ0 μ : Sto} {p t b : Nat} {ts cs : List Nat} (h : Wk μ0 μ p ts cs b) (ht : t ∈ ts) : ∃ c rest d ds, μ[t]? = some (.lst (.cell c :: rest)) ∧ μ[c]? = some (.lst (d :: ds)) ∧ rest.length ≤ b ∧ c ≠ t ∧
    ∀ x y, Wk μ0 ((μ.set c (.lst (x :: ds))).set t (.lst (.cell c :: rest ++ [y]))) p ts cs (b + 1) := by
  obtain ⟨c, hc, rest, e1, e2⟩ := h.tbs t ht
  obtain ⟨d, ds, e3⟩ := h.rw c hc
  have ct : c ≠ t := fun z => h.ap t ht (z ▸ hc)
  refine ⟨c, rest, d, ds, e1, e3, e2, ct, fun x y => ?_⟩
  have tl := (List.getElem?_eq_some_iff.mp e1).1
  have cl := (List.getElem?_eq_some_iff.mp e3).1
  have go : ∀ i, i ≠ t → i ≠ c → ((μ.set c (.lst (x :: ds))).set t (.lst (.cell c :: rest ++ [y])))[i]? = μ[i]? := fun i h1 h2 => by
    rw [List.getElem?_set_ne (Ne.symm h1), List.getElem?_set_ne (Ne.symm h2)]
  refine ⟨fun i hi => ?_, ?_, fun t' ht' => ?_, fun c' hc' => ?_, h.lo, h.ap, h.np⟩
  · have l1 := h.lo t (List.mem_append_left _ ht)
    have l2 := h.lo c (List.mem_append_right _ hc)
    rw [go i (by omega) (by omega)]
    exact h.same i hi
  · rw [go p (fun z => h.np.1 (z ▸ ht)) (fun z => h.np.2 (z ▸ hc))]
    exact h.at_
  · by_cases e : t' = t
    · subst e
      exact ⟨c, hc, rest ++ [y], by rw [List.getElem?_set_self (by rw [List.length_set]; exact tl)]; rfl, by simp; omega⟩
    · obtain ⟨c2, h2, r2, e4, e5⟩ := h.tbs t' ht'
      exact ⟨c2, h2, r2, by rw [go t' e (fun z => h.ap t' ht' (z ▸ hc))]; exact e4, by omega⟩
  · by_cases e : c' = c
    · subst e
      exact ⟨x, ds, by rw [List.getElem?_set_ne (Ne.symm ct), List.getElem?_set_self cl]⟩
    · obtain ⟨d2, s2, e4⟩ := h.rw c' hc'
      exact ⟨d2, s2, by rw [go c' (fun z => h.ap t ht (z ▸ hc')) e]; exact e4⟩
theorem Wk.init {μ0 : Sto} {n : Nat} {A B C F G : Mn.Mq} (n1 : 0 < n) (n4 : n ≤ 4) :
    Wk μ0 (rwC (rwC (rwC (rwC (rwC μ0 n A) n B) n C) n F) n G ++ [.lst [.cell (μ0.length + n), .cell ((rwC μ0 n A).length + n), .cell ((rwC (rwC μ0 n A) n B).length + n), .cell ((rwC (rwC (rwC μ0 n A) n B) n C).length + n), .cell ((rwC (rwC (rwC (rwC μ0 n A) n B) n C) n F).length + n)]])
      (rwC (rwC (rwC (rwC (rwC μ0 n A) n B) n C) n F) n G).length [μ0.length + n, (rwC μ0 n A).length + n, (rwC (rwC μ0 n A) n B).length + n, (rwC (rwC (rwC μ0 n A) n B) n C).length + n, (rwC (rwC (rwC (rwC μ0 n A) n B) n C) n F).length + n]
      [μ0.length, (rwC μ0 n A).length, (rwC (rwC μ0 n A) n B).length, (rwC (rwC (rwC μ0 n A) n B) n C).length, (rwC (rwC (rwC (rwC μ0 n A) n B) n C) n F).length] 4 := by
  have hd : ∀ (ν : Sto) (X : Mn.Mq), ∃ rest, (rwC ν n X)[ν.length + n]? = some (.lst (.cell ν.length :: rest)) ∧ rest.length ≤ 4 := fun ν X => by
    obtain ⟨k, rfl⟩ : ∃ k, n = k + 1 := ⟨n - 1, by omega⟩
    refine ⟨(List.range k).map fun i => .cell (ν.length + (i + 1)), ?_, by simp; omega⟩
    rw [rwC_at]
    unfold tb
    rw [List.range_succ_eq_map, List.map_cons, List.map_map]
    rfl
  have hr : ∀ (ν : Sto) (X : Mn.Mq), ∃ d ds, (rwC ν n X)[ν.length]? = some (.lst (d :: ds)) := fun ν X => by
    have z := rwC_row (μ := ν) (L := X) n1
    rw [Nat.add_zero] at z
    obtain ⟨k, rfl⟩ : ∃ k, n = k + 1 := ⟨n - 1, by omega⟩
    rw [z]
    unfold tb
    rw [List.range_succ_eq_map, List.map_cons]
    exact ⟨_, _, rfl⟩
  have l1 : (rwC μ0 n A).length = μ0.length + n + 1 := rwC_len
  have l2 : (rwC (rwC μ0 n A) n B).length = (rwC μ0 n A).length + n + 1 := rwC_len
  have l3 : (rwC (rwC (rwC μ0 n A) n B) n C).length = (rwC (rwC μ0 n A) n B).length + n + 1 := rwC_len
  have l4 : (rwC (rwC (rwC (rwC μ0 n A) n B) n C) n F).length = (rwC (rwC (rwC μ0 n A) n B) n C).length + n + 1 := rwC_len
  have l5 : (rwC (rwC (rwC (rwC (rwC μ0 n A) n B) n C) n F) n G).length = (rwC (rwC (rwC (rwC μ0 n A) n B) n C) n F).length + n + 1 := rwC_len
  obtain ⟨r1, a1, b1⟩ := hd μ0 A
  obtain ⟨r2, a2, b2⟩ := hd (rwC μ0 n A) B
  obtain ⟨r3, a3, b3⟩ := hd (rwC (rwC μ0 n A) n B) C
  obtain ⟨r4, a4, b4⟩ := hd (rwC (rwC (rwC μ0 n A) n B) n C) F
  obtain ⟨r5, a5, b5⟩ := hd (rwC (rwC (rwC (rwC μ0 n A) n B) n C) n F) G
  obtain ⟨d1, e1, f1⟩ := hr μ0 A
  obtain ⟨d2, e2, f2⟩ := hr (rwC μ0 n A) B
  obtain ⟨d3, e3, f3⟩ := hr (rwC (rwC μ0 n A) n B) C
  obtain ⟨d4, e4, f4⟩ := hr (rwC (rwC (rwC μ0 n A) n B) n C) F
  obtain ⟨d5, e5, f5⟩ := hr (rwC (rwC (rwC (rwC μ0 n A) n B) n C) n F) G
  refine ⟨fun i hi => ?_, List.getElem?_concat_length, ?_, ?_, ?_, ?_, ?_, ?_⟩
  · obtain ⟨x, hx⟩ : ∃ x, μ0[i]? = some x := ⟨_, List.getElem?_eq_getElem hi⟩
    rw [hx]
    exact app_up (rwC_up (rwC_up (rwC_up (rwC_up (rwC_up hx)))))
  · intro t ht
    simp only [List.mem_cons, List.not_mem_nil, or_false] at ht
    rcases ht with rfl | rfl | rfl | rfl | rfl
    · exact ⟨_, List.mem_cons_self, r1, app_up (rwC_up (rwC_up (rwC_up (rwC_up a1)))), b1⟩
    · exact ⟨_, List.mem_cons_of_mem _ List.mem_cons_self, r2, app_up (rwC_up (rwC_up (rwC_up a2))), b2⟩
    · exact ⟨_, List.mem_cons_of_mem _ (List.mem_cons_of_mem _ List.mem_cons_self), r3, app_up (rwC_up (rwC_up a3)), b3⟩
    · exact ⟨_, List.mem_cons_of_mem _ (List.mem_cons_of_mem _ (List.mem_cons_of_mem _ List.mem_cons_self)), r4, app_up (rwC_up a4), b4⟩
    · exact ⟨_, List.mem_cons_of_mem _ (List.mem_cons_of_mem _ (List.mem_cons_of_mem _ (List.mem_cons_of_mem _ List.mem_cons_self))), r5, app_up a5, b5⟩
  · intro t ht
    simp only [List.mem_cons, List.not_mem_nil, or_false] at ht
    rcases ht with rfl | rfl | rfl | rfl | rfl
    · exact ⟨_, _, app_up (rwC_up (rwC_up (rwC_up (rwC_up f1))))⟩
    · exact ⟨_, _, app_up (rwC_up (rwC_up (rwC_up f2)))⟩
    · exact ⟨_, _, app_up (rwC_up (rwC_up f3))⟩
    · exact ⟨_, _, app_up (rwC_up f4)⟩
    · exact ⟨_, _, app_up f5⟩
  all_goals
    clear a1 a2 a3 a4 a5 f1 f2 f3 f4 f5 hd hr
    generalize (rwC (rwC (rwC (rwC (rwC μ0 n A) n B) n C) n F) n G).length = y5 at *
    generalize (rwC (rwC (rwC (rwC μ0 n A) n B) n C) n F).length = y4 at *
    generalize (rwC (rwC (rwC μ0 n A) n B) n C).length = y3 at *
    generalize (rwC (rwC μ0 n A) n B).length = y2 at *
    generalize (rwC μ0 n A).length = y1 at *
    generalize μ0.length = y0 at *
    subst l5 l4 l3 l2 l1
  · intro i hi
    simp only [List.cons_append, List.nil_append, List.mem_cons, List.not_mem_nil, or_false] at hi
    omega
  · intro t ht hc
    simp only [List.mem_cons, List.not_mem_nil, or_false] at ht hc
    omega
  · intro ht
    simp only [List.mem_cons, List.not_mem_nil, or_false] at ht
    omega
  · intro ht
    simp only [List.mem_cons, List.not_mem_nil, or_false] at ht
    omega
theorem Le.gcd {e : Nat} {s : Int × Int} (h : Le e s) : Int.gcd s.1 s.2 = 1 ∧ 0 < s.2 := by
  obtain ⟨t, rfl, _⟩ := h
  exact ⟨frI_gcd (p60 e), Mn.frq_pos (p60 e)⟩
/-- taking away is adding what is turned round -/
theorem subq_add {s u : Int × Int} (g : Int.gcd u.1 u.2 = 1) (h : 0 < u.2) : Mn.subq s u = Mn.addq s (Mn.mulq u (-1, 1)) := by
  have e : Mn.mulq u (-1, 1) = (-u.1, u.2) := by
    show Mn.frq (u.1 * -1) (u.2 * 1) = _
    rw [Int.mul_one, show u.1 * -1 = -u.1 by omega]
    exact frq_self (s := (-u.1, u.2)) h (by show Int.gcd (-u.1) u.2 = 1; rw [Int.neg_gcd]; exact g)
  rw [e]
  show Mn.frq (s.1 * u.2 - u.1 * s.2) (s.2 * u.2) = Mn.frq (s.1 * u.2 + -u.1 * s.2) (s.2 * u.2)
  rw [Int.neg_mul, Int.sub_eq_add_neg]
theorem py3 {μ : Sto} {a b c : D} {x y z : PyData} (h1 : pyD 11 μ a = some x) (h2 : pyD 11 μ b = some y) (h3 : pyD 11 μ c = some z) : pyD 12 μ (.lst [a, b, c]) = some (.list [x, y, z]) := by
  show ([a, b, c].mapM (pyD 11 μ)).map PyData.list = _
  simp [List.mapM_cons, h1, h2, h3]
end Pf

namespace Pf
open PySem PySem.Spec PyProof.Rows L2 L3
local macro_rules | `(tactic| fail) => `(tactic| first
  | with_reducible refine wp_seqSet ?_
  | with_reducible refine wp_seqAsg ?_
  | with_reducible refine wp_seqPar ?_
  | with_reducible refine wp_seqPar3 ?_
  | with_reducible refine wp_seqFset ?_
  | with_reducible refine wp_seqFaug ?_
  | with_reducible refine wp_sFset ?_
  | with_reducible refine wp_sFaug ?_
  | with_reducible refine wp_meth ?_
  | with_reducible refine wp_make ?_
  | with_reducible refine wp_methX ?_
  | with_reducible refine wp_makeX ?_
  | with_reducible refine wp_sPar3 ?_
  | with_reducible refine three_ok ?_
  | with_reducible refine wp_seqAug ?_
  | with_reducible refine wp_seqExpr ?_
  | with_reducible refine wp_seqSub ?_
  | with_reducible refine wp_seqNil ?_
  | with_reducible refine wp_seqFor ?_
  | with_reducible refine wp_seqWhile ?_
  | with_reducible refine wp_seqStar ?_
  | with_reducible refine wp_seqForK ?_
  | with_reducible refine wp_seqDput ?_
  | with_reducible refine wp_seqMul ?_
  | with_reducible refine wp_sSet ?_
  | with_reducible refine wp_sRet ?_
  | with_reducible refine wp_sNil ?_
  | with_reducible refine wp_sIf ?_
  | with_reducible refine wp_sPar ?_
  | with_reducible refine wp_sAsg ?_
  | with_reducible refine wp_sSub ?_
  | with_reducible refine wp_sFor ?_
  | with_reducible refine wp_sRaise ?_
  | with_reducible refine wp_sExpr ?_
  | with_reducible refine wp_sRetN ?_
  | with_reducible refine wp_sBreak ?_
  | with_reducible refine wp_sCont ?_
  | ((with_reducible refine wp_varE ?_); refine ⟨_, rfl, ?_⟩)
  | with_reducible refine wp_c ?_
  | with_reducible refine wp_B ?_
  | with_reducible refine wp_U ?_
  | with_reducible refine wp_T ?_
  | with_reducible refine wp_andT ?_
  | with_reducible refine wp_orT ?_
  | with_reducible refine wp_notT ?_
  | with_reducible refine wp_andV ?_
  | with_reducible refine wp_orV ?_
  | with_reducible refine wp_notV ?_
  | with_reducible refine wp_if ?_
  | with_reducible refine wp_nil ?_
  | with_reducible refine wp_cons ?_
  | with_reducible refine wp_tup ?_
  | with_reducible refine wp_lst ?_
  | with_reducible refine wp_lstC ?_
  | with_reducible refine wp_call ?_
  | with_reducible refine wp_callD ?_
  | with_reducible refine wp_callB ?_
  | with_reducible refine wp_m ?_
  | with_reducible refine wp_oNone ?_
  | with_reducible refine wp_oSome ?_
  | with_reducible refine wp_sl ?_
  | with_reducible refine wp_tried ?_
  | with_reducible refine wp_asked ?_
  | with_reducible refine wp_seqOut ?_
  | with_reducible refine wp_asks ?_
  | with_reducible refine wp_asksC ?_
  | with_reducible refine wp_asksN ?_
  | with_reducible refine wp_chain ?_
  | with_reducible refine wp_enum ?_
  | with_reducible refine wp_enumB ?_
  | with_reducible refine wp_zip ?_
  | with_reducible refine wp_joinedT ?_
  | with_reducible refine wp_jNil ?_
  | with_reducible refine wp_jT ?_
  | with_reducible refine wp_lc ?_
  | with_reducible refine wp_lcC ?_
  | with_reducible refine wp_yes ?_
  | with_reducible refine wp_iAny ?_
  | with_reducible refine wp_range1 ?_
  | with_reducible refine wp_range2 ?_
  | with_reducible refine wp_sStar ?_
  | with_reducible refine wp_sDput ?_
  | with_reducible refine wp_sMul ?_
  | with_reducible refine wp_mNil ?_
  | with_reducible refine wp_mCons ?_
  | with_reducible refine wp_mSub ?_
  | with_reducible refine wp_mSubD ?_
  | with_reducible refine wp_dget2 ?_
  | with_reducible refine wp_disp ?_
  | with_reducible refine wp_pNil ?_
  | with_reducible refine wp_pCons ?_)
local macro_rules | `(tactic| fail) => `(tactic| first
  | with_reducible refine wp_eqI ?_
  | with_reducible refine wp_neI ?_
  | with_reducible refine wp_eqB ?_
  | with_reducible refine wp_neB ?_
  | ((with_reducible refine wp_eqStr ?_ ?_ ?_); decide +kernel; decide +kernel)
  | ((with_reducible refine wp_neStr ?_ ?_ ?_); decide +kernel; decide +kernel)
  | with_reducible refine wp_addI ?_
  | with_reducible refine wp_addII ?_
  | with_reducible refine wp_subI ?_
  | with_reducible refine wp_ltI ?_
  | with_reducible refine wp_leI ?_
  | with_reducible refine wp_gtI ?_
  | with_reducible refine wp_geI ?_
  | with_reducible refine wp_negI ?_
  | with_reducible refine wp_intI ?_
  | with_reducible refine wp_intB ?_
  | with_reducible refine wp_absI ?_
  | with_reducible refine wp_un ?_
  | ((with_reducible refine wp_mul ?_ ?_); first | exact mulOk_right (by decide) | exact mulOk_left (by decide) | exact mulOk_mod (by decide) (by decide))
  | ((with_reducible refine wp_mod ?_ ?_); decide)
  | ((with_reducible refine wp_fdiv ?_ ?_ ?_); decide; exact pylong_200 (by decide))
  | with_reducible refine wp_pow18 ?_
  | with_reducible refine wp_pow12 ?_
  | with_reducible refine wp_pow40 ?_
  | ((with_reducible refine wp_ixE ?_); refine ⟨_, rfl, ?_⟩)
  | with_reducible refine wp_len0 ?_
  | with_reducible refine wp_len1 ?_
  | with_reducible refine wp_len2 ?_
  | with_reducible refine wp_len3 ?_
  | with_reducible refine wp_lenT1 ?_
  | with_reducible refine wp_lenT2 ?_
  | with_reducible refine wp_lenT3 ?_
  | ((with_reducible refine wp_lenE ?_); refine ⟨_, rfl, ?_⟩)
  | ((with_reducible refine wp_listOfE ?_); refine ⟨_, rfl, ?_⟩)
  | ((with_reducible refine wp_isiE ?_); refine ⟨_, rfl, ?_⟩)
  | ((with_reducible refine wp_isNE ?_); refine ⟨_, rfl, ?_⟩)
  | ((with_reducible refine wp_notNE ?_); refine ⟨_, rfl, ?_⟩)
  | ((with_reducible refine wp_slE ?_); refine ⟨_, rfl, ?_⟩)
  | ((with_reducible refine sub_okE ?_); refine ⟨_, rfl, ?_⟩)
  | with_reducible refine Exists.intro _ (And.intro rfl ?_)
  | with_reducible refine Exists.intro _ (Exists.intro _ (And.intro rfl ?_))
  | ((with_reducible refine len_eq ?_ ?_); exact rfl)
  | ((with_reducible refine rng_ok ?_ ?_); omega)
  | ((with_reducible refine rng2_ok ?_ ?_); omega)
  | ((with_reducible refine rngD_len ?_ ?_); omega)
  | ((with_reducible refine len_100 ?_ ?_); exact Nat.le_of_ble_eq_true rfl)
  | ((with_reducible refine isTy_ok ?_ ?_); exact rfl)
  | ((with_reducible refine br_t ?_ ?_); first | with_reducible exact rfl | decide)
  | ((with_reducible refine br_f ?_ ?_); first | with_reducible exact rfl | decide)
  | with_reducible refine br_d (fun _ => ?_) (fun _ => ?_)
  | with_reducible refine br_n (fun _ => ?_) (fun _ => ?_))
theorem law_true (ns : List Int) (hl : ns.length ≤ 63) (hbits : ∀ z ∈ ns, Builtin.Int.intBits z ≤ 1048576) : ∃ μ, f_law [.scr ns] [] = .ok (.bl true) μ := by
  have key : (f_law [.scr ns] []).wp (fun r _ => r = .bl true) noE := by
    unfold f_law
    with_reducible refine wp_fn ?_
    unfold b_law
    repeat fail
    refine wp_bag hl fun g hg => ?_
    repeat fail
    refine wp_forR (I := fun _ ρ μ => ∃ g m a0 a2 a3 a4 a5 a6 a7 a8 a9 a10 a11 a12 a13 a14 a15 a16 a17, μ = g :: m ∧ Bg g ∧ ρ = [a0, some (.cell 0), a2, a3, a4, a5, a6, a7, a8, a9, a10, a11, a12, a13, a14, a15, a16, a17]) ⟨g, [], _, _, _, _, _, _, _, _, _, _, _, _, _, _, _, _, _, rfl, hg, rfl⟩ (fun ρ μ h => ?_) ?_
    · obtain ⟨g, m, a0, a2, a3, a4, a5, a6, a7, a8, a9, a10, a11, a12, a13, a14, a15, a16, a17, rfl, hg, rfl⟩ := h
      repeat' (first | fail | with_reducible refine wp_sSeq ?_)
      rfl
    · rintro i ρ μ hi ⟨g, m, a0, a2, a3, a4, a5, a6, a7, a8, a9, a10, a11, a12, a13, a14, a15, a16, a17, rfl, hg, rfl⟩
      refine ⟨_, rfl, ?_⟩
      simp only [List.map_cons, List.map_nil, List.length_cons, List.length_nil, List.reduceReplicate, List.cons_append, List.nil_append, Nat.reduceAdd, Nat.reduceSub, Nat.zero_add, List.set_cons_zero, List.set_cons_succ, wipeE]
      repeat' (first | fail | with_reducible refine wp_sSeq ?_)
      refine wp_pull hg (by decide) (by decide) fun v g v1 v2 hg => ?_
      repeat' (first | fail | with_reducible refine wp_sSeq ?_)
      refine wp_pull hg (by decide) (by decide) fun w g w1 w2 hg => ?_
      repeat' (first | fail | with_reducible refine wp_sSeq ?_)
      obtain ⟨n, hn⟩ : ∃ n : Nat, 1 + v = n := ⟨(1 + v).toNat, by omega⟩
      obtain ⟨f, hf⟩ : ∃ f : Nat, 1 + w = f := ⟨(1 + w).toNat, by omega⟩
      have n1 : 0 < n := by omega
      have n4 : n ≤ 4 := by omega
      have f4 : f ≤ 4 := by omega
      rw [hn, hf]
      simp only [List.map_cons, List.map_nil, List.length_cons, List.length_nil, List.reduceReplicate, List.cons_append, List.nil_append, Nat.reduceAdd, Nat.reduceSub, Nat.zero_add, List.set_cons_zero, List.set_cons_succ, wipeE]
      refine wp_lgrid2 hg n4 fun L g m k cs hg hL hq => ?_
      repeat' (first | fail | with_reducible refine wp_sSeq ?_)
      refine wp_lgridD hg n4 fun M g hg hM => ?_
      repeat' (first | fail | with_reducible refine wp_sSeq ?_)
      refine wp_lgridD hg f4 fun T g hg hT => ?_
      repeat' (first | fail | with_reducible refine wp_sSeq ?_)
      refine ⟨by simp, _, rfl, ?_⟩
      simp only [List.map_cons, List.map_nil, List.length_cons, List.length_nil, List.reduceReplicate, List.cons_append, List.nil_append, Nat.reduceAdd, Nat.reduceSub, Nat.zero_add, List.set_cons_zero, List.set_cons_succ, wipeE]
      repeat' (first | fail | with_reducible refine wp_sSeq ?_)
      refine wp_lshare12 hg fun s g s12 hg => ?_
      repeat' (first | fail | with_reducible refine wp_sSeq ?_)
      refine wp_pull hg (by omega) (by omega) fun x g x1 x2 hg => ?_
      repeat' (first | fail | with_reducible refine wp_sSeq ?_)
      have at0 : (g :: m)[k + 1]? = some (.lst (cs.map fun c => D.cell (c + 1))) := by rw [List.getElem?_cons_succ]; exact hq.at_
      obtain ⟨xt, rfl⟩ : ∃ xt : Nat, x = xt := ⟨x.toNat, by omega⟩
      have xl : xt < cs.length := by rw [hq.len]; omega
      refine wp_ixC at0 (by omega) (x := .cell (cs[xt] + 1)) (by rw [Int.toNat_natCast, List.getElem?_map, List.getElem?_eq_getElem xl]; rfl) ?_
      repeat' (first | fail | with_reducible refine wp_sSeq ?_)
      refine wp_pull hg (by omega) (by omega) fun y g y1 y2 hg => ?_
      repeat' (first | fail | with_reducible refine wp_sSeq ?_)
      obtain ⟨yt, rfl⟩ : ∃ yt : Nat, y = yt := ⟨y.toNat, by omega⟩
      have row : (g :: m)[cs[xt] + 1]? = some (.lst (tb n fun j => dSh (L xt j))) := by rw [List.getElem?_cons_succ]; exact hq.row xt _ (List.getElem?_eq_getElem xl)
      refine sub_ok (setL_nat (i := yt) row (by rw [tb_len]; omega)) ?_
      rw [List.set_cons_succ]
      have hq := hq.putA (s := s) (List.getElem?_eq_getElem xl) (show yt < n by omega)
      have hL : ∀ i, i < n → ∀ j, j < n → Le 3 (if i = xt ∧ j = yt then s else L i j) ∨ (if i = xt ∧ j = yt then s else L i j) = s := fun i _ j _ => by
        split
        · exact .inr rfl
        · exact .inl (hL i j).up.up
      generalize m.set cs[xt] (MO.lst ((tb n fun j => dSh (L xt j)).set yt (dSh s))) = m at hq ⊢
      obtain ⟨A, b, pb, gp⟩ := gp_small (n := n) (L := fun i j => if i = xt ∧ j = yt then s else L i j) (u := s) s12.1 s12.2.2.2 s12.shr hL
      generalize (fun i j => if i = xt ∧ j = yt then s else L i j) = L at hq gp ⊢
      obtain ⟨B, c, pc, gq⟩ := gp_small (n := n) (L := M) (u := (1, 1)) (by decide) (by decide) ⟨by decide, by decide, by decide⟩ fun i hi j hj => .inl (hM i j).up.up
      have shL := Gp.shq gp
      have shM : ∀ i, i < n → ∀ j, j < n → Shq 24 (M i j) := fun i _ j _ => (hM i j).shq (by decide)
      have pok : PyOk 4 1000000 (.list [pT n n L, pT n n M, pT f f T]) := PyOk.mono (PyOk.list (n := 3) (b := 300000) fun p hp => by
        simp only [List.mem_cons, List.not_mem_nil, or_false] at hp
        rcases hp with rfl | rfl | rfl
        · exact pT_ok (k := 71) (by omega) (by omega) (by decide) (by decide) fun i hi j hj => ⟨Nat.lt_of_le_of_lt (shL i hi j hj).2.1 (by decide), Nat.lt_of_le_of_lt (shL i hi j hj).2.2 (by decide)⟩
        · exact pT_ok (k := 71) (by omega) (by omega) (by decide) (by decide) fun i hi j hj => ⟨Nat.lt_of_le_of_lt (shM i hi j hj).2.1 (by decide), Nat.lt_of_le_of_lt (shM i hi j hj).2.2 (by decide)⟩
        · exact pT_ok (k := 71) (by omega) (by omega) (by decide) (by decide) fun i hi j hj => ⟨Nat.lt_of_le_of_lt ((hT i j).shq (by decide)).2.1 (by decide), Nat.lt_of_le_of_lt ((hT i j).shq (by decide)).2.2 (by decide)⟩) (by decide) (by simp only [List.length_cons, List.length_nil]; omega)
      repeat' (first | fail | with_reducible refine wp_sSeq ?_)
      refine wp_lshare12 hg fun per g p12 hg => ?_
      repeat' (first | fail | with_reducible refine wp_sSeq ?_)
      have qM_ : ∀ {ν : Sto} {r : Nat} {Z : Mn.Mq}, QM ν (qM r r Z) r r Z := fun {ν r Z} => QM.rows rfl
      refine wp_repr (.inl ⟨_, rfl⟩) (py3 ((hq.qm g).py (n := 7)) (qM_.py (n := 7)) (qM_.py (n := 7))) pok (by decide) (by decide) ?_
      repeat' (first | fail | with_reducible refine wp_sSeq ?_)
      have shP : Shq 40 per := ⟨p12.1, Nat.le_of_lt p12.shr.2.1, Nat.le_of_lt p12.shr.2.2⟩
      refine wp_ltscale (s := (0 - 1, 1)) (k := 1) n4 (show asL _ (qM n n M) = some (qRows n n M) from rfl) shM ⟨by decide, by decide, by decide⟩ (by decide) ?_
      repeat' (first | fail | with_reducible refine wp_sSeq ?_)
      refine wp_addtC n4 shL shM (by decide) (hq.qm g) qM_ ?_
      repeat' (first | fail | with_reducible refine wp_sSeq ?_)
      refine wp_takeC n4 shL shM (by decide) (hq.qm g).rwC qM_ ?_
      repeat' (first | fail | with_reducible refine wp_sSeq ?_)
      refine wp_prodC n4 gp gq (by decide) (hq.qm g).rwC.rwC.qw qM_.qw ?_
      repeat' (first | fail | with_reducible refine wp_sSeq ?_)
      refine wp_prodC n4 gq gp (by decide) qM_.qw (hq.qm g).rwC.rwC.rwC.qw ?_
      repeat' (first | fail | with_reducible refine wp_sSeq ?_)
      refine wp_scaleC n4 shL shP (by decide) (hq.qm g).rwC.rwC.rwC.rwC ?_
      repeat' (first | fail | with_reducible refine wp_sSeq ?_)
      have esub : (fun i j => Mn.subq (L i j) (M i j)) = Mn.addM L fun i j => Mn.mulq (M i j) (0 - 1, 1) := funext fun i => funext fun j => subq_add (hM i j).gcd.1 (hM i j).gcd.2
      rw [esub]
      have shN : ∀ i, i < n → ∀ j, j < n → Shq 25 (Mn.mulq (M i j) (0 - 1, 1)) := fun i hi j hj => (shM i hi j hj).mul (k := 1) ⟨by decide, by decide, by decide⟩
      have W0 := Wk.init (μ0 := g :: m) (A := Mn.addM L M) (B := Mn.addM L fun i j => Mn.mulq (M i j) (0 - 1, 1)) (C := Mn.dotM n L M) (F := Mn.dotM n M L) (G := fun i j => Mn.mulq (L i j) per) n1 n4
      have q0 := ((hq.qm g).rwC (n := n) (M := Mn.addM L M)).rwC (n := n) (M := Mn.addM L fun i j => Mn.mulq (M i j) (0 - 1, 1)) |>.rwC (n := n) (M := Mn.dotM n L M) |>.rwC (n := n) (M := Mn.dotM n M L) |>.rwC (n := n) (M := fun i j => Mn.mulq (L i j) per)
      have t1 := (rwC_qm (μ := g :: m) (n := n) (L := Mn.addM L M)).rwC (n := n) (M := Mn.addM L fun i j => Mn.mulq (M i j) (0 - 1, 1)) |>.rwC (n := n) (M := Mn.dotM n L M) |>.rwC (n := n) (M := Mn.dotM n M L) |>.rwC (n := n) (M := fun i j => Mn.mulq (L i j) per)
      generalize rwC (g :: m) n (Mn.addM L M) = ν1 at W0 q0 t1 ⊢
      have t2 := (rwC_qm (μ := ν1) (n := n) (L := Mn.addM L fun i j => Mn.mulq (M i j) (0 - 1, 1))).rwC (n := n) (M := Mn.dotM n L M) |>.rwC (n := n) (M := Mn.dotM n M L) |>.rwC (n := n) (M := fun i j => Mn.mulq (L i j) per)
      generalize rwC ν1 n (Mn.addM L fun i j => Mn.mulq (M i j) (0 - 1, 1)) = ν2 at W0 q0 t1 t2 ⊢
      have t3 := (rwC_qm (μ := ν2) (n := n) (L := Mn.dotM n L M)).rwC (n := n) (M := Mn.dotM n M L) |>.rwC (n := n) (M := fun i j => Mn.mulq (L i j) per)
      generalize rwC ν2 n (Mn.dotM n L M) = ν3 at W0 q0 t1 t2 t3 ⊢
      have t4 := (rwC_qm (μ := ν3) (n := n) (L := Mn.dotM n M L)).rwC (n := n) (M := fun i j => Mn.mulq (L i j) per)
      generalize rwC ν3 n (Mn.dotM n M L) = ν4 at W0 q0 t1 t2 t3 t4 ⊢
      have t5 := rwC_qm (μ := ν4) (n := n) (L := fun i j => Mn.mulq (L i j) per)
      generalize rwC ν4 n (fun i j => Mn.mulq (L i j) per) = ν5 at W0 q0 t1 t2 t3 t4 t5 ⊢
      generalize (g :: m).length + n = i1 at W0 t1 ⊢
      generalize ν1.length + n = i2 at W0 t2 ⊢
      generalize ν2.length + n = i3 at W0 t3 ⊢
      generalize ν3.length + n = i4 at W0 t4 ⊢
      generalize ν4.length + n = i5 at W0 t5 ⊢
      have q0 := q0.app (ex := [MO.lst [D.cell i1, .cell i2, .cell i3, .cell i4, .cell i5]])
      have t1 := t1.app (ex := [MO.lst [D.cell i1, .cell i2, .cell i3, .cell i4, .cell i5]])
      have t2 := t2.app (ex := [MO.lst [D.cell i1, .cell i2, .cell i3, .cell i4, .cell i5]])
      have t3 := t3.app (ex := [MO.lst [D.cell i1, .cell i2, .cell i3, .cell i4, .cell i5]])
      have t4 := t4.app (ex := [MO.lst [D.cell i1, .cell i2, .cell i3, .cell i4, .cell i5]])
      have t5 := t5.app (ex := [MO.lst [D.cell i1, .cell i2, .cell i3, .cell i4, .cell i5]])
      generalize ν5 ++ [MO.lst [D.cell i1, .cell i2, .cell i3, .cell i4, .cell i5]] = ν at *
      generalize ν5.length = p at *
      generalize hcs : [(g :: m).length, ν1.length, ν2.length, ν3.length, ν4.length] = cc at W0
      refine wp_ltaddW n4 shL shM (by decide) q0 qM_ ?_
      repeat' (first | fail | with_reducible refine wp_sSeq ?_)
      refine wp_ltaddW n4 shL shN (by decide) q0 qM_ ?_
      repeat' (first | fail | with_reducible refine wp_sSeq ?_)
      refine wp_ltmulQ n4 gp gq pb pc (by decide) q0 qM_ ?_
      repeat' (first | fail | with_reducible refine wp_sSeq ?_)
      refine wp_ltmulQ n4 gq gp pc pb (by decide) qM_ q0 ?_
      repeat' (first | fail | with_reducible refine wp_sSeq ?_)
      refine wp_ltscaleW n4 q0 shL shP (by decide) ?_
      repeat' (first | fail | with_reducible refine wp_sSeq ?_)
      refine wp_sameC (n := 40) (Eqs.of2 (asL_cell W0.at_) (.cons (t1.eqs (n := 35) (by omega) (by omega)) (.cons (t2.eqs (n := 35) (by omega) (by omega)) (.cons (t3.eqs (n := 35) (by omega) (by omega)) (.cons (t4.eqs (n := 35) (by omega) (by omega)) (.cons (t5.eqs (n := 35) (by omega) (by omega)) .nil))))) (by simp)) ?_
      repeat' (first | fail | with_reducible refine wp_sSeq ?_)
      obtain ⟨X, hX, hr⟩ := id q0
      obtain ⟨gd, wX, wg⟩ := asL_walkD hX
      refine ⟨_, wX, ?_⟩
      simp only [List.map_cons, List.map_nil, List.length_cons, List.length_nil, List.reduceReplicate, List.cons_append, List.nil_append, Nat.reduceAdd, Nat.reduceSub, Nat.zero_add, List.set_cons_zero, List.set_cons_succ, wipeE]
      refine tb_sz (by omega) ?_
      refine wp_lcT (k := fun i => .tup (tb n fun j => dSh (L i j))) wg ?_ fun i hi => ⟨_, rfl, ?_⟩
      rotate_left
      · repeat' (first | fail | with_reducible refine wp_sSeq ?_)
        refine wp_tupA (hr i hi) ?_
        exact ⟨rfl, rfl⟩
      repeat' (first | fail | with_reducible refine wp_sSeq ?_)
      refine wp_tupA rfl ?_
      repeat' (first | fail | with_reducible refine wp_sSeq ?_)
      refine ⟨rfl, ?_⟩
      refine wp_prodW n4 gp gq (by decide) QW.tup qM_.qw ?_
      repeat' (first | fail | with_reducible refine wp_sSeq ?_)
      refine ⟨rfl, ?_⟩
      refine wp_sameC (n := 40) (qM_.eqs (n := 36) (by omega) (by omega)) ?_
      repeat' (first | fail | with_reducible refine wp_sSeq ?_)
      refine ⟨_, walkD_cell W0.at_, ?_⟩
      generalize e7 : PyData.shown (.list [pT n n L, pT n n M, pT f f T]) = tx
      generalize e8 : qM n n (fun i j => Mn.mulq (M i j) (0 - 1, 1)) = b8
      generalize e10 : D.lst [qM n n (Mn.addM L M), qM n n (Mn.addM L fun i j => Mn.mulq (M i j) (0 - 1, 1)), qM n n (Mn.dotM n L M), qM n n (Mn.dotM n M L), qM n n fun i j => Mn.mulq (L i j) per] = due
      refine wp_forS (I := fun ds ρ μ => ∃ b a11, b + ds.length ≤ 9 ∧ (∀ d ∈ ds, ∃ t ∈ [i1, i2, i3, i4, i5], d = D.cell t) ∧ Wk (g :: m) μ p [i1, i2, i3, i4, i5] cc b ∧
        ρ = [a0, some (.cell 0), some (.int (0 + (i : Nat))), some (.int (n : Nat)), some (.int (f : Nat)), some (qM n n M), some (dSh per), some (.str tx), some b8, some (.cell p), some due, a11, a12, a13, some (.cell (k + 1)), some (qM f f T), a16, a17])
        ⟨4, _, by simp, fun d hd => by obtain ⟨t, ht, rfl⟩ := List.mem_map.mp hd; exact ⟨t, ht, rfl⟩, W0, rfl⟩ ?_ ?_
      rotate_left
      · rintro d ds ρ μ ⟨b, a11, hb, hd, W, rfl⟩
        refine ⟨gd_cell W.at_, _, rfl, ?_⟩
        obtain ⟨t, ht, rfl⟩ := hd d List.mem_cons_self
        obtain ⟨c, rest, d0, ds0, y1, y2, y3, ct, W2⟩ := W.step ht
        simp only [List.map_cons, List.map_nil, List.length_cons, List.length_nil, List.reduceReplicate, List.cons_append, List.nil_append, Nat.reduceAdd, Nat.reduceSub, Nat.zero_add, List.set_cons_zero, List.set_cons_succ, wipeE]
        repeat' (first | fail | with_reducible refine wp_sSeq ?_)
        refine wp_ixC y1 (by decide) (x := .cell c) rfl ?_
        repeat' (first | fail | with_reducible refine wp_sSeq ?_)
        refine sub_ok (setL_nat (i := 0) y2 (by simp)) ?_
        repeat' (first | fail | with_reducible refine wp_sSeq ?_)
        have y4 : (μ.set c (MO.lst ((d0 :: ds0).set 0 (.tup [.int 9, .int 1]))))[t]? = some (.lst (.cell c :: rest)) := by rw [List.getElem?_set_ne ct]; exact y1
        refine ⟨isTy_cell y4, ?_⟩
        repeat' (first | fail | with_reducible refine wp_sSeq ?_)
        simp only [List.length_cons] at hb
        refine wp_append y4 (by simp; omega) ?_
        exact ⟨b + 1, _, by omega, fun d h => hd d (List.mem_cons_of_mem _ h), W2 _ _, rfl⟩
      rintro ρ μ ⟨b, a11, _, _, W, rfl⟩
      refine ⟨gd_cell W.at_, ?_⟩
      obtain ⟨m2, rfl⟩ : ∃ m2, μ = g :: m2 := by
        have z := W.same 0 (by simp)
        cases μ with
        | nil => simp at z
        | cons x m2 =>
          simp at z
          subst z
          exact ⟨m2, rfl⟩
      have hq : QC m2 k n L cs := hq.same fun i hi => by
        have z := W.same (i + 1) (by simp; omega)
        simpa using z
      obtain ⟨X, hX, hr⟩ := hq.qm g
      obtain ⟨gd, wX, wg⟩ := asL_walkD hX
      repeat' (first | fail | with_reducible refine wp_sSeq ?_)
      refine ⟨_, wX, ?_⟩
      simp only [List.map_cons, List.map_nil, List.length_cons, List.length_nil, List.reduceReplicate, List.cons_append, List.nil_append, Nat.reduceAdd, Nat.reduceSub, Nat.zero_add, List.set_cons_zero, List.set_cons_succ, wipeE]
      refine tb_sz (by omega) ?_
      have al : ∀ ν : Sto, asL ν (.lst [.tup [.int 0, .int 1]]) = some [.tup [.int 0, .int 1]] := fun _ => rfl
      refine wp_lcT (k := fun i => .lst ((tb n fun j => dSh (L i j)) ++ zr f)) wg ?_ fun i hi => ⟨_, rfl, ?_⟩
      rotate_left
      · repeat' (first | fail | with_reducible refine wp_sSeq ?_)
        with_reducible refine wp_mulL (al _) (by omega) (by rw [List.length_singleton]; omega) ?_
        rw [noughts_zr]
        repeat' (first | fail | with_reducible refine wp_sSeq ?_)
        refine wp_addA (hr i hi) rfl (by simp; omega) ?_
        exact ⟨rfl, rfl⟩
      repeat' (first | fail | with_reducible refine wp_sSeq ?_)
      simp only [List.map_cons, List.map_nil, List.length_cons, List.length_nil, List.reduceReplicate, List.cons_append, List.nil_append, Nat.reduceAdd, Nat.reduceSub, Nat.zero_add, List.set_cons_zero, List.set_cons_succ, wipeE]
      refine tb_sz (by omega) ?_
      refine wp_lcT (k := fun i => .lst (zr n ++ tb f fun j => dSh (T i j))) rfl ?_ fun i hi => ⟨_, rfl, ?_⟩
      rotate_left
      · repeat' (first | fail | with_reducible refine wp_sSeq ?_)
        with_reducible refine wp_mulL (al _) (by omega) (by rw [List.length_singleton]; omega) ?_
        rw [noughts_zr]
        repeat' (first | fail | with_reducible refine wp_sSeq ?_)
        refine wp_addL (by simp; omega) ?_
        exact ⟨rfl, rfl⟩
      repeat' (first | fail | with_reducible refine wp_sSeq ?_)
      refine wp_addL (by simp; omega) ?_
      repeat' (first | fail | with_reducible refine wp_sSeq ?_)
      refine wp_addW n4 shL shM (by decide) (hq.qm g) qM_ ?_
      repeat' (first | fail | with_reducible refine wp_sSeq ?_)
      refine wp_corners n4 f4 (hq.qm g) qM_ ?_
      repeat' (first | fail | with_reducible refine wp_sSeq ?_)
      rw [← e10]
      refine wp_ix (ix_lst (i := 0) (x := qM n n (Mn.addM L M)) (by decide) rfl) ?_
      repeat' (first | fail | with_reducible refine wp_sSeq ?_)
      refine wp_sameQ (n := 40) (.lst (by simp) (Pu.cons ((qM_pu n4).le (by decide)) (Pu.cons ((wid_pu n4 f4).le (by decide)) Pu.nil))) ?_
      repeat' (first | fail | with_reducible refine wp_sSeq ?_)
      · rename_i ne
        have ne2 : n ≠ f := fun z => by simp [z] at ne
        have l1 := (hq.qm g).len
        have l2 := (qM_ (ν := g :: m2) (r := f) (Z := T)).len
        refine (wp_unfit l1 l2 ne2 ⟨.w, rfl, _, rfl, ?_⟩).1
        repeat' (first | fail | with_reducible refine wp_sSeq ?_)
        refine (wp_unfit l2 l1 (Ne.symm ne2) ⟨.w, rfl, _, rfl, ?_⟩).2.1
        repeat' (first | fail | with_reducible refine wp_sSeq ?_)
        refine (wp_unfit l1 l2 ne2 ⟨.w, rfl, _, rfl, ?_⟩).2.2
        repeat' (first | fail | with_reducible refine wp_sSeq ?_)
        have pu : Pu 3 (.lst [D.tup [.str "no", .str "Unfit"], .tup [.str "no", .str "Unfit"], .tup [.str "no", .str "Unfit"]]) := by
          have one : Pu 2 (.tup [.str "no", .str "Unfit"]) := .tup (by simp) (Pu.cons (.str (by decide +kernel)) (Pu.cons (.str (by decide +kernel)) Pu.nil))
          exact .lst (by simp) (Pu.cons one (Pu.cons one (Pu.cons one Pu.nil)))
        rw [show (3 : Int) = ((3 : Nat) : Int) from rfl]
        have a3 : asL (g :: m2) (.lst [D.tup [.str "no", .str "Unfit"]]) = some [D.tup [.str "no", .str "Unfit"]] := rfl
        with_reducible refine wp_mulL a3 (by decide) (by rw [List.length_singleton]; decide) ?_
        rw [show (List.replicate 3 [D.tup [.str "no", .str "Unfit"]]).flatten = [D.tup [.str "no", .str "Unfit"], .tup [.str "no", .str "Unfit"], .tup [.str "no", .str "Unfit"]] from rfl]
        refine wp_neS (pu.ne_self (by decide) _) ?_
        repeat' (first | fail | with_reducible refine wp_sSeq ?_)
        simp only [List.map_cons, List.map_nil, List.length_cons, List.length_nil, List.reduceReplicate, List.cons_append, List.nil_append, Nat.reduceAdd, Nat.reduceSub, Nat.zero_add, List.set_cons_zero, List.set_cons_succ, wipeE]
        refine wp_repr (.inl ⟨_, rfl⟩) (py3 ((hq.qm g).py (n := 7)) (qM_.py (n := 7)) (qM_.py (n := 7))) pok (by decide) (by decide) ?_
        repeat' (first | fail | with_reducible refine wp_sSeq ?_)
        rw [← e7]
        refine wp_neStr pok.txt.ok pok.txt.ok ?_
        rw [decide_eq_true rfl]
        repeat' (first | fail | with_reducible refine wp_sSeq ?_)
        exact ⟨g, m2, _, _, _, _, _, _, _, _, _, _, _, _, _, _, _, _, _, rfl, hg, rfl⟩
      · refine wp_repr (.inl ⟨_, rfl⟩) (py3 ((hq.qm g).py (n := 7)) (qM_.py (n := 7)) (qM_.py (n := 7))) pok (by decide) (by decide) ?_
        repeat' (first | fail | with_reducible refine wp_sSeq ?_)
        rw [← e7]
        refine wp_neStr pok.txt.ok pok.txt.ok ?_
        rw [decide_eq_true rfl]
        repeat' (first | fail | with_reducible refine wp_sSeq ?_)
        exact ⟨g, m2, _, _, _, _, _, _, _, _, _, _, _, _, _, _, _, _, _, rfl, hg, rfl⟩
  obtain ⟨r, μ, e, rfl⟩ := wp_get key
  exact ⟨μ, e⟩
end Pf

namespace Pf
open PySem PySem.Spec PyProof.Rows L2 L3
section
variable {P : Pm} {Pr : Program} {w : World} {mg : Str → Option Value} {base : Heap}
theorem m__law_tried (T : T0 P mg base w) : mg "_law_tried" = some (.ref (He.ga P.K "_law_tried")) := T.glo 0 rfl
theorem F__law_tried (T : T0 P mg base w) : FunD P.K "_law_tried" "_law_tried" (defArgs s__law_tried) (defBody s__law_tried) (defScope s__law_tried) [] [] (He.ga P.K "_law_tried") (fdOf P.K ("_law_tried", none)) := T.fun_ 0 rfl
theorem m__law_bag (T : T0 P mg base w) : mg "_law_bag" = some (.ref (He.ga P.K "_law_bag")) := T.glo 1 rfl
theorem F__law_bag (T : T0 P mg base w) : FunD P.K "_law_bag" "_law_bag" (defArgs s__law_bag) (defBody s__law_bag) (defScope s__law_bag) [] [] (He.ga P.K "_law_bag") (fdOf P.K ("_law_bag", none)) := T.fun_ 1 rfl
theorem bd__law_bag (T : T0 P mg base w) : Binds P.K (fdOf P.K ("_law_bag", none)) ["_law_script"] [] := (F__law_bag T).bindsN fun _ _ _ _ _ _ us hl => match us, hl with | [_], _ => rfl
theorem m__law_pull (T : T0 P mg base w) : mg "_law_pull" = some (.ref (He.ga P.K "_law_pull")) := T.glo 2 rfl
theorem F__law_pull (T : T0 P mg base w) : FunD P.K "_law_pull" "_law_pull" (defArgs s__law_pull) (defBody s__law_pull) (defScope s__law_pull) [] [] (He.ga P.K "_law_pull") (fdOf P.K ("_law_pull", none)) := T.fun_ 2 rfl
theorem bd__law_pull (T : T0 P mg base w) : Binds P.K (fdOf P.K ("_law_pull", none)) ["_law_bag_here", "_law_sides"] [] := (F__law_pull T).bindsN fun _ _ _ _ _ _ us hl => match us, hl with | [_, _], _ => rfl
theorem m__law_gcd (T : T0 P mg base w) : mg "_law_gcd" = some (.ref (He.ga P.K "_law_gcd")) := T.glo 3 rfl
theorem F__law_gcd (T : T0 P mg base w) : FunD P.K "_law_gcd" "_law_gcd" (defArgs s__law_gcd) (defBody s__law_gcd) (defScope s__law_gcd) [] [] (He.ga P.K "_law_gcd") (fdOf P.K ("_law_gcd", none)) := T.fun_ 3 rfl
theorem bd__law_gcd (T : T0 P mg base w) : Binds P.K (fdOf P.K ("_law_gcd", none)) ["_law_one", "_law_other"] [] := (F__law_gcd T).bindsN fun _ _ _ _ _ _ us hl => match us, hl with | [_, _], _ => rfl
theorem m__law_fr (T : T0 P mg base w) : mg "_law_fr" = some (.ref (He.ga P.K "_law_fr")) := T.glo 4 rfl
theorem F__law_fr (T : T0 P mg base w) : FunD P.K "_law_fr" "_law_fr" (defArgs s__law_fr) (defBody s__law_fr) (defScope s__law_fr) [] [] (He.ga P.K "_law_fr") (fdOf P.K ("_law_fr", none)) := T.fun_ 4 rfl
theorem bd__law_fr (T : T0 P mg base w) : Binds P.K (fdOf P.K ("_law_fr", none)) ["_law_top", "_law_bottom"] [] := (F__law_fr T).bindsN fun _ _ _ _ _ _ us hl => match us, hl with | [_, _], _ => rfl
theorem m__law_light (T : T0 P mg base w) : mg "_law_light" = some (.ref (He.ga P.K "_law_light")) := T.glo 5 rfl
theorem F__law_light (T : T0 P mg base w) : FunD P.K "_law_light" "_law_light" (defArgs s__law_light) (defBody s__law_light) (defScope s__law_light) [] [] (He.ga P.K "_law_light") (fdOf P.K ("_law_light", none)) := T.fun_ 5 rfl
theorem bd__law_light (T : T0 P mg base w) : Binds P.K (fdOf P.K ("_law_light", none)) ["_law_bag_here"] [] := (F__law_light T).bindsN fun _ _ _ _ _ _ us hl => match us, hl with | [_], _ => rfl
theorem m__law_grid (T : T0 P mg base w) : mg "_law_grid" = some (.ref (He.ga P.K "_law_grid")) := T.glo 6 rfl
theorem F__law_grid (T : T0 P mg base w) : FunD P.K "_law_grid" "_law_grid" (defArgs s__law_grid) (defBody s__law_grid) (defScope s__law_grid) [] [] (He.ga P.K "_law_grid") (fdOf P.K ("_law_grid", none)) := T.fun_ 6 rfl
theorem bd__law_grid (T : T0 P mg base w) : Binds P.K (fdOf P.K ("_law_grid", none)) ["_law_bag_here", "_law_size"] [] := (F__law_grid T).bindsN fun _ _ _ _ _ _ us hl => match us, hl with | [_, _], _ => rfl
theorem m__law_share (T : T0 P mg base w) : mg "_law_share" = some (.ref (He.ga P.K "_law_share")) := T.glo 7 rfl
theorem F__law_share (T : T0 P mg base w) : FunD P.K "_law_share" "_law_share" (defArgs s__law_share) (defBody s__law_share) (defScope s__law_share) [] [] (He.ga P.K "_law_share") (fdOf P.K ("_law_share", none)) := T.fun_ 7 rfl
theorem bd__law_share (T : T0 P mg base w) : Binds P.K (fdOf P.K ("_law_share", none)) ["_law_bag_here"] [] := (F__law_share T).bindsN fun _ _ _ _ _ _ us hl => match us, hl with | [_], _ => rfl
theorem m__law_mul (T : T0 P mg base w) : mg "_law_mul" = some (.ref (He.ga P.K "_law_mul")) := T.glo 8 rfl
theorem F__law_mul (T : T0 P mg base w) : FunD P.K "_law_mul" "_law_mul" (defArgs s__law_mul) (defBody s__law_mul) (defScope s__law_mul) [] [] (He.ga P.K "_law_mul") (fdOf P.K ("_law_mul", none)) := T.fun_ 8 rfl
theorem bd__law_mul (T : T0 P mg base w) : Binds P.K (fdOf P.K ("_law_mul", none)) ["_law_one", "_law_other"] [] := (F__law_mul T).bindsN fun _ _ _ _ _ _ us hl => match us, hl with | [_, _], _ => rfl
theorem m__law_tscale (T : T0 P mg base w) : mg "_law_tscale" = some (.ref (He.ga P.K "_law_tscale")) := T.glo 9 rfl
theorem F__law_tscale (T : T0 P mg base w) : FunD P.K "_law_tscale" "_law_tscale" (defArgs s__law_tscale) (defBody s__law_tscale) (defScope s__law_tscale) [] [] (He.ga P.K "_law_tscale") (fdOf P.K ("_law_tscale", none)) := T.fun_ 9 rfl
theorem bd__law_tscale (T : T0 P mg base w) : Binds P.K (fdOf P.K ("_law_tscale", none)) ["_law_one", "_law_per"] [] := (F__law_tscale T).bindsN fun _ _ _ _ _ _ us hl => match us, hl with | [_, _], _ => rfl
theorem m_need_like (T : T0 P mg base w) : mg "need_like" = some (.ref (He.ga P.K "need_like")) := T.glo 10 rfl
theorem F_need_like (T : T0 P mg base w) : FunD P.K "need_like" "need_like" (defArgs s_need_like) (defBody s_need_like) (defScope s_need_like) [] [] (He.ga P.K "need_like") (fdOf P.K ("need_like", none)) := T.fun_ 10 rfl
theorem bd_need_like (T : T0 P mg base w) : Binds P.K (fdOf P.K ("need_like", none)) ["one", "other"] [] := (F_need_like T).bindsN fun _ _ _ _ _ _ us hl => match us, hl with | [_, _], _ => rfl
theorem m_divisor (T : T0 P mg base w) : mg "divisor" = some (.ref (He.ga P.K "divisor")) := T.glo 11 rfl
theorem F_divisor (T : T0 P mg base w) : FunD P.K "divisor" "divisor" (defArgs s_divisor) (defBody s_divisor) (defScope s_divisor) [] [] (He.ga P.K "divisor") (fdOf P.K ("divisor", none)) := T.fun_ 11 rfl
theorem bd_divisor (T : T0 P mg base w) : Binds P.K (fdOf P.K ("divisor", none)) ["one", "other"] [] := (F_divisor T).bindsN fun _ _ _ _ _ _ us hl => match us, hl with | [_, _], _ => rfl
theorem m_share (T : T0 P mg base w) : mg "share" = some (.ref (He.ga P.K "share")) := T.glo 12 rfl
theorem F_share (T : T0 P mg base w) : FunD P.K "share" "share" (defArgs s_share) (defBody s_share) (defScope s_share) [.int 1] [] (He.ga P.K "share") (fdOf P.K ("share", none)) := T.fun_ 12 rfl
theorem bd_share_2 (T : T0 P mg base w) : ∃ ds, Vals (([.int 1] : List V).drop 1) ds ∧ Binds P.K (fdOf P.K ("share", none)) ["top", "bottom"] ds := (F_share T).binds1 2 1 (by simp) rfl fun _ _ _ _ _ _ _ us its hl hi => match us, hl, its, hi with | [_, _], _, [_], _ => ⟨_, rfl, rfl⟩
theorem bd_share (T : T0 P mg base w) : Binds P.K (fdOf P.K ("share", none)) ["top", "bottom"] [] := by
  obtain ⟨ds, h1, h2⟩ := bd_share_2 T
  cases h1
  exact h2
theorem m_plus (T : T0 P mg base w) : mg "plus" = some (.ref (He.ga P.K "plus")) := T.glo 13 rfl
theorem F_plus (T : T0 P mg base w) : FunD P.K "plus" "plus" (defArgs s_plus) (defBody s_plus) (defScope s_plus) [] [] (He.ga P.K "plus") (fdOf P.K ("plus", none)) := T.fun_ 13 rfl
theorem bd_plus (T : T0 P mg base w) : Binds P.K (fdOf P.K ("plus", none)) ["one", "other"] [] := (F_plus T).bindsN fun _ _ _ _ _ _ us hl => match us, hl with | [_, _], _ => rfl
theorem m_added (T : T0 P mg base w) : mg "added" = some (.ref (He.ga P.K "added")) := T.glo 14 rfl
theorem F_added (T : T0 P mg base w) : FunD P.K "added" "added" (defArgs s_added) (defBody s_added) (defScope s_added) [] [] (He.ga P.K "added") (fdOf P.K ("added", none)) := T.fun_ 14 rfl
theorem bd_added (T : T0 P mg base w) : Binds P.K (fdOf P.K ("added", none)) ["one", "other"] [] := (F_added T).bindsN fun _ _ _ _ _ _ us hl => match us, hl with | [_, _], _ => rfl
theorem m_less (T : T0 P mg base w) : mg "less" = some (.ref (He.ga P.K "less")) := T.glo 15 rfl
theorem F_less (T : T0 P mg base w) : FunD P.K "less" "less" (defArgs s_less) (defBody s_less) (defScope s_less) [] [] (He.ga P.K "less") (fdOf P.K ("less", none)) := T.fun_ 15 rfl
theorem bd_less (T : T0 P mg base w) : Binds P.K (fdOf P.K ("less", none)) ["one", "other"] [] := (F_less T).bindsN fun _ _ _ _ _ _ us hl => match us, hl with | [_, _], _ => rfl
theorem m_taken (T : T0 P mg base w) : mg "taken" = some (.ref (He.ga P.K "taken")) := T.glo 16 rfl
theorem F_taken (T : T0 P mg base w) : FunD P.K "taken" "taken" (defArgs s_taken) (defBody s_taken) (defScope s_taken) [] [] (He.ga P.K "taken") (fdOf P.K ("taken", none)) := T.fun_ 16 rfl
theorem bd_taken (T : T0 P mg base w) : Binds P.K (fdOf P.K ("taken", none)) ["one", "other"] [] := (F_taken T).bindsN fun _ _ _ _ _ _ us hl => match us, hl with | [_, _], _ => rfl
theorem m_multiple (T : T0 P mg base w) : mg "multiple" = some (.ref (He.ga P.K "multiple")) := T.glo 17 rfl
theorem F_multiple (T : T0 P mg base w) : FunD P.K "multiple" "multiple" (defArgs s_multiple) (defBody s_multiple) (defScope s_multiple) [] [] (He.ga P.K "multiple") (fdOf P.K ("multiple", none)) := T.fun_ 17 rfl
theorem bd_multiple (T : T0 P mg base w) : Binds P.K (fdOf P.K ("multiple", none)) ["numbers"] [] := (F_multiple T).bindsN fun _ _ _ _ _ _ us hl => match us, hl with | [_], _ => rfl
theorem m_wholes (T : T0 P mg base w) : mg "wholes" = some (.ref (He.ga P.K "wholes")) := T.glo 18 rfl
theorem F_wholes (T : T0 P mg base w) : FunD P.K "wholes" "wholes" (defArgs s_wholes) (defBody s_wholes) (defScope s_wholes) [] [] (He.ga P.K "wholes") (fdOf P.K ("wholes", none)) := T.fun_ 18 rfl
theorem bd_wholes (T : T0 P mg base w) : Binds P.K (fdOf P.K ("wholes", none)) ["row"] [] := (F_wholes T).bindsN fun _ _ _ _ _ _ us hl => match us, hl with | [_], _ => rfl
theorem m_as_wholes (T : T0 P mg base w) : mg "as_wholes" = some (.ref (He.ga P.K "as_wholes")) := T.glo 19 rfl
theorem F_as_wholes (T : T0 P mg base w) : FunD P.K "as_wholes" "as_wholes" (defArgs s_as_wholes) (defBody s_as_wholes) (defScope s_as_wholes) [] [] (He.ga P.K "as_wholes") (fdOf P.K ("as_wholes", none)) := T.fun_ 19 rfl
theorem bd_as_wholes (T : T0 P mg base w) : Binds P.K (fdOf P.K ("as_wholes", none)) ["one"] [] := (F_as_wholes T).bindsN fun _ _ _ _ _ _ us hl => match us, hl with | [_], _ => rfl
theorem m_as_shares (T : T0 P mg base w) : mg "as_shares" = some (.ref (He.ga P.K "as_shares")) := T.glo 20 rfl
theorem F_as_shares (T : T0 P mg base w) : FunD P.K "as_shares" "as_shares" (defArgs s_as_shares) (defBody s_as_shares) (defScope s_as_shares) [] [] (He.ga P.K "as_shares") (fdOf P.K ("as_shares", none)) := T.fun_ 20 rfl
theorem bd_as_shares (T : T0 P mg base w) : Binds P.K (fdOf P.K ("as_shares", none)) ["rows", "below"] [] := (F_as_shares T).bindsN fun _ _ _ _ _ _ us hl => match us, hl with | [_, _], _ => rfl
theorem m_product (T : T0 P mg base w) : mg "product" = some (.ref (He.ga P.K "product")) := T.glo 21 rfl
theorem F_product (T : T0 P mg base w) : FunD P.K "product" "product" (defArgs s_product) (defBody s_product) (defScope s_product) [] [] (He.ga P.K "product") (fdOf P.K ("product", none)) := T.fun_ 21 rfl
theorem bd_product (T : T0 P mg base w) : Binds P.K (fdOf P.K ("product", none)) ["one", "other"] [] := (F_product T).bindsN fun _ _ _ _ _ _ us hl => match us, hl with | [_, _], _ => rfl
theorem m_times (T : T0 P mg base w) : mg "times" = some (.ref (He.ga P.K "times")) := T.glo 22 rfl
theorem F_times (T : T0 P mg base w) : FunD P.K "times" "times" (defArgs s_times) (defBody s_times) (defScope s_times) [] [] (He.ga P.K "times") (fdOf P.K ("times", none)) := T.fun_ 22 rfl
theorem bd_times (T : T0 P mg base w) : Binds P.K (fdOf P.K ("times", none)) ["one", "other"] [] := (F_times T).bindsN fun _ _ _ _ _ _ us hl => match us, hl with | [_, _], _ => rfl
theorem m_scaled (T : T0 P mg base w) : mg "scaled" = some (.ref (He.ga P.K "scaled")) := T.glo 23 rfl
theorem F_scaled (T : T0 P mg base w) : FunD P.K "scaled" "scaled" (defArgs s_scaled) (defBody s_scaled) (defScope s_scaled) [] [] (He.ga P.K "scaled") (fdOf P.K ("scaled", none)) := T.fun_ 23 rfl
theorem bd_scaled (T : T0 P mg base w) : Binds P.K (fdOf P.K ("scaled", none)) ["one", "by"] [] := (F_scaled T).bindsN fun _ _ _ _ _ _ us hl => match us, hl with | [_, _], _ => rfl
theorem m__law_add (T : T0 P mg base w) : mg "_law_add" = some (.ref (He.ga P.K "_law_add")) := T.glo 24 rfl
theorem F__law_add (T : T0 P mg base w) : FunD P.K "_law_add" "_law_add" (defArgs s__law_add) (defBody s__law_add) (defScope s__law_add) [] [] (He.ga P.K "_law_add") (fdOf P.K ("_law_add", none)) := T.fun_ 24 rfl
theorem bd__law_add (T : T0 P mg base w) : Binds P.K (fdOf P.K ("_law_add", none)) ["_law_one", "_law_other"] [] := (F__law_add T).bindsN fun _ _ _ _ _ _ us hl => match us, hl with | [_, _], _ => rfl
theorem m__law_tadd (T : T0 P mg base w) : mg "_law_tadd" = some (.ref (He.ga P.K "_law_tadd")) := T.glo 25 rfl
theorem F__law_tadd (T : T0 P mg base w) : FunD P.K "_law_tadd" "_law_tadd" (defArgs s__law_tadd) (defBody s__law_tadd) (defScope s__law_tadd) [] [] (He.ga P.K "_law_tadd") (fdOf P.K ("_law_tadd", none)) := T.fun_ 25 rfl
theorem bd__law_tadd (T : T0 P mg base w) : Binds P.K (fdOf P.K ("_law_tadd", none)) ["_law_one", "_law_other"] [] := (F__law_tadd T).bindsN fun _ _ _ _ _ _ us hl => match us, hl with | [_, _], _ => rfl
theorem m__law_dot (T : T0 P mg base w) : mg "_law_dot" = some (.ref (He.ga P.K "_law_dot")) := T.glo 26 rfl
theorem F__law_dot (T : T0 P mg base w) : FunD P.K "_law_dot" "_law_dot" (defArgs s__law_dot) (defBody s__law_dot) (defScope s__law_dot) [] [] (He.ga P.K "_law_dot") (fdOf P.K ("_law_dot", none)) := T.fun_ 26 rfl
theorem bd__law_dot (T : T0 P mg base w) : Binds P.K (fdOf P.K ("_law_dot", none)) ["_law_row", "_law_column"] [] := (F__law_dot T).bindsN fun _ _ _ _ _ _ us hl => match us, hl with | [_, _], _ => rfl
theorem m__law_tmul (T : T0 P mg base w) : mg "_law_tmul" = some (.ref (He.ga P.K "_law_tmul")) := T.glo 27 rfl
theorem F__law_tmul (T : T0 P mg base w) : FunD P.K "_law_tmul" "_law_tmul" (defArgs s__law_tmul) (defBody s__law_tmul) (defScope s__law_tmul) [] [] (He.ga P.K "_law_tmul") (fdOf P.K ("_law_tmul", none)) := T.fun_ 27 rfl
theorem bd__law_tmul (T : T0 P mg base w) : Binds P.K (fdOf P.K ("_law_tmul", none)) ["_law_one", "_law_other"] [] := (F__law_tmul T).bindsN fun _ _ _ _ _ _ us hl => match us, hl with | [_, _], _ => rfl
theorem m__law_same (T : T0 P mg base w) : mg "_law_same" = some (.ref (He.ga P.K "_law_same")) := T.glo 28 rfl
theorem F__law_same (T : T0 P mg base w) : FunD P.K "_law_same" "_law_same" (defArgs s__law_same) (defBody s__law_same) (defScope s__law_same) [] [] (He.ga P.K "_law_same") (fdOf P.K ("_law_same", none)) := T.fun_ 28 rfl
theorem bd__law_same (T : T0 P mg base w) : Binds P.K (fdOf P.K ("_law_same", none)) ["_law_found", "_law_due"] [] := (F__law_same T).bindsN fun _ _ _ _ _ _ us hl => match us, hl with | [_, _], _ => rfl
theorem m_corners (T : T0 P mg base w) : mg "corners" = some (.ref (He.ga P.K "corners")) := T.glo 29 rfl
theorem F_corners (T : T0 P mg base w) : FunD P.K "corners" "corners" (defArgs s_corners) (defBody s_corners) (defScope s_corners) [] [] (He.ga P.K "corners") (fdOf P.K ("corners", none)) := T.fun_ 29 rfl
theorem bd_corners (T : T0 P mg base w) : Binds P.K (fdOf P.K ("corners", none)) ["one", "other"] [] := (F_corners T).bindsN fun _ _ _ _ _ _ us hl => match us, hl with | [_, _], _ => rfl
theorem F_law (T : T0 P mg base w) : FunD P.K "law" "law" (defArgs s_law) (defBody s_law) (defScope s_law) [] [] (He.ga P.K "law") (fdOf P.K ("law", none)) := T.fun_ 30 rfl
theorem Fx_ByNought (T : T0 P mg base w) : FunD P.K "__init__" "ByNought.__init__" (defArgs sx_ByNought) (defBody sx_ByNought) (defScope sx_ByNought) [] [] (He.ma P.K (He.ga P.K "ByNought") "__init__") (fdOf P.K ("ByNought", some "__init__")) := T.fun_ 31 rfl
theorem bx_ByNought (T : T0 P mg base w) : Binds P.K (fdOf P.K ("ByNought", some "__init__")) ["self"] [] := (Fx_ByNought T).bindsN fun _ _ _ _ _ _ us hl => match us, hl with | [_], _ => rfl
theorem m_ByNought (T : T0 P mg base w) : mg "ByNought" = some (.ref (He.ga P.K "ByNought")) := T.glo 31 rfl
theorem o_ByNought (T : T0 P mg base w) : OexC P.K (He.ga P.K "ByNought") := (T.exc 0 rfl).1
theorem fx_ByNought (T : T0 P mg base w) : ∀ f ∈ (["word"] : List Str), PySem.W.findIn P.K (.ref (He.ga P.K "ByNought")) f = some none := (T.exc 0 rfl).2.1
theorem i_ByNought (T : T0 P mg base w) : PySem.W.findIn P.K (.ref (He.ga P.K "ByNought")) "__init__" = some (some (.ref (He.ma P.K (He.ga P.K "ByNought") "__init__"))) := (T.exc 0 rfl).2.2.1
theorem t_ByNought (T : T0 P mg base w) : PySem.W.typeIn P.K (.ref (He.ma P.K (He.ga P.K "ByNought") "__init__")) = some (.type "function") := (T.exc 0 rfl).2.2.2
theorem cl_ByNought (T : T0 P mg base w) : P.cls "ByNought" = some (He.ga P.K "ByNought") := T.clsOf (by decide +kernel)
theorem okx_ByNought (T : T0 P mg base w) : FnOk Pr w P.K mg base (L2.CX Pr w) 1 (He.ma P.K (He.ga P.K "ByNought") "__init__") (fdOf P.K ("ByNought", some "__init__")) ["self"] (spXI P.K 0 ["word"] (fun _ => [.str "ByNought"])) := xinit0 (Fx_ByNought T) scx_ByNought rfl
theorem Fx_Unfit (T : T0 P mg base w) : FunD P.K "__init__" "Unfit.__init__" (defArgs sx_Unfit) (defBody sx_Unfit) (defScope sx_Unfit) [] [] (He.ma P.K (He.ga P.K "Unfit") "__init__") (fdOf P.K ("Unfit", some "__init__")) := T.fun_ 32 rfl
theorem bx_Unfit (T : T0 P mg base w) : Binds P.K (fdOf P.K ("Unfit", some "__init__")) ["self"] [] := (Fx_Unfit T).bindsN fun _ _ _ _ _ _ us hl => match us, hl with | [_], _ => rfl
theorem m_Unfit (T : T0 P mg base w) : mg "Unfit" = some (.ref (He.ga P.K "Unfit")) := T.glo 32 rfl
theorem o_Unfit (T : T0 P mg base w) : OexC P.K (He.ga P.K "Unfit") := (T.exc 1 rfl).1
theorem fx_Unfit (T : T0 P mg base w) : ∀ f ∈ (["word"] : List Str), PySem.W.findIn P.K (.ref (He.ga P.K "Unfit")) f = some none := (T.exc 1 rfl).2.1
theorem i_Unfit (T : T0 P mg base w) : PySem.W.findIn P.K (.ref (He.ga P.K "Unfit")) "__init__" = some (some (.ref (He.ma P.K (He.ga P.K "Unfit") "__init__"))) := (T.exc 1 rfl).2.2.1
theorem t_Unfit (T : T0 P mg base w) : PySem.W.typeIn P.K (.ref (He.ma P.K (He.ga P.K "Unfit") "__init__")) = some (.type "function") := (T.exc 1 rfl).2.2.2
theorem cl_Unfit (T : T0 P mg base w) : P.cls "Unfit" = some (He.ga P.K "Unfit") := T.clsOf (by decide +kernel)
theorem okx_Unfit (T : T0 P mg base w) : FnOk Pr w P.K mg base (L2.CX Pr w) 1 (He.ma P.K (He.ga P.K "Unfit") "__init__") (fdOf P.K ("Unfit", some "__init__")) ["self"] (spXI P.K 0 ["word"] (fun _ => [.str "Unfit"])) := xinit0 (Fx_Unfit T) scx_Unfit rfl
theorem z_abs (T : T0 P mg base w) : mg "abs" = none := T.free 33 rfl
theorem z_all (T : T0 P mg base w) : mg "all" = none := T.free 34 rfl
theorem z_bool (T : T0 P mg base w) : mg "bool" = none := T.free 35 rfl
theorem z_int (T : T0 P mg base w) : mg "int" = none := T.free 36 rfl
theorem z_isinstance (T : T0 P mg base w) : mg "isinstance" = none := T.free 37 rfl
theorem z_len (T : T0 P mg base w) : mg "len" = none := T.free 38 rfl
theorem z_list (T : T0 P mg base w) : mg "list" = none := T.free 39 rfl
theorem z_range (T : T0 P mg base w) : mg "range" = none := T.free 40 rfl
theorem z_repr (T : T0 P mg base w) : mg "repr" = none := T.free 41 rfl
theorem z_str (T : T0 P mg base w) : mg "str" = none := T.free 42 rfl
theorem z_sum (T : T0 P mg base w) : mg "sum" = none := T.free 43 rfl
theorem z_tuple (T : T0 P mg base w) : mg "tuple" = none := T.free 44 rfl
theorem z_zip (T : T0 P mg base w) : mg "zip" = none := T.free 45 rfl
def hd__law_tried : List ExceptHandler := match defBody s__law_tried with
  | [.Try _ h _ _ _] => h
  | _ => []
theorem ask__law_tried : AskH "e" hd__law_tried hs__law_tried := (.one .w (.one .w .nil))
theorem hC__law_tried (T : T0 P mg base w) : ∀ q ∈ hs__law_tried, q.1.length ≤ 100 ∧ ∀ x ∈ q.1, (defScope s__law_tried).names.lookup x = some .globalImplicit ∧ (x == ("__debug__" : Str)) = false ∧ mg x = some (.ref (He.ga P.K x)) := hC_of (fa := fa) T (by decide +kernel)
theorem n_ONE (T : T0 P mg base w) {W : WX} {X : Cx} {pos : Pos} (hmg : X.mg = mg := by rfl) (hg : Gl X "ONE" := by rfl) : VE P W X (.Name "ONE" pos) (eC (.tup [.int 1, .int 1])) := T.name 0 rfl hmg hg
theorem n_NOUGHT (T : T0 P mg base w) {W : WX} {X : Cx} {pos : Pos} (hmg : X.mg = mg := by rfl) (hg : Gl X "NOUGHT" := by rfl) : VE P W X (.Name "NOUGHT" pos) (eC (.tup [.int 0, .int 1])) := T.name 1 rfl hmg hg
theorem tb_law (T : T0 P mg base w) : LamX.TabB base mg (He.cT P.K ("law", none)).1 (He.cT P.K ("law", none)).2 := T.tb _ (List.mem_of_getElem? (i := 0) rfl)
theorem tm_law (T : T0 P mg base w) : ((He.cT P.K ("law", none)).2, (("law" : Str) ++ (".<locals>." : Str) ++ ("<lambda>" : Str))) ∈ P.T := T.tm 0 rfl rfl
theorem tu_law (T : T0 P mg base w) : ∀ p ∈ P.T, p.1 = (He.cT P.K ("law", none)).2 → p.2 = (("law" : Str) ++ (".<locals>." : Str) ++ ("<lambda>" : Str)) := T.tu 0 rfl rfl
theorem ok__law_bag__1 (T : T0 P mg base w) : FnOk Pr w P.K mg base (L2.CX Pr w) 1 (He.ga P.K "_law_bag") (fdOf P.K ("_law_bag", none)) ["_law_script"] (spF P 1 f__law_bag__1) := by
  unfold f__law_bag__1
  exact fn_ok (F__law_bag T) sc__law_bag rfl fun cdv A outer s H E hr => (vss_cons (vs_set (i := 1) sc__law_bag.nd rfl (by first | exact Or.inl rfl | exact Or.inr rfl) ve_int)
    (vss_cons (vs_for (passes_of rfl) rfl (vi_any rfl (ve_slG sl3 (ss_sl3 rfl) (vv 0) vo_none (vo_some ve_int))) (vg_name (i := 2) sc__law_bag.nd rfl (by first | exact Or.inl rfl | exact Or.inr rfl)) (vss_one (vs_set (i := 1) sc__law_bag.nd rfl (by first | exact Or.inl rfl | exact Or.inr rfl) (ve_bin op_modN os_mod (ve_bin op_add4 (os_add rfl) (ve_bin op_add4 (os_add rfl) (ve_bin op_mul2 os_mul (vv 1) ve_int) (ve_bin op_modN os_mod (vv 2) ve_int)) ve_int) ve_int))))
    (vss_one (vs_ret (ve_lstC (va_cons (ve_callTy call_list_of (cs_listOf rfl) rfl (z_list T) (by decide +kernel) (va_cons (ve_slG sl3 (ss_sl3 rfl) (vv 0) vo_none (vo_some ve_int)) va_nil)) (va_cons ve_int (va_cons ve_int (va_cons (vv 1) (va_cons ve_int va_nil))))))))))
theorem ok__law_pull (T : T0 P mg base w) : FnOk Pr w P.K mg base (L2.CX Pr w) 1 (He.ga P.K "_law_pull") (fdOf P.K ("_law_pull", none)) ["_law_bag_here", "_law_sides"] (spF P 2 f__law_pull) := by
  unfold f__law_pull
  exact fn_ok (F__law_pull T) sc__law_pull rfl fun cdv A outer s H E hr => (vss_cons (vs_if (vt_w (vw_and (vt_cmp (op_eqD hr.units) (os_eq rfl) (ve_ix rfl (vv 0) ve_int) ve_int (nomark _)) (vw_and1 (vt_cmp op_lt os_lt (ve_ix rfl (vv 0) ve_int) (ve_callB call_len (cs_len rfl) rfl (z_len T) (by decide +kernel) (va_cons (ve_ix rfl (vv 0) ve_int) va_nil)) (nomark _))))) (vss_cons (vs_set (i := 2) sc__law_pull.nd rfl (by first | exact Or.inl rfl | exact Or.inr rfl) (ve_ix rfl (ve_ix rfl (vv 0) ve_int) (ve_ix rfl (vv 0) ve_int)))
    (vss_cons (vs_sub (ve_bin op_add4 (os_add rfl) (ve_ix rfl (vv 0) ve_int) ve_int) (vv 0) ve_int)
    (vss_one (vs_if (vt_cmp op_ge os_ge (vv 2) (ve_bin op_pow os_pow ve_int ve_int) (nomark _)) (vss_one (vs_sub (vv 2) (vv 0) ve_int)) (vss_one (vs_sub (ve_bin op_modN os_mod (ve_bin op_add4 (os_add rfl) (ve_bin op_add4 (os_add rfl) (ve_bin op_mul2 os_mul (ve_ix rfl (vv 0) ve_int) ve_int) (ve_bin op_modN os_mod (vv 2) ve_int)) ve_int) ve_int) (vv 0) ve_int)))))) vss_nil)
    (vss_cons (vs_if (vt_cmp op_gt os_gt (ve_ix rfl (vv 0) ve_int) ve_int (nomark _)) (vss_cons (vs_set (i := 3) sc__law_pull.nd rfl (by first | exact Or.inl rfl | exact Or.inr rfl) (ve_bin op_modN os_mod (ve_ix rfl (vv 0) ve_int) (vv 1)))
    (vss_cons (vs_sub (ve_bin op_fdivP os_fdiv (ve_ix rfl (vv 0) ve_int) (vv 1)) (vv 0) ve_int)
    (vss_one (vs_ret (vv 3))))) vss_nil)
    (vss_cons (vs_sub (ve_bin op_add4 (os_add rfl) (ve_ix rfl (vv 0) ve_int) ve_int) (vv 0) ve_int)
    (vss_cons (vs_set (i := 4) sc__law_pull.nd rfl (by first | exact Or.inl rfl | exact Or.inr rfl) (ve_bin op_modN os_mod (ve_bin op_add4 (os_add rfl) (ve_ix rfl (vv 0) ve_int) (ve_bin op_mul2 os_mul (ve_ix rfl (vv 0) ve_int) ve_int)) ve_int))
    (vss_cons (vs_sub (ve_bin op_modN os_mod (ve_bin op_add4 (os_add rfl) (ve_bin op_add4 (os_add rfl) (ve_bin op_mul2 os_mul (ve_bin op_modN os_mod (ve_bin op_mul2 os_mul (vv 4) (vv 4)) ve_int) (ve_bin op_add4 (os_add rfl) (ve_bin op_modN os_mod (vv 4) ve_int) ve_int)) (ve_bin op_mul2 os_mul ve_int (vv 4))) ve_int) ve_int) (vv 0) ve_int)
    (vss_one (vs_ret (ve_bin op_modN os_mod (ve_bin op_add4 (os_add rfl) (ve_bin op_fdivP os_fdiv (ve_ix rfl (vv 0) ve_int) ve_int) (ve_bin op_mul2 os_mul (ve_bin op_modN os_mod (ve_ix rfl (vv 0) ve_int) ve_int) ve_int)) (vv 1)))))))))
theorem ok__law_gcd (T : T0 P mg base w) : FnOk Pr w P.K mg base (L2.CX Pr w) 1 (He.ga P.K "_law_gcd") (fdOf P.K ("_law_gcd", none)) ["_law_one", "_law_other"] (spF P 2 f__law_gcd) := by
  unfold f__law_gcd
  exact fn_ok (F__law_gcd T) sc__law_gcd rfl fun cdv A outer s H E hr => (vss_cons (vs_while (passes_of rfl) (vt_cmp (op_neD hr.units) (os_ne rfl) (vv 1) ve_int (nomark _)) (vss_one (vs_par (i := 0) (j := 1) rfl sc__law_gcd.nd rfl rfl (by decide) rfl rfl (va_cons (vv 1) (va_cons (ve_bin op_modN os_mod (vv 0) (vv 1)) va_nil)) (by rfl))))
    (vss_one (vs_ret (ve_callB call_abs cs_abs rfl (z_abs T) (by decide +kernel) (va_cons (vv 0) va_nil)))))
theorem ok__law_fr (T : T0 P mg base w) : FnOk Pr w P.K mg base (L2.CX Pr w) 2 (He.ga P.K "_law_fr") (fdOf P.K ("_law_fr", none)) ["_law_top", "_law_bottom"] (spF P 2 f__law_fr) := by
  unfold f__law_fr
  exact fn_ok (F__law_fr T) sc__law_fr rfl fun cdv A outer s H E hr => (vss_cons (vs_set (i := 2) sc__law_fr.nd rfl (by first | exact Or.inl rfl | exact Or.inr rfl) (ve_call (ok__law_gcd T) (hr.mono (by omega)) rfl (m__law_gcd T) (F__law_gcd T).kp (bd__law_gcd T) (takes_of rfl rfl rfl rfl) (va_cons (vv 0) (va_cons (vv 1) va_nil))))
    (vss_cons (vs_set (i := 2) sc__law_fr.nd rfl (by first | exact Or.inl rfl | exact Or.inr rfl) (ve_if (vt_cmp op_lt os_lt (vv 1) ve_int (nomark _)) (ve_bin op_sub os_sub ve_int (vv 2)) (vv 2)))
    (vss_one (vs_ret (ve_tup (va_cons (ve_bin op_fdivP os_fdiv (vv 0) (vv 2)) (va_cons (ve_bin op_fdivP os_fdiv (vv 1) (vv 2)) va_nil)))))))
theorem ok__law_light (T : T0 P mg base w) : FnOk Pr w P.K mg base (L2.CX Pr w) 3 (He.ga P.K "_law_light") (fdOf P.K ("_law_light", none)) ["_law_bag_here"] (spF P 1 f__law_light) := by
  unfold f__law_light
  exact fn_ok (F__law_light T) sc__law_light rfl fun cdv A outer s H E hr => (vss_one (vs_ret (ve_call (ok__law_fr T) (hr.mono (by omega)) rfl (m__law_fr T) (F__law_fr T).kp (bd__law_fr T) (takes_of rfl rfl rfl rfl) (va_cons (ve_bin op_sub os_sub (ve_call (ok__law_pull T) (hr.mono (by omega)) rfl (m__law_pull T) (F__law_pull T).kp (bd__law_pull T) (takes_of rfl rfl rfl rfl) (va_cons (vv 0) (va_cons ve_int va_nil))) ve_int) (va_cons (ve_ix rfl (ve_lst (va_cons ve_int (va_cons ve_int (va_cons ve_int (va_cons ve_int (va_cons ve_int (va_cons ve_int va_nil))))))) (ve_call (ok__law_pull T) (hr.mono (by omega)) rfl (m__law_pull T) (F__law_pull T).kp (bd__law_pull T) (takes_of rfl rfl rfl rfl) (va_cons (vv 0) (va_cons ve_int va_nil)))) va_nil)))))
theorem ok__law_grid__2 (T : T0 P mg base w) : FnOk Pr w P.K mg base (L2.CX Pr w) 4 (He.ga P.K "_law_grid") (fdOf P.K ("_law_grid", none)) ["_law_bag_here", "_law_size"] (spF P 2 f__law_grid__2) := by
  unfold f__law_grid__2
  exact fn_ok (F__law_grid T) sc__law_grid rfl fun cdv A outer s H E hr => (vss_one (vs_ret (ve_lcC (own := [("_law_row", 2)]) rfl sc__law_grid.nd (vi_range1 rfl (z_range T) (va_cons (vv 1) va_nil)) (blkOk_by (by kernel_rfl)) (fun _ _ _ _ _ => (vg_name (i := 2) sc__law_grid.nd rfl (by first | exact Or.inl rfl | exact Or.inr rfl))) (fun _ _ _ _ _ => vts_nil) (fun _ _ _ _ _ => (ve_lcC (own := [("_law_column", 3)]) rfl sc__law_grid.nd (vi_range1 rfl (z_range T) (va_cons (vv 1) va_nil)) (blkOk_by (by kernel_rfl)) (fun _ _ _ _ _ => (vg_name (i := 3) sc__law_grid.nd rfl (by first | exact Or.inl rfl | exact Or.inr rfl))) (fun _ _ _ _ _ => vts_nil) (fun _ _ _ _ _ => (ve_call (ok__law_light T) (hr.mono (by omega)) rfl (m__law_light T) (F__law_light T).kp (bd__law_light T) L2.takes0 (va_cons (vv 0) va_nil))))))))
theorem ok__law_grid (T : T0 P mg base w) : FnOk Pr w P.K mg base (L2.CX Pr w) 4 (He.ga P.K "_law_grid") (fdOf P.K ("_law_grid", none)) ["_law_bag_here", "_law_size"] (spF P 2 f__law_grid) := by
  unfold f__law_grid
  exact fn_ok (F__law_grid T) sc__law_grid rfl fun cdv A outer s H E hr => (vss_one (vs_ret (ve_lc (own := [("_law_row", 2)]) rfl sc__law_grid.nd (vi_range1 rfl (z_range T) (va_cons (vv 1) va_nil)) (blkOk_by (by kernel_rfl)) (fun _ _ _ _ _ => (vg_name (i := 2) sc__law_grid.nd rfl (by first | exact Or.inl rfl | exact Or.inr rfl))) (fun _ _ _ _ _ => vts_nil) (fun _ _ _ _ _ => (ve_lc (own := [("_law_column", 3)]) rfl sc__law_grid.nd (vi_range1 rfl (z_range T) (va_cons (vv 1) va_nil)) (blkOk_by (by kernel_rfl)) (fun _ _ _ _ _ => (vg_name (i := 3) sc__law_grid.nd rfl (by first | exact Or.inl rfl | exact Or.inr rfl))) (fun _ _ _ _ _ => vts_nil) (fun _ _ _ _ _ => (ve_call (ok__law_light T) (hr.mono (by omega)) rfl (m__law_light T) (F__law_light T).kp (bd__law_light T) L2.takes0 (va_cons (vv 0) va_nil))))))))
theorem ok__law_share (T : T0 P mg base w) : FnOk Pr w P.K mg base (L2.CX Pr w) 4 (He.ga P.K "_law_share") (fdOf P.K ("_law_share", none)) ["_law_bag_here"] (spF P 1 f__law_share) := by
  unfold f__law_share
  exact fn_ok (F__law_share T) sc__law_share rfl fun cdv A outer s H E hr => (vss_cons (vs_set (i := 1) sc__law_share.nd rfl (by first | exact Or.inl rfl | exact Or.inr rfl) (ve_call (ok__law_pull T) (hr.mono (by omega)) rfl (m__law_pull T) (F__law_pull T).kp (bd__law_pull T) (takes_of rfl rfl rfl rfl) (va_cons (vv 0) (va_cons ve_int va_nil))))
    (vss_cons (vs_if (vt_cmp (op_eqD hr.units) (os_eq rfl) (vv 1) ve_int (nomark _)) (vss_one (vs_ret (ve_call (ok__law_fr T) (hr.mono (by omega)) rfl (m__law_fr T) (F__law_fr T).kp (bd__law_fr T) (takes_of rfl rfl rfl rfl) (va_cons (ve_bin op_add4 (os_add rfl) (ve_bin op_sub os_sub (ve_call (ok__law_pull T) (hr.mono (by omega)) rfl (m__law_pull T) (F__law_pull T).kp (bd__law_pull T) (takes_of rfl rfl rfl rfl) (va_cons (vv 0) (va_cons (ve_bin op_sub os_sub (ve_bin op_mul2 os_mul ve_int (ve_bin op_pow os_pow ve_int ve_int)) ve_int) va_nil))) (ve_bin op_pow os_pow ve_int ve_int)) ve_int) (va_cons (ve_bin op_add4 (os_add rfl) ve_int (ve_call (ok__law_pull T) (hr.mono (by omega)) rfl (m__law_pull T) (F__law_pull T).kp (bd__law_pull T) (takes_of rfl rfl rfl rfl) (va_cons (vv 0) (va_cons (ve_bin op_sub os_sub (ve_bin op_pow os_pow ve_int ve_int) ve_int) va_nil)))) va_nil))))) vss_nil)
    (vss_cons (vs_if (vt_cmp (op_eqD hr.units) (os_eq rfl) (vv 1) ve_int (nomark _)) (vss_one (vs_ret (ve_call (ok__law_fr T) (hr.mono (by omega)) rfl (m__law_fr T) (F__law_fr T).kp (bd__law_fr T) (takes_of rfl rfl rfl rfl) (va_cons (ve_ix rfl (ve_lst (va_cons (ve_bin op_sub os_sub ve_int (ve_bin op_pow os_pow ve_int ve_int)) (va_cons (ve_bin op_sub os_sub (ve_bin op_pow os_pow ve_int ve_int) ve_int) va_nil))) (ve_call (ok__law_pull T) (hr.mono (by omega)) rfl (m__law_pull T) (F__law_pull T).kp (bd__law_pull T) (takes_of rfl rfl rfl rfl) (va_cons (vv 0) (va_cons ve_int va_nil)))) (va_cons (ve_ix rfl (ve_lst (va_cons ve_int (va_cons (ve_bin op_sub os_sub (ve_bin op_pow os_pow ve_int ve_int) ve_int) (va_cons (ve_bin op_sub os_sub (ve_bin op_pow os_pow ve_int ve_int) ve_int) va_nil)))) (ve_call (ok__law_pull T) (hr.mono (by omega)) rfl (m__law_pull T) (F__law_pull T).kp (bd__law_pull T) (takes_of rfl rfl rfl rfl) (va_cons (vv 0) (va_cons ve_int va_nil)))) va_nil))))) vss_nil)
    (vss_one (vs_ret (ve_call (ok__law_light T) (hr.mono (by omega)) rfl (m__law_light T) (F__law_light T).kp (bd__law_light T) (takes_of rfl rfl rfl rfl) (va_cons (vv 0) va_nil)))))))
theorem ok__law_mul (T : T0 P mg base w) : FnOk Pr w P.K mg base (L2.CX Pr w) 3 (He.ga P.K "_law_mul") (fdOf P.K ("_law_mul", none)) ["_law_one", "_law_other"] (spF P 2 f__law_mul) := by
  unfold f__law_mul
  exact fn_ok (F__law_mul T) sc__law_mul rfl fun cdv A outer s H E hr => (vss_one (vs_ret (ve_call (ok__law_fr T) (hr.mono (by omega)) rfl (m__law_fr T) (F__law_fr T).kp (bd__law_fr T) (takes_of rfl rfl rfl rfl) (va_cons (ve_bin op_mul2 os_mul (ve_ix rfl (vv 0) ve_int) (ve_ix rfl (vv 1) ve_int)) (va_cons (ve_bin op_mul2 os_mul (ve_ix rfl (vv 0) ve_int) (ve_ix rfl (vv 1) ve_int)) va_nil)))))
theorem ok__law_tscale (T : T0 P mg base w) : FnOk Pr w P.K mg base (L2.CX Pr w) 4 (He.ga P.K "_law_tscale") (fdOf P.K ("_law_tscale", none)) ["_law_one", "_law_per"] (spF P 2 f__law_tscale) := by
  unfold f__law_tscale
  exact fn_ok (F__law_tscale T) sc__law_tscale rfl fun cdv A outer s H E hr => (vss_one (vs_ret (ve_lc (own := [("_law_row", 2)]) rfl sc__law_tscale.nd (vi_any rfl (vv 0)) (blkOk_by (by kernel_rfl)) (fun _ _ _ _ _ => (vg_name (i := 2) sc__law_tscale.nd rfl (by first | exact Or.inl rfl | exact Or.inr rfl))) (fun _ _ _ _ _ => vts_nil) (fun _ _ _ _ _ => (ve_lc (own := [("_law_x", 3)]) rfl sc__law_tscale.nd (vi_any rfl (vv 2)) (blkOk_by (by kernel_rfl)) (fun _ _ _ _ _ => (vg_name (i := 3) sc__law_tscale.nd rfl (by first | exact Or.inl rfl | exact Or.inr rfl))) (fun _ _ _ _ _ => vts_nil) (fun _ _ _ _ _ => (ve_call (ok__law_mul T) (hr.mono (by omega)) rfl (m__law_mul T) (F__law_mul T).kp (bd__law_mul T) L2.takes0 (va_cons (vv 3) (va_cons (vv 1) va_nil)))))))))
theorem ok_need_like (T : T0 P mg base w) : FnOk Pr w P.K mg base (L2.CX Pr w) 3 (He.ga P.K "need_like") (fdOf P.K ("need_like", none)) ["one", "other"] (spF P 2 f_need_like) := by
  unfold f_need_like
  exact fn_ok (F_need_like T) sc_need_like rfl fun cdv A outer s H E hr => (vss_one (vs_if (vt_cmp (op_neD hr.units) (os_ne rfl) (ve_callB call_len (cs_len rfl) rfl (z_len T) (by decide +kernel) (va_cons (vv 0) va_nil)) (ve_callB call_len (cs_len rfl) rfl (z_len T) (by decide +kernel) (va_cons (vv 1) va_nil)) (nomark _)) (vss_one (vs_raise0 rfl (takes_of rfl rfl rfl rfl) (o_Unfit T) (i_Unfit T) (t_Unfit T) (okx_Unfit T) (hr.mono (by omega)) (bx_Unfit T) L2.passL rfl (m_Unfit T) xmk0 (fx_Unfit T) (cl_Unfit T))) vss_nil))
theorem ok_divisor (T : T0 P mg base w) : FnOk Pr w P.K mg base (L2.CX Pr w) 1 (He.ga P.K "divisor") (fdOf P.K ("divisor", none)) ["one", "other"] (spF P 2 f_divisor) := by
  unfold f_divisor
  exact fn_ok (F_divisor T) sc_divisor rfl fun cdv A outer s H E hr => (vss_cons (vs_par (i := 0) (j := 1) rfl sc_divisor.nd rfl rfl (by decide) rfl rfl (va_cons (ve_callB call_abs cs_abs rfl (z_abs T) (by decide +kernel) (va_cons (vv 0) va_nil)) (va_cons (ve_callB call_abs cs_abs rfl (z_abs T) (by decide +kernel) (va_cons (vv 1) va_nil)) va_nil)) (by rfl))
    (vss_cons (vs_while (passes_of rfl) (vt_cmp op_gt os_gt (vv 1) ve_int (nomark _)) (vss_one (vs_par (i := 0) (j := 1) rfl sc_divisor.nd rfl rfl (by decide) rfl rfl (va_cons (vv 1) (va_cons (ve_bin op_modN os_mod (vv 0) (vv 1)) va_nil)) (by rfl))))
    (vss_one (vs_ret (vv 0)))))
theorem ok_share (T : T0 P mg base w) : FnOk Pr w P.K mg base (L2.CX Pr w) 3 (He.ga P.K "share") (fdOf P.K ("share", none)) ["top", "bottom"] (spF P 2 f_share) := by
  unfold f_share
  exact fn_ok (F_share T) sc_share rfl fun cdv A outer s H E hr => (vss_cons (vs_if (vt_cmp (op_eqD hr.units) (os_eq rfl) (vv 1) ve_int (nomark _)) (vss_one (vs_raise0 rfl (takes_of rfl rfl rfl rfl) (o_ByNought T) (i_ByNought T) (t_ByNought T) (okx_ByNought T) (hr.mono (by omega)) (bx_ByNought T) L2.passL rfl (m_ByNought T) xmk0 (fx_ByNought T) (cl_ByNought T))) vss_nil)
    (vss_cons (vs_set (i := 2) sc_share.nd rfl (by first | exact Or.inl rfl | exact Or.inr rfl) (ve_call (ok_divisor T) (hr.mono (by omega)) rfl (m_divisor T) (F_divisor T).kp (bd_divisor T) (takes_of rfl rfl rfl rfl) (va_cons (vv 0) (va_cons (vv 1) va_nil))))
    (vss_cons (vs_if (vt_cmp op_lt os_lt (vv 1) ve_int (nomark _)) (vss_one (vs_set (i := 2) sc_share.nd rfl (by first | exact Or.inl rfl | exact Or.inr rfl) (ve_neg (vv 2)))) vss_nil)
    (vss_one (vs_ret (ve_tup (va_cons (ve_bin op_fdivP os_fdiv (vv 0) (vv 2)) (va_cons (ve_bin op_fdivP os_fdiv (vv 1) (vv 2)) va_nil))))))))
theorem ok_plus (T : T0 P mg base w) : FnOk Pr w P.K mg base (L2.CX Pr w) 4 (He.ga P.K "plus") (fdOf P.K ("plus", none)) ["one", "other"] (spF P 2 f_plus) := by
  unfold f_plus
  exact fn_ok (F_plus T) sc_plus rfl fun cdv A outer s H E hr => (vss_one (vs_ret (ve_call (ok_share T) (hr.mono (by omega)) rfl (m_share T) (F_share T).kp (bd_share T) (takes_of rfl rfl rfl rfl) (va_cons (ve_bin op_add4 (os_add rfl) (ve_bin op_mul2 os_mul (ve_ix rfl (vv 0) ve_int) (ve_ix rfl (vv 1) ve_int)) (ve_bin op_mul2 os_mul (ve_ix rfl (vv 1) ve_int) (ve_ix rfl (vv 0) ve_int))) (va_cons (ve_bin op_mul2 os_mul (ve_ix rfl (vv 0) ve_int) (ve_ix rfl (vv 1) ve_int)) va_nil)))))
theorem ok_added__2 (T : T0 P mg base w) : FnOk Pr w P.K mg base (L2.CX Pr w) 5 (He.ga P.K "added") (fdOf P.K ("added", none)) ["one", "other"] (spF P 2 f_added__2) := by
  unfold f_added__2
  exact fn_ok (F_added T) sc_added rfl fun cdv A outer s H E hr => (vss_cons (vs_expr (ve_call (ok_need_like T) (hr.mono (by omega)) rfl (m_need_like T) (F_need_like T).kp (bd_need_like T) (takes_of rfl rfl rfl rfl) (va_cons (vv 0) (va_cons (vv 1) va_nil))))
    (vss_one (vs_ret (ve_lcC (own := [("row", 2), ("beside", 3)]) rfl sc_added.nd (vi_zip rfl rfl (z_zip T) (va_cons (vv 0) (va_cons (vv 1) va_nil))) (blkOk_by (by kernel_rfl)) (fun _ _ _ _ _ => (vg_tup rfl rfl (vgs_cons (vg_name (i := 2) sc_added.nd rfl (by first | exact Or.inl rfl | exact Or.inr rfl)) (vgs_cons (vg_name (i := 3) sc_added.nd rfl (by first | exact Or.inl rfl | exact Or.inr rfl)) vgs_nil)))) (fun _ _ _ _ _ => vts_nil) (fun _ _ _ _ _ => (ve_lcC (own := [("x", 4), ("y", 5)]) rfl sc_added.nd (vi_zip rfl rfl (z_zip T) (va_cons (vv 2) (va_cons (vv 3) va_nil))) (blkOk_by (by kernel_rfl)) (fun _ _ _ _ _ => (vg_tup rfl rfl (vgs_cons (vg_name (i := 4) sc_added.nd rfl (by first | exact Or.inl rfl | exact Or.inr rfl)) (vgs_cons (vg_name (i := 5) sc_added.nd rfl (by first | exact Or.inl rfl | exact Or.inr rfl)) vgs_nil)))) (fun _ _ _ _ _ => vts_nil) (fun _ _ _ _ _ => (ve_call (ok_plus T) (hr.mono (by omega)) rfl (m_plus T) (F_plus T).kp (bd_plus T) L2.takes0 (va_cons (vv 4) (va_cons (vv 5) va_nil))))))))))
theorem ok_less (T : T0 P mg base w) : FnOk Pr w P.K mg base (L2.CX Pr w) 4 (He.ga P.K "less") (fdOf P.K ("less", none)) ["one", "other"] (spF P 2 f_less) := by
  unfold f_less
  exact fn_ok (F_less T) sc_less rfl fun cdv A outer s H E hr => (vss_one (vs_ret (ve_call (ok_share T) (hr.mono (by omega)) rfl (m_share T) (F_share T).kp (bd_share T) (takes_of rfl rfl rfl rfl) (va_cons (ve_bin op_sub os_sub (ve_bin op_mul2 os_mul (ve_ix rfl (vv 0) ve_int) (ve_ix rfl (vv 1) ve_int)) (ve_bin op_mul2 os_mul (ve_ix rfl (vv 1) ve_int) (ve_ix rfl (vv 0) ve_int))) (va_cons (ve_bin op_mul2 os_mul (ve_ix rfl (vv 0) ve_int) (ve_ix rfl (vv 1) ve_int)) va_nil)))))
theorem ok_taken__2 (T : T0 P mg base w) : FnOk Pr w P.K mg base (L2.CX Pr w) 5 (He.ga P.K "taken") (fdOf P.K ("taken", none)) ["one", "other"] (spF P 2 f_taken__2) := by
  unfold f_taken__2
  exact fn_ok (F_taken T) sc_taken rfl fun cdv A outer s H E hr => (vss_cons (vs_expr (ve_call (ok_need_like T) (hr.mono (by omega)) rfl (m_need_like T) (F_need_like T).kp (bd_need_like T) (takes_of rfl rfl rfl rfl) (va_cons (vv 0) (va_cons (vv 1) va_nil))))
    (vss_one (vs_ret (ve_lcC (own := [("row", 2), ("beside", 3)]) rfl sc_taken.nd (vi_zip rfl rfl (z_zip T) (va_cons (vv 0) (va_cons (vv 1) va_nil))) (blkOk_by (by kernel_rfl)) (fun _ _ _ _ _ => (vg_tup rfl rfl (vgs_cons (vg_name (i := 2) sc_taken.nd rfl (by first | exact Or.inl rfl | exact Or.inr rfl)) (vgs_cons (vg_name (i := 3) sc_taken.nd rfl (by first | exact Or.inl rfl | exact Or.inr rfl)) vgs_nil)))) (fun _ _ _ _ _ => vts_nil) (fun _ _ _ _ _ => (ve_lcC (own := [("x", 4), ("y", 5)]) rfl sc_taken.nd (vi_zip rfl rfl (z_zip T) (va_cons (vv 2) (va_cons (vv 3) va_nil))) (blkOk_by (by kernel_rfl)) (fun _ _ _ _ _ => (vg_tup rfl rfl (vgs_cons (vg_name (i := 4) sc_taken.nd rfl (by first | exact Or.inl rfl | exact Or.inr rfl)) (vgs_cons (vg_name (i := 5) sc_taken.nd rfl (by first | exact Or.inl rfl | exact Or.inr rfl)) vgs_nil)))) (fun _ _ _ _ _ => vts_nil) (fun _ _ _ _ _ => (ve_call (ok_less T) (hr.mono (by omega)) rfl (m_less T) (F_less T).kp (bd_less T) L2.takes0 (va_cons (vv 4) (va_cons (vv 5) va_nil))))))))))
theorem ok_multiple (T : T0 P mg base w) : FnOk Pr w P.K mg base (L2.CX Pr w) 2 (He.ga P.K "multiple") (fdOf P.K ("multiple", none)) ["numbers"] (spF P 1 f_multiple) := by
  unfold f_multiple
  exact fn_ok (F_multiple T) sc_multiple rfl fun cdv A outer s H E hr => (vss_cons (vs_set (i := 1) sc_multiple.nd rfl (by first | exact Or.inl rfl | exact Or.inr rfl) ve_int)
    (vss_cons (vs_for (passes_of rfl) rfl (vi_any rfl (vv 0)) (vg_name (i := 2) sc_multiple.nd rfl (by first | exact Or.inl rfl | exact Or.inr rfl)) (vss_one (vs_set (i := 1) sc_multiple.nd rfl (by first | exact Or.inl rfl | exact Or.inr rfl) (ve_bin op_mul2 os_mul (ve_bin op_fdivP os_fdiv (vv 1) (ve_call (ok_divisor T) (hr.mono (by omega)) rfl (m_divisor T) (F_divisor T).kp (bd_divisor T) (takes_of rfl rfl rfl rfl) (va_cons (vv 1) (va_cons (vv 2) va_nil)))) (vv 2)))))
    (vss_one (vs_ret (vv 1)))))
theorem ok_wholes (T : T0 P mg base w) : FnOk Pr w P.K mg base (L2.CX Pr w) 3 (He.ga P.K "wholes") (fdOf P.K ("wholes", none)) ["row"] (spF P 1 f_wholes) := by
  unfold f_wholes
  exact fn_ok (F_wholes T) sc_wholes rfl fun cdv A outer s H E hr => (vss_cons (vs_set (i := 1) sc_wholes.nd rfl (by first | exact Or.inl rfl | exact Or.inr rfl) (ve_call (ok_multiple T) (hr.mono (by omega)) rfl (m_multiple T) (F_multiple T).kp (bd_multiple T) (takes_of rfl rfl rfl rfl) (va_cons (ve_lc (own := [("top", 2), ("bottom", 3)]) rfl sc_wholes.nd (vi_any rfl (vv 0)) (blkOk_by (by kernel_rfl)) (fun _ _ _ _ _ => (vg_tup rfl rfl (vgs_cons (vg_name (i := 2) sc_wholes.nd rfl (by first | exact Or.inl rfl | exact Or.inr rfl)) (vgs_cons (vg_name (i := 3) sc_wholes.nd rfl (by first | exact Or.inl rfl | exact Or.inr rfl)) vgs_nil)))) (fun _ _ _ _ _ => vts_nil) (fun _ _ _ _ _ => (vv 3))) va_nil)))
    (vss_one (vs_ret (ve_lc (own := [("top", 2), ("bottom", 3)]) rfl sc_wholes.nd (vi_any rfl (vv 0)) (blkOk_by (by kernel_rfl)) (fun _ _ _ _ _ => (vg_tup rfl rfl (vgs_cons (vg_name (i := 2) sc_wholes.nd rfl (by first | exact Or.inl rfl | exact Or.inr rfl)) (vgs_cons (vg_name (i := 3) sc_wholes.nd rfl (by first | exact Or.inl rfl | exact Or.inr rfl)) vgs_nil)))) (fun _ _ _ _ _ => vts_nil) (fun _ _ _ _ _ => (ve_bin op_mul2 os_mul (vv 2) (ve_bin op_fdivP os_fdiv (vv 1) (vv 3))))))))
theorem ok_as_wholes (T : T0 P mg base w) : FnOk Pr w P.K mg base (L2.CX Pr w) 4 (He.ga P.K "as_wholes") (fdOf P.K ("as_wholes", none)) ["one"] (spF P 1 f_as_wholes) := by
  unfold f_as_wholes
  exact fn_ok (F_as_wholes T) sc_as_wholes rfl fun cdv A outer s H E hr => (vss_cons (vs_set (i := 1) sc_as_wholes.nd rfl (by first | exact Or.inl rfl | exact Or.inr rfl) (ve_call (ok_wholes T) (hr.mono (by omega)) rfl (m_wholes T) (F_wholes T).kp (bd_wholes T) (takes_of rfl rfl rfl rfl) (va_cons (ve_bin op_add4 (os_add rfl) (ve_lc2 (own := [("part", 4), ("x", 5)]) (vs1 := [5]) rfl sc_as_wholes.nd (vi_any rfl (vv 0)) (blkOk_by (by kernel_rfl)) (fun _ _ _ _ _ => (vg_name (i := 4) sc_as_wholes.nd rfl (by first | exact Or.inl rfl | exact Or.inr rfl))) (fun _ _ _ _ _ => vts_nil) (fun _ _ _ _ _ => (vi_any rfl (vv 4))) (fun _ _ _ _ _ => (vg_name (i := 5) sc_as_wholes.nd rfl (by first | exact Or.inl rfl | exact Or.inr rfl))) (fun _ _ _ _ _ => vts_nil) (fun _ _ _ _ _ => (vv 5))) (ve_lst (va_cons (n_ONE T) va_nil))) va_nil)))
    (vss_cons (vs_set (i := 2) sc_as_wholes.nd rfl (by first | exact Or.inl rfl | exact Or.inr rfl) (ve_callB call_len (cs_len rfl) rfl (z_len T) (by decide +kernel) (va_cons (vv 0) va_nil)))
    (vss_one (vs_ret (ve_tup (va_cons (ve_lc (own := [("k", 3)]) rfl sc_as_wholes.nd (vi_range1 rfl (z_range T) (va_cons (vv 2) va_nil)) (blkOk_by (by kernel_rfl)) (fun _ _ _ _ _ => (vg_name (i := 3) sc_as_wholes.nd rfl (by first | exact Or.inl rfl | exact Or.inr rfl))) (fun _ _ _ _ _ => vts_nil) (fun _ _ _ _ _ => (ve_slG sl3 (ss_sl3 rfl) (vv 1) (vo_some (ve_bin op_mul2 os_mul (vv 3) (vv 2))) (vo_some (ve_bin op_add4 (os_add rfl) (ve_bin op_mul2 os_mul (vv 3) (vv 2)) (vv 2)))))) (va_cons (ve_ix rfl (vv 1) (ve_neg ve_int)) va_nil)))))))
theorem ok_as_shares__2 (T : T0 P mg base w) : FnOk Pr w P.K mg base (L2.CX Pr w) 4 (He.ga P.K "as_shares") (fdOf P.K ("as_shares", none)) ["rows", "below"] (spF P 2 f_as_shares__2) := by
  unfold f_as_shares__2
  exact fn_ok (F_as_shares T) sc_as_shares rfl fun cdv A outer s H E hr => (vss_one (vs_ret (ve_lcC (own := [("row", 2)]) rfl sc_as_shares.nd (vi_any rfl (vv 0)) (blkOk_by (by kernel_rfl)) (fun _ _ _ _ _ => (vg_name (i := 2) sc_as_shares.nd rfl (by first | exact Or.inl rfl | exact Or.inr rfl))) (fun _ _ _ _ _ => vts_nil) (fun _ _ _ _ _ => (ve_lcC (own := [("number", 3)]) rfl sc_as_shares.nd (vi_any rfl (vv 2)) (blkOk_by (by kernel_rfl)) (fun _ _ _ _ _ => (vg_name (i := 3) sc_as_shares.nd rfl (by first | exact Or.inl rfl | exact Or.inr rfl))) (fun _ _ _ _ _ => vts_nil) (fun _ _ _ _ _ => (ve_call (ok_share T) (hr.mono (by omega)) rfl (m_share T) (F_share T).kp (bd_share T) L2.takes0 (va_cons (vv 3) (va_cons (vv 1) va_nil)))))))))
theorem ok_product__2 (T : T0 P mg base w) : FnOk Pr w P.K mg base (L2.CX Pr w) 5 (He.ga P.K "product") (fdOf P.K ("product", none)) ["one", "other"] (spF P 2 f_product__2) := by
  unfold f_product__2
  exact fn_ok (F_product T) sc_product rfl fun cdv A outer s H E hr => (vss_cons (vs_expr (ve_call (ok_need_like T) (hr.mono (by omega)) rfl (m_need_like T) (F_need_like T).kp (bd_need_like T) (takes_of rfl rfl rfl rfl) (va_cons (vv 0) (va_cons (vv 1) va_nil))))
    (vss_cons (vs_asg (ve_call (ok_as_wholes T) (hr.mono (by omega)) rfl (m_as_wholes T) (F_as_wholes T).kp (bd_as_wholes T) (takes_of rfl rfl rfl rfl) (va_cons (vv 0) va_nil)) (vg_tup rfl rfl (vgs_cons (vg_name (i := 2) sc_product.nd rfl (by first | exact Or.inl rfl | exact Or.inr rfl)) (vgs_cons (vg_name (i := 3) sc_product.nd rfl (by first | exact Or.inl rfl | exact Or.inr rfl)) vgs_nil))))
    (vss_cons (vs_asg (ve_call (ok_as_wholes T) (hr.mono (by omega)) rfl (m_as_wholes T) (F_as_wholes T).kp (bd_as_wholes T) (takes_of rfl rfl rfl rfl) (va_cons (vv 1) va_nil)) (vg_tup rfl rfl (vgs_cons (vg_name (i := 4) sc_product.nd rfl (by first | exact Or.inl rfl | exact Or.inr rfl)) (vgs_cons (vg_name (i := 5) sc_product.nd rfl (by first | exact Or.inl rfl | exact Or.inr rfl)) vgs_nil))))
    (vss_cons (vs_set (i := 6) sc_product.nd rfl (by first | exact Or.inl rfl | exact Or.inr rfl) (ve_lc (own := [("k", 8)]) rfl sc_product.nd (vi_range1 rfl (z_range T) (va_cons (ve_callB call_len (cs_len rfl) rfl (z_len T) (by decide +kernel) (va_cons (vv 4) va_nil)) va_nil)) (blkOk_by (by kernel_rfl)) (fun _ _ _ _ _ => (vg_name (i := 8) sc_product.nd rfl (by first | exact Or.inl rfl | exact Or.inr rfl))) (fun _ _ _ _ _ => vts_nil) (fun _ _ _ _ _ => (ve_lc (own := [("row", 9)]) rfl sc_product.nd (vi_any rfl (vv 4)) (blkOk_by (by kernel_rfl)) (fun _ _ _ _ _ => (vg_name (i := 9) sc_product.nd rfl (by first | exact Or.inl rfl | exact Or.inr rfl))) (fun _ _ _ _ _ => vts_nil) (fun _ _ _ _ _ => (ve_ix rfl (vv 9) (vv 8)))))))
    (vss_cons (vs_setLc (i := 7) (own := [("row", 9)]) rfl sc_product.nd rfl rfl (sw_true rfl rfl rfl (by decide +kernel)) (vi_any rfl (vv 2)) (blkOk_by (by kernel_rfl)) (fun _ _ _ _ _ => (vg_name (i := 9) sc_product.nd rfl (by first | exact Or.inl rfl | exact Or.inr rfl))) (fun _ _ _ _ _ => vts_nil) (fun _ _ _ _ _ => (ve_lc (own := [("column", 10)]) rfl sc_product.nd (vi_any rfl (vv 6)) (blkOk_by (by kernel_rfl)) (fun _ _ _ _ _ => (vg_name (i := 10) sc_product.nd rfl (by first | exact Or.inl rfl | exact Or.inr rfl))) (fun _ _ _ _ _ => vts_nil) (fun _ _ _ _ _ => (ve_callB (cr_sum rfl) (cs_sum rfl) rfl (z_sum T) (by decide +kernel) (va_cons (ve_lc (own := [("x", 11), ("y", 12)]) rfl sc_product.nd (vi_zip rfl rfl (z_zip T) (va_cons (vv 9) (va_cons (vv 10) va_nil))) (blkOk_by (by kernel_rfl)) (fun _ _ _ _ _ => (vg_tup rfl rfl (vgs_cons (vg_name (i := 11) sc_product.nd rfl (by first | exact Or.inl rfl | exact Or.inr rfl)) (vgs_cons (vg_name (i := 12) sc_product.nd rfl (by first | exact Or.inl rfl | exact Or.inr rfl)) vgs_nil)))) (fun _ _ _ _ _ => vts_nil) (fun _ _ _ _ _ => (ve_bin op_mul2 os_mul (vv 11) (vv 12)))) va_nil))))))
    (vss_one (vs_ret (ve_call (ok_as_shares__2 T) (hr.mono (by omega)) rfl (m_as_shares T) (F_as_shares T).kp (bd_as_shares T) (takes_of rfl rfl rfl rfl) (va_cons (vv 7) (va_cons (ve_bin op_mul2 os_mul (vv 3) (vv 5)) va_nil))))))))))
theorem ok_times (T : T0 P mg base w) : FnOk Pr w P.K mg base (L2.CX Pr w) 4 (He.ga P.K "times") (fdOf P.K ("times", none)) ["one", "other"] (spF P 2 f_times) := by
  unfold f_times
  exact fn_ok (F_times T) sc_times rfl fun cdv A outer s H E hr => (vss_one (vs_ret (ve_call (ok_share T) (hr.mono (by omega)) rfl (m_share T) (F_share T).kp (bd_share T) (takes_of rfl rfl rfl rfl) (va_cons (ve_bin op_mul2 os_mul (ve_ix rfl (vv 0) ve_int) (ve_ix rfl (vv 1) ve_int)) (va_cons (ve_bin op_mul2 os_mul (ve_ix rfl (vv 0) ve_int) (ve_ix rfl (vv 1) ve_int)) va_nil)))))
theorem ok_scaled__2 (T : T0 P mg base w) : FnOk Pr w P.K mg base (L2.CX Pr w) 5 (He.ga P.K "scaled") (fdOf P.K ("scaled", none)) ["one", "by"] (spF P 2 f_scaled__2) := by
  unfold f_scaled__2
  exact fn_ok (F_scaled T) sc_scaled rfl fun cdv A outer s H E hr => (vss_one (vs_ret (ve_lcC (own := [("row", 2)]) rfl sc_scaled.nd (vi_any rfl (vv 0)) (blkOk_by (by kernel_rfl)) (fun _ _ _ _ _ => (vg_name (i := 2) sc_scaled.nd rfl (by first | exact Or.inl rfl | exact Or.inr rfl))) (fun _ _ _ _ _ => vts_nil) (fun _ _ _ _ _ => (ve_lcC (own := [("x", 3)]) rfl sc_scaled.nd (vi_any rfl (vv 2)) (blkOk_by (by kernel_rfl)) (fun _ _ _ _ _ => (vg_name (i := 3) sc_scaled.nd rfl (by first | exact Or.inl rfl | exact Or.inr rfl))) (fun _ _ _ _ _ => vts_nil) (fun _ _ _ _ _ => (ve_call (ok_times T) (hr.mono (by omega)) rfl (m_times T) (F_times T).kp (bd_times T) L2.takes0 (va_cons (vv 3) (va_cons (vv 1) va_nil)))))))))
theorem ok__law_add (T : T0 P mg base w) : FnOk Pr w P.K mg base (L2.CX Pr w) 3 (He.ga P.K "_law_add") (fdOf P.K ("_law_add", none)) ["_law_one", "_law_other"] (spF P 2 f__law_add) := by
  unfold f__law_add
  exact fn_ok (F__law_add T) sc__law_add rfl fun cdv A outer s H E hr => (vss_one (vs_ret (ve_call (ok__law_fr T) (hr.mono (by omega)) rfl (m__law_fr T) (F__law_fr T).kp (bd__law_fr T) (takes_of rfl rfl rfl rfl) (va_cons (ve_bin op_add4 (os_add rfl) (ve_bin op_mul2 os_mul (ve_ix rfl (vv 0) ve_int) (ve_ix rfl (vv 1) ve_int)) (ve_bin op_mul2 os_mul (ve_ix rfl (vv 1) ve_int) (ve_ix rfl (vv 0) ve_int))) (va_cons (ve_bin op_mul2 os_mul (ve_ix rfl (vv 0) ve_int) (ve_ix rfl (vv 1) ve_int)) va_nil)))))
theorem ok__law_tadd (T : T0 P mg base w) : FnOk Pr w P.K mg base (L2.CX Pr w) 4 (He.ga P.K "_law_tadd") (fdOf P.K ("_law_tadd", none)) ["_law_one", "_law_other"] (spF P 2 f__law_tadd) := by
  unfold f__law_tadd
  exact fn_ok (F__law_tadd T) sc__law_tadd rfl fun cdv A outer s H E hr => (vss_one (vs_ret (ve_lc (own := [("_law_row", 2), ("_law_line", 3)]) rfl sc__law_tadd.nd (vi_zip rfl rfl (z_zip T) (va_cons (vv 0) (va_cons (vv 1) va_nil))) (blkOk_by (by kernel_rfl)) (fun _ _ _ _ _ => (vg_tup rfl rfl (vgs_cons (vg_name (i := 2) sc__law_tadd.nd rfl (by first | exact Or.inl rfl | exact Or.inr rfl)) (vgs_cons (vg_name (i := 3) sc__law_tadd.nd rfl (by first | exact Or.inl rfl | exact Or.inr rfl)) vgs_nil)))) (fun _ _ _ _ _ => vts_nil) (fun _ _ _ _ _ => (ve_lc (own := [("_law_x", 4), ("_law_y", 5)]) rfl sc__law_tadd.nd (vi_zip rfl rfl (z_zip T) (va_cons (vv 2) (va_cons (vv 3) va_nil))) (blkOk_by (by kernel_rfl)) (fun _ _ _ _ _ => (vg_tup rfl rfl (vgs_cons (vg_name (i := 4) sc__law_tadd.nd rfl (by first | exact Or.inl rfl | exact Or.inr rfl)) (vgs_cons (vg_name (i := 5) sc__law_tadd.nd rfl (by first | exact Or.inl rfl | exact Or.inr rfl)) vgs_nil)))) (fun _ _ _ _ _ => vts_nil) (fun _ _ _ _ _ => (ve_call (ok__law_add T) (hr.mono (by omega)) rfl (m__law_add T) (F__law_add T).kp (bd__law_add T) L2.takes0 (va_cons (vv 4) (va_cons (vv 5) va_nil)))))))))
theorem ok__law_dot (T : T0 P mg base w) : FnOk Pr w P.K mg base (L2.CX Pr w) 4 (He.ga P.K "_law_dot") (fdOf P.K ("_law_dot", none)) ["_law_row", "_law_column"] (spF P 2 f__law_dot) := by
  unfold f__law_dot
  exact fn_ok (F__law_dot T) sc__law_dot rfl fun cdv A outer s H E hr => (vss_cons (vs_set (i := 2) sc__law_dot.nd rfl (by first | exact Or.inl rfl | exact Or.inr rfl) (ve_tup (va_cons ve_int (va_cons ve_int va_nil))))
    (vss_cons (vs_for (passes_of rfl) rfl (vi_zip rfl rfl (z_zip T) (va_cons (vv 0) (va_cons (vv 1) va_nil))) (vg_tup rfl rfl (vgs_cons (vg_name (i := 3) sc__law_dot.nd rfl (by first | exact Or.inl rfl | exact Or.inr rfl)) (vgs_cons (vg_name (i := 4) sc__law_dot.nd rfl (by first | exact Or.inl rfl | exact Or.inr rfl)) vgs_nil))) (vss_one (vs_set (i := 2) sc__law_dot.nd rfl (by first | exact Or.inl rfl | exact Or.inr rfl) (ve_call (ok__law_add T) (hr.mono (by omega)) rfl (m__law_add T) (F__law_add T).kp (bd__law_add T) (takes_of rfl rfl rfl rfl) (va_cons (vv 2) (va_cons (ve_call (ok__law_mul T) (hr.mono (by omega)) rfl (m__law_mul T) (F__law_mul T).kp (bd__law_mul T) (takes_of rfl rfl rfl rfl) (va_cons (vv 3) (va_cons (vv 4) va_nil))) va_nil))))))
    (vss_one (vs_ret (vv 2)))))
theorem ok__law_tmul (T : T0 P mg base w) : FnOk Pr w P.K mg base (L2.CX Pr w) 5 (He.ga P.K "_law_tmul") (fdOf P.K ("_law_tmul", none)) ["_law_one", "_law_other"] (spF P 2 f__law_tmul) := by
  unfold f__law_tmul
  exact fn_ok (F__law_tmul T) sc__law_tmul rfl fun cdv A outer s H E hr => (vss_cons (vs_set (i := 2) sc__law_tmul.nd rfl (by first | exact Or.inl rfl | exact Or.inr rfl) (ve_lc (own := [("_law_k", 3)]) rfl sc__law_tmul.nd (vi_range1 rfl (z_range T) (va_cons (ve_callB call_len (cs_len rfl) rfl (z_len T) (by decide +kernel) (va_cons (vv 1) va_nil)) va_nil)) (blkOk_by (by kernel_rfl)) (fun _ _ _ _ _ => (vg_name (i := 3) sc__law_tmul.nd rfl (by first | exact Or.inl rfl | exact Or.inr rfl))) (fun _ _ _ _ _ => vts_nil) (fun _ _ _ _ _ => (ve_lc (own := [("_law_row", 4)]) rfl sc__law_tmul.nd (vi_any rfl (vv 1)) (blkOk_by (by kernel_rfl)) (fun _ _ _ _ _ => (vg_name (i := 4) sc__law_tmul.nd rfl (by first | exact Or.inl rfl | exact Or.inr rfl))) (fun _ _ _ _ _ => vts_nil) (fun _ _ _ _ _ => (ve_ix rfl (vv 4) (vv 3)))))))
    (vss_one (vs_ret (ve_lc (own := [("_law_row", 4)]) rfl sc__law_tmul.nd (vi_any rfl (vv 0)) (blkOk_by (by kernel_rfl)) (fun _ _ _ _ _ => (vg_name (i := 4) sc__law_tmul.nd rfl (by first | exact Or.inl rfl | exact Or.inr rfl))) (fun _ _ _ _ _ => vts_nil) (fun _ _ _ _ _ => (ve_lc (own := [("_law_column", 5)]) rfl sc__law_tmul.nd (vi_any rfl (vv 2)) (blkOk_by (by kernel_rfl)) (fun _ _ _ _ _ => (vg_name (i := 5) sc__law_tmul.nd rfl (by first | exact Or.inl rfl | exact Or.inr rfl))) (fun _ _ _ _ _ => vts_nil) (fun _ _ _ _ _ => (ve_call (ok__law_dot T) (hr.mono (by omega)) rfl (m__law_dot T) (F__law_dot T).kp (bd__law_dot T) L2.takes0 (va_cons (vv 4) (va_cons (vv 5) va_nil))))))))))
theorem ok__law_same (T : T0 P mg base w) : ∀ n : Nat, FnOk Pr w P.K mg base (L2.CX Pr w) (0 + n) (He.ga P.K "_law_same") (fdOf P.K ("_law_same", none)) ["_law_found", "_law_due"] (spF P 2 (f__law_same n))
  | 0 => by rw [f__law_same_0]; exact fn_bad rfl
  | n + 1 => by
    have ih__law_same := ok__law_same T n
    rw [f__law_same_s]
    exact fn_ok (F__law_same T) sc__law_same rfl fun cdv A outer s H E hr0 => have hr : Room (0 + n) _ := hr0; (vss_cons (vs_if (vt_val (ve_isi2 .list .tuple rfl rfl (z_isinstance T) (vv 1) (pe_bltn rfl (z_list T) (by decide +kernel) rfl) (pe_bltn rfl (z_tuple T) (by decide +kernel) rfl))) (vss_cons (vs_if (vt_w (vw_or (vt_cmp (op_neD hr.units) (os_ne rfl) (ve_isi .list rfl rfl (z_isinstance T) (vv 0) (pe_bltn rfl (z_list T) (by decide +kernel) rfl)) (ve_isi .list rfl rfl (z_isinstance T) (vv 1) (pe_bltn rfl (z_list T) (by decide +kernel) rfl)) (nomark _)) (vw_or1 (vt_cmp (op_neD hr.units) (os_ne rfl) (ve_isi .tuple rfl rfl (z_isinstance T) (vv 0) (pe_bltn rfl (z_tuple T) (by decide +kernel) rfl)) (ve_isi .tuple rfl rfl (z_isinstance T) (vv 1) (pe_bltn rfl (z_tuple T) (by decide +kernel) rfl)) (nomark _))))) (vss_one (vs_ret ve_bl)) vss_nil)
    (vss_one (vs_ret (ve_and (ve_cmp (op_eqD hr.units) (os_eq rfl) (ve_callB call_len (cs_len rfl) rfl (z_len T) (by decide +kernel) (va_cons (vv 0) va_nil)) (ve_callB call_len (cs_len rfl) rfl (z_len T) (by decide +kernel) (va_cons (vv 1) va_nil)) (nomark _)) (ve_one (ve_callB (cr_all rfl) (cs_all rfl) rfl (z_all T) (by decide +kernel) (va_cons (ve_lc (own := [("_law_k", 2)]) rfl sc__law_same.nd (vi_range1 rfl (z_range T) (va_cons (ve_callB call_len (cs_len rfl) rfl (z_len T) (by decide +kernel) (va_cons (vv 1) va_nil)) va_nil)) (blkOk_by (by kernel_rfl)) (fun _ _ _ _ _ => (vg_name (i := 2) sc__law_same.nd rfl (by first | exact Or.inl rfl | exact Or.inr rfl))) (fun _ _ _ _ _ => vts_nil) (fun _ _ _ _ _ => (ve_call (ih__law_same) hr rfl (m__law_same T) (F__law_same T).kp (bd__law_same T) L2.takes0 (va_cons (ve_ix rfl (vv 0) (vv 2)) (va_cons (ve_ix rfl (vv 1) (vv 2)) va_nil))))) va_nil))))))) vss_nil)
    (vss_cons (vs_if (vt_w (vw_or (vt_isN (vv 1)) (vw_or1 (vt_isN (vv 0))))) (vss_one (vs_ret (ve_and (ve_isN (vv 0)) (ve_one (ve_isN (vv 1)))))) vss_nil)
    (vss_cons (vs_if (vt_w (vw_or (vt_cmp (op_neD hr.units) (os_ne rfl) (ve_isi .bool rfl rfl (z_isinstance T) (vv 1) (pe_bltn rfl (z_bool T) (by decide +kernel) rfl)) (ve_isi .bool rfl rfl (z_isinstance T) (vv 0) (pe_bltn rfl (z_bool T) (by decide +kernel) rfl)) (nomark _)) (vw_or1 (vt_cmp (op_neD hr.units) (os_ne rfl) (ve_isi .int rfl rfl (z_isinstance T) (vv 1) (pe_bltn rfl (z_int T) (by decide +kernel) rfl)) (ve_isi .int rfl rfl (z_isinstance T) (vv 0) (pe_bltn rfl (z_int T) (by decide +kernel) rfl)) (nomark _))))) (vss_one (vs_ret ve_bl)) vss_nil)
    (vss_one (vs_ret (ve_and (ve_cmp (op_eqD hr.units) (os_eq rfl) (ve_isi .str rfl rfl (z_isinstance T) (vv 1) (pe_bltn rfl (z_str T) (by decide +kernel) rfl)) (ve_isi .str rfl rfl (z_isinstance T) (vv 0) (pe_bltn rfl (z_str T) (by decide +kernel) rfl)) (nomark _)) (ve_one (ve_cmp (op_eqD hr.units) (os_eq rfl) (vv 0) (vv 1) (nomark _)))))))))
theorem ok_as_shares (T : T0 P mg base w) : FnOk Pr w P.K mg base (L2.CX Pr w) 4 (He.ga P.K "as_shares") (fdOf P.K ("as_shares", none)) ["rows", "below"] (spF P 2 f_as_shares) := by
  unfold f_as_shares
  exact fn_ok (F_as_shares T) sc_as_shares rfl fun cdv A outer s H E hr => (vss_one (vs_ret (ve_lc (own := [("row", 2)]) rfl sc_as_shares.nd (vi_any rfl (vv 0)) (blkOk_by (by kernel_rfl)) (fun _ _ _ _ _ => (vg_name (i := 2) sc_as_shares.nd rfl (by first | exact Or.inl rfl | exact Or.inr rfl))) (fun _ _ _ _ _ => vts_nil) (fun _ _ _ _ _ => (ve_lc (own := [("number", 3)]) rfl sc_as_shares.nd (vi_any rfl (vv 2)) (blkOk_by (by kernel_rfl)) (fun _ _ _ _ _ => (vg_name (i := 3) sc_as_shares.nd rfl (by first | exact Or.inl rfl | exact Or.inr rfl))) (fun _ _ _ _ _ => vts_nil) (fun _ _ _ _ _ => (ve_call (ok_share T) (hr.mono (by omega)) rfl (m_share T) (F_share T).kp (bd_share T) L2.takes0 (va_cons (vv 3) (va_cons (vv 1) va_nil)))))))))
theorem ok_product (T : T0 P mg base w) : FnOk Pr w P.K mg base (L2.CX Pr w) 5 (He.ga P.K "product") (fdOf P.K ("product", none)) ["one", "other"] (spF P 2 f_product) := by
  unfold f_product
  exact fn_ok (F_product T) sc_product rfl fun cdv A outer s H E hr => (vss_cons (vs_expr (ve_call (ok_need_like T) (hr.mono (by omega)) rfl (m_need_like T) (F_need_like T).kp (bd_need_like T) (takes_of rfl rfl rfl rfl) (va_cons (vv 0) (va_cons (vv 1) va_nil))))
    (vss_cons (vs_asg (ve_call (ok_as_wholes T) (hr.mono (by omega)) rfl (m_as_wholes T) (F_as_wholes T).kp (bd_as_wholes T) (takes_of rfl rfl rfl rfl) (va_cons (vv 0) va_nil)) (vg_tup rfl rfl (vgs_cons (vg_name (i := 2) sc_product.nd rfl (by first | exact Or.inl rfl | exact Or.inr rfl)) (vgs_cons (vg_name (i := 3) sc_product.nd rfl (by first | exact Or.inl rfl | exact Or.inr rfl)) vgs_nil))))
    (vss_cons (vs_asg (ve_call (ok_as_wholes T) (hr.mono (by omega)) rfl (m_as_wholes T) (F_as_wholes T).kp (bd_as_wholes T) (takes_of rfl rfl rfl rfl) (va_cons (vv 1) va_nil)) (vg_tup rfl rfl (vgs_cons (vg_name (i := 4) sc_product.nd rfl (by first | exact Or.inl rfl | exact Or.inr rfl)) (vgs_cons (vg_name (i := 5) sc_product.nd rfl (by first | exact Or.inl rfl | exact Or.inr rfl)) vgs_nil))))
    (vss_cons (vs_set (i := 6) sc_product.nd rfl (by first | exact Or.inl rfl | exact Or.inr rfl) (ve_lc (own := [("k", 8)]) rfl sc_product.nd (vi_range1 rfl (z_range T) (va_cons (ve_callB call_len (cs_len rfl) rfl (z_len T) (by decide +kernel) (va_cons (vv 4) va_nil)) va_nil)) (blkOk_by (by kernel_rfl)) (fun _ _ _ _ _ => (vg_name (i := 8) sc_product.nd rfl (by first | exact Or.inl rfl | exact Or.inr rfl))) (fun _ _ _ _ _ => vts_nil) (fun _ _ _ _ _ => (ve_lc (own := [("row", 9)]) rfl sc_product.nd (vi_any rfl (vv 4)) (blkOk_by (by kernel_rfl)) (fun _ _ _ _ _ => (vg_name (i := 9) sc_product.nd rfl (by first | exact Or.inl rfl | exact Or.inr rfl))) (fun _ _ _ _ _ => vts_nil) (fun _ _ _ _ _ => (ve_ix rfl (vv 9) (vv 8)))))))
    (vss_cons (vs_setLc (i := 7) (own := [("row", 9)]) rfl sc_product.nd rfl rfl (sw_true rfl rfl rfl (by decide +kernel)) (vi_any rfl (vv 2)) (blkOk_by (by kernel_rfl)) (fun _ _ _ _ _ => (vg_name (i := 9) sc_product.nd rfl (by first | exact Or.inl rfl | exact Or.inr rfl))) (fun _ _ _ _ _ => vts_nil) (fun _ _ _ _ _ => (ve_lc (own := [("column", 10)]) rfl sc_product.nd (vi_any rfl (vv 6)) (blkOk_by (by kernel_rfl)) (fun _ _ _ _ _ => (vg_name (i := 10) sc_product.nd rfl (by first | exact Or.inl rfl | exact Or.inr rfl))) (fun _ _ _ _ _ => vts_nil) (fun _ _ _ _ _ => (ve_callB (cr_sum rfl) (cs_sum rfl) rfl (z_sum T) (by decide +kernel) (va_cons (ve_lc (own := [("x", 11), ("y", 12)]) rfl sc_product.nd (vi_zip rfl rfl (z_zip T) (va_cons (vv 9) (va_cons (vv 10) va_nil))) (blkOk_by (by kernel_rfl)) (fun _ _ _ _ _ => (vg_tup rfl rfl (vgs_cons (vg_name (i := 11) sc_product.nd rfl (by first | exact Or.inl rfl | exact Or.inr rfl)) (vgs_cons (vg_name (i := 12) sc_product.nd rfl (by first | exact Or.inl rfl | exact Or.inr rfl)) vgs_nil)))) (fun _ _ _ _ _ => vts_nil) (fun _ _ _ _ _ => (ve_bin op_mul2 os_mul (vv 11) (vv 12)))) va_nil))))))
    (vss_one (vs_ret (ve_call (ok_as_shares T) (hr.mono (by omega)) rfl (m_as_shares T) (F_as_shares T).kp (bd_as_shares T) (takes_of rfl rfl rfl rfl) (va_cons (vv 7) (va_cons (ve_bin op_mul2 os_mul (vv 3) (vv 5)) va_nil))))))))))
theorem ok_added (T : T0 P mg base w) : FnOk Pr w P.K mg base (L2.CX Pr w) 5 (He.ga P.K "added") (fdOf P.K ("added", none)) ["one", "other"] (spF P 2 f_added) := by
  unfold f_added
  exact fn_ok (F_added T) sc_added rfl fun cdv A outer s H E hr => (vss_cons (vs_expr (ve_call (ok_need_like T) (hr.mono (by omega)) rfl (m_need_like T) (F_need_like T).kp (bd_need_like T) (takes_of rfl rfl rfl rfl) (va_cons (vv 0) (va_cons (vv 1) va_nil))))
    (vss_one (vs_ret (ve_lc (own := [("row", 2), ("beside", 3)]) rfl sc_added.nd (vi_zip rfl rfl (z_zip T) (va_cons (vv 0) (va_cons (vv 1) va_nil))) (blkOk_by (by kernel_rfl)) (fun _ _ _ _ _ => (vg_tup rfl rfl (vgs_cons (vg_name (i := 2) sc_added.nd rfl (by first | exact Or.inl rfl | exact Or.inr rfl)) (vgs_cons (vg_name (i := 3) sc_added.nd rfl (by first | exact Or.inl rfl | exact Or.inr rfl)) vgs_nil)))) (fun _ _ _ _ _ => vts_nil) (fun _ _ _ _ _ => (ve_lc (own := [("x", 4), ("y", 5)]) rfl sc_added.nd (vi_zip rfl rfl (z_zip T) (va_cons (vv 2) (va_cons (vv 3) va_nil))) (blkOk_by (by kernel_rfl)) (fun _ _ _ _ _ => (vg_tup rfl rfl (vgs_cons (vg_name (i := 4) sc_added.nd rfl (by first | exact Or.inl rfl | exact Or.inr rfl)) (vgs_cons (vg_name (i := 5) sc_added.nd rfl (by first | exact Or.inl rfl | exact Or.inr rfl)) vgs_nil)))) (fun _ _ _ _ _ => vts_nil) (fun _ _ _ _ _ => (ve_call (ok_plus T) (hr.mono (by omega)) rfl (m_plus T) (F_plus T).kp (bd_plus T) L2.takes0 (va_cons (vv 4) (va_cons (vv 5) va_nil))))))))))
theorem ok_corners (T : T0 P mg base w) : FnOk Pr w P.K mg base (L2.CX Pr w) 1 (He.ga P.K "corners") (fdOf P.K ("corners", none)) ["one", "other"] (spF P 2 f_corners) := by
  unfold f_corners
  exact fn_ok (F_corners T) sc_corners rfl fun cdv A outer s H E hr => (vss_cons (vs_asg (ve_tup (va_cons (ve_callB call_len (cs_len rfl) rfl (z_len T) (by decide +kernel) (va_cons (vv 0) va_nil)) (va_cons (ve_callB call_len (cs_len rfl) rfl (z_len T) (by decide +kernel) (va_cons (vv 1) va_nil)) va_nil))) (vg_tup rfl rfl (vgs_cons (vg_name (i := 2) sc_corners.nd rfl (by first | exact Or.inl rfl | exact Or.inr rfl)) (vgs_cons (vg_name (i := 3) sc_corners.nd rfl (by first | exact Or.inl rfl | exact Or.inr rfl)) vgs_nil))))
    (vss_one (vs_ret (ve_bin op_add4 (os_add rfl) (ve_lc (own := [("row", 4)]) rfl sc_corners.nd (vi_any rfl (vv 0)) (blkOk_by (by kernel_rfl)) (fun _ _ _ _ _ => (vg_name (i := 4) sc_corners.nd rfl (by first | exact Or.inl rfl | exact Or.inr rfl))) (fun _ _ _ _ _ => vts_nil) (fun _ _ _ _ _ => (ve_bin op_add4 (os_add rfl) (ve_callTy call_list_of (cs_listOf rfl) rfl (z_list T) (by decide +kernel) (va_cons (vv 4) va_nil)) (ve_bin op_mul2 os_mul (ve_lst (va_cons (n_NOUGHT T) va_nil)) (vv 3))))) (ve_lc (own := [("row", 4)]) rfl sc_corners.nd (vi_any rfl (vv 1)) (blkOk_by (by kernel_rfl)) (fun _ _ _ _ _ => (vg_name (i := 4) sc_corners.nd rfl (by first | exact Or.inl rfl | exact Or.inr rfl))) (fun _ _ _ _ _ => vts_nil) (fun _ _ _ _ _ => (ve_bin op_add4 (os_add rfl) (ve_bin op_mul2 os_mul (ve_lst (va_cons (n_NOUGHT T) va_nil)) (vv 2)) (ve_callTy call_list_of (cs_listOf rfl) rfl (z_list T) (by decide +kernel) (va_cons (vv 4) va_nil)))))))))
theorem ok_taken (T : T0 P mg base w) : FnOk Pr w P.K mg base (L2.CX Pr w) 5 (He.ga P.K "taken") (fdOf P.K ("taken", none)) ["one", "other"] (spF P 2 f_taken) := by
  unfold f_taken
  exact fn_ok (F_taken T) sc_taken rfl fun cdv A outer s H E hr => (vss_cons (vs_expr (ve_call (ok_need_like T) (hr.mono (by omega)) rfl (m_need_like T) (F_need_like T).kp (bd_need_like T) (takes_of rfl rfl rfl rfl) (va_cons (vv 0) (va_cons (vv 1) va_nil))))
    (vss_one (vs_ret (ve_lc (own := [("row", 2), ("beside", 3)]) rfl sc_taken.nd (vi_zip rfl rfl (z_zip T) (va_cons (vv 0) (va_cons (vv 1) va_nil))) (blkOk_by (by kernel_rfl)) (fun _ _ _ _ _ => (vg_tup rfl rfl (vgs_cons (vg_name (i := 2) sc_taken.nd rfl (by first | exact Or.inl rfl | exact Or.inr rfl)) (vgs_cons (vg_name (i := 3) sc_taken.nd rfl (by first | exact Or.inl rfl | exact Or.inr rfl)) vgs_nil)))) (fun _ _ _ _ _ => vts_nil) (fun _ _ _ _ _ => (ve_lc (own := [("x", 4), ("y", 5)]) rfl sc_taken.nd (vi_zip rfl rfl (z_zip T) (va_cons (vv 2) (va_cons (vv 3) va_nil))) (blkOk_by (by kernel_rfl)) (fun _ _ _ _ _ => (vg_tup rfl rfl (vgs_cons (vg_name (i := 4) sc_taken.nd rfl (by first | exact Or.inl rfl | exact Or.inr rfl)) (vgs_cons (vg_name (i := 5) sc_taken.nd rfl (by first | exact Or.inl rfl | exact Or.inr rfl)) vgs_nil)))) (fun _ _ _ _ _ => vts_nil) (fun _ _ _ _ _ => (ve_call (ok_less T) (hr.mono (by omega)) rfl (m_less T) (F_less T).kp (bd_less T) L2.takes0 (va_cons (vv 4) (va_cons (vv 5) va_nil))))))))))
theorem ok_law (T : T0 P mg base w) (hs : ∃ m, base.Ns sysModules m) : RunC Pr w P.K mg base (L2.CX Pr w) (He.ga P.K "law") (fdOf P.K ("law", none)) ["_law_script"] (spF P 1 f_law) := by
  unfold f_law
  exact fn_okC (p := ("law", none)) (k := 43) ⟨rfl, by decide, by decide⟩ (F_law T) sc_law rfl fun s H E hr => (vss_cons (vs_set (i := 1) sc_law.nd rfl (by first | exact Or.inl rfl | exact Or.inr rfl) (ve_call (ok__law_bag__1 T) (hr.mono (by omega)) rfl (m__law_bag T) (F__law_bag T).kp (bd__law_bag T) (takes_of rfl rfl rfl rfl) (va_cons (vv 0) va_nil)))
    (vss_cons (vs_for (passes_of rfl) rfl (vi_range1 rfl (z_range T) (va_cons ve_int va_nil)) (vg_name (i := 2) sc_law.nd rfl (by first | exact Or.inl rfl | exact Or.inr rfl)) (vss_cons (vs_asg (ve_tup (va_cons (ve_bin op_add4 (os_add rfl) ve_int (ve_call (ok__law_pull T) (hr.mono (by omega)) rfl (m__law_pull T) (F__law_pull T).kp (bd__law_pull T) (takes_of rfl rfl rfl rfl) (va_cons (vv 1) (va_cons ve_int va_nil)))) (va_cons (ve_bin op_add4 (os_add rfl) ve_int (ve_call (ok__law_pull T) (hr.mono (by omega)) rfl (m__law_pull T) (F__law_pull T).kp (bd__law_pull T) (takes_of rfl rfl rfl rfl) (va_cons (vv 1) (va_cons ve_int va_nil)))) va_nil))) (vg_tup rfl rfl (vgs_cons (vg_name (i := 3) sc_law.nd rfl (by first | exact Or.inl rfl | exact Or.inr rfl)) (vgs_cons (vg_name (i := 4) sc_law.nd rfl (by first | exact Or.inl rfl | exact Or.inr rfl)) vgs_nil))))
    (vss_cons (vs_asg (ve_tup (va_cons (ve_call (ok__law_grid__2 T) (hr.mono (by omega)) rfl (m__law_grid T) (F__law_grid T).kp (bd__law_grid T) (takes_of rfl rfl rfl rfl) (va_cons (vv 1) (va_cons (vv 3) va_nil))) (va_cons (ve_call (ok__law_grid T) (hr.mono (by omega)) rfl (m__law_grid T) (F__law_grid T).kp (bd__law_grid T) (takes_of rfl rfl rfl rfl) (va_cons (vv 1) (va_cons (vv 3) va_nil))) (va_cons (ve_call (ok__law_grid T) (hr.mono (by omega)) rfl (m__law_grid T) (F__law_grid T).kp (bd__law_grid T) (takes_of rfl rfl rfl rfl) (va_cons (vv 1) (va_cons (vv 4) va_nil))) va_nil)))) (vg_tup rfl rfl (vgs_cons (vg_name (i := 14) sc_law.nd rfl (by first | exact Or.inl rfl | exact Or.inr rfl)) (vgs_cons (vg_name (i := 5) sc_law.nd rfl (by first | exact Or.inl rfl | exact Or.inr rfl)) (vgs_cons (vg_name (i := 15) sc_law.nd rfl (by first | exact Or.inl rfl | exact Or.inr rfl)) vgs_nil)))))
    (vss_cons (vs_sub (ve_call (ok__law_share T) (hr.mono (by omega)) rfl (m__law_share T) (F__law_share T).kp (bd__law_share T) (takes_of rfl rfl rfl rfl) (va_cons (vv 1) va_nil)) (ve_ix rfl (vv 14) (ve_call (ok__law_pull T) (hr.mono (by omega)) rfl (m__law_pull T) (F__law_pull T).kp (bd__law_pull T) (takes_of rfl rfl rfl rfl) (va_cons (vv 1) (va_cons (vv 3) va_nil)))) (ve_call (ok__law_pull T) (hr.mono (by omega)) rfl (m__law_pull T) (F__law_pull T).kp (bd__law_pull T) (takes_of rfl rfl rfl rfl) (va_cons (vv 1) (va_cons (vv 3) va_nil))))
    (vss_cons (vs_par (i := 6) (j := 7) rfl sc_law.nd rfl rfl (by decide) rfl rfl (va_cons (ve_call (ok__law_share T) (hr.mono (by omega)) rfl (m__law_share T) (F__law_share T).kp (bd__law_share T) (takes_of rfl rfl rfl rfl) (va_cons (vv 1) va_nil)) (va_cons (ve_callB (call_repr rfl (by show (7 : Nat) + 20 < cLine; decide) hs) (cs_repr rfl) rfl (z_repr T) (by decide +kernel) (va_cons (ve_lst (va_cons (vv 14) (va_cons (vv 5) (va_cons (vv 15) va_nil)))) va_nil)) va_nil)) (by rfl))
    (vss_cons (vs_set (i := 8) sc_law.nd rfl (by first | exact Or.inl rfl | exact Or.inr rfl) (ve_call (ok__law_tscale T) (hr.mono (by omega)) rfl (m__law_tscale T) (F__law_tscale T).kp (bd__law_tscale T) (takes_of rfl rfl rfl rfl) (va_cons (vv 5) (va_cons (ve_tup (va_cons (ve_bin op_sub os_sub ve_int ve_int) (va_cons ve_int va_nil))) va_nil))))
    (vss_cons (vs_set (i := 9) sc_law.nd rfl (by first | exact Or.inl rfl | exact Or.inr rfl) (ve_lstC (va_cons (ve_call (ok_added__2 T) (hr.mono (by omega)) rfl (m_added T) (F_added T).kp (bd_added T) (takes_of rfl rfl rfl rfl) (va_cons (vv 14) (va_cons (vv 5) va_nil))) (va_cons (ve_call (ok_taken__2 T) (hr.mono (by omega)) rfl (m_taken T) (F_taken T).kp (bd_taken T) (takes_of rfl rfl rfl rfl) (va_cons (vv 14) (va_cons (vv 5) va_nil))) (va_cons (ve_call (ok_product__2 T) (hr.mono (by omega)) rfl (m_product T) (F_product T).kp (bd_product T) (takes_of rfl rfl rfl rfl) (va_cons (vv 14) (va_cons (vv 5) va_nil))) (va_cons (ve_call (ok_product__2 T) (hr.mono (by omega)) rfl (m_product T) (F_product T).kp (bd_product T) (takes_of rfl rfl rfl rfl) (va_cons (vv 5) (va_cons (vv 14) va_nil))) (va_cons (ve_call (ok_scaled__2 T) (hr.mono (by omega)) rfl (m_scaled T) (F_scaled T).kp (bd_scaled T) (takes_of rfl rfl rfl rfl) (va_cons (vv 14) (va_cons (vv 6) va_nil))) va_nil)))))))
    (vss_cons (vs_set (i := 10) sc_law.nd rfl (by first | exact Or.inl rfl | exact Or.inr rfl) (ve_lst (va_cons (ve_call (ok__law_tadd T) (hr.mono (by omega)) rfl (m__law_tadd T) (F__law_tadd T).kp (bd__law_tadd T) (takes_of rfl rfl rfl rfl) (va_cons (vv 14) (va_cons (vv 5) va_nil))) (va_cons (ve_call (ok__law_tadd T) (hr.mono (by omega)) rfl (m__law_tadd T) (F__law_tadd T).kp (bd__law_tadd T) (takes_of rfl rfl rfl rfl) (va_cons (vv 14) (va_cons (vv 8) va_nil))) (va_cons (ve_call (ok__law_tmul T) (hr.mono (by omega)) rfl (m__law_tmul T) (F__law_tmul T).kp (bd__law_tmul T) (takes_of rfl rfl rfl rfl) (va_cons (vv 14) (va_cons (vv 5) va_nil))) (va_cons (ve_call (ok__law_tmul T) (hr.mono (by omega)) rfl (m__law_tmul T) (F__law_tmul T).kp (bd__law_tmul T) (takes_of rfl rfl rfl rfl) (va_cons (vv 5) (va_cons (vv 14) va_nil))) (va_cons (ve_call (ok__law_tscale T) (hr.mono (by omega)) rfl (m__law_tscale T) (F__law_tscale T).kp (bd__law_tscale T) (takes_of rfl rfl rfl rfl) (va_cons (vv 14) (va_cons (vv 6) va_nil))) va_nil)))))))
    (vss_cons (vs_if (vt_w (vw_or (vt_not (vt_val (ve_call (ok__law_same T 40) (hr.mono (by omega)) rfl (m__law_same T) (F__law_same T).kp (bd__law_same T) (takes_of rfl rfl rfl rfl) (va_cons (vv 9) (va_cons (vv 10) va_nil))))) (vw_or1 (vt_not (vt_val (ve_call (ok__law_same T 40) (hr.mono (by omega)) rfl (m__law_same T) (F__law_same T).kp (bd__law_same T) (takes_of rfl rfl rfl rfl) (va_cons (ve_call (ok_product T) (hr.mono (by omega)) rfl (m_product T) (F_product T).kp (bd_product T) (takes_of rfl rfl rfl rfl) (va_cons (ve_callTy call_tuple_of (cs_tupOf rfl) rfl (z_tuple T) (by decide +kernel) (va_cons (ve_lc (own := [("_law_row", 16)]) rfl sc_law.nd (vi_any rfl (vv 14)) (blkOk_by (by kernel_rfl)) (fun _ _ _ _ _ => (vg_name (i := 16) sc_law.nd rfl (by first | exact Or.inl rfl | exact Or.inr rfl))) (fun _ _ _ _ _ => vts_nil) (fun _ _ _ _ _ => (ve_callTy call_tuple_of (cs_tupOf rfl) rfl (z_tuple T) (by decide +kernel) (va_cons (vv 16) va_nil)))) va_nil)) (va_cons (vv 5) va_nil))) (va_cons (ve_ix rfl (vv 10) ve_int) va_nil)))))))) (vss_one (vs_ret ve_bl)) vss_nil)
    (vss_cons (vs_for (passes_of rfl) rfl (vi_any rfl (vv 9)) (vg_name (i := 11) sc_law.nd rfl (by first | exact Or.inl rfl | exact Or.inr rfl)) (vss_cons (vs_sub (ve_tup (va_cons ve_int (va_cons ve_int va_nil))) (ve_ix rfl (vv 11) ve_int) ve_int)
    (vss_one (vs_expr (ve_m rfl ⟨by decide, by decide, by decide⟩ PySem.F.plainAttrs_list PySem.F.slot_list_append PySem.F.type_list_append mt_append ms_append (vv 11) (va_cons (ve_lst va_nil) va_nil))))))
    (vss_cons (vs_set (i := 12) sc_law.nd rfl (by first | exact Or.inl rfl | exact Or.inr rfl) (ve_bin op_add4 (os_add rfl) (ve_lc (own := [("_law_row", 16)]) rfl sc_law.nd (vi_any rfl (vv 14)) (blkOk_by (by kernel_rfl)) (fun _ _ _ _ _ => (vg_name (i := 16) sc_law.nd rfl (by first | exact Or.inl rfl | exact Or.inr rfl))) (fun _ _ _ _ _ => vts_nil) (fun _ _ _ _ _ => (ve_bin op_add4 (os_add rfl) (vv 16) (ve_bin op_mul2 os_mul (ve_lst (va_cons (ve_tup (va_cons ve_int (va_cons ve_int va_nil))) va_nil)) (vv 4))))) (ve_lc (own := [("_law_row", 16)]) rfl sc_law.nd (vi_any rfl (vv 15)) (blkOk_by (by kernel_rfl)) (fun _ _ _ _ _ => (vg_name (i := 16) sc_law.nd rfl (by first | exact Or.inl rfl | exact Or.inr rfl))) (fun _ _ _ _ _ => vts_nil) (fun _ _ _ _ _ => (ve_bin op_add4 (os_add rfl) (ve_bin op_mul2 os_mul (ve_lst (va_cons (ve_tup (va_cons ve_int (va_cons ve_int va_nil))) va_nil)) (vv 3)) (vv 16))))))
    (vss_cons (vs_if (vt_not (vt_val (ve_call (ok__law_same T 40) (hr.mono (by omega)) rfl (m__law_same T) (F__law_same T).kp (bd__law_same T) (takes_of rfl rfl rfl rfl) (va_cons (ve_lst (va_cons (ve_call (ok_added T) (hr.mono (by omega)) rfl (m_added T) (F_added T).kp (bd_added T) (takes_of rfl rfl rfl rfl) (va_cons (vv 14) (va_cons (vv 5) va_nil))) (va_cons (ve_call (ok_corners T) (hr.mono (by omega)) rfl (m_corners T) (F_corners T).kp (bd_corners T) (takes_of rfl rfl rfl rfl) (va_cons (vv 14) (va_cons (vv 15) va_nil))) va_nil))) (va_cons (ve_lst (va_cons (ve_ix rfl (vv 10) ve_int) (va_cons (vv 12) va_nil))) va_nil))))) (vss_one (vs_ret ve_bl)) vss_nil)
    (vss_cons (vs_if (vt_cmp (op_neD hr.units) (os_ne rfl) (vv 3) (vv 4) (nomark _)) (vss_asks (k := 40) (iy := 13) (tb_law T) rfl (tm_law T) (tu_law T) (.by (as := []) (by kernel_rfl) (.bare rfl fun _ _ _ _ _ _ => rfl) (fun A outer s H E f c' hr2 => (ve_call (ok_added T) (hr2.mono (by omega)) rfl (m_added T) (F_added T).kp (bd_added T) (takes_of rfl rfl rfl rfl) (va_cons (vv 14) (va_cons (vv 15) va_nil))))
      (.by (as := ["_law_a"]) (by kernel_rfl) (.with (as := ["_law_a"]) rfl rfl fun _ _ _ _ _ _ _ us hl => match us, hl with | [_], _ => ⟨_, rfl, rfl⟩) (fun A outer s H E f c' hr2 => (ve_call (ok_taken T) (hr2.mono (by omega)) rfl (m_taken T) (F_taken T).kp (bd_taken T) (takes_of rfl rfl rfl rfl) (va_cons (vv 15) (va_cons (vv 14) va_nil))))
      (.by (as := ["_law_b"]) (by kernel_rfl) (.with (as := ["_law_b"]) rfl rfl fun _ _ _ _ _ _ _ us hl => match us, hl with | [_], _ => ⟨_, rfl, rfl⟩) (fun A outer s H E f c' hr2 => (ve_call (ok_product T) (hr2.mono (by omega)) rfl (m_product T) (F_product T).kp (bd_product T) (takes_of rfl rfl rfl rfl) (va_cons (vv 14) (va_cons (vv 15) va_nil))))
      .nil))) (by decide) sc_law.nd rfl (by first | exact Or.inl rfl | exact Or.inr rfl) (.inr rfl) (pe_asks (k := 40) (pick := pickL ys__law_tried) (hs := hs__law_tried) (iy := 13) (ia := 17) rfl (m__law_tried T) (F__law_tried T) sc__law_tried rfl (.inl rfl) (fun _ _ _ _ _ _ us hl => match us, hl with | [_], _ => rfl) (by decide) ask__law_tried (hC__law_tried T) rfl (T.xf 0 rfl) (hr.mono (by omega)) rfl sc_law.nd rfl (by first | exact Or.inl rfl | exact Or.inr (Or.inl rfl) | exact Or.inr (Or.inr rfl)) rfl (blkOk_by (by kernel_rfl)) (fun _ _ _ _ _ => rfl) (fun _ _ => (by first | exact Or.inl rfl | exact Or.inr (Or.inl rfl) | exact Or.inr (Or.inr rfl))) (fun _ _ _ _ _ => pg_name sc_law.nd rfl (by first | exact Or.inl rfl | exact Or.inr rfl))) (op_neD hr.units) (os_ne rfl) (ve_bin op_mul2 os_mul (ve_lst (va_cons (ve_tup (va_cons ve_str (va_cons ve_str va_nil))) va_nil)) ve_int) (nomark _) (vss_one (vs_ret ve_bl)) vss_nil
    vss_nil) vss_nil)
    (vss_one (vs_if (vt_cmp (op_neD hr.units) (os_ne rfl) (ve_callB (call_repr rfl (by show (7 : Nat) + 20 < cLine; decide) hs) (cs_repr rfl) rfl (z_repr T) (by decide +kernel) (va_cons (ve_lst (va_cons (vv 14) (va_cons (vv 5) (va_cons (vv 15) va_nil)))) va_nil)) (vv 7) (nomark _)) (vss_one (vs_ret ve_bl)) vss_nil)))))))))))))))
    (vss_one (vs_ret ve_bl))))
end
end Pf

namespace Pf
open PySem PySem.Spec PyProof.Rows L2 L3
def pm (K : PySem.W.Frag) : Pm := ⟨K, tf.map fun p => ((He.cT K p).2, p.1 ++ (".<locals>." : Str) ++ ("<lambda>" : Str)), fun x => if x ∈ lw.cs then some (He.ga K x) else none⟩
theorem lawAt {w : World} {mg : Str → Option Value} {f : Addr} {h : Heap} (Y : ∃ K : PySem.W.Frag, K.In h ∧ He.SaysX fa fn tsk tf ex w h K) (G : h.Ns mainGlobals mg) (hfa : mg ("law" : Str) = some (.ref f)) :
    ∃ K : PySem.W.Frag, K.In h ∧ LawAtC PySem.Challenge.rw_nevernought_k04_tables_reckoned w K (L2.CX PySem.Challenge.rw_nevernought_k04_tables_reckoned.prog w) 63 "_law_script" mg f h := by
  obtain ⟨K, KX, c⟩ := Y
  have cd : He.SaysD fa fn K := c.t.d
  have F : FunD K "law" "law" (defArgs s_law) (defBody s_law) (defScope s_law) [] [] (He.ga K "law") (fdOf K ("law", none)) := by
    obtain ⟨fd, F⟩ := cd.def_ (30) (d := fn.getD (30) ⟨("", none), "", "", defArgs s_law, defBody s_law, defScope s_law, [], []⟩) rfl
    have e := fdOf_eq (p := ("law", none)) F
    rw [e]
    exact F
  have e : mg "law" = some (.ref (He.ga K "law")) := He.glo_ok KX G (cd.fact 30 rfl)
  rw [hfa] at e
  cases e
  refine ⟨K, KX, fdOf K ("law", none), tf.map (He.cT K), spF (pm K) 1 f_law, ?_, ?_, ?_, ?_, ?_, ?_⟩
  · intro p hp
    obtain ⟨d, hd, rfl⟩ := List.mem_map.mp hp
    exact c.empty d hd
  · intro p hp
    obtain ⟨d, hd, rfl⟩ := List.mem_map.mp hp
    exact c.out d hd
  · intro p hp
    obtain ⟨d, hd, rfl⟩ := List.mem_map.mp hp
    exact PySem.W.codeHd_of_K KX (c.hd d hd)
  · intro s u
    exact F.bindsA (ps := ["_law_script"]) (fun _ _ _ _ _ _ us hl => match us, hl with | [_], _ => rfl) s [u] rfl
  · intro H a ns hl hbits hT hS
    have st : St3 (pm K) H ⟨[], []⟩ [] := ⟨rfl, fun k a m h => (by simp at h), List.nodup_nil, fun a h => (by cases h), fun p hp => by
      obtain ⟨d, hd, rfl⟩ := List.mem_map.mp hp
      exact LamX.TabS.nil (hT _ (List.mem_map.mpr ⟨d, hd, rfl⟩))⟩
    refine ⟨rfl, ⟨[], []⟩, [.scr ns], [], .cons (.scr ?_) .nil, st, ?_⟩
    · rcases hS with hS | hS
      · exact .inl ⟨hS, fun z => z.elim (fun y => by cases y) fun y => by cases y⟩
      · exact .inr hS
    · obtain ⟨μ, e⟩ := law_true ns hl hbits
      rw [e]
      intro L' H' x s v r
      cases r
      rfl
  · intro base KX G seer tb
    exact ok_law (P := pm K) ⟨cd, KX, G, fun p hp => tb _ (List.mem_map.mpr ⟨p, hp, rfl⟩), c.more, rfl, rfl, fun q hq => by
      obtain ⟨i, hi, e⟩ := List.mem_iff_getElem.mp hq
      have z := c.t.tab i (t := (fun K => He.ga K q.1, q.2.map (·.1))) (by
        unfold tsk
        rw [List.getElem?_map, List.getElem?_eq_getElem hi, e]; rfl)
      exact z⟩ seer
end Pf
open PySem PySem.W PySem.Calls PyProof.Rows
theorem PySem.Challenge.cw_nevernought_k04_tables_reckoned_holds : PySem.Challenge.rw_nevernought_k04_tables_reckoned.Holds := by
  w_on; o_law
  refine HandSHeadRun.head_any (r := OpenLaw.row PySem.Challenge.rw_nevernought_k04_tables_reckoned) (q := view (OpenLaw.row PySem.Challenge.rw_nevernought_k04_tables_reckoned).prog [41]) (H := Pf.hk) (ob := Pf.ob) (M := 8000) (loose := Pf.loose) (d := HandSHeadRun.topDef (OpenLaw.row PySem.Challenge.rw_nevernought_k04_tables_reckoned).prog 41) (kwd := []) Pf.ob_eq
    (by kernel_rfl) (fun s => by kernel_rfl) Pf.hrun (by kernel_rfl) (by kernel_rfl) (by kernel_rfl) (by rfl) (by first | assumption | decide +kernel) (by decide +kernel) ⟨rfl, rfl, rfl, rfl, rfl, by decide +kernel⟩ ?hw ?hc
  case hw => w_witness2
  case hc =>
    refine L3.walkC (l := PySem.Challenge.rw_nevernought_k04_tables_reckoned) (n := 63) (x := "_law_script") (CX := fun w => L2.CX PySem.Challenge.rw_nevernought_k04_tables_reckoned.prog w) rfl (by decide) (by kernel_rfl) (by kernel_rfl) ?F (fun w H s e s' h => by
      obtain ⟨_, _, _, _, _, _, _, _, _, _, _, _, z⟩ := h
      exact z.elim)
    intro w mg fa h Y G hmg0
    have hmg : mg ("law" : PySem.Str) = some (.ref fa) := by
      have e : (HandSHeadRun.topDef (OpenLaw.row PySem.Challenge.rw_nevernought_k04_tables_reckoned).prog 41).name = ("law" : PySem.Str) := by kernel_rfl
      rw [← e]
      exact hmg0
    exact Pf.lawAt Y G hmg


