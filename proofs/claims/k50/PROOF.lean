import PyProof.Rows.All
import Wide.All
import OpenK.AllK
import Wide.FinOn
import HandS.ForMost
import HandS.ForExc
import HandS.Wide
import HandS.Defaults
import HandS.TryMany
import HandS.IsInst
import HandS.ExcInit
import HandS.ExcField
import HandS.Lambda
import HandS.Zip
import HandS.HeadHook4
import HandS.HeadWalk
import KE.KExcInit
import HandS.NestedK
import HandS.More
import HandS.Head1
import HandS.Head2
import HandS.FStr
import HandS.Deep
import HandS.NoneIn
import HandS.Style
import HandS.Codes
import KE.GoesSet
import HandS.Set
import HandS.SetTxt0
import HandS.TupSets
import HandS.DictComp
import HandS.SetFor
import HandS.SortKw
import HandS.Iter
import KE.KUnpackStar
import HandS.Small
import PyProof.ReprRoads
import PyProof.StrLawsRepr
import KE.GoesMore
import PyProof.ListStr
import KE.KDflt
import HandS.TupAny
import HandS.SortRule
import HandS.Conv
import PyProof.EqAt
import PyProof.EqKinds
import PyProof.InstNe
import HandS.OwnEq
import HandS.Records
import HandS.SlotsOwn
import PySem.Challenge.RW_nevernought_k50_machines_equal_long_and
set_option Elab.async false
set_option linter.all false
set_option maxRecDepth 100000
set_option maxHeartbeats 0
set_option autoImplicit false
namespace L3
open PySem PySem.Spec PyProof.Rows L2

abbrev Slots := L2.St
/-- the places of the mutable things (by number), and private places (a list that a comprehension is making) -/
structure Lv where
  c : List Addr
  x : List Addr
def Lv.has (L : Lv) (a : Addr) : Prop := a ∈ L.c ∨ a ∈ L.x
def Lv.cell (L : Lv) (p : Addr) : Lv := ⟨L.c ++ [p], L.x⟩
/-- a datum: a value with all that hangs on it; cell k: the k-th mutable thing -/
inductive D where
  | non | bl (b : Bool) | int (i : Int) | str (s : Str)
  | lst (xs : List D) | tup (xs : List D)
  | dct (ks : List Key) (vs : List D)
  | obj (c : Str) (ns : List Str) (vs : List D)
  | cell (k : Nat)
  | scr (ns : List Int)
  /-- a tuple that is a key -/
  | key (k : List Key)
/-- a dict with tuples as keys (tt, while walked: lt), a dict while walked (ld), a set of texts (st) -/
inductive OK where
  | tt | lt | ld | st
/-- a mutable thing -/
inductive MO where
  | lst (xs : List D)
  | dct (ks : List Key) (vs : List D)
  | ins (c : Str) (ns : List Str) (vs : List D)
  /-- a dict with tuples as keys; a dict while a loop walks it -/
  | oth (o : OK) (ks : List (List Key)) (vs : List D)
abbrev Sto := List MO
abbrev Env := List (Option D)

/-- what is fixed through a law: the written part, the tables of code objects, the classes' places -/
structure Pm where
  K : PySem.W.Frag
  T : List (Addr × Str)
  cls : Str → Option Addr

section
variable (P : Pm) (H : Hp) (L : Lv)
/-- a tuple that stands -/
def TupAt (a : Addr) (vs : List V) : Prop := (Rd H a (.tup vs) ∧ ¬ L.has a) ∨
  ∃ (o : Obj) (its : Array Value) (n : Nat), P.K.lookup a = some o ∧ o.cls = .type "tuple" ∧ o.data = .seq its n ∧ its.size ≤ sizeLine ∧ Vals vs its.toList
/-- the script: a list that nobody writes -/
def ScrAt (a : Addr) (vs : List V) : Prop := (Rd H a (.lst vs) ∧ ¬ L.has a) ∨
  ∃ (o : Obj) (its : Array Value) (n : Nat), P.K.lookup a = some o ∧ o.cls = .type "list" ∧ o.dict = none ∧ o.data = .seq its n ∧ its.size ≤ sizeLine ∧ Vals vs its.toList
mutual
inductive Rep : V → D → Prop
  | non : Rep .non .non
  | bl (b : Bool) : Rep (.bl b) (.bl b)
  | int (i : Int) : Rep (.int i) (.int i)
  | str (s : Str) : Rep (.str s) (.str s)
  | lst {a : Addr} {vs : List V} {ds : List D} (h : H a = some (.lst vs)) (n : ¬ L.has a) (r : Reps vs ds) : Rep (.ref a) (.lst ds)
  | tup {a : Addr} {vs : List V} {ds : List D} (h : TupAt P H L a vs) (r : Reps vs ds) : Rep (.ref a) (.tup ds)
  | dct {a : Addr} {ks : List Key} {vs : List V} {ds : List D} (h : Rd H a (.dK (ks.zip vs))) (n : ¬ L.has a) (l : ks.length = vs.length) (r : Reps vs ds) : Rep (.ref a) (.dct ks ds)
  | obj {a C dx : Addr} {c : Str} {ns : List Str} {vs : List V} {ds : List D} (h : H a = some (.ins C dx (ns.zip vs))) (hc : P.cls c = some C) (n : ¬ L.has a) (l : ns.length = vs.length) (r : Reps vs ds) : Rep (.ref a) (.obj c ns ds)
  | cell {a : Addr} {k : Nat} (h : L.c[k]? = some a) : Rep (.ref a) (.cell k)
  | scr {a : Addr} {ns : List Int} (h : ScrAt P H L a (ns.map V.int)) : Rep (.ref a) (.scr ns)
  | key {a : Addr} {k : List Key} (h : H a = some (.tup (k.map kV))) (n : ¬ L.has a) : Rep (.ref a) (.key k)
inductive Reps : List V → List D → Prop
  | nil : Reps [] []
  | cons {v : V} {d : D} {vs : List V} {ds : List D} (h : Rep v d) (r : Reps vs ds) : Reps (v :: vs) (d :: ds)
end
/-- what stands at such a thing's place -/
def OthO (a : Addr) : OK → List (List Key) → List V → Prop
  | .tt, ks, vs => H a = some (.dT (ks.zip vs))
  | .lt, ks, vs => ∃ o : Obj, H a = some (.frz o (.dT (ks.zip vs)))
  | .ld, ks, vs => ∃ (o : Obj) (qs : List Key), ks = qs.map (fun q => [q]) ∧ H a = some (.frz o (.dK (qs.zip vs)))
  | .st, ks, _ => ∃ (o : Obj) (u : HO) (es : Array (Int × Value)) (ep : Nat) (t : SetTable), H a = some (.frz o u) ∧ o.ExactSet ∧ o.data = .set es ep t ∧ t.fits es.size = true ∧ es.size = ks.length
/-- a mutable thing stands at a -/
inductive RepM (a : Addr) : MO → Prop
  | lst {vs : List V} {ds : List D} (h : H a = some (.lst vs)) (r : Reps P H L vs ds) : RepM a (.lst ds)
  | dct {ks : List Key} {vs : List V} {ds : List D} (h : H a = some (.dK (ks.zip vs))) (l : ks.length = vs.length) (r : Reps P H L vs ds) : RepM a (.dct ks ds)
  | ins {C dx : Addr} {c : Str} {ns : List Str} {vs : List V} {ds : List D} (h : H a = some (.ins C dx (ns.zip vs))) (hc : P.cls c = some C) (l : ns.length = vs.length) (r : Reps P H L vs ds) : RepM a (.ins c ns ds)
  | oth {o : OK} {ks : List (List Key)} {vs : List V} {ds : List D} (h : OthO H a o ks vs) (l : ks.length = vs.length) (r : Reps P H L vs ds) : RepM a (.oth o ks ds)
/-- the mutable things, and the tables -/
structure St3 (μ : Sto) : Prop where
  len : L.c.length = μ.length
  at_ : ∀ (k : Nat) (a : Addr) (m : MO), L.c[k]? = some a → μ[k]? = some m → RepM P H L a m
  nd : L.c.Nodup
  dis : ∀ a ∈ L.x, a ∉ L.c ∧ ∃ vs, H a = some (.lst vs)
  tab : LamX.Tabs P.T H
/-- the slots -/
structure RelS (σ : Slots) (ρ : Env) : Prop where
  len : σ.length = ρ.length
  at_ : ∀ (i : Nat) (d : D), ρ[i]? = some (some d) → ∃ v, σ[i]? = some (some v) ∧ Rep P H L v d
end

/-- from (L, H) to (L', H'): nothing that was a datum is another one -/
structure Ext0 (L : Lv) (H : Hp) (L' : Lv) (H' : Hp) : Prop where
  keep : ∀ a o, H a = some o → (∀ ps, o ≠ .tbl ps) → ¬ L.has a → H' a = some o
  pre : ∀ (k : Nat) a, L.c[k]? = some a → L'.c[k]? = some a
  new : ∀ a, L'.has a → L.has a ∨ H a = none ∨ ∃ ps, H a = some (.tbl ps)
/-- .. and nothing private was written -/
structure Ext (P : Pm) (L : Lv) (H : Hp) (L' : Lv) (H' : Hp) : Prop extends Ext0 L H L' H' where
  px : L'.x = L.x
  prv : ∀ a ∈ L.x, H' a = H a

section
variable {P : Pm} {H H1 H2 : Hp} {L L1 L2 : Lv}
theorem Ext0.refl : Ext0 L H L H := ⟨fun _ _ h _ _ => h, fun _ _ h => h, fun _ h => .inl h⟩
theorem Ext.refl : Ext P L H L H := ⟨.refl, rfl, fun _ _ => rfl⟩
theorem Ext0.trans (x : Ext0 L H L1 H1) (y : Ext0 L1 H1 L2 H2) : Ext0 L H L2 H2 := by
  refine ⟨fun a o h t n => ?_, fun k a h => y.pre k a (x.pre k a h), fun a h => ?_⟩
  · refine y.keep a o (x.keep a o h t n) t fun h1 => ?_
    rcases x.new a h1 with z | z | ⟨ps, z⟩
    · exact n z
    · rw [h] at z; cases z
    · rw [h] at z; exact t ps (Option.some.inj z)
  · rcases y.new a h with z | z
    · exact x.new a z
    · cases e : H a with
      | none => exact .inr (.inl rfl)
      | some o =>
        by_cases t : ∃ ps, o = .tbl ps
        · obtain ⟨ps, t⟩ := t
          exact .inr (.inr ⟨ps, by rw [t]⟩)
        · by_cases n : L.has a
          · exact .inl n
          · have k := x.keep a o e (fun ps q => t ⟨ps, q⟩) n
            rcases z with z | ⟨ps, z⟩
            · rw [k] at z; cases z
            · rw [k] at z; exact absurd ⟨ps, Option.some.inj z⟩ t
theorem Ext.trans (x : Ext P L H L1 H1) (y : Ext P L1 H1 L2 H2) : Ext P L H L2 H2 :=
  ⟨x.toExt0.trans y.toExt0, y.px.trans x.px, fun a h => (y.prv a (by rw [x.px]; exact h)).trans (x.prv a h)⟩
theorem Rd.keep3 {a : Addr} {u : HO} (x : Ext0 L H L1 H1) (h : Rd H a u) (hu : ∀ ps, u ≠ .tbl ps) (n : ¬ L.has a) : Rd H1 a u ∧ ¬ L1.has a := by
  have nn : ¬ L1.has a := fun z => by
    rcases x.new a z with q | q | ⟨ps, q⟩
    · exact n q
    · rcases h with h | ⟨o, h⟩ <;> (rw [h] at q; cases q)
    · rcases h with h | ⟨o, h⟩
      · rw [h] at q; exact hu ps (Option.some.inj q)
      · rw [h] at q; cases q
  refine ⟨?_, nn⟩
  rcases h with h | ⟨o, h⟩
  · exact .inl (x.keep a u h hu n)
  · exact .inr ⟨o, x.keep a _ h (fun ps z => nomatch z) n⟩
theorem TupAt.ext0 {a : Addr} {vs : List V} (x : Ext0 L H L1 H1) (h : TupAt P H L a vs) : TupAt P H1 L1 a vs := by
  rcases h with ⟨h, n⟩ | h
  · exact .inl (Rd.keep3 x h (fun ps z => nomatch z) n)
  · exact .inr h
theorem ScrAt.ext0 {a : Addr} {vs : List V} (x : Ext0 L H L1 H1) (h : ScrAt P H L a vs) : ScrAt P H1 L1 a vs := by
  rcases h with ⟨h, n⟩ | h
  · exact .inl (Rd.keep3 x h (fun ps z => nomatch z) n)
  · exact .inr h
mutual
theorem Rep.ext0 (x : Ext0 L H L1 H1) : ∀ {v : V} {d : D}, Rep P H L v d → Rep P H1 L1 v d
  | _, _, .non => .non
  | _, _, .bl b => .bl b
  | _, _, .int i => .int i
  | _, _, .str s => .str s
  | _, _, .lst h n r => .lst (x.keep _ _ h (fun ps z => nomatch z) n) (Rd.keep3 x (.inl h) (fun ps z => nomatch z) n).2 (Reps.ext0 x r)
  | _, _, .tup h r => .tup (h.ext0 x) (Reps.ext0 x r)
  | _, _, .dct h n l r => .dct (Rd.keep3 x h (fun ps z => nomatch z) n).1 (Rd.keep3 x h (fun ps z => nomatch z) n).2 l (Reps.ext0 x r)
  | _, _, .obj h hc n l r => .obj (x.keep _ _ h (fun ps z => nomatch z) n) hc (Rd.keep3 x (.inl h) (fun ps z => nomatch z) n).2 l (Reps.ext0 x r)
  | _, _, .cell h => .cell (x.pre _ _ h)
  | _, _, .scr h => .scr (h.ext0 x)
  | _, _, .key h n => .key (x.keep _ _ h (fun ps z => nomatch z) n) (Rd.keep3 x (.inl h) (fun ps z => nomatch z) n).2
theorem Reps.ext0 (x : Ext0 L H L1 H1) : ∀ {vs : List V} {ds : List D}, Reps P H L vs ds → Reps P H1 L1 vs ds
  | _, _, .nil => .nil
  | _, _, .cons h r => .cons (Rep.ext0 x h) (Reps.ext0 x r)
end
theorem Rep.ext {v : V} {d : D} (r : Rep P H L v d) (x : Ext P L H L1 H1) : Rep P H1 L1 v d := r.ext0 x.toExt0
theorem Reps.ext {v : List V} {d : List D} (r : Reps P H L v d) (x : Ext P L H L1 H1) : Reps P H1 L1 v d := r.ext0 x.toExt0
theorem RelS.ext0 {σ : Slots} {ρ : Env} (x : Ext0 L H L1 H1) (r : RelS P H L σ ρ) : RelS P H1 L1 σ ρ :=
  ⟨r.len, fun i d e => let ⟨v, h, q⟩ := r.at_ i d e; ⟨v, h, q.ext0 x⟩⟩
theorem RelS.ext {σ : Slots} {ρ : Env} (r : RelS P H L σ ρ) (x : Ext P L H L1 H1) : RelS P H1 L1 σ ρ := r.ext0 x.toExt0
theorem Reps.length : ∀ {vs : List V} {ds : List D}, Reps P H L vs ds → vs.length = ds.length
  | _, _, .nil => rfl
  | _, _, .cons _ r => by simp [Reps.length r]
theorem Reps.get : ∀ {vs : List V} {ds : List D} {i : Nat} {d : D}, Reps P H L vs ds → ds[i]? = some d → ∃ v, vs[i]? = some v ∧ Rep P H L v d
  | _, _, _, _, .nil, e => by simp at e
  | _, _, 0, _, .cons h _, e => by simp at e; subst e; exact ⟨_, rfl, h⟩
  | _, _, i + 1, d, .cons _ t, e => by
    obtain ⟨u, h1, h2⟩ := Reps.get (i := i) (d := d) t (by simpa using e)
    exact ⟨u, by simpa using h1, h2⟩
theorem Reps.append : ∀ {vs ws : List V} {ds es : List D}, Reps P H L vs ds → Reps P H L ws es → Reps P H L (vs ++ ws) (ds ++ es)
  | _, _, _, _, .nil, s => s
  | _, _, _, _, .cons r t, s => .cons r (Reps.append t s)
theorem Reps.take : ∀ {vs : List V} {ds : List D} (n : Nat), Reps P H L vs ds → Reps P H L (vs.take n) (ds.take n)
  | _, _, 0, _ => .nil
  | _, _, _ + 1, .nil => .nil
  | _, _, n + 1, .cons r t => .cons r (Reps.take n t)
theorem Reps.drop : ∀ {vs : List V} {ds : List D} (n : Nat), Reps P H L vs ds → Reps P H L (vs.drop n) (ds.drop n)
  | _, _, 0, r => r
  | _, _, _ + 1, .nil => .nil
  | _, _, n + 1, .cons _ t => Reps.drop n t
theorem Reps.set {x : V} {d : D} (r : Rep P H L x d) : ∀ {vs : List V} {ds : List D} (i : Nat), Reps P H L vs ds → Reps P H L (vs.set i x) (ds.set i d)
  | _, _, _, .nil => .nil
  | _, _, 0, .cons _ t => .cons r t
  | _, _, i + 1, .cons q t => .cons q (Reps.set r i t)
theorem RelS.set {σ : Slots} {ρ : Env} {i : Nat} {v : V} {d : D} (r : RelS P H L σ ρ) (h : Rep P H L v d) : RelS P H L (σ.set i (some v)) (ρ.set i (some d)) := by
  refine ⟨by simp [r.len], fun j e q => ?_⟩
  by_cases hj : j = i
  · subst hj
    have hl : j < ρ.length := by
      have := (List.getElem?_eq_some_iff.mp q).1
      simpa using this
    rw [List.getElem?_set_self hl] at q
    cases q
    exact ⟨v, List.getElem?_set_self (by rw [r.len]; exact hl), h⟩
  · rw [List.getElem?_set_ne (Ne.symm hj)] at q ⊢
    exact r.at_ j e q
end

/-! ### what a piece of code comes to -/
inductive R (α : Type) where
  | ok (a : α) (μ : Sto)
  | exc (c : Str) (ns : List Str) (vs : List D) (μ : Sto)
  | bad
def R.bind {α β : Type} (r : R α) (k : α → Sto → R β) : R β := match r with
  | .ok a μ => k a μ
  | .exc c ns vs μ => .exc c ns vs μ
  | .bad => .bad
@[simp] theorem R.bind_ok {α β : Type} {a : α} {μ : Sto} {k : α → Sto → R β} : (R.ok a μ).bind k = k a μ := rfl
@[simp] theorem R.bind_exc {α β : Type} {c : Str} {ns vs} {μ : Sto} {k : α → Sto → R β} : (R.exc (α := α) c ns vs μ).bind k = .exc c ns vs μ := rfl
@[simp] theorem R.bind_bad {α β : Type} {k : α → Sto → R β} : (R.bad (α := α)).bind k = .bad := rfl
/-- an exception's fields -/
def XF (P : Pm) (L : Lv) (H : Hp) (dx : Addr) (ns : List Str) (ds : List D) : Prop := ∃ vs, H dx = some (.xd (ns.zip vs)) ∧ ns.length = vs.length ∧ Reps P H L vs ds
/-- what is wanted of an exception, at the slots σ -/
def PostX (P : Pm) (E : XK) (L : Lv) (H : Hp) (c : Str) (ns : List Str) (ds : List D) (μ : Sto) : Prop :=
  ∀ C dx L' H', P.cls c = some C → Ext P L H L' H' → St3 P H' L' μ → XF P L' H' dx ns ds → E (.ref C) (some dx) H'
/-- what is wanted of an end: V the value's relation -/
def Post {α : Type} (P : Pm) (E : XK) (L : Lv) (H : Hp) (q : α → Lv → Hp → Prop) : R α → Prop
  | .ok a μ => ∀ L' H', Ext P L H L' H' → St3 P H' L' μ → q a L' H'
  | .exc c ns vs μ => PostX P E L H c ns vs μ
  | .bad => False
section
variable {P : Pm} {E : XK} {H H1 : Hp} {L L1 : Lv} {α β : Type}
theorem PostX.ext {c ns ds μ} (x : Ext P L H L1 H1) (h : PostX P E L H c ns ds μ) : PostX P E L1 H1 c ns ds μ := fun C dx L' H' hc y s f => h C dx L' H' hc (x.trans y) s f
theorem Post.ext {q : α → Lv → Hp → Prop} {r : R α} (x : Ext P L H L1 H1) (h : Post P E L H q r) : Post P E L1 H1 q r := by
  cases r with
  | ok a μ => exact fun L' H' y s => h L' H' (x.trans y) s
  | exc c ns vs μ => exact PostX.ext (μ := μ) x h
  | bad => exact h
theorem Post.bind {q : β → Lv → Hp → Prop} {r : R α} {k : α → Sto → R β} (h : Post P E L H q (r.bind k)) : 
    match r with
    | .ok a μ => Post P E L H q (k a μ)
    | .exc c ns vs μ => PostX P E L H c ns vs μ
    | .bad => False := by
  cases r <;> exact h
end
abbrev SE := Env → Sto → R D
abbrev ST := Env → Sto → R Bool
abbrev SA := Env → Sto → R (List D)
/-- the reading of an expression by its semantics -/
def tV (P : Pm) (W : WX) (f : SE) : TE := fun σ H Q => ∃ L ρ μ, RelS P H L σ ρ ∧ St3 P H L μ ∧ Post P (WE W σ) L H (fun d L' H' => ∀ v, Rep P H' L' v d → Q v H') (f ρ μ)
def tVT (P : Pm) (W : WX) (f : ST) : TT := fun σ H Q => ∃ L ρ μ, RelS P H L σ ρ ∧ St3 P H L μ ∧ Post P (WE W σ) L H (fun b _ H' => Q b H') (f ρ μ)
def tVA (P : Pm) (W : WX) (f : SA) : TA := fun σ H Q => ∃ L ρ μ, RelS P H L σ ρ ∧ St3 P H L μ ∧ Post P (WE W σ) L H (fun ds L' H' => ∀ vs, Reps P H' L' vs ds → Q vs H') (f ρ μ)
/-- a rule's reading may be asked for more -/
theorem _root_.L2.PE.imp3 {X : Cx} {e : Expr} {t t' : TE} (h : PE X e t) (i : ∀ σ H Q, t' σ H Q → t σ H Q) : PE X e t' := ⟨fun pins s σ H Q I q => h.run pins s σ H Q I (i σ H Q q)⟩
theorem _root_.L2.PT.imp3 {X : Cx} {e : Expr} {t t' : TT} (h : PT X e t) (i : ∀ σ H Q, t' σ H Q → t σ H Q) : PT X e t' := ⟨fun pins s σ H Q I q => h.run pins s σ H Q I (i σ H Q q)⟩
theorem _root_.L2.PA.imp3 {X : Cx} {e : List Expr} {t t' : TA} (h : PA X e t) (i : ∀ σ H Q, t' σ H Q → t σ H Q) : PA X e t' := ⟨fun pos pins s σ H Q I q => h.run pos pins s σ H Q I (i σ H Q q)⟩
theorem _root_.L2.PS.imp3 {X : Cx} {e : Stmt} {t t' : TS} (h : PS X e t) (i : ∀ D σ H, t' D σ H → t D σ H) : PS X e t' := ⟨fun pins s σ H D I q => h.run pins s σ H D I (i D σ H q)⟩
theorem _root_.L2.PSs.imp3 {X : Cx} {e : List Stmt} {t t' : TS} (h : PSs X e t) (i : ∀ D σ H, t' D σ H → t D σ H) : PSs X e t' := ⟨fun pins s σ H D I q => h.run pins s σ H D I (i D σ H q)⟩
/-- an expression is worth f -/
abbrev VE (P : Pm) (W : WX) (X : Cx) (e : Expr) (f : SE) : Prop := PE X e (tV P W f)
abbrev VT (P : Pm) (W : WX) (X : Cx) (e : Expr) (f : ST) : Prop := PT X e (tVT P W f)
abbrev VA (P : Pm) (W : WX) (X : Cx) (e : List Expr) (f : SA) : Prop := PA X e (tVA P W f)

/-! the moves -/
section
variable {P : Pm} {W : WX} {σ : Slots} {H : Hp} {L : Lv} {ρ : Env} {μ : Sto} {α : Type}
/-- one expression ahead of the rest -/
theorem tV.first {f : SE} {k : D → Sto → R α} {Q : V → Hp → Prop} {q : α → Lv → Hp → Prop} (rs : RelS P H L σ ρ) (st : St3 P H L μ) (h : Post P (WE W σ) L H q ((f ρ μ).bind k))
    (go : ∀ d μ1 v L1 H1, Ext P L H L1 H1 → St3 P H1 L1 μ1 → Rep P H1 L1 v d → RelS P H1 L1 σ ρ → Post P (WE W σ) L1 H1 q (k d μ1) → Q v H1) : tV P W f σ H Q := by
  refine ⟨L, ρ, μ, rs, st, ?_⟩
  cases e : f ρ μ with
  | ok d μ1 => rw [e] at h; exact fun L1 H1 x s v r => go d μ1 v L1 H1 x s r (rs.ext x) (Post.ext x h)
  | exc c ns vs μ1 => rw [e] at h; exact h
  | bad => rw [e] at h; exact h
theorem tVT.first {f : ST} {k : Bool → Sto → R α} {Q : Bool → Hp → Prop} {q : α → Lv → Hp → Prop} (rs : RelS P H L σ ρ) (st : St3 P H L μ) (h : Post P (WE W σ) L H q ((f ρ μ).bind k))
    (go : ∀ b μ1 L1 H1, Ext P L H L1 H1 → St3 P H1 L1 μ1 → RelS P H1 L1 σ ρ → Post P (WE W σ) L1 H1 q (k b μ1) → Q b H1) : tVT P W f σ H Q := by
  refine ⟨L, ρ, μ, rs, st, ?_⟩
  cases e : f ρ μ with
  | ok d μ1 => rw [e] at h; exact fun L1 H1 x s => go d μ1 L1 H1 x s (rs.ext x) (Post.ext x h)
  | exc c ns vs μ1 => rw [e] at h; exact h
  | bad => rw [e] at h; exact h
theorem tVA.first {f : SA} {k : List D → Sto → R α} {Q : List V → Hp → Prop} {q : α → Lv → Hp → Prop} (rs : RelS P H L σ ρ) (st : St3 P H L μ) (h : Post P (WE W σ) L H q ((f ρ μ).bind k))
    (go : ∀ ds μ1 vs L1 H1, Ext P L H L1 H1 → St3 P H1 L1 μ1 → Reps P H1 L1 vs ds → RelS P H1 L1 σ ρ → Post P (WE W σ) L1 H1 q (k ds μ1) → Q vs H1) : tVA P W f σ H Q := by
  refine ⟨L, ρ, μ, rs, st, ?_⟩
  cases e : f ρ μ with
  | ok d μ1 => rw [e] at h; exact fun L1 H1 x s v r => go d μ1 v L1 H1 x s r (rs.ext x) (Post.ext x h)
  | exc c ns vs μ1 => rw [e] at h; exact h
  | bad => rw [e] at h; exact h
end
end L3

namespace L3
open PySem PySem.Spec PyProof.Rows L2
/-! ### new objects -/
section
variable {P : Pm} {H H1 : Hp} {L L1 : Lv} {μ : Sto}
theorem OthO.keep3 {a : Addr} {o : OK} {ks : List (List Key)} {vs : List V} (h : OthO H a o ks vs) (k : ∀ u, H a = some u → H1 a = some u) : OthO H1 a o ks vs := by
  cases o with
  | tt => exact k _ h
  | lt => obtain ⟨ob, e⟩ := h; exact ⟨ob, k _ e⟩
  | ld => obtain ⟨ob, qs, e1, e⟩ := h; exact ⟨ob, qs, e1, k _ e⟩
  | st => obtain ⟨ob, u, es, ep, t, e, r⟩ := h; exact ⟨ob, u, es, ep, t, k _ e, r⟩
theorem RepM.ext0 {a : Addr} {m : MO} (k : ∀ o, H a = some o → H1 a = some o) (x : Ext0 L H L1 H1) (r : RepM P H L a m) : RepM P H1 L1 a m := by
  cases r with
  | lst h r => exact .lst (k _ h) (r.ext0 x)
  | dct h l r => exact .dct (k _ h) l (r.ext0 x)
  | ins h hc l r => exact .ins (k _ h) hc l (r.ext0 x)
  | oth h l r => exact .oth (h.keep3 k) l (r.ext0 x)
theorem OthO.at3 {a : Addr} {o : OK} {ks : List (List Key)} {vs : List V} (h : OthO H a o ks vs) : (∃ kv, H a = some (.dT kv)) ∨ (∃ ob u, H a = some (.frz ob u)) := by
  cases o with
  | tt => exact .inl ⟨_, h⟩
  | lt => obtain ⟨ob, e⟩ := h; exact .inr ⟨_, _, e⟩
  | ld => obtain ⟨ob, qs, _, e⟩ := h; exact .inr ⟨_, _, e⟩
  | st => obtain ⟨ob, u, _, _, _, e, _⟩ := h; exact .inr ⟨_, _, e⟩
theorem RepM.there {a : Addr} {m : MO} (r : RepM P H L a m) : H a ≠ none := by
  cases r with
  | lst h r => rw [h]; exact fun z => nomatch z
  | dct h l r => rw [h]; exact fun z => nomatch z
  | ins h hc l r => rw [h]; exact fun z => nomatch z
  | oth h l r => rcases h.at3 with ⟨_, e⟩ | ⟨_, _, e⟩ <;> (rw [e]; exact fun z => nomatch z)
theorem Ext0.grow (k : ∀ b o, H b = some o → H1 b = some o) : Ext0 L H L H1 :=
  ⟨fun a o h _ _ => k a o h, fun _ _ h => h, fun _ h => .inl h⟩
/-- all that stood stands, the private things among it -/
theorem Ext.grow {μ : Sto} (s : St3 P H L μ) (k : ∀ b o, H b = some o → H1 b = some o) : Ext P L H L H1 :=
  ⟨Ext0.grow k, rfl, fun a h => by
    obtain ⟨vs, e⟩ := (s.dis a h).2
    rw [e]
    exact k a _ e⟩
theorem St3.grow (k : ∀ b o, H b = some o → H1 b = some o) (s : St3 P H L μ) : St3 P H1 L μ :=
  ⟨s.len, fun i a m h1 h2 => (s.at_ i a m h1 h2).ext0 (fun o => k a o) (Ext0.grow k), s.nd, fun a h => ⟨(s.dis a h).1, let ⟨vs, e⟩ := (s.dis a h).2; ⟨vs, k a _ e⟩⟩, s.tab.ext k⟩
theorem upd_grow {p : Addr} {o : HO} (n : H p = none) : ∀ b u, H b = some u → upd H p o b = some u := fun b u e => by rw [upd_ne (ne_of_none e n)]; exact e
theorem St3.cell_there (s : St3 P H L μ) {a : Addr} (h : L.has a) : H a ≠ none := by
  rcases h with h | h
  · obtain ⟨k, hk, e⟩ := List.mem_iff_getElem.mp h
    have h1 : L.c[k]? = some a := by rw [List.getElem?_eq_getElem hk, e]
    have hk2 : k < μ.length := by rw [← s.len]; exact hk
    exact (s.at_ k a _ h1 (List.getElem?_eq_getElem hk2)).there
  · obtain ⟨vs, e⟩ := (s.dis a h).2
    rw [e]
    exact fun z => nomatch z
theorem St3.new_not (s : St3 P H L μ) {p : Addr} (n : H p = none) : ¬ L.has p := fun h => s.cell_there h n
/-- a new list, a new tuple -/
theorem new_lst (s : St3 P H L μ) {p : Addr} {vs : List V} {ds : List D} (n : H p = none) (r : Reps P H L vs ds) : Rep P (upd H p (.lst vs)) L (.ref p) (.lst ds) :=
  .lst upd_same (s.new_not n) (r.ext0 (Ext0.grow (upd_grow n)))
theorem new_tup (s : St3 P H L μ) {p : Addr} {vs : List V} {ds : List D} (n : H p = none) (r : Reps P H L vs ds) : Rep P (upd H p (.tup vs)) L (.ref p) (.tup ds) :=
  .tup (.inl ⟨.inl upd_same, s.new_not n⟩) (r.ext0 (Ext0.grow (upd_grow n)))
theorem TupAt.sq {a : Addr} {vs : List V} (h : TupAt P H L a vs) : SqT P.K H a vs := by
  rcases h with ⟨h, _⟩ | h
  · exact .inl h
  · exact .inr h
theorem ScrAt.sq {a : Addr} {vs : List V} (h : ScrAt P H L a vs) : SqL P.K H a vs := by
  rcases h with ⟨h, _⟩ | h
  · exact .inl h
  · exact .inr h
theorem Reps.ints : ∀ (ns : List Int), Reps P H L (ns.map V.int) (ns.map D.int)
  | [] => .nil
  | n :: r => .cons (.int n) (Reps.ints r)
/-! ### reading lists -/
/-- the items of a list, wherever it is -/
def asL (μ : Sto) : D → Option (List D)
  | .lst ds => some ds
  | .cell k => match μ[k]? with
    | some (.lst ds) => some ds
    | _ => none
  | _ => none
def asS (μ : Sto) : D → Option (List D)
  | .scr ns => some (ns.map D.int)
  | d => asL μ d
theorem asL_ok (s : St3 P H L μ) {v : V} {d : D} {ds : List D} (r : Rep P H L v d) (e : asL μ d = some ds) : ∃ a vs, v = .ref a ∧ H a = some (.lst vs) ∧ Reps P H L vs ds := by
  cases r with
  | lst h n r => cases e; exact ⟨_, _, rfl, h, r⟩
  | @cell a k h =>
    have e' : (match μ[k]? with
      | some (.lst ds) => some ds
      | _ => none) = some ds := e
    cases em : μ[k]? with
    | none => rw [em] at e'; cases e'
    | some m =>
      rw [em] at e'
      have q := s.at_ k a m h em
      cases q with
      | lst h' r' => cases e'; exact ⟨_, _, rfl, h', r'⟩
      | dct h' l r' => cases e'
      | ins h' hc l r' => cases e'
      | oth h' l r' => cases e'
  | non => cases e
  | bl b => cases e
  | int i => cases e
  | str z => cases e
  | tup h r => cases e
  | dct h n l r => cases e
  | obj h hc n l r => cases e
  | scr h => cases e
  | key h n => cases e
theorem asS_ok (s : St3 P H L μ) {v : V} {d : D} {ds : List D} (r : Rep P H L v d) (e : asS μ d = some ds) : ∃ a vs, v = .ref a ∧ SqL P.K H a vs ∧ Reps P H L vs ds := by
  have go : asL μ d = some ds → ∃ a vs, v = .ref a ∧ SqL P.K H a vs ∧ Reps P H L vs ds := fun e =>
    let ⟨a, vs, h1, h2, h3⟩ := asL_ok s r e; ⟨a, vs, h1, .of h2, h3⟩
  cases d with
  | scr ns =>
    cases e
    cases r with
    | scr h => exact ⟨_, _, rfl, h.sq, Reps.ints ns⟩
  | _ => exact go e
theorem tup_ok {v : V} {ds : List D} (r : Rep P H L v (.tup ds)) : ∃ a vs, v = .ref a ∧ SqT P.K H a vs ∧ Reps P H L vs ds := by
  cases r with
  | tup h r => exact ⟨_, _, rfl, h.sq, r⟩
end

/-! ### names and constants -/
def eVar (i : Nat) : SE := fun ρ μ => match ρ[i]? with
  | some (some d) => .ok d μ
  | _ => .bad
def eC (d : D) : SE := fun _ μ => .ok d μ
section
variable {P : Pm} {W : WX} {X : Cx} {pos : Pos}
theorem ve_var {i : Nat} {x : Str} (hN : X.N[i]? = some x) (hv : Vis X.env.scope x) (hd : (x == ("__debug__" : Str)) = false := by decide) (hcd : (x == ("__classdict__" : Str)) = false := by decide) : VE P W X (.Name x pos) (eVar i) := by
  refine (pe_var hN hv hd hcd).imp3 fun σ H Q ⟨L, ρ, μ, rs, st, q⟩ => ?_
  unfold eVar at q
  cases e : ρ[i]? with
  | none => rw [e] at q; exact q.elim
  | some o =>
    cases o with
    | none => rw [e] at q; exact q.elim
    | some d =>
      rw [e] at q
      obtain ⟨v, h1, h2⟩ := rs.at_ i d e
      exact ⟨v, h1, q L H .refl st v h2⟩
theorem vv (i : Nat) {x : Str} {pos : Pos} (hN : X.N[i]? = some x := by rfl) (hv : Vis X.env.scope x := by first | exact Or.inl rfl | exact Or.inr (Or.inl rfl) | exact Or.inr (Or.inr rfl)) (hd : (x == ("__debug__" : Str)) = false := by decide)
    (hcd : (x == ("__classdict__" : Str)) = false := by decide) : VE P W X (.Name x pos) (eVar i) := ve_var hN hv hd hcd
theorem ve_c {e : Expr} {v : V} {d : D} (h : PE X e (tC v)) (r : ∀ L H, Rep P H L v d) : VE P W X e (eC d) :=
  h.imp3 fun σ H Q ⟨L, ρ, μ, rs, st, q⟩ => q L H .refl st v (r L H)
theorem ve_int {i j} : VE P W X (.Constant (.int i) j pos) (eC (.int i)) := ve_c pe_int fun _ _ => .int i
theorem ve_bl {b j} : VE P W X (.Constant (.bool b) j pos) (eC (.bl b)) := ve_c pe_bl fun _ _ => .bl b
theorem ve_non {j} : VE P W X (.Constant .none j pos) (eC .non) := ve_c pe_non fun _ _ => .non
theorem ve_str {x j} : VE P W X (.Constant (.str x) j pos) (eC (.str x)) := ve_c pe_str fun _ _ => .str x
end

/-! ### operators by values -/
def eB (g : D → D → Sto → R D) (f1 f2 : SE) : SE := fun ρ μ => (f1 ρ μ).bind fun a μ1 => (f2 ρ μ1).bind fun b μ2 => g a b μ2
def eU (g : D → Sto → R D) (f : SE) : SE := fun ρ μ => (f ρ μ).bind fun a μ1 => g a μ1
/-- the rule r is served where g gives something -/
def OpS (P : Pm) (r : R2) (g : D → D → Sto → R D) : Prop := ∀ (E : XK) (L : Lv) (H : Hp) (μ : Sto) (x y : V) (a b : D) (Q : VK), St3 P H L μ → Rep P H L x a → Rep P H L y b →
  Post P E L H (fun d L' H' => ∀ v, Rep P H' L' v d → Q v H') (g a b μ) → r x y H Q
theorem OpS.inl {P : Pm} {r r' : R2} {g : D → D → Sto → R D} (h : OpS P r g) : OpS P (fun x y H Q => r x y H Q ∨ r' x y H Q) g := fun E L H μ x y a b Q s ra rb q => .inl (h E L H μ x y a b Q s ra rb q)
section
variable {P : Pm} {W : WX} {X : Cx} {pos : Pos} {a b : Expr} {f1 f2 : SE} {r : R2} {g : D → D → Sto → R D}
theorem tOp_of (hg : OpS P r g) {σ : Slots} {H : Hp} {Q : VK} (h : tV P W (eB g f1 f2) σ H Q) : tOp r (tV P W f1) (tV P W f2) σ H Q := by
  obtain ⟨L, ρ, μ, rs, st, q⟩ := h
  refine tV.first rs st q fun d μ1 v L1 H1 x1 s1 r1 rs1 q1 => ?_
  exact tV.first rs1 s1 q1 fun d2 μ2 v2 L2 H2 x2 s2 r2 rs2 q2 => hg _ L2 H2 μ2 v v2 d d2 Q s2 (r1.ext x2) r2 q2
theorem ve_bin {op : Operator} (ho : OpR X (binaryOp op) r) (hg : OpS P r g) (h1 : VE P W X a f1) (h2 : VE P W X b f2) : VE P W X (.BinOp a op b pos) (eB g f1 f2) :=
  (pe_op ho h1 h2).imp3 fun _ _ _ h => tOp_of hg h
theorem ve_cmp {op : CmpOp} (ho : OpR X (compareOp op) r) (hg : OpS P r g) (h1 : VE P W X a f1) (h2 : VE P W X b f2) (hm : behindInMarks op b = false) : VE P W X (.Compare a [op] [b] pos) (eB g f1 f2) :=
  (pe_cmpR ho h1 h2 hm).imp3 fun _ _ _ h => tOp_of hg h
/-- a value that is a bool, as a test -/
def eT (f : SE) : ST := fun ρ μ => (f ρ μ).bind fun d μ1 => match d with
  | .bl c => .ok c μ1
  | _ => .bad
theorem tT_of {f : SE} {σ : Slots} {H : Hp} {Q : Bool → Hp → Prop} (h : tVT P W (eT f) σ H Q) : tV P W f σ H (fun x H1 => ∃ c, x = .bl c ∧ Q c H1) := by
  obtain ⟨L, ρ, μ, rs, st, q⟩ := h
  refine tV.first rs st q fun d μ1 v L1 H1 x1 s1 r1 rs1 q1 => ?_
  cases r1 with
  | bl c => exact ⟨c, rfl, q1 L1 H1 .refl s1⟩
  | _ => exact q1.elim
theorem vt_cmp {op : CmpOp} (ho : OpR X (compareOp op) r) (hg : OpS P r g) (h1 : VE P W X a f1) (h2 : VE P W X b f2) (hm : behindInMarks op b = false) : VT P W X (.Compare a [op] [b] pos) (eT (eB g f1 f2)) :=
  (pt_cmpR ho h1 h2 hm).imp3 fun _ _ _ h => by
    have z := tT_of h
    exact tOp_of hg z
theorem vt_val {e : Expr} {f : SE} (h : VE P W X e f) (he : ∀ whole, isTrue e X.env whole = (do let v ← whole; standAt e.pos; holding [v] (truthy v)) := by intro _; rfl) : VT P W X e (eT f) :=
  (pt_val h he).imp3 fun _ _ _ q => tT_of q
/-! and, or, not -/
variable {rest : List Expr} {t1 t2 : ST}
def eAndT (t1 t2 : ST) : ST := fun ρ μ => (t1 ρ μ).bind fun c μ1 => if c = true then t2 ρ μ1 else .ok false μ1
def eOrT (t1 t2 : ST) : ST := fun ρ μ => (t1 ρ μ).bind fun c μ1 => if c = true then .ok true μ1 else t2 ρ μ1
def eNotT (t1 : ST) : ST := fun ρ μ => (t1 ρ μ).bind fun c μ1 => .ok (!c) μ1
abbrev VW (P : Pm) (W : WX) (X : Cx) (e : Expr) (f : ST) : Prop := PW X e (tVT P W f)
theorem _root_.L2.PW.imp3 {X : Cx} {e : Expr} {t t' : TT} (h : PW X e t) (i : ∀ σ H Q, t' σ H Q → t σ H Q) : PW X e t' := ⟨fun wh pins s σ H Q I q => h.run wh pins s σ H Q I (i σ H Q q)⟩
theorem vw_and1 (h : VT P W X a t1) : VW P W X (.BoolOp .And [a] pos) t1 := pw_and1 h
theorem vw_or1 (h : VT P W X a t1) : VW P W X (.BoolOp .Or [a] pos) t1 := pw_or1 h
theorem vw_and (h1 : VT P W X a t1) (h2 : VW P W X (.BoolOp .And (b :: rest) pos) t2) : VW P W X (.BoolOp .And (a :: b :: rest) pos) (eAndT t1 t2) :=
  (pw_and h1 h2).imp3 fun σ H Q h => by
    obtain ⟨L, ρ, μ, rs, st, q⟩ := h
    refine tVT.first rs st q fun c μ1 L1 H1 x1 s1 rs1 q1 => ?_
    cases c with
    | true => exact ⟨L1, ρ, μ1, rs1, s1, q1⟩
    | false => exact q1 L1 H1 .refl s1
theorem vw_or (h1 : VT P W X a t1) (h2 : VW P W X (.BoolOp .Or (b :: rest) pos) t2) : VW P W X (.BoolOp .Or (a :: b :: rest) pos) (eOrT t1 t2) :=
  (pw_or h1 h2).imp3 fun σ H Q h => by
    obtain ⟨L, ρ, μ, rs, st, q⟩ := h
    refine tVT.first rs st q fun c μ1 L1 H1 x1 s1 rs1 q1 => ?_
    cases c with
    | false => exact ⟨L1, ρ, μ1, rs1, s1, q1⟩
    | true => exact q1 L1 H1 .refl s1
theorem vt_w {e : Expr} (h : VW P W X e t1) : VT P W X e t1 := h.pt
theorem vt_not (h : VT P W X a t1) : VT P W X (.UnaryOp .Not a pos) (eNotT t1) :=
  (pt_not h).imp3 fun σ H Q h => by
    obtain ⟨L, ρ, μ, rs, st, q⟩ := h
    exact tVT.first rs st q fun c μ1 L1 H1 x1 s1 rs1 q1 => q1 L1 H1 .refl s1
/-- as values -/
def eAndV (f1 f2 : SE) : SE := fun ρ μ => (f1 ρ μ).bind fun d μ1 => match d with
  | .bl true => f2 ρ μ1
  | .bl false => .ok (.bl false) μ1
  | _ => .bad
def eOrV (f1 f2 : SE) : SE := fun ρ μ => (f1 ρ μ).bind fun d μ1 => match d with
  | .bl false => f2 ρ μ1
  | .bl true => .ok (.bl true) μ1
  | _ => .bad
def eNotV (f1 : SE) : SE := fun ρ μ => (f1 ρ μ).bind fun d μ1 => match d with
  | .bl c => .ok (.bl (!c)) μ1
  | _ => .bad
theorem ve_one {op} (h : VE P W X a f1) : VE P W X (.BoolOp op [a] pos) f1 := pe_one h
theorem ve_and (h1 : VE P W X a f1) (h2 : VE P W X (.BoolOp .And (b :: rest) pos) f2) : VE P W X (.BoolOp .And (a :: b :: rest) pos) (eAndV f1 f2) :=
  (pe_and h1 h2).imp3 fun σ H Q h => by
    obtain ⟨L, ρ, μ, rs, st, q⟩ := h
    refine tV.first rs st q fun d μ1 v L1 H1 x1 s1 r1 rs1 q1 => ?_
    cases r1 with
    | bl c =>
      refine ⟨c, rfl, ?_⟩
      cases c with
      | true => exact ⟨L1, ρ, μ1, rs1, s1, q1⟩
      | false => exact q1 L1 H1 .refl s1 _ (.bl false)
    | _ => exact q1.elim
def eIf (t : ST) (f1 f2 : SE) : SE := fun ρ μ => (t ρ μ).bind fun c μ1 => if c = true then f1 ρ μ1 else f2 ρ μ1
theorem ve_if {c : Expr} (hc : VT P W X c t1) (h1 : VE P W X a f1) (h2 : VE P W X b f2) : VE P W X (.IfExp c a b pos) (eIf t1 f1 f2) :=
  (pe_ifExp hc h1 h2).imp3 fun σ H Q h => by
    obtain ⟨L, ρ, μ, rs, st, q⟩ := h
    refine tVT.first rs st q fun c μ1 L1 H1 x1 s1 rs1 q1 => ?_
    cases c with
    | true => exact ⟨L1, ρ, μ1, rs1, s1, q1⟩
    | false => exact ⟨L1, ρ, μ1, rs1, s1, q1⟩
end
/-! unary minus -/
def dNeg : D → Sto → R D
  | .int i, μ => .ok (.int (-i)) μ
  | _, _ => .bad
section
variable {P : Pm} {W : WX} {X : Cx} {pos : Pos} {a : Expr} {f1 : SE}
end
/-! ### ints -/
instance (i j : Int) : Decidable (IntMulOk i j) := inferInstanceAs (Decidable (¬ (_ = true)))
def dSub : D → D → Sto → R D
  | .int i, .int j, μ => .ok (.int (i - j)) μ
  | _, _, _ => .bad
def dMod : D → D → Sto → R D
  | .int i, .int j, μ => if j ≠ 0 then .ok (.int (i.fmod j)) μ else .bad
  | _, _, _ => .bad
def dFdiv : D → D → Sto → R D
  | .int i, .int j, μ => if j ≠ 0 ∧ Builtin.divisionGoesByPylong i j = false then .ok (.int (i.fdiv j)) μ else .bad
  | _, _, _ => .bad
def dPow : D → D → Sto → R D
  | .int i, .int j, μ => if 0 ≤ j ∧ j ≤ 1000000 ∧ i.natAbs < 2 ^ 64 then .ok (.int (i ^ j.toNat)) μ else .bad
  | _, _, _ => .bad
def dLt : D → D → Sto → R D
  | .int i, .int j, μ => .ok (.bl (decide (i < j))) μ
  | _, _, _ => .bad
def dLe : D → D → Sto → R D
  | .int i, .int j, μ => .ok (.bl (decide (i ≤ j))) μ
  | _, _, _ => .bad
def dGt : D → D → Sto → R D
  | .int i, .int j, μ => .ok (.bl (decide (j < i))) μ
  | _, _, _ => .bad
def dGe : D → D → Sto → R D
  | .int i, .int j, μ => .ok (.bl (decide (j ≤ i))) μ
  | _, _, _ => .bad
theorem os_int {P : Pm} {C : Int → Int → Prop} [∀ i j, Decidable (C i j)] {k : Int → Int → V} {kd : Int → Int → D} {g : D → D → Sto → R D} (hk : ∀ H L i j, Rep P H L (k i j) (kd i j))
    (hg : ∀ a b μ, g a b μ = match a, b with
      | .int i, .int j => if C i j then .ok (kd i j) μ else .bad
      | _, _ => .bad) : OpS P (rI C k) g := by
  intro E L H μ x y a b Q s ra rb q
  rw [hg] at q
  cases ra with
  | int i =>
    cases rb with
    | int j =>
      by_cases c : C i j
      · have q' : Post P E L H (fun d L' H' => ∀ v, Rep P H' L' v d → Q v H') (if C i j then .ok (kd i j) μ else .bad) := q
        rw [if_pos c] at q'
        exact ⟨i, j, rfl, rfl, c, q' L H .refl s _ (hk H L i j)⟩
      · have q' : Post P E L H (fun d L' H' => ∀ v, Rep P H' L' v d → Q v H') (if C i j then .ok (kd i j) μ else .bad) := q
        rw [if_neg c] at q'
        exact q'.elim
    | _ => exact q.elim
  | _ => exact q.elim
theorem os_int0 {P : Pm} {k : Int → Int → V} {kd : Int → Int → D} {g : D → D → Sto → R D} (hk : ∀ H L i j, Rep P H L (k i j) (kd i j))
    (hg : ∀ a b μ, g a b μ = match a, b with
      | .int i, .int j => .ok (kd i j) μ
      | _, _ => .bad) : OpS P (rI0 k) g := by
  intro E L H μ x y a b Q s ra rb q
  rw [hg] at q
  cases ra with
  | int i =>
    cases rb with
    | int j => exact ⟨i, j, rfl, rfl, q L H .refl s _ (hk H L i j)⟩
    | _ => exact q.elim
  | _ => exact q.elim
section
variable {P : Pm} {X : Cx}
theorem os_sub : OpS P (rI0 fun i j => .int (i - j)) dSub := os_int0 (fun _ _ _ _ => .int _) fun a b μ => by cases a <;> cases b <;> rfl
theorem os_lt : OpS P (rI0 fun i j => .bl (decide (i < j))) dLt := os_int0 (fun _ _ _ _ => .bl _) fun a b μ => by cases a <;> cases b <;> rfl
theorem os_le : OpS P (rI0 fun i j => .bl (decide (i ≤ j))) dLe := os_int0 (fun _ _ _ _ => .bl _) fun a b μ => by cases a <;> cases b <;> rfl
theorem os_gt : OpS P (rI0 fun i j => .bl (decide (j < i))) dGt := os_int0 (fun _ _ _ _ => .bl _) fun a b μ => by cases a <;> cases b <;> rfl
theorem os_ge : OpS P (rI0 fun i j => .bl (decide (j ≤ i))) dGe := os_int0 (fun _ _ _ _ => .bl _) fun a b μ => by cases a <;> cases b <;> rfl
theorem os_mod : OpS P (rI (fun _ j => j ≠ 0) fun i j => .int (i.fmod j)) dMod := os_int (fun _ _ _ _ => .int _) fun a b μ => by cases a <;> cases b <;> rfl
theorem op_fdivP : OpR X (binaryOp .FloorDiv) (rI (fun i j => j ≠ 0 ∧ Builtin.divisionGoesByPylong i j = false) fun i j => .int (i.fdiv j)) := opI fun i j _ _ _ _ _ hc q => floordiv_int hc.1 q (.inl hc.2)
theorem os_fdiv : OpS P (rI (fun i j => j ≠ 0 ∧ Builtin.divisionGoesByPylong i j = false) fun i j => .int (i.fdiv j)) dFdiv := os_int (fun _ _ _ _ => .int _) fun a b μ => by cases a <;> cases b <;> rfl
instance (i j : Int) : Decidable (CPow i j) := inferInstanceAs (Decidable (_ ∧ _))
theorem os_pow : OpS P (rI CPow fun i j => .int (i ^ j.toNat)) dPow := os_int (C := CPow) (fun _ _ _ _ => .int _) fun a b μ => by cases a <;> cases b <;> rfl
/-! + and *: ints, texts, lists, tuples -/
def dAdd : D → D → Sto → R D := fun a b μ => match a, b with
  | .int i, .int j => .ok (.int (i + j)) μ
  | .str x, .str y => if x.length + y.length ≤ sizeLine then .ok (.str (x ++ y)) μ else .bad
  | .tup xs, .tup ys => if xs ≠ [] ∧ xs.length + ys.length ≤ sizeLine then .ok (.tup (xs ++ ys)) μ else .bad
  | a, b => match asL μ a, asL μ b with
    | some xs, some ys => if xs.length + ys.length ≤ sizeLine then .ok (.lst (xs ++ ys)) μ else .bad
    | _, _ => .bad
def rAdd4 (K : PySem.W.Frag) : R2 := fun x y H Q => (rI0 fun i j => .int (i + j)) x y H Q ∨ ((∃ i j, x = .str i ∧ y = .str j ∧ i.length + j.length ≤ sizeLine ∧ Q (.str (i ++ j)) H) ∨ (rCatT K x y H Q ∨ rCat x y H Q))
theorem op_add4 : OpR X (binaryOp .Add) (rAdd4 X.K) := op_add.or (op_add_str.or (op_catT.or op_cat))
theorem os_add (hK : P.K = X.K) : OpS P (rAdd4 X.K) dAdd := by
  intro E L H μ x y a b Q s ra rb q
  have lists : (match asL μ a, asL μ b with
      | some xs, some ys => Post P E L H (fun d L' H' => ∀ v, Rep P H' L' v d → Q v H') (if xs.length + ys.length ≤ sizeLine then .ok (.lst (xs ++ ys)) μ else .bad)
      | _, _ => False) → rAdd4 X.K x y H Q := fun h => by
    cases e1 : asL μ a with
    | none => rw [e1] at h; exact h.elim
    | some xs =>
      cases e2 : asL μ b with
      | none => rw [e1, e2] at h; exact h.elim
      | some ys =>
        rw [e1, e2] at h
        have h : Post P E L H (fun d L' H' => ∀ v, Rep P H' L' v d → Q v H') (if xs.length + ys.length ≤ sizeLine then .ok (.lst (xs ++ ys)) μ else .bad) := h
        by_cases c : xs.length + ys.length ≤ sizeLine
        · rw [if_pos c] at h
          obtain ⟨p1, vs1, rfl, h1, r1⟩ := asL_ok s ra e1
          obtain ⟨p2, vs2, rfl, h2, r2⟩ := asL_ok s rb e2
          exact .inr (.inr (.inr ⟨p1, p2, vs1, vs2, rfl, rfl, h1, h2, by rw [r1.length, r2.length]; exact c, fun p hp => h _ _ (Ext.grow s (upd_grow hp)) (s.grow (upd_grow hp)) _ (new_lst s hp (r1.append r2))⟩))
        · rw [if_neg c] at h; exact h.elim
  have fall : dAdd a b μ = (match asL μ a, asL μ b with
    | some xs, some ys => if xs.length + ys.length ≤ sizeLine then .ok (.lst (xs ++ ys)) μ else .bad
    | _, _ => .bad) → rAdd4 X.K x y H Q := fun e => lists (by
      rw [e] at q
      cases e1 : asL μ a with
      | none => rw [e1] at q; exact q
      | some xs =>
        cases e2 : asL μ b with
        | none => rw [e1, e2] at q; exact q
        | some ys => rw [e1, e2] at q; exact q)
  cases a with
  | int i =>
    cases b with
    | int j => cases ra; cases rb; exact .inl ⟨i, j, rfl, rfl, q L H .refl s _ (.int _)⟩
    | _ => exact fall rfl
  | str z =>
    cases b with
    | str z2 =>
      cases ra; cases rb
      have q : Post P E L H (fun d L' H' => ∀ v, Rep P H' L' v d → Q v H') (if z.length + z2.length ≤ sizeLine then .ok (.str (z ++ z2)) μ else .bad) := q
      by_cases c : z.length + z2.length ≤ sizeLine
      · rw [if_pos c] at q
        exact .inr (.inl ⟨z, z2, rfl, rfl, c, q L H .refl s _ (.str _)⟩)
      · rw [if_neg c] at q; exact q.elim
    | _ => exact fall rfl
  | tup xs =>
    cases b with
    | tup ys =>
      have q : Post P E L H (fun d L' H' => ∀ v, Rep P H' L' v d → Q v H') (if xs ≠ [] ∧ xs.length + ys.length ≤ sizeLine then .ok (.tup (xs ++ ys)) μ else .bad) := q
      by_cases c : xs ≠ [] ∧ xs.length + ys.length ≤ sizeLine
      · rw [if_pos c] at q
        have ra' := ra
        obtain ⟨p1, vs1, e1, h1, r1⟩ := tup_ok ra
        obtain ⟨p2, vs2, e2, h2, r2⟩ := tup_ok rb
        subst e1; subst e2
        rw [hK] at h1 h2
        refine .inr (.inr (.inl ⟨p1, p2, vs1, vs2, rfl, rfl, h1, h2, fun z => ?_, by rw [r1.length, r2.length]; exact c.2, fun z => ?_, fun z p hp => q _ _ (Ext.grow s (upd_grow hp)) (s.grow (upd_grow hp)) _ (new_tup s hp (r1.append r2))⟩))
        · subst z; cases r1; exact c.1 rfl
        · subst z; cases r2
          rw [List.append_nil] at q
          exact q L H .refl s _ ra'
      · rw [if_neg c] at q; exact q.elim
    | _ => exact fall rfl
  | _ => exact fall rfl
def rMulP : R2 := rI IntMulOk fun i j => .int (i * j)
theorem op_mulP : OpR X (binaryOp .Mult) rMulP := opI fun _ _ _ _ _ _ _ hc q => mul_int q hc
def dMul : D → D → Sto → R D := fun a b μ => match a, b with
  | .int i, .int j => if IntMulOk i j then .ok (.int (i * j)) μ else .bad
  | a, .int k => match asL μ a with
    | some xs => if -(2 ^ 63) ≤ k ∧ k < 2 ^ 63 ∧ xs.length * k.toNat ≤ sizeLine then .ok (.lst (List.replicate k.toNat xs).flatten) μ else .bad
    | none => .bad
  | _, _ => .bad
def rMul2 : R2 := fun x y H Q => rMulP x y H Q ∨ rRep x y H Q
theorem op_mul2 : OpR X (binaryOp .Mult) rMul2 := op_mulP.or op_rep
theorem Reps.flat {H : Hp} {L : Lv} {vs : List V} {ds : List D} (r : Reps P H L vs ds) : ∀ n : Nat, Reps P H L (List.replicate n vs).flatten (List.replicate n ds).flatten
  | 0 => .nil
  | n + 1 => by rw [List.replicate_succ, List.replicate_succ, List.flatten_cons, List.flatten_cons]; exact r.append (Reps.flat r n)
theorem os_mul : OpS P rMul2 dMul := by
  intro E L H μ x y a b Q s ra rb q
  have lists : ∀ k : Int, b = .int k → (match asL μ a with
      | some xs => Post P E L H (fun d L' H' => ∀ v, Rep P H' L' v d → Q v H') (if -(2 ^ 63) ≤ k ∧ k < 2 ^ 63 ∧ xs.length * k.toNat ≤ sizeLine then .ok (.lst (List.replicate k.toNat xs).flatten) μ else .bad)
      | none => False) → rMul2 x y H Q := fun k eb h => by
    subst eb
    cases e1 : asL μ a with
    | none => rw [e1] at h; exact h.elim
    | some xs =>
      rw [e1] at h
      have h : Post P E L H (fun d L' H' => ∀ v, Rep P H' L' v d → Q v H') (if -(2 ^ 63) ≤ k ∧ k < 2 ^ 63 ∧ xs.length * k.toNat ≤ sizeLine then .ok (.lst (List.replicate k.toNat xs).flatten) μ else .bad) := h
      by_cases c : -(2 ^ 63) ≤ k ∧ k < 2 ^ 63 ∧ xs.length * k.toNat ≤ sizeLine
      · rw [if_pos c] at h
        obtain ⟨p1, vs1, rfl, h1, r1⟩ := asL_ok s ra e1
        cases rb
        exact .inr ⟨p1, k, vs1, rfl, rfl, h1, c.1, c.2.1, by rw [r1.length]; exact c.2.2, fun p hp => h _ _ (Ext.grow s (upd_grow hp)) (s.grow (upd_grow hp)) _ (new_lst s hp (r1.flat _))⟩
      · rw [if_neg c] at h; exact h.elim
  cases b with
  | int k =>
    cases a with
    | int i =>
      have q : Post P E L H (fun d L' H' => ∀ v, Rep P H' L' v d → Q v H') (if IntMulOk i k then .ok (.int (i * k)) μ else .bad) := q
      cases ra; cases rb
      by_cases c : IntMulOk i k
      · rw [if_pos c] at q; exact .inl ⟨i, k, rfl, rfl, c, q L H .refl s _ (.int _)⟩
      · rw [if_neg c] at q; exact q.elim
    | lst xs => exact lists k rfl q
    | cell c => 
      refine lists k rfl ?_
      have q : Post P E L H (fun d L' H' => ∀ v, Rep P H' L' v d → Q v H') (match asL μ (.cell c) with
        | some xs => if -(2 ^ 63) ≤ k ∧ k < 2 ^ 63 ∧ xs.length * k.toNat ≤ sizeLine then .ok (.lst (List.replicate k.toNat xs).flatten) μ else .bad
        | none => .bad) := q
      cases e1 : asL μ (.cell c) with
      | none => rw [e1] at q; exact q
      | some xs => rw [e1] at q; exact q
    | _ => exact q.elim
  | _ => cases a <;> exact q.elim
end
end L3

namespace L3
open PySem PySem.Spec PyProof.Rows L2
/-! ### arguments, displays -/
def aNil : SA := fun _ μ => .ok [] μ
def aCons (f : SE) (g : SA) : SA := fun ρ μ => (f ρ μ).bind fun d μ1 => (g ρ μ1).bind fun ds μ2 => .ok (d :: ds) μ2
def eTup (fa : SA) : SE := fun ρ μ => (fa ρ μ).bind fun ds μ1 => if ds.length ≤ 100 then .ok (.tup ds) μ1 else .bad
def eLst (fa : SA) : SE := fun ρ μ => (fa ρ μ).bind fun ds μ1 => if ds.length ≤ 100 then .ok (.lst ds) μ1 else .bad
/-- a new list that will be changed -/
def eLstC (fa : SA) : SE := fun ρ μ => (fa ρ μ).bind fun ds μ1 => if ds.length ≤ 100 then .ok (.cell μ1.length) (μ1 ++ [.lst ds]) else .bad
section
variable {P : Pm} {W : WX} {X : Cx} {pos : Pos} {e : Expr} {es : List Expr} {f : SE} {fa : SA}
theorem va_nil : VA P W X [] aNil := pa_nil.imp3 fun σ H Q ⟨L, ρ, μ, rs, st, q⟩ => q L H .refl st [] .nil
theorem va_cons (h : VE P W X e f) (hr : VA P W X es fa) (hs : starEach (e :: es) X.env = (false, eval e X.env) :: starEach es X.env := by rfl) : VA P W X (e :: es) (aCons f fa) :=
  (pa_cons h hr hs).imp3 fun σ H Q ⟨L, ρ, μ, rs, st, q⟩ => by
    refine tV.first rs st q fun d μ1 v L1 H1 x1 s1 r1 rs1 q1 => ?_
    exact tVA.first rs1 s1 q1 fun ds μ2 vs L2 H2 x2 s2 r2 rs2 q2 => q2 L2 H2 .refl s2 _ (.cons (r1.ext x2) r2)
theorem line100 {n : Nat} (h : n ≤ 100) : n ≤ sizeLine := by rw [sizeLine_eq]; omega
theorem ve_tup {k} (h : VA P W X es fa) : VE P W X (.Tuple es k pos) (eTup fa) :=
  (pe_tup h).imp3 fun σ H Q ⟨L, ρ, μ, rs, st, q⟩ => by
    refine tVA.first rs st q fun ds μ1 vs L1 H1 x1 s1 r1 rs1 q1 => ?_
    by_cases c : ds.length ≤ 100
    · rw [if_pos c] at q1
      exact ⟨by rw [r1.length]; exact line100 c, fun p hp => q1 _ _ (Ext.grow s1 (upd_grow hp)) (s1.grow (upd_grow hp)) _ (new_tup s1 hp r1)⟩
    · rw [if_neg c] at q1; exact q1.elim
theorem ve_lst (h : VA P W X es fa) : VE P W X (.List es pos) (eLst fa) :=
  (pe_lst h).imp3 fun σ H Q ⟨L, ρ, μ, rs, st, q⟩ => by
    refine tVA.first rs st q fun ds μ1 vs L1 H1 x1 s1 r1 rs1 q1 => ?_
    by_cases c : ds.length ≤ 100
    · rw [if_pos c] at q1
      exact ⟨by rw [r1.length]; exact line100 c, fun p hp => q1 _ _ (Ext.grow s1 (upd_grow hp)) (s1.grow (upd_grow hp)) _ (new_lst s1 hp r1)⟩
    · rw [if_neg c] at q1; exact q1.elim
end
/-! ### a new mutable thing -/
section
variable {P : Pm} {H : Hp} {L : Lv} {μ : Sto}
theorem Ext0.cell {p : Addr} {o : HO} (n : H p = none) : Ext0 L H (L.cell p) (upd H p o) := by
  refine ⟨fun a u h _ _ => upd_grow n a u h, fun k a h => ?_, fun a h => ?_⟩
  · show (L.c ++ [p])[k]? = some a
    rw [List.getElem?_append_left (List.getElem?_eq_some_iff.mp h).1]; exact h
  · rcases h with h | h
    · rcases List.mem_append.mp (show a ∈ L.c ++ [p] from h) with h | h
      · exact .inl (.inl h)
      · rw [List.mem_singleton] at h; subst h; exact .inr (.inl n)
    · exact .inl (.inr h)
theorem Ext.cell (s : St3 P H L μ) {p : Addr} {o : HO} (n : H p = none) : Ext P L H (L.cell p) (upd H p o) :=
  ⟨Ext0.cell n, rfl, fun a h => upd_ne fun z => s.new_not n (.inr (z ▸ h))⟩
theorem St3.cell (s : St3 P H L μ) {p : Addr} {o : HO} {m : MO} (n : H p = none) (r : RepM P (upd H p o) (L.cell p) p m) : St3 P (upd H p o) (L.cell p) (μ ++ [m]) := by
  have x : Ext P L H (L.cell p) (upd H p o) := Ext.cell s n
  refine ⟨by simp [Lv.cell, s.len], fun k a m' h1 h2 => ?_, ?_, fun a h => ?_, s.tab.ext (upd_grow n)⟩
  · have h1 : (L.c ++ [p])[k]? = some a := h1
    by_cases hk : k < L.c.length
    · rw [List.getElem?_append_left hk] at h1
      rw [List.getElem?_append_left (by rw [← s.len]; exact hk)] at h2
      exact (s.at_ k a m' h1 h2).ext0 (fun o => upd_grow n a o) x.toExt0
    · rw [List.getElem?_append_right (by omega)] at h1
      rw [List.getElem?_append_right (by have := s.len; omega)] at h2
      have e1 : k - L.c.length = 0 := by
        have := (List.getElem?_eq_some_iff.mp h1).1
        simp at this
        omega
      have e2 : k - μ.length = 0 := by have := s.len; omega
      rw [e1] at h1; rw [e2] at h2
      cases h1; cases h2
      exact r
  · exact List.nodup_append.mpr ⟨s.nd, by simp, fun a ha b hb => by
      rw [List.mem_singleton] at hb; subst hb
      exact fun z => s.new_not n (z ▸ .inl ha)⟩
  · have h : a ∈ L.x := h
    have ne : a ≠ p := fun z => by subst z; exact s.new_not n (.inr h)
    refine ⟨fun z => ?_, by rw [upd_ne ne]; exact (s.dis a h).2⟩
    rcases List.mem_append.mp (show a ∈ L.c ++ [p] from z) with z | z
    · exact (s.dis a h).1 z
    · rw [List.mem_singleton] at z; exact ne z
theorem cell_last {p : Addr} (s : St3 P H L μ) : (L.cell p).c[μ.length]? = some p := by show (L.c ++ [p])[μ.length]? = some p; rw [← s.len]; simp
/-- a new list as a cell -/
theorem new_cell (s : St3 P H L μ) {p : Addr} {vs : List V} {ds : List D} (n : H p = none) (r : Reps P H L vs ds) :
    Ext P L H (L.cell p) (upd H p (.lst vs)) ∧ St3 P (upd H p (.lst vs)) (L.cell p) (μ ++ [.lst ds]) ∧ Rep P (upd H p (.lst vs)) (L.cell p) (.ref p) (.cell μ.length) :=
  ⟨Ext.cell s n, s.cell n (.lst upd_same (r.ext (Ext.cell s n))), .cell (cell_last s)⟩
end
section
variable {P : Pm} {W : WX} {X : Cx} {pos : Pos} {e : Expr} {es : List Expr} {f : SE} {fa : SA}
theorem ve_lstC (h : VA P W X es fa) : VE P W X (.List es pos) (eLstC fa) :=
  (pe_lst h).imp3 fun σ H Q ⟨L, ρ, μ, rs, st, q⟩ => by
    refine tVA.first rs st q fun ds μ1 vs L1 H1 x1 s1 r1 rs1 q1 => ?_
    by_cases c : ds.length ≤ 100
    · rw [if_pos c] at q1
      refine ⟨by rw [r1.length]; exact line100 c, fun p hp => ?_⟩
      obtain ⟨a1, a2, a3⟩ := new_cell s1 hp r1
      exact q1 _ _ a1 a2 _ a3
    · rw [if_neg c] at q1; exact q1.elim
end
/-! ### calls of defs -/
/-- a def is worth f -/
def spF (P : Pm) (n : Nat) (f : List D → Sto → R D) : Sp := fun vs H Q E => vs.length = n ∧ ∃ L ds μ, Reps P H L vs ds ∧ St3 P H L μ ∧ Post P E L H (fun d L' H' => ∀ v, Rep P H' L' v d → Q v H') (f ds μ)
def eCall (n : Nat) (f : List D → Sto → R D) (fa : SA) : SE := fun ρ μ => (fa ρ μ).bind fun ds μ1 => if ds.length = n then f ds μ1 else .bad
/-- with defaults: the first m are written -/
def eCallD (m : Nat) (dd : List D) (f : List D → Sto → R D) (fa : SA) : SE := fun ρ μ => (fa ρ μ).bind fun ds μ1 => if ds.length = m then f (ds ++ dd) μ1 else .bad
abbrev CXF (X : Cx) : CXT := L2.CX X.prog X.w
section
variable {P : Pm} {W : WX} {X : Cx} {pos p : Pos} {e : Expr} {es : List Expr} {f : SE} {fa : SA} {k n : Nat} {fA : Addr} {fd : FuncData} {ps : List Str} {g : List D → Sto → R D} {x : Str}
theorem ve_call (F : FnOk X.prog X.w X.K X.mg X.base (CXF X) k fA fd ps (spF P n g)) (hr : Room k X.A) (hg : Gl X x) (hm : X.mg x = some (.ref fA)) (hk : PySem.W.keepIn X.K (.ref fA) = true) (hb : Binds X.K fd ps []) (tk : Takes X W)
    (ha : VA P W X (e :: es) fa) (hdb : (x == ("__debug__" : Str)) = false := by decide) (he : starEach (e :: es) X.env = (false, eval e X.env) :: starEach es X.env := by rfl) (hpl : (backTo pos (starEach es X.env)).any (·.1) = false := by rfl) :
    VE P W X (.Call (.Name x p) (e :: es) [] pos) (eCall n g fa) :=
  (pe_callS (E := WE W) F hr hg hm hk hb (fun σ => passAt tk σ) ha hdb he hpl).imp3 fun σ H Q ⟨L, ρ, μ, rs, st, q⟩ => by
    refine tVA.first rs st q fun ds μ1 vs L1 H1 x1 s1 r1 rs1 q1 => ?_
    by_cases c : ds.length = n
    · rw [if_pos c] at q1
      exact ⟨by rw [r1.length]; exact c, L1, ds, μ1, r1, s1, q1⟩
    · rw [if_neg c] at q1; exact q1.elim
end
/-! ### calls of built-ins -/
def CallS (P : Pm) (r : List V → Hp → VK → Prop) (g : List D → Sto → R D) : Prop := ∀ (E : XK) (L : Lv) (H : Hp) (μ : Sto) (vs : List V) (ds : List D) (Q : VK), St3 P H L μ → Reps P H L vs ds →
  Post P E L H (fun d L' H' => ∀ v, Rep P H' L' v d → Q v H') (g ds μ) → r vs H Q
def eCallB (g : List D → Sto → R D) (fa : SA) : SE := fun ρ μ => (fa ρ μ).bind fun ds μ1 => g ds μ1
theorem CallR.or {X : Cx} {f : Value} {r r' : List V → Hp → VK → Prop} (h : CallR X f r) (h' : CallR X f r') : CallR X f (fun xs H Q => r xs H Q ∨ r' xs H Q) := by
  intro pins s σ H xs us Q I rx q
  rcases q with q | q
  · exact h pins s σ H xs us Q I rx q
  · exact h' pins s σ H xs us Q I rx q
section
variable {P : Pm} {W : WX} {X : Cx} {pos p : Pos} {e : Expr} {es : List Expr} {fa : SA} {g : List D → Sto → R D} {x : Str} {id T : String} {r : List V → Hp → VK → Prop}
theorem ve_callB (hc : CallR X (.builtin id) r) (hs : CallS P r g) (hg : Gl X x) (hm : X.mg x = none) (hv : bootBuiltins x = some (.builtin id)) (ha : VA P W X (e :: es) fa) (hn : x ≠ "__name__" := by decide) (hdb : (x == ("__debug__" : Str)) = false := by decide)
    (he : starEach (e :: es) X.env = (false, eval e X.env) :: starEach es X.env := by rfl) (hpl : (backTo pos (starEach es X.env)).any (·.1) = false := by rfl) : VE P W X (.Call (.Name x p) (e :: es) [] pos) (eCallB g fa) :=
  (pe_callB hc hg hm hv ha hn hdb he hpl).imp3 fun σ H Q ⟨L, ρ, μ, rs, st, q⟩ =>
    tVA.first rs st q fun ds μ1 vs L1 H1 x1 s1 r1 rs1 q1 => hs _ L1 H1 μ1 vs ds Q s1 r1 q1
theorem ve_callTy (hc : CallR X (.type T) r) (hs : CallS P r g) (hg : Gl X x) (hm : X.mg x = none) (hv : bootBuiltins x = some (.type T)) (ha : VA P W X (e :: es) fa) (hn : x ≠ "__name__" := by decide) (hdb : (x == ("__debug__" : Str)) = false := by decide)
    (he : starEach (e :: es) X.env = (false, eval e X.env) :: starEach es X.env := by rfl) (hpl : (backTo pos (starEach es X.env)).any (·.1) = false := by rfl) : VE P W X (.Call (.Name x p) (e :: es) [] pos) (eCallB g fa) :=
  (pe_callTy hc hg hm hv ha hn hdb he hpl).imp3 fun σ H Q ⟨L, ρ, μ, rs, st, q⟩ =>
    tVA.first rs st q fun ds μ1 vs L1 H1 x1 s1 r1 rs1 q1 => hs _ L1 H1 μ1 vs ds Q s1 r1 q1
end
/-- of one, of two -/
def un (g : D → Sto → R D) : List D → Sto → R D
  | [d], μ => g d μ
  | _, _ => .bad
theorem Reps.one {P : Pm} {H : Hp} {L : Lv} {vs : List V} {d : D} (r : Reps P H L vs [d]) : ∃ v, vs = [v] ∧ Rep P H L v d := by
  cases r with
  | cons h t => cases t; exact ⟨_, rfl, h⟩
theorem Reps.two {P : Pm} {H : Hp} {L : Lv} {vs : List V} {d e : D} (r : Reps P H L vs [d, e]) : ∃ v w, vs = [v, w] ∧ Rep P H L v d ∧ Rep P H L w e := by
  cases r with
  | cons h t => obtain ⟨w, rfl, h'⟩ := t.one; exact ⟨_, _, rfl, h, h'⟩
theorem cs_un {P : Pm} {r : List V → Hp → VK → Prop} {g : D → Sto → R D} (h : ∀ (E : XK) (L : Lv) (H : Hp) (μ : Sto) (v : V) (d : D) (Q : VK), St3 P H L μ → Rep P H L v d → Post P E L H (fun d L' H' => ∀ v, Rep P H' L' v d → Q v H') (g d μ) → r [v] H Q) : CallS P r (un g) := by
  intro E L H μ vs ds Q s rr q
  match ds, rr, q with
  | [], _, q => exact q.elim
  | _ :: _ :: _, _, q => exact q.elim
  | [d], rr, q =>
    obtain ⟨v, rfl, rv⟩ := rr.one
    exact h E L H μ v d Q s rv q
/-- the items of a list or a tuple -/
def asQ (μ : Sto) : D → Option (List D)
  | .tup ds => some ds
  | d => asS μ d
section
variable {P : Pm} {X : Cx} {H : Hp} {L : Lv} {μ : Sto}
theorem asQ_ok (s : St3 P H L μ) {v : V} {d : D} {ds : List D} (r : Rep P H L v d) (e : asQ μ d = some ds) : ∃ a vs, v = .ref a ∧ (SqL P.K H a vs ∨ SqT P.K H a vs) ∧ Reps P H L vs ds := by
  have go : asS μ d = some ds → ∃ a vs, v = .ref a ∧ (SqL P.K H a vs ∨ SqT P.K H a vs) ∧ Reps P H L vs ds := fun e =>
    let ⟨a, vs, h1, h2, h3⟩ := asS_ok s r e; ⟨a, vs, h1, .inl h2, h3⟩
  cases d with
  | tup ds' =>
    cases e
    obtain ⟨a, vs, h1, h2, h3⟩ := tup_ok r
    exact ⟨a, vs, h1, .inr h2, h3⟩
  | _ => exact go e
/-! len, abs, list, tuple, int, str -/
def dLen : D → Sto → R D
  | .str z, μ => if z.length ≤ sizeLine then .ok (.int z.length) μ else .bad
  | d, μ => match asQ μ d with
    | some ds => .ok (.int ds.length) μ
    | none => .bad
theorem cs_len (hK : P.K = X.K) : CallS P (fun xs H Q => ∃ x n, xs = [x] ∧ LenV X.K x H n ∧ Q (.int n) H) (un dLen) := by
  refine cs_un fun E L H μ v d Q s rv q => ?_
  · skip
    have seq : (match asQ μ d with
      | some ds => Post P E L H (fun d L' H' => ∀ v, Rep P H' L' v d → Q v H') (.ok (.int ds.length) μ)
      | none => False) → ∃ x n, [v] = [x] ∧ LenV X.K x H n ∧ Q (.int n) H := fun h => by
      cases e1 : asQ μ d with
      | none => rw [e1] at h; exact h.elim
      | some ds =>
        rw [e1] at h
        obtain ⟨a, vs, rfl, hq, rq⟩ := asQ_ok s rv e1
        rw [hK] at hq
        refine ⟨_, vs.length, rfl, ?_, by rw [rq.length]; exact h L H .refl s _ (.int _)⟩
        rcases hq with hq | hq
        · exact .inl ⟨vs, hq, rfl⟩
        · exact .inr ⟨vs, hq, rfl⟩
    have fall : dLen d μ = (match asQ μ d with
      | some ds => .ok (.int ds.length) μ
      | none => .bad) → ∃ x n, [v] = [x] ∧ LenV X.K x H n ∧ Q (.int n) H := fun e => seq (by
        rw [e] at q
        cases e1 : asQ μ d with
        | none => rw [e1] at q; exact q
        | some xs => rw [e1] at q; exact q)
    cases d with
    | str z =>
      have q : Post P E L H (fun d L' H' => ∀ v, Rep P H' L' v d → Q v H') (if z.length ≤ sizeLine then .ok (.int z.length) μ else .bad) := q
      cases rv
      by_cases c : z.length ≤ sizeLine
      · rw [if_pos c] at q
        exact ⟨_, z.length, rfl, ⟨c, rfl⟩, q L H .refl s _ (.int _)⟩
      · rw [if_neg c] at q; exact q.elim
    | _ => exact fall rfl
def dAbsC : D → Sto → R D
  | .int i, μ => .ok (.int (if i < 0 then -i else i)) μ
  | _, _ => .bad
theorem cs_abs : CallS P (fun xs H Q => ∃ i, xs = [.int i] ∧ Q (.int (if i < 0 then -i else i)) H) (un dAbsC) := by
  refine cs_un fun E L H μ v d Q s rv q => ?_
  · skip
    cases rv with
    | int i => exact ⟨i, rfl, q L H .refl s _ (.int _)⟩
    | _ => exact q.elim
/-- list(x): a new one -/
def dListOf : D → Sto → R D := fun d μ => match asQ μ d with
    | some ds => .ok (.lst ds) μ
    | none => .bad
def dListOfC : D → Sto → R D := fun d μ => match asQ μ d with
    | some ds => .ok (.cell μ.length) (μ ++ [.lst ds])
    | none => .bad
theorem cs_listOf (hK : P.K = X.K) : CallS P (fun xs H Q => ∃ p ys, xs = [.ref p] ∧ (SqL X.K H p ys ∨ SqT X.K H p ys) ∧ ∀ l, H l = none → Q (.ref l) (upd H l (.lst ys))) (un dListOf) := by
  refine cs_un fun E L H μ v d Q s rv q => ?_
  · skip
    have q : Post P E L H (fun d L' H' => ∀ v, Rep P H' L' v d → Q v H') (match asQ μ d with
      | some ds => .ok (.lst ds) μ
      | none => .bad) := q
    cases e1 : asQ μ d with
    | none => rw [e1] at q; exact q.elim
    | some ds =>
      rw [e1] at q
      obtain ⟨a, vs, rfl, hq, rq⟩ := asQ_ok s rv e1
      rw [hK] at hq
      exact ⟨a, vs, rfl, hq, fun l hl => q _ _ (Ext.grow s (upd_grow hl)) (s.grow (upd_grow hl)) _ (new_lst s hl rq)⟩
theorem cs_listOfC (hK : P.K = X.K) : CallS P (fun xs H Q => ∃ p ys, xs = [.ref p] ∧ (SqL X.K H p ys ∨ SqT X.K H p ys) ∧ ∀ l, H l = none → Q (.ref l) (upd H l (.lst ys))) (un dListOfC) := by
  refine cs_un fun E L H μ v d Q s rv q => ?_
  · skip
    have q : Post P E L H (fun d L' H' => ∀ v, Rep P H' L' v d → Q v H') (match asQ μ d with
      | some ds => .ok (.cell μ.length) (μ ++ [.lst ds])
      | none => .bad) := q
    cases e1 : asQ μ d with
    | none => rw [e1] at q; exact q.elim
    | some ds =>
      rw [e1] at q
      obtain ⟨a, vs, rfl, hq, rq⟩ := asQ_ok s rv e1
      rw [hK] at hq
      refine ⟨a, vs, rfl, hq, fun l hl => ?_⟩
      obtain ⟨a1, a2, a3⟩ := new_cell s hl rq
      exact q _ _ a1 a2 _ a3
/-- all([..]), any([..]) of bools -/
def bools : List D → Option (List Bool)
  | [] => some []
  | .bl b :: r => (bools r).map (b :: ·)
  | _ :: _ => none
theorem bools_ok : ∀ {ds : List D} {bs : List Bool} {vs : List V}, bools ds = some bs → Reps P H L vs ds → vs = bs.map V.bl
  | [], bs, vs, e, r => by cases r; cases e; rfl
  | d :: ds, bs, vs, e, r => by
    cases r with
    | cons h t =>
      cases h with
      | bl b =>
        have e : (bools ds).map (b :: ·) = some bs := e
        cases e1 : bools ds with
        | none => rw [e1] at e; cases e
        | some cs =>
          rw [e1] at e
          cases e
          rw [bools_ok e1 t]
          rfl
      | _ => cases e
def dAll : D → Sto → R D := fun d μ => match (asS μ d).bind bools with
    | some bs => .ok (.bl (bs.all id)) μ
    | none => .bad
theorem cs_all (hK : P.K = X.K) : CallS P (rAll X.K) (un dAll) := by
  refine cs_un fun E L H μ v d Q s rv q => ?_
  · skip
    have q : Post P E L H (fun d L' H' => ∀ v, Rep P H' L' v d → Q v H') (match (asS μ d).bind bools with
      | some bs => .ok (.bl (bs.all id)) μ
      | none => .bad) := q
    cases e1 : asS μ d with
    | none => rw [e1] at q; exact q.elim
    | some ds =>
      rw [e1] at q
      have q : Post P E L H (fun d L' H' => ∀ v, Rep P H' L' v d → Q v H') (match bools ds with
        | some bs => .ok (.bl (bs.all id)) μ
        | none => .bad) := q
      cases e2 : bools ds with
      | none => rw [e2] at q; exact q.elim
      | some bs =>
        rw [e2] at q
        obtain ⟨a, vs, rfl, hq, rq⟩ := asS_ok s rv e1
        rw [hK] at hq
        have e3 := bools_ok e2 rq
        subst e3
        exact ⟨a, bs, rfl, hq, q L H .refl s _ (.bl _)⟩
/-! ### subscripts, slices -/
def dIx : D → D → Sto → R D := fun a b μ => match a, b with
  | .str z, .int i => if z.length ≤ sizeLine then (match atI z.cps.toList i with
    | some c => .ok (.str ⟨#[c]⟩) μ
    | none => .bad) else .bad
  | d, .int i => match asQ μ d with
    | some ds => (match atI ds i with
      | some d => .ok d μ
      | none => .bad)
    | none => .bad
  | _, _ => .bad
theorem atI_rep {vs : List V} {ds : List D} {i : Int} {d : D} (r : Reps P H L vs ds) (e : atI ds i = some d) : ∃ v, atI vs i = some v ∧ Rep P H L v d := by
  unfold atI at e ⊢
  rw [r.length]
  cases e1 : ixN ds.length i with
  | none => rw [e1] at e; cases e
  | some j => rw [e1] at e; exact r.get e
theorem os_ix (hK : P.K = X.K) : OpS P (rIx X.K) dIx := by
  intro E L H μ x y a b Q s ra rb q
  have seq : ∀ i : Int, b = .int i → (match asQ μ a with
    | some ds => Post P E L H (fun d L' H' => ∀ v, Rep P H' L' v d → Q v H') (match atI ds i with
      | some d => .ok d μ
      | none => .bad)
    | none => False) → rIx X.K x y H Q := fun i eb h => by
    subst eb
    cases rb
    cases e1 : asQ μ a with
    | none => rw [e1] at h; exact h.elim
    | some ds =>
      rw [e1] at h
      have h : Post P E L H (fun d L' H' => ∀ v, Rep P H' L' v d → Q v H') (match atI ds i with
        | some d => .ok d μ
        | none => .bad) := h
      cases e2 : atI ds i with
      | none => rw [e2] at h; exact h.elim
      | some d =>
        rw [e2] at h
        obtain ⟨p, vs, rfl, hq, rq⟩ := asQ_ok s ra e1
        rw [hK] at hq
        obtain ⟨v, hv, rv⟩ := atI_rep rq e2
        have fin := h L H .refl s v rv
        rcases hq with hq | hq
        · exact .inl ⟨p, vs, i, v, rfl, rfl, hq, hv, fin⟩
        · exact .inr (.inl ⟨p, vs, i, v, rfl, rfl, hq, hv, fin⟩)
  cases b with
  | int i =>
    have fall : dIx a (.int i) μ = (match asQ μ a with
      | some ds => (match atI ds i with
        | some d => .ok d μ
        | none => .bad)
      | none => .bad) → rIx X.K x y H Q := fun e => seq i rfl (by
        rw [e] at q
        cases e1 : asQ μ a with
        | none => rw [e1] at q; exact q
        | some xs => rw [e1] at q; exact q)
    cases a with
    | str z =>
      have q : Post P E L H (fun d L' H' => ∀ v, Rep P H' L' v d → Q v H') (if z.length ≤ sizeLine then (match atI z.cps.toList i with
        | some c => .ok (.str ⟨#[c]⟩) μ
        | none => .bad) else .bad) := q
      cases ra; cases rb
      by_cases c : z.length ≤ sizeLine
      · rw [if_pos c] at q
        cases e2 : atI z.cps.toList i with
        | none => rw [e2] at q; exact q.elim
        | some d => rw [e2] at q; exact .inr (.inr ⟨z, i, d, rfl, rfl, c, e2, q L H .refl s _ (.str _)⟩)
      · rw [if_neg c] at q; exact q.elim
    | _ => exact fall rfl
  | _ => cases a <;> exact q.elim
end
section
variable {P : Pm} {W : WX} {X : Cx} {pos p2 : Pos} {a b : Expr} {f1 f2 : SE} {r : R2} {g : D → D → Sto → R D}
theorem ve_ixG (hr : IxR X r) (hg : OpS P r g) (ha : VE P W X a f1) (hb : VE P W X b f2) (hs : PlainIx b := by intro _ _; rfl) : VE P W X (.Subscript a b pos) (eB g f1 f2) :=
  (pe_ix hr ha hb hs).imp3 fun _ _ _ h => tOp_of hg h
theorem ve_ix (hK : P.K = X.K) (ha : VE P W X a f1) (hb : VE P W X b f2) (hs : PlainIx b := by intro _ _; rfl) : VE P W X (.Subscript a b pos) (eB dIx f1 f2) := ve_ixG ix_seq (os_ix hK) ha hb hs
/-- a part of a slice -/
abbrev SO := Env → Sto → R (Option Int)
def tVO (P : Pm) (W : WX) (f : SO) : TO := fun σ H Q => ∃ L ρ μ, RelS P H L σ ρ ∧ St3 P H L μ ∧ Post P (WE W σ) L H (fun o _ H' => Q o H') (f ρ μ)
abbrev VO (P : Pm) (W : WX) (X : Cx) (e : Option Expr) (f : SO) : Prop := PO X e (tVO P W f)
theorem _root_.L2.PO.imp3 {X : Cx} {e : Option Expr} {t t' : TO} (h : PO X e t) (i : ∀ σ H Q, t' σ H Q → t σ H Q) : PO X e t' := ⟨fun pins s σ H Q I q => h.run pins s σ H Q I (i σ H Q q)⟩
def oNone : SO := fun _ μ => .ok none μ
def oSome (f : SE) : SO := fun ρ μ => (f ρ μ).bind fun d μ1 => match d with
  | .int i => .ok (some i) μ1
  | _ => .bad
theorem vo_none : VO P W X none oNone := po_none.imp3 fun σ H Q ⟨L, ρ, μ, rs, st, q⟩ => q L H .refl st
theorem vo_some {e : Expr} {f : SE} (h : VE P W X e f) : VO P W X (some e) (oSome f) := (po_some h).imp3 fun σ H Q ⟨L, ρ, μ, rs, st, q⟩ => by
  refine tV.first rs st q fun d μ1 v L1 H1 x1 s1 r1 rs1 q1 => ?_
  cases r1 with
  | int i => exact ⟨i, rfl, q1 L1 H1 .refl s1⟩
  | _ => exact q1.elim
def cutD (xs : List D) (lo hi : Option Int) : List D := (xs.drop (HT.sIx xs.length 0 lo)).take (HT.sIx xs.length xs.length hi - HT.sIx xs.length 0 lo)
theorem cut_rep {H : Hp} {L : Lv} {vs : List V} {ds : List D} (r : Reps P H L vs ds) (lo hi : Option Int) : Reps P H L (cutV vs lo hi) (cutD ds lo hi) := by
  unfold cutV cutD
  rw [r.length]
  exact (r.drop _).take _
def dSlice : D → Option Int → Option Int → Sto → R D := fun a lo hi μ => match a with
  | .str z => if z.length ≤ sizeLine then .ok (.str (cutS z lo hi)) μ else .bad
  | .tup ds => if HT.sIx ds.length 0 lo = 0 ∧ HT.sIx ds.length ds.length hi = ds.length then .ok (.tup ds) μ else .ok (.tup (cutD ds lo hi)) μ
  | d => match asS μ d with
    | some ds => .ok (.lst (cutD ds lo hi)) μ
    | none => .bad
def eSl (g : D → Option Int → Option Int → Sto → R D) (f : SE) (fl fh : SO) : SE := fun ρ μ => (f ρ μ).bind fun d μ1 => (fl ρ μ1).bind fun lo μ2 => (fh ρ μ2).bind fun hi μ3 => g d lo hi μ3
def SlS (P : Pm) (r : V → Option Int → Option Int → Hp → VK → Prop) (g : D → Option Int → Option Int → Sto → R D) : Prop := ∀ (E : XK) (L : Lv) (H : Hp) (μ : Sto) (x : V) (a : D) (lo hi : Option Int) (Q : VK), St3 P H L μ → Rep P H L x a →
  Post P E L H (fun d L' H' => ∀ v, Rep P H' L' v d → Q v H') (g a lo hi μ) → r x lo hi H Q
theorem ve_slG {rs : V → Option Int → Option Int → Hp → VK → Prop} {gs : D → Option Int → Option Int → Sto → R D} {lo hi : Option Expr} {fl fh : SO} (hr : SlR X rs) (hg : SlS P rs gs) (he : VE P W X a f1) (hl : VO P W X lo fl) (hu : VO P W X hi fh) : VE P W X (.Subscript a (.Slice lo hi none p2) pos) (eSl gs f1 fl fh) :=
  (pe_slice hr he hl hu).imp3 fun σ H Q ⟨L, ρ, μ, rs, st, q⟩ => by
    refine tV.first rs st q fun d μ1 v L1 H1 x1 s1 r1 rs1 q1 => ?_
    refine ⟨L1, ρ, μ1, rs1, s1, ?_⟩
    cases e : fl ρ μ1 with
    | exc c ns vs μ2 => rw [e] at q1; exact q1
    | bad => rw [e] at q1; exact q1
    | ok o μ2 =>
      rw [e] at q1
      intro L2 H2 x2 s2
      have q2 := Post.ext x2 q1
      refine ⟨L2, ρ, μ2, rs1.ext x2, s2, ?_⟩
      have q2 : Post P (WE W σ) L2 H2 _ ((fh ρ μ2).bind fun hi μ3 => gs d o hi μ3) := q2
      cases e' : fh ρ μ2 with
      | exc c ns vs μ3 => rw [e'] at q2; exact q2
      | bad => rw [e'] at q2; exact q2
      | ok o' μ3 =>
        rw [e'] at q2
        intro L3 H3 x3 s3
        exact hg _ L3 H3 μ3 v d o o' Q s3 ((r1.ext x2).ext x3) (Post.ext x3 q2)
def rSl3 (K : PySem.W.Frag) : V → Option Int → Option Int → Hp → VK → Prop := fun x lo hi H Q => rSlS x lo hi H Q ∨ (rSlT K x lo hi H Q ∨ rSlL K x lo hi H Q)
theorem sl3 : SlR X (rSl3 X.K) := sl_str.or (sl_tup.or sl_list)
theorem ss_sl (hK : P.K = X.K) : SlS P (rSl3 X.K) (fun a lo hi μ => match a with
  | .tup ds => if HT.sIx ds.length 0 lo = 0 ∧ HT.sIx ds.length ds.length hi = ds.length then .bad else .ok (.tup (cutD ds lo hi)) μ
  | d => dSlice d lo hi μ) := by
  intro E L H μ x a lo hi Q s ra q
  have seq : (match asS μ a with
    | some ds => Post P E L H (fun d L' H' => ∀ v, Rep P H' L' v d → Q v H') (.ok (.lst (cutD ds lo hi)) μ)
    | none => False) → rSl3 X.K x lo hi H Q := fun h => by
    cases e1 : asS μ a with
    | none => rw [e1] at h; exact h.elim
    | some ds =>
      rw [e1] at h
      obtain ⟨p, vs, rfl, hq, rq⟩ := asS_ok s ra e1
      rw [hK] at hq
      exact .inr (.inr ⟨p, vs, rfl, hq, fun l hl => h _ _ (Ext.grow s (upd_grow hl)) (s.grow (upd_grow hl)) _ (new_lst s hl (cut_rep rq lo hi))⟩)
  have fall : Post P E L H (fun d L' H' => ∀ v, Rep P H' L' v d → Q v H') (match asS μ a with
      | some ds => .ok (.lst (cutD ds lo hi)) μ
      | none => .bad) → rSl3 X.K x lo hi H Q := fun q => seq (by
        cases e1 : asS μ a with
        | none => rw [e1] at q; exact q
        | some xs => rw [e1] at q; exact q)
  cases a with
  | str z =>
    have q : Post P E L H (fun d L' H' => ∀ v, Rep P H' L' v d → Q v H') (if z.length ≤ sizeLine then .ok (.str (cutS z lo hi)) μ else .bad) := q
    cases ra
    by_cases c : z.length ≤ sizeLine
    · rw [if_pos c] at q; exact .inl ⟨z, rfl, c, q L H .refl s _ (.str _)⟩
    · rw [if_neg c] at q; exact q.elim
  | tup ds =>
    have q : Post P E L H (fun d L' H' => ∀ v, Rep P H' L' v d → Q v H') (if HT.sIx ds.length 0 lo = 0 ∧ HT.sIx ds.length ds.length hi = ds.length then .bad else .ok (.tup (cutD ds lo hi)) μ) := q
    obtain ⟨p, vs, rfl, hq, rq⟩ := tup_ok ra
    rw [hK] at hq
    by_cases c : HT.sIx ds.length 0 lo = 0 ∧ HT.sIx ds.length ds.length hi = ds.length
    · rw [if_pos c] at q; exact q.elim
    · rw [if_neg c] at q
      exact .inr (.inl ⟨p, vs, rfl, hq, by rw [rq.length]; exact c, fun l hl => q _ _ (Ext.grow s (upd_grow hl)) (s.grow (upd_grow hl)) _ (new_tup s hl (cut_rep rq lo hi))⟩)
  | _ => exact fall q
end
end L3

namespace L3
open PySem PySem.Spec PyProof.Rows L2
/-! ### == -/
mutual
def toPy0 : D → Option PyData
  | .non => some .none
  | .bl b => some (.bool b)
  | .int i => some (.int i)
  | .str s => some (.str s)
  | .lst xs => (toPyL xs).map .list
  | .tup xs => (toPyL xs).map .tuple
  | .dct _ _ => none
  | .obj _ _ _ => none
  | .cell _ => none
  | .scr _ => none
  | .key _ => none
def toPyL : List D → Option (List PyData)
  | [] => some []
  | d :: r => match toPy0 d, toPyL r with
    | some x, some y => some (x :: y)
    | _, _ => none
end
def toPy (μ : Sto) : D → Option PyData
  | .cell k => (match μ[k]? with
    | some (.lst ds) => (toPyL ds).map .list
    | _ => none)
  | d => toPy0 d
section
variable {P : Pm} {X : Cx} {H : Hp} {L : Lv} {μ : Sto}
mutual
theorem toPy0_ok (hK : P.K = X.K) : ∀ {v : V} {d : D} {x : PyData}, Rep P H L v d → toPy0 d = some x → Dp X.K H v x
  | _, .non, _, .non, e => by cases e; exact .non
  | _, .bl b, _, .bl _, e => by cases e; exact .bl b
  | _, .int b, _, .int _, e => by cases e; exact .int b
  | _, .str b, _, .str _, e => by cases e; exact .str b
  | _, .lst ds, x, .lst h n r, e => by
    have e : (toPyL ds).map PyData.list = some x := by simpa [toPy0] using e
    cases e1 : toPyL ds with
    | none => rw [e1] at e; cases e
    | some ys => rw [e1] at e; cases e; exact .lst (.of h) (toPyL_ok hK r e1)
  | _, .tup ds, x, .tup h r, e => by
    have e : (toPyL ds).map PyData.tuple = some x := by simpa [toPy0] using e
    cases e1 : toPyL ds with
    | none => rw [e1] at e; cases e
    | some ys => rw [e1] at e; cases e; exact .tup (hK ▸ h.sq) (toPyL_ok hK r e1)
theorem toPyL_ok (hK : P.K = X.K) : ∀ {vs : List V} {ds : List D} {ys : List PyData}, Reps P H L vs ds → toPyL ds = some ys → DpAll X.K H vs ys
  | _, [], _, .nil, e => by cases e; exact .nil
  | _, d :: ds, ys, .cons h r, e => by
    unfold toPyL at e
    cases e1 : toPy0 d with
    | none => rw [e1] at e; simp at e
    | some x =>
      cases e2 : toPyL ds with
      | none => rw [e1, e2] at e; simp at e
      | some zs =>
        rw [e1, e2] at e
        cases e
        exact .cons (toPy0_ok hK h e1) (toPyL_ok hK r e2)
end
theorem toPy_ok (hK : P.K = X.K) (s : St3 P H L μ) {v : V} {d : D} {x : PyData} (r : Rep P H L v d) (e : toPy μ d = some x) : Dp X.K H v x := by
  cases d with
  | cell k =>
    have e : (match μ[k]? with
      | some (.lst ds) => (toPyL ds).map PyData.list
      | _ => none) = some x := e
    cases em : μ[k]? with
    | none => rw [em] at e; cases e
    | some m =>
      rw [em] at e
      cases m with
      | lst ds =>
        obtain ⟨a, vs, rfl, h, rr⟩ := asL_ok s r (show asL μ (.cell k) = some ds by simp only [asL, em])
        have e : (toPyL ds).map PyData.list = some x := e
        cases e1 : toPyL ds with
        | none => rw [e1] at e; cases e
        | some ys => rw [e1] at e; cases e; exact .lst (.of h) (toPyL_ok hK rr e1)
      | dct _ _ => cases e
      | ins _ _ _ => cases e
      | oth _ _ _ => cases e
  | _ => exact toPy0_ok hK r e
def dEq : D → D → Sto → R D := fun a b μ => match toPy μ a, toPy μ b with
  | some x, some y => if SeqAt.shaped x = true ∧ SeqAt.shaped y = true then .ok (.bl (PyData.eqv x y)) μ else .bad
  | _, _ => .bad
def dNe : D → D → Sto → R D := fun a b μ => match toPy μ a, toPy μ b with
  | some x, some y => if SeqAt.shaped x = true ∧ SeqAt.shaped y = true then .ok (.bl (!PyData.eqv x y)) μ else .bad
  | _, _ => .bad
theorem os_eqG (hK : P.K = X.K) (k : Bool → Bool) : OpS P (fun x y H Q => ∃ d e, Dp X.K H x d ∧ Dp X.K H y e ∧ SeqAt.shaped d = true ∧ SeqAt.shaped e = true ∧ Q (.bl (k (PyData.eqv d e))) H) (fun a b μ => match toPy μ a, toPy μ b with
  | some x, some y => if SeqAt.shaped x = true ∧ SeqAt.shaped y = true then .ok (.bl (k (PyData.eqv x y))) μ else .bad
  | _, _ => .bad) := by
  intro E L H μ x y a b Q s ra rb q
  cases e1 : toPy μ a with
  | none => simp only [e1] at q; exact q.elim
  | some d =>
    cases e2 : toPy μ b with
    | none => simp only [e1, e2] at q; exact q.elim
    | some e =>
      simp only [e1, e2] at q
      by_cases c : SeqAt.shaped d = true ∧ SeqAt.shaped e = true
      · rw [if_pos c] at q
        exact ⟨d, e, toPy_ok hK s ra e1, toPy_ok hK s rb e2, c.1, c.2, q L H .refl s _ (.bl _)⟩
      · rw [if_neg c] at q; exact q.elim
theorem os_eq (hK : P.K = X.K) : OpS P (rEqD X.K) dEq := os_eqG hK fun b => b
theorem os_ne (hK : P.K = X.K) : OpS P (rNeD X.K) dNe := os_eqG hK fun b => !b
def dIsN : D → Sto → R D
  | .non, μ => .ok (.bl true) μ
  | _, μ => .ok (.bl false) μ
def dNotN : D → Sto → R D
  | .non, μ => .ok (.bl false) μ
  | _, μ => .ok (.bl true) μ
theorem isN_ok {v : V} {d : D} (r : Rep P H L v d) : dIsN d μ = .ok (.bl (decide (v = .non))) μ := by
  cases r <;> first | rfl | (simp [dIsN])
end
section
variable {P : Pm} {W : WX} {X : Cx} {pos p2 : Pos} {a b : Expr} {f1 f2 : SE} {j : Nat}
theorem tIs_of {f : SE} {σ : Slots} {H : Hp} {Q : VK} (h : tV P W (eU dIsN f) σ H Q) : tIsN (tV P W f) σ H Q := by
  obtain ⟨L, ρ, μ, rs, st, q⟩ := h
  refine tV.first rs st q fun d μ1 v L1 H1 x1 s1 r1 rs1 q1 => ?_
  rw [isN_ok r1] at q1
  exact q1 L1 H1 .refl s1 _ (.bl _)
theorem ve_isN (h : VE P W X a f1) : VE P W X (.Compare a [.Is] [.Constant .none j p2] pos) (eU dIsN f1) := (pe_cmp (pc_isN h) rfl).imp3 fun _ _ _ q => tIs_of q
theorem vt_isN (h : VE P W X a f1) : VT P W X (.Compare a [.Is] [.Constant .none j p2] pos) (eT (eU dIsN f1)) := (pt_cmp (pc_isN h) rfl).imp3 fun _ _ _ q => by
  have z := tT_of q
  exact tIs_of z
end
/-! ### isinstance, of built-in classes -/
inductive Ty where
  | non | bool | int | str | list | tuple | dict
  deriving DecidableEq
def Ty.nm : Ty → String
  | .non => "NoneType"
  | .bool => "bool"
  | .int => "int"
  | .str => "str"
  | .list => "list"
  | .tuple => "tuple"
  | .dict => "dict"
def Ty.sub (a b : Ty) : Bool := a == b || (a == .bool && b == .int)
theorem Ty.kit (a b : Ty) : kitB a.nm b.nm = some (a.sub b) := by cases a <;> cases b <;> decide +kernel
def tyD (μ : Sto) : D → Option Ty
  | .non => some .non
  | .bl _ => some .bool
  | .int _ => some .int
  | .str _ => some .str
  | .lst _ => some .list
  | .tup _ => some .tuple
  | .dct _ _ => none
  | .scr _ => some .list
  | .cell k => (match μ[k]? with
    | some (.lst _) => some .list
    | some (.dct _ _) => some .dict
    | _ => none)
  | .obj _ _ _ => none
  | .key _ => none
theorem tyD_ok {P : Pm} {X : Cx} {H : Hp} {L : Lv} {μ : Sto} (hK : P.K = X.K) (s : St3 P H L μ) {v : V} {d : D} {t : Ty} (r : Rep P H L v d) (e : tyD μ d = some t) : TyX X.K H v (.type t.nm) := by
  cases r with
  | non => cases e; exact .base .non
  | bl b => cases e; exact .base (.bl b)
  | int b => cases e; exact .base (.int b)
  | str b => cases e; exact .base (.str b)
  | lst h n r => cases e; exact .base (.lst h)
  | tup h r =>
    cases e
    rcases h with ⟨h | ⟨o, h⟩, n⟩ | ⟨o, its, n, h1, h2, _⟩
    · exact .base (.tup h)
    · exact .fTuple h
    · rw [hK] at h1; exact .kTuple h1 h2
  | dct h n l r => cases e
  | obj h hc n l r => cases e
  | key h n => cases e
  | scr h =>
    cases e
    rcases h with ⟨h | ⟨o, h⟩, n⟩ | ⟨o, its, n, h1, h2, _⟩
    · exact .base (.lst h)
    · exact .base (.frz h)
    · rw [hK] at h1; exact .kList h1 h2
  | @cell a k h =>
    have e : (match μ[k]? with
      | some (.lst _) => some Ty.list
      | some (.dct _ _) => some .dict
      | _ => none) = some t := e
    cases em : μ[k]? with
    | none => rw [em] at e; cases e
    | some m =>
      rw [em] at e
      have q := s.at_ k a m h em
      cases q with
      | lst h' r' => cases e; exact .base (.lst h')
      | dct h' l r' => cases e; exact .base (.dK h')
      | ins h' hc l r' => cases e
      | oth h' l r' => cases e
def dIsi (ts : List Ty) : D → Sto → R D := fun d μ => match tyD μ d with
  | some t => .ok (.bl (ts.any fun u => t.sub u)) μ
  | none => .bad
theorem kitAny_ty {K : PySem.W.Frag} (t : Ty) : ∀ ts : List Ty, PySem.W.kitAny K (.type t.nm) (ts.map fun u => .type u.nm) = some (ts.any fun u => t.sub u)
  | [] => rfl
  | u :: r => by
    rw [List.map_cons, List.any_cons]
    refine kitAny_cons (kit_ty (Ty.kit t u)) (fun h => ?_) fun h => ?_
    · rw [h, kitAny_ty t r]; rfl
    · rw [h]; rfl
section
variable {P : Pm} {W : WX} {X : Cx} {pos p p2 p3 : Pos} {a : Expr} {f1 : SE} {k : Nat}
theorem ve_isi {T : Str} (t : Ty) (hK : P.K = X.K) (hg : Gl X "isinstance") (hm : X.mg "isinstance" = none) (ha : VE P W X a f1) (hT : PE X (.Name T p2) (tC (.ty t.nm)))
    (hs2 : starEach [a, .Name T p2] X.env = (false, eval a X.env) :: starEach [.Name T p2] X.env := by rfl) (hs1 : starEach [.Name T p2] X.env = (false, eval (.Name T p2) X.env) :: starEach [] X.env := by rfl)
    (hpl : (backTo pos (starEach [.Name T p2] X.env)).any (·.1) = false := by rfl) : VE P W X (.Call (.Name "isinstance" p) [a, .Name T p2] [] pos) (eU (dIsi [t]) f1) :=
  (pe_callB call_isi hg hm PyProof.Rows.boot_isinstance (pa_cons ha (pa_cons hT pa_nil hs1) hs2) (by decide) (by decide) hs2 hpl).imp3 fun σ H Q ⟨L, ρ, μ, rs, st, q⟩ => by
    refine tV.first rs st q fun d μ1 v L1 H1 x1 s1 r1 rs1 q1 => ?_
    have q1 : Post P (WE W σ) L1 H1 (fun d L' H' => ∀ v, Rep P H' L' v d → Q v H') (match tyD μ1 d with
      | some t' => .ok (.bl ([t].any fun u => t'.sub u)) μ1
      | none => .bad) := q1
    cases e : tyD μ1 d with
    | none => rw [e] at q1; exact q1.elim
    | some t' =>
      rw [e] at q1
      have e2 : ([t].any fun u => t'.sub u) = t'.sub t := by simp
      have q1 : Post P (WE W σ) L1 H1 (fun d L' H' => ∀ v, Rep P H' L' v d → Q v H') (.ok (.bl ([t].any fun u => t'.sub u)) μ1) := q1
      rw [e2] at q1
      exact ⟨v, .ty t.nm, .type t'.nm, .type t.nm, _, rfl, .ty _, tyD_ok hK s1 r1 e, kit_ty (Ty.kit t' t), q1 L1 H1 .refl s1 _ (.bl _)⟩
theorem ve_isi2 {T1 T2 : Str} {p4 : Pos} (t1 t2 : Ty) (hK : P.K = X.K) (hg : Gl X "isinstance") (hm : X.mg "isinstance" = none) (ha : VE P W X a f1) (hT1 : PE X (.Name T1 p2) (tC (.ty t1.nm))) (hT2 : PE X (.Name T2 p3) (tC (.ty t2.nm)))
    (hs2 : starEach [a, .Tuple [.Name T1 p2, .Name T2 p3] k p4] X.env = (false, eval a X.env) :: starEach [.Tuple [.Name T1 p2, .Name T2 p3] k p4] X.env := by rfl)
    (hs1 : starEach [.Tuple [.Name T1 p2, .Name T2 p3] k p4] X.env = (false, eval (.Tuple [.Name T1 p2, .Name T2 p3] k p4) X.env) :: starEach [] X.env := by rfl)
    (ht2 : starEach [.Name T1 p2, .Name T2 p3] X.env = (false, eval (.Name T1 p2) X.env) :: starEach [.Name T2 p3] X.env := by rfl) (ht1 : starEach [.Name T2 p3] X.env = (false, eval (.Name T2 p3) X.env) :: starEach [] X.env := by rfl)
    (hpl : (backTo pos (starEach [.Tuple [.Name T1 p2, .Name T2 p3] k p4] X.env)).any (·.1) = false := by rfl) :
    VE P W X (.Call (.Name "isinstance" p) [a, .Tuple [.Name T1 p2, .Name T2 p3] k p4] [] pos) (eU (dIsi [t1, t2]) f1) :=
  (pe_callB call_isiT hg hm PyProof.Rows.boot_isinstance (pa_cons ha (pa_cons (pe_tup (pa_cons hT1 (pa_cons hT2 pa_nil ht1) ht2)) pa_nil hs1) hs2) (by decide) (by decide) hs2 hpl).imp3 fun σ H Q ⟨L, ρ, μ, rs, st, q⟩ => by
    refine tV.first rs st q fun d μ1 v L1 H1 x1 s1 r1 rs1 q1 => ?_
    have q1 : Post P (WE W σ) L1 H1 (fun d L' H' => ∀ v, Rep P H' L' v d → Q v H') (match tyD μ1 d with
      | some t' => .ok (.bl ([t1, t2].any fun u => t'.sub u)) μ1
      | none => .bad) := q1
    cases e : tyD μ1 d with
    | none => rw [e] at q1; exact q1.elim
    | some t' =>
      rw [e] at q1
      refine ⟨by rw [sizeLine_eq]; simp, fun tp hp => ?_⟩
      have gr := upd_grow (o := .tup [V.ty t1.nm, V.ty t2.nm]) hp
      refine ⟨v, tp, [.ty t1.nm, .ty t2.nm], .type t'.nm, [.type t1.nm, .type t2.nm], _, rfl, upd_same, .cons (.ty _) (.cons (.ty _) .nil), tyD_ok hK (s1.grow gr) (r1.ext (Ext.grow s1 gr)) e, kitAny_ty t' [t1, t2], ?_⟩
      exact q1 _ _ (Ext.grow s1 gr) (s1.grow gr) _ (.bl _)
end
end L3

namespace L3
open PySem PySem.Spec PyProof.Rows L2
/-! ### statements -/
inductive RS where
  | nx (ρ : Env) (μ : Sto)
  | rt (d : D) (μ : Sto)
  | bk (ρ : Env) (μ : Sto)
  | ct (ρ : Env) (μ : Sto)
  | exc (c : Str) (ns : List Str) (vs : List D) (ρ : Env) (μ : Sto)
  | bad
abbrev SS := Env → Sto → RS
/-- a value comes, then the rest -/
def R.thn {α : Type} (r : R α) (ρ : Env) (k : α → Sto → RS) : RS := match r with
  | .ok a μ => k a μ
  | .exc c ns vs μ => .exc c ns vs ρ μ
  | .bad => .bad
@[simp] theorem R.thn_ok {α : Type} {a : α} {μ : Sto} {ρ : Env} {k : α → Sto → RS} : (R.ok a μ).thn ρ k = k a μ := rfl
@[simp] theorem R.thn_exc {α : Type} {c : Str} {ns vs} {μ : Sto} {ρ : Env} {k : α → Sto → RS} : (R.exc (α := α) c ns vs μ).thn ρ k = .exc c ns vs ρ μ := rfl
@[simp] theorem R.thn_bad {α : Type} {ρ : Env} {k : α → Sto → RS} : (R.bad (α := α)).thn ρ k = .bad := rfl
def PostS (P : Pm) (W : WX) (D : Ends) (L : Lv) (H : Hp) : RS → Prop
  | .nx ρ μ => ∀ σ' L' H', Ext P L H L' H' → St3 P H' L' μ → RelS P H' L' σ' ρ → D.nx σ' H'
  | .rt d μ => ∀ v L' H', Ext P L H L' H' → St3 P H' L' μ → Rep P H' L' v d → D.rt v H'
  | .bk ρ μ => ∀ σ' L' H', Ext P L H L' H' → St3 P H' L' μ → RelS P H' L' σ' ρ → D.bk σ' H'
  | .ct ρ μ => ∀ σ' L' H', Ext P L H L' H' → St3 P H' L' μ → RelS P H' L' σ' ρ → D.ct σ' H'
  | .exc c ns vs ρ μ => ∀ σ' C dx L' H', P.cls c = some C → Ext P L H L' H' → St3 P H' L' μ → RelS P H' L' σ' ρ → XF P L' H' dx ns vs → W (.ref C) (some dx) σ' H'
  | .bad => False
def tS (P : Pm) (W : WX) (f : SS) : TS := fun D σ H => ∃ L ρ μ, RelS P H L σ ρ ∧ St3 P H L μ ∧ PostS P W D L H (f ρ μ)
abbrev VS (P : Pm) (W : WX) (X : Cx) (st : Stmt) (f : SS) : Prop := PS X st (tS P W f)
abbrev VSs (P : Pm) (W : WX) (X : Cx) (st : List Stmt) (f : SS) : Prop := PSs X st (tS P W f)
section
variable {P : Pm} {W : WX} {D : Ends} {H H1 : Hp} {L L1 : Lv} {r : RS} {σ : Slots} {ρ : Env} {μ : Sto}
theorem PostS.ext (x : Ext P L H L1 H1) (h : PostS P W D L H r) : PostS P W D L1 H1 r := by
  cases r with
  | nx ρ μ => exact fun σ' L' H' y => h σ' L' H' (x.trans y)
  | rt d μ => exact fun v L' H' y => h v L' H' (x.trans y)
  | bk ρ μ => exact fun σ' L' H' y => h σ' L' H' (x.trans y)
  | ct ρ μ => exact fun σ' L' H' y => h σ' L' H' (x.trans y)
  | exc c ns vs ρ μ => exact fun σ' C dx L' H' hc y => h σ' C dx L' H' hc (x.trans y)
  | bad => exact h
/-- an expression ahead of the rest of a statement -/
theorem tV.firstS {f : SE} {k : L3.D → Sto → RS} {Q : V → Hp → Prop} (rs : RelS P H L σ ρ) (st : St3 P H L μ) (h : PostS P W D L H ((f ρ μ).thn ρ k))
    (go : ∀ d μ1 v L1 H1, Ext P L H L1 H1 → St3 P H1 L1 μ1 → Rep P H1 L1 v d → RelS P H1 L1 σ ρ → PostS P W D L1 H1 (k d μ1) → Q v H1) : tV P W f σ H Q := by
  refine ⟨L, ρ, μ, rs, st, ?_⟩
  cases e : f ρ μ with
  | ok d μ1 => rw [e] at h; exact fun L1 H1 x s v r => go d μ1 v L1 H1 x s r (rs.ext x) (PostS.ext x h)
  | exc c ns vs μ1 => rw [e] at h; exact fun C dx L' H' hc x s f => h σ C dx L' H' hc x s (rs.ext x) f
  | bad => rw [e] at h; exact h
theorem tVT.firstS {f : ST} {k : Bool → Sto → RS} {Q : Bool → Hp → Prop} (rs : RelS P H L σ ρ) (st : St3 P H L μ) (h : PostS P W D L H ((f ρ μ).thn ρ k))
    (go : ∀ b μ1 L1 H1, Ext P L H L1 H1 → St3 P H1 L1 μ1 → RelS P H1 L1 σ ρ → PostS P W D L1 H1 (k b μ1) → Q b H1) : tVT P W f σ H Q := by
  refine ⟨L, ρ, μ, rs, st, ?_⟩
  cases e : f ρ μ with
  | ok d μ1 => rw [e] at h; exact fun L1 H1 x s => go d μ1 L1 H1 x s (rs.ext x) (PostS.ext x h)
  | exc c ns vs μ1 => rw [e] at h; exact fun C dx L' H' hc x s f => h σ C dx L' H' hc x s (rs.ext x) f
  | bad => rw [e] at h; exact h
theorem tVA.firstS {f : SA} {k : List L3.D → Sto → RS} {Q : List V → Hp → Prop} (rs : RelS P H L σ ρ) (st : St3 P H L μ) (h : PostS P W D L H ((f ρ μ).thn ρ k))
    (go : ∀ ds μ1 vs L1 H1, Ext P L H L1 H1 → St3 P H1 L1 μ1 → Reps P H1 L1 vs ds → RelS P H1 L1 σ ρ → PostS P W D L1 H1 (k ds μ1) → Q vs H1) : tVA P W f σ H Q := by
  refine ⟨L, ρ, μ, rs, st, ?_⟩
  cases e : f ρ μ with
  | ok d μ1 => rw [e] at h; exact fun L1 H1 x s v r => go d μ1 v L1 H1 x s r (rs.ext x) (PostS.ext x h)
  | exc c ns vs μ1 => rw [e] at h; exact fun C dx L' H' hc x s f => h σ C dx L' H' hc x s (rs.ext x) f
  | bad => rw [e] at h; exact h
end
def sNil : SS := fun ρ μ => .nx ρ μ
def sSeq (f g : SS) : SS := fun ρ μ => match f ρ μ with
  | .nx ρ1 μ1 => g ρ1 μ1
  | .rt d μ1 => .rt d μ1
  | .bk ρ1 μ1 => .bk ρ1 μ1
  | .ct ρ1 μ1 => .ct ρ1 μ1
  | .exc c ns vs ρ1 μ1 => .exc c ns vs ρ1 μ1
  | .bad => .bad
def sBreak : SS := fun ρ μ => .bk ρ μ
def sCont : SS := fun ρ μ => .ct ρ μ
def sExpr (f : SE) : SS := fun ρ μ => (f ρ μ).thn ρ fun _ μ1 => .nx ρ μ1
def sRet (f : SE) : SS := fun ρ μ => (f ρ μ).thn ρ fun d μ1 => .rt d μ1
def sRetN : SS := fun _ μ => .rt .non μ
def sIf (t : ST) (f g : SS) : SS := fun ρ μ => (t ρ μ).thn ρ fun c μ1 => if c = true then f ρ μ1 else g ρ μ1
def sSet (i : Nat) (f : SE) : SS := fun ρ μ => (f ρ μ).thn ρ fun d μ1 => .nx (ρ.set i (some d)) μ1
section
variable {P : Pm} {W : WX} {X : Cx} {pos : Pos} {st : Stmt} {rest : List Stmt} {f g : SS} {fe : SE} {e : Expr}
theorem vss_nil : VSs P W X [] sNil := pss_nil.imp3 fun D σ H ⟨L, ρ, μ, rs, s, q⟩ => q σ L H .refl s rs
theorem vss_cons (h1 : VS P W X st f) (h2 : VSs P W X rest g) : VSs P W X (st :: rest) (sSeq f g) :=
  (pss_cons h1 h2).imp3 fun D σ H ⟨L, ρ, μ, rs, s, q⟩ => by
    refine ⟨L, ρ, μ, rs, s, ?_⟩
    unfold sSeq at q
    cases e : f ρ μ with
    | nx ρ1 μ1 => rw [e] at q; exact fun σ' L' H' x s' rs' => ⟨L', ρ1, μ1, rs', s', PostS.ext x q⟩
    | rt d μ1 => rw [e] at q; exact q
    | bk ρ1 μ1 => rw [e] at q; exact q
    | ct ρ1 μ1 => rw [e] at q; exact q
    | exc c ns vs ρ1 μ1 => rw [e] at q; exact q
    | bad => rw [e] at q; exact q
theorem vss_one (h1 : VS P W X st f) : VSs P W X [st] f := pss_one h1
theorem vs_expr (he : VE P W X e fe) (hs : swapsWith e none pos.line X.env = pure false := by rfl) : VS P W X (.Expr e pos) (sExpr fe) :=
  (ps_expr he hs).imp3 fun D σ H ⟨L, ρ, μ, rs, s, q⟩ => tV.firstS rs s q fun d μ1 v L1 H1 x1 s1 r1 rs1 q1 => q1 σ L1 H1 .refl s1 rs1
theorem vs_ret (he : VE P W X e fe) : VS P W X (.Return (some e) pos) (sRet fe) :=
  (ps_ret he).imp3 fun D σ H ⟨L, ρ, μ, rs, s, q⟩ => tV.firstS rs s q fun d μ1 v L1 H1 x1 s1 r1 rs1 q1 => q1 v L1 H1 .refl s1 r1
theorem vs_if {t : ST} {c : Expr} {a b : List Stmt} (hc : VT P W X c t) (ha : VSs P W X a f) (hb : VSs P W X b g) : VS P W X (.If c a b pos) (sIf t f g) :=
  (ps_if hc ha hb).imp3 fun D σ H ⟨L, ρ, μ, rs, s, q⟩ => by
    refine tVT.firstS rs s q fun c μ1 L1 H1 x1 s1 rs1 q1 => ?_
    cases c with
    | true => exact ⟨L1, ρ, μ1, rs1, s1, q1⟩
    | false => exact ⟨L1, ρ, μ1, rs1, s1, q1⟩
theorem vs_set {i : Nat} {x : Str} {pos' : Pos} (hN : X.N.Nodup) (hi : X.N[i]? = some x) (hx : Loc X.env.scope x) (he : VE P W X e fe) (hs : swapsWith e (some (.Name x pos')) pos.line X.env = pure false := by rfl) (hf : X.fn x = true ∨ X.env.scope.names.lookup x = some .local := by first | exact .inl rfl | exact .inr rfl | assumption) :
    VS P W X (.Assign [.Name x pos'] e pos) (sSet i fe) :=
  (ps_set hN hi hx he hs hf).imp3 fun D σ H ⟨L, ρ, μ, rs, s, q⟩ => tV.firstS rs s q fun d μ1 v L1 H1 x1 s1 r1 rs1 q1 => q1 _ L1 H1 .refl s1 (rs1.set r1)
end
/-! ### targets -/
abbrev SG := D → Env → Sto → Option Env
abbrev SGs := List D → Env → Sto → Option Env
def tVG (P : Pm) (sl : List Nat) (g : SG) : TG := fun v σ H Q => ∃ L ρ μ d ρ', RelS P H L σ ρ ∧ St3 P H L μ ∧ Rep P H L v d ∧ g d ρ μ = some ρ' ∧
  ∀ σ', RelS P H L σ' ρ' → (∀ vs : List Nat, (∀ i ∈ sl, i ∈ vs) → wipe σ' vs = wipe σ vs) → Q σ' H
def tVGs (P : Pm) (sl : List Nat) (g : SGs) : TGs := fun v σ H Q => ∃ L ρ μ d ρ', RelS P H L σ ρ ∧ St3 P H L μ ∧ Reps P H L v d ∧ g d ρ μ = some ρ' ∧
  ∀ σ', RelS P H L σ' ρ' → (∀ vs : List Nat, (∀ i ∈ sl, i ∈ vs) → wipe σ' vs = wipe σ vs) → Q σ' H
theorem _root_.L2.PG.imp3 {X : Cx} {e : Expr} {t t' : TG} (h : PG X e t) (i : ∀ v σ H Q, t' v σ H Q → t v σ H Q) : PG X e t' := ⟨fun pins s σ H v u Q I r q => h.run pins s σ H v u Q I r (i v σ H Q q)⟩
theorem _root_.L2.PGs.imp3 {X : Cx} {e : List Expr} {t t' : TGs} (h : PGs X e t) (i : ∀ v σ H Q, t' v σ H Q → t v σ H Q) : PGs X e t' := ⟨fun pins s σ H v u Q I r q => h.run pins s σ H v u Q I r (i v σ H Q q)⟩
theorem _root_.L2.PG.or3 {X : Cx} {e : Expr} {t t' : TG} (h : PG X e t) (h' : PG X e t') : PG X e (fun v σ H Q => t v σ H Q ∨ t' v σ H Q) := ⟨fun pins s σ H v u Q I r q => by
  rcases q with q | q
  · exact h.run pins s σ H v u Q I r q
  · exact h'.run pins s σ H v u Q I r q⟩
abbrev VG (P : Pm) (X : Cx) (e : Expr) (sl : List Nat) (g : SG) : Prop := PG X e (tVG P sl g)
abbrev VGs (P : Pm) (X : Cx) (e : List Expr) (sl : List Nat) (g : SGs) : Prop := PGs X e (tVGs P sl g)
def gSet (i : Nat) : SG := fun d ρ _ => some (ρ.set i (some d))
def gsNil : SGs := fun ds ρ _ => match ds with
  | [] => some ρ
  | _ => none
def gsCons (g : SG) (gs : SGs) : SGs := fun ds ρ μ => match ds with
  | d :: r => (match g d ρ μ with
    | some ρ1 => gs r ρ1 μ
    | none => none)
  | [] => none
def gTuple (n : Nat) (gs : SGs) : SG := fun d ρ μ => match asQ μ d with
  | some ds => if ds.length = n then gs ds ρ μ else none
  | none => none
theorem wipe_set {σ : L2.St} {i : Nat} {o : Option V} : ∀ {vs : List Nat}, i ∈ vs → wipe (σ.set i o) vs = wipe σ vs
  | [], h => by cases h
  | v :: vs, h => by
    unfold wipe
    by_cases e : i ∈ vs
    · rw [wipe_set e]
    · have ei : i = v := by
        rcases List.mem_cons.mp h with z | z
        · exact z
        · exact absurd z e
      subst ei
      have : ∀ vs : List Nat, (wipe (σ.set i o) vs).set i none = (wipe σ vs).set i none := by
        intro vs
        induction vs with
        | nil => show (σ.set i o).set i none = σ.set i none; rw [List.set_set]
        | cons w ws ih =>
          show ((wipe (σ.set i o) ws).set w none).set i none = ((wipe σ ws).set w none).set i none
          by_cases ew : w = i
          · subst ew; rw [List.set_set, List.set_set]; exact ih
          · rw [List.set_comm _ _ ew, List.set_comm _ _ ew, ih]
      exact this vs
section
variable {P : Pm} {X : Cx} {pos : Pos} {e : Expr} {es : List Expr} {sl sl' : List Nat} {g : SG} {gs : SGs}
theorem vg_name {i : Nat} {x : Str} (hN : X.N.Nodup) (hi : X.N[i]? = some x) (hx : Loc X.env.scope x) (hf : X.fn x = true ∨ X.env.scope.names.lookup x = some .local := by first | exact .inl rfl | exact .inr rfl | assumption) : VG P X (.Name x pos) [i] (gSet i) :=
  (pg_name hN hi hx hf).imp3 fun v σ H Q ⟨L, ρ, μ, d, ρ', rs, s, r, eg, q⟩ => by
    cases eg
    exact q _ (rs.set r) fun vs h => wipe_set (h i (List.mem_singleton.mpr rfl))
theorem vgs_nil : VGs P X [] [] gsNil := pgs_nil.imp3 fun v σ H Q ⟨L, ρ, μ, d, ρ', rs, s, r, eg, q⟩ => by
  cases r with
  | nil => cases eg; exact ⟨rfl, q σ rs fun _ _ => rfl⟩
  | cons _ _ => cases eg
theorem vgs_cons (h1 : VG P X e sl g) (h2 : VGs P X es sl' gs) (hs : (assignEach (e :: es) X.env).map (·.2) = assign e X.env :: (assignEach es X.env).map (·.2) := by rfl) : VGs P X (e :: es) (sl ++ sl') (gsCons g gs) :=
  (pgs_cons h1 h2 hs).imp3 fun v σ H Q ⟨L, ρ, μ, d, ρ', rs, s, r, eg, q⟩ => by
    cases r with
    | nil => cases eg
    | @cons v0 d0 vr dr r0 rr =>
      have eg : (match g d0 ρ μ with
        | some ρ1 => gs dr ρ1 μ
        | none => none) = some ρ' := eg
      cases e1 : g d0 ρ μ with
      | none => rw [e1] at eg; cases eg
      | some ρ1 =>
        rw [e1] at eg
        refine ⟨v0, vr, rfl, L, ρ, μ, d0, ρ1, rs, s, r0, e1, fun σ1 rs1 w1 => ?_⟩
        exact ⟨L, ρ1, μ, dr, ρ', rs1, s, rr, eg, fun σ2 rs2 w2 => q σ2 rs2 fun vs h => (w2 vs fun i hi => h i (List.mem_append_right _ hi)).trans (w1 vs fun i hi => h i (List.mem_append_left _ hi))⟩
theorem vg_tup {k n : Nat} (hK : P.K = X.K) (hc : X.calm = true) (h : VGs P X es sl gs)
    (hn : (assignEach es X.env).length = n := by rfl) (hst : (assignEach es X.env).findIdx? (·.1) = none := by rfl) : VG P X (.Tuple es k pos) sl (gTuple n gs) :=
  ((pg_tup hc h hn hst).or3 (pg_lst hc h hn hst)).imp3 fun v σ H Q ⟨L, ρ, μ, d, ρ', rs, s, r, eg, q⟩ => by
    unfold gTuple at eg
    cases e1 : asQ μ d with
    | none => rw [e1] at eg; cases eg
    | some ds =>
      rw [e1] at eg
      have eg : (if ds.length = n then gs ds ρ μ else none) = some ρ' := eg
      by_cases c : ds.length = n
      · rw [if_pos c] at eg
        obtain ⟨a, vs, rfl, hq, rq⟩ := asQ_ok s r e1
        rw [hK] at hq
        rcases hq with hq | hq
        · exact .inr ⟨a, vs, rfl, hq, by rw [rq.length]; exact c, L, ρ, μ, ds, ρ', rs, s, rq, eg, q⟩
        · exact .inl ⟨a, vs, rfl, hq, by rw [rq.length]; exact c, L, ρ, μ, ds, ρ', rs, s, rq, eg, q⟩
      · rw [if_neg c] at eg; cases eg
def sAsg (f : SE) (g : SG) : SS := fun ρ μ => (f ρ μ).thn ρ fun d μ1 => match g d ρ μ1 with
  | some ρ1 => .nx ρ1 μ1
  | none => .bad
theorem vs_asg {W : WX} {tg : Expr} {fe : SE} (he : VE P W X e fe) (hg : VG P X tg sl g) (hs : swapsWithSole [tg] e pos.line X.env = pure false := by rfl) (hw : swappedStores [tg] e X.env = pure none := by rfl)
    (h1 : (assignEach [tg] X.env).map (·.2) = [assign tg X.env] := by rfl) : VS P W X (.Assign [tg] e pos) (sAsg fe g) :=
  (ps_asg he hg hs hw h1).imp3 fun D σ H ⟨L, ρ, μ, rs, s, q⟩ => tV.firstS rs s q fun d μ1 v L1 H1 x1 s1 r1 rs1 q1 => by
    cases e1 : g d ρ μ1 with
    | none => rw [e1] at q1; exact q1.elim
    | some ρ1 => rw [e1] at q1; exact ⟨L1, ρ, μ1, d, ρ1, rs1, s1, r1, e1, fun σ' rs' _ => q1 σ' L1 H1 .refl s1 rs'⟩
/-- a, b = e1, e2 with local names -/
def sPar (i j : Nat) (fa : SA) : SS := fun ρ μ => (fa ρ μ).thn ρ fun ds μ1 => match ds with
  | [d, e] => .nx ((ρ.set i (some d)).set j (some e)) μ1
  | _ => .bad
theorem vs_par {W : WX} {i j : Nat} {x y : Str} {a b : Expr} {fa : SA} {px py pt : Pos} {kt k2 pt2} (hc : X.calm = true) (hN : X.N.Nodup) (hi : X.N[i]? = some x) (hj : X.N[j]? = some y) (hij : i ≠ j)
    (hx : X.env.scope.names.lookup x = some .local) (hy : X.env.scope.names.lookup y = some .local) (ha : VA P W X [a, b] fa)
    (hw : swappedStores [.Tuple [.Name x px, .Name y py] kt pt] (.Tuple [a, b] k2 pt2) X.env = pure (some [x, y]))
    (hs : swapsWithSole [.Tuple [.Name x px, .Name y py] kt pt] (.Tuple [a, b] k2 pt2) pos.line X.env = pure false := by rfl) :
    VS P W X (.Assign [.Tuple [.Name x px, .Name y py] kt pt] (.Tuple [a, b] k2 pt2) pos) (sPar i j fa) :=
  (ps_par hc hN hi hj hij hx hy ha hw hs).imp3 fun D σ H ⟨L, ρ, μ, rs, s, q⟩ => tVA.firstS rs s q fun ds μ1 vs L1 H1 x1 s1 r1 rs1 q1 => by
    match ds, r1, q1 with
    | [], _, q1 => exact q1.elim
    | [_], _, q1 => exact q1.elim
    | _ :: _ :: _ :: _, _, q1 => exact q1.elim
    | [d, e], r1, q1 =>
      obtain ⟨v, w, rfl, rv, rw⟩ := r1.two
      exact ⟨v, w, rfl, q1 _ L1 H1 .refl s1 ((rs1.set rv).set rw)⟩
/-- name op= e -/
def sAug (i : Nat) (g : D → D → Sto → R D) (f : SE) : SS := fun ρ μ => match ρ[i]? with
  | some (some a) => (f ρ μ).thn ρ fun b μ1 => (g a b μ1).thn ρ fun d μ2 => .nx (ρ.set i (some d)) μ2
  | _ => .bad
end
/-! ### what is walked -/
/-- J gives the data ds, as long as gd -/
def Gives (P : Pm) (J : It) (ds : List D) (gd : Sto → Bool) (L0 : Lv) (H0 : Hp) : Prop := ∀ (L : Lv) (H : Hp) (μ : Sto) (i : Nat), Ext0 L0 H0 L H → St3 P H L μ → gd μ = true →
  (∀ d, ds[i]? = some d → J.go i H ∧ ∀ x H', J.yld i H x H' → (∀ b o, H b = some o → H' b = some o) ∧ Rep P H' L x d) ∧ (ds[i]? = none → J.stop i H)
theorem Gives.ext {P : Pm} {J : It} {ds : List D} {gd : Sto → Bool} {L0 L1 : Lv} {H0 H1 : Hp} (x : Ext0 L0 H0 L1 H1) (g : Gives P J ds gd L0 H0) : Gives P J ds gd L1 H1 := fun L H μ i y => g L H μ i (x.trans y)
abbrev SI := Env → Sto → R (List D × (Sto → Bool))
def tVI (P : Pm) (W : WX) (f : SI) : TI := fun σ H R => ∃ L ρ μ, RelS P H L σ ρ ∧ St3 P H L μ ∧ Post P (WE W σ) L H (fun it L' H' => ∀ J, Gives P J it.1 it.2 L' H' → R J H') (f ρ μ)
abbrev VI (P : Pm) (W : WX) (X : Cx) (tg iter : Expr) (f : SI) : Prop := PI X tg iter (tVI P W f)
theorem _root_.L2.PI.imp3 {X : Cx} {tg e : Expr} {t t' : TI} (h : PI X tg e t) (i : ∀ σ H R, t' σ H R → t σ H R) : PI X tg e t' := ⟨fun pins s σ H R I q => h.run pins s σ H R I (i σ H R q)⟩
mutual
def D.beq : D → D → Bool
  | .non, .non => true
  | .bl a, .bl b => a == b
  | .int a, .int b => a == b
  | .str a, .str b => decide (a = b)
  | .lst a, .lst b => D.beqL a b
  | .tup a, .tup b => D.beqL a b
  | .dct k a, .dct l b => decide (k = l) && D.beqL a b
  | .obj c k a, .obj d l b => decide (c = d) && (decide (k = l) && D.beqL a b)
  | .cell a, .cell b => a == b
  | .scr a, .scr b => decide (a = b)
  | .key a, .key b => decide (a = b)
  | _, _ => false
def D.beqL : List D → List D → Bool
  | [], [] => true
  | a :: r, b :: s => D.beq a b && D.beqL r s
  | _, _ => false
end
mutual
theorem D.beq_eq : ∀ {a b : D}, D.beq a b = true → a = b
  | .non, b, h => by cases b <;> simp [D.beq] at h ⊢
  | .bl _, b, h => by cases b <;> simp [D.beq] at h ⊢; exact h
  | .int _, b, h => by cases b <;> simp [D.beq] at h ⊢; exact h
  | .str _, b, h => by cases b <;> simp [D.beq] at h ⊢; exact h
  | .lst _, b, h => by cases b <;> simp [D.beq] at h ⊢; exact D.beqL_eq h
  | .tup _, b, h => by cases b <;> simp [D.beq] at h ⊢; exact D.beqL_eq h
  | .dct _ _, b, h => by cases b <;> simp [D.beq] at h ⊢; exact ⟨h.1, D.beqL_eq h.2⟩
  | .obj _ _ _, b, h => by cases b <;> simp [D.beq] at h ⊢; exact ⟨h.1, h.2.1, D.beqL_eq h.2.2⟩
  | .cell _, b, h => by cases b <;> simp [D.beq] at h ⊢; exact h
  | .scr _, b, h => by cases b <;> simp [D.beq] at h ⊢; exact h
  | .key _, b, h => by cases b <;> simp [D.beq] at h ⊢; exact h
theorem D.beqL_eq : ∀ {a b : List D}, D.beqL a b = true → a = b
  | [], b, h => by cases b <;> simp [D.beqL] at h ⊢
  | x :: r, b, h => by
    cases b with
    | nil => simp [D.beqL] at h
    | cons y s => simp [D.beqL] at h; rw [D.beq_eq h.1, D.beqL_eq h.2]
end
mutual
theorem D.beq_self : ∀ a : D, D.beq a a = true
  | .non => by simp [D.beq]
  | .bl _ => by simp [D.beq]
  | .int _ => by simp [D.beq]
  | .str _ => by simp [D.beq]
  | .lst a => by simp [D.beq, D.beqL_self a]
  | .tup a => by simp [D.beq, D.beqL_self a]
  | .dct _ a => by simp [D.beq, D.beqL_self a]
  | .obj _ _ a => by simp [D.beq, D.beqL_self a]
  | .cell _ => by simp [D.beq]
  | .scr _ => by simp [D.beq]
  | .key _ => by simp [D.beq]
theorem D.beqL_self : ∀ a : List D, D.beqL a a = true
  | [] => by simp [D.beqL]
  | x :: r => by simp [D.beqL, D.beq_self x, D.beqL_self r]
end
/-- a list's items, and what must stay so while it is walked -/
def walkD (μ : Sto) : D → Option (List D × (Sto → Bool))
  | .lst ds => some (ds, fun _ => true)
  | .tup ds => some (ds, fun _ => true)
  | .scr ns => some (ns.map D.int, fun _ => true)
  | .str z => some (z.cps.toList.map fun c => .str ⟨#[c]⟩, fun _ => true)
  | .cell k => (match μ[k]? with
    | some (.lst ds) => some (ds, fun μ' => match μ'[k]? with
      | some (.lst es) => D.beqL es ds
      | _ => false)
    | _ => none)
  | _ => none
def iAnyD (f : SE) : SI := fun ρ μ => (f ρ μ).bind fun d μ1 => match walkD μ1 d with
  | some it => .ok it μ1
  | none => .bad
def iAny (K : PySem.W.Frag) (tl : TE) : TI := fun σ H R => tl σ H fun x H1 => (∃ a, x = .ref a ∧ (∃ xs, SqL K H1 a xs) ∧ R (Itl K a) H1) ∨ (∃ a, x = .ref a ∧ (∃ xs, SqT K H1 a xs) ∧ R (Itt K a) H1) ∨ ∃ z, x = .str z ∧ R (Its z) H1
theorem pi_any {X : Cx} {tg l : Expr} {tl : TE} (hl : PE X l tl) : PI X tg l (iAny X.K tl) := ⟨fun pins s σ H R I asks => thn (hl.run pins s σ H _ I asks) fun v s1 got => by
  obtain ⟨x, H1, J, rx, kinds⟩ := got
  rcases kinds with ⟨a, ex, ⟨_, sq⟩, goes⟩ | ⟨a, ex, ⟨_, sq⟩, goes⟩ | ⟨z, ex, goes⟩ <;> subst ex
  · obtain ⟨_, _, isL, _⟩ := J.list sq
    cases rx
    exact wpAny_pyIter_list isL.isList (pi_one (tk := s1.toks) J _ (turn_list a _) ⟨_, Heap.get?_push_size _ rfl, rfl, rfl⟩ goes)
  · obtain ⟨its, _, isT, _⟩ := J.tuple sq
    cases rx
    exact wpAny_pyIter_tuple (show s1.heap.IsTuple a its.toArray from isT) (pi_one (tk := s1.toks) J _ (turn_tuple a _) ⟨_, Heap.get?_push_size _ rfl, rfl, rfl⟩ goes)
  · rcases rx with ⟨tok, rfl⟩
    rcases Bool.eq_false_or_eq_true (z.cps.all (· < 128)) with plain | wide
    · exact wpAny_pyIter_ascii plain (pi_one (tk := s1.toks) J _ (turn_str _ z tok "str_ascii_iterator" (.inl rfl)) ⟨_, Heap.get?_push_size _ rfl, rfl, rfl⟩ goes)
    · exact wpAny_pyIter_wide wide (pi_one (tk := s1.toks) J _ (turn_str _ z tok "str_iterator" (.inr rfl)) ⟨_, Heap.get?_push_size _ rfl, rfl, rfl⟩ goes)⟩
/-- a source's datum, read at each turn -/
theorem walk_gives {P : Pm} {L0 : Lv} {H0 : Hp} {μ0 : Sto} {v : V} {d : D} {it : List D × (Sto → Bool)} (s0 : St3 P H0 L0 μ0) (r : Rep P H0 L0 v d) (e : walkD μ0 d = some it) :
    (∃ a, v = .ref a ∧ (∃ xs, SqL P.K H0 a xs) ∧ Gives P (Itl P.K a) it.1 it.2 L0 H0) ∨ (∃ a, v = .ref a ∧ (∃ xs, SqT P.K H0 a xs) ∧ Gives P (Itt P.K a) it.1 it.2 L0 H0) ∨ ∃ z, v = .str z ∧ Gives P (Its z) it.1 it.2 L0 H0 := by
  have lists : ∀ {a : Addr} {ds : List D} {gd : Sto → Bool}, (∀ L H μ, Ext0 L0 H0 L H → St3 P H L μ → gd μ = true → ∃ vs, SqL P.K H a vs ∧ Reps P H L vs ds) → Gives P (Itl P.K a) ds gd L0 H0 := fun {a ds gd} h L H μ i x s g => by
    obtain ⟨vs, hq, rq⟩ := h L H μ x s g
    refine ⟨fun d hd => ?_, fun hn => ⟨vs, hq, ?_⟩⟩
    · obtain ⟨w, hw, rw⟩ := rq.get hd
      refine ⟨⟨vs, w, hq, hw⟩, fun y H' hy => ?_⟩
      obtain ⟨e1, e2⟩ := hy
      subst e1
      have e3 := e2 vs hq
      rw [hw] at e3; cases e3
      exact ⟨fun _ _ z => z, rw⟩
    · rw [rq.length]; exact List.getElem?_eq_none_iff.mp hn
  have tups : ∀ {a : Addr} {ds : List D} {gd : Sto → Bool}, (∀ L H μ, Ext0 L0 H0 L H → St3 P H L μ → gd μ = true → ∃ vs, SqT P.K H a vs ∧ Reps P H L vs ds) → Gives P (Itt P.K a) ds gd L0 H0 := fun {a ds gd} h L H μ i x s g => by
    obtain ⟨vs, hq, rq⟩ := h L H μ x s g
    refine ⟨fun d hd => ?_, fun hn => ⟨vs, hq, ?_⟩⟩
    · obtain ⟨w, hw, rw⟩ := rq.get hd
      refine ⟨⟨vs, w, hq, hw⟩, fun y H' hy => ?_⟩
      obtain ⟨e1, e2⟩ := hy
      subst e1
      have e3 := e2 vs hq
      rw [hw] at e3; cases e3
      exact ⟨fun _ _ z => z, rw⟩
    · rw [rq.length]; exact List.getElem?_eq_none_iff.mp hn
  cases d with
  | lst ds =>
    cases e
    cases r with
    | @lst a vs _ h n rr => exact .inl ⟨a, rfl, ⟨vs, .of h⟩, lists fun L H μ x s g => ⟨vs, .of (x.keep _ _ h (fun ps z => nomatch z) n), rr.ext0 x⟩⟩
  | tup ds =>
    cases e
    cases r with
    | @tup a vs _ h rr => exact .inr (.inl ⟨a, rfl, ⟨vs, h.sq⟩, tups fun L H μ x s g => ⟨vs, (h.ext0 x).sq, rr.ext0 x⟩⟩)
  | key k => cases e
  | scr ns =>
    cases e
    cases r with
    | @scr a _ h => exact .inl ⟨a, rfl, ⟨_, h.sq⟩, lists fun L H μ x s g => ⟨_, (h.ext0 x).sq, Reps.ints ns⟩⟩
  | str z =>
    cases e
    cases r
    refine .inr (.inr ⟨z, rfl, fun L H μ i x s g => ⟨fun d hd => ?_, fun hn => ?_⟩⟩)
    · have hd : (z.cps.toList.map fun c => D.str ⟨#[c]⟩)[i]? = some d := hd
      rw [List.getElem?_map] at hd
      cases e2 : z.cps.toList[i]? with
      | none => rw [e2] at hd; cases hd
      | some c =>
        rw [e2] at hd
        cases hd
        have e3 : z.cps[i]? = some c := by rw [← Array.getElem?_toList]; exact e2
        refine ⟨(Array.getElem?_eq_some_iff.mp e3).1, fun y H' hy => ?_⟩
        obtain ⟨e4, c', e5, e6⟩ := hy
        subst e4 e6
        rw [e3] at e5; cases e5
        exact ⟨fun _ _ z => z, .str _⟩
    · have hn : (z.cps.toList.map fun c => D.str ⟨#[c]⟩)[i]? = none := hn
      have := List.getElem?_eq_none_iff.mp hn
      show z.cps.size ≤ i
      simpa using this
  | cell k =>
    have e : (match μ0[k]? with
      | some (.lst ds) => some (ds, fun μ' : Sto => match μ'[k]? with
        | some (.lst es) => D.beqL es ds
        | _ => false)
      | _ => none) = some it := e
    cases em : μ0[k]? with
    | none => rw [em] at e; cases e
    | some m =>
      rw [em] at e
      cases m with
      | dct _ _ => cases e
      | ins _ _ _ => cases e
      | oth _ _ _ => cases e
      | lst ds =>
        cases e
        cases r with
        | @cell a _ hk =>
          have q0 := s0.at_ k a _ hk em
          cases q0 with
          | @lst vs0 _ h0 r0 =>
            refine .inl ⟨a, rfl, ⟨vs0, .of h0⟩, lists fun L H μ x s g => ?_⟩
            have g : (match μ[k]? with
              | some (.lst es) => D.beqL es ds
              | _ => false) = true := g
            cases em1 : μ[k]? with
            | none => rw [em1] at g; cases g
            | some m1 =>
              rw [em1] at g
              cases m1 with
              | dct _ _ => cases g
              | ins _ _ _ => cases g
              | oth _ _ _ => cases g
              | lst es =>
                have ee := D.beqL_eq g
                subst ee
                have q1 := s.at_ k a _ (x.pre k a hk) em1
                cases q1 with
                | @lst vs1 _ h1 r1 => exact ⟨vs1, .of h1, r1⟩
  | non => cases e
  | bl _ => cases e
  | int _ => cases e
  | dct _ _ => cases e
  | obj _ _ _ => cases e
end L3

namespace L3
open PySem PySem.Spec PyProof.Rows L2
section
variable {P : Pm} {W : WX} {X : Cx} {tg : Expr} {fe : SE} {fa : SA} {pos p : Pos}
theorem vi_any {l : Expr} (hK : P.K = X.K) (h : VE P W X l fe) : VI P W X tg l (iAnyD fe) :=
  (pi_any h).imp3 fun σ H R ⟨L, ρ, μ, rs, s, q⟩ => by
    refine tV.first rs s q fun d μ1 v L1 H1 x1 s1 r1 rs1 q1 => ?_
    cases e : walkD μ1 d with
    | none => rw [e] at q1; exact q1.elim
    | some it =>
      rw [e] at q1
      have q2 := q1 L1 H1 .refl s1
      rw [← hK]
      rcases walk_gives s1 r1 e with ⟨a, e1, h1, g⟩ | ⟨a, e1, h1, g⟩ | ⟨z, e1, g⟩
      · exact .inl ⟨a, e1, h1, q2 _ g⟩
      · exact .inr (.inl ⟨a, e1, h1, q2 _ g⟩)
      · exact .inr (.inr ⟨z, e1, q2 _ g⟩)
/-- range(n), range(a, b) -/
def rngD (lo : Int) (n : Nat) : List D := (List.range n).map fun i => .int (lo + (i : Nat))
def iRange1 (fa : SA) : SI := fun ρ μ => (fa ρ μ).bind fun ds μ1 => match ds with
  | [.int j] => if -(2 ^ 62) ≤ j ∧ j < 2 ^ 62 then .ok (rngD 0 j.toNat, fun _ => true) μ1 else .bad
  | _ => .bad
def iRange2 (fa : SA) : SI := fun ρ μ => (fa ρ μ).bind fun ds μ1 => match ds with
  | [.int i, .int j] => if -(2 ^ 62) ≤ i ∧ i < 2 ^ 62 ∧ -(2 ^ 62) ≤ j ∧ j < 2 ^ 62 then .ok (rngD i (j - i).toNat, fun _ => true) μ1 else .bad
  | _ => .bad
theorem gives_rng {L0 : Lv} {H0 : Hp} (lo : Int) (n : Nat) : Gives P (Itr lo n) (rngD lo n) (fun _ => true) L0 H0 := fun L H μ i x s g => by
  refine ⟨fun d hd => ?_, fun hn => ?_⟩
  · unfold rngD at hd
    rw [List.getElem?_map] at hd
    cases e : (List.range n)[i]? with
    | none => rw [e] at hd; cases hd
    | some k =>
      rw [e] at hd
      cases hd
      obtain ⟨h1, h2⟩ := List.getElem?_eq_some_iff.mp e
      have h3 : i < n := by simpa using h1
      have h4 : k = i := by simp at h2; omega
      subst h4
      refine ⟨h3, fun y H' hy => ?_⟩
      obtain ⟨e1, e2⟩ := hy
      subst e1 e2
      exact ⟨fun _ _ z => z, .int _⟩
  · have := List.getElem?_eq_none_iff.mp hn
    show n ≤ i
    simpa [rngD] using this
theorem vi_range1 {a : Expr} (hg : Gl X "range") (hm : X.mg "range" = none) (ha : VA P W X [a] fa) (hs : starEach [a] X.env = [(false, eval a X.env)] := by rfl) : VI P W X tg (.Call (.Name "range" p) [a] [] pos) (iRange1 fa) :=
  (pi_range1 hg hm ha hs).imp3 fun σ H R ⟨L, ρ, μ, rs, s, q⟩ => by
    refine tVA.first rs s q fun ds μ1 vs L1 H1 x1 s1 r1 rs1 q1 => ?_
    match ds, r1, q1 with
    | [], _, q1 => exact q1.elim
    | _ :: _ :: _, r1, q1 => exact (by cases r1 with | cons h t => cases h <;> exact q1.elim)
    | [d], r1, q1 =>
      obtain ⟨v, rfl, rv⟩ := r1.one
      cases rv with
      | int j =>
        have q1 : Post P (WE W σ) L1 H1 (fun it L' H' => ∀ J, Gives P J it.1 it.2 L' H' → R J H') (if -(2 ^ 62) ≤ j ∧ j < 2 ^ 62 then .ok (rngD 0 j.toNat, fun _ => true) μ1 else .bad) := q1
        by_cases c : -(2 ^ 62) ≤ j ∧ j < 2 ^ 62
        · rw [if_pos c] at q1
          exact ⟨j, rfl, c.1, c.2, q1 L1 H1 .refl s1 _ (gives_rng _ _)⟩
        · rw [if_neg c] at q1; exact q1.elim
      | _ => exact q1.elim
/-- a list that is read at each turn: its items, the guard -/
def walkL (μ : Sto) : D → Option (List D × (Sto → Bool))
  | .lst ds => some (ds, fun _ => true)
  | .scr ns => some (ns.map D.int, fun _ => true)
  | .cell k => (match μ[k]? with
    | some (.lst ds) => some (ds, fun μ' => match μ'[k]? with
      | some (.lst es) => D.beqL es ds
      | _ => false)
    | _ => none)
  | _ => none
/-- enumerate(xs) -/
def enumD : Nat → List D → List D
  | _, [] => []
  | i, d :: r => .tup [.int i, d] :: enumD (i + 1) r
def iEnumD (fa : SA) : SI := fun ρ μ => (fa ρ μ).bind fun ds μ1 => match ds with
  | [d] => (match walkL μ1 d with
    | some it => .ok (enumD 0 it.1, it.2) μ1
    | none => .bad)
  | _ => .bad
/-- zip(xs, ys) -/
def zipD : List D → List D → List D
  | a :: r, b :: s => .tup [a, b] :: zipD r s
  | _, _ => []
def iZipD (fa : SA) : SI := fun ρ μ => (fa ρ μ).bind fun ds μ1 => match ds with
  | [d, e] => (match walkL μ1 d, walkL μ1 e with
    | some it, some iu => .ok (zipD it.1 iu.1, fun μ' => it.2 μ' && iu.2 μ') μ1
    | _, _ => .bad)
  | _ => .bad
end
/-! ### for -/
def forS (gd : Sto → Bool) (g : SG) (b : SS) : List D → SS
  | [], ρ, μ => if gd μ = true then .nx ρ μ else .bad
  | d :: ds, ρ, μ => if gd μ = true then (match g d ρ μ with
    | some ρ1 => (match b ρ1 μ with
      | .nx ρ2 μ2 => forS gd g b ds ρ2 μ2
      | .ct ρ2 μ2 => forS gd g b ds ρ2 μ2
      | .bk ρ2 μ2 => .nx ρ2 μ2
      | .rt d μ2 => .rt d μ2
      | .exc c ns vs ρ2 μ2 => .exc c ns vs ρ2 μ2
      | .bad => .bad)
    | none => .bad) else .bad
def sFor (fi : SI) (g : SG) (b : SS) : SS := fun ρ μ => (fi ρ μ).thn ρ fun it μ1 => forS it.2 g b it.1 ρ μ1
theorem drop_some {α : Type} {l : List α} {i : Nat} {x : α} (h : l[i]? = some x) : l.drop i = x :: l.drop (i + 1) := by
  obtain ⟨h1, h2⟩ := List.getElem?_eq_some_iff.mp h
  rw [List.drop_eq_getElem_cons h1, h2]
theorem drop_none {α : Type} {l : List α} {i : Nat} (h : l[i]? = none) : l.drop i = [] := List.drop_eq_nil_of_le (List.getElem?_eq_none_iff.mp h)
section
variable {P : Pm} {W : WX} {X : Cx} {tg iter : Expr} {body : List Stmt} {fi : SI} {sl : List Nat} {g : SG} {b : SS} {pos : Pos}
theorem vs_for (hp : PassesOwn (model X.prog X.w) X.A X.env X.xe) (hc : X.calm = true) (hi : VI P W X tg iter fi) (hg : VG P X tg sl g) (hb : VSs P W X body b)
    (hs : ∀ x, foldedSetIterable iter X.env x = pure x := by intro _; rfl) : VS P W X (.For tg iter body [] pos) (sFor fi g b) :=
  (ps_for hp hc hi hg hb hs).imp3 fun D σ H ⟨L, ρ, μ, rs, s, q⟩ => by
    refine ⟨L, ρ, μ, rs, s, ?_⟩
    unfold sFor at q
    cases e : fi ρ μ with
    | exc c ns vs μ1 => rw [e] at q; exact fun C dx L' H' hc x s f => q σ C dx L' H' hc x s (rs.ext x) f
    | bad => rw [e] at q; exact q
    | ok it μ1 =>
      rw [e] at q
      intro L1 H1 x1 s1 J gv
      have q1 : PostS P W D L1 H1 (forS it.2 g b it.1 ρ μ1) := PostS.ext x1 q
      refine ⟨fun i m σ H => ∃ L ρ μ, RelS P H L σ ρ ∧ St3 P H L μ ∧ PostS P W D L H (forS it.2 g b (it.1.drop i) ρ μ) ∧ Gives P J it.1 it.2 L H ∧ m = it.1.length - i,
        ⟨_, L1, ρ, μ1, rs.ext x1, s1, q1, gv, rfl⟩, ?_⟩
      rintro i m σ2 H2 ⟨L2, ρ2, μ2, rs2, s2, q2, gv2, rfl⟩
      cases e2 : it.1[i]? with
      | none =>
        rw [drop_none e2] at q2
        unfold forS at q2
        by_cases c : it.2 μ2 = true
        · rw [if_pos c] at q2
          exact .inl ⟨(gv2 L2 H2 μ2 i .refl s2 c).2 e2, q2 σ2 L2 H2 .refl s2 rs2⟩
        · rw [if_neg c] at q2; exact q2.elim
      | some d =>
        rw [drop_some e2] at q2
        unfold forS at q2
        by_cases c : it.2 μ2 = true
        · rw [if_pos c] at q2
          obtain ⟨hgo, hy⟩ := (gv2 L2 H2 μ2 i .refl s2 c).1 d e2
          have hlt : i < it.1.length := (List.getElem?_eq_some_iff.mp e2).1
          refine .inr ⟨hgo, fun σ' H' => ∃ L ρ μ, RelS P H' L σ' ρ ∧ St3 P H' L μ ∧ PostS P W D L H' (forS it.2 g b (it.1.drop (i + 1)) ρ μ) ∧ Gives P J it.1 it.2 L H',
            fun σ' H' ⟨L, ρ, μ, a1, a2, a3, a4⟩ => ⟨it.1.length - (i + 1), by omega, L, ρ, μ, a1, a2, a3, a4, rfl⟩, fun x H' y => ?_⟩
          obtain ⟨gr, rx⟩ := hy x H' y
          have x3 : Ext P L2 H2 L2 H' := Ext.grow s2 gr
          cases e3 : g d ρ2 μ2 with
          | none => rw [e3] at q2; exact q2.elim
          | some ρ3 =>
            rw [e3] at q2
            refine ⟨L2, ρ2, μ2, d, ρ3, rs2.ext x3, s2.grow gr, rx, e3, fun σ3 rs3 _ => ?_⟩
            refine ⟨L2, ρ3, μ2, rs3, s2.grow gr, ?_⟩
            have q3 := PostS.ext x3 q2
            dsimp only at q3
            cases e4 : b ρ3 μ2 with
            | nx ρ4 μ4 => rw [e4] at q3; exact fun σ' L' H4 x4 s4 rs4 => ⟨L', ρ4, μ4, rs4, s4, PostS.ext x4 q3, (gv2.ext x3.toExt0).ext x4.toExt0⟩
            | ct ρ4 μ4 => rw [e4] at q3; exact fun σ' L' H4 x4 s4 rs4 => ⟨L', ρ4, μ4, rs4, s4, PostS.ext x4 q3, (gv2.ext x3.toExt0).ext x4.toExt0⟩
            | bk ρ4 μ4 => rw [e4] at q3; exact q3
            | rt d μ4 => rw [e4] at q3; exact q3
            | exc c ns vs ρ4 μ4 => rw [e4] at q3; exact q3
            | bad => rw [e4] at q3; exact q3
        · rw [if_neg c] at q2; exact q2.elim
end
/-! ### while -/
def whileN (t : ST) (b : SS) : Nat → SS
  | 0, _, _ => .bad
  | n + 1, ρ, μ => match t ρ μ with
    | .ok c μ1 => if c = true then (match b ρ μ1 with
      | .nx ρ2 μ2 => whileN t b n ρ2 μ2
      | .ct ρ2 μ2 => whileN t b n ρ2 μ2
      | .bk ρ2 μ2 => .nx ρ2 μ2
      | .rt d μ2 => .rt d μ2
      | .exc c ns vs ρ2 μ2 => .exc c ns vs ρ2 μ2
      | .bad => .bad) else .nx ρ μ1
    | .exc c ns vs μ1 => .exc c ns vs ρ μ1
    | .bad => .bad
theorem whileN_more {t : ST} {b : SS} : ∀ {n : Nat} {ρ : Env} {μ : Sto}, whileN t b n ρ μ ≠ .bad → whileN t b (n + 1) ρ μ = whileN t b n ρ μ
  | 0, _, _, h => absurd rfl h
  | n + 1, ρ, μ, h => by
    unfold whileN at h ⊢
    cases e : t ρ μ with
    | exc c ns vs μ1 => rfl
    | bad => rfl
    | ok c μ1 =>
      rw [e] at h
      have h : (if c = true then (match b ρ μ1 with
        | .nx ρ2 μ2 => whileN t b n ρ2 μ2
        | .ct ρ2 μ2 => whileN t b n ρ2 μ2
        | .bk ρ2 μ2 => .nx ρ2 μ2
        | .rt d μ2 => .rt d μ2
        | .exc c ns vs ρ2 μ2 => .exc c ns vs ρ2 μ2
        | .bad => .bad) else .nx ρ μ1) ≠ RS.bad := h
      cases c with
      | false => rfl
      | true =>
        rw [if_pos rfl] at h
        show (if true = true then _ else _) = (if true = true then _ else _)
        rw [if_pos rfl, if_pos rfl]
        cases e2 : b ρ μ1 with
        | nx ρ2 μ2 => rw [e2] at h; exact whileN_more h
        | ct ρ2 μ2 => rw [e2] at h; exact whileN_more h
        | _ => rfl
theorem whileN_le {t : ST} {b : SS} {n m : Nat} {ρ : Env} {μ : Sto} (h : whileN t b n ρ μ ≠ .bad) (hl : n ≤ m) : whileN t b m ρ μ = whileN t b n ρ μ := by
  induction hl with
  | refl => rfl
  | step _ ih => rw [whileN_more (by rw [ih]; exact h), ih]
open Classical in
/-- however many turns it takes -/
noncomputable def sWhile (t : ST) (b : SS) : SS := fun ρ μ => if h : ∃ n, whileN t b n ρ μ ≠ .bad then whileN t b (Classical.choose h) ρ μ else .bad
theorem sWhile_eq {t : ST} {b : SS} {ρ : Env} {μ : Sto} (n : Nat) {r : RS} (h : whileN t b n ρ μ = r) (hr : r ≠ .bad) : sWhile t b ρ μ = r := by
  have hx : ∃ n, whileN t b n ρ μ ≠ .bad := ⟨n, by rw [h]; exact hr⟩
  unfold sWhile
  rw [dif_pos hx]
  have h1 := Classical.choose_spec hx
  have h2 : whileN t b n ρ μ ≠ .bad := by rw [h]; exact hr
  rcases Nat.le_total (Classical.choose hx) n with l | l
  · rw [← whileN_le h1 l, h]
  · rw [whileN_le h2 l, h]
theorem sWhile_at {t : ST} {b : SS} {ρ : Env} {μ : Sto} (h : sWhile t b ρ μ ≠ .bad) : ∃ n, whileN t b n ρ μ = sWhile t b ρ μ := by
  unfold sWhile at h ⊢
  by_cases hx : ∃ n, whileN t b n ρ μ ≠ .bad
  · rw [dif_pos hx]; exact ⟨_, rfl⟩
  · rw [dif_neg hx] at h; exact absurd rfl h
section
variable {P : Pm} {W : WX} {X : Cx} {c : Expr} {body : List Stmt} {t : ST} {b : SS} {pos : Pos}
theorem vs_while (hp : PassesOwn (model X.prog X.w) X.A X.env X.xe) (hc : VT P W X c t) (hb : VSs P W X body b) : VS P W X (.While c body [] pos) (sWhile t b) :=
  (ps_while hp hc hb).imp3 fun D σ H ⟨L, ρ, μ, rs, s, q⟩ => by
    have nb : sWhile t b ρ μ ≠ .bad := fun z => by rw [z] at q; exact q
    obtain ⟨n0, e0⟩ := sWhile_at nb
    rw [← e0] at q
    refine ⟨fun m σ H => ∃ L ρ μ, RelS P H L σ ρ ∧ St3 P H L μ ∧ PostS P W D L H (whileN t b m ρ μ), ⟨n0, L, ρ, μ, rs, s, q⟩, ?_⟩
    rintro m σ2 H2 ⟨L2, ρ2, μ2, rs2, s2, q2⟩
    cases m with
    | zero => exact q2.elim
    | succ m =>
      unfold whileN at q2
      refine ⟨L2, ρ2, μ2, rs2, s2, ?_⟩
      cases e : t ρ2 μ2 with
      | exc c ns vs μ1 => rw [e] at q2; exact fun C dx L' H' hc x s f => q2 σ2 C dx L' H' hc x s (rs2.ext x) f
      | bad => rw [e] at q2; exact q2
      | ok c μ3 =>
        rw [e] at q2
        intro L3 H3 x3 s3
        cases c with
        | false =>
          have q2 : PostS P W D L2 H2 (.nx ρ2 μ3) := q2
          exact q2 σ2 L3 H3 x3 s3 (rs2.ext x3)
        | true =>
          have q3 := PostS.ext x3 q2
          refine ⟨fun σ' H' => ∃ L ρ μ, RelS P H' L σ' ρ ∧ St3 P H' L μ ∧ PostS P W D L H' (whileN t b m ρ μ), fun σ' H' z => ⟨m, Nat.lt_succ_self m, z⟩, ?_⟩
          refine ⟨L3, ρ2, μ3, rs2.ext x3, s3, ?_⟩
          cases e4 : b ρ2 μ3 with
          | nx ρ4 μ4 => simp only [if_pos, e4] at q3; exact fun σ' L' H4 x4 s4 rs4 => ⟨L', ρ4, μ4, rs4, s4, PostS.ext x4 q3⟩
          | ct ρ4 μ4 => simp only [if_pos, e4] at q3; exact fun σ' L' H4 x4 s4 rs4 => ⟨L', ρ4, μ4, rs4, s4, PostS.ext x4 q3⟩
          | bk ρ4 μ4 => simp only [if_pos, e4] at q3; exact q3
          | rt d μ4 => simp only [if_pos, e4] at q3; exact q3
          | exc c ns vs ρ4 μ4 => simp only [if_pos, e4] at q3; exact q3
          | bad => simp only [if_pos, e4] at q3; exact q3
end
end L3

namespace L3
open PySem PySem.Spec PyProof.Rows L2
/-! ### comprehensions -/
def wipeE (ρ : Env) : List Nat → Env
  | [] => ρ
  | v :: vs => (wipeE ρ vs).set v none
theorem wipe_get {σ : L2.St} {i : Nat} : ∀ {vs : List Nat}, i ∉ vs → (wipe σ vs)[i]? = σ[i]?
  | [], _ => rfl
  | v :: vs, h => by
    unfold wipe
    rw [List.getElem?_set_ne (fun z => h (by rw [z]; exact List.mem_cons_self)), wipe_get fun z => h (List.mem_cons_of_mem _ z)]
theorem wipeE_some {ρ : Env} {i : Nat} {d : D} : ∀ {vs : List Nat}, (wipeE ρ vs)[i]? = some (some d) → ρ[i]? = some (some d) ∧ i ∉ vs
  | [], h => ⟨h, by simp⟩
  | v :: vs, h => by
    unfold wipeE at h
    by_cases e : v = i
    · subst e
      by_cases hl : v < (wipeE ρ vs).length
      · rw [List.getElem?_set_self hl] at h; cases h
      · rw [List.getElem?_eq_none (by simpa using hl)] at h; cases h
    · rw [List.getElem?_set_ne e] at h
      obtain ⟨h1, h2⟩ := wipeE_some h
      exact ⟨h1, fun z => (List.mem_cons.mp z).elim (fun z => e z.symm) h2⟩
theorem wipeE_length (ρ : Env) : ∀ vs : List Nat, (wipeE ρ vs).length = ρ.length
  | [] => rfl
  | v :: vs => by unfold wipeE; rw [List.length_set, wipeE_length ρ vs]
theorem wipe_wipe (σ : L2.St) (vs : List Nat) : wipe (wipe σ vs) vs = wipe σ vs := by
  have set_in : ∀ {ws : List Nat} {v : Nat}, v ∈ ws → (wipe σ ws).set v none = wipe σ ws := by
    intro ws v h
    apply List.ext_getElem?
    intro i
    by_cases e : v = i
    · subst e
      have key : ∀ {ws : List Nat}, v ∈ ws → (wipe σ ws)[v]? = (wipe σ ws)[v]?.map fun _ => none := by
        intro ws
        induction ws with
        | nil => intro h; cases h
        | cons w ws ih =>
          intro h
          unfold wipe
          by_cases ew : w = v
          · subst ew
            by_cases hl : w < (wipe σ ws).length
            · rw [List.getElem?_set_self hl]; rfl
            · rw [List.getElem?_eq_none (by simpa using hl)]; rfl
          · rw [List.getElem?_set_ne ew]
            exact ih ((List.mem_cons.mp h).elim (fun z => absurd z.symm ew) id)
      by_cases hl : v < (wipe σ ws).length
      · rw [List.getElem?_set_self hl, key h, List.getElem?_eq_getElem hl]; rfl
      · rw [List.getElem?_eq_none (by simpa using hl), List.getElem?_eq_none (by simpa using hl)]
    · rw [List.getElem?_set_ne e]
  have gen : ∀ ws : List Nat, (∀ w ∈ ws, w ∈ vs) → wipe (wipe σ vs) ws = wipe σ vs := by
    intro ws
    induction ws with
    | nil => intro _; rfl
    | cons w ws ih =>
      intro h
      show (L2.wipe (L2.wipe σ vs) ws).set w none = _
      rw [ih fun x hx => h x (List.mem_cons_of_mem _ hx)]
      exact set_in (h w List.mem_cons_self)
  exact gen vs fun _ h => h
theorem RelS.wipe {P : Pm} {H : Hp} {L : Lv} {σ : L2.St} {ρ : Env} (r : RelS P H L σ ρ) (vs : List Nat) : RelS P H L (L2.wipe σ vs) (wipeE ρ vs) := by
  refine ⟨by rw [wipe_length, wipeE_length]; exact r.len, fun i d h => ?_⟩
  obtain ⟨h1, h2⟩ := wipeE_some h
  obtain ⟨v, h3, h4⟩ := r.at_ i d h1
  exact ⟨v, by rw [wipe_get h2]; exact h3, h4⟩
/-- where nothing may be raised -/
def R.nox {α : Type} : R α → R α
  | .exc _ _ _ _ => .bad
  | r => r
@[simp] theorem R.nox_ok {α : Type} {a : α} {μ : Sto} : (R.ok a μ).nox = .ok a μ := rfl
@[simp] theorem R.nox_bad {α : Type} : (R.bad (α := α)).nox = .bad := rfl
def lcS (gd : Sto → Bool) (g : SG) (tt : ST) (te : SE) (ρ : Env) : List D → Sto → R (List D)
  | [], μ => if gd μ = true then .ok [] μ else .bad
  | d :: ds, μ => if gd μ = true then (match g d ρ μ with
    | some ρ1 => (tt ρ1 μ).nox.bind fun b μ1 => if b = true then (te ρ1 μ1).nox.bind fun y μ2 => (lcS gd g tt te ρ ds μ2).nox.bind fun ys μ3 => .ok (y :: ys) μ3 else lcS gd g tt te ρ ds μ1
    | none => .bad) else .bad
def eLc (vs : List Nat) (fi : SI) (g : SG) (tt : ST) (te : SE) : SE := fun ρ μ => (fi ρ μ).bind fun it μ1 => if it.1.length ≤ sizeLine then (lcS it.2 g tt te (wipeE ρ vs) it.1 μ1).nox.bind fun ys μ2 => .ok (.lst ys) μ2 else .bad
def eLcC (vs : List Nat) (fi : SI) (g : SG) (tt : ST) (te : SE) : SE := fun ρ μ => (fi ρ μ).bind fun it μ1 => if it.1.length ≤ sizeLine then (lcS it.2 g tt te (wipeE ρ vs) it.1 μ1).nox.bind fun ys μ2 => .ok (.cell μ2.length) (μ2 ++ [.lst ys]) else .bad
abbrev W0 : WX := fun _ _ _ _ => False
def Lv.add (L : Lv) (p : Addr) : Lv := ⟨L.c, p :: L.x⟩
section
variable {P : Pm} {H H1 : Hp} {L L1 : Lv} {μ : Sto} {p : Addr}
theorem tabs_upd {T : List (Addr × Str)} {acc acc' : List V} (h : H p = some (.lst acc)) (t : LamX.Tabs T H) : LamX.Tabs T (upd H p (.lst acc')) := fun q hq => by
  obtain ⟨ps, h1, h2, h3⟩ := t q hq
  refine ⟨ps, ?_, h2, fun pos cv hc => ?_⟩
  · rw [upd_ne (fun z => by rw [z, h] at h1; cases h1)]; exact h1
  · obtain ⟨c, e, h4⟩ := h3 pos cv hc
    refine ⟨c, e, ?_⟩
    rw [upd_ne (fun z => by
      rw [z, h] at h4
      have h5 : HO.lst acc = HO.ext _ := Option.some.inj h4
      cases h5)]
    exact h4
theorem prv_new (s : St3 P H L μ) (n : H p = none) : St3 P (upd H p (.lst [])) (L.add p) μ ∧ Ext0 L H (L.add p) (upd H p (.lst [])) := by
  have x : Ext0 L H (L.add p) (upd H p (.lst [])) := by
    refine ⟨fun a o h _ _ => upd_grow n a o h, fun _ _ h => h, fun a h => ?_⟩
    rcases h with h | h
    · exact .inl (.inl h)
    · rcases List.mem_cons.mp (show a ∈ p :: L.x from h) with h | h
      · subst h; exact .inr (.inl n)
      · exact .inl (.inr h)
  refine ⟨⟨s.len, fun k a m h1 h2 => (s.at_ k a m h1 h2).ext0 (fun o => upd_grow n a o) x, s.nd, fun a h => ?_, s.tab.ext (upd_grow n)⟩, x⟩
  rcases List.mem_cons.mp (show a ∈ p :: L.x from h) with h | h
  · subst h
    exact ⟨fun z => s.cell_there (.inl z) n, [], upd_same⟩
  · obtain ⟨vs, e⟩ := (s.dis a h).2
    exact ⟨(s.dis a h).1, vs, upd_grow n a _ e⟩
theorem prv_put {acc acc' : List V} (s : St3 P H L μ) (hp : p ∈ L.x) (h : H p = some (.lst acc)) : St3 P (upd H p (.lst acc')) L μ ∧ Ext0 L H L (upd H p (.lst acc')) := by
  have x : Ext0 L H L (upd H p (.lst acc')) := by
    refine ⟨fun a o e _ n => ?_, fun _ _ h => h, fun a h => .inl h⟩
    have ne : a ≠ p := fun z => by subst z; exact n (.inr hp)
    rw [upd_ne ne]; exact e
  refine ⟨⟨s.len, fun k a m h1 h2 => (s.at_ k a m h1 h2).ext0 (fun o e => ?_) x, s.nd, fun a h' => ⟨(s.dis a h').1, by
    by_cases ea : a = p
    · subst ea; exact ⟨acc', upd_same⟩
    · rw [upd_ne ea]; exact (s.dis a h').2⟩, tabs_upd h s.tab⟩, x⟩
  have ne : a ≠ p := fun z => by subst z; exact (s.dis a hp).1 (List.mem_of_getElem? h1)
  rw [upd_ne ne]
  exact e
/-- private places are let go -/
theorem prv_drop {c x x1 : List Addr} (hx : ∀ a ∈ x, a ∈ x1) : Ext0 ⟨c, x1⟩ H ⟨c, x⟩ H := ⟨fun _ _ h _ _ => h, fun _ _ h => h, fun a h => .inl (h.elim .inl fun z => .inr (hx a z))⟩
theorem St3.drop {c x x1 : List Addr} (hx : ∀ a ∈ x, a ∈ x1) (s : St3 P H ⟨c, x1⟩ μ) : St3 P H ⟨c, x⟩ μ :=
  ⟨s.len, fun k a m h1 h2 => (s.at_ k a m h1 h2).ext0 (fun _ h => h) (prv_drop hx), s.nd, fun a h => s.dis a (hx a h), s.tab⟩
end
section
variable {P : Pm} {W : WX} {X : Cx} {elt tg iter : Expr} {ifs : List Expr} {scope : Scope} {own : List (Str × Nat)} {pos : Pos} {fi : SI} {sl : List Nat} {g : SG} {tt : ST} {te : SE}
/-- what stands when the list is made -/
structure LcEnd (P : Pm) (L1 : Lv) (H1 : Hp) (c : List Addr) (H2 : Hp) (p : Addr) (acc : List V) (ys : List D) (μ2 : Sto) : Prop where
  n : H1 p = none
  ne : p ∉ L1.x
  x : Ext0 L1 H1 ⟨c, p :: L1.x⟩ H2
  prv : ∀ a ∈ L1.x, H2 a = H1 a
  st : St3 P H2 ⟨c, p :: L1.x⟩ μ2
  hp : H2 p = some (.lst acc)
  r : Reps P H2 ⟨c, p :: L1.x⟩ acc ys
theorem Ext0.less {L1 : Lv} {H1 H2 : Hp} {c : List Addr} {p : Addr} (x : Ext0 L1 H1 ⟨c, p :: L1.x⟩ H2) : Ext0 L1 H1 ⟨c, L1.x⟩ H2 :=
  ⟨x.keep, x.pre, fun a h => x.new a (h.elim .inl fun z => .inr (List.mem_cons_of_mem _ z))⟩
theorem LcEnd.pure {P : Pm} {L1 : Lv} {H1 H2 : Hp} {c : List Addr} {p : Addr} {acc : List V} {ys : List D} {μ2 : Sto} (e : LcEnd P L1 H1 c H2 p acc ys μ2) :
    Ext P L1 H1 ⟨c, L1.x⟩ H2 ∧ St3 P H2 ⟨c, L1.x⟩ μ2 ∧ Rep P H2 ⟨c, L1.x⟩ (.ref p) (.lst ys) := by
  refine ⟨⟨e.x.less, rfl, e.prv⟩, e.st.drop fun a h => List.mem_cons_of_mem _ h, .lst e.hp (fun h => ?_) (e.r.ext0 (prv_drop fun a h => List.mem_cons_of_mem _ h))⟩
  rcases h with h | h
  · exact (e.st.dis p List.mem_cons_self).1 h
  · exact e.ne h
theorem LcEnd.cell {P : Pm} {L1 : Lv} {H1 H2 : Hp} {c : List Addr} {p : Addr} {acc : List V} {ys : List D} {μ2 : Sto} (e : LcEnd P L1 H1 c H2 p acc ys μ2) :
    Ext P L1 H1 ⟨c ++ [p], L1.x⟩ H2 ∧ St3 P H2 ⟨c ++ [p], L1.x⟩ (μ2 ++ [.lst ys]) ∧ Rep P H2 ⟨c ++ [p], L1.x⟩ (.ref p) (.cell μ2.length) := by
  have np : p ∉ c := (e.st.dis p List.mem_cons_self).1
  have x2 : Ext0 ⟨c, p :: L1.x⟩ H2 ⟨c ++ [p], L1.x⟩ H2 := by
    refine ⟨fun _ _ h _ _ => h, fun k a h => ?_, fun a h => ?_⟩
    · show (c ++ [p])[k]? = some a
      rw [List.getElem?_append_left (List.getElem?_eq_some_iff.mp h).1]; exact h
    · rcases h with h | h
      · rcases List.mem_append.mp (show a ∈ c ++ [p] from h) with h | h
        · exact .inl (.inl h)
        · rw [List.mem_singleton] at h; subst h; exact .inl (.inr List.mem_cons_self)
      · exact .inl (.inr (List.mem_cons_of_mem _ h))
  have sl : c.length = μ2.length := e.st.len
  refine ⟨⟨e.x.trans x2, rfl, e.prv⟩, ⟨by simp [sl], fun k a m h1 h2 => ?_, ?_, fun a h => ?_, e.st.tab⟩, .cell ?_⟩
  · have h1 : (c ++ [p])[k]? = some a := h1
    by_cases hk : k < c.length
    · rw [List.getElem?_append_left hk] at h1
      rw [List.getElem?_append_left (by rw [← sl]; exact hk)] at h2
      exact (e.st.at_ k a m h1 h2).ext0 (fun _ h => h) x2
    · rw [List.getElem?_append_right (by omega)] at h1
      rw [List.getElem?_append_right (by omega)] at h2
      have e1 : k - c.length = 0 := by
        have := (List.getElem?_eq_some_iff.mp h1).1
        simp at this
        omega
      have e2 : k - μ2.length = 0 := by omega
      rw [e1] at h1; rw [e2] at h2
      cases h1; cases h2
      exact .lst e.hp (e.r.ext0 x2)
  · exact List.nodup_append.mpr ⟨e.st.nd, by simp, fun a ha b hb => by
      rw [List.mem_singleton] at hb; subst hb
      exact fun z => np (z ▸ ha)⟩
  · have h : a ∈ L1.x := h
    have q := e.st.dis a (List.mem_cons_of_mem _ h)
    refine ⟨fun z => ?_, q.2⟩
    rcases List.mem_append.mp (show a ∈ c ++ [p] from z) with z | z
    · exact q.1 z
    · rw [List.mem_singleton] at z; subst z; exact e.ne h
  · show (c ++ [p])[μ2.length]? = some p
    rw [← sl]; simp
theorem lcS_nox {gd : Sto → Bool} {ρ : Env} {c : Str} {ns : List Str} {vs : List D} {μ' : Sto} : ∀ {ds : List D} {μ : Sto}, lcS gd g tt te ρ ds μ ≠ .exc c ns vs μ'
  | [], μ, h => by
    unfold lcS at h
    split at h <;> cases h
  | d :: ds, μ, h => by
    unfold lcS at h
    split at h
    · split at h
      · rename_i ρ1 _
        cases e1 : (tt ρ1 μ).nox with
        | exc _ _ _ _ => cases e0 : tt ρ1 μ <;> (rw [e0] at e1; cases e1)
        | bad => rw [e1] at h; cases h
        | ok b μ1 =>
          rw [e1] at h
          have h : (if b = true then (te ρ1 μ1).nox.bind fun y μ2 => (lcS gd g tt te ρ ds μ2).nox.bind fun ys μ3 => .ok (y :: ys) μ3 else lcS gd g tt te ρ ds μ1) = R.exc c ns vs μ' := h
          split at h
          · cases e2 : (te ρ1 μ1).nox with
            | exc _ _ _ _ => cases e0 : te ρ1 μ1 <;> (rw [e0] at e2; cases e2)
            | bad => rw [e2] at h; cases h
            | ok y μ2 =>
              rw [e2] at h
              have h : ((lcS gd g tt te ρ ds μ2).nox.bind fun ys μ3 => R.ok (y :: ys) μ3) = R.exc c ns vs μ' := h
              cases e3 : lcS gd g tt te ρ ds μ2 with
              | exc _ _ _ _ => rw [e3] at h; cases h
              | bad => rw [e3] at h; cases h
              | ok ys μ3 => rw [e3] at h; cases h
          · exact lcS_nox h
      · cases h
    · cases h
/-- the list is made, item by item; Q is asked of it at the end -/
theorem lc_turns {vs : List Nat} {σ : L2.St} {Q : VK} {L1 : Lv} {H1 : Hp} {ρ : Env} {μ1 : Sto} {k : List D → Sto → R D} {it : List D × (Sto → Bool)} {J : It} {p : Addr} (hsl : ∀ i ∈ sl, i ∈ vs) (rs1 : RelS P H1 L1 σ ρ) (s1 : St3 P H1 L1 μ1)
    (q1 : Post P (WE W σ) L1 H1 (fun d L' H' => ∀ v, Rep P H' L' v d → Q v H') (if it.1.length ≤ sizeLine then (lcS it.2 g tt te (wipeE ρ vs) it.1 μ1).nox.bind k else .bad))
    (fin : ∀ (L1 : Lv) (H1 : Hp) (c : List Addr) (H2 : Hp) (p : Addr) (acc : List V) (ys : List D) (μ2 : Sto), LcEnd P L1 H1 c H2 p acc ys μ2 → Post P (WE W σ) L1 H1 (fun d L' H' => ∀ v, Rep P H' L' v d → Q v H') (k ys μ2) → Q (.ref p) H2)
    (gv : Gives P J it.1 it.2 L1 H1) (hp : H1 p = none) :
    ∃ I : Nat → Nat → Hp → Prop, (∃ m, I 0 m (upd H1 p (.lst []))) ∧ ∀ i m H, I i m H →
      (J.stop i H ∧ Q (.ref p) H) ∨ (J.go i H ∧ ∃ Nx : Hp → Prop, (∀ H', Nx H' → ∃ m', m' < m ∧ I (i + 1) m' H') ∧ ∀ x H', J.yld i H x H' → tVG P sl g x (wipe σ vs) H' fun σ2 H2 => wipe σ2 vs = wipe σ vs ∧ tVT P W0 tt σ2 H2 fun b H3 =>
        if b = true then tV P W0 te σ2 H3 fun y H4 => ∃ acc, H4 p = some (.lst acc) ∧ acc.length < sizeLine ∧ Nx (upd H4 p (.lst (acc ++ [y]))) else Nx H3) := by
  by_cases hz : it.1.length ≤ sizeLine
  case neg => rw [if_neg hz] at q1; exact q1.elim
  rw [if_pos hz] at q1
  cases et : lcS it.2 g tt te (wipeE ρ vs) it.1 μ1 with
  | exc _ _ _ _ => exact absurd et lcS_nox
  | bad => rw [et] at q1; exact q1.elim
  | ok total μf =>
    rw [et] at q1
    have q1 : Post P (WE W σ) L1 H1 (fun d L' H' => ∀ v, Rep P H' L' v d → Q v H') (k total μf) := q1
    obtain ⟨s2, x2⟩ := prv_new s1 hp
    have np : p ∉ L1.x := fun z => s1.new_not hp (.inr z)
    refine ⟨fun i m H => ∃ (c : List Addr) (acc : List V) (accD ys : List D) (μ : Sto), RelS P H ⟨c, p :: L1.x⟩ (wipe σ vs) (wipeE ρ vs) ∧ St3 P H ⟨c, p :: L1.x⟩ μ ∧ H p = some (.lst acc) ∧ Reps P H ⟨c, p :: L1.x⟩ acc accD ∧
        Ext0 L1 H1 ⟨c, p :: L1.x⟩ H ∧ (∀ a ∈ L1.x, H a = H1 a) ∧ Gives P J it.1 it.2 ⟨c, p :: L1.x⟩ H ∧ accD.length ≤ i ∧ lcS it.2 g tt te (wipeE ρ vs) (it.1.drop i) μ = .ok ys μf ∧ accD ++ ys = total ∧ m = it.1.length - i,
      ⟨_, L1.c, [], [], total, μ1, rs1.ext0 x2 |>.wipe vs, s2, upd_same, .nil, x2, fun a h => upd_ne (fun z => by subst z; exact np h), gv.ext x2, Nat.zero_le _, et, rfl, rfl⟩, ?_⟩
    rintro i m H3 ⟨c, acc, accD, ys, μ3, rs3, s3, hp3, ra3, x3, pv3, gv3, hl3, el3, ea3, rfl⟩
    cases e2 : it.1[i]? with
    | none =>
      rw [drop_none e2] at el3
      unfold lcS at el3
      by_cases cg : it.2 μ3 = true
      · rw [if_pos cg] at el3
        cases el3
        rw [List.append_nil] at ea3
        subst ea3
        exact .inl ⟨(gv3 _ _ _ i .refl s3 cg).2 e2, fin L1 H1 c H3 p acc accD _ ⟨hp, np, x3, pv3, s3, hp3, ra3⟩ q1⟩
      · rw [if_neg cg] at el3; cases el3
    | some d =>
      rw [drop_some e2] at el3
      unfold lcS at el3
      by_cases cg : it.2 μ3 = true
      case neg => rw [if_neg cg] at el3; cases el3
      rw [if_pos cg] at el3
      obtain ⟨hgo, hy⟩ := (gv3 _ _ _ i .refl s3 cg).1 d e2
      have hlt : i < it.1.length := (List.getElem?_eq_some_iff.mp e2).1
      refine .inr ⟨hgo, fun H => ∃ (c : List Addr) (acc : List V) (accD ys : List D) (μ : Sto), RelS P H ⟨c, p :: L1.x⟩ (wipe σ vs) (wipeE ρ vs) ∧ St3 P H ⟨c, p :: L1.x⟩ μ ∧ H p = some (.lst acc) ∧ Reps P H ⟨c, p :: L1.x⟩ acc accD ∧
          Ext0 L1 H1 ⟨c, p :: L1.x⟩ H ∧ (∀ a ∈ L1.x, H a = H1 a) ∧ Gives P J it.1 it.2 ⟨c, p :: L1.x⟩ H ∧ accD.length ≤ i + 1 ∧ lcS it.2 g tt te (wipeE ρ vs) (it.1.drop (i + 1)) μ = .ok ys μf ∧ accD ++ ys = total,
        fun H' ⟨c, acc, accD, ys, μ, a1, a2, a3, a4, a5, a6, a7, a8, a9, a10⟩ => ⟨it.1.length - (i + 1), by omega, c, acc, accD, ys, μ, a1, a2, a3, a4, a5, a6, a7, a8, a9, a10, rfl⟩, fun x H4 y4 => ?_⟩
      obtain ⟨gr, rx⟩ := hy x H4 y4
      have x4 : Ext P ⟨c, p :: L1.x⟩ H3 ⟨c, p :: L1.x⟩ H4 := Ext.grow s3 gr
      cases e3 : g d (wipeE ρ vs) μ3 with
      | none => rw [e3] at el3; cases el3
      | some ρ5 =>
        rw [e3] at el3
        dsimp only at el3
        refine ⟨⟨c, p :: L1.x⟩, wipeE ρ vs, μ3, d, ρ5, rs3.ext x4, s3.grow gr, rx, e3, fun σ5 rs5 w5 => ⟨by rw [w5 vs hsl, wipe_wipe], ?_⟩⟩
        refine ⟨⟨c, p :: L1.x⟩, ρ5, μ3, rs5, s3.grow gr, ?_⟩
        cases e6 : tt ρ5 μ3 with
        | exc _ _ _ _ => rw [e6] at el3; cases el3
        | bad => rw [e6] at el3; cases el3
        | ok b μ6 =>
          rw [e6] at el3
          have el3 : (if b = true then (te ρ5 μ6).nox.bind fun y μ2 => (lcS it.2 g tt te (wipeE ρ vs) (it.1.drop (i + 1)) μ2).nox.bind fun ys μ3 => R.ok (y :: ys) μ3 else lcS it.2 g tt te (wipeE ρ vs) (it.1.drop (i + 1)) μ6) = .ok ys μf := el3
          intro L6 H6 x6 s6
          obtain ⟨c6, xx6⟩ := L6
          have ex : xx6 = p :: L1.x := x6.px
          subst ex
          have x36 : Ext P ⟨c, p :: L1.x⟩ H3 ⟨c6, p :: L1.x⟩ H6 := x4.trans x6
          have hp6 : H6 p = some (.lst acc) := (x36.prv p List.mem_cons_self).trans hp3
          have pv6 : ∀ a ∈ L1.x, H6 a = H1 a := fun a h => (x36.prv a (List.mem_cons_of_mem _ h)).trans (pv3 a h)
          cases b with
          | false =>
            rw [if_neg Bool.false_ne_true] at el3 ⊢
            exact ⟨c6, acc, accD, ys, μ6, rs3.ext x36, s6, hp6, ra3.ext x36, x3.trans x36.toExt0, pv6, gv3.ext x36.toExt0, Nat.le_succ_of_le hl3, el3, ea3⟩
          | true =>
            rw [if_pos rfl] at el3 ⊢
            refine ⟨⟨c6, p :: L1.x⟩, ρ5, μ6, rs5.ext x6, s6, ?_⟩
            cases e7 : te ρ5 μ6 with
            | exc _ _ _ _ => rw [e7] at el3; cases el3
            | bad => rw [e7] at el3; cases el3
            | ok yd μ7 =>
              rw [e7] at el3
              have el3 : ((lcS it.2 g tt te (wipeE ρ vs) (it.1.drop (i + 1)) μ7).nox.bind fun ys μ3 => R.ok (yd :: ys) μ3) = .ok ys μf := el3
              cases e8 : lcS it.2 g tt te (wipeE ρ vs) (it.1.drop (i + 1)) μ7 with
              | exc _ _ _ _ => rw [e8] at el3; cases el3
              | bad => rw [e8] at el3; cases el3
              | ok zs μ8 =>
                rw [e8] at el3
                cases el3
                intro L7 H7 x7 s7 v rv
                obtain ⟨c7, xx7⟩ := L7
                have ex : xx7 = p :: L1.x := x7.px
                subst ex
                have x37 : Ext P ⟨c, p :: L1.x⟩ H3 ⟨c7, p :: L1.x⟩ H7 := x36.trans x7
                have hp7 : H7 p = some (.lst acc) := (x7.prv p List.mem_cons_self).trans hp6
                have hlen : acc.length = accD.length := ra3.length
                obtain ⟨s9, x9⟩ := prv_put (acc' := acc ++ [v]) s7 (p := p) List.mem_cons_self hp7
                refine ⟨acc, hp7, by omega, c7, acc ++ [v], accD ++ [yd], zs, μ7, (rs3.ext x37).ext0 x9, s9, upd_same, ((ra3.ext x37).append (.cons rv .nil)).ext0 x9, (x3.trans x37.toExt0).trans x9, fun a h => ?_, (gv3.ext x37.toExt0).ext x9, ?_, e8, ?_⟩
                · have ne : a ≠ p := fun z => by subst z; exact np h
                  rw [upd_ne ne]
                  exact (x37.prv a (List.mem_cons_of_mem _ h)).trans (pv3 a h)
                · rw [List.length_append]; simp; exact hl3
                · rw [List.append_assoc]; exact ea3
theorem tLc_of {vs : List Nat} {σ : L2.St} {H : Hp} {Q : VK} {L : Lv} {ρ : Env} {μ : Sto} {k : List D → Sto → R D} (hsl : ∀ i ∈ sl, i ∈ vs) (rs : RelS P H L σ ρ) (st : St3 P H L μ)
    (q : Post P (WE W σ) L H (fun d L' H' => ∀ v, Rep P H' L' v d → Q v H') ((fi ρ μ).bind fun it μ1 => if it.1.length ≤ sizeLine then (lcS it.2 g tt te (wipeE ρ vs) it.1 μ1).nox.bind k else .bad))
    (fin : ∀ (L1 : Lv) (H1 : Hp) (c : List Addr) (H2 : Hp) (p : Addr) (acc : List V) (ys : List D) (μ2 : Sto), LcEnd P L1 H1 c H2 p acc ys μ2 → Post P (WE W σ) L1 H1 (fun d L' H' => ∀ v, Rep P H' L' v d → Q v H') (k ys μ2) → Q (.ref p) H2) :
    tLc (tVI P W fi) (tVG P sl g) (tVT P W0 tt) (tV P W0 te) vs σ H Q := by
  refine ⟨L, ρ, μ, rs, st, ?_⟩
  cases e : fi ρ μ with
  | exc c ns vs μ1 => rw [e] at q; exact q
  | bad => rw [e] at q; exact q
  | ok it μ1 =>
    rw [e] at q
    intro L1 H1 x1 s1 J gv p hp
    have q1 := Post.ext x1 q
    have q1 : Post P (WE W σ) L1 H1 (fun d L' H' => ∀ v, Rep P H' L' v d → Q v H') (if it.1.length ≤ sizeLine then (lcS it.2 g tt te (wipeE ρ vs) it.1 μ1).nox.bind k else .bad) := q1
    exact lc_turns hsl (rs.ext x1) s1 q1 fin gv hp
theorem ve_lc (hc : X.calm = true) (hN : X.N.Nodup) (hi : VI P W X tg iter fi) (ok : BlkOk X.N X.env.scope scope own)
    (hg : ∀ (s : Shared) (H : Hp) (C : Addr) (cl : List (Str × Addr)) (fp : List Addr), VG P (X.blk s H scope (compEnvC scope cl C X.env) fp) tg sl g)
    (ht : ∀ (s : Shared) (H : Hp) (C : Addr) (cl : List (Str × Addr)) (fp : List Addr), PTs (X.blk s H scope (compEnvC scope cl C X.env) fp) ifs (tVT P W0 tt))
    (he : ∀ (s : Shared) (H : Hp) (C : Addr) (cl : List (Str × Addr)) (fp : List Addr), VE P W0 (X.blk s H scope (compEnvC scope cl C X.env) fp) elt te) (hsl : ∀ i ∈ sl, i ∈ own.map (·.2) := by decide) (hs : ∀ x, foldedSetIterable iter X.env x = pure x := by intro _; rfl) :
    VE P W X (.ListComp elt [⟨tg, iter, ifs, 0⟩] scope pos) (eLc (own.map (·.2)) fi g tt te) :=
  (pe_lc hc hN hi ok hg ht he hs).imp3 fun σ H Q ⟨L, ρ, μ, rs, st, q⟩ => tLc_of hsl rs st q fun L1 H1 c H2 p acc ys μ2 e q2 =>
    let ⟨a1, a2, a3⟩ := e.pure; q2 _ _ a1 a2 _ a3
theorem ve_lcC (hc : X.calm = true) (hN : X.N.Nodup) (hi : VI P W X tg iter fi) (ok : BlkOk X.N X.env.scope scope own)
    (hg : ∀ (s : Shared) (H : Hp) (C : Addr) (cl : List (Str × Addr)) (fp : List Addr), VG P (X.blk s H scope (compEnvC scope cl C X.env) fp) tg sl g)
    (ht : ∀ (s : Shared) (H : Hp) (C : Addr) (cl : List (Str × Addr)) (fp : List Addr), PTs (X.blk s H scope (compEnvC scope cl C X.env) fp) ifs (tVT P W0 tt))
    (he : ∀ (s : Shared) (H : Hp) (C : Addr) (cl : List (Str × Addr)) (fp : List Addr), VE P W0 (X.blk s H scope (compEnvC scope cl C X.env) fp) elt te) (hsl : ∀ i ∈ sl, i ∈ own.map (·.2) := by decide) (hs : ∀ x, foldedSetIterable iter X.env x = pure x := by intro _; rfl) :
    VE P W X (.ListComp elt [⟨tg, iter, ifs, 0⟩] scope pos) (eLcC (own.map (·.2)) fi g tt te) :=
  (pe_lc hc hN hi ok hg ht he hs).imp3 fun σ H Q ⟨L, ρ, μ, rs, st, q⟩ => tLc_of hsl rs st q fun L1 H1 c H2 p acc ys μ2 e q2 =>
    let ⟨a1, a2, a3⟩ := e.cell; q2 _ _ a1 a2 _ a3
def tYesS : ST := fun _ μ => .ok true μ
theorem vts_nil {X : Cx} : PTs X [] (tVT P W0 tYesS) := ⟨fun pins s σ H Q I ⟨L, ρ, μ, rs, st, q⟩ => pts_nil.run pins s σ H Q I (q L H .refl st)⟩
end
end L3

/-! ### classes of exceptions over ValueError or LookupError: what is asked of them, self.f = y in their __init__ -/
namespace L3
open PySem PySem.Calls PySem.Spec PyProof.Rows L2
structure OexG (K : PySem.W.Frag) (C : Addr) : Prop where
  fam : ∃ (B newId initId : String) (tail : List Value), ExcBaseFacts B newId initId tail ∧ StoreFacts B tail "object.__setattr__" "object" ∧ PySem.W.excInitIn K C tail newId = true ∧ PySem.W.excOver K C tail = true
  hd : PySem.W.hasDictIn K C = true
  sa : PySem.W.findIn K (.ref C) "__setattr__" = some (some (.builtin "object.__setattr__"))
  exC : PySem.W.subIn K (.ref C) (.type "BaseException") = some true
  tyC : PySem.W.typeIn K (.ref C) = some (.type "type")
  kC : PySem.W.keepIn K (.ref C) = true
section
open Builtin Builtin.ObjectAttr
variable {prog : Program} {w : World} {A : Around} {R : Result → Shared → Prop} {hp : Heap} {g : Array GenState} {d : Drawn} {t : Nat} {os : OsState}
theorem taker_none {K : PySem.W.Frag} {C : Addr} {f : Str} (h : PySem.W.findIn K (.ref C) f = some none) : PySem.W.takerIn K C f = some none := by
  unfold PySem.W.takerIn
  rw [h]
  rfl
/-- the first field: the dict is made -/
theorem exg_first {K : PySem.W.Frag} {f : Str} {tk : Tok} {u : Value} {x C : Addr} {fv : Array Value} (T : OexG K C) (X : K.In hp) (at_ : hp.get? x = some { cls := .ref C, data := .fields fv }) (no : PySem.W.findIn K (.ref C) f = some none)
    (q : ∀ h2 tk2 dx, (∀ b o, b ≠ x → hp.get? b = some o → h2.get? b = some o) → hp.objs.size ≤ dx → dx ≠ x → h2.get? x = some { cls := .ref C, dict := some dx, data := .fields fv } → h2.Ns1 dx (fun y => if y = f then some u else none) → R (.ok (.ret .none)) ⟨h2, g, d, tk2, os⟩) :
    codeAny (model prog w) A (.call (.builtin "object.__setattr__") ⟨[.ref x, .str f tk, u], []⟩) R ⟨hp, g, d, t, os⟩ := by
  rcases T.fam with ⟨B, nI, iI, tl, FB, SF, _, over⟩
  rcases PySem.W.any_some T.hd with ⟨cd, isC, hasD⟩
  have below : x < hp.objs.size := Heap.lt_size at_
  refine PySem.W.osa_openX (s := ⟨hp, g, d, t, os⟩) (od := none) SF X ⟨at_, rfl, rfl, trivial⟩ over (taker_none no) fun b => ?_
  have lk : PySem.W.Looks (model prog w) hp (classData C) cd := PySem.W.looks_clsIn X isC
  rcases cd with ⟨c1, c2, c3, c4, c5, c6, c7, c8, c9, c10, c11⟩
  obtain rfl : c6 = true := hasD
  unfold storeInOwnDict ownDictForStores
  repeat (first | with_reducible refine PySem.HandSPX.store_in_new ?_ ?_ | with_reducible refine wpAny_loadPart_at at_ ?_ | with_reducible refine lk.at ?_ | wp_step)
  · have nx := Nat.ne_of_gt below
    exact ⟨_, #[], _, Eq.trans (Heap.get?_update_ne _ _ _ _ nx) (Heap.get?_push_at rfl rfl), rfl, fun e z => absurd z (by simp), fun _ => rfl⟩
  · intro h2 tk2 ns but
    have px := Heap.get?_push_of_some { cls := .type "dict", data := .dict #[] } at_
    have nx : x ≠ hp.objs.size := Nat.ne_of_lt below
    refine q h2 tk2 hp.objs.size ?_ (Nat.le_refl _) nx.symm ((but.2 x nx).trans (Heap.get?_update_self _ px rfl)) ns
    intro b o ne ho
    have nb : b ≠ hp.objs.size := Nat.ne_of_lt (Heap.lt_size ho)
    rw [but.2 b nb, Heap.get?_update_ne _ _ _ _ ne]
    exact Heap.get?_push_of_some _ ho
/-- a further field -/
theorem exg_more {K : PySem.W.Frag} {f : Str} {tk : Tok} {u : Value} {x C dx : Addr} {fv : Array Value} {m0 : Str → Option Value} {nl : List Str} (T : OexG K C) (X : K.In hp) (at_ : hp.get? x = some { cls := .ref C, dict := some dx, data := .fields fv }) (ns0 : hp.Ns1 dx m0) (within : Within m0 nl) (small : nl.length ≤ 1000) (no : PySem.W.findIn K (.ref C) f = some none)
    (q : ∀ h2 tk2, (∀ b o, b ≠ dx → hp.get? b = some o → h2.get? b = some o) → h2.Ns1 dx (fun y => if y = f then some u else m0 y) → R (.ok (.ret .none)) ⟨h2, g, d, tk2, os⟩) :
    codeAny (model prog w) A (.call (.builtin "object.__setattr__") ⟨[.ref x, .str f tk, u], []⟩) R ⟨hp, g, d, t, os⟩ := by
  rcases T.fam with ⟨B, nI, iI, tl, FB, SF, _, over⟩
  rcases PySem.W.any_some T.hd with ⟨cd, isC, hasD⟩
  rcases ns0.count within with ⟨oD, _, _, atD, _, _⟩
  refine PySem.W.osa_openX (s := ⟨hp, g, d, t, os⟩) (od := some oD) SF X ⟨at_, rfl, rfl, atD⟩ over (taker_none no) fun b => ?_
  have lk : PySem.W.Looks (model prog w) hp (classData C) cd := PySem.W.looks_clsIn X isC
  rcases cd with ⟨c1, c2, c3, c4, c5, c6, c7, c8, c9, c10, c11⟩
  obtain rfl : c6 = true := hasD
  unfold storeInOwnDict ownDictForStores
  repeat (first | with_reducible refine PySem.OEX.store_in_old ns0 within small ?_ | with_reducible refine wpAny_loadPart_at at_ ?_ | with_reducible refine lk.at ?_ | wp_step)
  exact fun h2 tk2 ns but => q h2 tk2 (fun b o ne ho => by rw [but.2 b ne]; exact ho) ns
end
section
variable {X : Cx} {pins : List (Addr × Obj)} {σ : L2.St} {H : Hp} {s : Shared} {a C dx : Addr} {f : Str} {y : V} {u : Value} {fs : List (Str × V)} {Q : Unit → Shared → Prop} {E : Value → Shared → Prop} {A : Around}
theorem ostG_first (T : OexG X.K C) (I : Inv X pins σ H s) (e : H a = some (exo a C none)) (no : PySem.W.findIn X.K (.ref C) f = some none) (ry : RelV y u)
    (q : ∀ dx s', H dx = none → dx ≠ a → Inv X pins σ (upd (upd H dx (exd dx [(f, y)])) a (exo a C (some dx))) s' → Q () s') : wpAny (model X.prog X.w) A (setAttr (.ref a) f u) Q E s := by
  rcases exo_at I.hok e with ⟨t1, at_⟩
  rcases s with ⟨hp, g, d, t, os⟩
  refine PySem.W.set_plain (od := none) I.kIn ⟨at_, rfl, rfl, trivial⟩ T.sa (exg_first T I.kIn at_ no fun h2 tk2 dx keep big ne atx ns => ?_)
  have fresh : H dx = none := I.hok.fresh big
  have away : ∀ {b : Addr} {o : Obj}, hp.get? b = some o → b ≠ dx := fun {b o} z => Nat.ne_of_lt (Nat.lt_of_lt_of_le (Heap.lt_size z) big)
  have noA : ∀ {b : Addr}, H b = none → b ≠ a := fun {b} n z => by rw [z, e] at n; cases n
  have still : ∀ {b : Addr}, b ≠ a → b ≠ dx → upd (upd H dx (exd dx [(f, y)])) a (exo a C (some dx)) b = H b := fun {b} n1 n2 => by rw [upd_ne n1, upd_ne n2]
  refine q dx _ fresh ne (I.un (t' := tk2) (h' := h2) ?_ fun b o z => ?_)
  · refine ⟨?_, ?_, ?_, ?_, ?_, ?_, ?_⟩
    · exact fun b o z n _ _ => keep b o (noA n) z
    · exact fun b o z n _ _ => ⟨o.slots, keep b o (noA n) z⟩
    · exact fun b o z n _ => by rw [still (noA n) (away z)]; exact n
    · intro b o z _
      by_cases c : b = a
      · rw [c]; exact ⟨_, atx⟩
      · exact ⟨o, keep b o c z⟩
    · exact fun b xs z => by rw [still (at_ne e z exo_tup) (ne_of_none z fresh)]; exact z
    · exact fun b o v z => by rw [still (at_ne e z exo_frz) (ne_of_none z fresh)]; exact z
    · exact fun b ps z => ⟨#[], by rw [still (at_ne e z exo_tbl) (ne_of_none z fresh), z]; simp⟩
  · by_cases c : b = a
    · subst c
      obtain rfl : exo b C (some dx) = o := Option.some.inj (upd_same.symm.trans z)
      exact exo_ok atx
    by_cases c2 : b = dx
    · subst c2
      rw [upd_ne c] at z
      obtain rfl : exd b [(f, y)] = o := Option.some.inj (upd_same.symm.trans z)
      exact exd_ok ns (relO_put (fs := []) ry fun _ => True.intro)
    rw [still c c2] at z
    refine (I.hok b o z).stay (fun k v hk zk => keep k v ?_ zk) (fun k hk => ?_) fun k xs hk => ?_
    · rcases hk with hk | hk
      · rw [hk]; exact c
      · exact at_ne e hk exo_own
    · rw [still (at_ne e hk exo_own) (ne_of_none hk fresh)]; exact hk
    · rw [still (at_ne e hk exo_tup) (ne_of_none hk fresh)]; exact hk
theorem ostG_more (T : OexG X.K C) (I : Inv X pins σ H s) (e : H a = some (exo a C (some dx))) (ed : H dx = some (exd dx fs)) (few : fs.length ≤ 900) (no : PySem.W.findIn X.K (.ref C) f = some none) (ry : RelV y u)
    (q : ∀ s', Inv X pins σ (upd H dx (exd dx ((f, y) :: fs))) s' → Q () s') : wpAny (model X.prog X.w) A (setAttr (.ref a) f u) Q E s := by
  rcases exo_at I.hok e with ⟨t1, at_⟩
  rcases exd_at I.hok ed with ⟨mA, ns0, rel⟩
  rcases s with ⟨hp, g, d, t, os⟩
  have within := within_of rel
  rcases ns0.count within with ⟨oD, _, _, atD, _, _⟩
  have small : (fs.map (·.1)).length ≤ 1000 := by rw [List.length_map]; omega
  refine PySem.W.set_plain (od := some oD) I.kIn ⟨at_, rfl, rfl, atD⟩ T.sa (exg_more T I.kIn at_ ns0 within small no fun h2 tk2 keep ns => ?_)
  have there : ∃ o, h2.get? dx = some o := by
    rcases ns with ⟨o, _, _, z, _⟩
    exact ⟨o, z⟩
  exact q _ (I.write (t' := tk2) (x := dx) (e := dx) (o := exd dx ((f, y) :: fs)) (by rw [ed]; trivial) (.inl rfl) keep there (exd_ok ns (relO_put ry rel)))
end
/-- self.f = e in the __init__ of such a class -/
def tOstG (K : PySem.W.Frag) (f : Str) (to te : TE) : TS := fun D σ H => te σ H fun y H1 => to σ H1 fun x H2 => ∃ a C : Addr, x = .ref a ∧ OexG K C ∧ PySem.W.findIn K (.ref C) f = some none ∧
  ((H2 a = some (exo a C none) ∧ ∀ dx, H2 dx = none → dx ≠ a → D.nx σ (upd (upd H2 dx (exd dx [(f, y)])) a (exo a C (some dx)))) ∨
    (∃ (dx : Addr) (fs : List (Str × V)), (H2 a = some (exo a C (some dx)) ∧ H2 dx = some (exd dx fs)) ∧ fs.length ≤ 900 ∧ D.nx σ (upd H2 dx (exd dx ((f, y) :: fs)))))
theorem ps_ostG {X : Cx} {o e : Expr} {to te : TE} {f : Str} {p' pos : Pos} (ho : PE X o to) (he : PE X e te) (hs : swapsWith e (some (.Attribute o f p')) pos.line X.env = pure false := by rfl) : PS X (.Assign [.Attribute o f p'] e pos) (tOstG X.K f to te) :=
  ⟨fun pins s σ H D I h => plainObj_wpAny_Assign_Attribute (thn (he.run pins s σ H _ I h) fun v s1 ⟨y, H1, I1, r1, q1⟩ => thn (ho.run pins s1 σ H1 _ I1 q1) fun u s2 ⟨x, H2, I2, r2, a, C, ex, T, no, q⟩ => by
    subst ex
    have r2 : u = Value.ref a := r2
    rw [r2]
    rcases q with ⟨ea, q⟩ | ⟨dx, fs, ⟨ea, ed⟩, few, q⟩
    · exact ostG_first T I2 ea no r1 fun dx s' n ne J => ⟨σ, _, J, q dx n ne⟩
    · exact ostG_more T I2 ea ed few no r1 fun s' J => ⟨σ, _, J, q⟩) hs⟩
/-- C(e, ..) -/
theorem fam_C {K : PySem.W.Frag} {C : Addr} {h : Heap} (T : OexG K C) (X : K.In h) : ∃ (B newId initId : String) (tail : List Value) (nm qn : Str) (N : Addr) (bs bm : List Value) (hdct : Bool) (sn : List Str) (sub : List Value) (ab : Bool) (col : Option Bool) (dd : Option Addr) (k0 k1 k2 k3 k5 : Option Value),
    ExcBaseFacts B newId initId tail ∧ h.get? C = some (excClassObj nm qn C N bs bm hdct sn sub ab col dd k0 k1 k2 k3 k5 newId) ∧ ∀ Y : String, bm.contains (.type Y) = tail.contains (.type Y) := by
  rcases T.fam with ⟨B, nI, iI, tl, FB, SF, q1, q2⟩
  rcases PySem.W.excInit_of X q1 with ⟨nm, N, qn, bs, bm, hdct, sn, sub, ab, col, dd, k0, k1, k2, k3, k5, hC, hT⟩
  exact ⟨B, nI, iI, tl, nm, qn, N, bs, bm, hdct, sn, sub, ab, col, dd, k0, k1, k2, k3, k5, FB, hC, hT⟩
abbrev veX : List Value := [.type "ValueError", .type "Exception", .type "BaseException", .type "object"]
abbrev leX : List Value := [.type "LookupError", .type "Exception", .type "BaseException", .type "object"]
def oexB (K : PySem.W.Frag) (C : Addr) : Bool := (((PySem.W.excInitIn K C veX "ValueError.__new__") && (PySem.W.excOver K C veX)) || ((PySem.W.excInitIn K C leX "LookupError.__new__") && (PySem.W.excOver K C leX))) && (PySem.W.hasDictIn K C && (decide (PySem.W.findIn K (.ref C) "__setattr__" = some (some (.builtin "object.__setattr__"))) && (decide (PySem.W.subIn K (.ref C) (.type "BaseException") = some true) && (decide (PySem.W.typeIn K (.ref C) = some (.type "type")) && PySem.W.keepIn K (.ref C)))))
theorem oexB_ok {K : PySem.W.Frag} {C : Addr} (h : oexB K C = true) : OexG K C := by
  obtain ⟨h1, h⟩ := Bool.and_eq_true_iff.mp h
  obtain ⟨h6, h⟩ := Bool.and_eq_true_iff.mp h
  obtain ⟨h2, h⟩ := Bool.and_eq_true_iff.mp h
  obtain ⟨h3, h⟩ := Bool.and_eq_true_iff.mp h
  obtain ⟨h4, h5⟩ := Bool.and_eq_true_iff.mp h
  refine ⟨?_, h6, of_decide_eq_true h2, of_decide_eq_true h3, of_decide_eq_true h4, h5⟩
  rcases Bool.or_eq_true_iff.mp h1 with z | z
  · obtain ⟨z1, z2⟩ := Bool.and_eq_true_iff.mp z
    exact ⟨_, _, _, veX, PySem.F.excBase_ValueError, PySem.F.store_ValueError, z1, z2⟩
  · obtain ⟨z1, z2⟩ := Bool.and_eq_true_iff.mp z
    exact ⟨_, _, _, leX, PySem.F.excBase_LookupError, PySem.F.store_LookupError, z1, z2⟩
end L3

namespace L3
open PySem PySem.Spec PyProof.Rows L2
/-! ### a def by its body -/
def fnF (n : Nat) (fs : SS) : List D → Sto → R D := fun ds μ => match fs (ds.map some ++ List.replicate (n - ds.length) none) μ with
  | .nx _ μ' => .ok .non μ'
  | .rt d μ' => .ok d μ'
  | .exc c ns vs _ μ' => .exc c ns vs μ'
  | _ => .bad
theorem start_rel {P : Pm} {H : Hp} {L : Lv} {N : List Str} {vs : List V} {ds : List D} (r : Reps P H L vs ds) : RelS P H L (L2.start N vs) (ds.map some ++ List.replicate (N.length - ds.length) none) := by
  have hl := r.length
  refine ⟨by simp [L2.start, hl], fun i d h => ?_⟩
  by_cases hi : i < ds.length
  · rw [List.getElem?_append_left (by simpa using hi), List.getElem?_map] at h
    cases e : ds[i]? with
    | none => rw [e] at h; cases h
    | some d' =>
      rw [e] at h
      cases h
      obtain ⟨v, h1, h2⟩ := r.get e
      refine ⟨v, ?_, h2⟩
      unfold L2.start
      rw [List.getElem?_append_left (by rw [List.length_map, hl]; exact hi), List.getElem?_map, h1]
      rfl
  · rw [List.getElem?_append_right (by simpa using hi), List.getElem?_replicate] at h
    split at h <;> cases h
section
variable {P : Pm} {Pr : Program} {w : World} {mg : Str → Option Value} {base : Heap} {x qual : Str} {params : Arguments} {body : List Stmt} {scope : Scope} {dvs : List V} {kws : List (Str × V)} {f : Addr} {fd : FuncData} {N ps : List Str} {k n : Nat}
theorem fn_ok {fs : SS} (F : FunD P.K x qual params body scope dvs kws f fd) (S : FnScope N ps scope) (hn : ps.length = n)
    (hb : ∀ (cdv : Value) (A : Around) (outer : List _root_.PySem.Env) (s : Shared) (H : Hp) (E : XK), Room k (A.deeper (envOfC qual scope s.heap.objs.size f cdv)) →
      VSs P (fun cls d _ H => E cls d H) (cxOf (L2.CX Pr w) Pr w P.K mg base N qual scope f cdv A outer s H E) body fs) :
    FnOk Pr w P.K mg base (L2.CX Pr w) (k + 1) f fd ps (spF P n (fnF N.length fs)) := by
  refine F.ok S (fun vs H Q E h => by rw [hn]; exact h.1) fun cdv A outer s H vs Q E hr h => ?_
  obtain ⟨_, L, ds, μ, r, st, q⟩ := h
  refine ⟨_, hb cdv A outer s H E hr, L, _, μ, start_rel r, st, ?_⟩
  unfold fnF at q
  cases e : fs (ds.map some ++ List.replicate (N.length - ds.length) none) μ with
  | nx ρ μ' => rw [e] at q; exact fun σ' L' H' x s' rs' => q L' H' x s' _ .non
  | rt d μ' => rw [e] at q; exact fun v L' H' x s' r' => q L' H' x s' v r'
  | bk ρ μ' => rw [e] at q; exact q.elim
  | ct ρ μ' => rw [e] at q; exact q.elim
  | exc c ns vs ρ μ' => rw [e] at q; exact fun σ' C dx L' H' hc x s' rs' f => q C dx L' H' hc x s' f
  | bad => rw [e] at q; exact q.elim
end
theorem fn_bad {P : Pm} {Pr : Program} {w : World} {mg : Str → Option Value} {base : Heap} {CX : CXT} {f : Addr} {fd : FuncData} {ps : List Str} {k n : Nat} (hn : ps.length = n) : FnOk Pr w P.K mg base CX k f fd ps (spF P n fun _ _ => .bad) :=
  ⟨fun vs H Q E h => by rw [hn]; exact h.1, fun A outer s H args us vs Q E hr e0 hb hv h => by
    obtain ⟨_, L, ds, μ, r, st, q⟩ := h
    exact q.elim⟩
/-! ### raising -/
/-- what an exception class's __init__ leaves: the fields ns with the values mk of the arguments -/
def spXI (K : PySem.W.Frag) (n : Nat) (ns : List Str) (mk : List V → List V) : Sp := fun vs H Q _ => ∃ (a C : Addr) (args : List V), vs = .ref a :: args ∧ args.length = n ∧ OexG K C ∧ (∀ f ∈ ns, PySem.W.findIn K (.ref C) f = some none) ∧ H a = some (exo a C none) ∧
  ∀ (dx : Addr) (H' : Hp), H dx = none → dx ≠ a → H' a = some (exo a C (some dx)) → H' dx = some (exd dx (ns.zip (mk args))) → (∀ b, b ≠ a → b ≠ dx → H' b = H b) → Q .non H'
/-- how an exception's fields come of its arguments -/
structure XMk (n : Nat) (ns : List Str) (mkV : List V → List V) (mkD : List D → List D) : Prop where
  len : ∀ vs : List V, vs.length = n → (mkV vs).length = ns.length
  rel : ∀ (P : Pm) (H : Hp) (L : Lv) (vs : List V) (ds : List D), Reps P H L vs ds → ds.length = n → Reps P H L (mkV vs) (mkD ds)
def sRaise (c : Str) (n : Nat) (ns : List Str) (mk : List D → List D) (fa : SA) : SS := fun ρ μ => (fa ρ μ).thn ρ fun ds μ1 => if ds.length = n then .exc c ns (mk ds) ρ μ1 else .bad
section
variable {P : Pm} {W : WX} {X : Cx} {CXc : CXT} {x c : Str} {C fI : Addr} {k n : Nat} {fd : FuncData} {ps : List Str} {ns : List Str} {mkV : List V → List V} {mkD : List D → List D} {pos p ppos : Pos} {e : Expr} {es : List Expr} {fa : SA}
theorem tMk_of {D : Ends} {σ : L2.St} {H : Hp} (M : XMk n ns mkV mkD) (T : OexG X.K C) (hf : ∀ f ∈ ns, PySem.W.findIn X.K (.ref C) f = some none) (hcls : P.cls c = some C) (hn : n ≤ 1000) (h : tS P W (sRaise c n ns mkD fa) D σ H) :
    tMkO C (spXI X.K n ns mkV) [] (tVA P W fa) σ H (fun cls d H' => W cls d σ H') := by
  obtain ⟨L, ρ, μ, rs, st, q⟩ := h
  refine tVA.firstS rs st q fun ds μ1 vs L1 H1 x1 s1 r1 rs1 q1 => ?_
  by_cases cl : ds.length = n
  case neg => rw [if_neg cl] at q1; exact q1.elim
  rw [if_pos cl] at q1
  have hl : vs.length = n := r1.length.trans cl
  refine ⟨by omega, fun a na => ⟨a, C, vs, by rw [List.append_nil], hl, T, hf, upd_same, fun dx H' nd ne e1 e2 e3 => ⟨rfl, dx, _, e1, e2, ?_, ?_⟩⟩⟩
  · rw [upd_ne ne] at nd; exact nd
  · have nd1 : H1 dx = none := by rw [upd_ne ne] at nd; exact nd
    have gr : ∀ b o, H1 b = some o → (upd (L2.del H' a) dx (.xd (ns.zip (mkV vs)))) b = some o := fun b o e => by
      have h1 : b ≠ dx := ne_of_none e nd1
      have h2 : b ≠ a := ne_of_none e na
      rw [upd_ne h1, del_ne h2, e3 b h2 h1, upd_ne h2]
      exact e
    have x2 : Ext P L1 H1 L1 _ := Ext.grow s1 gr
    exact q1 σ C dx L1 _ hcls x2 (s1.grow gr) (rs1.ext x2) ⟨mkV vs, upd_same, (M.len vs hl).symm, (M.rel P _ _ _ _ (r1.ext x2) cl)⟩
/-- the class's call by values: what it makes may be raised -/
theorem oex_called {sp : Sp} {pins : List (Addr × Obj)} {σ : L2.St} {H : Hp} {s : Shared} {Q : XK} {us : List Value} {vs : List V} (T : OexG X.K C) (iC : PySem.W.findIn X.K (.ref C) "__init__" = some (some (.ref fI))) (tI : PySem.W.typeIn X.K (.ref fI) = some (.type "function"))
    (F1 : FnOk X.prog X.w X.K X.mg X.base CXc k fI fd ps sp) (room : Room (k + 1) X.A) (hb : Binds X.K fd ps []) (hx : Passes CXc X (fun _ _ _ => False)) (I : Inv X pins σ H s) (rv : Vals vs us) (few : vs.length ≤ 1000)
    (ask : ∀ a, H a = none → sp (.ref a :: vs) (upd H a (exo a C none)) (fun v H2 => v = .non ∧ ∃ (d : Addr) (fs : List (Str × V)), H2 a = some (exo a C (some d)) ∧ H2 d = some (exd d fs) ∧ H d = none ∧ Q (.ref C) (some d) (upd (L2.del H2 a) d (.xd fs))) (fun _ _ _ => False)) :
    wpAny (model X.prog X.w) X.A (call (.ref C) us) (MkP X pins σ Q) X.xe s := by
  have room2 := room
  rcases fam_C T I.kIn with ⟨_, _, _, _, _, _, _, _, bm, _, _, _, _, _, _, _, _, _, _, _, FB, atC, tail⟩
  cases s with
  | mk hp gs dr tk os =>
    let ar : Heap := hp.push (PySem.W.kdv_tup us)
    let ex : Heap := ar.push (PySem.HandSPX.excO C hp.objs.size)
    have grows : ∀ q u, hp.get? q = some u → ex.get? q = some u := fun q u e => Heap.get?_push_of_some _ (Heap.get?_push_of_some _ e)
    have place : ex.get? (hp.objs.size + 1) = some (PySem.HandSPX.excO C hp.objs.size) := by
      show ((hp.push (PySem.W.kdv_tup us)).push (PySem.HandSPX.excO C hp.objs.size)).get? (hp.objs.size + 1) = _
      heap_get
    have free : H (hp.objs.size + 1) = none := I.hok.fresh (Nat.le_succ _)
    have laid : Inv X pins σ (upd H (hp.objs.size + 1) (exo (hp.objs.size + 1) C none)) ⟨ex, gs, dr, tk, os⟩ := I.laid (t' := tk) grows (Nat.le_succ _) (exo_ok place)
    have few2 : us.length ≤ sizeLine := by
      have := rv.length
      rw [sizeLine_eq]; omega
    have asked := ask _ free
    have same : (.ref (hp.objs.size + 1) :: us : List Value).length = ps.length := by
      rw [← F1.len _ _ _ _ asked]
      simp [rv.length]
    have bound := hb ⟨ex, gs, dr, tk, os⟩ (.ref (hp.objs.size + 1) :: us) laid.kIn (by rw [List.append_nil]; exact same)
    rw [List.append_nil] at bound
    have body := F1.run _ X.stack _ _ ⟨.ref (hp.objs.size + 1) :: us, []⟩ _ _ _ (fun _ _ _ => False) (room2.make C us []) (laid.env0.make C us []) bound (.cons (show RelV (V.ref (hp.objs.size + 1)) _ from rfl) rv) asked
    refine wpAny_call (PySem.HandSPX.call_own FB tail atC (PySem.W.looks_findIn I.kIn iC) (fun self => PySem.W.bind_fn I.kIn self tI) few2 (codeAny_mono body fun out s2 got => ?_))
    match out, got with
    | .error er, got => exact hx pins σ _ _ er s2 laid got
    | .ok .next, got => exact got.elim
    | .ok .brk, got => exact got.elim
    | .ok .cont, got => exact got.elim
    | .ok (.ret u), ⟨_, H2, sameOs, bare, un, hok, ru, isNone, d, fs, atE, atD, freeD, q⟩ =>
      subst isNone
      cases s2
      exact ⟨ru, mk_end (raises_own T.exC T.tyC) I (Nat.le_succ _) grows un hok sameOs bare atE atD freeD q⟩
theorem pmk_oex0 {sp : Sp} (T : OexG X.K C) (iC : PySem.W.findIn X.K (.ref C) "__init__" = some (some (.ref fI))) (tI : PySem.W.typeIn X.K (.ref fI) = some (.type "function"))
    (F1 : FnOk X.prog X.w X.K X.mg X.base CXc k fI fd ps sp) (room : Room (k + 1) X.A) (hb : Binds X.K fd ps []) (hx : Passes CXc X (fun _ _ _ => False)) (hg : Gl X x) (hm : X.mg x = some (.ref C)) (notDebug : (x == ("__debug__" : Str)) = false := by decide) :
    PMk X (.Call (.Name x p) [] [] pos) (tMkO C sp [] tNil) := fun pins s σ H Q I asks =>
  wpAny_Call_Name_kw (ld_glob I hg hm (PySem.W.callWith_K0 I.kIn T.kC (oex_called T iC tI F1 room hb hx I .nil (Nat.zero_le _) fun a free => asks.2 a free)) notDebug)
theorem vs_raise0 (hcalm : X.calm = true) (tk : Takes X W) (T : OexG X.K C) (iC : PySem.W.findIn X.K (.ref C) "__init__" = some (some (.ref fI))) (tI : PySem.W.typeIn X.K (.ref fI) = some (.type "function"))
    (F1 : FnOk X.prog X.w X.K X.mg X.base CXc k fI fd ps (spXI X.K 0 ns mkV)) (hr : Room (k + 1) X.A) (hb : Binds X.K fd ps []) (hx : Passes CXc X (fun _ _ _ => False)) (hg : Gl X x) (hm : X.mg x = some (.ref C)) (M : XMk 0 ns mkV mkD)
    (hf : ∀ f ∈ ns, PySem.W.findIn X.K (.ref C) f = some none) (hcls : P.cls c = some C) (hdb : (x == ("__debug__" : Str)) = false := by decide) :
    VS P W X (.Raise (some (.Call (.Name x p) [] [] pos)) none ppos) (sRaise c 0 ns mkD aNil) :=
  (ps_raise hcalm tk (pmk_oex0 T iC tI F1 hr hb hx hg hm hdb)).imp3 fun D σ H h => by
    have z := tMk_of M T hf hcls (Nat.zero_le _) h
    obtain ⟨L, ρ, μ, rs, st, q⟩ := z
    exact q L H .refl st [] .nil
end
/-! ### the __init__ of an exception class: self.word = .., self.f = f -/
section
variable {P : Pm} {Pr : Program} {w : World} {K : PySem.W.Frag} {mg : Str → Option Value} {base : Heap} {qual : Str} {params : Arguments} {body : List Stmt} {scope : Scope} {f : Addr} {fd : FuncData} {CXc : CXT}
theorem xinit0 {wd fw : Str} {p1 p2 p3 p4 : Pos} {k0 : Nat} (F : FunD K "__init__" qual params body scope [] [] f fd) (S : FnScope ["self"] ["self"] scope) (hb : body = [.Assign [.Attribute (.Name "self" p1) fw p2] (.Constant (.str wd) k0 p3) p4]) :
    FnOk Pr w K mg base CXc 1 f fd ["self"] (spXI K 0 [fw] fun _ => [.str wd]) := by
  subst hb
  refine F.ok S (fun vs H Q E ⟨a, C, args, e, hl, _⟩ => by rw [e]; simp [hl]) fun cdv A outer s H vs Q E hr h => ?_
  obtain ⟨a, C, args, rfl, hl, T, hf, ha, q⟩ := h
  have e0 : args = [] := List.length_eq_zero_iff.mp hl
  subst e0
  have v0 : Vis scope "self" := by rcases S.par "self" (by simp) with z | z; exact .inl z; exact .inr (.inl z)
  refine ⟨_, pss_one (ps_ostG (pe_var (i := 0) rfl v0) pe_str), ?_⟩
  refine ⟨_, rfl, a, C, rfl, T, hf fw (by simp), .inl ⟨ha, fun dx n ne => q dx _ n ne upd_same ?_ ?_⟩⟩
  · rw [upd_ne ne, upd_same]; rfl
  · intro b h1 h2
    rw [upd_ne h1, upd_ne h2]
end
theorem xmk0 {fw wd : Str} : XMk 0 [fw] (fun _ => [.str wd]) (fun _ => [.str wd]) := ⟨fun _ _ => rfl, fun P H L vs ds r h => .cons (.str _) .nil⟩
theorem Reps.rev {P : Pm} {H : Hp} {L : Lv} : ∀ {vs : List V} {ds : List D}, Reps P H L vs ds → Reps P H L vs.reverse ds.reverse
  | _, _, .nil => .nil
  | _, _, .cons h r => by rw [List.reverse_cons, List.reverse_cons]; exact (Reps.rev r).append (.cons h .nil)
end L3

namespace L3
open PySem PySem.Spec PyProof.Rows L2
/-! ### several except clauses, each as a name -/
/-- behind a suite the name in slot i is gone -/
def Ends.gone (D : Ends) (i : Nat) : Ends := { nx := fun σ H => D.nx (σ.set i none) H, rt := D.rt, bk := fun σ H => D.bk (σ.set i none) H, ct := fun σ H => D.ct (σ.set i none) H }
abbrev Suite := Addr → Value → Option Addr → TS
def wManyA (K : PySem.W.Frag) (i : Nat) (Wout : WX) (D : Ends) : List (Value × Suite) → WX
  | [] => Wout
  | (c, ts) :: r => fun cls d σ H => ∃ b, PySem.W.exmOne K cls c = some b ∧ (b = true → ∀ a, H a = none → ts a cls d (Ends.gone D i) (σ.set i (some (.ref a))) H) ∧ (b = false → wManyA K i Wout D r cls d σ H)
inductive HdsA (X : Cx) (n : Str) : List ExceptHandler → List (Value × Suite) → Prop
  | nil : HdsA X n [] []
  | cons {x : Str} {c : Value} {ts : Suite} {st : Stmt} {sts : List Stmt} {p1 p2 : Pos} {hds : List ExceptHandler} {l : List (Value × Suite)} (nm : Names X x c)
      (su : ∀ (a : Addr) (oe : Obj) (cls : Value) (d : Option Addr) (pn : List (Addr × Obj)), Zc cls d oe → (∃ vs, oe.data = .fields vs) → PSs (X.suite a ((a, oe) :: pn)) (st :: sts) (ts a cls d)) (more : HdsA X n hds l) :
      HdsA X n (.ExceptHandler (some (.Name x p1)) (some n) (st :: sts) p2 :: hds) ((c, ts) :: l)
/-- an exception that the frame of X has met: the object is a, noted over the ground B; without it the state is good -/
structure Met (X : Cx) (pins : List (Addr × Obj)) (σ : L2.St) (H : Hp) (a : Addr) (B : Heap) (cls : Value) (d : Option Addr) (s : Shared) : Prop where
  fly : HandSPX.FlyingZ B (X.env :: X.outer) a (Zc cls d) s.heap
  inv : Inv X pins σ H s
  free : H a = none
  notL : a ≠ X.env.locals
  notF : a ∉ X.fs
  /-- whatever state is reached from here by the frames' slots alone is good, too -/
  again : ∀ h, HandSPX.FlyingZ B (X.env :: X.outer) a (Zc cls d) h → s.heap.UpToSlots h → Inv X pins σ H { s with heap := h }
  /-- and if it is let go on, it is in the air of X -/
  air : ∀ h (W : WX), X.stack = X.env :: X.outer → HandSPX.HeldZ B (X.env :: X.outer) a (Zc cls d) X.env.locals h → s.heap.UpToSlots h → W cls d σ H → XE X W (.ref a) { s with heap := h }
section
variable {X : Cx} {n : Str} {i : Nat} {pins : List (Addr × Obj)} {Wout : WX} {D : Ends} {σ : L2.St} {H : Hp} {a : Addr} {B : Heap} {cls : Value} {d : Option Addr} {s : Shared}
/-- the name of the clause's class, looked up where the exception is handled -/
theorem clause_name {x : Str} {c : Value} {p1 : Pos} {oe : Obj} {pn : List (Addr × Obj)} {E : Value → Shared → Prop} {Q : Value → Shared → Prop} (nm : Names X x c) (S : Inv (X.suite a ((a, oe) :: pn)) [] σ H s) (q : Q c s) :
    wpAny (model X.prog X.w) (X.A.mark (some (.ref a))) (eval (.Name x p1) X.env) Q E s := by
  rcases nm with ⟨gl, nd, inMod | ⟨notMod, blt, nn⟩⟩
  · exact ld_glob (X := X.suite a ((a, oe) :: pn)) S gl inMod q nd
  · exact ld_blt (X := X.suite a ((a, oe) :: pn)) S gl notMod blt q nn nd
/-- no clause took it: it goes on -/
theorem clause_none (hs : X.stack = X.env :: X.outer) (hf : X.env.frame = some X.env.locals) (tk : Takes X Wout) (m : Met X pins σ H a B cls d s) (w : Wout cls d σ H) :
    wpAny (model X.prog X.w) X.A (handleBy (.ref a) X.env []) (SP X pins D) X.xe s := by
  refine wpAny_handleBy_nil ?_
  have thrown : wpAny (model X.prog X.w) X.A (setFlight (.ref a) X.env.frame) (fun _ s2 => wpAny (model X.prog X.w) X.A (throw (.ref a) : Sem Flow) (SP X pins D) X.xe s2) X.xe s := by
    rw [hf]
    exact HandSPX.setFlight_upZ m.fly fun h2 held up => wpAny_throw (tk _ _ (m.air h2 Wout hs held up w))
  rcases id m.fly with ⟨_, _, _, _, _, tb, _, _, atE, _, isF, one, _⟩
  unfold PySem.passOn
  refine wpAny_bind (wpAny_field atE isF one ?_)
  have notNone : ¬ ((Value.ref tb == Value.none) = true) := by simp
  rw [if_neg notNone]
  first
    | exact wpAny_bind (wpAny_pure (wpAny_bind thrown))
    | exact wpAny_bind thrown
/-- a clause's suite, and the name goes -/
theorem clause_suite {st : Stmt} {sts : List Stmt} {p2 : Pos} {ts : Suite} {oe : Obj} (hN : X.N.Nodup) (hi : X.N[i]? = some n) (loc : X.env.kindOf n = some .local) (ok : X.Ok)
    (su : PSs (X.suite a ((a, oe) :: (X.pn ++ pins))) (st :: sts) (ts a cls d)) (S : Inv (X.suite a ((a, oe) :: (X.pn ++ pins))) [] (σ.set i (some (.ref a))) H s) (asks : ts a cls d (Ends.gone D i) (σ.set i (some (.ref a))) H) :
    wpAny (model X.prog X.w) (X.A.mark (some (.ref a))) (execs (st :: sts) X.env) (fun f s2 => wpAny (model X.prog X.w) X.A (do bindName X.env n .none; unbindBehindTheSuite X.env n p2) (fun _ s3 => SP X pins D f s3) X.xe s2) (fun _ _ => False) s := by
  refine wpAny_mono (su.run [] s _ H (Ends.gone D i) S asks) (fun f s2 got => ?_) fun _ _ z => z.elim
  match f, got with
  | .next, ⟨_, _, J, q⟩ => exact gone_ok (J.unsuite ok) hN hi loc fun _ J2 => ⟨_, _, J2, q⟩
  | .brk, ⟨_, _, J, q⟩ => exact gone_ok (J.unsuite ok) hN hi loc fun _ J2 => ⟨_, _, J2, q⟩
  | .cont, ⟨_, _, J, q⟩ => exact gone_ok (J.unsuite ok) hN hi loc fun _ J2 => ⟨_, _, J2, q⟩
  | .ret u, ⟨_, _, _, J, r, q⟩ => exact gone_ok (J.unsuite ok) hN hi loc fun _ J2 => ⟨_, _, _, J2, r, q⟩
/-- the clauses, one after the other -/
theorem clauses (hs : X.stack = X.env :: X.outer) (hf : X.env.frame = some X.env.locals) (hN : X.N.Nodup) (hi : X.N[i]? = some n) (loc : X.env.kindOf n = some .local) (tk : Takes X Wout) (ok : X.Ok) (m : Met X pins σ H a B cls d s) :
    ∀ {hds : List ExceptHandler} {l : List (Value × Suite)}, HdsA X n hds l → wManyA X.K i Wout D l cls d σ H → wpAny (model X.prog X.w) X.A (handleBy (.ref a) X.env hds) (SP X pins D) X.xe s
  | _, _, .nil, w => clause_none hs hf tk m w
  | _, _, .cons nm su more, ⟨b, isOne, yes, no⟩ => by
    obtain ⟨oe, vs, atE, hz, isF⟩ := m.fly.there
    have S := m.inv.suite atE isF m.free m.notL m.notF
    refine wpAny_handleBy_cons (codeAny_handlers_test (clause_name nm S ?_)) (fun z => by cases z)
    have cl : PySem.W.Looks (model X.prog X.w) s.heap (typeOf (.ref a)) cls := fun A Q E s' k q => wpAny_typeOf_ref (k _ _ atE) (by rw [hz.1]; exact q)
    refine (PySem.W.exm_one (M := model X.prog X.w) m.inv.kIn cl isOne).here ?_
    match b, yes, no with
    | false, _, no => exact clauses hs hf hN hi loc tk ok m more (no rfl)
    | true, yes, _ =>
      refine codeAny_handlers_suite_as (HandSPX.lands_againZ m.fly fun h2 fly2 up2 => ?_)
      obtain ⟨oe2, vs2, atE2, hz2, isF2⟩ := fly2.there
      have S2 := (m.again h2 fly2 up2).suite atE2 isF2 m.free m.notL m.notF
      exact store_ok (X := X.suite a ((a, oe2) :: (X.pn ++ pins))) (v := .ref a) S2 hN hi (.inl loc) rfl (fun s3 S3 => wpAny_mono (clause_suite hN hi loc ok (su a oe2 cls d (X.pn ++ pins) hz2 ⟨_, isF2⟩) S3 (yes rfl a m.free)) (fun _ _ q => q) fun _ _ z => z.elim) (.inr loc)
end
end L3

namespace L3
open PySem PySem.Spec PyProof.Rows L2
/-! ### a def that asks what it was handed, and tells what came: told or no, by the word -/
def lookD (f : Str) : List Str → List D → Option D
  | n :: ns, v :: vs => if f = n then some v else lookD f ns vs
  | _, _ => none
theorem look_rep {P : Pm} {H : Hp} {L : Lv} {f : Str} {d : D} : ∀ {ns : List Str} {vs : List V} {ds : List D}, Reps P H L vs ds → ns.length = vs.length → lookD f ns ds = some d → ∃ v, (ns.zip vs).lookup f = some v ∧ Rep P H L v d
  | [], _, _, _, _, h => by cases h
  | _ :: _, _, _, .nil, hl, _ => by simp at hl
  | n :: ns, _, _, .cons (v := v) (vs := vs) r rr, hl, h => by
    unfold lookD at h
    rw [List.zip_cons_cons, List.lookup_cons]
    by_cases e : f = n
    · rw [if_pos e] at h
      cases h
      have e2 : (f == n) = true := by simp [e]
      rw [e2]
      exact ⟨_, rfl, r⟩
    · rw [if_neg e] at h
      have e2 : (f == n) = false := by simp [e]
      rw [e2]
      exact look_rep rr (by simpa using hl) h
def eTried (caught : Str → Bool) (f : SE) : SE := fun ρ μ => match f ρ μ with
  | .ok d μ1 => .ok (.tup [.str "told", d]) μ1
  | .exc c ns vs μ1 => if caught c = true then (match lookD "word" ns vs with
    | some d => .ok (.tup [.str "no", d]) μ1
    | none => .bad) else .bad
  | .bad => .bad
section
variable {X : Cx}
end
section
variable {P : Pm} {W : WX} {X : Cx}
end
end L3

namespace L3
open PySem PySem.Spec PyProof.Rows L2
/-! ### a cell is written -/
section
variable {P : Pm} {H : Hp} {L : Lv} {μ : Sto}
theorem cell_write {k : Nat} {a : Addr} {o o' : HO} {m' : MO} (s : St3 P H L μ) (hk : L.c[k]? = some a) (ho : H a = some o) (hnt : ∀ ps, o ≠ .tbl ps) (hne : ∀ φ, o ≠ .ext φ) (hm : Ext0 L H L (upd H a o') → RepM P (upd H a o') L a m') :
    Ext P L H L (upd H a o') ∧ St3 P (upd H a o') L (μ.set k m') := by
  have ina : a ∈ L.c := List.mem_of_getElem? hk
  have x0 : Ext0 L H L (upd H a o') := by
    refine ⟨fun b u e _ n => ?_, fun _ _ h => h, fun b h => .inl h⟩
    have ne : b ≠ a := fun z => by subst z; exact n (.inl ina)
    rw [upd_ne ne]; exact e
  have prv : ∀ b ∈ L.x, upd H a o' b = H b := fun b h => upd_ne fun z => by subst z; exact (s.dis b h).1 ina
  have hkl : k < μ.length := by rw [← s.len]; exact (List.getElem?_eq_some_iff.mp hk).1
  refine ⟨⟨x0, rfl, prv⟩, ⟨by rw [List.length_set]; exact s.len, fun j b m h1 h2 => ?_, s.nd, fun b h => ⟨(s.dis b h).1, by rw [prv b h]; exact (s.dis b h).2⟩, fun q hq => ?_⟩⟩
  · by_cases hj : k = j
    · subst hj
      rw [List.getElem?_set_self hkl] at h2
      rw [hk] at h1
      cases h1; cases h2
      exact hm x0
    · rw [List.getElem?_set_ne hj] at h2
      have ne : b ≠ a := fun z => by
        subst z
        obtain ⟨l1, e1⟩ := List.getElem?_eq_some_iff.mp hk
        obtain ⟨l2, e2⟩ := List.getElem?_eq_some_iff.mp h1
        exact hj ((List.getElem_inj s.nd).mp (e1.trans e2.symm))
      exact (s.at_ j b m h1 h2).ext0 (fun u e => by rw [upd_ne ne]; exact e) x0
  · obtain ⟨ps, h1, h2, h3⟩ := s.tab q hq
    refine ⟨ps, ?_, h2, fun pos cv hc => ?_⟩
    · rw [upd_ne (fun z => by rw [z, ho] at h1; exact hnt ps (Option.some.inj h1))]; exact h1
    · obtain ⟨c, e, h4⟩ := h3 pos cv hc
      refine ⟨c, e, ?_⟩
      rw [upd_ne (fun z => by rw [z, ho] at h4; exact hne _ (Option.some.inj h4))]
      exact h4
theorem cell_lst {k : Nat} {ds : List D} (s : St3 P H L μ) {v : V} (r : Rep P H L v (.cell k)) (e : μ[k]? = some (.lst ds)) : ∃ a vs, v = .ref a ∧ L.c[k]? = some a ∧ H a = some (.lst vs) ∧ Reps P H L vs ds := by
  cases r with
  | @cell a _ h =>
    have q := s.at_ k a _ h e
    cases q with
    | lst h' r' => exact ⟨a, _, rfl, h, h', r'⟩
theorem lst_write {k : Nat} {a : Addr} {vs vs' : List V} {ds' : List D} (s : St3 P H L μ) (hk : L.c[k]? = some a) (ho : H a = some (.lst vs)) (r : Reps P H L vs' ds') :
    Ext P L H L (upd H a (.lst vs')) ∧ St3 P (upd H a (.lst vs')) L (μ.set k (.lst ds')) :=
  cell_write s hk ho (fun _ z => nomatch z) (fun _ z => nomatch z) fun x => .lst upd_same (r.ext0 x)
end
/-! ### xs[i] = e -/
def setL (k : Nat) (i : Int) (d : D) (μ : Sto) : Option Sto := match μ[k]? with
  | some (.lst ds) => (match ixN ds.length i with
    | some j => some (μ.set k (.lst (ds.set j d)))
    | none => none)
  | _ => none
def sSub (fe fo fi : SE) : SS := fun ρ μ => (fe ρ μ).thn ρ fun d μ1 => (fo ρ μ1).thn ρ fun o μ2 => (fi ρ μ2).thn ρ fun i μ3 => match o, i with
  | .cell k, .int z => (match setL k z d μ3 with
    | some μ4 => .nx ρ μ4
    | none => .bad)
  | _, _ => .bad
section
variable {P : Pm} {W : WX} {X : Cx} {pos p2 : Pos} {o i e : Expr} {fe fo fi : SE}
theorem vs_sub (he : VE P W X e fe) (ho : VE P W X o fo) (hi : VE P W X i fi) (hs : swapsWithSole [.Subscript o i p2] e pos.line X.env = pure false := by rfl) (hw : swappedStores [.Subscript o i p2] e X.env = pure none := by rfl)
    (h1 : (assignEach [.Subscript o i p2] X.env).map (·.2) = [assign (.Subscript o i p2) X.env] := by rfl)
    (ha : ∀ v, assign (.Subscript o i p2) X.env v = (do
      let ov ← holding [v] (eval o X.env)
      let iv ← holding [v, ov] (eval i X.env)
      standAt p2
      holding [v, ov, iv] (setItem ov iv v)
      release [v, ov, iv] []) := by intro _; rfl) : VS P W X (.Assign [.Subscript o i p2] e pos) (sSub fe fo fi) :=
  (ps_asg he (pg_sub ho hi set_list ha) hs hw h1).imp3 fun D σ H ⟨L, ρ, μ, rs, s, q⟩ => by
    refine tV.firstS rs s q fun d μ1 v L1 H1 x1 s1 r1 rs1 q1 => ?_
    refine tV.firstS rs1 s1 q1 fun od μ2 ov L2 H2 x2 s2 r2 rs2 q2 => ?_
    refine tV.firstS rs2 s2 q2 fun id μ3 iv L3 H3 x3 s3 r3 rs3 q3 => ?_
    cases od with
    | cell k =>
      cases id with
      | int z =>
        cases r3
        have q3 : PostS P W D L3 H3 (match setL k z d μ3 with
          | some μ4 => .nx ρ μ4
          | none => .bad) := q3
        unfold setL at q3
        cases e1 : μ3[k]? with
        | none => simp only [e1] at q3; exact q3.elim
        | some m =>
          cases m with
          | dct _ _ => simp only [e1] at q3; exact q3.elim
          | ins _ _ _ => simp only [e1] at q3; exact q3.elim
          | oth _ _ _ => simp only [e1] at q3; exact q3.elim
          | lst ds =>
            simp only [e1] at q3
            cases e2 : ixN ds.length z with
            | none => simp only [e2] at q3; exact q3.elim
            | some j =>
              simp only [e2] at q3
              obtain ⟨a, vs, rfl, hk, ho', rr⟩ := cell_lst s3 (r2.ext x3) e1
              obtain ⟨x4, s4⟩ := lst_write s3 hk ho' (rr.set ((r1.ext x2).ext x3) j)
              exact ⟨a, vs, z, j, rfl, rfl, ho', by rw [rr.length]; exact e2, q3 σ L3 _ x4 s4 (rs3.ext x4)⟩
      | _ => exact q3.elim
    | _ => exact (by cases id <;> exact q3.elim)
end
/-! ### methods of lists that change them -/
/-- a built-in method: the rule r of the receiver and the arguments is served where g gives something -/
def MtS (P : Pm) (r : V → List V → Hp → VK → Prop) (g : D → List D → Sto → R D) : Prop := ∀ (E : XK) (L : Lv) (H : Hp) (μ : Sto) (v : V) (vs : List V) (d : D) (ds : List D) (Q : VK), St3 P H L μ → Rep P H L v d → Reps P H L vs ds →
  Post P E L H (fun d L' H' => ∀ v, Rep P H' L' v d → Q v H') (g d ds μ) → r v vs H Q
/-- the receiver is of the built-in type T -/
def isTy (T : String) (μ : Sto) (d : D) : Bool := match tyD μ d with
  | some t => t.nm == T
  | none => false
def eM (T : String) (g : D → List D → Sto → R D) (f : SE) (fa : SA) : SE := fun ρ μ => (f ρ μ).bind fun d μ1 => if isTy T μ1 d = true then (fa ρ μ1).bind fun ds μ2 => g d ds μ2 else .bad
theorem tyV_of {P : Pm} {X : Cx} {H : Hp} {L : Lv} {μ : Sto} {T : String} (hK : P.K = X.K) (s : St3 P H L μ) {v : V} {d : D} (r : Rep P H L v d) (e : isTy T μ d = true) (hT : T ≠ "tuple" ∧ T ≠ "bool" ∧ T ≠ "NoneType") : tyV X.K T v H := by
  unfold isTy at e
  cases r with
  | non => exact absurd (eq_of_beq e).symm hT.2.2
  | bl b => exact absurd (eq_of_beq e).symm hT.2.1
  | int b => exact (eq_of_beq e).symm
  | str b => exact (eq_of_beq e).symm
  | lst h n r => exact .inl ⟨(eq_of_beq e).symm, _, .of h⟩
  | tup h r => exact absurd (eq_of_beq e).symm hT.1
  | dct h n l r => cases e
  | obj h hc n l r => cases e
  | scr h => exact .inl ⟨(eq_of_beq e).symm, _, hK ▸ h.sq⟩
  | key h n => cases e
  | @cell a k h =>
    have e' : (match (match μ[k]? with
      | some (.lst _) => some Ty.list
      | some (.dct _ _) => some .dict
      | _ => none) with
      | some t => t.nm == T
      | none => false) = true := e
    cases em : μ[k]? with
    | none => rw [em] at e'; cases e'
    | some m =>
      rw [em] at e'
      have q := s.at_ k a m h em
      cases q with
      | lst h' r' => exact .inl ⟨(eq_of_beq e').symm, _, .of h'⟩
      | dct h' l r' => exact .inr (.inr (.inl ⟨(eq_of_beq e').symm, .inl ⟨_, h'⟩⟩))
      | ins h' hc l r' => cases e'
      | oth h' l r' => cases e'
section
variable {P : Pm} {W : WX} {X : Cx} {o e : Expr} {es : List Expr} {fo : SE} {fa : SA} {name : Str} {apos cpos : Pos} {T id : String} {r : V → List V → Hp → VK → Prop} {g : D → List D → Sto → R D}
theorem ve_m (hK : P.K = X.K) (hT : T ≠ "tuple" ∧ T ≠ "bool" ∧ T ≠ "NoneType") (pa : PlainAttrs T) (slot : Slot T name id) (hty : typeOf (.builtin id) = pure (.type "method_descriptor")) (hm : MtR X id r) (hg : MtS P r g) (ho : VE P W X o fo) (ha : VA P W X (e :: es) fa)
    (hbase : attributeBase o name X.env (eval o X.env) = eval o X.env := by rfl)
    (hfew : ((backTo cpos (starEach (e :: es) X.env)).all (fun x => !x.1) && (backToKw cpos (keywordEach [] X.env)).all (fun x => x.1.isSome)
      && decide ((e :: es).length + ([] : List Keyword).length + (if ([] : List Keyword).isEmpty then 0 else 1) < 30)) = true := by rfl)
    (hline : (apos.endLine == cpos.line) = true := by rfl) (hs : starEach (e :: es) X.env = (false, eval e X.env) :: starEach es X.env := by rfl) (hplain : (backTo cpos (starEach es X.env)).any (·.1) = false := by rfl) :
    VE P W X (.Call (.Attribute o name apos) (e :: es) [] cpos) (eM T g fo fa) :=
  (pe_bm pa slot hty hm ho ha hbase hfew hline hs hplain).imp3 fun σ H Q ⟨L, ρ, μ, rs, st, q⟩ => by
    refine tV.first rs st q fun d μ1 v L1 H1 x1 s1 r1 rs1 q1 => ?_
    by_cases c : isTy T μ1 d = true
    case neg => rw [if_neg c] at q1; exact q1.elim
    rw [if_pos c] at q1
    exact ⟨tyV_of hK s1 r1 c hT, tVA.first rs1 s1 q1 fun ds μ2 vs L2 H2 x2 s2 r2 rs2 q2 => hg _ L2 H2 μ2 v vs d ds Q s2 (r1.ext x2) r2 q2⟩
/-- xs.append(y) -/
def dAppend : D → List D → Sto → R D := fun d es μ => match d, es with
  | .cell k, [y] => (match μ[k]? with
    | some (.lst ds) => if ds.length < sizeLine then .ok .non (μ.set k (.lst (ds ++ [y]))) else .bad
    | _ => .bad)
  | _, _ => .bad
theorem ms_append : MtS P rAppend dAppend := by
  intro E L H μ v vs d es Q s rv rs q
  match d, es, rv, rs, q with
  | .cell k, [y], rv, rs, q =>
    obtain ⟨w, rfl, rw'⟩ := rs.one
    have q : Post P E L H (fun d L' H' => ∀ v, Rep P H' L' v d → Q v H') (match μ[k]? with
      | some (.lst ds) => if ds.length < sizeLine then .ok .non (μ.set k (.lst (ds ++ [y]))) else .bad
      | _ => .bad) := q
    cases e1 : μ[k]? with
    | none => rw [e1] at q; exact q.elim
    | some m =>
      rw [e1] at q
      cases m with
      | dct _ _ => exact q.elim
      | ins _ _ _ => exact q.elim
      | oth _ _ _ => exact q.elim
      | lst ds =>
        have q : Post P E L H (fun d L' H' => ∀ v, Rep P H' L' v d → Q v H') (if ds.length < sizeLine then .ok .non (μ.set k (.lst (ds ++ [y]))) else .bad) := q
        by_cases c : ds.length < sizeLine
        case neg => rw [if_neg c] at q; exact q.elim
        rw [if_pos c] at q
        obtain ⟨a, ws, rfl, hk, ho, rr⟩ := cell_lst s rv e1
        obtain ⟨x4, s4⟩ := lst_write s hk ho (rr.append (.cons rw' .nil))
        exact ⟨a, ws, w, rfl, rfl, ho, by rw [rr.length]; exact c, q L _ x4 s4 _ .non⟩
  | .cell k, [], rv, rs, q => exact q.elim
  | .cell k, _ :: _ :: _, rv, rs, q => exact q.elim
  | .non, _, rv, rs, q => exact q.elim
  | .bl _, _, rv, rs, q => exact q.elim
  | .int _, _, rv, rs, q => exact q.elim
  | .str _, _, rv, rs, q => exact q.elim
  | .lst _, _, rv, rs, q => exact q.elim
  | .tup _, _, rv, rs, q => exact q.elim
  | .dct _ _, _, rv, rs, q => exact q.elim
  | .obj _ _ _, _, rv, rs, q => exact q.elim
  | .scr _, _, rv, rs, q => exact q.elim
  | .key _, _, rv, rs, q => exact q.elim
end
end L3

namespace L3
open PySem PySem.Spec PyProof.Rows L2
open PySem.W in
/-! ### except clauses of one class or of several -/
/-- whether a clause of these classes takes it -/
def clMatch (K : PySem.W.Frag) (cls : Value) : List Value → Option Bool
  | [c] => PySem.W.exmOne K cls c
  | cs => PySem.W.exmAny K cls cs
inductive NamesL (X : Cx) : List Expr → List Value → Prop
  | nil : NamesL X [] []
  | cons {x : Str} {a : Addr} {p : Pos} {es : List Expr} {cs : List Value} (hg : Gl X x) (nd : (x == ("__debug__" : Str)) = false) (hm : X.mg x = some (.ref a)) (hs : starEach (.Name x p :: es) X.env = (false, eval (.Name x p) X.env) :: starEach es X.env) (r : NamesL X es cs) : NamesL X (.Name x p :: es) (.ref a :: cs)
inductive HdsB (X : Cx) (n : Str) : List ExceptHandler → List (List Value × Suite) → Prop
  | nil : HdsB X n [] []
  | one {x : Str} {a : Addr} {ts : Suite} {st : Stmt} {sts : List Stmt} {p1 p2 : Pos} {hds : List ExceptHandler} {l : List (List Value × Suite)} (hg : Gl X x) (nd : (x == ("__debug__" : Str)) = false) (hm : X.mg x = some (.ref a))
      (su : ∀ (a : Addr) (oe : Obj) (cls : Value) (d : Option Addr) (pn : List (Addr × Obj)), Zc cls d oe → (∃ vs, oe.data = .fields vs) → PSs (X.suite a ((a, oe) :: pn)) (st :: sts) (ts a cls d)) (more : HdsB X n hds l) :
      HdsB X n (.ExceptHandler (some (.Name x p1)) (some n) (st :: sts) p2 :: hds) (([.ref a], ts) :: l)
  | tup {es : List Expr} {c1 c2 : Value} {cs : List Value} {ts : Suite} {st : Stmt} {sts : List Stmt} {kk : Nat} {p1 p2 : Pos} {hds : List ExceptHandler} {l : List (List Value × Suite)} (nm : NamesL X es (c1 :: c2 :: cs))
      (hl : (c1 :: c2 :: cs).length ≤ sizeLine)
      (su : ∀ (a : Addr) (oe : Obj) (cls : Value) (d : Option Addr) (pn : List (Addr × Obj)), Zc cls d oe → (∃ vs, oe.data = .fields vs) → PSs (X.suite a ((a, oe) :: pn)) (st :: sts) (ts a cls d)) (more : HdsB X n hds l) :
      HdsB X n (.ExceptHandler (some (.Tuple es kk p1)) (some n) (st :: sts) p2 :: hds) ((c1 :: c2 :: cs, ts) :: l)
theorem FlyingZ.grow {B h h' : Heap} {l : List _root_.PySem.Env} {a : Addr} {Z : Obj → Prop} (k : ∀ b o, h.get? b = some o → h'.get? b = some o) (x : HandSPX.FlyingZ B l a Z h) : HandSPX.FlyingZ B l a Z h' := by
  obtain ⟨h1, h2, h3, oe, vs, T, oT, ts, g1, g2, g3, g4, g5, g6, g7, g8, g9⟩ := x
  exact ⟨fun b o e => k b o (h1 b o e), h2, h3.of_keeps fun b o e _ => ⟨o, k b o e, rfl⟩, oe, vs, T, oT, ts, k _ _ g1, g2, g3, g4, g5, g6, k _ _ g7, g8, g9⟩
section
variable {X : Cx} {n : Str} {i : Nat} {pins : List (Addr × Obj)} {Wout : WX} {D : Ends} {σ : L2.St} {H : Hp} {a : Addr} {B : Heap} {cls : Value} {d : Option Addr} {s : Shared}
theorem upTo_grow {h h' : Heap} (k : ∀ b o, h.get? b = some o → h'.get? b = some o) : h.UpToSlots h' := fun b o e _ => ⟨o.slots, by rw [k b o e]⟩
/-- the state with more in its heap -/
theorem Met.grow {h' : Heap} (m : Met X pins σ H a B cls d s) (k : ∀ b o, s.heap.get? b = some o → h'.get? b = some o) : Met X pins σ H a B cls d { s with heap := h' } :=
  ⟨FlyingZ.grow k m.fly, m.again h' (FlyingZ.grow k m.fly) (upTo_grow k), m.free, m.notL, m.notF, fun h fl u => m.again h fl ((upTo_grow k).trans u), fun h W hs held u w => m.air h W hs held ((upTo_grow k).trans u) w⟩
end
/-! ### the telling def with any clauses -/
/-- what a clause tells: the word; and a field; and two fields -/
inductive Shape where
  | w | f (n : Str) | g (n m : Str)
  deriving DecidableEq
def Shape.flds : Shape → List Str
  | .w => ["word"]
  | .f n => ["word", n]
  | .g n m => ["word", n, m]
def Shape.told (ns : List Str) (vs : List D) : Shape → Option D
  | .w => (lookD "word" ns vs).map fun d => .tup [.str "no", d]
  | .f n => (lookD "word" ns vs).bind fun d => (lookD n ns vs).map fun e => .tup [.str "no", d, e]
  | .g n m => (lookD "word" ns vs).bind fun d => (lookD n ns vs).bind fun e => (lookD m ns vs).map fun f => .tup [.str "no", d, .tup [e, f]]
def eAsked (pick : Str → Option Shape) (f : SE) : SE := fun ρ μ => match f ρ μ with
  | .ok d μ1 => .ok (.tup [.str "told", d]) μ1
  | .exc c ns vs μ1 => (match (pick c).bind fun sh => sh.told ns vs with
    | some d => .ok d μ1
    | none => .bad)
  | .bad => .bad
inductive AskS (ev : Str) : List Stmt → Shape → Prop
  | w {j t : Nat} {p1 p2 p3 p4 p5 : Pos} : AskS ev [.Return (some (.Tuple [.Constant (.str "no") j p1, .Attribute (.Name ev p2) "word" p3] t p4)) p5] .w
  | f {j t : Nat} {n : Str} {p1 p2 p3 p4 p5 p6 p7 : Pos} : AskS ev [.Return (some (.Tuple [.Constant (.str "no") j p1, .Attribute (.Name ev p2) "word" p3, .Attribute (.Name ev p6) n p7] t p4)) p5] (.f n)
  | g {j t u : Nat} {n m : Str} {p1 p2 p3 p4 p5 p6 p7 p8 p9 p10 : Pos} : AskS ev [.Return (some (.Tuple [.Constant (.str "no") j p1, .Attribute (.Name ev p2) "word" p3, .Tuple [.Attribute (.Name ev p6) n p7, .Attribute (.Name ev p8) m p9] u p10] t p4)) p5] (.g n m)
/-- the written clauses, their classes' names, what they tell -/
inductive AskN : List Expr → List Str → Prop
  | nil : AskN [] []
  | cons {x : Str} {p : Pos} {es : List Expr} {xs : List Str} (r : AskN es xs) : AskN (.Name x p :: es) (x :: xs)
inductive AskH (ev : Str) : List ExceptHandler → List (List Str × Shape) → Prop
  | nil : AskH ev [] []
  | one {x : Str} {sh : Shape} {su : List Stmt} {p1 p2 : Pos} {hds : List ExceptHandler} {l : List (List Str × Shape)} (s : AskS ev su sh) (r : AskH ev hds l) : AskH ev (.ExceptHandler (some (.Name x p1)) (some ev) su p2 :: hds) (([x], sh) :: l)
  | tup {es : List Expr} {x y : Str} {xs : List Str} {sh : Shape} {su : List Stmt} {k : Nat} {p1 p2 : Pos} {hds : List ExceptHandler} {l : List (List Str × Shape)} (nm : AskN es (x :: y :: xs)) (s : AskS ev su sh) (r : AskH ev hds l) :
      AskH ev (.ExceptHandler (some (.Tuple es k p1)) (some ev) su p2 :: hds) ((x :: y :: xs, sh) :: l)
section
variable {X : Cx}
end

def pickS (K : PySem.W.Frag) (cl : Str → Addr) (cls : Value) : List (List Str × Shape) → Option Shape
  | [] => none
  | (xs, sh) :: r => match clMatch K cls (xs.map fun x => .ref (cl x)) with
    | some true => some sh
    | some false => pickS K cl cls r
    | none => none
section
variable {X : Cx}
end
section
variable {P : Pm} {W : WX} {X : Cx}
end
end L3

namespace OZ
open PySem
variable {K : PySem.W.Frag} {C : Addr}
/-- what an own class with its own == inherits and stands above of -/
structure OwC (K : PySem.W.Frag) (C : Addr) : Prop where
  ne : PySem.W.findIn K (.ref C) "__ne__" = some (some (.builtin "object.__ne__"))
  ob : PySem.W.mroIn K C (.type "object") = some true
  bo : PySem.W.findIn K (.ref C) "__bool__" = some none
  no : PySem.W.mroIn K C (.type "NoneType") = some false
  it : PySem.W.mroIn K C (.type "int") = some false
  sr : PySem.W.mroIn K C (.type "str") = some false
  tu : PySem.W.mroIn K C (.type "tuple") = some false
  cl : PySem.W.findIn K (.ref C) "__class__" = some (some (.builtin "object.__class__"))
  cg : PySem.W.specialIn K (.builtin "object.__class__") "__get__" = some (some (.builtin "getset_descriptor.__get__"))
  ck : PySem.W.takesIn K (.builtin "object.__class__") = some true
  k0 : PySem.W.kitOne K (.type "NoneType") (.ref C) = some false
  k1 : PySem.W.kitOne K (.type "int") (.ref C) = some false
  k2 : PySem.W.kitOne K (.type "str") (.ref C) = some false
  k3 : PySem.W.kitOne K (.type "tuple") (.ref C) = some false
def owB (K : PySem.W.Frag) (C : Addr) : Bool :=
  decide (PySem.W.findIn K (.ref C) "__ne__" = some (some (.builtin "object.__ne__"))) && (decide (PySem.W.mroIn K C (.type "object") = some true) && (decide (PySem.W.findIn K (.ref C) "__bool__" = some none) &&
  (decide (PySem.W.mroIn K C (.type "NoneType") = some false) && (decide (PySem.W.mroIn K C (.type "int") = some false) && (decide (PySem.W.mroIn K C (.type "str") = some false) && (decide (PySem.W.mroIn K C (.type "tuple") = some false) &&
  (decide (PySem.W.findIn K (.ref C) "__class__" = some (some (.builtin "object.__class__"))) && (decide (PySem.W.specialIn K (.builtin "object.__class__") "__get__" = some (some (.builtin "getset_descriptor.__get__"))) &&
  (decide (PySem.W.takesIn K (.builtin "object.__class__") = some true) && (decide (PySem.W.kitOne K (.type "NoneType") (.ref C) = some false) && (decide (PySem.W.kitOne K (.type "int") (.ref C) = some false) &&
  (decide (PySem.W.kitOne K (.type "str") (.ref C) = some false) && decide (PySem.W.kitOne K (.type "tuple") (.ref C) = some false)))))))))))))
theorem owB_ok (h : owB K C = true) : OwC K C := by
  unfold owB at h
  simp only [Bool.and_eq_true, decide_eq_true_eq] at h
  obtain ⟨h1, h2, h3, h4, h5, h6, h7, h8, h9, h10, h11, h12, h13, h14⟩ := h
  exact ⟨h1, h2, h3, h4, h5, h6, h7, h8, h9, h10, h11, h12, h13, h14⟩
end OZ
namespace L3
open PySem PySem.Spec PyProof.Rows L2
/-! ### what the printed texts name -/
def dSl3 : D → Option Int → Option Int → Sto → R D := fun a lo hi μ => match a with
  | .tup ds => if HT.sIx ds.length 0 lo = 0 ∧ HT.sIx ds.length ds.length hi = ds.length then .bad else .ok (.tup (cutD ds lo hi)) μ
  | d => dSlice d lo hi μ
theorem ss_sl3 {P : Pm} {X : Cx} (hK : P.K = X.K) : SlS P (rSl3 X.K) dSl3 := ss_sl hK
def dAddI : D → D → Sto → R D := fun a b μ => match a, b with
  | .int i, .int j => .ok (.int (i + j)) μ
  | _, _ => .bad
/-! ### a def's datum, found in the written part -/
def fdOf (K : PySem.W.Frag) (p : Str × Option Str) : FuncData := match K.lookup (He.fAd K p) with
  | some ⟨_, _, .func fd, _⟩ => fd
  | _ => default
theorem fdOf_eq {K : PySem.W.Frag} {p : Str × Option Str} {x qual : Str} {params : Arguments} {body : List Stmt} {scope : Scope} {dvs : List V} {kws : List (Str × V)} {fd : FuncData} (F : FunD K x qual params body scope dvs kws (He.fAd K p) fd) : fdOf K p = fd := by
  obtain ⟨oc, od, dV, kV, doc, pm, an, cdv, ct, osl, rfl, lk, _, _, _⟩ := F.ex
  unfold fdOf
  rw [lk]
/-- what an exception class must be -/
def exc1 (K : PySem.W.Frag) (q : Str × List Str) : Bool := oexB K (He.ga K q.1) && (q.2.all (fun f => decide (PySem.W.findIn K (.ref (He.ga K q.1)) f = some none)) && (decide (PySem.W.findIn K (.ref (He.ga K q.1)) "__init__" = some (some (.ref (He.ma K (He.ga K q.1) "__init__")))) &&
  decide (PySem.W.typeIn K (.ref (He.ma K (He.ga K q.1) "__init__")) = some (.type "function"))))
/-- what a telling def's clauses hs make of an exception -/
def caught2 (K : PySem.W.Frag) (hs : List (List Str × Shape)) (q : Str × Shape) : Bool := xfB K (He.ga K q.1) && (q.2.flds.all (fun f => decide (PySem.W.findIn K (.ref (He.ga K q.1)) f = some none)) && decide (pickS K (He.ga K) (.ref (He.ga K q.1)) hs = some q.2))
def tdB (K : PySem.W.Frag) (q : List (List Str × Shape) × List (Str × Shape)) : Bool := q.2.all (caught2 K q.1)
/-! the module's constants -/
mutual
def conV (K : PySem.W.Frag) : Value → D → Bool
  | .int i _, .int j => decide (i = j)
  | .str z _, .str y => decide (z = y)
  | .bool b, .bl c => decide (b = c)
  | .none, .non => true
  | .ref a, .tup ds => (match K.lookup a with
    | some ⟨.type t, _, .seq its _, _⟩ => decide (t = "tuple") && (decide (its.size ≤ 1000) && conVs K its.toList ds)
    | _ => false)
  | _, _ => false
def conVs (K : PySem.W.Frag) : List Value → List D → Bool
  | [], [] => true
  | u :: us, d :: ds => conV K u d && conVs K us ds
  | _, _ => false
end
mutual
theorem conV_ok {K : PySem.W.Frag} : ∀ {u : Value} {d : D}, conV K u d = true → ∃ v, RelV v u ∧ ∀ (P : Pm) (H : Hp) (L : Lv), P.K = K → Rep P H L v d
  | u, .int j, h => by
    cases u <;> simp [conV] at h
    exact ⟨.int j, ⟨_, by rw [h]⟩, fun _ _ _ _ => .int j⟩
  | u, .str j, h => by
    cases u <;> simp [conV] at h
    exact ⟨.str j, ⟨_, by rw [h]⟩, fun _ _ _ _ => .str j⟩
  | u, .bl j, h => by
    cases u <;> simp [conV] at h
    exact ⟨.bl j, by rw [h]; rfl, fun _ _ _ _ => .bl j⟩
  | u, .non, h => by
    cases u <;> simp [conV] at h
    exact ⟨.non, rfl, fun _ _ _ _ => .non⟩
  | u, .tup ds, h => by
    cases u with
    | ref a =>
      unfold conV at h
      split at h
      · rename_i t o1 its o2 o3 e
        simp only [Bool.and_eq_true, decide_eq_true_eq] at h
        obtain ⟨h1, h2, h3⟩ := h
        subst h1
        obtain ⟨vs, r, rp⟩ := conVs_ok h3
        exact ⟨.ref a, rfl, fun P H L hK => .tup (.inr ⟨_, its, _, by rw [hK]; exact e, rfl, rfl, by rw [sizeLine_eq]; omega, r⟩) (rp P H L hK)⟩
      · cases h
    | _ => simp [conV] at h
  | u, .lst ds, h => by cases u <;> simp [conV] at h
  | u, .dct ks ds, h => by cases u <;> simp [conV] at h
  | u, .obj c ns ds, h => by cases u <;> simp [conV] at h
  | u, .cell k, h => by cases u <;> simp [conV] at h
  | u, .scr k, h => by cases u <;> simp [conV] at h
  | u, .key k, h => by cases u <;> simp [conV] at h
theorem conVs_ok {K : PySem.W.Frag} : ∀ {us : List Value} {ds : List D}, conVs K us ds = true → ∃ vs, Vals vs us ∧ ∀ (P : Pm) (H : Hp) (L : Lv), P.K = K → Reps P H L vs ds
  | [], [], _ => ⟨[], .nil, fun _ _ _ _ => .nil⟩
  | [], d :: ds, h => by simp [conVs] at h
  | u :: us, [], h => by simp [conVs] at h
  | u :: us, d :: ds, h => by
    simp only [conVs, Bool.and_eq_true] at h
    obtain ⟨v, r1, p1⟩ := conV_ok h.1
    obtain ⟨vs, r2, p2⟩ := conVs_ok h.2
    exact ⟨v :: vs, .cons r1 r2, fun P H L hK => .cons (p1 P H L hK) (p2 P H L hK)⟩
end
def conB (K : PySem.W.Frag) (q : Str × D) : Bool := match PySem.W.nsIn K mainGlobals q.1 with
  | some (some u) => conV K u q.2
  | _ => false
/-- a law's tables: facts, defs, defs with lambdas, exceptions raised with their fields, telling defs with what they catch, constants, classes -/
structure Lw where
  fa : List He.Fa
  fn : List He.DefD
  tf : List He.Defn
  xs : List (Str × List Str)
  tds : List (List (List Str × Shape) × List (Str × Shape))
  cn : List (Str × D)
  cs : List Str
  kds : List (Str × List (Str × D)) := []
  kwv : List (Str × Str × D) := []
  ow : List Str := []
/-- a written dict's entries are these -/
def kdL (K : PySem.W.Frag) : List DictEntry → List (Str × D) → Bool
  | [], [] => true
  | e :: es, q :: qs => (match e.key with
    | .str k _ => decide (k = q.1)
    | _ => false) && (conV K e.val q.2 && kdL K es qs)
  | _, _ => false
def kdB (K : PySem.W.Frag) (q : Str × List (Str × D)) : Bool := match K.lookup (He.ga K q.1) with
  | some ⟨_, _, .dict es _, _⟩ => kdL K es.toList q.2
  | _ => false
/-- a keyword-only parameter's default is this -/
def kwvB (K : PySem.W.Frag) (q : Str × Str × D) : Bool := match K.lookup (He.ga K q.1) with
  | some ⟨_, _, .func fd, _⟩ => (match fd.kwdefaults with
    | .ref D => (match PySem.W.nsIn K D q.2.1 with
      | some (some u) => conV K u q.2.2
      | _ => false)
    | _ => false)
  | _ => false
def Lw.ex (l : Lw) (K : PySem.W.Frag) : Bool := l.xs.all (exc1 K) && (l.tds.all (tdB K) && (l.cn.all (conB K) && (decide ((l.tf.map fun p => (He.cT K p).2).Nodup) && (l.kds.all (kdB K) && ((l.kds.all fun q => match PySem.W.nsIn K mainGlobals q.1 with
    | some (some (.ref a)) => decide (a = He.ga K q.1)
    | _ => false) && (l.kwv.all (kwvB K) && l.ow.all fun x => OZ.owB K (He.ga K x)))))))
/-- a law's facts -/
structure Fct (l : Lw) (P : Pm) (mg : Str → Option Value) (base : Heap) (w : World) : Prop where
  c : He.SaysD l.fa l.fn P.K
  X : P.K.In base
  G : base.Ns mainGlobals mg
  tb : ∀ p ∈ l.tf, LamX.TabB base mg (He.cT P.K p).1 (He.cT P.K p).2
  ex : l.ex P.K = true
  cls : P.cls = fun x => if x ∈ l.cs then some (He.ga P.K x) else none
  hT : P.T = l.tf.map fun p => ((He.cT P.K p).2, p.1 ++ (".<locals>." : Str) ++ ("<lambda>" : Str))
  kd : ∀ q ∈ l.kds, ∃ es n, KDict P.K w (He.ga P.K q.1) es n
section
variable {l : Lw} {P : Pm} {mg : Str → Option Value} {base : Heap} {w : World}
theorem Fct.fun_ (T : Fct l P mg base w) (i : Nat) {d : He.DefD} (h : l.fn[i]? = some d) : FunD P.K d.name d.qual d.params d.body d.scope (d.dvs P.K) (d.kws P.K) (He.fAd P.K d.at_) (fdOf P.K d.at_) := by
  obtain ⟨fd, F⟩ := T.c.def_ i h
  rw [fdOf_eq F]
  exact F
theorem Fct.glo (T : Fct l P mg base w) (i : Nat) {x : Str} (h : l.fa[i]? = some (.glo x)) : mg x = some (.ref (He.ga P.K x)) := He.glo_ok T.X T.G (T.c.fact i h)
theorem Fct.free (T : Fct l P mg base w) (i : Nat) {x : Str} (h : l.fa[i]? = some (.free x)) : mg x = none := He.free_ok T.X T.G (T.c.fact i h)
theorem Fct.exc (T : Fct l P mg base w) (i : Nat) {q : Str × List Str} (h : l.xs[i]? = some q) : OexG P.K (He.ga P.K q.1) ∧ (∀ f ∈ q.2, PySem.W.findIn P.K (.ref (He.ga P.K q.1)) f = some none) ∧ PySem.W.findIn P.K (.ref (He.ga P.K q.1)) "__init__" = some (some (.ref (He.ma P.K (He.ga P.K q.1) "__init__"))) ∧
    PySem.W.typeIn P.K (.ref (He.ma P.K (He.ga P.K q.1) "__init__")) = some (.type "function") := by
  have h1 := List.all_eq_true.mp (Bool.and_eq_true_iff.mp T.ex).1 q (List.mem_of_getElem? h)
  obtain ⟨g1, h1⟩ := Bool.and_eq_true_iff.mp h1
  obtain ⟨g2, h1⟩ := Bool.and_eq_true_iff.mp h1
  obtain ⟨g3, g4⟩ := Bool.and_eq_true_iff.mp h1
  exact ⟨oexB_ok g1, fun f hf => of_decide_eq_true (List.all_eq_true.mp g2 f hf), of_decide_eq_true g3, of_decide_eq_true g4⟩
theorem Fct.clsOf (T : Fct l P mg base w) {x : Str} (h : decide (x ∈ l.cs) = true) : P.cls x = some (He.ga P.K x) := by
  rw [T.cls]
  exact if_pos (of_decide_eq_true h)
theorem Fct.con (T : Fct l P mg base w) (i : Nat) {x : Str} {d : D} (h : l.cn[i]? = some (x, d)) : ∃ u v, mg x = some u ∧ RelV v u ∧ ∀ (H : Hp) (L : Lv), Rep P H L v d := by
  have h1 := List.all_eq_true.mp (Bool.and_eq_true_iff.mp (Bool.and_eq_true_iff.mp (Bool.and_eq_true_iff.mp T.ex).2).2).1 _ (List.mem_of_getElem? h)
  unfold conB at h1
  split at h1
  · rename_i u e
    obtain ⟨v, r, p⟩ := conV_ok h1
    exact ⟨u, v, PySem.W.mg_of T.X T.G e, r, fun H L => p P H L rfl⟩
  · cases h1
theorem Fct.name (T : Fct l P mg base w) {W : WX} {X : Cx} {pos : Pos} {x : Str} {d : D} (i : Nat) (h : l.cn[i]? = some (x, d)) (hmg : X.mg = mg) (hg : Gl X x) (hd : (x == ("__debug__" : Str)) = false := by decide) : VE P W X (.Name x pos) (eC d) := by
  obtain ⟨u, v, h1, h2, h3⟩ := T.con i h
  exact ve_c (pe_glob hg (by rw [hmg]; exact h1) h2 hd) fun L H => h3 H L
theorem Fct.tu (T : Fct l P mg base w) (i : Nat) {p : He.Defn} (h : l.tf[i]? = some p) {q : Str} (hq : q = p.1 ++ (".<locals>." : Str) ++ ("<lambda>" : Str)) : ∀ z ∈ P.T, z.1 = (He.cT P.K p).2 → z.2 = q := fun z hz e => by
  rw [T.hT] at hz
  obtain ⟨p', hp', e'⟩ := List.mem_map.mp hz
  have nd := of_decide_eq_true (Bool.and_eq_true_iff.mp (Bool.and_eq_true_iff.mp (Bool.and_eq_true_iff.mp (Bool.and_eq_true_iff.mp T.ex).2).2).2).1
  rw [← e'] at e
  have e : (He.cT P.K p').2 = (He.cT P.K p).2 := e
  have : p' = p := by
    obtain ⟨j, hj, ej⟩ := List.mem_iff_getElem.mp hp'
    obtain ⟨hi, ei⟩ := List.getElem?_eq_some_iff.mp h
    have nd := List.pairwise_iff_getElem.mp nd
    have this : j = i := by
      rcases Nat.lt_trichotomy j i with z | z | z
      · exact (nd j i (by simpa using hj) (by simpa using hi) z (by simp only [List.getElem_map]; rw [ej, ei]; exact e)).elim
      · exact z
      · exact (nd i j (by simpa using hi) (by simpa using hj) z (by simp only [List.getElem_map]; rw [ej, ei]; exact e.symm)).elim
    subst this
    rw [← ej, ← ei]
  subst this
  rw [← e', hq]
end
/-- a written dict: its value, what stands at a key -/
structure KdAt (P : Pm) (w : World) (a : Addr) (kvs : List (Str × D)) : Prop where
  kd : ∃ es n, KDict P.K w a es n
  get : ∀ z : Str, ∃ r, PySem.W.nsIn P.K a z = some r ∧ ((kvs.lookup z = none ∧ r = none) ∨ ∃ d u v, kvs.lookup z = some d ∧ r = some u ∧ RelV v u ∧ ∀ (H : Hp) (L : Lv), Rep P H L v d)
section
variable {l : Lw} {P : Pm} {mg : Str → Option Value} {base : Heap} {w : World}
end
/-! ### a def with lambdas -/
section
variable {P : Pm} {Pr : Program} {w : World} {mg : Str → Option Value} {base : Heap} {x qual : Str} {params : Arguments} {body : List Stmt} {scope : Scope} {dvs : List V} {kws : List (Str × V)} {p : Str × Option Str} {N ps : List Str} {k n : Nat}
end
end L3

namespace L3
open PySem PySem.Spec PyProof.Rows L2
section
variable {fa : List He.Fa} {fn : List He.DefD} {ts : List He.Tab} {tf : List He.Defn} {ex : PySem.W.Frag → Bool}
end
end L3

namespace Pf
open PySem PySem.Spec PyProof.Rows L2 L3

end Pf

namespace Pf
open PySem PySem.Spec PyProof.Rows L2 L3
def top (i : Nat) : Stmt := PySem.Challenge.pw_nevernought_k50_machines_equal_long_and.main.body.getD i (.Pass ⟨0, 0, 0, 0⟩)
abbrev s__law_bag : Stmt := top 14
theorem sc__law_bag : FnScope ["_law_script", "_law_salt", "_law_cell"] ["_law_script"] (defScope s__law_bag) := ⟨rfl, rfl, rfl, by decide +kernel, rfl, by decide +kernel, by decide +kernel⟩
abbrev s__law_pull : Stmt := top 15
theorem sc__law_pull : FnScope ["_law_bag_here", "_law_sides", "_law_cell", "_law_got", "_law_seed"] ["_law_bag_here", "_law_sides"] (defScope s__law_pull) := ⟨rfl, rfl, rfl, by decide +kernel, rfl, by decide +kernel, by decide +kernel⟩
abbrev s__law_of : Stmt := top 16
theorem sc__law_of : FnScope ["_law_bag_here", "_law_some"] ["_law_bag_here", "_law_some"] (defScope s__law_of) := ⟨rfl, rfl, rfl, by decide +kernel, rfl, by decide +kernel, by decide +kernel⟩
abbrev s__law_abc : Stmt := top 22
theorem sc__law_abc : FnScope ["_law_bag_here", "_law_many", "_law_first", "_law_found", "_law_pad", "_law_at", "_law_k", "_law_sign"] ["_law_bag_here", "_law_many"] (defScope s__law_abc) := ⟨rfl, rfl, rfl, by decide +kernel, rfl, by decide +kernel, by decide +kernel⟩
abbrev s__law_gcd : Stmt := top 18
theorem sc__law_gcd : FnScope ["_law_one", "_law_other"] ["_law_one", "_law_other"] (defScope s__law_gcd) := ⟨rfl, rfl, rfl, by decide +kernel, rfl, by decide +kernel, by decide +kernel⟩
abbrev s__law_fr : Stmt := top 19
theorem sc__law_fr : FnScope ["_law_top", "_law_bottom", "_law_per"] ["_law_top", "_law_bottom"] (defScope s__law_fr) := ⟨rfl, rfl, rfl, by decide +kernel, rfl, by decide +kernel, by decide +kernel⟩
abbrev s__law_light : Stmt := top 21
theorem sc__law_light : FnScope ["_law_bag_here"] ["_law_bag_here"] (defScope s__law_light) := ⟨rfl, rfl, rfl, by decide +kernel, rfl, by decide +kernel, by decide +kernel⟩
abbrev s__law_engine : Stmt := top 23
theorem sc__law_engine : FnScope ["_law_bag_here", "_law_signs", "_law_cap", "_law_many", "_law_thin", "_law_steps_now", "_law_sign", "_law_row", "_law_k"] ["_law_bag_here", "_law_signs", "_law_cap"] (defScope s__law_engine) := ⟨rfl, rfl, rfl, by decide +kernel, rfl, by decide +kernel, by decide +kernel⟩
abbrev s_is_letter : Stmt := top 9
theorem sc_is_letter : FnScope ["text", "sign"] ["text"] (defScope s_is_letter) := ⟨rfl, rfl, rfl, by decide +kernel, rfl, by decide +kernel, by decide +kernel⟩
abbrev s_good_lines : Stmt := top 11
theorem sc_good_lines : FnScope ["lines", "many", "line"] ["lines", "many"] (defScope s_good_lines) := ⟨rfl, rfl, rfl, by decide +kernel, rfl, by decide +kernel, by decide +kernel⟩
abbrev s_Machine___init__ : Stmt := inClass (top 12) 0
theorem sc_Machine___init__ : FnScope ["self", "letters", "begin", "steps", "end", "many", "names", "letter", "line"] ["self", "letters", "begin", "steps", "end"] (defScope s_Machine___init__) := ⟨rfl, rfl, rfl, by decide +kernel, rfl, by decide +kernel, by decide +kernel⟩
abbrev s__law_builds : Stmt := top 24
theorem sc__law_builds : FnScope ["_law_m"] ["_law_m"] (defScope s__law_builds) := ⟨rfl, rfl, rfl, by decide +kernel, rfl, by decide +kernel, by decide +kernel⟩
abbrev s_Machine___eq__ : Stmt := inClass (top 12) 7
theorem sc_Machine___eq__ : FnScope ["self", "other"] ["self", "other"] (defScope s_Machine___eq__) := ⟨rfl, rfl, rfl, by decide +kernel, rfl, by decide +kernel, by decide +kernel⟩
abbrev s_Machine___repr__ : Stmt := inClass (top 12) 6
theorem sc_Machine___repr__ : FnScope ["self"] ["self"] (defScope s_Machine___repr__) := ⟨rfl, rfl, rfl, by decide +kernel, rfl, by decide +kernel, by decide +kernel⟩
abbrev s_Machine___len__ : Stmt := inClass (top 12) 5
theorem sc_Machine___len__ : FnScope ["self"] ["self"] (defScope s_Machine___len__) := ⟨rfl, rfl, rfl, by decide +kernel, rfl, by decide +kernel, by decide +kernel⟩
abbrev s__law_same : Stmt := top 17
theorem sc__law_same : FnScope ["_law_found", "_law_due", "_law_k"] ["_law_found", "_law_due"] (defScope s__law_same) := ⟨rfl, rfl, rfl, by decide +kernel, rfl, by decide +kernel, by decide +kernel⟩
abbrev s__law_add : Stmt := top 20
theorem sc__law_add : FnScope ["_law_one", "_law_other"] ["_law_one", "_law_other"] (defScope s__law_add) := ⟨rfl, rfl, rfl, by decide +kernel, rfl, by decide +kernel, by decide +kernel⟩
abbrev s_law : Stmt := top 25
theorem sc_law : FnScope ["_law_script", "_law_bag_here", "_law_signs", "_law_m", "_law_sign", "_law_one", "_law_other", "_law_at", "_law_steps_now", "_law_begun", "_law_ends", "_law_bent", "_law_fewer", "_law_name", "_law_row"] ["_law_script"] (defScope s_law) := ⟨rfl, rfl, rfl, by decide +kernel, rfl, by decide +kernel, by decide +kernel⟩
abbrev sx_BadMachine : Stmt := inClass (top 3) 0
theorem scx_BadMachine : FnScope ["self"] ["self"] (defScope sx_BadMachine) := ⟨rfl, rfl, rfl, by decide +kernel, rfl, by decide +kernel, by decide +kernel⟩
def fn : List He.DefD := [⟨("_law_bag", none), "_law_bag", "_law_bag", defArgs s__law_bag, defBody s__law_bag, defScope s__law_bag, [], []⟩,
  ⟨("_law_pull", none), "_law_pull", "_law_pull", defArgs s__law_pull, defBody s__law_pull, defScope s__law_pull, [], []⟩,
  ⟨("_law_of", none), "_law_of", "_law_of", defArgs s__law_of, defBody s__law_of, defScope s__law_of, [], []⟩,
  ⟨("_law_abc", none), "_law_abc", "_law_abc", defArgs s__law_abc, defBody s__law_abc, defScope s__law_abc, [], []⟩,
  ⟨("_law_gcd", none), "_law_gcd", "_law_gcd", defArgs s__law_gcd, defBody s__law_gcd, defScope s__law_gcd, [], []⟩,
  ⟨("_law_fr", none), "_law_fr", "_law_fr", defArgs s__law_fr, defBody s__law_fr, defScope s__law_fr, [], []⟩,
  ⟨("_law_light", none), "_law_light", "_law_light", defArgs s__law_light, defBody s__law_light, defScope s__law_light, [], []⟩,
  ⟨("_law_engine", none), "_law_engine", "_law_engine", defArgs s__law_engine, defBody s__law_engine, defScope s__law_engine, [], []⟩,
  ⟨("is_letter", none), "is_letter", "is_letter", defArgs s_is_letter, defBody s_is_letter, defScope s_is_letter, [], []⟩,
  ⟨("good_lines", none), "good_lines", "good_lines", defArgs s_good_lines, defBody s_good_lines, defScope s_good_lines, [], []⟩,
  ⟨("Machine", some "__init__"), "__init__", "Machine.__init__", defArgs s_Machine___init__, defBody s_Machine___init__, defScope s_Machine___init__, [], []⟩,
  ⟨("_law_builds", none), "_law_builds", "_law_builds", defArgs s__law_builds, defBody s__law_builds, defScope s__law_builds, [], []⟩,
  ⟨("Machine", some "__eq__"), "__eq__", "Machine.__eq__", defArgs s_Machine___eq__, defBody s_Machine___eq__, defScope s_Machine___eq__, [], []⟩,
  ⟨("Machine", some "__repr__"), "__repr__", "Machine.__repr__", defArgs s_Machine___repr__, defBody s_Machine___repr__, defScope s_Machine___repr__, [], []⟩,
  ⟨("Machine", some "__len__"), "__len__", "Machine.__len__", defArgs s_Machine___len__, defBody s_Machine___len__, defScope s_Machine___len__, [], []⟩,
  ⟨("_law_same", none), "_law_same", "_law_same", defArgs s__law_same, defBody s__law_same, defScope s__law_same, [], []⟩,
  ⟨("_law_add", none), "_law_add", "_law_add", defArgs s__law_add, defBody s__law_add, defScope s__law_add, [], []⟩,
  ⟨("law", none), "law", "law", defArgs s_law, defBody s_law, defScope s_law, [], []⟩,
  ⟨("BadMachine", some "__init__"), "__init__", "BadMachine.__init__", defArgs sx_BadMachine, defBody sx_BadMachine, defScope sx_BadMachine, [], []⟩]
def fa : List He.Fa := [.glo "_law_bag", .glo "_law_pull", .glo "_law_of", .glo "_law_abc", .glo "_law_gcd", .glo "_law_fr", .glo "_law_light", .glo "_law_engine", .glo "is_letter", .glo "good_lines", .glo "_law_builds", .glo "_law_same", .glo "_law_add", .glo "law", .glo "BadMachine", .glo "Machine", .cls "Machine", .noat "Machine" "first", .noat "Machine" "last", .noat "Machine" "signs", .noat "Machine" "ways", .meth "Machine" "__eq__", .meth "Machine" "__len__", .meth "Machine" "__repr__", .mkr "Machine", .free "abs", .free "all", .free "bool", .free "dict", .free "int", .free "isinstance", .free "len", .free "list", .free "range", .free "repr", .free "sorted", .free "str", .free "tuple"]
def tf : List He.Defn := []
def lw : Lw := ⟨fa, fn, tf, [("BadMachine", ["word"])], [], [("LONGEST", .int 6), ("SMALL", .str "abcdefghijklmnopqrstuvwxyz")], ["BadMachine", "Machine"], [], [], ["Machine"]⟩
abbrev T0 (P : Pm) (mg : Str → Option Value) (base : Heap) (w : World) : Prop := Fct lw P mg base w
end Pf

namespace Pf
open PySem PySem.Spec PyProof.Rows L2 L3
def ex : PySem.W.Frag → Bool := lw.ex
abbrev Rw : PySem.W.OpenRow := PySem.W.OpenLaw.row PySem.Challenge.rw_nevernought_k50_machines_equal_long_and
def tsk : List He.Tab := lw.kds.map fun q => (fun K => He.ga K q.1, q.2.map (·.1))
abbrev hk : PySem.W.Hook := He.hookX 4 fa fn tsk tf ex
def ob (s : PySem.W.SharedT) : He.AlX := He.obsX 4 fa fn tsk tf ex (HandSHeadRun.getT s)
theorem ob_eq (s : PySem.W.SharedT) : ob s = hk.obs s.abs := He.obsX_eq (HandSHeadRun.getT_eq s)
abbrev loose : List PySem.Str := [("_wall" : PySem.Str), ("NeverError" : PySem.Str), ("BadMachine" : PySem.Str), ("Missing" : PySem.Str), ("NoLetter" : PySem.Str), ("is_letter" : PySem.Str), ("good_lines" : PySem.Str), ("Machine" : PySem.Str), ("_law_bag" : PySem.Str), ("_law_pull" : PySem.Str), ("_law_of" : PySem.Str), ("_law_same" : PySem.Str), ("_law_gcd" : PySem.Str), ("_law_fr" : PySem.Str), ("_law_add" : PySem.Str), ("_law_light" : PySem.Str), ("_law_abc" : PySem.Str), ("_law_engine" : PySem.Str), ("_law_builds" : PySem.Str), ("LONGEST" : PySem.Str), ("SMALL" : PySem.Str)]
theorem hrun (w : World) : HandSHeadRun.RunEq Rw (PySem.W.view Rw.prog [25]) hk ob 8000 loose w := by
  intro os
  kernel_rfl
end Pf

namespace L3
open PySem PySem.Spec PyProof.Rows L2
/-! ### what a piece of code comes to, asked from behind -/
abbrev Exs := Str → List Str → List D → Sto → Prop
def R.wp {α : Type} (r : R α) (Q : α → Sto → Prop) (E : Exs) : Prop := match r with
  | .ok a μ => Q a μ
  | .exc c ns vs μ => E c ns vs μ
  | .bad => False
def RS.wp (r : RS) (N : Env → Sto → Prop) (T : D → Sto → Prop) (B C : Env → Sto → Prop) (E : Exs) : Prop := match r with
  | .nx ρ μ => N ρ μ
  | .rt d μ => T d μ
  | .bk ρ μ => B ρ μ
  | .ct ρ μ => C ρ μ
  | .exc c ns vs ρ μ => E c ns vs μ
  | .bad => False
abbrev noP : Env → Sto → Prop := fun _ _ => False
abbrev noE : Exs := fun _ _ _ _ => False
section
variable {α β : Type} {Q Q' : α → Sto → Prop} {E E' : Exs} {r : R α} {k : α → Sto → R β} {ρ : Env} {μ : Sto}
theorem wp_mono (h : r.wp Q E) (i : ∀ a μ, Q a μ → Q' a μ) (j : ∀ c ns vs μ, E c ns vs μ → E' c ns vs μ) : r.wp Q' E' := by
  cases r with
  | ok a μ => exact i _ _ h
  | exc c ns vs μ => exact j _ _ _ _ h
  | bad => exact h
theorem wp_get (h : r.wp Q noE) : ∃ a μ, r = .ok a μ ∧ Q a μ := by
  cases r with
  | ok a μ => exact ⟨a, μ, rfl, h⟩
  | exc c ns vs μ => exact h.elim
  | bad => exact h.elim
theorem wp_bind {Q : β → Sto → Prop} (h : r.wp (fun a μ => (k a μ).wp Q E) E) : (r.bind k).wp Q E := by
  cases r with
  | ok a μ => exact h
  | exc c ns vs μ => exact h
  | bad => exact h
theorem wp_thn {k : α → Sto → RS} {N : Env → Sto → Prop} {T : D → Sto → Prop} {B C : Env → Sto → Prop} (h : r.wp (fun a μ => (k a μ).wp N T B C E) E) : (r.thn ρ k).wp N T B C E := by
  cases r with
  | ok a μ => exact h
  | exc c ns vs μ => exact h
  | bad => exact h
theorem wp_nox {α : Type} {r : R α} {Q : α → Sto → Prop} (h : r.wp Q noE) : r.nox.wp Q E := by
  cases r with
  | ok a μ => exact h
  | exc c ns vs μ => exact h.elim
  | bad => exact h
end
section
variable {Q : D → Sto → Prop} {QB : Bool → Sto → Prop} {QA : List D → Sto → Prop} {E : Exs} {ρ : Env} {μ : Sto} {f f1 f2 : SE} {t t1 t2 : ST} {fa : SA} {g : D → D → Sto → R D}
theorem wp_var {i : Nat} {d : D} (h : ρ[i]? = some (some d)) (q : Q d μ) : (eVar i ρ μ).wp Q E := by unfold eVar; rw [h]; exact q
theorem wp_varE {i : Nat} (h : ∃ d, ρ[i]? = some (some d) ∧ Q d μ) : (eVar i ρ μ).wp Q E := let ⟨d, h1, h2⟩ := h; wp_var h1 h2
theorem wp_c {d : D} (q : Q d μ) : (eC d ρ μ).wp Q E := q
theorem wp_B (h : (f1 ρ μ).wp (fun a μ1 => (f2 ρ μ1).wp (fun b μ2 => (g a b μ2).wp Q E) E) E) : (eB g f1 f2 ρ μ).wp Q E := wp_bind (wp_mono h (fun a μ1 z => wp_bind z) fun _ _ _ _ z => z)
theorem wp_U {g : D → Sto → R D} (h : (f ρ μ).wp (fun a μ1 => (g a μ1).wp Q E) E) : (eU g f ρ μ).wp Q E := wp_bind h
theorem wp_T (h : (f ρ μ).wp (fun d μ1 => ∃ c, d = .bl c ∧ QB c μ1) E) : (eT f ρ μ).wp QB E := wp_bind (wp_mono h (fun a μ1 ⟨c, e, q⟩ => by subst e; exact q) fun _ _ _ _ z => z)
theorem wp_andT (h : (t1 ρ μ).wp (fun c μ1 => (c = true → (t2 ρ μ1).wp QB E) ∧ (c = false → QB false μ1)) E) : (eAndT t1 t2 ρ μ).wp QB E := wp_bind (wp_mono h (fun c μ1 ⟨h1, h2⟩ => by cases c; exact h2 rfl; exact h1 rfl) fun _ _ _ _ z => z)
theorem wp_orT (h : (t1 ρ μ).wp (fun c μ1 => (c = true → QB true μ1) ∧ (c = false → (t2 ρ μ1).wp QB E)) E) : (eOrT t1 t2 ρ μ).wp QB E := wp_bind (wp_mono h (fun c μ1 ⟨h1, h2⟩ => by cases c; exact h2 rfl; exact h1 rfl) fun _ _ _ _ z => z)
theorem wp_notT (h : (t ρ μ).wp (fun c μ1 => QB (!c) μ1) E) : (eNotT t ρ μ).wp QB E := wp_bind h
theorem wp_andV (h : (f1 ρ μ).wp (fun d μ1 => ∃ c, d = .bl c ∧ (c = true → (f2 ρ μ1).wp Q E) ∧ (c = false → Q (.bl false) μ1)) E) : (eAndV f1 f2 ρ μ).wp Q E := wp_bind (wp_mono h (fun a μ1 ⟨c, e, h1, h2⟩ => by subst e; cases c; exact h2 rfl; exact h1 rfl) fun _ _ _ _ z => z)
theorem wp_orV (h : (f1 ρ μ).wp (fun d μ1 => ∃ c, d = .bl c ∧ (c = true → Q (.bl true) μ1) ∧ (c = false → (f2 ρ μ1).wp Q E)) E) : (eOrV f1 f2 ρ μ).wp Q E := wp_bind (wp_mono h (fun a μ1 ⟨c, e, h1, h2⟩ => by subst e; cases c; exact h2 rfl; exact h1 rfl) fun _ _ _ _ z => z)
theorem wp_notV (h : (f1 ρ μ).wp (fun d μ1 => ∃ c, d = .bl c ∧ Q (.bl (!c)) μ1) E) : (eNotV f1 ρ μ).wp Q E := wp_bind (wp_mono h (fun a μ1 ⟨c, e, h1⟩ => by subst e; exact h1) fun _ _ _ _ z => z)
theorem wp_if (h : (t ρ μ).wp (fun c μ1 => (c = true → (f1 ρ μ1).wp Q E) ∧ (c = false → (f2 ρ μ1).wp Q E)) E) : (eIf t f1 f2 ρ μ).wp Q E := wp_bind (wp_mono h (fun c μ1 ⟨h1, h2⟩ => by cases c; exact h2 rfl; exact h1 rfl) fun _ _ _ _ z => z)
theorem wp_nil (q : QA [] μ) : (aNil ρ μ).wp QA E := q
theorem wp_cons (h : (f ρ μ).wp (fun d μ1 => (fa ρ μ1).wp (fun ds μ2 => QA (d :: ds) μ2) E) E) : (aCons f fa ρ μ).wp QA E := wp_bind (wp_mono h (fun d μ1 z => wp_bind z) fun _ _ _ _ z => z)
theorem wp_tup (h : (fa ρ μ).wp (fun ds μ1 => ds.length ≤ 100 ∧ Q (.tup ds) μ1) E) : (eTup fa ρ μ).wp Q E := wp_bind (wp_mono h (fun ds μ1 ⟨a, b⟩ => by rw [if_pos a]; exact b) fun _ _ _ _ z => z)
theorem wp_lst (h : (fa ρ μ).wp (fun ds μ1 => ds.length ≤ 100 ∧ Q (.lst ds) μ1) E) : (eLst fa ρ μ).wp Q E := wp_bind (wp_mono h (fun ds μ1 ⟨a, b⟩ => by rw [if_pos a]; exact b) fun _ _ _ _ z => z)
theorem wp_lstC (h : (fa ρ μ).wp (fun ds μ1 => ds.length ≤ 100 ∧ Q (.cell μ1.length) (μ1 ++ [.lst ds])) E) : (eLstC fa ρ μ).wp Q E := wp_bind (wp_mono h (fun ds μ1 ⟨a, b⟩ => by rw [if_pos a]; exact b) fun _ _ _ _ z => z)
theorem wp_call {n : Nat} {g : List D → Sto → R D} (h : (fa ρ μ).wp (fun ds μ1 => ds.length = n ∧ (g ds μ1).wp Q E) E) : (eCall n g fa ρ μ).wp Q E := wp_bind (wp_mono h (fun ds μ1 ⟨a, b⟩ => by rw [if_pos a]; exact b) fun _ _ _ _ z => z)
theorem wp_callD {m : Nat} {dd : List D} {g : List D → Sto → R D} (h : (fa ρ μ).wp (fun ds μ1 => ds.length = m ∧ (g (ds ++ dd) μ1).wp Q E) E) : (eCallD m dd g fa ρ μ).wp Q E := wp_bind (wp_mono h (fun ds μ1 ⟨a, b⟩ => by rw [if_pos a]; exact b) fun _ _ _ _ z => z)
theorem wp_callB {g : List D → Sto → R D} (h : (fa ρ μ).wp (fun ds μ1 => (g ds μ1).wp Q E) E) : (eCallB g fa ρ μ).wp Q E := wp_bind h
theorem wp_m {T : String} {g : D → List D → Sto → R D} (h : (f ρ μ).wp (fun d μ1 => isTy T μ1 d = true ∧ (fa ρ μ1).wp (fun ds μ2 => (g d ds μ2).wp Q E) E) E) : (eM T g f fa ρ μ).wp Q E := wp_bind (wp_mono h (fun d μ1 ⟨a, b⟩ => by rw [if_pos a]; exact wp_bind b) fun _ _ _ _ z => z)
theorem wp_oNone {QO : Option Int → Sto → Prop} (q : QO none μ) : (oNone ρ μ).wp QO E := q
theorem wp_oSome {QO : Option Int → Sto → Prop} (h : (f ρ μ).wp (fun d μ1 => ∃ i, d = .int i ∧ QO (some i) μ1) E) : (oSome f ρ μ).wp QO E := wp_bind (wp_mono h (fun d μ1 ⟨i, e, q⟩ => by subst e; exact q) fun _ _ _ _ z => z)
theorem wp_sl {g : D → Option Int → Option Int → Sto → R D} {fl fh : SO} (h : (f ρ μ).wp (fun d μ1 => (fl ρ μ1).wp (fun lo μ2 => (fh ρ μ2).wp (fun hi μ3 => (g d lo hi μ3).wp Q E) E) E) E) : (eSl g f fl fh ρ μ).wp Q E :=
  wp_bind (wp_mono h (fun d μ1 z => wp_bind (wp_mono z (fun _ _ z => wp_bind z) fun _ _ _ _ z => z)) fun _ _ _ _ z => z)
theorem wp_tried {caught : Str → Bool} (h : (f ρ μ).wp (fun d μ1 => Q (.tup [.str "told", d]) μ1) (fun c ns vs μ1 => caught c = true ∧ ∃ d, lookD "word" ns vs = some d ∧ Q (.tup [.str "no", d]) μ1)) : (eTried caught f ρ μ).wp Q E := by
  unfold eTried
  cases e : f ρ μ with
  | bad => rw [e] at h; exact h
  | ok d μ1 => rw [e] at h; exact h
  | exc c ns vs μ1 =>
    rw [e] at h
    obtain ⟨h1, d, h2, h3⟩ := h
    dsimp only
    rw [if_pos h1, h2]
    exact h3
theorem wp_fn {n : Nat} {b : SS} {ds : List D} (h : (b (ds.map some ++ List.replicate (n - ds.length) none) μ).wp (fun _ μ' => Q .non μ') Q noP noP E) : (fnF n b ds μ).wp Q E := by
  unfold fnF
  generalize b (ds.map some ++ List.replicate (n - ds.length) none) μ = r at h
  cases r <;> exact h
end
section
variable {N N' : Env → Sto → Prop} {T T' : D → Sto → Prop} {B B' C C' : Env → Sto → Prop} {E E' : Exs} {ρ : Env} {μ : Sto} {f g : SS} {fe fo fi : SE} {t : ST} {fa : SA}
theorem wp_sMono {r : RS} (h : r.wp N T B C E) (hN : ∀ ρ μ, N ρ μ → N' ρ μ) (hT : ∀ d μ, T d μ → T' d μ) (hB : ∀ ρ μ, B ρ μ → B' ρ μ) (hC : ∀ ρ μ, C ρ μ → C' ρ μ) (hE : ∀ c ns vs μ, E c ns vs μ → E' c ns vs μ) : r.wp N' T' B' C' E' := by
  cases r with
  | nx ρ μ => exact hN _ _ h
  | rt ρ μ => exact hT _ _ h
  | bk ρ μ => exact hB _ _ h
  | ct ρ μ => exact hC _ _ h
  | exc c ns vs ρ μ => exact hE _ _ _ _ h
  | bad => exact h
theorem wp_sNil (q : N ρ μ) : (sNil ρ μ).wp N T B C E := q
theorem wp_sSeq (h : (f ρ μ).wp (fun ρ1 μ1 => (g ρ1 μ1).wp N T B C E) T B C E) : (sSeq f g ρ μ).wp N T B C E := by
  unfold sSeq
  generalize f ρ μ = r at h
  cases r <;> exact h
theorem wp_seqSet {i : Nat} (h : (sSet i fe ρ μ).wp (fun ρ1 μ1 => (g ρ1 μ1).wp N T B C E) T B C E) : (sSeq (sSet i fe) g ρ μ).wp N T B C E := wp_sSeq h
theorem wp_seqAsg {gg : SG} (h : (sAsg fe gg ρ μ).wp (fun ρ1 μ1 => (g ρ1 μ1).wp N T B C E) T B C E) : (sSeq (sAsg fe gg) g ρ μ).wp N T B C E := wp_sSeq h
theorem wp_seqPar {i j : Nat} (h : (sPar i j fa ρ μ).wp (fun ρ1 μ1 => (g ρ1 μ1).wp N T B C E) T B C E) : (sSeq (sPar i j fa) g ρ μ).wp N T B C E := wp_sSeq h
theorem wp_seqAug {i : Nat} {gg : D → D → Sto → R D} (h : (sAug i gg fe ρ μ).wp (fun ρ1 μ1 => (g ρ1 μ1).wp N T B C E) T B C E) : (sSeq (sAug i gg fe) g ρ μ).wp N T B C E := wp_sSeq h
theorem wp_seqExpr (h : (sExpr fe ρ μ).wp (fun ρ1 μ1 => (g ρ1 μ1).wp N T B C E) T B C E) : (sSeq (sExpr fe) g ρ μ).wp N T B C E := wp_sSeq h
theorem wp_seqSub (h : (sSub fe fo fi ρ μ).wp (fun ρ1 μ1 => (g ρ1 μ1).wp N T B C E) T B C E) : (sSeq (sSub fe fo fi) g ρ μ).wp N T B C E := wp_sSeq h
theorem wp_seqFor {fi : SI} {gg : SG} {b : SS} (h : (sFor fi gg b ρ μ).wp (fun ρ1 μ1 => (g ρ1 μ1).wp N T B C E) T B C E) : (sSeq (sFor fi gg b) g ρ μ).wp N T B C E := wp_sSeq h
theorem wp_seqWhile {b : SS} (h : (sWhile t b ρ μ).wp (fun ρ1 μ1 => (g ρ1 μ1).wp N T B C E) T B C E) : (sSeq (sWhile t b) g ρ μ).wp N T B C E := wp_sSeq h
theorem wp_seqNil (h : (g ρ μ).wp N T B C E) : (sSeq sNil g ρ μ).wp N T B C E := wp_sSeq h
theorem wp_cut {N0 : Env → Sto → Prop} (h : (f ρ μ).wp N0 T B C E) (k : ∀ ρ1 μ1, N0 ρ1 μ1 → (g ρ1 μ1).wp N T B C E) : (sSeq f g ρ μ).wp N T B C E :=
  wp_sSeq (wp_sMono h k (fun _ _ z => z) (fun _ _ z => z) (fun _ _ z => z) fun _ _ _ _ z => z)
theorem wp_sBreak (q : B ρ μ) : (sBreak ρ μ).wp N T B C E := q
theorem wp_sCont (q : C ρ μ) : (sCont ρ μ).wp N T B C E := q
theorem wp_sExpr (h : (fe ρ μ).wp (fun _ μ1 => N ρ μ1) E) : (sExpr fe ρ μ).wp N T B C E := wp_thn h
theorem wp_sRet (h : (fe ρ μ).wp (fun d μ1 => T d μ1) E) : (sRet fe ρ μ).wp N T B C E := wp_thn h
theorem wp_sRetN (h : T .non μ) : (sRetN ρ μ).wp N T B C E := h
theorem wp_sIf (h : (t ρ μ).wp (fun c μ1 => (c = true → (f ρ μ1).wp N T B C E) ∧ (c = false → (g ρ μ1).wp N T B C E)) E) : (sIf t f g ρ μ).wp N T B C E := wp_thn (wp_mono h (fun c μ1 ⟨h1, h2⟩ => by cases c; exact h2 rfl; exact h1 rfl) fun _ _ _ _ z => z)
theorem wp_sSet {i : Nat} (h : (fe ρ μ).wp (fun d μ1 => N (ρ.set i (some d)) μ1) E) : (sSet i fe ρ μ).wp N T B C E := wp_thn h
theorem wp_sAsg {g : SG} (h : (fe ρ μ).wp (fun d μ1 => ∃ ρ1, g d ρ μ1 = some ρ1 ∧ N ρ1 μ1) E) : (sAsg fe g ρ μ).wp N T B C E := wp_thn (wp_mono h (fun d μ1 ⟨ρ1, e, q⟩ => by rw [e]; exact q) fun _ _ _ _ z => z)
theorem wp_sPar {i j : Nat} (h : (fa ρ μ).wp (fun ds μ1 => ∃ d e, ds = [d, e] ∧ N ((ρ.set i (some d)).set j (some e)) μ1) E) : (sPar i j fa ρ μ).wp N T B C E := wp_thn (wp_mono h (fun ds μ1 ⟨d, e, h1, q⟩ => by subst h1; exact q) fun _ _ _ _ z => z)
theorem wp_sSub (h : (fe ρ μ).wp (fun d μ1 => (fo ρ μ1).wp (fun o μ2 => (fi ρ μ2).wp (fun i μ3 => ∃ k z μ4, o = .cell k ∧ i = .int z ∧ setL k z d μ3 = some μ4 ∧ N ρ μ4) E) E) E) : (sSub fe fo fi ρ μ).wp N T B C E :=
  wp_thn (wp_mono h (fun d μ1 z => wp_thn (wp_mono z (fun o μ2 z => wp_thn (wp_mono z (fun i μ3 ⟨k, z, μ4, e1, e2, e3, q⟩ => by subst e1 e2; dsimp only; rw [e3]; exact q) fun _ _ _ _ z => z)) fun _ _ _ _ z => z)) fun _ _ _ _ z => z)
theorem wp_sRaise {c : Str} {n : Nat} {ns : List Str} {mk : List D → List D} (h : (fa ρ μ).wp (fun ds μ1 => ds.length = n ∧ E c ns (mk ds) μ1) E) : (sRaise c n ns mk fa ρ μ).wp N T B C E := wp_thn (wp_mono h (fun ds μ1 ⟨a, b⟩ => by rw [if_pos a]; exact b) fun _ _ _ _ z => z)
theorem wp_sFor {fi : SI} {g : SG} {b : SS} (h : (fi ρ μ).wp (fun it μ1 => (forS it.2 g b it.1 ρ μ1).wp N T B C E) E) : (sFor fi g b ρ μ).wp N T B C E := wp_thn h
/-- a for by its invariant of the items that are left -/
theorem wp_forS {gd : Sto → Bool} {g : SG} {b : SS} (I : List D → Env → Sto → Prop) {ds : List D} (h0 : I ds ρ μ) (hn : ∀ ρ μ, I [] ρ μ → gd μ = true ∧ N ρ μ)
    (hs : ∀ d ds ρ μ, I (d :: ds) ρ μ → gd μ = true ∧ ∃ ρ1, g d ρ μ = some ρ1 ∧ (b ρ1 μ).wp (I ds) T N (I ds) E) : (forS gd g b ds ρ μ).wp N T B C E := by
  induction ds generalizing ρ μ with
  | nil =>
    obtain ⟨h1, h2⟩ := hn ρ μ h0
    unfold forS
    rw [if_pos h1]
    exact h2
  | cons d ds ih =>
    obtain ⟨h1, ρ1, h2, h3⟩ := hs d ds ρ μ h0
    unfold forS
    rw [if_pos h1, h2]
    dsimp only
    cases e : b ρ1 μ with
    | nx ρ2 μ2 => rw [e] at h3; exact ih h3
    | ct ρ2 μ2 => rw [e] at h3; exact ih h3
    | bk ρ2 μ2 => rw [e] at h3; exact h3
    | rt d μ2 => rw [e] at h3; exact h3
    | exc c ns vs ρ2 μ2 => rw [e] at h3; exact h3
    | bad => rw [e] at h3; exact h3
theorem rngD_succ (lo : Int) (n : Nat) : rngD lo (n + 1) = .int lo :: rngD (lo + 1) n := by
  unfold rngD
  rw [List.range_succ_eq_map, List.map_cons, List.map_map]
  congr 1
  · simp
  · apply List.map_congr_left
    intro i _
    show D.int (lo + ((i + 1 : Nat) : Int)) = D.int (lo + 1 + (i : Nat))
    congr 1
    omega
/-- .. over a range, by how many turns are done -/
theorem wp_forR {g : SG} {b : SS} (I : Nat → Env → Sto → Prop) {lo : Int} {n : Nat} (h0 : I 0 ρ μ) (hn : ∀ ρ μ, I n ρ μ → N ρ μ)
    (hs : ∀ i ρ μ, i < n → I i ρ μ → ∃ ρ1, g (.int (lo + (i : Nat))) ρ μ = some ρ1 ∧ (b ρ1 μ).wp (I (i + 1)) T N (I (i + 1)) E) : (forS (fun _ => true) g b (rngD lo n) ρ μ).wp N T B C E := by
  refine wp_forS (fun ds ρ μ => ∃ i, i ≤ n ∧ ds = rngD (lo + (i : Nat)) (n - i) ∧ I i ρ μ) ⟨0, Nat.zero_le _, by simp, h0⟩ (fun ρ μ ⟨i, hi, e, q⟩ => ⟨rfl, ?_⟩) fun d ds ρ μ ⟨i, hi, e, q⟩ => ⟨rfl, ?_⟩
  · have : n - i = 0 := by
      cases hm : n - i with
      | zero => rfl
      | succ m => rw [hm, rngD_succ] at e; cases e
    have : i = n := by omega
    subst this
    exact hn _ _ q
  · cases hm : n - i with
    | zero => rw [hm] at e; cases e
    | succ m =>
      rw [hm, rngD_succ] at e
      cases e
      obtain ⟨ρ1, e1, h⟩ := hs i ρ μ (by omega) q
      have mv : ∀ ρ μ, I (i + 1) ρ μ → ∃ j, j ≤ n ∧ rngD (lo + (i : Nat) + 1) m = rngD (lo + (j : Nat)) (n - j) ∧ I j ρ μ := fun ρ μ z => ⟨i + 1, by omega, by
        have e2 : n - (i + 1) = m := by omega
        rw [e2]
        congr 1
        omega, z⟩
      exact ⟨ρ1, e1, wp_sMono h mv (fun _ _ z => z) (fun _ _ z => z) mv fun _ _ _ _ z => z⟩
/-- a while by an invariant with a measure -/
theorem wp_while {t : ST} {b : SS} (I : Nat → Env → Sto → Prop) {m : Nat} (h0 : I m ρ μ)
    (hs : ∀ m ρ μ, I m ρ μ → (t ρ μ).wp (fun c μ1 => (c = true → (b ρ μ1).wp (fun ρ μ => ∃ k, k < m ∧ I k ρ μ) T N (fun ρ μ => ∃ k, k < m ∧ I k ρ μ) E) ∧ (c = false → N ρ μ1)) E) : (sWhile t b ρ μ).wp N T B C E := by
  have key : ∀ (m : Nat) (ρ : Env) (μ : Sto), I m ρ μ → ∃ n, (whileN t b n ρ μ).wp N T B C E := by
    intro m
    induction m using Nat.strongRecOn with
    | ind m ih =>
      intro ρ μ h
      have h1 := hs m ρ μ h
      cases e : t ρ μ with
      | bad => rw [e] at h1; exact h1.elim
      | exc c ns vs μ1 => rw [e] at h1; exact ⟨1, by unfold whileN; rw [e]; exact h1⟩
      | ok c μ1 =>
        rw [e] at h1
        obtain ⟨h2, h3⟩ := h1
        cases c with
        | false => exact ⟨1, by unfold whileN; rw [e]; exact h3 rfl⟩
        | true =>
          have h4 := h2 rfl
          cases e4 : b ρ μ1 with
          | bad => rw [e4] at h4; exact h4.elim
          | exc c ns vs ρ2 μ2 => rw [e4] at h4; exact ⟨1, by unfold whileN; rw [e]; simp only [if_true, e4]; exact h4⟩
          | rt d μ2 => rw [e4] at h4; exact ⟨1, by unfold whileN; rw [e]; simp only [if_true, e4]; exact h4⟩
          | bk ρ2 μ2 => rw [e4] at h4; exact ⟨1, by unfold whileN; rw [e]; simp only [if_true, e4]; exact h4⟩
          | nx ρ2 μ2 =>
            rw [e4] at h4
            obtain ⟨k, hk, z⟩ := h4
            obtain ⟨n, hn⟩ := ih k hk ρ2 μ2 z
            exact ⟨n + 1, by unfold whileN; rw [e]; simp only [if_true, e4]; exact hn⟩
          | ct ρ2 μ2 =>
            rw [e4] at h4
            obtain ⟨k, hk, z⟩ := h4
            obtain ⟨n, hn⟩ := ih k hk ρ2 μ2 z
            exact ⟨n + 1, by unfold whileN; rw [e]; simp only [if_true, e4]; exact hn⟩
  obtain ⟨n, hn⟩ := key m ρ μ h0
  have nb : whileN t b n ρ μ ≠ .bad := fun z => by rw [z] at hn; exact hn
  rw [sWhile_eq n rfl nb]
  exact hn
end
/-! ### comprehensions -/
section
variable {E : Exs} {ρ : Env} {μ : Sto} {g : SG} {tt : ST} {te : SE} {gd : Sto → Bool}
theorem wp_lcS {Q : List D → Sto → Prop} (I : List D → List D → Sto → Prop) {ds : List D} (h0 : I [] ds μ) (hn : ∀ ys μ, I ys [] μ → gd μ = true ∧ Q ys μ)
    (hs : ∀ ys d ds μ, I ys (d :: ds) μ → gd μ = true ∧ ∃ ρ1, g d ρ μ = some ρ1 ∧ (tt ρ1 μ).wp (fun c μ1 => (c = true → (te ρ1 μ1).wp (fun y μ2 => I (ys ++ [y]) ds μ2) noE) ∧ (c = false → I ys ds μ1)) noE) : (lcS gd g tt te ρ ds μ).wp Q E := by
  have key : ∀ (ds ys : List D) (μ : Sto), I ys ds μ → ∃ zs μ', lcS gd g tt te ρ ds μ = .ok zs μ' ∧ Q (ys ++ zs) μ' := by
    intro ds
    induction ds with
    | nil =>
      intro ys μ h
      obtain ⟨h1, h2⟩ := hn ys μ h
      exact ⟨[], μ, by unfold lcS; rw [if_pos h1], by rw [List.append_nil]; exact h2⟩
    | cons d ds ih =>
      intro ys μ h
      obtain ⟨h1, ρ1, h2, h3⟩ := hs ys d ds μ h
      unfold lcS
      rw [if_pos h1, h2]
      dsimp only
      obtain ⟨c, μ1, e, h4, h5⟩ := wp_get h3
      rw [e]
      cases c with
      | false =>
        obtain ⟨zs, μ', e1, q⟩ := ih ys μ1 (h5 rfl)
        exact ⟨zs, μ', e1, q⟩
      | true =>
        obtain ⟨y, μ2, e1, z⟩ := wp_get (h4 rfl)
        obtain ⟨zs, μ', e2, q⟩ := ih (ys ++ [y]) μ2 z
        refine ⟨y :: zs, μ', ?_, by rw [List.append_assoc] at q; exact q⟩
        simp only [R.nox_ok, R.bind_ok, if_true, e1, e2]
  obtain ⟨zs, μ', e, q⟩ := key ds [] μ h0
  rw [e]
  exact q
/-- .. over a range, by the results so far -/
theorem wp_lcR {Q : List D → Sto → Prop} (I : List D → Nat → Sto → Prop) {lo : Int} {n : Nat} (h0 : I [] 0 μ) (hn : ∀ ys μ, I ys n μ → Q ys μ)
    (hs : ∀ ys i μ, i < n → I ys i μ → ∃ ρ1, g (.int (lo + (i : Nat))) ρ μ = some ρ1 ∧ (tt ρ1 μ).wp (fun c μ1 => (c = true → (te ρ1 μ1).wp (fun y μ2 => I (ys ++ [y]) (i + 1) μ2) noE) ∧ (c = false → I ys (i + 1) μ1)) noE) : (lcS (fun _ => true) g tt te ρ (rngD lo n) μ).wp Q E := by
  refine wp_lcS (fun ys ds μ => ∃ i, i ≤ n ∧ ds = rngD (lo + (i : Nat)) (n - i) ∧ I ys i μ) ⟨0, Nat.zero_le _, by simp, h0⟩ (fun ys μ ⟨i, hi, e, q⟩ => ⟨rfl, ?_⟩) fun ys d ds μ ⟨i, hi, e, q⟩ => ⟨rfl, ?_⟩
  · have : n - i = 0 := by
      cases hm : n - i with
      | zero => rfl
      | succ m => rw [hm, rngD_succ] at e; cases e
    have : i = n := by omega
    subst this
    exact hn _ _ q
  · cases hm : n - i with
    | zero => rw [hm] at e; cases e
    | succ m =>
      rw [hm, rngD_succ] at e
      cases e
      obtain ⟨ρ1, e1, h⟩ := hs ys i μ (by omega) q
      have mv : ∀ zs μ, I zs (i + 1) μ → ∃ j, j ≤ n ∧ rngD (lo + (i : Nat) + 1) m = rngD (lo + (j : Nat)) (n - j) ∧ I zs j μ := fun zs μ z => ⟨i + 1, by omega, by
        have e2 : n - (i + 1) = m := by omega
        rw [e2]
        congr 1
        omega, z⟩
      exact ⟨ρ1, e1, wp_mono h (fun c μ1 ⟨h1, h2⟩ => ⟨fun hc => wp_mono (h1 hc) (fun y μ2 z => mv _ _ z) fun _ _ _ _ z => z, fun hc => mv _ _ (h2 hc)⟩) fun _ _ _ _ z => z⟩
/-- each item of a range gives something, nothing is written -/
theorem wp_lcMap {Q : List D → Sto → Prop} {h : Nat → D} {lo : Int} {n : Nat} (q : Q ((List.range n).map h) μ)
    (hs : ∀ i, i < n → ∃ ρ1, g (.int (lo + (i : Nat))) ρ μ = some ρ1 ∧ (te ρ1 μ).wp (fun y μ2 => y = h i ∧ μ2 = μ) noE) : (lcS (fun _ => true) g tYesS te ρ (rngD lo n) μ).wp Q E := by
  refine wp_lcR (fun ys i μ' => μ' = μ ∧ ys = (List.range i).map h) ⟨rfl, rfl⟩ (fun ys μ' ⟨e1, e2⟩ => by subst e1 e2; exact q) fun ys i μ' hi ⟨e1, e2⟩ => ?_
  subst e1 e2
  obtain ⟨ρ1, e, z⟩ := hs i hi
  refine ⟨ρ1, e, ?_⟩
  show (true = true → _) ∧ (true = false → _)
  refine ⟨fun _ => wp_mono z (fun y μ2 ⟨e1, e2⟩ => ⟨e2, by rw [e1, List.range_succ, List.map_append]; rfl⟩) fun _ _ _ _ z => z, fun z => nomatch z⟩
theorem wp_lc {Q : D → Sto → Prop} {vs : List Nat} {fi : SI} (h : (fi ρ μ).wp (fun it μ1 => it.1.length ≤ sizeLine ∧ (lcS it.2 g tt te (wipeE ρ vs) it.1 μ1).wp (fun ys μ2 => Q (.lst ys) μ2) noE) E) : (eLc vs fi g tt te ρ μ).wp Q E :=
  wp_bind (wp_mono h (fun it μ1 ⟨a, b⟩ => by rw [if_pos a]; exact wp_bind (wp_nox b)) fun _ _ _ _ z => z)
theorem wp_lcC {Q : D → Sto → Prop} {vs : List Nat} {fi : SI} (h : (fi ρ μ).wp (fun it μ1 => it.1.length ≤ sizeLine ∧ (lcS it.2 g tt te (wipeE ρ vs) it.1 μ1).wp (fun ys μ2 => Q (.cell μ2.length) (μ2 ++ [.lst ys])) noE) E) : (eLcC vs fi g tt te ρ μ).wp Q E :=
  wp_bind (wp_mono h (fun it μ1 ⟨a, b⟩ => by rw [if_pos a]; exact wp_bind (wp_nox b)) fun _ _ _ _ z => z)
theorem wp_yes {Q : Bool → Sto → Prop} (q : Q true μ) : (tYesS ρ μ).wp Q E := q
theorem wp_iAny {Q : List D × (Sto → Bool) → Sto → Prop} {f : SE} (h : (f ρ μ).wp (fun d μ1 => ∃ it, walkD μ1 d = some it ∧ Q it μ1) E) : (iAnyD f ρ μ).wp Q E := wp_bind (wp_mono h (fun d μ1 ⟨it, e, q⟩ => by rw [e]; exact q) fun _ _ _ _ z => z)
end
/-! ### ints -/
section
variable {Q : D → Sto → Prop} {E : Exs} {μ : Sto} {i j : Int}
theorem wp_prim {r : R D} {d : D} (h : r = .ok d μ) (q : Q d μ) : r.wp Q E := by rw [h]; exact q
theorem wp_eqI (q : Q (.bl (decide (i = j))) μ) : (dEq (.int i) (.int j) μ).wp Q E := by
  have e : dEq (.int i) (.int j) μ = .ok (.bl (decide (i = j))) μ := by
    show (if SeqAt.shaped (.int i) = true ∧ SeqAt.shaped (.int j) = true then R.ok (D.bl (PyData.eqv (.int i) (.int j))) μ else .bad) = _
    rw [if_pos ⟨rfl, rfl⟩]
    congr 2
  rw [e]; exact q
theorem wp_neI (q : Q (.bl (!decide (i = j))) μ) : (dNe (.int i) (.int j) μ).wp Q E := by
  have e : dNe (.int i) (.int j) μ = .ok (.bl (!decide (i = j))) μ := by
    show (if SeqAt.shaped (.int i) = true ∧ SeqAt.shaped (.int j) = true then R.ok (D.bl (!PyData.eqv (.int i) (.int j))) μ else .bad) = _
    rw [if_pos ⟨rfl, rfl⟩]
    congr 2
  rw [e]; exact q
theorem br_t {c : Bool} {A B : Prop} (hc : c = true) (h : A) : (c = true → A) ∧ (c = false → B) := ⟨fun _ => h, fun z => (Bool.noConfusion (hc.symm.trans z))⟩
theorem br_f {c : Bool} {A B : Prop} (hc : c = false) (h : B) : (c = true → A) ∧ (c = false → B) := ⟨fun z => (Bool.noConfusion (hc.symm.trans z)), fun _ => h⟩
theorem br_d {c : Prop} [Decidable c] {A B : Prop} (h1 : c → A) (h2 : ¬ c → B) : (decide c = true → A) ∧ (decide c = false → B) := ⟨fun z => h1 (of_decide_eq_true z), fun z => h2 (of_decide_eq_false z)⟩
theorem br_n {c : Prop} [Decidable c] {A B : Prop} (h1 : ¬ c → A) (h2 : c → B) : ((!decide c) = true → A) ∧ ((!decide c) = false → B) := ⟨fun z => h1 (by simpa using z), fun z => h2 (by simpa using z)⟩
theorem wp_mul (h : IntMulOk i j) (q : Q (.int (i * j)) μ) : (dMul (.int i) (.int j) μ).wp Q E := by
  show R.wp (if IntMulOk i j then _ else _) Q E
  rw [if_pos h]; exact q
theorem wp_mod (h : j ≠ 0) (q : Q (.int (i.fmod j)) μ) : (dMod (.int i) (.int j) μ).wp Q E := by
  show R.wp (if j ≠ 0 then _ else _) Q E
  rw [if_pos h]; exact q
theorem wp_fdiv (h : j ≠ 0) (h2 : Builtin.divisionGoesByPylong i j = false) (q : Q (.int (i.fdiv j)) μ) : (dFdiv (.int i) (.int j) μ).wp Q E := by
  show R.wp (if j ≠ 0 ∧ Builtin.divisionGoesByPylong i j = false then _ else _) Q E
  rw [if_pos ⟨h, h2⟩]; exact q
theorem wp_pow (h : 0 ≤ j ∧ j ≤ 1000000 ∧ i.natAbs < 2 ^ 64) (q : Q (.int (i ^ j.toNat)) μ) : (dPow (.int i) (.int j) μ).wp Q E := by
  show R.wp (if 0 ≤ j ∧ j ≤ 1000000 ∧ i.natAbs < 2 ^ 64 then _ else _) Q E
  rw [if_pos h]; exact q
theorem pylong_small (h : j.natAbs < 2 ^ 9000) : Builtin.divisionGoesByPylong i j = false := by
  have key : (if j == 0 then 0 else j.natAbs.log2 / 30 + 1) ≤ 300 := by
    split
    · omega
    · rename_i z
      have z : j ≠ 0 := by simpa using z
      have h0 : j.natAbs ≠ 0 := by omega
      have : j.natAbs.log2 < 9000 := (Nat.log2_lt h0).mpr h
      omega
  unfold Builtin.divisionGoesByPylong
  dsimp only
  rw [decide_eq_false (p := (if j == 0 then 0 else j.natAbs.log2 / 30 + 1) > 300) (by omega)]
  rfl
theorem mulOk_right {a b : Int} (h : b.natAbs < 2 ^ 64) : IntMulOk a b := by
  have hb : Builtin.Int.intBits b ≤ 64 := intBits_le_iff.mpr h
  have h' : ¬ (Builtin.Int.intBits b > shortFactorBits) := Nat.not_lt.mpr hb
  unfold IntMulOk; rw [decide_eq_false h']; simp
theorem mulOk_left {a b : Int} (h : a.natAbs < 2 ^ 64) : IntMulOk a b := IntMulOk.of_left (intBits_le_iff.mpr h)
theorem mulOk_lt {a b : Int} {m n : Nat} (ha : a.natAbs < 2 ^ m) (hb : b.natAbs < 2 ^ n) (h : m + n ≤ 134217728 := by decide) : IntMulOk a b := IntMulOk.of_le (intBits_le_iff.mpr ha) (intBits_le_iff.mpr hb) h
theorem wp_pow18 (q : Q (.int 1000000000000000000) μ) : (dPow (.int 10) (.int 18) μ).wp Q E := wp_pow (by decide) (by rw [show (10 : Int) ^ Int.toNat 18 = 1000000000000000000 by decide]; exact q)
theorem wp_pow12 (q : Q (.int 1000000000000) μ) : (dPow (.int 10) (.int 12) μ).wp Q E := wp_pow (by decide) (by rw [show (10 : Int) ^ Int.toNat 12 = 1000000000000 by decide]; exact q)
theorem wp_pow40 (q : Q (.int 10000000000000000000000000000000000000000) μ) : (dPow (.int 10) (.int 40) μ).wp Q E := wp_pow (by decide) (by rw [show (10 : Int) ^ Int.toNat 40 = 10000000000000000000000000000000000000000 by decide]; exact q)
theorem mulOk_mod {a b : Int} {m : Int} (hm : 0 < m) (h : m ≤ 2 ^ 64) : IntMulOk (a.fmod m) b := mulOk_left (by
  have h1 := Int.fmod_nonneg_of_pos a hm
  have h2 := Int.fmod_lt_of_pos a hm
  have h3 : ((a.fmod m).natAbs : Int) = a.fmod m := Int.natAbs_of_nonneg h1
  omega)
theorem wp_addI (q : Q (.int (i + j)) μ) : (dAdd (.int i) (.int j) μ).wp Q E := q
theorem wp_addII (q : Q (.int (i + j)) μ) : (dAddI (.int i) (.int j) μ).wp Q E := q
theorem wp_subI (q : Q (.int (i - j)) μ) : (dSub (.int i) (.int j) μ).wp Q E := q
theorem wp_ltI (q : Q (.bl (decide (i < j))) μ) : (dLt (.int i) (.int j) μ).wp Q E := q
theorem wp_leI (q : Q (.bl (decide (i ≤ j))) μ) : (dLe (.int i) (.int j) μ).wp Q E := q
theorem wp_gtI (q : Q (.bl (decide (j < i))) μ) : (dGt (.int i) (.int j) μ).wp Q E := q
theorem wp_geI (q : Q (.bl (decide (j ≤ i))) μ) : (dGe (.int i) (.int j) μ).wp Q E := q
theorem wp_negI (q : Q (.int (-i)) μ) : (dNeg (.int i) μ).wp Q E := q
theorem wp_absI (q : Q (.int (i.natAbs : Int)) μ) : (un dAbsC [.int i] μ).wp Q E := by
  have e : (if i < 0 then -i else i) = (i.natAbs : Int) := by split <;> omega
  show Q (.int (if i < 0 then -i else i)) μ
  rw [e]; exact q
theorem wp_un {g : D → Sto → R D} {d : D} (q : (g d μ).wp Q E) : (un g [d] μ).wp Q E := q
theorem wp_ixE {a b : D} (h : ∃ d, dIx a b μ = .ok d μ ∧ Q d μ) : (dIx a b μ).wp Q E := let ⟨d, h1, h2⟩ := h; wp_prim h1 h2
theorem wp_ix {a b d : D} (h : dIx a b μ = .ok d μ) (q : Q d μ) : (dIx a b μ).wp Q E := by rw [h]; exact q
theorem wp_lenE {a : D} (h : ∃ d, dLen a μ = .ok d μ ∧ Q d μ) : (dLen a μ).wp Q E := let ⟨d, h1, h2⟩ := h; wp_prim h1 h2
theorem wp_len {a d : D} (h : dLen a μ = .ok d μ) (q : Q d μ) : (dLen a μ).wp Q E := by rw [h]; exact q
theorem wp_listOfE {a : D} (h : ∃ d, dListOf a μ = .ok d μ ∧ Q d μ) : (dListOf a μ).wp Q E := let ⟨d, h1, h2⟩ := h; wp_prim h1 h2
theorem wp_listOf {a d : D} (h : dListOf a μ = .ok d μ) (q : Q d μ) : (dListOf a μ).wp Q E := by rw [h]; exact q
theorem wp_isiE {ts : List Ty} {a : D} (h : ∃ d, dIsi ts a μ = .ok d μ ∧ Q d μ) : (dIsi ts a μ).wp Q E := let ⟨d, h1, h2⟩ := h; wp_prim h1 h2
theorem wp_isNE {a : D} (h : ∃ d, dIsN a μ = .ok d μ ∧ Q d μ) : (dIsN a μ).wp Q E := let ⟨d, h1, h2⟩ := h; wp_prim h1 h2
theorem wp_notNE {a : D} (h : ∃ d, dNotN a μ = .ok d μ ∧ Q d μ) : (dNotN a μ).wp Q E := let ⟨d, h1, h2⟩ := h; wp_prim h1 h2
theorem pylong_200 (h : j.natAbs < 2 ^ 200) : Builtin.divisionGoesByPylong i j = false := pylong_small (Nat.lt_of_lt_of_le h (Nat.pow_le_pow_right (by decide) (by decide)))
/-- walked lists, slices -/
theorem wp_slE {a : D} {lo hi : Option Int} (h : ∃ d, dSl3 a lo hi μ = .ok d μ ∧ Q d μ) : (dSl3 a lo hi μ).wp Q E := let ⟨d, h1, h2⟩ := h; wp_prim h1 h2
end
theorem all_true {n : Nat} {Q : D → Sto → Prop} {E : Exs} {μ : Sto} (q : Q (.bl true) μ) : (dAll (.lst ((List.range n).map fun _ => D.bl true)) μ).wp Q E := by
  have e : ∀ l : List Nat, bools (l.map fun _ => D.bl true) = some (l.map fun _ => true) := fun l => by
    induction l with
    | nil => rfl
    | cons a r ih => show (bools (r.map _)).map _ = _; rw [ih]; rfl
  have e2 : dAll (.lst ((List.range n).map fun _ => D.bl true)) μ = .ok (.bl true) μ := by
    show (match bools ((List.range n).map fun _ => D.bl true) with
      | some bs => R.ok (D.bl (bs.all id)) μ
      | none => .bad) = _
    rw [e]
    dsimp only
    congr 2
    simp
  rw [e2]; exact q
/-- texts, numbers, truth values, None, and lists and tuples of such, so deep -/
inductive Pu : Nat → D → Prop
  | non {n : Nat} : Pu (n + 1) .non
  | bl {n : Nat} (b : Bool) : Pu (n + 1) (.bl b)
  | int {n : Nat} (i : Int) : Pu (n + 1) (.int i)
  | str {n : Nat} {z : Str} (h : PyData.strOk z = true) : Pu (n + 1) (.str z)
  | lst {n : Nat} {xs : List D} (hl : xs.length ≤ 16777216) (h : ∀ x ∈ xs, Pu n x) : Pu (n + 1) (.lst xs)
  | tup {n : Nat} {xs : List D} (hl : xs.length ≤ 16777216) (h : ∀ x ∈ xs, Pu n x) : Pu (n + 1) (.tup xs)
theorem Pu.nil {n : Nat} : ∀ x ∈ ([] : List D), Pu n x := fun x h => by cases h
theorem Pu.cons {n : Nat} {d : D} {ds : List D} (h : Pu n d) (t : ∀ x ∈ ds, Pu n x) : ∀ x ∈ d :: ds, Pu n x := fun x hx => by
  rcases List.mem_cons.mp hx with e | e
  · subst e; exact h
  · exact t x e
theorem Pu.le {n m : Nat} {d : D} (h : Pu n d) (hm : n ≤ m) : Pu m d := by
  induction h generalizing m with
  | non => cases m with | zero => omega | succ m => exact .non
  | bl b => cases m with | zero => omega | succ m => exact .bl b
  | int b => cases m with | zero => omega | succ m => exact .int b
  | str b => cases m with | zero => omega | succ m => exact .str b
  | lst hl h ih => cases m with | zero => omega | succ m => exact .lst hl fun x hx => ih x hx (by omega)
  | tup hl h ih => cases m with | zero => omega | succ m => exact .tup hl fun x hx => ih x hx (by omega)
theorem Pu.py {n : Nat} {d : D} (h : Pu n d) : ∃ x, toPy0 d = some x ∧ x.canLay0 = true ∧ x.depth ≤ n := by
  have lists : ∀ {n : Nat} {xs : List D}, (∀ x ∈ xs, ∃ y, toPy0 x = some y ∧ y.canLay0 = true ∧ y.depth ≤ n) → ∃ ys, toPyL xs = some ys ∧ PyData.canLayAll0 ys = true ∧ PyData.depthAll ys ≤ n := by
    intro n xs
    induction xs with
    | nil => intro _; exact ⟨[], rfl, rfl, Nat.zero_le _⟩
    | cons x xs ih =>
      intro h
      obtain ⟨y, h1, h2, h3⟩ := h x List.mem_cons_self
      obtain ⟨ys, h4, h5, h6⟩ := ih fun x hx => h x (List.mem_cons_of_mem _ hx)
      refine ⟨y :: ys, by simp [toPyL, h1, h4], by simp [PyData.canLayAll0, h2, h5], ?_⟩
      simp only [PyData.depthAll]
      omega
  induction h with
  | non => exact ⟨.none, rfl, rfl, by simp [PyData.depth]⟩
  | bl b => exact ⟨.bool b, rfl, rfl, by simp [PyData.depth]⟩
  | int b => exact ⟨.int b, rfl, rfl, by simp [PyData.depth]⟩
  | @str n z h => exact ⟨.str z, rfl, by simp [PyData.canLay0, h], by simp [PyData.depth]⟩
  | lst hl h ih =>
    obtain ⟨ys, h1, h2, h3⟩ := lists ih
    exact ⟨.list ys, by simp [toPy0, h1], by simp [PyData.canLay0, h2], by simp only [PyData.depth]; omega⟩
  | tup hl h ih =>
    obtain ⟨ys, h1, h2, h3⟩ := lists ih
    exact ⟨.tuple ys, by simp [toPy0, h1], by simp [PyData.canLay0, h2], by simp only [PyData.depth]; omega⟩
theorem Pu.toPy {n : Nat} {d : D} (h : Pu n d) (μ : Sto) : toPy μ d = toPy0 d := by cases h <;> rfl
theorem dEq_py {μ : Sto} {a b : D} {x y : PyData} (h1 : toPy μ a = some x) (h2 : toPy μ b = some y) (h3 : SeqAt.shaped x = true) (h4 : SeqAt.shaped y = true) : dEq a b μ = .ok (.bl (PyData.eqv x y)) μ := by
  unfold dEq
  rw [h1, h2]
  dsimp only
  rw [if_pos ⟨h3, h4⟩]
theorem dNe_py {μ : Sto} {a b : D} {x y : PyData} (h1 : toPy μ a = some x) (h2 : toPy μ b = some y) (h3 : SeqAt.shaped x = true) (h4 : SeqAt.shaped y = true) : dNe a b μ = .ok (.bl (!PyData.eqv x y)) μ := by
  unfold dNe
  rw [h1, h2]
  dsimp only
  rw [if_pos ⟨h3, h4⟩]
theorem Pu.shaped {n : Nat} {d : D} (h : Pu n d) (hn : n ≤ 64) : ∃ x, toPy0 d = some x ∧ SeqAt.shaped x = true := by
  obtain ⟨x, h1, h2, h3⟩ := h.py
  refine ⟨x, h1, ?_⟩
  unfold SeqAt.shaped
  rw [h2, decide_eq_true (by omega)]
  rfl
theorem Pu.eq_self {n : Nat} {d : D} (h : Pu n d) (hn : n ≤ 64) (μ : Sto) : dEq d d μ = .ok (.bl true) μ := by
  obtain ⟨x, h1, h2⟩ := h.shaped hn
  rw [dEq_py ((h.toPy μ).trans h1) ((h.toPy μ).trans h1) h2 h2, SeqAt.eqv_refl x (SeqAt.canLay_of_shaped h2)]
theorem Pu.ne_self {n : Nat} {d : D} (h : Pu n d) (hn : n ≤ 64) (μ : Sto) : dNe d d μ = .ok (.bl false) μ := by
  obtain ⟨x, h1, h2⟩ := h.shaped hn
  rw [dNe_py ((h.toPy μ).trans h1) ((h.toPy μ).trans h1) h2 h2, SeqAt.eqv_refl x (SeqAt.canLay_of_shaped h2)]
  rfl
theorem wp_eqB {a b : Bool} {Q : D → Sto → Prop} {E : Exs} {μ : Sto} (q : Q (.bl (a == b)) μ) : (dEq (.bl a) (.bl b) μ).wp Q E := by
  rw [dEq_py (x := .bool a) (y := .bool b) rfl rfl rfl rfl]; exact q
theorem wp_neB {a b : Bool} {Q : D → Sto → Prop} {E : Exs} {μ : Sto} (q : Q (.bl (!(a == b))) μ) : (dNe (.bl a) (.bl b) μ).wp Q E := by
  rw [dNe_py (x := .bool a) (y := .bool b) rfl rfl rfl rfl]; exact q
theorem wp_eqStr {a b : Str} {Q : D → Sto → Prop} {E : Exs} {μ : Sto} (ha : PyData.strOk a = true) (hb : PyData.strOk b = true) (q : Q (.bl (decide (a = b))) μ) : (dEq (.str a) (.str b) μ).wp Q E := by
  have e : ∀ z : Str, PyData.strOk z = true → SeqAt.shaped (.str z) = true := fun z h => by
    unfold SeqAt.shaped
    simp [PyData.canLay0, PyData.depth, h]
  rw [dEq_py (x := .str a) (y := .str b) rfl rfl (e a ha) (e b hb)]
  have e2 : PyData.eqv (.str a) (.str b) = decide (a = b) := by
    simp only [PyData.eqv]
    rfl
  rw [e2]; exact q
theorem wp_neStr {a b : Str} {Q : D → Sto → Prop} {E : Exs} {μ : Sto} (ha : PyData.strOk a = true) (hb : PyData.strOk b = true) (q : Q (.bl (!decide (a = b))) μ) : (dNe (.str a) (.str b) μ).wp Q E := by
  have e : ∀ z : Str, PyData.strOk z = true → SeqAt.shaped (.str z) = true := fun z h => by
    unfold SeqAt.shaped
    simp [PyData.canLay0, PyData.depth, h]
  rw [dNe_py (x := .str a) (y := .str b) rfl rfl (e a ha) (e b hb)]
  have e2 : PyData.eqv (.str a) (.str b) = decide (a = b) := by
    simp only [PyData.eqv]
    rfl
  rw [e2]; exact q
theorem sub_okE {k : Nat} {z : Int} {d : D} {μ3 : Sto} {N : Sto → Prop} (h : ∃ μ4, setL k z d μ3 = some μ4 ∧ N μ4) : ∃ k' z' μ', D.cell k = D.cell k' ∧ D.int z = D.int z' ∧ setL k' z' d μ3 = some μ' ∧ N μ' := let ⟨μ4, h1, h2⟩ := h; ⟨k, z, μ4, rfl, rfl, h1, h2⟩
theorem wp_rep {xs ys : List D} {k : Int} {Q : D → Sto → Prop} {E : Exs} {μ : Sto} (h : -(2 ^ 63) ≤ k ∧ k < 2 ^ 63) (h3 : xs.length * k.toNat ≤ 16777216) (e : (List.replicate k.toNat xs).flatten = ys) (q : Q (.lst ys) μ) : (dMul (.lst xs) (.int k) μ).wp Q E := by
  show R.wp (if -(2 ^ 63) ≤ k ∧ k < 2 ^ 63 ∧ xs.length * k.toNat ≤ sizeLine then _ else _) Q E
  rw [if_pos ⟨h.1, h.2, by rw [sizeLine_eq]; omega⟩, e]
  exact q
theorem rng_ok {hi : Int} {A : Prop} (h : -(2 ^ 62) ≤ hi ∧ hi < 2 ^ 62) (q : A) : (-(2 ^ 62) ≤ hi ∧ hi < 2 ^ 62) ∧ A := ⟨h, q⟩
theorem rng2_ok {lo hi : Int} {A : Prop} (h : -(2 ^ 62) ≤ lo ∧ lo < 2 ^ 62 ∧ -(2 ^ 62) ≤ hi ∧ hi < 2 ^ 62) (q : A) : (-(2 ^ 62) ≤ lo ∧ lo < 2 ^ 62 ∧ -(2 ^ 62) ≤ hi ∧ hi < 2 ^ 62) ∧ A := ⟨h, q⟩
theorem len_eq {α : Type} {ds : List α} {n : Nat} {A : Prop} (h : ds.length = n) (q : A) : ds.length = n ∧ A := ⟨h, q⟩
theorem len_100 {α : Type} {ds : List α} {A : Prop} (h : ds.length ≤ 100) (q : A) : ds.length ≤ 100 ∧ A := ⟨h, q⟩
theorem rngD_len {lo : Int} {n : Nat} {A : Prop} (h : n ≤ 16777216) (q : A) : (rngD lo n).length ≤ sizeLine ∧ A := ⟨by simp only [rngD, List.length_map, List.length_range, sizeLine_eq]; omega, q⟩
theorem isTy_ok {T : String} {μ : Sto} {d : D} {A : Prop} (h : isTy T μ d = true) (q : A) : isTy T μ d = true ∧ A := ⟨h, q⟩
theorem ixN_nat {n : Nat} {i : Int} (h0 : 0 ≤ i) (h1 : i < n) : ixN n i = some i.toNat := by
  unfold ixN
  rw [if_pos h0, if_pos (by omega)]
theorem ix_lst {xs : List D} {i : Int} {x : D} {μ : Sto} (h0 : 0 ≤ i) (h : xs[i.toNat]? = some x) : dIx (.lst xs) (.int i) μ = .ok x μ := by
  have h1 : i.toNat < xs.length := (List.getElem?_eq_some_iff.mp h).1
  show (match atI xs i with
    | some d => R.ok d μ
    | none => .bad) = _
  unfold atI
  rw [ixN_nat h0 (by omega), Option.bind_some, h]
theorem ix_tup {xs : List D} {i : Int} {x : D} {μ : Sto} (h0 : 0 ≤ i) (h : xs[i.toNat]? = some x) : dIx (.tup xs) (.int i) μ = .ok x μ := ix_lst (μ := μ) h0 h
section
variable {E : Exs} {ρ : Env} {μ : Sto} {fa : SA}
theorem wp_range1 {Q : List D × (Sto → Bool) → Sto → Prop} (h : (fa ρ μ).wp (fun ds μ1 => ∃ hi, ds = [.int hi] ∧ (-(2 ^ 62) ≤ hi ∧ hi < 2 ^ 62) ∧ Q (rngD 0 hi.toNat, fun _ => true) μ1) E) : (iRange1 fa ρ μ).wp Q E := by
  refine wp_bind (wp_mono h (fun ds μ1 ⟨hi, e, c, q⟩ => ?_) fun _ _ _ _ z => z)
  subst e
  show R.wp (if -(2 ^ 62) ≤ hi ∧ hi < 2 ^ 62 then _ else _) Q E
  rw [if_pos c]
  exact q
theorem wp_range2 {Q : List D × (Sto → Bool) → Sto → Prop} (h : (fa ρ μ).wp (fun ds μ1 => ∃ lo hi, ds = [.int lo, .int hi] ∧ (-(2 ^ 62) ≤ lo ∧ lo < 2 ^ 62 ∧ -(2 ^ 62) ≤ hi ∧ hi < 2 ^ 62) ∧ Q (rngD lo (hi - lo).toNat, fun _ => true) μ1) E) : (iRange2 fa ρ μ).wp Q E := by
  refine wp_bind (wp_mono h (fun ds μ1 ⟨lo, hi, e, c, q⟩ => ?_) fun _ _ _ _ z => z)
  subst e
  show R.wp (if -(2 ^ 62) ≤ lo ∧ lo < 2 ^ 62 ∧ -(2 ^ 62) ≤ hi ∧ hi < 2 ^ 62 then _ else _) Q E
  rw [if_pos c]
  exact q
end
end L3

namespace L3
open PySem PySem.Spec PyProof.Rows L2
/-! ### int(x), str(x), bool(x), tuple(x) -/
def dIntC : D → Sto → R D
  | .int i, μ => .ok (.int i) μ
  | .bl b, μ => .ok (.int (if b then 1 else 0)) μ
  | .str z, μ => (match PySem.intText? z with
    | some n => if z.length ≤ 640 then .ok (.int n) μ else .bad
    | none => .bad)
  | _, _ => .bad
section
variable {P : Pm} {X : Cx}
def dStrC : D → Sto → R D
  | .int i, μ => if i.natAbs.log2 < 1920 then .ok (.str (toString i)) μ else .bad
  | _, _ => .bad
def rStr1 : List V → Hp → VK → Prop := fun xs H Q => ∃ i, xs = [.int i] ∧ i.natAbs.log2 < 1920 ∧ Q (.str (toString i)) H
theorem cr_str1 : CallR X (.type "str") rStr1 := call_str_int
theorem cs_str1 : CallS P rStr1 (un dStrC) := by
  refine cs_un fun E L H μ v d Q s rv q => ?_
  cases rv with
  | int i =>
    have q : Post P E L H (fun d L' H' => ∀ v, Rep P H' L' v d → Q v H') (if i.natAbs.log2 < 1920 then .ok (.str (toString i)) μ else .bad) := q
    by_cases c : i.natAbs.log2 < 1920
    · rw [if_pos c] at q; exact ⟨i, rfl, c, q L H .refl s _ (.str _)⟩
    · rw [if_neg c] at q; exact q.elim
  | _ => exact q.elim
/-- tuple(x): a list's items, or the tuple itself -/
def dTupOf : D → Sto → R D := fun d μ => match d with
  | .tup ds => .ok (.tup ds) μ
  | d => (match asS μ d with
    | some ds => .ok (.tup ds) μ
    | none => .bad)
def rTupOf (K : PySem.W.Frag) : List V → Hp → VK → Prop := fun xs H Q => ∃ p ys, xs = [.ref p] ∧ ((SqL K H p ys ∧ ∀ l, H l = none → Q (.ref l) (upd H l (.tup ys))) ∨ (SqT K H p ys ∧ Q (.ref p) H))
theorem cs_tupOf (hK : P.K = X.K) : CallS P (rTupOf X.K) (un dTupOf) := by
  refine cs_un fun E L H μ v d Q s rv q => ?_
  have seq : Post P E L H (fun d L' H' => ∀ v, Rep P H' L' v d → Q v H') (match asS μ d with
      | some ds => .ok (.tup ds) μ
      | none => .bad) → rTupOf X.K [v] H Q := fun q => by
    cases e1 : asS μ d with
    | none => rw [e1] at q; exact q.elim
    | some ds =>
      rw [e1] at q
      obtain ⟨a, vs, rfl, hq, rq⟩ := asS_ok s rv e1
      rw [hK] at hq
      exact ⟨a, vs, rfl, .inl ⟨hq, fun l hl => q _ _ (Ext.grow s (upd_grow hl)) (s.grow (upd_grow hl)) _ (new_tup s hl rq)⟩⟩
  cases d with
  | tup ds =>
    have rv' := rv
    obtain ⟨a, vs, rfl, hq, rq⟩ := tup_ok rv
    rw [hK] at hq
    exact ⟨a, vs, rfl, .inr ⟨hq, q L H .refl s _ rv'⟩⟩
  | _ => exact seq q
end
/-! ### in -/
def flatD : D → Bool
  | .non => true
  | .bl _ => true
  | .int _ => true
  | .str _ => true
  | _ => false
def vOf : D → V
  | .bl b => .bl b
  | .int i => .int i
  | .str z => .str z
  | _ => .non
theorem flat_rep {P : Pm} {H : Hp} {L : Lv} {v : V} {d : D} (r : Rep P H L v d) (f : flatD d = true) : v = vOf d ∧ flatV v = true := by
  cases r with
  | non => exact ⟨rfl, rfl⟩
  | bl b => exact ⟨rfl, rfl⟩
  | int b => exact ⟨rfl, rfl⟩
  | str b => exact ⟨rfl, rfl⟩
  | _ => cases f
theorem flat_reps {P : Pm} {H : Hp} {L : Lv} : ∀ {vs : List V} {ds : List D}, Reps P H L vs ds → ds.all flatD = true → vs = ds.map vOf ∧ vs.all flatV = true
  | _, _, .nil, _ => ⟨rfl, rfl⟩
  | _, _, .cons r t, f => by
    rw [List.all_cons, Bool.and_eq_true] at f
    obtain ⟨e1, f1⟩ := flat_rep r f.1
    obtain ⟨e2, f2⟩ := flat_reps t f.2
    exact ⟨by rw [List.map_cons, e1, e2], by rw [List.all_cons, f1, f2]; rfl⟩
def inD (a : D) (ds : List D) : Bool := inV (vOf a) (ds.map vOf)
def dIn (neg : Bool) : D → D → Sto → R D := fun a b μ => match a, b with
  | .str x, .str z => .ok (.bl (if neg then !(!(Builtin.Str.occurrences z x 0 z.length 1).isEmpty) else !(Builtin.Str.occurrences z x 0 z.length 1).isEmpty)) μ
  | a, b => (match asQ μ b with
    | some ds => if flatD a = true ∧ ds.all flatD = true then .ok (.bl (if neg then !inD a ds else inD a ds)) μ else .bad
    | none => .bad)
def rInS (neg : Bool) : R2 := fun x y H Q => ∃ i j, x = .str i ∧ y = .str j ∧ Q (.bl (if neg then !(!(Builtin.Str.occurrences j i 0 j.length 1).isEmpty) else !(Builtin.Str.occurrences j i 0 j.length 1).isEmpty)) H
section
variable {P : Pm} {X : Cx}
theorem op_inA : OpR X (compareOp .In) (fun x y H Q => rInS false x y H Q ∨ rIn X.K false x y H Q) := OpR.or (r := rInS false) op_in_str op_in_seq
theorem os_in (hK : P.K = X.K) (neg : Bool) : OpS P (fun x y H Q => rInS neg x y H Q ∨ rIn X.K neg x y H Q) (dIn neg) := by
  intro E L H μ x y a b Q s ra rb q
  have seq : Post P E L H (fun d L' H' => ∀ v, Rep P H' L' v d → Q v H') (match asQ μ b with
      | some ds => if flatD a = true ∧ ds.all flatD = true then .ok (.bl (if neg then !inD a ds else inD a ds)) μ else .bad
      | none => .bad) → rInS neg x y H Q ∨ rIn X.K neg x y H Q := fun q => by
    cases e1 : asQ μ b with
    | none => rw [e1] at q; exact q.elim
    | some ds =>
      rw [e1] at q
      have q : Post P E L H (fun d L' H' => ∀ v, Rep P H' L' v d → Q v H') (if flatD a = true ∧ ds.all flatD = true then .ok (.bl (if neg then !inD a ds else inD a ds)) μ else .bad) := q
      by_cases c : flatD a = true ∧ ds.all flatD = true
      · rw [if_pos c] at q
        obtain ⟨p, vs, rfl, hq, rq⟩ := asQ_ok s rb e1
        rw [hK] at hq
        obtain ⟨e2, f2⟩ := flat_rep ra c.1
        obtain ⟨e3, f3⟩ := flat_reps rq c.2
        have fin := q L H .refl s _ (.bl _)
        refine .inr ⟨p, vs, rfl, hq, f2, f3, ?_⟩
        rw [e2, e3]
        exact fin
      · rw [if_neg c] at q; exact q.elim
  cases a with
  | str z =>
    cases b with
    | str y' => cases ra; cases rb; exact .inl ⟨_, _, rfl, rfl, q L H .refl s _ (.bl _)⟩
    | _ => exact seq q
  | _ => exact seq q
end
/-! ### a < b < c -/
def eChain (g g' : D → D → Sto → R D) (f1 f2 f3 : SE) : SE := fun ρ μ => (f1 ρ μ).bind fun a μ1 => (f2 ρ μ1).bind fun b μ2 => (g a b μ2).bind fun r μ3 => match r with
  | .bl true => (f3 ρ μ3).bind fun c μ4 => g' b c μ4
  | .bl false => .ok (.bl false) μ3
  | _ => .bad
section
variable {P : Pm} {W : WX} {X : Cx} {pos : Pos} {a b c : Expr} {f1 f2 f3 : SE} {r r' : R2} {g g' : D → D → Sto → R D}
theorem tChain_of (hg : OpS P r g) (hg' : OpS P r' g') {σ : Slots} {H : Hp} {Q : VK} (h : tV P W (eChain g g' f1 f2 f3) σ H Q) : tChain r r' (tV P W f1) (tV P W f2) (tV P W f3) σ H Q := by
  obtain ⟨L, ρ, μ, rs, st, q⟩ := h
  refine tV.first rs st q fun d μ1 v L1 H1 x1 s1 r1 rs1 q1 => ?_
  refine tV.first rs1 s1 q1 fun d2 μ2 v2 L2 H2 x2 s2 r2 rs2 q2 => ?_
  refine hg (WE W σ) L2 H2 μ2 v v2 d d2 _ s2 (r1.ext x2) r2 ?_
  cases e : g d d2 μ2 with
  | bad => rw [e] at q2; exact q2
  | exc c ns vs μ3 => rw [e] at q2; exact q2
  | ok z μ3 =>
    rw [e] at q2
    intro L3 H3 x3 s3 w rw'
    have q3 := Post.ext x3 q2
    cases rw' with
    | bl k =>
      refine ⟨k, rfl, ?_⟩
      cases k with
      | true =>
        rw [if_pos rfl]
        exact tV.first (rs2.ext x3) s3 q3 fun d4 μ4 v4 L4 H4 x4 s4 r4 rs4 q4 => hg' _ L4 H4 μ4 v2 v4 d2 d4 Q s4 ((r2.ext x3).ext x4) r4 q4
      | false =>
        rw [if_neg Bool.false_ne_true]
        exact q3 L3 H3 .refl s3 _ (.bl false)
    | _ => exact q3.elim
theorem ve_chain {op op' : CmpOp} (ho : OpR X (compareOp op) r) (ho' : OpR X (compareOp op') r') (hg : OpS P r g) (hg' : OpS P r' g') (h1 : VE P W X a f1) (h2 : VE P W X b f2) (h3 : VE P W X c f3) (hm : lastMarks [op, op'] [b, c] = false := by with_unfolding_all rfl) :
    VE P W X (.Compare a [op, op'] [b, c] pos) (eChain g g' f1 f2 f3) := (pe_chain ho ho' h1 h2 h3 hm).imp3 fun _ _ _ h => tChain_of hg hg' h
end
section
variable {P : Pm} {X : Cx}
end
/-! ### f-strings -/
def jS : List SE → Str → Env → Sto → R D
  | [], acc, _, μ => .ok (.str acc) μ
  | f :: fs, acc, ρ, μ => (f ρ μ).bind fun d μ1 => match d with
    | .str y => if (acc ++ y).length ≤ sizeLine then jS fs (acc ++ y) ρ μ1 else .bad
    | _ => .bad
def eJoined (fs : List SE) : SE := fun ρ μ => jS fs Str.empty ρ μ
def eFmt (f : SE) : SE := fun ρ μ => (f ρ μ).bind fun d μ1 => match d with
  | .str y => if y.length ≤ sizeLine then .ok (.str y) μ1 else .bad
  | .int i => if i.natAbs.log2 < 1920 then .ok (.str (toString i)) μ1 else .bad
  | _ => .bad
inductive VJ (P : Pm) (W : WX) (X : Cx) : List Expr → List SE → Prop
  | nil : VJ P W X [] []
  | cons {e : Expr} {f : SE} {es : List Expr} {fs : List SE} (h : VE P W X e f) (r : VJ P W X es fs) : VJ P W X (e :: es) (f :: fs)
section
variable {P : Pm} {W : WX} {X : Cx} {pos : Pos} {e : Expr} {f : SE}
theorem ve_fmt (h : VE P W X e f) : VE P W X (.FormattedValue e (-1) none pos) (eFmt f) :=
  (pe_fmt h).imp3 fun σ H Q ⟨L, ρ, μ, rs, st, q⟩ => by
    refine tV.first rs st q fun d μ1 v L1 H1 x1 s1 r1 rs1 q1 => ?_
    cases r1 with
    | str y =>
      have q1 : Post P (WE W σ) L1 H1 (fun d L' H' => ∀ v, Rep P H' L' v d → Q v H') (if y.length ≤ sizeLine then .ok (.str y) μ1 else .bad) := q1
      by_cases c : y.length ≤ sizeLine
      · rw [if_pos c] at q1; exact .inl ⟨y, rfl, c, q1 L1 H1 .refl s1 _ (.str _)⟩
      · rw [if_neg c] at q1; exact q1.elim
    | int i =>
      have q1 : Post P (WE W σ) L1 H1 (fun d L' H' => ∀ v, Rep P H' L' v d → Q v H') (if i.natAbs.log2 < 1920 then .ok (.str (toString i)) μ1 else .bad) := q1
      by_cases c : i.natAbs.log2 < 1920
      · rw [if_pos c] at q1; exact .inr ⟨i, rfl, c, q1 L1 H1 .refl s1 _ (.str _)⟩
      · rw [if_neg c] at q1; exact q1.elim
    | _ => exact q1.elim
theorem vj_pj : ∀ {es : List Expr} {fs : List SE}, VJ P W X es fs → PJ X es (fs.map (tV P W))
  | _, _, .nil => .nil
  | _, _, .cons h r => .cons h (vj_pj r)
theorem tJs_of {σ : Slots} {Q : VK} : ∀ {fs : List SE} {acc : Str} {H : Hp} {L : Lv} {ρ : Env} {μ : Sto}, RelS P H L σ ρ → St3 P H L μ → Post P (WE W σ) L H (fun d L' H' => ∀ v, Rep P H' L' v d → Q v H') (jS fs acc ρ μ) → tJs (fs.map (tV P W)) acc σ H fun out H1 => Q (.str out) H1
  | [], acc, H, L, ρ, μ, rs, st, q => q L H .refl st _ (.str _)
  | f :: fs, acc, H, L, ρ, μ, rs, st, q => by
    refine tV.first rs st q fun d μ1 v L1 H1 x1 s1 r1 rs1 q1 => ?_
    cases r1 with
    | str y =>
      have q1 : Post P (WE W σ) L1 H1 (fun d L' H' => ∀ v, Rep P H' L' v d → Q v H') (if (acc ++ y).length ≤ sizeLine then jS fs (acc ++ y) ρ μ1 else .bad) := q1
      by_cases c : (acc ++ y).length ≤ sizeLine
      · rw [if_pos c] at q1; exact ⟨y, rfl, c, tJs_of rs1 s1 q1⟩
      · rw [if_neg c] at q1; exact q1.elim
    | _ => exact q1.elim
theorem ve_joined {v1 v2 : Expr} {rest : List Expr} {fs : List SE} (h : VJ P W X (v1 :: v2 :: rest) fs) : VE P W X (.JoinedStr (v1 :: v2 :: rest) pos) (eJoined fs) :=
  (pe_joined (vj_pj h)).imp3 fun σ H Q ⟨L, ρ, μ, rs, st, q⟩ => tJs_of rs st q
end
def strsD : List D → Option (List Str)
  | [] => some []
  | .str b :: r => (strsD r).map (b :: ·)
  | _ :: _ => none
theorem strsD_ok {P : Pm} {H : Hp} {L : Lv} : ∀ {ds : List D} {bs : List Str} {vs : List V}, strsD ds = some bs → Reps P H L vs ds → vs = bs.map V.str
  | [], bs, vs, e, r => by cases r; cases e; rfl
  | d :: ds, bs, vs, e, r => by
    cases r with
    | cons h t =>
      cases h with
      | str b =>
        have e : (strsD ds).map (b :: ·) = some bs := e
        cases e1 : strsD ds with
        | none => rw [e1] at e; cases e
        | some cs =>
          rw [e1] at e
          cases e
          rw [strsD_ok e1 t]
          rfl
      | _ => cases e
section
variable {P : Pm} {X : Cx}
end
end L3

namespace L3
open PySem PySem.Spec PyProof.Rows L2
section
variable {Q : D → Sto → Prop} {E : Exs} {ρ : Env} {μ : Sto} {f f1 f2 f3 : SE} {fa : SA}
theorem wp_asked {pick : Str → Option Shape} (h : (f ρ μ).wp (fun d μ1 => Q (.tup [.str "told", d]) μ1) (fun c ns vs μ1 => ∃ sh, pick c = some sh ∧ ∃ d, sh.told ns vs = some d ∧ Q d μ1)) : (eAsked pick f ρ μ).wp Q E := by
  unfold eAsked
  cases e : f ρ μ with
  | bad => rw [e] at h; exact h
  | ok d μ1 => rw [e] at h; exact h
  | exc c ns vs μ1 =>
    rw [e] at h
    obtain ⟨sh, h1, d, h2, h3⟩ := h
    dsimp only
    rw [h1, Option.bind_some, h2]
    exact h3
theorem wp_chain {g g' : D → D → Sto → R D} (h : (f1 ρ μ).wp (fun a μ1 => (f2 ρ μ1).wp (fun b μ2 => (g a b μ2).wp (fun r μ3 => ∃ c, r = .bl c ∧ (c = true → (f3 ρ μ3).wp (fun d μ4 => (g' b d μ4).wp Q E) E) ∧ (c = false → Q (.bl false) μ3)) E) E) E) : (eChain g g' f1 f2 f3 ρ μ).wp Q E :=
  wp_bind (wp_mono h (fun a μ1 z => wp_bind (wp_mono z (fun b μ2 z => wp_bind (wp_mono z (fun r μ3 ⟨c, e, h1, h2⟩ => by
    subst e
    cases c with
    | true => exact wp_bind (h1 rfl)
    | false => exact h2 rfl) fun _ _ _ _ z => z)) fun _ _ _ _ z => z)) fun _ _ _ _ z => z)
theorem wp_fmt (h : (f ρ μ).wp (fun d μ1 => (∃ y, d = .str y ∧ y.length ≤ sizeLine ∧ Q (.str y) μ1) ∨ ∃ i : Int, d = .int i ∧ i.natAbs.log2 < 1920 ∧ Q (.str (toString i)) μ1) E) : (eFmt f ρ μ).wp Q E :=
  wp_bind (wp_mono h (fun d μ1 z => by
    rcases z with ⟨y, e, c, q⟩ | ⟨i, e, c, q⟩
    · subst e
      show R.wp (if y.length ≤ sizeLine then _ else _) Q E
      rw [if_pos c]; exact q
    · subst e
      show R.wp (if i.natAbs.log2 < 1920 then _ else _) Q E
      rw [if_pos c]; exact q) fun _ _ _ _ z => z)
theorem wp_joined {fs : List SE} (h : (jS fs Str.empty ρ μ).wp Q E) : (eJoined fs ρ μ).wp Q E := h
theorem wp_jNil {acc : Str} (q : Q (.str acc) μ) : (jS [] acc ρ μ).wp Q E := q
theorem wp_jCons {acc : Str} {fs : List SE} (h : (f ρ μ).wp (fun d μ1 => ∃ y, d = .str y ∧ (acc ++ y).length ≤ sizeLine ∧ (jS fs (acc ++ y) ρ μ1).wp Q E) E) : (jS (f :: fs) acc ρ μ).wp Q E :=
  wp_bind (wp_mono h (fun d μ1 ⟨y, e, c, q⟩ => by
    subst e
    show R.wp (if (acc ++ y).length ≤ sizeLine then _ else _) Q E
    rw [if_pos c]; exact q) fun _ _ _ _ z => z)
theorem wp_intI {i : Int} (q : Q (.int i) μ) : (dIntC (.int i) μ).wp Q E := q
theorem wp_intB {b : Bool} (q : Q (.int (if b = true then 1 else 0)) μ) : (dIntC (.bl b) μ).wp Q E := q
theorem wp_strI {i : Int} (h : i.natAbs.log2 < 1920) (q : Q (.str (toString i)) μ) : (dStrC (.int i) μ).wp Q E := by
  show R.wp (if i.natAbs.log2 < 1920 then _ else _) Q E
  rw [if_pos h]; exact q
theorem wp_tupOfE {a : D} (h : ∃ d, dTupOf a μ = .ok d μ ∧ Q d μ) : (dTupOf a μ).wp Q E := let ⟨d, h1, h2⟩ := h; wp_prim h1 h2
/-- one sign in a text -/
theorem wp_inSign {c : Nat} {z : Str} (q : Q (.bl (decide (c ∈ z.cps.toList))) μ) : (dIn false (.str ⟨#[c]⟩) (.str z) μ).wp Q E := by
  have e : dIn false (.str ⟨#[c]⟩) (.str z) μ = .ok (.bl (decide (c ∈ z.cps.toList))) μ := by
    show R.ok (D.bl (!(Builtin.Str.occurrences z ⟨#[c]⟩ 0 z.length 1).isEmpty)) μ = _
    rw [PySem.StrLaws.found_one z c]
  rw [e]; exact q
/-- texts put together -/
theorem wp_addS {x y : Str} (h : x.length + y.length ≤ sizeLine) (q : Q (.str (x ++ y)) μ) : (dAdd (.str x) (.str y) μ).wp Q E := by
  show R.wp (if x.length + y.length ≤ sizeLine then _ else _) Q E
  rw [if_pos h]; exact q
end
section
variable {E : Exs} {ρ : Env} {μ : Sto} {fa : SA}
theorem wp_enum {Q : List D × (Sto → Bool) → Sto → Prop} (h : (fa ρ μ).wp (fun ds μ1 => ∃ d, ds = [d] ∧ ∃ it, walkL μ1 d = some it ∧ Q (enumD 0 it.1, it.2) μ1) E) : (iEnumD fa ρ μ).wp Q E :=
  wp_bind (wp_mono h (fun ds μ1 ⟨d, e, it, e2, q⟩ => by subst e; dsimp only; rw [e2]; exact q) fun _ _ _ _ z => z)
theorem wp_zip {Q : List D × (Sto → Bool) → Sto → Prop} (h : (fa ρ μ).wp (fun ds μ1 => ∃ d e, ds = [d, e] ∧ ∃ it iu, walkL μ1 d = some it ∧ walkL μ1 e = some iu ∧ Q (zipD it.1 iu.1, fun μ' => it.2 μ' && iu.2 μ') μ1) E) : (iZipD fa ρ μ).wp Q E :=
  wp_bind (wp_mono h (fun ds μ1 ⟨d, e, e1, it, iu, e2, e3, q⟩ => by subst e1; dsimp only; rw [e2, e3]; exact q) fun _ _ _ _ z => z)
end
/-! ### lists that are cells -/
section
variable {μ : Sto} {k : Nat} {ds : List D} {i : Int} {x d : D} {g : MO} {m : Sto}
theorem asL_cell (h : μ[k]? = some (.lst ds)) : asL μ (.cell k) = some ds := by
  show (match μ[k]? with
    | some (.lst ds) => some ds
    | _ => none) = _
  rw [h]
theorem ix_cell (h : μ[k]? = some (.lst ds)) (h0 : 0 ≤ i) (hx : ds[i.toNat]? = some x) : dIx (.cell k) (.int i) μ = .ok x μ := by
  have h1 : i.toNat < ds.length := (List.getElem?_eq_some_iff.mp hx).1
  show (match asL μ (.cell k) with
    | some ds => (match atI ds i with
      | some d => R.ok d μ
      | none => .bad)
    | none => .bad) = _
  rw [asL_cell h]
  show (match atI ds i with
    | some d => R.ok d μ
    | none => .bad) = _
  unfold atI
  rw [ixN_nat h0 (by omega), Option.bind_some, hx]
theorem len_cell (h : μ[k]? = some (.lst ds)) : dLen (.cell k) μ = .ok (.int ds.length) μ := by
  show (match asL μ (.cell k) with
    | some ds => R.ok (D.int ds.length) μ
    | none => .bad) = _
  rw [asL_cell h]
theorem walkD_cell (h : μ[k]? = some (.lst ds)) : walkD μ (.cell k) = some (ds, fun μ' => match μ'[k]? with
      | some (.lst es) => D.beqL es ds
      | _ => false) := by
  show (match μ[k]? with
    | some (.lst ds) => some (ds, fun μ' : Sto => match μ'[k]? with
      | some (.lst es) => D.beqL es ds
      | _ => false)
    | _ => none) = _
  rw [h]
theorem gd_cell {μ' : Sto} (h : μ'[k]? = some (.lst ds)) : (fun μ' : Sto => match μ'[k]? with
      | some (.lst es) => D.beqL es ds
      | _ => false) μ' = true := by
  dsimp only
  rw [h]
  exact D.beqL_self ds
end
theorem wp_ixC {Q : D → Sto → Prop} {E : Exs} {μ : Sto} {k : Nat} {xs : List D} {i : Int} {x : D} (h : μ[k]? = some (.lst xs)) (h0 : 0 ≤ i) (hx : xs[i.toNat]? = some x) (q : Q x μ) : (dIx (.cell k) (.int i) μ).wp Q E := wp_ix (ix_cell h h0 hx) q
end L3

namespace L3
open PySem PySem.Spec PyProof.Rows L2
open SX (S)
/-! ### texts by their signs -/
def okT (a : List Nat) : Prop := ∀ c ∈ a, c < 1114112
instance (a : List Nat) : Decidable (okT a) := by unfold okT; infer_instance
theorem okT.s {a : List Nat} (h : okT a) : PyData.strOk (S a) = true := by
  show a.toArray.all (· < 0x110000) = true
  simp only [List.all_toArray, List.all_eq_true, decide_eq_true_eq]
  exact h
theorem okT.nil : okT [] := fun _ h => nomatch h
theorem okT.cons {c : Nat} {a : List Nat} (h : c < 1114112) (t : okT a) : okT (c :: a) := fun d hd => by
  rcases List.mem_cons.mp hd with e | e
  · subst e; exact h
  · exact t d e
theorem okT.app {a b : List Nat} (h : okT a) (t : okT b) : okT (a ++ b) := fun d hd => by
  rcases List.mem_append.mp hd with e | e
  · exact h d e
  · exact t d e
theorem okT.sub {a b : List Nat} (h : okT a) (t : ∀ c ∈ b, c ∈ a) : okT b := fun d hd => h d (t d hd)
theorem okT.take {a : List Nat} {n : Nat} (h : okT a) : okT (a.take n) := h.sub fun c hc => List.mem_of_mem_take hc
theorem okT.drop {a : List Nat} {n : Nat} (h : okT a) : okT (a.drop n) := h.sub fun c hc => List.mem_of_mem_drop hc
theorem okT.digits {a : List Nat} (h : NumText.AllDigits a) : okT a := fun c hc => by have := h c hc; omega
section
variable {Q : D → Sto → Prop} {E : Exs} {μ : Sto} {a b : List Nat}
theorem wp_lenT (h : a.length ≤ 16777216) (q : Q (.int a.length) μ) : (dLen (.str (S a)) μ).wp Q E := by
  show R.wp (if (S a).length ≤ sizeLine then .ok (.int (S a).length) μ else .bad) Q E
  rw [SX.S_len, if_pos (by rw [sizeLine_eq]; exact h)]; exact q
theorem wp_ixS {i : Int} {c : Nat} (h0 : 0 ≤ i) (hc : a[i.toNat]? = some c) (hl : a.length ≤ 16777216) (q : Q (.str (S [c])) μ) : (dIx (.str (S a)) (.int i) μ).wp Q E := by
  have h1 : i.toNat < a.length := (List.getElem?_eq_some_iff.mp hc).1
  have e : dIx (.str (S a)) (.int i) μ = .ok (.str (S [c])) μ := by
    show (if (S a).length ≤ sizeLine then (match atI a i with
      | some c => R.ok (D.str ⟨#[c]⟩) μ
      | none => .bad) else .bad) = _
    rw [SX.S_len, if_pos (by rw [sizeLine_eq]; exact hl)]
    unfold atI
    rw [ixN_nat h0 (by omega), Option.bind_some, hc]
  rw [e]; exact q
theorem wp_slT {lo hi : Option Int} (hl : a.length ≤ 16777216) (q : Q (.str (Txt.slice (S a) lo hi)) μ) : (dSl3 (.str (S a)) lo hi μ).wp Q E := by
  show R.wp (if (S a).length ≤ sizeLine then .ok (.str (cutS (S a) lo hi)) μ else .bad) Q E
  rw [SX.S_len, if_pos (by rw [sizeLine_eq]; exact hl), C8.cutS_slice]; exact q
theorem wp_takeT {i : Int} (h0 : 0 ≤ i) (hl : a.length ≤ 16777216) (q : Q (.str (S (a.take i.toNat))) μ) : (dSl3 (.str (S a)) none (some i) μ).wp Q E := wp_slT hl (by rw [SX.slice_to h0]; exact q)
theorem wp_dropT {i : Int} (h0 : 0 ≤ i) (hl : a.length ≤ 16777216) (q : Q (.str (S (a.drop i.toNat))) μ) : (dSl3 (.str (S a)) (some i) none μ).wp Q E := wp_slT hl (by rw [SX.slice_from h0]; exact q)
theorem wp_addT (hl : a.length + b.length ≤ 16777216) (q : Q (.str (S (a ++ b))) μ) : (dAdd (.str (S a)) (.str (S b)) μ).wp Q E := wp_addS (by rw [SX.S_len, SX.S_len, sizeLine_eq]; exact hl) (by rw [SX.S_cat]; exact q)
/-- a whole number's signs -/
def intL (i : Int) : List Nat := if i < 0 then 45 :: TL.numL i.natAbs else TL.numL i.natAbs
theorem int_text (i : Int) : Str.ofString (toString i) = S (intL i) := by
  by_cases h : i < 0
  · obtain ⟨n, rfl⟩ : ∃ n : Nat, i = Int.negSucc n := ⟨(-i - 1).toNat, by omega⟩
    unfold intL
    rw [if_pos h]
    have e := SX.num_S (n + 1)
    have e2 := congrArg TL.tl e
    rw [TL.tl_ofString] at e2
    refine TL.ext_tl ?_
    rw [TL.tl_ofString]
    have e3 : (toString (Int.negSucc n)).toList = '-' :: (toString ((n + 1 : Nat) : Int)).toList := by
      show ("-" ++ toString (n + 1) : String).toList = '-' :: (toString (n + 1)).toList
      rw [String.toList_append]
      rfl
    rw [e3, List.map_cons, e2]
    rfl
  · obtain ⟨n, rfl⟩ : ∃ n : Nat, i = n := ⟨i.toNat, by omega⟩
    unfold intL
    rw [if_neg h]
    exact SX.num_S n
theorem wp_strT {i : Int} (h : i.natAbs < 2 ^ 1900) (q : Q (.str (S (intL i))) μ) : (dStrC (.int i) μ).wp Q E := wp_strI (by
  by_cases h0 : i.natAbs = 0
  · rw [h0]; decide
  · have := (Nat.log2_lt h0).mpr h; omega) (by
  have e := int_text i
  rw [← e] at q
  exact q)
theorem wp_fmtI {ρ : Env} {f : SE} (h : (f ρ μ).wp (fun d μ1 => ∃ i : Int, d = .int i ∧ i.natAbs < 2 ^ 1900 ∧ Q (.str (S (intL i))) μ1) E) : (eFmt f ρ μ).wp Q E := wp_fmt (wp_mono h (fun d μ1 ⟨i, e, h, q⟩ => .inr ⟨i, e, by
  by_cases h0 : i.natAbs = 0
  · rw [h0]; decide
  · have := (Nat.log2_lt h0).mpr h; omega, by
  have e := int_text i
  rw [← e] at q
  exact q⟩) fun _ _ _ _ z => z)
/-- joined pieces, by signs -/
theorem wp_jT {ρ : Env} {acc : List Nat} {f : SE} {fs : List SE} (h : (f ρ μ).wp (fun d μ1 => ∃ y, d = .str (S y) ∧ acc.length + y.length ≤ 16777216 ∧ (jS fs (S (acc ++ y)) ρ μ1).wp Q E) E) : (jS (f :: fs) (S acc) ρ μ).wp Q E :=
  wp_jCons (wp_mono h (fun d μ1 ⟨y, e, c, q⟩ => ⟨S y, e, by rw [SX.S_cat, SX.S_len, List.length_append, sizeLine_eq]; exact c, by rw [SX.S_cat]; exact q⟩) fun _ _ _ _ z => z)
theorem wp_joinedT {ρ : Env} {fs : List SE} (h : (jS fs (S []) ρ μ).wp Q E) : (eJoined fs ρ μ).wp Q E := wp_joined h
theorem bools_bl (l : List Bool) : bools (l.map D.bl) = some l := by
  induction l with
  | nil => rfl
  | cons a r ih => show (bools (r.map D.bl)).map _ = _; rw [ih]; rfl
theorem wp_allB {l : List Bool} (q : Q (.bl (l.all id)) μ) : (dAll (.lst (l.map D.bl)) μ).wp Q E := by
  show R.wp (match bools (l.map D.bl) with
    | some bs => R.ok (D.bl (bs.all id)) μ
    | none => .bad) Q E
  rw [bools_bl]
  exact q
end
/-! ### numbers as texts -/
def IsNum (a : List Nat) : Prop := (1 ≤ a.length ∧ a.length ≤ 12) ∧ (∀ c ∈ a, 48 ≤ c ∧ c ≤ 57) ∧ (a = [48] ∨ a.head? ≠ some 48)
instance (a : List Nat) : Decidable (IsNum a) := by unfold IsNum; infer_instance
theorem IsNum.ne {a : List Nat} (h : IsNum a) : a ≠ [] := fun z => by subst z; exact absurd h.1.1 (by decide)
/-! lengths of written lists -/
section
variable {Q : D → Sto → Prop} {E : Exs} {μ : Sto} {a b c : D}
theorem wp_len0 (q : Q (.int 0) μ) : (dLen (.lst []) μ).wp Q E := q
theorem wp_len1 (q : Q (.int 1) μ) : (dLen (.lst [a]) μ).wp Q E := q
theorem wp_len2 (q : Q (.int 2) μ) : (dLen (.lst [a, b]) μ).wp Q E := q
theorem wp_len3 (q : Q (.int 3) μ) : (dLen (.lst [a, b, c]) μ).wp Q E := q
theorem wp_lenT1 (q : Q (.int 1) μ) : (dLen (.tup [a]) μ).wp Q E := q
theorem wp_lenT2 (q : Q (.int 2) μ) : (dLen (.tup [a, b]) μ).wp Q E := q
theorem wp_lenT3 (q : Q (.int 3) μ) : (dLen (.tup [a, b, c]) μ).wp Q E := q
end
end L3

namespace L3
open PySem PySem.Spec PyProof.Rows L2 PySem.Froz
/-! ### sets of texts: what stands at a place -/
def txE (e : Int × Value) : Str := match e.2 with
  | .str k _ => k
  | _ => Str.empty
theorem tailTx_all {ep : Nat} {xs : Array (Int × Value)} {t : SetTable} {d : Bool} (r : Ris t.place.toList) : Ris (tailTx ep xs t d).2.2.place.toList ∧ (tailTx ep xs t d).2.2.led = t.led ∧ (tailTx ep xs t d).1.toList.Perm xs.toList := by
  unfold tailTx
  by_cases c : (!d && t.tooFull) = true
  · rw [if_pos c]
    exact ⟨relayAll_ris _ _ _, relayAll_led _ _ _, relayAll_perm _ _ _⟩
  · rw [if_neg c]
    exact ⟨r, rfl, .refl _⟩
theorem offTx {t : SetTable} : (if t.plain = true then { t with plain := false } else t).place = t.place ∧ (if t.plain = true then { t with plain := false } else t).led = t.led := by
  split <;> exact ⟨rfl, rfl⟩
theorem addTx_all {D : SD} {z : Int} {v : Value} (r : Ris D.2.2.place.toList) : Ris (addTx z v D).2.2.place.toList ∧ (addTx z v D).2.2.led = D.2.2.led ∧ (addTx z v D).1.toList.Perm ((z, v) :: D.1.toList) := by
  have p1 := layNew_perm D.2.2 D.1 z v
  rw [Array.toList_push] at p1
  have p2 := p1.trans (List.perm_append_singleton _ _)
  have r1 := layNew_ris D.2.2 D.1 z v r
  have r2 := layNew_led D.2.2 D.1 z v
  obtain ⟨o1, o2⟩ := offTx (t := (layNew D.2.2 D.1 z v).2.1)
  unfold addTx
  generalize (if (layNew D.2.2 D.1 z v).2.1.plain = true then { (layNew D.2.2 D.1 z v).2.1 with plain := false } else (layNew D.2.2 D.1 z v).2.1) = t2 at o1 o2 ⊢
  obtain ⟨q1, q2, q3⟩ := tailTx_all (ep := D.2.1) (xs := (layNew D.2.2 D.1 z v).1) (t := t2) (d := (layNew D.2.2 D.1 z v).2.2.1) (by rw [o1]; exact r1)
  exact ⟨q1, q2.trans (o2.trans r2), q3.trans p2⟩
/-- the texts l (in any order), each once, in a set at a -/
structure StR (P : Program) (w : World) (h : Heap) (a : Addr) (l : List Str) : Prop where
  ex : ∃ D : SD, h.get? a = some (sObj "set" D) ∧ TxOk P w D l ∧ (D.1.toList.map txE).Perm l ∧ (∀ e ∈ D.1.toList, ∃ k u, e.2 = Value.str k u) ∧ Ris D.2.2.place.toList ∧ (w.params.followText "set-order" = true ∨ D.2.2.led = true)
  nd : l.Nodup
instance : DecidableEq Str := inferInstance
def insT (l : List Str) (k : Str) : List Str := if k ∈ l then l else k :: l
theorem insT_len (l : List Str) (k : Str) : (insT l k).length ≤ l.length + 1 := by
  unfold insT; split
  · omega
  · rw [List.length_cons]; omega
section
variable {P : Program} {w : World} {A : Around} {E : Value → Shared → Prop} {s : Shared} {a : Addr} {l : List Str} {k : Str} {u : Tok}
theorem StR.keep {h h' : Heap} (R : StR P w h a l) (f : ∀ o, h.get? a = some o → h'.get? a = some o) : StR P w h' a l := by
  obtain ⟨D, g1, g2⟩ := R.ex
  exact ⟨⟨D, f _ g1, g2⟩, R.nd⟩
theorem StR.there {h : Heap} (R : StR P w h a l) : ∃ o, h.get? a = some o := let ⟨D, g1, _⟩ := R.ex; ⟨_, g1⟩
theorem StR.new {h : Heap} (g : h.get? a = some { cls := .type "set", dict := none, data := .set #[] 0 (.fresh 0 0 (!w.params.followText "set-order")) }) : StR P w h a [] := by
  refine ⟨⟨(#[], 0, .fresh 0 0 (!w.params.followText "set-order")), g, TxOk.nil (by rfl), .refl _, fun e z => by simp at z, .nil, ?_⟩, .nil⟩
  show _ ∨ (!w.params.followText "set-order") = true
  cases w.params.followText "set-order"
  · exact .inr rfl
  · exact .inl rfl
theorem StR.addH {Q : Bool → Shared → Prop} (R : StR P w s.heap a l) (room : l.length + 1 < scanBound)
    (q : ∀ h' b, Heap.SameBut a s.heap h' → StR P w h' a (insT l k) → Q b { s with heap := h' }) : wpAny (model P w) A (setAddHashed a (.str k u) (hashStr w k)) Q E s := by
  obtain ⟨D, g1, g2, g3, g4, g5, g6⟩ := R.ex
  by_cases c : k ∈ l
  · have q := q s.heap false (Heap.SameBut.refl a s.heap) (by unfold insT; rw [if_pos c]; exact R)
    obtain ⟨es, ep, t⟩ := D
    have d1 : (sObj "set" (es, ep, t)).data = .set es ep t := rfl
    have d2 : t.fits es.size = true := g2.fit
    have d3 : ElemsOf (strKind P w) es.toList := g2.el
    have d4 : es.size = l.length := g2.sz
    have d5 : es.size < scanBound := by omega
    obtain ⟨e, he, hk⟩ := (g2.mem k).mp c
    unfold setAddHashed setAddHashedIn
    refine wpAny_holding (wpAny_bind (wpAny_setState_of g1 d1 d2 ?_))
    dsimp only
    rw [byScan_of rfl d5 d3]
    simp only [↓reduceIte]
    unfold setAddByScan
    refine wpAny_bind (wpAny_bind (wpAny_rule (wpAny_bind (wpAny_setScan_of (knd := strKind P w) (k := k) (is_str k u) g1 d1 d2 d3 ?_))))
    cases f : List.findIdx? (fun e => (strKind P w).is k e.2) es.toList with
    | none =>
      have z := List.findIdx?_eq_none_iff.mp f e he
      rw [hk] at z; cases z
    | some j =>
      dsimp only
      exact wpAny_pure (wpAny_pure q)
  · have q := q (s.heap.update a (fun _ => sObj "set" (addTx (hashStr w k) (.str k u) D))) true (Heap.SameBut.update _ _ _)
    refine add_x g1 g2 c room (q ⟨⟨addTx (hashStr w k) (.str k u) D, get_upd _ g1 rfl, ?_, ?_, ?_, (addTx_all g5).1, ?_⟩, ?_⟩)
    · unfold insT; rw [if_neg c]; exact add_ok u g2
    · unfold insT; rw [if_neg c]
      exact ((addTx_all g5).2.2.map txE).trans (.cons _ g3)
    · intro e he
      rcases List.mem_cons.mp ((addTx_all g5).2.2.mem_iff.mp he) with z | z
      · subst z; exact ⟨k, u, rfl⟩
      · exact g4 e z
    · rw [(addTx_all g5).2.1]; exact g6
    · unfold insT; rw [if_neg c]; exact List.nodup_cons.mpr ⟨c, R.nd⟩
theorem StR.typ (R : StR P w s.heap a l) : s.TypeIs (.ref a) "set" := let ⟨_, g1, _⟩ := R.ex; ⟨_, g1, rfl⟩
theorem StR.add1 {Q : Bool → Shared → Prop} (R : StR P w s.heap a l) (room : l.length + 1 < scanBound)
    (q : ∀ h' b, Heap.SameBut a s.heap h' → StR P w h' a (insT l k) → Q b { s with heap := h', toks := s.toks + 1 }) : wpAny (model P w) A (setAdd a (.str k u)) Q E s := by
  unfold setAdd
  refine wpAny_holding (wpAny_bind ((strKind P w).pyHash (is_str k u) ?_))
  exact StR.addH (s := { s with toks := s.toks + 1 }) R room q
theorem StR.add {Q : Value → Shared → Prop} (R : StR P w s.heap a l) (room : l.length + 1 < scanBound)
    (q : ∀ h', Heap.SameBut a s.heap h' → StR P w h' a (insT l k) → Q .none { s with heap := h', toks := s.toks + 1 }) :
    wpAny (model P w) A (call (.builtin "set.add") [.ref a, .str k u]) Q E s := by
  refine wpAny_call_entry F.slot_set_add R.typ F.entry_set_add ?_ (F.args_set_add_2 _ _)
  unfold Builtin.«set.add» Builtin.Frozenset.oneOther
  simp only [List.isEmpty_nil, bind_assoc]
  unfold Builtin.Frozenset.addrOf
  refine wpAny_bind (wpAny_pure ?_)
  try dsimp only
  refine wpAny_bind (wpAny_pure ?_)
  try dsimp only
  refine wpAny_bind (StR.add1 R room fun h' b sb r => ?_)
  show wpAny _ _ (ret Value.none) _ _ _
  exact wpAny_pure ⟨_, rfl, q h' sb r⟩
/-- sorted(a set of texts) -/
theorem strs_vals : ∀ {vs : List Value}, (∀ v ∈ vs, ∃ k u, v = Value.str k u) → StrsAre vs (vs.map fun v => txE (0, v))
  | [], _ => .nil
  | v :: vs, h => by
    obtain ⟨k, u, rfl⟩ := h v List.mem_cons_self
    exact .cons k u (strs_vals fun x hx => h x (List.mem_cons_of_mem _ hx))
theorem StR.sorted {Q : Value → Shared → Prop} (R : StR P w s.heap a l) (hh : A.handled = none) (room : l.length < 64)
    (q : ∀ s' p (out : Array Value) (c : Nat) (ys : List Str), (∀ b o, s.heap.get? b = some o → s'.heap.get? b = some o) → s'.gens = s.gens → s'.os = s.os → s.heap.objs.size ≤ p →
      s'.heap.get? p = some (seqObj "list" out c) → StrsAre out.toList ys → ys.Perm l → sortedS ys = true → Q (.ref p) s') :
    wpAny (model P w) A (call (.builtin "sorted") [.ref a]) Q E s := by
  obtain ⟨D, g1, g2, g3, g4, g5, g6⟩ := R.ex
  obtain ⟨es, ep, t⟩ := D
  have d4 : es.size = l.length := g2.sz
  refine Calls.call_function_entry kind_sorted plain_sorted entry_sorted (args_sorted1 _) ?_
  unfold Builtin.«sorted»
  refine wpAny_bind (m := checkCount "sorted" 1 1 _) (wpAny_pure ?_)
  refine wpAny_bind (collect_set (A := A.in1) hh ⟨_, g1, rfl, rfl⟩ g2.fit (by show es.size < scanBound; unfold scanBound; omega) g5 g6 fun s1 vs k1 z1 e1 o1 pm => ?_)
  have vl : vs.length = l.length := by rw [pm.length_eq, List.length_map, Array.length_toList]; exact d4
  have av : StrsAre vs (vs.map fun v => txE (0, v)) := strs_vals fun v hv => by
    obtain ⟨e, he, rfl⟩ := List.mem_map.mp (pm.mem_iff.mp hv)
    exact g4 e he
  have pl : (vs.map fun v => txE (0, v)).Perm l := by
    refine (pm.map fun v => txE (0, v)).trans ?_
    rw [List.map_map]
    exact g3
  refine wpAny_bind (wpAny_newList ?_ (by rw [vl, sizeLine_eq]; omega))
  have lo : (s1.heap.push (seqObj "list" vs.toArray 0)).get? s1.heap.objs.size = some (seqObj "list" vs.toArray 0) := Heap.get?_push_size _ rfl
  refine wpAny_bind (wpAny_holding (wpAny_call_entry slot_list_sort ⟨_, lo, rfl⟩ entry_list_sort
    (list_sort_treeK strKind_oneLt lo av.keysOf (fun v1 v2 rest e => keyKind_strs (by rw [← e]; exact av)) (by rw [vl]; exact room) fun st' hp hs => ⟨_, rfl, ?_⟩) (args_list_sort _)))
  obtain ⟨ys, y1, y2, y3⟩ := sorted_out_str av hp hs
  obtain ⟨c, hc⟩ := sortedHeap_at (vs := vs) (out := (arrOf st').map (·.2)) lo
  refine wpAny_pure ⟨_, rfl, q _ s1.heap.objs.size _ c ys (fun b o e => ?_) e1 o1 z1 hc y1 (y2.trans pl) y3⟩
  have e2 := k1 b o e
  have lt := Heap.lt_size e2
  show (sortedHeap (s1.heap.push (seqObj "list" vs.toArray 0)) s1.heap.objs.size vs _).get? b = some o
  rw [sortedHeap_old (Nat.ne_of_lt lt) (by rw [size_push']; exact Nat.lt_succ_of_lt lt)]
  exact Heap.get?_push_of_some _ e2
end
end L3

namespace L3
open PySem PySem.Spec PyProof.Rows L2 PySem.Froz
/-- a set of the texts l, as a thing of the abstract heap -/
def StO (P : Program) (w : World) (a : Addr) (l : List Str) : HO := .ext fun h => StR P w h a l
theorem stO_ok {P : Program} {w : World} {H : Hp} {h : Heap} {a : Addr} {l : List Str} (R : StR P w h a l) : ObjOk P w H h a (StO P w a l) := ⟨R, R.there, fun _ _ r f => r.keep f⟩
theorem stO_at {X : Cx} {pins : List (Addr × Obj)} {σ : L2.St} {H : Hp} {s : Shared} {a : Addr} {l : List Str} (I : Inv X pins σ H s) (e : H a = some (StO X.prog X.w a l)) : StR X.prog X.w s.heap a l := (I.hok a _ e).1
/-- the step that puts a text into a set -/
theorem st_put {X : Cx} {pins : List (Addr × Obj)} {σ : L2.St} {H : Hp} {s : Shared} {a : Addr} {l : List Str} {k : Str} {v : Value} {E : Value → Shared → Prop} {Q : Value → Shared → Prop} (I : Inv X pins σ H s) (e : H a = some (StO X.prog X.w a l)) (rv : RelV (.str k) v) (room : l.length + 1 < scanBound)
    (q : ∀ s', Inv X pins σ (upd H a (StO X.prog X.w a (insT l k))) s' → Q .none s') : wpAny (model X.prog X.w) X.A (call (.builtin "set.add") [.ref a, v]) Q E s := by
  obtain ⟨u, rfl⟩ := rv
  refine (stO_at I e).add room fun h' sb r => ?_
  exact q _ (I.write (e := a) (t' := s.toks + 1) (by rw [e]; trivial) (.inl rfl) (fun b o hb hu => (sb.2 b hb).trans hu) r.there (stO_ok r))
section
variable {X : Cx}
/-- {e for target in iter if ..}, of texts: D the new set -/
def tSc (P : Program) (w : World) (wi : TI) (g : TG) (tt : TT) (te : TE) (vs : List Nat) : TE := fun σ H Q => wi σ H fun J H1 => ∀ D, H1 D = none →
  ∃ W : Nat → Nat → Hp → Prop, (∃ m, W 0 m (upd H1 D (StO P w D []))) ∧ ∀ i m H, W i m H → (J.stop i H ∧ Q (.ref D) H) ∨
    (J.go i H ∧ ∃ Nx : Hp → Prop, (∀ H', Nx H' → ∃ m', m' < m ∧ W (i + 1) m' H') ∧ ∀ x H', J.yld i H x H' →
      g x (wipe σ vs) H' fun σ2 H2 => wipe σ2 vs = wipe σ vs ∧ tt σ2 H2 fun b H3 => if b = true then te σ2 H3 fun y H4 => ∃ l k, y = .str k ∧ H4 D = some (StO P w D l) ∧ l.length + 1 < scanBound ∧ Nx (upd H4 D (StO P w D (insT l k))) else Nx H3)
theorem sc_core {pins : List (Addr × Obj)} {s : Shared} {σ : L2.St} {H : Hp} {Q : VK} {ex tg iter : Expr} {ifs : List Expr} {scope : Scope} {own : List (Str × Nat)} {pos pos' : Pos} {wi : TI} {g : TG} {tt : TT} {te : TE}
    {use : Option (Value → Sem Unit)} {Qf : Value → Shared → Prop} (calm : X.calm = true) (nd : X.N.Nodup) (I : Inv X pins σ H s) (hi : PI X tg iter wi) (ok : BlkOk X.N X.env.scope scope own)
    (hg : ∀ (s : Shared) (H : Hp) (C : Addr) (cl : List (Str × Addr)) (fp : List Addr), PG (X.blk s H scope (compEnvC scope cl C X.env) fp) tg g)
    (ht : ∀ (s : Shared) (H : Hp) (C : Addr) (cl : List (Str × Addr)) (fp : List Addr), PTs (X.blk s H scope (compEnvC scope cl C X.env) fp) ifs tt)
    (he : ∀ (s : Shared) (H : Hp) (C : Addr) (cl : List (Str × Addr)) (fp : List Addr), PE (X.blk s H scope (compEnvC scope cl C X.env) fp) ex te)
    (fold : ∀ x, foldedSetIterable iter X.env x = pure x) (h : tSc X.prog X.w wi g tt te (own.map (·.2)) σ H Q)
    (fin : ∀ D C s' m H', Inv X pins σ H' s' → Q (.ref D) H' → s'.heap.Ns C m → FpOk X pins H' C → compPost (model X.prog X.w) X.A X.xe use Qf (.ref D) C (.ok .next) s') :
    wpAny (model X.prog X.w) X.A (comprehension (.SetComp ex [⟨tg, iter, ifs, 0⟩] scope pos) scope X.env pos' (newSet (.type "set")) false (eval iter X.env) use) Qf X.xe s := by
  have free : ∀ y ∈ scope.names, y.2 = .free → ∃ c, X.env.cells.lookup y.1 = some c := by
    intro y hy e
    have z := ok.free y hy e
    exact I.ok.has _ z
  refine wpAny_comprehension_free (use := use) rfl fold (closure_ok free) ok.kind (fun y hy e => by rw [ok.uniq y hy, e]) ?_
  refine thn (hi.run pins s σ H _ I h) fun xv s1 hx => thn hx fun itv s2 z2 => ?_
  obtain ⟨it, fp, tn, J, H2, e, I2, T, st2, f2, q⟩ := z2
  subst e
  refine wpAny_newSet_raw fun led hled => newEnv_comp ?_
  subst hled
  generalize hD : s2.heap.objs.size = D
  have Dn : H2 D = none := I2.hok.fresh (Nat.le_of_eq hD)
  obtain ⟨W, ⟨m0, w0⟩, turn⟩ := q D Dn
  generalize ho : ({ cls := .type "set", dict := none, data := .set #[] 0 (.fresh 0 0 (!X.w.params.followText "set-order")) } : Obj) = o0
  generalize hs3 : ({ s2 with heap := s2.heap.push o0 } : Shared) = s3
  have ofr : o0.isFreed = false := by rw [← ho]; rfl
  have old3 : ∀ b o, s2.heap.get? b = some o → s3.heap.get? b = some o := fun b o e => by rw [← hs3]; exact Heap.get?_push_of_some _ e
  have I3 : Inv X pins σ (upd H2 D (StO X.prog X.w D [])) s3 := by
    rw [← hs3]
    refine I2.laid (t' := s2.toks) (fun b o e => Heap.get?_push_of_some _ e) (Nat.le_of_eq hD) (stO_ok (StR.new ?_))
    rw [ho, ← hD]
    exact Heap.get?_push_size _ ofr
  have h3 : s3.heap = s2.heap.push o0 := by rw [← hs3]
  have small : ∀ b ∈ fp, b < s2.heap.objs.size := fun b hb => let ⟨o, e, _⟩ := T.obj _ _ st2 b hb; Heap.lt_size e
  have f3 : ∀ b ∈ fp, FpOk X pins (upd H2 D (StO X.prog X.w D [])) b ∧ b < s3.heap.objs.size := by
    intro b hb
    have lt := small b hb
    refine ⟨⟨?_, (f2 b hb).2⟩, ?_⟩
    · rw [upd_ne (by rw [← hD]; exact Nat.ne_of_lt lt)]
      exact (f2 b hb).1
    · rw [h3, Heap.size_push]; exact Nat.lt_succ_of_lt lt
  have st3 : tn 0 s3.heap := T.keep _ _ _ st2 fun b _ o e => old3 b o e
  have I4 := block_start I3 ok nd f3
  have pg := hg s3 (upd H2 D (StO X.prog X.w D [])) s3.heap.objs.size (cellsFrom (s3.heap.objs.size + 1) scope.names (cloFrom X.env.cells scope.names [])) fp
  have pt := ht s3 (upd H2 D (StO X.prog X.w D [])) s3.heap.objs.size (cellsFrom (s3.heap.objs.size + 1) scope.names (cloFrom X.env.cells scope.names [])) fp
  have pe := he s3 (upd H2 D (StO X.prog X.w D [])) s3.heap.objs.size (cellsFrom (s3.heap.objs.size + 1) scope.names (cloFrom X.env.cells scope.names [])) fp
  have nfp : ∀ b ∈ fp, (upd H2 D (StO X.prog X.w D [])) b = none := fun b hb => (f3 b hb).1.1
  show codeAny _ _ (.compStart (.SetComp ex [⟨tg, iter, ifs, 0⟩] scope pos) 0 (.ref it) (.ref D) (compEnvC scope (cellsFrom (s3.heap.objs.size + 1) scope.names (cloFrom X.env.cells scope.names [])) s3.heap.objs.size X.env)) (compPost (model X.prog X.w) X.A X.xe use Qf (.ref D) s3.heap.objs.size) _
  generalize hce : compEnvC scope (cellsFrom (s3.heap.objs.size + 1) scope.names (cloFrom X.env.cells scope.names [])) s3.heap.objs.size X.env = ce at I4 pg pt pe ⊢
  have cL : ce.locals = s3.heap.objs.size := by subst hce; rfl
  generalize hH3 : upd H2 D (StO X.prog X.w D []) = H3 at I3 I4 pg pt pe w0 nfp f3
  generalize hs4 : ({ s3 with heap := pushCells (s3.heap.push { cls := .type "dict", data := .dict #[] }) scope.names } : Shared) = s4 at I4 ⊢
  have st4 : tn 0 s4.heap := T.keep _ _ _ st3 fun b _ o e => by rw [← hs4]; exact pushCells_keeps _ _ _ _ (Heap.get?_push_of_some _ e)
  have stat : ∀ {σ' : L2.St} {H' : Hp} {s' : Shared}, Inv (X.blk s3 H3 scope ce fp) [] σ' H' s' → (∀ b ∈ fp, H' b = none) → ∀ b ∈ fp, FpOk (X.blk s3 H3 scope ce fp) [] H' b := by
    intro σ' H' s' I' hn b hb
    exact ⟨hn b hb, (I'.ok.exf b hb).1, I'.ok.exfs b hb, .inl hb, fun x c e => (I'.ok.exf b hb).2 x c e, fun p hp => absurd (show p ∈ ([] : List (Addr × Obj)) ++ [] from hp) (by simp)⟩
  have loop : codeAny (model X.prog X.w) X.A (.compLoop (.SetComp ex [⟨tg, iter, ifs, 0⟩] scope pos) 0 (.ref it) (.ref D) ce) (compPost (model X.prog X.w) X.A X.xe use Qf (.ref D) s3.heap.objs.size) s4 := by
    refine compLoop_set_any (fun n s' => ∃ i H', Inv (X.blk s3 H3 scope ce fp) [] (wipe σ (own.map (·.2))) H' s' ∧ tn i s'.heap ∧ (∀ b ∈ fp, H' b = none) ∧ W i n H') ?_ m0 ⟨0, H3, I4, st4, nfp, w0⟩
    rintro n s5 ⟨i, H5, I5, st5, n5, w5⟩
    rcases turn i n H5 w5 with ⟨stop, qq⟩ | ⟨go, Nx, hNx, step⟩
    · have td := T.done (X.blk s3 H3 scope ce fp) rfl rfl rfl calm i [] s5 _ H5 (fun _ _ => False) I5 (stat I5 n5) st5 stop
      refine thnF td fun r s6 ⟨hr, I6⟩ => ?_
      subst hr
      have I7 : Inv X pins σ H5 s6 := I3.call' (ch := fp) I6.os I6.base I6.hok I6.bare fun b hb =>
        let z := (f3 b hb).1.2
        ⟨z.2.2.1, z.1, z.2.2.2.1, z.2.2.2.2⟩
      have nC : H5 s3.heap.objs.size = none := by
        have z : H5 ce.locals = none := I6.free
        rw [cL] at z
        exact z
      obtain ⟨m, hn, _⟩ := I6.loc
      have hn : s6.heap.Ns ce.locals m := hn
      rw [cL] at hn
      exact fin D s3.heap.objs.size s6 m H5 I7 qq hn (I3.fpOk (Nat.le_refl _) nC)
    · have ti := T.item (X.blk s3 H3 scope ce fp) rfl rfl rfl calm i [] s5 _ H5 (fun _ _ => False) I5 (stat I5 n5) st5 go
      refine thnF ti fun r s6 ⟨u, hr, z6⟩ => ?_
      subst hr
      refine thnF z6 fun _ s7 ⟨x, H7, I7, r7, y7, st7, n7⟩ => ?_
      have J7 := I7.pinned (stat I7 n7) (T.obj _ _ st7)
      refine thnF (pg.run _ s7 _ H7 x u _ J7 r7 (step x H7 y7)) fun _ s8 ⟨σ8, H8, I8, w8, q8⟩ => ?_
      refine thnF (pt.run _ s8 σ8 H8 _ I8 q8) fun b s9 ⟨H9, I9, q9⟩ => ?_
      have over : ∀ {s' : Shared} {H' : Hp}, Inv (X.blk s3 H3 scope ce fp) ([] ++ pinsAt fp s7.heap) σ8 H' s' → Nx H' → ∃ m, m < n ∧ ∃ i H', Inv (X.blk s3 H3 scope ce fp) [] (wipe σ (own.map (·.2))) H' s' ∧ tn i s'.heap ∧ (∀ b ∈ fp, H' b = none) ∧ W i m H' := by
        intro s' H' I' nx
        obtain ⟨m', lt, w'⟩ := hNx H' nx
        have pin : ∀ b ∈ fp, ∀ o, s7.heap.get? b = some o → s'.heap.get? b = some o ∧ H' b = none := by
          intro b hb o e
          have z := I'.pin (b, o) (List.mem_append_right _ (List.mem_append_right _ (mem_pinsAt hb e)))
          exact ⟨z.1, z.2.1⟩
        have len : (wipe σ (own.map (·.2))).length = σ8.length := by rw [← w8, wipe_length]
        refine ⟨m', lt, i + 1, H', (I'.unpinned (pins := [])).weak len ?_, T.keep _ _ _ st7 fun b hb o e => (pin b hb o e).1, ?_, w'⟩
        · intro j v e
          rw [← w8] at e
          exact (wipe_some e).1
        · intro b hb
          obtain ⟨o, e, _⟩ := T.obj _ _ st7 b hb
          exact (pin b hb o e).2
      cases b with
      | false =>
        simp only [Bool.false_eq_true, if_false] at q9 ⊢
        exact over I9 q9
      | true =>
        simp only [if_true] at q9 ⊢
        refine thnF (pe.run _ s9 σ8 H9 _ I9 q9) fun z s10 ⟨y, H10, I10, r10, l, k, ek, D10, room, nx⟩ => ?_
        subst ek
        exact st_put (X := X.blk s3 H3 scope ce fp) I10 D10 r10 room fun s11 I11 => over I11 nx
  exact codeAny_compStart_set loop (T.self X.A 0 _ _ _ st4 loop)
end
end L3

namespace L3
open PySem PySem.Spec PyProof.Rows L2
section
variable {P : Pm} {W : WX} {X : Cx} {elt tg iter tg1 iter1 : Expr} {ifs ifs1 : List Expr} {scope : Scope} {own : List (Str × Nat)} {pos : Pos} {fi fi1 : SI} {sl sl1 vs1 : List Nat} {g g1 : SG} {tt tt1 : ST} {te : SE}
/-- what stands between two turns: the list so far, what is left gives ys and ends in μf -/
structure LcMid (P : Pm) (L1 : Lv) (H1 : Hp) (p : Addr) (σ0 : Slots) (ρ0 : Env) (total : List D) (H : Hp) (c : List Addr) (accD ys : List D) (μ : Sto) : Prop where
  rs : RelS P H ⟨c, p :: L1.x⟩ σ0 ρ0
  st : St3 P H ⟨c, p :: L1.x⟩ μ
  at_ : ∃ acc, H p = some (.lst acc) ∧ Reps P H ⟨c, p :: L1.x⟩ acc accD
  x : Ext0 L1 H1 ⟨c, p :: L1.x⟩ H
  prv : ∀ a ∈ L1.x, H a = H1 a
  sum : accD ++ ys = total
theorem LcMid.go {L1 : Lv} {H1 H H2 : Hp} {p : Addr} {σ0 σ1 : Slots} {ρ0 ρ1 : Env} {total accD ys : List D} {c : List Addr} {μ μ1 : Sto} {L2 : Lv} (m : LcMid P L1 H1 p σ0 ρ0 total H c accD ys μ) (x : Ext P ⟨c, p :: L1.x⟩ H L2 H2) (s : St3 P H2 L2 μ1) (r : RelS P H2 L2 σ1 ρ1) : ∃ c2, L2 = ⟨c2, p :: L1.x⟩ ∧ LcMid P L1 H1 p σ1 ρ1 total H2 c2 accD ys μ1 := by
  obtain ⟨c2, xx⟩ := L2
  have e : xx = p :: L1.x := x.px
  subst e
  obtain ⟨acc, h1, h2⟩ := m.at_
  exact ⟨c2, rfl, r, s, ⟨acc, (x.prv p List.mem_cons_self).trans h1, h2.ext x⟩, m.x.trans x.toExt0, fun a h => (x.prv a (List.mem_cons_of_mem _ h)).trans (m.prv a h), m.sum⟩
theorem LcMid.put {L1 : Lv} {H1 H : Hp} {p : Addr} {σ0 : Slots} {ρ0 : Env} {total accD zs : List D} {d : D} {v : V} {c : List Addr} {μ : Sto} (np : p ∉ L1.x) (m : LcMid P L1 H1 p σ0 ρ0 total H c accD (d :: zs) μ) (rv : Rep P H ⟨c, p :: L1.x⟩ v d) :
    ∃ acc, H p = some (.lst acc) ∧ acc.length = accD.length ∧ Ext0 ⟨c, p :: L1.x⟩ H ⟨c, p :: L1.x⟩ (upd H p (.lst (acc ++ [v]))) ∧ LcMid P L1 H1 p σ0 ρ0 total (upd H p (.lst (acc ++ [v]))) c (accD ++ [d]) zs μ := by
  obtain ⟨acc, h1, h2⟩ := m.at_
  obtain ⟨s9, x9⟩ := prv_put (acc' := acc ++ [v]) m.st (p := p) List.mem_cons_self h1
  refine ⟨acc, h1, h2.length, x9, m.rs.ext0 x9, s9, ⟨_, upd_same, (h2.append (.cons rv .nil)).ext0 x9⟩, m.x.trans x9, fun a h => ?_, by rw [List.append_assoc]; exact m.sum⟩
  have ne : a ≠ p := fun z => by subst z; exact np h
  rw [upd_ne ne]
  exact m.prv a h
end
end L3

namespace L3
open PySem PySem.Spec PyProof.Rows L2 PySem.Froz
/-! ### set(a list of texts) -/
theorem insF_len (xs : List Str) : ∀ l : List Str, (xs.foldl insT l).length ≤ l.length + xs.length := by
  induction xs with
  | nil => intro l; exact Nat.le_refl _
  | cons x xs ih =>
    intro l
    have h1 := ih (insT l x)
    have h2 := insT_len l x
    rw [List.foldl_cons, List.length_cons]
    omega
section
variable {P : Program} {w : World} {A : Around} {E : Value → Shared → Prop} {s : Shared}
theorem StR.upd {I : Addr} {fp wr : List Addr} {G : Array GenState → Array GenState → Prop} {n : Nat} {Pv : Nat → Value → Prop} {St : Nat → Shared → Prop} {R : Result → Shared → Prop} (W : WalksS P w A.in1 I fp wr G n Pv St) (S : Addr) (hS : S ∉ fp)
    (xs : List Str) (hn : n = xs.length) (hv : ∀ i v, Pv i v → ∃ z u, xs[i]? = some z ∧ v = Value.str z u) (room : xs.length + 1 < scanBound) : ∀ (k i : Nat) (s : Shared), n - i = k → i ≤ n → St i s → StR P w s.heap S ((xs.take i).foldl insT []) →
      (∀ s', Moved (S :: wr) G s s' → StR P w s'.heap S (xs.foldl insT []) → R (.ok (.ret .none)) s') → codeAny (model P w) A (.builtin "set.update.loop" ⟨[.ref S, .ref I], []⟩) R s := by
  have nw : S ∉ wr := fun h => hS (W.sub _ h)
  have sub : ∀ b ∈ wr, b ∈ S :: wr := fun b hb => List.mem_cons_of_mem _ hb
  intro k
  induction k with
  | zero =>
    intro i s e1 e2 st r q
    obtain rfl : i = n := by omega
    refine codeAny_builtin F.entry_set_update_loop ?_
    rw [Around.under_plainId F.plain_set_update_loop _]
    show wpAny _ A.in1 (pyNext (.ref I) >>= _) _ _ s
    refine wpAny_bind (W.done s _ _ st fun s' m => ?_)
    show wpAny _ A.in1 (ret Value.none) _ _ s'
    rw [hn, List.take_length] at r
    exact wpAny_pure (q s' (m.mono sub) (r.keep fun o e => m.heap S o nw e))
  | succ k ih =>
    intro i s e1 e2 st r q
    have lt : i < n := by omega
    refine codeAny_builtin F.entry_set_update_loop ?_
    rw [Around.under_plainId F.plain_set_update_loop _]
    show wpAny _ A.in1 (pyNext (.ref I) >>= _) _ _ s
    refine wpAny_bind (W.item i s _ _ lt st fun v s' pv st' m => ?_)
    obtain ⟨z, u, hz, rfl⟩ := hv i v pv
    have r' : StR P w s'.heap S ((xs.take i).foldl insT []) := r.keep fun o e => m.heap S o nw e
    have len := insF_len (xs.take i) []
    rw [List.length_take] at len
    show wpAny _ A.in1 (holding [Value.str z u] (setAdd S (.str z u)) >>= _) _ _ s'
    refine wpAny_bind (wpAny_holding (StR.add1 (k := z) r' (by simp at len; omega) fun h' b sb r2 => ?_))
    have e3 : insT ((xs.take i).foldl insT []) z = (xs.take (i + 1)).foldl insT [] := by
      have hi : i < xs.length := by omega
      rw [List.take_succ, hz, List.foldl_append]
      rfl
    rw [e3] at r2
    refine wpAny_pure ⟨plainId_quiet F.plain_set_update_loop _, ih (i + 1) _ (by omega) lt (W.frame _ s' _ _ st' (Nat.le_succ _) fun b hb o e => ?_) r2 fun s2 m2 rr => ?_⟩
    · rw [sb.2 b (fun h : b = S => hS (by rw [← h]; exact hb))]; exact e
    · refine q s2 (Moved.trans W.gtrans ((m.mono sub).then_heap (Nat.le_succ _) fun b o hb e => ?_) m2) rr
      rw [sb.2 b (fun h : b = S => hb (by rw [h]; exact List.mem_cons_self))]; exact e
end
section
variable {X : Cx}
theorem sql_upd {K : PySem.W.Frag} {H : Hp} {l D : Addr} {vs : List V} {o : HO} (h : SqL K H l vs) (n : H D = none) : SqL K (upd H D o) l vs := by
  rcases h with h | h
  · refine .inl ?_
    rcases h with h | ⟨o1, h⟩
    · exact .inl (by rw [upd_ne (fun z => by rw [z, n] at h; cases h)]; exact h)
    · exact .inr ⟨o1, by rw [upd_ne (fun z => by rw [z, n] at h; cases h)]; exact h⟩
  · exact .inr h
/-- {x for x in xs}, xs a list of texts: the reading -/
theorem tSc_id {K : PySem.W.Frag} {P : Program} {w : World} {l : Addr} {xs : List Str} {i : Nat} {σ : L2.St} {H1 : Hp} {Q : VK} (hi : i < σ.length) (hl : SqL K H1 l (xs.map V.str)) (room : xs.length + 1 < scanBound)
    (q : ∀ D, H1 D = none → Q (.ref D) (upd H1 D (StO P w D (xs.foldl insT [])))) : ∀ D, H1 D = none → ∃ W : Nat → Nat → Hp → Prop, (∃ m, W 0 m (upd H1 D (StO P w D []))) ∧ ∀ j m H, W j m H → ((Itl K l).stop j H ∧ Q (.ref D) H) ∨
    ((Itl K l).go j H ∧ ∃ Nx : Hp → Prop, (∀ H', Nx H' → ∃ m', m' < m ∧ W (j + 1) m' H') ∧ ∀ x H', (Itl K l).yld j H x H' →
      gName i x (wipe σ [i]) H' fun σ2 H2 => wipe σ2 [i] = wipe σ [i] ∧ tYes σ2 H2 fun b H3 => if b = true then tVar i σ2 H3 fun y H4 => ∃ l k, y = .str k ∧ H4 D = some (StO P w D l) ∧ l.length + 1 < scanBound ∧ Nx (upd H4 D (StO P w D (insT l k))) else Nx H3) := by
  intro D hD
  refine ⟨fun j m H => m = xs.length - j ∧ j ≤ xs.length ∧ H = upd H1 D (StO P w D ((xs.take j).foldl insT [])), ⟨xs.length, rfl, Nat.zero_le _, rfl⟩, ?_⟩
  rintro j m H ⟨rfl, hj, rfl⟩
  have hl2 : SqL K (upd H1 D (StO P w D ((xs.take j).foldl insT []))) l (xs.map V.str) := sql_upd hl hD
  by_cases lt : j < xs.length
  · have hx : (xs.map V.str)[j]? = some (.str xs[j]) := by rw [List.getElem?_map, List.getElem?_eq_getElem lt]; rfl
    refine .inr ⟨⟨_, _, hl2, hx⟩, fun H' => H' = upd H1 D (StO P w D ((xs.take (j + 1)).foldl insT [])), fun H' e => ⟨xs.length - (j + 1), by omega, rfl, lt, e⟩, fun x H' y => ?_⟩
    obtain ⟨rfl, y⟩ := y
    have ex : x = .str xs[j] := by
      have z := y _ hl2
      rw [hx] at z
      exact (Option.some.inj z).symm
    subst ex
    have len := insF_len (xs.take j) []
    rw [List.length_take] at len
    have sl : (wipe σ [i]).length = σ.length := wipe_length _ _
    refine ⟨?_, ?_⟩
    · simp [wipe]
    · unfold tYes
      dsimp only
      rw [if_pos rfl]
      refine ⟨.str xs[j], ?_, _, xs[j], rfl, upd_same, by simp at len; omega, ?_⟩
      · rw [List.getElem?_set_self (by omega)]
      · rw [L2.upd_upd]
        congr 2
        rw [List.take_succ, List.getElem?_eq_getElem lt, List.foldl_append]
        rfl
  · have e : j = xs.length := by omega
    subst e
    rw [List.take_length]
    refine .inl ⟨⟨_, sql_upd hl hD, by simp⟩, q D hD⟩
end
/-! ### sorted texts -/
def leS (a b : Str) : Bool := !ltCps b.cps.toList a.cps.toList
theorem leS_iff {a b : Str} : leS a b = true ↔ a.cps.toList ≤ b.cps.toList := by
  unfold leS
  rw [ltCps_eq]
  simp [List.not_lt]
theorem leS_trans (a b c : Str) (h1 : leS a b = true) (h2 : leS b c = true) : leS a c = true := leS_iff.mpr (List.le_trans (leS_iff.mp h1) (leS_iff.mp h2))
theorem leS_total (a b : Str) : (leS a b || leS b a) = true := by
  rw [Bool.or_eq_true, leS_iff, leS_iff]
  exact List.le_total _ _
theorem str_ext {a b : Str} (h : a.cps.toList = b.cps.toList) : a = b := by
  cases a; cases b
  simp only at h
  congr
  exact Array.toList_inj.mp h
theorem leS_anti {a b : Str} (h1 : leS a b = true) (h2 : leS b a = true) : a = b := str_ext (List.le_antisymm (leS_iff.mp h1) (leS_iff.mp h2))
theorem risingS_pw : ∀ {p : Str} {ys : List Str}, risingS p ys = true → (p :: ys).Pairwise fun a b => leS a b = true
  | p, [], _ => by simp
  | p, x :: r, h => by
    have h : (!ltCps x.cps.toList p.cps.toList && risingS x r) = true := h
    obtain ⟨h1, h2⟩ := Bool.and_eq_true_iff.mp h
    have ih := risingS_pw h2
    refine List.pairwise_cons.mpr ⟨fun b hb => ?_, ih⟩
    rcases List.mem_cons.mp hb with z | z
    · subst z; exact h1
    · exact leS_trans _ _ _ h1 ((List.pairwise_cons.mp ih).1 b z)
theorem sortedS_pw {ys : List Str} (h : sortedS ys = true) : ys.Pairwise fun a b => leS a b = true := by
  cases ys with
  | nil => exact .nil
  | cons x r => exact risingS_pw h
def sortS (l : List Str) : List Str := l.mergeSort leS
theorem sortS_eq {l ys : List Str} (p : ys.Perm l) (h : sortedS ys = true) : ys = sortS l :=
  List.Perm.eq_of_pairwise (le := fun a b => leS a b = true) (fun a b _ _ h1 h2 => leS_anti h1 h2) (sortedS_pw h) (List.pairwise_mergeSort leS_trans leS_total l) (p.trans (List.mergeSort_perm l leS).symm)
/-! ### sorted({x for x in f}), sorted(set(f)), sorted(f), of texts -/
def txsL (μ : Sto) (d : D) : Option (List Str) := (asL μ d).bind strsD
/-- .. with room at place i -/
def eIdx (i : Nat) (f : SE) : SE := fun ρ μ => if i < ρ.length then f ρ μ else .bad
def dSortL : D → Sto → R D := fun d μ => match (asS μ d).bind strsD with
  | some xs => if xs.length < 64 then .ok (.lst ((sortS xs).map D.str)) μ else .bad
  | none => .bad
theorem strs_reps {P : Pm} {H : Hp} {L : Lv} : ∀ ys : List Str, Reps P H L (ys.map V.str) (ys.map D.str)
  | [] => .nil
  | y :: ys => .cons (.str y) (strs_reps ys)
section
variable {P : Pm} {X : Cx} {W : WX} {f : SE}
/-- sorted(xs), of texts -/
theorem cs_sortL (hK : P.K = X.K) : CallS P (rSortedS X.K) (un dSortL) := by
  refine cs_un fun E L H μ v d Q s rv q => ?_
  unfold dSortL at q
  cases e1 : asS μ d with
  | none => rw [e1] at q; exact q.elim
  | some ds =>
    rw [e1] at q
    cases e2 : strsD ds with
    | none => rw [show (some ds).bind strsD = none from e2] at q; exact q.elim
    | some xs =>
      rw [show (some ds).bind strsD = some xs from e2] at q
      have q : Post P E L H (fun d L' H' => ∀ v, Rep P H' L' v d → Q v H') (if xs.length < 64 then .ok (.lst ((sortS xs).map D.str)) μ else .bad) := q
      by_cases c : xs.length < 64
      case neg => rw [if_neg c] at q; exact q.elim
      rw [if_pos c] at q
      obtain ⟨a, vs, rfl, hq, rq⟩ := asS_ok s rv e1
      rw [hK] at hq
      have e3 := strsD_ok e2 rq
      subst e3
      refine ⟨a, xs, rfl, hq, c, fun ys p pm so hp => ?_⟩
      have e := sortS_eq pm so
      refine q L _ (Ext.grow s (upd_grow hp)) (s.grow (upd_grow hp)) _ (.lst upd_same (fun z => s.new_not hp z) ?_)
      rw [← e]
      exact strs_reps ys
end
end L3

namespace L3
open PySem PySem.Spec PyProof.Rows L2
/-! ### max(a list of ints, default=d) -/
section
variable {prog : Program} {w : World} {A : Around} {E : Value → Shared → Prop} {I : Addr} {fp wr : List Addr} {G : Array GenState → Array GenState → Prop} {n : Nat} {P : Nat → Value → Prop} {St : Nat → Shared → Prop} {R : Result → Shared → Prop}
end
section
variable {prog : Program} {w : World} {A : Around} {E : Value → Shared → Prop} {s : Shared} {l : Addr} {its : List Value} {ns : List Int} {Q : Value → Shared → Prop}
end
section
variable {X : Cx}
end
section
variable {P : Pm} {W : WX} {X : Cx} {f : SE}
end
end L3

namespace L3
open PySem PySem.Spec PyProof.Rows L2
section
variable {P : Pm} {W : WX} {X : Cx} {f f2 : SE} {a : Addr} {kvs : List (Str × D)} {x : Str}
end
end L3

namespace L3
open PySem PySem.Spec PyProof.Rows L2
section
variable {P : Pm} {X : Cx} {W : WX} {f : SE}
end
end L3

namespace L3
open PySem PySem.Spec PySem.Calls PyProof.Rows L2
/-! ### x, *ys = a tuple -/
section
variable {pr : Program} {w : World} {A : Around} {E : Value → Shared → Prop} {s : Shared}
end
section
variable {X : Cx} {e1 e2 : Expr} {sp pos : Pos} {k : Nat}
end
section
variable {P : Pm} {X : Cx} {W : WX} {pos : Pos} {e : Expr} {fe : SE}
/-- x, *ys = e -/
def sStar (i j : Nat) (f : SE) : SS := fun ρ μ => (f ρ μ).thn ρ fun d μ1 => match d with
  | .tup (x :: xs) => if xs.length ≤ 16000 then .nx ((ρ.set i (some x)).set j (some (.lst xs))) μ1 else .bad
  | _ => .bad
end
end L3

namespace L3
open PySem PySem.Spec PySem.Calls PyProof.Rows L2
/-! ### dicts: cells with keys -/
def keyD : D → Option Key
  | .int i => some (.inl i)
  | .str z => some (.inr z)
  | _ => none
def valD : List Key → List D → Key → Option D
  | k :: ks, d :: ds, q => if k = q then some d else valD ks ds q
  | _, _, _ => none
def setD : List Key → List D → Key → D → List D
  | k :: ks, d :: ds, q, e => (if k = q then e else d) :: setD ks ds q e
  | _, _, _, _ => []
/-- in its place, or at the end -/
def hasK (ks : List Key) (q : Key) : Bool := ks.any fun k => decide (k = q)
def putD (ks : List Key) (ds : List D) (q : Key) (e : D) : MO := if hasK ks q = true then .dct ks (setD ks ds q e) else .dct (ks ++ [q]) (ds ++ [e])
def dctAt (μ : Sto) : D → Option (List Key × List D)
  | .cell k => (match μ[k]? with
    | some (.dct ks ds) => some (ks, ds)
    | _ => none)
  | .dct ks ds => some (ks, ds)
  | _ => none
section
variable {P : Pm} {H : Hp} {L : Lv} {μ : Sto}
theorem keyD_ok {v : V} {d : D} {k : Key} (r : Rep P H L v d) (e : keyD d = some k) : v = kV k := by
  cases r <;> first | cases e | skip
  all_goals rfl
theorem dctAt_eq {k : Nat} {ks : List Key} {ds : List D} (e : dctAt μ (.cell k) = some (ks, ds)) : μ[k]? = some (.dct ks ds) := by
  unfold dctAt at e
  dsimp only at e
  cases h : μ[k]? with
  | none => rw [h] at e; cases e
  | some m =>
    cases m with
    | dct _ _ => rw [h] at e; cases e; rfl
    | lst _ => rw [h] at e; cases e
    | ins _ _ _ => rw [h] at e; cases e
    | oth _ _ _ => rw [h] at e; cases e
theorem dctAt_cell {k : Nat} {ks : List Key} {ds : List D} (h : μ[k]? = some (.dct ks ds)) : dctAt μ (.cell k) = some (ks, ds) := by
  unfold dctAt; dsimp only; rw [h]
theorem dctC_ok (s : St3 P H L μ) {v : V} {k : Nat} {ks : List Key} {ds : List D} (r : Rep P H L v (.cell k)) (e : dctAt μ (.cell k) = some (ks, ds)) :
    ∃ a vs, v = .ref a ∧ L.c[k]? = some a ∧ H a = some (.dK (ks.zip vs)) ∧ ks.length = vs.length ∧ Reps P H L vs ds := by
  have h := dctAt_eq e
  cases r with
  | @cell a _ hc =>
    have z := s.at_ k a _ hc h
    cases z with
    | dct h' l r' => exact ⟨a, _, rfl, hc, h', l, r'⟩
theorem dct_ok (s : St3 P H L μ) {v : V} {d : D} {ks : List Key} {ds : List D} (r : Rep P H L v d) (e : dctAt μ d = some (ks, ds)) :
    ∃ a vs, v = .ref a ∧ Rd H a (.dK (ks.zip vs)) ∧ ks.length = vs.length ∧ Reps P H L vs ds := by
  cases d with
  | cell k =>
    obtain ⟨a, vs, h1, _, h3, h4, h5⟩ := dctC_ok s r e
    exact ⟨a, vs, h1, .of h3, h4, h5⟩
  | dct ks' ds' =>
    cases e
    cases r with
    | dct h n l r => exact ⟨_, _, rfl, h, l, r⟩
  | _ => cases e
theorem val_ok : ∀ {ks : List Key} {vs : List V} {ds : List D} (q : Key), Reps P H L vs ds → ks.length = vs.length →
    (valD ks ds q = none ∧ valV (ks.zip vs) q = none) ∨ ∃ d v, valD ks ds q = some d ∧ valV (ks.zip vs) q = some v ∧ Rep P H L v d
  | [], _, _, q, _, _ => .inl ⟨by unfold valD; rfl, rfl⟩
  | k :: ks, [], _, q, _, l => by cases l
  | k :: ks, v :: vs, _, q, .cons (d := d) r rr, l => by
    by_cases c : k = q
    · refine .inr ⟨d, v, by unfold valD; rw [if_pos c], ?_, r⟩
      rw [List.zip_cons_cons, valV_pos c]
    · rw [List.zip_cons_cons, valV_neg c]
      unfold valD
      rw [if_neg c]
      exact val_ok q rr (by simpa using l)
theorem any_zip (q : Key) : ∀ {ks : List Key} {vs : List V}, ks.length = vs.length → ((ks.zip vs).any fun kv => decide (kv.1 = q)) = hasK ks q
  | [], _, _ => by simp [hasK]
  | k :: ks, [], l => by cases l
  | k :: ks, v :: vs, l => by
    rw [List.zip_cons_cons, List.any_cons, any_zip q (by simpa using l)]
    rfl
theorem set_zip (q : Key) (e : V) (ed : D) (re : Rep P H L e ed) : ∀ {ks : List Key} {vs : List V} {ds : List D}, Reps P H L vs ds → ks.length = vs.length →
    ∃ vs', (ks.zip vs).map (fun kv => if kv.1 = q then (kv.1, e) else kv) = ks.zip vs' ∧ ks.length = vs'.length ∧ Reps P H L vs' (setD ks ds q ed)
  | [], vs, ds, _, _ => ⟨[], by simp, rfl, by unfold setD; exact .nil⟩
  | k :: ks, [], _, _, l => by cases l
  | k :: ks, v :: vs, _, .cons (d := d) (ds := ds) r rr, l => by
    obtain ⟨vs', h1, h2, h3⟩ := set_zip q e ed re (ks := ks) rr (by simpa using l)
    unfold setD
    by_cases c : k = q
    · refine ⟨e :: vs', ?_, by simp [h2], ?_⟩
      · rw [List.zip_cons_cons, List.map_cons, h1, List.zip_cons_cons]; simp [c]
      · rw [if_pos c]; exact .cons re h3
    · refine ⟨v :: vs', ?_, by simp [h2], ?_⟩
      · rw [List.zip_cons_cons, List.map_cons, h1, List.zip_cons_cons]; simp [c]
      · rw [if_neg c]; exact .cons r h3
theorem put_ok {ks : List Key} {vs : List V} {ds : List D} (q : Key) {e : V} {ed : D} (re : Rep P H L e ed) (rr : Reps P H L vs ds) (l : ks.length = vs.length) :
    ∃ ks' vs' ds', putK (ks.zip vs) q e = ks'.zip vs' ∧ putD ks ds q ed = .dct ks' ds' ∧ ks'.length = vs'.length ∧ Reps P H L vs' ds' := by
  unfold putK putD
  rw [any_zip q l]
  by_cases c : hasK ks q = true
  · obtain ⟨vs', h1, h2, h3⟩ := set_zip q e ed re rr l
    rw [if_pos c, if_pos c, h1]
    exact ⟨ks, vs', _, rfl, rfl, h2, h3⟩
  · rw [if_neg c, if_neg c]
    refine ⟨ks ++ [q], vs ++ [e], _, ?_, rfl, by simp [l], rr.append (.cons re .nil)⟩
    rw [List.zip_append l]
    rfl
theorem put_write {k : Nat} {a : Addr} {ks : List Key} {vs : List V} {ds : List D} (s : St3 P H L μ) (hk : L.c[k]? = some a) (ho : H a = some (.dK (ks.zip vs))) (l : ks.length = vs.length) (rr : Reps P H L vs ds) (q : Key) {e : V} {ed : D} (re : Rep P H L e ed) :
    Ext P L H L (upd H a (.dK (putK (ks.zip vs) q e))) ∧ St3 P (upd H a (.dK (putK (ks.zip vs) q e))) L (μ.set k (putD ks ds q ed)) := by
  obtain ⟨ks', vs', ds', h1, h2, h3, h4⟩ := put_ok q re rr l
  rw [h1, h2]
  exact cell_write s hk ho (fun _ z => nomatch z) (fun _ z => nomatch z) fun x => .dct upd_same h3 (h4.ext0 x)
theorem new_dct (s : St3 P H L μ) {p : Addr} {ks : List Key} {vs : List V} {ds : List D} (n : H p = none) (l : ks.length = vs.length) (r : Reps P H L vs ds) :
    Ext P L H (L.cell p) (upd H p (.dK (ks.zip vs))) ∧ St3 P (upd H p (.dK (ks.zip vs))) (L.cell p) (μ ++ [.dct ks ds]) ∧ Rep P (upd H p (.dK (ks.zip vs))) (L.cell p) (.ref p) (.cell μ.length) :=
  ⟨Ext.cell s n, s.cell n (.dct upd_same l (r.ext (Ext.cell s n))), .cell (cell_last s)⟩
end
/-! d[k], d.get(k, z) -/
def dDix : D → D → Sto → R D := fun o i μ => match dctAt μ o, keyD i with
  | some (ks, ds), some q => (match valD ks ds q with
    | some d => .ok d μ
    | none => .bad)
  | _, _ => .bad
def dDget (o i z : D) (μ : Sto) : R D := match dctAt μ o, keyD i with
  | some (ks, ds), some q => .ok ((valD ks ds q).getD z) μ
  | _, _ => .bad
def eDget2 (fo fi fz : SE) : SE := fun ρ μ => (fo ρ μ).bind fun o μ1 => match dctAt μ1 o with
  | some _ => (fi ρ μ1).bind fun i μ2 => (fz ρ μ2).bind fun z μ3 => dDget o i z μ3
  | none => .bad
section
variable {P : Pm} {W : WX} {X : Cx} {o i z e : Expr} {fo fi fz fe : SE} {pos apos cpos : Pos}
theorem ve_dix (hu : X.A.units + 64 < cLine) (ho : VE P W X o fo) (hi : VE P W X i fi) (hs : NoSl i := by intro _ _; rfl) : VE P W X (.Subscript o i pos) (eB dDix fo fi) :=
  (pe_dget (by omega) ho hi hs).imp3 fun σ H Q ⟨L, ρ, μ, rs, st, q⟩ => by
    refine tV.first rs st q fun od μ1 ov L1 H1 x1 s1 r1 rs1 q1 => ?_
    refine tV.first rs1 s1 q1 fun id μ2 iv L2 H2 x2 s2 r2 rs2 q2 => ?_
    have z2 : Post P (WE W σ) L2 H2 (fun d L' H' => ∀ v, Rep P H' L' v d → Q v H') (dDix od id μ2) := q2
    clear q2
    unfold dDix at z2
    cases e1 : dctAt μ2 od with
    | none => rw [e1] at z2; exact z2.elim
    | some kd =>
      cases e2 : keyD id with
      | none => rw [e1, e2] at z2; exact z2.elim
      | some k =>
        obtain ⟨ks, ds⟩ := kd
        rw [e1, e2] at z2
        dsimp only at z2
        obtain ⟨a, vs, rfl, ha, hl, rr⟩ := dct_ok s2 (r1.ext x2) e1
        have ek := keyD_ok r2 e2
        subst ek
        rcases val_ok k rr hl with ⟨n1, n2⟩ | ⟨d, v, n1, n2, rv⟩
        · rw [n1] at z2; exact z2.elim
        · rw [n1] at z2
          exact ⟨a, v, rfl, .inl ⟨_, _, ha, rfl, n2.symm⟩, z2 L2 H2 .refl s2 _ rv⟩
/-- d[k] = e -/
def sDput (fe fo fi : SE) : SS := fun ρ μ => (fe ρ μ).thn ρ fun d μ1 => (fo ρ μ1).thn ρ fun o μ2 => (fi ρ μ2).thn ρ fun i μ3 => match o, dctAt μ3 o, keyD i with
  | .cell c, some (ks, ds), some q => if ks.length < 1000 then .nx ρ (μ3.set c (putD ks ds q d)) else .bad
  | _, _, _ => .bad
theorem vs_dput (hu : X.A.units + 64 < cLine) (he : VE P W X e fe) (ho : VE P W X o fo) (hi : VE P W X i fi) (hs : swapsWith e (some (.Subscript o i apos)) pos.line X.env = pure false := by rfl) : VS P W X (.Assign [.Subscript o i apos] e pos) (sDput fe fo fi) :=
  (ps_dput (by omega) ho hi he hs).imp3 fun D σ H ⟨L, ρ, μ, rs, s, q⟩ => by
    refine tV.firstS rs s q fun d μ1 v L1 H1 x1 s1 r1 rs1 q1 => ?_
    refine tV.firstS rs1 s1 q1 fun od μ2 ov L2 H2 x2 s2 r2 rs2 q2 => ?_
    refine tV.firstS rs2 s2 q2 fun id μ3 iv L3 H3 x3 s3 r3 rs3 q3 => ?_
    cases od with
    | cell c =>
      cases e1 : dctAt μ3 (.cell c) with
      | none => rw [e1] at q3; exact q3.elim
      | some kd =>
        obtain ⟨ks, ds⟩ := kd
        obtain ⟨a, vs, rfl, hc, ha, hl, rr⟩ := dctC_ok s3 (r2.ext x3) e1
        cases e2 : keyD id with
        | none => rw [e1, e2] at q3; exact q3.elim
        | some k =>
          rw [e1, e2] at q3
          have ek := keyD_ok r3 e2
          subst ek
          have z3 : PostS P W D L3 H3 (if ks.length < 1000 then .nx ρ (μ3.set c (putD ks ds k d)) else .bad) := q3
          clear q3
          by_cases cl : ks.length < 1000
          case neg => rw [if_neg cl] at z3; exact z3.elim
          rw [if_pos cl] at z3
          obtain ⟨x4, s4⟩ := put_write s3 hc ha hl rr k ((r1.ext x2).ext x3)
          exact ⟨a, _, rfl, DPut.k ha (by rw [List.length_zip, sizeLine_eq]; omega), z3 σ L3 _ x4 s4 (rs3.ext x4)⟩
    | _ => exact q3.elim
end
/-! dict(pairs), dict(d), sorted(d) -/
def prsD : List D → Option (List Key × List D)
  | [] => some ([], [])
  | .tup [k, d] :: r => (match keyD k, prsD r with
    | some q, some (ks, ds) => some (q :: ks, d :: ds)
    | _, _ => none)
  | _ :: _ => none
def dDictP : D → Sto → R D := fun d μ => match (asS μ d).bind prsD with
  | some (ks, ds) => if ks.Nodup then .ok (.cell μ.length) (μ ++ [.dct ks ds]) else .bad
  | none => .bad
def txtK : List Key → Option (List Str)
  | [] => some []
  | .inr z :: r => (txtK r).map (z :: ·)
  | .inl _ :: _ => none
def dSortK : D → Sto → R D := fun d μ => match (dctAt μ d).bind fun kd => txtK kd.1 with
  | some xs => if xs.length < 64 then .ok (.lst ((sortS xs).map D.str)) μ else .bad
  | none => .bad
section
variable {P : Pm} {X : Cx} {H : Hp} {L : Lv} {μ : Sto}
theorem txtK_ok : ∀ {ks : List Key} {xs : List Str}, txtK ks = some xs → ks = xs.map Sum.inr
  | [], xs, e => by cases e; rfl
  | .inl _ :: _, xs, e => by cases e
  | .inr z :: r, xs, e => by
    have e : (txtK r).map (z :: ·) = some xs := e
    cases e1 : txtK r with
    | none => rw [e1] at e; cases e
    | some ys => rw [e1] at e; cases e; rw [txtK_ok e1]; rfl
theorem merge_new : ∀ (more acc : List (Key × V)), (acc.map (·.1) ++ more.map (·.1)).Nodup → mergeK acc more = acc ++ more
  | [], acc, _ => by simp [mergeK]
  | p :: r, acc, h => by
    have no : p.1 ∉ acc.map (·.1) := fun z => (List.nodup_append.mp h).2.2 p.1 z p.1 (by simp) rfl
    have pn : valV acc p.1 = none := by
      have ha := valV_any p.1 acc
      cases e : valV acc p.1 with
      | none => rfl
      | some v =>
        rw [e] at ha
        obtain ⟨q, h1, h2⟩ := List.any_eq_true.mp ha
        exact absurd (List.mem_map.mpr ⟨q, h1, of_decide_eq_true h2⟩) no
    show mergeK (putK acc p.1 p.2) r = _
    rw [putK_new p.2 pn, merge_new r (acc ++ [(p.1, p.2)]) (by simpa using h)]
    simp
theorem prs_ok (hK : P.K = X.K) : ∀ {vs : List V} {es : List D} {ks : List Key} {ds : List D}, Reps P H L vs es → prsD es = some (ks, ds) →
    ∃ (ps : List Addr) (us : List V), vs = ps.map V.ref ∧ ks.length = us.length ∧ Reps P H L us ds ∧ Paired (fun p kv => SqT X.K H p [kV kv.1, kv.2]) ps (ks.zip us)
  | _, [], _, _, .nil, e => by cases e; exact ⟨[], [], rfl, rfl, .nil, .nil⟩
  | _, d0 :: es, ks, ds, .cons r0 rr, e => by
    match d0, r0, e with
    | .tup [k, d], r0, e =>
      have e : (match keyD k, prsD es with
        | some q, some (ks, ds) => some (q :: ks, d :: ds)
        | _, _ => none) = some (ks, ds) := e
      cases e1 : keyD k with
      | none => rw [e1] at e; cases e
      | some q =>
        cases e2 : prsD es with
        | none => rw [e1, e2] at e; cases e
        | some kd =>
          obtain ⟨ks1, ds1⟩ := kd
          rw [e1, e2] at e
          cases e
          obtain ⟨a, ws, rfl, hq, rw'⟩ := tup_ok r0
          obtain ⟨v, w, rfl, rv, rw2⟩ := rw'.two
          have ek := keyD_ok rv e1
          subst ek
          obtain ⟨ps, us, h1, h2, h3, h4⟩ := prs_ok hK rr e2
          rw [hK] at hq
          exact ⟨a :: ps, w :: us, by rw [h1]; rfl, by simp [h2], .cons rw2 h3, .cons hq h4⟩
    | .tup [], _, e => cases e
    | .tup [_], _, e => cases e
    | .tup (_ :: _ :: _ :: _), _, e => cases e
    | .non, _, e => cases e
    | .bl _, _, e => cases e
    | .int _, _, e => cases e
    | .str _, _, e => cases e
    | .lst _, _, e => cases e
    | .dct _ _, _, e => cases e
    | .obj _ _ _, _, e => cases e
    | .cell _, _, e => cases e
    | .scr _, _, e => cases e
    | .key _, _, e => cases e
theorem cs_dictP (hK : P.K = X.K) : CallS P (fun xs H Q => ∃ (a : Addr) (ps : List Addr) (kvs : List (Key × V)), xs = [.ref a] ∧ SqL X.K H a (ps.map V.ref) ∧ Paired (fun p kv => SqT X.K H p [kV kv.1, kv.2]) ps kvs ∧ ∀ p, H p = none → Q (.ref p) (upd H p (.dK (mergeK [] kvs)))) (un dDictP) := by
  refine cs_un fun E L H μ v d Q s rv q => ?_
  unfold dDictP at q
  cases e1 : asS μ d with
  | none => rw [e1] at q; exact q.elim
  | some es =>
    rw [e1] at q
    cases e2 : prsD es with
    | none => rw [show (some es).bind prsD = none from e2] at q; exact q.elim
    | some kd =>
      obtain ⟨ks, ds⟩ := kd
      rw [show (some es).bind prsD = some (ks, ds) from e2] at q
      dsimp only at q
      by_cases c : ks.Nodup
      case neg => rw [if_neg c] at q; exact q.elim
      rw [if_pos c] at q
      obtain ⟨a, vs, rfl, hq, rq⟩ := asS_ok s rv e1
      rw [hK] at hq
      obtain ⟨ps, us, rfl, h2, h3, h4⟩ := prs_ok hK rq e2
      refine ⟨a, ps, _, rfl, hq, h4, fun p hp => ?_⟩
      rw [merge_new _ [] (by rw [List.map_nil, List.nil_append, List.map_fst_zip (by omega)]; exact c), List.nil_append]
      obtain ⟨a1, a2, a3⟩ := new_dct s hp h2 h3
      exact q _ _ a1 a2 _ a3
theorem cs_sortK : CallS P (fun xs H Q => ∃ (a : Addr) (kvs : List (Key × V)) (ks : List Str), xs = [.ref a] ∧ Rd H a (.dK kvs) ∧ kvs.map (·.1) = ks.map Sum.inr ∧ ks.length < 64 ∧ ∀ ys p, ys.Perm ks → sortedS ys = true → H p = none → Q (.ref p) (upd H p (.lst (ys.map V.str)))) (un dSortK) := by
  refine cs_un fun E L H μ v d Q s rv q => ?_
  unfold dSortK at q
  cases e1 : dctAt μ d with
  | none => rw [e1] at q; exact q.elim
  | some kd =>
    obtain ⟨ks, ds⟩ := kd
    rw [e1] at q
    cases e2 : txtK ks with
    | none => rw [show ((some (ks, ds)).bind fun kd => txtK kd.1) = none from e2] at q; exact q.elim
    | some xs =>
      rw [show ((some (ks, ds)).bind fun kd => txtK kd.1) = some xs from e2] at q
      dsimp only at q
      by_cases c : xs.length < 64
      case neg => rw [if_neg c] at q; exact q.elim
      rw [if_pos c] at q
      obtain ⟨a, vs, rfl, ha, hl, rr⟩ := dct_ok s rv e1
      refine ⟨a, _, xs, rfl, ha, ?_, c, fun ys p pm so hp => ?_⟩
      · rw [List.map_fst_zip (by omega)]; exact txtK_ok e2
      have e := sortS_eq pm so
      refine q L _ (Ext.grow s (upd_grow hp)) (s.grow (upd_grow hp)) _ (.lst upd_same (fun z => s.new_not hp z) ?_)
      rw [← e]
      exact strs_reps ys
end
end L3

namespace L3
open PySem PySem.Spec PySem.Calls PyProof.Rows L2
/-! ### targets that write: xs[i], d[k] -/
abbrev MG := D → Env → Sto → R Unit
abbrev MGs := List D → Env → Sto → R Unit
def tVM (P : Pm) (W : WX) (g : MG) : TG := fun v σ H Q => ∃ L ρ μ d, RelS P H L σ ρ ∧ St3 P H L μ ∧ Rep P H L v d ∧ Post P (WE W σ) L H (fun _ _ H' => Q σ H') (g d ρ μ)
def tVMs (P : Pm) (W : WX) (g : MGs) : TGs := fun v σ H Q => ∃ L ρ μ d, RelS P H L σ ρ ∧ St3 P H L μ ∧ Reps P H L v d ∧ Post P (WE W σ) L H (fun _ _ H' => Q σ H') (g d ρ μ)
def mNil : MGs := fun ds _ μ => match ds with
  | [] => .ok () μ
  | _ => .bad
def mCons (g : MG) (gs : MGs) : MGs := fun ds ρ μ => match ds with
  | d :: ds => (g d ρ μ).bind fun _ μ1 => gs ds ρ μ1
  | [] => .bad
def mSub (fo fi : SE) : MG := fun d ρ μ => (fo ρ μ).bind fun o μ1 => (fi ρ μ1).bind fun i μ2 => match o, i with
  | .cell k, .int z => (match setL k z d μ2 with
    | some μ3 => .ok () μ3
    | none => .bad)
  | _, _ => .bad
def putAt (o i d : D) (μ : Sto) : Option Sto := match o, dctAt μ o, keyD i with
  | .cell c, some (ks, ds), some q => if ks.length < 1000 then some (μ.set c (putD ks ds q d)) else none
  | _, _, _ => none
def mSubD (fo fi : SE) : MG := fun d ρ μ => (fo ρ μ).bind fun o μ1 => (fi ρ μ1).bind fun i μ2 => match putAt o i d μ2 with
  | some μ3 => .ok () μ3
  | none => .bad
def sMul (n : Nat) (f : SE) (g : MGs) : SS := fun ρ μ => (f ρ μ).thn ρ fun d μ1 => match asQ μ1 d with
  | some ds => if ds.length = n then (g ds ρ μ1).thn ρ fun _ μ2 => .nx ρ μ2 else .bad
  | none => .bad
section
variable {P : Pm} {W : WX} {X : Cx} {pos p2 : Pos} {o i e : Expr} {es : List Expr} {fo fi fe : SE} {g : MG} {gs : MGs}
theorem vm_nil : PGs X [] (tVMs P W mNil) := pgs_nil.imp3 fun v σ H Q ⟨L, ρ, μ, d, rs, s, r, q⟩ => by
  cases r with
  | nil => exact ⟨rfl, q L H .refl s⟩
  | cons _ _ => exact q.elim
theorem vm_cons (h1 : PG X e (tVM P W g)) (h2 : PGs X es (tVMs P W gs)) (hs : (assignEach (e :: es) X.env).map (·.2) = assign e X.env :: (assignEach es X.env).map (·.2) := by rfl) : PGs X (e :: es) (tVMs P W (mCons g gs)) :=
  (pgs_cons h1 h2 hs).imp3 fun v σ H Q ⟨L, ρ, μ, d, rs, s, r, q⟩ => by
    cases r with
    | nil => exact q.elim
    | @cons v0 d0 vr dr r0 rr =>
      refine ⟨v0, vr, rfl, L, ρ, μ, d0, rs, s, r0, ?_⟩
      have q : Post P (WE W σ) L H (fun _ _ H' => Q σ H') ((g d0 ρ μ).bind fun _ μ1 => gs dr ρ μ1) := q
      cases e1 : g d0 ρ μ with
      | bad => rw [e1] at q; exact q.elim
      | exc c ns ws μ1 => rw [e1] at q; exact q
      | ok a μ1 =>
        rw [e1] at q
        exact fun L1 H1 x1 s1 => ⟨L1, ρ, μ1, dr, rs.ext x1, s1, rr.ext x1, Post.ext x1 q⟩
theorem vm_sub (ho : VE P W X o fo) (hi : VE P W X i fi)
    (ha : ∀ v, assign (.Subscript o i p2) X.env v = (do
      let ov ← holding [v] (eval o X.env)
      let iv ← holding [v, ov] (eval i X.env)
      standAt p2
      holding [v, ov, iv] (setItem ov iv v)
      release [v, ov, iv] []) := by intro _; rfl) : PG X (.Subscript o i p2) (tVM P W (mSub fo fi)) :=
  (pg_sub ho hi set_list ha).imp3 fun v σ H Q ⟨L, ρ, μ, d, rs, s, r, q⟩ => by
    refine tV.first rs s q fun od μ2 ov L2 H2 x2 s2 r2 rs2 q2 => ?_
    refine tV.first rs2 s2 q2 fun id μ3 iv L3 H3 x3 s3 r3 rs3 q3 => ?_
    cases od with
    | cell k =>
      cases id with
      | int z =>
        cases r3
        have z3 : Post P (WE W σ) L3 H3 (fun _ _ H' => Q σ H') (match setL k z d μ3 with
          | some μ4 => R.ok () μ4
          | none => .bad) := q3
        unfold setL at z3
        cases e1 : μ3[k]? with
        | none => simp only [e1] at z3; exact z3.elim
        | some m =>
          cases m with
          | dct _ _ => simp only [e1] at z3; exact z3.elim
          | ins _ _ _ => simp only [e1] at z3; exact z3.elim
          | oth _ _ _ => simp only [e1] at z3; exact z3.elim
          | lst ds =>
            simp only [e1] at z3
            cases e2 : ixN ds.length z with
            | none => simp only [e2] at z3; exact z3.elim
            | some j =>
              simp only [e2] at z3
              obtain ⟨a, vs, rfl, hk, ho', rr⟩ := cell_lst s3 (r2.ext x3) e1
              obtain ⟨x4, s4⟩ := lst_write s3 hk ho' (rr.set ((r.ext x2).ext x3) j)
              exact ⟨a, vs, z, j, rfl, rfl, ho', by rw [rr.length]; exact e2, z3 L3 _ x4 s4⟩
      | _ => exact q3.elim
    | _ => exact (by cases id <;> exact q3.elim)
theorem vs_mul {k n : Nat} (hK : P.K = X.K) (hc : X.calm = true) (he : VE P W X e fe) (h : PGs X es (tVMs P W gs)) (hs : swapsWithSole [.Tuple es k p2] e pos.line X.env = pure false := by rfl) (hw : swappedStores [.Tuple es k p2] e X.env = pure none := by rfl)
    (hn : (assignEach es X.env).length = n := by rfl) (hst : (assignEach es X.env).findIdx? (·.1) = none := by rfl) : VS P W X (.Assign [.Tuple es k p2] e pos) (sMul n fe gs) :=
  (ps_asg he ((pg_tup hc h hn hst).or3 (pg_lst hc h hn hst)) hs hw rfl).imp3 fun D σ H ⟨L, ρ, μ, rs, s, q⟩ => by
    refine tV.firstS rs s q fun d μ1 v L1 H1 x1 s1 r1 rs1 q1 => ?_
    cases e1 : asQ μ1 d with
    | none => rw [e1] at q1; exact q1.elim
    | some ds =>
      rw [e1] at q1
      dsimp only at q1
      by_cases c : ds.length = n
      case neg => rw [if_neg c] at q1; exact q1.elim
      rw [if_pos c] at q1
      obtain ⟨a, vs, rfl, hq, rq⟩ := asQ_ok s1 r1 e1
      rw [hK] at hq
      have fin : tVMs P W gs vs σ H1 D.nx := by
        refine ⟨L1, ρ, μ1, ds, rs1, s1, rq, ?_⟩
        cases e2 : gs ds ρ μ1 with
        | bad => rw [e2] at q1; exact q1.elim
        | exc c ns ws μ2 => rw [e2] at q1; exact fun C dx L' H' hc x s f => q1 σ C dx L' H' hc x s (rs1.ext x) f
        | ok u μ2 => rw [e2] at q1; exact fun L2 H2 x2 s2 => q1 σ L2 H2 x2 s2 (rs1.ext x2)
      rcases hq with hq | hq
      · exact .inr ⟨a, vs, rfl, hq, by rw [rq.length]; exact c, fin⟩
      · exact .inl ⟨a, vs, rfl, hq, by rw [rq.length]; exact c, fin⟩
end
section
variable {P : Pm} {X : Cx} {H : Hp} {L : Lv} {μ : Sto}
end
/-! ### a dict display -/
def ePairs : List (SE × SE) → Env → Sto → R (List (D × D))
  | [], _, μ => .ok [] μ
  | (fk, fv) :: r, ρ, μ => (fk ρ μ).bind fun k μ1 => (fv ρ μ1).bind fun v μ2 => (ePairs r ρ μ2).bind fun ps μ3 => .ok ((k, v) :: ps) μ3
def keysD : List (D × D) → Option (List Key)
  | [] => some []
  | (k, _) :: r => (match keyD k, keysD r with
    | some q, some ks => some (q :: ks)
    | _, _ => none)
def eDisp (fs : List (SE × SE)) : SE := fun ρ μ => (ePairs fs ρ (μ ++ [.dct [] []])).bind fun ps μ1 => match μ1[μ.length]?, keysD ps with
  | some (.dct [] []), some ks => if ks.Nodup ∧ ks.length ≤ 15 then .ok (.cell μ.length) (μ1.set μ.length (.dct ks (ps.map (·.2)))) else .bad
  | _, _ => .bad
inductive RepP (P : Pm) (H : Hp) (L : Lv) : List (V × V) → List (D × D) → Prop
  | nil : RepP P H L [] []
  | cons {k v : V} {dk dv : D} {r : List (V × V)} {dr : List (D × D)} (hk : Rep P H L k dk) (hv : Rep P H L v dv) (h : RepP P H L r dr) : RepP P H L ((k, v) :: r) ((dk, dv) :: dr)
section
variable {P : Pm} {X : Cx} {W : WX} {H : Hp} {L : Lv} {μ : Sto}
theorem RepP.ok {vs : List (V × V)} {ps : List (D × D)} (r : RepP P H L vs ps) : ∀ {ks : List Key}, keysD ps = some ks → ∃ us, vs = (ks.zip us).map (fun kv => (kV kv.1, kv.2)) ∧ ks.length = us.length ∧ Reps P H L us (ps.map (·.2)) := by
  induction r with
  | nil => intro ks e; cases e; exact ⟨[], rfl, rfl, .nil⟩
  | @cons k v dk dv r dr hk hv h ih =>
    intro ks e
    have e : (match keyD dk, keysD dr with
      | some q, some ks => some (q :: ks)
      | _, _ => none) = some ks := e
    cases e1 : keyD dk with
    | none => rw [e1] at e; cases e
    | some q =>
      cases e2 : keysD dr with
      | none => rw [e1, e2] at e; cases e
      | some js =>
        rw [e1, e2] at e
        cases e
        obtain ⟨us, h1, h2, h3⟩ := ih e2
        have ek := keyD_ok hk e1
        subst ek
        exact ⟨v :: us, by rw [h1]; rfl, by simp [h2], .cons hv h3⟩
theorem RepP.ext {L1 : Lv} {H1 : Hp} (x : Ext P L H L1 H1) {vs : List (V × V)} {ps : List (D × D)} (r : RepP P H L vs ps) : RepP P H1 L1 vs ps := by
  induction r with
  | nil => exact .nil
  | cons hk hv h ih => exact .cons (hk.ext x) (hv.ext x) ih
end
end L3

namespace L3
open PySem PySem.Spec PySem.Calls PyProof.Rows L2
/-! ### what is asked from behind, of stars, dicts, writing targets -/
section
variable {Q : D → Sto → Prop} {N B C : Env → Sto → Prop} {T : D → Sto → Prop} {E : Exs} {ρ : Env} {μ : Sto} {f fo fi fz fe : SE} {g : SS} {ks : List Key} {ds : List D} {q : Key}
theorem wp_sStar {i j : Nat} (h : (f ρ μ).wp (fun d μ1 => ∃ x xs, d = .tup (x :: xs) ∧ xs.length ≤ 16000 ∧ N ((ρ.set i (some x)).set j (some (.lst xs))) μ1) E) : (sStar i j f ρ μ).wp N T B C E :=
  wp_thn (wp_mono h (fun d μ1 ⟨x, xs, e, l, q⟩ => by subst e; dsimp only; rw [if_pos l]; exact q) fun _ _ _ _ z => z)
theorem wp_seqStar {i j : Nat} (h : (sStar i j f ρ μ).wp (fun ρ1 μ1 => (g ρ1 μ1).wp N T B C E) T B C E) : (sSeq (sStar i j f) g ρ μ).wp N T B C E := wp_sSeq h
theorem wp_dget2 (h : (fo ρ μ).wp (fun o μ1 => (∃ kd, dctAt μ1 o = some kd) ∧ (fi ρ μ1).wp (fun i μ2 => (fz ρ μ2).wp (fun z μ3 => (dDget o i z μ3).wp Q E) E) E) E) : (eDget2 fo fi fz ρ μ).wp Q E := by
  unfold eDget2
  refine wp_bind (wp_mono h (fun o μ1 ⟨⟨kd, e⟩, z⟩ => ?_) fun _ _ _ _ z => z)
  rw [e]
  exact wp_bind (wp_mono z (fun i μ2 z => wp_bind z) fun _ _ _ _ z => z)
theorem wp_sDput (h : (fe ρ μ).wp (fun d μ1 => (fo ρ μ1).wp (fun o μ2 => (fi ρ μ2).wp (fun i μ3 => ∃ c ks ds q, o = .cell c ∧ μ3[c]? = some (.dct ks ds) ∧ keyD i = some q ∧ ks.length < 1000 ∧ N ρ (μ3.set c (putD ks ds q d))) E) E) E) : (sDput fe fo fi ρ μ).wp N T B C E := by
  unfold sDput
  refine wp_thn (wp_mono h (fun d μ1 z => wp_thn (wp_mono z (fun o μ2 z => wp_thn (wp_mono z (fun i μ3 z => ?_) fun _ _ _ _ z => z)) fun _ _ _ _ z => z)) fun _ _ _ _ z => z)
  obtain ⟨c, ks, ds, q, rfl, h1, h2, h3, h4⟩ := z
  rw [dctAt_cell h1, h2]
  dsimp only
  rw [if_pos h3]
  exact h4
theorem wp_seqDput (h : (sDput fe fo fi ρ μ).wp (fun ρ1 μ1 => (g ρ1 μ1).wp N T B C E) T B C E) : (sSeq (sDput fe fo fi) g ρ μ).wp N T B C E := wp_sSeq h
theorem wp_sMul {n : Nat} {gs : MGs} (h : (f ρ μ).wp (fun d μ1 => ∃ ds, asQ μ1 d = some ds ∧ ds.length = n ∧ (gs ds ρ μ1).wp (fun _ μ2 => N ρ μ2) E) E) : (sMul n f gs ρ μ).wp N T B C E :=
  wp_thn (wp_mono h (fun d μ1 ⟨ds, e1, e2, z⟩ => by rw [e1]; dsimp only; rw [if_pos e2]; exact wp_thn z) fun _ _ _ _ z => z)
theorem wp_seqMul {n : Nat} {gs : MGs} (h : (sMul n f gs ρ μ).wp (fun ρ1 μ1 => (g ρ1 μ1).wp N T B C E) T B C E) : (sSeq (sMul n f gs) g ρ μ).wp N T B C E := wp_sSeq h
theorem wp_mNil {Q : Unit → Sto → Prop} (h : Q () μ) : (mNil [] ρ μ).wp Q E := h
theorem wp_mCons {Q : Unit → Sto → Prop} {g : MG} {gs : MGs} {d : D} {ds : List D} (h : (g d ρ μ).wp (fun _ μ1 => (gs ds ρ μ1).wp Q E) E) : (mCons g gs (d :: ds) ρ μ).wp Q E := wp_bind h
theorem wp_mSub {Q : Unit → Sto → Prop} {d : D} (h : (fo ρ μ).wp (fun o μ2 => (fi ρ μ2).wp (fun i μ3 => ∃ k z μ4, o = .cell k ∧ i = .int z ∧ setL k z d μ3 = some μ4 ∧ Q () μ4) E) E) : (mSub fo fi d ρ μ).wp Q E :=
  wp_bind (wp_mono h (fun o μ2 z => wp_bind (wp_mono z (fun i μ3 ⟨k, z, μ4, e1, e2, e3, q⟩ => by subst e1 e2; dsimp only; rw [e3]; exact q) fun _ _ _ _ z => z)) fun _ _ _ _ z => z)
theorem wp_mSubD {Q : Unit → Sto → Prop} {d : D} (h : (fo ρ μ).wp (fun o μ2 => (fi ρ μ2).wp (fun i μ3 => ∃ c ks ds q, o = .cell c ∧ μ3[c]? = some (.dct ks ds) ∧ keyD i = some q ∧ ks.length < 1000 ∧ Q () (μ3.set c (putD ks ds q d))) E) E) : (mSubD fo fi d ρ μ).wp Q E := by
  refine wp_bind (wp_mono h (fun o μ2 z => wp_bind (wp_mono z (fun i μ3 z => ?_) fun _ _ _ _ z => z)) fun _ _ _ _ z => z)
  obtain ⟨c, ks, ds, q, rfl, h1, h2, h3, h4⟩ := z
  unfold putAt
  rw [dctAt_cell h1, h2]
  dsimp only
  rw [if_pos h3]
  exact h4
theorem wp_dictP {d : D} {es : List D} (h : asS μ d = some es) (hp : prsD es = some (ks, ds)) (hn : ks.Nodup) (qq : Q (.cell μ.length) (μ ++ [.dct ks ds])) : (dDictP d μ).wp Q E := by
  unfold dDictP
  rw [h, show (some es).bind prsD = some (ks, ds) from hp]
  dsimp only
  rw [if_pos hn]
  exact qq
theorem wp_disp {fs : List (SE × SE)} (h : (ePairs fs ρ (μ ++ [.dct [] []])).wp (fun ps μ1 => ∃ ks, μ1[μ.length]? = some (.dct [] []) ∧ keysD ps = some ks ∧ ks.Nodup ∧ ks.length ≤ 15 ∧ Q (.cell μ.length) (μ1.set μ.length (.dct ks (ps.map (·.2))))) E) : (eDisp fs ρ μ).wp Q E := by
  unfold eDisp
  refine wp_bind (wp_mono h (fun ps μ1 ⟨ks, e1, e2, e3, e4, z⟩ => ?_) fun _ _ _ _ z => z)
  rw [e1, e2]
  dsimp only
  rw [if_pos ⟨e3, e4⟩]
  exact z
theorem wp_pNil {Q : List (D × D) → Sto → Prop} (h : Q [] μ) : (ePairs [] ρ μ).wp Q E := h
theorem wp_pCons {Q : List (D × D) → Sto → Prop} {fk fv : SE} {r : List (SE × SE)} (h : (fk ρ μ).wp (fun k μ1 => (fv ρ μ1).wp (fun v μ2 => (ePairs r ρ μ2).wp (fun ps μ3 => Q ((k, v) :: ps) μ3) E) E) E) : (ePairs ((fk, fv) :: r) ρ μ).wp Q E :=
  wp_bind (wp_mono h (fun k μ1 z => wp_bind (wp_mono z (fun v μ2 z => wp_bind z) fun _ _ _ _ z => z)) fun _ _ _ _ z => z)
end
theorem room65 {k : Nat} {A : Around} (r : Room k A) : A.units + 65 < cLine := by have := r.un; omega
/-! ### xs[::-1]; min, max of two ints -/
def dRevL : D → Sto → R D := fun d μ => match asS μ d with
  | some ds => .ok (.lst ds.reverse) μ
  | none => .bad
section
variable {P : Pm} {W : WX} {X : Cx} {e : Expr} {f : SE} {H : Hp} {L : Lv}
theorem ve_revL {k : Nat} {p1 p2 p3 pos : Pos} (hK : P.K = X.K) (h : VE P W X e f) : VE P W X (.Subscript e (.Slice none none (some (.UnaryOp .USub (.Constant (.int 1) k p1) p2)) p3) pos) (eU dRevL f) :=
  (pe_revL h).imp3 fun σ H Q ⟨L, ρ, μ, rs, st, q⟩ => by
    refine tV.first rs st q fun d μ1 v L1 H1 x1 s1 r1 rs1 q1 => ?_
    unfold dRevL at q1
    cases e1 : asS μ1 d with
    | none => rw [e1] at q1; exact q1.elim
    | some ds =>
      rw [e1] at q1
      obtain ⟨a, vs, rfl, hq, rq⟩ := asS_ok s1 r1 e1
      rw [hK] at hq
      refine ⟨a, vs, rfl, hq, fun p hp => ?_⟩
      exact q1 L1 _ (Ext.grow s1 (upd_grow hp)) (s1.grow (upd_grow hp)) _ (new_lst s1 hp rq.rev)
end
end L3

namespace L3
open PySem PySem.Spec PySem.Calls PyProof.Rows L2
/-! ### a dict that is locked, and open again -/
structure Lk (H H' : Hp) (a : Addr) (kvs : List (Key × V)) : Prop where
  one : Rd H a (.dK kvs)
  two : Rd H' a (.dK kvs)
  same : ∀ b, b ≠ a → H' b = H b
section
variable {P : Pm} {H H' : Hp} {L : Lv} {a : Addr} {kvs : List (Key × V)} {μ : Sto}
theorem Lk.back (k : Lk H H' a kvs) : Lk H' H a kvs := ⟨k.two, k.one, fun b n => (k.same b n).symm⟩
theorem Lk.ne (k : Lk H H' a kvs) {b : Addr} {u : HO} (h : H b = some u) (n1 : u ≠ .dK kvs) (n2 : ∀ o, u ≠ .frz o (.dK kvs)) : H' b = some u := by
  have ne : b ≠ a := fun z => by
    subst z
    rcases k.one with e | ⟨o, e⟩
    · rw [h] at e; exact n1 (Option.some.inj e)
    · rw [h] at e; exact n2 o (Option.some.inj e)
  rw [k.same b ne]; exact h
theorem Lk.rd (k : Lk H H' a kvs) {b : Addr} {u : HO} (h : Rd H b u) (n1 : u ≠ .dK kvs) (n3 : ∀ o, .frz o u ≠ HO.dK kvs) (n2 : ∀ o, u ≠ .frz o (.dK kvs)) : Rd H' b u := by
  rcases h with h | ⟨o, h⟩
  · exact .inl (k.ne h n1 n2)
  · exact .inr ⟨o, k.ne h (n3 o) fun o2 z => by cases z; exact n1 rfl⟩
mutual
theorem Rep.swap (k : Lk H H' a kvs) : ∀ {v : V} {d : D}, Rep P H L v d → Rep P H' L v d
  | _, _, .non => .non
  | _, _, .bl b => .bl b
  | _, _, .int i => .int i
  | _, _, .str s => .str s
  | _, _, .lst h n r => .lst (k.ne h (fun z => nomatch z) fun _ z => nomatch z) n (Reps.swap k r)
  | _, _, .tup h r => .tup (h.elim (fun h => .inl ⟨k.rd h.1 (fun z => nomatch z) (fun _ z => nomatch z) (fun _ z => nomatch z), h.2⟩) .inr) (Reps.swap k r)
  | _, _, .dct (a := b) (ks := ks) (vs := vs) h n l r => by
    refine .dct ?_ n l (Reps.swap k r)
    by_cases e : b = a
    · subst e
      have z : ks.zip vs = kvs := by
        rcases h with h | ⟨o, h⟩ <;> rcases k.one with g | ⟨o2, g⟩ <;> (rw [h] at g; cases g) <;> rfl
      rw [z]; exact k.two
    · rcases h with h | ⟨o, h⟩
      · exact .inl (by rw [k.same b e]; exact h)
      · exact .inr ⟨o, by rw [k.same b e]; exact h⟩
  | _, _, .obj h hc n l r => .obj (k.ne h (fun z => nomatch z) fun _ z => nomatch z) hc n l (Reps.swap k r)
  | _, _, .cell h => .cell h
  | _, _, .scr h => .scr (h.elim (fun h => .inl ⟨k.rd h.1 (fun z => nomatch z) (fun _ z => nomatch z) (fun _ z => nomatch z), h.2⟩) .inr)
  | _, _, .key h n => .key (k.ne h (fun z => nomatch z) fun _ z => nomatch z) n
theorem Reps.swap (k : Lk H H' a kvs) : ∀ {vs : List V} {ds : List D}, Reps P H L vs ds → Reps P H' L vs ds
  | _, _, .nil => .nil
  | _, _, .cons h r => .cons (Rep.swap k h) (Reps.swap k r)
end
end
/-! ### for k in d, d a dict that stays -/
def kyD : Key → D
  | .inl i => .int i
  | .inr z => .str z
def sForK (i : Nat) (g : SG) (b : SS) : SS := fun ρ μ => match ρ[i]? with
  | some (some (.dct ks ds)) => (match forS (fun _ => true) g b (ks.map kyD) ρ μ with
    | .exc _ _ _ _ _ => .bad
    | r => r)
  | _ => .bad
section
variable {P : Pm} {W : WX} {X : Cx} {sl : List Nat} {g : SG} {b : SS} {L : Lv} {H : Hp} {σ : Slots} {ρ : L3.Env} {μ : Sto} {D0 : Ends}
end
section
variable {P : Pm} {W : WX} {X : Cx} {sl : List Nat} {g : SG} {tt : ST} {te : SE}
end
section
variable {P : Pm} {X : Cx} {H : Hp} {L : Lv} {μ : Sto}
theorem new_dctI (s : St3 P H L μ) {p : Addr} {ks : List Key} {vs : List V} {ds : List D} (n : H p = none) (l : ks.length = vs.length) (r : Reps P H L vs ds) : Rep P (upd H p (.dK (ks.zip vs))) L (.ref p) (.dct ks ds) :=
  .dct (.inl upd_same) (s.new_not n) l (r.ext0 (Ext0.grow (upd_grow n)))
end
end L3

namespace L3
open PySem PySem.Spec PySem.Calls PyProof.Rows L2
section
variable {P : Pm} {W : WX} {X : Cx} {i o : Expr} {fi fo : SE} {pos : Pos}
end
/-! ### what is asked from behind -/
section
variable {Q : D → Sto → Prop} {N B C : Env → Sto → Prop} {T : D → Sto → Prop} {E : Exs} {ρ : Env} {μ : Sto} {g : SG} {b f : SS} {ks : List Key} {ds : List D} {q : Key}
theorem wp_seqForK {i : Nat} (h : (sForK i g b ρ μ).wp (fun ρ1 μ1 => (f ρ1 μ1).wp N T B C E) T B C E) : (sSeq (sForK i g b) f ρ μ).wp N T B C E := wp_sSeq h
end
end L3

namespace L3
open PySem PySem.Spec PySem.Calls PyProof.Rows L2
/-! ### instances: cells with a class and fields -/
def insAt (cn : Str) (μ : Sto) : D → Option (List Str × List D)
  | .cell k => (match μ[k]? with
    | some (.ins c ns ds) => if c = cn then some (ns, ds) else none
    | _ => none)
  | _ => none
def putN : List Str → List D → Str → D → List Str × List D
  | n :: ns, d :: ds, f, e => if n = f then (n :: ns, e :: ds) else ((n :: (putN ns ds f e).1), (d :: (putN ns ds f e).2))
  | _, _, f, e => ([f], [e])
section
variable {P : Pm} {H : Hp} {L : Lv} {μ : Sto}
theorem insAt_eq {cn : Str} {d : D} {ns : List Str} {ds : List D} (e : insAt cn μ d = some (ns, ds)) : ∃ k, d = .cell k ∧ μ[k]? = some (.ins cn ns ds) := by
  cases d with
  | cell k =>
    refine ⟨k, rfl, ?_⟩
    unfold insAt at e
    dsimp only at e
    cases h : μ[k]? with
    | none => rw [h] at e; cases e
    | some m =>
      cases m with
      | ins c ns' ds' =>
        rw [h] at e
        dsimp only at e
        by_cases z : c = cn
        · rw [if_pos z] at e; cases e; rw [z]
        · rw [if_neg z] at e; cases e
      | lst _ => rw [h] at e; cases e
      | dct _ _ => rw [h] at e; cases e
      | oth _ _ _ => rw [h] at e; cases e
  | _ => cases e
theorem insAt_cell {cn : Str} {k : Nat} {ns : List Str} {ds : List D} (h : μ[k]? = some (.ins cn ns ds)) : insAt cn μ (.cell k) = some (ns, ds) := by
  unfold insAt; dsimp only; rw [h]; dsimp only; rw [if_pos rfl]
theorem ins_ok (s : St3 P H L μ) {v : V} {k : Nat} {c : Str} {ns : List Str} {ds : List D} (r : Rep P H L v (.cell k)) (h : μ[k]? = some (.ins c ns ds)) :
    ∃ a C dx vs, v = .ref a ∧ L.c[k]? = some a ∧ H a = some (.ins C dx (ns.zip vs)) ∧ P.cls c = some C ∧ ns.length = vs.length ∧ Reps P H L vs ds := by
  cases r with
  | @cell a _ hc =>
    have z := s.at_ k a _ hc h
    cases z with
    | ins h' hcl l r' => exact ⟨a, _, _, _, rfl, hc, h', hcl, l, r'⟩
theorem putN_ok (f : Str) {e : V} {ed : D} (re : Rep P H L e ed) : ∀ {ns : List Str} {vs : List V} {ds : List D}, Reps P H L vs ds → ns.length = vs.length →
    ∃ vs', putF f e (ns.zip vs) = (putN ns ds f ed).1.zip vs' ∧ (putN ns ds f ed).1.length = vs'.length ∧ Reps P H L vs' (putN ns ds f ed).2
  | [], _, ds, r, l => by
    refine ⟨[e], ?_, ?_, ?_⟩
    · cases ds <;> simp [putN, putF]
    · cases ds <;> simp [putN]
    · have : (putN [] ds f ed).2 = [ed] := by cases ds <;> simp [putN]
      rw [this]; exact .cons re .nil
  | n :: ns, [], _, _, l => by cases l
  | n :: ns, v :: vs, _, .cons (d := d) (ds := ds) r rr, l => by
    obtain ⟨vs', h1, h2, h3⟩ := putN_ok f re (ns := ns) rr (by simpa using l)
    unfold putN putF
    rw [List.zip_cons_cons]
    by_cases c : n = f
    · rw [if_pos c]
      refine ⟨e :: vs, ?_, by simpa using l, .cons re rr⟩
      dsimp only
      rw [if_pos c, List.zip_cons_cons]
    · rw [if_neg c]
      refine ⟨v :: vs', ?_, by simp [h2], .cons r h3⟩
      dsimp only
      rw [if_neg c, h1, List.zip_cons_cons]
end
/-- e.f -/
def dFld (cn f : Str) : D → Sto → R D := fun d μ => match insAt cn μ d with
  | some (ns, ds) => (match lookD f ns ds with
    | some v => .ok v μ
    | none => .bad)
  | none => .bad
/-- o.f = e -/
def sFset (cn f : Str) (fe fo : SE) : SS := fun ρ μ => (fe ρ μ).thn ρ fun d μ1 => (fo ρ μ1).thn ρ fun o μ2 => match o, insAt cn μ2 o with
  | .cell k, some (ns, ds) => if ns.length < 1000 then .nx ρ (μ2.set k (.ins cn (putN ns ds f d).1 (putN ns ds f d).2)) else .bad
  | _, _ => .bad
/-- o.m(e, ..), of a method that lets nothing out -/
def eMeth (cn m : Str) (n : Nat) (g : List D → Sto → R D) (fo : SE) (fa : SA) : SE := fun ρ μ => (fo ρ μ).bind fun o μ1 => match insAt cn μ1 o with
  | some (ns, _) => if m ∈ ns then .bad else (fa ρ μ1).bind fun ds μ2 => if ds.length + 1 = n then (g (o :: ds) μ2).nox else .bad
  | none => .bad
/-- C(e, ..) -/
def eMake (cn : Str) (n : Nat) (g : List D → Sto → R D) (fa : SA) : SE := fun ρ μ => (fa ρ μ).bind fun ds μ1 => if ds.length + 1 = n then ((g (.cell μ1.length :: ds) (μ1 ++ [.ins cn [] []])).nox.bind fun r μ2 => match r with
  | .non => .ok (.cell μ1.length) μ2
  | _ => .bad) else .bad
section
variable {P : Pm} {W : WX} {X : Cx} {e o : Expr} {es : List Expr} {fe fo : SE} {fa : SA} {pos pos' apos p : Pos} {cn f m x : Str} {k n : Nat} {fA : Addr} {fd : FuncData} {ps : List Str} {g : List D → Sto → R D}
abbrev E0 : XK := fun _ _ _ => False
theorem pass_no : Passes (CXF X) X E0 := fun _ _ _ _ _ _ _ h => by
  obtain ⟨_, _, _, _, _, _, _, _, _, _, _, _, z⟩ := h
  exact z.elim
theorem nox_post {E : XK} {H : Hp} {L : Lv} {r : R D} {q : D → Lv → Hp → Prop} (h : Post P E L H q r.nox) : Post P E0 L H q r := by
  cases r with
  | ok a μ => exact h
  | exc _ _ _ _ => exact h.elim
  | bad => exact h
theorem ve_fld (hx : ∀ C, P.cls cn = some C → Cls X.K C ∧ NoAttr X.K C f) (he : VE P W X e fe) (hb : attributeBase e f X.env (eval e X.env) = eval e X.env := by rfl) : VE P W X (.Attribute e f pos) (eU (dFld cn f) fe) :=
  (pe_fld he hb).imp3 fun σ H Q ⟨L, ρ, μ, rs, st, q⟩ => by
    refine tV.first rs st q fun d μ1 v L1 H1 x1 s1 r1 rs1 q1 => ?_
    have z1 : Post P (WE W σ) L1 H1 (fun d L' H' => ∀ v, Rep P H' L' v d → Q v H') (dFld cn f d μ1) := q1
    clear q1
    unfold dFld at z1
    cases e1 : insAt cn μ1 d with
    | none => rw [e1] at z1; exact z1.elim
    | some nd =>
      obtain ⟨ns, ds⟩ := nd
      rw [e1] at z1
      dsimp only at z1
      cases e2 : lookD f ns ds with
      | none => rw [e2] at z1; exact z1.elim
      | some dv =>
        rw [e2] at z1
        obtain ⟨k, rfl, hk⟩ := insAt_eq e1
        obtain ⟨a, C, dx, vs, rfl, hc, ha, hcl, hl, rr⟩ := ins_ok s1 r1 hk
        obtain ⟨u, lu, ru⟩ := look_rep rr hl e2
        obtain ⟨c1, c2⟩ := hx C hcl
        exact ⟨a, C, dx, _, u, rfl, ha, c1, c2, lu, z1 L1 H1 .refl s1 _ ru⟩
theorem vs_fset (hx : ∀ C, P.cls cn = some C → Cls X.K C ∧ NoAttr X.K C f) (he : VE P W X e fe) (ho : VE P W X o fo) (hs : swapsWith e (some (.Attribute o f pos')) pos.line X.env = pure false := by rfl) : VS P W X (.Assign [.Attribute o f pos'] e pos) (sFset cn f fe fo) :=
  (ps_fld ho he hs).imp3 fun D σ H ⟨L, ρ, μ, rs, s, q⟩ => by
    refine tV.firstS rs s q fun d μ1 v L1 H1 x1 s1 r1 rs1 q1 => ?_
    refine tV.firstS rs1 s1 q1 fun od μ2 ov L2 H2 x2 s2 r2 rs2 q2 => ?_
    cases e1 : insAt cn μ2 od with
    | none => rw [e1] at q2; cases od <;> exact q2.elim
    | some nd =>
      obtain ⟨ns, ds⟩ := nd
      obtain ⟨k, ek, hk⟩ := insAt_eq e1
      subst ek
      rw [e1] at q2
      have z2 : PostS P W D L2 H2 (if ns.length < 1000 then .nx ρ (μ2.set k (.ins cn (putN ns ds f d).1 (putN ns ds f d).2)) else .bad) := q2
      clear q2
      by_cases cl : ns.length < 1000
      case neg => rw [if_neg cl] at z2; exact z2.elim
      rw [if_pos cl] at z2
      obtain ⟨a, C, dx, vs, rfl, hc, ha, hcl, hl, rr⟩ := ins_ok s2 r2 hk
      obtain ⟨c1, c2⟩ := hx C hcl
      obtain ⟨vs', h1, h2, h3⟩ := putN_ok f (r1.ext x2) rr hl
      refine ⟨a, C, dx, _, rfl, ha, c1, c2, by rw [List.length_zip]; omega, ?_⟩
      rw [h1]
      obtain ⟨x4, s4⟩ := cell_write (o' := .ins C dx ((putN ns ds f d).1.zip vs')) (m' := .ins cn (putN ns ds f d).1 (putN ns ds f d).2) s2 hc ha (fun _ z => nomatch z) (fun _ z => nomatch z) fun x => .ins upd_same hcl h2 (h3.ext0 x)
      exact z2 σ L2 _ x4 s4 (rs2.ext x4)
end
end L3

namespace L3
open PySem PySem.Spec PySem.Calls PyProof.Rows L2
/-! ### instances: what is asked from behind -/
section
variable {Q : D → Sto → Prop} {N B C : Env → Sto → Prop} {T : D → Sto → Prop} {E : Exs} {ρ : Env} {μ : Sto} {fe fo : SE} {fa : SA} {s : SS} {cn f m : Str} {ns : List Str} {ds : List D} {g : List D → Sto → R D} {n : Nat}
theorem wp_dFld {k : Nat} {v : D} (h : μ[k]? = some (.ins cn ns ds)) (hv : lookD f ns ds = some v) (q : Q v μ) : (dFld cn f (.cell k) μ).wp Q E := by
  unfold dFld
  rw [insAt_cell h]
  dsimp only
  rw [hv]
  exact q
theorem wp_sFset (h : (fe ρ μ).wp (fun d μ1 => (fo ρ μ1).wp (fun o μ2 => ∃ k ns ds, o = .cell k ∧ μ2[k]? = some (.ins cn ns ds) ∧ ns.length < 1000 ∧ N ρ (μ2.set k (.ins cn (putN ns ds f d).1 (putN ns ds f d).2))) E) E) : (sFset cn f fe fo ρ μ).wp N T B C E := by
  unfold sFset
  refine wp_thn (wp_mono h (fun d μ1 z => wp_thn (wp_mono z (fun o μ2 z => ?_) fun _ _ _ _ z => z)) fun _ _ _ _ z => z)
  obtain ⟨k, ns, ds, rfl, h1, h2, h3⟩ := z
  rw [insAt_cell h1]
  dsimp only
  rw [if_pos h2]
  exact h3
theorem wp_seqFset (h : (sFset cn f fe fo ρ μ).wp (fun ρ1 μ1 => (s ρ1 μ1).wp N T B C E) T B C E) : (sSeq (sFset cn f fe fo) s ρ μ).wp N T B C E := wp_sSeq h
theorem wp_meth (h : (fo ρ μ).wp (fun o μ1 => ∃ k ns ds0, o = .cell k ∧ μ1[k]? = some (.ins cn ns ds0) ∧ m ∉ ns ∧ (fa ρ μ1).wp (fun ds μ2 => ds.length + 1 = n ∧ (g (.cell k :: ds) μ2).wp Q noE) E) E) : (eMeth cn m n g fo fa ρ μ).wp Q E := by
  unfold eMeth
  refine wp_bind (wp_mono h (fun o μ1 z => ?_) fun _ _ _ _ z => z)
  obtain ⟨k, ns, ds0, rfl, h1, h2, h3⟩ := z
  rw [insAt_cell h1]
  dsimp only
  rw [if_neg h2]
  exact wp_bind (wp_mono h3 (fun ds μ2 ⟨a, b⟩ => by rw [if_pos a]; exact wp_nox b) fun _ _ _ _ z => z)
theorem wp_make (h : (fa ρ μ).wp (fun ds μ1 => ds.length + 1 = n ∧ (g (.cell μ1.length :: ds) (μ1 ++ [.ins cn [] []])).wp (fun r μ2 => r = .non ∧ Q (.cell μ1.length) μ2) noE) E) : (eMake cn n g fa ρ μ).wp Q E := by
  unfold eMake
  refine wp_bind (wp_mono h (fun ds μ1 ⟨a, b⟩ => ?_) fun _ _ _ _ z => z)
  rw [if_pos a]
  refine wp_bind (wp_mono (wp_nox (E := E) b) (fun r μ2 ⟨e, q⟩ => ?_) fun _ _ _ _ z => z)
  subst e
  exact q
end
end L3

namespace L3
open PySem PySem.Spec PySem.Calls PyProof.Rows L2
/-! ### {}, to stay as it is -/
def eNewDI : SE := fun _ μ => .ok (.dct [] []) μ
section
variable {P : Pm} {W : WX} {X : Cx} {pos : Pos}
theorem ve_newDI : VE P W X (.Dict [] [] pos) eNewDI :=
  pe_dnewK.imp3 fun σ H Q ⟨L, ρ, μ, rs, st, q⟩ => fun p hp => by
    have n : Rep P (upd H p (.dK (([] : List Key).zip ([] : List V)))) L (.ref p) (.dct [] []) := new_dctI st hp rfl .nil
    exact q L _ (Ext.grow st (upd_grow hp)) (st.grow (upd_grow hp)) _ n
end
/-! ### {k: v for x in d}, d a dict that stays; the new one is a cell -/
def dcPut (j : Nat) (q y : D) (μ : Sto) : Option Sto := match μ[j]?, keyD q with
  | some (.dct ks ds), some k => if ks.length < sizeLine then some (μ.set j (putD ks ds k y)) else none
  | _, _ => none
section
variable {P : Pm} {W : WX} {X : Cx} {sl : List Nat} {g : SG} {tk te : SE} {H : Hp} {L : Lv} {μ : Sto}
theorem dcPut_ok {j : Nat} {D : Addr} {q y : L3.D} {kv yv : V} {μ' : Sto} (s : St3 P H L μ) (hD : Rep P H L (.ref D) (.cell j)) (rk : Rep P H L kv q) (ry : Rep P H L yv y) (e : dcPut j q y μ = some μ') :
    ∃ kvs k, kv = kV k ∧ H D = some (.dK kvs) ∧ kvs.length < sizeLine ∧ Ext P L H L (upd H D (.dK (putK kvs k yv))) ∧ St3 P (upd H D (.dK (putK kvs k yv))) L μ' := by
  unfold dcPut at e
  cases e1 : μ[j]? with
  | none => rw [e1] at e; cases e
  | some m =>
    cases e2 : keyD q with
    | none => rw [e1, e2] at e; cases m <;> cases e
    | some k =>
      cases m with
      | lst _ => rw [e1] at e; cases e
      | ins _ _ _ => rw [e1] at e; cases e
      | oth _ _ _ => rw [e1] at e; cases e
      | dct ks ds =>
        rw [e1, e2] at e
        have e : (if ks.length < sizeLine then some (μ.set j (putD ks ds k y)) else none) = some μ' := e
        by_cases c : ks.length < sizeLine
        case neg => rw [if_neg c] at e; cases e
        rw [if_pos c] at e
        cases e
        cases hD with
        | cell hc =>
          cases s.at_ j D _ hc e1 with
          | @dct _ vs _ h' l' r' =>
            obtain ⟨x4, s4⟩ := put_write s hc h' l' r' k ry
            exact ⟨_, k, keyD_ok rk e2, h', by rw [List.length_zip]; omega, x4, s4⟩
end
section
variable {P : Pm} {X : Cx} {H : Hp} {L : Lv} {μ : Sto}
end
section
variable {P : Pm} {X : Cx} {H : Hp} {L : Lv} {μ : Sto}
end
/-! ### what is asked from behind -/
section
variable {Q : D → Sto → Prop} {E : Exs} {ρ : Env} {μ : Sto} {g : SG} {tk te : SE} {ks js : List Key} {ds es : List D}
theorem wp_newDI (q : Q (.dct [] []) μ) : (eNewDI ρ μ).wp Q E := q
end
section
variable {P : Pm} {W : WX} {X : Cx}
end
/-! a, b, c = e1, e2, e3 with local names -/
def sPar3 (i j l : Nat) (fa : SA) : SS := fun ρ μ => (fa ρ μ).thn ρ fun ds μ1 => match ds with
  | [d, e, f] => .nx (((ρ.set i (some d)).set j (some e)).set l (some f)) μ1
  | _ => .bad
section
variable {P : Pm} {W : WX} {X : Cx} {ρ : Env} {μ : Sto} {fa : SA} {g : SS} {N B C : Env → Sto → Prop} {T : D → Sto → Prop} {E : Exs}
theorem wp_sPar3 {i j l : Nat} (h : (fa ρ μ).wp (fun ds μ1 => ∃ d e f, ds = [d, e, f] ∧ N (((ρ.set i (some d)).set j (some e)).set l (some f)) μ1) E) : (sPar3 i j l fa ρ μ).wp N T B C E := wp_thn (wp_mono h (fun ds μ1 ⟨d, e, f, h1, q⟩ => by subst h1; exact q) fun _ _ _ _ z => z)
theorem wp_seqPar3 {i j l : Nat} (h : (sPar3 i j l fa ρ μ).wp (fun ρ1 μ1 => (g ρ1 μ1).wp N T B C E) T B C E) : (sSeq (sPar3 i j l fa) g ρ μ).wp N T B C E := wp_sSeq h
theorem three_ok {a b c : D} {A : D → D → D → Prop} (q : A a b c) : ∃ d e f, [a, b, c] = [d, e, f] ∧ A d e f := ⟨a, b, c, rfl, q⟩
end
end L3

namespace L3
open PySem PySem.Spec PySem.Calls PyProof.Rows L2
section
variable {P : Pm} {W : WX} {X : Cx} {pos p kpos : Pos} {e : Expr} {es : List Expr} {kws : List Keyword} {f : SE} {fa fk : SA} {k n : Nat} {fA : Addr} {fd : FuncData} {ps ks : List Str} {g : List D → Sto → R D} {x : Str} {nm : Option Str}
end
section
variable {Q : D → Sto → Prop} {E : Exs} {ρ : Env} {μ : Sto} {fa fk : SA}
end
end L3

namespace L3
open PySem PySem.Spec PySem.Calls PyProof.Rows L2
/-! ### what a law's facts tell of own classes -/
section
variable {l : Lw} {P : Pm} {mg : Str → Option Value} {base : Heap} {w : World}
theorem Fct.isCls (T : Fct l P mg base w) (i : Nat) {x : Str} (h : l.fa[i]? = some (.cls x)) : Cls P.K (He.ga P.K x) := He.cls_ok (T.c.fact i h)
theorem Fct.isMeth (T : Fct l P mg base w) (i : Nat) {x m : Str} (h : l.fa[i]? = some (.meth x m)) : Meth P.K (He.ga P.K x) m (He.ma P.K (He.ga P.K x) m) := He.meth_ok (T.c.fact i h)
theorem Fct.isMk (T : Fct l P mg base w) (i : Nat) {x : Str} (h : l.fa[i]? = some (.mkr x)) : Mk P.K (He.ga P.K x) (He.ma P.K (He.ga P.K x) "__init__") := He.mkr_ok (T.c.fact i h)
theorem Fct.noFld (T : Fct l P mg base w) {cn x f : Str} (hc : P.cls cn = some (He.ga P.K x)) (kc : Cls P.K (He.ga P.K x)) (i : Nat) (h : l.fa[i]? = some (.noat x f)) : ∀ C, P.cls cn = some C → Cls P.K C ∧ NoAttr P.K C f := fun C e => by
  rw [hc] at e
  cases e
  exact ⟨kc, He.noat_ok (T.c.fact i h)⟩
end
/-! ### o.m(), o.f op= e, xs.pop(), x.count(y) -/
/-- o.f op= e -/
def sFaug (cn f : Str) (g : D → D → Sto → R D) (fo fe : SE) : SS := fun ρ μ => (fo ρ μ).thn ρ fun o μ1 => match o, insAt cn μ1 o with
  | .cell k, some (ns, ds) => (match lookD f ns ds with
    | some x => (fe ρ μ1).thn ρ fun y μ2 => (g x y μ2).thn ρ fun z μ3 => (match insAt cn μ3 (.cell k) with
      | some (ns', ds') => if ns'.length < 1000 then .nx ρ (μ3.set k (.ins cn (putN ns' ds' f z).1 (putN ns' ds' f z).2)) else .bad
      | none => .bad)
    | none => .bad)
  | _, _ => .bad
section
variable {P : Pm} {W : WX} {X : Cx} {e o : Expr} {fe fo : SE} {pos tpos apos : Pos} {cn f m : Str} {k : Nat} {fA : Addr} {fd : FuncData} {ps : List Str} {g : List D → Sto → R D}
end
section
variable {Q : D → Sto → Prop} {N B C : Env → Sto → Prop} {T : D → Sto → Prop} {E : Exs} {ρ : Env} {μ : Sto} {fe fo : SE} {s : SS} {cn f : Str} {gd : D → D → Sto → R D}
theorem wp_sFaug (h : (fo ρ μ).wp (fun o μ1 => ∃ k ns ds x, o = .cell k ∧ μ1[k]? = some (.ins cn ns ds) ∧ lookD f ns ds = some x ∧ (fe ρ μ1).wp (fun y μ2 => (gd x y μ2).wp (fun z μ3 => ∃ ns' ds', μ3[k]? = some (.ins cn ns' ds') ∧ ns'.length < 1000 ∧ N ρ (μ3.set k (.ins cn (putN ns' ds' f z).1 (putN ns' ds' f z).2))) E) E) E) : (sFaug cn f gd fo fe ρ μ).wp N T B C E := by
  unfold sFaug
  refine wp_thn (wp_mono h (fun o μ1 z => ?_) fun _ _ _ _ z => z)
  obtain ⟨k, ns, ds, x, rfl, h1, h2, h3⟩ := z
  rw [insAt_cell h1]
  dsimp only
  rw [h2]
  dsimp only
  refine wp_thn (wp_mono h3 (fun y μ2 z => wp_thn (wp_mono z (fun z μ3 q => ?_) fun _ _ _ _ z => z)) fun _ _ _ _ z => z)
  obtain ⟨ns', ds', h4, h5, h6⟩ := q
  rw [insAt_cell h4]
  dsimp only
  rw [if_pos h5]
  exact h6
theorem wp_seqFaug (h : (sFaug cn f gd fo fe ρ μ).wp (fun ρ1 μ1 => (s ρ1 μ1).wp N T B C E) T B C E) : (sSeq (sFaug cn f gd fo fe) s ρ μ).wp N T B C E := wp_sSeq h
end
end L3

namespace L3
open PySem PySem.Spec PySem.Calls PyProof.Rows L2
section
variable {P : Pm} {X : Cx}
end
section
variable {Q : D → Sto → Prop} {E : Exs} {μ : Sto} {z : Str} {k : Int}
end
end L3

namespace L3
open PySem PySem.Spec PySem.Calls PyProof.Rows L2
/-! ### methods and makings that let refusals out -/
/-- o.m(e, ..), refusals go on -/
def eMethX (cn m : Str) (n : Nat) (g : List D → Sto → R D) (fo : SE) (fa : SA) : SE := fun ρ μ => (fo ρ μ).bind fun o μ1 => match insAt cn μ1 o with
  | some (ns, _) => if m ∈ ns then .bad else (fa ρ μ1).bind fun ds μ2 => if ds.length + 1 = n then g (o :: ds) μ2 else .bad
  | none => .bad
/-- C(e, ..), refusals go on -/
def eMakeX (cn : Str) (n : Nat) (g : List D → Sto → R D) (fa : SA) : SE := fun ρ μ => (fa ρ μ).bind fun ds μ1 => if ds.length + 1 = n then ((g (.cell μ1.length :: ds) (μ1 ++ [.ins cn [] []])).bind fun r μ2 => match r with
  | .non => .ok (.cell μ1.length) μ2
  | _ => .bad) else .bad
def tMakeX (C : Addr) (sp : Sp) (E : L2.St → XK) (t : TA) : TE := fun σ H Q => t σ H fun vs H1 => ∀ x dx, H1 x = none → H1 dx = none → dx ≠ x →
  sp (.ref x :: (vs ++ [])) (upd (upd H1 dx (.own x)) x (.ins C dx [])) (fun v H2 => v = .non ∧ Q (.ref x) H2) (E σ)
section
variable {P : Pm} {W : WX} {X : Cx} {e o : Expr} {es : List Expr} {fe fo : SE} {fa : SA} {pos pos' apos p : Pos} {cn f m x : Str} {k n : Nat} {fA : Addr} {fd : FuncData} {ps : List Str} {g : List D → Sto → R D} {sp : Sp} {E : L2.St → XK} {ta : TE} {t : TA} {C : Addr}
theorem run_makeX {dvs : List V} {ds : List Value} {pins : List (Addr × Obj)} {σ : L2.St} {H : Hp} {s : Shared} {Q : VK} {us : List Value} {vs : List V} (M : Mk X.K C fA) (F : FnOk X.prog X.w X.K X.mg X.base (CXF X) k fA fd ps sp) (hr : Room (k + 1) X.A) (hb : Binds X.K fd ps ds) (hd : Vals dvs ds)
    (hx : PassesAt (CXF X) X σ (E σ)) (I : Inv X pins σ H s) (r : Vals vs us)
    (h : ∀ x dx, H x = none → H dx = none → dx ≠ x → sp (.ref x :: (vs ++ dvs)) (upd (upd H dx (.own x)) x (.ins C dx [])) (fun v H2 => v = .non ∧ Q (.ref x) H2) (E σ)) :
    wpAny (model X.prog X.w) X.A (call (.ref C) us) (EP X pins σ Q) X.xe s := by
  have want := h (s.heap.objs.size + 1) s.heap.objs.size (I.hok.fresh (Nat.le_succ _)) (I.hok.fresh (Nat.le_refl _)) (Nat.ne_of_lt (Nat.lt_succ_self _))
  have J := Inv.made (C := C) I
  have both : Vals (V.ref (s.heap.objs.size + 1) :: (vs ++ dvs)) (Value.ref (s.heap.objs.size + 1) :: (us ++ ds)) := .cons rfl (r.append hd)
  have len : (Value.ref (s.heap.objs.size + 1) :: us ++ ds).length = ps.length := both.length.symm.trans (F.len _ _ _ _ want)
  refine wpAny_call (make_map (f := fA) I.kIn M.makes M.init (beq_iff_eq.mp M.fn) (codeAny_mono (F.run _ X.stack _ _ ⟨Value.ref (s.heap.objs.size + 1) :: us, []⟩ (Value.ref (s.heap.objs.size + 1) :: (us ++ ds)) _ _ (E σ) (hr.make C us [])
    (J.env0.make C us []) (hb _ (Value.ref (s.heap.objs.size + 1) :: us) J.kIn len) both want) fun out s2 got => ?_))
  match out, got with
  | .error er, got => exact hx pins _ _ er s2 J got
  | .ok (.ret u), got =>
    obtain ⟨v, H', K, rv, ev, q3⟩ := J.after got
    subst ev
    exact ⟨rv, ⟨V.ref (s.heap.objs.size + 1), H', K, rfl, q3⟩⟩
  | .ok .next, got => exact got.elim
  | .ok .brk, got => exact got.elim
  | .ok .cont, got => exact got.elim
theorem pe_makeX (M : Mk X.K C fA) (F : FnOk X.prog X.w X.K X.mg X.base (CXF X) k fA fd ps sp) (hr : Room (k + 1) X.A) (hg : Gl X x) (hm : X.mg x = some (.ref C)) (hb : Binds X.K fd ps []) (hx : ∀ σ, PassesAt (CXF X) X σ (E σ))
    (ha : PA X (e :: es) t) (hdb : (x == ("__debug__" : Str)) = false := by decide) (he : starEach (e :: es) X.env = (false, eval e X.env) :: starEach es X.env := by rfl) (hpl : (backTo pos (starEach es X.env)).any (·.1) = false := by rfl) :
    PE X (.Call (.Name x p) (e :: es) [] pos) (tMakeX C sp E t) := by
  refine ⟨fun pins s σ H Q I h => ?_⟩
  refine wpAny_Call_Name_kw (ld_glob I hg hm ?_ hdb)
  refine PySem.W.callWith_K (h₀ := X.base) I.ok.mod.kin M.kp (thn (ha.run pos pins s σ H _ I h) fun us s1 ⟨vs, H1, I1, r, q⟩ => ⟨I1.kIn, ?_⟩) he hpl
  exact run_makeX M F hr hb .nil (hx σ) I1 r q
theorem ve_makeX (hcls : P.cls cn = some C) (M : Mk X.K C fA) (F : FnOk X.prog X.w X.K X.mg X.base (CXF X) k fA fd ps (spF P n g)) (hr : Room (k + 1) X.A) (hg : Gl X x) (hm : X.mg x = some (.ref C)) (hb : Binds X.K fd ps []) (tk : Takes X W) (ha : VA P W X (e :: es) fa)
    (hdb : (x == ("__debug__" : Str)) = false := by decide) (he : starEach (e :: es) X.env = (false, eval e X.env) :: starEach es X.env := by rfl) (hpl : (backTo pos (starEach es X.env)).any (·.1) = false := by rfl) : VE P W X (.Call (.Name x p) (e :: es) [] pos) (eMakeX cn n g fa) :=
  (pe_makeX (E := WE W) M F hr hg hm hb (fun σ => passAt tk σ) ha hdb he hpl).imp3 fun σ H Q ⟨L, ρ, μ, rs, st, q⟩ => by
    refine tVA.first rs st q fun ds μ1 us L1 H1 x1 s1 r1 rs1 q1 => ?_
    by_cases cl : ds.length + 1 = n
    case neg => rw [if_neg cl] at q1; exact q1.elim
    rw [if_pos cl] at q1
    intro y dx hy hdx hne
    have x2 := Ext.grow s1 (upd_grow (o := .own y) hdx)
    have s2 := s1.grow (upd_grow (o := .own y) hdx)
    have hy2 : upd H1 dx (.own y) y = none := by rw [upd_ne (Ne.symm hne)]; exact hy
    have x3 : Ext P L1 (upd H1 dx (.own y)) (L1.cell y) (upd (upd H1 dx (.own y)) y (.ins C dx [])) := Ext.cell s2 hy2
    have s3 : St3 P (upd (upd H1 dx (.own y)) y (.ins C dx [])) (L1.cell y) (μ1 ++ [.ins cn [] []]) := s2.cell hy2 (.ins (ns := []) (vs := []) upd_same hcls rfl .nil)
    have ry : Rep P (upd (upd H1 dx (.own y)) y (.ins C dx [])) (L1.cell y) (.ref y) (.cell μ1.length) := .cell (cell_last s2)
    rw [List.append_nil]
    refine ⟨by rw [List.length_cons, r1.length]; exact cl, L1.cell y, .cell μ1.length :: ds, _, .cons ry ((r1.ext x2).ext x3), s3, ?_⟩
    have q2 := Post.ext (x2.trans x3) q1
    cases e2 : g (.cell μ1.length :: ds) (μ1 ++ [.ins cn [] []]) with
    | bad => rw [e2] at q2; exact q2.elim
    | exc _ _ _ _ => rw [e2] at q2; exact q2
    | ok r μ2 =>
      rw [e2] at q2
      cases r with
      | non =>
        intro L' H' x' s' v rv
        cases rv
        exact ⟨rfl, q2 L' H' x' s' _ (ry.ext x')⟩
      | _ => exact q2.elim
end
section
variable {Q : D → Sto → Prop} {E : Exs} {ρ : Env} {μ : Sto} {fo : SE} {fa : SA} {cn m : Str} {n : Nat} {g : List D → Sto → R D}
theorem wp_methX (h : (fo ρ μ).wp (fun o μ1 => ∃ k ns ds0, o = .cell k ∧ μ1[k]? = some (.ins cn ns ds0) ∧ m ∉ ns ∧ (fa ρ μ1).wp (fun ds μ2 => ds.length + 1 = n ∧ (g (.cell k :: ds) μ2).wp Q E) E) E) : (eMethX cn m n g fo fa ρ μ).wp Q E := by
  unfold eMethX
  refine wp_bind (wp_mono h (fun o μ1 z => ?_) fun _ _ _ _ z => z)
  obtain ⟨k, ns, ds0, rfl, h1, h2, h3⟩ := z
  rw [insAt_cell h1]
  dsimp only
  rw [if_neg h2]
  exact wp_bind (wp_mono h3 (fun ds μ2 ⟨a, b⟩ => by rw [if_pos a]; exact b) fun _ _ _ _ z => z)
theorem wp_makeX (h : (fa ρ μ).wp (fun ds μ1 => ds.length + 1 = n ∧ (g (.cell μ1.length :: ds) (μ1 ++ [.ins cn [] []])).wp (fun r μ2 => r = .non ∧ Q (.cell μ1.length) μ2) E) E) : (eMakeX cn n g fa ρ μ).wp Q E := by
  unfold eMakeX
  refine wp_bind (wp_mono h (fun ds μ1 ⟨a, b⟩ => ?_) fun _ _ _ _ z => z)
  rw [if_pos a]
  refine wp_bind (wp_mono b (fun r μ2 ⟨e, q⟩ => ?_) fun _ _ _ _ z => z)
  subst e
  exact q
end
end L3

namespace L3
open PySem PySem.Spec PySem.Calls PyProof.Rows L2
/-! ### the law, called where nothing stands around it -/
/-- what the law's def comes to, called by the caller alone -/
def RunC (Pr : Program) (w : World) (K : PySem.W.Frag) (mg : Str → Option Value) (base : Heap) (CX : CXT) (f : Addr) (fd : FuncData) (ps : List Str) (sp : Sp) : Prop :=
  ∀ (s : Shared) (H : Hp) (args : Args) (us : List Value) (vs : List V) (Q : VK) (E : XK), Env0 Pr w K mg base callerA [] s H → BindsTo s fd args (ps.zip us) → Vals vs us → sp vs H Q E →
    codeAny (model Pr w) callerA (.call (.ref f) args) (CR CX [] Pr w H s Q E) s
/-- a def's body, run by the caller alone: the guards are known -/
theorem runC_of {CX : CXT} {Pr : Program} {w : World} {K : PySem.W.Frag} {mg : Str → Option Value} {base : Heap} {k : Nat} {f : Addr} {nm qual : Str} {params : Arguments} {body : List Stmt} {scope : Scope} {dV kV doc pm cdv ct oc : Value} {an od : Option Addr}
    {osl : Array (Option Value)} {N ps : List Str} {sp : Sp} (room : Room (k + 1) callerA) (at_ : K.lookup f = some ⟨oc, od, .func (PySem.W.fnOf nm qual params body scope dV kV doc pm an cdv ct), osl⟩) (cd : PySem.W.codeIn K cdv qual = true) (S : FnScope N ps scope)
    (few : ∀ vs H Q E, sp vs H Q E → vs.length = ps.length)
    (goes : ∀ (s : Shared) (H : Hp) (vs : List V) (Q : VK) (E : XK), sp vs H Q E →
      ∃ t, PSs (cxOf CX Pr w K mg base N qual scope f cdv callerA [] s H E) body t ∧ t { nx := fun _ H' => Q .non H', rt := Q } (start N vs) H) :
    RunC Pr w K mg base CX f (PySem.W.fnOf nm qual params body scope dV kV doc pm an cdv ct) ps sp := by
  intro s H args us vs Q E z0 bd rv ask
  have many := few _ _ _ _ ask
  have kin : K.In s.heap := z0.mod.kin.keeps fun b o e => (z0.bs b o e).1
  have nolim : s.heap.NoLimit := z0.mod.nolimit.keeps fun b o e => (z0.bs b o e).1
  have kinds : ∀ y ∈ ps.zip us, scope.names.lookup y.1 = some .local ∨ (scope.names.lookup y.1 = some .cell ∧ ((cellsFrom (s.heap.objs.size + 1) scope.names []).lookup y.1).isSome = true) := by
    rintro ⟨n, v⟩ hy
    exact (S.par n (List.of_mem_zip hy).1).imp id fun q => ⟨q, PySem.W.cellsFrom_some _ _ _ (.inl q)⟩
  refine codeAny_call_function room.depth (kin _ _ at_) rfl S.co S.gen rfl (PySem.W.codeRec_of kin cd) (bd _ _ _ _ ?_)
  refine wpAny_newFunctionEnv_cells S.kind kinds fun env he s1 x => ?_
  subst he
  refine ⟨nolim.keeps x.toInCall.keep, codeAny_func ?_⟩
  obtain ⟨t, run, due⟩ := goes s H vs Q E ask
  have J : Inv (cxOf CX Pr w K mg base N qual scope f cdv callerA [] s H E) [] (start N vs) H s1 := inv_start S room.hd z0 many rv x
  refine wpAny_mono (run.run [] s1 (start N vs) H _ J due) (fun fl s' got => ?_) fun e s' got => got
  cases fl with
  | ret u =>
    obtain ⟨v, σ', H', J', rv', q⟩ := got
    exact ⟨v, H', J'.os, J'.bare, J'.base, J'.hok, rv', q⟩
  | next =>
    obtain ⟨σ', H', J', q⟩ := got
    exact ⟨.non, H', J'.os, J'.bare, J'.base, J'.hok, rfl, q⟩
  | brk =>
    obtain ⟨_, _, _, q⟩ := got
    exact q.elim
  | cont =>
    obtain ⟨_, _, _, q⟩ := got
    exact q.elim

/-- the heap at the law's call: the tables, and the script where it isn't a written one -/
def topH (K : PySem.W.Frag) (T : List Addr) (a : Addr) (o : Obj) (xs : List V) : Hp := fun b =>
  if b ∈ T then some (.tbl #[]) else if b = a ∧ K.lookup a = none then some (.frz o (.lst xs)) else none
theorem topH_some {K : PySem.W.Frag} {T : List Addr} {a b : Addr} {o : Obj} {xs : List V} {u : HO} (h : topH K T a o xs b = some u) : (b ∈ T ∧ u = .tbl #[]) ∨ (b = a ∧ K.lookup a = none ∧ u = .frz o (.lst xs)) := by
  unfold topH at h
  split at h
  · rename_i c; exact .inl ⟨c, (Option.some.inj h).symm⟩
  · split at h
    · rename_i c; exact .inr ⟨c.1, c.2, (Option.some.inj h).symm⟩
    · cases h
theorem law_callC {Pr : Program} {w : World} {K : PySem.W.Frag} {g0 b0 : Str → Option Value} {CX : CXT} {fa a : Addr} {zs : List (Addr × Addr)} {fd : FuncData} {x : Str} {sp : Sp} {t : Shared} {vs : List Value} {ns : List Int}
    (kin : K.In t.heap) (hg : t.heap.Ns mainGlobals g0) (hb : t.heap.Ns builtinsNs b0) (boot : ∀ x : Str, x ≠ "__name__" → b0 x = bootBuiltins x) (lim : t.heap.NoLimit) (gn : t.gens = #[])
    (emp : ∀ p ∈ zs, t.heap.get? p.2 = some { cls := .none, data := .fields #[] }) (out : ∀ p ∈ zs, K.lookup p.2 = none) (chd : ∀ p ∈ zs, PySem.W.CodeHd t.heap p.1 p.2)
    (bmn : ∃ (bm : Addr) (ob : Obj), g0 "__builtins__" = some (.ref bm) ∧ bm ≠ builtinsNs ∧ t.heap.get? bm = some ob ∧ ob.cls = .type "module" ∧ ob.dict = some builtinsNs ∧ ob.data = .plain)
    (scr : t.heap.get? a = some { cls := .type "list", data := .seq vs.toArray }) (allint : IntsAre vs ns) (few : ns.length ≤ sizeLine)
    (seer : ∃ m, t.heap.Ns sysModules m) (F : ∀ base : Heap, K.In base → base.Ns mainGlobals g0 → (∃ m, base.Ns sysModules m) → (∀ p ∈ zs, LamX.TabB base g0 p.1 p.2) → RunC Pr w K g0 base CX fa fd [x] sp) (bnd : ∀ (s : Shared) (u : Value), BindsTo s fd ⟨[u], []⟩ [(x, u)])
    (want : ∀ H : Hp, (∀ p ∈ zs, H p.2 = some (.tbl #[])) → SqL K H a (ns.map V.int) → sp [.ref a] H (fun v _ => v = .bl true) fun _ _ _ => False)
    (noX : ∀ H e s', CX [] H t (fun _ _ _ => False) e s' → False) :
    codeAny (model Pr w) callerA (.call (.ref fa) ⟨[.ref a], []⟩) (fun r s' => r = .ok (.ret (.bool true)) ∧ OldK t.heap s'.heap ∧ s'.os = t.os ∧ AllBare s'.gens) t := by
  have rv := vals_ints allint
  have vl := allint.length
  generalize hT : zs.map (·.2) = T
  have inT : ∀ p ∈ zs, p.2 ∈ T := fun p hp => by rw [← hT]; exact List.mem_map_of_mem hp
  have ofT : ∀ b ∈ T, ∃ p ∈ zs, p.2 = b := fun b hb => by rw [← hT] at hb; exact List.mem_map.mp hb
  have tb : ∀ b ∈ T, t.heap.get? b = some { cls := .none, data := .fields #[] } := fun b hb => by
    obtain ⟨p, hp, e⟩ := ofT b hb
    exact e ▸ emp p hp
  have aT : a ∉ T := fun z => by
    have q := (tb a z).symm.trans scr
    cases Option.some.inj q
  generalize hH : topH K T a { cls := .type "list", data := .seq vs.toArray } (ns.map V.int) = H
  have cases_ : ∀ {b : Addr} {u : HO}, H b = some u → (b ∈ T ∧ u = .tbl #[]) ∨ (b = a ∧ K.lookup a = none ∧ u = .frz { cls := .type "list", data := .seq vs.toArray } (.lst (ns.map V.int))) := fun h => by
    rw [← hH] at h
    exact topH_some h
  have hTb : ∀ b ∈ T, H b = some (.tbl #[]) := fun b hb => by rw [← hH]; exact if_pos hb
  -- an object that is neither a list nor a table is not tracked
  have apart : ∀ {b : Addr} {o : Obj}, t.heap.get? b = some o → (∀ l n, o.data ≠ .seq l n) → o.data ≠ .fields #[] → H b = none := fun {b o} e n1 n2 => by
    cases q : H b with
    | none => rfl
    | some u =>
      rcases cases_ q with ⟨c, _⟩ | ⟨c, _⟩
      · rw [tb b c] at e; cases e; exact absurd rfl n2
      · rw [c, scr] at e; cases e; exact absurd rfl (n1 _ _)
  have down : ∀ {b : Addr} {o : Obj}, t.heap.get? b = some o → H b = none → (hidT t.heap H).get? b = some o := fun e n => hidT_get e n
  have nsd : ∀ {b : Addr} {m : Str → Option Value}, t.heap.Ns b m → (hidT t.heap H).Ns b m := fun {b m} hn => by
    obtain ⟨o, es, ep, e, d, r⟩ := hn
    exact ⟨o, es, ep, down e (apart e (fun l n z => by rw [d] at z; cases z) fun z => by rw [d] at z; cases z), d, r⟩
  have kinb : K.In (hidT t.heap H) := fun b o e => down (kin b o e) (by
    cases q : H b with
    | none => rfl
    | some u =>
      rcases cases_ q with ⟨c, _⟩ | ⟨c, kn, _⟩
      · obtain ⟨p, hp, z⟩ := ofT b c
        have := out p hp
        rw [z, e] at this
        cases this
      · rw [c, kn] at e; cases e)
  have md : L2.Mod K g0 (hidT t.heap H) := ⟨kinb, nsd hg, ⟨b0, nsd hb, boot⟩, lim.imp fun mc z => ⟨nsd z.1, z.2⟩⟩
  have tabs : ∀ p ∈ zs, LamX.TabB (hidT t.heap H) g0 p.1 p.2 := fun p hp => by
    have e0 := emp p hp
    have nm : mainGlobals ≠ p.2 := fun z => by
      obtain ⟨o, es, ep, e, d, _⟩ := hg
      rw [z, e0] at e
      cases e
      cases d
    refine ⟨?_, ?_, nm⟩
    · obtain ⟨o, us, file, tf, flags, tg, inF, text, tt, e1, r1, r2, r3, r⟩ := chd p hp
      refine ⟨o, us, file, tf, flags, tg, inF, text, tt, down e1 (apart e1 (fun l n z => ?_) fun z => ?_), r1, r2, r3, r⟩
      · rw [r2] at z; cases z
      · rw [r2] at z; cases z; simp at r3
    · obtain ⟨bm, ob, c1, c2, c3, c4, c5, c6⟩ := bmn
      refine ⟨bm, ob, c1, c2, fun z => ?_, fun z => ?_, down c3 (apart c3 (fun l n z => ?_) fun z => ?_), c4, c5, c6⟩
      · obtain ⟨o, es, ep, e, d, _⟩ := hg
        rw [z, e] at c3
        cases c3
        rw [d] at c6
        cases c6
      · rw [z, e0] at c3; cases c3; cases c6
      · rw [c6] at z; cases z
      · rw [c6] at z; cases z
  have hok : HOk Pr w H t.heap := fun b u e => by
    rcases cases_ e with ⟨c, rfl⟩ | ⟨rfl, _, rfl⟩
    · exact tb b c
    · exact ⟨scr, by rw [List.length_map]; exact few, vs, _, rv, scr⟩
  have sq : SqL K H a (ns.map V.int) := by
    cases hk : K.lookup a with
    | none =>
      refine .inl (.inr ⟨{ cls := .type "list", data := .seq vs.toArray }, ?_⟩)
      rw [← hH]
      unfold topH
      rw [if_neg aT, if_pos ⟨rfl, hk⟩]
    | some o =>
      have e := kin a o hk
      rw [scr] at e
      cases e
      exact .inr ⟨_, vs.toArray, _, hk, rfl, rfl, rfl, by rw [List.size_toArray, vl]; exact few, by simpa using rv⟩
  have z0 : Env0 Pr w K g0 (hidT t.heap H) callerA [] t H := ⟨rfl, md, fun b o e => of_hidT e, Nat.le_of_eq (hidT_size _ _), trivial, (fun b hb => nomatch (show b ∈ ([] : List Addr) from hb)), hok, .of_eq gn⟩
  refine codeAny_mono (F _ kinb (nsd hg) (seer.imp fun m z => nsd z) tabs t H ⟨[.ref a], []⟩ [.ref a] [.ref a] _ _ z0 (bnd t (.ref a)) (.cons rfl .nil) (want H (fun p hp => hTb _ (inT p hp)) sq)) fun r s' got => ?_
  match r, got with
  | .error e, got => exact (noX H e s' got).elim
  | .ok .next, got => exact got.elim
  | .ok .brk, got => exact got.elim
  | .ok .cont, got => exact got.elim
  | .ok (.ret u), got =>
    obtain ⟨v, H', os, bare, un, hok', rv', (q : v = .bl true)⟩ := got
    subst q
    obtain rfl : u = Value.bool true := rv'
    have stays : ∀ b o, b ∉ T → t.heap.get? b = some o → s'.heap.get? b = some o := fun b o nb e => by
      cases q : H b with
      | none => exact un.keep b o e q (fun z => nomatch (show b ∈ ([] : List Addr) from z)) (fun z => nomatch z)
      | some u =>
        rcases cases_ q with ⟨c, _⟩ | ⟨_, _, rfl⟩
        · exact absurd c nb
        · have e1 := (hok b _ q).1
          have e2 := (hok' b _ (un.frzs b _ _ q)).1
          rw [e] at e1; cases e1
          exact e2
    have grows : ∀ b ∈ T, ∃ more : Array Value, s'.heap.get? b = some { cls := .none, data := .fields more } := fun b hb => by
      obtain ⟨more, z⟩ := un.tbls b #[] (hTb b hb)
      exact ⟨_, hok' b _ z⟩
    refine ⟨rfl, ⟨fun b o e => ?_, fun b o e => ?_⟩, os, bare⟩
    · by_cases c : b ∈ T
      · obtain ⟨more, z⟩ := grows b c
        obtain ⟨p, hp, eb⟩ := ofT b c
        rw [tb b c] at e
        cases e
        refine .inr (.inl ⟨?_, rfl, #[], more, rfl, by rw [Array.empty_append]; exact z⟩)
        rw [← eb]
        exact ((chd p hp).tab (emp p hp)).isCodeTable
      · exact .inl (stays b o c e)
    · by_cases c : b ∈ T
      · obtain ⟨more, z⟩ := grows b c
        exact ⟨_, z⟩
      · exact ⟨o, stays b o c e⟩
theorem noSeer_sys {h : Heap} (x : h.NoSeer) : ∃ m, h.Ns sysModules m := x.mods.imp fun m z => z.1
/-- what is known of the law's promise, called so -/
def LawAtC (l : PySem.W.OpenLaw) (w : World) (K : PySem.W.Frag) (CX : CXT) (n : Nat) (x : Str) (mg : Str → Option Value) (fa : Addr) (h : Heap) : Prop :=
  ∃ (fd : FuncData) (zs : List (Addr × Addr)) (sp : Sp), (∀ p ∈ zs, h.get? p.2 = some { cls := .none, data := .fields #[] }) ∧ (∀ p ∈ zs, K.lookup p.2 = none) ∧ (∀ p ∈ zs, PySem.W.CodeHd h p.1 p.2) ∧ (∀ (s : Shared) (u : Value), BindsTo s fd ⟨[u], []⟩ [(x, u)]) ∧
    (∀ (H : Hp) (a : Addr) (ns : List Int), ns.length ≤ n → (∀ z ∈ ns, Builtin.Int.intBits z ≤ 1048576) → (∀ p ∈ zs, H p.2 = some (.tbl #[])) → SqL K H a (ns.map V.int) → sp [.ref a] H (fun v _ => v = .bl true) fun _ _ _ => False) ∧
    ∀ base : Heap, K.In base → base.Ns mainGlobals mg → (∃ m, base.Ns sysModules m) → (∀ p ∈ zs, LamX.TabB base mg p.1 p.2) → RunC l.prog w K mg base CX fa fd [x] sp
theorem walkC {l : PySem.W.OpenLaw} {n : Nat} {q : Program} {loose : List Str} {XP : (Str → Option Value) → Heap → Prop} {YP : World → Heap → Prop} {d : DefRec} {CX : World → CXT} {x : Str}
    (hn : l.most = some n) (hn2 : n ≤ sizeLine) (hdf : d.params.defaults = []) (himp : importsNone q = true)
    (F : ∀ (w : World) (mg : Str → Option Value) (fa : Addr) (h : Heap), YP w h → h.Ns mainGlobals mg → mg d.name = some (.ref fa) → ∃ K : PySem.W.Frag, K.In h ∧ LawAtC l w K (CX w) n x mg fa h)
    (noX : ∀ (w : World) (H : Hp) (s : Shared) (e : Value) (s' : Shared), CX w [] H s (fun _ _ _ => False) e s' → False) :
    PySem.W.WalkO q loose XP YP l.row.toRowW d [] (fun f vs => PySem.call f vs) := by
  refine Att.attach_callB hn hdf fun w s₀ s₁ mg mb fa o pm cd doc a vs ns G Y ho hd hcd hmg hobj hints hlen hbits hg => ?_
  obtain ⟨K, kin, fd, zs, sp, e1, e2, e3, e4, e5, e6⟩ := F w mg fa _ Y G.T.g hmg
  exact law_callC kin G.T.g G.T.b G.T.builtins G.T.nolimit hg e1 e2 e3 G.T.bmain hobj hints (Nat.le_trans hlen hn2) (noSeer_sys (G.T.seer himp)) e6 e4 (fun H hH hS => e5 H a ns hlen hbits hH hS) fun H e s' => noX w H s₁ e s'
/-- the law's def by its body -/
theorem fn_okC {P : Pm} {Pr : Program} {w : World} {mg : Str → Option Value} {base : Heap} {x qual : Str} {params : Arguments} {body : List Stmt} {scope : Scope} {dvs : List V} {kws : List (Str × V)} {p : He.Defn} {N ps : List Str} {k n : Nat} {fs : SS}
    (room : Room (k + 1) callerA) (F : FunD P.K x qual params body scope dvs kws (He.fAd P.K p) (fdOf P.K p)) (S : FnScope N ps scope) (hn : ps.length = n)
    (hb : ∀ (s : Shared) (H : Hp) (E : XK), Room k (callerA.deeper (envOfC qual scope s.heap.objs.size (He.fAd P.K p) (.ref (He.cT P.K p).1))) →
      VSs P (fun cls d _ H => E cls d H) (cxOf (L2.CX Pr w) Pr w P.K mg base N qual scope (He.fAd P.K p) (.ref (He.cT P.K p).1) callerA [] s H E) body fs) :
    RunC Pr w P.K mg base (L2.CX Pr w) (He.fAd P.K p) (fdOf P.K p) ps (spF P n (fnF N.length fs)) := by
  obtain ⟨oc, od, dV, kV, doc, pm, an, cdv, ct, osl, efd, lk, hcg, hD, hK⟩ := F.ex
  obtain ⟨c, rfl⟩ := He.codeIn_ref hcg
  rw [efd] at lk ⊢
  have ec : (He.cT P.K p).1 = c := He.codeOf_eq lk rfl
  rw [ec] at hb
  refine runC_of room lk hcg S (fun vs H Q E h => by rw [hn]; exact h.1) fun s H vs Q E h => ?_
  obtain ⟨_, L, ds, μ, r, st, q⟩ := h
  refine ⟨_, hb s H E (room.deeper _), L, _, μ, start_rel r, st, ?_⟩
  unfold fnF at q
  generalize fs (ds.map some ++ List.replicate (N.length - ds.length) none) μ = z at q ⊢
  match z, q with
  | .nx ρ μ', q => exact fun σ' L' H' x s' rs' => q L' H' x s' _ .non
  | .rt d μ', q => exact fun v L' H' x s' r' => q L' H' x s' v r'
  | .bk ρ μ', q => exact q.elim
  | .ct ρ μ', q => exact q.elim
  | .exc c ns vs ρ μ', q => exact fun σ' C dx L' H' hc x s' rs' f => q C dx L' H' hc x s' f
  | .bad, q => exact q.elim
end L3

namespace L3
open PySem PySem.Spec PySem.Calls PyProof.Rows L2
/-- the plain thing that a datum is, where it is one -/
def pyD : Nat → Sto → D → Option PyData
  | 0, _, _ => none
  | n + 1, μ, d => match d with
    | .non => some .none
    | .bl b => some (.bool b)
    | .int i => some (.int i)
    | .str z => some (.str z)
    | .lst ds => (ds.mapM (pyD n μ)).map PyData.list
    | .tup ds => (ds.mapM (pyD n μ)).map PyData.tuple
    | .cell k => match μ[k]? with
      | some (.lst ds) => (ds.mapM (pyD n μ)).map PyData.list
      | _ => none
    | _ => none
section
variable {P : Pm} {Pr : Program} {w : World} {H : Hp} {L : Lv} {μ : Sto}
end
section
variable {P : Pm} {X : Cx}
end
/-! ### == and != of things with lists that may be written, at any depth -/
theorem pyD_all {P : Pm} {X : Cx} {H : Hp} {L : Lv} {f : D → Option PyData} (one : ∀ (v : V) (d : D) (p : PyData), Rep P H L v d → f d = some p → Dp X.K H v p) : ∀ {vs : List V} {ds : List D} {ps : List PyData}, Reps P H L vs ds → ds.mapM f = some ps → DpAll X.K H vs ps
  | _, _, ps, .nil, e => by
    have : ps = [] := by simpa using e.symm
    subst this
    exact .nil
  | _, _, ps, .cons (d := d) (ds := ds) rd r, e => by
    rw [List.mapM_cons] at e
    cases e1 : f d with
    | none => rw [e1] at e; cases e
    | some p =>
      rw [e1] at e
      cases e2 : ds.mapM f with
      | none => rw [e2] at e; cases e
      | some qs =>
        rw [e2] at e
        cases e
        exact .cons (one _ _ _ rd e1) (pyD_all one r e2)
theorem pyD_ok {P : Pm} {X : Cx} {H : Hp} {L : Lv} {μ : Sto} (hK : P.K = X.K) (s : St3 P H L μ) : ∀ (n : Nat) (v : V) (d : D) (p : PyData), Rep P H L v d → pyD n μ d = some p → Dp X.K H v p := by
  intro n
  induction n with
  | zero => intro v d p _ e; cases e
  | succ n ih =>
    intro v d p r e
    have many : ∀ {vs : List V} {ds : List D} {g : List PyData → PyData}, Reps P H L vs ds → (ds.mapM (pyD n μ)).map g = some p → ∃ ps, g ps = p ∧ DpAll X.K H vs ps := fun {vs ds g} r e => by
      cases e2 : ds.mapM (pyD n μ) with
      | none => rw [e2] at e; cases e
      | some ps =>
        rw [e2] at e
        exact ⟨ps, Option.some.inj e, pyD_all ih r e2⟩
    cases r with
    | non => cases e; exact .non
    | bl b => cases e; exact .bl b
    | int i => cases e; exact .int i
    | str z => cases e; exact .str z
    | lst h nn r =>
      obtain ⟨ps, rfl, t⟩ := many (g := PyData.list) r e
      exact .lst (.of h) t
    | tup h r =>
      obtain ⟨ps, rfl, t⟩ := many (g := PyData.tuple) r e
      refine .tup ?_ t
      rcases h with ⟨h, _⟩ | h
      · exact .inl h
      · rw [hK] at h; exact .inr h
    | cell h =>
      rename_i a k
      have e' : (match μ[k]? with
        | some (.lst ds) => (ds.mapM (pyD n μ)).map PyData.list
        | _ => none) = some p := e
      cases em : μ[k]? with
      | none => rw [em] at e'; cases e'
      | some m =>
        rw [em] at e'
        cases m with
        | lst ds =>
          cases s.at_ k a _ h em with
          | lst hh r =>
            obtain ⟨ps, rfl, t⟩ := many (g := PyData.list) r e'
            exact .lst (.of hh) t
        | dct ks ds => cases e'
        | ins c ns ds => cases e'
        | oth _ _ _ => cases e'
    | dct h nn l r => cases e
    | obj h hc nn l r => cases e
    | scr h => cases e
    | key h n => cases e
end L3

namespace L3
open PySem PySem.Spec PySem.Calls PyProof.Rows L2
/-! ### how long a plain thing's text is, and of which signs -/
structure TextOk (n : Nat) (t : Str) : Prop where
  len : t.length ≤ n
  ok : PyData.strOk t = true
theorem TextOk.mono {n m : Nat} {t : Str} (h : TextOk n t) (l : n ≤ m) : TextOk m t := ⟨Nat.le_trans h.len l, h.ok⟩
theorem TextOk.app {n m : Nat} {s t : Str} (h : TextOk n s) (k : TextOk m t) : TextOk (n + m) (s ++ t) := by
  refine ⟨by rw [strLen_append]; have := h.len; have := k.len; omega, ?_⟩
  have a := h.ok
  have b := k.ok
  unfold PyData.strOk at *
  show (s.cps ++ t.cps).all _ = true
  rw [Array.all_append, a, b]; rfl
theorem TextOk.int {i : Int} {k : Nat} (hk : 0 < k) (h : i.natAbs.log2 < k) : TextOk (k + 1) (Str.ofString (toString i)) := by
  have ok : PyData.strOk (Str.ofString (toString i)) = true := by
    rw [int_text]
    refine okT.s ?_
    unfold intL
    split
    · exact okT.cons (by decide) (okT.digits (TL.numL_digits _))
    · exact okT.digits (TL.numL_digits _)
  refine ⟨?_, ok⟩
  have := int_text_length_le hk h
  rw [PySem.ofString_length]
  exact this
theorem TextOk.from {b : Nat} : ∀ {ts : List Str} {a k : Nat} {acc : Str}, (∀ t ∈ ts, TextOk b t) → TextOk a acc → TextOk (a + ts.length * (b + 2)) (textFrom k acc ts)
  | [], a, k, acc, _, h => by simpa [textFrom] using h
  | t :: ts, a, k, acc, ht, h => by
    have c : TextOk 2 ((if k > 0 then ", " else "" : String) : Str) := by
      split
      · exact ⟨by decide, by decide +kernel⟩
      · exact ⟨by decide, by decide +kernel⟩
    have z := TextOk.from (k := k + 1) (fun u hu => ht u (List.mem_cons_of_mem _ hu)) ((h.app c).app (ht t (List.mem_cons_self ..)))
    refine TextOk.mono (n := (a + 2 + b) + ts.length * (b + 2)) z ?_
    rw [List.length_cons, Nat.succ_mul]; omega
theorem TextOk.join {b : Nat} : ∀ {ts : List Str}, (∀ t ∈ ts, TextOk b t) → TextOk (ts.length * (b + 2)) (Str.join ", " ts)
  | [], _ => ⟨Nat.zero_le _, by decide +kernel⟩
  | [t], h => (h t (List.mem_cons_self ..)).mono (by simp)
  | t :: u :: r, h => by
    have z := TextOk.join (ts := u :: r) fun x hx => h x (List.mem_cons_of_mem _ hx)
    have c : TextOk 2 ((", " : String) : Str) := ⟨by decide, by decide +kernel⟩
    refine TextOk.mono (((h t (List.mem_cons_self ..)).app c).app z) ?_
    rw [List.length_cons (a := t), Nat.succ_mul]; omega
theorem shownAll_map : ∀ ps : List PyData, PyData.shownAll ps = ps.map PyData.shown
  | [] => by simp [PyData.shownAll]
  | p :: ps => by simp [PyData.shownAll, shownAll_map ps]
theorem TextOk.list {b : Nat} {ps : List PyData} (h : ∀ p ∈ ps, TextOk b p.shown) : TextOk (ps.length * (b + 2) + 2) (PyData.shown (.list ps)) := by
  have e : PyData.shown (.list ps) = listText (ps.map PyData.shown) := by rw [← shownAll_map]; simp [PyData.shown]
  rw [e]
  unfold listText
  have z := TextOk.from (ts := ps.map PyData.shown) (a := 1) (k := 0) (acc := "[") (b := b) (fun t ht => by obtain ⟨p, hp, rfl⟩ := List.mem_map.mp ht; exact h p hp) ⟨by decide, by decide +kernel⟩
  have c : TextOk 1 (("]" : String) : Str) := ⟨by decide, by decide +kernel⟩
  refine (z.app c).mono ?_
  rw [List.length_map]; omega
theorem TextOk.tuple {b : Nat} {ps : List PyData} (h : ∀ p ∈ ps, TextOk b p.shown) : TextOk (ps.length * (b + 2) + 3) (PyData.shown (.tuple ps)) := by
  have e : PyData.shown (.tuple ps) = tupleText (ps.map PyData.shown) := by rw [← shownAll_map]; simp [PyData.shown]
  rw [e]
  unfold tupleText
  have z := TextOk.join (ts := ps.map PyData.shown) (b := b) (fun t ht => by obtain ⟨p, hp, rfl⟩ := List.mem_map.mp ht; exact h p hp)
  have c0 : TextOk 1 (("(" : String) : Str) := ⟨by decide, by decide +kernel⟩
  have c : TextOk 2 ((if (ps.map PyData.shown).length == 1 then ",)" else ")" : String) : Str) := by
    split
    · exact ⟨by decide, by decide +kernel⟩
    · exact ⟨by decide, by decide +kernel⟩
  refine ((c0.app z).app c).mono ?_
  rw [List.length_map]; omega
theorem mapM_at {α β : Type} {f : α → Option β} : ∀ {xs : List α} {ys : List β}, xs.length = ys.length → (∀ (i : Nat) (x : α), xs[i]? = some x → ∃ y, ys[i]? = some y ∧ f x = some y) → xs.mapM f = some ys
  | [], [], _, _ => rfl
  | x :: xs, y :: ys, hl, h => by
    obtain ⟨z, e1, e2⟩ := h 0 x rfl
    cases e1
    rw [List.mapM_cons, e2, mapM_at (ys := ys) (by simpa using hl) fun i u hu => h (i + 1) u (by simpa using hu)]
    rfl
theorem canAll {ps : List PyData} (h : ∀ p ∈ ps, p.canLay0 = true) : PyData.canLayAll0 ps = true := by
  induction ps with
  | nil => simp [PyData.canLayAll0]
  | cons p ps ih => simp [PyData.canLayAll0, h p (List.mem_cons_self ..), ih fun q hq => h q (List.mem_cons_of_mem _ hq)]
theorem depAll {ps : List PyData} {n : Nat} (h : ∀ p ∈ ps, p.depth ≤ n) : PyData.depthAll ps ≤ n := by
  induction ps with
  | nil => simp [PyData.depthAll]
  | cons p ps ih =>
    have := h p (List.mem_cons_self ..)
    have := ih fun q hq => h q (List.mem_cons_of_mem _ hq)
    simp only [PyData.depthAll]; omega
theorem shwAll {ps : List PyData} (h : ∀ p ∈ ps, p.showable = true) : PyData.showableAll ps = true := by
  induction ps with
  | nil => simp [PyData.showableAll]
  | cons p ps ih => simp [PyData.showableAll, h p (List.mem_cons_self ..), ih fun q hq => h q (List.mem_cons_of_mem _ hq)]
/-- what == and repr ask of a plain thing -/
structure PyOk (n k : Nat) (p : PyData) : Prop where
  can : p.canLay0 = true
  dep : p.depth ≤ n
  shw : p.showable = true
  txt : TextOk k p.shown
theorem PyOk.mono {n m k l : Nat} {p : PyData} (h : PyOk n k p) (h1 : n ≤ m) (h2 : k ≤ l) : PyOk m l p := ⟨h.can, Nat.le_trans h.dep h1, h.shw, h.txt.mono h2⟩
theorem PyOk.shaped {n k : Nat} {p : PyData} (h : PyOk n k p) (l : n ≤ 64) : SeqAt.shaped p = true := by
  unfold SeqAt.shaped
  rw [h.can, decide_eq_true (Nat.le_trans h.dep l)]; rfl
theorem PyOk.int {i : Int} {k : Nat} (h : i.natAbs < 2 ^ k) (hk : 0 < k) (l : k ≤ 1900) : PyOk 0 (k + 1) (.int i) := by
  have lg : i.natAbs.log2 < k := by
    by_cases h0 : i.natAbs = 0
    · rw [h0]; simpa using hk
    · exact (Nat.log2_lt h0).mpr h
  refine ⟨by simp [PyData.canLay0], by simp [PyData.depth], by simp [PyData.showable]; omega, ?_⟩
  have := TextOk.int hk lg
  simpa [PyData.shown] using this
theorem PyOk.list {n b : Nat} {ps : List PyData} (h : ∀ p ∈ ps, PyOk n b p) : PyOk (n + 1) (ps.length * (b + 2) + 2) (.list ps) :=
  ⟨by simpa [PyData.canLay0] using canAll fun p hp => (h p hp).can, by simpa [PyData.depth] using depAll fun p hp => (h p hp).dep, by simpa [PyData.showable] using shwAll fun p hp => (h p hp).shw, .list fun p hp => (h p hp).txt⟩
theorem PyOk.tuple {n b : Nat} {ps : List PyData} (h : ∀ p ∈ ps, PyOk n b p) : PyOk (n + 1) (ps.length * (b + 2) + 3) (.tuple ps) :=
  ⟨by simpa [PyData.canLay0] using canAll fun p hp => (h p hp).can, by simpa [PyData.depth] using depAll fun p hp => (h p hp).dep, by simpa [PyData.showable] using shwAll fun p hp => (h p hp).shw, .tuple fun p hp => (h p hp).txt⟩
/-- what repr asks of a plain thing -/
structure PyShow (n k : Nat) (p : PyData) : Prop where
  dep : p.depth ≤ n
  shw : p.showable = true
  txt : TextOk k p.shown
theorem PyShow.mono {n m k l : Nat} {p : PyData} (h : PyShow n k p) (h1 : n ≤ m) (h2 : k ≤ l) : PyShow m l p := ⟨Nat.le_trans h.dep h1, h.shw, h.txt.mono h2⟩
theorem PyShow.list {n b : Nat} {ps : List PyData} (h : ∀ p ∈ ps, PyShow n b p) : PyShow (n + 1) (ps.length * (b + 2) + 2) (.list ps) :=
  ⟨by simpa [PyData.depth] using depAll fun p hp => (h p hp).dep, by simpa [PyData.showable] using shwAll fun p hp => (h p hp).shw, .list fun p hp => (h p hp).txt⟩
theorem PyShow.tuple {n b : Nat} {ps : List PyData} (h : ∀ p ∈ ps, PyShow n b p) : PyShow (n + 1) (ps.length * (b + 2) + 3) (.tuple ps) :=
  ⟨by simpa [PyData.depth] using depAll fun p hp => (h p hp).dep, by simpa [PyData.showable] using shwAll fun p hp => (h p hp).shw, .tuple fun p hp => (h p hp).txt⟩
theorem reprChar_ok {q c : Nat} (hc : c < 1114112) : ∀ d ∈ Builtin.Str.reprChar q c, d < 1114112 := by
  have hx : ∀ w : Nat, ∀ d ∈ List.replicate (w - ((Nat.toDigits 16 c).map Char.toNat).length) 48 ++ (Nat.toDigits 16 c).map Char.toNat, d < 1114112 := fun w d hd => by
    rcases List.mem_append.mp hd with h | h
    · have := (List.mem_replicate.mp h).2; omega
    · obtain ⟨ch, _, rfl⟩ := List.mem_map.mp h
      have := ch.valid
      show ch.val.toNat < 1114112
      rcases this with h | h
      · omega
      · exact h.2
  intro d hd
  unfold Builtin.Str.reprChar at hd
  dsimp only at hd
  repeat' split at hd
  all_goals first
    | (simp only [List.mem_cons, List.not_mem_nil, or_false] at hd; omega)
    | (rcases List.mem_append.mp hd with h | h
       · simp only [List.mem_cons, List.not_mem_nil, or_false] at h; omega
       · exact hx _ d h)
theorem TextOk.rep {x : Str} {n : Nat} (ok : PyData.strOk x = true) (h : x.length ≤ n) : TextOk (10 * n + 2) (reprText x) := by
  have hc : ∀ c ∈ x.cps.toList, c < 1114112 := by
    unfold PyData.strOk at ok
    rw [← Array.all_toList, List.all_eq_true] at ok
    exact fun c hc => by simpa using ok c hc
  refine ⟨Nat.le_trans (StrLaws.reprText_len x fun c h => Nat.lt_of_lt_of_le (hc c h) (by decide)) (by omega), ?_⟩
  have q : reprQuote x < 1114112 := by unfold reprQuote; split <;> decide
  have go : ∀ (l : List Nat) (acc : Array Nat), (∀ c ∈ l, c < 1114112) → (∀ c ∈ acc.toList, c < 1114112) → ∀ c ∈ (l.foldl (fun out c => out ++ (Builtin.Str.reprChar (reprQuote x) c).toArray) acc).toList, c < 1114112 := by
    intro l
    induction l with
    | nil => intro acc _ h; exact h
    | cons c l ih =>
      intro acc h1 h2
      refine ih _ (fun d hd => h1 d (List.mem_cons_of_mem _ hd)) fun d hd => ?_
      rw [Array.toList_append] at hd
      rcases List.mem_append.mp hd with h | h
      · exact h2 d h
      · exact reprChar_ok (h1 c (List.mem_cons_self ..)) d (by simpa using h)
  have z := go x.cps.toList #[reprQuote x] hc (fun c hc => by simp at hc; omega)
  unfold PyData.strOk reprText
  rw [← Array.all_toList, List.all_eq_true, Array.toList_push, ← Array.foldl_toList]
  intro c hc
  rcases List.mem_append.mp hc with h | h
  · exact decide_eq_true (z c h)
  · rw [List.mem_singleton] at h
    subst h
    exact decide_eq_true q
theorem PyShow.str {x : Str} {n : Nat} (ok : PyData.strOk x = true) (h : x.length ≤ n) : PyShow 0 (10 * n + 2) (.str x) :=
  ⟨by simp [PyData.depth], by simp [PyData.showable], by simpa [PyData.shown] using TextOk.rep ok h⟩
theorem TextOk.kv {b c : Nat} : ∀ {kvs : List (PyData × PyData)}, (∀ kv ∈ kvs, TextOk b kv.1.shown ∧ TextOk c kv.2.shown) → ∀ t ∈ PyData.shownKv kvs, TextOk (b + 2 + c) t
  | [], _, t, ht => by simp [PyData.shownKv] at ht
  | (k, v) :: r, h, t, ht => by
    rw [PyData.shownKv] at ht
    rcases List.mem_cons.mp ht with rfl | ht
    · obtain ⟨h1, h2⟩ := h (k, v) (List.mem_cons_self ..)
      exact (h1.app ⟨by decide, by decide +kernel⟩).app h2
    · exact TextOk.kv (fun kv hkv => h kv (List.mem_cons_of_mem _ hkv)) t ht
theorem shownKv_len : ∀ kvs : List (PyData × PyData), (PyData.shownKv kvs).length = kvs.length
  | [] => by simp [PyData.shownKv]
  | (k, v) :: r => by simp [PyData.shownKv, shownKv_len r]
theorem shwKv : ∀ {kvs : List (PyData × PyData)}, (∀ kv ∈ kvs, kv.1.showable = true ∧ kv.2.showable = true) → PyData.showableKv kvs = true
  | [], _ => by simp [PyData.showableKv]
  | (k, v) :: r, h => by
    obtain ⟨h1, h2⟩ := h (k, v) (List.mem_cons_self ..)
    simp only at h1 h2
    simp [PyData.showableKv, h1, h2, shwKv fun kv hkv => h kv (List.mem_cons_of_mem _ hkv)]
theorem depKv {n : Nat} : ∀ {kvs : List (PyData × PyData)}, (∀ kv ∈ kvs, kv.1.depth ≤ n ∧ kv.2.depth ≤ n) → PyData.depthKv kvs ≤ n
  | [], _ => by simp [PyData.depthKv]
  | (k, v) :: r, h => by
    obtain ⟨h1, h2⟩ := h (k, v) (List.mem_cons_self ..)
    have := depKv fun kv hkv => h kv (List.mem_cons_of_mem _ hkv)
    simp only at h1 h2
    simp only [PyData.depthKv]; omega
theorem PyShow.dict {n b c : Nat} {kvs : List (PyData × PyData)} (h : ∀ kv ∈ kvs, PyShow n b kv.1 ∧ PyShow n c kv.2) : PyShow (n + 1) (kvs.length * (b + 2 + c + 2) + 2) (.dict kvs) := by
  refine ⟨by simpa [PyData.depth] using depKv fun kv hkv => ⟨(h kv hkv).1.dep, (h kv hkv).2.dep⟩, by simpa [PyData.showable] using shwKv fun kv hkv => ⟨(h kv hkv).1.shw, (h kv hkv).2.shw⟩, ?_⟩
  have e : PyData.shown (.dict kvs) = dictText (PyData.shownKv kvs) := by simp [PyData.shown]
  rw [e]
  unfold dictText
  have z := TextOk.join (TextOk.kv fun kv hkv => ⟨(h kv hkv).1.txt, (h kv hkv).2.txt⟩)
  have c0 : TextOk 1 (("{" : String) : Str) := ⟨by decide, by decide +kernel⟩
  have c1 : TextOk 1 (("}" : String) : Str) := ⟨by decide, by decide +kernel⟩
  refine ((c0.app z).app c1).mono ?_
  rw [shownKv_len]; omega
section
variable {μ : Sto} {Q : D → Sto → Prop} {E : Exs} {d : D} {p : PyData} {n k : Nat}
end
end L3

namespace L3
open PySem PySem.Spec PySem.Calls PyProof.Rows L2
section
variable {P : Pm} {X : Cx} {H : Hp} {L : Lv} {μ : Sto}
end
end L3

namespace L3
open PySem PySem.Spec PySem.Calls PyProof.Rows L2
/-- what is walked at each turn: a list or a tuple -/
def walkB (μ : Sto) : D → Option (List D × (Sto → Bool))
  | .tup ds => some (ds, fun _ => true)
  | d => walkL μ d
def iEnumBD (fa : SA) : SI := fun ρ μ => (fa ρ μ).bind fun ds μ1 => match ds with
  | [d] => (match walkB μ1 d with
    | some it => .ok (enumD 0 it.1, it.2) μ1
    | none => .bad)
  | _ => .bad
section
variable {P : Pm} {W : WX} {X : Cx} {fa : SA} {p pos : Pos}
end
theorem wp_enumB {E : Exs} {ρ : Env} {μ : Sto} {fa : SA} {Q : List D × (Sto → Bool) → Sto → Prop} (h : (fa ρ μ).wp (fun ds μ1 => ∃ d, ds = [d] ∧ ∃ it, walkB μ1 d = some it ∧ Q (enumD 0 it.1, it.2) μ1) E) : (iEnumBD fa ρ μ).wp Q E :=
  wp_bind (wp_mono h (fun ds μ1 ⟨d, e, it, e2, q⟩ => by subst e; dsimp only; rw [e2]; exact q) fun _ _ _ _ z => z)
end L3

namespace L3
open PySem PySem.Spec PySem.Calls PyProof.Rows L2
end L3

namespace L3
open PySem PySem.Spec PySem.Calls PyProof.Rows L2
end L3

namespace L3
open PySem PySem.Spec PyProof.Rows L2
/-! ### lambdas that are kept in a list: their parameters, if any, all have the default 0 -/
abbrev lamNm (X : Cx) : Str := X.env.qual ++ "<lambda>"
abbrev lamOb (X : Cx) (params : Arguments) (body : Expr) (scope : Scope) (dV doc pm : Value) (cd : Addr) (ctv : Value) : Obj :=
  PySem.W.kdv_obj "<lambda>" (lamNm X) params (.expr body) scope (cloFrom X.env.cells scope.names []) dV doc pm cd ctv
/-- the function's own object is known -/
def LamO (f : Addr) (ob : Obj) : HO := .ext fun h => h.get? f = some ob
theorem LamO.ne {f : Addr} {ob : Obj} (ps : Array Value) : LamO f ob ≠ .tbl ps := fun z => by
  unfold LamO at z
  cases z
structure LamAt (X : Cx) (params : Arguments) (body : Expr) (scope : Scope) (f : Addr) (dV doc pm : Value) (cd : Addr) (ctv : Value) (H : Hp) : Prop where
  fn : H f = some (LamO f (lamOb X params body scope dV doc pm cd ctv))
  co : H cd = some (LamX.CodeO cd (lamNm X))
  df : (params.defaults = [] ∧ dV = .none) ∨ (params.defaults ≠ [] ∧ ∃ t, dV = .ref t ∧ H t = some (.tup (params.defaults.map fun _ => V.int 0)))
theorem LamAt.ext {X : Cx} {params : Arguments} {body : Expr} {scope : Scope} {f : Addr} {dV doc pm : Value} {cd : Addr} {ctv : Value} {H H1 : Hp} (a : LamAt X params body scope f dV doc pm cd ctv H) (e : LamX.ExtN H H1) : LamAt X params body scope f dV doc pm cd ctv H1 := by
  refine ⟨e _ _ a.fn LamO.ne, e _ _ a.co LamX.codeO_ne, ?_⟩
  rcases a.df with z | ⟨z, t, h1, h2⟩
  · exact .inl z
  · exact .inr ⟨z, t, h1, e _ _ h2 fun ps q => nomatch q⟩
def Zeros (es : List Expr) : Prop := ∀ e ∈ es, ∃ j p, e = .Constant (.int 0) j p
section
variable {X : Cx} {pins : List (Addr × Obj)} {σ : L2.St} {H : Hp}
end
end L3

namespace L3
open PySem PySem.Spec PyProof.Rows L2
/-! ### kept lambdas, called from a comprehension of the def that made them -/
structure LamK (N : List Str) (sc scope : Scope) (as : List Str) : Prop where
  kind : scope.kind = .function
  co : scope.isCoroutine = false
  gen : scope.isGenerator = false
  noc : ∀ y ∈ scope.names, y.2 ≠ .cell
  loc : ∀ y ∈ scope.names, y.2 = .local → y.1 ∉ N
  par : ∀ a ∈ as, scope.names.lookup a = some .local
  free : ∀ y ∈ scope.names, y.2 = .free → sc.names.lookup y.1 = some .cell ∨ sc.names.lookup y.1 = some .free
def lamKB (N : List Str) (sc scope : Scope) (as : List Str) : Bool :=
  decide (scope.kind = .function) && !scope.isCoroutine && !scope.isGenerator && (scope.names.all fun y => !decide (y.2 = .cell) && (!decide (y.2 = .local) || !decide (y.1 ∈ N)) && (!decide (y.2 = .free) || decide (sc.names.lookup y.1 = some .cell) || decide (sc.names.lookup y.1 = some .free))) &&
    as.all fun a => decide (scope.names.lookup a = some .local)
theorem lamK_by {N : List Str} {sc scope : Scope} {as : List Str} (h : lamKB N sc scope as = true) : LamK N sc scope as := by
  unfold lamKB at h
  simp only [Bool.and_eq_true, Bool.or_eq_true, Bool.not_eq_true', decide_eq_true_eq, decide_eq_false_iff_not, List.all_eq_true] at h
  obtain ⟨⟨⟨⟨k1, k2⟩, k3⟩, k4⟩, k5⟩ := h
  refine ⟨k1, k2, k3, fun y hy => (k4 y hy).1.1, fun y hy e => (k4 y hy).1.2.elim (fun z => absurd e z) id, k5, fun y hy e => ?_⟩
  rcases (k4 y hy).2 with (z | z) | z
  · exact absurd e z
  · exact .inl z
  · exact .inr z
structure LamBind (params : Arguments) (body : Expr) (scope : Scope) (as : List Str) : Prop where
  b0 : params.defaults = [] → as = [] ∧ ∀ (q : Str) (cl : List (Str × Addr)) (doc pm cv ctv : Value), bindArgs (PySem.W.kdv_fn "<lambda>" q params (.expr body) scope cl .none doc pm cv ctv) ⟨[], []⟩ = pure []
  b1 : params.defaults ≠ [] → ∀ (q : Str) (cl : List (Str × Addr)) (t : Addr) (doc pm cv ctv : Value) (us : List Value), us.length = params.defaults.length →
    ∃ k, bindArgs (PySem.W.kdv_fn "<lambda>" q params (.expr body) scope cl (.ref t) doc pm cv ctv) ⟨[], []⟩ = seqItems? (.ref t) >>= k ∧ k (some us.toArray) = pure (as.zip us)
section
variable {X : Cx} {pins : List (Addr × Obj)} {σ : L2.St} {H HZ : Hp} {s s1 : Shared} {fp : List Addr}
theorem LamAt.at_ {params : Arguments} {body : Expr} {scope : Scope} {f : Addr} {dV doc pm : Value} {cd : Addr} {ctv : Value} (a : LamAt X params body scope f dV doc pm cd ctv HZ) (ok : HOk X.prog X.w HZ s.heap) : s.heap.get? f = some (lamOb X params body scope dV doc pm cd ctv) := (ok f _ a.fn).1
end
end L3

namespace L3
open PySem PySem.Spec PyProof.Rows L2
/-! ### a comprehension whose element may lean on the maker's own state -/
section
variable {X : Cx}
end
end L3

namespace L3
open PySem PySem.Spec PyProof.Rows L2
/-! what is kept -/
section
variable {P : Pm} {X : Cx} {k : Nat} {H H1 : Hp} {L L1 : Lv} {μ : Sto}
/-- the thing v is a kept lambda that is worth fb -/
inductive Kept (P : Pm) (X : Cx) (k : Nat) (H : Hp) : V → SE → Prop
  | mk {params : Arguments} {body : Expr} {scope : Scope} {as : List Str} {f : Addr} {dV doc pm : Value} {cd : Addr} {ctv : Value} {fb : SE} (at_ : LamAt X params body scope f dV doc pm cd ctv H) (K : LamK X.N X.env.scope scope as) (B : LamBind params body scope as)
    (hb : ∀ (A : Around) (outer : List _root_.PySem.Env) (s : Shared) (H : Hp) (E : XK), Room k (A.deeper (LamX.lamEnv X scope s.heap.objs.size f cd)) → VE P (fun cls d _ H => E cls d H) (LamX.lamCx X A outer s H E scope f cd) body fb) : Kept P X k H (.ref f) fb
inductive Kepts (P : Pm) (X : Cx) (k : Nat) (H : Hp) : List V → List SE → Prop
  | nil : Kepts P X k H [] []
  | cons {v : V} {fb : SE} {vs : List V} {fs : List SE} (h : Kept P X k H v fb) (r : Kepts P X k H vs fs) : Kepts P X k H (v :: vs) (fb :: fs)
theorem Kepts.ext {vs : List V} {fs : List SE} (a : Kepts P X k H vs fs) (e : LamX.ExtN H H1) : Kepts P X k H1 vs fs := by
  induction a with
  | nil => exact .nil
  | cons h r ih => exact .cons (match h with | .mk a K B hb => .mk (a.ext e) K B hb) ih
theorem Kepts.length {vs : List V} {fs : List SE} (a : Kepts P X k H vs fs) : vs.length = fs.length := by
  induction a with
  | nil => rfl
  | cons _ _ ih => simp [ih]
theorem Kepts.get {vs : List V} {fs : List SE} (a : Kepts P X k H vs fs) {i : Nat} {v : V} (e : vs[i]? = some v) : ∃ fb, fs[i]? = some fb ∧ Kept P X k H v fb := by
  induction a generalizing i with
  | nil => simp at e
  | cons h r ih =>
    cases i with
    | zero => simp at e; subst e; exact ⟨_, rfl, h⟩
    | succ j => exact ih (by simpa using e)
/-- the written lambdas -/
inductive Lams (P : Pm) (X : Cx) (k : Nat) : List Expr → List SE → Prop
  | nil : Lams P X k [] []
  | cons {params : Arguments} {body : Expr} {scope : Scope} {lpos : Pos} {as : List Str} {fb : SE} {es : List Expr} {fs : List SE} (hz : Zeros params.defaults) (hk : params.kw_defaults = []) (hl : params.defaults.length ≤ 100) (K : LamK X.N X.env.scope scope as) (B : LamBind params body scope as)
    (hb : ∀ (A : Around) (outer : List _root_.PySem.Env) (s : Shared) (H : Hp) (E : XK) (f cd : Addr), Room k (A.deeper (LamX.lamEnv X scope s.heap.objs.size f cd)) → VE P (fun cls d _ H => E cls d H) (LamX.lamCx X A outer s H E scope f cd) body fb) (r : Lams P X k es fs) :
    Lams P X k (.Lambda params body scope lpos :: es) (fb :: fs)
theorem Lams.length {es : List Expr} {fs : List SE} (a : Lams P X k es fs) : es.length = fs.length := by
  induction a with
  | nil => rfl
  | cons _ _ _ _ _ _ _ ih => simp [ih]
end
/-! the asking -/
def asksS (pick : Str → Option Shape) (ρ : Env) : List SE → Sto → R (List D)
  | [], μ => .ok [] μ
  | f :: fs, μ => (eAsked pick f ρ μ).nox.bind fun d μ1 => (asksS pick ρ fs μ1).nox.bind fun ds μ2 => .ok (d :: ds) μ2
def eAsks (pick : Str → Option Shape) (fs : List SE) : SE := fun ρ μ => if fs.length ≤ 100 then (asksS pick ρ fs μ).nox.bind fun ds μ1 => .ok (.lst ds) μ1 else .bad
section
variable {P : Pm} {W : WX} {X : Cx} {k : Nat}
theorem R.bind_of {α β : Type} {r : R α} {f : α → Sto → R β} {b : β} {μ : Sto} (h : r.bind f = .ok b μ) : ∃ a μ1, r = .ok a μ1 ∧ f a μ1 = .ok b μ := by
  cases r with
  | ok a μ1 => exact ⟨a, μ1, rfl, h⟩
  | exc _ _ _ _ => cases h
  | bad => cases h
/-- how the state stands ahead of the asking -/
structure AskSt (P : Pm) (X : Cx) (k : Nat) (iy : Nat) (fs : List SE) (σ : L2.St) (H : Hp) (L : Lv) (ρ : Env) (μ : Sto) (a : Addr) (vs : List V) : Prop where
  rs : RelS P H L σ ρ
  st : St3 P H L μ
  at_ : σ[iy]? = some (some (.ref a))
  ls : H a = some (.lst vs)
  no : ¬ L.has a
  kp : Kepts P X k H vs fs
end
end L3

namespace L3
open PySem PySem.Spec PyProof.Rows L2
/-! ### the two rows: asks = [lambda ..]; if [x(ask) for ask in asks] op e: .. -/
def sOut (i : Nat) : SS := fun ρ μ => .nx (ρ.set i none) μ
theorem RelS.out {P : Pm} {H : Hp} {L : Lv} {σ : L2.St} {ρ : Env} {i : Nat} {v : V} (r : RelS P H L σ ρ) : RelS P H L (σ.set i (some v)) (ρ.set i none) := by
  refine ⟨by rw [List.length_set, List.length_set]; exact r.len, fun j d e => ?_⟩
  by_cases h : i = j
  · subst h
    by_cases hl : i < ρ.length
    · rw [List.getElem?_set_self hl] at e; cases e
    · rw [List.getElem?_eq_none (by simpa using hl)] at e; cases e
  · rw [List.getElem?_set_ne h] at e ⊢
    exact r.at_ j d e
section
variable {P : Pm} {W : WX} {X : Cx} {k : Nat}
end
end L3

namespace L3
open PySem PySem.Spec PyProof.Rows L2
/-! ### kept lambdas: ready rules -/
def zeroB : Expr → Bool
  | .Constant (.int i) _ _ => i == 0
  | _ => false
theorem zeros_by {es : List Expr} (h : es.all zeroB = true) : Zeros es := fun e he => by
  have z := List.all_eq_true.mp h e he
  unfold zeroB at z
  split at z
  · rename_i i j p
    exact ⟨j, p, by rw [show i = 0 by simpa using z]⟩
  · cases z
def lamB (N : List Str) (sc : Scope) (params : Arguments) (scope : Scope) (as : List Str) : Bool :=
  params.defaults.all zeroB && params.kw_defaults.isEmpty && decide (params.defaults.length ≤ 100) && lamKB N sc scope as
theorem Lams.by {P : Pm} {X : Cx} {k : Nat} {params : Arguments} {body : Expr} {scope : Scope} {lpos : Pos} {as : List Str} {fb : SE} {es : List Expr} {fs : List SE} (h : lamB X.N X.env.scope params scope as = true) (B : LamBind params body scope as)
    (hb : ∀ (A : Around) (outer : List _root_.PySem.Env) (s : Shared) (H : Hp) (E : XK) (f cd : Addr), Room k (A.deeper (LamX.lamEnv X scope s.heap.objs.size f cd)) → VE P (fun cls d _ H => E cls d H) (LamX.lamCx X A outer s H E scope f cd) body fb) (r : Lams P X k es fs) :
    Lams P X k (.Lambda params body scope lpos :: es) (fb :: fs) := by
  unfold lamB at h
  simp only [Bool.and_eq_true, decide_eq_true_eq, List.isEmpty_iff] at h
  exact .cons (zeros_by h.1.1.1) h.1.1.2 h.1.2 (lamK_by h.2) B hb r
theorem LamBind.with {params : Arguments} {body : Expr} {scope : Scope} {as : List Str} (z : params.defaults.length = as.length) (n : as.isEmpty = false)
    (h : ∀ (q : Str) (cl : List (Str × Addr)) (t : Addr) (doc pm cv ctv : Value) (us : List Value), us.length = as.length → ∃ k, bindArgs (PySem.W.kdv_fn "<lambda>" q params (.expr body) scope cl (.ref t) doc pm cv ctv) ⟨[], []⟩ = seqItems? (.ref t) >>= k ∧ k (some us.toArray) = pure (as.zip us)) : LamBind params body scope as :=
  { b0 := fun e => by
      rw [e] at z
      cases as with
      | nil => cases n
      | cons _ _ => cases z
    b1 := fun _ q cl t doc pm cv ctv us e => h q cl t doc pm cv ctv us (e.trans z) }
/-! the walking rules -/
def asksA (pick : Str → Option Shape) : List SE → SA
  | [] => aNil
  | f :: fs => aCons (eAsked pick f) (asksA pick fs)
theorem eAsked_nox (pick : Str → Option Shape) (f : SE) (ρ : Env) (μ : Sto) : (eAsked pick f ρ μ).nox = eAsked pick f ρ μ := by
  unfold eAsked
  cases f ρ μ with
  | ok _ _ => rfl
  | bad => rfl
  | exc c ns vs μ1 => dsimp only; cases (pick c).bind fun sh => sh.told ns vs <;> rfl
theorem asks_same (pick : Str → Option Shape) (ρ : Env) : ∀ (fs : List SE) (μ : Sto), asksS pick ρ fs μ = asksA pick fs ρ μ ∧ (asksS pick ρ fs μ).nox = asksS pick ρ fs μ ∧ ∀ ds μ1, asksS pick ρ fs μ = .ok ds μ1 → ds.length = fs.length
  | [], μ => ⟨rfl, rfl, fun ds μ1 h => by cases h; rfl⟩
  | f :: fs, μ => by
    have e : asksS pick ρ (f :: fs) μ = (eAsked pick f ρ μ).bind fun d μ1 => (asksS pick ρ fs μ1).bind fun ds μ2 => .ok (d :: ds) μ2 := by
      have e0 : asksS pick ρ (f :: fs) μ = (eAsked pick f ρ μ).nox.bind fun d μ1 => (asksS pick ρ fs μ1).nox.bind fun ds μ2 => .ok (d :: ds) μ2 := rfl
      rw [e0, eAsked_nox]
      cases eAsked pick f ρ μ with
      | ok d μ1 => show (asksS pick ρ fs μ1).nox.bind _ = _; rw [(asks_same pick ρ fs μ1).2.1]; rfl
      | exc _ _ _ _ => rfl
      | bad => rfl
    have en := eAsked_nox pick f ρ μ
    refine ⟨?_, ?_, ?_⟩
    · rw [e]
      show _ = (eAsked pick f ρ μ).bind fun d μ1 => (asksA pick fs ρ μ1).bind fun ds μ2 => .ok (d :: ds) μ2
      cases eAsked pick f ρ μ with
      | ok d μ1 => show (asksS pick ρ fs μ1).bind _ = _; rw [(asks_same pick ρ fs μ1).1]; rfl
      | exc _ _ _ _ => rfl
      | bad => rfl
    · rw [e]
      cases h : eAsked pick f ρ μ with
      | ok d μ1 =>
        show ((asksS pick ρ fs μ1).bind _).nox = (asksS pick ρ fs μ1).bind _
        have z := (asks_same pick ρ fs μ1).2.1
        cases h2 : asksS pick ρ fs μ1 with
        | ok _ _ => rfl
        | exc _ _ _ _ => rw [h2] at z; cases z
        | bad => rfl
      | exc _ _ _ _ => rw [h] at en; cases en
      | bad => rfl
    · intro ds μ1 h
      rw [e] at h
      obtain ⟨d, μ2, _, h⟩ := R.bind_of h
      obtain ⟨ds2, μ3, h3, h⟩ := R.bind_of h
      cases h
      simp [(asks_same pick ρ fs μ2).2.2 _ _ h3]
theorem eAsks_eq (pick : Str → Option Shape) (fs : List SE) : eAsks pick fs = eLst (asksA pick fs) := by
  funext ρ μ
  obtain ⟨e1, e2, e3⟩ := asks_same pick ρ fs μ
  unfold eAsks eLst
  rw [e2, ← e1]
  cases h : asksS pick ρ fs μ with
  | ok ds μ1 =>
    rw [h] at e3
    have := e3 ds μ1 rfl
    by_cases c : fs.length ≤ 100
    · rw [if_pos c]; show _ = if _ then _ else _; rw [if_pos (by omega)]; rfl
    · rw [if_neg c]; show _ = if _ then _ else _; rw [if_neg (by omega)]
  | exc _ _ _ _ => rw [h] at e2; cases e2
  | bad => by_cases c : fs.length ≤ 100 <;> simp [c]
section
variable {pick : Str → Option Shape} {f : SE} {fs : List SE} {ρ : Env} {μ : Sto} {N : List D → Sto → Prop} {N1 : D → Sto → Prop} {E : Str → List Str → List D → Sto → Prop}
theorem wp_asks (h : (eLst (asksA pick fs) ρ μ).wp N1 E) : (eAsks pick fs ρ μ).wp N1 E := by rw [eAsks_eq]; exact h
theorem wp_asksC (h : (aCons (eAsked pick f) (asksA pick fs) ρ μ).wp N E) : (asksA pick (f :: fs) ρ μ).wp N E := h
theorem wp_asksN (h : (aNil ρ μ).wp N E) : (asksA pick [] ρ μ).wp N E := h
end
section
variable {ρ : Env} {μ : Sto} {N B C : Env → Sto → Prop} {T : D → Sto → Prop} {E : Str → List Str → List D → Sto → Prop} {i : Nat} {g : SS}
theorem wp_seqOut (h : (g (ρ.set i none) μ).wp N T B C E) : (sSeq (sOut i) g ρ μ).wp N T B C E := wp_sSeq h
end
end L3

namespace L3
open PySem PySem.Spec PyProof.Rows L2
section
variable {P : Pm} {W : WX} {X : Cx} {k : Nat}
end
/-! ### a keyword-only parameter that is left out -/
theorem Fct.kwd {l : Lw} {P : Pm} {mg : Str → Option Value} {base : Heap} {w : World} (T : Fct l P mg base w) (i : Nat) {x n qual : Str} {d : D} {params : Arguments} {body : List Stmt} {scope : Scope} {fd : FuncData} (h : l.kwv[i]? = some (x, n, d))
    (F : FunD P.K x qual params body scope [] [] (He.ga P.K x) fd) : ∃ v, FunD P.K x qual params body scope [] [(n, v)] (He.ga P.K x) fd ∧ ∀ L H, Reps P H L [v] [d] := by
  have h0 := (Bool.and_eq_true_iff.mp (Bool.and_eq_true_iff.mp (Bool.and_eq_true_iff.mp (Bool.and_eq_true_iff.mp (Bool.and_eq_true_iff.mp T.ex).2).2).2).2).2
  have h1 := List.all_eq_true.mp (Bool.and_eq_true_iff.mp (Bool.and_eq_true_iff.mp h0).2).1 _ (List.mem_of_getElem? h)
  obtain ⟨oc, od, dV, kV, doc, pm, an, cdv, ct, osl, e0, lk, hcg, hD, hKw⟩ := F.ex
  unfold kwvB at h1
  dsimp only at h1
  rw [lk] at h1
  dsimp only at h1
  subst e0
  cases kV with
  | ref D =>
    dsimp only [PySem.W.fnOf] at h1
    cases e : PySem.W.nsIn P.K D n with
    | none => rw [e] at h1; cases h1
    | some r =>
      cases r with
      | none => rw [e] at h1; cases h1
      | some u =>
        rw [e] at h1
        obtain ⟨v, rv, hv⟩ := conV_ok (K := P.K) (u := u) (d := d) h1
        exact ⟨v, ⟨⟨oc, od, dV, .ref D, doc, pm, an, cdv, ct, osl, rfl, lk, hcg, hD, .inr ⟨D, rfl, fun q hq => by
          rw [List.mem_singleton] at hq
          subst hq
          exact ⟨u, e, rv⟩⟩⟩, F.kp⟩, fun L H => .cons (hv P H L rfl) .nil⟩
  | _ => cases h1
end L3

namespace L3
open PySem PySem.Spec PyProof.Rows L2
/-- Hd: Hc without some things of one's own -/
structure Less (Hd Hc : Hp) : Prop where
  sub : ∀ a o, Hd a = some o → Hc a = some o
  less : ∀ a, Hd a = none → Hc a = none ∨ ∃ φ, Hc a = some (.ext φ)
theorem Less.tk {Hd Hc : Hp} (l : Less Hd Hc) {a : Addr} {o : HO} (e : Hc a = some o) (n : ∀ φ, o ≠ .ext φ) : Hd a = some o := by
  cases h : Hd a with
  | none =>
    rcases l.less a h with z | ⟨φ, z⟩
    · rw [z] at e; cases e
    · rw [z] at e; cases e; exact absurd rfl (n φ)
  | some u => rw [l.sub a u h] at e; exact e
/-- what the names of a def hold that is over -/
structure Gone (X : Cx) (σ : L2.St) (H : Hp) (h : Heap) : Prop where
  inj : ∀ x y c, X.env.cells.lookup x = some c → X.env.cells.lookup y = some c → x = y
  has : ∀ x, (X.env.scope.names.lookup x = some .cell ∨ X.env.scope.names.lookup x = some .free) → ∃ c, X.env.cells.lookup x = some c
  free : ∀ y c, X.env.cells.lookup y = some c → H c = none
  cell : ∀ y c, X.env.cells.lookup y = some c → ∃ v, h.IsCell c v
  look : ∀ (i : Nat) (y : Str) (v : V), X.N[i]? = some y → σ[i]? = some (some v) → (X.env.scope.names.lookup y = some .cell ∨ X.env.scope.names.lookup y = some .free) → ∃ u c, RelV v u ∧ X.env.cells.lookup y = some c ∧ h.IsCell c (some u)
  len : σ.length = X.N.length
section
variable {X : Cx} {pins : List (Addr × Obj)} {σ : L2.St} {H HZ : Hp} {s s1 : Shared} {fp : List Addr} {h h1 : Heap}
theorem Gone.other (G : Gone X σ H h) (n : ∀ y c, X.env.cells.lookup y = some c → HZ c = none) : Gone X σ HZ h := ⟨G.inj, G.has, n, G.cell, G.look, G.len⟩
end
end L3

namespace L3
open PySem PySem.Spec PyProof.Rows L2
section
variable {X Y : Cx} {pins : List (Addr × Obj)} {σ : L2.St} {H HZ : Hp} {s s1 : Shared} {fp : List Addr}
end
end L3

namespace L3
open PySem PySem.Spec PyProof.Rows L2
/-! ### a def that hands out what its names hold -/
abbrev TX := (V → L2.St → Hp → Prop) → L2.St → Hp → Prop
def SPX (X : Cx) (pins : List (Addr × Obj)) (D : V → L2.St → Hp → Prop) (f : Flow) (s' : Shared) : Prop :=
  match f with
  | .ret u => ∃ v σ' H', Inv X pins σ' H' s' ∧ RelV v u ∧ D v σ' H'
  | _ => False
/-- as PSs, the slots told at the return -/
structure PSX (X : Cx) (st : List Stmt) (t : TX) : Prop where
  run : ∀ (pins : List (Addr × Obj)) (s : Shared) (σ : L2.St) (H : Hp) (D : V → L2.St → Hp → Prop), Inv X pins σ H s → t D σ H → wpAny (model X.prog X.w) X.A (execs st X.env) (SPX X pins D) X.xe s
section
variable {X : Cx} {st : Stmt} {rest : List Stmt} {e : Expr} {pos : Pos}
theorem PSX.imp {t t' : TX} (h : PSX X rest t) (i : ∀ D σ H, t' D σ H → t D σ H) : PSX X rest t' := ⟨fun pins s σ H D I q => h.run pins s σ H D I (i D σ H q)⟩
theorem PSX.len {t : TX} (h : PSX X rest t) : PSX X rest (fun D σ H => σ.length = X.N.length → t D σ H) := ⟨fun pins s σ H D I q => h.run pins s σ H D I (q I.len)⟩
end
open Classical in
section
variable {X : Cx} {h : Heap} {H : Hp} {a : Addr}
end
end L3

namespace L3
open PySem PySem.Spec PyProof.Rows L2
/-! ### xs = [lambda ..]; xs = xs + [lambda ..]; return xs + [lambda ..] -/
section
variable {P : Pm} {X : Cx} {k : Nat} {H H1 : Hp} {L : Lv} {μ : Sto}
/-- a list of lambdas that are worth fs has come -/
structure KL (P : Pm) (X : Cx) (k : Nat) (fs : List SE) (L : Lv) (μ : Sto) (H H1 : Hp) (v : V) : Prop where
  x : Ext P L H L H1
  s : St3 P H1 L μ
  l : ∃ b vs, v = .ref b ∧ H1 b = some (.lst vs) ∧ ¬ L.has b ∧ Kepts P X k H1 vs fs
end
end L3

namespace L3
open PySem PySem.Spec PyProof.Rows L2
section
variable {Y : Cx}
end
end L3

namespace L3
open PySem PySem.Spec PyProof.Rows L2
/-! ### [x(a) for a in d(e)], as data -/
def eDoors (pick : Str → Option Shape) (n nN iy : Nat) (f1 : SS) (gs : List SE) (fa : SA) : SE := fun ρ μ => (fa ρ μ).bind fun ds μ1 => if ds.length = n then (match f1 (ds.map some ++ List.replicate (nN - ds.length) none) μ1 with
  | .nx ρ1 μ2 => eAsks pick gs (ρ1.set iy none) μ2
  | _ => .bad) else .bad
structure GoneSt (P : Pm) (X : Cx) (k : Nat) (fs : List SE) (σ : L2.St) (H : Hp) (L : Lv) (ρ : Env) (μ : Sto) (a : Addr) (vs : List V) : Prop where
  rs : RelS P H L σ ρ
  st : St3 P H L μ
  ls : H a = some (.lst vs)
  no : ¬ L.has a
  kp : Kepts P X k H vs fs
section
variable {P : Pm} {W : WX} {Y : Cx} {k : Nat}
end
end L3

namespace L3
open PySem PySem.Spec PyProof.Rows L2
section
variable {P : Pm} {Pr : Program} {w : World} {mg : Str → Option Value} {base : Heap} {x qual : Str} {params : Arguments} {body : List Stmt} {scope : Scope} {p : Str × Option Str} {N ps : List Str} {k kk n iy : Nat} {f1 : SS} {gs : List SE}
end
/-! the walking rule -/
section
variable {pick : Str → Option Shape} {n nN iy : Nat} {f1 : SS} {gs : List SE} {fa : SA} {ρ : Env} {μ : Sto} {N : D → Sto → Prop} {E : Str → List Str → List D → Sto → Prop}
theorem wp_eDoors (h : (fa ρ μ).wp (fun ds μ1 => ds.length = n ∧ (f1 (ds.map some ++ List.replicate (nN - ds.length) none) μ1).wp (fun ρ1 μ2 => (eAsks pick gs (ρ1.set iy none) μ2).wp N E) (fun _ _ => False) (fun _ _ => False) (fun _ _ => False) fun _ _ _ _ => False) E) :
    (eDoors pick n nN iy f1 gs fa ρ μ).wp N E := by
  unfold eDoors
  cases e : fa ρ μ with
  | bad => rw [e] at h; exact h
  | exc c ns vs μ1 => rw [e] at h; exact h
  | ok ds μ1 =>
    rw [e] at h
    obtain ⟨h1, h2⟩ := h
    show R.wp (if ds.length = n then _ else _) _ _
    rw [if_pos h1]
    cases e2 : f1 (ds.map some ++ List.replicate (nN - ds.length) none) μ1 with
    | nx ρ1 μ2 => rw [e2] at h2; exact h2
    | rt d μ2 => rw [e2] at h2; exact h2.elim
    | bk ρ1 μ2 => rw [e2] at h2; exact h2.elim
    | ct ρ1 μ2 => rw [e2] at h2; exact h2.elim
    | exc c ns vs ρ1 μ2 => rw [e2] at h2; exact h2.elim
    | bad => rw [e2] at h2; exact h2.elim
end
end L3

namespace L3
open PySem PySem.Spec PySem.Calls PyProof.Rows L2 PySem.Froz
def dSetC : D → Sto → R D := fun d μ => match txsL μ d with
  | some xs => if xs.length ≤ 2000 then .ok (.cell μ.length) (μ ++ [.oth .st ((xs.foldl insT []).map fun z => [(Sum.inr z : Key)]) ((xs.foldl insT []).map fun _ => .non)]) else .bad
  | none => .bad
def rLenSt : List V → Hp → VK → Prop := fun xs H Q => ∃ (a : Addr) (o : Obj) (u : HO) (es : Array (Int × Value)) (ep : Nat) (t : SetTable), xs = [.ref a] ∧ H a = some (.frz o u) ∧ o.ExactSet ∧ o.data = .set es ep t ∧ t.fits es.size = true ∧ es.size ≤ 2000 ∧ Q (.int ((es.size : Nat) : Int)) H
theorem call_lenSt {X : Cx} : CallR X (.builtin "len") rLenSt := by
  intro pins s σ H xs us Q I r h
  obtain ⟨a, o, u, es, ep, t, rfl, ha, h1, h2, h3, h4, q⟩ := h
  rw [Vals.ref1 r]
  obtain ⟨g, _⟩ : s.heap.get? a = some o ∧ _ := I.hok a _ ha
  exact call_len_set g h1 h2 h3 (by omega) ⟨.int ((es.size : Nat) : Int), H, I.tok _, ⟨_, rfl⟩, q⟩
def dLenSt : D → Sto → R D := fun d μ => match d with
  | .cell k => (match μ[k]? with
    | some (.oth .st ks _) => if ks.length ≤ 2000 then .ok (.int ks.length) μ else .bad
    | _ => .bad)
  | _ => .bad
theorem cs_lenSt {P : Pm} : CallS P rLenSt (un dLenSt) := by
  refine cs_un fun E L H μ v d Q s rv q => ?_
  cases d with
  | cell k =>
    have q : Post P E L H (fun d L' H' => ∀ v, Rep P H' L' v d → Q v H') (match μ[k]? with
      | some (.oth .st ks _) => if ks.length ≤ 2000 then .ok (.int ks.length) μ else .bad
      | _ => .bad) := q
    cases e : μ[k]? with
    | none => rw [e] at q; exact q.elim
    | some m =>
      rw [e] at q
      cases m with
      | oth o ks vs =>
        cases o with
        | st =>
          have q : Post P E L H (fun d L' H' => ∀ v, Rep P H' L' v d → Q v H') (if ks.length ≤ 2000 then .ok (.int ks.length) μ else .bad) := q
          by_cases c : ks.length ≤ 2000
          case neg => rw [if_neg c] at q; exact q.elim
          rw [if_pos c] at q
          cases rv with
          | @cell a _ hk =>
            cases s.at_ k a _ hk e with
            | oth h l r =>
              obtain ⟨ob, u, es, ep, t, h0, h1, h2, h3, h4⟩ := h
              refine ⟨a, ob, u, es, ep, t, rfl, h0, h1, h2, h3, by omega, ?_⟩
              rw [h4]
              exact q L H .refl s _ (.int _)
        | _ => exact q.elim
      | _ => exact q.elim
  | _ => exact q.elim
section
variable {P : Pm} {W : WX} {X : Cx} {f : SE}
theorem tSc_of {Pr : Program} {w : World} {i : Nat} {σ : L2.St} {H : Hp} {Q Q' : VK} (imp : ∀ (N : Addr) (l : List Str) (H1 : Hp), H1 N = some (StO Pr w N l) → (∀ (o : Obj) (es : Array (Int × Value)) (ep : Nat) (t : SetTable), o.ExactSet → o.data = .set es ep t → t.fits es.size = true → es.size = l.length → Q (.ref N) (upd H1 N (.frz o (StO Pr w N l)))) → Q' (.ref N) H1)
    (h : tV P W (eIdx i (eU dSetC f)) σ H Q) : tSc Pr w (iList P.K (tV P W f)) (gName i) tYes (tVar i) [i] σ H Q' := by
  obtain ⟨L, ρ, μ, rs, st, q⟩ := h
  have il : i < ρ.length := by
    by_cases c : i < ρ.length
    · exact c
    · unfold eIdx at q; rw [if_neg c] at q; exact q.elim
  unfold eIdx at q
  rw [if_pos il] at q
  refine tV.first (k := dSetC) rs st q fun d μ1 v L1 H1 x1 s1 r1 rs1 q1 => ?_
  unfold dSetC txsL at q1
  cases e1 : asL μ1 d with
  | none => rw [e1] at q1; exact q1.elim
  | some ds =>
    rw [e1] at q1
    cases e2 : strsD ds with
    | none => rw [show (some ds).bind strsD = none from e2] at q1; exact q1.elim
    | some xs =>
      rw [show (some ds).bind strsD = some xs from e2] at q1
      have q1 : Post P (WE W σ) L1 H1 (fun d L' H' => ∀ v, Rep P H' L' v d → Q v H') (if xs.length ≤ 2000 then .ok (.cell μ1.length) (μ1 ++ [.oth .st ((xs.foldl insT []).map fun z => [(Sum.inr z : Key)]) ((xs.foldl insT []).map fun _ => .non)]) else .bad) := q1
      by_cases c : xs.length ≤ 2000
      case neg => rw [if_neg c] at q1; exact q1.elim
      rw [if_pos c] at q1
      obtain ⟨a, vs, rfl, ha, ra⟩ := asL_ok s1 r1 e1
      have ev := strsD_ok e2 ra
      subst ev
      refine ⟨a, rfl, ⟨_, .inl (.inl ha)⟩, ?_⟩
      refine tSc_id (K := P.K) (P := Pr) (w := w) (i := i) (by rw [rs.len]; exact il) (.inl (.inl ha)) (by unfold scanBound; omega) fun D hD => ?_
      refine imp D _ _ upd_same fun o es ep t h1 h2 h3 h4 => ?_
      have ee : upd (upd H1 D (StO Pr w D (xs.foldl insT []))) D (.frz o (StO Pr w D (xs.foldl insT []))) = upd H1 D (.frz o (StO Pr w D (xs.foldl insT []))) := by
        funext b
        by_cases z : b = D
        · subst z; rw [upd_same, upd_same]
        · rw [upd_ne z, upd_ne z, upd_ne z]
      rw [ee]
      have nons : ∀ (l : List Str), Reps P (upd H1 D (.frz o (StO Pr w D (xs.foldl insT [])))) (L1.cell D) (l.map fun _ => V.non) (l.map fun _ => .non) := by
        intro l
        induction l with
        | nil => exact .nil
        | cons _ _ ih => exact .cons .non ih
      have a2 : St3 P (upd H1 D (.frz o (StO Pr w D (xs.foldl insT [])))) (L1.cell D) _ := s1.cell hD (m := .oth .st ((xs.foldl insT []).map fun z => [(Sum.inr z : Key)]) ((xs.foldl insT []).map fun _ => .non)) (.oth (vs := (xs.foldl insT []).map fun _ => V.non) (show OthO _ D .st _ _ from ⟨o, _, es, ep, t, upd_same, h1, h2, h3, by rw [List.length_map]; exact h4⟩) (by rw [List.length_map, List.length_map]) (nons _))
      exact q1 _ _ (Ext.cell s1 hD) a2 _ (.cell (cell_last s1))
end
end L3

namespace L3
open PySem PySem.Spec PySem.Calls PyProof.Rows L2 PySem.Froz
/-! ### {k: v for target in what is walked}: the new dict is a cell -/
def dcG (gd : Sto → Bool) (g : SG) (tk te : SE) (j : Nat) (ρ : Env) : List D → Sto → R D
  | [], μ => if gd μ = true then .ok (.cell j) μ else .bad
  | d :: ds, μ => if gd μ = true then (match g d ρ μ with
    | none => .bad
    | some ρ1 => (tk ρ1 μ).nox.bind fun q μ1 => (te ρ1 μ1).nox.bind fun y μ2 => match dcPut j q y μ2 with
      | some μ3 => dcG gd g tk te j ρ ds μ3
      | none => .bad) else .bad
def eDc (vs : List Nat) (fi : SI) (g : SG) (tk te : SE) : SE := fun ρ μ => (fi ρ μ).bind fun it μ1 => dcG it.2 g tk te μ1.length (wipeE ρ vs) it.1 (μ1 ++ [.dct [] []])
section
variable {P : Pm} {W : WX} {X : Cx} {sl : List Nat} {g : SG} {tk te : SE} {fi : SI} {H : Hp} {L : Lv} {μ : Sto} {gd : Sto → Bool}
theorem dcG_turns {vs : List Nat} {σ : L2.St} {Q : VK} {ρ : Env} {ds : List L3.D} {J : It} {p : Addr} (hsl : ∀ i ∈ sl, i ∈ vs) (rs1 : RelS P H L σ ρ) (s1 : St3 P H L μ)
    (q1 : Post P (WE W σ) L H (fun d L' H' => ∀ v, Rep P H' L' v d → Q v H') (dcG gd g tk te μ.length (wipeE ρ vs) ds (μ ++ [.dct [] []])))
    (gv : Gives P J ds gd L H) (hp : H p = none) :
    ∃ I : Nat → Nat → Hp → Prop, (∃ m, I 0 m (upd H p (.dK []))) ∧ ∀ i m H, I i m H →
      (J.stop i H ∧ Q (.ref p) H) ∨ (J.go i H ∧ ∃ Nx : Hp → Prop, (∀ H', Nx H' → ∃ m', m' < m ∧ I (i + 1) m' H') ∧ ∀ x H', J.yld i H x H' → tVG P sl g x (wipe σ vs) H' fun σ2 H2 => wipe σ2 vs = wipe σ vs ∧ tVT P W0 tYesS σ2 H2 fun b H3 =>
        if b = true then tV P W0 tk σ2 H3 fun y H4 => tV P W0 te σ2 H4 fun z H5 => ∃ kvs k, y = kV k ∧ H5 p = some (.dK kvs) ∧ kvs.length < sizeLine ∧ Nx (upd H5 p (.dK (putK kvs k z))) else Nx H3) := by
  have a1 : Ext P L H (L.cell p) (upd H p (.dK (([] : List Key).zip ([] : List V)))) := Ext.cell s1 hp
  have a2 : St3 P (upd H p (.dK (([] : List Key).zip ([] : List V)))) (L.cell p) (μ ++ [.dct [] []]) := s1.cell hp (.dct (ks := []) (vs := []) upd_same rfl .nil)
  have hpk : Rep P (upd H p (.dK [])) (L.cell p) (.ref p) (.cell μ.length) := .cell (cell_last s1)
  refine ⟨fun i m H => ∃ L μ2, RelS P H L (wipe σ vs) (wipeE ρ vs) ∧ St3 P H L μ2 ∧ Rep P H L (.ref p) (.cell μ.length) ∧ Post P (WE W σ) L H (fun d L' H' => ∀ v, Rep P H' L' v d → Q v H') (dcG gd g tk te μ.length (wipeE ρ vs) (ds.drop i) μ2) ∧ Gives P J ds gd L H ∧ m = ds.length - i,
    ⟨_, L.cell p, _, (rs1.ext a1).wipe vs, a2, hpk, Post.ext a1 q1, gv.ext a1.toExt0, rfl⟩, ?_⟩
  rintro i m H3 ⟨L3', μ3, rs3, s3, rp3, q3, gv3, rfl⟩
  cases e2 : ds[i]? with
  | none =>
    rw [drop_none e2] at q3
    unfold dcG at q3
    by_cases cg : gd μ3 = true
    case neg => rw [if_neg cg] at q3; exact q3.elim
    rw [if_pos cg] at q3
    exact .inl ⟨(gv3 _ _ _ i .refl s3 cg).2 e2, q3 _ _ .refl s3 _ rp3⟩
  | some d =>
    rw [drop_some e2] at q3
    unfold dcG at q3
    by_cases cg : gd μ3 = true
    case neg => rw [if_neg cg] at q3; exact q3.elim
    rw [if_pos cg] at q3
    obtain ⟨hgo, hy⟩ := (gv3 _ _ _ i .refl s3 cg).1 d e2
    have hlt : i < ds.length := (List.getElem?_eq_some_iff.mp e2).1
    refine .inr ⟨hgo, fun H => ∃ L μ2, RelS P H L (wipe σ vs) (wipeE ρ vs) ∧ St3 P H L μ2 ∧ Rep P H L (.ref p) (.cell μ.length) ∧ Post P (WE W σ) L H (fun d L' H' => ∀ v, Rep P H' L' v d → Q v H') (dcG gd g tk te μ.length (wipeE ρ vs) (ds.drop (i + 1)) μ2) ∧ Gives P J ds gd L H,
      fun H' ⟨L, μ2, b1, b2, b3, b4, b5⟩ => ⟨ds.length - (i + 1), by omega, L, μ2, b1, b2, b3, b4, b5, rfl⟩, fun x H4 y4 => ?_⟩
    obtain ⟨gr, rx⟩ := hy x H4 y4
    have x4 : Ext P L3' H3 L3' H4 := Ext.grow s3 gr
    cases e3 : g d (wipeE ρ vs) μ3 with
    | none => rw [e3] at q3; exact q3.elim
    | some ρ5 =>
      rw [e3] at q3
      dsimp only at q3
      refine ⟨L3', wipeE ρ vs, μ3, d, ρ5, rs3.ext x4, s3.grow gr, rx, e3, fun σ5 rs5 w5 => ⟨by rw [w5 vs hsl, wipe_wipe], ?_⟩⟩
      refine ⟨L3', ρ5, μ3, rs5, s3.grow gr, ?_⟩
      intro L6 H6 x6 s6
      dsimp only
      rw [if_pos rfl]
      refine ⟨L6, ρ5, μ3, rs5.ext x6, s6, ?_⟩
      have q6 := Post.ext (x4.trans x6) q3
      cases e7 : tk ρ5 μ3 with
      | exc _ _ _ _ => rw [e7] at q6; exact q6.elim
      | bad => rw [e7] at q6; exact q6.elim
      | ok kd μ7 =>
        rw [e7] at q6
        have q6 : Post P (WE W σ) L6 H6 (fun d L' H' => ∀ v, Rep P H' L' v d → Q v H') ((te ρ5 μ7).nox.bind fun y μ2 => match dcPut μ.length kd y μ2 with
          | some μ3 => dcG gd g tk te μ.length (wipeE ρ vs) (ds.drop (i + 1)) μ3
          | none => .bad) := q6
        intro L7 H7 x7 s7 kv rkv
        refine ⟨L7, ρ5, μ7, (rs5.ext x6).ext x7, s7, ?_⟩
        have q7 := Post.ext x7 q6
        cases e8 : te ρ5 μ7 with
        | exc _ _ _ _ => rw [e8] at q7; exact q7.elim
        | bad => rw [e8] at q7; exact q7.elim
        | ok yd μ8 =>
          rw [e8] at q7
          have q7 : Post P (WE W σ) L7 H7 (fun d L' H' => ∀ v, Rep P H' L' v d → Q v H') (match dcPut μ.length kd yd μ8 with
            | some μ3 => dcG gd g tk te μ.length (wipeE ρ vs) (ds.drop (i + 1)) μ3
            | none => .bad) := q7
          intro L8 H8 x8 s8 yv ryv
          have q8 := Post.ext x8 q7
          cases e9 : dcPut μ.length kd yd μ8 with
          | none => rw [e9] at q8; exact q8.elim
          | some μ9 =>
            rw [e9] at q8
            have xx : Ext P L3' H3 L8 H8 := ((x4.trans x6).trans x7).trans x8
            obtain ⟨kvs, k, ek, hD, hl, x9, s9⟩ := dcPut_ok s8 (rp3.ext xx) (rkv.ext x8) ryv e9
            have xx9 := xx.trans x9
            exact ⟨kvs, k, ek, hD, hl, L8, μ9, rs3.ext xx9, s9, rp3.ext xx9, Post.ext x9 q8, gv3.ext xx9.toExt0⟩
theorem tDc_of {vs : List Nat} {σ : L2.St} {Q : VK} (hsl : ∀ i ∈ sl, i ∈ vs) (h : tV P W (eDc vs fi g tk te) σ H Q) : tDc (tVI P W fi) (tVG P sl g) (tVT P W0 tYesS) (tV P W0 tk) (tV P W0 te) vs σ H Q := by
  obtain ⟨L, ρ, μ, rs, st, q⟩ := h
  refine ⟨L, ρ, μ, rs, st, ?_⟩
  unfold eDc at q
  cases e : fi ρ μ with
  | exc c ns vs μ1 => rw [e] at q; exact q
  | bad => rw [e] at q; exact q
  | ok it μ1 =>
    rw [e] at q
    intro L1 H1 x1 s1 J gv p hp
    exact dcG_turns (W := W) hsl (rs.ext x1) s1 (Post.ext x1 q) gv hp
theorem ve_dc {tg iter kx vx : Expr} {scope : Scope} {own : List (Str × Nat)} {pos : Pos} (hc : X.calm = true) (hN : X.N.Nodup) (hi : VI P W X tg iter fi) (ok : BlkOk X.N X.env.scope scope own)
    (hg : ∀ (s : Shared) (H : Hp) (C : Addr) (cl : List (Str × Addr)) (fp : List Addr), VG P (X.blk s H scope (compEnvC scope cl C X.env) fp) tg sl g)
    (hk : ∀ (s : Shared) (H : Hp) (C : Addr) (cl : List (Str × Addr)) (fp : List Addr), VE P W0 (X.blk s H scope (compEnvC scope cl C X.env) fp) kx tk)
    (he : ∀ (s : Shared) (H : Hp) (C : Addr) (cl : List (Str × Addr)) (fp : List Addr), VE P W0 (X.blk s H scope (compEnvC scope cl C X.env) fp) vx te) (hsl : ∀ i ∈ sl, i ∈ own.map (·.2) := by decide)
    (hs : ∀ z, foldedSetIterable iter X.env z = pure z := by intro _; rfl) :
    VE P W X (.DictComp kx vx [⟨tg, iter, [], 0⟩] scope pos) (eDc (own.map (·.2)) fi g tk te) :=
  (pe_dc (pos := pos) hc hN hi ok hg (fun _ _ _ _ _ => (vts_nil : PTs _ [] (tVT P W0 tYesS))) hk he hs).imp3 fun σ H Q q => tDc_of hsl q
/-- name = .., where the name is stored ahead of the block's end -/
theorem tV_set {i : Nat} {f : SE} {D : Ends} {σ : L2.St} (h : tS P W (sSet i f) D σ H) : tV P W f σ H fun x H1 => gName i x σ H1 D.nx := by
  obtain ⟨L, ρ, μ, rs, st, q⟩ := h
  refine ⟨L, ρ, μ, rs, st, ?_⟩
  have q : PostS P W D L H ((f ρ μ).thn ρ fun d μ1 => .nx (ρ.set i (some d)) μ1) := q
  cases e : f ρ μ with
  | bad => rw [e] at q; exact q.elim
  | exc c ns vs μ1 =>
    rw [e] at q
    exact fun C dx L' H' hc x s f => q σ C dx L' H' hc x s (rs.ext x) f
  | ok d μ1 =>
    rw [e] at q
    exact fun L' H' x s v rv => q _ L' H' x s ((rs.ext x).set rv)
theorem sw_trueS {ex : Expr} {gs : List Comprehension} {scope : Scope} {pos py : Pos} {y : Str} {l : Nat} {env : PySem.Env} (hk : env.scope.kind = .function) (hy : env.scope.names.lookup y = some .local) (hl : (py.line == pos.line) = true)
    (ha : (scope.names.any fun (n, k) => n == y && (k == .local || k == .cell)) = false) : swapsWith (.SetComp ex gs scope pos) (some (.Name y py)) l env = pure true := by
  have ky : env.kindOf y = some .local := hy
  have hb : env.blockKind = .function := by unfold Env.blockKind; rw [hk]; rfl
  unfold swapsWith; simp only [hb, ky, ha, Expr.pos, hl]; rfl
/-- names = {..}, of texts -/
theorem ps_setSc {i : Nat} {y : Str} {py spos pos : Pos} {ex tg iter : Expr} {ifs : List Expr} {scope : Scope} {own : List (Str × Nat)} {wi : TI} {g : TG} {tt : TT} {te : TE} (hc : X.calm = true) (hN : X.N.Nodup) (hy : X.N[i]? = some y) (hyl : X.env.scope.names.lookup y = some .local)
    (hsw : swapsWith (.SetComp ex [⟨tg, iter, ifs, 0⟩] scope pos) (some (.Name y py)) spos.line X.env = pure true) (hi : PI X tg iter wi) (ok : BlkOk X.N X.env.scope scope own)
    (hg : ∀ (s : Shared) (H : Hp) (C : Addr) (cl : List (Str × Addr)) (fp : List Addr), PG (X.blk s H scope (compEnvC scope cl C X.env) fp) tg g)
    (ht : ∀ (s : Shared) (H : Hp) (C : Addr) (cl : List (Str × Addr)) (fp : List Addr), PTs (X.blk s H scope (compEnvC scope cl C X.env) fp) ifs tt)
    (he : ∀ (s : Shared) (H : Hp) (C : Addr) (cl : List (Str × Addr)) (fp : List Addr), PE (X.blk s H scope (compEnvC scope cl C X.env) fp) ex te)
    (fold : ∀ x, foldedSetIterable iter X.env x = pure x := by intro _; rfl) : PS X (.Assign [.Name y py] (.SetComp ex [⟨tg, iter, ifs, 0⟩] scope pos) spos) (tAsg (tSc X.prog X.w wi g tt te (own.map (·.2))) (gName i)) := by
  refine ⟨fun pins s σ H De I h => ?_⟩
  rw [exec_Assign_Name_used _ _ _ _ hsw]
  refine wpAny_bind (wpAny_standAt (wpAny_bind ?_)); show wpAny _ X.A (do let _ ← comprehension (.SetComp ex [⟨tg, iter, ifs, 0⟩] scope pos) scope X.env (firstIterPos [⟨tg, iter, ifs, 0⟩] pos) (newSet (.type "set")) false (eval iter X.env) (some (assign (.Name y py) X.env))) _ _ s
  have h : tSc X.prog X.w wi g tt te (own.map (·.2)) σ H (fun x H1 => gName i x σ H1 De.nx) := h
  refine wpAny_bind (thn (sc_core (Qf := fun _ s' => SP X pins De .next s') hc hN I hi ok hg ht he fold h fun N C s' m H' I' q hn f => ?_) fun _ s' hq => wpAny_pure (wpAny_pure hq))
  show wpAny _ _ (assign (.Name y py) X.env (.ref N)) _ _ _; refine wpAny_assign_Name (store_ok2 (v := V.ref N) I' hN hy (.inl hyl) rfl (fun s2 I2 ⟨a, sb, ha⟩ => ?_) (.inr hyl))
  obtain ⟨f0, f1, f2, f3, f4, f5⟩ := f
  refine ⟨m, hn.sameBut sb (by
    rcases ha with z | z
    · rw [z]; exact f1
    · exact fun e => f4 y a z e.symm), fun h3 sb3 => ?_⟩
  exact ⟨_, H', I2.turned (t' := s2.toks) (fun b o hb e => (sb3.2 b hb).trans e) f0 f1 f3 f4 f5, q⟩
theorem ps_scF {i : Nat} {st : Stmt} {t : TE} (he : PS X st (tAsg t (gName i))) : PS X st (fun De σ H => t σ H fun x H1 => ∃ D l, H1 D = some (StO X.prog X.w D l) ∧ ∀ (o : Obj) (es : Array (Int × Value)) (ep : Nat) (t : SetTable), o.ExactSet → o.data = .set es ep t → t.fits es.size = true → es.size = l.length → De.nx (σ.set i (some x)) (upd H1 D (.frz o (StO X.prog X.w D l)))) := ⟨fun pins s σ H De I h => by
  refine thn (he.run pins s σ H ⟨fun σ' H1 => ∃ D l, H1 D = some (StO X.prog X.w D l) ∧ ∀ (o : Obj) (es : Array (Int × Value)) (ep : Nat) (t : SetTable), o.ExactSet → o.data = .set es ep t → t.fits es.size = true → es.size = l.length → De.nx σ' (upd H1 D (.frz o (StO X.prog X.w D l))), fun _ _ => False, fun _ _ => False, fun _ _ => False⟩ I h) fun fl s1 z => ?_
  cases fl with
  | next =>
    obtain ⟨σ', H1, I1, D, l, hD, q⟩ := z
    obtain ⟨od, I2⟩ := I1.lock hD trivial
    have z := I2.hok D _ upd_same
    obtain ⟨g1, z2⟩ : s1.heap.get? D = some od ∧ _ := z
    have R : StR X.prog X.w s1.heap D l := stO_at I1 hD
    obtain ⟨SD, g2, tx, _⟩ := R.ex
    have eo : od = sObj "set" SD := Option.some.inj (g1.symm.trans g2)
    obtain ⟨es, ep, t⟩ := SD
    subst eo
    exact ⟨σ', _, I2, q _ es ep t ⟨rfl, rfl, rfl⟩ rfl tx.fit tx.sz⟩
  | brk => obtain ⟨_, _, _, q⟩ := z; exact q.elim
  | cont => obtain ⟨_, _, _, q⟩ := z; exact q.elim
  | ret u => obtain ⟨_, _, _, _, _, q⟩ := z; exact q.elim⟩
theorem vs_setSc {f : SE} {y z : Str} {i j : Nat} {iter : Expr} {scope : Scope} {p1 p2 cpos py spos : Pos} (calm : X.calm = true) (nd : X.N.Nodup) (hj : X.N[j]? = some z) (hzl : X.env.scope.names.lookup z = some .local)
    (hsw : swapsWith (.SetComp (.Name y p1) [⟨.Name y p2, iter, [], 0⟩] scope cpos) (some (.Name z py)) spos.line X.env = pure true) (hK : P.K = X.K) (h : VE P W X iter f) (ok : BlkOk X.N X.env.scope scope [(y, i)]) (hi : X.N[i]? = some y)
    (hloc : ∀ (s : Shared) (H : Hp) (C : Addr) (cl : List (Str × Addr)) (fp : List Addr), Loc (X.blk s H scope (compEnvC scope cl C X.env) fp).env.scope y)
    (hfn : ∀ (s : Shared) (H : Hp) (C : Addr) (cl : List (Str × Addr)) (fp : List Addr), (X.blk s H scope (compEnvC scope cl C X.env) fp).fn y = true ∨ (X.blk s H scope (compEnvC scope cl C X.env) fp).env.scope.names.lookup y = some .local)
    (hvis : ∀ (s : Shared) (H : Hp) (C : Addr) (cl : List (Str × Addr)) (fp : List Addr), Vis (X.blk s H scope (compEnvC scope cl C X.env) fp).env.scope y) (d1 : (y == ("__debug__" : Str)) = false) (d2 : (y == ("__classdict__" : Str)) = false)
    (fold : ∀ x, foldedSetIterable iter X.env x = pure x := by intro _; rfl) :
    VS P W X (.Assign [.Name z py] (.SetComp (.Name y p1) [⟨.Name y p2, iter, [], 0⟩] scope cpos) spos) (sSet j (eIdx i (eU dSetC f))) := by
  have ps := ps_setSc (X := X) (ex := .Name y p1) (tg := .Name y p2) (ifs := []) (pos := cpos) (own := [(y, i)]) calm nd hj hzl hsw (pi_list h) ok (fun s H C cl fp => pg_name (i := i) nd hi (hloc s H C cl fp) (hfn s H C cl fp)) (fun _ _ _ _ _ => pts_nil)
    (fun s H C cl fp => pe_var (i := i) hi (hvis s H C cl fp) d1 d2) fold
  refine (ps_scF ps).imp3 fun De σ H q => ?_
  have z := tSc_of (Pr := X.prog) (w := X.w) (Q' := fun x H1 => ∃ D l, H1 D = some (StO X.prog X.w D l) ∧ ∀ (o : Obj) (es : Array (Int × Value)) (ep : Nat) (t : SetTable), o.ExactSet → o.data = .set es ep t → t.fits es.size = true → es.size = l.length → De.nx (σ.set j (some x)) (upd H1 D (.frz o (StO X.prog X.w D l)))) (fun N l H1 e q => ⟨N, l, e, q⟩) (tV_set q)
  rw [hK] at z
  exact z
end
/-! ### xs[i:] = ys -/
section
variable {prog : Program} {w : World} {A : Around} {E : Value → Shared → Prop} {s : Shared}
set_option maxRecDepth 100000 in
end
section
variable {X : Cx}
end
/-- .. of a cell; what is put in is a list of its own -/
def setTail (k : Nat) (z : Int) (d : D) (μ : Sto) : Option Sto := match μ[k]?, d with
  | some (.lst xs), .lst ys => if 0 ≤ z ∧ z ≤ xs.length ∧ xs.length + ys.length ≤ sizeLine then some (μ.set k (.lst (xs.take z.toNat ++ ys))) else none
  | _, _ => none
def sTail (fe fo fi : SE) : SS := fun ρ μ => (fe ρ μ).thn ρ fun d μ1 => (fo ρ μ1).thn ρ fun o μ2 => (fi ρ μ2).thn ρ fun i μ3 => match o, i with
  | .cell k, .int z => (match setTail k z d μ3 with
    | some μ4 => .nx ρ μ4
    | none => .bad)
  | _, _ => .bad
section
variable {P : Pm} {W : WX} {X : Cx} {pos p2 p3 : Pos} {o i e : Expr} {fe fo fi : SE}
end
end L3

namespace L3
open PySem PySem.Spec PySem.Calls PyProof.Rows L2
/-! ### {} as a cell; what is asked of LZV and LZW from behind -/
def eNewDC : SE := fun _ μ => .ok (.cell μ.length) (μ ++ [.dct [] []])
section
variable {P : Pm} {W : WX} {X : Cx} {pos : Pos}
theorem ve_newDC : VE P W X (.Dict [] [] pos) eNewDC :=
  pe_dnewK.imp3 fun σ H Q ⟨L, ρ, μ, rs, st, q⟩ => fun p hp => by
    have a1 : Ext P L H (L.cell p) (upd H p (.dK (([] : List Key).zip ([] : List V)))) := Ext.cell st hp
    have a2 : St3 P (upd H p (.dK (([] : List Key).zip ([] : List V)))) (L.cell p) (μ ++ [.dct [] []]) := st.cell hp (.dct (ks := []) (vs := []) upd_same rfl .nil)
    exact q _ _ a1 a2 _ (.cell (cell_last st))
end
section
variable {Q : D → Sto → Prop} {E : Exs} {ρ : Env} {μ : Sto} {fi : SI} {g : SG} {tk te fe fo fl : SE} {gd : Sto → Bool} {N B C : Env → Sto → Prop} {T : D → Sto → Prop} {s : SS}
theorem wp_newDC (q : Q (.cell μ.length) (μ ++ [.dct [] []])) : (eNewDC ρ μ).wp Q E := q
theorem wp_idx {i : Nat} {f : SE} (h : i < ρ.length) (q : (f ρ μ).wp Q E) : (eIdx i f ρ μ).wp Q E := by unfold eIdx; rw [if_pos h]; exact q
theorem wp_setC {d : D} {xs : List Str} (h : txsL μ d = some xs) (hl : xs.length ≤ 2000) (q : Q (.cell μ.length) (μ ++ [.oth .st ((xs.foldl insT []).map fun z => [(Sum.inr z : Key)]) ((xs.foldl insT []).map fun _ => .non)])) : (dSetC d μ).wp Q E := by
  unfold dSetC
  rw [h]
  dsimp only
  rw [if_pos hl]
  exact q
theorem wp_lenSt {k : Nat} {ks : List (List Key)} {vs : List D} (h : μ[k]? = some (.oth .st ks vs)) (hl : ks.length ≤ 2000) (q : Q (.int ks.length) μ) : (dLenSt (.cell k) μ).wp Q E := by
  unfold dLenSt
  dsimp only
  rw [h]
  dsimp only
  rw [if_pos hl]
  exact q
theorem wp_dc {vs : List Nat} (h : (fi ρ μ).wp (fun it μ1 => (dcG it.2 g tk te μ1.length (wipeE ρ vs) it.1 (μ1 ++ [.dct [] []])).wp Q E) E) : (eDc vs fi g tk te ρ μ).wp Q E := wp_bind h
/-- a dict comprehension by its invariant of the items that are left -/
theorem wp_dcG {j : Nat} {ds : List D} (I : List D → Sto → Prop) (h0 : I ds μ) (hn : ∀ μ, I [] μ → gd μ = true ∧ Q (.cell j) μ)
    (hs : ∀ d ds μ, I (d :: ds) μ → gd μ = true ∧ ∃ ρ1, g d ρ μ = some ρ1 ∧ (tk ρ1 μ).wp (fun q μ1 => (te ρ1 μ1).wp (fun y μ2 => ∃ μ3, dcPut j q y μ2 = some μ3 ∧ I ds μ3) noE) noE) : (dcG gd g tk te j ρ ds μ).wp Q E := by
  induction ds generalizing μ with
  | nil =>
    obtain ⟨h1, h2⟩ := hn μ h0
    unfold dcG
    rw [if_pos h1]
    exact h2
  | cons d ds ih =>
    obtain ⟨h1, ρ1, h2, h3⟩ := hs d ds μ h0
    unfold dcG
    rw [if_pos h1, h2]
    dsimp only
    refine wp_bind (wp_nox (wp_mono h3 (fun q μ1 z => wp_bind (wp_nox (wp_mono z (fun y μ2 ⟨μ3, e, i⟩ => ?_) fun _ _ _ _ z => z))) fun _ _ _ _ z => z))
    rw [e]
    exact ih i
theorem dcPut_new {j : Nat} {q : D} {y : D} {k : Key} {ks : List Key} {ds : List D} (h : μ[j]? = some (.dct ks ds)) (hk : keyD q = some k) (hl : ks.length < sizeLine) : dcPut j q y μ = some (μ.set j (putD ks ds k y)) := by
  unfold dcPut
  rw [h, hk]
  dsimp only
  rw [if_pos hl]
theorem wp_sTail (h : (fe ρ μ).wp (fun d μ1 => (fo ρ μ1).wp (fun o μ2 => (fl ρ μ2).wp (fun i μ3 => ∃ k z xs ys, o = .cell k ∧ i = .int z ∧ d = .lst ys ∧ μ3[k]? = some (.lst xs) ∧ (0 ≤ z ∧ z ≤ xs.length ∧ xs.length + ys.length ≤ sizeLine) ∧ N ρ (μ3.set k (.lst (xs.take z.toNat ++ ys)))) E) E) E) : (sTail fe fo fl ρ μ).wp N T B C E :=
  wp_thn (wp_mono h (fun d μ1 z => wp_thn (wp_mono z (fun o μ2 z => wp_thn (wp_mono z (fun i μ3 ⟨k, z, xs, ys, e1, e2, e3, e4, c, q⟩ => by
    subst e1 e2 e3
    dsimp only
    unfold setTail
    rw [e4]
    dsimp only
    rw [if_pos c]
    exact q) fun _ _ _ _ z => z)) fun _ _ _ _ z => z)) fun _ _ _ _ z => z)
theorem wp_seqTail (h : (sTail fe fo fl ρ μ).wp (fun ρ1 μ1 => (s ρ1 μ1).wp N T B C E) T B C E) : (sSeq (sTail fe fo fl) s ρ μ).wp N T B C E := wp_sSeq h
end
end L3

namespace L3
open PySem PySem.Spec PySem.Calls PyProof.Rows L2
section
variable {P : Pm} {X : Cx}
end
end L3

/-! ### sorted of tuples of two ints and a text -/
namespace L3
open PySem PySem.Spec PySem.Calls PyProof.Rows L2
section
open SrtO Srt
variable {prog : Program} {w : World} {A : Around} {s : Shared}
end
end L3

/-! ### dicts whose keys are tuples -/
namespace L3
open PySem PySem.Spec PySem.Calls PyProof.Rows L2
abbrev TK := List Key
def tkeysD : List D → Option TK
  | [] => some []
  | d :: r => match keyD d, tkeysD r with
    | some k, some ks => some (k :: ks)
    | _, _ => none
def keyT : D → Option TK
  | .tup ds => tkeysD ds
  | .key k => some k
  | _ => none
def tctAt (μ : Sto) : D → Option (List TK × List D)
  | .cell k => match μ[k]? with
    | some (.oth .tt ks ds) => some (ks, ds)
    | _ => none
  | _ => none
def valT : List TK → List D → TK → Option D
  | [], _, _ => none
  | k :: ks, d :: ds, q => if k = q then some d else valT ks ds q
  | _ :: _, [], _ => none
def hasT (ks : List TK) (q : TK) : Bool := ks.any fun k => decide (k = q)
def setT : List TK → List D → TK → D → List D
  | k :: ks, d :: ds, q, e => (if k = q then e else d) :: setT ks ds q e
  | _, _, _, _ => []
def putT (ks : List TK) (ds : List D) (q : TK) (e : D) : MO := if hasT ks q = true then .oth .tt ks (setT ks ds q e) else .oth .tt (ks ++ [q]) (ds ++ [e])
section
variable {P : Pm} {H : Hp} {L : Lv} {μ : Sto}
theorem tct_cell {k : Nat} {ks : List TK} {ds : List D} (h : μ[k]? = some (.oth .tt ks ds)) : tctAt μ (.cell k) = some (ks, ds) := by
  unfold tctAt; dsimp only; rw [h]
end
/-! {} , d[t], d.get(t, z) -/
def eNewDT : SE := fun _ μ => .ok (.cell μ.length) (μ ++ [.oth .tt [] []])
section
variable {X : Cx} {pins : List (Addr × Obj)} {σ : L2.St} {H : Hp} {s : Shared} {a b : Addr} {y v d : V} {u r : Value} {o : Option V} {A : Around} {E : Value → Shared → Prop} {k : TK}
end
section
variable {X : Cx} {o i e f : Expr} {td ty tx : TE} {pos apos cpos : Pos}
end
def dTget (o i z : D) (μ : Sto) : R D := match tctAt μ o, keyT i with
  | some (ks, ds), some q => .ok ((valT ks ds q).getD z) μ
  | _, _ => .bad
def eTget2 (fo fi fz : SE) : SE := fun ρ μ => (fo ρ μ).bind fun o μ1 => match tctAt μ1 o with
  | some _ => (fi ρ μ1).bind fun i μ2 => (fz ρ μ2).bind fun z μ3 => dTget o i z μ3
  | none => .bad
section
variable {P : Pm} {W : WX} {X : Cx} {o i z e : Expr} {fo fi fz fe : SE} {pos apos cpos : Pos}
end
end L3

/-! ### d[(..)] = e; list(d), sorted(list of tuples) -/
namespace L3
open PySem PySem.Spec PySem.Calls PyProof.Rows L2
def eKey (fa : SA) : SE := fun ρ μ => (fa ρ μ).bind fun ds μ1 => if ds.length ≤ 100 then (match tkeysD ds with
  | some k => .ok (.key k) μ1
  | none => .bad) else .bad
def sKput (fe fo fi : SE) : SS := fun ρ μ => (fe ρ μ).thn ρ fun d μ1 => (fo ρ μ1).thn ρ fun o μ2 => (fi ρ μ2).thn ρ fun i μ3 => match o, tctAt μ3 o, i with
  | .cell c, some (ks, ds), .key q => if ks.length < 100000 then .nx ρ (μ3.set c (putT ks ds q d)) else .bad
  | _, _, _ => .bad
section
variable {P : Pm} {W : WX} {X : Cx} {pos apos : Pos} {es : List Expr} {fa : SA} {e o i : Expr} {fe fo fi : SE}
end
section
variable {P : Pm} {H : Hp} {L : Lv} {μ : Sto}
end
end L3

/-! ### d.pop(k, z); rules for what LFA and LFB tell -/
namespace L3
open PySem PySem.Spec PySem.Calls PyProof.Rows L2
def dropKs (ks : List Key) (q : Key) : List Key := ks.filter fun k => decide (k ≠ q)
def dropVs : List Key → List D → Key → List D
  | k :: ks, d :: ds, q => if k = q then dropVs ks ds q else d :: dropVs ks ds q
  | _, _, _ => []
section
variable {P : Pm} {H : Hp} {L : Lv} {μ : Sto}
end
def dDpop (o i z : D) (μ : Sto) : R D := match o, dctAt μ o, keyD i with
  | .cell c, some (ks, ds), some q => (match valD ks ds q with
    | some d => .ok d (μ.set c (.dct (dropKs ks q) (dropVs ks ds q)))
    | none => .ok z μ)
  | _, _, _ => .bad
def eDpop2 (fo fi fz : SE) : SE := fun ρ μ => (fo ρ μ).bind fun o μ1 => match dctAt μ1 o with
  | some _ => (fi ρ μ1).bind fun i μ2 => (fz ρ μ2).bind fun z μ3 => dDpop o i z μ3
  | none => .bad
section
variable {P : Pm} {W : WX} {X : Cx} {o i z : Expr} {fo fi fz : SE} {apos cpos : Pos}
end
/-! list(range(..)) -/
def RgB (a b : Int) : Prop := -1000 ≤ a ∧ a ≤ 100000 ∧ -1000 ≤ b ∧ b ≤ 100000
instance (a b : Int) : Decidable (RgB a b) := by unfold RgB; infer_instance
def lstRg (a b : Int) : D := .lst ((List.range (b - a).toNat).map fun i => D.int (a + (i : Nat)))
def eLRg1 (f : SE) : SE := fun ρ μ => (f ρ μ).bind fun d μ1 => match d with
  | .int n => if RgB 0 n then .ok (lstRg 0 n) μ1 else .bad
  | _ => .bad
def eLRg2 (f g : SE) : SE := fun ρ μ => (f ρ μ).bind fun d μ1 => (g ρ μ1).bind fun e μ2 => match d, e with
  | .int a, .int b => if RgB a b then .ok (lstRg a b) μ2 else .bad
  | _, _ => .bad
theorem RgB.ok {a b : Int} (h : RgB a b) : RgOk a b := by
  obtain ⟨h1, h2, h3, h4⟩ := h
  exact ⟨by omega, by omega, by omega, by omega, by omega⟩
section
variable {P : Pm} {W : WX} {X : Cx} {a b : Expr} {fa fb : SE} {p p2 pos pos2 : Pos}
end
section
variable {Q : D → Sto → Prop} {E : Exs} {ρ : Env} {μ : Sto} {f g : SE}
theorem wp_lRg1 (h : (f ρ μ).wp (fun d μ1 => ∃ n, d = .int n ∧ RgB 0 n ∧ Q (lstRg 0 n) μ1) E) : (eLRg1 f ρ μ).wp Q E :=
  wp_bind (wp_mono h (fun d μ1 ⟨n, e, c, q⟩ => by subst e; dsimp only; rw [if_pos c]; exact q) fun _ _ _ _ z => z)
theorem wp_lRg2 (h : (f ρ μ).wp (fun d μ1 => (g ρ μ1).wp (fun e μ2 => ∃ a b, d = .int a ∧ e = .int b ∧ RgB a b ∧ Q (lstRg a b) μ2) E) E) : (eLRg2 f g ρ μ).wp Q E :=
  wp_bind (wp_mono h (fun d μ1 z => wp_bind (wp_mono z (fun e μ2 ⟨a, b, e1, e2, c, q⟩ => by subst e1; subst e2; dsimp only; rw [if_pos c]; exact q) fun _ _ _ _ z => z)) fun _ _ _ _ z => z)
end
/-! wp rules -/
section
variable {Q : D → Sto → Prop} {E : Exs} {ρ : Env} {μ : Sto} {fe fo fi fz : SE} {fa : SA} {ks : List TK} {ds : List D} {N B C : Env → Sto → Prop} {T : D → Sto → Prop} {k : Nat} {q : TK} {g : SS}
theorem wp_newDT (h : Q (.cell μ.length) (μ ++ [.oth .tt [] []])) : (eNewDT ρ μ).wp Q E := h
theorem wp_tget2 (h : (fo ρ μ).wp (fun o μ1 => (∃ kd, tctAt μ1 o = some kd) ∧ (fi ρ μ1).wp (fun i μ2 => (fz ρ μ2).wp (fun z μ3 => (dTget o i z μ3).wp Q E) E) E) E) : (eTget2 fo fi fz ρ μ).wp Q E :=
  wp_bind (wp_mono h (fun o μ1 ⟨⟨kd, e⟩, q⟩ => by
    rw [e]
    exact wp_bind (wp_mono q (fun i μ2 q => wp_bind q) fun _ _ _ _ z => z)) fun _ _ _ _ z => z)
theorem wp_dpop2 (h : (fo ρ μ).wp (fun o μ1 => (∃ kd, dctAt μ1 o = some kd) ∧ (fi ρ μ1).wp (fun i μ2 => (fz ρ μ2).wp (fun z μ3 => (dDpop o i z μ3).wp Q E) E) E) E) : (eDpop2 fo fi fz ρ μ).wp Q E :=
  wp_bind (wp_mono h (fun o μ1 ⟨⟨kd, e⟩, q⟩ => by
    rw [e]
    exact wp_bind (wp_mono q (fun i μ2 q => wp_bind q) fun _ _ _ _ z => z)) fun _ _ _ _ z => z)
theorem wp_key (h : (fa ρ μ).wp (fun ds μ1 => ds.length ≤ 100 ∧ ∃ k, tkeysD ds = some k ∧ Q (.key k) μ1) E) : (eKey fa ρ μ).wp Q E :=
  wp_bind (wp_mono h (fun ds μ1 ⟨l, k, e, q⟩ => by
    rw [if_pos l, e]
    exact q) fun _ _ _ _ z => z)
theorem wp_sKput (h : (fe ρ μ).wp (fun d μ1 => (fo ρ μ1).wp (fun o μ2 => (fi ρ μ2).wp (fun i μ3 => ∃ c ks ds q, o = .cell c ∧ μ3[c]? = some (.oth .tt ks ds) ∧ i = .key q ∧ ks.length < 100000 ∧ N ρ (μ3.set c (putT ks ds q d))) E) E) E) : (sKput fe fo fi ρ μ).wp N T B C E := by
  unfold sKput
  refine wp_thn (wp_mono h (fun d μ1 z => wp_thn (wp_mono z (fun o μ2 z => wp_thn (wp_mono z (fun i μ3 z => ?_) fun _ _ _ _ z => z)) fun _ _ _ _ z => z)) fun _ _ _ _ z => z)
  obtain ⟨c, ks, ds, q, rfl, h1, rfl, h3, h4⟩ := z
  rw [tct_cell h1]
  dsimp only
  rw [if_pos h3]
  exact h4
theorem wp_seqKput (h : (sKput fe fo fi ρ μ).wp (fun ρ1 μ1 => (g ρ1 μ1).wp N T B C E) T B C E) : (sSeq (sKput fe fo fi) g ρ μ).wp N T B C E := wp_sSeq h
end
end L3

/-! ### what a def gives back, without the cells that it made: all is seen as data, what was made is forgotten -/
namespace L3
open PySem PySem.Spec PySem.Calls PyProof.Rows L2
mutual
def oldD (n : Nat) : D → Bool
  | .cell k => decide (k < n)
  | .lst xs => oldL n xs
  | .tup xs => oldL n xs
  | .dct _ xs => oldL n xs
  | .obj _ _ xs => oldL n xs
  | _ => true
def oldL (n : Nat) : List D → Bool
  | [] => true
  | d :: r => oldD n d && oldL n r
end
section
variable {P : Pm} {H H' : Hp} {L L' : Lv} {μ μ' : Sto}
theorem has_up (x : Ext P L H L' H') {a : Addr} (n : ¬ L'.has a) : ¬ L.has a := fun h => n (by
  rcases h with h | h
  · obtain ⟨i, hi⟩ := List.getElem?_of_mem h
    exact .inl (List.mem_of_getElem? (x.pre i a hi))
  · exact .inr (by rw [x.px]; exact h))
theorem cell_low (x : Ext P L H L' H') {k : Nat} {a : Addr} (h : L'.c[k]? = some a) (hk : k < L.c.length) : L.c[k]? = some a := by
  have e : L.c[k]? = some L.c[k] := List.getElem?_eq_getElem hk
  have := x.pre k _ e
  rw [h] at this
  rw [e, Option.some.inj this]
theorem TupAt.cut (x : Ext P L H L' H') {a : Addr} {vs : List V} (h : TupAt P H' L' a vs) : TupAt P H' L a vs := by
  rcases h with ⟨h, n⟩ | h
  · exact .inl ⟨h, has_up x n⟩
  · exact .inr h
theorem ScrAt.cut (x : Ext P L H L' H') {a : Addr} {vs : List V} (h : ScrAt P H' L' a vs) : ScrAt P H' L a vs := by
  rcases h with ⟨h, n⟩ | h
  · exact .inl ⟨h, has_up x n⟩
  · exact .inr h
mutual
theorem Rep.cut (x : Ext P L H L' H') : ∀ {v : V} {d : D}, Rep P H' L' v d → oldD L.c.length d = true → Rep P H' L v d
  | _, _, .non, _ => .non
  | _, _, .bl b, _ => .bl b
  | _, _, .int i, _ => .int i
  | _, _, .str s, _ => .str s
  | _, _, .lst h n r, o => .lst h (has_up x n) (Reps.cut x r o)
  | _, _, .tup h r, o => .tup (h.cut x) (Reps.cut x r o)
  | _, _, .dct h n l r, o => .dct h (has_up x n) l (Reps.cut x r o)
  | _, _, .obj h hc n l r, o => .obj h hc (has_up x n) l (Reps.cut x r o)
  | _, _, .cell h, o => .cell (cell_low x h (of_decide_eq_true o))
  | _, _, .scr h, _ => .scr (h.cut x)
  | _, _, .key h n, _ => .key h (has_up x n)
theorem Reps.cut (x : Ext P L H L' H') : ∀ {vs : List V} {ds : List D}, Reps P H' L' vs ds → oldL L.c.length ds = true → Reps P H' L vs ds
  | _, _, .nil, _ => .nil
  | _, _, .cons h r, o => by
    have o : (oldD L.c.length _ && oldL L.c.length _) = true := o
    obtain ⟨o1, o2⟩ := Bool.and_eq_true_iff.mp o
    exact .cons (Rep.cut x h o1) (Reps.cut x r o2)
end
end
end L3

/-! ### {k: v for x in d}, d a dict that is a cell: while it is walked it is seen as data, and its place is the new dict's -/
namespace L3
open PySem PySem.Spec PySem.Calls PyProof.Rows L2
mutual
def plnD : D → Bool
  | .cell _ => false
  | .lst xs => plnL xs
  | .tup xs => plnL xs
  | .dct _ _ => false
  | .obj _ _ _ => false
  | _ => true
def plnL : List D → Bool
  | [] => true
  | d :: r => plnD d && plnL r
end
def plnM : MO → Bool
  | .lst xs => plnL xs
  | .dct _ xs => plnL xs
  | _ => false
section
variable {P : Pm} {H H2 : Hp} {L L2 : Lv}
def Vw (H : Hp) (L : Lv) (H2 : Hp) (L2 : Lv) : Prop := ∀ b o, H b = some o → (∀ kvs, o ≠ .dK kvs) → (∀ o2 kvs, o ≠ .frz o2 (.dK kvs)) → H2 b = some o ∧ (¬ L.has b → ¬ L2.has b)
mutual
theorem Rep.view (k : Vw H L H2 L2) : ∀ {v : V} {d : D}, Rep P H L v d → plnD d = true → Rep P H2 L2 v d
  | _, _, .non, _ => .non
  | _, _, .bl b, _ => .bl b
  | _, _, .int i, _ => .int i
  | _, _, .str s, _ => .str s
  | _, _, .lst h n r, o => by
    obtain ⟨z1, z2⟩ := k _ _ h (fun _ z => nomatch z) (fun _ _ z => nomatch z)
    exact .lst z1 (z2 n) (Reps.view k r o)
  | _, _, .tup h r, o => by
    refine .tup ?_ (Reps.view k r o)
    rcases h with ⟨h | ⟨ob, h⟩, n⟩ | h
    · obtain ⟨z1, z2⟩ := k _ _ h (fun _ z => nomatch z) (fun _ _ z => nomatch z)
      exact .inl ⟨.inl z1, z2 n⟩
    · obtain ⟨z1, z2⟩ := k _ _ h (fun _ z => nomatch z) (fun _ _ z => nomatch z)
      exact .inl ⟨.inr ⟨ob, z1⟩, z2 n⟩
    · exact .inr h
  | _, _, .dct h n l r, o => nomatch o
  | _, _, .obj h hc n l r, o => nomatch o
  | _, _, .cell h, o => nomatch o
  | _, _, .scr h, _ => by
    refine .scr ?_
    rcases h with ⟨h | ⟨ob, h⟩, n⟩ | h
    · obtain ⟨z1, z2⟩ := k _ _ h (fun _ z => nomatch z) (fun _ _ z => nomatch z)
      exact .inl ⟨.inl z1, z2 n⟩
    · obtain ⟨z1, z2⟩ := k _ _ h (fun _ z => nomatch z) (fun _ _ z => nomatch z)
      exact .inl ⟨.inr ⟨ob, z1⟩, z2 n⟩
    · exact .inr h
  | _, _, .key h n, _ => by
    obtain ⟨z1, z2⟩ := k _ _ h (fun _ z => nomatch z) (fun _ _ z => nomatch z)
    exact .key z1 (z2 n)
theorem Reps.view (k : Vw H L H2 L2) : ∀ {vs : List V} {ds : List D}, Reps P H L vs ds → plnL ds = true → Reps P H2 L2 vs ds
  | _, _, .nil, _ => .nil
  | _, _, .cons h r, o => by
    obtain ⟨o1, o2⟩ := Bool.and_eq_true_iff.mp (show (plnD _ && plnL _) = true from o)
    exact .cons (Rep.view k h o1) (Reps.view k r o2)
end
theorem RepM.view (k : Vw H L H2 L2) {b : Addr} {m : MO} (e : H2 b = H b) (r : RepM P H L b m) (o : plnM m = true) : RepM P H2 L2 b m := by
  cases r with
  | lst h r => exact .lst (by rw [e]; exact h) (r.view k o)
  | dct h l r => exact .dct (by rw [e]; exact h) l (r.view k o)
  | ins h hc l r => cases o
  | oth h l r => cases o
end
section
variable {P : Pm} {W : WX} {X : Cx} {sl : List Nat} {g : SG} {tk te : SE} {H : Hp} {L : Lv} {μ : Sto}
end
section
variable {Q : D → Sto → Prop} {E : Exs} {ρ : Env} {μ : Sto} {g : SG} {tk te : SE} {ks js : List Key} {ds es : List D}
end
section
variable {P : Pm} {X : Cx} {H : Hp} {L : Lv} {μ : Sto}
end
end L3

/-! ### d.pop(k) -/
namespace L3
open PySem PySem.Spec PySem.Calls PyProof.Rows L2
section
variable {P : Pm} {W : WX} {X : Cx} {o i : Expr} {fo fi : SE} {apos cpos : Pos}
end
section
variable {ρ : Env} {μ : Sto} {Q : D → Sto → Prop} {E : Exs}
end
end L3

/-! ### x is not False; lambdas kept in two statements -/
namespace L3
open PySem PySem.Spec PyProof.Rows L2
section
variable {P : Pm} {W : WX} {X : Cx} {k : Nat}
end
end L3

/-! ### list(d) of a dict; two fors over a dict that stays; a comprehension over a dict cell that gives tuples -/
namespace L3
open PySem PySem.Spec PySem.Calls PyProof.Rows L2
section
variable {P : Pm} {X : Cx} {H : Hp} {L : Lv} {μ : Sto}
end
section
variable {P : Pm} {W : WX} {X : Cx} {elt tg iter tg1 iter1 : Expr} {ifs ifs1 : List Expr} {scope : Scope} {own : List (Str × Nat)} {pos : Pos} {fi fi1 : SI} {sl sl1 vs1 : List Nat} {g g1 : SG} {tt tt1 : ST} {te : SE}
end
section
variable {ρ : Env} {μ : Sto} {Q : D → Sto → Prop} {E : Exs} {vs vs1 : List Nat} {fi1 : SI} {g g1 : SG} {tt tt1 : ST} {te : SE}
end
def noOth : MO → Bool
  | .lst _ => true
  | .dct _ _ => true
  | _ => false
mutual
def tupD : D → Bool
  | .tup xs => tupL xs
  | .non => true
  | .bl _ => true
  | .int _ => true
  | .str _ => true
  | _ => false
def tupL : List D → Bool
  | [] => true
  | d :: r => tupD d && tupL r
end
section
variable {P : Pm} {H H2 : Hp} {L L2 : Lv} {μ : Sto}
mutual
theorem Rep.tups {H3 : Hp} (hk : ∀ (b : Addr) (vs : List V), Rd H2 b (.tup vs) → Rd H3 b (.tup vs) ∧ ¬ L.has b) : ∀ {v : V} {d : D}, Rep P H2 L2 v d → tupD d = true → Rep P H3 L v d
  | _, _, .non, _ => .non
  | _, _, .bl b, _ => .bl b
  | _, _, .int i, _ => .int i
  | _, _, .str s, _ => .str s
  | _, _, .lst h n r, o => Bool.noConfusion (show false = true from o)
  | _, _, .tup h r, o => .tup (h.imp (fun h => hk _ _ h.1) fun h => h) (Reps.tups hk r o)
  | _, _, .dct h n l r, o => Bool.noConfusion (show false = true from o)
  | _, _, .obj h hc n l r, o => Bool.noConfusion (show false = true from o)
  | _, _, .cell h, o => Bool.noConfusion (show false = true from o)
  | _, _, .scr h, o => Bool.noConfusion (show false = true from o)
  | _, _, .key h n, o => Bool.noConfusion (show false = true from o)
theorem Reps.tups {H3 : Hp} (hk : ∀ (b : Addr) (vs : List V), Rd H2 b (.tup vs) → Rd H3 b (.tup vs) ∧ ¬ L.has b) : ∀ {vs : List V} {ds : List D}, Reps P H2 L2 vs ds → tupL ds = true → Reps P H3 L vs ds
  | _, _, .nil, _ => .nil
  | _, _, .cons h r, o => by
    have o : (tupD _ && tupL _) = true := o
    obtain ⟨o1, o2⟩ := Bool.and_eq_true_iff.mp o
    exact .cons (Rep.tups hk h o1) (Reps.tups hk r o2)
end
/-- what a mutable thing is where no set and no dict with tuples stands -/
theorem St3.plain (s : St3 P H L μ) (pl : μ.all noOth = true) {a : Addr} (h : L.has a) : (∃ vs, H a = some (.lst vs)) ∨ ∃ kv, H a = some (.dK kv) := by
  rcases h with h | h
  · obtain ⟨i, hi⟩ := List.getElem?_of_mem h
    have li : i < μ.length := by rw [← s.len]; exact (List.getElem?_eq_some_iff.mp hi).1
    obtain ⟨m, hm⟩ : ∃ m, μ[i]? = some m := ⟨_, List.getElem?_eq_getElem li⟩
    have pm : noOth m = true := (List.all_eq_true.mp pl) m (List.mem_of_getElem? hm)
    have r := s.at_ i a m hi hm
    cases r with
    | lst e _ => exact .inl ⟨_, e⟩
    | dct e _ _ => exact .inr ⟨_, e⟩
    | ins e _ _ _ => cases pm
    | oth e _ _ => cases pm
  · exact .inl (s.dis a h).2
end
section
variable {P : Pm} {W : WX} {X : Cx} {sl : List Nat} {g : SG} {tt : ST} {te : SE}
end
section
variable {ρ : Env} {μ : Sto} {Q : D → Sto → Prop} {E : Exs} {vs : List Nat} {g : SG} {te : SE}
end
end L3

namespace OZ
open PySem PySem.SeqAt
open AutoSeq1 (wpAny_loadPart')
open MeetsSeq MeetsSeq2 MeetsSeq3 SeqRoads2
theorem int_no (b : Int) (u : Tok) (l : Addr) (c : Value) (dd : Option Addr) (sl : Array (Option Value)) :
    Meets (Builtin.«int.__eq__» ⟨[.int b u, .ref l], []⟩) (fun _ R s => s.heap.get? l = some { cls := c, dict := dd, data := .plain, slots := sl } ∧ R (.ok (.ret .notImplemented)) s) :=
  .of_wp fun prog w A R s h => by obtain ⟨hp, g, d, tk, os⟩ := s; obtain ⟨hl, h⟩ := h; wp_walk using wpAny_loadPart' hl, wpAny_load hl; exact ⟨_, rfl, h⟩
theorem str_no (b : Str) (u : Tok) (l : Addr) (c : Value) (dd : Option Addr) (sl : Array (Option Value)) :
    Meets (Builtin.«str.__eq__» ⟨[.str b u, .ref l], []⟩) (fun _ R s => s.heap.get? l = some { cls := c, dict := dd, data := .plain, slots := sl } ∧ R (.ok (.ret .notImplemented)) s) :=
  .of_wp fun prog w A R s h => by obtain ⟨hp, g, d, tk, os⟩ := s; obtain ⟨hl, h⟩ := h; wp_walk using wpAny_loadPart' hl, wpAny_load hl; exact ⟨_, rfl, h⟩
section
variable {prog : Program} {w : World} {A : Around} {R : Result → Shared → Prop}
abbrev FinOf (prog : Program) (w : World) (A : Around) (R : Result → Shared → Prop) : Fin → Shared → Prop := GQ.FinOf prog w A R
/-- x in xs where no question says so: the list is read anew at each turn -/
def MissI (prog : Program) (w : World) (A : Around) (E : Value → Shared → Prop) (l : Addr) (x : Value) (N : Nat) (I : Nat → Shared → Prop) : Prop :=
  ∀ i s, I i s → ∃ (items : Array Value) (n : Nat) (dd : Option Addr) (sl : Array (Option Value)), s.heap.get? l = some { cls := .type "list", dict := dd, data := .seq items n, slots := sl } ∧ items.size = N ∧
    ∀ (h1 : i < items.size), wpAny (model prog w) A.in1 (eqBool items[i] x) (fun r s' => r = false ∧ I (i + 1) s') E s
theorem miss_loop (l : Addr) (x : Value) (N : Nat) (I : Nat → Shared → Prop) (hl : MissI prog w A (fun e s' => R (.error e) s') l x N I)
    (fin : ∀ s, I N s → R (.ok (.ret (.bool false))) s) (k : Nat) :
    ∀ i : Nat, N - i = k → i ≤ N → ∀ s, I i s →
      wpAny (model prog w) A.in1 (Builtin.«list.__contains__.loop» ⟨[.ref l, x, rawInt i], []⟩) (FinOf prog w A R) (fun e s' => R (.error e) s') s := by
  induction k with
  | zero =>
    intro i hk hi s h
    obtain ⟨items, n, dd, sl, hl1, hs1, _⟩ := hl _ _ h
    have hi' : i = N := by omega
    have hR : R (.ok (.ret (.bool false))) s := fin s (hi' ▸ h)
    obtain ⟨hp, g, d, tk, os⟩ := s
    wp_walk using wpAny_loadPart' hl1
    have hi1 : items[((i : Nat) : Int).toNat]? = none := by simp; omega
    rw [hi1]
    wp_walk
    exact hR
  | succ k ih =>
    intro i hk hi s h
    obtain ⟨items, n, dd, sl, hl1, hs1, turn⟩ := hl _ _ h
    have hlt : i < items.size := by omega
    have ht := turn hlt
    obtain ⟨hp, g, d, tk, os⟩ := s
    wp_walk using wpAny_loadPart' hl1
    have hi1 : items[((i : Nat) : Int).toNat]? = some items[i] := by simp [hlt]
    have hc : ((i : Int) + 1) = ((i + 1 : Nat) : Int) := by omega
    rw [hi1]
    refine wpAny_bind (wpAny_mono ht (fun r s2 h2 => ?_) fun _ _ x => x)
    obtain ⟨hr, h2⟩ := h2
    subst hr
    have hrec := ih (i + 1) (by omega) (by omega) s2 h2
    obtain ⟨hp2, g2, d2, tk2, os2⟩ := s2
    wp_walk
    rw [hc]
    exact ⟨plainId_quiet plain_contains_loop _, codeAny_builtin entry_contains_loop (by
      rw [Around.under_plainId plain_contains_loop _]
      exact hrec)⟩
theorem miss_list (l : Addr) (x : Value) (N : Nat) (I : Nat → Shared → Prop) (hl : MissI prog w A (fun e s' => R (.error e) s') l x N I)
    (fin : ∀ s, I N s → R (.ok (.ret (.bool false))) s) {s : Shared} (h : I 0 s) :
    wpAny (model prog w) A.in1 (Builtin.«list.__contains__» ⟨[.ref l, x], []⟩) (FinOf prog w A R) (fun e s' => R (.error e) s') s := by
  obtain ⟨items, n, dd, sl, hl1, hs1, _⟩ := hl _ _ h
  have hrec := miss_loop (A := A) (R := R) l x N I hl fin _ 0 rfl (Nat.zero_le _) s h
  obtain ⟨hp, g, d, tk, os⟩ := s
  wp_walk using wpAny_loadPart' hl1
  exact ⟨plainId_quiet plain_contains_loop _, codeAny_builtin entry_contains_loop (by
    rw [Around.under_plainId plain_contains_loop _]
    exact hrec)⟩
end
section
variable {prog : Program} {w : World} {A : Around} {E : Value → Shared → Prop} {s : Shared}
theorem in_miss {l : Addr} {x : Value} {N : Nat} {Q : Value → Shared → Prop} (I : Nat → Shared → Prop) (hl : MissI prog w A E l x N I)
    (fin : ∀ s, I N s → Q (.bool false) s) (h : I 0 s) : wpAny (model prog w) A (compareOp .In x (.ref l)) Q E s := by
  obtain ⟨items, n, dd, sl, hl1, hs1, _⟩ := hl _ _ h
  show wpAny _ A (do return .bool (← contains (.ref l) x)) Q E s
  refine wpAny_bind (wpAny_contains_slot (T := "list") ⟨_, hl1, rfl⟩ F.slot_list_contains (wpAny_mono (GQ.call_here (Q := fun v s' => ∃ b, v = .bool b ∧ Q (.bool b) s') F.slot_list_contains ⟨_, hl1, rfl⟩ F.entry_list_contains (F.args_list_contains_2 _ _) (miss_list (R := wants _ E) l x N I hl (fun s' q => ⟨false, rfl, fin s' q⟩) h)) (fun v s' hv => ?_) fun _ _ e => e))
  obtain ⟨b, rfl, hq⟩ := hv
  exact wpAny_truthy_bool (wpAny_pure hq)
end
section
variable {M : Model} {prog : Program} {w : World} {A : Around} {E : Value → Shared → Prop} {s : Shared} {K : PySem.W.Frag} {x C f : Addr} {ox : Obj} {od : Option Obj}
theorem none_dec {Q' : Option Value → Shared → Prop} (h : Q' none s) : wpAny (model prog w) A (tryCompare .none "__eq__" (.ref x)) Q' E s :=
  wpAny_tryCompare_declines (show s.TypeIs .none "NoneType" from rfl) F.slot_NoneType_eq_refl (call_gives F.slot_NoneType_eq_refl rfl F.entry_NoneType_eq (F.args_NoneType_eq_2 _ _) (NoneType___eq___none_ref_0 x) ⟨rfl, h⟩)
theorem int_dec {b : Int} {u : Tok} {Q' : Option Value → Shared → Prop} {c : Value} {dd : Option Addr} {sl : Array (Option Value)} (hx : s.heap.get? x = some { cls := c, dict := dd, data := .plain, slots := sl }) (h : Q' none s) : wpAny (model prog w) A (tryCompare (.int b u) "__eq__" (.ref x)) Q' E s :=
  wpAny_tryCompare_declines (typeIs_int _ _ _) F.slot_int_eq_refl (call_meets F.slot_int_eq_refl (typeIs_int _ _ _) F.entry_int_eq (F.args_int_eq_2 _ _) (int_no b u x c dd sl) ⟨hx, rfl, h⟩)
theorem str_dec {b : Str} {u : Tok} {Q' : Option Value → Shared → Prop} {c : Value} {dd : Option Addr} {sl : Array (Option Value)} (hx : s.heap.get? x = some { cls := c, dict := dd, data := .plain, slots := sl }) (h : Q' none s) : wpAny (model prog w) A (tryCompare (.str b u) "__eq__" (.ref x)) Q' E s :=
  wpAny_tryCompare_declines (typeIs_str _ _ _) F.slot_str_eq_refl (call_meets F.slot_str_eq_refl (typeIs_str _ _ _) F.entry_str_eq (F.args_str_eq_2 _ _) (str_no b u x c dd sl) ⟨hx, rfl, h⟩)
theorem tup_dec {t : Addr} {Q' : Option Value → Shared → Prop} (X : K.In s.heap) (I : PySem.W.InstAt s.heap x ox C od) (c : OwC K C) (ht : s.TypeIs (.ref t) "tuple") (h : Q' none s) : wpAny (model prog w) A (tryCompare (.ref t) "__eq__" (.ref x)) Q' E s := by
  refine wpAny_tryCompare_declines ht F.slot_tuple_eq (GQ.call_here F.slot_tuple_eq ht F.entry_tuple_eq (F.args_tuple_eq_2 _ _) ?_)
  show wpAny _ _ (Builtin.«tuple.__eq__» ⟨[.ref t, .ref x], []⟩) _ _ _
  have hi : PySem.W.Looks (model prog w) s.heap (isInstance (.ref x) (.type "tuple")) false := I.type.andThen (PySem.W.looks_mroIn X c.tu)
  have hh : ∀ {Q : Bool → Shared → Prop} {A : Around} {E : Value → Shared → Prop}, Q false s → wpAny (model prog w) A (isInstance (.ref x) (.type "tuple")) Q E s := fun q => hi.here q
  obtain ⟨hp, g, d, tk, os⟩ := s
  repeat (first | with_reducible refine hh ?_ | wp_step)
  first | exact ⟨rfl, h⟩ | exact ⟨_, rfl, rfl, h⟩
theorem rc_refl {y : Value} {T : String} {Q : Value → Shared → Prop} (hu : A.units < cLine) (X : K.In s.heap) (I : PySem.W.InstAt s.heap x ox C od) (hT : s.TypeIs y T) (hsub : PySem.W.mroIn K C (.type T) = some false)
    (dec : ∀ (Q' : Option Value → Shared → Prop), Q' none s → wpAny (model prog w) A (tryCompare y "__eq__" (.ref x)) Q' E s) (hone : oneThing? .Eq y (.ref x) = none)
    (hs : PySem.W.findIn K (.ref C) "__eq__" = some (some (.ref f))) (hf : PySem.W.isFn K (.ref f) = true)
    (h : wpAny (model prog w) A (call (.ref f) [.ref x, y]) (PySem.W.CmpBack Q) E s) : wpAny (model prog w) A (richCompare .Eq y (.ref x)) Q E s := by
  have two : wpAny (model prog w) A (tryCompare (.ref x) "__eq__" y) (fun r s' => ∃ v, r = some v ∧ Q v s') E s := by
    unfold tryCompare
    refine wpAny_bind (PySem.W.ifBound_K X I hs hf (wpAny_mono h (fun v s' hv => ?_) fun _ _ e => e))
    cases v <;> first | exact hv.elim | exact wpAny_pure ⟨_, rfl, hv⟩
  simp only [richCompare, cmpInfo_Eq, hone]
  refine wpAny_holding (wpAny_bind (wpAny_cRoomFor hu ?_))
  refine wpAny_bind (wpAny_typeOf hT (wpAny_bind (I.type.here ?_)))
  split
  · refine wpAny_bind ((PySem.W.looks_mroIn X hsub).here ?_)
    simp only [Bool.false_eq_true, if_false, Bool.not_false, if_true]
    refine wpAny_bind (m := tryCompare y _ (.ref x)) (dec _ ?_)
    refine wpAny_bind (m := tryCompare (.ref x) _ y) (wpAny_mono two (fun r s2 z => ?_) fun _ _ e => e)
    obtain ⟨v, z1, z2⟩ := z
    subst z1
    exact wpAny_pure z2
  · rename_i q
    exact absurd (by simp) q
/-- x != y by object.__ne__, which asks the own == -/
theorem ne_own {b : Value} {tb : Value} {Q : Value → Shared → Prop} (hu : A.units + 1 < cLine) (X : K.In s.heap) (I : PySem.W.InstAt s.heap x ox C od) (c : OwC K C) (hb : PySem.W.Looks (model prog w) s.heap (typeOf b) tb) (hn : PySem.W.notFirst K C tb = true)
    (hs : PySem.W.findIn K (.ref C) "__eq__" = some (some (.ref f))) (hf : PySem.W.isFn K (.ref f) = true) (hone : oneThing? .NotEq (.ref x) b = none)
    (h : wpAny (model prog w) A.in1 (call (.ref f) [.ref x, b]) (fun v s' => ∃ r, v = .bool r ∧ Q (.bool (!r)) s') E s) : wpAny (model prog w) A (richCompare .NotEq (.ref x) b) Q E s := by
  have body : ∀ {Q' : Fin → Shared → Prop}, wpAny (model prog w) A.in1 (call (.ref f) [.ref x, b]) (fun v s' => ∃ r, v = .bool r ∧ Q' (.done (.ret (.bool (!r)))) s') E s →
      wpAny (model prog w) A.in1 (Builtin.«object.__ne__» ⟨[.ref x, b], []⟩) Q' E s := fun {Q'} hc => by
    unfold Builtin.«object.__ne__»
    repeat (first
      | with_reducible refine wpAny_cRoomFor (show A.in1.units < cLine from hu) ?_
      | (refine wpAny_bind (m := callSpecialIfBound? (.ref x) (Str.ofString "__eq__") [b])
          (PySem.W.ifBound_K X I hs hf (wpAny_mono hc (fun r s' hr => by
            obtain ⟨b, rfl, hq⟩ := hr
            repeat (first | exact hq | exact wpAny_pure hq | exact wpAny_truthy_bool hq | (refine wpAny_bind (m := truthy (.bool _)) (wpAny_truthy_bool ?_)) | wp_step)) fun _ _ e => e)))
      | wp_step)
  have one : wpAny (model prog w) A (tryCompare (.ref x) "__ne__" b) (fun r s' => ∃ v, r = some v ∧ Q v s') E s := by
    unfold tryCompare
    refine wpAny_bind ?_
    simp only [callSpecialIfBound?, bindSpecialIfBound?]
    refine wpAny_holding (wpAny_bind (wpAny_bind (wpAny_bind (I.type.here ((PySem.W.looks_findIn X c.ne).here ?_)))))
    refine wpAny_bind (wpAny_askSetting (wpAny_ite ?_))
    have fin : wpAny (model prog w) A (call (.builtin "object.__ne__") ([.ref x] ++ [b]) >>= fun v => pure (some v)) (fun r s' => wpAny (model prog w) A (match r with
        | some .notImplemented => pure none
        | none => pure none
        | some v => pure (some v)) (fun r s' => ∃ v, r = some v ∧ Q v s') E s') E s := by
      refine wpAny_bind (wpAny_call (codeAny_call_builtin F.cmp_object.ne.plain F.cmpEntry_ne (PySem.W.check_slot F.cmpKind_ne F.cmpSplit_ne (I.type.andThen (PySem.W.looks_mroIn X c.ob)) (F.cmpArgs_ne _ _) (body (wpAny_mono h (fun v s' hv => ?_) fun _ _ e => e)))))
      obtain ⟨r, rfl, hq⟩ := hv
      exact ⟨r, rfl, wpAny_pure (wpAny_pure ⟨_, rfl, hq⟩)⟩
    split
    · exact wpAny_bind (wpAny_of_eq (F.cmp_object.ne.bind _) (wpAny_pure (by exact fin)))
    · exact wpAny_tryCatch (wpAny_bind (wpAny_of_eq (F.cmp_object.ne.bind _) (wpAny_pure (by exact fin))))
  simp only [richCompare, cmpInfo_NotEq, hone]
  refine wpAny_holding (wpAny_bind (wpAny_cRoomFor (by omega) ?_))
  refine wpAny_bind (I.type.here (wpAny_bind (hb.here ?_)))
  have rest : wpAny (model prog w) A (tryCompare (.ref x) "__ne__" b) (fun r s' => ∃ v, r = some v ∧ Q v s') E s := one
  split
  · rename_i q
    have e : PySem.W.subIn K tb (.ref C) = some false := by
      unfold PySem.W.notFirst at hn
      rcases Bool.or_eq_true_iff.mp hn with z | z
      · exact absurd (by rw [eq_of_beq z]; simp) (show ¬ ((Value.ref C != tb) = false) from by rw [q]; simp)
      · exact eq_of_beq z
    refine wpAny_bind ((PySem.W.looks_subIn X e).here ?_)
    simp only [Bool.false_eq_true, if_false, Bool.not_false, if_true]
    refine wpAny_bind (m := tryCompare (.ref x) _ b) (wpAny_mono rest (fun r s2 z => ?_) fun _ _ e => e)
    obtain ⟨v, z1, z2⟩ := z
    subst z1
    exact wpAny_pure z2
  · refine wpAny_bind (wpAny_pure ?_)
    simp only [Bool.false_eq_true, if_false, Bool.not_false, if_true]
    refine wpAny_bind (m := tryCompare (.ref x) _ b) (wpAny_mono rest (fun r s2 z => ?_) fun _ _ e => e)
    obtain ⟨v, z1, z2⟩ := z
    subst z1
    exact wpAny_pure z2
theorem len_body {Q : Value → Shared → Prop} (X : K.In s.heap) (I : PySem.W.InstAt s.heap x ox C od) (hs : PySem.W.findIn K (.ref C) "__len__" = some (some (.ref f))) (hf : PySem.W.isFn K (.ref f) = true)
    (h : wpAny (model prog w) A (call (.ref f) [.ref x]) (PySem.W.LenBack Q) E s) : wpAny (model prog w) A (Builtin.«len» ⟨[.ref x], []⟩) (fun fin s' => ∃ r, fin = .done (.ret r) ∧ Q r s') E s := by
  unfold Builtin.«len»
  refine wpAny_bind (m := oneArg "len" _) (wpAny_pure ?_)
  refine wpAny_bind (m := callSpecial? (.ref x) (Str.ofString "__len__")) (PySem.W.special_fn X I hs (beq_iff_eq.mp hf) (wpAny_mono h (fun r s' hr => ?_) fun _ _ y => y))
  cases r <;> first | exact hr.elim | skip
  rename_i n u
  obtain ⟨⟨h0, h1⟩, hq⟩ := hr
  refine wpAny_bind (wpAny_holding (wpAny_pure ?_))
  refine wpAny_bind (wpAny_letGo ?_)
  show wpAny _ _ (if n < 0 then _ else _) _ _ _
  rw [if_neg (by omega)]
  show wpAny _ _ (if n ≥ 2 ^ 63 then _ else _) _ _ _
  rw [if_neg (by omega)]
  exact wpAny_bind (wpAny_mkInt (wpAny_pure ⟨_, rfl, hq⟩))
/-- the truth of an instance by its own __len__ -/
theorem truthy_len {Q : Bool → Shared → Prop} (X : K.In s.heap) (I : PySem.W.InstAt s.heap x ox C od) (c : OwC K C) (hs : PySem.W.findIn K (.ref C) "__len__" = some (some (.ref f))) (hf : PySem.W.isFn K (.ref f) = true)
    (h : wpAny (model prog w) A.in1 (call (.ref f) [.ref x]) (fun v s' => ∃ n u, v = .int n u ∧ (0 ≤ n ∧ n < 2 ^ 63) ∧ ∀ t, Q (n != 0) { s' with toks := t }) E s) : wpAny (model prog w) A (truthy (.ref x)) Q E s := by
  have key : wpAny (model prog w) A (runValue (.builtin "len" ⟨[.ref x], []⟩)) (fun r s' => ∃ n u, r = .int n u ∧ Q (n != 0) s') E s := by
    refine wpAny_runValue (codeAny_builtin entry_len ?_)
    rw [Around.under_plainId plain_len _]
    refine wpAny_mono (len_body (Q := fun r s' => ∃ n u, r = .int n u ∧ Q (n != 0) s') X I hs hf (wpAny_mono h (fun v s' hv => ?_) fun _ _ e => e)) (fun fin s' h' => by obtain ⟨r, rfl, hq⟩ := h'; exact hq) fun _ _ e => e
    obtain ⟨n, u, rfl, hb, hq⟩ := hv
    exact ⟨hb, n, _, rfl, hq _⟩
  unfold truthy
  refine wpAny_bind (m := callSpecial? (.ref x) (Str.ofString "__bool__")) (wpAny_bind (wpAny_bind (I.type.here ((PySem.W.looks_findIn X c.bo).here (wpAny_pure ?_)))))
  refine wpAny_bind (wpAny_bind (I.type.here ((PySem.W.looks_findIn X hs).here ?_)))
  exact wpAny_bind (wpAny_mono key (fun r s' h' => by obtain ⟨n, u, rfl, hq⟩ := h'; exact wpAny_pure hq) fun _ _ e => e)
/-- bool(x), by its truth -/
theorem bool_truth {x : Value} {Q : Value → Shared → Prop} (h : wpAny (model prog w) A.in1.in1 (truthy x) (fun b s' => Q (.bool b) s') E s) : wpAny (model prog w) A (call (.type "bool") [x]) Q E s := by
  refine callType_newIn (S := fun A' R s => wpAny (model prog w) A'.in1 (truthy x) (fun b s' => R (.ok (.ret (.bool b))) s') (fun e s' => R (.error e) s') s) F.called_bool F.newNe_bool (F.typeCall_bool_1 x) (F.newCall_bool_1 x) (fun obj => F.args_object_init_2 obj x) F.entry_bool_new ?_ ?_
  · intro A' R s hs
    have f1 := F.conv_sub_bool
    have ht : ∀ {Q' : Bool → Shared → Prop}, (∀ b s', R (.ok (.ret (.bool b))) s' → Q' b s') → wpAny (model prog w) A'.in1 (truthy x) Q' (fun e s' => R (.error e) s') s := fun k => wpAny_mono hs k fun _ _ e => e
    obtain ⟨hp, g, d, tk, os⟩ := s
    repeat (any_goals (first | assumption | (with_reducible refine ht (fun b s' hb => ?_)) | wp_step))
    all_goals first | exact ⟨_, rfl, hb⟩ | exact hb | skip
  · exact wpAny_mono h (fun b s' hb => ⟨rfl, hb⟩) fun _ _ e => e
end
end OZ

/-! ### an own class's ==, !=, in, len, repr, truth, isinstance -/
namespace L3
open PySem PySem.Spec PySem.Calls PyProof.Rows L2
/-- the callee runs somewhere below the running body -/
theorem run_in {X : Cx} {A : Around} {k : Nat} {fA : Addr} {fd : FuncData} {ps : List Str} {sp : Sp} {pins : List (Addr × Obj)} {σ : L2.St} {H : Hp} {s : Shared} {Q : VK} {us : List Value} {vs : List V} (F : FnOk X.prog X.w X.K X.mg X.base (CXF X) k fA fd ps sp) (hr : Room k A) (e0 : Env0 X.prog X.w X.K X.mg X.base A X.stack s H) (hb : Binds X.K fd ps [])
    (I : Inv X pins σ H s) (rv : Vals vs us) (asks : sp vs H Q E0) : wpAny (model X.prog X.w) A (call (.ref fA) us) (EP X pins σ Q) X.xe s := by
  have len : us.length = ps.length := rv.length.symm.trans (F.len _ _ _ _ asks)
  have bound := hb s us I.kIn (by simpa using len)
  rw [List.append_nil] at bound
  refine wpAny_call (codeAny_mono (F.run A X.stack s H ⟨us, []⟩ _ _ Q E0 hr e0 bound rv asks) fun out s2 got => ?_)
  match out, got with
  | .error er, got => exact pass_no pins σ H s er s2 I got
  | .ok (.ret _), got => exact I.after got
  | .ok .next, got => exact got.elim
  | .ok .brk, got => exact got.elim
  | .ok .cont, got => exact got.elim
def rEqO (C : Addr) (sp : Sp) : R2 := fun x y H Q => ∃ a dx fs b dy gs, x = V.ref a ∧ y = V.ref b ∧ H a = some (.ins C dx fs) ∧ H b = some (.ins C dy gs) ∧ sp [x, y] H Q E0
def rNeO (C : Addr) (sp : Sp) : R2 := fun x y H Q => ∃ a dx fs b dy gs, x = V.ref a ∧ y = V.ref b ∧ H a = some (.ins C dx fs) ∧ H b = some (.ins C dy gs) ∧ sp [x, y] H (fun v H' => ∃ t, v = .bl t ∧ Q (.bl (!t)) H') E0
def plnV (K : PySem.W.Frag) (H : Hp) (v : V) : Prop := v = .non ∨ (∃ i, v = .int i) ∨ (∃ z, v = .str z) ∨ ∃ t ws, v = .ref t ∧ SqT K H t ws
def missV (K : PySem.W.Frag) (C : Addr) (sp : Sp) (a l : Addr) (all : List V) : List V → Hp → VK → Prop
  | [], H, Q => Q (.bl false) H
  | v :: r, H, Q => plnV K H v ∧ sp [.ref a, v] H (fun z H' => z = .bl false ∧ H' l = some (.lst all) ∧ (∃ dx fs, H' a = some (.ins C dx fs)) ∧ missV K C sp a l all r H' Q) E0
def rInO (K : PySem.W.Frag) (C : Addr) (sp : Sp) : R2 := fun x y H Q => ∃ a dx fs l vs, x = V.ref a ∧ y = V.ref l ∧ H a = some (.ins C dx fs) ∧ H l = some (.lst vs) ∧ missV K C sp a l vs vs H Q
def rLenO (C : Addr) (sp : Sp) : List V → Hp → VK → Prop := fun xs H Q => ∃ a dx fs, xs = [V.ref a] ∧ H a = some (.ins C dx fs) ∧ sp [.ref a] H (fun v H' => ∃ i : Int, v = .int i ∧ (0 ≤ i ∧ i < 2 ^ 63) ∧ Q v H') E0
def rReprO (C : Addr) (sp : Sp) : List V → Hp → VK → Prop := fun xs H Q => ∃ a dx fs, xs = [V.ref a] ∧ H a = some (.ins C dx fs) ∧ sp [.ref a] H (fun v H' => ∃ z, v = .str z ∧ Q v H') E0
def rTruO (C : Addr) (sp : Sp) : V → Hp → (Bool → Hp → Prop) → Prop := fun x H Q => ∃ a dx fs, x = V.ref a ∧ H a = some (.ins C dx fs) ∧ sp [x] H (fun v H' => ∃ i : Int, v = .int i ∧ (0 ≤ i ∧ i < 2 ^ 63) ∧ Q (i != 0) H') E0
def rBoolO (C : Addr) (sp : Sp) : List V → Hp → VK → Prop := fun xs H Q => ∃ a dx fs, xs = [V.ref a] ∧ H a = some (.ins C dx fs) ∧ sp [.ref a] H (fun v H' => ∃ i : Int, v = .int i ∧ (0 ≤ i ∧ i < 2 ^ 63) ∧ Q (.bl (i != 0)) H') E0
section
variable {X : Cx} {k : Nat} {C fA : Addr} {fd : FuncData} {ps : List Str} {sp : Sp}
theorem op_eqO (hm : Meth X.K C "__eq__" fA) (F : FnOk X.prog X.w X.K X.mg X.base (CXF X) k fA fd ps sp) (hr : Room k X.A) (hb : Binds X.K fd ps []) : OpR X (compareOp .Eq) (rEqO C sp) := by
  intro pins s σ H x y v u Q I rx ry ⟨a, dx, fs, b, dy, gs, ex, ey, ha, hb2, q⟩
  subst ex ey
  cases (show v = Value.ref a from rx)
  cases (show u = Value.ref b from ry)
  obtain ⟨_, O, _⟩ := ins_get I.hok ha
  obtain ⟨_, J, _⟩ := O.look
  obtain ⟨_, O', _⟩ := ins_get I.hok hb2
  obtain ⟨_, J', _⟩ := O'.look
  obtain ⟨m, hF⟩ := I.fr
  show wpAny _ _ (richCompare .Eq _ _) _ _ _
  refine PySem.W.cmp_K (op := .Eq) (tb := .ref C) hr.units0 hF I.ok.mod.kin J J'.type (by simp [PySem.W.notFirst]) hm.at_ hm.fn (wpAny_mono (run_in (vs := [.ref a, .ref b]) F hr I.env0 hb I (.cons rfl (.cons rfl .nil)) q) (fun w s' z => ?_) fun _ _ x => x)
  obtain ⟨z', H', I', rz, qz⟩ := z
  exact SlX.cmpback rz ⟨z', H', I', rz, qz⟩
theorem op_neO (hm : Meth X.K C "__eq__" fA) (c : OZ.OwC X.K C) (F : FnOk X.prog X.w X.K X.mg X.base (CXF X) k fA fd ps sp) (hr : Room (k + 1) X.A) (hb : Binds X.K fd ps []) : OpR X (compareOp .NotEq) (rNeO C sp) := by
  intro pins s σ H x y v u Q I rx ry ⟨a, dx, fs, b, dy, gs, ex, ey, ha, hb2, q⟩
  subst ex ey
  cases (show v = Value.ref a from rx)
  cases (show u = Value.ref b from ry)
  obtain ⟨_, O, _⟩ := ins_get I.hok ha
  obtain ⟨_, J, _⟩ := O.look
  obtain ⟨_, O', _⟩ := ins_get I.hok hb2
  obtain ⟨_, J', _⟩ := O'.look
  show wpAny _ _ (richCompare .NotEq _ _) _ _ _
  have hu : X.A.units + 1 < cLine := by
    have := hr.in1.units0
    exact this
  refine OZ.ne_own (tb := .ref C) hu I.kIn J c J'.type (by simp [PySem.W.notFirst]) hm.at_ hm.fn rfl (wpAny_mono (run_in (vs := [.ref a, .ref b]) F hr.in1 I.env0.in1 hb I (.cons rfl (.cons rfl .nil)) q) (fun w s' z => ?_) fun _ _ x => x)
  obtain ⟨z', H', I', rz, t, ez, qz⟩ := z
  subst ez
  exact ⟨t, rz, .bl (!t), H', I', rfl, qz⟩
theorem eqBool_miss {prog : Program} {w : World} {A : Around} {E : Value → Shared → Prop} {s : Shared} {x : Addr} {y : Value} {Q : Bool → Shared → Prop} (hne : y ≠ .ref x)
    (h : wpAny (model prog w) A (richCompare .Eq y (.ref x)) (fun v s' => ∃ r, v = .bool r ∧ Q r s') E s) : wpAny (model prog w) A (eqBool y (.ref x)) Q E s := by
  unfold eqBool
  refine wpAny_holding ?_
  refine wpAny_ite_split (fun hab => absurd (eq_of_beq hab) hne) (fun _ => ?_)
  have go : wpAny (model prog w) A (richCompare .Eq y (.ref x) >>= truthOfDropped) Q E s := by
    refine wpAny_bind (wpAny_mono h (fun v s' hv => ?_) fun _ _ x => x)
    obtain ⟨r, rfl, q⟩ := hv
    exact wpAny_truthy_bool q
  cases y <;> exact go
theorem op_inO (hm : Meth X.K C "__eq__" fA) (c : OZ.OwC X.K C) (F : FnOk X.prog X.w X.K X.mg X.base (CXF X) k fA fd ps sp) (hr : Room (k + 1) X.A) (hb : Binds X.K fd ps []) : OpR X (compareOp .In) (rInO X.K C sp) := by
  intro pins s σ H x y v u Q I rx ry ⟨a, dx, fs, l, vs, ex, ey, ha, hl, q⟩
  subst ex ey
  cases (show v = Value.ref a from rx)
  cases (show u = Value.ref l from ry)
  refine OZ.in_miss (N := vs.length) (fun i s' => ∃ H', Inv X pins σ H' s' ∧ H' l = some (.lst vs) ∧ (∃ dx fs, H' a = some (.ins C dx fs)) ∧ missV X.K C sp a l vs (vs.drop i) H' Q) ?_ ?_ ⟨H, I, hl, ⟨dx, fs, ha⟩, q⟩
  · rintro i s1 ⟨H1, I1, hl1, ⟨dx1, fs1, ha1⟩, q1⟩
    obtain ⟨z, its, n, r, e⟩ := I1.hok l _ hl1
    refine ⟨its.toArray, n, _, _, e, by rw [List.size_toArray, ← r.length], fun h1 => ?_⟩
    have k2 : i < its.length := by simpa using h1
    have k1 : i < vs.length := by rw [r.length]; exact k2
    obtain ⟨u, hu, ru⟩ := r.get (List.getElem?_eq_getElem k1)
    have gi : its[i]? = some its.toArray[i] := by rw [List.getElem?_eq_getElem k2]; simp
    rw [gi] at hu
    cases Option.some.inj hu
    rw [List.drop_eq_getElem_cons k1] at q1
    obtain ⟨pv, q1⟩ := q1
    obtain ⟨_, O, _⟩ := ins_get I1.hok ha1
    have obj := O.obj
    obtain ⟨_, J, _⟩ := O.look
    have un : X.A.in1.units < cLine := hr.in1.units0
    have back : wpAny (model X.prog X.w) X.A.in1 (call (.ref fA) [.ref a, its.toArray[i]]) (PySem.W.CmpBack fun v s' => ∃ r, v = .bool r ∧ r = false ∧ ∃ H', Inv X pins σ H' s' ∧ H' l = some (.lst vs) ∧ (∃ dx fs, H' a = some (.ins C dx fs)) ∧ missV X.K C sp a l vs (vs.drop (i + 1)) H' Q) X.xe s1 := by
      refine wpAny_mono (run_in (vs := [.ref a, vs[i]]) F hr.in1 I1.env0.in1 hb I1 (.cons rfl (.cons ru .nil)) q1) (fun w s' z => ?_) fun _ _ x => x
      obtain ⟨z', H', I', rz, ez, hl', ha', qz⟩ := z
      subst ez
      cases (show w = Value.bool false from rz)
      exact ⟨false, rfl, rfl, H', I', hl', ha', qz⟩
    generalize hy : its.toArray[i] = yv at ru back
    rcases pv with ev | ⟨j, ev⟩ | ⟨zt, ev⟩ | ⟨t, ws, ev, ht⟩
    · rw [ev] at ru
      cases (show yv = Value.none from ru)
      exact eqBool_miss (fun z => nomatch z) (OZ.rc_refl (T := "NoneType") un I1.kIn J rfl c.no (fun Q' h => OZ.none_dec h) rfl hm.at_ hm.fn back)
    · rw [ev] at ru
      obtain ⟨tk, e2⟩ := (show ∃ t, yv = Value.int j t from ru)
      subst e2
      exact eqBool_miss (fun z => nomatch z) (OZ.rc_refl (T := "int") un I1.kIn J (typeIs_int _ _ _) c.it (fun Q' h => OZ.int_dec obj h) rfl hm.at_ hm.fn back)
    · rw [ev] at ru
      obtain ⟨tk, e2⟩ := (show ∃ t, yv = Value.str zt t from ru)
      subst e2
      exact eqBool_miss (fun z => nomatch z) (OZ.rc_refl (T := "str") un I1.kIn J (typeIs_str _ _ _) c.sr (fun Q' h => OZ.str_dec obj h) rfl hm.at_ hm.fn back)
    · rw [ev] at ru
      cases (show yv = Value.ref t from ru)
      obtain ⟨its2, r2, tup, _⟩ := I1.tuple ht
      have hT : s1.TypeIs (.ref t) "tuple" := by
        obtain ⟨o, ho, hc, _⟩ := tup
        exact ⟨o, ho, hc⟩
      have ne : Value.ref t ≠ .ref a := fun z => by
        cases z
        obtain ⟨o, ho, hc, _⟩ := tup
        rw [obj] at ho
        cases ho
        cases hc
      exact eqBool_miss ne (OZ.rc_refl (T := "tuple") un I1.kIn J hT c.tu (fun Q' h => OZ.tup_dec I1.kIn J c hT h) rfl hm.at_ hm.fn back)
  · rintro s1 ⟨H1, I1, _, _, q1⟩
    rw [List.drop_length] at q1
    exact ⟨.bl false, H1, I1, rfl, q1⟩
theorem call_lenO (hm : Meth X.K C "__len__" fA) (F : FnOk X.prog X.w X.K X.mg X.base (CXF X) k fA fd ps sp) (hr : Room (k + 1) X.A) (hb : Binds X.K fd ps []) : CallR X (.builtin "len") (rLenO C sp) := by
  intro pins s σ H xs us Q I r ⟨a, dx, fs, ex, ha, q⟩
  subst ex
  obtain ⟨u, rfl, ru⟩ := r.one
  cases (show u = Value.ref a from ru)
  obtain ⟨_, O, _⟩ := ins_get I.hok ha
  obtain ⟨_, J, _⟩ := O.look
  obtain ⟨m, hF⟩ := I.fr
  refine PySem.W.len_K hF I.ok.mod.kin J hm.at_ hm.fn (wpAny_mono (run_in (vs := [.ref a]) F hr.in1 I.env0.in1 hb I (.cons rfl .nil) q) (fun w s' z => ?_) fun _ _ x => x)
  obtain ⟨z', H', I', rz, i, ez, hi, qz⟩ := z
  subst ez
  obtain ⟨t, e⟩ := (show ∃ t, w = Value.int i t from rz)
  subst e
  exact ⟨hi, .int i, H', I'.tok _, ⟨_, rfl⟩, qz⟩
theorem call_reprO (hm : Meth X.K C "__repr__" fA) (F : FnOk X.prog X.w X.K X.mg X.base (CXF X) k fA fd ps sp) (hr : Room (k + 1) X.A) (hb : Binds X.K fd ps []) : CallR X (.builtin "repr") (rReprO C sp) := by
  intro pins s σ H xs us Q I r ⟨a, dx, fs, ex, ha, q⟩
  subst ex
  obtain ⟨u, rfl, ru⟩ := r.one
  cases (show u = Value.ref a from ru)
  obtain ⟨_, O, _⟩ := ins_get I.hok ha
  obtain ⟨_, J, _⟩ := O.look
  obtain ⟨m, hF⟩ := I.fr
  refine PySem.W.repr_K hr.in1.units0 hF I.ok.mod.kin J hm.at_ hm.fn (wpAny_mono (run_in (vs := [.ref a]) F hr.in1 I.env0.in1 hb I (.cons rfl .nil) q) (fun w s' z => ?_) fun _ _ x => x)
  obtain ⟨z', H', I', rz, zt, ez, qz⟩ := z
  subst ez
  obtain ⟨t, e⟩ := (show ∃ t, w = Value.str zt t from rz)
  subst e
  exact ⟨.str zt, H', I', ⟨_, rfl⟩, qz⟩
theorem tru_own (hm : Meth X.K C "__len__" fA) (c : OZ.OwC X.K C) (F : FnOk X.prog X.w X.K X.mg X.base (CXF X) k fA fd ps sp) (hr : Room (k + 1) X.A) (hb : Binds X.K fd ps []) : TruR X (rTruO C sp) := by
  intro pins s σ H x v Q I rx ⟨a, dx, fs, ex, ha, q⟩
  subst ex
  cases (show v = Value.ref a from rx)
  obtain ⟨_, O, _⟩ := ins_get I.hok ha
  obtain ⟨_, J, _⟩ := O.look
  refine OZ.truthy_len I.kIn J c hm.at_ hm.fn (wpAny_mono (run_in (vs := [.ref a]) F hr.in1 I.env0.in1 hb I (.cons rfl .nil) q) (fun w s' z => ?_) fun _ _ x => x)
  obtain ⟨z', H', I', rz, i, ez, hi, qz⟩ := z
  subst ez
  obtain ⟨t, e⟩ := (show ∃ t, w = Value.int i t from rz)
  subst e
  exact ⟨i, t, rfl, hi, fun tk => ⟨H', I'.tok _, qz⟩⟩
theorem call_boolO (hm : Meth X.K C "__len__" fA) (c : OZ.OwC X.K C) (F : FnOk X.prog X.w X.K X.mg X.base (CXF X) k fA fd ps sp) (hr : Room (k + 3) X.A) (hb : Binds X.K fd ps []) : CallR X (.type "bool") (rBoolO C sp) := by
  intro pins s σ H xs us Q I r ⟨a, dx, fs, ex, ha, q⟩
  subst ex
  obtain ⟨u, rfl, ru⟩ := r.one
  cases (show u = Value.ref a from ru)
  obtain ⟨_, O, _⟩ := ins_get I.hok ha
  obtain ⟨_, J, _⟩ := O.look
  have hr3 : Room k X.A.in1.in1.in1 := (show Room (k + 1) X.A.in1.in1 from (show Room (k + 2) X.A.in1 from Room.in1 hr).in1).in1
  refine OZ.bool_truth (OZ.truthy_len I.kIn J c hm.at_ hm.fn (wpAny_mono (run_in (vs := [.ref a]) F hr3 I.env0.in1.in1.in1 hb I (.cons rfl .nil) q) (fun w s' z => ?_) fun _ _ x => x))
  obtain ⟨z', H', I', rz, i, ez, hi, qz⟩ := z
  subst ez
  obtain ⟨t, e⟩ := (show ∃ t, w = Value.int i t from rz)
  subst e
  exact ⟨i, t, rfl, hi, fun tk => ⟨.bl (i != 0), H', I'.tok _, rfl, qz⟩⟩
end
end L3

/-! ### .. on data; dict == dict -/
namespace L3
open PySem PySem.Spec PySem.Calls PyProof.Rows L2
theorem Fct.isOw {l : Lw} {P : Pm} {mg : Str → Option Value} {base : Heap} {w : World} (T : Fct l P mg base w) (i : Nat) {x : Str} (h : l.ow[i]? = some x) : OZ.OwC P.K (He.ga P.K x) := by
  have h0 := (Bool.and_eq_true_iff.mp (Bool.and_eq_true_iff.mp (Bool.and_eq_true_iff.mp (Bool.and_eq_true_iff.mp (Bool.and_eq_true_iff.mp T.ex).2).2).2).2).2
  exact OZ.owB_ok (List.all_eq_true.mp (Bool.and_eq_true_iff.mp (Bool.and_eq_true_iff.mp h0).2).2 _ (List.mem_of_getElem? h))
def dEqO (cn : Str) (g : List D → Sto → R D) : D → D → Sto → R D := fun a b μ => match insAt cn μ a, insAt cn μ b with
  | some _, some _ => (g [a, b] μ).nox
  | _, _ => .bad
def dNeO (cn : Str) (g : List D → Sto → R D) : D → D → Sto → R D := fun a b μ => match insAt cn μ a, insAt cn μ b with
  | some _, some _ => (g [a, b] μ).nox.bind fun r μ' => match r with
    | .bl t => .ok (.bl (!t)) μ'
    | _ => .bad
  | _, _ => .bad
def plnO : D → Bool
  | .non => true
  | .int _ => true
  | .str _ => true
  | .tup _ => true
  | _ => false
def missD (cn : Str) (g : List D → Sto → R D) (x : D) : List D → Sto → R D
  | [], μ => .ok (.bl false) μ
  | d :: r, μ => if plnO d = true then (g [x, d] μ).nox.bind fun b μ' => match b, insAt cn μ' x with
    | .bl false, some _ => missD cn g x r μ'
    | _, _ => .bad else .bad
def dInO (cn : Str) (g : List D → Sto → R D) : D → D → Sto → R D := fun a b μ => match insAt cn μ a, b with
  | some _, .lst ds => missD cn g a ds μ
  | _, _ => .bad
def dLenO (cn : Str) (g : List D → Sto → R D) : D → Sto → R D := fun d μ => match insAt cn μ d with
  | some _ => (g [d] μ).nox.bind fun r μ' => match r with
    | .int i => if 0 ≤ i ∧ i < 2 ^ 63 then .ok (.int i) μ' else .bad
    | _ => .bad
  | none => .bad
def dReprO (cn : Str) (g : List D → Sto → R D) : D → Sto → R D := fun d μ => match insAt cn μ d with
  | some _ => (g [d] μ).nox.bind fun r μ' => match r with
    | .str z => .ok (.str z) μ'
    | _ => .bad
  | none => .bad
def truO (cn : Str) (g : List D → Sto → R D) (d : D) (μ : Sto) : R Bool := match insAt cn μ d with
  | some _ => (g [d] μ).nox.bind fun r μ' => match r with
    | .int i => if 0 ≤ i ∧ i < 2 ^ 63 then .ok (i != 0) μ' else .bad
    | _ => .bad
  | none => .bad
def dBoolO (cn : Str) (g : List D → Sto → R D) : D → Sto → R D := fun d μ => (truO cn g d μ).bind fun b μ' => .ok (.bl b) μ'
def eTO (cn : Str) (g : List D → Sto → R D) (fe : SE) : ST := fun ρ μ => (fe ρ μ).bind fun d μ1 => truO cn g d μ1
def dIsO (cn : Str) : D → Sto → R D := fun d μ => match insAt cn μ d with
  | some _ => .ok (.bl true) μ
  | none => if plnO d = true then .ok (.bl false) μ else .bad
section
variable {P : Pm} {W : WX} {X : Cx} {k : Nat} {C fA : Addr} {fd : FuncData} {ps : List Str} {g : List D → Sto → R D} {cn : Str}
theorem ins_at {H : Hp} {L : Lv} {μ : Sto} {v : V} {d : D} {nd : List Str × List D} (hcls : P.cls cn = some C) (s : St3 P H L μ) (r : Rep P H L v d) (e : insAt cn μ d = some nd) : ∃ a dx fs, v = .ref a ∧ H a = some (.ins C dx fs) := by
  obtain ⟨ns, ds⟩ := nd
  obtain ⟨j, ej, hj⟩ := insAt_eq e
  subst ej
  obtain ⟨a, C', dx, vs, ev, _, ha, hcl, _, _⟩ := ins_ok s r hj
  obtain rfl : C = C' := by rw [hcls] at hcl; exact Option.some.inj hcl
  exact ⟨a, dx, _, ev, ha⟩
/-- what stands behind nox, with no refusal -/
theorem post_bind {E : XK} {H : Hp} {L : Lv} {r : R D} {f : D → Sto → R D} {q : D → Lv → Hp → Prop} (h : Post P E L H q (r.nox.bind f)) : Post P E0 L H (fun d L' H' => ∀ μ', r = .ok d μ' → St3 P H' L' μ' → Ext P L H L' H' → Post P E L' H' q (f d μ')) r := by
  cases r with
  | ok a μ => exact fun L' H' x s μ' e s2 _ => by cases e; exact Post.ext x h
  | exc _ _ _ _ => exact h.elim
  | bad => exact h
theorem os_eqO (hcls : P.cls cn = some C) : OpS P (rEqO C (spF P 2 g)) (dEqO cn g) := by
  intro E L H μ x y a b Q s ra rb q
  unfold dEqO at q
  cases e1 : insAt cn μ a with
  | none => rw [e1] at q; exact q.elim
  | some n1 =>
    cases e2 : insAt cn μ b with
    | none => rw [e1, e2] at q; exact q.elim
    | some n2 =>
      rw [e1, e2] at q
      obtain ⟨a1, dx, fs, rfl, ha⟩ := ins_at hcls s ra e1
      obtain ⟨b1, dy, gs, rfl, hb⟩ := ins_at hcls s rb e2
      exact ⟨a1, dx, fs, b1, dy, gs, rfl, rfl, ha, hb, rfl, L, [a, b], μ, .cons ra (.cons rb .nil), s, nox_post q⟩
theorem os_neO (hcls : P.cls cn = some C) : OpS P (rNeO C (spF P 2 g)) (dNeO cn g) := by
  intro E L H μ x y a b Q s ra rb q
  unfold dNeO at q
  cases e1 : insAt cn μ a with
  | none => rw [e1] at q; exact q.elim
  | some n1 =>
    cases e2 : insAt cn μ b with
    | none => rw [e1, e2] at q; exact q.elim
    | some n2 =>
      rw [e1, e2] at q
      obtain ⟨a1, dx, fs, rfl, ha⟩ := ins_at hcls s ra e1
      obtain ⟨b1, dy, gs, rfl, hb⟩ := ins_at hcls s rb e2
      refine ⟨a1, dx, fs, b1, dy, gs, rfl, rfl, ha, hb, rfl, L, [a, b], μ, .cons ra (.cons rb .nil), s, ?_⟩
      have z := post_bind q
      cases er : g [a, b] μ with
      | bad => rw [er] at z; exact z
      | exc _ _ _ _ => rw [er] at z; exact z
      | ok d μ' =>
        rw [er] at z
        intro L' H' x' s' v rv
        have z2 := z L' H' x' s' μ' rfl s' x'
        cases d with
        | bl t =>
          cases rv
          exact ⟨t, rfl, z2 L' H' .refl s' _ (.bl _)⟩
        | _ => exact z2.elim
theorem plnO_ok {H : Hp} {L : Lv} {v : V} {d : D} (hK : P.K = X.K) (r : Rep P H L v d) (e : plnO d = true) : plnV X.K H v := by
  cases r with
  | non => exact .inl rfl
  | int i => exact .inr (.inl ⟨i, rfl⟩)
  | str z => exact .inr (.inr (.inl ⟨z, rfl⟩))
  | tup h r => exact .inr (.inr (.inr ⟨_, _, rfl, hK ▸ h.sq⟩))
  | _ => cases e
theorem miss_ok (hK : P.K = X.K) (hcls : P.cls cn = some C) {a l : Addr} {all : List V} {x : D} {E : XK} {Q : VK} : ∀ {ds : List D} {vs : List V} {L : Lv} {H : Hp} {μ : Sto}, St3 P H L μ → Rep P H L (.ref a) x → Reps P H L vs ds → H l = some (.lst all) → ¬ L.has l →
    Post P E L H (fun d L' H' => ∀ v, Rep P H' L' v d → Q v H') (missD cn g x ds μ) → missV X.K C (spF P 2 g) a l all vs H Q
  | [], _, L, H, μ, s, rx, .nil, hl, nl, q => q L H .refl s _ (.bl _)
  | d :: ds, _, L, H, μ, s, rx, .cons (v := v) (vs := vs) rv rr, hl, nl, q => by
    unfold missD at q
    by_cases c : plnO d = true
    case neg => rw [if_neg c] at q; exact q.elim
    rw [if_pos c] at q
    refine ⟨plnO_ok hK rv c, rfl, L, [x, d], μ, .cons rx (.cons rv .nil), s, ?_⟩
    have z := post_bind q
    cases er : g [x, d] μ with
    | bad => rw [er] at z; exact z
    | exc _ _ _ _ => rw [er] at z; exact z
    | ok r μ' =>
      rw [er] at z
      intro L' H' x' s' w rw'
      have z2 := z L' H' x' s' μ' rfl s' x'
      have kp := Rd.keep3 x'.toExt0 (.inl hl) (fun ps z => nomatch z) nl
      have hl' : H' l = some (.lst all) := x'.keep l _ hl (fun ps z => nomatch z) nl
      cases r with
      | bl t =>
        cases t with
        | true => exact z2.elim
        | false =>
          cases e1 : insAt cn μ' x with
          | none =>
            have z2 : Post P E L' H' (fun d L' H' => ∀ v, Rep P H' L' v d → Q v H') (match D.bl false, insAt cn μ' x with
              | .bl false, some _ => missD cn g x ds μ'
              | _, _ => .bad) := z2
            rw [e1] at z2; exact z2.elim
          | some nd =>
            have z2 : Post P E L' H' (fun d L' H' => ∀ v, Rep P H' L' v d → Q v H') (match D.bl false, insAt cn μ' x with
              | .bl false, some _ => missD cn g x ds μ'
              | _, _ => .bad) := z2
            rw [e1] at z2
            obtain ⟨a1, dx, fs, ea, ha⟩ := ins_at hcls s' (rx.ext x') e1
            cases ea
            cases rw'
            exact ⟨rfl, hl', ⟨dx, fs, ha⟩, miss_ok hK hcls s' (rx.ext x') (rr.ext x') hl' kp.2 z2⟩
      | _ => exact z2.elim
theorem os_inO (hK : P.K = X.K) (hcls : P.cls cn = some C) : OpS P (rInO X.K C (spF P 2 g)) (dInO cn g) := by
  intro E L H μ x y a b Q s ra rb q
  unfold dInO at q
  cases e1 : insAt cn μ a with
  | none => rw [e1] at q; exact q.elim
  | some n1 =>
    rw [e1] at q
    obtain ⟨a1, dx, fs, rfl, ha⟩ := ins_at hcls s ra e1
    cases b with
    | lst ds =>
      cases rb with
      | @lst l vs _ h n r => exact ⟨a1, dx, fs, l, vs, rfl, rfl, ha, h, miss_ok hK hcls s ra r h n q⟩
    | _ => exact q.elim
theorem cs_lenO (hcls : P.cls cn = some C) : CallS P (rLenO C (spF P 1 g)) (un (dLenO cn g)) := by
  refine cs_un fun E L H μ v d Q s rv q => ?_
  unfold dLenO at q
  cases e1 : insAt cn μ d with
  | none => rw [e1] at q; exact q.elim
  | some n1 =>
    rw [e1] at q
    obtain ⟨a1, dx, fs, rfl, ha⟩ := ins_at hcls s rv e1
    refine ⟨a1, dx, fs, rfl, ha, rfl, L, [d], μ, .cons rv .nil, s, ?_⟩
    have z := post_bind q
    cases er : g [d] μ with
    | bad => rw [er] at z; exact z
    | exc _ _ _ _ => rw [er] at z; exact z
    | ok r μ' =>
      rw [er] at z
      intro L' H' x' s' w rw'
      have z2 := z L' H' x' s' μ' rfl s' x'
      cases r with
      | int i =>
        have z2 : Post P E L' H' (fun d L' H' => ∀ v, Rep P H' L' v d → Q v H') (if 0 ≤ i ∧ i < 2 ^ 63 then .ok (.int i) μ' else .bad) := z2
        by_cases c : 0 ≤ i ∧ i < 2 ^ 63
        case neg => rw [if_neg c] at z2; exact z2.elim
        rw [if_pos c] at z2
        cases rw'
        exact ⟨i, rfl, c, z2 L' H' .refl s' _ (.int _)⟩
      | _ => exact z2.elim
theorem cs_reprO (hcls : P.cls cn = some C) : CallS P (rReprO C (spF P 1 g)) (un (dReprO cn g)) := by
  refine cs_un fun E L H μ v d Q s rv q => ?_
  unfold dReprO at q
  cases e1 : insAt cn μ d with
  | none => rw [e1] at q; exact q.elim
  | some n1 =>
    rw [e1] at q
    obtain ⟨a1, dx, fs, rfl, ha⟩ := ins_at hcls s rv e1
    refine ⟨a1, dx, fs, rfl, ha, rfl, L, [d], μ, .cons rv .nil, s, ?_⟩
    have z := post_bind q
    cases er : g [d] μ with
    | bad => rw [er] at z; exact z
    | exc _ _ _ _ => rw [er] at z; exact z
    | ok r μ' =>
      rw [er] at z
      intro L' H' x' s' w rw'
      have z2 := z L' H' x' s' μ' rfl s' x'
      cases r with
      | str zt =>
        cases rw'
        exact ⟨zt, rfl, z2 L' H' .refl s' _ (.str _)⟩
      | _ => exact z2.elim
theorem truO_ok (hcls : P.cls cn = some C) {E : XK} {L : Lv} {H : Hp} {μ : Sto} {v : V} {d : D} {Q : Bool → Hp → Prop} (s : St3 P H L μ) (rv : Rep P H L v d) (q : Post P E L H (fun b L' H' => Q b H') (truO cn g d μ)) : rTruO C (spF P 1 g) v H Q := by
  unfold truO at q
  cases e1 : insAt cn μ d with
  | none => rw [e1] at q; exact q.elim
  | some n1 =>
    rw [e1] at q
    obtain ⟨a1, dx, fs, rfl, ha⟩ := ins_at hcls s rv e1
    refine ⟨a1, dx, fs, rfl, ha, rfl, L, [d], μ, .cons rv .nil, s, ?_⟩
    cases er : g [d] μ with
    | bad => rw [er] at q; exact q.elim
    | exc _ _ _ _ => rw [er] at q; exact q.elim
    | ok r μ' =>
      rw [er] at q
      intro L' H' x' s' w rw'
      cases r with
      | int i =>
        have z2 : Post P E L H (fun b L' H' => Q b H') (if 0 ≤ i ∧ i < 2 ^ 63 then .ok (i != 0) μ' else .bad) := q
        by_cases c : 0 ≤ i ∧ i < 2 ^ 63
        case neg => rw [if_neg c] at z2; exact z2.elim
        rw [if_pos c] at z2
        cases rw'
        exact ⟨i, rfl, c, z2 L' H' x' s'⟩
      | _ => exact q.elim
theorem cs_boolO (hcls : P.cls cn = some C) : CallS P (rBoolO C (spF P 1 g)) (un (dBoolO cn g)) := by
  refine cs_un fun E L H μ v d Q s rv q => ?_
  unfold dBoolO at q
  have q2 : Post P E L H (fun b L' H' => Q (.bl b) H') (truO cn g d μ) := by
    cases er : truO cn g d μ with
    | bad => rw [er] at q; exact q
    | exc _ _ _ _ => rw [er] at q; exact q
    | ok b μ' =>
      rw [er] at q
      exact fun L' H' x' s' => q L' H' x' s' _ (.bl _)
  obtain ⟨a, dx, fs, rfl, ha, q3⟩ := truO_ok hcls s rv q2
  exact ⟨a, dx, fs, rfl, ha, q3⟩
theorem ve_isiO {T : Str} {p p2 pos : Pos} {a : Expr} {f1 : SE} (hK : P.K = X.K) (hcls : P.cls cn = some C) (hcl : Cls X.K C) (c : OZ.OwC X.K C) (hg : Gl X "isinstance") (hm : X.mg "isinstance" = none) (ha : VE P W X a f1) (hT : PE X (.Name T p2) (tC (.ref C)))
    (hs2 : starEach [a, .Name T p2] X.env = (false, eval a X.env) :: starEach [.Name T p2] X.env := by rfl) (hs1 : starEach [.Name T p2] X.env = (false, eval (.Name T p2) X.env) :: starEach [] X.env := by rfl)
    (hpl : (backTo pos (starEach [.Name T p2] X.env)).any (·.1) = false := by rfl) : VE P W X (.Call (.Name "isinstance" p) [a, .Name T p2] [] pos) (eU (dIsO cn) f1) :=
  (pe_callB call_isi hg hm PyProof.Rows.boot_isinstance (pa_cons ha (pa_cons hT pa_nil hs1) hs2) (by decide) (by decide) hs2 hpl).imp3 fun σ H Q ⟨L, ρ, μ, rs, st, q⟩ => by
    refine tV.first rs st q fun d μ1 v L1 H1 x1 s1 r1 rs1 q1 => ?_
    have q1 : Post P (WE W σ) L1 H1 (fun d L' H' => ∀ v, Rep P H' L' v d → Q v H') (dIsO cn d μ1) := q1
    unfold dIsO at q1
    cases e : insAt cn μ1 d with
    | some nd =>
      rw [e] at q1
      obtain ⟨a1, dx, fs, rfl, hh⟩ := ins_at hcls s1 r1 e
      exact ⟨.ref a1, .ref C, .ref C, .ref C, true, rfl, .own _, .base (.ins hh hcl c.cl c.cg c.ck c.ob), by unfold PySem.W.kitOne; simp, q1 L1 H1 .refl s1 _ (.bl _)⟩
    | none =>
      rw [e] at q1
      by_cases cp : plnO d = true
      case neg =>
        have q1 : Post P (WE W σ) L1 H1 (fun d L' H' => ∀ v, Rep P H' L' v d → Q v H') (if plnO d = true then .ok (.bl false) μ1 else .bad) := q1
        rw [if_neg cp] at q1; exact q1.elim
      have q1 : Post P (WE W σ) L1 H1 (fun d L' H' => ∀ v, Rep P H' L' v d → Q v H') (if plnO d = true then .ok (.bl false) μ1 else .bad) := q1
      rw [if_pos cp] at q1
      have fin := q1 L1 H1 .refl s1 _ (.bl _)
      cases r1 with
      | non => exact ⟨.non, .ref C, .type "NoneType", .ref C, false, rfl, .own _, .base .non, c.k0, fin⟩
      | int i => exact ⟨.int i, .ref C, .type "int", .ref C, false, rfl, .own _, .base (.int i), c.k1, fin⟩
      | str z => exact ⟨.str z, .ref C, .type "str", .ref C, false, rfl, .own _, .base (.str z), c.k2, fin⟩
      | @tup ta vs ds h r =>
        refine ⟨.ref ta, .ref C, .type "tuple", .ref C, false, rfl, .own _, ?_, c.k3, fin⟩
        rcases h with ⟨h | ⟨o, h⟩, n⟩ | ⟨o, its, n, h1, h2, _⟩
        · exact .base (.tup h)
        · exact .fTuple h
        · rw [hK] at h1; exact .kTuple h1 h2
      | _ => cases cp
theorem pe_notR {a : Expr} {ta : TE} {r : V → Hp → (Bool → Hp → Prop) → Prop} {pos : Pos} (ha : PE X a ta) (hr : TruR X r) : PE X (.UnaryOp .Not a pos) (fun σ H Q => ta σ H fun x H1 => r x H1 fun c H2 => Q (.bl (!c)) H2) := by
  refine ⟨fun pins s σ H Q I h => ?_⟩
  refine UnaryOp_ (thn (ha.run pins s σ H _ I h) fun v s1 ⟨x, H1, I1, r1, q1⟩ => ?_)
  exact not_of (thn (hr pins s1 σ H1 x v (fun c H2 => Q (.bl (!c)) H2) I1 r1 q1) fun c s2 ⟨H2, I2, q2⟩ => ⟨.bl (!c), H2, I2, rfl, q2⟩)
def eNotO (cn : Str) (g : List D → Sto → R D) (fe : SE) : SE := fun ρ μ => (fe ρ μ).bind fun d μ1 => (truO cn g d μ1).bind fun b μ2 => .ok (.bl (!b)) μ2
theorem ve_notO {e : Expr} {fe : SE} {pos : Pos} (hcls : P.cls cn = some C) (hm : Meth X.K C "__len__" fA) (c : OZ.OwC X.K C) (F : FnOk X.prog X.w X.K X.mg X.base (CXF X) k fA fd ps (spF P 1 g)) (hr : Room (k + 1) X.A) (hb : Binds X.K fd ps []) (he : VE P W X e fe) : VE P W X (.UnaryOp .Not e pos) (eNotO cn g fe) :=
  (pe_notR he (tru_own hm c F hr hb)).imp3 fun σ H Q ⟨L, ρ, μ, rs, st, q⟩ => by
    refine tV.first rs st q fun d μ1 v L1 H1 x1 s1 r1 rs1 q1 => ?_
    have q2 : Post P (WE W σ) L1 H1 (fun b L' H' => Q (.bl (!b)) H') (truO cn g d μ1) := by
      have q1 : Post P (WE W σ) L1 H1 (fun d L' H' => ∀ v, Rep P H' L' v d → Q v H') ((truO cn g d μ1).bind fun b μ2 => .ok (.bl (!b)) μ2) := q1
      cases er : truO cn g d μ1 with
      | bad => rw [er] at q1; exact q1
      | exc _ _ _ _ => rw [er] at q1; exact q1
      | ok b μ' =>
        rw [er] at q1
        exact fun L' H' x' s' => q1 L' H' x' s' _ (.bl _)
    exact truO_ok hcls s1 r1 q2
end
end L3

/-! ### dict == dict by deep values; rules for the own operators -/
namespace L3
open PySem PySem.Spec PySem.Calls PyProof.Rows L2
def valP : List Key → List PyData → Key → Option PyData
  | [], _, _ => none
  | k :: ks, p :: ps, q => if k = q then some p else valP ks ps q
  | _ :: _, [], _ => none
def eqPairs (js : List Key) (qs : List PyData) : List Key → List PyData → Bool
  | k :: ks, p :: ps => (match valP js qs k with
    | some e => PyData.eqv p e && eqPairs js qs ks ps
    | none => false)
  | _, _ => true
def DpS (K : PySem.W.Frag) (H : Hp) : List V → List PyData → Prop := Paired fun v p => Dp K H v p ∧ SeqAt.shaped p = true
def rEqDk (K : PySem.W.Frag) : R2 := fun x y H Q => ∃ a b ks us js ws ps qs, x = V.ref a ∧ y = V.ref b ∧ Rd H a (.dK ((ks : List Key).zip us)) ∧ Rd H b (.dK ((js : List Key).zip ws)) ∧ ks.length = us.length ∧ js.length = ws.length ∧ DpS K H us ps ∧ DpS K H ws qs ∧ Q (.bl (decide (ks.length = js.length) && eqPairs js qs ks ps)) H
section
variable {P : Pm} {X : Cx} {H : Hp} {L : Lv} {μ : Sto}
theorem valP_ok {K : PySem.W.Frag} (q : Key) : ∀ {js : List Key} {ws : List V} {qs : List PyData}, DpS K H ws qs → js.length = ws.length →
    (valP js qs q = none ∧ valV (js.zip ws) q = none) ∨ ∃ p v, valP js qs q = some p ∧ valV (js.zip ws) q = some v ∧ Dp K H v p ∧ SeqAt.shaped p = true
  | [], _, _, _, _ => .inl ⟨by unfold valP; rfl, rfl⟩
  | k :: js, [], _, _, l => by cases l
  | k :: js, w :: ws, _, .cons (b := p) h t, l => by
    by_cases c : k = q
    · refine .inr ⟨p, w, by unfold valP; rw [if_pos c], ?_, h.1, h.2⟩
      rw [List.zip_cons_cons, valV_pos c]
    · rw [List.zip_cons_cons, valV_neg c]
      unfold valP
      rw [if_neg c]
      exact valP_ok q t (by simpa using l)
theorem hits_eq {pins : List (Addr × Obj)} {σ : Slots} {s : Shared} (I : Inv X pins σ H s) (hu : X.A.units + 65 < cLine) {js : List Key} {ws : List V} {qs : List PyData} (lj : js.length = ws.length) (dw : DpS X.K H ws qs) {vb : List (Key × Value)} (rb : KV (js.zip ws) vb) :
    ∀ {ks : List Key} {us : List V} {ps : List PyData} {va : List (Key × Value)}, ks.length = us.length → DpS X.K H us ps → KV (ks.zip us) va → PySem.W.KeqHits X.A.in1 s vb va (eqPairs js qs ks ps)
  | [], _, _, va, _, _, ra => by
    rw [List.zip_nil_left] at ra
    cases ra
    unfold eqPairs
    exact .nil
  | k :: ks, [], _, _, l, _, _ => by cases l
  | k :: ks, u :: us, _, va, l, .cons (b := p) (l₂ := ps) h t, ra => by
    rw [List.zip_cons_cons] at ra
    cases ra with
    | @cons _ q _ qs2 hq tl =>
      obtain ⟨hk, hv⟩ := hq
      obtain ⟨k2, v2⟩ := q
      have hk : k = k2 := hk
      subst hk
      have ih := hits_eq I hu lj dw rb (ks := ks) (by simpa using l) t tl
      unfold eqPairs
      rcases valP_ok k dw lj with ⟨n1, n2⟩ | ⟨e, w, n1, n2, d1, d2⟩
      · rw [n1]
        have rr : RelO (none : Option V) (valueAt vb k) := n2 ▸ rb.val k
        cases ev : valueAt vb k with
        | none => exact .miss ev
        | some y => rw [ev] at rr; exact rr.elim
      · rw [n1]
        have rr : RelO (some w) (valueAt vb k) := n2 ▸ rb.val k
        obtain ⟨y, ey, ry⟩ := rr.some_of
        obtain ⟨as, rd1⟩ := Dp.reads I p _ _ h.1 hv
        obtain ⟨bs, rd2⟩ := Dp.reads I e _ _ d1 ry
        have at_ := PySem.W.keq_at rd1 rd2 h.2 d2 (by show X.A.units + 1 + 64 < cLine; omega)
        exact PySem.W.KeqHits.hit (k := k) ey at_ ih
theorem op_eqDk (hu : X.A.units + 65 < cLine) : OpR X (compareOp .Eq) (rEqDk X.K) := by
  intro pins s σ H x y v u Q I rx ry ⟨a, b, ks, us, js, ws, ps, qs, ex, ey, ha, hb, l1, l2, d1, d2, q⟩
  subst ex ey
  obtain rfl : v = Value.ref a := rx
  obtain rfl : u = Value.ref b := ry
  obtain ⟨_, na, va, ra, da⟩ := (show ObjOk X.prog X.w H s.heap a (.dK (ks.zip us)) from ha.ok I.hok)
  obtain ⟨_, nb, vb, rb, db⟩ := (show ObjOk X.prog X.w H s.heap b (.dK (js.zip ws)) from hb.ok I.hok)
  have e1 : va.length = ks.length := by rw [← ra.length, List.length_zip]; omega
  have e2 : vb.length = js.length := by rw [← rb.length, List.length_zip]; omega
  refine PySem.W.keq_eq (r := eqPairs js qs ks ps) (knd := mixKind X.prog X.w) na nb da db (by omega) (fun _ => hits_eq I hu l2 d2 rb l1 d1 ra) ?_
  exact fin_bl I q (by rw [e1, e2]; by_cases c : ks.length = js.length <;> simp [c])
def dEqDk : D → D → Sto → R D := fun a b μ => match dctAt μ a, dctAt μ b with
  | some (ks, ds), some (js, es) => (match ds.mapM (pyD 12 μ), es.mapM (pyD 12 μ) with
    | some ps, some qs => if ps.all SeqAt.shaped = true ∧ qs.all SeqAt.shaped = true then .ok (.bl (decide (ks.length = js.length) && eqPairs js qs ks ps)) μ else .bad
    | _, _ => .bad)
  | _, _ => .bad
theorem dpS_of (hK : P.K = X.K) (s : St3 P H L μ) : ∀ {vs : List V} {ds : List D} {ps : List PyData}, Reps P H L vs ds → ds.mapM (pyD 12 μ) = some ps → ps.all SeqAt.shaped = true → DpS X.K H vs ps
  | _, _, _, .nil, e, _ => by cases e; exact .nil
  | _, _, _, .cons (d := d) (ds := ds) h r, e, c => by
    rw [List.mapM_cons] at e
    cases e1 : pyD 12 μ d with
    | none => rw [e1] at e; cases e
    | some d1 =>
      cases e2 : ds.mapM (pyD 12 μ) with
      | none => rw [e1, e2] at e; cases e
      | some ds1 =>
        rw [e1, e2] at e
        cases e
        rw [List.all_cons] at c
        obtain ⟨c1, c2⟩ := Bool.and_eq_true_iff.mp c
        exact .cons ⟨pyD_ok hK s 12 _ _ _ h e1, c1⟩ (dpS_of hK s r e2 c2)
theorem os_eqDk (hK : P.K = X.K) : OpS P (rEqDk X.K) dEqDk := by
  intro E L H μ x y a b Q s ra rb q
  unfold dEqDk at q
  cases e1 : dctAt μ a with
  | none => rw [e1] at q; exact q.elim
  | some kd =>
    cases e2 : dctAt μ b with
    | none => rw [e1, e2] at q; exact q.elim
    | some ke =>
      obtain ⟨ks, ds⟩ := kd
      obtain ⟨js, es⟩ := ke
      rw [e1, e2] at q
      dsimp only at q
      cases e3 : ds.mapM (pyD 12 μ) with
      | none => rw [e3] at q; exact q.elim
      | some ps =>
        cases e4 : es.mapM (pyD 12 μ) with
        | none => rw [e3, e4] at q; exact q.elim
        | some qs =>
          rw [e3, e4] at q
          dsimp only at q
          by_cases c : ps.all SeqAt.shaped = true ∧ qs.all SeqAt.shaped = true
          case neg => rw [if_neg c] at q; exact q.elim
          rw [if_pos c] at q
          obtain ⟨a1, vs, rfl, h1, l1, r1⟩ := dct_ok s ra e1
          obtain ⟨a2, us, rfl, h2, l2, r2⟩ := dct_ok s rb e2
          exact ⟨a1, a2, ks, vs, js, us, ps, qs, rfl, rfl, h1, h2, l1, l2, dpS_of hK s r1 e3 c.1, dpS_of hK s r2 e4 c.2, q L H .refl s _ (.bl _)⟩
end
section
variable {Q : D → Sto → Prop} {E : Exs} {ρ : Env} {μ : Sto} {cn : Str} {g : List D → Sto → R D} {fe : SE} {a b d : D} {i j : Nat}
theorem wp_noxb {α β : Type} {r : R α} {f : α → Sto → R β} {Q : β → Sto → Prop} (h : r.wp (fun a μ1 => (f a μ1).wp Q E) noE) : (r.nox.bind f).wp Q E := by
  cases r with
  | ok a μ => exact h
  | exc _ _ _ _ => exact h.elim
  | bad => exact h
theorem wp_eqO {ns ms : List Str} {ds es : List D} (h1 : μ[i]? = some (.ins cn ns ds)) (h2 : μ[j]? = some (.ins cn ms es)) (h : (g [.cell i, .cell j] μ).wp Q noE) : (dEqO cn g (.cell i) (.cell j) μ).wp Q E := by
  unfold dEqO
  rw [insAt_cell h1, insAt_cell h2]
  cases e : g [.cell i, .cell j] μ with
  | ok a μ => rw [e] at h; exact h
  | exc _ _ _ _ => rw [e] at h; exact h.elim
  | bad => rw [e] at h; exact h
theorem wp_neO {ns ms : List Str} {ds es : List D} (h1 : μ[i]? = some (.ins cn ns ds)) (h2 : μ[j]? = some (.ins cn ms es)) (h : (g [.cell i, .cell j] μ).wp (fun d μ1 => ∃ t, d = .bl t ∧ Q (.bl (!t)) μ1) noE) : (dNeO cn g (.cell i) (.cell j) μ).wp Q E := by
  unfold dNeO
  rw [insAt_cell h1, insAt_cell h2]
  exact wp_noxb (wp_mono h (fun d μ1 ⟨t, e, q⟩ => by subst e; exact q) fun _ _ _ _ z => z)
theorem wp_lenO {ns : List Str} {ds : List D} (h1 : μ[i]? = some (.ins cn ns ds)) (h : (g [.cell i] μ).wp (fun d μ1 => ∃ n : Int, d = .int n ∧ (0 ≤ n ∧ n < 2 ^ 63) ∧ Q d μ1) noE) : (dLenO cn g (.cell i) μ).wp Q E := by
  unfold dLenO
  rw [insAt_cell h1]
  exact wp_noxb (wp_mono h (fun d μ1 ⟨n, e, c, q⟩ => by subst e; dsimp only; rw [if_pos c]; exact q) fun _ _ _ _ z => z)
theorem wp_reprO {ns : List Str} {ds : List D} (h1 : μ[i]? = some (.ins cn ns ds)) (h : (g [.cell i] μ).wp (fun d μ1 => ∃ z, d = .str z ∧ Q d μ1) noE) : (dReprO cn g (.cell i) μ).wp Q E := by
  unfold dReprO
  rw [insAt_cell h1]
  exact wp_noxb (wp_mono h (fun d μ1 ⟨n, e, q⟩ => by subst e; exact q) fun _ _ _ _ z => z)
theorem wp_truO {Q : Bool → Sto → Prop} {ns : List Str} {ds : List D} (h1 : μ[i]? = some (.ins cn ns ds)) (h : (g [.cell i] μ).wp (fun d μ1 => ∃ n : Int, d = .int n ∧ (0 ≤ n ∧ n < 2 ^ 63) ∧ Q (n != 0) μ1) noE) : (truO cn g (.cell i) μ).wp Q E := by
  unfold truO
  rw [insAt_cell h1]
  exact wp_noxb (wp_mono h (fun d μ1 ⟨n, e, c, q⟩ => by subst e; dsimp only; rw [if_pos c]; exact q) fun _ _ _ _ z => z)
theorem wp_boolO {ns : List Str} {ds : List D} (h1 : μ[i]? = some (.ins cn ns ds)) (h : (g [.cell i] μ).wp (fun d μ1 => ∃ n : Int, d = .int n ∧ (0 ≤ n ∧ n < 2 ^ 63) ∧ Q (.bl (n != 0)) μ1) noE) : (dBoolO cn g (.cell i) μ).wp Q E :=
  wp_bind (wp_truO h1 h)
theorem wp_eTO {Q : Bool → Sto → Prop} (h : (fe ρ μ).wp (fun d μ1 => (truO cn g d μ1).wp Q E) E) : (eTO cn g fe ρ μ).wp Q E := wp_bind h
theorem wp_notO (h : (fe ρ μ).wp (fun d μ1 => (truO cn g d μ1).wp (fun b μ2 => Q (.bl (!b)) μ2) E) E) : (eNotO cn g fe ρ μ).wp Q E := wp_bind (wp_mono h (fun _ _ z => wp_bind z) fun _ _ _ _ z => z)
theorem wp_isO {ns : List Str} {ds : List D} (h1 : μ[i]? = some (.ins cn ns ds)) (q : Q (.bl true) μ) : (dIsO cn (.cell i) μ).wp Q E := by
  unfold dIsO
  rw [insAt_cell h1]
  exact q
theorem wp_isO0 (h1 : plnO d = true) (q : Q (.bl false) μ) : (dIsO cn d μ).wp Q E := by
  have e : insAt cn μ d = none := by cases d <;> first | rfl | cases h1
  unfold dIsO
  rw [e]
  dsimp only
  rw [if_pos h1]
  exact q
theorem wp_inO {xs : List D} {ns : List Str} {ds : List D} (h1 : μ[i]? = some (.ins cn ns ds)) (h : (missD cn g (.cell i) xs μ).wp Q E) : (dInO cn g (.cell i) (.lst xs) μ).wp Q E := by
  unfold dInO
  rw [insAt_cell h1]
  exact h
theorem wp_miss0 (q : Q (.bl false) μ) : (missD cn g a [] μ).wp Q E := q
theorem wp_miss1 {xs : List D} (c : plnO d = true) (h : (g [.cell i, d] μ).wp (fun b μ1 => b = .bl false ∧ (∃ ns ds, μ1[i]? = some (.ins cn ns ds)) ∧ (missD cn g (.cell i) xs μ1).wp Q E) noE) : (missD cn g (.cell i) (d :: xs) μ).wp Q E := by
  unfold missD
  rw [if_pos c]
  exact wp_noxb (wp_mono h (fun b μ1 ⟨e, ⟨ns, ds, hi⟩, q⟩ => by subst e; rw [insAt_cell hi]; exact q) fun _ _ _ _ z => z)
theorem wp_eqDk {ks js : List Key} {ds es : List D} {ps qs : List PyData} (h1 : dctAt μ a = some (ks, ds)) (h2 : dctAt μ b = some (js, es)) (h3 : ds.mapM (pyD 12 μ) = some ps) (h4 : es.mapM (pyD 12 μ) = some qs) (c1 : ps.all SeqAt.shaped = true) (c2 : qs.all SeqAt.shaped = true)
    (q : Q (.bl (decide (ks.length = js.length) && eqPairs js qs ks ps)) μ) : (dEqDk a b μ).wp Q E := by
  unfold dEqDk
  rw [h1, h2]
  dsimp only
  rw [h3, h4]
  dsimp only
  rw [if_pos ⟨c1, c2⟩]
  exact q
end
end L3

namespace Pf
open PySem PySem.Spec PyProof.Rows L2 L3
noncomputable def b__law_bag__1 : SS := (sSeq (sSet 1 (eC (.int 9454)))
  (sSeq (sFor (iAnyD (eSl dSl3 (eVar 0) oNone (oSome (eC (.int 63))))) (gSet 2) (sSet 1 (eB dMod (eB dAdd (eB dAdd (eB dMul (eVar 1) (eC (.int 48611))) (eB dMod (eVar 2) (eC (.int 2147483629)))) (eC (.int 23))) (eC (.int 2147483647)))))
  (sRet (eLstC (aCons (eCallB (un dListOf) (aCons (eSl dSl3 (eVar 0) oNone (oSome (eC (.int 63)))) aNil)) (aCons (eC (.int 0)) (aCons (eC (.int 0)) (aCons (eVar 1) (aCons (eC (.int 0)) aNil)))))))))
@[irreducible] noncomputable def f__law_bag__1 : List D → Sto → R D := fnF 3 b__law_bag__1
noncomputable def b__law_pull : SS := (sSeq (sIf (eAndT (eT (eB dEq (eB dIx (eVar 0) (eC (.int 2))) (eC (.int 0)))) (eT (eB dLt (eB dIx (eVar 0) (eC (.int 1))) (eCallB (un dLen) (aCons (eB dIx (eVar 0) (eC (.int 0))) aNil))))) (sSeq (sSet 2 (eB dIx (eB dIx (eVar 0) (eC (.int 0))) (eB dIx (eVar 0) (eC (.int 1)))))
  (sSeq (sSub (eB dAdd (eB dIx (eVar 0) (eC (.int 1))) (eC (.int 1))) (eVar 0) (eC (.int 1)))
  (sIf (eT (eB dGe (eVar 2) (eB dPow (eC (.int 10)) (eC (.int 18))))) (sSub (eVar 2) (eVar 0) (eC (.int 2))) (sSub (eB dMod (eB dAdd (eB dAdd (eB dMul (eB dIx (eVar 0) (eC (.int 3))) (eC (.int 40283))) (eB dMod (eVar 2) (eC (.int 2147483587)))) (eC (.int 7))) (eC (.int 2147483647))) (eVar 0) (eC (.int 3)))))) sNil)
  (sSeq (sIf (eT (eB dGt (eB dIx (eVar 0) (eC (.int 2))) (eC (.int 0)))) (sSeq (sSet 3 (eB dMod (eB dIx (eVar 0) (eC (.int 2))) (eVar 1)))
  (sSeq (sSub (eB dFdiv (eB dIx (eVar 0) (eC (.int 2))) (eVar 1)) (eVar 0) (eC (.int 2)))
  (sRet (eVar 3)))) sNil)
  (sSeq (sSub (eB dAdd (eB dIx (eVar 0) (eC (.int 4))) (eC (.int 1))) (eVar 0) (eC (.int 4)))
  (sSeq (sSet 4 (eB dMod (eB dAdd (eB dIx (eVar 0) (eC (.int 3))) (eB dMul (eB dIx (eVar 0) (eC (.int 4))) (eC (.int 7211)))) (eC (.int 2147483647))))
  (sSeq (sSub (eB dMod (eB dAdd (eB dAdd (eB dMul (eB dMod (eB dMul (eVar 4) (eVar 4)) (eC (.int 2147483629))) (eB dAdd (eB dMod (eVar 4) (eC (.int 30011))) (eC (.int 5)))) (eB dMul (eC (.int 20011)) (eVar 4))) (eC (.int 977))) (eC (.int 2147483647))) (eVar 0) (eC (.int 3)))
  (sRet (eB dMod (eB dAdd (eB dFdiv (eB dIx (eVar 0) (eC (.int 3))) (eC (.int 71))) (eB dMul (eB dMod (eB dIx (eVar 0) (eC (.int 3))) (eC (.int 8191))) (eC (.int 41)))) (eVar 1))))))))
@[irreducible] noncomputable def f__law_pull : List D → Sto → R D := fnF 5 b__law_pull
noncomputable def b__law_of : SS := (sRet (eB dIx (eVar 1) (eCall 2 f__law_pull (aCons (eVar 0) (aCons (eCallB (un dLen) (aCons (eVar 1) aNil)) aNil)))))
@[irreducible] noncomputable def f__law_of : List D → Sto → R D := fnF 2 b__law_of
noncomputable def b__law_abc : SS := (sSeq (sPar 2 3 (aCons (eCall 2 f__law_pull (aCons (eVar 0) (aCons (eC (.int 26)) aNil))) (aCons (eLstC aNil) aNil)))
  (sSeq (sSet 4 (eCall 2 f__law_of (aCons (eVar 0) (aCons (eLst (aCons (eC (.str "")) (aCons (eC (.str "")) (aCons (eC (.str "q")) (aCons (eC (.str "zzzzz")) (aCons (eC (.str "ab")) aNil)))))) aNil))))
  (sSeq (sSet 5 (eCall 2 f__law_pull (aCons (eVar 0) (aCons (eB dAdd (eCallB (un dLen) (aCons (eVar 4) aNil)) (eC (.int 1))) aNil))))
  (sSeq (sFor (iRange1 (aCons (eVar 1) aNil)) (gSet 6) (sSeq (sSet 7 (eB dIx (eC (.str "abcdefghijklmnopqrstuvwxyz")) (eB dMod (eB dAdd (eVar 2) (eB dMul (eC (.int 5)) (eVar 6))) (eC (.int 26)))))
  (sExpr (eM "list" dAppend (eVar 3) (aCons (eB dAdd (eB dAdd (eSl dSl3 (eVar 4) oNone (oSome (eVar 5))) (eVar 7)) (eSl dSl3 (eVar 4) (oSome (eVar 5)) oNone)) aNil)))))
  (sRet (eVar 3))))))
@[irreducible] noncomputable def f__law_abc : List D → Sto → R D := fnF 8 b__law_abc
noncomputable def b__law_gcd : SS := (sSeq (sWhile (eT (eB dNe (eVar 1) (eC (.int 0)))) (sPar 0 1 (aCons (eVar 1) (aCons (eB dMod (eVar 0) (eVar 1)) aNil))))
  (sRet (eCallB (un dAbsC) (aCons (eVar 0) aNil))))
@[irreducible] noncomputable def f__law_gcd : List D → Sto → R D := fnF 2 b__law_gcd
noncomputable def b__law_fr : SS := (sSeq (sSet 2 (eCall 2 f__law_gcd (aCons (eVar 0) (aCons (eVar 1) aNil))))
  (sSeq (sSet 2 (eIf (eT (eB dLt (eVar 1) (eC (.int 0)))) (eB dSub (eC (.int 0)) (eVar 2)) (eVar 2)))
  (sRet (eTup (aCons (eB dFdiv (eVar 0) (eVar 2)) (aCons (eB dFdiv (eVar 1) (eVar 2)) aNil))))))
@[irreducible] noncomputable def f__law_fr : List D → Sto → R D := fnF 3 b__law_fr
noncomputable def b__law_light : SS := (sRet (eCall 2 f__law_fr (aCons (eB dSub (eCall 2 f__law_pull (aCons (eVar 0) (aCons (eC (.int 9)) aNil))) (eC (.int 4))) (aCons (eB dIx (eLst (aCons (eC (.int 1)) (aCons (eC (.int 1)) (aCons (eC (.int 1)) (aCons (eC (.int 2)) (aCons (eC (.int 3)) (aCons (eC (.int 5)) aNil))))))) (eCall 2 f__law_pull (aCons (eVar 0) (aCons (eC (.int 6)) aNil)))) aNil))))
@[irreducible] noncomputable def f__law_light : List D → Sto → R D := fnF 1 b__law_light
noncomputable def b__law_engine : SS := (sSeq (sSet 3 (eCall 2 f__law_pull (aCons (eVar 0) (aCons (eB dAdd (eVar 2) (eC (.int 1))) aNil))))
  (sSeq (sSet 4 (eCall 2 f__law_pull (aCons (eVar 0) (aCons (eC (.int 3)) aNil))))
  (sSeq (sSet 5 eNewDC)
  (sSeq (sFor (iAnyD (eVar 1)) (gSet 6) (sDput (eLc [7] (iRange1 (aCons (eVar 3) aNil)) (gSet 7) tYesS (eLc [8] (iRange1 (aCons (eVar 3) aNil)) (gSet 8) tYesS (eIf (eT (eB dGe (eCall 2 f__law_pull (aCons (eVar 0) (aCons (eC (.int 3)) aNil))) (eVar 4))) (eCall 1 f__law_light (aCons (eVar 0) aNil)) (eTup (aCons (eC (.int 0)) (aCons (eC (.int 1)) aNil)))))) (eVar 5) (eVar 6)))
  (sRet (eTup (aCons (eVar 1) (aCons (eLc [8] (iRange1 (aCons (eVar 3) aNil)) (gSet 8) tYesS (eCall 1 f__law_light (aCons (eVar 0) aNil))) (aCons (eVar 5) (aCons (eLc [8] (iRange1 (aCons (eVar 3) aNil)) (gSet 8) tYesS (eCall 1 f__law_light (aCons (eVar 0) aNil))) aNil))))))))))
@[irreducible] noncomputable def f__law_engine : List D → Sto → R D := fnF 9 b__law_engine
noncomputable def b_is_letter : SS := (sRet (eAndV (eChain dLe dLe (eC (.int 1)) (eCallB (un dLen) (aCons (eVar 0) aNil)) (eC (.int 6))) (eCallB (un dAll) (aCons (eLc [1] (iAnyD (eVar 0)) (gSet 1) tYesS (eB (dIn false) (eVar 1) (eC (.str "abcdefghijklmnopqrstuvwxyz")))) aNil))))
@[irreducible] noncomputable def f_is_letter : List D → Sto → R D := fnF 2 b_is_letter
noncomputable def b_good_lines : SS := (sRet (eAndV (eB dEq (eCallB (un dLen) (aCons (eVar 0) aNil)) (eVar 1)) (eCallB (un dAll) (aCons (eLc [2] (iAnyD (eVar 0)) (gSet 2) tYesS (eB dEq (eCallB (un dLen) (aCons (eVar 2) aNil)) (eVar 1))) aNil))))
@[irreducible] noncomputable def f_good_lines : List D → Sto → R D := fnF 3 b_good_lines
noncomputable def b_Machine___init__ : SS := (sSeq (sSet 5 (eCallB (un dLen) (aCons (eVar 2) aNil)))
  (sSeq (sSet 6 (eIdx 7 (eU dSetC (eVar 1))))
  (sSeq (sIf (eOrT (eT (eB dNe (eCallB (un dLen) (aCons (eVar 4) aNil)) (eVar 5))) (eOrT (eT (eB dLt (eCallB (un dLenSt) (aCons (eVar 6) aNil)) (eCallB (un dLen) (aCons (eVar 1) aNil)))) (eT (eB dNe (eCallB (un dSortL) (aCons (eVar 1) aNil)) (eCallB (un dSortK) (aCons (eVar 3) aNil)))))) (sRaise "BadMachine" 0 ["word"] (fun _ => [.str "BadMachine"]) aNil) sNil)
  (sSeq (sIf (eNotT (eT (eCallB (un dAll) (aCons (eLc [7] (iAnyD (eVar 1)) (gSet 7) tYesS (eAndV (eCall 1 f_is_letter (aCons (eVar 7) aNil)) (eCall 2 f_good_lines (aCons (eB dDix (eVar 3) (eVar 7)) (aCons (eVar 5) aNil))))) aNil)))) (sRaise "BadMachine" 0 ["word"] (fun _ => [.str "BadMachine"]) aNil) sNil)
  (sSeq (sFset "Machine" "signs" (eCallB (un dSortL) (aCons (eVar 1) aNil)) (eVar 0))
  (sSeq (sFset "Machine" "first" (eCallB (un dListOf) (aCons (eVar 2) aNil)) (eVar 0))
  (sSeq (sFset "Machine" "last" (eCallB (un dListOf) (aCons (eVar 4) aNil)) (eVar 0))
  (sFset "Machine" "ways" (eDc [7] (iAnyD (eVar 1)) (gSet 7) (eVar 7) (eLc [8] (iAnyD (eB dDix (eVar 3) (eVar 7))) (gSet 8) tYesS (eCallB (un dListOf) (aCons (eVar 8) aNil)))) (eVar 0)))))))))
@[irreducible] noncomputable def f_Machine___init__ : List D → Sto → R D := fnF 9 b_Machine___init__
noncomputable def b__law_builds : SS := (sRet (eMakeX "Machine" 5 f_Machine___init__ (aCons (eB dIx (eVar 0) (eC (.int 0))) (aCons (eB dIx (eVar 0) (eC (.int 1))) (aCons (eB dIx (eVar 0) (eC (.int 2))) (aCons (eB dIx (eVar 0) (eC (.int 3))) aNil))))))
@[irreducible] noncomputable def f__law_builds : List D → Sto → R D := fnF 1 b__law_builds
noncomputable def b_Machine___eq__ : SS := (sSeq (sIf (eOrT (eNotT (eT (eU (dIsO "Machine") (eVar 1)))) (eT (eB dNe (eU (dFld "Machine" "signs") (eVar 0)) (eU (dFld "Machine" "signs") (eVar 1))))) (sRet (eC (.bl false))) sNil)
  (sRet (eAndV (eB dEq (eU (dFld "Machine" "first") (eVar 0)) (eU (dFld "Machine" "first") (eVar 1))) (eAndV (eB dEq (eU (dFld "Machine" "last") (eVar 0)) (eU (dFld "Machine" "last") (eVar 1))) (eB dEqDk (eU (dFld "Machine" "ways") (eVar 0)) (eU (dFld "Machine" "ways") (eVar 1)))))))
@[irreducible] noncomputable def f_Machine___eq__ : List D → Sto → R D := fnF 2 b_Machine___eq__
noncomputable def b_Machine___repr__ : SS := (sRet (eJoined [(eC (.str "Machine(")), (eFmt (eCallB (un dLen) (aCons (eU (dFld "Machine" "first") (eVar 0)) aNil))), (eC (.str " rooms, ")), (eFmt (eCallB (un dLen) (aCons (eU (dFld "Machine" "signs") (eVar 0)) aNil))), (eC (.str " letters)"))]))
@[irreducible] noncomputable def f_Machine___repr__ : List D → Sto → R D := fnF 1 b_Machine___repr__
noncomputable def b_Machine___len__ : SS := (sRet (eCallB (un dLen) (aCons (eU (dFld "Machine" "first") (eVar 0)) aNil)))
@[irreducible] noncomputable def f_Machine___len__ : List D → Sto → R D := fnF 1 b_Machine___len__
noncomputable def b__law_same (rec__law_same : List D → Sto → R D) : SS := (sSeq (sIf (eT (eU (dIsi [.list, .tuple]) (eVar 1))) (sSeq (sIf (eOrT (eT (eB dNe (eU (dIsi [.list]) (eVar 0)) (eU (dIsi [.list]) (eVar 1)))) (eT (eB dNe (eU (dIsi [.tuple]) (eVar 0)) (eU (dIsi [.tuple]) (eVar 1))))) (sRet (eC (.bl false))) sNil)
  (sRet (eAndV (eB dEq (eCallB (un dLen) (aCons (eVar 0) aNil)) (eCallB (un dLen) (aCons (eVar 1) aNil))) (eCallB (un dAll) (aCons (eLc [2] (iRange1 (aCons (eCallB (un dLen) (aCons (eVar 1) aNil)) aNil)) (gSet 2) tYesS (eCall 2 rec__law_same (aCons (eB dIx (eVar 0) (eVar 2)) (aCons (eB dIx (eVar 1) (eVar 2)) aNil)))) aNil))))) sNil)
  (sSeq (sIf (eOrT (eT (eU dIsN (eVar 1))) (eT (eU dIsN (eVar 0)))) (sRet (eAndV (eU dIsN (eVar 0)) (eU dIsN (eVar 1)))) sNil)
  (sSeq (sIf (eOrT (eT (eB dNe (eU (dIsi [.bool]) (eVar 1)) (eU (dIsi [.bool]) (eVar 0)))) (eT (eB dNe (eU (dIsi [.int]) (eVar 1)) (eU (dIsi [.int]) (eVar 0))))) (sRet (eC (.bl false))) sNil)
  (sRet (eAndV (eB dEq (eU (dIsi [.str]) (eVar 1)) (eU (dIsi [.str]) (eVar 0))) (eB dEq (eVar 0) (eVar 1)))))))
noncomputable def g__law_same : Nat → Nat → List D → Sto → R D
  | 0, _ => fun _ _ => .bad
  | n + 1, _ => fnF 3 (b__law_same (g__law_same n 0))
@[irreducible] noncomputable def f__law_same (n : Nat) : List D → Sto → R D := g__law_same n 0
theorem f__law_same_0 : f__law_same 0 = fun _ _ => .bad := by unfold f__law_same; rfl
theorem f__law_same_s (n : Nat) : f__law_same (n + 1) = fnF 3 (b__law_same (f__law_same n)) := by unfold f__law_same; rfl
noncomputable def b__law_add : SS := (sRet (eCall 2 f__law_fr (aCons (eB dAdd (eB dMul (eB dIx (eVar 0) (eC (.int 0))) (eB dIx (eVar 1) (eC (.int 1)))) (eB dMul (eB dIx (eVar 1) (eC (.int 0))) (eB dIx (eVar 0) (eC (.int 1))))) (aCons (eB dMul (eB dIx (eVar 0) (eC (.int 1))) (eB dIx (eVar 1) (eC (.int 1)))) aNil))))
@[irreducible] noncomputable def f__law_add : List D → Sto → R D := fnF 2 b__law_add
noncomputable def b_law : SS := (sSeq (sSet 1 (eCall 1 f__law_bag__1 (aCons (eVar 0) aNil)))
  (sSeq (sSet 2 (eCall 2 f__law_abc (aCons (eVar 1) (aCons (eB dAdd (eC (.int 1)) (eCall 2 f__law_pull (aCons (eVar 1) (aCons (eC (.int 3)) aNil)))) aNil))))
  (sSeq (sSet 3 (eCall 3 f__law_engine (aCons (eVar 1) (aCons (eVar 2) (aCons (eC (.int 4)) aNil)))))
  (sSeq (sAsg (eTup (aCons (eCall 1 f__law_builds (aCons (eVar 3) aNil)) (aCons (eMakeX "Machine" 5 f_Machine___init__ (aCons (eU dRevL (eVar 2)) (aCons (eCallB (un dTupOf) (aCons (eB dIx (eVar 3) (eC (.int 1))) aNil)) (aCons (eCallB (un dDictP) (aCons (eLc [4] (iAnyD (eU dRevL (eVar 2))) (gSet 4) tYesS (eTup (aCons (eVar 4) (aCons (eB dDix (eB dIx (eVar 3) (eC (.int 2))) (eVar 4)) aNil)))) aNil)) (aCons (eB dIx (eVar 3) (eC (.int 3))) aNil))))) aNil))) (gTuple 2 (gsCons (gSet 5) (gsCons (gSet 6) gsNil))))
  (sSeq (sIf (eOrT (eNotT (eT (eB (dEqO "Machine" f_Machine___eq__) (eVar 5) (eVar 6)))) (eOrT (eT (eB (dNeO "Machine" f_Machine___eq__) (eVar 5) (eVar 6))) (eT (eB (dInO "Machine" f_Machine___eq__) (eVar 5) (eLst (aCons (eC .non) (aCons (eC (.int 0)) (aCons (eCallB (un (dReprO "Machine" f_Machine___repr__)) (aCons (eVar 5) aNil)) (aCons (eVar 3) aNil))))))))) (sRet (eC (.bl false))) sNil)
  (sSeq (sIf (eNotT (eT (eCall 2 (f__law_same 40) (aCons (eLst (aCons (eCallB (un (dLenO "Machine" f_Machine___len__)) (aCons (eVar 5) aNil)) (aCons (eCallB (un (dReprO "Machine" f_Machine___repr__)) (aCons (eVar 5) aNil)) (aCons (eCallB (un (dBoolO "Machine" f_Machine___len__)) (aCons (eVar 5) aNil)) aNil)))) (aCons (eLst (aCons (eCallB (un dLen) (aCons (eB dIx (eVar 3) (eC (.int 1))) aNil)) (aCons (eB dAdd (eB dAdd (eB dAdd (eB dAdd (eC (.str "Machine(")) (eCallB (un dStrC) (aCons (eCallB (un dLen) (aCons (eB dIx (eVar 3) (eC (.int 1))) aNil)) aNil))) (eC (.str " rooms, "))) (eCallB (un dStrC) (aCons (eCallB (un dLen) (aCons (eVar 2) aNil)) aNil))) (eC (.str " letters)"))) (aCons (eB dNe (eB dIx (eVar 3) (eC (.int 1))) (eLst aNil)) aNil)))) aNil))))) (sRet (eC (.bl false))) sNil)
  (sSeq (sIf (eT (eB dNe (eB dIx (eVar 3) (eC (.int 1))) (eLst aNil))) (sSeq (sPar 7 4 (aCons (eCall 2 f__law_pull (aCons (eVar 1) (aCons (eCallB (un dLen) (aCons (eB dIx (eVar 3) (eC (.int 1))) aNil)) aNil))) (aCons (eCall 2 f__law_of (aCons (eVar 1) (aCons (eVar 2) aNil))) aNil)))
  (sSeq (sSet 8 (eCallB (un dDictP) (aCons (eLc [13] (iAnyD (eVar 2)) (gSet 13) tYesS (eTup (aCons (eVar 13) (aCons (eLcC [14] (iAnyD (eB dDix (eB dIx (eVar 3) (eC (.int 2))) (eVar 13))) (gSet 14) tYesS (eCallB (un dListOfC) (aCons (eVar 14) aNil))) aNil)))) aNil)))
  (sSeq (sSub (eCall 2 f__law_add (aCons (eB dIx (eB dIx (eB dDix (eVar 8) (eVar 4)) (eVar 7)) (eVar 7)) (aCons (eTup (aCons (eC (.int 1)) (aCons (eC (.int 1)) aNil))) aNil))) (eB dIx (eB dDix (eVar 8) (eVar 4)) (eVar 7)) (eVar 7))
  (sSeq (sPar 9 10 (aCons (eCallB (un dListOfC) (aCons (eB dIx (eVar 3) (eC (.int 1))) aNil)) (aCons (eCallB (un dListOfC) (aCons (eB dIx (eVar 3) (eC (.int 3))) aNil)) aNil)))
  (sSeq (sMul 2 (eTup (aCons (eCall 2 f__law_add (aCons (eB dIx (eVar 9) (eVar 7)) (aCons (eTup (aCons (eC (.int 1)) (aCons (eC (.int 3)) aNil))) aNil))) (aCons (eCall 2 f__law_add (aCons (eB dIx (eVar 10) (eVar 7)) (aCons (eTup (aCons (eB dSub (eC (.int 0)) (eC (.int 1))) (aCons (eC (.int 1)) aNil))) aNil))) aNil))) (mCons (mSub (eVar 9) (eVar 7)) (mCons (mSub (eVar 10) (eVar 7)) mNil)))
  (sSeq (sSet 11 (eLst (aCons (eMakeX "Machine" 5 f_Machine___init__ (aCons (eVar 2) (aCons (eVar 9) (aCons (eB dIx (eVar 3) (eC (.int 2))) (aCons (eB dIx (eVar 3) (eC (.int 3))) aNil))))) (aCons (eMakeX "Machine" 5 f_Machine___init__ (aCons (eVar 2) (aCons (eB dIx (eVar 3) (eC (.int 1))) (aCons (eVar 8) (aCons (eB dIx (eVar 3) (eC (.int 3))) aNil))))) (aCons (eMakeX "Machine" 5 f_Machine___init__ (aCons (eVar 2) (aCons (eB dIx (eVar 3) (eC (.int 1))) (aCons (eB dIx (eVar 3) (eC (.int 2))) (aCons (eVar 10) aNil))))) aNil)))))
  (sIf (eOrT (eT (eB dNe (eLc [6] (iAnyD (eVar 11)) (gSet 6) tYesS (eB (dEqO "Machine" f_Machine___eq__) (eVar 5) (eVar 6))) (eB dMul (eLst (aCons (eC (.bl false)) aNil)) (eC (.int 3))))) (eT (eB dNe (eLc [6] (iAnyD (eVar 11)) (gSet 6) tYesS (eB (dNeO "Machine" f_Machine___eq__) (eVar 6) (eVar 5))) (eB dMul (eLst (aCons (eC (.bl true)) aNil)) (eC (.int 3)))))) (sRet (eC (.bl false))) sNil))))))) sNil)
  (sSeq (sSet 12 (eMakeX "Machine" 5 f_Machine___init__ (aCons (eSl dSl3 (eVar 2) (oSome (eC (.int 1))) oNone) (aCons (eB dIx (eVar 3) (eC (.int 1))) (aCons (eCallB (un dDictP) (aCons (eLc [4] (iAnyD (eSl dSl3 (eVar 2) (oSome (eC (.int 1))) oNone)) (gSet 4) tYesS (eTup (aCons (eVar 4) (aCons (eB dDix (eB dIx (eVar 3) (eC (.int 2))) (eVar 4)) aNil)))) aNil)) (aCons (eB dIx (eVar 3) (eC (.int 3))) aNil))))))
  (sRet (eAndV (eB (dNeO "Machine" f_Machine___eq__) (eVar 5) (eVar 12)) (eNotO "Machine" f_Machine___len__ (eMakeX "Machine" 5 f_Machine___init__ (aCons (eLst aNil) (aCons (eLst aNil) (aCons eNewDI (aCons (eLst aNil) aNil))))))))))))))))
@[irreducible] noncomputable def f_law : List D → Sto → R D := fnF 15 b_law
end Pf

namespace Pf
/-! minors: rows are functions from places to numbers, the last one taken in stands ahead -/
namespace Mn
abbrev Row := Nat → Int
def E (x : Row) (F : List Nat → Int) : List Nat → Int
  | [] => 0
  | c :: cs => x c * F cs - E x (fun l => F (c :: l)) cs
def det : List Row → List Nat → Int
  | [], [] => 1
  | [], _ :: _ => 0
  | x :: rs, cs => E x (det rs) cs
theorem E_addF (x : Row) : ∀ (cs : List Nat) (F G : List Nat → Int), E x (fun l => F l + G l) cs = E x F cs + E x G cs
  | [], _, _ => by simp [E]
  | c :: cs, F, G => by
    simp only [E]; rw [E_addF x cs (fun l => F (c :: l)) (fun l => G (c :: l))]; grind
theorem E_mulF (x : Row) (k : Int) : ∀ (cs : List Nat) (F : List Nat → Int), E x (fun l => k * F l) cs = k * E x F cs
  | [], _ => by simp [E]
  | c :: cs, F => by
    simp only [E]; rw [E_mulF x k cs (fun l => F (c :: l))]; grind
theorem E_zeroF (x : Row) : ∀ (cs : List Nat), E x (fun _ => 0) cs = 0
  | [] => by simp [E]
  | c :: cs => by simp only [E]; rw [E_zeroF x cs]; simp
theorem E_add (x y : Row) : ∀ (cs : List Nat) (F : List Nat → Int), E (fun c => x c + y c) F cs = E x F cs + E y F cs
  | [], _ => by simp [E]
  | c :: cs, F => by
    simp only [E]; rw [E_add x y cs]; grind
theorem E_mul (k : Int) (x : Row) : ∀ (cs : List Nat) (F : List Nat → Int), E (fun c => k * x c) F cs = k * E x F cs
  | [], _ => by simp [E]
  | c :: cs, F => by
    simp only [E]; rw [E_mul k x cs]; grind
theorem E_nil {x : Row} : ∀ {cs : List Nat} {F : List Nat → Int}, (∀ c ∈ cs, x c = 0) → E x F cs = 0
  | [], _, _ => by simp [E]
  | c :: cs, F, h => by
    simp only [E]
    rw [h c (by simp), E_nil (fun c hc => h c (by simp [hc]))]; simp
theorem E_cons {x : Row} {c : Nat} {cs : List Nat} {F : List Nat → Int} (h : ∀ c ∈ cs, x c = 0) : E x F (c :: cs) = x c * F cs := by
  simp only [E]; rw [E_nil h]; simp
theorem E_swap (x y : Row) : ∀ (cs : List Nat) (F : List Nat → Int), E x (E y F) cs = - E y (E x F) cs
  | [], _ => by simp [E]
  | c :: cs, F => by
    have h1 : (fun l => E y F (c :: l)) = fun l => y c * F l + (-1) * E y (fun l => F (c :: l)) l := by funext l; simp only [E]; grind
    have h2 : (fun l => E x F (c :: l)) = fun l => x c * F l + (-1) * E x (fun l => F (c :: l)) l := by funext l; simp only [E]; grind
    have e1 : E x (E y F) (c :: cs) = x c * E y F cs - E x (fun l => E y F (c :: l)) cs := rfl
    have e2 : E y (E x F) (c :: cs) = y c * E x F cs - E y (fun l => E x F (c :: l)) cs := rfl
    have ih := E_swap x y cs (fun l => F (c :: l))
    rw [e1, e2, h1, h2, E_addF x cs (fun l => y c * F l) (fun l => (-1) * E y (fun l => F (c :: l)) l), E_addF y cs (fun l => x c * F l) (fun l => (-1) * E x (fun l => F (c :: l)) l), E_mulF, E_mulF, E_mulF, E_mulF, ih]
    grind
theorem E_self (x : Row) (cs : List Nat) (F : List Nat → Int) : E x (E x F) cs = 0 := by have := E_swap x x cs F; omega
theorem E_mem {r : Row} : ∀ {rs : List Row}, r ∈ rs → ∀ cs, E r (det rs) cs = 0
  | y :: rs, h, cs => by
    show E r (E y (det rs)) cs = 0
    rcases List.mem_cons.mp h with rfl | h
    · exact E_self ..
    · rw [E_swap, show E r (det rs) = fun _ => 0 from funext fun l => E_mem h l, E_zeroF]; simp
/-- what the rows lead to nought -/
def Kill (R : List Row) (w : Row) : Prop := ∀ rs : List Row, (∀ r ∈ R, r ∈ rs) → ∀ cs, E w (det rs) cs = 0
structure Lin (L : (List Nat → Int) → Int) : Prop where
  add : ∀ F G, L (fun l => F l + G l) = L F + L G
  mul : ∀ (k : Int) F, L (fun l => k * F l) = k * L F
theorem kill_det : ∀ (R : List Row) (L : (List Nat → Int) → Int), Lin L → Kill R (fun j => L (fun l => det R (j :: l)))
  | [], L, hL => fun rs _ cs => by
    have : (fun j : Nat => L (fun l => det [] (j :: l))) = fun c => (0 : Int) * (fun _ => (0 : Int)) c := by
      funext j
      have e : (fun l => det [] (j :: l)) = fun l : List Nat => (0 : Int) * (fun _ => (0 : Int)) l := by funext l; simp [det]
      rw [e, hL.mul]; simp
    rw [this, E_mul]; simp
  | x :: R, L, hL => fun rs h cs => by
    have e : (fun j : Nat => L (fun l => det (x :: R) (j :: l))) = fun j => L (det R) * x j + (fun j => (-1) * (fun j => L (fun l => E x (fun l => det R (j :: l)) l)) j) j := by
      funext j
      have e : (fun l => det (x :: R) (j :: l)) = fun l => x j * det R l + (-1) * E x (fun l => det R (j :: l)) l := by funext l; simp only [det, E]; grind
      rw [e, hL.add (fun l => x j * det R l) (fun l => (-1) * E x (fun l => det R (j :: l)) l), hL.mul, hL.mul]; grind
    have hL2 : Lin (fun F => L (fun l => E x F l)) := ⟨fun F G => by
      show L (fun l => E x (fun l => F l + G l) l) = _
      rw [show (fun l => E x (fun l => F l + G l) l) = fun l => E x F l + E x G l from funext fun l => E_addF x l F G, hL.add (fun l => E x F l) (fun l => E x G l)], fun k F => by
      show L (fun l => E x (fun l => k * F l) l) = _
      rw [show (fun l => E x (fun l => k * F l) l) = fun l => k * E x F l from funext fun l => E_mulF x k l F, hL.mul k (fun l => E x F l)]⟩
    have ih := kill_det R _ hL2 rs (fun r hr => h r (by simp [hr])) cs
    rw [e, E_add (fun j => L (det R) * x j), E_mul, E_mul, E_mem (h x (by simp)), ih]; simp
def Alt (F : List Nat → Int) : Prop := ∀ a c d b, F (a ++ c :: d :: b) = - F (a ++ d :: c :: b)
theorem alt_E {x : Row} : ∀ {F : List Nat → Int}, Alt F → Alt (E x F) := by
  intro F h a
  induction a generalizing F with
  | nil =>
    intro c d b
    simp only [List.nil_append, E]
    have e : (fun l => F (c :: d :: l)) = fun l => (-1) * F (d :: c :: l) := by funext l; have := h [] c d l; simp at this; omega
    rw [e, E_mulF]; grind
  | cons a0 a ih =>
    intro c d b
    simp only [List.cons_append, E]
    rw [h a c d b, ih (F := fun l => F (a0 :: l)) (fun a' => by have := h (a0 :: a'); simpa using this)]; grind
theorem alt_det : ∀ rs : List Row, Alt (det rs)
  | [] => fun a c d b => by cases a <;> simp [det]
  | x :: rs => by
    have := alt_E (x := x) (alt_det rs)
    exact this
theorem alt_rep {F : List Nat → Int} (h : Alt F) (j : Nat) (v : List Nat) : ∀ (u a : List Nat), F (a ++ j :: (u ++ j :: v)) = 0
  | [], a => by have := h a j j v; simp; omega
  | e :: u, a => by
    have h1 := h a j e (u ++ j :: v)
    have h2 := alt_rep h j v u (a ++ [e])
    simp at h2
    simp only [List.cons_append]
    rw [h1, h2]; simp
theorem det_rep {rs : List Row} {j : Nat} {S : List Nat} (h : j ∈ S) : det rs (j :: S) = 0 := by
  obtain ⟨u, v, rfl⟩ := List.append_of_mem h
  have := alt_rep (alt_det rs) j v u []
  simpa using this
/-- what is left of a row -/
def lf (R : List Row) (S : List Nat) (x : Row) : Row := fun j => det (x :: R) (j :: S)
theorem lf_eq (R : List Row) (S : List Nat) (x : Row) (j : Nat) : lf R S x j = det R S * x j - E x (fun l => det R (j :: l)) S := by simp only [lf, det, E]; grind
theorem lf_add (R : List Row) (S : List Nat) (x y : Row) (a b : Int) (j : Nat) : lf R S (fun c => a * x c + b * y c) j = a * lf R S x j + b * lf R S y j := by
  show E (fun c => a * x c + b * y c) (det R) (j :: S) = _
  rw [E_add (fun c => a * x c) (fun c => b * y c), E_mul, E_mul]; rfl
theorem lf_nil {R : List Row} {S : List Nat} {x : Row} {j : Nat} (h : j ∈ S) : lf R S x j = 0 := det_rep h
theorem lf_kill (R : List Row) (S : List Nat) (z : Row) : Kill R (fun j => lf R S z j - det R S * z j) := by
  have h := kill_det R (fun F => (-1) * E z F S) ⟨fun F G => by rw [E_addF]; grind, fun k F => by rw [E_mulF]; grind⟩
  have e : (fun j => lf R S z j - det R S * z j) = fun j => (-1) * E z (fun l => det R (j :: l)) S := by funext j; rw [lf_eq]; grind
  rw [e]; exact h
theorem syl {R : List Row} {S : List Nat} {p x : Row} {c : Nat} (h : lf R S p c ≠ 0) (j : Nat) :
    lf R S p c * lf R S x j - lf R S x c * lf R S p j = det R S * lf (p :: R) (c :: S) x j := by
  let z : Row := fun i => lf R S p c * x i + (- lf R S x c) * p i
  have hz : ∀ i, lf R S z i = lf R S p c * lf R S x i - lf R S x c * lf R S p i := fun i => by rw [lf_add]; grind
  have hzc : ∀ i ∈ c :: S, lf R S z i = 0 := fun i hi => by
    rcases List.mem_cons.mp hi with rfl | hi
    · rw [hz]; grind
    · exact lf_nil hi
  -- the row z beside p and R
  have a1 : E z (det (p :: R)) (j :: c :: S) = lf R S p c * E x (det (p :: R)) (j :: c :: S) := by
    rw [E_add (fun i => lf R S p c * x i) (fun i => (- lf R S x c) * p i), E_mul, E_mul, E_mem (r := p) (by simp)]; simp
  have a2 : E (lf R S z) (det (p :: R)) (j :: c :: S) = det R S * E z (det (p :: R)) (j :: c :: S) := by
    have k := lf_kill R S z (p :: R) (fun r hr => by simp [hr]) (j :: c :: S)
    have e : lf R S z = fun i => (fun i => lf R S z i - det R S * z i) i + (fun i => det R S * z i) i := by funext i; grind
    rw [e, E_add, k, E_mul]; simp
  have a3 : E (lf R S z) (det (p :: R)) (j :: c :: S) = lf R S z j * lf R S p c := by
    rw [E_cons hzc]; rfl
  have a4 : lf R S p c * (det R S * lf (p :: R) (c :: S) x j) = lf R S p c * lf R S z j := by
    have : lf (p :: R) (c :: S) x j = E x (det (p :: R)) (j :: c :: S) := rfl
    rw [this]; grind
  rw [← hz]
  exact (Int.eq_of_mul_eq_mul_left h a4).symm
end Mn
end Pf

namespace Pf
namespace Mn
/-! shares in lowest terms -/
def frg (t b : Int) : Int := if b < 0 then -(Int.gcd t b : Nat) else (Int.gcd t b : Nat)
def frq (t b : Int) : Int × Int := (t.fdiv (frg t b), b.fdiv (frg t b))
theorem frg_ne {t b : Int} (h : b ≠ 0) : frg t b ≠ 0 := by
  have : Int.gcd t b ≠ 0 := fun z => h (Int.gcd_eq_zero_iff.mp z).2
  unfold frg; split <;> omega
theorem frg_dvd (t b : Int) : frg t b ∣ t ∧ frg t b ∣ b := by
  unfold frg
  split
  · exact ⟨Int.neg_dvd.mpr (Int.gcd_dvd_left ..), Int.neg_dvd.mpr (Int.gcd_dvd_right ..)⟩
  · exact ⟨Int.gcd_dvd_left .., Int.gcd_dvd_right ..⟩
theorem frq_eq {t b : Int} (h : b ≠ 0) : frg t b * (frq t b).1 = t ∧ frg t b * (frq t b).2 = b :=
  ⟨Int.mul_fdiv_cancel' (frg_dvd t b).1, Int.mul_fdiv_cancel' (frg_dvd t b).2⟩
theorem frq_cross {t b : Int} (h : b ≠ 0) : (frq t b).1 * b = t * (frq t b).2 := by
  obtain ⟨h1, h2⟩ := frq_eq (t := t) h
  generalize frg t b = g at *
  generalize (frq t b).1 = x at *
  generalize (frq t b).2 = y at *
  subst h1; subst h2; grind
theorem frq_pos {t b : Int} (h : b ≠ 0) : 0 < (frq t b).2 := by
  obtain ⟨h1, h2⟩ := frq_eq (t := t) h
  have g0 : (0 : Int) < (Int.gcd t b : Nat) := by
    have : Int.gcd t b ≠ 0 := fun z => h (Int.gcd_eq_zero_iff.mp z).2
    omega
  generalize (frq t b).2 = y at *
  unfold frg at h2
  split at h2
  · rename_i c
    rcases Int.lt_trichotomy 0 y with q | q | q
    · exact q
    · rw [← q] at h2; simp at h2; exact absurd h2.symm h
    · have := Int.mul_pos_of_neg_of_neg (a := -(Int.gcd t b : Int)) (by omega) q
      omega
  · rename_i c
    rcases Int.lt_trichotomy 0 y with q | q | q
    · exact q
    · rw [← q] at h2; simp at h2; exact absurd h2.symm h
    · have := Int.mul_neg_of_pos_of_neg g0 q
      omega
theorem frg_mul {k t b : Int} (hk : k ≠ 0) (h : b ≠ 0) : frg (k * t) (k * b) = k * frg t b := by
  unfold frg
  rw [Int.gcd_mul_left]
  have e : ((k.natAbs * Int.gcd t b : Nat) : Int) = (if k < 0 then -k else k) * (Int.gcd t b : Nat) := by
    rw [Int.natCast_mul]
    congr 1
    split <;> omega
  rw [e]
  rcases Int.lt_or_gt_of_ne hk with k1 | k1 <;> rcases Int.lt_or_gt_of_ne h with b1 | b1
  · have := Int.mul_pos_of_neg_of_neg k1 b1
    rw [if_neg (by omega), if_pos k1, if_pos b1]; grind
  · have := Int.mul_neg_of_neg_of_pos k1 b1
    rw [if_pos this, if_pos k1, if_neg (by omega)]; grind
  · have := Int.mul_neg_of_pos_of_neg k1 b1
    rw [if_pos this, if_neg (by omega), if_pos b1]; grind
  · have := Int.mul_pos k1 b1
    rw [if_neg (by omega), if_neg (by omega), if_neg (by omega)]
theorem frq_mul {k t b : Int} (hk : k ≠ 0) (h : b ≠ 0) : frq (k * t) (k * b) = frq t b := by
  have hg := frg_ne (t := t) h
  obtain ⟨h1, h2⟩ := frq_eq (t := t) h
  have e : ∀ x, (k * (frg t b * x)).fdiv (k * frg t b) = x := fun x => by
    rw [← Int.mul_assoc]; exact Int.mul_fdiv_cancel_left _ (Int.mul_ne_zero hk hg)
  unfold frq
  rw [frg_mul hk h]
  have e1 := e (frq t b).1
  have e2 := e (frq t b).2
  rw [h1] at e1
  rw [h2] at e2
  rw [e1, e2]; rfl
theorem frq_ext {a b c d : Int} (hb : b ≠ 0) (hd : d ≠ 0) (h : a * d = c * b) : frq a b = frq c d := by
  rw [← frq_mul (t := a) hd hb, ← frq_mul (t := c) hb hd]
  congr 1 <;> grind
theorem frq_zero {a b : Int} (hb : b ≠ 0) : (frq a b).1 = 0 ↔ a = 0 := by
  obtain ⟨h1, _⟩ := frq_eq (t := a) hb
  constructor
  · intro z; rw [← h1, z]; simp
  · intro z
    have : frg a b * (frq a b).1 = 0 := h1.trans z
    rcases Int.mul_eq_zero.mp this with q | q
    · exact absurd q (frg_ne hb)
    · exact q
theorem frq_inj {a b c d : Int} (hb : b ≠ 0) (hd : d ≠ 0) (h : frq a b = frq c d) : a * d = c * b := by
  have x := frq_cross (t := a) hb
  have y := frq_cross (t := c) hd
  rw [← h] at y
  have p := frq_pos (t := a) hb
  generalize (frq a b).1 = u at *
  generalize (frq a b).2 = v at *
  have : v * (a * d) = v * (c * b) := by grind
  exact Int.eq_of_mul_eq_mul_left (by omega) this
theorem frq_le (t b : Int) : (frq t b).1.natAbs ≤ t.natAbs ∧ (frq t b).2.natAbs ≤ b.natAbs := by
  have key : ∀ x y : Int, y ∣ x → (x.fdiv y).natAbs ≤ x.natAbs := fun x y h => by
    obtain ⟨z, rfl⟩ := h
    by_cases c : y = 0
    · subst c; simp
    · rw [Int.mul_fdiv_cancel_left _ c, Int.natAbs_mul]
      exact Nat.le_mul_of_pos_left _ (by omega)
  exact ⟨key _ _ (frg_dvd t b).1, key _ _ (frg_dvd t b).2⟩
def addq (x y : Int × Int) : Int × Int := frq (x.1 * y.2 + y.1 * x.2) (x.2 * y.2)
def subq (x y : Int × Int) : Int × Int := frq (x.1 * y.2 - y.1 * x.2) (x.2 * y.2)
def mulq (x y : Int × Int) : Int × Int := frq (x.1 * y.1) (x.2 * y.2)
def divq (x y : Int × Int) : Int × Int := frq (x.1 * y.2) (x.2 * y.1)
section
variable {a b c d : Int} (hb : b ≠ 0) (hd : d ≠ 0)
theorem nz2 {x y : Int} (h : 0 < x) (g : 0 < y) : x * y ≠ 0 := Int.mul_ne_zero (by omega) (by omega)
include hb hd
theorem addq_eq : addq (frq a b) (frq c d) = frq (a * d + c * b) (b * d) := by
  refine frq_ext (nz2 (frq_pos hb) (frq_pos hd)) (Int.mul_ne_zero hb hd) ?_
  have x := frq_cross (t := a) hb
  have y := frq_cross (t := c) hd
  generalize (frq a b).1 = u at *; generalize (frq a b).2 = v at *; generalize (frq c d).1 = u' at *; generalize (frq c d).2 = v' at *
  grind
theorem mulq_eq : mulq (frq a b) (frq c d) = frq (a * c) (b * d) := by
  refine frq_ext (nz2 (frq_pos hb) (frq_pos hd)) (Int.mul_ne_zero hb hd) ?_
  have x := frq_cross (t := a) hb
  have y := frq_cross (t := c) hd
  generalize (frq a b).1 = u at *; generalize (frq a b).2 = v at *; generalize (frq c d).1 = u' at *; generalize (frq c d).2 = v' at *
  grind
end
/-! rows brought to steps -/
def unitR (c : Nat) : Row := fun j => if j = c then 1 else 0
def swp {α : Type} (k g : Nat) (A : Nat → α) : Nat → α := fun i => if i = k then A g else if i = g then A k else A i
def bar (d : Int) (k c : Nat) (A : Nat → Row) : Nat → Row := fun i j => if i = k then A k j else (A k c * A i j - A i c * A k j).fdiv d
structure BS (X A : Nat → Row) (R : List Row) (sp : List Nat) (r : Nat) (d : Int) : Prop where
  len : R.length = sp.length
  le : sp.length ≤ r
  dd : d = det R sp.reverse
  nz : d ≠ 0
  np : ∀ i, sp.length ≤ i → i < r → ∀ j, A i j = lf R sp.reverse (X i) j
  pv : ∀ t s, sp[t]? = some s → ∀ j, A t j = d * unitR s j - lf R sp.reverse (unitR s) j
section
variable {X A : Nat → Row} {R : List Row} {sp : List Nat} {r : Nat} {d : Int} {g c : Nat}
theorem BS.exact (b : BS X A R sp r d) (hk : sp.length < r) (hc : ∀ s ∈ sp, s < c) (hp : A sp.length c ≠ 0) {i : Nat} (hi : i < r) (ne : i ≠ sp.length) (j : Nat) :
    A sp.length c * A i j - A i c * A sp.length j = d * (if sp.length ≤ i then lf (X sp.length :: R) (c :: sp.reverse) (X i) j else
      match sp[i]? with | some s => A sp.length c * unitR s j - lf (X sp.length :: R) (c :: sp.reverse) (unitR s) j | none => 0) := by
  have hk1 : ∀ j, A sp.length j = lf R sp.reverse (X sp.length) j := b.np _ (Nat.le_refl _) hk
  have hp' : lf R sp.reverse (X sp.length) c ≠ 0 := by rw [← hk1]; exact hp
  split
  · rename_i h
    have e := syl hp' (x := X i) j
    rw [b.np i h hi, b.np i h hi, hk1, hk1, b.dd]
    exact e
  · rename_i h
    have hl : i < sp.length := by omega
    rw [List.getElem?_eq_getElem hl]
    have hs : sp[i]? = some sp[i] := List.getElem?_eq_getElem hl
    have e := syl hp' (x := unitR sp[i]) j
    have u0 : unitR sp[i] c = 0 := by
      have := hc sp[i] (List.getElem_mem hl)
      unfold unitR; rw [if_neg (by omega)]
    dsimp only
    rw [b.pv i _ hs j, b.pv i _ hs c, u0, hk1, hk1]
    rw [← b.dd] at e
    grind
theorem BS.fd (b : BS X A R sp r d) (hk : sp.length < r) (hc : ∀ s ∈ sp, s < c) (hp : A sp.length c ≠ 0) {i : Nat} (hi : i < r) (ne : i ≠ sp.length) (j : Nat) :
    d * bar d sp.length c A i j = A sp.length c * A i j - A i c * A sp.length j := by
  unfold bar
  rw [if_neg ne]
  exact Int.mul_fdiv_cancel' ⟨_, b.exact hk hc hp hi ne j⟩
end
/-- rows all within 2^m -/
def Bd (m : Nat) (x : Row) : Prop := ∀ j, (x j).natAbs ≤ 2 ^ m
structure Bo (m : Nat) (X : Nat → Row) (R : List Row) (r : Nat) : Prop where
  x : ∀ i, i < r → Bd m (X i)
  r : ∀ y ∈ R, Bd m y
end Mn
end Pf

namespace Pf
namespace Mn
structure Ps where
  A : Nat → Row
  sp : List Nat
  d : Int
/-- what holds of a state -/
structure Pok (m r n : Nat) (s : Ps) : Prop where
  ex : ∃ X R, BS X s.A R s.sp r s.d ∧ Bo m X R r
  lt : ∀ x ∈ s.sp, x < n
theorem Pok.mono {m r n n' : Nat} {s : Ps} (o : Pok m r n s) (h : n ≤ n') : Pok m r n' s := ⟨o.ex, fun x z => Nat.lt_of_lt_of_le (o.lt x z) h⟩
/-! the law's -/
structure Ls where
  L : Nat → Nat → Int × Int
  k : Nat
def lgoods (r : Nat) (L : Nat → Nat → Int × Int) (k c : Nat) : List Nat := ((List.range (r - k)).map (k + ·)).filter fun i => decide ((L i c).1 ≠ 0)
def lead (k c : Nat) (L : Nat → Nat → Int × Int) : Nat → Nat → Int × Int := fun i j => if i = k then divq (L k j) (L k c) else L i j
def lrow (k c i : Nat) (L : Nat → Nat → Int × Int) : Nat → Int × Int := fun j => if i = k ∨ (L i c).1 = 0 then L i j else subq (L i j) (mulq (L i c) (L k j))
def lstep (k c : Nat) (L : Nat → Nat → Int × Int) : Nat → Nat → Int × Int := fun i => lrow k c i (lead k c L)
def lst (r : Nat) (s : Ls) (c : Nat) : Ls := match lgoods r s.L s.k c with
  | [] => s
  | g :: _ => ⟨lstep s.k c (swp s.k g s.L), s.k + 1⟩
/-- column weights: b where it is a column of the table, 1 in the unit's -/
def sg (n : Nat) (b : Int) (j : Nat) : Int := if j < n then b else 1
/-- law and program side by side -/
structure Lk (r w n : Nat) (b : Int) (s : Ps) (l : Ls) : Prop where
  k : l.k = s.sp.length
  hi : ∀ i, l.k ≤ i → i < r → ∀ j, j < w → l.L i j = frq (s.A i j) (s.d * sg n b j)
  lo : ∀ i, i < l.k → i < r → ∀ j, j < w → l.L i j = frq (s.A i j * b) (s.d * sg n b j)
section
variable {r w n m c : Nat} {b : Int} {s : Ps} {l : Ls}
end
end Mn
end Pf

namespace Pf.Mn
abbrev Mq := Nat → Nat → Int × Int
abbrev Mi := Nat → Nat → Int
/-- whole numbers over one bottom, for a table of shares -/
structure Gp (n m : Nat) (L : Mq) (A : Mi) (b : Int) : Prop where
  nz : b ≠ 0
  bb : b.natAbs ≤ 2 ^ m
  el : ∀ i, i < n → ∀ j, j < n → (A i j).natAbs ≤ 2 ^ m ∧ L i j = frq (A i j) b
section
variable {n m m1 m2 : Nat} {L M : Mq} {A B : Mi} {b c : Int}
theorem Gp.mono (h : Gp n m L A b) {m' : Nat} (l : m ≤ m') : Gp n m' L A b :=
  have p := Nat.pow_le_pow_right (n := 2) (by decide) l
  ⟨h.nz, Nat.le_trans h.bb p, fun i hi j hj => ⟨Nat.le_trans (h.el i hi j hj).1 p, (h.el i hi j hj).2⟩⟩
theorem Gp.light {g b' : Int} {A' : Mi} (h : Gp n m L A b) (eb : b = g * b') (eA : ∀ i, i < n → ∀ j, j < n → A i j = g * A' i j) : Gp n m L A' b' := by
  have hg : g ≠ 0 := fun z => h.nz (by rw [eb, z, Int.zero_mul])
  have hb : b' ≠ 0 := fun z => h.nz (by rw [eb, z, Int.mul_zero])
  have le : ∀ x : Int, x.natAbs ≤ (g * x).natAbs := fun x => by
    rw [Int.natAbs_mul]; exact Nat.le_mul_of_pos_left _ (by omega)
  refine ⟨hb, Nat.le_trans (le b') (eb ▸ h.bb), fun i hi j hj => ?_⟩
  obtain ⟨h1, h2⟩ := h.el i hi j hj
  rw [eA i hi j hj] at h1 h2
  refine ⟨Nat.le_trans (le _) h1, ?_⟩
  rw [h2, eb, frq_mul hg hb]
def one (i j : Nat) : Int := if i = j then 1 else 0
def shM (s : Int × Int) : Mq := fun i j => mulq (one i j, 1) s
theorem one_le (i j : Nat) : (one i j).natAbs ≤ 1 := by unfold one; split <;> decide
theorem Gp.sh {s : Int × Int} (h : 0 < s.2) (h1 : s.1.natAbs ≤ 2 ^ m) (h2 : s.2.natAbs ≤ 2 ^ m) : Gp n m (shM s) (fun i j => s.1 * one i j) s.2 := by
  refine ⟨by omega, h2, fun i _ j _ => ⟨?_, ?_⟩⟩
  · rw [Int.natAbs_mul]
    exact Nat.le_trans (Nat.mul_le_mul_left _ (one_le i j)) (by omega)
  · show frq (one i j * s.1) (1 * s.2) = _
    rw [Int.one_mul, Int.mul_comm]
def addM (L M : Mq) : Mq := fun i j => addq (L i j) (M i j)
def negM (M : Mq) : Mq := fun i j => mulq (M i j) (0 - 1, 1)
theorem mul_le {x y : Int} (h1 : x.natAbs ≤ 2 ^ m1) (h2 : y.natAbs ≤ 2 ^ m2) : (x * y).natAbs ≤ 2 ^ (m1 + m2) := by
  rw [Int.natAbs_mul, Nat.pow_add]; exact Nat.mul_le_mul h1 h2
theorem two_add {x y : Int} {k : Nat} (h1 : x.natAbs ≤ 2 ^ k) (h2 : y.natAbs ≤ 2 ^ k) : (x + y).natAbs ≤ 2 ^ (k + 1) := by
  rw [Nat.pow_succ]; omega
theorem Gp.bot (h : Gp n m1 L A b) (g : Gp n m2 M B c) : b * c ≠ 0 ∧ (b * c).natAbs ≤ 2 ^ (m1 + m2) := ⟨Int.mul_ne_zero h.nz g.nz, mul_le h.bb g.bb⟩
theorem Gp.add (h : Gp n m1 L A b) (g : Gp n m2 M B c) : Gp n (m1 + m2 + 1) (addM L M) (fun i j => A i j * c + 1 * B i j * b) (b * c) := by
  obtain ⟨z1, z2⟩ := h.bot g
  refine ⟨z1, Nat.le_trans z2 (Nat.pow_le_pow_right (by decide) (by omega)), fun i hi j hj => ?_⟩
  obtain ⟨h1, h2⟩ := h.el i hi j hj
  obtain ⟨g1, g2⟩ := g.el i hi j hj
  refine ⟨two_add (mul_le h1 g.bb) ?_, ?_⟩
  · rw [Int.one_mul, Nat.add_comm m1 m2]; exact mul_le g1 h.bb
  · show addq (L i j) (M i j) = _
    rw [h2, g2, addq_eq h.nz g.nz, Int.one_mul]
theorem negq (hc : c ≠ 0) (x : Int) : mulq (frq x c) (0 - 1, 1) = frq (-x) c := by
  have e : ((0 - 1 : Int), (1 : Int)) = frq (-1) 1 := by decide
  rw [e, mulq_eq hc (by decide)]
  congr 1 <;> omega
theorem Gp.less (h : Gp n m1 L A b) (g : Gp n m2 M B c) : Gp n (m1 + m2 + 1) (addM L (negM M)) (fun i j => A i j * c + -1 * B i j * b) (b * c) := by
  obtain ⟨z1, z2⟩ := h.bot g
  refine ⟨z1, Nat.le_trans z2 (Nat.pow_le_pow_right (by decide) (by omega)), fun i hi j hj => ?_⟩
  obtain ⟨h1, h2⟩ := h.el i hi j hj
  obtain ⟨g1, g2⟩ := g.el i hi j hj
  have e : -1 * B i j = -(B i j) := by omega
  refine ⟨two_add (mul_le h1 g.bb) ?_, ?_⟩
  · rw [e, Nat.add_comm m1 m2]; exact mul_le (by omega) h.bb
  · show addq (L i j) (mulq (M i j) (0 - 1, 1)) = _
    rw [h2, g2, negq g.nz, addq_eq h.nz g.nz, e]
theorem frq_nought (hb : b ≠ 0) : frq 0 b = (0, 1) := by
  have e : ((0 : Int), (1 : Int)) = frq 0 1 := by decide
  rw [e]; exact frq_ext hb (by decide) (by omega)
theorem frq_one (x : Int) : frq x 1 = (x, 1) := by
  have e : frg x 1 = 1 := by unfold frg; rw [if_neg (by decide), Int.gcd_one]; rfl
  unfold frq; rw [e]; simp
/-- a table less itself -/
theorem Gp.nil (h : Gp n m1 L A b) (g : Gp n m2 (addM L (negM L)) B c) : ∀ i, i < n → ∀ j, j < n → B i j = 0 := fun i hi j hj => by
  have e := ((h.less h).el i hi j hj).2
  rw [(g.el i hi j hj).2] at e
  have e2 : A i j * b + -1 * A i j * b = 0 := by grind
  rw [e2, frq_nought (h.bot h).1] at e
  have : (frq (B i j) c).1 = 0 := by rw [e]
  exact (frq_zero g.nz).mp this
end
end Pf.Mn

namespace Pf.Mn
section
variable {f g : Nat → Int} {n m : Nat}
end
section
variable {m r n c N : Nat} {s : Ps} {w : Row}
end
section
variable {m r n c N : Nat} {A : Nat → Row} {w : Row}
end
section
variable {n m : Nat} {L : Mq} {A : Mi} {b : Int}
end
end Pf.Mn

namespace Pf.Mn
section
variable {r r2 k c : Nat} {A A2 : Nat → Row}
end
section
variable {n m m2 : Nat} {A B : Mi}
end
/-! shares and what they are -/
def Vl (x : Int × Int) (q : Rat) : Prop := ∃ a b : Int, b ≠ 0 ∧ x = frq a b ∧ (a : Rat) = q * (b : Rat)
theorem castI {b : Int} (h : b ≠ 0) : (b : Rat) ≠ 0 := fun z => h (Rat.intCast_inj.mp z)
section
variable {x y : Int × Int} {p q : Rat}
theorem Vl.add (h : Vl x p) (g : Vl y q) : Vl (addq x y) (p + q) := by
  obtain ⟨a, b, hb, rfl, e⟩ := h
  obtain ⟨c, d, hd, rfl, f⟩ := g
  refine ⟨_, _, Int.mul_ne_zero hb hd, addq_eq hb hd, ?_⟩
  rw [Rat.intCast_add, Rat.intCast_mul, Rat.intCast_mul, Rat.intCast_mul]; grind
theorem Vl.inj (h : Vl x p) (g : Vl y p) : x = y := by
  obtain ⟨a, b, hb, rfl, e⟩ := h
  obtain ⟨c, d, hd, rfl, f⟩ := g
  refine frq_ext hb hd (Rat.intCast_inj.mp ?_)
  rw [Rat.intCast_mul, Rat.intCast_mul]; grind
theorem Vl.uni (h : Vl x p) (g : Vl x q) : p = q := by
  obtain ⟨a, b, hb, rfl, e⟩ := h
  obtain ⟨c, d, hd, e2, f⟩ := g
  have z := congrArg (fun i : Int => (i : Rat)) (frq_inj hb hd e2)
  have hb := castI hb
  have hd := castI hd
  rw [Rat.intCast_mul, Rat.intCast_mul] at z
  have : (p - q) * ((b : Rat) * d) = 0 := by grind
  grind
theorem Vl.frq {a b : Int} (hb : b ≠ 0) (e : (a : Rat) = p * (b : Rat)) : Vl (frq a b) p := ⟨a, b, hb, rfl, e⟩
theorem Vl.int (a : Int) : Vl (a, 1) (a : Rat) := ⟨a, 1, by decide, (frq_one a).symm, by grind⟩
theorem Vl.sh {s : Int × Int} (h : s.2 ≠ 0) (low : s = Mn.frq s.1 s.2) : Vl s ((s.1 : Rat) / (s.2 : Rat)) := ⟨s.1, s.2, h, low, by have := castI h; grind⟩
end
/-- sums -/
def SR (f : Nat → Rat) : Nat → Rat
  | 0 => 0
  | k + 1 => SR f k + f k
section
variable {f g : Nat → Rat} {n m : Nat}
end
abbrev Mr := Nat → Nat → Rat
def mm (n : Nat) (X Y : Mr) : Mr := fun i j => SR (fun t => X i t * Y t j) n
section
variable {n : Nat} {X Y X2 Y2 P N : Mr}
end
section
variable {n m m2 mF : Nat} {L L2 F : Mq} {A A2 AF : Mi} {b b2 bF : Int} {X X2 : Mr}
theorem Gp.vl (g : Gp n m L A b) : ∀ i, i < n → ∀ j, j < n → Vl (L i j) ((A i j : Rat) / (b : Rat)) := fun i hi j hj => by
  rw [(g.el i hi j hj).2]
  exact Vl.frq g.nz (by have := castI g.nz; grind)
theorem Gp.at_ (g : Gp n m L A b) {i j : Nat} (hi : i < n) (hj : j < n) {q : Rat} (h : Vl (L i j) q) : (A i j : Rat) = q * (b : Rat) := by
  rw [h.uni (g.vl i hi j hj)]
  have := castI g.nz; grind
end
end Pf.Mn

namespace Pf
namespace Mn
/-! rows times numbers: the same steps -/
def Rsc (r : Nat) (A B : Nat → Row) : Prop := ∃ u v : Nat → Int, ∀ i, i < r → u i ≠ 0 ∧ v i ≠ 0 ∧ ∀ j, A i j * u i = B i j * v i
theorem Rsc.zero {r : Nat} {A B : Nat → Row} (h : Rsc r A B) {i : Nat} (hi : i < r) (j : Nat) : A i j = 0 ↔ B i j = 0 := by
  obtain ⟨u, v, h⟩ := h
  obtain ⟨h1, h2, h3⟩ := h i hi
  have e := h3 j
  constructor
  · intro z
    rw [z, Int.zero_mul] at e
    exact (Int.mul_eq_zero.mp e.symm).resolve_right h2
  · intro z
    rw [z, Int.zero_mul] at e
    exact (Int.mul_eq_zero.mp e).resolve_right h1
end Mn
end Pf

namespace Pf.Mn
/-! shares as rational numbers -/
def qs (q : Rat) : Int × Int := (q.num, (q.den : Int))
theorem qs_pos (q : Rat) : 0 < (qs q).2 := Int.natCast_pos.mpr q.den_pos
theorem qs_low (q : Rat) : frq (qs q).1 (qs q).2 = qs q := by
  have g : frg (qs q).1 (qs q).2 = 1 := by
    unfold frg
    rw [if_neg (by have := qs_pos q; omega)]
    show ((Int.gcd q.num (q.den : Int) : Nat) : Int) = 1
    have r : Int.gcd q.num (q.den : Int) = 1 := by
      show Nat.gcd q.num.natAbs (q.den : Int).natAbs = 1
      exact q.reduced
    rw [r]; rfl
  unfold frq
  rw [g, Int.fdiv_one, Int.fdiv_one]
theorem qs_vl (q : Rat) : Vl (qs q) q := ⟨q.num, (q.den : Int), by have := qs_pos q; exact Int.ne_of_gt this, (qs_low q).symm, by
  have h : ((q.num : Int) : Rat) / ((q.den : Int) : Rat) = q := by rw [← Rat.divInt_eq_div, Rat.num_divInt_den]
  have d : ((q.den : Int) : Rat) ≠ 0 := castI (by have := qs_pos q; exact Int.ne_of_gt this)
  show ((q.num : Int) : Rat) = q * ((q.den : Int) : Rat)
  generalize ((q.num : Int) : Rat) = a at *
  generalize ((q.den : Int) : Rat) = b at *
  grind⟩
theorem Vl.qs {x : Int × Int} {q : Rat} (h : Vl x q) : x = Mn.qs q := h.inj (qs_vl q)
theorem addq_qs (p q : Rat) : addq (qs p) (qs q) = qs (p + q) := ((qs_vl p).add (qs_vl q)).qs
theorem qs_inj {p q : Rat} (h : qs p = qs q) : p = q := (qs_vl p).uni (h ▸ qs_vl q)
theorem frq_qs {a b : Int} (hb : b ≠ 0) : frq a b = qs ((a : Rat) / (b : Rat)) := (Vl.frq hb (by have := castI hb; grind)).qs
theorem qs_int (a : Int) : qs (a : Rat) = (a, 1) := ((Vl.int a).qs).symm
theorem qs_zero : qs 0 = (0, 1) := qs_int 0
theorem qs_one : qs 1 = (1, 1) := qs_int 1
/-! bounds: q is at most c over d -/
structure Iq (d c : Nat) (q : Rat) : Prop where
  pos : 0 < d
  ex : ∃ t : Int, q * ((d : Int) : Rat) = (t : Rat) ∧ t.natAbs ≤ c
theorem Iq.eq {d c : Nat} {q : Rat} (h : Iq d c q) : ∃ t : Int, qs q = frq t d ∧ t.natAbs ≤ c := by
  obtain ⟨t, e, l⟩ := h.ex
  have hd : ((d : Nat) : Int) ≠ 0 := by have := h.pos; omega
  exact ⟨t, ((Vl.frq hd e.symm).qs).symm, l⟩
theorem Iq.num {d c : Nat} {q : Rat} (h : Iq d c q) : (qs q).1.natAbs ≤ c := by
  obtain ⟨t, e, l⟩ := h.eq
  rw [e]
  exact Nat.le_trans (frq_le t d).1 l
theorem Iq.den {d c : Nat} {q : Rat} (h : Iq d c q) : (qs q).2.natAbs ≤ d := by
  obtain ⟨t, e, l⟩ := h.eq
  rw [e]
  have := (frq_le t d).2
  rwa [Int.natAbs_natCast] at this
theorem Iq.mono {d c c' : Nat} {q : Rat} (h : Iq d c q) (l : c ≤ c') : Iq d c' q := ⟨h.pos, let ⟨t, e, b⟩ := h.ex; ⟨t, e, Nat.le_trans b l⟩⟩
theorem Iq.neg {d c : Nat} {p : Rat} (h : Iq d c p) : Iq d c (-p) := by
  obtain ⟨t, e, b⟩ := h.ex
  exact ⟨h.pos, -t, by rw [Rat.intCast_neg, ← e]; grind, by omega⟩
theorem Iq.zero {d : Nat} (c : Nat) (hd : 0 < d) : Iq d c 0 := ⟨hd, 0, by rw [Rat.intCast_zero]; grind, Nat.zero_le _⟩
theorem Iq.up {d c : Nat} {q : Rat} (h : Iq d c q) {k : Nat} (hk : 0 < k) : Iq (d * k) (c * k) q := by
  obtain ⟨t, e, b⟩ := h.ex
  refine ⟨Nat.mul_pos h.pos hk, t * k, ?_, ?_⟩
  · rw [Int.natCast_mul, Rat.intCast_mul, Rat.intCast_mul, ← e]; grind
  · rw [Int.natAbs_mul, Int.natAbs_natCast]; exact Nat.mul_le_mul_right _ b
theorem Iq.int (t : Int) : Iq 1 t.natAbs (t : Rat) := ⟨by decide, t, by show (t : Rat) * ((1 : Int) : Rat) = t; rw [Rat.intCast_one]; grind, Nat.le_refl _⟩
theorem Iq.one : Iq 1 1 1 := Iq.int 1
theorem Iq.fr {t b : Int} {m c : Nat} (h1 : t.natAbs ≤ c) (h2 : 0 < b) (h3 : b ∣ (m : Int)) (hm : 0 < m) : Iq m (c * m) ((t : Rat) / (b : Rat)) := by
  obtain ⟨k, hk⟩ := h3
  have hb := castI (Int.ne_of_gt h2)
  refine ⟨hm, t * k, ?_, ?_⟩
  · rw [hk, Rat.intCast_mul, Rat.intCast_mul]; grind
  · rw [Int.natAbs_mul]
    refine Nat.mul_le_mul h1 ?_
    have : (m : Int).natAbs = b.natAbs * k.natAbs := by rw [hk, Int.natAbs_mul]
    rw [Int.natAbs_natCast] at this
    rw [this]
    exact Nat.le_mul_of_pos_left _ (by omega)
end Pf.Mn

namespace Pf
open PySem PySem.Spec PyProof.Rows L2 L3
local macro_rules | `(tactic| fail) => `(tactic| first
  | with_reducible refine wp_seqSet ?_
  | with_reducible refine wp_seqAsg ?_
  | with_reducible refine wp_seqPar ?_
  | with_reducible refine wp_seqPar3 ?_
  | with_reducible refine wp_seqFset ?_
  | with_reducible refine wp_seqFaug ?_
  | with_reducible refine wp_sFset ?_
  | with_reducible refine wp_sFaug ?_
  | with_reducible refine wp_meth ?_
  | with_reducible refine wp_make ?_
  | with_reducible refine wp_methX ?_
  | with_reducible refine wp_makeX ?_
  | with_reducible refine wp_sPar3 ?_
  | with_reducible refine three_ok ?_
  | with_reducible refine wp_seqAug ?_
  | with_reducible refine wp_seqExpr ?_
  | with_reducible refine wp_seqSub ?_
  | with_reducible refine wp_seqNil ?_
  | with_reducible refine wp_seqFor ?_
  | with_reducible refine wp_seqWhile ?_
  | with_reducible refine wp_seqStar ?_
  | with_reducible refine wp_seqForK ?_
  | with_reducible refine wp_seqDput ?_
  | with_reducible refine wp_seqMul ?_
  | with_reducible refine wp_sSet ?_
  | with_reducible refine wp_sRet ?_
  | with_reducible refine wp_sNil ?_
  | with_reducible refine wp_sIf ?_
  | with_reducible refine wp_sPar ?_
  | with_reducible refine wp_sAsg ?_
  | with_reducible refine wp_sSub ?_
  | with_reducible refine wp_sFor ?_
  | with_reducible refine wp_sRaise ?_
  | with_reducible refine wp_sExpr ?_
  | with_reducible refine wp_sRetN ?_
  | with_reducible refine wp_sBreak ?_
  | with_reducible refine wp_sCont ?_
  | ((with_reducible refine wp_varE ?_); refine ⟨_, rfl, ?_⟩)
  | with_reducible refine wp_c ?_
  | with_reducible refine wp_B ?_
  | with_reducible refine wp_U ?_
  | with_reducible refine wp_T ?_
  | with_reducible refine wp_andT ?_
  | with_reducible refine wp_orT ?_
  | with_reducible refine wp_notT ?_
  | with_reducible refine wp_andV ?_
  | with_reducible refine wp_orV ?_
  | with_reducible refine wp_notV ?_
  | with_reducible refine wp_if ?_
  | with_reducible refine wp_nil ?_
  | with_reducible refine wp_cons ?_
  | with_reducible refine wp_tup ?_
  | with_reducible refine wp_lst ?_
  | with_reducible refine wp_lstC ?_
  | with_reducible refine wp_call ?_
  | with_reducible refine wp_callD ?_
  | with_reducible refine wp_callB ?_
  | with_reducible refine wp_m ?_
  | with_reducible refine wp_oNone ?_
  | with_reducible refine wp_oSome ?_
  | with_reducible refine wp_sl ?_
  | with_reducible refine wp_tried ?_
  | with_reducible refine wp_asked ?_
  | with_reducible refine wp_seqOut ?_
  | with_reducible refine wp_asks ?_ | with_reducible refine wp_eDoors ?_
  | with_reducible refine wp_asksC ?_
  | with_reducible refine wp_asksN ?_
  | with_reducible refine wp_chain ?_
  | with_reducible refine wp_enum ?_
  | with_reducible refine wp_enumB ?_
  | with_reducible refine wp_zip ?_
  | with_reducible refine wp_joinedT ?_
  | with_reducible refine wp_jNil ?_
  | with_reducible refine wp_jT ?_
  | with_reducible refine wp_lc ?_
  | with_reducible refine wp_lcC ?_
  | with_reducible refine wp_yes ?_
  | with_reducible refine wp_iAny ?_
  | with_reducible refine wp_range1 ?_
  | with_reducible refine wp_range2 ?_
  | with_reducible refine wp_sStar ?_
  | with_reducible refine wp_sDput ?_
  | with_reducible refine wp_sMul ?_
  | with_reducible refine wp_mNil ?_
  | with_reducible refine wp_mCons ?_
  | with_reducible refine wp_mSub ?_
  | with_reducible refine wp_mSubD ?_
  | with_reducible refine wp_dget2 ?_
  | with_reducible refine wp_disp ?_
  | with_reducible refine wp_pNil ?_
  | with_reducible refine wp_pCons ?_
  | with_reducible refine wp_dc ?_
  | with_reducible refine wp_seqTail ?_
  | with_reducible refine wp_sTail ?_
  | with_reducible refine wp_newDC ?_
  | with_reducible refine wp_newDT ?_
  | with_reducible refine wp_key ?_
  | with_reducible refine wp_tget2 ?_
  | with_reducible refine wp_seqKput ?_
  | with_reducible refine wp_sKput ?_
  | with_reducible refine wp_lRg1 ?_
  | with_reducible refine wp_lRg2 ?_
  | with_reducible refine wp_dpop2 ?_
  | with_reducible refine wp_eTO ?_
  | with_reducible refine wp_notO ?_)
local macro_rules | `(tactic| fail) => `(tactic| first
  | with_reducible refine wp_eqI ?_
  | with_reducible refine wp_neI ?_
  | with_reducible refine wp_eqB ?_
  | with_reducible refine wp_neB ?_
  | ((with_reducible refine wp_eqStr ?_ ?_ ?_); decide +kernel; decide +kernel)
  | ((with_reducible refine wp_neStr ?_ ?_ ?_); decide +kernel; decide +kernel)
  | with_reducible refine wp_addI ?_
  | with_reducible refine wp_addII ?_
  | with_reducible refine wp_subI ?_
  | with_reducible refine wp_ltI ?_
  | with_reducible refine wp_leI ?_
  | with_reducible refine wp_gtI ?_
  | with_reducible refine wp_geI ?_
  | with_reducible refine wp_negI ?_
  | with_reducible refine wp_intI ?_
  | with_reducible refine wp_intB ?_
  | with_reducible refine wp_absI ?_
  | with_reducible refine wp_un ?_
  | ((with_reducible refine wp_mul ?_ ?_); first | exact mulOk_right (by decide) | exact mulOk_left (by decide) | exact mulOk_mod (by decide) (by decide))
  | ((with_reducible refine wp_mod ?_ ?_); decide)
  | ((with_reducible refine wp_fdiv ?_ ?_ ?_); decide; exact pylong_200 (by decide))
  | with_reducible refine wp_pow18 ?_
  | with_reducible refine wp_pow12 ?_
  | with_reducible refine wp_pow40 ?_
  | ((with_reducible refine wp_ixE ?_); refine ⟨_, rfl, ?_⟩)
  | with_reducible refine wp_len0 ?_
  | with_reducible refine wp_len1 ?_
  | with_reducible refine wp_len2 ?_
  | with_reducible refine wp_len3 ?_
  | with_reducible refine wp_lenT1 ?_
  | with_reducible refine wp_lenT2 ?_
  | with_reducible refine wp_lenT3 ?_
  | ((with_reducible refine wp_lenE ?_); refine ⟨_, rfl, ?_⟩)
  | ((with_reducible refine wp_listOfE ?_); refine ⟨_, rfl, ?_⟩)
  | ((with_reducible refine wp_isiE ?_); refine ⟨_, rfl, ?_⟩)
  | ((with_reducible refine wp_isNE ?_); refine ⟨_, rfl, ?_⟩)
  | ((with_reducible refine wp_notNE ?_); refine ⟨_, rfl, ?_⟩)
  | ((with_reducible refine wp_slE ?_); refine ⟨_, rfl, ?_⟩)
  | ((with_reducible refine sub_okE ?_); refine ⟨_, rfl, ?_⟩)
  | with_reducible refine Exists.intro _ (And.intro rfl ?_)
  | with_reducible refine Exists.intro _ (Exists.intro _ (And.intro rfl ?_))
  | ((with_reducible refine len_eq ?_ ?_); exact rfl)
  | ((with_reducible refine rng_ok ?_ ?_); omega)
  | ((with_reducible refine rng2_ok ?_ ?_); omega)
  | ((with_reducible refine rngD_len ?_ ?_); omega)
  | ((with_reducible refine len_100 ?_ ?_); exact Nat.le_of_ble_eq_true rfl)
  | ((with_reducible refine isTy_ok ?_ ?_); exact rfl)
  | ((with_reducible refine br_t ?_ ?_); first | with_reducible exact rfl | decide)
  | ((with_reducible refine br_f ?_ ?_); first | with_reducible exact rfl | decide)
  | with_reducible refine br_d (fun _ => ?_) (fun _ => ?_)
  | with_reducible refine br_n (fun _ => ?_) (fun _ => ?_))
/-- the bag of draws: what is left of the script, how many are taken, what is left of a great one, the state, how often -/
def Bg (g : MO) : Prop := ∃ (ns : List Int) (i r s c : Int), g = .lst [.lst (ns.map D.int), .int i, .int r, .int s, .int c] ∧ 0 ≤ i ∧ i ≤ ns.length ∧ ns.length ≤ 63 ∧ 0 ≤ r
theorem wp_pull {g : MO} {m : Sto} {s : Int} {Q : D → Sto → Prop} {E : Exs} (h : Bg g) (hs : 0 < s) (h2 : s < 2 ^ 200) (q : ∀ v g', 0 ≤ v → v < s → Bg g' → Q (.int v) (g' :: m)) : (f__law_pull [.cell 0, .int s] (g :: m)).wp Q E := by
  obtain ⟨ns, i, r, st, c, rfl, h3, h4, h5, h6⟩ := h
  have py : Builtin.divisionGoesByPylong st s = false := pylong_200 (by omega)
  unfold f__law_pull
  with_reducible refine wp_fn ?_
  unfold b__law_pull
  refine wp_cut (N0 := fun ρ1 μ1 => ∃ x i r st c, ρ1 = [some (.cell 0), some (.int s), x, none, none] ∧ μ1 = .lst [.lst (ns.map D.int), .int i, .int r, .int st, .int c] :: m ∧ 0 ≤ i ∧ i ≤ ns.length ∧ 0 ≤ r) ?_ ?_
  · repeat (first | fail | with_reducible refine wp_sSeq ?_)
    · rename_i hi
      have hi : i < ns.length := by simpa using hi
      have h1 : i.toNat < ns.length := by omega
      refine wp_ix (ix_lst (x := .int ns[i.toNat]) h3 (by rw [List.getElem?_map, List.getElem?_eq_getElem h1]; rfl)) ?_
      repeat (first | fail | with_reducible refine wp_sSeq ?_)
      · rename_i hg
        exact ⟨_, _, _, _, _, rfl, rfl, by omega, by omega, by omega⟩
      · repeat (first | fail | with_reducible refine wp_sSeq ?_)
        exact ⟨_, _, _, _, _, rfl, rfl, by omega, by omega, h6⟩
    · repeat (first | fail | with_reducible refine wp_sSeq ?_)
      exact ⟨_, _, _, _, _, rfl, rfl, h3, h4, h6⟩
    · repeat (first | fail | with_reducible refine wp_sSeq ?_)
      exact ⟨_, _, _, _, _, rfl, rfl, h3, h4, h6⟩
  · rintro ρ1 μ1 ⟨x, i, r, st, c, rfl, rfl, h3, h4, h6⟩
    repeat (first | fail | with_reducible refine wp_sSeq ?_)
    · refine wp_mod (by omega) ?_
      repeat (first | fail | with_reducible refine wp_sSeq ?_)
      refine wp_fdiv (by omega) (pylong_200 (by omega)) ?_
      repeat (first | fail | with_reducible refine wp_sSeq ?_)
      exact q _ _ (Int.fmod_nonneg_of_pos _ hs) (Int.fmod_lt_of_pos _ hs) ⟨ns, _, _, _, _, rfl, h3, h4, h5, by rw [Int.fdiv_eq_ediv_of_nonneg _ (Int.le_of_lt hs)]; exact Int.ediv_nonneg h6 (Int.le_of_lt hs)⟩
    · repeat (first | fail | with_reducible refine wp_sSeq ?_)
      refine wp_mod (by omega) ?_
      repeat (first | fail | with_reducible refine wp_sSeq ?_)
      exact q _ _ (Int.fmod_nonneg_of_pos _ hs) (Int.fmod_lt_of_pos _ hs) ⟨ns, _, _, _, _, rfl, h3, h4, h5, h6⟩
theorem wp_of {g : MO} {m : Sto} {xs : List D} {Q : D → Sto → Prop} {E : Exs} (h : Bg g) (hs : 0 < xs.length) (h2 : xs.length < 2 ^ 60) (q : ∀ (v : Nat) x g', xs[v]? = some x → Bg g' → Q x (g' :: m)) : (f__law_of [.cell 0, .lst xs] (g :: m)).wp Q E := by
  unfold f__law_of
  with_reducible refine wp_fn ?_
  unfold b__law_of
  repeat (first | fail | with_reducible refine wp_sSeq ?_)
  refine wp_pull h (by omega) (by omega) fun v g' h3 h4 hg => ?_
  have h5 : v.toNat < xs.length := by omega
  refine wp_ix (ix_lst h3 (List.getElem?_eq_getElem h5)) ?_
  repeat (first | fail | with_reducible refine wp_sSeq ?_)
  exact q v.toNat _ g' (List.getElem?_eq_getElem h5) hg
/-! gcd -/
theorem fmod_lt {x y : Int} (h : y ≠ 0) : (x.fmod y).natAbs < y.natAbs := by
  by_cases hy : 0 < y
  · have h1 := Int.fmod_nonneg_of_pos x hy
    have h2 := Int.fmod_lt_of_pos x hy
    omega
  · have hy : 0 < -y := by omega
    have e : x.fmod y = -((-x).fmod (-y)) := by rw [Int.neg_fmod_neg]; omega
    have h1 := Int.fmod_nonneg_of_pos (-x) hy
    have h2 := Int.fmod_lt_of_pos (-x) hy
    omega
theorem gcd_fmod (x y : Int) : Int.gcd y (x.fmod y) = Int.gcd x y := by
  have e : x.fmod y = x - y * x.fdiv y := by have := Int.mul_fdiv_add_fmod x y; omega
  rw [e, Int.gcd_comm x y]
  exact Int.gcd_sub_mul_left_right ..
theorem wp_gcd {m : Sto} {a b : Int} {Q : D → Sto → Prop} {E : Exs} (q : Q (.int (Int.gcd a b : Nat)) m) : (f__law_gcd [.int a, .int b] m).wp Q E := by
  unfold f__law_gcd
  with_reducible refine wp_fn ?_
  unfold b__law_gcd
  refine wp_sSeq ?_
  refine wp_while (I := fun k ρ μ => μ = m ∧ ∃ x y, ρ = [some (.int x), some (.int y)] ∧ Int.gcd x y = Int.gcd a b ∧ y.natAbs = k) (m := b.natAbs) ⟨rfl, a, b, rfl, rfl, rfl⟩ ?_
  rintro k ρ μ ⟨rfl, x, y, rfl, hg, hk⟩
  repeat (first | fail | with_reducible refine wp_sSeq ?_)
  · rename_i hy
    repeat (first | fail | with_reducible refine wp_sSeq ?_)
    refine wp_mod hy ?_
    repeat (first | fail | with_reducible refine wp_sSeq ?_)
    exact ⟨(x.fmod y).natAbs, by rw [← hk]; exact fmod_lt hy, rfl, _, _, rfl, by rw [gcd_fmod]; exact hg, rfl⟩
  · rename_i hy
    have hy : y = 0 := by simpa using hy
    subst hy
    have e : x.natAbs = Int.gcd a b := by rw [← hg]; simp
    repeat (first | fail | with_reducible refine wp_sSeq ?_)
    rw [e]; exact q
/-! shares -/
def frG (t b : Int) : Int := if b < 0 then -(Int.gcd t b : Nat) else (Int.gcd t b : Nat)
def frI (t b : Int) : Int × Int := (t.fdiv (frG t b), b.fdiv (frG t b))
def dSh (s : Int × Int) : D := .tup [.int s.1, .int s.2]
/-- few bits -/
def NB (b : Int) : Prop := b.natAbs < 2 ^ 9000
theorem NB.py {a b : Int} (h : NB b) : Builtin.divisionGoesByPylong a b = false := pylong_small h
theorem NB.of {b : Int} {n : Nat} (h : b.natAbs < 2 ^ n) (hn : n ≤ 9000 := by decide) : NB b := Nat.lt_of_lt_of_le h (Nat.pow_le_pow_right (by decide) hn)
theorem frG_ne {t b : Int} (h : b ≠ 0) : frG t b ≠ 0 := by
  have : Int.gcd t b ≠ 0 := fun z => h (Int.gcd_eq_zero_iff.mp z).2
  unfold frG
  split <;> omega
theorem frG_NB {t b : Int} (h : b ≠ 0) (hb : NB b) : NB (frG t b) := by
  have h1 : Int.gcd t b ≤ b.natAbs := Nat.le_of_dvd (by omega) (Int.gcd_dvd_natAbs_right t b)
  have h2 : (frG t b).natAbs = Int.gcd t b := by unfold frG; split <;> omega
  unfold NB at hb ⊢
  rw [h2]
  exact Nat.lt_of_le_of_lt h1 hb
theorem wp_frP {m : Sto} {t b : Int} {Q : D → Sto → Prop} {E : Exs} (h : b ≠ 0) (hp : NB (frG t b)) (q : Q (dSh (frI t b)) m) : (f__law_fr [.int t, .int b] m).wp Q E := by
  unfold f__law_fr
  with_reducible refine wp_fn ?_
  unfold b__law_fr
  repeat (first | fail | with_reducible refine wp_sSeq ?_)
  refine wp_gcd ?_
  refine wp_cut (N0 := fun ρ μ => ρ = [some (.int t), some (.int b), some (.int (frG t b))] ∧ μ = m) ?_ ?_
  · repeat (first | fail | with_reducible refine wp_sSeq ?_)
    · exact ⟨by rename_i hb; unfold frG; rw [if_pos hb]; rw [Int.zero_sub]; rfl, rfl⟩
    · repeat (first | fail | with_reducible refine wp_sSeq ?_)
      exact ⟨by rename_i hb; unfold frG; rw [if_neg hb]; rfl, rfl⟩
  · rintro ρ1 μ1 ⟨rfl, rfl⟩
    repeat (first | fail | with_reducible refine wp_sSeq ?_)
    refine wp_fdiv (frG_ne h) hp.py ?_
    repeat (first | fail | with_reducible refine wp_sSeq ?_)
    refine wp_fdiv (frG_ne h) hp.py ?_
    repeat (first | fail | with_reducible refine wp_sSeq ?_)
    exact q
theorem wp_fr {m : Sto} {t b : Int} {Q : D → Sto → Prop} {E : Exs} (h : b ≠ 0) (hb : NB b) (q : Q (dSh (frI t b)) m) : (f__law_fr [.int t, .int b] m).wp Q E := wp_frP h (frG_NB h hb) q
/-! same -/
theorem wp_same {m : Sto} {n : Nat} {d : D} (h : Pu n d) : (f__law_same n [d, d] m).wp (fun r μ => r = .bl true ∧ μ = m) noE := by
  induction h with
  | non =>
    rw [f__law_same_s]; (with_reducible refine wp_fn ?_); unfold b__law_same
    repeat (first | fail | with_reducible refine wp_sSeq ?_)
    exact ⟨rfl, rfl⟩
  | bl b =>
    rw [f__law_same_s]; (with_reducible refine wp_fn ?_); unfold b__law_same
    repeat (first | fail | with_reducible refine wp_sSeq ?_)
    exact ⟨by simp, rfl⟩
  | int b =>
    rw [f__law_same_s]; (with_reducible refine wp_fn ?_); unfold b__law_same
    repeat (first | fail | with_reducible refine wp_sSeq ?_)
    exact ⟨by simp, rfl⟩
  | @str n b hb =>
    rw [f__law_same_s]; (with_reducible refine wp_fn ?_); unfold b__law_same
    repeat (first | fail | with_reducible refine wp_sSeq ?_)
    refine wp_prim (Pu.eq_self (n := 1) (.str hb) (by decide) _) ?_
    exact ⟨rfl, rfl⟩
  | @lst n xs hl h ih =>
    rw [f__law_same_s]; (with_reducible refine wp_fn ?_); unfold b__law_same
    repeat (first | fail | with_reducible refine wp_sSeq ?_)
    · refine wp_lcMap (h := fun _ => .bl true) ?_ fun i hi => ?_
      · repeat (first | fail | with_reducible refine wp_sSeq ?_)
        refine all_true ⟨rfl, rfl⟩
      · have hi : i < xs.length := by simpa using hi
        refine ⟨_, rfl, ?_⟩
        repeat (first | fail | with_reducible refine wp_sSeq ?_)
        refine wp_ix (ix_lst (by omega) (x := xs[i]) (by rw [← List.getElem?_eq_getElem hi]; congr 1; omega)) ?_
        repeat (first | fail | with_reducible refine wp_sSeq ?_)
        refine wp_ix (ix_lst (by omega) (x := xs[i]) (by rw [← List.getElem?_eq_getElem hi]; congr 1; omega)) ?_
        repeat (first | fail | with_reducible refine wp_sSeq ?_)
        exact ih _ (List.getElem_mem hi)
    · rename_i h; exact absurd rfl h
  | @tup n xs hl h ih =>
    rw [f__law_same_s]; (with_reducible refine wp_fn ?_); unfold b__law_same
    repeat (first | fail | with_reducible refine wp_sSeq ?_)
    · refine wp_lcMap (h := fun _ => .bl true) ?_ fun i hi => ?_
      · repeat (first | fail | with_reducible refine wp_sSeq ?_)
        refine all_true ⟨rfl, rfl⟩
      · have hi : i < xs.length := by simpa using hi
        refine ⟨_, rfl, ?_⟩
        repeat (first | fail | with_reducible refine wp_sSeq ?_)
        refine wp_ix (ix_tup (by omega) (x := xs[i]) (by rw [← List.getElem?_eq_getElem hi]; congr 1; omega)) ?_
        repeat (first | fail | with_reducible refine wp_sSeq ?_)
        refine wp_ix (ix_tup (by omega) (x := xs[i]) (by rw [← List.getElem?_eq_getElem hi]; congr 1; omega)) ?_
        repeat (first | fail | with_reducible refine wp_sSeq ?_)
        exact ih _ (List.getElem_mem hi)
    · rename_i h; exact absurd rfl h
theorem wp_sameQ {m : Sto} {n : Nat} {d : D} {Q : D → Sto → Prop} {E : Exs} (h : Pu n d) (q : Q (.bl true) m) : (f__law_same n [d, d] m).wp Q E :=
  wp_mono (wp_same h) (fun r μ ⟨e1, e2⟩ => by subst e1 e2; exact q) fun _ _ _ _ z => z.elim
theorem Pu.sh {n : Nat} {s : Int × Int} : Pu (n + 2) (dSh s) := .tup (by simp) (Pu.cons (.int _) (Pu.cons (.int _) Pu.nil))
theorem wp__law_add {m : Sto} {s u : Int × Int} {Q : D → Sto → Prop} {E : Exs} (m0 : IntMulOk s.1 u.2) (m1 : IntMulOk u.1 s.2) (m2 : IntMulOk s.2 u.2) (n : s.2 * u.2 ≠ 0) (b : NB (s.2 * u.2)) (q : Q (dSh (frI (s.1 * u.2 + u.1 * s.2) (s.2 * u.2))) m) : (f__law_add [dSh s, dSh u] m).wp Q E := by
  unfold f__law_add
  with_reducible refine wp_fn ?_
  unfold b__law_add
  repeat fail
  refine wp_mul m0 ?_
  repeat fail
  refine wp_mul m1 ?_
  repeat fail
  refine wp_mul m2 ?_
  repeat fail
  exact wp_fr n b q
theorem cut63 {ns : List Int} (h : ns.length ≤ 63) : L3.cutD (ns.map D.int) none (some 63) = ns.map D.int := by
  have e1 : HT.sIx (ns.map D.int).length 0 none = 0 := rfl
  have e2 : HT.sIx (ns.map D.int).length (ns.map D.int).length (some 63) = ns.length := by
    show (if (63 : Int) < 0 then ((63 : Int) + ((ns.map D.int).length : Int)).toNat else min (Int.toNat 63) (ns.map D.int).length) = _
    rw [if_neg (by decide), List.length_map]
    show min 63 _ = _
    omega
  unfold L3.cutD
  rw [e1, e2, List.drop_zero, Nat.sub_zero]
  exact List.take_of_length_le (by simp)
theorem wp_bag {ns : List Int} {Q : D → Sto → Prop} {E : Exs} (h : ns.length ≤ 63) (q : ∀ g, Bg g → Q (.cell 0) [g]) : (f__law_bag__1 [.scr ns] []).wp Q E := by
  unfold f__law_bag__1
  with_reducible refine wp_fn ?_
  unfold b__law_bag__1
  repeat fail
  have e : dSl3 (.scr ns) none (some 63) [] = .ok (.lst (ns.map D.int)) [] := by
    show R.ok (D.lst (L3.cutD (ns.map D.int) none (some 63))) [] = _
    rw [cut63 h]
  dsimp only
  rw [cut63 h]
  refine wp_forS (I := fun ds ρ μ => μ = [] ∧ (∃ ms : List Int, ds = ms.map D.int) ∧ ∃ s x, ρ = [some (.scr ns), some (.int s), x]) ⟨rfl, ⟨ns, rfl⟩, _, _, rfl⟩ ?_ ?_
  · rintro ρ μ ⟨rfl, _, s, x, rfl⟩
    refine ⟨rfl, ?_⟩
    repeat fail
    rw [cut63 h]
    exact q _ ⟨ns, 0, 0, _, _, rfl, by omega, by omega, h, by omega⟩
  · rintro d ds ρ μ ⟨rfl, ⟨ms, hm⟩, s, x, rfl⟩
    cases ms with
    | nil => cases hm
    | cons z ms =>
      cases hm
      refine ⟨rfl, _, rfl, ?_⟩
      repeat fail
      exact ⟨rfl, ⟨ms, rfl⟩, _, _, rfl⟩
theorem wp_light {g : MO} {m : Sto} {Q : D → Sto → Prop} {E : Exs} (h : Bg g) (q : ∀ (t b : Int) g', -4 ≤ t → t ≤ 4 → 1 ≤ b → b ≤ 5 → Bg g' → Q (dSh (frI t b)) (g' :: m)) : (f__law_light [.cell 0] (g :: m)).wp Q E := by
  unfold f__law_light
  with_reducible refine wp_fn ?_
  unfold b__law_light
  repeat fail
  refine wp_pull h (by decide) (by decide) fun v g1 h1 h2 hg1 => ?_
  repeat fail
  refine wp_pull hg1 (by decide) (by decide) fun w g2 h3 h4 hg2 => ?_
  obtain ⟨b, hb, h5, h6⟩ : ∃ b : Int, ([.int 1, .int 1, .int 1, .int 2, .int 3, .int 5] : List D)[w.toNat]? = some (.int b) ∧ 1 ≤ b ∧ b ≤ 5 := by
    have : w = 0 ∨ w = 1 ∨ w = 2 ∨ w = 3 ∨ w = 4 ∨ w = 5 := by omega
    rcases this with e | e | e | e | e | e <;> subst e <;> exact ⟨_, rfl, by decide, by decide⟩
  refine wp_ix (ix_lst h3 hb) ?_
  repeat fail
  exact wp_fr (by omega) (NB.of (n := 64) (by omega)) (q _ _ g2 (by omega) (by omega) h5 h6 hg2)
theorem t_empty : ("" : Str) = SX.S [] := by decide +kernel
/-! shares as texts -/
def neg (a : List Nat) : Prop := a.take 1 = [45]
instance (a : List Nat) : Decidable (neg a) := by unfold neg; infer_instance
theorem intL_ok (i : Int) : okT (intL i) := by
  unfold intL
  split
  · exact okT.cons (by decide) (okT.digits (TL.numL_digits _))
  · exact okT.digits (TL.numL_digits _)
theorem intL_len {i : Int} (h : i.natAbs < 10 ^ 12) : (intL i).length ≤ 13 := by
  have := TL.numL_len (k := 12) (by decide) h
  unfold intL
  split
  · rw [List.length_cons]; omega
  · omega
def IsLet (z : List Nat) : Prop := (1 ≤ z.length ∧ z.length ≤ 6) ∧ ∀ c ∈ z, 97 ≤ c ∧ c ≤ 122
theorem small : ("abcdefghijklmnopqrstuvwxyz" : Str) = SX.S ((List.range 26).map (97 + ·)) := by decide +kernel
instance (z : List Nat) : Decidable (IsLet z) := by unfold IsLet; infer_instance
def letsD (zs : List (List Nat)) : List D := zs.map fun z => .str (SX.S z)
theorem wp_lcM {α : Type} {E : Exs} {ρ : L3.Env} {μ : Sto} {sg : SG} {te : SE} {gd : Sto → Bool} {Q : List D → Sto → Prop} {l : List α} {g k : α → D} (hg : gd μ = true) (q : Q (l.map k) μ)
    (hs : ∀ x ∈ l, ∃ ρ1, sg (g x) ρ μ = some ρ1 ∧ (te ρ1 μ).wp (fun y μ2 => y = k x ∧ μ2 = μ) noE) : (lcS gd sg tYesS te ρ (l.map g) μ).wp Q E := by
  refine wp_lcS (fun ys zs μ' => μ' = μ ∧ ∃ us ws : List α, l = us ++ ws ∧ zs = ws.map g ∧ ys = us.map k) ⟨rfl, [], l, rfl, rfl, rfl⟩ (fun ys μ' ⟨e1, us, ws, e2, e3, e4⟩ => ?_) fun ys d zs μ' ⟨e1, us, ws, e2, e3, e4⟩ => ?_
  · subst e1 e4
    cases ws with
    | nil => rw [List.append_nil] at e2; subst e2; exact ⟨hg, q⟩
    | cons w ws => cases e3
  · subst e1 e4
    cases ws with
    | nil => cases e3
    | cons w ws =>
      cases e3
      obtain ⟨ρ1, h1, h2⟩ := hs w (by rw [e2]; simp)
      refine ⟨hg, ρ1, h1, ?_⟩
      show (true = true → _) ∧ (true = false → _)
      exact ⟨fun _ => wp_mono h2 (fun y μ2 ⟨e1, e4⟩ => ⟨e4, us ++ [w], ws, by rw [e2]; simp, rfl, by rw [e1]; simp⟩) fun _ _ _ _ z => z, fun z => nomatch z⟩
theorem wp_idx {μ : Sto} {ρ : L3.Env} {i : Nat} {f : SE} {Q : D → Sto → Prop} {E : Exs} (h : i < ρ.length) (q : (f ρ μ).wp Q E) : (eIdx i f ρ μ).wp Q E := by
  unfold eIdx; rw [if_pos h]; exact q
theorem in_small (c : Nat) : decide (c ∈ (SX.S ((List.range 26).map (97 + ·))).cps.toList) = (decide (97 ≤ c) && decide (c ≤ 122)) := by
  rw [← Bool.decide_and]
  apply decide_eq_decide.mpr
  show c ∈ (List.range 26).map (97 + ·) ↔ _
  rw [List.mem_map]
  constructor
  · rintro ⟨a, ha, rfl⟩
    have := List.mem_range.mp ha
    omega
  · rintro ⟨h1, h2⟩
    exact ⟨c - 97, List.mem_range.mpr (by omega), by omega⟩
theorem wp_is_letter {μ : Sto} {a : List Nat} {Q : D → Sto → Prop} {E : Exs} (hl : a.length ≤ 1000000) (q : Q (.bl (decide (IsLet a))) μ) : (f_is_letter [.str (SX.S a)] μ).wp Q E := by
  unfold f_is_letter
  with_reducible refine wp_fn ?_
  unfold b_is_letter
  rw [small]
  repeat' (first | fail | with_reducible refine wp_sSeq ?_)
  refine wp_lenT (by omega) ?_
  repeat' (first | fail | with_reducible refine wp_sSeq ?_)
  · rename_i h1 h2
    refine ⟨by show (a.map fun c => D.str (SX.S [c])).length ≤ sizeLine; rw [List.length_map, sizeLine_eq]; omega, ?_⟩
    refine wp_lcM (l := a) (g := fun c => D.str (SX.S [c])) (k := fun c => D.bl (decide (97 ≤ c) && decide (c ≤ 122))) rfl ?_ fun c hc => ⟨_, rfl, ?_⟩
    · have e : (a.map fun c => D.bl (decide (97 ≤ c) && decide (c ≤ 122))) = (a.map fun c => (decide (97 ≤ c) && decide (c ≤ 122))).map D.bl := by rw [List.map_map]; rfl
      rw [e]
      repeat' (first | fail | with_reducible refine wp_sSeq ?_)
      refine wp_allB ?_
      have e2 : (a.map fun c => (decide (97 ≤ c) && decide (c ≤ 122))).all id = decide (IsLet a) := by
        by_cases h : IsLet a
        · rw [decide_eq_true h, List.all_eq_true]
          intro x hx
          obtain ⟨c, hc, rfl⟩ := List.mem_map.mp hx
          have := h.2 c hc
          simpa using this
        · rw [decide_eq_false h, List.all_eq_false]
          have : ¬ ∀ c ∈ a, 97 ≤ c ∧ c ≤ 122 := fun z => h ⟨⟨by omega, by omega⟩, z⟩
          simp only [Classical.not_forall] at this
          obtain ⟨c, hc, h⟩ := this
          exact ⟨_, List.mem_map.mpr ⟨c, hc, rfl⟩, by simpa using h⟩
      rw [e2]; exact q
    · repeat' (first | fail | with_reducible refine wp_sSeq ?_)
      refine wp_inSign ?_
      rw [in_small]
      exact ⟨rfl, rfl⟩
  · rename_i h1 h2
    rw [decide_eq_false fun z : IsLet a => h2 (by have := z.1.2; omega)] at q
    exact q
  · rename_i h1
    rw [decide_eq_false fun z : IsLet a => h1 (by have := z.1.1; omega)] at q
    exact q
theorem all_true_map {α : Type} {l : List α} : (l.map fun _ => D.bl true) = (l.map fun _ => true).map D.bl := by rw [List.map_map]; rfl
theorem wp_allT {α : Type} {l : List α} {μ : Sto} {Q : D → Sto → Prop} {E : Exs} (q : Q (.bl true) μ) : (dAll (.lst (l.map fun _ => D.bl true)) μ).wp Q E := by
  rw [all_true_map]
  refine wp_allB ?_
  have e : (l.map fun _ => true).all id = true := by simp
  rw [e]; exact q
section
variable {Q : D → Sto → Prop} {E : Exs} {μ : Sto} {k : Nat} {ds zs xs ys : List D} {y a b : D}
theorem isTy_cell (h : μ[k]? = some (.lst ds)) : isTy "list" μ (.cell k) = true := by
  unfold isTy tyD
  dsimp only
  rw [h]
  rfl
theorem wp_append (h : μ[k]? = some (.lst ds)) (l : ds.length < 16777216) (q : Q .non (μ.set k (.lst (ds ++ [y])))) : (dAppend (.cell k) [y] μ).wp Q E := by
  unfold dAppend
  dsimp only
  rw [h]
  dsimp only
  rw [if_pos (by rw [sizeLine_eq]; exact l)]
  exact q
end
theorem wp_ofC {g : MO} {m : Sto} {k : Nat} {xs : List D} {Q : D → Sto → Prop} {E : Exs} (h : Bg g) (hk : m[k]? = some (.lst xs)) (hs : 0 < xs.length) (h2 : xs.length < 2 ^ 60) (q : ∀ (v : Nat) x g', xs[v]? = some x → Bg g' → Q x (g' :: m)) : (f__law_of [.cell 0, .cell (k + 1)] (g :: m)).wp Q E := by
  unfold f__law_of
  with_reducible refine wp_fn ?_
  unfold b__law_of
  repeat' fail
  refine wp_len (len_cell (μ := g :: m) (k := k + 1) hk) ?_
  repeat' fail
  refine wp_pull h (by omega) (by omega) fun v g' h3 h4 hg => ?_
  have h5 : v.toNat < xs.length := by omega
  refine wp_ix (ix_cell (μ := g' :: m) (k := k + 1) hk h3 (List.getElem?_eq_getElem h5)) ?_
  exact q v.toNat _ g' (List.getElem?_eq_getElem h5) hg
/-! same, of lists that are cells -/
inductive Eqs (μ : Sto) : Nat → D → D → Prop
  | pu {n : Nat} {d : D} (h : Pu n d) : Eqs μ n d d
  | lst {n : Nat} {d e : D} {xs ys : List D} (h1 : asL μ d = some xs) (h2 : asL μ e = some ys) (hl : xs.length = ys.length) (hz : ys.length ≤ 16777216) (h : ∀ (i : Nat) (x y : D), xs[i]? = some x → ys[i]? = some y → Eqs μ n x y) : Eqs μ (n + 1) d e
end Pf

namespace Pf
open PySem PySem.Spec PyProof.Rows L2 L3
local macro_rules | `(tactic| fail) => `(tactic| first
  | with_reducible refine wp_seqSet ?_
  | with_reducible refine wp_seqAsg ?_
  | with_reducible refine wp_seqPar ?_
  | with_reducible refine wp_seqPar3 ?_
  | with_reducible refine wp_seqFset ?_
  | with_reducible refine wp_seqFaug ?_
  | with_reducible refine wp_sFset ?_
  | with_reducible refine wp_sFaug ?_
  | with_reducible refine wp_meth ?_
  | with_reducible refine wp_make ?_
  | with_reducible refine wp_methX ?_
  | with_reducible refine wp_makeX ?_
  | with_reducible refine wp_sPar3 ?_
  | with_reducible refine three_ok ?_
  | with_reducible refine wp_seqAug ?_
  | with_reducible refine wp_seqExpr ?_
  | with_reducible refine wp_seqSub ?_
  | with_reducible refine wp_seqNil ?_
  | with_reducible refine wp_seqFor ?_
  | with_reducible refine wp_seqWhile ?_
  | with_reducible refine wp_seqStar ?_
  | with_reducible refine wp_seqForK ?_
  | with_reducible refine wp_seqDput ?_
  | with_reducible refine wp_seqMul ?_
  | with_reducible refine wp_sSet ?_
  | with_reducible refine wp_sRet ?_
  | with_reducible refine wp_sNil ?_
  | with_reducible refine wp_sIf ?_
  | with_reducible refine wp_sPar ?_
  | with_reducible refine wp_sAsg ?_
  | with_reducible refine wp_sSub ?_
  | with_reducible refine wp_sFor ?_
  | with_reducible refine wp_sRaise ?_
  | with_reducible refine wp_sExpr ?_
  | with_reducible refine wp_sRetN ?_
  | with_reducible refine wp_sBreak ?_
  | with_reducible refine wp_sCont ?_
  | ((with_reducible refine wp_varE ?_); refine ⟨_, rfl, ?_⟩)
  | with_reducible refine wp_c ?_
  | with_reducible refine wp_B ?_
  | with_reducible refine wp_U ?_
  | with_reducible refine wp_T ?_
  | with_reducible refine wp_andT ?_
  | with_reducible refine wp_orT ?_
  | with_reducible refine wp_notT ?_
  | with_reducible refine wp_andV ?_
  | with_reducible refine wp_orV ?_
  | with_reducible refine wp_notV ?_
  | with_reducible refine wp_if ?_
  | with_reducible refine wp_nil ?_
  | with_reducible refine wp_cons ?_
  | with_reducible refine wp_tup ?_
  | with_reducible refine wp_lst ?_
  | with_reducible refine wp_lstC ?_
  | with_reducible refine wp_call ?_
  | with_reducible refine wp_callD ?_
  | with_reducible refine wp_callB ?_
  | with_reducible refine wp_m ?_
  | with_reducible refine wp_oNone ?_
  | with_reducible refine wp_oSome ?_
  | with_reducible refine wp_sl ?_
  | with_reducible refine wp_tried ?_
  | with_reducible refine wp_asked ?_
  | with_reducible refine wp_seqOut ?_
  | with_reducible refine wp_asks ?_ | with_reducible refine wp_eDoors ?_
  | with_reducible refine wp_asksC ?_
  | with_reducible refine wp_asksN ?_
  | with_reducible refine wp_chain ?_
  | with_reducible refine wp_enum ?_
  | with_reducible refine wp_enumB ?_
  | with_reducible refine wp_zip ?_
  | with_reducible refine wp_joinedT ?_
  | with_reducible refine wp_jNil ?_
  | with_reducible refine wp_jT ?_
  | with_reducible refine wp_lc ?_
  | with_reducible refine wp_lcC ?_
  | with_reducible refine wp_yes ?_
  | with_reducible refine wp_iAny ?_
  | with_reducible refine wp_range1 ?_
  | with_reducible refine wp_range2 ?_
  | with_reducible refine wp_sStar ?_
  | with_reducible refine wp_sDput ?_
  | with_reducible refine wp_sMul ?_
  | with_reducible refine wp_mNil ?_
  | with_reducible refine wp_mCons ?_
  | with_reducible refine wp_mSub ?_
  | with_reducible refine wp_mSubD ?_
  | with_reducible refine wp_dget2 ?_
  | with_reducible refine wp_disp ?_
  | with_reducible refine wp_pNil ?_
  | with_reducible refine wp_pCons ?_
  | with_reducible refine wp_dc ?_
  | with_reducible refine wp_seqTail ?_
  | with_reducible refine wp_sTail ?_
  | with_reducible refine wp_newDC ?_
  | with_reducible refine wp_newDT ?_
  | with_reducible refine wp_key ?_
  | with_reducible refine wp_tget2 ?_
  | with_reducible refine wp_seqKput ?_
  | with_reducible refine wp_sKput ?_
  | with_reducible refine wp_lRg1 ?_
  | with_reducible refine wp_lRg2 ?_
  | with_reducible refine wp_dpop2 ?_
  | with_reducible refine wp_eTO ?_
  | with_reducible refine wp_notO ?_)
local macro_rules | `(tactic| fail) => `(tactic| first
  | with_reducible refine wp_eqI ?_
  | with_reducible refine wp_neI ?_
  | with_reducible refine wp_eqB ?_
  | with_reducible refine wp_neB ?_
  | ((with_reducible refine wp_eqStr ?_ ?_ ?_); decide +kernel; decide +kernel)
  | ((with_reducible refine wp_neStr ?_ ?_ ?_); decide +kernel; decide +kernel)
  | with_reducible refine wp_addI ?_
  | with_reducible refine wp_addII ?_
  | with_reducible refine wp_subI ?_
  | with_reducible refine wp_ltI ?_
  | with_reducible refine wp_leI ?_
  | with_reducible refine wp_gtI ?_
  | with_reducible refine wp_geI ?_
  | with_reducible refine wp_negI ?_
  | with_reducible refine wp_intI ?_
  | with_reducible refine wp_intB ?_
  | with_reducible refine wp_absI ?_
  | with_reducible refine wp_un ?_
  | ((with_reducible refine wp_mul ?_ ?_); first | exact mulOk_right (by decide) | exact mulOk_left (by decide) | exact mulOk_mod (by decide) (by decide))
  | ((with_reducible refine wp_mod ?_ ?_); decide)
  | ((with_reducible refine wp_fdiv ?_ ?_ ?_); decide; exact pylong_200 (by decide))
  | with_reducible refine wp_pow18 ?_
  | with_reducible refine wp_pow12 ?_
  | with_reducible refine wp_pow40 ?_
  | ((with_reducible refine wp_ixE ?_); refine ⟨_, rfl, ?_⟩)
  | with_reducible refine wp_len0 ?_
  | with_reducible refine wp_len1 ?_
  | with_reducible refine wp_len2 ?_
  | with_reducible refine wp_len3 ?_
  | with_reducible refine wp_lenT1 ?_
  | with_reducible refine wp_lenT2 ?_
  | with_reducible refine wp_lenT3 ?_
  | ((with_reducible refine wp_lenE ?_); refine ⟨_, rfl, ?_⟩)
  | ((with_reducible refine wp_listOfE ?_); refine ⟨_, rfl, ?_⟩)
  | ((with_reducible refine wp_isiE ?_); refine ⟨_, rfl, ?_⟩)
  | ((with_reducible refine wp_isNE ?_); refine ⟨_, rfl, ?_⟩)
  | ((with_reducible refine wp_notNE ?_); refine ⟨_, rfl, ?_⟩)
  | ((with_reducible refine wp_slE ?_); refine ⟨_, rfl, ?_⟩)
  | ((with_reducible refine sub_okE ?_); refine ⟨_, rfl, ?_⟩)
  | with_reducible refine Exists.intro _ (And.intro rfl ?_)
  | with_reducible refine Exists.intro _ (Exists.intro _ (And.intro rfl ?_))
  | ((with_reducible refine len_eq ?_ ?_); exact rfl)
  | ((with_reducible refine rng_ok ?_ ?_); omega)
  | ((with_reducible refine rng2_ok ?_ ?_); omega)
  | ((with_reducible refine rngD_len ?_ ?_); omega)
  | ((with_reducible refine len_100 ?_ ?_); exact Nat.le_of_ble_eq_true rfl)
  | ((with_reducible refine isTy_ok ?_ ?_); exact rfl)
  | ((with_reducible refine br_t ?_ ?_); first | with_reducible exact rfl | decide)
  | ((with_reducible refine br_f ?_ ?_); first | with_reducible exact rfl | decide)
  | with_reducible refine br_d (fun _ => ?_) (fun _ => ?_)
  | with_reducible refine br_n (fun _ => ?_) (fun _ => ?_))
abbrev tb (n : Nat) (F : Nat → D) : List D := (List.range n).map F
theorem tb_len (n : Nat) (F : Nat → D) : (tb n F).length = n := by simp
theorem tb_get {n i : Nat} {F : Nat → D} (h : i < n) : (tb n F)[i]? = some (F i) := by
  rw [List.getElem?_map, List.getElem?_range h]; rfl
theorem tb_sz {n : Nat} {F : Nat → D} {A : Prop} (h : n ≤ 1000) (q : A) : (tb n F).length ≤ sizeLine ∧ A := ⟨by rw [tb_len, sizeLine_eq]; omega, q⟩
/-- a list comprehension over a table -/
theorem wp_lcT {E : Exs} {ρ : L3.Env} {μ : Sto} {sg : SG} {te : SE} {gd : Sto → Bool} {Q : List D → Sto → Prop} {n : Nat} {F k : Nat → D} (hg : gd μ = true) (q : Q (tb n k) μ)
    (hs : ∀ i, i < n → ∃ ρ1, sg (F i) ρ μ = some ρ1 ∧ (te ρ1 μ).wp (fun y μ2 => y = k i ∧ μ2 = μ) noE) : (lcS gd sg tYesS te ρ (tb n F) μ).wp Q E :=
  wp_lcM (l := List.range n) (g := F) (k := k) hg q fun x hx => hs x (List.mem_range.mp hx)
theorem setL_nat {k i : Nat} {d : D} {ds : List D} {μ : Sto} (h : μ[k]? = some (.lst ds)) (hi : i < ds.length) : setL k (i : Nat) d μ = some (μ.set k (.lst (ds.set i d))) := by
  unfold setL
  rw [h]
  dsimp only
  rw [ixN_nat (by omega) (by omega)]
  rfl
theorem mulOk_le {a b : Int} {m n : Nat} (ha : a.natAbs ≤ 2 ^ m) (hb : b.natAbs ≤ 2 ^ n) (h : m + n ≤ 100000) : IntMulOk a b := by
  refine mulOk_lt (m := m + 1) (n := n + 1) ?_ ?_ (by omega)
  · rw [Nat.pow_succ]; have : 0 < 2 ^ m := Nat.two_pow_pos _; omega
  · rw [Nat.pow_succ]; have : 0 < 2 ^ n := Nat.two_pow_pos _; omega
theorem NB.le {b : Int} {m : Nat} (h : b.natAbs ≤ 2 ^ m) (l : m < 9000) : NB b := by
  exact NB.of (n := m + 1) (by rw [Nat.pow_succ]; have : 0 < 2 ^ m := Nat.two_pow_pos _; omega) l
theorem S_inj2 {a b : List Nat} (h : SX.S a = SX.S b) : a = b := by
  have := congrArg (fun x : Str => x.cps.toList) h
  simpa [SX.S] using this
abbrev kz (z : List Nat) : Key := .inr (SX.S z)
def keyF (F : Str → D) : Key → D
  | .inr s => F s
  | .inl _ => .non
theorem val_at {zs : List (List Nat)} {F : Key → D} {z : List Nat} (h : z ∈ zs) : valD (zs.map kz) ((zs.map kz).map F) (kz z) = some (F (kz z)) := by
  induction zs with
  | nil => cases h
  | cons a r ih =>
    show (if kz a = kz z then some (F (kz a)) else valD (r.map kz) ((r.map kz).map F) (kz z)) = _
    by_cases c : kz a = kz z
    · rw [if_pos c, c]
    · rw [if_neg c]
      rcases List.mem_cons.mp h with e | e
      · subst e; exact absurd rfl c
      · exact ih e
theorem txt_kz (zs : List (List Nat)) : txtK (zs.map kz) = some (zs.map SX.S) := by
  induction zs with
  | nil => rfl
  | cons a r ih => show (txtK (r.map kz)).map (SX.S a :: ·) = _; rw [ih]; rfl
theorem wp_sortKD {d : D} {ks : List Key} {ds : List D} {xs : List Str} {μ : Sto} {Q : D → Sto → Prop} {E : Exs} (h : dctAt μ d = some (ks, ds)) (hx : txtK ks = some xs) (l : xs.length < 64) (qq : Q (.lst ((sortS xs).map D.str)) μ) : (dSortK d μ).wp Q E := by
  unfold dSortK
  rw [h, show ((some (ks, ds)).bind fun kd => txtK kd.1) = some xs from hx]
  dsimp only
  rw [if_pos l]
  exact qq
theorem wp_dDixD {o i d : D} {ks : List Key} {ds : List D} {q : Key} {μ : Sto} {Q : D → Sto → Prop} {E : Exs} (h : dctAt μ o = some (ks, ds)) (hk : keyD i = some q) (hv : valD ks ds q = some d) (qq : Q d μ) : (dDix o i μ).wp Q E := by
  unfold dDix
  rw [h, hk]
  dsimp only
  rw [hv]
  exact qq
def Shq (m : Nat) (s : Int × Int) : Prop := 0 < s.2 ∧ s.1.natAbs ≤ 2 ^ m ∧ s.2.natAbs ≤ 2 ^ m
theorem Shq.mono {m k : Nat} {s : Int × Int} (h : Shq m s) (l : m ≤ k) : Shq k s :=
  have p := Nat.pow_le_pow_right (n := 2) (by decide) l
  ⟨h.1, Nat.le_trans h.2.1 p, Nat.le_trans h.2.2 p⟩
theorem Shq.frq {m : Nat} {a b : Int} (hb : b ≠ 0) (h1 : a.natAbs ≤ 2 ^ m) (h2 : b.natAbs ≤ 2 ^ m) : Shq m (Mn.frq a b) :=
  ⟨Mn.frq_pos hb, Nat.le_trans (Mn.frq_le a b).1 h1, Nat.le_trans (Mn.frq_le a b).2 h2⟩
section
variable {m k : Nat} {s u : Int × Int}
theorem Shq.bot (hs : Shq m s) (hu : Shq k u) : s.2 * u.2 ≠ 0 ∧ (s.2 * u.2).natAbs ≤ 2 ^ (m + k) := ⟨Int.mul_ne_zero (by have := hs.1; omega) (by have := hu.1; omega), Mn.mul_le hs.2.2 hu.2.2⟩
end
abbrev qRow (w : Nat) (r : Nat → Int × Int) : D := .lst (tb w fun j => dSh (r j))
abbrev qRows (h w : Nat) (L : Nat → Nat → Int × Int) : List D := tb h fun i => qRow w (L i)
theorem asL_cellE {k : Nat} {xs : List D} {μ : Sto} (h : asL μ (.cell k) = some xs) : μ[k]? = some (.lst xs) := by
  have h : (match μ[k]? with
    | some (.lst ds) => some ds
    | _ => none) = some xs := h
  cases e : μ[k]? with
  | none => rw [e] at h; cases h
  | some m =>
    cases m with
    | lst ds => rw [e] at h; cases h; rfl
    | dct _ _ => rw [e] at h; cases h
    | ins _ _ _ => rw [e] at h; cases h
    | oth _ _ _ => rw [e] at h; cases h
theorem asL_walkL {d : D} {xs : List D} {μ : Sto} (h : asL μ d = some xs) : ∃ gd, walkL μ d = some (xs, gd) ∧ gd μ = true := by
  cases d with
  | lst ys => cases h; exact ⟨_, rfl, rfl⟩
  | cell k =>
    have e := asL_cellE h
    exact ⟨_, walkD_cell e, gd_cell e⟩
  | _ => cases h
theorem asL_walkD {d : D} {xs : List D} {μ : Sto} (h : asL μ d = some xs) : ∃ gd, walkD μ d = some (xs, gd) ∧ gd μ = true := by
  cases d with
  | lst ys => cases h; exact ⟨_, rfl, rfl⟩
  | cell k => exact asL_walkL h
  | _ => cases h
theorem asL_app {d : D} {xs : List D} {μ ex : Sto} (h : asL μ d = some xs) : asL (μ ++ ex) d = some xs := by
  cases d with
  | lst ys => cases h; rfl
  | cell k =>
    have e := asL_cellE h
    exact asL_cell (by rw [List.getElem?_append_left (List.getElem?_eq_some_iff.mp e).1]; exact e)
  | _ => cases h
theorem Gp.pos {n m : Nat} {L : Mn.Mq} {A : Nat → Nat → Int} {b : Int} (g : Mn.Gp n m L A b) : ∃ A' b', 0 < b' ∧ Mn.Gp n m L A' b' := by
  by_cases c : 0 < b
  · exact ⟨A, b, c, g⟩
  · refine ⟨fun i j => -A i j, -b, by have := g.nz; omega, g.light (g := -1) (by omega) fun i _ j _ => by omega⟩
/-- rows, each a list wherever it is -/
def QM (μ : Sto) (d : D) (r w : Nat) (L : Nat → Nat → Int × Int) : Prop := ∃ X : Nat → D, asL μ d = some (tb r X) ∧ ∀ i, i < r → asL μ (X i) = some (tb w fun j => dSh (L i j))
theorem QM.app {μ ex : Sto} {d : D} {r w : Nat} {L : Nat → Nat → Int × Int} (h : QM μ d r w L) : QM (μ ++ ex) d r w L := by
  obtain ⟨X, h1, h2⟩ := h
  exact ⟨X, asL_app h1, fun i hi => asL_app (h2 i hi)⟩
theorem QM.rows {μ : Sto} {d : D} {r w : Nat} {L : Nat → Nat → Int × Int} (h : asL μ d = some (qRows r w L)) : QM μ d r w L := ⟨fun i => qRow w (L i), h, fun i hi => rfl⟩
theorem wp_listOfA {d : D} {xs : List D} {μ : Sto} {Q : D → Sto → Prop} {E : Exs} (h : asL μ d = some xs) (q : Q (.lst xs) μ) : (dListOf d μ).wp Q E := by
  cases d with
  | lst ys => cases h; exact wp_listOf rfl q
  | cell k =>
    refine wp_listOf (d := .lst xs) ?_ q
    show (match asQ μ (.cell k) with
      | some ds => R.ok (D.lst ds) μ
      | none => .bad) = _
    have e : asQ μ (.cell k) = some xs := h
    rw [e]
  | _ => cases h
theorem wp_qadd {m k : Nat} {s u : Int × Int} {μ : Sto} {Q : D → Sto → Prop} {E : Exs} (hs : Shq m s) (hu : Shq k u) (h : m + k < 9000) (q : Q (dSh (Mn.addq s u)) μ) : (f__law_add [dSh s, dSh u] μ).wp Q E :=
  wp__law_add (mulOk_le hs.2.1 hu.2.2 (by omega)) (mulOk_le hu.2.1 hs.2.2 (by omega)) (mulOk_le hs.2.2 hu.2.2 (by omega)) (hs.bot hu).1 (NB.le (hs.bot hu).2 h) q
/-- a share in its lowest terms -/
def Low (s : Int × Int) : Prop := Mn.frq s.1 s.2 = s
theorem Low.frq {a b : Int} (hb : b ≠ 0) : Low (Mn.frq a b) := by
  have p := Mn.frq_pos (t := a) hb
  unfold Low
  obtain ⟨y1, y2⟩ := Mn.frq_eq (t := a) hb
  have g0 := Mn.frg_ne (t := a) hb
  have z := Mn.frq_mul (t := (Mn.frq a b).1) g0 (b := (Mn.frq a b).2) (by omega)
  rw [y1, y2] at z
  exact z.symm
theorem Low.mul_one {s : Int × Int} (h : Low s) : Mn.mulq s (1, 1) = s := by
  unfold Mn.mulq
  rw [Int.mul_one, Int.mul_one]; exact h
section
variable {μ : Sto} {h w : Nat} {L : Nat → Nat → Int × Int}
theorem QM.same {d e : D} (h4 : h ≤ 100) (w4 : w ≤ 100) (hd : QM μ d h w L) (he : QM μ e h w L) : Eqs μ 40 d e := by
  obtain ⟨X, x1, x2⟩ := hd
  obtain ⟨Y, y1, y2⟩ := he
  refine .lst (n := 39) x1 y1 (by rw [tb_len, tb_len]) (by rw [tb_len]; omega) fun i x y hx hy => ?_
  have hi : i < h := by
    have := (List.getElem?_eq_some_iff.mp hx).1
    rw [tb_len] at this; exact this
  rw [tb_get hi] at hx hy
  cases hx; cases hy
  refine .lst (n := 38) (x2 i hi) (y2 i hi) rfl (by rw [tb_len]; omega) fun j x y hx hy => ?_
  rw [hx] at hy
  cases hy
  have hj : j < w := by
    have := (List.getElem?_eq_some_iff.mp hx).1
    rw [tb_len] at this; exact this
  rw [tb_get hj] at hx
  cases hx
  exact .pu (Pu.sh (n := 36))
end
/-- sums of small shares: over 60 -/
def Sx (k : Nat) (s : Int × Int) : Prop := ∃ t : Int, s = Mn.frq t 60 ∧ t.natAbs ≤ 2000 * k
theorem Sx.mono {k l : Nat} {s : Int × Int} (h : Sx k s) (hk : k ≤ l) : Sx l s := by
  obtain ⟨t, e, h2⟩ := h
  exact ⟨t, e, Nat.le_trans h2 (Nat.mul_le_mul_left _ hk)⟩
/-- one share of a web: over 60 -/
def S60 (s : Int × Int) : Prop := ∃ t : Int, s = Mn.frq t 60 ∧ t.natAbs ≤ 240
theorem S60.zero {s : Int × Int} (h : S60 s) : s.1 = 0 ↔ s = (0, 1) := by
  obtain ⟨t, rfl, h2⟩ := h
  constructor
  · intro z
    have := (Mn.frq_zero (a := t) (b := 60) (by decide)).mp z
    rw [this]
    exact Mn.frq_nought (by decide)
  · intro z; rw [z]
end Pf

namespace Pf
open PySem PySem.Spec PyProof.Rows L2 L3
local macro_rules | `(tactic| fail) => `(tactic| first
  | with_reducible refine wp_seqSet ?_
  | with_reducible refine wp_seqAsg ?_
  | with_reducible refine wp_seqPar ?_
  | with_reducible refine wp_seqPar3 ?_
  | with_reducible refine wp_seqFset ?_
  | with_reducible refine wp_seqFaug ?_
  | with_reducible refine wp_sFset ?_
  | with_reducible refine wp_sFaug ?_
  | with_reducible refine wp_meth ?_
  | with_reducible refine wp_make ?_
  | with_reducible refine wp_methX ?_
  | with_reducible refine wp_makeX ?_
  | with_reducible refine wp_sPar3 ?_
  | with_reducible refine three_ok ?_
  | with_reducible refine wp_seqAug ?_
  | with_reducible refine wp_seqExpr ?_
  | with_reducible refine wp_seqSub ?_
  | with_reducible refine wp_seqNil ?_
  | with_reducible refine wp_seqFor ?_
  | with_reducible refine wp_seqWhile ?_
  | with_reducible refine wp_seqStar ?_
  | with_reducible refine wp_seqForK ?_
  | with_reducible refine wp_seqDput ?_
  | with_reducible refine wp_seqMul ?_
  | with_reducible refine wp_sSet ?_
  | with_reducible refine wp_sRet ?_
  | with_reducible refine wp_sNil ?_
  | with_reducible refine wp_sIf ?_
  | with_reducible refine wp_sPar ?_
  | with_reducible refine wp_sAsg ?_
  | with_reducible refine wp_sSub ?_
  | with_reducible refine wp_sFor ?_
  | with_reducible refine wp_sRaise ?_
  | with_reducible refine wp_sExpr ?_
  | with_reducible refine wp_sRetN ?_
  | with_reducible refine wp_sBreak ?_
  | with_reducible refine wp_sCont ?_
  | ((with_reducible refine wp_varE ?_); refine ⟨_, rfl, ?_⟩)
  | with_reducible refine wp_c ?_
  | with_reducible refine wp_B ?_
  | with_reducible refine wp_U ?_
  | with_reducible refine wp_T ?_
  | with_reducible refine wp_andT ?_
  | with_reducible refine wp_orT ?_
  | with_reducible refine wp_notT ?_
  | with_reducible refine wp_andV ?_
  | with_reducible refine wp_orV ?_
  | with_reducible refine wp_notV ?_
  | with_reducible refine wp_if ?_
  | with_reducible refine wp_nil ?_
  | with_reducible refine wp_cons ?_
  | with_reducible refine wp_tup ?_
  | with_reducible refine wp_lst ?_
  | with_reducible refine wp_lstC ?_
  | with_reducible refine wp_call ?_
  | with_reducible refine wp_callD ?_
  | with_reducible refine wp_callB ?_
  | with_reducible refine wp_m ?_
  | with_reducible refine wp_oNone ?_
  | with_reducible refine wp_oSome ?_
  | with_reducible refine wp_sl ?_
  | with_reducible refine wp_tried ?_
  | with_reducible refine wp_asked ?_
  | with_reducible refine wp_seqOut ?_
  | with_reducible refine wp_asks ?_ | with_reducible refine wp_eDoors ?_
  | with_reducible refine wp_asksC ?_
  | with_reducible refine wp_asksN ?_
  | with_reducible refine wp_chain ?_
  | with_reducible refine wp_enum ?_
  | with_reducible refine wp_enumB ?_
  | with_reducible refine wp_zip ?_
  | with_reducible refine wp_joinedT ?_
  | with_reducible refine wp_jNil ?_
  | with_reducible refine wp_jT ?_
  | with_reducible refine wp_lc ?_
  | with_reducible refine wp_lcC ?_
  | with_reducible refine wp_yes ?_
  | with_reducible refine wp_iAny ?_
  | with_reducible refine wp_range1 ?_
  | with_reducible refine wp_range2 ?_
  | with_reducible refine wp_sStar ?_
  | with_reducible refine wp_sDput ?_
  | with_reducible refine wp_sMul ?_
  | with_reducible refine wp_mNil ?_
  | with_reducible refine wp_mCons ?_
  | with_reducible refine wp_mSub ?_
  | with_reducible refine wp_mSubD ?_
  | with_reducible refine wp_dget2 ?_
  | with_reducible refine wp_disp ?_
  | with_reducible refine wp_pNil ?_
  | with_reducible refine wp_pCons ?_
  | with_reducible refine wp_dc ?_
  | with_reducible refine wp_seqTail ?_
  | with_reducible refine wp_sTail ?_
  | with_reducible refine wp_newDC ?_
  | with_reducible refine wp_newDT ?_
  | with_reducible refine wp_key ?_
  | with_reducible refine wp_tget2 ?_
  | with_reducible refine wp_seqKput ?_
  | with_reducible refine wp_sKput ?_
  | with_reducible refine wp_lRg1 ?_
  | with_reducible refine wp_lRg2 ?_
  | with_reducible refine wp_dpop2 ?_
  | with_reducible refine wp_eTO ?_
  | with_reducible refine wp_notO ?_)
local macro_rules | `(tactic| fail) => `(tactic| first
  | with_reducible refine wp_eqI ?_
  | with_reducible refine wp_neI ?_
  | with_reducible refine wp_eqB ?_
  | with_reducible refine wp_neB ?_
  | ((with_reducible refine wp_eqStr ?_ ?_ ?_); decide +kernel; decide +kernel)
  | ((with_reducible refine wp_neStr ?_ ?_ ?_); decide +kernel; decide +kernel)
  | with_reducible refine wp_addI ?_
  | with_reducible refine wp_addII ?_
  | with_reducible refine wp_subI ?_
  | with_reducible refine wp_ltI ?_
  | with_reducible refine wp_leI ?_
  | with_reducible refine wp_gtI ?_
  | with_reducible refine wp_geI ?_
  | with_reducible refine wp_negI ?_
  | with_reducible refine wp_intI ?_
  | with_reducible refine wp_intB ?_
  | with_reducible refine wp_absI ?_
  | with_reducible refine wp_un ?_
  | ((with_reducible refine wp_mul ?_ ?_); first | exact mulOk_right (by decide) | exact mulOk_left (by decide) | exact mulOk_mod (by decide) (by decide))
  | ((with_reducible refine wp_mod ?_ ?_); decide)
  | ((with_reducible refine wp_fdiv ?_ ?_ ?_); decide; exact pylong_200 (by decide))
  | with_reducible refine wp_pow18 ?_
  | with_reducible refine wp_pow12 ?_
  | with_reducible refine wp_pow40 ?_
  | ((with_reducible refine wp_ixE ?_); refine ⟨_, rfl, ?_⟩)
  | with_reducible refine wp_len0 ?_
  | with_reducible refine wp_len1 ?_
  | with_reducible refine wp_len2 ?_
  | with_reducible refine wp_len3 ?_
  | with_reducible refine wp_lenT1 ?_
  | with_reducible refine wp_lenT2 ?_
  | with_reducible refine wp_lenT3 ?_
  | ((with_reducible refine wp_lenE ?_); refine ⟨_, rfl, ?_⟩)
  | ((with_reducible refine wp_listOfE ?_); refine ⟨_, rfl, ?_⟩)
  | ((with_reducible refine wp_isiE ?_); refine ⟨_, rfl, ?_⟩)
  | ((with_reducible refine wp_isNE ?_); refine ⟨_, rfl, ?_⟩)
  | ((with_reducible refine wp_notNE ?_); refine ⟨_, rfl, ?_⟩)
  | ((with_reducible refine wp_slE ?_); refine ⟨_, rfl, ?_⟩)
  | ((with_reducible refine sub_okE ?_); refine ⟨_, rfl, ?_⟩)
  | with_reducible refine Exists.intro _ (And.intro rfl ?_)
  | with_reducible refine Exists.intro _ (Exists.intro _ (And.intro rfl ?_))
  | ((with_reducible refine len_eq ?_ ?_); exact rfl)
  | ((with_reducible refine rng_ok ?_ ?_); omega)
  | ((with_reducible refine rng2_ok ?_ ?_); omega)
  | ((with_reducible refine rngD_len ?_ ?_); omega)
  | ((with_reducible refine len_100 ?_ ?_); exact Nat.le_of_ble_eq_true rfl)
  | ((with_reducible refine isTy_ok ?_ ?_); exact rfl)
  | ((with_reducible refine br_t ?_ ?_); first | with_reducible exact rfl | decide)
  | ((with_reducible refine br_f ?_ ?_); first | with_reducible exact rfl | decide)
  | with_reducible refine br_d (fun _ => ?_) (fun _ => ?_)
  | with_reducible refine br_n (fun _ => ?_) (fun _ => ?_))
/-! shares as rational numbers, rows of them -/
abbrev dQ (q : Rat) : D := dSh (Mn.qs q)
abbrev qR (n : Nat) (v : Nat → Rat) : D := .lst (tb n fun i => dQ (v i))
abbrev qT (r w : Nat) (A : Nat → Nat → Rat) : D := .lst (tb r fun i => qR w (A i))
def Sm (q : Rat) : Prop := Shq 4400 (Mn.qs q)
theorem Sm.of {d c : Nat} {q : Rat} (h : Mn.Iq d c q) (hd : d ≤ 2 ^ 4400) (hc : c ≤ 2 ^ 4400) : Sm q := ⟨Mn.qs_pos q, Nat.le_trans h.num hc, Nat.le_trans h.den hd⟩
theorem dQ_zero : dQ 0 = .tup [.int 0, .int 1] := by show dSh (Mn.qs 0) = _; rw [Mn.qs_zero]; rfl
theorem dQ_one : dQ 1 = .tup [.int 1, .int 1] := by show dSh (Mn.qs 1) = _; rw [Mn.qs_one]; rfl
theorem dSh_inj {s u : Int × Int} (h : dSh s = dSh u) : s = u := by
  unfold dSh at h
  obtain ⟨a, b⟩ := s
  obtain ⟨c, d⟩ := u
  simp at h
  exact Prod.ext h.1 h.2
theorem dQ_inj {p q : Rat} (h : dQ p = dQ q) : p = q := Mn.qs_inj (dSh_inj h)
theorem dQ_fr {t b : Int} (hb : b ≠ 0) : dSh (frI t b) = dQ ((t : Rat) / (b : Rat)) := congrArg dSh (Mn.frq_qs hb)
/-- nothing or some rows -/
theorem wp_neNilP {xs : List D} {μ : Sto} {Q : D → Sto → Prop} {E : Exs} (h : ∃ n, Pu n (.lst xs) ∧ n ≤ 64) (q : Q (.bl (!xs.isEmpty)) μ) : (dNe (.lst xs) (.lst []) μ).wp Q E := by
  obtain ⟨n, hp, hn⟩ := h
  obtain ⟨x, h1, h2⟩ := hp.shaped hn
  have e : (∃ ys, toPyL xs = some ys ∧ x = .list ys) := by
    have : (toPyL xs).map PyData.list = some x := h1
    cases z : toPyL xs with
    | none => rw [z] at this; cases this
    | some ys => rw [z] at this; exact ⟨ys, rfl, (Option.some.inj this).symm⟩
  obtain ⟨ys, e1, rfl⟩ := e
  rw [dNe_py (x := .list ys) (y := .list []) ((hp.toPy μ).trans h1) rfl h2 rfl]
  have e3 : PyData.eqv (.list ys) (.list []) = xs.isEmpty := by
    cases xs with
    | nil => cases e1; rfl
    | cons a r =>
      have : ys ≠ [] := fun z => by
        subst z
        unfold toPyL at e1
        cases w : toPy0 a with
        | none => rw [w] at e1; cases e1
        | some v =>
          rw [w] at e1
          cases w2 : toPyL r with
          | none => rw [w2] at e1; cases e1
          | some vs => rw [w2] at e1; cases e1
      cases ys with
      | nil => exact absurd rfl this
      | cons b s => rfl
  rw [e3]
  exact q
theorem Pu.tb {m n : Nat} {F : Nat → D} (hn : n ≤ 1000000) (h : ∀ i, i < n → Pu m (F i)) : Pu (m + 1) (.lst (tb n F)) := .lst (by rw [tb_len]; omega) fun x hx => by
  obtain ⟨i, hi, rfl⟩ := List.mem_map.mp hx
  exact h i (List.mem_range.mp hi)
theorem Pu.row {n : Nat} {v : Nat → Rat} (hn : n ≤ 1000000) : Pu 3 (qR n v) := Pu.tb hn fun i _ => Pu.sh (n := 0)
theorem Pu.tab {r w : Nat} {A : Nat → Nat → Rat} (hr : r ≤ 1000000) (hw : w ≤ 1000000) : Pu 4 (qT r w A) := Pu.tb hr fun i _ => Pu.row hw
/-! the operations -/
theorem wp_laddR {p r : Rat} {μ : Sto} {Q : D → Sto → Prop} {E : Exs} (hp : Sm p) (hr : Sm r) (q : Q (dQ (p + r)) μ) : (f__law_add [dQ p, dQ r] μ).wp Q E :=
  wp_qadd hp hr (by omega) (by rw [Mn.addq_qs]; exact q)
/-- a light share: at most four over at most five -/
def Lt60 (q : Rat) : Prop := Mn.Iq 60 240 q
theorem Lt60.zero : Lt60 0 := Mn.Iq.zero _ (by decide)
theorem Lt60.one : Lt60 1 := (Mn.Iq.one.up (k := 60) (by decide)).mono (by decide)
theorem wp_lightR {g : MO} {m : Sto} {Q : D → Sto → Prop} {E : Exs} (h : Bg g) (q : ∀ p g', Lt60 p → Bg g' → Q (dQ p) (g' :: m)) : (f__law_light [.cell 0] (g :: m)).wp Q E := by
  refine wp_light h fun t b g' h1 h2 h3 h4 hg => ?_
  rw [dQ_fr (by omega)]
  refine q _ g' ?_ hg
  have z : b = 1 ∨ b = 2 ∨ b = 3 ∨ b = 4 ∨ b = 5 := by omega
  refine (Mn.Iq.fr (m := 60) (c := 4) (by omega) (by omega) ?_ (by decide)).mono (by decide)
  rcases z with rfl | rfl | rfl | rfl | rfl <;> decide
end Pf

namespace Pf
open PySem PySem.Spec PyProof.Rows L2 L3
local macro_rules | `(tactic| fail) => `(tactic| first
  | with_reducible refine wp_seqSet ?_
  | with_reducible refine wp_seqAsg ?_
  | with_reducible refine wp_seqPar ?_
  | with_reducible refine wp_seqPar3 ?_
  | with_reducible refine wp_seqFset ?_
  | with_reducible refine wp_seqFaug ?_
  | with_reducible refine wp_sFset ?_
  | with_reducible refine wp_sFaug ?_
  | with_reducible refine wp_meth ?_
  | with_reducible refine wp_make ?_
  | with_reducible refine wp_methX ?_
  | with_reducible refine wp_makeX ?_
  | with_reducible refine wp_sPar3 ?_
  | with_reducible refine three_ok ?_
  | with_reducible refine wp_seqAug ?_
  | with_reducible refine wp_seqExpr ?_
  | with_reducible refine wp_seqSub ?_
  | with_reducible refine wp_seqNil ?_
  | with_reducible refine wp_seqFor ?_
  | with_reducible refine wp_seqWhile ?_
  | with_reducible refine wp_seqStar ?_
  | with_reducible refine wp_seqForK ?_
  | with_reducible refine wp_seqDput ?_
  | with_reducible refine wp_seqMul ?_
  | with_reducible refine wp_sSet ?_
  | with_reducible refine wp_sRet ?_
  | with_reducible refine wp_sNil ?_
  | with_reducible refine wp_sIf ?_
  | with_reducible refine wp_sPar ?_
  | with_reducible refine wp_sAsg ?_
  | with_reducible refine wp_sSub ?_
  | with_reducible refine wp_sFor ?_
  | with_reducible refine wp_sRaise ?_
  | with_reducible refine wp_sExpr ?_
  | with_reducible refine wp_sRetN ?_
  | with_reducible refine wp_sBreak ?_
  | with_reducible refine wp_sCont ?_
  | ((with_reducible refine wp_varE ?_); refine ⟨_, rfl, ?_⟩)
  | with_reducible refine wp_c ?_
  | with_reducible refine wp_B ?_
  | with_reducible refine wp_U ?_
  | with_reducible refine wp_T ?_
  | with_reducible refine wp_andT ?_
  | with_reducible refine wp_orT ?_
  | with_reducible refine wp_notT ?_
  | with_reducible refine wp_andV ?_
  | with_reducible refine wp_orV ?_
  | with_reducible refine wp_notV ?_
  | with_reducible refine wp_if ?_
  | with_reducible refine wp_nil ?_
  | with_reducible refine wp_cons ?_
  | with_reducible refine wp_tup ?_
  | with_reducible refine wp_lst ?_
  | with_reducible refine wp_lstC ?_
  | with_reducible refine wp_call ?_
  | with_reducible refine wp_callD ?_
  | with_reducible refine wp_callB ?_
  | with_reducible refine wp_m ?_
  | with_reducible refine wp_oNone ?_
  | with_reducible refine wp_oSome ?_
  | with_reducible refine wp_sl ?_
  | with_reducible refine wp_tried ?_
  | with_reducible refine wp_asked ?_
  | with_reducible refine wp_seqOut ?_
  | with_reducible refine wp_asks ?_ | with_reducible refine wp_eDoors ?_
  | with_reducible refine wp_asksC ?_
  | with_reducible refine wp_asksN ?_
  | with_reducible refine wp_chain ?_
  | with_reducible refine wp_enum ?_
  | with_reducible refine wp_enumB ?_
  | with_reducible refine wp_zip ?_
  | with_reducible refine wp_joinedT ?_
  | with_reducible refine wp_jNil ?_
  | with_reducible refine wp_jT ?_
  | with_reducible refine wp_lc ?_
  | with_reducible refine wp_lcC ?_
  | with_reducible refine wp_yes ?_
  | with_reducible refine wp_iAny ?_
  | with_reducible refine wp_range1 ?_
  | with_reducible refine wp_range2 ?_
  | with_reducible refine wp_sStar ?_
  | with_reducible refine wp_sDput ?_
  | with_reducible refine wp_sMul ?_
  | with_reducible refine wp_mNil ?_
  | with_reducible refine wp_mCons ?_
  | with_reducible refine wp_mSub ?_
  | with_reducible refine wp_mSubD ?_
  | with_reducible refine wp_dget2 ?_
  | with_reducible refine wp_disp ?_
  | with_reducible refine wp_pNil ?_
  | with_reducible refine wp_pCons ?_
  | with_reducible refine wp_dc ?_
  | with_reducible refine wp_seqTail ?_
  | with_reducible refine wp_sTail ?_
  | with_reducible refine wp_newDC ?_
  | with_reducible refine wp_newDT ?_
  | with_reducible refine wp_key ?_
  | with_reducible refine wp_tget2 ?_
  | with_reducible refine wp_seqKput ?_
  | with_reducible refine wp_sKput ?_
  | with_reducible refine wp_lRg1 ?_
  | with_reducible refine wp_lRg2 ?_
  | with_reducible refine wp_dpop2 ?_
  | with_reducible refine wp_eTO ?_
  | with_reducible refine wp_notO ?_)
local macro_rules | `(tactic| fail) => `(tactic| first
  | with_reducible refine wp_eqI ?_
  | with_reducible refine wp_neI ?_
  | with_reducible refine wp_eqB ?_
  | with_reducible refine wp_neB ?_
  | ((with_reducible refine wp_eqStr ?_ ?_ ?_); decide +kernel; decide +kernel)
  | ((with_reducible refine wp_neStr ?_ ?_ ?_); decide +kernel; decide +kernel)
  | with_reducible refine wp_addI ?_
  | with_reducible refine wp_addII ?_
  | with_reducible refine wp_subI ?_
  | with_reducible refine wp_ltI ?_
  | with_reducible refine wp_leI ?_
  | with_reducible refine wp_gtI ?_
  | with_reducible refine wp_geI ?_
  | with_reducible refine wp_negI ?_
  | with_reducible refine wp_intI ?_
  | with_reducible refine wp_intB ?_
  | with_reducible refine wp_absI ?_
  | with_reducible refine wp_un ?_
  | ((with_reducible refine wp_mul ?_ ?_); first | exact mulOk_right (by decide) | exact mulOk_left (by decide) | exact mulOk_mod (by decide) (by decide))
  | ((with_reducible refine wp_mod ?_ ?_); decide)
  | ((with_reducible refine wp_fdiv ?_ ?_ ?_); decide; exact pylong_200 (by decide))
  | with_reducible refine wp_pow18 ?_
  | with_reducible refine wp_pow12 ?_
  | with_reducible refine wp_pow40 ?_
  | ((with_reducible refine wp_ixE ?_); refine ⟨_, rfl, ?_⟩)
  | with_reducible refine wp_len0 ?_
  | with_reducible refine wp_len1 ?_
  | with_reducible refine wp_len2 ?_
  | with_reducible refine wp_len3 ?_
  | with_reducible refine wp_lenT1 ?_
  | with_reducible refine wp_lenT2 ?_
  | with_reducible refine wp_lenT3 ?_
  | ((with_reducible refine wp_lenE ?_); refine ⟨_, rfl, ?_⟩)
  | ((with_reducible refine wp_listOfE ?_); refine ⟨_, rfl, ?_⟩)
  | ((with_reducible refine wp_isiE ?_); refine ⟨_, rfl, ?_⟩)
  | ((with_reducible refine wp_isNE ?_); refine ⟨_, rfl, ?_⟩)
  | ((with_reducible refine wp_notNE ?_); refine ⟨_, rfl, ?_⟩)
  | ((with_reducible refine wp_slE ?_); refine ⟨_, rfl, ?_⟩)
  | ((with_reducible refine sub_okE ?_); refine ⟨_, rfl, ?_⟩)
  | with_reducible refine Exists.intro _ (And.intro rfl ?_)
  | with_reducible refine Exists.intro _ (Exists.intro _ (And.intro rfl ?_))
  | ((with_reducible refine len_eq ?_ ?_); exact rfl)
  | ((with_reducible refine rng_ok ?_ ?_); omega)
  | ((with_reducible refine rng2_ok ?_ ?_); omega)
  | ((with_reducible refine rngD_len ?_ ?_); omega)
  | ((with_reducible refine len_100 ?_ ?_); exact Nat.le_of_ble_eq_true rfl)
  | ((with_reducible refine isTy_ok ?_ ?_); exact rfl)
  | ((with_reducible refine br_t ?_ ?_); first | with_reducible exact rfl | decide)
  | ((with_reducible refine br_f ?_ ?_); first | with_reducible exact rfl | decide)
  | with_reducible refine br_d (fun _ => ?_) (fun _ => ?_)
  | with_reducible refine br_n (fun _ => ?_) (fun _ => ?_))
/-! letters in order -/
theorem SU (x : Str) : SX.S x.cps.toList = x := by cases x; simp [SX.S]
def srt (zs : List (List Nat)) : List (List Nat) := (sortS (zs.map SX.S)).map fun x => x.cps.toList
theorem srt_S (zs : List (List Nat)) : (srt zs).map SX.S = sortS (zs.map SX.S) := by
  unfold srt
  rw [List.map_map]
  exact (List.map_congr_left fun x _ => SU x).trans (List.map_id _)
theorem srt_D (zs : List (List Nat)) : (sortS (zs.map SX.S)).map D.str = letsD (srt zs) := by
  rw [← srt_S]
  unfold letsD
  rw [List.map_map]
  rfl
theorem map_S_inj {xs ys : List (List Nat)} (h : xs.map SX.S = ys.map SX.S) : xs = ys := by
  have z := congrArg (List.map fun x : Str => x.cps.toList) h
  rw [List.map_map, List.map_map] at z
  have i : ∀ l : List (List Nat), l.map ((fun x : Str => x.cps.toList) ∘ SX.S) = l := fun l => by
    rw [List.map_congr_left (g := id) fun x _ => by simp [SX.S]]; exact List.map_id _
  rw [i, i] at z
  exact z
theorem srt_perm (zs : List (List Nat)) : (srt zs).Perm zs := by
  have pm := List.mergeSort_perm (zs.map SX.S) leS
  have z := pm.map fun x : Str => x.cps.toList
  rw [List.map_map] at z
  have i : zs.map ((fun x : Str => x.cps.toList) ∘ SX.S) = zs := by
    rw [List.map_congr_left (g := id) fun x _ => by simp [SX.S]]; exact List.map_id _
  rw [i] at z
  exact z
theorem srt_pw (zs : List (List Nat)) : ((srt zs).map SX.S).Pairwise fun a b => leS a b = true := by
  rw [srt_S]
  exact List.pairwise_mergeSort leS_trans leS_total _
theorem sortS_of {l ys : List Str} (p : ys.Perm l) (h : ys.Pairwise fun a b => leS a b = true) : sortS l = ys :=
  List.Perm.eq_of_pairwise (fun a b _ _ h1 h2 => leS_anti h1 h2) (List.pairwise_mergeSort leS_trans leS_total _) h ((List.mergeSort_perm l leS).trans p.symm)
theorem srt_of {zs ys : List (List Nat)} (p : zs.Perm ys) : srt zs = srt ys := map_S_inj (by rw [srt_S, srt_S]; exact sortS_of (by rw [← srt_S]; exact ((srt_perm ys).trans p.symm).map _) (by rw [← srt_S]; exact srt_pw ys))
theorem mem_srt {z : List Nat} {zs : List (List Nat)} : z ∈ srt zs ↔ z ∈ zs := (srt_perm zs).mem_iff
theorem srt_len (zs : List (List Nat)) : (srt zs).length = zs.length := (srt_perm zs).length_eq
theorem strsL (zs : List (List Nat)) : strsD (letsD zs) = some (zs.map SX.S) := by
  induction zs with
  | nil => rfl
  | cons z r ih => show (strsD (letsD r)).map (SX.S z :: ·) = _; rw [ih]; rfl
theorem wp_sortLR {d : D} {zs : List (List Nat)} {μ : Sto} {Q : D → Sto → Prop} {E : Exs} (h : asL μ d = some (letsD zs)) (l : zs.length < 64) (q : Q (.lst (letsD (srt zs))) μ) : (dSortL d μ).wp Q E := by
  have e : (asS μ d).bind strsD = some (zs.map SX.S) := by
    have e1 : asS μ d = some (letsD zs) := by
      cases d with
      | lst ys => exact h
      | cell k => exact h
      | _ => cases h
    rw [e1]
    exact strsL zs
  unfold dSortL
  rw [e]
  dsimp only
  rw [if_pos (by rw [List.length_map]; exact l), srt_D]
  exact q
theorem wp_sortKR {d : D} {ks : List (List Nat)} {ds : List D} {μ : Sto} {Q : D → Sto → Prop} {E : Exs} (h : dctAt μ d = some (ks.map kz, ds)) (l : ks.length < 64) (q : Q (.lst (letsD (srt ks))) μ) : (dSortK d μ).wp Q E :=
  wp_sortKD h (txt_kz ks) (by rw [List.length_map]; exact l) (by rw [srt_D]; exact q)
theorem Pu.lets {zs : List (List Nat)} (hl : zs.length ≤ 1000000) (h : ∀ z ∈ zs, okT z) : Pu 2 (.lst (letsD zs)) := .lst (by unfold letsD; rw [List.length_map]; omega) fun x hx => by
  obtain ⟨z, hz, rfl⟩ := List.mem_map.mp hx
  exact .str (h z hz).s
theorem wp_neLets {zs ys : List (List Nat)} {μ : Sto} {Q : D → Sto → Prop} {E : Exs} (e : zs = ys) (hl : zs.length ≤ 1000000) (h : ∀ z ∈ zs, okT z) (q : Q (.bl false) μ) : (dNe (.lst (letsD zs)) (.lst (letsD ys)) μ).wp Q E := by
  subst e
  rw [(Pu.lets hl h).ne_self (by decide)]
  exact q
/-! dicts by letters -/
theorem val_some {ks : List (List Nat)} {F : Key → D} {z : List Nat} (h : z ∈ ks) : valD (ks.map kz) ((ks.map kz).map F) (kz z) = some (F (kz z)) := val_at h
theorem has_none {ks : List (List Nat)} {z : List Nat} (h : z ∉ ks) : hasK (ks.map kz) (kz z) = false := by
  unfold hasK
  rw [List.any_eq_false]
  intro k m e
  obtain ⟨y, hy, rfl⟩ := List.mem_map.mp m
  have e : SX.S y = SX.S z := Sum.inr.inj (of_decide_eq_true e)
  rw [S_inj2 e] at hy
  exact h hy
theorem put_snoc {ks : List (List Nat)} {ds : List D} {z : List Nat} {d : D} (h : z ∉ ks) : putD (ks.map kz) ds (kz z) d = .dct ((ks ++ [z]).map kz) (ds ++ [d]) := by
  unfold putD
  rw [has_none h, if_neg Bool.false_ne_true, List.map_append]
  rfl
theorem foldl_insT {xs : List Str} (nd : xs.Nodup) : ∀ (l : List Str), (∀ x ∈ xs, x ∉ l) → (xs.foldl insT l).length = l.length + xs.length := by
  induction xs with
  | nil => intro l _; rfl
  | cons x r ih =>
    intro l h
    rw [List.nodup_cons] at nd
    show (r.foldl insT (insT l x)).length = _
    have e : insT l x = x :: l := by unfold insT; rw [if_neg (h x List.mem_cons_self)]
    rw [e, ih nd.2 (x :: l) fun y hy m => ?_]
    · rw [List.length_cons, List.length_cons]; omega
    · rcases List.mem_cons.mp m with rfl | m
      · exact nd.1 hy
      · exact h y (List.mem_cons_of_mem _ hy) m
theorem nd_S {zs : List (List Nat)} (h : zs.Nodup) : (zs.map SX.S).Nodup := by
  induction zs with
  | nil => exact .nil
  | cons z r ih =>
    rw [List.nodup_cons] at h
    rw [List.map_cons, List.nodup_cons]
    refine ⟨fun m => ?_, ih h.2⟩
    obtain ⟨y, hy, e⟩ := List.mem_map.mp m
    rw [S_inj2 e] at hy
    exact h.1 hy
end Pf

namespace Pf
open PySem PySem.Spec PyProof.Rows L2 L3
local macro_rules | `(tactic| fail) => `(tactic| first
  | with_reducible refine wp_seqSet ?_
  | with_reducible refine wp_seqAsg ?_
  | with_reducible refine wp_seqPar ?_
  | with_reducible refine wp_seqPar3 ?_
  | with_reducible refine wp_seqFset ?_
  | with_reducible refine wp_seqFaug ?_
  | with_reducible refine wp_sFset ?_
  | with_reducible refine wp_sFaug ?_
  | with_reducible refine wp_meth ?_
  | with_reducible refine wp_make ?_
  | with_reducible refine wp_methX ?_
  | with_reducible refine wp_makeX ?_
  | with_reducible refine wp_sPar3 ?_
  | with_reducible refine three_ok ?_
  | with_reducible refine wp_seqAug ?_
  | with_reducible refine wp_seqExpr ?_
  | with_reducible refine wp_seqSub ?_
  | with_reducible refine wp_seqNil ?_
  | with_reducible refine wp_seqFor ?_
  | with_reducible refine wp_seqWhile ?_
  | with_reducible refine wp_seqStar ?_
  | with_reducible refine wp_seqForK ?_
  | with_reducible refine wp_seqDput ?_
  | with_reducible refine wp_seqMul ?_
  | with_reducible refine wp_sSet ?_
  | with_reducible refine wp_sRet ?_
  | with_reducible refine wp_sNil ?_
  | with_reducible refine wp_sIf ?_
  | with_reducible refine wp_sPar ?_
  | with_reducible refine wp_sAsg ?_
  | with_reducible refine wp_sSub ?_
  | with_reducible refine wp_sFor ?_
  | with_reducible refine wp_sRaise ?_
  | with_reducible refine wp_sExpr ?_
  | with_reducible refine wp_sRetN ?_
  | with_reducible refine wp_sBreak ?_
  | with_reducible refine wp_sCont ?_
  | ((with_reducible refine wp_varE ?_); refine ⟨_, rfl, ?_⟩)
  | with_reducible refine wp_c ?_
  | with_reducible refine wp_B ?_
  | with_reducible refine wp_U ?_
  | with_reducible refine wp_T ?_
  | with_reducible refine wp_andT ?_
  | with_reducible refine wp_orT ?_
  | with_reducible refine wp_notT ?_
  | with_reducible refine wp_andV ?_
  | with_reducible refine wp_orV ?_
  | with_reducible refine wp_notV ?_
  | with_reducible refine wp_if ?_
  | with_reducible refine wp_nil ?_
  | with_reducible refine wp_cons ?_
  | with_reducible refine wp_tup ?_
  | with_reducible refine wp_lst ?_
  | with_reducible refine wp_lstC ?_
  | with_reducible refine wp_call ?_
  | with_reducible refine wp_callD ?_
  | with_reducible refine wp_callB ?_
  | with_reducible refine wp_m ?_
  | with_reducible refine wp_oNone ?_
  | with_reducible refine wp_oSome ?_
  | with_reducible refine wp_sl ?_
  | with_reducible refine wp_tried ?_
  | with_reducible refine wp_asked ?_
  | with_reducible refine wp_seqOut ?_
  | with_reducible refine wp_asks ?_ | with_reducible refine wp_eDoors ?_
  | with_reducible refine wp_asksC ?_
  | with_reducible refine wp_asksN ?_
  | with_reducible refine wp_chain ?_
  | with_reducible refine wp_enum ?_
  | with_reducible refine wp_enumB ?_
  | with_reducible refine wp_zip ?_
  | with_reducible refine wp_joinedT ?_
  | with_reducible refine wp_jNil ?_
  | with_reducible refine wp_jT ?_
  | with_reducible refine wp_lc ?_
  | with_reducible refine wp_lcC ?_
  | with_reducible refine wp_yes ?_
  | with_reducible refine wp_iAny ?_
  | with_reducible refine wp_range1 ?_
  | with_reducible refine wp_range2 ?_
  | with_reducible refine wp_sStar ?_
  | with_reducible refine wp_sDput ?_
  | with_reducible refine wp_sMul ?_
  | with_reducible refine wp_mNil ?_
  | with_reducible refine wp_mCons ?_
  | with_reducible refine wp_mSub ?_
  | with_reducible refine wp_mSubD ?_
  | with_reducible refine wp_dget2 ?_
  | with_reducible refine wp_disp ?_
  | with_reducible refine wp_pNil ?_
  | with_reducible refine wp_pCons ?_
  | with_reducible refine wp_dc ?_
  | with_reducible refine wp_seqTail ?_
  | with_reducible refine wp_sTail ?_
  | with_reducible refine wp_newDC ?_
  | with_reducible refine wp_newDT ?_
  | with_reducible refine wp_key ?_
  | with_reducible refine wp_tget2 ?_
  | with_reducible refine wp_seqKput ?_
  | with_reducible refine wp_sKput ?_
  | with_reducible refine wp_lRg1 ?_
  | with_reducible refine wp_lRg2 ?_
  | with_reducible refine wp_dpop2 ?_
  | with_reducible refine wp_eTO ?_
  | with_reducible refine wp_notO ?_)
local macro_rules | `(tactic| fail) => `(tactic| first
  | with_reducible refine wp_eqI ?_
  | with_reducible refine wp_neI ?_
  | with_reducible refine wp_eqB ?_
  | with_reducible refine wp_neB ?_
  | ((with_reducible refine wp_eqStr ?_ ?_ ?_); decide +kernel; decide +kernel)
  | ((with_reducible refine wp_neStr ?_ ?_ ?_); decide +kernel; decide +kernel)
  | with_reducible refine wp_addI ?_
  | with_reducible refine wp_addII ?_
  | with_reducible refine wp_subI ?_
  | with_reducible refine wp_ltI ?_
  | with_reducible refine wp_leI ?_
  | with_reducible refine wp_gtI ?_
  | with_reducible refine wp_geI ?_
  | with_reducible refine wp_negI ?_
  | with_reducible refine wp_intI ?_
  | with_reducible refine wp_intB ?_
  | with_reducible refine wp_absI ?_
  | with_reducible refine wp_un ?_
  | ((with_reducible refine wp_mul ?_ ?_); first | exact mulOk_right (by decide) | exact mulOk_left (by decide) | exact mulOk_mod (by decide) (by decide))
  | ((with_reducible refine wp_mod ?_ ?_); decide)
  | ((with_reducible refine wp_fdiv ?_ ?_ ?_); decide; exact pylong_200 (by decide))
  | with_reducible refine wp_pow18 ?_
  | with_reducible refine wp_pow12 ?_
  | with_reducible refine wp_pow40 ?_
  | ((with_reducible refine wp_ixE ?_); refine ⟨_, rfl, ?_⟩)
  | with_reducible refine wp_len0 ?_
  | with_reducible refine wp_len1 ?_
  | with_reducible refine wp_len2 ?_
  | with_reducible refine wp_len3 ?_
  | with_reducible refine wp_lenT1 ?_
  | with_reducible refine wp_lenT2 ?_
  | with_reducible refine wp_lenT3 ?_
  | ((with_reducible refine wp_lenE ?_); refine ⟨_, rfl, ?_⟩)
  | ((with_reducible refine wp_listOfE ?_); refine ⟨_, rfl, ?_⟩)
  | ((with_reducible refine wp_isiE ?_); refine ⟨_, rfl, ?_⟩)
  | ((with_reducible refine wp_isNE ?_); refine ⟨_, rfl, ?_⟩)
  | ((with_reducible refine wp_notNE ?_); refine ⟨_, rfl, ?_⟩)
  | ((with_reducible refine wp_slE ?_); refine ⟨_, rfl, ?_⟩)
  | ((with_reducible refine sub_okE ?_); refine ⟨_, rfl, ?_⟩)
  | with_reducible refine Exists.intro _ (And.intro rfl ?_)
  | with_reducible refine Exists.intro _ (Exists.intro _ (And.intro rfl ?_))
  | ((with_reducible refine len_eq ?_ ?_); exact rfl)
  | ((with_reducible refine rng_ok ?_ ?_); omega)
  | ((with_reducible refine rng2_ok ?_ ?_); omega)
  | ((with_reducible refine rngD_len ?_ ?_); omega)
  | ((with_reducible refine len_100 ?_ ?_); exact Nat.le_of_ble_eq_true rfl)
  | ((with_reducible refine isTy_ok ?_ ?_); exact rfl)
  | ((with_reducible refine br_t ?_ ?_); first | with_reducible exact rfl | decide)
  | ((with_reducible refine br_f ?_ ?_); first | with_reducible exact rfl | decide)
  | with_reducible refine br_d (fun _ => ?_) (fun _ => ?_)
  | with_reducible refine br_n (fun _ => ?_) (fun _ => ?_))
/-! machines -/
abbrev mNs : List Str := ["signs", "first", "last", "ways"]
abbrev waysD (n : Nat) (A : Str → Mn.Mr) (ks : List (List Nat)) : MO := .dct (ks.map kz) ((ks.map kz).map (keyF fun s => qT n n (A s)))
abbrev machM (zs : List (List Nat)) (n : Nat) (b e : Nat → Rat) (w : Nat) : MO := .ins "Machine" mNs [.lst (letsD (srt zs)), qR n b, qR n e, .cell w]
/-- a machine stands at the k-th place -/
structure MachAt (μ : Sto) (k n : Nat) (zs : List (List Nat)) (b e : Nat → Rat) (A : Str → Mn.Mr) : Prop where
  ex : ∃ w, μ[k]? = some (machM zs n b e w) ∧ μ[w]? = some (waysD n A zs)
  nd : zs.Nodup
  few : zs.length ≤ 10
  ok : ∀ z ∈ zs, IsLet z
  sz : n ≤ 30
section
variable {μ ex : Sto} {g g' : MO} {m : Sto} {k n : Nat} {zs : List (List Nat)} {b e : Nat → Rat} {A : Str → Mn.Mr}
theorem MachAt.app (h : MachAt μ k n zs b e A) : MachAt (μ ++ ex) k n zs b e A := by
  obtain ⟨w, h1, h2⟩ := h.ex
  exact ⟨⟨w, by rw [List.getElem?_append_left (List.getElem?_eq_some_iff.mp h1).1]; exact h1, by rw [List.getElem?_append_left (List.getElem?_eq_some_iff.mp h2).1]; exact h2⟩, h.nd, h.few, h.ok, h.sz⟩
theorem MachAt.bag (h : MachAt (g :: m) k n zs b e A) (hg : Bg g) : MachAt (g' :: m) k n zs b e A := by
  obtain ⟨w, h1, h2⟩ := h.ex
  obtain ⟨_, _, _, _, _, rfl, _⟩ := hg
  refine ⟨⟨w, ?_, ?_⟩, h.nd, h.few, h.ok, h.sz⟩
  · cases k with
    | zero => cases h1
    | succ k => exact h1
  · cases w with
    | zero => cases h2
    | succ w => exact h2
end
theorem okLt {z : List Nat} (h : IsLet z) : okT z := fun c hc => by have := h.2 c hc; omega
/-- a table of shares, wherever its rows are -/
abbrev QT (μ : Sto) (d : D) (r w : Nat) (A : Mn.Mr) : Prop := QM μ d r w fun i j => Mn.qs (A i j)
theorem QT.self {μ : Sto} {r w : Nat} {A : Mn.Mr} : QT μ (qT r w A) r w A := QM.rows rfl
theorem asL_asQ {μ : Sto} {d : D} {xs : List D} (h : asL μ d = some xs) : asQ μ d = some xs := by
  cases d with
  | lst ys => exact h
  | cell k => exact h
  | _ => cases h
theorem len_asQ {μ : Sto} {d : D} {xs : List D} (h : asQ μ d = some xs) : dLen d μ = .ok (.int xs.length) μ := by
  have e : dLen d μ = (match asQ μ d with
    | some ds => .ok (.int ds.length) μ
    | none => .bad) := by
    cases d with
    | str z => cases h
    | _ => rfl
  rw [e, h]
theorem wp_lenQ {μ : Sto} {d : D} {xs : List D} {Q : D → Sto → Prop} {E : Exs} (h : asQ μ d = some xs) (q : Q (.int xs.length) μ) : (dLen d μ).wp Q E := wp_len (len_asQ h) q
theorem wp_listOfQ {μ : Sto} {d : D} {xs : List D} {Q : D → Sto → Prop} {E : Exs} (h : asQ μ d = some xs) (q : Q (.lst xs) μ) : (dListOf d μ).wp Q E := by
  unfold dListOf
  rw [h]
  exact q
theorem wp_good_lines {n : Nat} {A : Mn.Mr} {d : D} {μ : Sto} {Q : D → Sto → Prop} {E : Exs} (hn : n ≤ 100) (hd : QT μ d n n A) (q : Q (.bl true) μ) : (f_good_lines [d, .int (n : Nat)] μ).wp Q E := by
  obtain ⟨X, h1, h2⟩ := hd
  unfold f_good_lines
  with_reducible refine wp_fn ?_
  simp only [List.map_cons, List.map_nil, List.length_cons, List.length_nil, List.reduceReplicate, List.cons_append, List.nil_append, Nat.reduceAdd, Nat.reduceSub, Nat.zero_add, List.set_cons_zero, List.set_cons_succ, wipeE]
  unfold b_good_lines
  obtain ⟨gd, w1, w2⟩ := asL_walkD h1
  repeat' (first | fail | with_reducible refine wp_sSeq ?_)
  refine wp_lenQ (asL_asQ h1) ?_
  rw [tb_len]
  repeat' (first | fail | with_reducible refine wp_sSeq ?_)
  refine ⟨_, w1, ?_⟩
  simp only [List.map_cons, List.map_nil, List.length_cons, List.length_nil, List.reduceReplicate, List.cons_append, List.nil_append, Nat.reduceAdd, Nat.reduceSub, Nat.zero_add, List.set_cons_zero, List.set_cons_succ, wipeE]
  refine tb_sz (by omega) ?_
  refine wp_lcT (k := fun _ => .bl true) w2 ?_ fun i hi => ⟨_, rfl, ?_⟩
  · repeat' (first | fail | with_reducible refine wp_sSeq ?_)
    exact wp_allT q
  · repeat' (first | fail | with_reducible refine wp_sSeq ?_)
    refine wp_lenQ (asL_asQ (h2 i hi)) ?_
    rw [tb_len]
    repeat' (first | fail | with_reducible refine wp_sSeq ?_)
    exact ⟨by simp, rfl⟩
  case refine_2 => rename_i c; exact absurd rfl c
/-- what a machine is made of -/
structure Parts (μ : Sto) (L B S En : D) (n : Nat) (zs : List (List Nat)) (b e : Nat → Rat) (A : Str → Mn.Mr) : Prop where
  l : asL μ L = some (letsD zs)
  b : asQ μ B = some (tb n fun i => dQ (b i))
  e : asQ μ En = some (tb n fun i => dQ (e i))
  s : ∃ (ks : List (List Nat)) (F : Str → D), dctAt μ S = some (ks.map kz, (ks.map kz).map (keyF F)) ∧ ks.Perm zs ∧ ∀ z ∈ zs, QT μ (F (SX.S z)) n n (A (SX.S z))
  nd : zs.Nodup
  few : zs.length ≤ 10
  ok : ∀ z ∈ zs, IsLet z
  sz : n ≤ 30
theorem asL_setI {μ : Sto} {k : Nat} {c : Str} {ns : List Str} {ds xs : List D} {m : MO} {d : D} (h0 : μ[k]? = some (.ins c ns ds)) (h : asL μ d = some xs) : asL (μ.set k m) d = some xs := by
  cases d with
  | lst ys => exact h
  | cell j =>
    have e := asL_cellE h
    have ne : k ≠ j := fun z => by subst z; rw [h0] at e; cases e
    exact asL_cell (by rw [List.getElem?_set_ne ne]; exact e)
  | _ => cases h
theorem asQ_setI {μ : Sto} {k : Nat} {c : Str} {ns : List Str} {ds xs : List D} {m : MO} {d : D} (h0 : μ[k]? = some (.ins c ns ds)) (h : asQ μ d = some xs) : asQ (μ.set k m) d = some xs := by
  cases d with
  | tup ys => exact h
  | lst ys => exact h
  | scr ys => exact h
  | cell j => exact asL_setI (d := .cell j) h0 h
  | _ => cases h
theorem dct_setI {μ : Sto} {k : Nat} {c : Str} {ns : List Str} {ds : List D} {kd : List Key × List D} {m : MO} {d : D} (h0 : μ[k]? = some (.ins c ns ds)) (h : dctAt μ d = some kd) : dctAt (μ.set k m) d = some kd := by
  cases d with
  | dct a b => exact h
  | cell j =>
    obtain ⟨ks, vs⟩ := kd
    have e := dctAt_eq h
    have ne : k ≠ j := fun z => by subst z; rw [h0] at e; cases e
    exact dctAt_cell (by rw [List.getElem?_set_ne ne]; exact e)
  | _ => cases h
theorem QM.setI {μ : Sto} {k : Nat} {c : Str} {ns : List Str} {ds : List D} {m : MO} {d : D} {r w : Nat} {L : Nat → Nat → Int × Int} (h0 : μ[k]? = some (.ins c ns ds)) (h : QM μ d r w L) : QM (μ.set k m) d r w L := by
  obtain ⟨X, h1, h2⟩ := h
  exact ⟨X, asL_setI h0 h1, fun i hi => asL_setI h0 (h2 i hi)⟩
theorem asQ_app {d : D} {xs : List D} {μ ex : Sto} (h : asQ μ d = some xs) : asQ (μ ++ ex) d = some xs := by
  cases d with
  | tup ys => exact h
  | lst ys => exact h
  | scr ys => exact h
  | cell j => exact asL_app (d := .cell j) h
  | _ => cases h
theorem dct_app {d : D} {kd : List Key × List D} {μ ex : Sto} (h : dctAt μ d = some kd) : dctAt (μ ++ ex) d = some kd := by
  cases d with
  | dct a b => exact h
  | cell j =>
    obtain ⟨ks, vs⟩ := kd
    have e := dctAt_eq h
    exact dctAt_cell (by rw [List.getElem?_append_left (List.getElem?_eq_some_iff.mp e).1]; exact e)
  | _ => cases h
theorem Parts.setI {μ : Sto} {k : Nat} {c : Str} {ns : List Str} {ds : List D} {m : MO} {L B S En : D} {n : Nat} {zs : List (List Nat)} {b e : Nat → Rat} {A : Str → Mn.Mr} (h0 : μ[k]? = some (.ins c ns ds)) (h : Parts μ L B S En n zs b e A) : Parts (μ.set k m) L B S En n zs b e A := by
  obtain ⟨ks, F, h1, h2, h3⟩ := h.s
  exact ⟨asL_setI h0 h.l, asQ_setI h0 h.b, asQ_setI h0 h.e, ⟨ks, F, dct_setI h0 h1, h2, fun z hz => QM.setI h0 (h3 z hz)⟩, h.nd, h.few, h.ok, h.sz⟩
theorem Parts.app {μ ex : Sto} {L B S En : D} {n : Nat} {zs : List (List Nat)} {b e : Nat → Rat} {A : Str → Mn.Mr} (h : Parts μ L B S En n zs b e A) : Parts (μ ++ ex) L B S En n zs b e A := by
  obtain ⟨ks, F, h1, h2, h3⟩ := h.s
  exact ⟨asL_app h.l, asQ_app h.b, asQ_app h.e, ⟨ks, F, dct_app h1, h2, fun z hz => QM.app (h3 z hz)⟩, h.nd, h.few, h.ok, h.sz⟩
theorem gd_app {μ ex : Sto} {d : D} {xs ys : List D} {gd ge : Sto → Bool} (h1 : walkD μ d = some (xs, gd)) (h2 : walkD (μ ++ ex) d = some (ys, ge)) (h : ge (μ ++ ex) = true) (hl : asL μ d = some xs) : gd (μ ++ ex) = true := by
  cases d with
  | lst zs => cases h1; rfl
  | cell k =>
    have e := asL_cellE hl
    rw [walkD_cell e] at h1
    cases h1
    exact gd_cell (by rw [List.getElem?_append_left (List.getElem?_eq_some_iff.mp e).1]; exact e)
  | _ => cases hl
theorem set_last {b : Sto} {x y : MO} : (b ++ [x]).set b.length y = b ++ [y] := by
  rw [List.set_append_right _ _ (Nat.le_refl _), Nat.sub_self]; rfl
theorem putN_ne {n f : Str} {ns : List Str} {ds : List D} {d e : D} (h : n ≠ f) : putN (n :: ns) (d :: ds) f e = (n :: (putN ns ds f e).1, d :: (putN ns ds f e).2) := by
  show (if n = f then _ else _) = _
  rw [if_neg h]
theorem put1 {d : D} : putN [] [] "signs" d = ((["signs"] : List Str), [d]) := rfl
theorem put2 {a d : D} : putN ["signs"] [a] "first" d = ((["signs", "first"] : List Str), [a, d]) := by
  rw [putN_ne (by decide +kernel)]; rfl
theorem put3 {a b d : D} : putN ["signs", "first"] [a, b] "last" d = ((["signs", "first", "last"] : List Str), [a, b, d]) := by
  rw [putN_ne (by decide +kernel), putN_ne (by decide +kernel)]; rfl
theorem put4 {a b c d : D} : putN ["signs", "first", "last"] [a, b, c] "ways" d = (mNs, [a, b, c, d]) := by
  rw [putN_ne (by decide +kernel), putN_ne (by decide +kernel), putN_ne (by decide +kernel)]; rfl
theorem set_app {μ ex : Sto} {k : Nat} {m : MO} (h : k < μ.length) : (μ ++ ex).set k m = μ.set k m ++ ex := List.set_append_left _ _ h
theorem wp_init {μ : Sto} {k n : Nat} {L B S En : D} {zs : List (List Nat)} {b e : Nat → Rat} {A : Str → Mn.Mr} {Q : D → Sto → Prop} {E : Exs} (P : Parts μ L B S En n zs b e A) (h0 : μ[k]? = some (.ins "Machine" [] []))
    (q : ∀ x, Q .non (μ.set k (machM zs n b e (μ.length + 1)) ++ [x, waysD n A zs])) : (f_Machine___init__ [.cell k, L, B, S, En] μ).wp Q E := by
  have hk : k < μ.length := (List.getElem?_eq_some_iff.mp h0).1
  have few := P.few
  have sz := P.sz
  unfold f_Machine___init__
  with_reducible refine wp_fn ?_
  simp only [List.map_cons, List.map_nil, List.length_cons, List.length_nil, List.reduceReplicate, List.cons_append, List.nil_append, Nat.reduceAdd, Nat.reduceSub, Nat.zero_add, List.set_cons_zero, List.set_cons_succ, wipeE]
  unfold b_Machine___init__
  repeat' (first | fail | with_reducible refine wp_sSeq ?_)
  refine wp_lenQ P.b ?_
  rw [tb_len]
  simp only [List.map_cons, List.map_nil, List.length_cons, List.length_nil, List.reduceReplicate, List.cons_append, List.nil_append, Nat.reduceAdd, Nat.reduceSub, Nat.zero_add, List.set_cons_zero, List.set_cons_succ, wipeE]
  repeat' (first | fail | with_reducible refine wp_sSeq ?_)
  refine wp_idx (by simp) ?_
  repeat' (first | fail | with_reducible refine wp_sSeq ?_)
  refine wp_setC (xs := zs.map SX.S) (by unfold txsL; rw [P.l]; exact strsL zs) (by rw [List.length_map]; omega) ?_
  generalize hst : MO.oth .st (((zs.map SX.S).foldl insT []).map fun z => [(Sum.inr z : Key)]) (((zs.map SX.S).foldl insT []).map fun _ => .non) = st
  have P1 : Parts (μ ++ [st]) L B S En n zs b e A := P.app
  obtain ⟨ks, F, hS, pk, hF⟩ := P1.s
  simp only [List.map_cons, List.map_nil, List.length_cons, List.length_nil, List.reduceReplicate, List.cons_append, List.nil_append, Nat.reduceAdd, Nat.reduceSub, Nat.zero_add, List.set_cons_zero, List.set_cons_succ, wipeE]
  repeat' (first | fail | with_reducible refine wp_sSeq ?_)
  refine wp_lenQ P1.e ?_
  rw [tb_len]
  repeat' (first | fail | with_reducible refine wp_sSeq ?_)
  case refine_1 => rename_i c; exact absurd rfl c
  rename_i hn
  clear hn
  have hl : (((zs.map SX.S).foldl insT []).map fun z => [(Sum.inr z : Key)]).length = zs.length := by
    rw [List.length_map, foldl_insT (nd_S P.nd) [] (fun _ _ h => nomatch h), List.length_nil, Nat.zero_add, List.length_map]
  refine wp_lenSt (by rw [List.getElem?_concat_length, ← hst]) (by rw [hl]; omega) ?_
  rw [hl]
  repeat' (first | fail | with_reducible refine wp_sSeq ?_)
  refine wp_lenQ (asL_asQ P1.l) ?_
  unfold letsD
  rw [List.length_map]
  repeat' (first | fail | with_reducible refine wp_sSeq ?_)
  case refine_2.refine_1.refine_2 => rename_i c; exact absurd c (by omega)
  rename_i c; clear c
  refine wp_sortLR P1.l (by omega) ?_
  repeat' (first | fail | with_reducible refine wp_sSeq ?_)
  refine wp_sortKR hS (by rw [pk.length_eq]; omega) ?_
  repeat' (first | fail | with_reducible refine wp_sSeq ?_)
  refine wp_neLets (srt_of pk.symm) (by rw [srt_len]; omega) (fun z hz => okLt (P.ok z (mem_srt.mp hz))) ?_
  repeat' (first | fail | with_reducible refine wp_sSeq ?_)
  obtain ⟨gd, w1, w2⟩ := asL_walkD P1.l
  refine ⟨_, w1, ?_⟩
  simp only [List.map_cons, List.map_nil, List.length_cons, List.length_nil, List.reduceReplicate, List.cons_append, List.nil_append, Nat.reduceAdd, Nat.reduceSub, Nat.zero_add, List.set_cons_zero, List.set_cons_succ, wipeE]
  refine ⟨by unfold letsD; rw [List.length_map, sizeLine_eq]; omega, ?_⟩
  refine wp_lcM (l := zs) (g := fun z => .str (SX.S z)) (k := fun _ => .bl true) w2 ?_ fun z hz => ⟨_, rfl, ?_⟩
  case refine_2 =>
    simp only [List.map_cons, List.map_nil, List.length_cons, List.length_nil, List.reduceReplicate, List.cons_append, List.nil_append, Nat.reduceAdd, Nat.reduceSub, Nat.zero_add, List.set_cons_zero, List.set_cons_succ, wipeE]
    repeat' (first | fail | with_reducible refine wp_sSeq ?_)
    refine wp_is_letter (by have := (P.ok z hz).1.2; omega) ?_
    rw [decide_eq_true (P.ok z hz)]
    refine ⟨_, rfl, fun _ => ?_, fun c => nomatch c⟩
    repeat' (first | fail | with_reducible refine wp_sSeq ?_)
    refine wp_dDixD hS rfl (val_some (pk.mem_iff.mpr hz)) ?_
    repeat' (first | fail | with_reducible refine wp_sSeq ?_)
    exact wp_good_lines (by omega) (hF z hz) ⟨rfl, rfl⟩
  repeat' (first | fail | with_reducible refine wp_sSeq ?_)
  refine wp_allT ?_
  repeat' (first | fail | with_reducible refine wp_sSeq ?_)
  refine wp_sortLR P1.l (by omega) ?_
  repeat' (first | fail | with_reducible refine wp_sSeq ?_)
  refine ⟨k, [], [], rfl, by rw [List.getElem?_append_left hk]; exact h0, by decide, ?_⟩
  rw [put1, set_app hk]
  dsimp only
  have P2 : Parts (μ.set k (.ins "Machine" ["signs"] [.lst (letsD (srt zs))]) ++ [st]) L B S En n zs b e A := (P.setI h0).app
  have hk2 : k < (μ.set k (MO.ins "Machine" ["signs"] [.lst (letsD (srt zs))])).length := by rw [List.length_set]; exact hk
  repeat' (first | fail | with_reducible refine wp_sSeq ?_)
  refine wp_listOfQ P2.b ?_
  repeat' (first | fail | with_reducible refine wp_sSeq ?_)
  refine ⟨k, _, _, rfl, by rw [List.getElem?_append_left hk2, List.getElem?_set_self hk], by decide, ?_⟩
  rw [put2, set_app hk2, List.set_set]
  dsimp only
  have P3 : Parts (μ.set k (.ins "Machine" ["signs", "first"] [.lst (letsD (srt zs)), qR n b]) ++ [st]) L B S En n zs b e A := (P.setI h0).app
  have hk3 : k < (μ.set k (MO.ins "Machine" ["signs", "first"] [.lst (letsD (srt zs)), qR n b])).length := by rw [List.length_set]; exact hk
  repeat' (first | fail | with_reducible refine wp_sSeq ?_)
  refine wp_listOfQ P3.e ?_
  repeat' (first | fail | with_reducible refine wp_sSeq ?_)
  refine ⟨k, _, _, rfl, by rw [List.getElem?_append_left hk3, List.getElem?_set_self hk], by decide, ?_⟩
  rw [put3, set_app hk3, List.set_set]
  dsimp only
  generalize hM : MO.ins "Machine" ["signs", "first", "last"] [.lst (letsD (srt zs)), qR n b, qR n e] = M
  generalize hbase : μ.set k M ++ [st] = base
  have lb : base.length = μ.length + 1 := by rw [← hbase, List.length_append, List.length_set]; rfl
  have kb : base[k]? = some M := by rw [← hbase, List.getElem?_append_left (by rw [List.length_set]; exact hk), List.getElem?_set_self hk]
  have P4 : ∀ ex, Parts (base ++ ex) L B S En n zs b e A := fun ex => by
    rw [← hbase]
    exact ((P.setI h0).app).app
  repeat' (first | fail | with_reducible refine wp_sSeq ?_)
  have Pb : Parts base L B S En n zs b e A := by have := P4 []; rwa [List.append_nil] at this
  obtain ⟨gd4, v1, v2⟩ := asL_walkD Pb.l
  have v3 : ∀ ex, gd4 (base ++ ex) = true := fun ex => by
    obtain ⟨gd5, u1, u2⟩ := asL_walkD (P4 ex).l
    exact gd_app v1 u1 u2 Pb.l
  refine ⟨_, v1, ?_⟩
  simp only [List.map_cons, List.map_nil, List.length_cons, List.length_nil, List.reduceReplicate, List.cons_append, List.nil_append, Nat.reduceAdd, Nat.reduceSub, Nat.zero_add, List.set_cons_zero, List.set_cons_succ, wipeE]
  refine wp_dcG (I := fun ds μ' => ∃ pre post, zs = pre ++ post ∧ ds = letsD post ∧ μ' = base ++ [waysD n A pre]) ⟨[], zs, rfl, rfl, rfl⟩ (fun μ' z => ?_) fun d ds μ' z => ?_
  · obtain ⟨pre, post, e1, e2, rfl⟩ := z
    refine ⟨v3 _, ?_⟩
    have : post = [] := by cases post with | nil => rfl | cons _ _ => cases e2
    subst this
    rw [List.append_nil] at e1
    subst e1
    repeat' (first | fail | with_reducible refine wp_sSeq ?_)
    refine ⟨k, _, _, rfl, by rw [List.getElem?_append_left (by omega), kb, ← hM], by decide, ?_⟩
    rw [put4, set_app (by omega), ← hbase, set_app (by rw [List.length_set]; exact hk), List.set_set, List.length_append, List.length_set]
    dsimp only
    have := q st
    rw [List.append_assoc]
    exact this
  · obtain ⟨pre, post, e1, e2, rfl⟩ := z
    obtain ⟨z, post, rfl⟩ : ∃ z r, post = z :: r := by cases post with | nil => cases e2 | cons z r => exact ⟨z, r, rfl⟩
    obtain rfl := (List.cons.inj e2).1
    have hz : z ∈ zs := by rw [e1]; simp
    have nz : z ∉ pre := by
      have nd := P.nd
      rw [e1, List.nodup_append] at nd
      exact fun m => nd.2.2 z m z (by simp) rfl
    refine ⟨v3 _, _, rfl, ?_⟩
    simp only [List.map_cons, List.map_nil, List.length_cons, List.length_nil, List.reduceReplicate, List.cons_append, List.nil_append, Nat.reduceAdd, Nat.reduceSub, Nat.zero_add, List.set_cons_zero, List.set_cons_succ, wipeE]
    repeat' (first | fail | with_reducible refine wp_sSeq ?_)
    obtain ⟨ks4, F4, hS4, pk4, hF4⟩ := (P4 [waysD n A pre]).s
    refine wp_dDixD hS4 rfl (val_some (pk4.mem_iff.mpr hz)) ?_
    obtain ⟨X, h1, h2⟩ := hF4 z hz
    obtain ⟨ge, w3, w4⟩ := asL_walkD h1
    refine ⟨_, w3, ?_⟩
    simp only [List.map_cons, List.map_nil, List.length_cons, List.length_nil, List.reduceReplicate, List.cons_append, List.nil_append, Nat.reduceAdd, Nat.reduceSub, Nat.zero_add, List.set_cons_zero, List.set_cons_succ, wipeE]
    refine tb_sz (by omega) ?_
    refine wp_lcT (k := fun i => qR n (A (SX.S z) i)) w4 ?_ fun i hi => ⟨_, rfl, ?_⟩
    · have e3 : base.length < (base ++ [waysD n A pre]).length := by rw [List.length_append]; simp
      refine ⟨_, dcPut_new (by rw [List.getElem?_append_right (Nat.le_refl _), Nat.sub_self]; rfl) rfl (by rw [List.length_map, sizeLine_eq]; have := congrArg List.length e1; rw [List.length_append] at this; omega), pre ++ [z], post, by rw [e1, List.append_assoc]; rfl, (List.cons.inj e2).2, ?_⟩
      rw [put_snoc nz, set_last]
      congr 1
      unfold waysD
      rw [List.map_append, List.map_append]
      rfl
    · repeat' (first | fail | with_reducible refine wp_sSeq ?_)
      exact wp_listOfA (h2 i hi) ⟨rfl, rfl⟩
end Pf

namespace Pf
open PySem PySem.Spec PyProof.Rows L2 L3
local macro_rules | `(tactic| fail) => `(tactic| first
  | with_reducible refine wp_seqSet ?_
  | with_reducible refine wp_seqAsg ?_
  | with_reducible refine wp_seqPar ?_
  | with_reducible refine wp_seqPar3 ?_
  | with_reducible refine wp_seqFset ?_
  | with_reducible refine wp_seqFaug ?_
  | with_reducible refine wp_sFset ?_
  | with_reducible refine wp_sFaug ?_
  | with_reducible refine wp_meth ?_
  | with_reducible refine wp_make ?_
  | with_reducible refine wp_methX ?_
  | with_reducible refine wp_makeX ?_
  | with_reducible refine wp_sPar3 ?_
  | with_reducible refine three_ok ?_
  | with_reducible refine wp_seqAug ?_
  | with_reducible refine wp_seqExpr ?_
  | with_reducible refine wp_seqSub ?_
  | with_reducible refine wp_seqNil ?_
  | with_reducible refine wp_seqFor ?_
  | with_reducible refine wp_seqWhile ?_
  | with_reducible refine wp_seqStar ?_
  | with_reducible refine wp_seqForK ?_
  | with_reducible refine wp_seqDput ?_
  | with_reducible refine wp_seqMul ?_
  | with_reducible refine wp_sSet ?_
  | with_reducible refine wp_sRet ?_
  | with_reducible refine wp_sNil ?_
  | with_reducible refine wp_sIf ?_
  | with_reducible refine wp_sPar ?_
  | with_reducible refine wp_sAsg ?_
  | with_reducible refine wp_sSub ?_
  | with_reducible refine wp_sFor ?_
  | with_reducible refine wp_sRaise ?_
  | with_reducible refine wp_sExpr ?_
  | with_reducible refine wp_sRetN ?_
  | with_reducible refine wp_sBreak ?_
  | with_reducible refine wp_sCont ?_
  | ((with_reducible refine wp_varE ?_); refine ⟨_, rfl, ?_⟩)
  | with_reducible refine wp_c ?_
  | with_reducible refine wp_B ?_
  | with_reducible refine wp_U ?_
  | with_reducible refine wp_T ?_
  | with_reducible refine wp_andT ?_
  | with_reducible refine wp_orT ?_
  | with_reducible refine wp_notT ?_
  | with_reducible refine wp_andV ?_
  | with_reducible refine wp_orV ?_
  | with_reducible refine wp_notV ?_
  | with_reducible refine wp_if ?_
  | with_reducible refine wp_nil ?_
  | with_reducible refine wp_cons ?_
  | with_reducible refine wp_tup ?_
  | with_reducible refine wp_lst ?_
  | with_reducible refine wp_lstC ?_
  | with_reducible refine wp_call ?_
  | with_reducible refine wp_callD ?_
  | with_reducible refine wp_callB ?_
  | with_reducible refine wp_m ?_
  | with_reducible refine wp_oNone ?_
  | with_reducible refine wp_oSome ?_
  | with_reducible refine wp_sl ?_
  | with_reducible refine wp_tried ?_
  | with_reducible refine wp_asked ?_
  | with_reducible refine wp_seqOut ?_
  | with_reducible refine wp_asks ?_ | with_reducible refine wp_eDoors ?_
  | with_reducible refine wp_asksC ?_
  | with_reducible refine wp_asksN ?_
  | with_reducible refine wp_chain ?_
  | with_reducible refine wp_enum ?_
  | with_reducible refine wp_enumB ?_
  | with_reducible refine wp_zip ?_
  | with_reducible refine wp_joinedT ?_
  | with_reducible refine wp_jNil ?_
  | with_reducible refine wp_jT ?_
  | with_reducible refine wp_lc ?_
  | with_reducible refine wp_lcC ?_
  | with_reducible refine wp_yes ?_
  | with_reducible refine wp_iAny ?_
  | with_reducible refine wp_range1 ?_
  | with_reducible refine wp_range2 ?_
  | with_reducible refine wp_sStar ?_
  | with_reducible refine wp_sDput ?_
  | with_reducible refine wp_sMul ?_
  | with_reducible refine wp_mNil ?_
  | with_reducible refine wp_mCons ?_
  | with_reducible refine wp_mSub ?_
  | with_reducible refine wp_mSubD ?_
  | with_reducible refine wp_dget2 ?_
  | with_reducible refine wp_disp ?_
  | with_reducible refine wp_pNil ?_
  | with_reducible refine wp_pCons ?_
  | with_reducible refine wp_dc ?_
  | with_reducible refine wp_seqTail ?_
  | with_reducible refine wp_sTail ?_
  | with_reducible refine wp_newDC ?_
  | with_reducible refine wp_newDT ?_
  | with_reducible refine wp_key ?_
  | with_reducible refine wp_tget2 ?_
  | with_reducible refine wp_seqKput ?_
  | with_reducible refine wp_sKput ?_
  | with_reducible refine wp_lRg1 ?_
  | with_reducible refine wp_lRg2 ?_
  | with_reducible refine wp_dpop2 ?_
  | with_reducible refine wp_eTO ?_
  | with_reducible refine wp_notO ?_)
local macro_rules | `(tactic| fail) => `(tactic| first
  | with_reducible refine wp_eqI ?_
  | with_reducible refine wp_neI ?_
  | with_reducible refine wp_eqB ?_
  | with_reducible refine wp_neB ?_
  | ((with_reducible refine wp_eqStr ?_ ?_ ?_); decide +kernel; decide +kernel)
  | ((with_reducible refine wp_neStr ?_ ?_ ?_); decide +kernel; decide +kernel)
  | with_reducible refine wp_addI ?_
  | with_reducible refine wp_addII ?_
  | with_reducible refine wp_subI ?_
  | with_reducible refine wp_ltI ?_
  | with_reducible refine wp_leI ?_
  | with_reducible refine wp_gtI ?_
  | with_reducible refine wp_geI ?_
  | with_reducible refine wp_negI ?_
  | with_reducible refine wp_intI ?_
  | with_reducible refine wp_intB ?_
  | with_reducible refine wp_absI ?_
  | with_reducible refine wp_un ?_
  | ((with_reducible refine wp_mul ?_ ?_); first | exact mulOk_right (by decide) | exact mulOk_left (by decide) | exact mulOk_mod (by decide) (by decide))
  | ((with_reducible refine wp_mod ?_ ?_); decide)
  | ((with_reducible refine wp_fdiv ?_ ?_ ?_); decide; exact pylong_200 (by decide))
  | with_reducible refine wp_pow18 ?_
  | with_reducible refine wp_pow12 ?_
  | with_reducible refine wp_pow40 ?_
  | ((with_reducible refine wp_ixE ?_); refine ⟨_, rfl, ?_⟩)
  | with_reducible refine wp_len0 ?_
  | with_reducible refine wp_len1 ?_
  | with_reducible refine wp_len2 ?_
  | with_reducible refine wp_len3 ?_
  | with_reducible refine wp_lenT1 ?_
  | with_reducible refine wp_lenT2 ?_
  | with_reducible refine wp_lenT3 ?_
  | ((with_reducible refine wp_lenE ?_); refine ⟨_, rfl, ?_⟩)
  | ((with_reducible refine wp_listOfE ?_); refine ⟨_, rfl, ?_⟩)
  | ((with_reducible refine wp_isiE ?_); refine ⟨_, rfl, ?_⟩)
  | ((with_reducible refine wp_isNE ?_); refine ⟨_, rfl, ?_⟩)
  | ((with_reducible refine wp_notNE ?_); refine ⟨_, rfl, ?_⟩)
  | ((with_reducible refine wp_slE ?_); refine ⟨_, rfl, ?_⟩)
  | ((with_reducible refine sub_okE ?_); refine ⟨_, rfl, ?_⟩)
  | with_reducible refine Exists.intro _ (And.intro rfl ?_)
  | with_reducible refine Exists.intro _ (Exists.intro _ (And.intro rfl ?_))
  | ((with_reducible refine len_eq ?_ ?_); exact rfl)
  | ((with_reducible refine rng_ok ?_ ?_); omega)
  | ((with_reducible refine rng2_ok ?_ ?_); omega)
  | ((with_reducible refine rngD_len ?_ ?_); omega)
  | ((with_reducible refine len_100 ?_ ?_); exact Nat.le_of_ble_eq_true rfl)
  | ((with_reducible refine isTy_ok ?_ ?_); exact rfl)
  | ((with_reducible refine br_t ?_ ?_); first | with_reducible exact rfl | decide)
  | ((with_reducible refine br_f ?_ ?_); first | with_reducible exact rfl | decide)
  | with_reducible refine br_d (fun _ => ?_) (fun _ => ?_)
  | with_reducible refine br_n (fun _ => ?_) (fun _ => ?_))
theorem wp_initN {μ : Sto} {n : Nat} {L B S En : D} {zs : List (List Nat)} {b e : Nat → Rat} {A : Str → Mn.Mr} {Q : D → Sto → Prop} {E : Exs} (P : Parts μ L B S En n zs b e A)
    (q : ∀ x, MachAt (μ ++ [machM zs n b e (μ.length + 2), x, waysD n A zs]) μ.length n zs b e A → Q .non (μ ++ [machM zs n b e (μ.length + 2), x, waysD n A zs])) : (f_Machine___init__ [.cell μ.length, L, B, S, En] (μ ++ [.ins "Machine" [] []])).wp Q E := by
  refine wp_init P.app List.getElem?_concat_length fun x => ?_
  rw [set_last, List.length_append, List.append_assoc]
  refine q x ⟨⟨μ.length + 2, ?_, ?_⟩, P.nd, P.few, P.ok, P.sz⟩
  · rw [List.getElem?_append_right (Nat.le_refl _), Nat.sub_self]; rfl
  · rw [List.getElem?_append_right (by omega), Nat.add_sub_cancel_left]; rfl
theorem lk1 {a b c d : D} : lookD "signs" mNs [a, b, c, d] = some a := by unfold lookD; rw [if_pos rfl]
theorem lk2 {a b c d : D} : lookD "first" mNs [a, b, c, d] = some b := by unfold lookD; rw [if_neg (by decide +kernel)]; unfold lookD; rw [if_pos rfl]
theorem lk3 {a b c d : D} : lookD "last" mNs [a, b, c, d] = some c := by unfold lookD; rw [if_neg (by decide +kernel)]; unfold lookD; rw [if_neg (by decide +kernel)]; unfold lookD; rw [if_pos rfl]
theorem lk4 {a b c d : D} : lookD "ways" mNs [a, b, c, d] = some d := by unfold lookD; rw [if_neg (by decide +kernel)]; unfold lookD; rw [if_neg (by decide +kernel)]; unfold lookD; rw [if_neg (by decide +kernel)]; unfold lookD; rw [if_pos rfl]
section
variable {μ : Sto} {k n : Nat} {zs : List (List Nat)} {b e : Nat → Rat} {A : Str → Mn.Mr} {Q : D → Sto → Prop} {E : Exs}
theorem wp_fsigns (h : MachAt μ k n zs b e A) (q : Q (.lst (letsD (srt zs))) μ) : (dFld "Machine" "signs" (.cell k) μ).wp Q E := let ⟨_, h1, _⟩ := h.ex; wp_dFld h1 lk1 q
theorem wp_ffirst (h : MachAt μ k n zs b e A) (q : Q (qR n b) μ) : (dFld "Machine" "first" (.cell k) μ).wp Q E := let ⟨_, h1, _⟩ := h.ex; wp_dFld h1 lk2 q
theorem wp_flast (h : MachAt μ k n zs b e A) (q : Q (qR n e) μ) : (dFld "Machine" "last" (.cell k) μ).wp Q E := let ⟨_, h1, _⟩ := h.ex; wp_dFld h1 lk3 q
theorem wp_fways (h : MachAt μ k n zs b e A) (q : ∀ w, μ[w]? = some (waysD n A zs) → Q (.cell w) μ) : (dFld "Machine" "ways" (.cell k) μ).wp Q E := let ⟨w, h1, h2⟩ := h.ex; wp_dFld h1 lk4 (q w h2)
end
/-- bounds of machines: all entries over D, at most C -/
structure Bmc (Dn C n : Nat) (zs : List (List Nat)) (b e : Nat → Rat) (A : Str → Mn.Mr) : Prop where
  b : ∀ i, i < n → Mn.Iq Dn C (b i)
  e : ∀ i, i < n → Mn.Iq Dn C (e i)
  a : ∀ z ∈ zs, ∀ i, i < n → ∀ j, j < n → Mn.Iq Dn C (A (SX.S z) i j)
  d0 : 0 < Dn
  d : Dn ≤ 2 ^ 60
  c : C ≤ 2 ^ 60
  n : n ≤ 16
end Pf

namespace Pf
open PySem PySem.Spec PyProof.Rows L2 L3
local macro_rules | `(tactic| fail) => `(tactic| first
  | with_reducible refine wp_seqSet ?_
  | with_reducible refine wp_seqAsg ?_
  | with_reducible refine wp_seqPar ?_
  | with_reducible refine wp_seqPar3 ?_
  | with_reducible refine wp_seqFset ?_
  | with_reducible refine wp_seqFaug ?_
  | with_reducible refine wp_sFset ?_
  | with_reducible refine wp_sFaug ?_
  | with_reducible refine wp_meth ?_
  | with_reducible refine wp_make ?_
  | with_reducible refine wp_methX ?_
  | with_reducible refine wp_makeX ?_
  | with_reducible refine wp_sPar3 ?_
  | with_reducible refine three_ok ?_
  | with_reducible refine wp_seqAug ?_
  | with_reducible refine wp_seqExpr ?_
  | with_reducible refine wp_seqSub ?_
  | with_reducible refine wp_seqNil ?_
  | with_reducible refine wp_seqFor ?_
  | with_reducible refine wp_seqWhile ?_
  | with_reducible refine wp_seqStar ?_
  | with_reducible refine wp_seqForK ?_
  | with_reducible refine wp_seqDput ?_
  | with_reducible refine wp_seqMul ?_
  | with_reducible refine wp_sSet ?_
  | with_reducible refine wp_sRet ?_
  | with_reducible refine wp_sNil ?_
  | with_reducible refine wp_sIf ?_
  | with_reducible refine wp_sPar ?_
  | with_reducible refine wp_sAsg ?_
  | with_reducible refine wp_sSub ?_
  | with_reducible refine wp_sFor ?_
  | with_reducible refine wp_sRaise ?_
  | with_reducible refine wp_sExpr ?_
  | with_reducible refine wp_sRetN ?_
  | with_reducible refine wp_sBreak ?_
  | with_reducible refine wp_sCont ?_
  | ((with_reducible refine wp_varE ?_); refine ⟨_, rfl, ?_⟩)
  | with_reducible refine wp_c ?_
  | with_reducible refine wp_B ?_
  | with_reducible refine wp_U ?_
  | with_reducible refine wp_T ?_
  | with_reducible refine wp_andT ?_
  | with_reducible refine wp_orT ?_
  | with_reducible refine wp_notT ?_
  | with_reducible refine wp_andV ?_
  | with_reducible refine wp_orV ?_
  | with_reducible refine wp_notV ?_
  | with_reducible refine wp_if ?_
  | with_reducible refine wp_nil ?_
  | with_reducible refine wp_cons ?_
  | with_reducible refine wp_tup ?_
  | with_reducible refine wp_lst ?_
  | with_reducible refine wp_lstC ?_
  | with_reducible refine wp_call ?_
  | with_reducible refine wp_callD ?_
  | with_reducible refine wp_callB ?_
  | with_reducible refine wp_m ?_
  | with_reducible refine wp_oNone ?_
  | with_reducible refine wp_oSome ?_
  | with_reducible refine wp_sl ?_
  | with_reducible refine wp_tried ?_
  | with_reducible refine wp_asked ?_
  | with_reducible refine wp_seqOut ?_
  | with_reducible refine wp_asks ?_ | with_reducible refine wp_eDoors ?_
  | with_reducible refine wp_asksC ?_
  | with_reducible refine wp_asksN ?_
  | with_reducible refine wp_chain ?_
  | with_reducible refine wp_enum ?_
  | with_reducible refine wp_enumB ?_
  | with_reducible refine wp_zip ?_
  | with_reducible refine wp_joinedT ?_
  | with_reducible refine wp_jNil ?_
  | with_reducible refine wp_jT ?_
  | with_reducible refine wp_lc ?_
  | with_reducible refine wp_lcC ?_
  | with_reducible refine wp_yes ?_
  | with_reducible refine wp_iAny ?_
  | with_reducible refine wp_range1 ?_
  | with_reducible refine wp_range2 ?_
  | with_reducible refine wp_sStar ?_
  | with_reducible refine wp_sDput ?_
  | with_reducible refine wp_sMul ?_
  | with_reducible refine wp_mNil ?_
  | with_reducible refine wp_mCons ?_
  | with_reducible refine wp_mSub ?_
  | with_reducible refine wp_mSubD ?_
  | with_reducible refine wp_dget2 ?_
  | with_reducible refine wp_disp ?_
  | with_reducible refine wp_pNil ?_
  | with_reducible refine wp_pCons ?_
  | with_reducible refine wp_dc ?_
  | with_reducible refine wp_seqTail ?_
  | with_reducible refine wp_sTail ?_
  | with_reducible refine wp_newDC ?_
  | with_reducible refine wp_newDT ?_
  | with_reducible refine wp_key ?_
  | with_reducible refine wp_tget2 ?_
  | with_reducible refine wp_seqKput ?_
  | with_reducible refine wp_sKput ?_
  | with_reducible refine wp_lRg1 ?_
  | with_reducible refine wp_lRg2 ?_
  | with_reducible refine wp_dpop2 ?_
  | with_reducible refine wp_eTO ?_
  | with_reducible refine wp_notO ?_)
local macro_rules | `(tactic| fail) => `(tactic| first
  | with_reducible refine wp_eqI ?_
  | with_reducible refine wp_neI ?_
  | with_reducible refine wp_eqB ?_
  | with_reducible refine wp_neB ?_
  | ((with_reducible refine wp_eqStr ?_ ?_ ?_); decide +kernel; decide +kernel)
  | ((with_reducible refine wp_neStr ?_ ?_ ?_); decide +kernel; decide +kernel)
  | with_reducible refine wp_addI ?_
  | with_reducible refine wp_addII ?_
  | with_reducible refine wp_subI ?_
  | with_reducible refine wp_ltI ?_
  | with_reducible refine wp_leI ?_
  | with_reducible refine wp_gtI ?_
  | with_reducible refine wp_geI ?_
  | with_reducible refine wp_negI ?_
  | with_reducible refine wp_intI ?_
  | with_reducible refine wp_intB ?_
  | with_reducible refine wp_absI ?_
  | with_reducible refine wp_un ?_
  | ((with_reducible refine wp_mul ?_ ?_); first | exact mulOk_right (by decide) | exact mulOk_left (by decide) | exact mulOk_mod (by decide) (by decide))
  | ((with_reducible refine wp_mod ?_ ?_); decide)
  | ((with_reducible refine wp_fdiv ?_ ?_ ?_); decide; exact pylong_200 (by decide))
  | with_reducible refine wp_pow18 ?_
  | with_reducible refine wp_pow12 ?_
  | with_reducible refine wp_pow40 ?_
  | ((with_reducible refine wp_ixE ?_); refine ⟨_, rfl, ?_⟩)
  | with_reducible refine wp_len0 ?_
  | with_reducible refine wp_len1 ?_
  | with_reducible refine wp_len2 ?_
  | with_reducible refine wp_len3 ?_
  | with_reducible refine wp_lenT1 ?_
  | with_reducible refine wp_lenT2 ?_
  | with_reducible refine wp_lenT3 ?_
  | ((with_reducible refine wp_lenE ?_); refine ⟨_, rfl, ?_⟩)
  | ((with_reducible refine wp_listOfE ?_); refine ⟨_, rfl, ?_⟩)
  | ((with_reducible refine wp_isiE ?_); refine ⟨_, rfl, ?_⟩)
  | ((with_reducible refine wp_isNE ?_); refine ⟨_, rfl, ?_⟩)
  | ((with_reducible refine wp_notNE ?_); refine ⟨_, rfl, ?_⟩)
  | ((with_reducible refine wp_slE ?_); refine ⟨_, rfl, ?_⟩)
  | ((with_reducible refine sub_okE ?_); refine ⟨_, rfl, ?_⟩)
  | with_reducible refine Exists.intro _ (And.intro rfl ?_)
  | with_reducible refine Exists.intro _ (Exists.intro _ (And.intro rfl ?_))
  | ((with_reducible refine len_eq ?_ ?_); exact rfl)
  | ((with_reducible refine rng_ok ?_ ?_); omega)
  | ((with_reducible refine rng2_ok ?_ ?_); omega)
  | ((with_reducible refine rngD_len ?_ ?_); omega)
  | ((with_reducible refine len_100 ?_ ?_); exact Nat.le_of_ble_eq_true rfl)
  | ((with_reducible refine isTy_ok ?_ ?_); exact rfl)
  | ((with_reducible refine br_t ?_ ?_); first | with_reducible exact rfl | decide)
  | ((with_reducible refine br_f ?_ ?_); first | with_reducible exact rfl | decide)
  | with_reducible refine br_d (fun _ => ?_) (fun _ => ?_)
  | with_reducible refine br_n (fun _ => ?_) (fun _ => ?_))
/-- a row that is drawn, whatever it is made of -/
theorem wp_drawG {α : Type} {k : α → D} {Pr : α → Prop} (a0 : α) (h0 : Pr a0) {g : MO} {m : Sto} {n : Nat} {ρ : L3.Env} {sg : SG} {te : SE} {Q : List D → Sto → Prop} {E : Exs} (hg : Bg g) (q : ∀ (v : Nat → α) g', (∀ i, Pr (v i)) → Bg g' → Q (tb n fun i => k (v i)) (g' :: m))
    (hs : ∀ i g, i < n → Bg g → ∃ ρ1, sg (.int (0 + (i : Nat))) ρ (g :: m) = some ρ1 ∧ (te ρ1 (g :: m)).wp (fun y μ' => ∃ a g', Pr a ∧ Bg g' ∧ y = k a ∧ μ' = g' :: m) noE) : (lcS (fun _ => true) sg tYesS te ρ (rngD 0 n) (g :: m)).wp Q E := by
  refine wp_lcR (I := fun ys i μ => ∃ v g, (∀ i, Pr (v i)) ∧ Bg g ∧ μ = g :: m ∧ ys = tb i fun i => k (v i)) ⟨fun _ => a0, g, fun _ => h0, hg, rfl, rfl⟩ ?_ ?_
  · rintro ys μ ⟨v, g, hv, hg, rfl, rfl⟩
    exact q v g hv hg
  · rintro ys i μ hi ⟨v, g, hv, hg, rfl, rfl⟩
    obtain ⟨ρ1, h1, h2⟩ := hs i g hi hg
    refine ⟨ρ1, h1, wp_yes ⟨fun _ => wp_mono h2 ?_ fun _ _ _ _ z => z, fun z => nomatch z⟩⟩
    rintro y μ' ⟨a, g', ha, hg', rfl, rfl⟩
    refine ⟨fun j => if j = i then a else v j, g', fun j => ?_, hg', rfl, ?_⟩
    · by_cases c : j = i
      · simp only [if_pos c]; exact ha
      · simp only [if_neg c]; exact hv j
    · unfold tb
      rw [List.range_succ, List.map_append]
      congr 1
      · refine List.map_congr_left fun j hj => ?_
        rw [List.mem_range] at hj
        show k (v j) = k (if j = i then a else v j)
        rw [if_neg (by omega)]
      · show [k a] = [k (if i = i then a else v i)]
        rw [if_pos rfl]
theorem prs_kz2 (F : Str → D) (zs : List (List Nat)) : prsD (zs.map fun z => .tup [.str (SX.S z), F (SX.S z)]) = some (zs.map kz, (zs.map kz).map (keyF F)) := by
  induction zs with
  | nil => rfl
  | cons z r ih =>
    show (match keyD (.str (SX.S z)), prsD (r.map fun z => .tup [.str (SX.S z), F (SX.S z)]) with
      | some q, some (ks, ds) => some (q :: ks, F (SX.S z) :: ds)
      | _, _ => none) = _
    rw [ih]
    rfl
theorem kz_ndL2 {zs : List (List Nat)} (nd : zs.Nodup) : (zs.map kz).Nodup := List.pairwise_map.mpr (nd.imp fun n e => n (S_inj2 (Sum.inr.inj e)))
end Pf

namespace Pf
open PySem PySem.Spec PyProof.Rows L2 L3
local macro_rules | `(tactic| fail) => `(tactic| first
  | with_reducible refine wp_seqSet ?_
  | with_reducible refine wp_seqAsg ?_
  | with_reducible refine wp_seqPar ?_
  | with_reducible refine wp_seqPar3 ?_
  | with_reducible refine wp_seqFset ?_
  | with_reducible refine wp_seqFaug ?_
  | with_reducible refine wp_sFset ?_
  | with_reducible refine wp_sFaug ?_
  | with_reducible refine wp_meth ?_
  | with_reducible refine wp_make ?_
  | with_reducible refine wp_methX ?_
  | with_reducible refine wp_makeX ?_
  | with_reducible refine wp_sPar3 ?_
  | with_reducible refine three_ok ?_
  | with_reducible refine wp_seqAug ?_
  | with_reducible refine wp_seqExpr ?_
  | with_reducible refine wp_seqSub ?_
  | with_reducible refine wp_seqNil ?_
  | with_reducible refine wp_seqFor ?_
  | with_reducible refine wp_seqWhile ?_
  | with_reducible refine wp_seqStar ?_
  | with_reducible refine wp_seqForK ?_
  | with_reducible refine wp_seqDput ?_
  | with_reducible refine wp_seqMul ?_
  | with_reducible refine wp_sSet ?_
  | with_reducible refine wp_sRet ?_
  | with_reducible refine wp_sNil ?_
  | with_reducible refine wp_sIf ?_
  | with_reducible refine wp_sPar ?_
  | with_reducible refine wp_sAsg ?_
  | with_reducible refine wp_sSub ?_
  | with_reducible refine wp_sFor ?_
  | with_reducible refine wp_sRaise ?_
  | with_reducible refine wp_sExpr ?_
  | with_reducible refine wp_sRetN ?_
  | with_reducible refine wp_sBreak ?_
  | with_reducible refine wp_sCont ?_
  | ((with_reducible refine wp_varE ?_); refine ⟨_, rfl, ?_⟩)
  | with_reducible refine wp_c ?_
  | with_reducible refine wp_B ?_
  | with_reducible refine wp_U ?_
  | with_reducible refine wp_T ?_
  | with_reducible refine wp_andT ?_
  | with_reducible refine wp_orT ?_
  | with_reducible refine wp_notT ?_
  | with_reducible refine wp_andV ?_
  | with_reducible refine wp_orV ?_
  | with_reducible refine wp_notV ?_
  | with_reducible refine wp_if ?_
  | with_reducible refine wp_nil ?_
  | with_reducible refine wp_cons ?_
  | with_reducible refine wp_tup ?_
  | with_reducible refine wp_lst ?_
  | with_reducible refine wp_lstC ?_
  | with_reducible refine wp_call ?_
  | with_reducible refine wp_callD ?_
  | with_reducible refine wp_callB ?_
  | with_reducible refine wp_m ?_
  | with_reducible refine wp_oNone ?_
  | with_reducible refine wp_oSome ?_
  | with_reducible refine wp_sl ?_
  | with_reducible refine wp_tried ?_
  | with_reducible refine wp_asked ?_
  | with_reducible refine wp_seqOut ?_
  | with_reducible refine wp_asks ?_ | with_reducible refine wp_eDoors ?_
  | with_reducible refine wp_asksC ?_
  | with_reducible refine wp_asksN ?_
  | with_reducible refine wp_chain ?_
  | with_reducible refine wp_enum ?_
  | with_reducible refine wp_enumB ?_
  | with_reducible refine wp_zip ?_
  | with_reducible refine wp_joinedT ?_
  | with_reducible refine wp_jNil ?_
  | with_reducible refine wp_jT ?_
  | with_reducible refine wp_lc ?_
  | with_reducible refine wp_lcC ?_
  | with_reducible refine wp_yes ?_
  | with_reducible refine wp_iAny ?_
  | with_reducible refine wp_range1 ?_
  | with_reducible refine wp_range2 ?_
  | with_reducible refine wp_sStar ?_
  | with_reducible refine wp_sDput ?_
  | with_reducible refine wp_sMul ?_
  | with_reducible refine wp_mNil ?_
  | with_reducible refine wp_mCons ?_
  | with_reducible refine wp_mSub ?_
  | with_reducible refine wp_mSubD ?_
  | with_reducible refine wp_dget2 ?_
  | with_reducible refine wp_disp ?_
  | with_reducible refine wp_pNil ?_
  | with_reducible refine wp_pCons ?_
  | with_reducible refine wp_dc ?_
  | with_reducible refine wp_seqTail ?_
  | with_reducible refine wp_sTail ?_
  | with_reducible refine wp_newDC ?_
  | with_reducible refine wp_newDT ?_
  | with_reducible refine wp_key ?_
  | with_reducible refine wp_tget2 ?_
  | with_reducible refine wp_seqKput ?_
  | with_reducible refine wp_sKput ?_
  | with_reducible refine wp_lRg1 ?_
  | with_reducible refine wp_lRg2 ?_
  | with_reducible refine wp_dpop2 ?_
  | with_reducible refine wp_eTO ?_
  | with_reducible refine wp_notO ?_)
local macro_rules | `(tactic| fail) => `(tactic| first
  | with_reducible refine wp_eqI ?_
  | with_reducible refine wp_neI ?_
  | with_reducible refine wp_eqB ?_
  | with_reducible refine wp_neB ?_
  | ((with_reducible refine wp_eqStr ?_ ?_ ?_); decide +kernel; decide +kernel)
  | ((with_reducible refine wp_neStr ?_ ?_ ?_); decide +kernel; decide +kernel)
  | with_reducible refine wp_addI ?_
  | with_reducible refine wp_addII ?_
  | with_reducible refine wp_subI ?_
  | with_reducible refine wp_ltI ?_
  | with_reducible refine wp_leI ?_
  | with_reducible refine wp_gtI ?_
  | with_reducible refine wp_geI ?_
  | with_reducible refine wp_negI ?_
  | with_reducible refine wp_intI ?_
  | with_reducible refine wp_intB ?_
  | with_reducible refine wp_absI ?_
  | with_reducible refine wp_un ?_
  | ((with_reducible refine wp_mul ?_ ?_); first | exact mulOk_right (by decide) | exact mulOk_left (by decide) | exact mulOk_mod (by decide) (by decide))
  | ((with_reducible refine wp_mod ?_ ?_); decide)
  | ((with_reducible refine wp_fdiv ?_ ?_ ?_); decide; exact pylong_200 (by decide))
  | with_reducible refine wp_pow18 ?_
  | with_reducible refine wp_pow12 ?_
  | with_reducible refine wp_pow40 ?_
  | ((with_reducible refine wp_ixE ?_); refine ⟨_, rfl, ?_⟩)
  | with_reducible refine wp_len0 ?_
  | with_reducible refine wp_len1 ?_
  | with_reducible refine wp_len2 ?_
  | with_reducible refine wp_len3 ?_
  | with_reducible refine wp_lenT1 ?_
  | with_reducible refine wp_lenT2 ?_
  | with_reducible refine wp_lenT3 ?_
  | ((with_reducible refine wp_lenE ?_); refine ⟨_, rfl, ?_⟩)
  | ((with_reducible refine wp_listOfE ?_); refine ⟨_, rfl, ?_⟩)
  | ((with_reducible refine wp_isiE ?_); refine ⟨_, rfl, ?_⟩)
  | ((with_reducible refine wp_isNE ?_); refine ⟨_, rfl, ?_⟩)
  | ((with_reducible refine wp_notNE ?_); refine ⟨_, rfl, ?_⟩)
  | ((with_reducible refine wp_slE ?_); refine ⟨_, rfl, ?_⟩)
  | ((with_reducible refine sub_okE ?_); refine ⟨_, rfl, ?_⟩)
  | with_reducible refine Exists.intro _ (And.intro rfl ?_)
  | with_reducible refine Exists.intro _ (Exists.intro _ (And.intro rfl ?_))
  | ((with_reducible refine len_eq ?_ ?_); exact rfl)
  | ((with_reducible refine rng_ok ?_ ?_); omega)
  | ((with_reducible refine rng2_ok ?_ ?_); omega)
  | ((with_reducible refine rngD_len ?_ ?_); omega)
  | ((with_reducible refine len_100 ?_ ?_); exact Nat.le_of_ble_eq_true rfl)
  | ((with_reducible refine isTy_ok ?_ ?_); exact rfl)
  | ((with_reducible refine br_t ?_ ?_); first | with_reducible exact rfl | decide)
  | ((with_reducible refine br_f ?_ ?_); first | with_reducible exact rfl | decide)
  | with_reducible refine br_d (fun _ => ?_) (fun _ => ?_)
  | with_reducible refine br_n (fun _ => ?_) (fun _ => ?_))
def padsW : List (List Nat) := [[], [113], [122, 122, 122, 122, 122], [97, 98]]
/-- a letter as the law makes it: a sign within one of four words -/
def Wd (z : List Nat) : Prop := ∃ pad ∈ padsW, ∃ (a c : Nat), z = pad.take a ++ [c] ++ pad.drop a
theorem Wd.len {z : List Nat} (h : Wd z) : z.length = 1 ∨ z.length = 2 ∨ z.length = 3 ∨ z.length = 6 := by
  obtain ⟨pad, hp, a, c, rfl⟩ := h
  have e : (pad.take a ++ [c] ++ pad.drop a).length = pad.length + 1 := by
    simp only [List.length_append, List.length_take, List.length_drop, List.length_cons, List.length_nil]
    omega
  rw [e]
  simp only [padsW, List.mem_cons, List.not_mem_nil, or_false] at hp
  rcases hp with rfl | rfl | rfl | rfl <;> decide
theorem eqv_lets : ∀ (zs ys : List (List Nat)), PyData.eqvAll (zs.map fun z => .str (SX.S z)) (ys.map fun z => .str (SX.S z)) = decide (zs = ys)
  | [], [] => by simp [PyData.eqvAll]
  | [], _ :: _ => by simp [PyData.eqvAll]
  | _ :: _, [] => by simp [PyData.eqvAll]
  | z :: zs, y :: ys => by
    rw [List.map_cons, List.map_cons, PyData.eqvAll, eqv_lets zs ys]
    have e : PyData.eqv (.str (SX.S z)) (.str (SX.S y)) = decide (z = y) := by
      simp only [PyData.eqv]
      by_cases c : z = y
      · rw [c]; simp
      · have : SX.S z ≠ SX.S y := fun e => c (S_inj2 e)
        simp [c, this]
    rw [e]
    by_cases c : z = y <;> by_cases c2 : zs = ys <;> simp [c, c2]
theorem toPy_lets : ∀ zs : List (List Nat), toPyL (letsD zs) = some (zs.map fun z => .str (SX.S z))
  | [] => rfl
  | z :: zs => by
    show toPyL (.str (SX.S z) :: letsD zs) = _
    unfold toPyL
    rw [toPy_lets zs]
    rfl
theorem wp_neLetsG {zs ys : List (List Nat)} {μ : Sto} {Q : D → Sto → Prop} {E : Exs} (hl : zs.length ≤ 1000000) (h : ∀ z ∈ zs, okT z) (gl : ys.length ≤ 1000000) (g : ∀ z ∈ ys, okT z) (q : Q (.bl (!decide (zs = ys))) μ) : (dNe (.lst (letsD zs)) (.lst (letsD ys)) μ).wp Q E := by
  have hp := Pu.lets hl h
  have gp := Pu.lets gl g
  obtain ⟨x, h1, h2⟩ := hp.shaped (by decide)
  obtain ⟨y, g1, g2⟩ := gp.shaped (by decide)
  have ex : x = .list (zs.map fun z => .str (SX.S z)) := by
    have : (toPyL (letsD zs)).map PyData.list = some x := h1
    rw [toPy_lets] at this
    exact (Option.some.inj this).symm
  have ey : y = .list (ys.map fun z => .str (SX.S z)) := by
    have : (toPyL (letsD ys)).map PyData.list = some y := g1
    rw [toPy_lets] at this
    exact (Option.some.inj this).symm
  rw [dNe_py ((hp.toPy μ).trans h1) ((gp.toPy μ).trans g1) h2 g2]
  have e3 : PyData.eqv x y = decide (zs = ys) := by
    rw [ex, ey, PyData.eqv, eqv_lets]
  rw [e3]
  exact q
theorem wp_labcW {g : MO} {m : Sto} {n : Nat} {Q : D → Sto → Prop} {E : Exs} (h : Bg g) (hn : n ≤ 5) (q : ∀ zs g', Bg g' → zs.length = n → (∀ z ∈ zs, IsLet z ∧ Wd z) → zs.Nodup → Q (.cell (m.length + 1)) (g' :: (m ++ [.lst (letsD zs)]))) : (f__law_abc [.cell 0, .int n] (g :: m)).wp Q E := by
  unfold f__law_abc
  with_reducible refine wp_fn ?_
  unfold b__law_abc
  have t_q : ("q" : Str) = SX.S [113] := by decide +kernel
  have t_z : ("zzzzz" : Str) = SX.S [122, 122, 122, 122, 122] := by decide +kernel
  have t_ab : ("ab" : Str) = SX.S [97, 98] := by decide +kernel
  rw [small, t_q, t_z, t_ab, t_empty]
  repeat' fail
  refine wp_pull h (by decide) (by decide) fun f g1 h1 h2 hg1 => ?_
  repeat' fail
  refine wp_of hg1 (by show 0 < 5; decide) (by show 5 < 2 ^ 60; decide) fun u x g2 hx hg2 => ?_
  obtain ⟨pad, rfl, hp, hl, pin⟩ : ∃ pad, x = .str (SX.S pad) ∧ (∀ c ∈ pad, 97 ≤ c ∧ c ≤ 122) ∧ pad.length ≤ 5 ∧ pad ∈ padsW := by
    have m := List.mem_of_getElem? hx
    simp only [List.mem_cons, List.not_mem_nil, or_false] at m
    rcases m with rfl | rfl | rfl | rfl | rfl <;> exact ⟨_, rfl, by decide, by decide, by decide⟩
  repeat' fail
  refine wp_lenT (by omega) ?_
  repeat' fail
  refine wp_pull hg2 (by omega) (by omega) fun at_ g3 h3 h4 hg3 => ?_
  repeat' fail
  let lz : Nat → List Nat := fun j => pad.take at_.toNat ++ [97 + ((f + 5 * (0 + (j : Nat))).fmod 26).toNat] ++ pad.drop at_.toNat
  have hin : ∀ i j : Nat, i < j → j < 5 → lz i ≠ lz j := fun i j hij hj e => by
    have e2 : ((f + 5 * (i : Int)).fmod 26).toNat = ((f + 5 * (j : Int)).fmod 26).toNat := by simpa [lz, List.append_assoc] using e
    rw [Int.fmod_eq_emod_of_nonneg _ (by decide), Int.fmod_eq_emod_of_nonneg _ (by decide)] at e2
    omega
  refine wp_forR (I := fun i ρ μ => ∃ y z, μ = g3 :: (m ++ [.lst (letsD ((List.range i).map lz))]) ∧ ρ = [some (.cell 0), some (.int n), some (.int f), some (.cell (m.length + 1)), some (.str (SX.S pad)), some (.int at_), y, z]) ?_ ?_ ?_
  · exact ⟨none, none, rfl, rfl⟩
  · rintro ρ μ ⟨y, z, rfl, rfl⟩
    repeat' fail
    rw [show (Int.toNat (n : Int)) = n from Int.toNat_natCast n]
    refine q _ g3 hg3 (by simp) (fun w hw => ?_) ?_
    · obtain ⟨j, hj, rfl⟩ := List.mem_map.mp hw
      have h7 := Int.fmod_nonneg_of_pos (f + 5 * (0 + (j : Nat))) (show (0 : Int) < 26 by decide)
      have h8 := Int.fmod_lt_of_pos (f + 5 * (0 + (j : Nat))) (show (0 : Int) < 26 by decide)
      refine ⟨⟨⟨by simp [lz]; omega, by simp [lz]; omega⟩, fun d hd => ?_⟩, ⟨pad, pin, _, _, rfl⟩⟩
      simp only [lz, List.mem_append, List.mem_singleton] at hd
      rcases hd with (hd | hd) | hd
      · exact hp d (List.mem_of_mem_take hd)
      · omega
      · exact hp d (List.mem_of_mem_drop hd)
    · refine List.pairwise_map.mpr ?_
      refine (List.pairwise_lt_range (n := n)).imp_of_mem fun {i j} hi hj hij => ?_
      exact hin i j hij (by have := List.mem_range.mp hj; omega)
  · rintro i ρ μ hi ⟨y, z, rfl, rfl⟩
    have hi : i < n := by omega
    refine ⟨_, rfl, ?_⟩
    repeat' fail
    have h7 := Int.fmod_nonneg_of_pos (f + 5 * (0 + (i : Nat))) (show (0 : Int) < 26 by decide)
    have h8 := Int.fmod_lt_of_pos (f + 5 * (0 + (i : Nat))) (show (0 : Int) < 26 by decide)
    have hc : ((List.range 26).map (97 + ·))[((f + 5 * (0 + (i : Nat))).fmod 26).toNat]? = some (97 + ((f + 5 * (0 + (i : Nat))).fmod 26).toNat) := by
      rw [List.getElem?_map, List.getElem?_range (by omega)]
      rfl
    refine wp_ixS (Int.fmod_nonneg_of_pos _ (by decide)) hc (by simp) ?_
    repeat' fail
    have hk : (g3 :: (m ++ [MO.lst (letsD ((List.range i).map lz))]))[m.length + 1]? = some (.lst (letsD ((List.range i).map lz))) := by simp
    refine isTy_ok (isTy_cell hk) ?_
    repeat' fail
    refine wp_takeT h3 (by omega) ?_
    repeat' fail
    refine wp_addT (by simp; omega) ?_
    repeat' fail
    refine wp_dropT h3 (by omega) ?_
    repeat' fail
    refine wp_addT (by simp; omega) ?_
    repeat' fail
    refine wp_append hk (by unfold letsD; rw [List.length_map, List.length_map, List.length_range]; omega) ?_
    refine ⟨_, _, ?_, rfl⟩
    show g3 :: ((m ++ [MO.lst (letsD ((List.range i).map lz))]).set m.length _) = _
    rw [List.set_append_right _ _ (Nat.le_refl _), Nat.sub_self, List.range_succ, List.map_append]
    unfold letsD
    rw [List.map_append]
    rfl
end Pf

namespace Pf
open PySem PySem.Spec PyProof.Rows L2 L3
local macro_rules | `(tactic| fail) => `(tactic| first
  | with_reducible refine wp_seqSet ?_
  | with_reducible refine wp_seqAsg ?_
  | with_reducible refine wp_seqPar ?_
  | with_reducible refine wp_seqPar3 ?_
  | with_reducible refine wp_seqFset ?_
  | with_reducible refine wp_seqFaug ?_
  | with_reducible refine wp_sFset ?_
  | with_reducible refine wp_sFaug ?_
  | with_reducible refine wp_meth ?_
  | with_reducible refine wp_make ?_
  | with_reducible refine wp_methX ?_
  | with_reducible refine wp_makeX ?_
  | with_reducible refine wp_sPar3 ?_
  | with_reducible refine three_ok ?_
  | with_reducible refine wp_seqAug ?_
  | with_reducible refine wp_seqExpr ?_
  | with_reducible refine wp_seqSub ?_
  | with_reducible refine wp_seqNil ?_
  | with_reducible refine wp_seqFor ?_
  | with_reducible refine wp_seqWhile ?_
  | with_reducible refine wp_seqStar ?_
  | with_reducible refine wp_seqForK ?_
  | with_reducible refine wp_seqDput ?_
  | with_reducible refine wp_seqMul ?_
  | with_reducible refine wp_sSet ?_
  | with_reducible refine wp_sRet ?_
  | with_reducible refine wp_sNil ?_
  | with_reducible refine wp_sIf ?_
  | with_reducible refine wp_sPar ?_
  | with_reducible refine wp_sAsg ?_
  | with_reducible refine wp_sSub ?_
  | with_reducible refine wp_sFor ?_
  | with_reducible refine wp_sRaise ?_
  | with_reducible refine wp_sExpr ?_
  | with_reducible refine wp_sRetN ?_
  | with_reducible refine wp_sBreak ?_
  | with_reducible refine wp_sCont ?_
  | ((with_reducible refine wp_varE ?_); refine ⟨_, rfl, ?_⟩)
  | with_reducible refine wp_c ?_
  | with_reducible refine wp_B ?_
  | with_reducible refine wp_U ?_
  | with_reducible refine wp_T ?_
  | with_reducible refine wp_andT ?_
  | with_reducible refine wp_orT ?_
  | with_reducible refine wp_notT ?_
  | with_reducible refine wp_andV ?_
  | with_reducible refine wp_orV ?_
  | with_reducible refine wp_notV ?_
  | with_reducible refine wp_if ?_
  | with_reducible refine wp_nil ?_
  | with_reducible refine wp_cons ?_
  | with_reducible refine wp_tup ?_
  | with_reducible refine wp_lst ?_
  | with_reducible refine wp_lstC ?_
  | with_reducible refine wp_call ?_
  | with_reducible refine wp_callD ?_
  | with_reducible refine wp_callB ?_
  | with_reducible refine wp_m ?_
  | with_reducible refine wp_oNone ?_
  | with_reducible refine wp_oSome ?_
  | with_reducible refine wp_sl ?_
  | with_reducible refine wp_tried ?_
  | with_reducible refine wp_asked ?_
  | with_reducible refine wp_seqOut ?_
  | with_reducible refine wp_asks ?_ | with_reducible refine wp_eDoors ?_
  | with_reducible refine wp_asksC ?_
  | with_reducible refine wp_asksN ?_
  | with_reducible refine wp_chain ?_
  | with_reducible refine wp_enum ?_
  | with_reducible refine wp_enumB ?_
  | with_reducible refine wp_zip ?_
  | with_reducible refine wp_joinedT ?_
  | with_reducible refine wp_jNil ?_
  | with_reducible refine wp_jT ?_
  | with_reducible refine wp_lc ?_
  | with_reducible refine wp_lcC ?_
  | with_reducible refine wp_yes ?_
  | with_reducible refine wp_iAny ?_
  | with_reducible refine wp_range1 ?_
  | with_reducible refine wp_range2 ?_
  | with_reducible refine wp_sStar ?_
  | with_reducible refine wp_sDput ?_
  | with_reducible refine wp_sMul ?_
  | with_reducible refine wp_mNil ?_
  | with_reducible refine wp_mCons ?_
  | with_reducible refine wp_mSub ?_
  | with_reducible refine wp_mSubD ?_
  | with_reducible refine wp_dget2 ?_
  | with_reducible refine wp_disp ?_
  | with_reducible refine wp_pNil ?_
  | with_reducible refine wp_pCons ?_
  | with_reducible refine wp_dc ?_
  | with_reducible refine wp_seqTail ?_
  | with_reducible refine wp_sTail ?_
  | with_reducible refine wp_newDC ?_
  | with_reducible refine wp_newDT ?_
  | with_reducible refine wp_key ?_
  | with_reducible refine wp_tget2 ?_
  | with_reducible refine wp_seqKput ?_
  | with_reducible refine wp_sKput ?_
  | with_reducible refine wp_lRg1 ?_
  | with_reducible refine wp_lRg2 ?_
  | with_reducible refine wp_dpop2 ?_
  | with_reducible refine wp_eTO ?_
  | with_reducible refine wp_notO ?_)
local macro_rules | `(tactic| fail) => `(tactic| first
  | with_reducible refine wp_eqI ?_
  | with_reducible refine wp_neI ?_
  | with_reducible refine wp_eqB ?_
  | with_reducible refine wp_neB ?_
  | ((with_reducible refine wp_eqStr ?_ ?_ ?_); decide +kernel; decide +kernel)
  | ((with_reducible refine wp_neStr ?_ ?_ ?_); decide +kernel; decide +kernel)
  | with_reducible refine wp_addI ?_
  | with_reducible refine wp_addII ?_
  | with_reducible refine wp_subI ?_
  | with_reducible refine wp_ltI ?_
  | with_reducible refine wp_leI ?_
  | with_reducible refine wp_gtI ?_
  | with_reducible refine wp_geI ?_
  | with_reducible refine wp_negI ?_
  | with_reducible refine wp_intI ?_
  | with_reducible refine wp_intB ?_
  | with_reducible refine wp_absI ?_
  | with_reducible refine wp_un ?_
  | ((with_reducible refine wp_mul ?_ ?_); first | exact mulOk_right (by decide) | exact mulOk_left (by decide) | exact mulOk_mod (by decide) (by decide))
  | ((with_reducible refine wp_mod ?_ ?_); decide)
  | ((with_reducible refine wp_fdiv ?_ ?_ ?_); decide; exact pylong_200 (by decide))
  | with_reducible refine wp_pow18 ?_
  | with_reducible refine wp_pow12 ?_
  | with_reducible refine wp_pow40 ?_
  | ((with_reducible refine wp_ixE ?_); refine ⟨_, rfl, ?_⟩)
  | with_reducible refine wp_len0 ?_
  | with_reducible refine wp_len1 ?_
  | with_reducible refine wp_len2 ?_
  | with_reducible refine wp_len3 ?_
  | with_reducible refine wp_lenT1 ?_
  | with_reducible refine wp_lenT2 ?_
  | with_reducible refine wp_lenT3 ?_
  | ((with_reducible refine wp_lenE ?_); refine ⟨_, rfl, ?_⟩)
  | ((with_reducible refine wp_listOfE ?_); refine ⟨_, rfl, ?_⟩)
  | ((with_reducible refine wp_isiE ?_); refine ⟨_, rfl, ?_⟩)
  | ((with_reducible refine wp_isNE ?_); refine ⟨_, rfl, ?_⟩)
  | ((with_reducible refine wp_notNE ?_); refine ⟨_, rfl, ?_⟩)
  | ((with_reducible refine wp_slE ?_); refine ⟨_, rfl, ?_⟩)
  | ((with_reducible refine sub_okE ?_); refine ⟨_, rfl, ?_⟩)
  | with_reducible refine Exists.intro _ (And.intro rfl ?_)
  | with_reducible refine Exists.intro _ (Exists.intro _ (And.intro rfl ?_))
  | ((with_reducible refine len_eq ?_ ?_); exact rfl)
  | ((with_reducible refine rng_ok ?_ ?_); omega)
  | ((with_reducible refine rng2_ok ?_ ?_); omega)
  | ((with_reducible refine rngD_len ?_ ?_); omega)
  | ((with_reducible refine len_100 ?_ ?_); exact Nat.le_of_ble_eq_true rfl)
  | ((with_reducible refine isTy_ok ?_ ?_); exact rfl)
  | ((with_reducible refine br_t ?_ ?_); first | with_reducible exact rfl | decide)
  | ((with_reducible refine br_f ?_ ?_); first | with_reducible exact rfl | decide)
  | with_reducible refine br_d (fun _ => ?_) (fun _ => ?_)
  | with_reducible refine br_n (fun _ => ?_) (fun _ => ?_))
theorem wp_engineC {g : MO} {m : Sto} {k c : Nat} {zs : List (List Nat)} {Q : D → Sto → Prop} {E : Exs} (hg : Bg g) (nd : zs.Nodup) (few : zs.length ≤ 10) (hc : c ≤ 12) (hk : m[k]? = some (.lst (letsD zs))) (q : ∀ g' n b e A, Bg g' → n ≤ c → (∀ i, Lt60 (b i)) → (∀ i, Lt60 (e i)) → (∀ s i j, Lt60 (A s i j)) → Q (.tup [.cell (k + 1), qR n b, .cell (m.length + 1), qR n e]) (g' :: (m ++ [waysD n A zs]))) : (f__law_engine [.cell 0, .cell (k + 1), .int (c : Nat)] (g :: m)).wp Q E := by
  unfold f__law_engine
  with_reducible refine wp_fn ?_
  simp only [List.map_cons, List.map_nil, List.length_cons, List.length_nil, List.reduceReplicate, List.cons_append, List.nil_append, Nat.reduceAdd, Nat.reduceSub, Nat.zero_add, List.set_cons_zero, List.set_cons_succ, wipeE]
  unfold b__law_engine
  repeat' (first | fail | with_reducible refine wp_sSeq ?_)
  refine wp_pull hg (by omega) (by omega) fun n g n1 n2 hg => ?_
  obtain ⟨n, rfl⟩ : ∃ t : Nat, n = t := ⟨n.toNat, by omega⟩
  repeat' (first | fail | with_reducible refine wp_sSeq ?_)
  refine wp_pull hg (by decide) (by decide) fun th g t1 t2 hg => ?_
  repeat' (first | fail | with_reducible refine wp_sSeq ?_)
  refine ⟨_, walkD_cell (μ := g :: (m ++ [MO.dct [] []])) (ds := letsD zs) (by show (m ++ [MO.dct [] []])[k]? = _; rw [List.getElem?_append_left (List.getElem?_eq_some_iff.mp hk).1]; exact hk), ?_⟩
  simp only [List.map_cons, List.map_nil, List.length_cons, List.length_nil, List.reduceReplicate, List.cons_append, List.nil_append, Nat.reduceAdd, Nat.reduceSub, Nat.zero_add, List.set_cons_zero, List.set_cons_succ, wipeE]
  refine wp_forS (I := fun ds ρ μ' => ∃ pre post g A a6 a7 a8, zs = pre ++ post ∧ ds = letsD post ∧ Bg g ∧ (∀ s i j, Lt60 (A s i j)) ∧ μ' = g :: (m ++ [waysD n A pre]) ∧ ρ = [some (.cell 0), some (.cell (k + 1)), some (.int (c : Nat)), some (.int (n : Nat)), some (.int th), some (.cell (m.length + 1)), a6, a7, a8])
    ⟨[], zs, g, fun _ _ _ => 0, _, _, _, rfl, rfl, hg, fun _ _ _ => Lt60.zero, rfl, rfl⟩ (fun ρ μ' z => ⟨by obtain ⟨pre, post, g, A, a6, a7, a8, e1, e2, hg, hA, rfl, rfl⟩ := z; exact gd_cell (by show (m ++ [waysD n A pre])[k]? = _; rw [List.getElem?_append_left (List.getElem?_eq_some_iff.mp hk).1]; exact hk), ?_⟩) fun d ds ρ μ' z => ⟨by obtain ⟨pre, post, g, A, a6, a7, a8, e1, e2, hg, hA, rfl, rfl⟩ := z; exact gd_cell (by show (m ++ [waysD n A pre])[k]? = _; rw [List.getElem?_append_left (List.getElem?_eq_some_iff.mp hk).1]; exact hk), ?_⟩
  · obtain ⟨pre, post, g, A, a6, a7, a8, e1, e2, hg, hA, rfl, rfl⟩ := z
    have : post = [] := by cases post with | nil => rfl | cons _ _ => cases e2
    subst this
    rw [List.append_nil] at e1
    subst e1
    repeat' (first | fail | with_reducible refine wp_sSeq ?_)
    simp only [List.map_cons, List.map_nil, List.length_cons, List.length_nil, List.reduceReplicate, List.cons_append, List.nil_append, Nat.reduceAdd, Nat.reduceSub, Nat.zero_add, List.set_cons_zero, List.set_cons_succ, wipeE]
    rw [Int.toNat_natCast]
    refine wp_drawG (k := dQ) (Pr := Lt60) 0 Lt60.zero hg (fun b g hb hg => ?_) fun i g hi hg => ⟨_, rfl, ?_⟩
    · repeat' (first | fail | with_reducible refine wp_sSeq ?_)
      simp only [List.map_cons, List.map_nil, List.length_cons, List.length_nil, List.reduceReplicate, List.cons_append, List.nil_append, Nat.reduceAdd, Nat.reduceSub, Nat.zero_add, List.set_cons_zero, List.set_cons_succ, wipeE]
      rw [Int.toNat_natCast]
      refine wp_drawG (k := dQ) (Pr := Lt60) 0 Lt60.zero hg (fun e g he hg => ?_) fun i g hi hg => ⟨_, rfl, ?_⟩
      · repeat' (first | fail | with_reducible refine wp_sSeq ?_)
        exact ⟨by decide, q g n b e A hg (by omega) hb he hA⟩
      · repeat' (first | fail | with_reducible refine wp_sSeq ?_)
        exact wp_lightR hg fun p g' hp hg' => ⟨p, g', hp, hg', rfl, rfl⟩
    · repeat' (first | fail | with_reducible refine wp_sSeq ?_)
      exact wp_lightR hg fun p g' hp hg' => ⟨p, g', hp, hg', rfl, rfl⟩
  · obtain ⟨pre, post, g, A, a6, a7, a8, e1, e2, hg, hA, rfl, rfl⟩ := z
    obtain ⟨z, post, rfl⟩ : ∃ z r, post = z :: r := by cases post with | nil => cases e2 | cons z r => exact ⟨z, r, rfl⟩
    obtain rfl := (List.cons.inj e2).1
    have e3 := (List.cons.inj e2).2
    have nz : z ∉ pre := by
      rw [e1, List.nodup_append] at nd
      exact fun mm => nd.2.2 z mm z (by simp) rfl
    refine ⟨_, rfl, ?_⟩
    simp only [List.map_cons, List.map_nil, List.length_cons, List.length_nil, List.reduceReplicate, List.cons_append, List.nil_append, Nat.reduceAdd, Nat.reduceSub, Nat.zero_add, List.set_cons_zero, List.set_cons_succ, wipeE]
    repeat' (first | fail | with_reducible refine wp_sSeq ?_)
    simp only [List.map_cons, List.map_nil, List.length_cons, List.length_nil, List.reduceReplicate, List.cons_append, List.nil_append, Nat.reduceAdd, Nat.reduceSub, Nat.zero_add, List.set_cons_zero, List.set_cons_succ, wipeE]
    rw [Int.toNat_natCast]
    refine wp_drawG (k := qR n) (Pr := fun v => ∀ i, Lt60 (v i)) (fun _ => 0) (fun _ => Lt60.zero) hg (fun T g hT hg => ?_) fun i g hi hg => ⟨_, rfl, ?_⟩
    · repeat' (first | fail | with_reducible refine wp_sSeq ?_)
      refine ⟨_, _, _, kz z, rfl, by show (m ++ [waysD n A pre])[m.length]? = _; exact List.getElem?_concat_length, rfl, by rw [List.length_map]; have := congrArg List.length e1; rw [List.length_append] at this; omega, pre ++ [z], post, g, fun s => if s = SX.S z then T else A s, _, _, _, by rw [e1, List.append_assoc]; rfl, e3, hg, fun s i j => ?_, ?_, rfl⟩
      · by_cases c : s = SX.S z
        · simp only [if_pos c]; exact hT i j
        · simp only [if_neg c]; exact hA s i j
      · show g :: (m ++ [waysD n A pre]).set m.length _ = _
        rw [put_snoc nz, set_last]
        congr 3
        unfold waysD
        rw [List.map_append, List.map_append]
        congr 2
        · rw [List.map_map, List.map_map]
          refine List.map_congr_left fun y hy => ?_
          show qT n n (A (SX.S y)) = qT n n (if SX.S y = SX.S z then T else A (SX.S y))
          rw [if_neg fun e => nz (by rw [← S_inj2 e]; exact hy)]
        · show [_] = [qT n n (if SX.S z = SX.S z then T else A (SX.S z))]
          rw [if_pos rfl]
    · repeat' (first | fail | with_reducible refine wp_sSeq ?_)
      simp only [List.map_cons, List.map_nil, List.length_cons, List.length_nil, List.reduceReplicate, List.cons_append, List.nil_append, Nat.reduceAdd, Nat.reduceSub, Nat.zero_add, List.set_cons_zero, List.set_cons_succ, wipeE]
      rw [Int.toNat_natCast]
      refine wp_drawG (k := dQ) (Pr := Lt60) 0 Lt60.zero hg (fun v g hv hg => ⟨v, g, hv, hg, rfl, rfl⟩) fun j g hj hg => ⟨_, rfl, ?_⟩
      repeat' (first | fail | with_reducible refine wp_sSeq ?_)
      refine wp_pull hg (by decide) (by decide) fun v g v1 v2 hg => ?_
      repeat' (first | fail | with_reducible refine wp_sSeq ?_)
      · exact wp_lightR hg fun p g' hp hg' => ⟨p, g', hp, hg', rfl, rfl⟩
      · exact ⟨0, g, Lt60.zero, hg, dQ_zero.symm, rfl⟩
end Pf

namespace Pf
open PySem PySem.Spec PyProof.Rows L2 L3
local macro_rules | `(tactic| fail) => `(tactic| first
  | with_reducible refine wp_seqSet ?_
  | with_reducible refine wp_seqAsg ?_
  | with_reducible refine wp_seqPar ?_
  | with_reducible refine wp_seqPar3 ?_
  | with_reducible refine wp_seqFset ?_
  | with_reducible refine wp_seqFaug ?_
  | with_reducible refine wp_sFset ?_
  | with_reducible refine wp_sFaug ?_
  | with_reducible refine wp_meth ?_
  | with_reducible refine wp_make ?_
  | with_reducible refine wp_methX ?_
  | with_reducible refine wp_makeX ?_
  | with_reducible refine wp_sPar3 ?_
  | with_reducible refine three_ok ?_
  | with_reducible refine wp_seqAug ?_
  | with_reducible refine wp_seqExpr ?_
  | with_reducible refine wp_seqSub ?_
  | with_reducible refine wp_seqNil ?_
  | with_reducible refine wp_seqFor ?_
  | with_reducible refine wp_seqWhile ?_
  | with_reducible refine wp_seqStar ?_
  | with_reducible refine wp_seqForK ?_
  | with_reducible refine wp_seqDput ?_
  | with_reducible refine wp_seqMul ?_
  | with_reducible refine wp_sSet ?_
  | with_reducible refine wp_sRet ?_
  | with_reducible refine wp_sNil ?_
  | with_reducible refine wp_sIf ?_
  | with_reducible refine wp_sPar ?_
  | with_reducible refine wp_sAsg ?_
  | with_reducible refine wp_sSub ?_
  | with_reducible refine wp_sFor ?_
  | with_reducible refine wp_sRaise ?_
  | with_reducible refine wp_sExpr ?_
  | with_reducible refine wp_sRetN ?_
  | with_reducible refine wp_sBreak ?_
  | with_reducible refine wp_sCont ?_
  | ((with_reducible refine wp_varE ?_); refine ⟨_, rfl, ?_⟩)
  | with_reducible refine wp_c ?_
  | with_reducible refine wp_B ?_
  | with_reducible refine wp_U ?_
  | with_reducible refine wp_T ?_
  | with_reducible refine wp_andT ?_
  | with_reducible refine wp_orT ?_
  | with_reducible refine wp_notT ?_
  | with_reducible refine wp_andV ?_
  | with_reducible refine wp_orV ?_
  | with_reducible refine wp_notV ?_
  | with_reducible refine wp_if ?_
  | with_reducible refine wp_nil ?_
  | with_reducible refine wp_cons ?_
  | with_reducible refine wp_tup ?_
  | with_reducible refine wp_lst ?_
  | with_reducible refine wp_lstC ?_
  | with_reducible refine wp_call ?_
  | with_reducible refine wp_callD ?_
  | with_reducible refine wp_callB ?_
  | with_reducible refine wp_m ?_
  | with_reducible refine wp_oNone ?_
  | with_reducible refine wp_oSome ?_
  | with_reducible refine wp_sl ?_
  | with_reducible refine wp_tried ?_
  | with_reducible refine wp_asked ?_
  | with_reducible refine wp_seqOut ?_
  | with_reducible refine wp_asks ?_ | with_reducible refine wp_eDoors ?_
  | with_reducible refine wp_asksC ?_
  | with_reducible refine wp_asksN ?_
  | with_reducible refine wp_chain ?_
  | with_reducible refine wp_enum ?_
  | with_reducible refine wp_enumB ?_
  | with_reducible refine wp_zip ?_
  | with_reducible refine wp_joinedT ?_
  | with_reducible refine wp_jNil ?_
  | with_reducible refine wp_jT ?_
  | with_reducible refine wp_lc ?_
  | with_reducible refine wp_lcC ?_
  | with_reducible refine wp_yes ?_
  | with_reducible refine wp_iAny ?_
  | with_reducible refine wp_range1 ?_
  | with_reducible refine wp_range2 ?_
  | with_reducible refine wp_sStar ?_
  | with_reducible refine wp_sDput ?_
  | with_reducible refine wp_sMul ?_
  | with_reducible refine wp_mNil ?_
  | with_reducible refine wp_mCons ?_
  | with_reducible refine wp_mSub ?_
  | with_reducible refine wp_mSubD ?_
  | with_reducible refine wp_dget2 ?_
  | with_reducible refine wp_disp ?_
  | with_reducible refine wp_pNil ?_
  | with_reducible refine wp_pCons ?_
  | with_reducible refine wp_dc ?_
  | with_reducible refine wp_seqTail ?_
  | with_reducible refine wp_sTail ?_
  | with_reducible refine wp_newDC ?_
  | with_reducible refine wp_newDT ?_
  | with_reducible refine wp_key ?_
  | with_reducible refine wp_tget2 ?_
  | with_reducible refine wp_seqKput ?_
  | with_reducible refine wp_sKput ?_
  | with_reducible refine wp_lRg1 ?_
  | with_reducible refine wp_lRg2 ?_
  | with_reducible refine wp_dpop2 ?_
  | with_reducible refine wp_eTO ?_
  | with_reducible refine wp_notO ?_)
local macro_rules | `(tactic| fail) => `(tactic| first
  | with_reducible refine wp_eqI ?_
  | with_reducible refine wp_neI ?_
  | with_reducible refine wp_eqB ?_
  | with_reducible refine wp_neB ?_
  | ((with_reducible refine wp_eqStr ?_ ?_ ?_); decide +kernel; decide +kernel)
  | ((with_reducible refine wp_neStr ?_ ?_ ?_); decide +kernel; decide +kernel)
  | with_reducible refine wp_addI ?_
  | with_reducible refine wp_addII ?_
  | with_reducible refine wp_subI ?_
  | with_reducible refine wp_ltI ?_
  | with_reducible refine wp_leI ?_
  | with_reducible refine wp_gtI ?_
  | with_reducible refine wp_geI ?_
  | with_reducible refine wp_negI ?_
  | with_reducible refine wp_intI ?_
  | with_reducible refine wp_intB ?_
  | with_reducible refine wp_absI ?_
  | with_reducible refine wp_un ?_
  | ((with_reducible refine wp_mul ?_ ?_); first | exact mulOk_right (by decide) | exact mulOk_left (by decide) | exact mulOk_mod (by decide) (by decide))
  | ((with_reducible refine wp_mod ?_ ?_); decide)
  | ((with_reducible refine wp_fdiv ?_ ?_ ?_); decide; exact pylong_200 (by decide))
  | with_reducible refine wp_pow18 ?_
  | with_reducible refine wp_pow12 ?_
  | with_reducible refine wp_pow40 ?_
  | ((with_reducible refine wp_ixE ?_); refine ⟨_, rfl, ?_⟩)
  | with_reducible refine wp_len0 ?_
  | with_reducible refine wp_len1 ?_
  | with_reducible refine wp_len2 ?_
  | with_reducible refine wp_len3 ?_
  | with_reducible refine wp_lenT1 ?_
  | with_reducible refine wp_lenT2 ?_
  | with_reducible refine wp_lenT3 ?_
  | ((with_reducible refine wp_lenE ?_); refine ⟨_, rfl, ?_⟩)
  | ((with_reducible refine wp_listOfE ?_); refine ⟨_, rfl, ?_⟩)
  | ((with_reducible refine wp_isiE ?_); refine ⟨_, rfl, ?_⟩)
  | ((with_reducible refine wp_isNE ?_); refine ⟨_, rfl, ?_⟩)
  | ((with_reducible refine wp_notNE ?_); refine ⟨_, rfl, ?_⟩)
  | ((with_reducible refine wp_slE ?_); refine ⟨_, rfl, ?_⟩)
  | ((with_reducible refine sub_okE ?_); refine ⟨_, rfl, ?_⟩)
  | with_reducible refine Exists.intro _ (And.intro rfl ?_)
  | with_reducible refine Exists.intro _ (Exists.intro _ (And.intro rfl ?_))
  | ((with_reducible refine len_eq ?_ ?_); exact rfl)
  | ((with_reducible refine rng_ok ?_ ?_); omega)
  | ((with_reducible refine rng2_ok ?_ ?_); omega)
  | ((with_reducible refine rngD_len ?_ ?_); omega)
  | ((with_reducible refine len_100 ?_ ?_); exact Nat.le_of_ble_eq_true rfl)
  | ((with_reducible refine isTy_ok ?_ ?_); exact rfl)
  | ((with_reducible refine br_t ?_ ?_); first | with_reducible exact rfl | decide)
  | ((with_reducible refine br_f ?_ ?_); first | with_reducible exact rfl | decide)
  | with_reducible refine br_d (fun _ => ?_) (fun _ => ?_)
  | with_reducible refine br_n (fun _ => ?_) (fun _ => ?_))
/-! machines that are equal or not: rows and tables as plain things -/
def rwP (n : Nat) (v : Nat → Rat) : PyData := .list ((List.range n).map fun i => .tuple [.int (Mn.qs (v i)).1, .int (Mn.qs (v i)).2])
def tbP (r n : Nat) (A : Nat → Nat → Rat) : PyData := .list ((List.range r).map fun i => rwP n (A i))
theorem py_row {μ : Sto} {k n : Nat} {v : Nat → Rat} : pyD (k + 3) μ (qR n v) = some (rwP n v) := by
  have e : (tb n fun i => dQ (v i)).mapM (pyD (k + 2) μ) = some ((List.range n).map fun i => .tuple [.int (Mn.qs (v i)).1, .int (Mn.qs (v i)).2]) := by
    refine mapM_at (by rw [tb_len]; simp) fun i x hx => ?_
    have hi : i < n := by
      have := (List.getElem?_eq_some_iff.mp hx).1
      rw [tb_len] at this; exact this
    rw [tb_get hi] at hx
    cases hx
    exact ⟨_, by rw [List.getElem?_map, List.getElem?_range hi]; rfl, rfl⟩
  show ((tb n fun i => dQ (v i)).mapM (pyD (k + 2) μ)).map PyData.list = _
  rw [e]; rfl
theorem py_tab {μ : Sto} {k r n : Nat} {A : Nat → Nat → Rat} : pyD (k + 4) μ (qT r n A) = some (tbP r n A) := by
  have e : (tb r fun i => qR n (A i)).mapM (pyD (k + 3) μ) = some ((List.range r).map fun i => rwP n (A i)) := by
    refine mapM_at (by rw [tb_len]; simp) fun i x hx => ?_
    have hi : i < r := by
      have := (List.getElem?_eq_some_iff.mp hx).1
      rw [tb_len] at this; exact this
    rw [tb_get hi] at hx
    cases hx
    exact ⟨_, by rw [List.getElem?_map, List.getElem?_range hi]; rfl, py_row⟩
  show ((tb r fun i => qR n (A i)).mapM (pyD (k + 3) μ)).map PyData.list = _
  rw [e]; rfl
theorem eqvAll_iff {α β : Type} {f : α → PyData} {f' : α → D} {g : β → PyData} {g' : β → D} (h : ∀ a b, PyData.eqv (f a) (g b) = true ↔ f' a = g' b) : ∀ (as : List α) (bs : List β), PyData.eqvAll (as.map f) (bs.map g) = true ↔ as.map f' = bs.map g'
  | [], [] => by simp [PyData.eqvAll]
  | [], _ :: _ => by simp [PyData.eqvAll]
  | _ :: _, [] => by simp [PyData.eqvAll]
  | a :: as, b :: bs => by
    rw [List.map_cons, List.map_cons, PyData.eqvAll, Bool.and_eq_true, h a b, eqvAll_iff h as bs, List.map_cons, List.map_cons, List.cons.injEq]
theorem eqv_sh (p q : Rat) : PyData.eqv (.tuple [.int (Mn.qs p).1, .int (Mn.qs p).2]) (.tuple [.int (Mn.qs q).1, .int (Mn.qs q).2]) = true ↔ dQ p = dQ q := by
  simp only [PyData.eqv, PyData.eqvAll, Bool.and_true]
  show _ ↔ dSh (Mn.qs p) = dSh (Mn.qs q)
  generalize Mn.qs p = s
  generalize Mn.qs q = u
  obtain ⟨a, b⟩ := s
  obtain ⟨c, d⟩ := u
  show _ ↔ D.tup [.int a, .int b] = D.tup [.int c, .int d]
  simp
theorem eqv_row (n m : Nat) (v w : Nat → Rat) : PyData.eqv (rwP n v) (rwP m w) = true ↔ qR n v = qR m w := by
  unfold rwP
  rw [PyData.eqv, eqvAll_iff (f' := fun i => dQ (v i)) (g' := fun i => dQ (w i)) fun a b => eqv_sh _ _]
  exact ⟨fun e => congrArg D.lst e, fun e => D.lst.inj e⟩
theorem eqv_tab (r n s m : Nat) (A B : Nat → Nat → Rat) : PyData.eqv (tbP r n A) (tbP s m B) = true ↔ qT r n A = qT s m B := by
  unfold tbP
  rw [PyData.eqv, eqvAll_iff (f' := fun i => qR n (A i)) (g' := fun i => qR m (B i)) fun a b => eqv_row _ _ _ _]
  exact ⟨fun e => congrArg D.lst e, fun e => D.lst.inj e⟩
theorem shaped_row {n : Nat} {v : Nat → Rat} (hn : n ≤ 1000000) : SeqAt.shaped (rwP n v) = true ∧ ∀ μ, toPy μ (qR n v) = some (rwP n v) := by
  have P := Pu.row (v := v) hn
  obtain ⟨x, h1, h2⟩ := P.shaped (by decide)
  have e : x = rwP n v := by
    have a := py_row (μ := ([] : Sto)) (k := 0) (n := n) (v := v)
    have b : pyD 3 [] (qR n v) = toPy0 (qR n v) := by
      have ea : ∀ l : List Nat, (l.map fun i => dQ (v i)).mapM (pyD 2 []) = toPyL (l.map fun i => dQ (v i)) := fun l => by
        induction l with
        | nil => rfl
        | cons i l ih =>
          rw [List.map_cons, List.mapM_cons, ih]
          show _ = (match toPy0 (dQ (v i)), toPyL (l.map fun i => dQ (v i)) with
            | some x, some y => some (x :: y)
            | _, _ => none)
          cases toPyL (l.map fun i => dQ (v i)) <;> rfl
      show ((tb n fun i => dQ (v i)).mapM (pyD 2 [])).map PyData.list = (toPyL (tb n fun i => dQ (v i))).map PyData.list
      rw [ea]
    rw [b, h1] at a
    exact Option.some.inj a
  subst e
  exact ⟨h2, fun μ => (P.toPy μ).trans h1⟩
theorem shaped_tab {r n : Nat} {A : Nat → Nat → Rat} (hr : r ≤ 1000000) (hn : n ≤ 1000000) : SeqAt.shaped (tbP r n A) = true := by
  have P := Pu.tab (A := A) hr hn
  obtain ⟨x, h1, h2⟩ := P.shaped (by decide)
  have e : x = tbP r n A := by
    have c : ∀ i, toPy0 (qR n (A i)) = some (rwP n (A i)) := fun i => by
      have := (shaped_row (v := A i) hn).2 []
      exact this
    have ea : ∀ l : List Nat, toPyL (l.map fun i => qR n (A i)) = some (l.map fun i => rwP n (A i)) := fun l => by
      induction l with
      | nil => rfl
      | cons i l ih =>
        show (match toPy0 (qR n (A i)), toPyL (l.map fun i => qR n (A i)) with
          | some x, some y => some (x :: y)
          | _, _ => none) = _
        rw [c, ih]; rfl
    have h3 : (toPyL (tb r fun i => qR n (A i))).map PyData.list = some x := h1
    rw [show (tb r fun i => qR n (A i)) = (List.range r).map fun i => qR n (A i) from rfl, ea] at h3
    exact (Option.some.inj h3).symm
  rw [← e]; exact h2
theorem wp_eqRow {n m : Nat} {v w : Nat → Rat} {μ : Sto} {Q : D → Sto → Prop} {E : Exs} (hn : n ≤ 1000000) (hm : m ≤ 1000000) (q : ∀ t : Bool, (t = true ↔ qR n v = qR m w) → Q (.bl t) μ) : (dEq (qR n v) (qR m w) μ).wp Q E := by
  rw [dEq_py ((shaped_row (v := v) hn).2 μ) ((shaped_row (v := w) hm).2 μ) (shaped_row hn).1 (shaped_row hm).1]
  exact q _ (eqv_row _ _ _ _)
theorem qR_iff {n : Nat} {v w : Nat → Rat} : qR n v = qR n w ↔ ∀ i, i < n → v i = w i := by
  constructor
  · intro h i hi
    have h := D.lst.inj h
    have a : (tb n fun i => dQ (v i))[i]? = (tb n fun i => dQ (w i))[i]? := by rw [h]
    rw [tb_get hi, tb_get hi] at a
    exact dQ_inj (Option.some.inj a)
  · intro h
    exact congrArg D.lst (List.map_congr_left fun i hi => congrArg dQ (h i (List.mem_range.mp hi)))
theorem qT_iff {r n : Nat} {A B : Nat → Nat → Rat} : qT r n A = qT r n B ↔ ∀ i, i < r → ∀ j, j < n → A i j = B i j := by
  constructor
  · intro h i hi
    have h := D.lst.inj h
    have a : (tb r fun i => qR n (A i))[i]? = (tb r fun i => qR n (B i))[i]? := by rw [h]
    rw [tb_get hi, tb_get hi] at a
    exact qR_iff.mp (Option.some.inj a)
  · intro h
    exact congrArg D.lst (List.map_congr_left fun i hi => qR_iff.mpr (h i (List.mem_range.mp hi)))
theorem valP_in {G : Str → PyData} {z : List Nat} : ∀ {zs : List (List Nat)}, z ∈ zs → valP (zs.map kz) (zs.map fun y => G (SX.S y)) (kz z) = some (G (SX.S z))
  | [], h => nomatch h
  | y :: zs, h => by
    show (if kz y = kz z then some (G (SX.S y)) else valP (zs.map kz) (zs.map fun y => G (SX.S y)) (kz z)) = _
    by_cases c : y = z
    · subst c; rw [if_pos rfl]
    · rw [if_neg fun e => c (S_inj2 (Sum.inr.inj e))]
      exact valP_in ((List.mem_cons.mp h).resolve_left fun e => c e.symm)
theorem eqPairs_iff {F G : Str → PyData} {zs : List (List Nat)} : ∀ {ys : List (List Nat)}, (∀ y ∈ ys, y ∈ zs) → (eqPairs (zs.map kz) (zs.map fun y => G (SX.S y)) (ys.map kz) (ys.map fun y => F (SX.S y)) = true ↔ ∀ y ∈ ys, PyData.eqv (F (SX.S y)) (G (SX.S y)) = true)
  | [], _ => by unfold eqPairs; simp
  | y :: ys, h => by
    unfold eqPairs
    rw [List.map_cons, List.map_cons]
    dsimp only
    rw [valP_in (h y List.mem_cons_self)]
    dsimp only
    rw [Bool.and_eq_true, eqPairs_iff fun x hx => h x (List.mem_cons_of_mem _ hx)]
    simp
theorem ways_py {μ : Sto} {n : Nat} {A : Str → Mn.Mr} {zs : List (List Nat)} : ((zs.map kz).map (keyF fun s => qT n n (A s))).mapM (pyD 12 μ) = some (zs.map fun y => tbP n n (A (SX.S y))) := by
  refine mapM_at (by simp) fun i x hx => ?_
  rw [List.map_map, List.getElem?_map] at hx
  cases e : zs[i]? with
  | none => rw [e] at hx; cases hx
  | some z =>
    rw [e] at hx
    cases hx
    exact ⟨_, by rw [List.getElem?_map, e]; rfl, py_tab⟩
/-- two machines alike: letters, begin, end, steps -/
def EqM (n : Nat) (zs : List (List Nat)) (b e : Nat → Rat) (A : Str → Mn.Mr) (n' : Nat) (zs' : List (List Nat)) (b' e' : Nat → Rat) (A' : Str → Mn.Mr) : Prop :=
  srt zs = srt zs' ∧ qR n b = qR n' b' ∧ qR n e = qR n' e' ∧ ∀ z ∈ zs, qT n n (A (SX.S z)) = qT n' n' (A' (SX.S z))
theorem MachAt.is {μ : Sto} {k n : Nat} {zs : List (List Nat)} {b e : Nat → Rat} {A : Str → Mn.Mr} (h : MachAt μ k n zs b e A) : ∃ ns ds, μ[k]? = some (.ins "Machine" ns ds) := let ⟨_, h1, _⟩ := h.ex; ⟨_, _, h1⟩
theorem wp_eqM {μ : Sto} {k n k' n' : Nat} {zs zs' : List (List Nat)} {b e b' e' : Nat → Rat} {A A' : Str → Mn.Mr} {Q : D → Sto → Prop} {E : Exs} (h : MachAt μ k n zs b e A) (h' : MachAt μ k' n' zs' b' e' A')
    (q : ∀ t : Bool, (t = true ↔ EqM n zs b e A n' zs' b' e' A') → Q (.bl t) μ) : (f_Machine___eq__ [.cell k, .cell k'] μ).wp Q E := by
  have s1 := h.sz
  have s2 := h'.sz
  have f1 := h.few
  have f2 := h'.few
  unfold f_Machine___eq__
  with_reducible refine wp_fn ?_
  simp only [List.map_cons, List.map_nil, List.length_cons, List.length_nil, List.reduceReplicate, List.cons_append, List.nil_append, Nat.reduceAdd, Nat.reduceSub, Nat.zero_add, List.set_cons_zero, List.set_cons_succ, wipeE]
  unfold b_Machine___eq__
  repeat' (first | fail | with_reducible refine wp_sSeq ?_)
  obtain ⟨ns', ds', hi⟩ := h'.is
  refine wp_isO hi ?_
  repeat' (first | fail | with_reducible refine wp_sSeq ?_)
  refine wp_fsigns h ?_
  repeat' (first | fail | with_reducible refine wp_sSeq ?_)
  refine wp_fsigns h' ?_
  refine wp_neLetsG (by rw [srt_len]; omega) (fun z hz => okLt (h.ok z (mem_srt.mp hz))) (by rw [srt_len]; omega) (fun z hz => okLt (h'.ok z (mem_srt.mp hz))) ?_
  refine Classical.byCases (p := srt zs = srt zs') (fun pm => ?_) (fun pm => ?_)
  rotate_left
  · rw [decide_eq_false pm]
    repeat' (first | fail | with_reducible refine wp_sSeq ?_)
    exact q false ⟨(fun z => nomatch z), fun z => absurd z.1 pm⟩
  rw [decide_eq_true pm]
  have pk : zs.Perm zs' := (srt_perm zs).symm.trans (pm ▸ srt_perm zs')
  repeat' (first | fail | with_reducible refine wp_sSeq ?_)
  refine wp_ffirst h ?_
  repeat' (first | fail | with_reducible refine wp_sSeq ?_)
  refine wp_ffirst h' (wp_eqRow (by omega) (by omega) fun t1 e1 => ⟨t1, rfl, fun ht1 => ?_, fun ht1 => ?_⟩)
  rotate_left
  · exact q false ⟨(fun z => nomatch z), fun z => by rw [e1.mpr z.2.1] at ht1; cases ht1⟩
  repeat' (first | fail | with_reducible refine wp_sSeq ?_)
  refine wp_flast h ?_
  repeat' (first | fail | with_reducible refine wp_sSeq ?_)
  refine wp_flast h' (wp_eqRow (by omega) (by omega) fun t2 e2 => ⟨t2, rfl, fun ht2 => ?_, fun ht2 => ?_⟩)
  rotate_left
  · exact q false ⟨(fun z => nomatch z), fun z => by rw [e2.mpr z.2.2.1] at ht2; cases ht2⟩
  repeat' (first | fail | with_reducible refine wp_sSeq ?_)
  refine wp_fways h fun w hw => ?_
  repeat' (first | fail | with_reducible refine wp_sSeq ?_)
  refine wp_fways h' fun w' hw' => ?_
  refine wp_eqDk (dctAt_cell hw) (dctAt_cell hw') ways_py ways_py ?_ ?_ ?_
  · exact List.all_eq_true.mpr fun x hx => by obtain ⟨z, _, rfl⟩ := List.mem_map.mp hx; exact shaped_tab (by omega) (by omega)
  · exact List.all_eq_true.mpr fun x hx => by obtain ⟨z, _, rfl⟩ := List.mem_map.mp hx; exact shaped_tab (by omega) (by omega)
  · refine q _ ?_
    rw [List.length_map, List.length_map, decide_eq_true pk.length_eq, Bool.true_and]
    rw [eqPairs_iff (F := fun s => tbP n n (A s)) (G := fun s => tbP n' n' (A' s)) fun y hy => pk.mem_iff.mp hy]
    constructor
    · exact fun a => ⟨pm, e1.mp ht1, e2.mp ht2, fun z hz => (eqv_tab _ _ _ _ _ _).mp (a z hz)⟩
    · exact fun a z hz => (eqv_tab _ _ _ _ _ _).mpr (a.2.2.2 z hz)
theorem wp_eqX {μ : Sto} {k : Nat} {d : D} {Q : D → Sto → Prop} {E : Exs} (hp : plnO d = true) (q : Q (.bl false) μ) : (f_Machine___eq__ [.cell k, d] μ).wp Q E := by
  unfold f_Machine___eq__
  with_reducible refine wp_fn ?_
  simp only [List.map_cons, List.map_nil, List.length_cons, List.length_nil, List.reduceReplicate, List.cons_append, List.nil_append, Nat.reduceAdd, Nat.reduceSub, Nat.zero_add, List.set_cons_zero, List.set_cons_succ, wipeE]
  unfold b_Machine___eq__
  repeat' (first | fail | with_reducible refine wp_sSeq ?_)
  refine wp_isO0 hp ?_
  repeat' (first | fail | with_reducible refine wp_sSeq ?_)
  exact q
theorem wp_lenM {μ : Sto} {k n : Nat} {zs : List (List Nat)} {b e : Nat → Rat} {A : Str → Mn.Mr} {Q : D → Sto → Prop} {E : Exs} (h : MachAt μ k n zs b e A) (q : Q (.int (n : Nat)) μ) : (f_Machine___len__ [.cell k] μ).wp Q E := by
  unfold f_Machine___len__
  with_reducible refine wp_fn ?_
  simp only [List.map_cons, List.map_nil, List.length_cons, List.length_nil, List.reduceReplicate, List.cons_append, List.nil_append, Nat.reduceAdd, Nat.reduceSub, Nat.zero_add, List.set_cons_zero, List.set_cons_succ, wipeE]
  unfold b_Machine___len__
  repeat' (first | fail | with_reducible refine wp_sSeq ?_)
  refine wp_ffirst h ?_
  repeat' (first | fail | with_reducible refine wp_sSeq ?_)
  rw [tb_len]
  exact q
abbrev tM1 : List Nat := ("Machine(" : Str).1.toList
abbrev tM2 : List Nat := (" rooms, " : Str).1.toList
abbrev tM3 : List Nat := (" letters)" : Str).1.toList
def reprT (n k : Nat) : List Nat := tM1 ++ intL (n : Nat) ++ tM2 ++ intL (k : Nat) ++ tM3
theorem wp_reprM {μ : Sto} {k n : Nat} {zs : List (List Nat)} {b e : Nat → Rat} {A : Str → Mn.Mr} {Q : D → Sto → Prop} {E : Exs} (h : MachAt μ k n zs b e A) (q : Q (.str (SX.S (reprT n zs.length))) μ) : (f_Machine___repr__ [.cell k] μ).wp Q E := by
  have s1 := h.sz
  have f1 := h.few
  unfold f_Machine___repr__
  with_reducible refine wp_fn ?_
  simp only [List.map_cons, List.map_nil, List.length_cons, List.length_nil, List.reduceReplicate, List.cons_append, List.nil_append, Nat.reduceAdd, Nat.reduceSub, Nat.zero_add, List.set_cons_zero, List.set_cons_succ, wipeE]
  unfold b_Machine___repr__
  repeat' (first | fail | with_reducible refine wp_sSeq ?_)
  have l1 : tM1.length = 8 := by decide +kernel
  have l2 : tM2.length = 8 := by decide +kernel
  have l3 : tM3.length = 9 := by decide +kernel
  rw [List.nil_append]
  refine ⟨by show 0 + tM1.length ≤ _; omega, ?_⟩
  repeat' (first | fail | with_reducible refine wp_sSeq ?_)
  refine wp_fmtI ?_
  repeat' (first | fail | with_reducible refine wp_sSeq ?_)
  refine wp_ffirst h ?_
  repeat' (first | fail | with_reducible refine wp_sSeq ?_)
  rw [tb_len]
  have i1 : (intL (n : Nat)).length ≤ 13 := intL_len (by omega)
  have i2 : (intL (zs.length : Nat)).length ≤ 13 := intL_len (by omega)
  have small : ∀ {m : Nat}, m ≤ 30 → (m : Int).natAbs < 2 ^ 1900 := fun hm => Nat.lt_of_le_of_lt (show (_ : Int).natAbs ≤ 30 by omega) (Nat.lt_of_lt_of_le (show 30 < 2 ^ 5 by decide) (Nat.pow_le_pow_right (by decide) (by decide)))
  refine ⟨small s1, _, rfl, by show tM1.length + _ ≤ _; omega, ?_⟩
  repeat' (first | fail | with_reducible refine wp_sSeq ?_)
  refine ⟨by rw [List.length_append]; show tM1.length + _ + tM2.length ≤ _; omega, ?_⟩
  repeat' (first | fail | with_reducible refine wp_sSeq ?_)
  refine wp_fmtI ?_
  repeat' (first | fail | with_reducible refine wp_sSeq ?_)
  refine wp_fsigns h ?_
  repeat' (first | fail | with_reducible refine wp_sSeq ?_)
  rw [show (letsD (srt zs)).length = zs.length from by unfold letsD; rw [List.length_map, srt_len]]
  refine ⟨small (by omega), _, rfl, by rw [List.length_append, List.length_append]; show tM1.length + _ + tM2.length + _ ≤ _; omega, ?_⟩
  repeat' (first | fail | with_reducible refine wp_sSeq ?_)
  refine ⟨by rw [List.length_append, List.length_append, List.length_append]; show tM1.length + _ + tM2.length + _ + tM3.length ≤ _; omega, ?_⟩
  repeat' (first | fail | with_reducible refine wp_sSeq ?_)
  exact q
theorem wp_buildsK {μ : Sto} {d0 d1 d2 d3 : D} {n : Nat} {zs : List (List Nat)} {b e : Nat → Rat} {A : Str → Mn.Mr} {Q : D → Sto → Prop} {E : Exs} (P : Parts μ d0 d1 d2 d3 n zs b e A)
    (q : ∀ x, MachAt (μ ++ [machM zs n b e (μ.length + 2), x, waysD n A zs]) μ.length n zs b e A → Q (.cell μ.length) (μ ++ [machM zs n b e (μ.length + 2), x, waysD n A zs])) : (f__law_builds [.tup [d0, d1, d2, d3]] μ).wp Q E := by
  unfold f__law_builds
  with_reducible refine wp_fn ?_
  simp only [List.map_cons, List.map_nil, List.length_cons, List.length_nil, List.reduceReplicate, List.cons_append, List.nil_append, Nat.reduceAdd, Nat.reduceSub, Nat.zero_add, List.set_cons_zero, List.set_cons_succ, wipeE]
  unfold b__law_builds
  repeat' (first | fail | with_reducible refine wp_sSeq ?_)
  refine ⟨rfl, ?_⟩
  refine wp_initN P ?_
  intro x hM
  exact ⟨rfl, q x hM⟩
/-! tables as cells, new ones -/
theorem wp_listOfNewK {d : D} {xs : List D} {μ : Sto} {Q : D → Sto → Prop} {E : Exs} (h : asQ μ d = some xs) (q : Q (.cell μ.length) (μ ++ [.lst xs])) : (dListOfC d μ).wp Q E := by
  unfold dListOfC
  rw [h]
  exact q
theorem look_app {μ ex : Sto} {k : Nat} {x : MO} (h : μ[k]? = some x) : (μ ++ ex)[k]? = some x := by
  rw [List.getElem?_append_left (List.getElem?_eq_some_iff.mp h).1]; exact h
structure TabC (μ : Sto) (l n : Nat) (T : Mn.Mr) : Prop where
  top : μ[l + n]? = some (.lst (tb n fun i => .cell (l + i)))
  row : ∀ i, i < n → μ[l + i]? = some (.lst (tb n fun j => dQ (T i j)))
theorem TabC.app {μ ex : Sto} {l n : Nat} {T : Mn.Mr} (h : TabC μ l n T) : TabC (μ ++ ex) l n T :=
  ⟨by rw [List.getElem?_append_left (List.getElem?_eq_some_iff.mp h.top).1]; exact h.top, fun i hi => by rw [List.getElem?_append_left (List.getElem?_eq_some_iff.mp (h.row i hi)).1]; exact h.row i hi⟩
theorem TabC.qt {μ : Sto} {l n : Nat} {T : Mn.Mr} (h : TabC μ l n T) : QT μ (.cell (l + n)) n n T := ⟨fun i => .cell (l + i), asL_cell h.top, fun i hi => asL_cell (h.row i hi)⟩
theorem wp_freshT {ρ : L3.Env} {sg : SG} {te : SE} {μ : Sto} {n : Nat} {T : Mn.Mr} {Q : D → Sto → Prop} (hs : ∀ i, i < n → ∀ μ', ∃ ρ1, sg (qR n (T i)) ρ μ' = some ρ1 ∧ (te ρ1 μ').wp (fun y μ2 => y = .cell μ'.length ∧ μ2 = μ' ++ [.lst (tb n fun j => dQ (T i j))]) noE)
    (q : ∀ ex, ex.length = n + 1 → TabC (μ ++ ex) μ.length n T → Q (.cell (μ.length + n)) (μ ++ ex)) : (lcS (fun _ => true) sg tYesS te ρ (tb n fun i => qR n (T i)) μ).wp (fun ys μ2 => Q (.cell μ2.length) (μ2 ++ [.lst ys])) noE := by
  refine wp_lcS (fun ys ds μ' => ∃ i, i ≤ n ∧ ds = ((List.range n).drop i).map (fun i => qR n (T i)) ∧ ys = tb i (fun t => .cell (μ.length + t)) ∧ ∃ ex, μ' = μ ++ ex ∧ ex.length = i ∧ ∀ t, t < i → (μ ++ ex)[μ.length + t]? = some (.lst (tb n fun j => dQ (T t j)))) ⟨0, Nat.zero_le _, rfl, rfl, [], by simp, rfl, fun t h => nomatch h⟩ (fun ys μ' z => ?_) (fun ys d ds μ' z => ?_)
  · obtain ⟨i, hi, e1, e2, ex, rfl, hl, hr⟩ := z
    have : i = n := by
      have := congrArg List.length e1
      rw [List.length_nil, List.length_map, List.length_drop, List.length_range] at this
      omega
    subst this
    subst e2
    have len : (μ ++ ex).length = μ.length + i := by rw [List.length_append, hl]
    refine ⟨rfl, ?_⟩
    rw [len, List.append_assoc]
    refine q _ (by rw [List.length_append, hl]; rfl) ⟨?_, fun t ht => ?_⟩
    · rw [← List.append_assoc, ← len]; exact List.getElem?_concat_length
    · rw [← List.append_assoc]; exact look_app (hr t ht)
  · obtain ⟨i, hi, e1, e2, ex, rfl, hl, hr⟩ := z
    have hlt : i < n := by
      rcases Nat.lt_or_ge i n with h | h
      · exact h
      · rw [List.drop_of_length_le (by rw [List.length_range]; exact h)] at e1; cases e1
    rw [List.drop_eq_getElem_cons (by rw [List.length_range]; exact hlt), List.map_cons, List.getElem_range] at e1
    obtain ⟨rfl, rfl⟩ := List.cons.inj e1
    obtain ⟨ρ1, h1, h2⟩ := hs i hlt (μ ++ ex)
    refine ⟨rfl, ρ1, h1, ?_⟩
    show (true = true → _) ∧ (true = false → _)
    refine ⟨fun _ => wp_mono h2 (fun y μ2 ⟨a, c⟩ => ?_) (fun _ _ _ _ z => z), fun z => nomatch z⟩
    subst a c
    have len : (μ ++ ex).length = μ.length + i := by rw [List.length_append, hl]
    refine ⟨i + 1, hlt, rfl, ?_, ex ++ [_], by rw [List.append_assoc], by rw [List.length_append, hl]; rfl, fun t ht => ?_⟩
    · rw [e2, len]
      show _ = (List.range (i + 1)).map _
      rw [List.range_succ, List.map_append]; rfl
    · rw [← List.append_assoc]
      by_cases c : t = i
      · subst c
        rw [← len]; exact List.getElem?_concat_length
      · exact look_app (hr t (by omega))
theorem wp_freshE {ρ : L3.Env} {sg : SG} {te : SE} {μ : Sto} {n : Nat} {T : Mn.Mr} {Q : List D → Sto → Prop} (hs : ∀ i, i < n → ∀ μ', ∃ ρ1, sg (qR n (T i)) ρ μ' = some ρ1 ∧ (te ρ1 μ').wp (fun y μ2 => y = .cell μ'.length ∧ μ2 = μ' ++ [.lst (tb n fun j => dQ (T i j))]) noE)
    (q : ∀ ys μ2 ex, μ2.length = μ.length + n → μ2 ++ [.lst ys] = μ ++ ex → ex.length = n + 1 → TabC (μ ++ ex) μ.length n T → Q ys μ2) : (lcS (fun _ => true) sg tYesS te ρ (tb n fun i => qR n (T i)) μ).wp Q noE :=
  wp_mono (wp_freshT (Q := fun d ν => d = .cell (μ.length + n) ∧ ∃ ex, ν = μ ++ ex ∧ ex.length = n + 1 ∧ TabC (μ ++ ex) μ.length n T) hs fun ex h1 h2 => ⟨rfl, ex, rfl, h1, h2⟩) (fun ys μ2 ⟨e1, ex, e2, h1, h2⟩ => q ys μ2 ex (D.cell.inj e1) e2 h1 h2) fun _ _ _ _ z => z
/-- where the table of a letter lies -/
def baseT (l n : Nat) (zs : List (List Nat)) (s : Str) : Nat := l + (n + 1) * (zs.map SX.S).idxOf s
theorem baseT_ge {l n : Nat} {zs : List (List Nat)} {s : Str} : l ≤ baseT l n zs s := Nat.le_add_right _ _
theorem baseT_snoc {l n : Nat} {pre post : List (List Nat)} {z : List Nat} (nd : (pre ++ z :: post).Nodup) : baseT l n (pre ++ z :: post) (SX.S z) = l + (n + 1) * pre.length := by
  have nz : z ∉ pre := fun hz => (List.nodup_append.mp nd).2.2 z hz z List.mem_cons_self rfl
  have ns : SX.S z ∉ pre.map SX.S := fun h => by
    obtain ⟨y, h1, h2⟩ := List.mem_map.mp h
    exact nz (S_inj2 h2 ▸ h1)
  unfold baseT
  rw [List.map_append, List.map_cons, List.idxOf_append, if_neg ns, List.idxOf_cons_self, List.length_map, Nat.zero_add]
theorem baseT_far {l n : Nat} {zs : List (List Nat)} {y z : List Nat} (hy : y ∈ zs) (hz : z ∈ zs) (ne : y ≠ z) : baseT l n zs (SX.S y) + n < baseT l n zs (SX.S z) ∨ baseT l n zs (SX.S z) + n < baseT l n zs (SX.S y) := by
  have my : SX.S y ∈ zs.map SX.S := List.mem_map.mpr ⟨y, hy, rfl⟩
  have mz : SX.S z ∈ zs.map SX.S := List.mem_map.mpr ⟨z, hz, rfl⟩
  have ni : (zs.map SX.S).idxOf (SX.S y) ≠ (zs.map SX.S).idxOf (SX.S z) := fun e => by
    have a := List.getElem_idxOf (List.idxOf_lt_length_of_mem my)
    have c := List.getElem_idxOf (List.idxOf_lt_length_of_mem mz)
    have : SX.S y = SX.S z := by rw [← a, ← c]; congr 1
    exact ne (S_inj2 this)
  unfold baseT
  generalize (zs.map SX.S).idxOf (SX.S y) = i at *
  generalize (zs.map SX.S).idxOf (SX.S z) = j at *
  rcases Nat.lt_or_ge i j with h | h
  · left
    have := Nat.mul_le_mul_left (n + 1) (show i + 1 ≤ j from h)
    rw [Nat.mul_add, Nat.mul_one] at this
    omega
  · right
    have := Nat.mul_le_mul_left (n + 1) (show j + 1 ≤ i by omega)
    rw [Nat.mul_add, Nat.mul_one] at this
    omega
/-- one share of a table is written -/
def putA (A : Str → Mn.Mr) (s : Str) (a : Nat) (v : Rat) : Str → Mn.Mr := fun t i j => if t = s ∧ i = a ∧ j = a then v else A t i j
theorem TabC.put {μ : Sto} {l n a : Nat} {zs : List (List Nat)} {A : Str → Mn.Mr} {zy : List Nat} {v : Rat} (h : ∀ z ∈ zs, TabC μ (baseT l n zs (SX.S z)) n (A (SX.S z))) (hz : zy ∈ zs) (ha : a < n) :
    ∀ z ∈ zs, TabC (μ.set (baseT l n zs (SX.S zy) + a) (.lst ((tb n fun j => dQ (A (SX.S zy) a j)).set a (dQ v)))) (baseT l n zs (SX.S z)) n (putA A (SX.S zy) a v (SX.S z)) := fun z hz2 => by
  have lt : baseT l n zs (SX.S zy) + a < μ.length := (List.getElem?_eq_some_iff.mp ((h zy hz).row a ha)).1
  by_cases c : z = zy
  · subst c
    refine ⟨?_, fun i hi => ?_⟩
    · rw [List.getElem?_set_ne (by omega)]; exact (h z hz).top
    · by_cases d : i = a
      · subst d
        rw [List.getElem?_set_self lt]
        congr 2
        apply List.ext_getElem?
        intro j
        rw [List.getElem?_set]
        by_cases e : i = j
        · subst e
          rw [if_pos rfl, tb_len, if_pos hi, tb_get hi]
          unfold putA
          rw [if_pos ⟨rfl, rfl, rfl⟩]
        · rw [if_neg e]
          show (tb n fun j => dQ (A (SX.S z) i j))[j]? = (tb n fun j => dQ (putA A (SX.S z) i v (SX.S z) i j))[j]?
          rcases Nat.lt_or_ge j n with hj | hj
          · rw [tb_get hj, tb_get hj]
            unfold putA
            rw [if_neg fun z => e z.2.2.symm]
          · rw [List.getElem?_eq_none (by rw [tb_len]; exact hj), List.getElem?_eq_none (by rw [tb_len]; exact hj)]
      · rw [List.getElem?_set_ne (by omega), (h z hz).row i hi]
        congr 2
        refine List.map_congr_left fun j hj => ?_
        unfold putA
        rw [if_neg fun z => d z.2.1]
  · have far := baseT_far (l := l) (n := n) hz2 hz c
    have eq : putA A (SX.S zy) a v (SX.S z) = A (SX.S z) := by
      funext i j
      unfold putA
      rw [if_neg fun e => c (S_inj2 e.1)]
    rw [eq]
    exact ⟨by rw [List.getElem?_set_ne (by omega)]; exact (h z hz2).top, fun i hi => by rw [List.getElem?_set_ne (by omega)]; exact (h z hz2).row i hi⟩
theorem MachAt.setC {μ : Sto} {c k n : Nat} {xs ys : List D} {zs : List (List Nat)} {b e : Nat → Rat} {A : Str → Mn.Mr} (h : MachAt μ k n zs b e A) (hc : μ[c]? = some (.lst xs)) : MachAt (μ.set c (.lst ys)) k n zs b e A := by
  obtain ⟨w, h1, h2⟩ := h.ex
  refine ⟨⟨w, ?_, ?_⟩, h.nd, h.few, h.ok, h.sz⟩
  · rw [List.getElem?_set_ne (fun z => by rw [← z, hc] at h1; cases h1)]; exact h1
  · rw [List.getElem?_set_ne (fun z => by rw [← z, hc] at h2; cases h2)]; exact h2
theorem dct_setC {μ : Sto} {c k : Nat} {xs ys : List D} {ks : List Key} {ds : List D} (h : μ[k]? = some (.dct ks ds)) (hc : μ[c]? = some (.lst xs)) : (μ.set c (.lst ys))[k]? = some (.dct ks ds) := by
  rw [List.getElem?_set_ne (fun z => by rw [← z, hc] at h; cases h)]; exact h
theorem tb_setQ {n a : Nat} {f : Nat → Rat} {v : Rat} : (tb n fun i => dQ (f i)).set a (dQ v) = tb n fun i => dQ (if i = a then v else f i) := by
  apply List.ext_getElem?
  intro j
  rw [List.getElem?_set]
  rcases Nat.lt_or_ge j n with hj | hj
  · rw [show (tb n fun i => dQ (if i = a then v else f i))[j]? = some (dQ (if j = a then v else f j)) from tb_get hj]
    by_cases e : a = j
    · subst e; rw [if_pos rfl, tb_len, if_pos hj, if_pos rfl]
    · rw [if_neg e, tb_get hj, if_neg (show ¬ j = a from fun z => e z.symm)]
  · rw [show (tb n fun i => dQ (if i = a then v else f i))[j]? = none from List.getElem?_eq_none (by rw [tb_len]; exact hj)]
    by_cases e : a = j
    · rw [if_pos e, tb_len, if_neg (by omega)]
    · rw [if_neg e]; exact List.getElem?_eq_none (by rw [tb_len]; exact hj)
theorem TabC.setC {μ : Sto} {c l n : Nat} {ys : List D} {T : Mn.Mr} (h : TabC μ l n T) (hc : l + n < c) : TabC (μ.set c (.lst ys)) l n T :=
  ⟨by rw [List.getElem?_set_ne (by omega)]; exact h.top, fun i hi => by rw [List.getElem?_set_ne (by omega)]; exact h.row i hi⟩
theorem big44 {a : Nat} (h : a ≤ 256) : a ≤ 2 ^ 4400 := Nat.le_trans h (Nat.le_trans (show 256 ≤ 2 ^ 8 by decide) (Nat.pow_le_pow_right (by decide) (by decide)))
theorem Lt60.sm {q : Rat} (h : Lt60 q) : Sm q := Sm.of h (big44 (by decide)) (big44 (by decide))
theorem sm_one : Sm 1 := Lt60.one.sm
theorem sm_third : Sm ((1 : Rat) / 3) := Sm.of (d := 3) (c := 1) ⟨by decide, 1, by show (1 : Rat) / 3 * ((3 : Int) : Rat) = ((1 : Int) : Rat); decide +kernel, by decide⟩ (big44 (by decide)) (big44 (by decide))
theorem sm_less : Sm (-1) := Sm.of (d := 1) (c := 1) ⟨by decide, -1, by show (-1 : Rat) * ((1 : Int) : Rat) = ((-1 : Int) : Rat); decide +kernel, by decide⟩ (big44 (by decide)) (big44 (by decide))
theorem dQ_third : dQ ((1 : Rat) / 3) = .tup [.int 1, .int 3] := by
  have := dQ_fr (t := 1) (b := 3) (by decide)
  have e : ((1 : Int) : Rat) / ((3 : Int) : Rat) = (1 : Rat) / 3 := by decide +kernel
  rw [e] at this
  rw [← this]
  show dSh (frI 1 3) = _
  rw [show frI 1 3 = (1, 3) from by decide +kernel]
  rfl
theorem dQ_less : dQ (-1) = .tup [.int (-1), .int 1] := by
  have := dQ_fr (t := -1) (b := 1) (by decide)
  have e : ((-1 : Int) : Rat) / ((1 : Int) : Rat) = (-1 : Rat) := by decide +kernel
  rw [e] at this
  rw [← this]
  show dSh (frI (-1) 1) = _
  rw [show frI (-1) 1 = (-1, 1) from by decide +kernel]
  rfl
end Pf

namespace Pf
open PySem PySem.Spec PyProof.Rows L2 L3
local macro_rules | `(tactic| fail) => `(tactic| first
  | with_reducible refine wp_seqSet ?_
  | with_reducible refine wp_seqAsg ?_
  | with_reducible refine wp_seqPar ?_
  | with_reducible refine wp_seqPar3 ?_
  | with_reducible refine wp_seqFset ?_
  | with_reducible refine wp_seqFaug ?_
  | with_reducible refine wp_sFset ?_
  | with_reducible refine wp_sFaug ?_
  | with_reducible refine wp_meth ?_
  | with_reducible refine wp_make ?_
  | with_reducible refine wp_methX ?_
  | with_reducible refine wp_makeX ?_
  | with_reducible refine wp_sPar3 ?_
  | with_reducible refine three_ok ?_
  | with_reducible refine wp_seqAug ?_
  | with_reducible refine wp_seqExpr ?_
  | with_reducible refine wp_seqSub ?_
  | with_reducible refine wp_seqNil ?_
  | with_reducible refine wp_seqFor ?_
  | with_reducible refine wp_seqWhile ?_
  | with_reducible refine wp_seqStar ?_
  | with_reducible refine wp_seqForK ?_
  | with_reducible refine wp_seqDput ?_
  | with_reducible refine wp_seqMul ?_
  | with_reducible refine wp_sSet ?_
  | with_reducible refine wp_sRet ?_
  | with_reducible refine wp_sNil ?_
  | with_reducible refine wp_sIf ?_
  | with_reducible refine wp_sPar ?_
  | with_reducible refine wp_sAsg ?_
  | with_reducible refine wp_sSub ?_
  | with_reducible refine wp_sFor ?_
  | with_reducible refine wp_sRaise ?_
  | with_reducible refine wp_sExpr ?_
  | with_reducible refine wp_sRetN ?_
  | with_reducible refine wp_sBreak ?_
  | with_reducible refine wp_sCont ?_
  | ((with_reducible refine wp_varE ?_); refine ⟨_, rfl, ?_⟩)
  | with_reducible refine wp_c ?_
  | with_reducible refine wp_B ?_
  | with_reducible refine wp_U ?_
  | with_reducible refine wp_T ?_
  | with_reducible refine wp_andT ?_
  | with_reducible refine wp_orT ?_
  | with_reducible refine wp_notT ?_
  | with_reducible refine wp_andV ?_
  | with_reducible refine wp_orV ?_
  | with_reducible refine wp_notV ?_
  | with_reducible refine wp_if ?_
  | with_reducible refine wp_nil ?_
  | with_reducible refine wp_cons ?_
  | with_reducible refine wp_tup ?_
  | with_reducible refine wp_lst ?_
  | with_reducible refine wp_lstC ?_
  | with_reducible refine wp_call ?_
  | with_reducible refine wp_callD ?_
  | with_reducible refine wp_callB ?_
  | with_reducible refine wp_m ?_
  | with_reducible refine wp_oNone ?_
  | with_reducible refine wp_oSome ?_
  | with_reducible refine wp_sl ?_
  | with_reducible refine wp_tried ?_
  | with_reducible refine wp_asked ?_
  | with_reducible refine wp_seqOut ?_
  | with_reducible refine wp_asks ?_ | with_reducible refine wp_eDoors ?_
  | with_reducible refine wp_asksC ?_
  | with_reducible refine wp_asksN ?_
  | with_reducible refine wp_chain ?_
  | with_reducible refine wp_enum ?_
  | with_reducible refine wp_enumB ?_
  | with_reducible refine wp_zip ?_
  | with_reducible refine wp_joinedT ?_
  | with_reducible refine wp_jNil ?_
  | with_reducible refine wp_jT ?_
  | with_reducible refine wp_lc ?_
  | with_reducible refine wp_lcC ?_
  | with_reducible refine wp_yes ?_
  | with_reducible refine wp_iAny ?_
  | with_reducible refine wp_range1 ?_
  | with_reducible refine wp_range2 ?_
  | with_reducible refine wp_sStar ?_
  | with_reducible refine wp_sDput ?_
  | with_reducible refine wp_sMul ?_
  | with_reducible refine wp_mNil ?_
  | with_reducible refine wp_mCons ?_
  | with_reducible refine wp_mSub ?_
  | with_reducible refine wp_mSubD ?_
  | with_reducible refine wp_dget2 ?_
  | with_reducible refine wp_disp ?_
  | with_reducible refine wp_pNil ?_
  | with_reducible refine wp_pCons ?_
  | with_reducible refine wp_dc ?_
  | with_reducible refine wp_seqTail ?_
  | with_reducible refine wp_sTail ?_
  | with_reducible refine wp_newDC ?_
  | with_reducible refine wp_newDT ?_
  | with_reducible refine wp_key ?_
  | with_reducible refine wp_tget2 ?_
  | with_reducible refine wp_seqKput ?_
  | with_reducible refine wp_sKput ?_
  | with_reducible refine wp_lRg1 ?_
  | with_reducible refine wp_lRg2 ?_
  | with_reducible refine wp_dpop2 ?_
  | with_reducible refine wp_eTO ?_
  | with_reducible refine wp_notO ?_)
local macro_rules | `(tactic| fail) => `(tactic| first
  | with_reducible refine wp_eqI ?_
  | with_reducible refine wp_neI ?_
  | with_reducible refine wp_eqB ?_
  | with_reducible refine wp_neB ?_
  | ((with_reducible refine wp_eqStr ?_ ?_ ?_); decide +kernel; decide +kernel)
  | ((with_reducible refine wp_neStr ?_ ?_ ?_); decide +kernel; decide +kernel)
  | with_reducible refine wp_addI ?_
  | with_reducible refine wp_addII ?_
  | with_reducible refine wp_subI ?_
  | with_reducible refine wp_ltI ?_
  | with_reducible refine wp_leI ?_
  | with_reducible refine wp_gtI ?_
  | with_reducible refine wp_geI ?_
  | with_reducible refine wp_negI ?_
  | with_reducible refine wp_intI ?_
  | with_reducible refine wp_intB ?_
  | with_reducible refine wp_absI ?_
  | with_reducible refine wp_un ?_
  | ((with_reducible refine wp_mul ?_ ?_); first | exact mulOk_right (by decide) | exact mulOk_left (by decide) | exact mulOk_mod (by decide) (by decide))
  | ((with_reducible refine wp_mod ?_ ?_); decide)
  | ((with_reducible refine wp_fdiv ?_ ?_ ?_); decide; exact pylong_200 (by decide))
  | with_reducible refine wp_pow18 ?_
  | with_reducible refine wp_pow12 ?_
  | with_reducible refine wp_pow40 ?_
  | ((with_reducible refine wp_ixE ?_); refine ⟨_, rfl, ?_⟩)
  | with_reducible refine wp_len0 ?_
  | with_reducible refine wp_len1 ?_
  | with_reducible refine wp_len2 ?_
  | with_reducible refine wp_len3 ?_
  | with_reducible refine wp_lenT1 ?_
  | with_reducible refine wp_lenT2 ?_
  | with_reducible refine wp_lenT3 ?_
  | ((with_reducible refine wp_lenE ?_); refine ⟨_, rfl, ?_⟩)
  | ((with_reducible refine wp_listOfE ?_); refine ⟨_, rfl, ?_⟩)
  | ((with_reducible refine wp_isiE ?_); refine ⟨_, rfl, ?_⟩)
  | ((with_reducible refine wp_isNE ?_); refine ⟨_, rfl, ?_⟩)
  | ((with_reducible refine wp_notNE ?_); refine ⟨_, rfl, ?_⟩)
  | ((with_reducible refine wp_slE ?_); refine ⟨_, rfl, ?_⟩)
  | ((with_reducible refine sub_okE ?_); refine ⟨_, rfl, ?_⟩)
  | with_reducible refine Exists.intro _ (And.intro rfl ?_)
  | with_reducible refine Exists.intro _ (Exists.intro _ (And.intro rfl ?_))
  | ((with_reducible refine len_eq ?_ ?_); exact rfl)
  | ((with_reducible refine rng_ok ?_ ?_); omega)
  | ((with_reducible refine rng2_ok ?_ ?_); omega)
  | ((with_reducible refine rngD_len ?_ ?_); omega)
  | ((with_reducible refine len_100 ?_ ?_); exact Nat.le_of_ble_eq_true rfl)
  | ((with_reducible refine isTy_ok ?_ ?_); exact rfl)
  | ((with_reducible refine br_t ?_ ?_); first | with_reducible exact rfl | decide)
  | ((with_reducible refine br_f ?_ ?_); first | with_reducible exact rfl | decide)
  | with_reducible refine br_d (fun _ => ?_) (fun _ => ?_)
  | with_reducible refine br_n (fun _ => ?_) (fun _ => ?_))
theorem wp_sl1 {d x : D} {xs : List D} {μ : Sto} {Q : D → Sto → Prop} {E : Exs} (h : asL μ d = some (x :: xs)) (q : Q (.lst xs) μ) : (dSl3 d (some 1) none μ).wp Q E := by
  have e : L3.cutD (x :: xs) (some 1) none = xs := by
    unfold L3.cutD
    show List.take (xs.length + 1 - HT.sIx (xs.length + 1) 0 (some 1)) (List.drop (HT.sIx (xs.length + 1) 0 (some 1)) (x :: xs)) = xs
    have : HT.sIx (xs.length + 1) 0 (some 1) = 1 := by
      unfold HT.sIx
      simp only [if_neg (show ¬ (1 : Int) < 0 by omega)]
      show min 1 (xs.length + 1) = 1
      omega
    rw [this]
    simp
  have e2 : dSl3 d (some 1) none μ = .ok (.lst (L3.cutD (x :: xs) (some 1) none)) μ := by
    cases d with
    | lst ys => cases h; rfl
    | cell k =>
      show (match asL μ (.cell k) with
        | some ds => R.ok (D.lst (L3.cutD ds (some 1) none)) μ
        | none => .bad) = _
      rw [h]
    | _ => cases h
  rw [e2, e]
  exact q
theorem EqM.symm {n : Nat} {zs : List (List Nat)} {b e b' e' : Nat → Rat} {A A' : Str → Mn.Mr} (h : EqM n zs b e A n zs b' e' A') : EqM n zs b' e' A' n zs b e A := ⟨h.1.symm, h.2.1.symm, h.2.2.1.symm, fun z hz => (h.2.2.2 z hz).symm⟩
theorem wp_revC {d : D} {xs : List D} {μ : Sto} {Q : D → Sto → Prop} {E : Exs} (h : asS μ d = some xs) (q : Q (.lst xs.reverse) μ) : (dRevL d μ).wp Q E := by
  unfold dRevL
  rw [h]
  exact q
theorem law_true (ns : List Int) (hl : ns.length ≤ 63) (hbits : ∀ z ∈ ns, Builtin.Int.intBits z ≤ 1048576) : ∃ μ, f_law [.scr ns] [] = .ok (.bl true) μ := by
  have key : (f_law [.scr ns] []).wp (fun r _ => r = .bl true) noE := by
    unfold f_law
    with_reducible refine wp_fn ?_
    unfold b_law
    have t1 : ("Machine(" : Str) = SX.S tM1 := (SU _).symm
    have t2 : (" rooms, " : Str) = SX.S tM2 := (SU _).symm
    have t3 : (" letters)" : Str) = SX.S tM3 := (SU _).symm
    rw [t1, t2, t3]
    clear t1 t2 t3
    have l1 : tM1.length = 8 := by decide +kernel
    have l2 : tM2.length = 8 := by decide +kernel
    have l3 : tM3.length = 9 := by decide +kernel
    have o1 : okT tM1 := by decide +kernel
    have o2 : okT tM2 := by decide +kernel
    have o3 : okT tM3 := by decide +kernel
    generalize hT1 : tM1 = T1 at *
    generalize hT2 : tM2 = T2 at *
    generalize hT3 : tM3 = T3 at *
    repeat fail
    refine wp_bag hl fun g hg => ?_
    repeat' (first | fail | with_reducible refine wp_sSeq ?_)
    simp only [List.map_cons, List.map_nil, List.length_cons, List.length_nil, List.reduceReplicate, List.cons_append, List.nil_append, Nat.reduceAdd, Nat.reduceSub, Nat.zero_add, List.set_cons_zero, List.set_cons_succ, wipeE]
    refine wp_pull hg (by decide) (by decide) fun nl g n1 n2 hg => ?_
    obtain ⟨nl, rfl⟩ : ∃ t : Nat, nl = t := ⟨nl.toNat, by omega⟩
    repeat' (first | fail | with_reducible refine wp_sSeq ?_)
    refine ⟨rfl, ?_⟩
    rw [show (1 + (nl : Int)) = ((1 + nl : Nat) : Int) from by omega]
    refine wp_labcW (n := 1 + nl) hg (by omega) fun zs g hg lz hz nd => ?_
    have few : zs.length ≤ 3 := by omega
    have some1 : 0 < zs.length := by omega
    have okz : ∀ z ∈ zs, IsLet z := fun z h => (hz z h).1
    repeat' (first | fail | with_reducible refine wp_sSeq ?_)
    refine wp_engineC (c := 4) hg nd (by omega) (by decide) (List.getElem?_concat_length) fun g n b e A hg hn hb he hA => ?_
    repeat' (first | fail | with_reducible refine wp_sSeq ?_)
    have hw : (g :: ([MO.lst (letsD zs)] ++ [waysD n A zs]))[1]? = some (.lst (letsD zs)) := rfl
    have hv : (g :: ([MO.lst (letsD zs)] ++ [waysD n A zs]))[2]? = some (waysD n A zs) := rfl
    have parts : ∀ ex, Parts ((g :: ([MO.lst (letsD zs)] ++ [waysD n A zs])) ++ ex) (.cell 1) (qR n b) (.cell 2) (qR n e) n zs b e A := fun ex =>
      (show Parts (g :: ([MO.lst (letsD zs)] ++ [waysD n A zs])) (.cell 1) (qR n b) (.cell 2) (qR n e) n zs b e A from ⟨asL_cell hw, rfl, rfl, ⟨zs, fun s => qT n n (A s), dctAt_cell hv, .refl _, fun z hz => QT.self⟩, nd, by omega, okz, by omega⟩).app
    refine wp_buildsK (by have := parts []; rw [List.append_nil] at this; exact this) fun x hM => ?_
    simp only [List.map_cons, List.map_nil, List.length_cons, List.length_nil, List.reduceReplicate, List.cons_append, List.nil_append, Nat.reduceAdd, Nat.reduceSub, Nat.zero_add, List.set_cons_zero, List.set_cons_succ, wipeE]
    have hM1 : MachAt (g :: [MO.lst (letsD zs), waysD n A zs, machM zs n b e 5, x, waysD n A zs]) 3 n zs b e A := hM
    have h1 : (g :: [MO.lst (letsD zs), waysD n A zs, machM zs n b e 5, x, waysD n A zs])[1]? = some (.lst (letsD zs)) := rfl
    have h2 : (g :: [MO.lst (letsD zs), waysD n A zs, machM zs n b e 5, x, waysD n A zs])[2]? = some (waysD n A zs) := rfl
    clear hM parts hw hv
    generalize [MO.lst (letsD zs), waysD n A zs, machM zs n b e 5, x, waysD n A zs] = m at *
    repeat' (first | fail | with_reducible refine wp_sSeq ?_)
    refine wp_revC (show asS _ (.cell 1) = some _ from asL_cell h1) ?_
    rw [show (letsD zs).reverse = letsD zs.reverse from (List.map_reverse).symm]
    have ndr : zs.reverse.Nodup := (List.reverse_perm zs).nodup_iff.mpr nd
    repeat' (first | fail | with_reducible refine wp_sSeq ?_)
    refine wp_tupOfE ⟨_, rfl, ?_⟩
    repeat' (first | fail | with_reducible refine wp_sSeq ?_)
    refine wp_revC (show asS _ (.cell 1) = some _ from asL_cell h1) ?_
    rw [show (letsD zs).reverse = letsD zs.reverse from (List.map_reverse).symm]
    refine ⟨_, rfl, ?_⟩
    simp only [List.map_cons, List.map_nil, List.length_cons, List.length_nil, List.reduceReplicate, List.cons_append, List.nil_append, Nat.reduceAdd, Nat.reduceSub, Nat.zero_add, List.set_cons_zero, List.set_cons_succ, wipeE]
    refine ⟨by unfold letsD; rw [List.length_map, List.length_reverse, sizeLine_eq]; omega, ?_⟩
    refine wp_lcM (l := zs.reverse) (g := fun z => .str (SX.S z)) (k := fun z => .tup [.str (SX.S z), qT n n (A (SX.S z))]) rfl ?_ fun z hz => ⟨_, rfl, ?_⟩
    rotate_left
    · repeat' (first | fail | with_reducible refine wp_sSeq ?_)
      refine wp_dDixD (dctAt_cell h2) rfl (val_some (List.mem_reverse.mp hz)) ?_
      repeat' (first | fail | with_reducible refine wp_sSeq ?_)
      exact ⟨rfl, rfl⟩
    repeat' (first | fail | with_reducible refine wp_sSeq ?_)
    refine wp_dictP rfl (prs_kz2 (fun s => qT n n (A s)) zs.reverse) (kz_ndL2 ndr) ?_
    repeat' (first | fail | with_reducible refine wp_sSeq ?_)
    refine ⟨rfl, ?_⟩
    have okr : ∀ z ∈ zs.reverse, IsLet z := fun z h => okz z (List.mem_reverse.mp h)
    refine wp_initN (n := n) (zs := zs.reverse) (b := b) (e := e) (A := A) ⟨rfl, rfl, rfl, ⟨zs.reverse, fun s => qT n n (A s), dctAt_cell List.getElem?_concat_length, .refl _, fun z hz => QT.self⟩, ndr, by rw [List.length_reverse]; omega, okr, by omega⟩ fun x2 hM2 => ?_
    refine ⟨rfl, ?_⟩
    repeat' (first | fail | with_reducible refine wp_sSeq ?_)
    refine ⟨by show 2 ≤ 100; decide, _, rfl, ?_⟩
    generalize hk2 : List.length (g :: m ++ [waysD n A zs.reverse]) = k2 at hM2 ⊢
    have hM1 : MachAt (g :: m ++ [waysD n A zs.reverse] ++ [machM zs.reverse n b e (k2 + 2), x2, waysD n A zs.reverse]) 3 n zs b e A := hM1.app.app
    have h1 : (g :: m ++ [waysD n A zs.reverse] ++ [machM zs.reverse n b e (k2 + 2), x2, waysD n A zs.reverse])[1]? = some (.lst (letsD zs)) := look_app (look_app h1)
    have h2 : (g :: m ++ [waysD n A zs.reverse] ++ [machM zs.reverse n b e (k2 + 2), x2, waysD n A zs.reverse])[2]? = some (waysD n A zs) := look_app (look_app h2)
    rw [List.cons_append, List.cons_append] at hM1 hM2 h1 h2 ⊢
    generalize m ++ [waysD n A zs.reverse] ++ [machM zs.reverse n b e (k2 + 2), x2, waysD n A zs.reverse] = m at *
    simp only [List.map_cons, List.map_nil, List.length_cons, List.length_nil, List.reduceReplicate, List.cons_append, List.nil_append, Nat.reduceAdd, Nat.reduceSub, Nat.zero_add, List.set_cons_zero, List.set_cons_succ, wipeE]
    clear hk2 okr ndr
    have same : EqM n zs b e A n zs.reverse b e A := ⟨srt_of (List.reverse_perm zs).symm, rfl, rfl, fun _ _ => rfl⟩
    repeat' (first | fail | with_reducible refine wp_sSeq ?_)
    obtain ⟨ns1, ds1, is1⟩ := hM1.is
    obtain ⟨ns2, ds2, is2⟩ := hM2.is
    refine wp_eqO is1 is2 (wp_eqM hM1 hM2 fun t ht => ?_)
    obtain rfl := ht.mpr same
    repeat' (first | fail | with_reducible refine wp_sSeq ?_)
    refine wp_neO is1 is2 (wp_eqM hM1 hM2 fun t ht => ⟨t, rfl, ?_⟩)
    obtain rfl := ht.mpr same
    repeat' (first | fail | with_reducible refine wp_sSeq ?_)
    refine wp_reprO is1 (wp_reprM hM1 ⟨_, rfl, ?_⟩)
    repeat' (first | fail | with_reducible refine wp_sSeq ?_)
    refine wp_inO is1 (wp_miss1 rfl (wp_eqX rfl ⟨rfl, ⟨_, _, is1⟩, wp_miss1 rfl (wp_eqX rfl ⟨rfl, ⟨_, _, is1⟩, wp_miss1 rfl (wp_eqX rfl ⟨rfl, ⟨_, _, is1⟩, wp_miss1 rfl (wp_eqX rfl ⟨rfl, ⟨_, _, is1⟩, wp_miss0 ?_⟩)⟩)⟩)⟩))
    repeat' (first | fail | with_reducible refine wp_sSeq ?_)
    refine wp_lenO is1 (wp_lenM hM1 ⟨_, rfl, ⟨by omega, by omega⟩, ?_⟩)
    repeat' (first | fail | with_reducible refine wp_sSeq ?_)
    refine wp_reprO is1 (wp_reprM hM1 ⟨_, rfl, ?_⟩)
    repeat' (first | fail | with_reducible refine wp_sSeq ?_)
    refine wp_boolO is1 (wp_lenM hM1 ⟨_, rfl, ⟨by omega, by omega⟩, ?_⟩)
    repeat' (first | fail | with_reducible refine wp_sSeq ?_)
    have small : ∀ {m : Nat}, m ≤ 30 → (m : Int).natAbs < 2 ^ 1900 := fun hm => Nat.lt_of_le_of_lt (show (_ : Int).natAbs ≤ 30 by omega) (Nat.lt_of_lt_of_le (show 30 < 2 ^ 5 by decide) (Nat.pow_le_pow_right (by decide) (by decide)))
    have i1 : (intL (n : Nat)).length ≤ 13 := intL_len (by omega)
    have i2 : (intL (zs.length : Nat)).length ≤ 13 := intL_len (by omega)
    rw [tb_len]
    refine wp_strT (small (by omega)) ?_
    refine wp_addT (by omega) ?_
    repeat' (first | fail | with_reducible refine wp_sSeq ?_)
    refine wp_addT (by rw [List.length_append]; omega) ?_
    repeat' (first | fail | with_reducible refine wp_sSeq ?_)
    refine wp_lenQ (asL_asQ (asL_cell h1)) ?_
    rw [show (letsD zs).length = zs.length from List.length_map _]
    repeat' (first | fail | with_reducible refine wp_sSeq ?_)
    refine wp_strT (small (by omega)) ?_
    refine wp_addT (by rw [List.length_append, List.length_append]; omega) ?_
    repeat' (first | fail | with_reducible refine wp_sSeq ?_)
    refine wp_addT (by rw [List.length_append, List.length_append, List.length_append]; omega) ?_
    repeat' (first | fail | with_reducible refine wp_sSeq ?_)
    refine wp_neNilP ⟨3, Pu.row (by omega), by decide⟩ ?_
    repeat' (first | fail | with_reducible refine wp_sSeq ?_)
    rw [show SX.S (reprT n zs.length) = SX.S (T1 ++ intL (n : Nat) ++ T2 ++ intL (zs.length : Nat) ++ T3) from by unfold reprT; rw [hT1, hT2, hT3]]
    have eb : ((n : Int) != 0) = !(tb n fun i => dQ (b i)).isEmpty := by
      cases n with
      | zero => rfl
      | succ n =>
        rw [show (tb (n + 1) fun i => dQ (b i)).isEmpty = false from by
          cases h : tb (n + 1) fun i => dQ (b i) with
          | nil => have := congrArg List.length h; rw [tb_len] at this; cases this
          | cons _ _ => rfl]
        have : ((n + 1 : Nat) : Int) ≠ 0 := by omega
        exact bne_iff_ne.mpr this
    rw [eb]
    refine wp_sameQ (.lst (by show 3 ≤ 16777216; decide) (Pu.cons (.int _) (Pu.cons (.str ((((o1.app (intL_ok _)).app o2).app (intL_ok _)).app o3).s) (Pu.cons (.bl _) Pu.nil)))) ?_
    refine ⟨true, rfl, ?_⟩
    refine ⟨fun z => Bool.noConfusion z, fun _ => ?_⟩
    with_reducible refine wp_sNil ?_
    clear i1 i2 eb is1 is2
    refine wp_cut (N0 := fun ρ μ => ∃ a4 a7 a8 a9 a10 a11 a13 a14, MachAt μ 3 n zs b e A ∧ μ[1]? = some (.lst (letsD zs)) ∧ μ[2]? = some (waysD n A zs) ∧ ρ = [some (.scr ns), some (.cell 0), some (.cell 1), some (.tup [.cell 1, qR n b, .cell 2, qR n e]), a4, some (.cell 3), some (.cell k2), a7, a8, a9, a10, a11, none, a13, a14]) ?_ ?_
    · repeat' (first | fail | with_reducible refine wp_sSeq ?_)
      refine wp_neNilP ⟨3, Pu.row (by omega), by decide⟩ ⟨_, rfl, fun c => ?_, fun c => ?_⟩
      rotate_left
      · with_reducible refine wp_sNil ?_
        exact ⟨_, _, _, _, _, _, _, _, hM1, h1, h2, rfl⟩
      have n1 : 0 < n := by
        cases n with
        | zero => cases c
        | succ n => omega
      repeat' (first | fail | with_reducible refine wp_sSeq ?_)
      rw [tb_len]
      refine wp_pull hg (by omega) (by omega) fun at_ g' p1 p2 hg' => ?_
      obtain ⟨at_, rfl⟩ : ∃ t : Nat, at_ = t := ⟨at_.toNat, by omega⟩
      repeat' (first | fail | with_reducible refine wp_sSeq ?_)
      refine wp_ofC (k := 0) (xs := letsD zs) hg' (show m[0]? = _ from h1) (by unfold letsD; rw [List.length_map]; omega) (by unfold letsD; rw [List.length_map]; omega) fun v y g'' hy hg'' => ?_
      have hM1 : MachAt (g'' :: m) 3 n zs b e A := hM1.bag hg
      have h1 : (g'' :: m)[1]? = some (.lst (letsD zs)) := h1
      have h2 : (g'' :: m)[2]? = some (waysD n A zs) := h2
      obtain ⟨zy, hzy, rfl⟩ : ∃ zy ∈ zs, y = .str (SX.S zy) := by
        obtain ⟨zy, m1, m2⟩ := List.mem_map.mp (List.mem_of_getElem? hy)
        exact ⟨zy, m1, m2.symm⟩
      clear hy hg hg' hM2
      repeat' (first | fail | with_reducible refine wp_sSeq ?_)
      have len0 : zs.length ≤ 3 := few
      refine ⟨_, walkD_cell h1, ?_⟩
      simp only [List.map_cons, List.map_nil, List.length_cons, List.length_nil, List.reduceReplicate, List.cons_append, List.nil_append, Nat.reduceAdd, Nat.reduceSub, Nat.zero_add, List.set_cons_zero, List.set_cons_succ, wipeE]
      refine ⟨by unfold letsD; rw [List.length_map, sizeLine_eq]; omega, ?_⟩
      refine wp_lcS (I := fun ys ds μ' => ∃ pre post, zs = pre ++ post ∧ ds = letsD post ∧ ys = pre.map (fun z => .tup [.str (SX.S z), .cell (baseT (m.length + 1) n zs (SX.S z) + n)]) ∧ ∃ ex, μ' = g'' :: m ++ ex ∧ ex.length = (n + 1) * pre.length ∧ ∀ z ∈ pre, TabC (g'' :: m ++ ex) (baseT (m.length + 1) n zs (SX.S z)) n (A (SX.S z))) ⟨[], zs, rfl, rfl, rfl, [], by simp, rfl, fun z h => nomatch h⟩ (fun ys μ' z => ?_) (fun ys d ds μ' z => ?_)
      rotate_left
      · obtain ⟨pre, post, e1, e2, e3, ex, rfl, hl, hT⟩ := z
        obtain ⟨z, post, rfl⟩ : ∃ z r, post = z :: r := by cases post with | nil => cases e2 | cons z r => exact ⟨z, r, rfl⟩
        obtain rfl := (List.cons.inj e2).1
        have e4 := (List.cons.inj e2).2
        refine ⟨gd_cell (look_app h1), _, rfl, ?_⟩
        show (true = true → _) ∧ (true = false → _)
        refine ⟨fun _ => ?_, fun z => nomatch z⟩
        repeat' (first | fail | with_reducible refine wp_sSeq ?_)
        refine wp_dDixD (dctAt_cell (look_app h2)) rfl (val_some (by rw [e1]; simp)) ?_
        refine ⟨_, rfl, ?_⟩
        simp only [List.map_cons, List.map_nil, List.length_cons, List.length_nil, List.reduceReplicate, List.cons_append, List.nil_append, Nat.reduceAdd, Nat.reduceSub, Nat.zero_add, List.set_cons_zero, List.set_cons_succ, wipeE]
        refine tb_sz (by omega) ?_
        refine wp_freshE (T := A (SX.S z)) (fun i hi μ' => ⟨_, rfl, ?_⟩) (fun ys2 μ2 ex2 l2 c2 k2 hT2 => ?_)
        · repeat' (first | fail | with_reducible refine wp_sSeq ?_)
          exact wp_listOfNewK rfl ⟨rfl, rfl⟩
        · rw [c2, l2]
          repeat' (first | fail | with_reducible refine wp_sSeq ?_)
          have lenx : (g'' :: (m ++ ex)).length = baseT (m.length + 1) n zs (SX.S z) := by
            have nd := nd
            rw [e1] at nd ⊢
            rw [baseT_snoc nd, List.length_cons, List.length_append, hl]; omega
          refine ⟨by show 2 ≤ 100; decide, pre ++ [z], post, by rw [e1, List.append_assoc]; rfl, e4, ?_, ex ++ ex2, by rw [← List.append_assoc]; rfl, by rw [List.length_append, hl, k2, List.length_append, Nat.mul_add]; simp, fun y hy => ?_⟩
          · rw [e3, List.map_append, lenx]; rfl
          · rw [show g'' :: (m ++ (ex ++ ex2)) = g'' :: (m ++ ex) ++ ex2 from by rw [← List.append_assoc]; rfl]
            rcases List.mem_append.mp hy with hy | hy
            · exact (hT y hy).app
            · obtain rfl := List.mem_singleton.mp hy
              rw [← lenx]; exact hT2
      obtain ⟨pre, post, e1, e2, e3, ex, rfl, hl, hT⟩ := z
      have : post = [] := by cases post with | nil => rfl | cons _ _ => cases e2
      subst this
      rw [List.append_nil] at e1
      subst e1
      refine ⟨gd_cell (look_app h1), ?_⟩
      subst e3
      repeat' (first | fail | with_reducible refine wp_sSeq ?_)
      refine wp_dictP rfl (prs_kz2 (fun s => .cell (baseT (m.length + 1) n zs s + n)) zs) (kz_ndL2 nd) ?_
      have hD : (g'' :: m ++ ex ++ [MO.dct (zs.map kz) ((zs.map kz).map (keyF fun s => .cell (baseT (m.length + 1) n zs s + n)))])[(g'' :: m ++ ex).length]? = some (.dct (zs.map kz) ((zs.map kz).map (keyF fun s => .cell (baseT (m.length + 1) n zs s + n)))) := List.getElem?_concat_length
      have hT : ∀ z ∈ zs, TabC (g'' :: m ++ ex ++ [MO.dct (zs.map kz) ((zs.map kz).map (keyF fun s => .cell (baseT (m.length + 1) n zs s + n)))]) (baseT (m.length + 1) n zs (SX.S z)) n (A (SX.S z)) := fun z hz => (hT z hz).app
      have hM1 : MachAt (g'' :: m ++ ex ++ [MO.dct (zs.map kz) ((zs.map kz).map (keyF fun s => .cell (baseT (m.length + 1) n zs s + n)))]) 3 n zs b e A := hM1.app.app
      have h1 : (g'' :: m ++ ex ++ [MO.dct (zs.map kz) ((zs.map kz).map (keyF fun s => .cell (baseT (m.length + 1) n zs s + n)))])[1]? = some (.lst (letsD zs)) := look_app (look_app h1)
      have h2' := h2
      have h2 : (g'' :: m ++ ex ++ [MO.dct (zs.map kz) ((zs.map kz).map (keyF fun s => .cell (baseT (m.length + 1) n zs s + n)))])[2]? = some (waysD n A zs) := look_app (look_app h2)
      have hl2 : 2 < m.length + 1 := (List.getElem?_eq_some_iff.mp h2').1
      generalize g'' :: m ++ ex ++ [MO.dct (zs.map kz) ((zs.map kz).map (keyF fun s => .cell (baseT (m.length + 1) n zs s + n)))] = M at *
      generalize (g'' :: m ++ ex).length = cD at *
      generalize m.length + 1 = l at *
      clear hg'' e2
      have atn : at_ < n := by omega
      repeat' (first | fail | with_reducible refine wp_sSeq ?_)
      refine wp_dDixD (dctAt_cell hD) rfl (val_some hzy) ?_
      repeat' (first | fail | with_reducible refine wp_sSeq ?_)
      refine wp_ixC (hT zy hzy).top (by omega) (tb_get (by omega)) ?_
      repeat' (first | fail | with_reducible refine wp_sSeq ?_)
      refine wp_ixC ((hT zy hzy).row _ (by omega)) (by omega) (tb_get (by omega)) ?_
      repeat' (first | fail | with_reducible refine wp_sSeq ?_)
      rw [Int.toNat_natCast, ← dQ_one]
      refine wp_laddR (hA _ _ _).sm sm_one ?_
      repeat' (first | fail | with_reducible refine wp_sSeq ?_)
      refine wp_dDixD (dctAt_cell hD) rfl (val_some hzy) ?_
      repeat' (first | fail | with_reducible refine wp_sSeq ?_)
      refine wp_ixC (hT zy hzy).top (by omega) (tb_get (by omega)) ?_
      rw [Int.toNat_natCast]
      repeat' (first | fail | with_reducible refine wp_sSeq ?_)
      refine ⟨_, _, _, rfl, rfl, setL_nat ((hT zy hzy).row _ atn) (by rw [tb_len]; exact atn), ?_⟩
      have hc := (hT zy hzy).row _ atn
      have gb := baseT_ge (l := l) (n := n) (zs := zs) (s := SX.S zy)
      have hT := TabC.put (v := A (SX.S zy) at_ at_ + 1) hT hzy atn
      have hM1 := hM1.setC (ys := ((tb n fun j => dQ (A (SX.S zy) at_ j)).set at_ (dQ (A (SX.S zy) at_ at_ + 1)))) hc
      have h2 := dct_setC (ys := ((tb n fun j => dQ (A (SX.S zy) at_ j)).set at_ (dQ (A (SX.S zy) at_ at_ + 1)))) h2 hc
      have hD := dct_setC (ys := ((tb n fun j => dQ (A (SX.S zy) at_ j)).set at_ (dQ (A (SX.S zy) at_ at_ + 1)))) hD hc
      have h1 : (M.set (baseT l n zs (SX.S zy) + at_) (.lst ((tb n fun j => dQ (A (SX.S zy) at_ j)).set at_ (dQ (A (SX.S zy) at_ at_ + 1)))))[1]? = some (.lst (letsD zs)) := by
        rw [List.getElem?_set_ne (by omega)]; exact h1
      generalize M.set (baseT l n zs (SX.S zy) + at_) (.lst ((tb n fun j => dQ (A (SX.S zy) at_ j)).set at_ (dQ (A (SX.S zy) at_ at_ + 1)))) = M at *
      repeat' (first | fail | with_reducible refine wp_sSeq ?_)
      refine wp_listOfNewK rfl ?_
      repeat' (first | fail | with_reducible refine wp_sSeq ?_)
      refine wp_listOfNewK rfl ?_
      repeat' (first | fail | with_reducible refine wp_sSeq ?_)
      have lT : ∀ z ∈ zs, baseT l n zs (SX.S z) + n < M.length := fun z hz => (List.getElem?_eq_some_iff.mp (hT z hz).top).1
      have hT : ∀ z ∈ zs, TabC (M ++ [MO.lst (tb n fun i => dQ (b i))] ++ [MO.lst (tb n fun i => dQ (e i))]) (baseT l n zs (SX.S z)) n (putA A (SX.S zy) at_ (A (SX.S zy) at_ at_ + 1) (SX.S z)) := fun z hz => (hT z hz).app.app
      have hM1 : MachAt (M ++ [MO.lst (tb n fun i => dQ (b i))] ++ [MO.lst (tb n fun i => dQ (e i))]) 3 n zs b e A := hM1.app.app
      have h1' : 1 < M.length := (List.getElem?_eq_some_iff.mp h1).1
      have h1 : (M ++ [MO.lst (tb n fun i => dQ (b i))] ++ [MO.lst (tb n fun i => dQ (e i))])[1]? = some (.lst (letsD zs)) := look_app (look_app h1)
      have h2 : (M ++ [MO.lst (tb n fun i => dQ (b i))] ++ [MO.lst (tb n fun i => dQ (e i))])[2]? = some (waysD n A zs) := look_app (look_app h2)
      have hD := look_app (ex := [MO.lst (tb n fun i => dQ (e i))]) (look_app (ex := [MO.lst (tb n fun i => dQ (b i))]) hD)
      have hB : (M ++ [MO.lst (tb n fun i => dQ (b i))] ++ [MO.lst (tb n fun i => dQ (e i))])[M.length]? = some (.lst (tb n fun i => dQ (b i))) := look_app List.getElem?_concat_length
      have hE : (M ++ [MO.lst (tb n fun i => dQ (b i))] ++ [MO.lst (tb n fun i => dQ (e i))])[M.length + 1]? = some (.lst (tb n fun i => dQ (e i))) := by
        have : (M ++ [MO.lst (tb n fun i => dQ (b i))]).length = M.length + 1 := by rw [List.length_append]; rfl
        rw [← this]; exact List.getElem?_concat_length
      rw [show List.length (M ++ [MO.lst (tb n fun i => dQ (b i))]) = M.length + 1 from by rw [List.length_append]; rfl]
      generalize M ++ [MO.lst (tb n fun i => dQ (b i))] ++ [MO.lst (tb n fun i => dQ (e i))] = M2 at *
      generalize hcb : M.length = cb at *
      repeat' (first | fail | with_reducible refine wp_sSeq ?_)
      refine wp_ixC hB (by omega) (tb_get (by omega)) ?_
      rw [Int.toNat_natCast]
      repeat' (first | fail | with_reducible refine wp_sSeq ?_)
      rw [← dQ_third]
      refine wp_laddR (hb _).sm sm_third ?_
      repeat' (first | fail | with_reducible refine wp_sSeq ?_)
      refine wp_ixC hE (by omega) (tb_get (by omega)) ?_
      rw [Int.toNat_natCast]
      repeat' (first | fail | with_reducible refine wp_sSeq ?_)
      rw [show D.tup [D.int (0 - 1), D.int 1] = dQ (-1) from dQ_less.symm]
      refine wp_laddR (he _).sm sm_less ?_
      repeat' (first | fail | with_reducible refine wp_sSeq ?_)
      refine ⟨_, _, _, rfl, rfl, setL_nat hB (by rw [tb_len]; exact atn), ?_⟩
      repeat' (first | fail | with_reducible refine wp_sSeq ?_)
      refine ⟨_, _, _, rfl, rfl, setL_nat (by rw [List.getElem?_set_ne (by omega)]; exact hE) (by rw [tb_len]; exact atn), ?_⟩
      rw [tb_setQ, tb_setQ]
      have hT : ∀ z ∈ zs, TabC ((M2.set cb (.lst (tb n fun i => dQ (if i = at_ then b at_ + 1 / 3 else b i)))).set (cb + 1) (.lst (tb n fun i => dQ (if i = at_ then e at_ + -1 else e i)))) (baseT l n zs (SX.S z)) n (putA A (SX.S zy) at_ (A (SX.S zy) at_ at_ + 1) (SX.S z)) := fun z hz => ((hT z hz).setC (lT z hz)).setC (by have := lT z hz; omega)
      have hE' : (M2.set cb (.lst (tb n fun i => dQ (if i = at_ then b at_ + 1 / 3 else b i))))[cb + 1]? = some (.lst (tb n fun i => dQ (e i))) := by rw [List.getElem?_set_ne (by omega)]; exact hE
      have hM1 := (hM1.setC (ys := tb n fun i => dQ (if i = at_ then b at_ + 1 / 3 else b i)) hB).setC (ys := tb n fun i => dQ (if i = at_ then e at_ + -1 else e i)) hE'
      have h2 := dct_setC (ys := tb n fun i => dQ (if i = at_ then e at_ + -1 else e i)) (dct_setC (ys := tb n fun i => dQ (if i = at_ then b at_ + 1 / 3 else b i)) h2 hB) hE'
      have hD := dct_setC (ys := tb n fun i => dQ (if i = at_ then e at_ + -1 else e i)) (dct_setC (ys := tb n fun i => dQ (if i = at_ then b at_ + 1 / 3 else b i)) hD hB) hE'
      have h1 : ((M2.set cb (.lst (tb n fun i => dQ (if i = at_ then b at_ + 1 / 3 else b i)))).set (cb + 1) (.lst (tb n fun i => dQ (if i = at_ then e at_ + -1 else e i))))[1]? = some (.lst (letsD zs)) := by
        rw [List.getElem?_set_ne (by omega), List.getElem?_set_ne (by omega)]; exact h1
      have hB : ((M2.set cb (.lst (tb n fun i => dQ (if i = at_ then b at_ + 1 / 3 else b i)))).set (cb + 1) (.lst (tb n fun i => dQ (if i = at_ then e at_ + -1 else e i))))[cb]? = some (.lst (tb n fun i => dQ (if i = at_ then b at_ + 1 / 3 else b i))) := by
        rw [List.getElem?_set_ne (by omega), List.getElem?_set_self (List.getElem?_eq_some_iff.mp hB).1]
      have hE : ((M2.set cb (.lst (tb n fun i => dQ (if i = at_ then b at_ + 1 / 3 else b i)))).set (cb + 1) (.lst (tb n fun i => dQ (if i = at_ then e at_ + -1 else e i))))[cb + 1]? = some (.lst (tb n fun i => dQ (if i = at_ then e at_ + -1 else e i))) := by
        rw [List.getElem?_set_self (List.getElem?_eq_some_iff.mp hE').1]
      clear hE'
      generalize (M2.set cb (.lst (tb n fun i => dQ (if i = at_ then b at_ + 1 / 3 else b i)))).set (cb + 1) (.lst (tb n fun i => dQ (if i = at_ then e at_ + -1 else e i))) = M3 at *
      have P1 : Parts M3 (.cell 1) (.cell cb) (.cell 2) (qR n e) n zs (fun i => if i = at_ then b at_ + 1 / 3 else b i) e A := ⟨asL_cell h1, show asQ M3 (.cell cb) = some _ from asL_cell hB, rfl, ⟨zs, fun s => qT n n (A s), dctAt_cell h2, .refl _, fun z hz => QT.self⟩, nd, by omega, okz, by omega⟩
      have P2 : Parts M3 (.cell 1) (qR n b) (.cell cD) (qR n e) n zs b e (putA A (SX.S zy) at_ (A (SX.S zy) at_ at_ + 1)) := ⟨asL_cell h1, rfl, rfl, ⟨zs, fun s => .cell (baseT l n zs s + n), dctAt_cell hD, .refl _, fun z hz => (hT z hz).qt⟩, nd, by omega, okz, by omega⟩
      have P3 : Parts M3 (.cell 1) (qR n b) (.cell 2) (.cell (cb + 1)) n zs b (fun i => if i = at_ then e at_ + -1 else e i) A := ⟨asL_cell h1, rfl, show asQ M3 (.cell (cb + 1)) = some _ from asL_cell hE, ⟨zs, fun s => qT n n (A s), dctAt_cell h2, .refl _, fun z hz => QT.self⟩, nd, by omega, okz, by omega⟩
      have no1 : ∀ e2 A2, ¬ EqM n zs b e A n zs (fun i => if i = at_ then b at_ + 1 / 3 else b i) e2 A2 := fun e2 A2 h => by
        have := qR_iff.mp h.2.1 at_ atn
        rw [if_pos rfl] at this
        grind
      have no2 : ∀ b2 e2, ¬ EqM n zs b e A n zs b2 e2 (putA A (SX.S zy) at_ (A (SX.S zy) at_ at_ + 1)) := fun b2 e2 h => by
        have := qT_iff.mp (h.2.2.2 zy hzy) at_ atn at_ atn
        unfold putA at this
        rw [if_pos ⟨rfl, rfl, rfl⟩] at this
        grind
      have no3 : ∀ b2 A2, ¬ EqM n zs b e A n zs b2 (fun i => if i = at_ then e at_ + -1 else e i) A2 := fun b2 A2 h => by
        have := qR_iff.mp h.2.2.1 at_ atn
        rw [if_pos rfl] at this
        grind
      clear hb he hA hT hD hB hE hbits
      repeat' (first | fail | with_reducible refine wp_sSeq ?_)
      generalize (fun i => if i = at_ then b at_ + 1 / 3 else b i) = b' at *
      generalize (fun i => if i = at_ then e at_ + -1 else e i) = e' at *
      generalize putA A (SX.S zy) at_ (A (SX.S zy) at_ at_ + 1) = A' at *
      refine ⟨rfl, ?_⟩
      refine wp_initN P1 fun y1 hX1 => ⟨rfl, ?_⟩
      have hM1 := hM1.app (ex := [machM zs n b' e (M3.length + 2), y1, waysD n A zs])
      have h1 := look_app (ex := [machM zs n b' e (M3.length + 2), y1, waysD n A zs]) h1
      have h2 := look_app (ex := [machM zs n b' e (M3.length + 2), y1, waysD n A zs]) h2
      have P2 := P2.app (ex := [machM zs n b' e (M3.length + 2), y1, waysD n A zs])
      have P3 := P3.app (ex := [machM zs n b' e (M3.length + 2), y1, waysD n A zs])
      generalize M3 ++ [machM zs n b' e (M3.length + 2), y1, waysD n A zs] = M4 at *
      generalize M3.length = x1 at *
      repeat' (first | fail | with_reducible refine wp_sSeq ?_)
      refine ⟨rfl, ?_⟩
      refine wp_initN P2 fun y2 hX2 => ⟨rfl, ?_⟩
      have hM1 := hM1.app (ex := [machM zs n b e (M4.length + 2), y2, waysD n A' zs])
      have h1 := look_app (ex := [machM zs n b e (M4.length + 2), y2, waysD n A' zs]) h1
      have h2 := look_app (ex := [machM zs n b e (M4.length + 2), y2, waysD n A' zs]) h2
      have P3 := P3.app (ex := [machM zs n b e (M4.length + 2), y2, waysD n A' zs])
      have hX1 := hX1.app (ex := [machM zs n b e (M4.length + 2), y2, waysD n A' zs])
      generalize M4 ++ [machM zs n b e (M4.length + 2), y2, waysD n A' zs] = M5 at *
      generalize M4.length = x2 at *
      repeat' (first | fail | with_reducible refine wp_sSeq ?_)
      refine ⟨rfl, ?_⟩
      refine wp_initN P3 fun y3 hX3 => ⟨rfl, ?_⟩
      have hM1 := hM1.app (ex := [machM zs n b e' (M5.length + 2), y3, waysD n A zs])
      have h1 := look_app (ex := [machM zs n b e' (M5.length + 2), y3, waysD n A zs]) h1
      have h2 := look_app (ex := [machM zs n b e' (M5.length + 2), y3, waysD n A zs]) h2
      have hX1 := hX1.app (ex := [machM zs n b e' (M5.length + 2), y3, waysD n A zs])
      have hX2 := hX2.app (ex := [machM zs n b e' (M5.length + 2), y3, waysD n A zs])
      generalize M5 ++ [machM zs n b e' (M5.length + 2), y3, waysD n A zs] = M6 at *
      generalize M5.length = x3 at *
      have all : ∀ x ∈ [x1, x2, x3], ∃ b2 e2 A2, MachAt M6 x n zs b2 e2 A2 ∧ ¬ EqM n zs b e A n zs b2 e2 A2 := fun x hx => by
        simp only [List.mem_cons, List.not_mem_nil, or_false] at hx
        rcases hx with rfl | rfl | rfl
        · exact ⟨_, _, _, hX1, no1 _ _⟩
        · exact ⟨_, _, _, hX2, no2 _ _⟩
        · exact ⟨_, _, _, hX3, no3 _ _⟩
      clear P1 P2 P3 hX1 hX2 hX3 no1 no2 no3
      repeat' (first | fail | with_reducible refine wp_sSeq ?_)
      refine ⟨by show 3 ≤ sizeLine; rw [sizeLine_eq]; decide, ?_⟩
      simp only [List.map_cons, List.map_nil, List.length_cons, List.length_nil, List.reduceReplicate, List.cons_append, List.nil_append, Nat.reduceAdd, Nat.reduceSub, Nat.zero_add, List.set_cons_zero, List.set_cons_succ, wipeE]
      obtain ⟨ns1, ds1, is1⟩ := hM1.is
      refine wp_lcM (l := [x1, x2, x3]) (g := fun x => .cell x) (k := fun _ => .bl false) rfl ?_ fun x hx => ⟨_, rfl, ?_⟩
      rotate_left
      · obtain ⟨b2, e2, A2, hX, no⟩ := all x hx
        obtain ⟨ns2, ds2, is2⟩ := hX.is
        repeat' (first | fail | with_reducible refine wp_sSeq ?_)
        refine wp_eqO is1 is2 (wp_eqM hM1 hX fun t ht => ?_)
        cases t with
        | true => exact absurd (ht.mp rfl) no
        | false => exact ⟨rfl, rfl⟩
      repeat' (first | fail | with_reducible refine wp_sSeq ?_)
      refine wp_rep ⟨by decide, by decide⟩ (by decide) rfl ?_
      refine wp_prim (Pu.ne_self (n := 3) (.lst (by show 3 ≤ 16777216; decide) (Pu.cons (.bl _) (Pu.cons (.bl _) (Pu.cons (.bl _) Pu.nil)))) (by decide) _) ?_
      repeat' (first | fail | with_reducible refine wp_sSeq ?_)
      refine ⟨by show 3 ≤ sizeLine; rw [sizeLine_eq]; decide, ?_⟩
      simp only [List.map_cons, List.map_nil, List.length_cons, List.length_nil, List.reduceReplicate, List.cons_append, List.nil_append, Nat.reduceAdd, Nat.reduceSub, Nat.zero_add, List.set_cons_zero, List.set_cons_succ, wipeE]
      refine wp_lcM (l := [x1, x2, x3]) (g := fun x => .cell x) (k := fun _ => .bl true) rfl ?_ fun x hx => ⟨_, rfl, ?_⟩
      rotate_left
      · obtain ⟨b2, e2, A2, hX, no⟩ := all x hx
        obtain ⟨ns2, ds2, is2⟩ := hX.is
        repeat' (first | fail | with_reducible refine wp_sSeq ?_)
        refine wp_neO is2 is1 (wp_eqM hX hM1 fun t ht => ⟨t, rfl, ?_⟩)
        cases t with
        | true => exact absurd (ht.mp rfl).symm no
        | false => exact ⟨rfl, rfl⟩
      repeat' (first | fail | with_reducible refine wp_sSeq ?_)
      refine wp_rep ⟨by decide, by decide⟩ (by decide) rfl ?_
      refine wp_prim (Pu.ne_self (n := 3) (.lst (by show 3 ≤ 16777216; decide) (Pu.cons (.bl _) (Pu.cons (.bl _) (Pu.cons (.bl _) Pu.nil)))) (by decide) _) ?_
      repeat' (first | fail | with_reducible refine wp_sSeq ?_)
      exact ⟨_, _, _, _, _, _, _, _, hM1, h1, h2, rfl⟩
    · rintro ρ μ ⟨a4, a7, a8, a9, a10, a11, a13, a14, hM1, h1, h2, rfl⟩
      repeat' (first | fail | with_reducible refine wp_sSeq ?_)
      obtain ⟨z0, zr, rfl⟩ : ∃ z0 zr, zs = z0 :: zr := by
        cases zs with
        | nil => cases some1
        | cons z0 zr => exact ⟨z0, zr, rfl⟩
      have ndr : zr.Nodup := (List.nodup_cons.mp nd).2
      have okr : ∀ z ∈ zr, IsLet z := fun z h => okz z (List.mem_cons_of_mem _ h)
      have fewr : zr.length ≤ 3 := by rw [List.length_cons] at few; omega
      refine wp_sl1 (asL_cell h1) ?_
      repeat' (first | fail | with_reducible refine wp_sSeq ?_)
      refine wp_sl1 (asL_cell h1) ?_
      refine ⟨_, rfl, ?_⟩
      simp only [List.map_cons, List.map_nil, List.length_cons, List.length_nil, List.reduceReplicate, List.cons_append, List.nil_append, Nat.reduceAdd, Nat.reduceSub, Nat.zero_add, List.set_cons_zero, List.set_cons_succ, wipeE]
      refine ⟨by rw [List.length_map, sizeLine_eq]; omega, ?_⟩
      refine wp_lcM (l := zr) (g := fun z => .str (SX.S z)) (k := fun z => .tup [.str (SX.S z), qT n n (A (SX.S z))]) rfl ?_ fun z hz => ⟨_, rfl, ?_⟩
      rotate_left
      · repeat' (first | fail | with_reducible refine wp_sSeq ?_)
        refine wp_dDixD (dctAt_cell h2) rfl (val_some (List.mem_cons_of_mem _ hz)) ?_
        repeat' (first | fail | with_reducible refine wp_sSeq ?_)
        exact ⟨rfl, rfl⟩
      repeat' (first | fail | with_reducible refine wp_sSeq ?_)
      refine wp_dictP rfl (prs_kz2 (fun s => qT n n (A s)) zr) (kz_ndL2 ndr) ?_
      repeat' (first | fail | with_reducible refine wp_sSeq ?_)
      refine ⟨rfl, ?_⟩
      refine wp_initN (n := n) (zs := zr) (b := b) (e := e) (A := A) ⟨rfl, rfl, rfl, ⟨zr, fun s => qT n n (A s), dctAt_cell List.getElem?_concat_length, .refl _, fun z hz => QT.self⟩, ndr, by omega, okr, by omega⟩ fun x2 hM2 => ?_
      refine ⟨rfl, ?_⟩
      repeat' (first | fail | with_reducible refine wp_sSeq ?_)
      have hM1 : MachAt (μ ++ [waysD n A zr] ++ [machM zr n b e (List.length (μ ++ [waysD n A zr]) + 2), x2, waysD n A zr]) 3 n (z0 :: zr) b e A := hM1.app.app
      generalize hk2 : List.length (μ ++ [waysD n A zr]) = k3 at hM1 hM2 ⊢
      generalize μ ++ [waysD n A zr] ++ [machM zr n b e (k3 + 2), x2, waysD n A zr] = M at *
      obtain ⟨ns1, ds1, is1⟩ := hM1.is
      obtain ⟨ns2, ds2, is2⟩ := hM2.is
      refine wp_neO is1 is2 (wp_eqM hM1 hM2 fun t ht => ⟨t, rfl, ?_⟩)
      have hf : t = false := by
        cases t with
        | false => rfl
        | true =>
          have := congrArg List.length (ht.mp rfl).1
          rw [srt_len, srt_len, List.length_cons] at this
          omega
      subst hf
      repeat' (first | fail | with_reducible refine wp_sSeq ?_)
      refine wp_newDI ?_
      repeat' (first | fail | with_reducible refine wp_sSeq ?_)
      refine ⟨rfl, ?_⟩
      refine wp_initN (n := 0) (zs := []) (b := b) (e := e) (A := A) ⟨rfl, rfl, rfl, ⟨[], fun s => qT 0 0 (A s), rfl, .refl _, fun z hz => nomatch hz⟩, List.nodup_nil, by decide, (fun _ h => nomatch h), by decide⟩ fun x3 hM3 => ?_
      refine ⟨rfl, ?_⟩
      obtain ⟨ns3, ds3, is3⟩ := hM3.is
      refine wp_truO is3 (wp_lenM hM3 ⟨_, rfl, ⟨by decide, by decide⟩, rfl⟩)
  obtain ⟨r, μ, e, h⟩ := wp_get key
  exact ⟨μ, by rw [e, h]⟩
end Pf

namespace Pf
open PySem PySem.Spec PyProof.Rows L2 L3
section
variable {P : Pm} {Pr : Program} {w : World} {mg : Str → Option Value} {base : Heap}
theorem m__law_bag (T : T0 P mg base w) : mg "_law_bag" = some (.ref (He.ga P.K "_law_bag")) := T.glo 0 rfl
theorem F__law_bag (T : T0 P mg base w) : FunD P.K "_law_bag" "_law_bag" (defArgs s__law_bag) (defBody s__law_bag) (defScope s__law_bag) [] [] (He.ga P.K "_law_bag") (fdOf P.K ("_law_bag", none)) := T.fun_ 0 rfl
theorem bd__law_bag (T : T0 P mg base w) : Binds P.K (fdOf P.K ("_law_bag", none)) ["_law_script"] [] := (F__law_bag T).bindsN fun _ _ _ _ _ _ us hl => match us, hl with | [_], _ => rfl
theorem m__law_pull (T : T0 P mg base w) : mg "_law_pull" = some (.ref (He.ga P.K "_law_pull")) := T.glo 1 rfl
theorem F__law_pull (T : T0 P mg base w) : FunD P.K "_law_pull" "_law_pull" (defArgs s__law_pull) (defBody s__law_pull) (defScope s__law_pull) [] [] (He.ga P.K "_law_pull") (fdOf P.K ("_law_pull", none)) := T.fun_ 1 rfl
theorem bd__law_pull (T : T0 P mg base w) : Binds P.K (fdOf P.K ("_law_pull", none)) ["_law_bag_here", "_law_sides"] [] := (F__law_pull T).bindsN fun _ _ _ _ _ _ us hl => match us, hl with | [_, _], _ => rfl
theorem m__law_of (T : T0 P mg base w) : mg "_law_of" = some (.ref (He.ga P.K "_law_of")) := T.glo 2 rfl
theorem F__law_of (T : T0 P mg base w) : FunD P.K "_law_of" "_law_of" (defArgs s__law_of) (defBody s__law_of) (defScope s__law_of) [] [] (He.ga P.K "_law_of") (fdOf P.K ("_law_of", none)) := T.fun_ 2 rfl
theorem bd__law_of (T : T0 P mg base w) : Binds P.K (fdOf P.K ("_law_of", none)) ["_law_bag_here", "_law_some"] [] := (F__law_of T).bindsN fun _ _ _ _ _ _ us hl => match us, hl with | [_, _], _ => rfl
theorem m__law_abc (T : T0 P mg base w) : mg "_law_abc" = some (.ref (He.ga P.K "_law_abc")) := T.glo 3 rfl
theorem F__law_abc (T : T0 P mg base w) : FunD P.K "_law_abc" "_law_abc" (defArgs s__law_abc) (defBody s__law_abc) (defScope s__law_abc) [] [] (He.ga P.K "_law_abc") (fdOf P.K ("_law_abc", none)) := T.fun_ 3 rfl
theorem bd__law_abc (T : T0 P mg base w) : Binds P.K (fdOf P.K ("_law_abc", none)) ["_law_bag_here", "_law_many"] [] := (F__law_abc T).bindsN fun _ _ _ _ _ _ us hl => match us, hl with | [_, _], _ => rfl
theorem m__law_gcd (T : T0 P mg base w) : mg "_law_gcd" = some (.ref (He.ga P.K "_law_gcd")) := T.glo 4 rfl
theorem F__law_gcd (T : T0 P mg base w) : FunD P.K "_law_gcd" "_law_gcd" (defArgs s__law_gcd) (defBody s__law_gcd) (defScope s__law_gcd) [] [] (He.ga P.K "_law_gcd") (fdOf P.K ("_law_gcd", none)) := T.fun_ 4 rfl
theorem bd__law_gcd (T : T0 P mg base w) : Binds P.K (fdOf P.K ("_law_gcd", none)) ["_law_one", "_law_other"] [] := (F__law_gcd T).bindsN fun _ _ _ _ _ _ us hl => match us, hl with | [_, _], _ => rfl
theorem m__law_fr (T : T0 P mg base w) : mg "_law_fr" = some (.ref (He.ga P.K "_law_fr")) := T.glo 5 rfl
theorem F__law_fr (T : T0 P mg base w) : FunD P.K "_law_fr" "_law_fr" (defArgs s__law_fr) (defBody s__law_fr) (defScope s__law_fr) [] [] (He.ga P.K "_law_fr") (fdOf P.K ("_law_fr", none)) := T.fun_ 5 rfl
theorem bd__law_fr (T : T0 P mg base w) : Binds P.K (fdOf P.K ("_law_fr", none)) ["_law_top", "_law_bottom"] [] := (F__law_fr T).bindsN fun _ _ _ _ _ _ us hl => match us, hl with | [_, _], _ => rfl
theorem m__law_light (T : T0 P mg base w) : mg "_law_light" = some (.ref (He.ga P.K "_law_light")) := T.glo 6 rfl
theorem F__law_light (T : T0 P mg base w) : FunD P.K "_law_light" "_law_light" (defArgs s__law_light) (defBody s__law_light) (defScope s__law_light) [] [] (He.ga P.K "_law_light") (fdOf P.K ("_law_light", none)) := T.fun_ 6 rfl
theorem bd__law_light (T : T0 P mg base w) : Binds P.K (fdOf P.K ("_law_light", none)) ["_law_bag_here"] [] := (F__law_light T).bindsN fun _ _ _ _ _ _ us hl => match us, hl with | [_], _ => rfl
theorem m__law_engine (T : T0 P mg base w) : mg "_law_engine" = some (.ref (He.ga P.K "_law_engine")) := T.glo 7 rfl
theorem F__law_engine (T : T0 P mg base w) : FunD P.K "_law_engine" "_law_engine" (defArgs s__law_engine) (defBody s__law_engine) (defScope s__law_engine) [] [] (He.ga P.K "_law_engine") (fdOf P.K ("_law_engine", none)) := T.fun_ 7 rfl
theorem bd__law_engine (T : T0 P mg base w) : Binds P.K (fdOf P.K ("_law_engine", none)) ["_law_bag_here", "_law_signs", "_law_cap"] [] := (F__law_engine T).bindsN fun _ _ _ _ _ _ us hl => match us, hl with | [_, _, _], _ => rfl
theorem m_is_letter (T : T0 P mg base w) : mg "is_letter" = some (.ref (He.ga P.K "is_letter")) := T.glo 8 rfl
theorem F_is_letter (T : T0 P mg base w) : FunD P.K "is_letter" "is_letter" (defArgs s_is_letter) (defBody s_is_letter) (defScope s_is_letter) [] [] (He.ga P.K "is_letter") (fdOf P.K ("is_letter", none)) := T.fun_ 8 rfl
theorem bd_is_letter (T : T0 P mg base w) : Binds P.K (fdOf P.K ("is_letter", none)) ["text"] [] := (F_is_letter T).bindsN fun _ _ _ _ _ _ us hl => match us, hl with | [_], _ => rfl
theorem m_good_lines (T : T0 P mg base w) : mg "good_lines" = some (.ref (He.ga P.K "good_lines")) := T.glo 9 rfl
theorem F_good_lines (T : T0 P mg base w) : FunD P.K "good_lines" "good_lines" (defArgs s_good_lines) (defBody s_good_lines) (defScope s_good_lines) [] [] (He.ga P.K "good_lines") (fdOf P.K ("good_lines", none)) := T.fun_ 9 rfl
theorem bd_good_lines (T : T0 P mg base w) : Binds P.K (fdOf P.K ("good_lines", none)) ["lines", "many"] [] := (F_good_lines T).bindsN fun _ _ _ _ _ _ us hl => match us, hl with | [_, _], _ => rfl
theorem F_Machine___init__ (T : T0 P mg base w) : FunD P.K "__init__" "Machine.__init__" (defArgs s_Machine___init__) (defBody s_Machine___init__) (defScope s_Machine___init__) [] [] (He.ma P.K (He.ga P.K "Machine") "__init__") (fdOf P.K ("Machine", some "__init__")) := T.fun_ 10 rfl
theorem bd_Machine___init__ (T : T0 P mg base w) : Binds P.K (fdOf P.K ("Machine", some "__init__")) ["self", "letters", "begin", "steps", "end"] [] := (F_Machine___init__ T).bindsN fun _ _ _ _ _ _ us hl => match us, hl with | [_, _, _, _, _], _ => rfl
theorem m__law_builds (T : T0 P mg base w) : mg "_law_builds" = some (.ref (He.ga P.K "_law_builds")) := T.glo 10 rfl
theorem F__law_builds (T : T0 P mg base w) : FunD P.K "_law_builds" "_law_builds" (defArgs s__law_builds) (defBody s__law_builds) (defScope s__law_builds) [] [] (He.ga P.K "_law_builds") (fdOf P.K ("_law_builds", none)) := T.fun_ 11 rfl
theorem bd__law_builds (T : T0 P mg base w) : Binds P.K (fdOf P.K ("_law_builds", none)) ["_law_m"] [] := (F__law_builds T).bindsN fun _ _ _ _ _ _ us hl => match us, hl with | [_], _ => rfl
theorem F_Machine___eq__ (T : T0 P mg base w) : FunD P.K "__eq__" "Machine.__eq__" (defArgs s_Machine___eq__) (defBody s_Machine___eq__) (defScope s_Machine___eq__) [] [] (He.ma P.K (He.ga P.K "Machine") "__eq__") (fdOf P.K ("Machine", some "__eq__")) := T.fun_ 12 rfl
theorem bd_Machine___eq__ (T : T0 P mg base w) : Binds P.K (fdOf P.K ("Machine", some "__eq__")) ["self", "other"] [] := (F_Machine___eq__ T).bindsN fun _ _ _ _ _ _ us hl => match us, hl with | [_, _], _ => rfl
theorem F_Machine___repr__ (T : T0 P mg base w) : FunD P.K "__repr__" "Machine.__repr__" (defArgs s_Machine___repr__) (defBody s_Machine___repr__) (defScope s_Machine___repr__) [] [] (He.ma P.K (He.ga P.K "Machine") "__repr__") (fdOf P.K ("Machine", some "__repr__")) := T.fun_ 13 rfl
theorem bd_Machine___repr__ (T : T0 P mg base w) : Binds P.K (fdOf P.K ("Machine", some "__repr__")) ["self"] [] := (F_Machine___repr__ T).bindsN fun _ _ _ _ _ _ us hl => match us, hl with | [_], _ => rfl
theorem F_Machine___len__ (T : T0 P mg base w) : FunD P.K "__len__" "Machine.__len__" (defArgs s_Machine___len__) (defBody s_Machine___len__) (defScope s_Machine___len__) [] [] (He.ma P.K (He.ga P.K "Machine") "__len__") (fdOf P.K ("Machine", some "__len__")) := T.fun_ 14 rfl
theorem bd_Machine___len__ (T : T0 P mg base w) : Binds P.K (fdOf P.K ("Machine", some "__len__")) ["self"] [] := (F_Machine___len__ T).bindsN fun _ _ _ _ _ _ us hl => match us, hl with | [_], _ => rfl
theorem m__law_same (T : T0 P mg base w) : mg "_law_same" = some (.ref (He.ga P.K "_law_same")) := T.glo 11 rfl
theorem F__law_same (T : T0 P mg base w) : FunD P.K "_law_same" "_law_same" (defArgs s__law_same) (defBody s__law_same) (defScope s__law_same) [] [] (He.ga P.K "_law_same") (fdOf P.K ("_law_same", none)) := T.fun_ 15 rfl
theorem bd__law_same (T : T0 P mg base w) : Binds P.K (fdOf P.K ("_law_same", none)) ["_law_found", "_law_due"] [] := (F__law_same T).bindsN fun _ _ _ _ _ _ us hl => match us, hl with | [_, _], _ => rfl
theorem m__law_add (T : T0 P mg base w) : mg "_law_add" = some (.ref (He.ga P.K "_law_add")) := T.glo 12 rfl
theorem F__law_add (T : T0 P mg base w) : FunD P.K "_law_add" "_law_add" (defArgs s__law_add) (defBody s__law_add) (defScope s__law_add) [] [] (He.ga P.K "_law_add") (fdOf P.K ("_law_add", none)) := T.fun_ 16 rfl
theorem bd__law_add (T : T0 P mg base w) : Binds P.K (fdOf P.K ("_law_add", none)) ["_law_one", "_law_other"] [] := (F__law_add T).bindsN fun _ _ _ _ _ _ us hl => match us, hl with | [_, _], _ => rfl
theorem F_law (T : T0 P mg base w) : FunD P.K "law" "law" (defArgs s_law) (defBody s_law) (defScope s_law) [] [] (He.ga P.K "law") (fdOf P.K ("law", none)) := T.fun_ 17 rfl
theorem Fx_BadMachine (T : T0 P mg base w) : FunD P.K "__init__" "BadMachine.__init__" (defArgs sx_BadMachine) (defBody sx_BadMachine) (defScope sx_BadMachine) [] [] (He.ma P.K (He.ga P.K "BadMachine") "__init__") (fdOf P.K ("BadMachine", some "__init__")) := T.fun_ 18 rfl
theorem bx_BadMachine (T : T0 P mg base w) : Binds P.K (fdOf P.K ("BadMachine", some "__init__")) ["self"] [] := (Fx_BadMachine T).bindsN fun _ _ _ _ _ _ us hl => match us, hl with | [_], _ => rfl
theorem m_BadMachine (T : T0 P mg base w) : mg "BadMachine" = some (.ref (He.ga P.K "BadMachine")) := T.glo 14 rfl
theorem o_BadMachine (T : T0 P mg base w) : OexG P.K (He.ga P.K "BadMachine") := (T.exc 0 rfl).1
theorem fx_BadMachine (T : T0 P mg base w) : ∀ f ∈ (["word"] : List Str), PySem.W.findIn P.K (.ref (He.ga P.K "BadMachine")) f = some none := (T.exc 0 rfl).2.1
theorem i_BadMachine (T : T0 P mg base w) : PySem.W.findIn P.K (.ref (He.ga P.K "BadMachine")) "__init__" = some (some (.ref (He.ma P.K (He.ga P.K "BadMachine") "__init__"))) := (T.exc 0 rfl).2.2.1
theorem t_BadMachine (T : T0 P mg base w) : PySem.W.typeIn P.K (.ref (He.ma P.K (He.ga P.K "BadMachine") "__init__")) = some (.type "function") := (T.exc 0 rfl).2.2.2
theorem cl_BadMachine (T : T0 P mg base w) : P.cls "BadMachine" = some (He.ga P.K "BadMachine") := T.clsOf (by decide +kernel)
theorem okx_BadMachine (T : T0 P mg base w) : FnOk Pr w P.K mg base (L2.CX Pr w) 1 (He.ma P.K (He.ga P.K "BadMachine") "__init__") (fdOf P.K ("BadMachine", some "__init__")) ["self"] (spXI P.K 0 ["word"] (fun _ => [.str "BadMachine"])) := xinit0 (Fx_BadMachine T) scx_BadMachine rfl
theorem m_Machine (T : T0 P mg base w) : mg "Machine" = some (.ref (He.ga P.K "Machine")) := T.glo 15 rfl
theorem cl_Machine (T : T0 P mg base w) : P.cls "Machine" = some (He.ga P.K "Machine") := T.clsOf (by decide +kernel)
theorem kc_Machine (T : T0 P mg base w) : Cls P.K (He.ga P.K "Machine") := T.isCls 16 rfl
theorem nf_Machine_first (T : T0 P mg base w) : ∀ C, P.cls "Machine" = some C → Cls P.K C ∧ NoAttr P.K C "first" := T.noFld (cl_Machine T) (kc_Machine T) 17 rfl
theorem nf_Machine_last (T : T0 P mg base w) : ∀ C, P.cls "Machine" = some C → Cls P.K C ∧ NoAttr P.K C "last" := T.noFld (cl_Machine T) (kc_Machine T) 18 rfl
theorem nf_Machine_signs (T : T0 P mg base w) : ∀ C, P.cls "Machine" = some C → Cls P.K C ∧ NoAttr P.K C "signs" := T.noFld (cl_Machine T) (kc_Machine T) 19 rfl
theorem nf_Machine_ways (T : T0 P mg base w) : ∀ C, P.cls "Machine" = some C → Cls P.K C ∧ NoAttr P.K C "ways" := T.noFld (cl_Machine T) (kc_Machine T) 20 rfl
theorem ow_Machine (T : T0 P mg base w) : OZ.OwC P.K (He.ga P.K "Machine") := T.isOw 0 rfl
theorem km_Machine___eq__ (T : T0 P mg base w) : Meth P.K (He.ga P.K "Machine") "__eq__" (He.ma P.K (He.ga P.K "Machine") "__eq__") := T.isMeth 21 rfl
theorem km_Machine___len__ (T : T0 P mg base w) : Meth P.K (He.ga P.K "Machine") "__len__" (He.ma P.K (He.ga P.K "Machine") "__len__") := T.isMeth 22 rfl
theorem km_Machine___repr__ (T : T0 P mg base w) : Meth P.K (He.ga P.K "Machine") "__repr__" (He.ma P.K (He.ga P.K "Machine") "__repr__") := T.isMeth 23 rfl
theorem mk_Machine (T : T0 P mg base w) : Mk P.K (He.ga P.K "Machine") (He.ma P.K (He.ga P.K "Machine") "__init__") := T.isMk 24 rfl
theorem z_abs (T : T0 P mg base w) : mg "abs" = none := T.free 25 rfl
theorem z_all (T : T0 P mg base w) : mg "all" = none := T.free 26 rfl
theorem z_bool (T : T0 P mg base w) : mg "bool" = none := T.free 27 rfl
theorem z_dict (T : T0 P mg base w) : mg "dict" = none := T.free 28 rfl
theorem z_int (T : T0 P mg base w) : mg "int" = none := T.free 29 rfl
theorem z_isinstance (T : T0 P mg base w) : mg "isinstance" = none := T.free 30 rfl
theorem z_len (T : T0 P mg base w) : mg "len" = none := T.free 31 rfl
theorem z_list (T : T0 P mg base w) : mg "list" = none := T.free 32 rfl
theorem z_range (T : T0 P mg base w) : mg "range" = none := T.free 33 rfl
theorem z_repr (T : T0 P mg base w) : mg "repr" = none := T.free 34 rfl
theorem z_sorted (T : T0 P mg base w) : mg "sorted" = none := T.free 35 rfl
theorem z_str (T : T0 P mg base w) : mg "str" = none := T.free 36 rfl
theorem z_tuple (T : T0 P mg base w) : mg "tuple" = none := T.free 37 rfl
theorem n_LONGEST (T : T0 P mg base w) {W : WX} {X : Cx} {pos : Pos} (hmg : X.mg = mg := by rfl) (hg : Gl X "LONGEST" := by rfl) : VE P W X (.Name "LONGEST" pos) (eC (.int 6)) := T.name 0 rfl hmg hg
theorem n_SMALL (T : T0 P mg base w) {W : WX} {X : Cx} {pos : Pos} (hmg : X.mg = mg := by rfl) (hg : Gl X "SMALL" := by rfl) : VE P W X (.Name "SMALL" pos) (eC (.str "abcdefghijklmnopqrstuvwxyz")) := T.name 1 rfl hmg hg
theorem ok__law_bag__1 (T : T0 P mg base w) : FnOk Pr w P.K mg base (L2.CX Pr w) 1 (He.ga P.K "_law_bag") (fdOf P.K ("_law_bag", none)) ["_law_script"] (spF P 1 f__law_bag__1) := by
  unfold f__law_bag__1
  exact fn_ok (F__law_bag T) sc__law_bag rfl fun cdv A outer s H E hr => (vss_cons (vs_set (i := 1) sc__law_bag.nd rfl (by first | exact Or.inl rfl | exact Or.inr rfl) ve_int)
    (vss_cons (vs_for (passes_of rfl) rfl (vi_any rfl (ve_slG sl3 (ss_sl3 rfl) (vv 0) vo_none (vo_some ve_int))) (vg_name (i := 2) sc__law_bag.nd rfl (by first | exact Or.inl rfl | exact Or.inr rfl)) (vss_one (vs_set (i := 1) sc__law_bag.nd rfl (by first | exact Or.inl rfl | exact Or.inr rfl) (ve_bin op_modN os_mod (ve_bin op_add4 (os_add rfl) (ve_bin op_add4 (os_add rfl) (ve_bin op_mul2 os_mul (vv 1) ve_int) (ve_bin op_modN os_mod (vv 2) ve_int)) ve_int) ve_int))))
    (vss_one (vs_ret (ve_lstC (va_cons (ve_callTy call_list_of (cs_listOf rfl) rfl (z_list T) (by decide +kernel) (va_cons (ve_slG sl3 (ss_sl3 rfl) (vv 0) vo_none (vo_some ve_int)) va_nil)) (va_cons ve_int (va_cons ve_int (va_cons (vv 1) (va_cons ve_int va_nil))))))))))
theorem ok__law_pull (T : T0 P mg base w) : FnOk Pr w P.K mg base (L2.CX Pr w) 1 (He.ga P.K "_law_pull") (fdOf P.K ("_law_pull", none)) ["_law_bag_here", "_law_sides"] (spF P 2 f__law_pull) := by
  unfold f__law_pull
  exact fn_ok (F__law_pull T) sc__law_pull rfl fun cdv A outer s H E hr => (vss_cons (vs_if (vt_w (vw_and (vt_cmp (op_eqD hr.units) (os_eq rfl) (ve_ix rfl (vv 0) ve_int) ve_int (nomark _)) (vw_and1 (vt_cmp op_lt os_lt (ve_ix rfl (vv 0) ve_int) (ve_callB call_len (cs_len rfl) rfl (z_len T) (by decide +kernel) (va_cons (ve_ix rfl (vv 0) ve_int) va_nil)) (nomark _))))) (vss_cons (vs_set (i := 2) sc__law_pull.nd rfl (by first | exact Or.inl rfl | exact Or.inr rfl) (ve_ix rfl (ve_ix rfl (vv 0) ve_int) (ve_ix rfl (vv 0) ve_int)))
    (vss_cons (vs_sub (ve_bin op_add4 (os_add rfl) (ve_ix rfl (vv 0) ve_int) ve_int) (vv 0) ve_int)
    (vss_one (vs_if (vt_cmp op_ge os_ge (vv 2) (ve_bin op_pow os_pow ve_int ve_int) (nomark _)) (vss_one (vs_sub (vv 2) (vv 0) ve_int)) (vss_one (vs_sub (ve_bin op_modN os_mod (ve_bin op_add4 (os_add rfl) (ve_bin op_add4 (os_add rfl) (ve_bin op_mul2 os_mul (ve_ix rfl (vv 0) ve_int) ve_int) (ve_bin op_modN os_mod (vv 2) ve_int)) ve_int) ve_int) (vv 0) ve_int)))))) vss_nil)
    (vss_cons (vs_if (vt_cmp op_gt os_gt (ve_ix rfl (vv 0) ve_int) ve_int (nomark _)) (vss_cons (vs_set (i := 3) sc__law_pull.nd rfl (by first | exact Or.inl rfl | exact Or.inr rfl) (ve_bin op_modN os_mod (ve_ix rfl (vv 0) ve_int) (vv 1)))
    (vss_cons (vs_sub (ve_bin op_fdivP os_fdiv (ve_ix rfl (vv 0) ve_int) (vv 1)) (vv 0) ve_int)
    (vss_one (vs_ret (vv 3))))) vss_nil)
    (vss_cons (vs_sub (ve_bin op_add4 (os_add rfl) (ve_ix rfl (vv 0) ve_int) ve_int) (vv 0) ve_int)
    (vss_cons (vs_set (i := 4) sc__law_pull.nd rfl (by first | exact Or.inl rfl | exact Or.inr rfl) (ve_bin op_modN os_mod (ve_bin op_add4 (os_add rfl) (ve_ix rfl (vv 0) ve_int) (ve_bin op_mul2 os_mul (ve_ix rfl (vv 0) ve_int) ve_int)) ve_int))
    (vss_cons (vs_sub (ve_bin op_modN os_mod (ve_bin op_add4 (os_add rfl) (ve_bin op_add4 (os_add rfl) (ve_bin op_mul2 os_mul (ve_bin op_modN os_mod (ve_bin op_mul2 os_mul (vv 4) (vv 4)) ve_int) (ve_bin op_add4 (os_add rfl) (ve_bin op_modN os_mod (vv 4) ve_int) ve_int)) (ve_bin op_mul2 os_mul ve_int (vv 4))) ve_int) ve_int) (vv 0) ve_int)
    (vss_one (vs_ret (ve_bin op_modN os_mod (ve_bin op_add4 (os_add rfl) (ve_bin op_fdivP os_fdiv (ve_ix rfl (vv 0) ve_int) ve_int) (ve_bin op_mul2 os_mul (ve_bin op_modN os_mod (ve_ix rfl (vv 0) ve_int) ve_int) ve_int)) (vv 1)))))))))
theorem ok__law_of (T : T0 P mg base w) : FnOk Pr w P.K mg base (L2.CX Pr w) 2 (He.ga P.K "_law_of") (fdOf P.K ("_law_of", none)) ["_law_bag_here", "_law_some"] (spF P 2 f__law_of) := by
  unfold f__law_of
  exact fn_ok (F__law_of T) sc__law_of rfl fun cdv A outer s H E hr => (vss_one (vs_ret (ve_ix rfl (vv 1) (ve_call (ok__law_pull T) (hr.mono (by omega)) rfl (m__law_pull T) (F__law_pull T).kp (bd__law_pull T) (takes_of rfl rfl rfl rfl) (va_cons (vv 0) (va_cons (ve_callB call_len (cs_len rfl) rfl (z_len T) (by decide +kernel) (va_cons (vv 1) va_nil)) va_nil))))))
theorem ok__law_abc (T : T0 P mg base w) : FnOk Pr w P.K mg base (L2.CX Pr w) 3 (He.ga P.K "_law_abc") (fdOf P.K ("_law_abc", none)) ["_law_bag_here", "_law_many"] (spF P 2 f__law_abc) := by
  unfold f__law_abc
  exact fn_ok (F__law_abc T) sc__law_abc rfl fun cdv A outer s H E hr => (vss_cons (vs_par (i := 2) (j := 3) rfl sc__law_abc.nd rfl rfl (by decide) rfl rfl (va_cons (ve_call (ok__law_pull T) (hr.mono (by omega)) rfl (m__law_pull T) (F__law_pull T).kp (bd__law_pull T) (takes_of rfl rfl rfl rfl) (va_cons (vv 0) (va_cons ve_int va_nil))) (va_cons (ve_lstC va_nil) va_nil)) (by rfl))
    (vss_cons (vs_set (i := 4) sc__law_abc.nd rfl (by first | exact Or.inl rfl | exact Or.inr rfl) (ve_call (ok__law_of T) (hr.mono (by omega)) rfl (m__law_of T) (F__law_of T).kp (bd__law_of T) (takes_of rfl rfl rfl rfl) (va_cons (vv 0) (va_cons (ve_lst (va_cons ve_str (va_cons ve_str (va_cons ve_str (va_cons ve_str (va_cons ve_str va_nil)))))) va_nil))))
    (vss_cons (vs_set (i := 5) sc__law_abc.nd rfl (by first | exact Or.inl rfl | exact Or.inr rfl) (ve_call (ok__law_pull T) (hr.mono (by omega)) rfl (m__law_pull T) (F__law_pull T).kp (bd__law_pull T) (takes_of rfl rfl rfl rfl) (va_cons (vv 0) (va_cons (ve_bin op_add4 (os_add rfl) (ve_callB call_len (cs_len rfl) rfl (z_len T) (by decide +kernel) (va_cons (vv 4) va_nil)) ve_int) va_nil))))
    (vss_cons (vs_for (passes_of rfl) rfl (vi_range1 rfl (z_range T) (va_cons (vv 1) va_nil)) (vg_name (i := 6) sc__law_abc.nd rfl (by first | exact Or.inl rfl | exact Or.inr rfl)) (vss_cons (vs_set (i := 7) sc__law_abc.nd rfl (by first | exact Or.inl rfl | exact Or.inr rfl) (ve_ix rfl ve_str (ve_bin op_modN os_mod (ve_bin op_add4 (os_add rfl) (vv 2) (ve_bin op_mul2 os_mul ve_int (vv 6))) ve_int)))
    (vss_one (vs_expr (ve_m rfl ⟨by decide, by decide, by decide⟩ PySem.F.plainAttrs_list PySem.F.slot_list_append PySem.F.type_list_append mt_append ms_append (vv 3) (va_cons (ve_bin op_add4 (os_add rfl) (ve_bin op_add4 (os_add rfl) (ve_slG sl3 (ss_sl3 rfl) (vv 4) vo_none (vo_some (vv 5))) (vv 7)) (ve_slG sl3 (ss_sl3 rfl) (vv 4) (vo_some (vv 5)) vo_none)) va_nil))))))
    (vss_one (vs_ret (vv 3)))))))
theorem ok__law_gcd (T : T0 P mg base w) : FnOk Pr w P.K mg base (L2.CX Pr w) 1 (He.ga P.K "_law_gcd") (fdOf P.K ("_law_gcd", none)) ["_law_one", "_law_other"] (spF P 2 f__law_gcd) := by
  unfold f__law_gcd
  exact fn_ok (F__law_gcd T) sc__law_gcd rfl fun cdv A outer s H E hr => (vss_cons (vs_while (passes_of rfl) (vt_cmp (op_neD hr.units) (os_ne rfl) (vv 1) ve_int (nomark _)) (vss_one (vs_par (i := 0) (j := 1) rfl sc__law_gcd.nd rfl rfl (by decide) rfl rfl (va_cons (vv 1) (va_cons (ve_bin op_modN os_mod (vv 0) (vv 1)) va_nil)) (by rfl))))
    (vss_one (vs_ret (ve_callB call_abs cs_abs rfl (z_abs T) (by decide +kernel) (va_cons (vv 0) va_nil)))))
theorem ok__law_fr (T : T0 P mg base w) : FnOk Pr w P.K mg base (L2.CX Pr w) 2 (He.ga P.K "_law_fr") (fdOf P.K ("_law_fr", none)) ["_law_top", "_law_bottom"] (spF P 2 f__law_fr) := by
  unfold f__law_fr
  exact fn_ok (F__law_fr T) sc__law_fr rfl fun cdv A outer s H E hr => (vss_cons (vs_set (i := 2) sc__law_fr.nd rfl (by first | exact Or.inl rfl | exact Or.inr rfl) (ve_call (ok__law_gcd T) (hr.mono (by omega)) rfl (m__law_gcd T) (F__law_gcd T).kp (bd__law_gcd T) (takes_of rfl rfl rfl rfl) (va_cons (vv 0) (va_cons (vv 1) va_nil))))
    (vss_cons (vs_set (i := 2) sc__law_fr.nd rfl (by first | exact Or.inl rfl | exact Or.inr rfl) (ve_if (vt_cmp op_lt os_lt (vv 1) ve_int (nomark _)) (ve_bin op_sub os_sub ve_int (vv 2)) (vv 2)))
    (vss_one (vs_ret (ve_tup (va_cons (ve_bin op_fdivP os_fdiv (vv 0) (vv 2)) (va_cons (ve_bin op_fdivP os_fdiv (vv 1) (vv 2)) va_nil)))))))
theorem ok__law_light (T : T0 P mg base w) : FnOk Pr w P.K mg base (L2.CX Pr w) 3 (He.ga P.K "_law_light") (fdOf P.K ("_law_light", none)) ["_law_bag_here"] (spF P 1 f__law_light) := by
  unfold f__law_light
  exact fn_ok (F__law_light T) sc__law_light rfl fun cdv A outer s H E hr => (vss_one (vs_ret (ve_call (ok__law_fr T) (hr.mono (by omega)) rfl (m__law_fr T) (F__law_fr T).kp (bd__law_fr T) (takes_of rfl rfl rfl rfl) (va_cons (ve_bin op_sub os_sub (ve_call (ok__law_pull T) (hr.mono (by omega)) rfl (m__law_pull T) (F__law_pull T).kp (bd__law_pull T) (takes_of rfl rfl rfl rfl) (va_cons (vv 0) (va_cons ve_int va_nil))) ve_int) (va_cons (ve_ix rfl (ve_lst (va_cons ve_int (va_cons ve_int (va_cons ve_int (va_cons ve_int (va_cons ve_int (va_cons ve_int va_nil))))))) (ve_call (ok__law_pull T) (hr.mono (by omega)) rfl (m__law_pull T) (F__law_pull T).kp (bd__law_pull T) (takes_of rfl rfl rfl rfl) (va_cons (vv 0) (va_cons ve_int va_nil)))) va_nil)))))
theorem ok__law_engine (T : T0 P mg base w) : FnOk Pr w P.K mg base (L2.CX Pr w) 4 (He.ga P.K "_law_engine") (fdOf P.K ("_law_engine", none)) ["_law_bag_here", "_law_signs", "_law_cap"] (spF P 3 f__law_engine) := by
  unfold f__law_engine
  exact fn_ok (F__law_engine T) sc__law_engine rfl fun cdv A outer s H E hr => (vss_cons (vs_set (i := 3) sc__law_engine.nd rfl (by first | exact Or.inl rfl | exact Or.inr rfl) (ve_call (ok__law_pull T) (hr.mono (by omega)) rfl (m__law_pull T) (F__law_pull T).kp (bd__law_pull T) (takes_of rfl rfl rfl rfl) (va_cons (vv 0) (va_cons (ve_bin op_add4 (os_add rfl) (vv 2) ve_int) va_nil))))
    (vss_cons (vs_set (i := 4) sc__law_engine.nd rfl (by first | exact Or.inl rfl | exact Or.inr rfl) (ve_call (ok__law_pull T) (hr.mono (by omega)) rfl (m__law_pull T) (F__law_pull T).kp (bd__law_pull T) (takes_of rfl rfl rfl rfl) (va_cons (vv 0) (va_cons ve_int va_nil))))
    (vss_cons (vs_set (i := 5) sc__law_engine.nd rfl (by first | exact Or.inl rfl | exact Or.inr rfl) ve_newDC)
    (vss_cons (vs_for (passes_of rfl) rfl (vi_any rfl (vv 1)) (vg_name (i := 6) sc__law_engine.nd rfl (by first | exact Or.inl rfl | exact Or.inr rfl)) (vss_one (vs_dput hr.units (ve_lc (own := [("_law_row", 7)]) rfl sc__law_engine.nd (vi_range1 rfl (z_range T) (va_cons (vv 3) va_nil)) (blkOk_by (by kernel_rfl)) (fun _ _ _ _ _ => (vg_name (i := 7) sc__law_engine.nd rfl (by first | exact Or.inl rfl | exact Or.inr rfl))) (fun _ _ _ _ _ => vts_nil) (fun _ _ _ _ _ => (ve_lc (own := [("_law_k", 8)]) rfl sc__law_engine.nd (vi_range1 rfl (z_range T) (va_cons (vv 3) va_nil)) (blkOk_by (by kernel_rfl)) (fun _ _ _ _ _ => (vg_name (i := 8) sc__law_engine.nd rfl (by first | exact Or.inl rfl | exact Or.inr rfl))) (fun _ _ _ _ _ => vts_nil) (fun _ _ _ _ _ => (ve_if (vt_cmp op_ge os_ge (ve_call (ok__law_pull T) (hr.mono (by omega)) rfl (m__law_pull T) (F__law_pull T).kp (bd__law_pull T) L2.takes0 (va_cons (vv 0) (va_cons ve_int va_nil))) (vv 4) (nomark _)) (ve_call (ok__law_light T) (hr.mono (by omega)) rfl (m__law_light T) (F__law_light T).kp (bd__law_light T) L2.takes0 (va_cons (vv 0) va_nil)) (ve_tup (va_cons ve_int (va_cons ve_int va_nil)))))))) (vv 5) (vv 6))))
    (vss_one (vs_ret (ve_tup (va_cons (vv 1) (va_cons (ve_lc (own := [("_law_k", 8)]) rfl sc__law_engine.nd (vi_range1 rfl (z_range T) (va_cons (vv 3) va_nil)) (blkOk_by (by kernel_rfl)) (fun _ _ _ _ _ => (vg_name (i := 8) sc__law_engine.nd rfl (by first | exact Or.inl rfl | exact Or.inr rfl))) (fun _ _ _ _ _ => vts_nil) (fun _ _ _ _ _ => (ve_call (ok__law_light T) (hr.mono (by omega)) rfl (m__law_light T) (F__law_light T).kp (bd__law_light T) L2.takes0 (va_cons (vv 0) va_nil)))) (va_cons (vv 5) (va_cons (ve_lc (own := [("_law_k", 8)]) rfl sc__law_engine.nd (vi_range1 rfl (z_range T) (va_cons (vv 3) va_nil)) (blkOk_by (by kernel_rfl)) (fun _ _ _ _ _ => (vg_name (i := 8) sc__law_engine.nd rfl (by first | exact Or.inl rfl | exact Or.inr rfl))) (fun _ _ _ _ _ => vts_nil) (fun _ _ _ _ _ => (ve_call (ok__law_light T) (hr.mono (by omega)) rfl (m__law_light T) (F__law_light T).kp (bd__law_light T) L2.takes0 (va_cons (vv 0) va_nil)))) va_nil)))))))))))
theorem ok_is_letter (T : T0 P mg base w) : FnOk Pr w P.K mg base (L2.CX Pr w) 1 (He.ga P.K "is_letter") (fdOf P.K ("is_letter", none)) ["text"] (spF P 1 f_is_letter) := by
  unfold f_is_letter
  exact fn_ok (F_is_letter T) sc_is_letter rfl fun cdv A outer s H E hr => (vss_one (vs_ret (ve_and (ve_chain op_le op_le os_le os_le ve_int (ve_callB call_len (cs_len rfl) rfl (z_len T) (by decide +kernel) (va_cons (vv 0) va_nil)) (n_LONGEST T)) (ve_one (ve_callB (cr_all rfl) (cs_all rfl) rfl (z_all T) (by decide +kernel) (va_cons (ve_lc (own := [("sign", 1)]) rfl sc_is_letter.nd (vi_any rfl (vv 0)) (blkOk_by (by kernel_rfl)) (fun _ _ _ _ _ => (vg_name (i := 1) sc_is_letter.nd rfl (by first | exact Or.inl rfl | exact Or.inr rfl))) (fun _ _ _ _ _ => vts_nil) (fun _ _ _ _ _ => (ve_cmp op_inA (os_in rfl false) (vv 1) (n_SMALL T) rfl))) va_nil))))))
theorem ok_good_lines (T : T0 P mg base w) : FnOk Pr w P.K mg base (L2.CX Pr w) 1 (He.ga P.K "good_lines") (fdOf P.K ("good_lines", none)) ["lines", "many"] (spF P 2 f_good_lines) := by
  unfold f_good_lines
  exact fn_ok (F_good_lines T) sc_good_lines rfl fun cdv A outer s H E hr => (vss_one (vs_ret (ve_and (ve_cmp (op_eqD hr.units) (os_eq rfl) (ve_callB call_len (cs_len rfl) rfl (z_len T) (by decide +kernel) (va_cons (vv 0) va_nil)) (vv 1) (nomark _)) (ve_one (ve_callB (cr_all rfl) (cs_all rfl) rfl (z_all T) (by decide +kernel) (va_cons (ve_lc (own := [("line", 2)]) rfl sc_good_lines.nd (vi_any rfl (vv 0)) (blkOk_by (by kernel_rfl)) (fun _ _ _ _ _ => (vg_name (i := 2) sc_good_lines.nd rfl (by first | exact Or.inl rfl | exact Or.inr rfl))) (fun _ _ _ _ _ => vts_nil) (fun _ _ _ _ _ => (ve_cmp (op_eqD hr.units) (os_eq rfl) (ve_callB call_len (cs_len rfl) rfl (z_len T) (by decide +kernel) (va_cons (vv 2) va_nil)) (vv 1) (nomark _)))) va_nil))))))
theorem ok_Machine___init__ (T : T0 P mg base w) : FnOk Pr w P.K mg base (L2.CX Pr w) 3 (He.ma P.K (He.ga P.K "Machine") "__init__") (fdOf P.K ("Machine", some "__init__")) ["self", "letters", "begin", "steps", "end"] (spF P 5 f_Machine___init__) := by
  unfold f_Machine___init__
  exact fn_ok (F_Machine___init__ T) sc_Machine___init__ rfl fun cdv A outer s H E hr => (vss_cons (vs_set (i := 5) sc_Machine___init__.nd rfl (by first | exact Or.inl rfl | exact Or.inr rfl) (ve_callB call_len (cs_len rfl) rfl (z_len T) (by decide +kernel) (va_cons (vv 2) va_nil)))
    (vss_cons (vs_setSc (j := 6) (y := "letter") (i := 7) rfl sc_Machine___init__.nd rfl rfl (sw_trueS rfl rfl rfl (by decide +kernel)) rfl (vv 1) (blkOk_by (by kernel_rfl)) rfl (fun _ _ _ _ _ => (by first | exact Or.inl rfl | exact Or.inr rfl)) (fun _ _ _ _ _ => (by first | exact Or.inl rfl | exact Or.inr rfl)) (fun _ _ _ _ _ => (by first | exact Or.inl rfl | exact Or.inr (Or.inl rfl) | exact Or.inr (Or.inr rfl))) (by decide) (by decide))
    (vss_cons (vs_if (vt_w (vw_or (vt_cmp (op_neD hr.units) (os_ne rfl) (ve_callB call_len (cs_len rfl) rfl (z_len T) (by decide +kernel) (va_cons (vv 4) va_nil)) (vv 5) (nomark _)) (vw_or (vt_cmp op_lt os_lt (ve_callB call_lenSt cs_lenSt rfl (z_len T) (by decide +kernel) (va_cons (vv 6) va_nil)) (ve_callB call_len (cs_len rfl) rfl (z_len T) (by decide +kernel) (va_cons (vv 1) va_nil)) (nomark _)) (vw_or1 (vt_cmp (op_neD hr.units) (os_ne rfl) (ve_callB cr_sortedS (cs_sortL rfl) rfl (z_sorted T) (by decide +kernel) (va_cons (vv 1) va_nil)) (ve_callB (call_sortedD rfl) cs_sortK rfl (z_sorted T) (by decide +kernel) (va_cons (vv 3) va_nil)) (nomark _)))))) (vss_one (vs_raise0 rfl (takes_of rfl rfl rfl rfl) (o_BadMachine T) (i_BadMachine T) (t_BadMachine T) (okx_BadMachine T) (hr.mono (by omega)) (bx_BadMachine T) L2.passL rfl (m_BadMachine T) xmk0 (fx_BadMachine T) (cl_BadMachine T))) vss_nil)
    (vss_cons (vs_if (vt_not (vt_val (ve_callB (cr_all rfl) (cs_all rfl) rfl (z_all T) (by decide +kernel) (va_cons (ve_lc (own := [("letter", 7)]) rfl sc_Machine___init__.nd (vi_any rfl (vv 1)) (blkOk_by (by kernel_rfl)) (fun _ _ _ _ _ => (vg_name (i := 7) sc_Machine___init__.nd rfl (by first | exact Or.inl rfl | exact Or.inr rfl))) (fun _ _ _ _ _ => vts_nil) (fun _ _ _ _ _ => (ve_and (ve_call (ok_is_letter T) (hr.mono (by omega)) rfl (m_is_letter T) (F_is_letter T).kp (bd_is_letter T) L2.takes0 (va_cons (vv 7) va_nil)) (ve_one (ve_call (ok_good_lines T) (hr.mono (by omega)) rfl (m_good_lines T) (F_good_lines T).kp (bd_good_lines T) L2.takes0 (va_cons (ve_dix hr.units (vv 3) (vv 7)) (va_cons (vv 5) va_nil))))))) va_nil)))) (vss_one (vs_raise0 rfl (takes_of rfl rfl rfl rfl) (o_BadMachine T) (i_BadMachine T) (t_BadMachine T) (okx_BadMachine T) (hr.mono (by omega)) (bx_BadMachine T) L2.passL rfl (m_BadMachine T) xmk0 (fx_BadMachine T) (cl_BadMachine T))) vss_nil)
    (vss_cons (vs_fset (nf_Machine_signs T) (ve_callB cr_sortedS (cs_sortL rfl) rfl (z_sorted T) (by decide +kernel) (va_cons (vv 1) va_nil)) (vv 0))
    (vss_cons (vs_fset (nf_Machine_first T) (ve_callTy call_list_of (cs_listOf rfl) rfl (z_list T) (by decide +kernel) (va_cons (vv 2) va_nil)) (vv 0))
    (vss_cons (vs_fset (nf_Machine_last T) (ve_callTy call_list_of (cs_listOf rfl) rfl (z_list T) (by decide +kernel) (va_cons (vv 4) va_nil)) (vv 0))
    (vss_one (vs_fset (nf_Machine_ways T) (ve_dc (own := [("letter", 7)]) rfl sc_Machine___init__.nd (vi_any rfl (vv 1)) (blkOk_by (by kernel_rfl)) (fun _ _ _ _ _ => (vg_name (i := 7) sc_Machine___init__.nd rfl (by first | exact Or.inl rfl | exact Or.inr rfl))) (fun _ _ _ _ _ => (vv 7)) (fun _ _ _ _ _ => (ve_lc (own := [("line", 8)]) rfl sc_Machine___init__.nd (vi_any rfl (ve_dix hr.units (vv 3) (vv 7))) (blkOk_by (by kernel_rfl)) (fun _ _ _ _ _ => (vg_name (i := 8) sc_Machine___init__.nd rfl (by first | exact Or.inl rfl | exact Or.inr rfl))) (fun _ _ _ _ _ => vts_nil) (fun _ _ _ _ _ => (ve_callTy call_list_of (cs_listOf rfl) rfl (z_list T) (by decide +kernel) (va_cons (vv 8) va_nil)))))) (vv 0))))))))))
theorem ok__law_builds (T : T0 P mg base w) : FnOk Pr w P.K mg base (L2.CX Pr w) 5 (He.ga P.K "_law_builds") (fdOf P.K ("_law_builds", none)) ["_law_m"] (spF P 1 f__law_builds) := by
  unfold f__law_builds
  exact fn_ok (F__law_builds T) sc__law_builds rfl fun cdv A outer s H E hr => (vss_one (vs_ret (ve_makeX (n := 5) (cl_Machine T) (mk_Machine T) (ok_Machine___init__ T) (hr.mono (by omega)) rfl (m_Machine T) (bd_Machine___init__ T) (takes_of rfl rfl rfl rfl) (va_cons (ve_ix rfl (vv 0) ve_int) (va_cons (ve_ix rfl (vv 0) ve_int) (va_cons (ve_ix rfl (vv 0) ve_int) (va_cons (ve_ix rfl (vv 0) ve_int) va_nil)))))))
theorem ok_Machine___eq__ (T : T0 P mg base w) : FnOk Pr w P.K mg base (L2.CX Pr w) 1 (He.ma P.K (He.ga P.K "Machine") "__eq__") (fdOf P.K ("Machine", some "__eq__")) ["self", "other"] (spF P 2 f_Machine___eq__) := by
  unfold f_Machine___eq__
  exact fn_ok (F_Machine___eq__ T) sc_Machine___eq__ rfl fun cdv A outer s H E hr => (vss_cons (vs_if (vt_w (vw_or (vt_not (vt_val (ve_isiO rfl (cl_Machine T) (kc_Machine T) (ow_Machine T) rfl (z_isinstance T) (vv 1) (pe_glob rfl (m_Machine T) rfl)))) (vw_or1 (vt_cmp (op_neD hr.units) (os_ne rfl) (ve_fld (nf_Machine_signs T) (vv 0)) (ve_fld (nf_Machine_signs T) (vv 1)) (nomark _))))) (vss_one (vs_ret ve_bl)) vss_nil)
    (vss_one (vs_ret (ve_and (ve_cmp (op_eqD hr.units) (os_eq rfl) (ve_fld (nf_Machine_first T) (vv 0)) (ve_fld (nf_Machine_first T) (vv 1)) (nomark _)) (ve_and (ve_cmp (op_eqD hr.units) (os_eq rfl) (ve_fld (nf_Machine_last T) (vv 0)) (ve_fld (nf_Machine_last T) (vv 1)) (nomark _)) (ve_one (ve_cmp (op_eqDk (room65 hr)) (os_eqDk rfl) (ve_fld (nf_Machine_ways T) (vv 0)) (ve_fld (nf_Machine_ways T) (vv 1)) (nomark _))))))))
theorem ok_Machine___repr__ (T : T0 P mg base w) : FnOk Pr w P.K mg base (L2.CX Pr w) 1 (He.ma P.K (He.ga P.K "Machine") "__repr__") (fdOf P.K ("Machine", some "__repr__")) ["self"] (spF P 1 f_Machine___repr__) := by
  unfold f_Machine___repr__
  exact fn_ok (F_Machine___repr__ T) sc_Machine___repr__ rfl fun cdv A outer s H E hr => (vss_one (vs_ret (ve_joined (.cons ve_str (.cons (ve_fmt (ve_callB call_len (cs_len rfl) rfl (z_len T) (by decide +kernel) (va_cons (ve_fld (nf_Machine_first T) (vv 0)) va_nil))) (.cons ve_str (.cons (ve_fmt (ve_callB call_len (cs_len rfl) rfl (z_len T) (by decide +kernel) (va_cons (ve_fld (nf_Machine_signs T) (vv 0)) va_nil))) (.cons ve_str .nil))))))))
theorem ok_Machine___len__ (T : T0 P mg base w) : FnOk Pr w P.K mg base (L2.CX Pr w) 1 (He.ma P.K (He.ga P.K "Machine") "__len__") (fdOf P.K ("Machine", some "__len__")) ["self"] (spF P 1 f_Machine___len__) := by
  unfold f_Machine___len__
  exact fn_ok (F_Machine___len__ T) sc_Machine___len__ rfl fun cdv A outer s H E hr => (vss_one (vs_ret (ve_callB call_len (cs_len rfl) rfl (z_len T) (by decide +kernel) (va_cons (ve_fld (nf_Machine_first T) (vv 0)) va_nil))))
theorem ok__law_same (T : T0 P mg base w) : ∀ n : Nat, FnOk Pr w P.K mg base (L2.CX Pr w) (0 + n) (He.ga P.K "_law_same") (fdOf P.K ("_law_same", none)) ["_law_found", "_law_due"] (spF P 2 (f__law_same n))
  | 0 => by rw [f__law_same_0]; exact fn_bad rfl
  | n + 1 => by
    have ih__law_same := ok__law_same T n
    rw [f__law_same_s]
    exact fn_ok (F__law_same T) sc__law_same rfl fun cdv A outer s H E hr0 => have hr : Room (0 + n) _ := hr0; (vss_cons (vs_if (vt_val (ve_isi2 .list .tuple rfl rfl (z_isinstance T) (vv 1) (pe_bltn rfl (z_list T) (by decide +kernel) rfl) (pe_bltn rfl (z_tuple T) (by decide +kernel) rfl))) (vss_cons (vs_if (vt_w (vw_or (vt_cmp (op_neD hr.units) (os_ne rfl) (ve_isi .list rfl rfl (z_isinstance T) (vv 0) (pe_bltn rfl (z_list T) (by decide +kernel) rfl)) (ve_isi .list rfl rfl (z_isinstance T) (vv 1) (pe_bltn rfl (z_list T) (by decide +kernel) rfl)) (nomark _)) (vw_or1 (vt_cmp (op_neD hr.units) (os_ne rfl) (ve_isi .tuple rfl rfl (z_isinstance T) (vv 0) (pe_bltn rfl (z_tuple T) (by decide +kernel) rfl)) (ve_isi .tuple rfl rfl (z_isinstance T) (vv 1) (pe_bltn rfl (z_tuple T) (by decide +kernel) rfl)) (nomark _))))) (vss_one (vs_ret ve_bl)) vss_nil)
    (vss_one (vs_ret (ve_and (ve_cmp (op_eqD hr.units) (os_eq rfl) (ve_callB call_len (cs_len rfl) rfl (z_len T) (by decide +kernel) (va_cons (vv 0) va_nil)) (ve_callB call_len (cs_len rfl) rfl (z_len T) (by decide +kernel) (va_cons (vv 1) va_nil)) (nomark _)) (ve_one (ve_callB (cr_all rfl) (cs_all rfl) rfl (z_all T) (by decide +kernel) (va_cons (ve_lc (own := [("_law_k", 2)]) rfl sc__law_same.nd (vi_range1 rfl (z_range T) (va_cons (ve_callB call_len (cs_len rfl) rfl (z_len T) (by decide +kernel) (va_cons (vv 1) va_nil)) va_nil)) (blkOk_by (by kernel_rfl)) (fun _ _ _ _ _ => (vg_name (i := 2) sc__law_same.nd rfl (by first | exact Or.inl rfl | exact Or.inr rfl))) (fun _ _ _ _ _ => vts_nil) (fun _ _ _ _ _ => (ve_call (ih__law_same) hr rfl (m__law_same T) (F__law_same T).kp (bd__law_same T) L2.takes0 (va_cons (ve_ix rfl (vv 0) (vv 2)) (va_cons (ve_ix rfl (vv 1) (vv 2)) va_nil))))) va_nil))))))) vss_nil)
    (vss_cons (vs_if (vt_w (vw_or (vt_isN (vv 1)) (vw_or1 (vt_isN (vv 0))))) (vss_one (vs_ret (ve_and (ve_isN (vv 0)) (ve_one (ve_isN (vv 1)))))) vss_nil)
    (vss_cons (vs_if (vt_w (vw_or (vt_cmp (op_neD hr.units) (os_ne rfl) (ve_isi .bool rfl rfl (z_isinstance T) (vv 1) (pe_bltn rfl (z_bool T) (by decide +kernel) rfl)) (ve_isi .bool rfl rfl (z_isinstance T) (vv 0) (pe_bltn rfl (z_bool T) (by decide +kernel) rfl)) (nomark _)) (vw_or1 (vt_cmp (op_neD hr.units) (os_ne rfl) (ve_isi .int rfl rfl (z_isinstance T) (vv 1) (pe_bltn rfl (z_int T) (by decide +kernel) rfl)) (ve_isi .int rfl rfl (z_isinstance T) (vv 0) (pe_bltn rfl (z_int T) (by decide +kernel) rfl)) (nomark _))))) (vss_one (vs_ret ve_bl)) vss_nil)
    (vss_one (vs_ret (ve_and (ve_cmp (op_eqD hr.units) (os_eq rfl) (ve_isi .str rfl rfl (z_isinstance T) (vv 1) (pe_bltn rfl (z_str T) (by decide +kernel) rfl)) (ve_isi .str rfl rfl (z_isinstance T) (vv 0) (pe_bltn rfl (z_str T) (by decide +kernel) rfl)) (nomark _)) (ve_one (ve_cmp (op_eqD hr.units) (os_eq rfl) (vv 0) (vv 1) (nomark _)))))))))
theorem ok__law_add (T : T0 P mg base w) : FnOk Pr w P.K mg base (L2.CX Pr w) 3 (He.ga P.K "_law_add") (fdOf P.K ("_law_add", none)) ["_law_one", "_law_other"] (spF P 2 f__law_add) := by
  unfold f__law_add
  exact fn_ok (F__law_add T) sc__law_add rfl fun cdv A outer s H E hr => (vss_one (vs_ret (ve_call (ok__law_fr T) (hr.mono (by omega)) rfl (m__law_fr T) (F__law_fr T).kp (bd__law_fr T) (takes_of rfl rfl rfl rfl) (va_cons (ve_bin op_add4 (os_add rfl) (ve_bin op_mul2 os_mul (ve_ix rfl (vv 0) ve_int) (ve_ix rfl (vv 1) ve_int)) (ve_bin op_mul2 os_mul (ve_ix rfl (vv 1) ve_int) (ve_ix rfl (vv 0) ve_int))) (va_cons (ve_bin op_mul2 os_mul (ve_ix rfl (vv 0) ve_int) (ve_ix rfl (vv 1) ve_int)) va_nil)))))
theorem ok_law (T : T0 P mg base w) (hs : ∃ m, base.Ns sysModules m) : RunC Pr w P.K mg base (L2.CX Pr w) (He.ga P.K "law") (fdOf P.K ("law", none)) ["_law_script"] (spF P 1 f_law) := by
  unfold f_law
  exact fn_okC (p := ("law", none)) (k := 40) ⟨rfl, by decide, by decide⟩ (F_law T) sc_law rfl fun s H E hr => (vss_cons (vs_set (i := 1) sc_law.nd rfl (by first | exact Or.inl rfl | exact Or.inr rfl) (ve_call (ok__law_bag__1 T) (hr.mono (by omega)) rfl (m__law_bag T) (F__law_bag T).kp (bd__law_bag T) (takes_of rfl rfl rfl rfl) (va_cons (vv 0) va_nil)))
    (vss_cons (vs_set (i := 2) sc_law.nd rfl (by first | exact Or.inl rfl | exact Or.inr rfl) (ve_call (ok__law_abc T) (hr.mono (by omega)) rfl (m__law_abc T) (F__law_abc T).kp (bd__law_abc T) (takes_of rfl rfl rfl rfl) (va_cons (vv 1) (va_cons (ve_bin op_add4 (os_add rfl) ve_int (ve_call (ok__law_pull T) (hr.mono (by omega)) rfl (m__law_pull T) (F__law_pull T).kp (bd__law_pull T) (takes_of rfl rfl rfl rfl) (va_cons (vv 1) (va_cons ve_int va_nil)))) va_nil))))
    (vss_cons (vs_set (i := 3) sc_law.nd rfl (by first | exact Or.inl rfl | exact Or.inr rfl) (ve_call (ok__law_engine T) (hr.mono (by omega)) rfl (m__law_engine T) (F__law_engine T).kp (bd__law_engine T) (takes_of rfl rfl rfl rfl) (va_cons (vv 1) (va_cons (vv 2) (va_cons ve_int va_nil)))))
    (vss_cons (vs_asg (ve_tup (va_cons (ve_call (ok__law_builds T) (hr.mono (by omega)) rfl (m__law_builds T) (F__law_builds T).kp (bd__law_builds T) (takes_of rfl rfl rfl rfl) (va_cons (vv 3) va_nil)) (va_cons (ve_makeX (n := 5) (cl_Machine T) (mk_Machine T) (ok_Machine___init__ T) (hr.mono (by omega)) rfl (m_Machine T) (bd_Machine___init__ T) (takes_of rfl rfl rfl rfl) (va_cons (ve_revL rfl (vv 2)) (va_cons (ve_callTy call_tuple_of (cs_tupOf rfl) rfl (z_tuple T) (by decide +kernel) (va_cons (ve_ix rfl (vv 3) ve_int) va_nil)) (va_cons (ve_callTy (call_dictP rfl) (cs_dictP rfl) rfl (z_dict T) (by decide +kernel) (va_cons (ve_lc (own := [("_law_sign", 4)]) rfl sc_law.nd (vi_any rfl (ve_revL rfl (vv 2))) (blkOk_by (by kernel_rfl)) (fun _ _ _ _ _ => (vg_name (i := 4) sc_law.nd rfl (by first | exact Or.inl rfl | exact Or.inr rfl))) (fun _ _ _ _ _ => vts_nil) (fun _ _ _ _ _ => (ve_tup (va_cons (vv 4) (va_cons (ve_dix hr.units (ve_ix rfl (vv 3) ve_int) (vv 4)) va_nil))))) va_nil)) (va_cons (ve_ix rfl (vv 3) ve_int) va_nil))))) va_nil))) (vg_tup rfl rfl (vgs_cons (vg_name (i := 5) sc_law.nd rfl (by first | exact Or.inl rfl | exact Or.inr rfl)) (vgs_cons (vg_name (i := 6) sc_law.nd rfl (by first | exact Or.inl rfl | exact Or.inr rfl)) vgs_nil))))
    (vss_cons (vs_if (vt_w (vw_or (vt_not (vt_cmp (op_eqO (km_Machine___eq__ T) (ok_Machine___eq__ T) (hr.mono (by omega)) (bd_Machine___eq__ T)) (os_eqO (cl_Machine T)) (vv 5) (vv 6) (nomark _))) (vw_or (vt_cmp (op_neO (km_Machine___eq__ T) (ow_Machine T) (ok_Machine___eq__ T) (hr.mono (by omega)) (bd_Machine___eq__ T)) (os_neO (cl_Machine T)) (vv 5) (vv 6) (nomark _)) (vw_or1 (vt_cmp (op_inO (km_Machine___eq__ T) (ow_Machine T) (ok_Machine___eq__ T) (hr.mono (by omega)) (bd_Machine___eq__ T)) (os_inO rfl (cl_Machine T)) (vv 5) (ve_lst (va_cons ve_non (va_cons ve_int (va_cons (ve_callB (call_reprO (km_Machine___repr__ T) (ok_Machine___repr__ T) (hr.mono (by omega)) (bd_Machine___repr__ T)) (cs_reprO (cl_Machine T)) rfl (z_repr T) (by decide +kernel) (va_cons (vv 5) va_nil)) (va_cons (vv 3) va_nil))))) rfl))))) (vss_one (vs_ret ve_bl)) vss_nil)
    (vss_cons (vs_if (vt_not (vt_val (ve_call (ok__law_same T 40) (hr.mono (by omega)) rfl (m__law_same T) (F__law_same T).kp (bd__law_same T) (takes_of rfl rfl rfl rfl) (va_cons (ve_lst (va_cons (ve_callB (call_lenO (km_Machine___len__ T) (ok_Machine___len__ T) (hr.mono (by omega)) (bd_Machine___len__ T)) (cs_lenO (cl_Machine T)) rfl (z_len T) (by decide +kernel) (va_cons (vv 5) va_nil)) (va_cons (ve_callB (call_reprO (km_Machine___repr__ T) (ok_Machine___repr__ T) (hr.mono (by omega)) (bd_Machine___repr__ T)) (cs_reprO (cl_Machine T)) rfl (z_repr T) (by decide +kernel) (va_cons (vv 5) va_nil)) (va_cons (ve_callTy (call_boolO (km_Machine___len__ T) (ow_Machine T) (ok_Machine___len__ T) (hr.mono (by omega)) (bd_Machine___len__ T)) (cs_boolO (cl_Machine T)) rfl (z_bool T) (by decide +kernel) (va_cons (vv 5) va_nil)) va_nil)))) (va_cons (ve_lst (va_cons (ve_callB call_len (cs_len rfl) rfl (z_len T) (by decide +kernel) (va_cons (ve_ix rfl (vv 3) ve_int) va_nil)) (va_cons (ve_bin op_add4 (os_add rfl) (ve_bin op_add4 (os_add rfl) (ve_bin op_add4 (os_add rfl) (ve_bin op_add4 (os_add rfl) ve_str (ve_callTy cr_str1 cs_str1 rfl (z_str T) (by decide +kernel) (va_cons (ve_callB call_len (cs_len rfl) rfl (z_len T) (by decide +kernel) (va_cons (ve_ix rfl (vv 3) ve_int) va_nil)) va_nil))) ve_str) (ve_callTy cr_str1 cs_str1 rfl (z_str T) (by decide +kernel) (va_cons (ve_callB call_len (cs_len rfl) rfl (z_len T) (by decide +kernel) (va_cons (vv 2) va_nil)) va_nil))) ve_str) (va_cons (ve_cmp (op_neD hr.units) (os_ne rfl) (ve_ix rfl (vv 3) ve_int) (ve_lst va_nil) (nomark _)) va_nil)))) va_nil))))) (vss_one (vs_ret ve_bl)) vss_nil)
    (vss_cons (vs_if (vt_cmp (op_neD hr.units) (os_ne rfl) (ve_ix rfl (vv 3) ve_int) (ve_lst va_nil) (nomark _)) (vss_cons (vs_par (i := 7) (j := 4) rfl sc_law.nd rfl rfl (by decide) rfl rfl (va_cons (ve_call (ok__law_pull T) (hr.mono (by omega)) rfl (m__law_pull T) (F__law_pull T).kp (bd__law_pull T) (takes_of rfl rfl rfl rfl) (va_cons (vv 1) (va_cons (ve_callB call_len (cs_len rfl) rfl (z_len T) (by decide +kernel) (va_cons (ve_ix rfl (vv 3) ve_int) va_nil)) va_nil))) (va_cons (ve_call (ok__law_of T) (hr.mono (by omega)) rfl (m__law_of T) (F__law_of T).kp (bd__law_of T) (takes_of rfl rfl rfl rfl) (va_cons (vv 1) (va_cons (vv 2) va_nil))) va_nil)) (by rfl))
    (vss_cons (vs_set (i := 8) sc_law.nd rfl (by first | exact Or.inl rfl | exact Or.inr rfl) (ve_callTy (call_dictP rfl) (cs_dictP rfl) rfl (z_dict T) (by decide +kernel) (va_cons (ve_lc (own := [("_law_name", 13)]) rfl sc_law.nd (vi_any rfl (vv 2)) (blkOk_by (by kernel_rfl)) (fun _ _ _ _ _ => (vg_name (i := 13) sc_law.nd rfl (by first | exact Or.inl rfl | exact Or.inr rfl))) (fun _ _ _ _ _ => vts_nil) (fun _ _ _ _ _ => (ve_tup (va_cons (vv 13) (va_cons (ve_lcC (own := [("_law_row", 14)]) rfl sc_law.nd (vi_any rfl (ve_dix hr.units (ve_ix rfl (vv 3) ve_int) (vv 13))) (blkOk_by (by kernel_rfl)) (fun _ _ _ _ _ => (vg_name (i := 14) sc_law.nd rfl (by first | exact Or.inl rfl | exact Or.inr rfl))) (fun _ _ _ _ _ => vts_nil) (fun _ _ _ _ _ => (ve_callTy call_list_of (cs_listOfC rfl) rfl (z_list T) (by decide +kernel) (va_cons (vv 14) va_nil)))) va_nil))))) va_nil)))
    (vss_cons (vs_sub (ve_call (ok__law_add T) (hr.mono (by omega)) rfl (m__law_add T) (F__law_add T).kp (bd__law_add T) (takes_of rfl rfl rfl rfl) (va_cons (ve_ix rfl (ve_ix rfl (ve_dix hr.units (vv 8) (vv 4)) (vv 7)) (vv 7)) (va_cons (ve_tup (va_cons ve_int (va_cons ve_int va_nil))) va_nil))) (ve_ix rfl (ve_dix hr.units (vv 8) (vv 4)) (vv 7)) (vv 7))
    (vss_cons (vs_par (i := 9) (j := 10) rfl sc_law.nd rfl rfl (by decide) rfl rfl (va_cons (ve_callTy call_list_of (cs_listOfC rfl) rfl (z_list T) (by decide +kernel) (va_cons (ve_ix rfl (vv 3) ve_int) va_nil)) (va_cons (ve_callTy call_list_of (cs_listOfC rfl) rfl (z_list T) (by decide +kernel) (va_cons (ve_ix rfl (vv 3) ve_int) va_nil)) va_nil)) (by rfl))
    (vss_cons (vs_mul rfl rfl (ve_tup (va_cons (ve_call (ok__law_add T) (hr.mono (by omega)) rfl (m__law_add T) (F__law_add T).kp (bd__law_add T) (takes_of rfl rfl rfl rfl) (va_cons (ve_ix rfl (vv 9) (vv 7)) (va_cons (ve_tup (va_cons ve_int (va_cons ve_int va_nil))) va_nil))) (va_cons (ve_call (ok__law_add T) (hr.mono (by omega)) rfl (m__law_add T) (F__law_add T).kp (bd__law_add T) (takes_of rfl rfl rfl rfl) (va_cons (ve_ix rfl (vv 10) (vv 7)) (va_cons (ve_tup (va_cons (ve_bin op_sub os_sub ve_int ve_int) (va_cons ve_int va_nil))) va_nil))) va_nil))) (vm_cons (vm_sub (vv 9) (vv 7)) (vm_cons (vm_sub (vv 10) (vv 7)) vm_nil)))
    (vss_cons (vs_set (i := 11) sc_law.nd rfl (by first | exact Or.inl rfl | exact Or.inr rfl) (ve_lst (va_cons (ve_makeX (n := 5) (cl_Machine T) (mk_Machine T) (ok_Machine___init__ T) (hr.mono (by omega)) rfl (m_Machine T) (bd_Machine___init__ T) (takes_of rfl rfl rfl rfl) (va_cons (vv 2) (va_cons (vv 9) (va_cons (ve_ix rfl (vv 3) ve_int) (va_cons (ve_ix rfl (vv 3) ve_int) va_nil))))) (va_cons (ve_makeX (n := 5) (cl_Machine T) (mk_Machine T) (ok_Machine___init__ T) (hr.mono (by omega)) rfl (m_Machine T) (bd_Machine___init__ T) (takes_of rfl rfl rfl rfl) (va_cons (vv 2) (va_cons (ve_ix rfl (vv 3) ve_int) (va_cons (vv 8) (va_cons (ve_ix rfl (vv 3) ve_int) va_nil))))) (va_cons (ve_makeX (n := 5) (cl_Machine T) (mk_Machine T) (ok_Machine___init__ T) (hr.mono (by omega)) rfl (m_Machine T) (bd_Machine___init__ T) (takes_of rfl rfl rfl rfl) (va_cons (vv 2) (va_cons (ve_ix rfl (vv 3) ve_int) (va_cons (ve_ix rfl (vv 3) ve_int) (va_cons (vv 10) va_nil))))) va_nil)))))
    (vss_one (vs_if (vt_w (vw_or (vt_cmp (op_neD hr.units) (os_ne rfl) (ve_lc (own := [("_law_other", 6)]) rfl sc_law.nd (vi_any rfl (vv 11)) (blkOk_by (by kernel_rfl)) (fun _ _ _ _ _ => (vg_name (i := 6) sc_law.nd rfl (by first | exact Or.inl rfl | exact Or.inr rfl))) (fun _ _ _ _ _ => vts_nil) (fun _ _ _ _ _ => (ve_cmp (op_eqO (km_Machine___eq__ T) (ok_Machine___eq__ T) (hr.mono (by omega)) (bd_Machine___eq__ T)) (os_eqO (cl_Machine T)) (vv 5) (vv 6) (nomark _)))) (ve_bin op_mul2 os_mul (ve_lst (va_cons ve_bl va_nil)) ve_int) (nomark _)) (vw_or1 (vt_cmp (op_neD hr.units) (os_ne rfl) (ve_lc (own := [("_law_other", 6)]) rfl sc_law.nd (vi_any rfl (vv 11)) (blkOk_by (by kernel_rfl)) (fun _ _ _ _ _ => (vg_name (i := 6) sc_law.nd rfl (by first | exact Or.inl rfl | exact Or.inr rfl))) (fun _ _ _ _ _ => vts_nil) (fun _ _ _ _ _ => (ve_cmp (op_neO (km_Machine___eq__ T) (ow_Machine T) (ok_Machine___eq__ T) (hr.mono (by omega)) (bd_Machine___eq__ T)) (os_neO (cl_Machine T)) (vv 6) (vv 5) (nomark _)))) (ve_bin op_mul2 os_mul (ve_lst (va_cons ve_bl va_nil)) ve_int) (nomark _))))) (vss_one (vs_ret ve_bl)) vss_nil)))))))) vss_nil)
    (vss_cons (vs_set (i := 12) sc_law.nd rfl (by first | exact Or.inl rfl | exact Or.inr rfl) (ve_makeX (n := 5) (cl_Machine T) (mk_Machine T) (ok_Machine___init__ T) (hr.mono (by omega)) rfl (m_Machine T) (bd_Machine___init__ T) (takes_of rfl rfl rfl rfl) (va_cons (ve_slG sl3 (ss_sl3 rfl) (vv 2) (vo_some ve_int) vo_none) (va_cons (ve_ix rfl (vv 3) ve_int) (va_cons (ve_callTy (call_dictP rfl) (cs_dictP rfl) rfl (z_dict T) (by decide +kernel) (va_cons (ve_lc (own := [("_law_sign", 4)]) rfl sc_law.nd (vi_any rfl (ve_slG sl3 (ss_sl3 rfl) (vv 2) (vo_some ve_int) vo_none)) (blkOk_by (by kernel_rfl)) (fun _ _ _ _ _ => (vg_name (i := 4) sc_law.nd rfl (by first | exact Or.inl rfl | exact Or.inr rfl))) (fun _ _ _ _ _ => vts_nil) (fun _ _ _ _ _ => (ve_tup (va_cons (vv 4) (va_cons (ve_dix hr.units (ve_ix rfl (vv 3) ve_int) (vv 4)) va_nil))))) va_nil)) (va_cons (ve_ix rfl (vv 3) ve_int) va_nil))))))
    (vss_one (vs_ret (ve_and (ve_cmp (op_neO (km_Machine___eq__ T) (ow_Machine T) (ok_Machine___eq__ T) (hr.mono (by omega)) (bd_Machine___eq__ T)) (os_neO (cl_Machine T)) (vv 5) (vv 12) (nomark _)) (ve_one (ve_notO (cl_Machine T) (km_Machine___len__ T) (ow_Machine T) (ok_Machine___len__ T) (hr.mono (by omega)) (bd_Machine___len__ T) (ve_makeX (n := 5) (cl_Machine T) (mk_Machine T) (ok_Machine___init__ T) (hr.mono (by omega)) rfl (m_Machine T) (bd_Machine___init__ T) (takes_of rfl rfl rfl rfl) (va_cons (ve_lst va_nil) (va_cons (ve_lst va_nil) (va_cons ve_newDI (va_cons (ve_lst va_nil) va_nil))))))))))))))))))
end
end Pf

namespace Pf
open PySem PySem.Spec PyProof.Rows L2 L3
def pm (K : PySem.W.Frag) : Pm := ⟨K, tf.map fun p => ((He.cT K p).2, p.1 ++ (".<locals>." : Str) ++ ("<lambda>" : Str)), fun x => if x ∈ lw.cs then some (He.ga K x) else none⟩
theorem lawAt {w : World} {mg : Str → Option Value} {f : Addr} {h : Heap} (Y : ∃ K : PySem.W.Frag, K.In h ∧ He.SaysX fa fn tsk tf ex w h K) (G : h.Ns mainGlobals mg) (hfa : mg ("law" : Str) = some (.ref f)) :
    ∃ K : PySem.W.Frag, K.In h ∧ LawAtC PySem.Challenge.rw_nevernought_k50_machines_equal_long_and w K (L2.CX PySem.Challenge.rw_nevernought_k50_machines_equal_long_and.prog w) 63 "_law_script" mg f h := by
  obtain ⟨K, KX, c⟩ := Y
  have cd : He.SaysD fa fn K := c.t.d
  have F : FunD K "law" "law" (defArgs s_law) (defBody s_law) (defScope s_law) [] [] (He.ga K "law") (fdOf K ("law", none)) := by
    obtain ⟨fd, F⟩ := cd.def_ (17) (d := fn.getD (17) ⟨("", none), "", "", defArgs s_law, defBody s_law, defScope s_law, [], []⟩) rfl
    have e := fdOf_eq (p := ("law", none)) F
    rw [e]
    exact F
  have e : mg "law" = some (.ref (He.ga K "law")) := He.glo_ok KX G (cd.fact 13 rfl)
  rw [hfa] at e
  cases e
  refine ⟨K, KX, fdOf K ("law", none), tf.map (He.cT K), spF (pm K) 1 f_law, ?_, ?_, ?_, ?_, ?_, ?_⟩
  · intro p hp
    obtain ⟨d, hd, rfl⟩ := List.mem_map.mp hp
    exact c.empty d hd
  · intro p hp
    obtain ⟨d, hd, rfl⟩ := List.mem_map.mp hp
    exact c.out d hd
  · intro p hp
    obtain ⟨d, hd, rfl⟩ := List.mem_map.mp hp
    exact PySem.W.codeHd_of_K KX (c.hd d hd)
  · intro s u
    exact F.bindsA (ps := ["_law_script"]) (fun _ _ _ _ _ _ us hl => match us, hl with | [_], _ => rfl) s [u] rfl
  · intro H a ns hl hbits hT hS
    have st : St3 (pm K) H ⟨[], []⟩ [] := ⟨rfl, fun k a m h => (by simp at h), List.nodup_nil, fun a h => (by cases h), fun p hp => by
      obtain ⟨d, hd, rfl⟩ := List.mem_map.mp hp
      exact LamX.TabS.nil (hT _ (List.mem_map.mpr ⟨d, hd, rfl⟩))⟩
    refine ⟨rfl, ⟨[], []⟩, [.scr ns], [], .cons (.scr ?_) .nil, st, ?_⟩
    · rcases hS with hS | hS
      · exact .inl ⟨hS, fun z => z.elim (fun y => by cases y) fun y => by cases y⟩
      · exact .inr hS
    · obtain ⟨μ, e⟩ := law_true ns hl hbits
      rw [e]
      intro L' H' x s v r
      cases r
      rfl
  · intro base KX G seer tb
    exact ok_law (P := pm K) ⟨cd, KX, G, fun p hp => tb _ (List.mem_map.mpr ⟨p, hp, rfl⟩), c.more, rfl, rfl, fun q hq => by
      obtain ⟨i, hi, e⟩ := List.mem_iff_getElem.mp hq
      have z := c.t.tab i (t := (fun K => He.ga K q.1, q.2.map (·.1))) (by
        unfold tsk
        rw [List.getElem?_map, List.getElem?_eq_getElem hi, e]; rfl)
      exact z⟩ seer
end Pf
open PySem PySem.W PySem.Calls PyProof.Rows
theorem PySem.Challenge.cw_nevernought_k50_machines_equal_long_and_holds : PySem.Challenge.rw_nevernought_k50_machines_equal_long_and.Holds := by
  w_on; o_law
  refine HandSHeadRun.head_any (r := OpenLaw.row PySem.Challenge.rw_nevernought_k50_machines_equal_long_and) (q := view (OpenLaw.row PySem.Challenge.rw_nevernought_k50_machines_equal_long_and).prog [25]) (H := Pf.hk) (ob := Pf.ob) (M := 8000) (loose := Pf.loose) (d := HandSHeadRun.topDef (OpenLaw.row PySem.Challenge.rw_nevernought_k50_machines_equal_long_and).prog 25) (kwd := []) Pf.ob_eq
    (by kernel_rfl) (fun s => by kernel_rfl) Pf.hrun (by kernel_rfl) (by kernel_rfl) (by kernel_rfl) (by rfl) (by first | assumption | decide +kernel) (by decide +kernel) ⟨rfl, rfl, rfl, rfl, rfl, by decide +kernel⟩ ?hw ?hc
  case hw => w_witness2
  case hc =>
    refine L3.walkC (l := PySem.Challenge.rw_nevernought_k50_machines_equal_long_and) (n := 63) (x := "_law_script") (CX := fun w => L2.CX PySem.Challenge.rw_nevernought_k50_machines_equal_long_and.prog w) rfl (by decide) (by kernel_rfl) (by kernel_rfl) ?F (fun w H s e s' h => by
      obtain ⟨_, _, _, _, _, _, _, _, _, _, _, _, z⟩ := h
      exact z.elim)
    intro w mg fa h Y G hmg0
    have hmg : mg ("law" : PySem.Str) = some (.ref fa) := by
      have e : (HandSHeadRun.topDef (OpenLaw.row PySem.Challenge.rw_nevernought_k50_machines_equal_long_and).prog 25).name = ("law" : PySem.Str) := by kernel_rfl
      rw [← e]
      exact hmg0
    exact Pf.lawAt Y G hmg


