import PyProof.Rows.All
import Wide.All
import OpenK.AllK
import Wide.FinOn
import HandS.ForMost
import HandS.Exc
import HandS.TryOnly
import HandS.TryMany
import HandS.ExcOwn
import HandS.WordsExc
import HandS.Codes
import HandS.IsInst
import HandS.Deep
import HandS.TupAny
import HandS.Wide
import HandS.Evl
import HandS.Lambda
import HandS.RaiseMore
import KE.DataCmp
import HandS.TupMul
import KE.KExcSuper
import KE.KSuper
import HandS.FStr
import HandS.EndTab
import HandS.Head0
import HandS.Head1
import HandS.Head2
import HandS.HeadHook1
import HandS.HeadHook2
import HandS.HeadHook3
import HandS.HeadHook4
import HandS.HeadEnd
import HandS.TupSets
import PyProof.SetRoads
import KE.KeyNested
import KE.SortData
import HandS.SetFor
import KE.SortLaws
import HandS.More
import HandS.Property
import KE.KOpsOwn
import KE.KCallOwn
import PyProof.InstEq
import PyProof.Conv_bool
import HandS.Star
import HandS.Style
import HandS.ClsMeth
import HandS.HeadNt
import HandS.WordsDict
import HandS.Iter
import HandS.DictComp
import HandS.ListItems
import KE.GoesEnum
import KE.KDictKeyed
import KE.KDictZip
import KE.KTurns
import HandS.Zip
import KE.KDictList
import HandS.TupLe
import HandS.ExcValue
import KE.KExcMake
import HandS.ExcIs
import KE.KExcIs
import KE.KExcStr
import PySem.Challenge.RW_chosentrees_k00_errors_and_what_they_kee
set_option Elab.async false
set_option linter.all false
set_option maxRecDepth 100000
set_option maxHeartbeats 4000000
namespace Dv
open PySem PySem.Spec PyProof.Rows L2

inductive D where
  | non | bl (b : Bool) | int (i : Int) | str (x : Str) | tup (xs : List D) | lst (xs : List D) | dic (kvs : List (D × D)) | ref (a : Addr) | ty (n : String) | dice | scr (ns : List Int) | obj (c : Nat) (fs : List (Str × D)) | cls (c : Nat) | exn (c : Nat) (fs : List (Str × D)) (xs : List D)

/-- the address of the dice, the tables of code objects that may grow -/
structure Ra where
  ad : Option Addr
  cl : Nat → Addr
structure Da where
  ra : Ra
  tb : List (Addr × Str)
  kn : Hp → Prop
  km : ∀ H H', Evl.Ex H H' → kn H → kn H'
  sf : Option Addr

abbrev Da.ad (da : Da) : Option Addr := da.ra.ad
/-- what a law's defs agree upon: the tables, the classes -/
def Da.lay (da : Da) : List (Addr × Str) × (Nat → Addr) := (da.tb, da.ra.cl)

def dK : Key → D
  | .inl i => .int i
  | .inr x => .str x

/-- an exception at a, not raised: no fields, its args at t; or fields at d -/
def exo0 (a C t : Addr) : HO := .ext fun h => h.get? a = some ({ cls := .ref C, dict := none, data := .fields #[.ref t, .none, .none, .none, .bool false, .none] } : Obj)
def exo1 (a C d : Addr) : HO := .ext fun h => ∃ t1 : Addr, h.get? a = some ({ cls := .ref C, dict := some d, data := .fields #[.ref t1, .none, .none, .none, .bool false, .none] } : Obj)
mutual
inductive Rp (K : PySem.W.Frag) (ad : Ra) (H : Hp) : V → D → Prop
  | non : Rp K ad H .non .non
  | bl (b : Bool) : Rp K ad H (.bl b) (.bl b)
  | int (i : Int) : Rp K ad H (.int i) (.int i)
  | str (x : Str) : Rp K ad H (.str x) (.str x)
  | lst {a : Addr} {xs : List V} {ds : List D} : H a = some (.lst xs) → RpL K ad H xs ds → Rp K ad H (.ref a) (.lst ds)
  | tup {a : Addr} {xs : List V} {ds : List D} : SqT K H a xs → RpL K ad H xs ds → Rp K ad H (.ref a) (.tup ds)
  | dic {a : Addr} {o : Obj} {kvs : List (Key × V)} {es : List (D × D)} : H a = some (.frz o (.dK kvs)) → RpK K ad H kvs es → Rp K ad H (.ref a) (.dic es)
  | ref (a : Addr) : Rp K ad H (.ref a) (.ref a)
  | ty (n : String) : Rp K ad H (.ty n) (.ty n)
  | dice {a : Addr} : ad.ad = some a → Rp K ad H (.ref a) .dice
  | scr {a : Addr} {ns : List Int} : SqL K H a (ns.map V.int) → Rp K ad H (.ref a) (.scr ns)
  | obj {a dx : Addr} {c : Nat} {vs : List (Str × V)} {fs : List (Str × D)} : H a = some (.ins (ad.cl c) dx vs) → RpF K ad H vs fs → Rp K ad H (.ref a) (.obj c fs)
  | cls (c : Nat) : Rp K ad H (.ref (ad.cl c)) (.cls c)
  | exn0 {a t : Addr} {c : Nat} {vs : List V} {ds : List D} : H a = some (exo0 a (ad.cl c) t) → SqT K H t vs → RpL K ad H vs ds → Rp K ad H (.ref a) (.exn c [] ds)
  | exn1 {a dx : Addr} {c : Nat} {vs : List (Str × V)} {fs : List (Str × D)} : H a = some (exo1 a (ad.cl c) dx) → H dx = some (.xd vs) → RpF K ad H vs fs → Rp K ad H (.ref a) (.exn c fs [])
inductive RpL (K : PySem.W.Frag) (ad : Ra) (H : Hp) : List V → List D → Prop
  | nil : RpL K ad H [] []
  | cons {v : V} {vs : List V} {d : D} {ds : List D} : Rp K ad H v d → RpL K ad H vs ds → RpL K ad H (v :: vs) (d :: ds)
inductive RpK (K : PySem.W.Frag) (ad : Ra) (H : Hp) : List (Key × V) → List (D × D) → Prop
  | nil : RpK K ad H [] []
  | cons {k : Key} {v : V} {vs : List (Key × V)} {d : D} {ds : List (D × D)} : Rp K ad H v d → RpK K ad H vs ds → RpK K ad H ((k, v) :: vs) ((dK k, d) :: ds)
inductive RpF (K : PySem.W.Frag) (ad : Ra) (H : Hp) : List (Str × V) → List (Str × D) → Prop
  | nil : RpF K ad H [] []
  | cons {f : Str} {v : V} {vs : List (Str × V)} {d : D} {ds : List (Str × D)} : Rp K ad H v d → RpF K ad H vs ds → RpF K ad H ((f, v) :: vs) ((f, d) :: ds)
end

abbrev Ex := Evl.Ex
section
variable {K : PySem.W.Frag} {ad : Ra} {H H' : Hp}
mutual
theorem Rp.mono (e : Ex H H') : ∀ {v : V} {d : D}, Rp K ad H v d → Rp K ad H' v d
  | _, _, .non => .non
  | _, _, .bl b => .bl b
  | _, _, .int i => .int i
  | _, _, .str x => .str x
  | _, _, .lst h r => .lst (e _ _ h) (RpL.mono e r)
  | _, _, .tup h r => .tup (Evl.ex_t e h) (RpL.mono e r)
  | _, _, .dic h r => .dic (e _ _ h) (RpK.mono e r)
  | _, _, .ref a => .ref a
  | _, _, .ty n => .ty n
  | _, _, .dice h => .dice h
  | _, _, .scr h => .scr (Evl.ex_l e h)
  | _, _, .obj h r => .obj (e _ _ h) (RpF.mono e r)
  | _, _, .cls c => .cls c
  | _, _, .exn0 h t r => .exn0 (e _ _ h) (Evl.ex_t e t) (RpL.mono e r)
  | _, _, .exn1 h x r => .exn1 (e _ _ h) (e _ _ x) (RpF.mono e r)
theorem RpL.mono (e : Ex H H') : ∀ {v : List V} {d : List D}, RpL K ad H v d → RpL K ad H' v d
  | _, _, .nil => .nil
  | _, _, .cons h r => .cons (Rp.mono e h) (RpL.mono e r)
theorem RpK.mono (e : Ex H H') : ∀ {v : List (Key × V)} {d : List (D × D)}, RpK K ad H v d → RpK K ad H' v d
  | _, _, .nil => .nil
  | _, _, .cons h r => .cons (Rp.mono e h) (RpK.mono e r)
theorem RpF.mono (e : Ex H H') : ∀ {v : List (Str × V)} {d : List (Str × D)}, RpF K ad H v d → RpF K ad H' v d
  | _, _, .nil => .nil
  | _, _, .cons h r => .cons (Rp.mono e h) (RpF.mono e r)
end
theorem RpL.length : ∀ {vs : List V} {ds : List D}, RpL K ad H vs ds → vs.length = ds.length
  | _, _, .nil => rfl
  | _, _, .cons _ r => by simp [RpL.length r]
theorem RpL.get : ∀ {vs : List V} {ds : List D} {i : Nat} {d : D}, RpL K ad H vs ds → ds[i]? = some d → ∃ v, vs[i]? = some v ∧ Rp K ad H v d
  | _, _, _, _, .nil, e => by simp at e
  | _, _, 0, _, .cons r _, e => by simp at e; subst e; exact ⟨_, rfl, r⟩
  | _, _, i + 1, d, .cons _ t, e => by
    obtain ⟨u, h1, h2⟩ := RpL.get (i := i) (d := d) t (by simpa using e)
    exact ⟨u, by simpa using h1, h2⟩
theorem RpL.append : ∀ {vs ws : List V} {ds es : List D}, RpL K ad H vs ds → RpL K ad H ws es → RpL K ad H (vs ++ ws) (ds ++ es)
  | _, _, _, _, .nil, s => s
  | _, _, _, _, .cons r t, s => .cons r (RpL.append t s)
theorem RpL.drop : ∀ {vs : List V} {ds : List D} (n : Nat), RpL K ad H vs ds → RpL K ad H (vs.drop n) (ds.drop n)
  | _, _, 0, r => r
  | _, _, _ + 1, .nil => .nil
  | _, _, n + 1, .cons _ t => RpL.drop n t
theorem RpL.take : ∀ {vs : List V} {ds : List D} (n : Nat), RpL K ad H vs ds → RpL K ad H (vs.take n) (ds.take n)
  | _, _, 0, _ => .nil
  | _, _, _ + 1, .nil => .nil
  | _, _, n + 1, .cons r t => .cons r (RpL.take n t)
end

/-! ### the mirror's monad -/
abbrev Dice := Int × Int × Int
inductive R (α : Type) where
  | ok (a : α) (δ : Dice)
  | exc (c : Nat) (fs : List (Str × D)) (δ : Dice)
  | bad
def M (α : Type) : Type := Dice → R α
def ret {α : Type} (a : α) : M α := fun δ => .ok a δ
def bind {α β : Type} (m : M α) (f : α → M β) : M β := fun δ => match m δ with
  | .ok a δ' => f a δ'
  | .exc c fs δ' => .exc c fs δ'
  | .bad => .bad
def bad {α : Type} : M α := fun _ => .bad
def lift {α : Type} (o : Option α) : M α := fun δ => match o with
  | some a => .ok a δ
  | none => .bad

theorem bind_ret {α β : Type} (a : α) (f : α → M β) : bind (ret a) f = f a := rfl
theorem ret_bind {α : Type} (m : M α) : bind m ret = m := by
  funext δ; unfold bind ret; cases m δ <;> rfl
theorem bind_bind {α β γ : Type} (m : M α) (f : α → M β) (g : β → M γ) : bind (bind m f) g = bind m fun a => bind (f a) g := by
  funext δ; unfold bind; cases m δ <;> rfl
theorem lift_some {α : Type} (a : α) : lift (some a) = ret a := rfl

/-! ### what the abstract heap knows, and how it goes on -/
/-- a list or a dict -/
def Mut (o : HO) : Prop := (∃ xs, o = .lst xs) ∨ (∃ ks, o = .dK ks) ∨ (∃ C dx fs, o = .ins C dx fs) ∨ (∃ ob ks, o = .frz ob (.dK ks)) ∨ (∃ φ, o = .ext φ ∧ ∀ c q, o ≠ LamX.CodeO c q)
theorem Mut.lst (xs : List V) : Mut (.lst xs) := .inl ⟨xs, rfl⟩
theorem Mut.dK (xs : List (Key × V)) : Mut (.dK xs) := .inr (.inl ⟨xs, rfl⟩)
theorem Mut.ins (C dx : Addr) (fs : List (Str × V)) : Mut (.ins C dx fs) := .inr (.inr (.inl ⟨C, dx, fs, rfl⟩))
theorem Mut.frz (ob : Obj) (xs : List (Key × V)) : Mut (.frz ob (.dK xs)) := .inr (.inr (.inr (.inl ⟨ob, xs, rfl⟩)))
theorem Mut.ext {φ : Heap → Prop} (h : ∀ c q, HO.ext φ ≠ LamX.CodeO c q) : Mut (.ext φ) := .inr (.inr (.inr (.inr ⟨φ, rfl, h⟩)))
theorem Mut.ntb {o : HO} (m : Mut o) : ∀ ps, o ≠ .tbl ps := fun ps z => by
  rcases m with ⟨xs, e⟩ | ⟨xs, e⟩ | ⟨C, dx, fs, e⟩ | ⟨ob, ks, e⟩ | ⟨φ, e, _⟩ <;> (rw [e] at z; cases z)
/-- there, and a list or a dict -/
def Mu (H : Hp) (b : Addr) : Prop := ∃ o, H b = some o ∧ Mut o
theorem Mu.ex {H H' : Hp} {b : Addr} (h : Mu H b) (e : Evl.Ex H H') : Mu H' b := by
  obtain ⟨o, q, n⟩ := h
  exact ⟨o, e _ _ q, n⟩
theorem Mu.ne {H : Hp} {b : Addr} (h : Mu H b) : H b ≠ none := by
  obtain ⟨o, e, _⟩ := h
  rw [e]; exact fun z => nomatch z
/-- there, and no table of code objects -/
def Nt (H : Hp) (b : Addr) : Prop := ∃ o, H b = some o ∧ ∀ ps, o ≠ .tbl ps
theorem Mu.nt {H : Hp} {b : Addr} (h : Mu H b) : Nt H b := by
  obtain ⟨o, e, m⟩ := h
  exact ⟨o, e, m.ntb⟩
theorem Nt.ne {H : Hp} {b : Addr} (h : Nt H b) : H b ≠ none := by
  obtain ⟨o, e, _⟩ := h
  rw [e]; exact fun z => nomatch z
theorem Nt.ex {H H' : Hp} {b : Addr} (h : Nt H b) (e : Evl.Ex H H') : Nt H' b := by
  obtain ⟨o, q, n⟩ := h
  exact ⟨o, e _ _ q, n⟩
theorem Nt.no {H : Hp} {b : Addr} (h : H b = none) : ¬ Nt H b := fun z => z.ne h
structure At (da : Da) (Hk H : Hp) (δ : Dice) : Prop where
  ex : Ex Hk H
  di : ∀ a, da.ad = some a → Hk a = none ∧ H a = some (.lst [.int δ.1, .int δ.2.1, .int δ.2.2])
  tb : LamX.Tabs da.tb H
  kn : da.kn Hk
  nt : ∀ b ps, Hk b ≠ some (.tbl ps)
structure Stp (da : Da) (Hk H Hk' H' : Hp) : Prop where
  kn : Ex Hk Hk'
  fr : ∀ b, Mu H b → Hk b = none → Hk' b = none
  ke : ∀ b o, H b = some o → da.ad ≠ some b → (∀ ps, o ≠ .tbl ps) → H' b = some o
  th : ∀ b, Nt H b → Nt H' b
  tm : ∀ b, Mu H b → Mu H' b
theorem Stp.refl (da : Da) (Hk H : Hp) : Stp da Hk H Hk H := ⟨Evl.Ex.refl _, fun _ _ h => h, fun _ _ h _ _ => h, fun _ h => h, fun _ h => h⟩
theorem Stp.trans {da : Da} {Hk H Hk1 H1 Hk2 H2 : Hp} (a : Stp da Hk H Hk1 H1) (b : Stp da Hk1 H1 Hk2 H2) : Stp da Hk H Hk2 H2 :=
  ⟨a.kn.trans b.kn, fun c h n => b.fr c (a.tm c h) (a.fr c h n), fun c o h n t => b.ke c o (a.ke c o h n t) n t, fun c h => b.th c (a.th c h), fun c h => b.tm c (a.tm c h)⟩
/-- .. that leaves all that is tracked, the dice too -/
structure Stq (Hk H Hk' H' : Hp) : Prop where
  kn : Ex Hk Hk'
  fr : ∀ b, H b ≠ none → Hk b = none → Hk' b = none
  ke : Ex H H'
  kk : Ex Hk' H'
  nt : (∀ b ps, Hk b ≠ some (.tbl ps)) → ∀ b ps, Hk' b ≠ some (.tbl ps)
theorem Stq.stp {da : Da} {Hk H Hk' H' : Hp} (a : Stq Hk H Hk' H') : Stp da Hk H Hk' H' :=
  ⟨a.kn, fun b h n => a.fr b h.ne n, fun c o h _ _ => a.ke c o h, fun c h => h.ex a.ke, fun c h => h.ex a.ke⟩
theorem Stq.at_ {da : Da} {Hk H Hk' H' : Hp} {δ : Dice} (a : Stq Hk H Hk' H') (t : At da Hk H δ) : At da Hk' H' δ :=
  ⟨a.kk, fun b e => by
    obtain ⟨n, h⟩ := t.di b e
    exact ⟨a.fr b (by rw [h]; exact fun z => nomatch z) n, a.ke b _ h⟩, t.tb.ext a.ke, da.km _ _ a.kn t.kn, a.nt t.nt⟩
theorem Stq.refl {Hk H : Hp} (e : Ex Hk H) : Stq Hk H Hk H := ⟨Evl.Ex.refl _, fun _ _ h => h, Evl.Ex.refl _, e, fun h => h⟩
/-- a new object, known from now on -/
theorem Stq.new {Hk H : Hp} {p : Addr} {o : HO} (e : Ex Hk H) (h : H p = none) (ho : ∀ ps, o ≠ .tbl ps := by intro _ z; cases z) : Stq Hk H (upd Hk p o) (upd H p o) := by
  have hk : Hk p = none := by
    cases q : Hk p with
    | none => rfl
    | some u => rw [e p u q] at h; cases h
  refine ⟨Evl.Ex.new hk, fun b hb n => ?_, Evl.Ex.new h, fun b u q => ?_, fun nt b ps q => ?_⟩
  · have : b ≠ p := fun z => by rw [z] at hb; exact hb h
    rw [upd_ne this]; exact n
  · by_cases z : b = p
    · subst z; rw [upd_same] at q ⊢; exact q
    · rw [upd_ne z] at q ⊢; exact e b u q
  · by_cases z : b = p
    · subst z; rw [upd_same] at q; exact ho ps (Option.some.inj q)
    · rw [upd_ne z] at q; exact nt b ps q
theorem Stq.trans {Hk H Hk1 H1 Hk2 H2 : Hp} (a : Stq Hk H Hk1 H1) (b : Stq Hk1 H1 Hk2 H2) : Stq Hk H Hk2 H2 :=
  ⟨a.kn.trans b.kn, fun c h n => b.fr c (fun z => by
    cases e : H c with
    | none => exact h e
    | some o => rw [a.ke c o e] at z; cases z) (a.fr c h n), a.ke.trans b.ke, b.kk, fun h => b.nt (a.nt h)⟩

/-- how an exception's own dict lies -/
def Xr (K : PySem.W.Frag) (ad : Ra) (Hk : Hp) (dd : Option Addr) : List (Str × D) → Prop
  | [] => True
  | fs => ∃ a ws, dd = some a ∧ Hk a = some (.xd ws) ∧ ws.map (·.1) = fs.map (·.1) ∧ RpL K ad Hk (ws.map (·.2)) (fs.map (·.2))

/-- what a run that ends as r wants: k of a value, w of an exception -/
def Fin {α : Type} (K : PySem.W.Frag) (da : Da) (cm : Nat → Addr) (r : R α) (Hk H : Hp) (k : α → Dice → Prop) (w : Value → Option Addr → Hp → Prop) : Prop :=
  match r with
  | .ok a δ => k a δ
  | .exc c fs δ => ∀ dd Hk' H', Stp da Hk H Hk' H' → At da Hk' H' δ → Xr K da.ra Hk' dd fs → w (.ref (cm c)) dd H'
  | .bad => False

abbrev Env := List (Option D)
def EnvR (K : PySem.W.Frag) (da : Da) (Hk : Hp) (σ : L2.St) (env : Env) : Prop :=
  env.length ≤ σ.length ∧ ∀ (i : Nat) (d : D), env[i]? = some (some d) → ∃ v, σ[i]? = some (some v) ∧ Rp K da.ra Hk v d
theorem EnvR.mono {K : PySem.W.Frag} {da : Da} {Hk Hk' : Hp} {σ : L2.St} {env : Env} (h : EnvR K da Hk σ env) (e : Ex Hk Hk') : EnvR K da Hk' σ env := ⟨h.1, fun i d hi => by
  obtain ⟨v, h1, h2⟩ := h.2 i d hi
  exact ⟨v, h1, h2.mono e⟩⟩

/-- the reading of an expression whose mirror is f -/
def tEv (K : PySem.W.Frag) (da : Da) (cm : Nat → Addr) (W : WX) (f : Env → M D) : TE := fun σ H Q => ∃ Hk env δ, At da Hk H δ ∧ EnvR K da Hk σ env ∧
  Fin K da cm (f env δ) Hk H (fun d δ' => ∀ v Hk' H', Stp da Hk H Hk' H' → At da Hk' H' δ' → Rp K da.ra Hk' v d → Q v H') (fun c dd H' => W c dd σ H')
def tTv (K : PySem.W.Frag) (da : Da) (cm : Nat → Addr) (W : WX) (f : Env → M Bool) : TT := fun σ H Q => ∃ Hk env δ, At da Hk H δ ∧ EnvR K da Hk σ env ∧
  Fin K da cm (f env δ) Hk H (fun b δ' => ∀ Hk' H', Stp da Hk H Hk' H' → At da Hk' H' δ' → Q b H') (fun c dd H' => W c dd σ H')
def tAv (K : PySem.W.Frag) (da : Da) (cm : Nat → Addr) (W : WX) (f : Env → M (List D)) : TA := fun σ H Q => ∃ Hk env δ, At da Hk H δ ∧ EnvR K da Hk σ env ∧
  Fin K da cm (f env δ) Hk H (fun ds δ' => ∀ vs Hk' H', Stp da Hk H Hk' H' → At da Hk' H' δ' → RpL K da.ra Hk' vs ds → Q vs H') (fun c dd H' => W c dd σ H')

/-! ### an expression, then more -/
section
variable {K : PySem.W.Frag} {da : Da} {cm : Nat → Addr} {W : WX} {σ : L2.St} {H Hk : Hp} {env : Env} {δ : Dice}
/-- the tail of a run from a later state -/
theorem Fin.later {α : Type} {r : R α} {Hk' H' : Hp} {k k' : α → Dice → Prop} {w : Value → Option Addr → Hp → Prop} (h : Fin K da cm r Hk H k w) (s : Stp da Hk H Hk' H') (hk : ∀ a δ', k a δ' → k' a δ') : Fin K da cm r Hk' H' k' w := by
  cases r with
  | ok a δ => exact hk _ _ h
  | exc c fs δ => exact fun dd Hk2 H2 s2 a2 x2 => h dd Hk2 H2 (s.trans s2) a2 x2
  | bad => exact h
theorem Fin.bind {α β : Type} {m : M α} {g : α → M β} {k : β → Dice → Prop} {w : Value → Option Addr → Hp → Prop} (h : Fin K da cm (bind m g δ) Hk H k w) :
    Fin K da cm (m δ) Hk H (fun a δ' => Fin K da cm (g a δ') Hk H k w) w := by
  unfold Dv.bind at h
  cases e : m δ with
  | ok a δ' => rw [e] at h; exact h
  | exc c fs δ' => rw [e] at h; exact h
  | bad => rw [e] at h; exact h
theorem Fin.mono {α : Type} {r : R α} {k k' : α → Dice → Prop} {w : Value → Option Addr → Hp → Prop} (h : Fin K da cm r Hk H k w) (hk : ∀ a δ', k a δ' → k' a δ') : Fin K da cm r Hk H k' w := h.later (Stp.refl _ _ _) hk
/-- run f, then what is wanted goes on with its value -/
theorem tEv.seq {f : Env → M D} {β : Type} {g : D → M β} {k : β → Dice → Prop} (hA : At da Hk H δ) (hE : EnvR K da Hk σ env)
    (h : Fin K da cm (Dv.bind (f env) g δ) Hk H k (fun c dd H' => W c dd σ H')) {Q : VK}
    (hq : ∀ v d δ' Hk' H', Stp da Hk H Hk' H' → At da Hk' H' δ' → EnvR K da Hk' σ env → Rp K da.ra Hk' v d → Fin K da cm (g d δ') Hk' H' k (fun c dd H' => W c dd σ H') → Q v H') : tEv K da cm W f σ H Q :=
  ⟨Hk, env, δ, hA, hE, h.bind.mono fun d δ' hg v Hk' H' s a r => hq v d δ' Hk' H' s a (hE.mono s.kn) r (hg.later s fun _ _ z => z)⟩
theorem tTv.seq {f : Env → M Bool} {β : Type} {g : Bool → M β} {k : β → Dice → Prop} (hA : At da Hk H δ) (hE : EnvR K da Hk σ env)
    (h : Fin K da cm (Dv.bind (f env) g δ) Hk H k (fun c dd H' => W c dd σ H')) {Q : Bool → Hp → Prop}
    (hq : ∀ b δ' Hk' H', Stp da Hk H Hk' H' → At da Hk' H' δ' → EnvR K da Hk' σ env → Fin K da cm (g b δ') Hk' H' k (fun c dd H' => W c dd σ H') → Q b H') : tTv K da cm W f σ H Q :=
  ⟨Hk, env, δ, hA, hE, h.bind.mono fun d δ' hg Hk' H' s a => hq d δ' Hk' H' s a (hE.mono s.kn) (hg.later s fun _ _ z => z)⟩
theorem tAv.seq {f : Env → M (List D)} {β : Type} {g : List D → M β} {k : β → Dice → Prop} (hA : At da Hk H δ) (hE : EnvR K da Hk σ env)
    (h : Fin K da cm (Dv.bind (f env) g δ) Hk H k (fun c dd H' => W c dd σ H')) {Q : List V → Hp → Prop}
    (hq : ∀ vs ds δ' Hk' H', Stp da Hk H Hk' H' → At da Hk' H' δ' → EnvR K da Hk' σ env → RpL K da.ra Hk' vs ds → Fin K da cm (g ds δ') Hk' H' k (fun c dd H' => W c dd σ H') → Q vs H') : tAv K da cm W f σ H Q :=
  ⟨Hk, env, δ, hA, hE, h.bind.mono fun d δ' hg v Hk' H' s a r => hq v d δ' Hk' H' s a (hE.mono s.kn) r (hg.later s fun _ _ z => z)⟩
end
end Dv
set_option maxHeartbeats 4000000
namespace Dv
open PySem PySem.Spec PyProof.Rows L2

theorem PE.imp {X : Cx} {e : Expr} {t t' : TE} (h : PE X e t) (i : ∀ σ H Q, t' σ H Q → t σ H Q) : PE X e t' := ⟨fun pins s σ H Q I q => h.run pins s σ H Q I (i _ _ _ q)⟩
theorem PT.imp {X : Cx} {e : Expr} {t t' : TT} (h : PT X e t) (i : ∀ σ H Q, t' σ H Q → t σ H Q) : PT X e t' := ⟨fun pins s σ H Q I q => h.run pins s σ H Q I (i _ _ _ q)⟩
theorem PW.imp {X : Cx} {e : Expr} {t t' : TT} (h : PW X e t) (i : ∀ σ H Q, t' σ H Q → t σ H Q) : PW X e t' := ⟨fun wh pins s σ H Q I q => h.run wh pins s σ H Q I (i _ _ _ q)⟩
theorem PA.imp {X : Cx} {es : List Expr} {t t' : TA} (h : PA X es t) (i : ∀ σ H Q, t' σ H Q → t σ H Q) : PA X es t' := ⟨fun pos pins s σ H Q I q => h.run pos pins s σ H Q I (i _ _ _ q)⟩

abbrev PEv (X : Cx) (da : Da) (cm : Nat → Addr) (W : WX) (e : Expr) (f : Env → M D) : Prop := PE X e (tEv X.K da cm W f)
abbrev PTv (X : Cx) (da : Da) (cm : Nat → Addr) (W : WX) (e : Expr) (f : Env → M Bool) : Prop := PT X e (tTv X.K da cm W f)
abbrev PWv (X : Cx) (da : Da) (cm : Nat → Addr) (W : WX) (e : Expr) (f : Env → M Bool) : Prop := PW X e (tTv X.K da cm W f)
abbrev PAv (X : Cx) (da : Da) (cm : Nat → Addr) (W : WX) (es : List Expr) (f : Env → M (List D)) : Prop := PA X es (tAv X.K da cm W f)

/-- what is wanted of a value z that comes from Hk, H: new things may have been laid -/
def Gv (K : PySem.W.Frag) (da : Da) (Hk H : Hp) (z : D) (Q : VK) : Prop := ∀ v Hk' H', Stq Hk H Hk' H' → Rp K da.ra Hk' v z → Q v H'
def Rop (K : PySem.W.Frag) (da : Da) (r : R2) (g : D → D → Option D) : Prop :=
  ∀ (Hk H : Hp) (x y : V) (d e z : D) (Q : VK), Ex Hk H → Rp K da.ra Hk x d → Rp K da.ra Hk y e → g d e = some z → Gv K da Hk H z Q → r x y H Q
def OpD (X : Cx) (da : Da) (f : Value → Value → Sem Value) (g : D → D → Option D) : Prop := ∃ r, OpR X f r ∧ Rop X.K da r g
def IxD (X : Cx) (da : Da) (g : D → D → Option D) : Prop := ∃ r, IxR X r ∧ Rop X.K da r g
def Rcl (K : PySem.W.Frag) (da : Da) (r : List V → Hp → VK → Prop) (g : List D → Option D) : Prop :=
  ∀ (Hk H : Hp) (xs : List V) (ds : List D) (z : D) (Q : VK), Ex Hk H → RpL K da.ra Hk xs ds → g ds = some z → Gv K da Hk H z Q → r xs H Q
def CalD (X : Cx) (da : Da) (f : Value) (g : List D → Option D) : Prop := ∃ r, CallR X f r ∧ Rcl X.K da r g
section
variable {K : PySem.W.Frag} {da : Da} {cm : Nat → Addr} {W : WX} {σ : L2.St} {H Hk : Hp} {env : Env} {δ : Dice}
theorem Gv.same {z : D} {Q : VK} (h : Gv K da Hk H z Q) (e : Ex Hk H) {v : V} (r : Rp K da.ra Hk v z) : Q v H := h v Hk H (Stq.refl e) r
theorem Gv.tup {xs : List V} {ds : List D} {Q : VK} (h : Gv K da Hk H (.tup ds) Q) (e : Ex Hk H) (r : RpL K da.ra Hk xs ds) {p : Addr} (hp : H p = none) : Q (.ref p) (upd H p (.tup xs)) := by
  have s := Stq.new (o := .tup xs) e hp
  exact h _ _ _ s (.tup (SqT.of upd_same) (r.mono s.kn))
theorem Gv.lst {xs : List V} {ds : List D} {Q : VK} (h : Gv K da Hk H (.lst ds) Q) (e : Ex Hk H) (r : RpL K da.ra Hk xs ds) {p : Addr} (hp : H p = none) : Q (.ref p) (upd H p (.lst xs)) := by
  have s := Stq.new (o := .lst xs) e hp
  exact h _ _ _ s (.lst upd_same (r.mono s.kn))
/-- the end of a reading: a value made out of what was read -/
theorem Fin.lift {o : Option D} {Q : VK} {Hk0 H0 : Hp} {w : Value → Option Addr → Hp → Prop} (hA : At da Hk H δ) (s0 : Stp da Hk0 H0 Hk H)
    (h : Fin K da cm (Dv.lift o δ) Hk H (fun d δ' => ∀ v Hk' H', Stp da Hk0 H0 Hk' H' → At da Hk' H' δ' → Rp K da.ra Hk' v d → Q v H') w) : ∃ z, o = some z ∧ Gv K da Hk H z Q := by
  cases o with
  | none => exact h.elim
  | some z => exact ⟨z, rfl, fun v Hk' H' s r => h v Hk' H' (s0.trans s.stp) (s.at_ hA) r⟩
end

section
variable {X : Cx} {da : Da} {cm : Nat → Addr} {W : WX} {pos : Pos}
/-! ### names, constants -/
def vr (i : Nat) : Env → M D := fun env => lift (env[i]?).join
def kc (d : D) : Env → M D := fun _ => ret d
theorem ev_var {i : Nat} {x : Str} (h : PE X (.Name x pos) (tVar i)) : PEv X da cm W (.Name x pos) (vr i) := PE.imp h fun σ H Q ⟨Hk, env, δ, hA, hE, q⟩ => by
  unfold vr at q
  obtain ⟨z, hz, g⟩ := Fin.lift hA (Stp.refl _ _ _) q
  have : env[i]? = some (some z) := by
    cases e : env[i]? with
    | none => rw [e] at hz; cases hz
    | some o => rw [e] at hz; simp at hz; rw [hz]
  obtain ⟨v, h1, h2⟩ := hE.2 i z this
  exact ⟨v, h1, g.same hA.ex h2⟩
theorem ev_c {e : Expr} {v : V} {d : D} (h : PE X e (tC v)) (r : ∀ Hk, Rp X.K da.ra Hk v d) : PEv X da cm W e (kc d) := PE.imp h fun σ H Q ⟨Hk, env, δ, hA, hE, q⟩ => q v Hk H (Stp.refl _ _ _) hA (r Hk)
theorem ev_int {i j} : PEv X da cm W (.Constant (.int i) j pos) (kc (.int i)) := ev_c pe_int fun _ => .int i
theorem ev_bl {b j} : PEv X da cm W (.Constant (.bool b) j pos) (kc (.bl b)) := ev_c pe_bl fun _ => .bl b
theorem ev_non {j} : PEv X da cm W (.Constant .none j pos) (kc .non) := ev_c pe_non fun _ => .non
theorem ev_str {x j} : PEv X da cm W (.Constant (.str x) j pos) (kc (.str x)) := ev_c pe_str fun _ => .str x

/-! ### operators -/
def opM (g : D → D → Option D) (fa fb : Env → M D) : Env → M D := fun env => bind (fa env) fun x => bind (fb env) fun y => lift (g x y)
variable {a b c e : Expr} {fa fb fc : Env → M D} {g g' : D → D → Option D}
theorem tOp_of {r : R2} (hr : Rop X.K da r g) (σ : L2.St) (H : Hp) (Q : VK) (h : tEv X.K da cm W (opM g fa fb) σ H Q) : tOp r (tEv X.K da cm W fa) (tEv X.K da cm W fb) σ H Q := by
  obtain ⟨Hk, env, δ, hA, hE, q⟩ := h
  refine tEv.seq hA hE q fun x d δ1 Hk1 H1 s1 a1 e1 r1 q1 => tEv.seq a1 e1 q1 fun y e δ2 Hk2 H2 s2 a2 e2 r2 q2 => ?_
  obtain ⟨z, hz, gz⟩ := Fin.lift a2 (s1.trans s2) q2
  exact hr Hk2 H2 x y d e z Q a2.ex (r1.mono s2.kn) r2 hz gz
theorem ev_bin {op : Operator} (ho : OpD X da (binaryOp op) g) (ha : PEv X da cm W a fa) (hb : PEv X da cm W b fb) : PEv X da cm W (.BinOp a op b pos) (opM g fa fb) := by
  obtain ⟨r, h1, h2⟩ := ho
  exact PE.imp (pe_op h1 ha hb) (tOp_of h2)
theorem ev_cmp {op : CmpOp} (ho : OpD X da (compareOp op) g) (ha : PEv X da cm W a fa) (hb : PEv X da cm W b fb) (hm : behindInMarks op b = false) : PEv X da cm W (.Compare a [op] [b] pos) (opM g fa fb) := by
  obtain ⟨r, h1, h2⟩ := ho
  exact PE.imp (pe_cmpR h1 ha hb hm) (tOp_of h2)
theorem ev_ix (ho : IxD X da g) (ha : PEv X da cm W a fa) (hb : PEv X da cm W b fb) (hs : PlainIx b) : PEv X da cm W (.Subscript a b pos) (opM g fa fb) := by
  obtain ⟨r, h1, h2⟩ := ho
  exact PE.imp (pe_ix h1 ha hb hs) (tOp_of h2)
/-- a bool, or nothing -/
def D.bl? : D → Option Bool
  | .bl b => some b
  | _ => none
def asB (f : Env → M D) : Env → M Bool := fun env => bind (f env) fun x => lift x.bl?
theorem Fin.bl {x : D} {v : V} {Hk H : Hp} {β : Type} {gg : Bool → M β} {δ : Dice} {k : β → Dice → Prop} {w : Value → Option Addr → Hp → Prop} (r : Rp X.K da.ra Hk v x) (q : Fin X.K da cm (Dv.bind (Dv.lift x.bl?) gg δ) Hk H k w) :
    ∃ t, v = .bl t ∧ x = .bl t ∧ Fin X.K da cm (gg t δ) Hk H k w := by
  cases x with
  | bl t => cases r; exact ⟨t, rfl, rfl, q⟩
  | _ => exact q.elim
def andM (fa fb : Env → M D) : Env → M D := fun env => bind (fa env) fun x => bind (lift x.bl?) fun t => if t then fb env else ret (.bl false)
def orM (fa fb : Env → M D) : Env → M D := fun env => bind (fa env) fun x => bind (lift x.bl?) fun t => if t then ret (.bl true) else fb env
def notM (fa : Env → M D) : Env → M D := fun env => bind (fa env) fun x => bind (lift x.bl?) fun t => ret (.bl (!t))
/-- a < b < c -/
def chainM (g g' : D → D → Option D) (fa fb fc : Env → M D) : Env → M D := fun env => bind (fa env) fun x => bind (fb env) fun y => bind (lift ((g x y).bind D.bl?)) fun t => if t then bind (fc env) fun z => lift (g' y z) else ret (.bl false)
/-! ### tests -/
theorem tTest_of {f : Env → M D} (σ : L2.St) (H : Hp) (Q : Bool → Hp → Prop) (h : tTv X.K da cm W (asB f) σ H Q) : tTest (tEv X.K da cm W f) σ H Q := by
  obtain ⟨Hk, env, δ, hA, hE, q⟩ := h
  refine tEv.seq hA hE q fun x d δ1 Hk1 H1 s1 a1 e1 r1 q1 => ?_
  rw [← ret_bind (Dv.lift d.bl?)] at q1
  obtain ⟨t, rfl, rfl, q2⟩ := Fin.bl r1 q1
  exact ⟨t, rfl, q2 Hk1 H1 s1 a1⟩
theorem ptv_cmp {op : CmpOp} (ho : OpD X da (compareOp op) g) (ha : PEv X da cm W a fa) (hb : PEv X da cm W b fb) (hm : behindInMarks op b = false) : PTv X da cm W (.Compare a [op] [b] pos) (asB (opM g fa fb)) := by
  obtain ⟨r, h1, h2⟩ := ho
  refine PT.imp (pt_cmpR h1 ha hb hm) fun σ H Q h => ?_
  exact tOp_of h2 σ H _ (tTest_of σ H Q h)
/-- an expression whose value is a bool, as a test -/
theorem ptv_val {f : Env → M D} (h : PEv X da cm W e f) (he : ∀ whole, isTrue e X.env whole = (do let v ← whole; standAt e.pos; holding [v] (truthy v)) := by intro _; rfl) : PTv X da cm W e (asB f) :=
  PT.imp (pt_val h he) tTest_of
variable {ta tb : Env → M Bool}
def andT (ta tb : Env → M Bool) : Env → M Bool := fun env => bind (ta env) fun t => if t then tb env else ret false
def orT (ta tb : Env → M Bool) : Env → M Bool := fun env => bind (ta env) fun t => if t then ret true else tb env
def notT (ta : Env → M Bool) : Env → M Bool := fun env => bind (ta env) fun t => ret (!t)
theorem pwv_or1 (ha : PTv X da cm W a ta) : PWv X da cm W (.BoolOp .Or [a] pos) ta := pw_or1 ha
theorem pwv_or {rest : List Expr} (ha : PTv X da cm W a ta) (hb : PWv X da cm W (.BoolOp .Or (b :: rest) pos) tb) : PWv X da cm W (.BoolOp .Or (a :: b :: rest) pos) (orT ta tb) := PW.imp (pw_or ha hb) fun σ H Q ⟨Hk, env, δ, hA, hE, q⟩ => by
  refine tTv.seq hA hE q fun t δ1 Hk1 H1 s1 a1 e1 q1 => ?_
  cases t with
  | true => exact q1 Hk1 H1 s1 a1
  | false => exact ⟨Hk1, env, δ1, a1, e1, q1.mono fun z δ2 k Hk' H' s => k Hk' H' (s1.trans s)⟩
theorem ptv_not (ha : PTv X da cm W a ta) : PTv X da cm W (.UnaryOp .Not a pos) (notT ta) := PT.imp (pt_not ha) fun σ H Q ⟨Hk, env, δ, hA, hE, q⟩ => by
  refine tTv.seq hA hE q fun t δ1 Hk1 H1 s1 a1 e1 q1 => ?_
  exact q1 Hk1 H1 s1 a1
def ifM (tc : Env → M Bool) (fa fb : Env → M D) : Env → M D := fun env => bind (tc env) fun t => if t then fa env else fb env
theorem ev_if (hc : PTv X da cm W c ta) (ha : PEv X da cm W a fa) (hb : PEv X da cm W b fb) : PEv X da cm W (.IfExp c a b pos) (ifM ta fa fb) := PE.imp (pe_ifExp hc ha hb) fun σ H Q ⟨Hk, env, δ, hA, hE, q⟩ => by
  refine tTv.seq hA hE q fun t δ1 Hk1 H1 s1 a1 e1 q1 => ?_
  cases t with
  | true => exact ⟨Hk1, env, δ1, a1, e1, q1.mono fun z δ2 k v Hk' H' s => k v Hk' H' (s1.trans s)⟩
  | false => exact ⟨Hk1, env, δ1, a1, e1, q1.mono fun z δ2 k v Hk' H' s => k v Hk' H' (s1.trans s)⟩

/-! ### arguments, displays -/
def nilA : Env → M (List D) := fun _ => ret []
def consA (f : Env → M D) (fs : Env → M (List D)) : Env → M (List D) := fun env => bind (f env) fun x => bind (fs env) fun xs => ret (x :: xs)
variable {es : List Expr} {fs : Env → M (List D)}
theorem av_nil : PAv X da cm W [] nilA := PA.imp pa_nil fun σ H Q ⟨Hk, env, δ, hA, hE, q⟩ => q [] Hk H (Stp.refl _ _ _) hA .nil
theorem av_cons (ha : PEv X da cm W e fa) (hr : PAv X da cm W es fs) (hs : starEach (e :: es) X.env = (false, eval e X.env) :: starEach es X.env := by rfl) : PAv X da cm W (e :: es) (consA fa fs) := PA.imp (pa_cons ha hr hs) fun σ H Q ⟨Hk, env, δ, hA, hE, q⟩ => by
  refine tEv.seq hA hE q fun x d δ1 Hk1 H1 s1 a1 e1 r1 q1 => tAv.seq a1 e1 q1 fun xs ds δ2 Hk2 H2 s2 a2 e2 r2 q2 => ?_
  exact q2 _ Hk2 H2 (s1.trans s2) a2 (.cons (r1.mono s2.kn) r2)
def lim : Nat := 100000
theorem lim_le {n : Nat} (h : n ≤ lim) : n ≤ sizeLine := by rw [sizeLine_eq]; unfold lim at h; omega
def tupM (fs : Env → M (List D)) : Env → M D := fun env => bind (fs env) fun xs => lift (if xs.length ≤ lim then some (.tup xs) else none)
theorem ite_some {α : Type} {p : Prop} [Decidable p] {a z : α} (h : (if p then some a else none) = some z) : p ∧ a = z := by
  by_cases hp : p
  · rw [if_pos hp] at h; exact ⟨hp, Option.some.inj h⟩
  · rw [if_neg hp] at h; cases h
theorem ev_tup {x1} (h : PAv X da cm W es fs) : PEv X da cm W (.Tuple es x1 pos) (tupM fs) := PE.imp (pe_tup h) fun σ H Q ⟨Hk, env, δ, hA, hE, q⟩ => by
  refine tAv.seq hA hE q fun xs ds δ1 Hk1 H1 s1 a1 e1 r1 q1 => ?_
  obtain ⟨z, hz, gz⟩ := Fin.lift a1 s1 q1
  obtain ⟨hl, rfl⟩ := ite_some hz
  exact ⟨by rw [r1.length]; exact lim_le hl, fun p hp => gz.tup a1.ex r1 hp⟩
/-! ### calls of built-ins -/
def calM (g : List D → Option D) (fs : Env → M (List D)) : Env → M D := fun env => bind (fs env) fun xs => lift (g xs)
variable {gl : List D → Option D} {x : Str} {p : Pos}
theorem tCB_of {r : List V → Hp → VK → Prop} (hr : Rcl X.K da r gl) (σ : L2.St) (H : Hp) (Q : VK) (h : tEv X.K da cm W (calM gl fs) σ H Q) : tCB r (tAv X.K da cm W fs) σ H Q := by
  obtain ⟨Hk, env, δ, hA, hE, q⟩ := h
  refine tAv.seq hA hE q fun xs ds δ1 Hk1 H1 s1 a1 e1 r1 q1 => ?_
  obtain ⟨z, hz, gz⟩ := Fin.lift a1 s1 q1
  exact hr Hk1 H1 xs ds z Q a1.ex r1 hz gz
theorem ev_callB {id : String} (hc : CalD X da (.builtin id) gl) (hg : Gl X x) (hm : X.mg x = none) (hv : bootBuiltins x = some (.builtin id)) (ha : PAv X da cm W (e :: es) fs) (hn : x ≠ "__name__" := by decide) (hdb : (x == ("__debug__" : Str)) = false := by decide)
    (he : starEach (e :: es) X.env = (false, eval e X.env) :: starEach es X.env := by rfl) (hpl : (backTo pos (starEach es X.env)).any (·.1) = false := by rfl) : PEv X da cm W (.Call (.Name x p) (e :: es) [] pos) (calM gl fs) := by
  obtain ⟨r, h1, h2⟩ := hc
  exact PE.imp (pe_callB h1 hg hm hv ha hn hdb he hpl) (tCB_of h2)
theorem ev_callTy {T : String} (hc : CalD X da (.type T) gl) (hg : Gl X x) (hm : X.mg x = none) (hv : bootBuiltins x = some (.type T)) (ha : PAv X da cm W (e :: es) fs) (hn : x ≠ "__name__" := by decide) (hdb : (x == ("__debug__" : Str)) = false := by decide)
    (he : starEach (e :: es) X.env = (false, eval e X.env) :: starEach es X.env := by rfl) (hpl : (backTo pos (starEach es X.env)).any (·.1) = false := by rfl) : PEv X da cm W (.Call (.Name x p) (e :: es) [] pos) (calM gl fs) := by
  obtain ⟨r, h1, h2⟩ := hc
  exact PE.imp (pe_callTy h1 hg hm hv ha hn hdb he hpl) (tCB_of h2)
end
end Dv
set_option maxHeartbeats 4000000
namespace Dv
open PySem PySem.Spec PyProof.Rows L2

/-! ### the slots of a def: data, or an own list or dict -/
inductive Sl where
  | no | dt (d : D) | ow (ds : List D) | od (kvs : List (D × D)) | oo (c : Nat) (fs : List (Str × D))
abbrev SEnv := List Sl
def Sl.vw : Sl → Option D
  | .dt d => some d
  | _ => none
/-- with the own lists seen -/
def Sl.va : Sl → Option D
  | .dt d => some d
  | .ow ds => some (.lst ds)
  | .od _ => none
  | .oo c fs => some (.obj c fs)
  | .no => none
def vw (env : SEnv) : Env := env.map Sl.vw
def va (env : SEnv) : Env := env.map Sl.va
def Sl.own : Sl → Bool
  | .ow _ => true
  | .od _ => true
  | .oo _ _ => true
  | _ => false
/-- the content of an own slot at p -/
def OwnAt (K : PySem.W.Frag) (da : Da) (Hk H : Hp) (p : Addr) : Sl → Prop
  | .ow ds => ∃ vs, H p = some (.lst vs) ∧ RpL K da.ra Hk vs ds
  | .od kvs => ∃ vs, H p = some (.dK vs) ∧ RpK K da.ra Hk vs kvs
  | .oo c fs => ∃ vs : Addr × List (Str × V), da.sf = some p ∧ H p = some (.ins (da.ra.cl c) vs.1 vs.2) ∧ RpF K da.ra Hk vs.2 fs
  | _ => False
def Own (σ : L2.St) (env : SEnv) (p : Addr) : Prop := ∃ (i : Nat) (s : Sl), env[i]? = some s ∧ s.own = true ∧ σ[i]? = some (some (V.ref p))
structure EnvS (K : PySem.W.Frag) (da : Da) (Hk H : Hp) (σ : L2.St) (env : SEnv) : Prop where
  len : σ.length = env.length
  dat : ∀ (i : Nat) (d : D), env[i]? = some (.dt d) → ∃ v, σ[i]? = some (some v) ∧ Rp K da.ra Hk v d
  own : ∀ (i : Nat) (s : Sl), env[i]? = some s → s.own = true → ∃ p, σ[i]? = some (some (.ref p)) ∧ Hk p = none ∧ da.ad ≠ some p ∧ OwnAt K da Hk H p s
  apart : ∀ (i j : Nat) (s t : Sl) (p : Addr), env[i]? = some s → s.own = true → env[j]? = some t → t.own = true → σ[i]? = some (some (.ref p)) → σ[j]? = some (some (.ref p)) → i = j
structure StpS (da : Da) (O : Addr → Prop) (Hk H Hk' H' : Hp) : Prop where
  kn : Ex Hk Hk'
  fr : ∀ b, Mu H b → ¬ O b → Hk b = none → Hk' b = none
  ke : ∀ b o, H b = some o → da.ad ≠ some b → (∀ ps, o ≠ .tbl ps) → ¬ O b → H' b = some o
  th : ∀ b, Nt H b → Nt H' b
  tm : ∀ b, Mu H b → Mu H' b
theorem Stp.s {da : Da} {O : Addr → Prop} {Hk H Hk' H' : Hp} (s : Stp da Hk H Hk' H') : StpS da O Hk H Hk' H' := ⟨s.kn, fun b h _ n => s.fr b h n, fun b o h n t _ => s.ke b o h n t, s.th, s.tm⟩
theorem StpS.refl (da : Da) (O : Addr → Prop) (Hk H : Hp) : StpS da O Hk H Hk H := (Stp.refl da Hk H).s
theorem StpS.trans {da : Da} {O O1 : Addr → Prop} {Hk H Hk1 H1 Hk2 H2 : Hp} (a : StpS da O Hk H Hk1 H1) (b : StpS da O1 Hk1 H1 Hk2 H2) (ho : ∀ p, O1 p → O p ∨ ¬ Nt H p) : StpS da O Hk H Hk2 H2 := by
  have nO : ∀ c, Nt H c → ¬ O c → ¬ O1 c := fun c h n z => (ho c z).elim n fun q => q h
  exact ⟨a.kn.trans b.kn, fun c h n k => b.fr c (a.tm c h) (nO c h.nt n) (a.fr c h n k), fun c o h d t n => b.ke c o (a.ke c o h d t n) d t (nO c ⟨o, h, t⟩ n), fun c h => b.th c (a.th c h), fun c h => b.tm c (a.tm c h)⟩
theorem StpS.mono {da : Da} {O O' : Addr → Prop} {Hk H Hk' H' : Hp} (a : StpS da O Hk H Hk' H') (h : ∀ p, O p → O' p) : StpS da O' Hk H Hk' H' :=
  ⟨a.kn, fun b x n => a.fr b x fun z => n (h b z), fun b o x d t n => a.ke b o x d t fun z => n (h b z), a.th, a.tm⟩
theorem StpS.stp {da : Da} {O : Addr → Prop} {Hk H Hk' H' : Hp} (a : StpS da O Hk H Hk' H') (h : ∀ p, ¬ O p) : Stp da Hk H Hk' H' :=
  ⟨a.kn, fun b x n => a.fr b x (h b) n, fun b o x d t => a.ke b o x d t (h b), a.th, a.tm⟩

section
variable {K : PySem.W.Frag} {da : Da} {Hk H Hk' H' : Hp} {σ : L2.St} {env : SEnv} {δ : Dice}
theorem vw_get {env : SEnv} {i : Nat} {d : D} (h : (vw env)[i]? = some (some d)) : env[i]? = some (.dt d) := by
  unfold vw at h
  rw [List.getElem?_map] at h
  cases e : env[i]? with
  | none => rw [e] at h; cases h
  | some s =>
    rw [e] at h
    cases s <;> simp [Sl.vw] at h
    rw [h]
theorem EnvS.vw (h : EnvS K da Hk H σ env) : EnvR K da Hk σ (vw env) := ⟨by unfold Dv.vw; rw [List.length_map, h.len]; exact Nat.le_refl _, fun i d e => h.dat i d (vw_get e)⟩
/-- nothing but new things, and the dice -/
theorem EnvS.step (h : EnvS K da Hk H σ env) (s : Stp da Hk H Hk' H') : EnvS K da Hk' H' σ env where
  len := h.len
  dat := fun i d e => by
    obtain ⟨v, h1, h2⟩ := h.dat i d e
    exact ⟨v, h1, h2.mono s.kn⟩
  own := fun i t e o => by
    obtain ⟨p, h1, h2, h3, h4⟩ := h.own i t e o
    refine ⟨p, h1, ?_, h3, ?_⟩
    · refine s.fr p ?_ h2
      cases t <;> first | exact h4.elim | (obtain ⟨vs, q, _⟩ := h4; exact ⟨_, q, by first | exact .lst _ | exact .dK _⟩) | (obtain ⟨vs, _, q, _⟩ := h4; exact ⟨_, q, .ins _ _ _⟩)
    · cases t with
      | ow ds => obtain ⟨vs, q, r⟩ := h4; exact ⟨vs, s.ke p _ q h3 (fun _ z => nomatch z), r.mono s.kn⟩
      | od ds => obtain ⟨vs, q, r⟩ := h4; exact ⟨vs, s.ke p _ q h3 (fun _ z => nomatch z), r.mono s.kn⟩
      | oo c ds => obtain ⟨vs, f, q, r⟩ := h4; exact ⟨vs, f, s.ke p _ q h3 (fun _ z => nomatch z), r.mono s.kn⟩
      | no => exact h4
      | dt d => exact h4
  apart := h.apart
theorem Own.there (h : EnvS K da Hk H σ env) {p : Addr} (o : Own σ env p) : Hk p = none ∧ da.ad ≠ some p ∧ Mu H p := by
  obtain ⟨i, s, h1, h2, h3⟩ := o
  obtain ⟨q, a1, a2, a3, a4⟩ := h.own i s h1 h2
  rw [h3] at a1
  cases a1
  refine ⟨a2, a3, ?_⟩
  cases s <;> first | exact a4.elim | (obtain ⟨vs, q, _⟩ := a4; exact ⟨_, q, by first | exact .lst _ | exact .dK _⟩) | (obtain ⟨vs, _, q, _⟩ := a4; exact ⟨_, q, .ins _ _ _⟩)
end

/-! ### statements -/
inductive Fl where
  | next (env : SEnv) | ret (d : D) | nw (ds : List D) | brk (env : SEnv) | cont (env : SEnv)
section
variable (K : PySem.W.Frag) (da : Da)
/-- a state behind: σ', H' with the mirror's env', δ' -/
def Nx (Hk H : Hp) (σ : L2.St) (env : SEnv) (env' : SEnv) (δ' : Dice) (N : L2.St → Hp → Prop) : Prop :=
  ∀ σ' Hk' H', StpS da (Own σ env) Hk H Hk' H' → At da Hk' H' δ' → EnvS K da Hk' H' σ' env' → (∀ p, Own σ' env' p → Own σ env p ∨ ¬ Nt H p) → N σ' H'
def Rt (Hk H : Hp) (σ : L2.St) (env : SEnv) (d : D) (δ' : Dice) (Q : VK) : Prop := ∀ v Hk' H', StpS da (Own σ env) Hk H Hk' H' → At da Hk' H' δ' → Rp K da.ra Hk' v d → Q v H'
/-- a list that no one else has is handed back -/
def RtN (Hk H : Hp) (σ : L2.St) (env : SEnv) (ds : List D) (δ' : Dice) (Q : VK) : Prop := ∀ p vs Hk' H', StpS da (Own σ env) Hk H Hk' H' → At da Hk' H' δ' → Hk' p = none → ¬ Nt H p → H' p = some (.lst vs) → RpL K da.ra Hk' vs ds → Q (.ref p) H'
def FinS (cm : Nat → Addr) (r : R Fl) (Hk H : Hp) (σ : L2.St) (env : SEnv) (D : Ends) (E : XK) : Prop :=
  match r with
  | .ok (.next e) δ => Nx K da Hk H σ env e δ D.nx
  | .ok (.brk e) δ => Nx K da Hk H σ env e δ D.bk
  | .ok (.cont e) δ => Nx K da Hk H σ env e δ D.ct
  | .ok (.ret d) δ => Rt K da Hk H σ env d δ D.rt
  | .ok (.nw ds) δ => RtN K da Hk H σ env ds δ D.rt
  | .exc c fs δ => ∀ dd Hk' H', StpS da (Own σ env) Hk H Hk' H' → At da Hk' H' δ → Xr K da.ra Hk' dd fs → E (.ref (cm c)) dd H'
  | .bad => False
def tSt (cm : Nat → Addr) (E : XK) (F : SEnv → M Fl) : TS := fun D σ H => ∃ Hk env δ, At da Hk H δ ∧ EnvS K da Hk H σ env ∧ FinS K da cm (F env δ) Hk H σ env D E
end
abbrev PSv (X : Cx) (da : Da) (cm : Nat → Addr) (E : XK) (st : Stmt) (F : SEnv → M Fl) : Prop := PS X st (tSt X.K da cm E F)
abbrev PBv (X : Cx) (da : Da) (cm : Nat → Addr) (E : XK) (st : List Stmt) (F : SEnv → M Fl) : Prop := PSs X st (tSt X.K da cm E F)
abbrev WE0 (E : XK) : WX := fun c dd _ H => E c dd H
theorem PS.imp {X : Cx} {st : Stmt} {t t' : TS} (h : PS X st t) (i : ∀ D σ H, t' D σ H → t D σ H) : PS X st t' := ⟨fun pins s σ H D I q => h.run pins s σ H D I (i _ _ _ q)⟩
theorem PSs.imp {X : Cx} {st : List Stmt} {t t' : TS} (h : PSs X st t) (i : ∀ D σ H, t' D σ H → t D σ H) : PSs X st t' := ⟨fun pins s σ H D I q => h.run pins s σ H D I (i _ _ _ q)⟩

section
variable {K : PySem.W.Frag} {da : Da} {cm : Nat → Addr} {E : XK} {σ : L2.St} {H Hk : Hp} {env : SEnv} {δ : Dice} {D : Ends}
/-- an expression at the head of a statement, evaluated in what the statement sees; behind it the rest of the statement's mirror -/
theorem FinS.seq {α : Type} {m : M α} {g : α → M Fl} (h : FinS K da cm (bind m g δ) Hk H σ env D E) :
    Fin K da cm (m δ) Hk H (fun a δ' => FinS K da cm (g a δ') Hk H σ env D E) (fun c dd H' => E c dd H') := by
  unfold Dv.bind at h
  cases e : m δ with
  | ok a δ' => rw [e] at h; exact h
  | exc c fs δ' => rw [e] at h; exact fun dd Hk' H' s a x => h dd Hk' H' s.s a x
  | bad => rw [e] at h; exact h
theorem Nx.later {env' : SEnv} {δ' : Dice} {N : L2.St → Hp → Prop} {σ1 : L2.St} {env1 : SEnv} {Hk1 H1 : Hp} (h : Nx K da Hk H σ env env' δ' N) (s : StpS da (Own σ env) Hk H Hk1 H1) (o : ∀ p, Own σ1 env1 p → Own σ env p ∨ ¬ Nt H p) : Nx K da Hk1 H1 σ1 env1 env' δ' N :=
  fun σ' Hk' H' s' a e n => h σ' Hk' H' (s.trans s' o) a e fun p hp => (n p hp).elim (o p) fun z => by
    by_cases q : Nt H p
    · exact absurd (s.th p q) z
    · exact .inr q
theorem FinS.later {r : R Fl} {σ1 : L2.St} {env1 : SEnv} {Hk1 H1 : Hp} (h : FinS K da cm r Hk H σ env D E) (s : StpS da (Own σ env) Hk H Hk1 H1) (o : ∀ p, Own σ1 env1 p → Own σ env p ∨ ¬ Nt H p) : FinS K da cm r Hk1 H1 σ1 env1 D E := by
  cases r with
  | ok f δ =>
    cases f with
    | next e => exact Nx.later h s o
    | brk e => exact Nx.later h s o
    | cont e => exact Nx.later h s o
    | ret d => exact fun v Hk' H' s' a r => h v Hk' H' (s.trans s' o) a r
    | nw ds => exact fun p vs Hk' H' s' a k n => h p vs Hk' H' (s.trans s' o) a k fun z => n (s.th p z)
  | exc c fs δ => exact fun dd Hk' H' s' a x => h dd Hk' H' (s.trans s' o) a x
  | bad => exact h
theorem FinS.step {r : R Fl} {Hk1 H1 : Hp} (h : FinS K da cm r Hk H σ env D E) (s : Stp da Hk H Hk1 H1) : FinS K da cm r Hk1 H1 σ env D E := h.later s.s fun _ z => .inl z
/-- .. the expression with its own lists hidden -/
theorem tEv.st {f : Env → M Dv.D} {g : Dv.D → M Fl} (hA : At da Hk H δ) (hE : EnvS K da Hk H σ env) (h : FinS K da cm (bind (f (vw env)) g δ) Hk H σ env D E) {Q : VK}
    (hq : ∀ v d δ' Hk' H', Stp da Hk H Hk' H' → At da Hk' H' δ' → EnvS K da Hk' H' σ env → Rp K da.ra Hk' v d → FinS K da cm (g d δ') Hk' H' σ env D E → Q v H') : tEv K da cm (WE0 E) f σ H Q :=
  ⟨Hk, vw env, δ, hA, hE.vw, h.seq.mono fun d δ' hg v Hk' H' s a r => hq v d δ' Hk' H' s a (hE.step s) r (hg.step s)⟩
theorem tAv.st {f : Env → M (List Dv.D)} {g : List Dv.D → M Fl} (hA : At da Hk H δ) (hE : EnvS K da Hk H σ env) (h : FinS K da cm (bind (f (vw env)) g δ) Hk H σ env D E) {Q : List V → Hp → Prop}
    (hq : ∀ v d δ' Hk' H', Stp da Hk H Hk' H' → At da Hk' H' δ' → EnvS K da Hk' H' σ env → RpL K da.ra Hk' v d → FinS K da cm (g d δ') Hk' H' σ env D E → Q v H') : tAv K da cm (WE0 E) f σ H Q :=
  ⟨Hk, vw env, δ, hA, hE.vw, h.seq.mono fun d δ' hg v Hk' H' s a r => hq v d δ' Hk' H' s a (hE.step s) r (hg.step s)⟩

/-! ### own lists seen for the time of an expression -/
/- Hk with the own lists and dicts of the slots -/
open Classical in
noncomputable def seen (H Hk : Hp) (σ : L2.St) (env : SEnv) : Hp := fun b => match Hk b with
  | some o => some o
  | none => if Own σ env b then H b else none
theorem seen_some {b : Addr} {o : HO} (h : Hk b = some o) : seen H Hk σ env b = some o := by unfold seen; rw [h]
theorem seen_own {b : Addr} (h : Hk b = none) (o : Own σ env b) : seen H Hk σ env b = H b := by unfold seen; rw [h]; exact if_pos o
theorem seen_not {b : Addr} (h : Hk b = none) (o : ¬ Own σ env b) : seen H Hk σ env b = none := by unfold seen; rw [h]; exact if_neg o
end
end Dv
set_option maxHeartbeats 4000000
namespace Dv
open PySem PySem.Spec PyProof.Rows L2

theorem ifp {α : Type} {p : Prop} [Decidable p] {a b : M α} {δ : Dice} (h : p) : (if p then a else b : M α) δ = a δ := by
  rw [show (if p then a else b : M α) = a from if_pos h]
theorem ifn {α : Type} {p : Prop} [Decidable p] {a b : M α} {δ : Dice} (h : ¬ p) : (if p then a else b : M α) δ = b δ := by
  rw [show (if p then a else b : M α) = b from if_neg h]
section
variable {K : PySem.W.Frag} {da : Da} {cm : Nat → Addr} {E : XK} {σ : L2.St} {H Hk : Hp} {env : SEnv} {δ : Dice} {D : Ends}
theorem get_set_same {α : Type} {l : List α} {i : Nat} {a b : α} (h : (l.set i a)[i]? = some b) : a = b := by
  obtain ⟨hl, e⟩ := List.getElem?_eq_some_iff.mp h
  rw [List.getElem_set_self] at e
  exact e
theorem set_lt {α : Type} {l : List α} {i : Nat} {a b : α} (h : (l.set i a)[i]? = some b) : i < l.length := by
  obtain ⟨hl, e⟩ := List.getElem?_eq_some_iff.mp h
  simpa using hl
/-- data is stored -/
theorem EnvS.set {i : Nat} {v : V} {d : Dv.D} (h : EnvS K da Hk H σ env) (r : Rp K da.ra Hk v d) : EnvS K da Hk H (σ.set i (some v)) (env.set i (.dt d)) where
  len := by rw [List.length_set, List.length_set]; exact h.len
  dat := fun j x e => by
    by_cases hj : i = j
    · subst hj
      have q := get_set_same e
      cases q
      exact ⟨v, List.getElem?_set_self (by rw [h.len]; exact set_lt e), r⟩
    · rw [List.getElem?_set_ne hj] at e ⊢
      exact h.dat j x e
  own := fun j s e o => by
    by_cases hj : i = j
    · subst hj
      have q := get_set_same e
      subst q
      cases o
    · rw [List.getElem?_set_ne hj] at e ⊢
      exact h.own j s e o
  apart := fun j k s t p e1 o1 e2 o2 q1 q2 => by
    by_cases hj : i = j
    · subst hj
      have q := get_set_same e1
      subst q
      cases o1
    · by_cases hk : i = k
      · subst hk
        have q := get_set_same e2
        subst q
        cases o2
      · rw [List.getElem?_set_ne hj] at e1 q1
        rw [List.getElem?_set_ne hk] at e2 q2
        exact h.apart j k s t p e1 o1 e2 o2 q1 q2
theorem Own.of_set {i : Nat} {v : Option V} {d : Dv.D} {p : Addr} (h : Own (σ.set i v) (env.set i (.dt d)) p) : Own σ env p := by
  obtain ⟨j, s, e, o, q⟩ := h
  by_cases hj : i = j
  · subst hj
    have z := get_set_same e
    subst z
    cases o
  · rw [List.getElem?_set_ne hj] at e q
    exact ⟨j, s, e, o, q⟩
theorem own_le {p : Addr} (h : Own σ env p) : Own σ env p ∨ ¬ Nt H p := .inl h

/-! ### with the own lists seen -/
theorem seen_ex : Ex Hk (seen H Hk σ env) := fun _ _ e => seen_some e
theorem seen_at (hA : At da Hk H δ) (hE : EnvS K da Hk H σ env) : At da (seen H Hk σ env) H δ where
  ex := fun b o e => by
    cases q : Hk b with
    | some u => rw [seen_some q] at e; cases e; exact hA.ex b _ q
    | none =>
      by_cases z : Own σ env b
      · rw [seen_own q z] at e; exact e
      · rw [seen_not q z] at e; cases e
  di := fun a e => by
    obtain ⟨h1, h2⟩ := hA.di a e
    exact ⟨seen_not h1 fun z => (Own.there hE z).2.1 e, h2⟩
  tb := hA.tb
  kn := da.km _ _ seen_ex hA.kn
  nt := fun b ps e => by
    cases q : Hk b with
    | some u => rw [seen_some q] at e; cases e; exact hA.nt b ps q
    | none =>
      by_cases z : Own σ env b
      · rw [seen_own q z] at e
        obtain ⟨i, t, h1, h2, h3⟩ := z
        obtain ⟨p, a1, _, _, a4⟩ := hE.own i t h1 h2
        rw [h3] at a1
        cases a1
        cases t <;> first | exact a4.elim | (obtain ⟨vs, c, _⟩ := a4; rw [c] at e; cases e; done) | (obtain ⟨vs, _, c, _⟩ := a4; rw [c] at e; cases e)
      · rw [seen_not q z] at e; cases e
theorem va_get {i : Nat} {d : Dv.D} (h : (va env)[i]? = some (some d)) : ∃ s, env[i]? = some s ∧ s.va = some d := by
  unfold va at h
  rw [List.getElem?_map] at h
  cases e : env[i]? with
  | none => rw [e] at h; cases h
  | some s =>
    rw [e] at h
    exact ⟨s, rfl, Option.some.inj h⟩
theorem seen_env (hE : EnvS K da Hk H σ env) : EnvR K da (seen H Hk σ env) σ (va env) := ⟨by unfold va; rw [List.length_map, hE.len]; exact Nat.le_refl _, fun i d h => by
  obtain ⟨s, e, hs⟩ := va_get h
  cases s with
  | no => cases hs
  | dt x =>
    cases hs
    obtain ⟨v, h1, h2⟩ := hE.dat i d e
    exact ⟨v, h1, h2.mono seen_ex⟩
  | ow ds =>
    cases hs
    obtain ⟨p, h1, h2, h3, vs, h4, h5⟩ := hE.own i _ e rfl
    exact ⟨_, h1, .lst ((seen_own h2 ⟨i, _, e, rfl, h1⟩).trans h4) (h5.mono seen_ex)⟩
  | od ds =>
    cases hs
  | oo c ds =>
    cases hs
    obtain ⟨p, h1, h2, h3, vs, _, h4, h5⟩ := hE.own i _ e rfl
    exact ⟨_, h1, .obj ((seen_own h2 ⟨i, _, e, rfl, h1⟩).trans h4) (h5.mono seen_ex)⟩⟩
theorem seen_stp {Hk' H' : Hp} (s : Stp da (seen H Hk σ env) H Hk' H') : StpS da (Own σ env) Hk H Hk' H' :=
  ⟨seen_ex.trans s.kn, fun b h n k => s.fr b h (seen_not k n), fun b o h d t _ => s.ke b o h d t, s.th, s.tm⟩
/-- behind it the own lists may be hidden again -/
theorem seen_back (hA : At da Hk H δ) (hE : EnvS K da Hk H σ env) {Hk' H' : Hp} {δ' : Dice} (s : Stp da (seen H Hk σ env) H Hk' H') (a : At da Hk' H' δ') :
    StpS da (Own σ env) Hk H Hk H' ∧ At da Hk H' δ' ∧ EnvS K da Hk H' σ env := by
  refine ⟨⟨Evl.Ex.refl _, fun _ _ _ n => n, fun b o h d t _ => s.ke b o h d t, s.th, s.tm⟩, ⟨fun b o e => a.ex b o (s.kn b o (seen_some e)), fun b e => ⟨(hA.di b e).1, (a.di b e).2⟩, a.tb, hA.kn, hA.nt⟩, hE.len, hE.dat, fun i t e o => ?_, hE.apart⟩
  obtain ⟨p, h1, h2, h3, h4⟩ := hE.own i t e o
  refine ⟨p, h1, h2, h3, ?_⟩
  cases t with
  | ow ds => obtain ⟨vs, q, r⟩ := h4; exact ⟨vs, s.ke p _ q h3 (fun _ z => nomatch z), r⟩
  | od ds => obtain ⟨vs, q, r⟩ := h4; exact ⟨vs, s.ke p _ q h3 (fun _ z => nomatch z), r⟩
  | oo c ds => obtain ⟨vs, f, q, r⟩ := h4; exact ⟨vs, f, s.ke p _ q h3 (fun _ z => nomatch z), r⟩
  | no => exact h4
  | dt d => exact h4
theorem FinS.seen {α : Type} {m : M α} {g : α → M Fl} (h : FinS K da cm (bind m g δ) Hk H σ env D E) :
    Fin K da cm (m δ) (seen H Hk σ env) H (fun a δ' => FinS K da cm (g a δ') Hk H σ env D E) (fun c dd H' => E c dd H') := by
  unfold Dv.bind at h
  cases e : m δ with
  | ok a δ' => rw [e] at h; exact h
  | exc c fs δ' => rw [e] at h; exact fun dd Hk' H' s a x => h dd Hk' H' (seen_stp s) a x
  | bad => rw [e] at h; exact h
theorem tTv.st {f : Env → M Bool} {g : Bool → M Fl} (hA : At da Hk H δ) (hE : EnvS K da Hk H σ env) (h : FinS K da cm (bind (f (va env)) g δ) Hk H σ env D E) {Q : Bool → Hp → Prop}
    (hq : ∀ b δ' H', At da Hk H' δ' → EnvS K da Hk H' σ env → FinS K da cm (g b δ') Hk H' σ env D E → Q b H') : tTv K da cm (WE0 E) f σ H Q :=
  ⟨Dv.seen H Hk σ env, va env, δ, seen_at hA hE, seen_env hE, h.seen.mono fun b δ' hg Hk' H' s a => by
    obtain ⟨s', a', e'⟩ := seen_back hA hE s a
    exact hq b δ' H' a' e' (hg.later s' fun _ => own_le)⟩
/-- .. an expression whose value may bear them: they are known from now on -/
theorem tEv.stR {f : Env → M Dv.D} {g : Dv.D → M Fl} (hA : At da Hk H δ) (hE : EnvS K da Hk H σ env) (h : FinS K da cm (bind (f (va env)) g δ) Hk H σ env D E) {Q : VK}
    (hq : ∀ v d δ' Hk' H', StpS da (Own σ env) Hk H Hk' H' → At da Hk' H' δ' → Rp K da.ra Hk' v d → FinS K da cm (g d δ') Hk H σ env D E → Q v H') : tEv K da cm (WE0 E) f σ H Q :=
  ⟨Dv.seen H Hk σ env, va env, δ, seen_at hA hE, seen_env hE, h.seen.mono fun d δ' hg v Hk' H' s a r => hq v d δ' Hk' H' (seen_stp s) a r hg⟩
def D.scal : Dv.D → Bool
  | .non | .bl _ | .int _ | .str _ => true
  | _ => false
theorem Rp.scal {H H' : Hp} {v : V} {d : Dv.D} (r : Rp K da.ra H v d) (h : d.scal = true) : Rp K da.ra H' v d := by
  cases r <;> first | exact .non | exact .bl _ | exact .int _ | exact .str _ | cases h
end

section
variable {X : Cx} {da : Da} {cm : Nat → Addr} {E : XK} {pos : Pos} {e : Expr} {f : Env → M D} {st : Stmt} {rest : List Stmt} {F G : SEnv → M Fl}
/-! ### blocks -/
def nilS : SEnv → M Fl := fun env => ret (.next env)
def seqS (F G : SEnv → M Fl) : SEnv → M Fl := fun env => bind (F env) fun r => match r with
  | .next e => G e
  | r => ret r
theorem sb_nil : PBv X da cm E [] nilS := PSs.imp pss_nil fun D σ H ⟨Hk, env, δ, hA, hE, q⟩ => q σ Hk H (StpS.refl _ _ _ _) hA hE fun _ => own_le
theorem sb_cons (h1 : PSv X da cm E st F) (h2 : PBv X da cm E rest G) : PBv X da cm E (st :: rest) (seqS F G) := PSs.imp (pss_cons h1 h2) fun D σ H ⟨Hk, env, δ, hA, hE, q⟩ => by
  refine ⟨Hk, env, δ, hA, hE, ?_⟩
  unfold seqS Dv.bind at q
  cases e : F env δ with
  | ok r δ' =>
    rw [e] at q
    cases r with
    | next e' => exact fun σ' Hk' H' s a e1 o => ⟨Hk', e', δ', a, e1, FinS.later q s o⟩
    | ret d => exact q
    | nw ds => exact q
    | brk e' => exact q
    | cont e' => exact q
  | exc c fs δ' => rw [e] at q; exact q
  | bad => rw [e] at q; exact q
theorem sb_one (h1 : PSv X da cm E st F) : PBv X da cm E [st] F := pss_one h1
/-! ### small statements -/
def asgS (i : Nat) (f : Env → M D) : SEnv → M Fl := fun env => bind (f (vw env)) fun d => ret (.next (env.set i (.dt d)))
theorem asgS_of {i : Nat} (D : Ends) (σ : L2.St) (H : Hp) (h : tSt X.K da cm E (asgS i f) D σ H) : tAsg (tEv X.K da cm (WE0 E) f) (gName i) D σ H := by
  obtain ⟨Hk, env, δ, hA, hE, q⟩ := h
  refine tEv.st hA hE q fun v d δ' Hk' H' s a e r q => ?_
  exact q _ Hk' H' (StpS.refl _ _ _ _) a (e.set r) fun p hp => .inl hp.of_set
variable {i : Nat} {x : Str} {pos' : Pos}
theorem ss_set (hN : X.N.Nodup) (hi : X.N[i]? = some x) (hx : Loc X.env.scope x) (he : PEv X da cm (WE0 E) e f) (hs : swapsWith e (some (.Name x pos')) pos.line X.env = pure false := by rfl)
    (hf : X.fn x = true ∨ X.env.scope.names.lookup x = some .local := by first | exact .inl rfl | exact .inr rfl | assumption) : PSv X da cm E (.Assign [.Name x pos'] e pos) (asgS i f) := PS.imp (ps_set hN hi hx he hs hf) asgS_of
def exprS (f : Env → M D) : SEnv → M Fl := fun env => bind (f (va env)) fun _ => ret (.next env)
def retS (f : Env → M D) : SEnv → M Fl := fun env => bind (f (va env)) fun d => ret (.ret d)
theorem ss_ret (he : PEv X da cm (WE0 E) e f) : PSv X da cm E (.Return (some e) pos) (retS f) := PS.imp (ps_ret he) fun D σ H ⟨Hk, env, δ, hA, hE, q⟩ =>
  tEv.stR hA hE q fun v d δ' Hk' H' s a r q => q v Hk' H' s a r
def ifS (t : Env → M Bool) (F G : SEnv → M Fl) : SEnv → M Fl := fun env => bind (t (va env)) fun b => if b then F env else G env
theorem ss_if {c : Expr} {A B : List Stmt} {t : Env → M Bool} (hc : PTv X da cm (WE0 E) c t) (ha : PBv X da cm E A F) (hb : PBv X da cm E B G) : PSv X da cm E (.If c A B pos) (ifS t F G) := PS.imp (ps_if hc ha hb) fun D σ H ⟨Hk, env, δ, hA, hE, q⟩ => by
  refine tTv.st hA hE q fun b δ' H' a e q => ?_
  cases b with
  | true => exact ⟨Hk, env, δ', a, e, q⟩
  | false => exact ⟨Hk, env, δ', a, e, q⟩
end

/-! ### a def -/
/-- a list or dict that no one else has is known from now on -/
theorem know {da : Da} {Hk H Hk' H' : Hp} {δ δ' : Dice} {p : Addr} {o : HO} (hA : At da Hk H δ) (s : Stp da Hk H Hk' H') (a : At da Hk' H' δ') (kp : Hk' p = none) (hp : ¬ Nt H p) (hp' : H' p = some o) (m : Mut o) :
    Stp da Hk H (upd Hk' p o) H' ∧ At da (upd Hk' p o) H' δ' ∧ Ex Hk' (upd Hk' p o) := by
  have e2 : Ex Hk' (upd Hk' p o) := Evl.Ex.new kp
  have np : ∀ {b : Addr}, Mu H b → b ≠ p := fun h z => hp (by rw [← z]; exact h.nt)
  have dp : da.ad ≠ some p := fun z => hp ⟨_, (hA.di _ z).2, fun _ z => nomatch z⟩
  refine ⟨⟨s.kn.trans e2, fun b hb n => by rw [upd_ne (np hb)]; exact s.fr b hb n, s.ke, s.th, s.tm⟩, ⟨fun b u e => ?_, fun b e => ?_, a.tb, da.km _ _ e2 a.kn, fun b ps e => ?_⟩, e2⟩
  · by_cases z : b = p
    · subst z; rw [upd_same] at e; cases e; exact hp'
    · rw [upd_ne z] at e; exact a.ex b u e
  · rw [upd_ne (fun z => dp (by rw [e, z]))]
    exact a.di b e
  · by_cases z : b = p
    · subst z; rw [upd_same] at e; exact m.ntb ps (Option.some.inj e)
    · rw [upd_ne z] at e; exact a.nt b ps e
def spM (K : PySem.W.Frag) (cm : Nat → Addr) (tb : List (Addr × Str)) (n : Nat) (T : List D → M D) : Sp := fun vs H Q E => vs.length = n ∧ ∃ da Hk δ ds, da.lay = (tb, cm) ∧ At da Hk H δ ∧ RpL K da.ra Hk vs ds ∧
  Fin K da cm (T ds δ) Hk H (fun d δ' => ∀ v Hk' H', Stp da Hk H Hk' H' → At da Hk' H' δ' → Rp K da.ra Hk' v d → Q v H') (fun c dd H' => E c dd H')
def fnM (n N : Nat) (F : SEnv → M Fl) : List D → M D := fun ds => if ds.length = n then bind (F (ds.map .dt ++ List.replicate (N - n) .no)) fun r => match r with
  | .ret d => ret d
  | .nw ds => ret (.lst ds)
  | .next _ => ret .non
  | _ => bad
  else bad
/-- .. that hands back a list that no one else has -/
def spN (K : PySem.W.Frag) (cm : Nat → Addr) (tb : List (Addr × Str)) (n : Nat) (T : List D → M (List D)) : Sp := fun vs H Q E => vs.length = n ∧ ∃ da Hk δ ds, da.lay = (tb, cm) ∧ At da Hk H δ ∧ RpL K da.ra Hk vs ds ∧
  Fin K da cm (T ds δ) Hk H (fun l δ' => ∀ p ws Hk' H', Stp da Hk H Hk' H' → At da Hk' H' δ' → Hk' p = none → ¬ Nt H p → H' p = some (.lst ws) → RpL K da.ra Hk' ws l → Q (.ref p) H') (fun c dd H' => E c dd H')
def fnN (n N : Nat) (F : SEnv → M Fl) : List D → M (List D) := fun ds => if ds.length = n then bind (F (ds.map .dt ++ List.replicate (N - n) .no)) fun r => match r with
  | .nw ds => ret ds
  | _ => bad
  else bad
section
variable {P : Program} {w : World} {K : PySem.W.Frag} {mg : Str → Option Value} {base : Heap} {cm : Nat → Addr}
theorem start_env {da : Da} {Hk H : Hp} {vs : List V} {ds : List D} {N : List Str} (r : RpL K da.ra Hk vs ds) (h : vs.length ≤ N.length) : EnvS K da Hk H (L2.start N vs) (ds.map .dt ++ List.replicate (N.length - ds.length) .no) where
  len := by unfold L2.start; simp [r.length]
  dat := fun i d e => by
    have hi : i < ds.length := by
      by_cases q : i < ds.length
      · exact q
      · rw [List.getElem?_append_right (by simpa using q)] at e
        rw [List.getElem?_replicate] at e
        split at e <;> cases e
    rw [List.getElem?_append_left (by simpa using hi), List.getElem?_map] at e
    cases q : ds[i]? with
    | none => rw [q] at e; cases e
    | some x =>
      rw [q] at e
      cases e
      obtain ⟨v, h1, h2⟩ := r.get q
      refine ⟨v, ?_, h2⟩
      unfold L2.start
      rw [List.getElem?_append_left (by rw [List.length_map, r.length]; exact hi), List.getElem?_map, h1]
      rfl
  own := fun i s e o => by
    exfalso
    by_cases q : i < ds.length
    · rw [List.getElem?_append_left (by simpa using q), List.getElem?_map, List.getElem?_eq_getElem q] at e
      cases e
      cases o
    · rw [List.getElem?_append_right (by simpa using q), List.getElem?_replicate] at e
      split at e
      · cases e; cases o
      · cases e
  apart := fun i j s t p e o _ _ _ _ => by
    exfalso
    by_cases q : i < ds.length
    · rw [List.getElem?_append_left (by simpa using q), List.getElem?_map, List.getElem?_eq_getElem q] at e
      cases e
      cases o
    · rw [List.getElem?_append_right (by simpa using q), List.getElem?_replicate] at e
      split at e
      · cases e; cases o
      · cases e
theorem start_own {σ : L2.St} {ds : List D} {n : Nat} {p : Addr} : ¬ Own σ (ds.map Sl.dt ++ List.replicate n .no) p := fun ⟨i, s, e, o, _⟩ => by
  by_cases q : i < ds.length
  · rw [List.getElem?_append_left (by simpa using q), List.getElem?_map, List.getElem?_eq_getElem q] at e
    cases e
    cases o
  · rw [List.getElem?_append_right (by simpa using q), List.getElem?_replicate] at e
    split at e
    · cases e; cases o
    · cases e
end
end Dv
set_option maxHeartbeats 4000000
namespace Dv
open PySem PySem.Spec PyProof.Rows L2

/-! ### contracts of defs where no repr is under way -/
structure RoomG (k : Nat) (A : Around) : Prop where
  room : Room k A
  gd : A.guards = some []
theorem RoomG.mono {j k : Nat} {A : Around} (r : RoomG k A) (h : j ≤ k) : RoomG j A := ⟨r.room.mono h, r.gd⟩
/-- the code object of a def -/
def IsCode (K : PySem.W.Frag) (f : Addr) (c : Value) : Prop := ∃ o fd, K.lookup f = some o ∧ o.data = .func fd ∧ fd.code = c
theorem IsCode.eq {K : PySem.W.Frag} {f : Addr} {c c' : Value} (h : IsCode K f c) (h' : IsCode K f c') : c = c' := by
  obtain ⟨o, fd, h1, h2, h3⟩ := h
  obtain ⟨o', fd', h4, h5, h6⟩ := h'
  rw [h1] at h4
  cases h4
  rw [h2] at h5
  cases h5
  exact h3.symm.trans h6
structure FnG (P : Program) (w : World) (K : PySem.W.Frag) (mg : Str → Option Value) (base : Heap) (k : Nat) (f : Addr) (fd : FuncData) (ps : List Str) (sp : Sp) : Prop where
  arity : ∀ vs H Q E, sp vs H Q E → vs.length = ps.length
  runs : ∀ (A : Around) (fr : List PySem.Env) (s : Shared) (H : Hp) (ar : Args) (us : List Value) (vs : List V) (Q : VK) (E : XK), RoomG k A → Env0 P w K mg base A fr s H →
    BindsTo s fd ar (ps.zip us) → Vals vs us → sp vs H Q E → codeAny (model P w) A (.call (.ref f) ar) (CR (L2.CX P w) fr P w H s Q E) s
theorem FnG.mono {P : Program} {w : World} {K : PySem.W.Frag} {mg : Str → Option Value} {base : Heap} {j k : Nat} {f : Addr} {fd : FuncData} {ps : List Str} {sp : Sp} (F : FnG P w K mg base j f fd ps sp) (h : j ≤ k) : FnG P w K mg base k f fd ps sp :=
  ⟨F.arity, fun A fr s H ar us vs Q E hr => F.runs A fr s H ar us vs Q E (hr.mono h)⟩
section
variable {P : Program} {w : World} {K : PySem.W.Frag} {mg : Str → Option Value} {base : Heap}
theorem parK {N ps : List Str} {sc : Scope} (S : FnScope N ps sc) (n0 : Nat) (us : List Value) : ∀ y ∈ ps.zip us, sc.names.lookup y.1 = some .local ∨ (sc.names.lookup y.1 = some .cell ∧ ((cellsFrom n0 sc.names []).lookup y.1).isSome = true) := by
  rintro ⟨n, v⟩ hy
  rcases S.par n (List.of_mem_zip hy).1 with q | q
  · exact Or.inl q
  · exact Or.inr ⟨q, PySem.W.cellsFrom_some sc.names n0 [] (Or.inl q)⟩
/-- a def by its body, under known guards -/
theorem fnG_of {k : Nat} {f : Addr} {x qual : Str} {st : Stmt} {fd : FuncData} {N ps : List Str} {sp : Sp} (F : Fun K x qual st f fd) (S : FnScope N ps (defScope st)) (len : ∀ vs H Q E, sp vs H Q E → vs.length = ps.length)
    (hbody : ∀ (cdv : Value), IsCode K f cdv → ∀ (A : Around) (fr : List PySem.Env) (s : Shared) (H : Hp) (vs : List V) (Q : VK) (E : XK), RoomG k (A.deeper (envOfC qual (defScope st) s.heap.objs.size f cdv)) → sp vs H Q E →
      ∃ t, PSs (cxOf (L2.CX P w) P w K mg base N qual (defScope st) f cdv A fr s H E) (defBody st) t ∧ t { nx := fun _ H' => Q .non H', rt := Q } (L2.start N vs) H) : FnG P w K mg base (k + 1) f fd ps sp := by
  obtain ⟨oc, od, kV, doc, pm, an, cdv, ct, osl, rfl, lk, hcd⟩ := F.ex
  constructor
  · exact len
  intro A fr s H ar us vs Q E hr e0 hb rv hsp
  have old : ∀ b o, base.get? b = some o → s.heap.get? b = some o := fun b o e => (e0.bs b o e).1
  have inK : K.In s.heap := e0.mod.kin.keeps old
  apply codeAny_call_function hr.room.depth (inK _ _ lk) rfl S.co S.gen rfl (PySem.W.codeRec_of inK hcd)
  apply hb
  apply wpAny_newFunctionEnv_cells S.kind (parK S _ us)
  rintro env rfl s1 x
  constructor
  · exact (e0.mod.nolimit.keeps old).keeps x.toInCall.keep
  apply codeAny_func
  obtain ⟨t, ht, hq⟩ := hbody cdv ⟨_, _, lk, rfl, rfl⟩ A fr s H vs Q E ⟨hr.room.deeper _, hr.gd⟩ hsp
  have I := inv_start (CX := L2.CX P w) (E := E) (f := f) (cd := cdv) (qual := qual) S hr.room.hd e0 (len vs H Q E hsp) rv x
  apply wpAny_mono (ht.run [] s1 _ H _ I hq)
  · intro fl s' hs
    cases fl with
    | brk => exact hs.elim fun _ z => z.elim fun _ z => z.2.elim
    | cont => exact hs.elim fun _ z => z.elim fun _ z => z.2.elim
    | next =>
      obtain ⟨σ', H', J, q⟩ := hs
      exact ⟨V.non, H', J.os, J.bare, J.base, J.hok, rfl, q⟩
    | ret u =>
      obtain ⟨v, σ', H', J, r', q⟩ := hs
      exact ⟨v, H', J.os, J.bare, J.base, J.hok, r', q⟩
  · intro e s' hs
    exact hs
end
section
variable {P : Program} {w : World} {K : PySem.W.Frag} {mg : Str → Option Value} {base : Heap} {cm : Nat → Addr}
/-- THE RULE for a def -/
theorem fn_ok {x qual : Str} {st : Stmt} {f : Addr} {fd : FuncData} {N ps : List Str} {k : Nat} {tb : List (Addr × Str)} (F : Fun K x qual st f fd) (S : FnScope N ps (defScope st)) (hp : ps.length ≤ N.length) {G : SEnv → M Fl}
    (hbody : ∀ (da : Da), da.lay = (tb, cm) → ∀ (cdv : Value), IsCode K f cdv → ∀ (A : Around) (fr : List PySem.Env) (s : Shared) (H : Hp) (E : XK), RoomG k (A.deeper (envOfC qual (defScope st) s.heap.objs.size f cdv)) →
      PBv (cxOf (L2.CX P w) P w K mg base N qual (defScope st) f cdv A fr s H E) da cm E (defBody st) G) : FnG P w K mg base (k + 1) f fd ps (spM K cm tb ps.length (fnM ps.length N.length G)) := by
  refine fnG_of F S (fun vs H Q E h => h.1) (fun cdv hcd A fr s H vs Q E hr h => ?_)
  obtain ⟨hl, da, Hk, δ, ds, ht, hA, r, q⟩ := h
  refine ⟨_, hbody da ht cdv hcd A fr s H E hr, Hk, _, δ, hA, start_env r (by omega), ?_⟩
  have hd : ds.length = ps.length := r.length.symm.trans hl
  unfold fnM at q
  rw [ifp hd] at q
  rw [hd]
  have q := q.bind
  cases e : G (List.map Sl.dt ds ++ List.replicate (N.length - ps.length) Sl.no) δ with
  | ok r δ' =>
    rw [e] at q
    cases r with
    | ret d => exact fun v Hk' H' s a r => q v Hk' H' (s.stp fun _ => start_own) a r
    | nw l =>
      intro p ws Hk' H' s a k n e r
      have kn := know hA (s.stp fun _ => start_own) a k n e (.lst _)
      exact q _ _ H' kn.1 kn.2.1 (.lst upd_same (r.mono kn.2.2))
    | next env => exact fun σ' Hk' H' s a _ _ => q _ Hk' H' (s.stp fun _ => start_own) a .non
    | brk env => exact q.elim
    | cont env => exact q.elim
  | exc c fs δ' => rw [e] at q; exact fun dd Hk' H' s a x => q dd Hk' H' (s.stp fun _ => start_own) a x
  | bad => rw [e] at q; exact q
theorem fn_okN {x qual : Str} {st : Stmt} {f : Addr} {fd : FuncData} {N ps : List Str} {k : Nat} {tb : List (Addr × Str)} (F : Fun K x qual st f fd) (S : FnScope N ps (defScope st)) (hp : ps.length ≤ N.length) {G : SEnv → M Fl}
    (hbody : ∀ (da : Da), da.lay = (tb, cm) → ∀ (cdv : Value), IsCode K f cdv → ∀ (A : Around) (fr : List PySem.Env) (s : Shared) (H : Hp) (E : XK), RoomG k (A.deeper (envOfC qual (defScope st) s.heap.objs.size f cdv)) →
      PBv (cxOf (L2.CX P w) P w K mg base N qual (defScope st) f cdv A fr s H E) da cm E (defBody st) G) : FnG P w K mg base (k + 1) f fd ps (spN K cm tb ps.length (fnN ps.length N.length G)) := by
  refine fnG_of F S (fun vs H Q E h => h.1) (fun cdv hcd A fr s H vs Q E hr h => ?_)
  obtain ⟨hl, da, Hk, δ, ds, ht, hA, r, q⟩ := h
  refine ⟨_, hbody da ht cdv hcd A fr s H E hr, Hk, _, δ, hA, start_env r (by omega), ?_⟩
  have hd : ds.length = ps.length := r.length.symm.trans hl
  unfold fnN at q
  rw [ifp hd] at q
  rw [hd]
  have q := q.bind
  cases e : G (List.map Sl.dt ds ++ List.replicate (N.length - ps.length) Sl.no) δ with
  | ok r δ' =>
    rw [e] at q
    cases r with
    | nw l => exact fun p ws Hk' H' s a k n e r => q p ws Hk' H' (s.stp fun _ => start_own) a k n e r
    | ret d => exact q.elim
    | next env => exact q.elim
    | brk env => exact q.elim
    | cont env => exact q.elim
  | exc c fs δ' => rw [e] at q; exact fun dd Hk' H' s a x => q dd Hk' H' (s.stp fun _ => start_own) a x
  | bad => rw [e] at q; exact q
end
/-! ### a call of a def -/
section
variable {X : Cx} {da : Da} {cm : Nat → Addr} {W : WX} {pos p : Pos} {e : Expr} {es : List Expr} {fs : Env → M (List D)} {T : List D → M D} {n k : Nat} {f : Addr} {fd : FuncData} {ps : List Str} {x : Str}
theorem run_G {sp : Sp} {pins : List (Addr × Obj)} {σ : L2.St} {H : Hp} {s : Shared} {Q : VK} {us : List Value} {vs : List V} {E : XK} (F : FnG X.prog X.w X.K X.mg X.base k f fd ps sp) (hr : RoomG k X.A) (hb : Binds X.K fd ps []) (hx : PassesAt (L2.CX X.prog X.w) X σ E)
    (I : Inv X pins σ H s) (r : Vals vs us) (h : sp vs H Q E) : wpAny (model X.prog X.w) X.A (PySem.call (.ref f) us) (EP X pins σ Q) X.xe s := by
  have b := hb s us I.kIn
  rw [List.append_nil] at b
  have hu : us.length = ps.length := r.length.symm.trans (F.arity vs H Q E h)
  apply wpAny_call
  apply codeAny_mono (F.runs X.A X.stack s H ⟨us, []⟩ us vs Q E hr I.env0 (b hu) r h)
  rintro (e | fl) s' hq
  · exact hx pins H s e s' I hq
  · cases fl with
    | ret u => exact I.after hq
    | _ => exact hq.elim
def tCallG (sp : Sp) (W : WX) (t : TA) : TE := fun σ H Q => t σ H fun vs H1 => sp vs H1 Q (WE W σ)
theorem pe_callG {sp : Sp} {t : TA} (F : FnG X.prog X.w X.K X.mg X.base k f fd ps sp) (hr : RoomG k X.A) (hg : Gl X x) (hm : X.mg x = some (.ref f)) (hk : PySem.W.keepIn X.K (.ref f) = true) (hb : Binds X.K fd ps []) (tk : Takes X W)
    (ha : PA X (e :: es) t) (hdb : (x == ("__debug__" : Str)) = false := by decide) (he : starEach (e :: es) X.env = (false, eval e X.env) :: starEach es X.env := by rfl) (hpl : (backTo pos (starEach es X.env)).any (·.1) = false := by rfl) :
    PE X (.Call (.Name x p) (e :: es) [] pos) (tCallG sp W t) := by
  constructor
  intro pins s σ H Q I h
  apply wpAny_Call_Name_kw
  apply ld_glob I hg hm ?_ hdb
  apply PySem.W.callWith_K (h₀ := X.base) I.ok.mod.kin hk ?_ he hpl
  apply thn (ha.run pos pins s σ H _ I h)
  rintro us s1 ⟨vs, H1, I1, r, q⟩
  exact ⟨I1.kIn, run_G F hr hb (passAt tk σ) I1 r q⟩
def fcM (n : Nat) (T : List D → M D) (fs : Env → M (List D)) : Env → M D := fun env => bind (fs env) fun ds => if ds.length = n then T ds else bad
theorem ev_call {tb : List (Addr × Str)} (hT : da.lay = (tb, cm)) (F : FnG X.prog X.w X.K X.mg X.base k f fd ps (spM X.K cm tb n T)) (hr : RoomG k X.A) (hg : Gl X x) (hm : X.mg x = some (.ref f)) (hk : PySem.W.keepIn X.K (.ref f) = true) (hb : Binds X.K fd ps []) (tk : Takes X W)
    (ha : PAv X da cm W (e :: es) fs) (hdb : (x == ("__debug__" : Str)) = false := by decide) (he : starEach (e :: es) X.env = (false, eval e X.env) :: starEach es X.env := by rfl) (hpl : (backTo pos (starEach es X.env)).any (·.1) = false := by rfl) :
    PEv X da cm W (.Call (.Name x p) (e :: es) [] pos) (fcM n T fs) := PE.imp (pe_callG F hr hg hm hk hb tk ha hdb he hpl) fun σ H Q ⟨Hk, env, δ, hA, hE, q⟩ => by
  refine tAv.seq hA hE q fun xs ds δ1 Hk1 H1 s1 a1 e1 r1 q1 => ?_
  by_cases hl : ds.length = n
  · rw [ifp hl] at q1
    exact ⟨r1.length.trans hl, da, Hk1, δ1, ds, hT, a1, r1, q1.mono fun d δ2 k v Hk' H' s => k v Hk' H' (s1.trans s)⟩
  · rw [ifn hl] at q1
    exact q1.elim
end
end Dv
set_option maxHeartbeats 4000000
namespace Dv
open PySem PySem.Spec PyProof.Rows L2

/-! ### plain data -/
mutual
def D.py : D → Option PyData
  | .non => some .none
  | .bl b => some (.bool b)
  | .int i => some (.int i)
  | .str x => some (.str x)
  | .tup xs => match D.pyL xs with
    | some ps => some (.tuple ps)
    | none => none
  | .lst xs => match D.pyL xs with
    | some ps => some (.list ps)
    | none => none
  | .dic _ => none
  | .ref _ => none
  | .ty _ => none
  | .dice => none
  | .scr _ => none
  | .obj _ _ => none
  | .cls _ => none
  | .exn _ _ _ => none
def D.pyL : List D → Option (List PyData)
  | [] => some []
  | d :: r => match D.py d with
    | some p => match D.pyL r with
      | some ps => some (p :: ps)
      | none => none
    | none => none
end
section
variable {K : PySem.W.Frag} {ad : Ra} {H : Hp}
mutual
theorem Rp.dp : ∀ {v : V} {d : D} {p : PyData}, Rp K ad H v d → d.py = some p → Dp K H v p
  | _, _, _, .non, e => by simp only [D.py, Option.some.injEq] at e; subst e; exact .non
  | _, _, _, .bl b, e => by simp only [D.py, Option.some.injEq] at e; subst e; exact .bl b
  | _, _, _, .int i, e => by simp only [D.py, Option.some.injEq] at e; subst e; exact .int i
  | _, _, _, .str x, e => by simp only [D.py, Option.some.injEq] at e; subst e; exact .str x
  | _, _, _, .lst h r, e => by
    simp only [D.py] at e
    split at e
    · rename_i ps q
      cases e
      exact .lst (SqL.of h) (RpL.dp r q)
    · cases e
  | _, _, _, .tup h r, e => by
    simp only [D.py] at e
    split at e
    · rename_i ps q
      cases e
      exact .tup h (RpL.dp r q)
    · cases e
  | _, _, _, .dic _ _, e => by simp only [D.py] at e; cases e
  | _, _, _, .ref _, e => by simp only [D.py] at e; cases e
  | _, _, _, .ty _, e => by simp only [D.py] at e; cases e
  | _, _, _, .dice _, e => by simp only [D.py] at e; cases e
  | _, _, _, .scr _, e => by simp only [D.py] at e; cases e
  | _, _, _, .obj _ _, e => by simp only [D.py] at e; cases e
  | _, _, _, .cls _, e => by simp only [D.py] at e; cases e
  | _, _, _, .exn0 _ _ _, e => by simp only [D.py] at e; cases e
  | _, _, _, .exn1 _ _ _, e => by simp only [D.py] at e; cases e
theorem RpL.dp : ∀ {v : List V} {d : List D} {p : List PyData}, RpL K ad H v d → D.pyL d = some p → DpAll K H v p
  | _, _, _, .nil, e => by simp only [D.pyL, Option.some.injEq] at e; subst e; exact .nil
  | _, _, _, .cons h r, e => by
    simp only [D.pyL] at e
    split at e
    · rename_i p q
      split at e
      · rename_i ps q2
        cases e
        exact .cons (Rp.dp h q) (RpL.dp r q2)
      · cases e
    · cases e
end
end
/-- both plain, of a depth that is carried -/
def D.two (c : PyData → PyData → Bool) (f : PyData → PyData → Bool) (d e : D) : Option D := match d.py with
  | some p => match e.py with
    | some q => if c p q then some (.bl (f p q)) else none
    | none => none
  | none => none
theorem D.two_some {c f : PyData → PyData → Bool} {d e z : D} (h : D.two c f d e = some z) : ∃ p q, d.py = some p ∧ e.py = some q ∧ c p q = true ∧ z = .bl (f p q) := by
  unfold D.two at h
  split at h
  · rename_i p hp
    split at h
    · rename_i q hq
      obtain ⟨h1, h2⟩ := ite_some h
      exact ⟨p, q, hp, hq, h1, h2.symm⟩
    · cases h
  · cases h
def okEq (p q : PyData) : Bool := SeqAt.shaped p && SeqAt.shaped q
def D.eq (d e : D) : Option D := D.two okEq PyData.eqv d e
def D.ne (d e : D) : Option D := D.two okEq (fun p q => !PyData.eqv p q) d e
def okLt (p q : PyData) : Bool := PySem.W.alike p q && decide (p.depth ≤ 60) && (match p with | .none => false | _ => true)
def D.lt (d e : D) : Option D := D.two okLt PySem.W.dataLt d e
def D.gt (d e : D) : Option D := D.two okLt (fun p q => PySem.W.dataLt q p) d e
def D.le (d e : D) : Option D := D.two okLt (fun p q => !PySem.W.dataLt q p) d e
def D.ge (d e : D) : Option D := D.two okLt (fun p q => !PySem.W.dataLt p q) d e
section
variable {X : Cx} {da : Da}
/-- a comparison of plain data -/
def rTwo (K : PySem.W.Frag) (c f : PyData → PyData → Bool) : R2 := fun x y H Q => ∃ p q, Dp K H x p ∧ Dp K H y q ∧ c p q = true ∧ Q (.bl (f p q)) H
theorem rop_two {K : PySem.W.Frag} {c f : PyData → PyData → Bool} : Rop K da (rTwo K c f) (D.two c f) := by
  intro Hk H x y d e z Q ex rx ry hz g
  obtain ⟨p, q, h1, h2, h3, rfl⟩ := D.two_some hz
  exact ⟨p, q, (rx.mono ex).dp h1, (ry.mono ex).dp h2, h3, g.same ex (.bl _)⟩
theorem od_eq (hu : X.A.units + 200 < cLine) : OpD X da (compareOp .Eq) D.eq := ⟨rTwo X.K okEq PyData.eqv, by
  intro pins s σ H x y v u Q I rx ry h
  obtain ⟨p, q, h1, h2, h3, k⟩ := h
  obtain ⟨s1, s2⟩ := Bool.and_eq_true_iff.mp h3
  exact op_eqD (by omega) pins s σ H x y v u Q I rx ry ⟨p, q, h1, h2, s1, s2, k⟩, rop_two⟩
theorem od_ne (hu : X.A.units + 200 < cLine) : OpD X da (compareOp .NotEq) D.ne := ⟨rTwo X.K okEq _, by
  intro pins s σ H x y v u Q I rx ry h
  obtain ⟨p, q, h1, h2, h3, k⟩ := h
  obtain ⟨s1, s2⟩ := Bool.and_eq_true_iff.mp h3
  exact op_neD (by omega) pins s σ H x y v u Q I rx ry ⟨p, q, h1, h2, s1, s2, k⟩, rop_two⟩
theorem okLt_of {p q : PyData} (h : okLt p q = true) : PySem.W.alike p q = true ∧ p.depth ≤ 60 ∧ p ≠ .none := by
  unfold okLt at h
  simp only [Bool.and_eq_true, decide_eq_true_eq] at h
  exact ⟨h.1.1, h.1.2, fun z => by rw [z] at h; cases h.2⟩
theorem od_ord {op : CmpOp} {f : PyData → PyData → Bool} (hu : X.A.units + 200 < cLine)
    (rule : ∀ (E : Value → Shared → Prop) (s : Shared) (a b : Value) (p q : PyData) (as bs : List Addr) (Q : Value → Shared → Prop), Reads s.heap a p as → Reads s.heap b q bs → PySem.W.alike p q = true → p ≠ .none → X.A.units + min p.depth q.depth < cLine → Q (.bool (f p q)) s →
      wpAny (model X.prog X.w) X.A (compareOp op a b) Q E s) : OpD X da (compareOp op) (D.two okLt f) := ⟨rTwo X.K okLt f, by
  intro pins s σ H x y v u Q I rx ry h
  obtain ⟨p, q, h1, h2, h3, k⟩ := h
  obtain ⟨a1, a2, a3⟩ := okLt_of h3
  obtain ⟨as, r1⟩ := Dp.reads I p x v h1 rx
  obtain ⟨bs, r2⟩ := Dp.reads I q y u h2 ry
  exact rule _ s v u p q as bs _ r1 r2 a1 a3 (by have := Nat.min_le_left p.depth q.depth; omega) ⟨.bl _, H, I, rfl, k⟩, rop_two⟩
theorem od_lt (hu : X.A.units + 200 < cLine) : OpD X da (compareOp .Lt) D.lt := od_ord hu fun _ _ _ _ _ _ _ _ _ h1 h2 h3 h4 h5 h6 => PySem.W.lt_data h1 h2 h3 h4 h5 h6
theorem od_gt (hu : X.A.units + 200 < cLine) : OpD X da (compareOp .Gt) D.gt := od_ord hu fun _ _ _ _ _ _ _ _ _ h1 h2 h3 h4 h5 h6 => PySem.W.gt_data h1 h2 h3 h4 h5 h6
end
end Dv
set_option maxHeartbeats 4000000
namespace Dv
open PySem PySem.Spec PyProof.Rows L2

/-! ### () * n: the same object -/
theorem tuple_mulE (l : Addr) (items : Array Value) (n : Nat) (dd : Option Addr) (sl : Array (Option Value)) (x : Int) (u : Tok) (c0 : (decide (x < -(2 ^ 63)) || decide (x ≥ 2 ^ 63)) = false) (c1 : items.isEmpty = true) :
    Meets (Builtin.«tuple.__mul__» ⟨[.ref l, .int x u], []⟩) (fun _ R s => s.heap.get? l = some { cls := .type "tuple", dict := dd, data := .seq items n, slots := sl } ∧ R (.ok (.ret (Value.ref l))) s) :=
  .of_wp fun prog w A R s ⟨hl, h⟩ => by
    obtain ⟨hp, g, d, tk, os⟩ := s
    have f1 := AutoSeq1.idx_int
    have c2 : (items.isEmpty || x == 1) = true := by rw [c1]; rfl
    wp_walk using wpAny_loadPart' hl
    repeat (first
      | (refine wpAny_ite_false (decide_eq_false fun z => Bool.noConfusion (c0.symm.trans z)) ?_; wp_walk using wpAny_loadPart' hl)
      | (refine wpAny_ite_true (decide_eq_true c2) ?_; wp_walk using wpAny_loadPart' hl))
    exact ⟨_, rfl, h⟩
def rRepE (K : PySem.W.Frag) : R2 := fun x y H Q => ∃ l k, x = .ref l ∧ y = .int k ∧ SqT K H l [] ∧ -1000 ≤ k ∧ k ≤ 1000 ∧ Q (.ref l) H
theorem op_repE {X : Cx} : OpR X (binaryOp .Mult) (rRepE X.K) := by
  intro pins s σ H x y v u Q I rx ry ⟨l, k, e1, e2, hT, h1, h2, q⟩
  subst e1 e2
  cases rx
  obtain ⟨t, rfl⟩ := ry
  obtain ⟨its, r, ⟨⟨cls, dd, data, sl⟩, ho, hc, n, hd⟩, hs⟩ := I.tuple hT
  cases r
  simp only at hc hd
  subst hc hd
  have c0 : (decide (k < -(2 ^ 63)) || decide (k ≥ 2 ^ 63)) = false := by
    rw [decide_eq_false (by omega : ¬ k < -(2 ^ 63)), decide_eq_false (by omega : ¬ k ≥ 2 ^ 63)]
    rfl
  exact wpAny_binaryOp_repeat_ref (T := "tuple") (U := "int") (by decide) ⟨_, ho, rfl⟩ (fun s' => typeIs_int s' k t) noFill_tuple_mul F.fills_int_mul F.slot_int_rmul repeat_tuple F.slot_int_index.lookup
    (call_meets F.slot_int_rmul (typeIs_int s k t) F.entry_int_rmul (F.args_int_rmul_2 _ _) (int_rmul_tuple k t l _ n dd sl)
      ⟨ho, rfl, ⟨_, ho, rfl⟩, call_meets F.slot_tuple_mul ⟨_, ho, rfl⟩ F.entry_tuple_mul (F.args_tuple_mul_2 _ _) (tuple_mulE l _ n dd sl k t c0 rfl) ⟨ho, ⟨.ref l, H, I, rfl, q⟩⟩⟩)
theorem RpL.flat {K : PySem.W.Frag} {ad : Ra} {H : Hp} {vs : List V} {ds : List D} (r : RpL K ad H vs ds) : ∀ n : Nat, RpL K ad H (List.replicate n vs).flatten (List.replicate n ds).flatten
  | 0 => .nil
  | n + 1 => by
    rw [List.replicate_succ, List.replicate_succ, List.flatten_cons, List.flatten_cons]
    exact r.append (RpL.flat r n)
/-! ### + - * // % ** -/
def D.add : D → D → Option D
  | .int i, .int j => some (.int (i + j))
  | .str a, .str b => if a.length + b.length ≤ lim then some (.str (a ++ b)) else none
  | .tup a, .tup b => if a.length + b.length ≤ lim then some (.tup (a ++ b)) else none
  | .lst a, .lst b => if a.length + b.length ≤ lim then some (.lst (a ++ b)) else none
  | _, _ => none
def D.sub : D → D → Option D
  | .int i, .int j => some (.int (i - j))
  | _, _ => none
def repS (n : Nat) (x : Str) : Str := ⟨(List.replicate n x.cps).foldl (· ++ ·) #[]⟩
def D.mul : D → D → Option D
  | .int i, .int j => if i.natAbs.log2 + j.natAbs.log2 < 1000000 then some (.int (i * j)) else none
  | .str x, .int n => if 2 ≤ n ∧ n ≤ 1000 ∧ 1 ≤ x.length ∧ x.length ≤ 100 then some (.str (repS n.toNat x)) else none
  | .lst xs, .int n => if 0 ≤ n ∧ n ≤ 100000 ∧ xs.length * n.toNat ≤ lim then some (.lst (List.replicate n.toNat xs).flatten) else none
  | .tup [], .int n => if -1000 ≤ n ∧ n ≤ 1000 then some (.tup []) else none
  | .tup xs, .int n => if 2 ≤ n ∧ n ≤ 1000 ∧ 1 ≤ xs.length ∧ xs.length ≤ 1000 then some (.tup (List.replicate n.toNat xs).flatten) else none
  | _, _ => none
def D.fdiv : D → D → Option D
  | .int i, .int j => if 0 < j ∧ j.natAbs.log2 < 9000 then some (.int (i / j)) else none
  | _, _ => none
def D.mod : D → D → Option D
  | .int i, .int j => if 0 < j then some (.int (i % j)) else none
  | _, _ => none
def rMulS : R2 := fun x y H Q => ∃ z n, x = .str z ∧ y = .int n ∧ 2 ≤ n ∧ n ≤ 1000 ∧ 1 ≤ z.length ∧ z.length ≤ 100 ∧ Q (.str (repS n.toNat z)) H
theorem size_fold (z : Array Nat) : ∀ (n : Nat) (a : Array Nat), ((List.replicate n z).foldl (· ++ ·) a).size = a.size + n * z.size
  | 0, a => by simp
  | n + 1, a => by
    rw [List.replicate_succ, List.foldl_cons, size_fold z n, Array.size_append, Nat.succ_mul]
    omega
section
variable {X : Cx} {da : Da}
theorem op_mulS : OpR X (binaryOp .Mult) rMulS := by
  intro pins s σ H x y v u Q I rx ry h
  obtain ⟨z, n, rfl, rfl, h1, h2, h3, h4, q⟩ := h
  obtain ⟨t, rfl⟩ := rx
  obtain ⟨t', rfl⟩ := ry
  have hc : (n == 1 || z.length == 0) = false := by
    have a1 : ¬ n = 1 := by omega
    have a2 : ¬ z.length = 0 := by omega
    simp [a1, a2]
  have hm : z.length * n.toNat ≤ 100000 := by
    have : n.toNat ≤ 1000 := by omega
    exact Nat.le_trans (Nat.mul_le_mul h4 this) (by decide)
  refine PySem.P.mul_str (by rw [decide_eq_false (by omega), decide_eq_false (by omega)]; rfl) (fun _ _ => ?_) (fun _ _ => ?_) ?_
  · have : (1000 : Int) ≤ (2 ^ 63 - 1) / n := by
      refine (Int.le_ediv_iff_mul_le (by omega)).mpr ?_
      omega
    omega
  · show decide (_ > sizeLine) = false
    rw [sizeLine_eq]
    exact decide_eq_false (by omega)
  · rw [if_neg (by omega), hc, if_neg Bool.false_ne_true]
    refine ⟨?_, ⟨.str _, H, I.tok _, ⟨_, rfl⟩, q⟩⟩
    show ((List.replicate n.toNat z.cps).foldl (· ++ ·) #[]).size ≤ sizeLine
    rw [size_fold, sizeLine_eq]
    have e : z.cps.size = z.length := rfl
    rw [e, Nat.mul_comm]
    show 0 + _ ≤ _
    omega
theorem od_add : OpD X da (binaryOp .Add) D.add := ⟨_, op_add.or (op_add_str.or (op_catA.or op_cat)), by
  intro Hk H x y d e z Q ex rx ry hz g
  unfold D.add at hz
  split at hz
  · cases rx; cases ry; cases hz
    exact .inl ⟨_, _, rfl, rfl, g.same ex (.int _)⟩
  · cases rx; cases ry
    obtain ⟨hl, rfl⟩ := ite_some hz
    exact .inr (.inl ⟨_, _, rfl, rfl, lim_le hl, g.same ex (.str _)⟩)
  · obtain ⟨hl, rfl⟩ := ite_some hz
    cases rx with
    | tup h1 r1 =>
      cases ry with
      | tup h2 r2 =>
        refine .inr (.inr (.inl ⟨_, _, _, _, rfl, rfl, Evl.ex_t ex h1, Evl.ex_t ex h2, by rw [r1.length, r2.length]; exact lim_le hl, fun e1 => ?_, fun _ e2 => ?_, fun _ _ p hp => g.tup ex (r1.append r2) hp⟩))
        · subst e1
          cases r1
          exact g.same ex (.tup h2 r2)
        · subst e2
          cases r2
          rw [List.append_nil] at g
          exact g.same ex (.tup h1 r1)
  · obtain ⟨hl, rfl⟩ := ite_some hz
    cases rx with
    | lst h1 r1 =>
      cases ry with
      | lst h2 r2 => exact .inr (.inr (.inr ⟨_, _, _, _, rfl, rfl, ex _ _ h1, ex _ _ h2, by rw [r1.length, r2.length]; exact lim_le hl, fun p hp => g.lst ex (r1.append r2) hp⟩))
  · cases hz⟩
theorem od_sub : OpD X da (binaryOp .Sub) D.sub := ⟨_, op_sub, by
  intro Hk H x y d e z Q ex rx ry hz g
  unfold D.sub at hz
  split at hz
  · cases rx; cases ry; cases hz
    exact ⟨_, _, rfl, rfl, g.same ex (.int _)⟩
  · cases hz⟩
theorem od_mul : OpD X da (binaryOp .Mult) D.mul := ⟨_, op_mulW.or (op_mulS.or (op_rep.or (op_repT.or op_repE))), by
  intro Hk H x y d e z Q ex rx ry hz g
  unfold D.mul at hz
  split at hz
  · cases rx; cases ry
    obtain ⟨hl, rfl⟩ := ite_some hz
    exact .inl ⟨_, _, rfl, rfl, hl, g.same ex (.int _)⟩
  · cases rx; cases ry
    obtain ⟨⟨h1, h2, h3, h4⟩, rfl⟩ := ite_some hz
    exact .inr (.inl ⟨_, _, rfl, rfl, h1, h2, h3, h4, g.same ex (.str _)⟩)
  · cases ry
    obtain ⟨⟨h1, h2, h3⟩, rfl⟩ := ite_some hz
    cases rx with
    | lst h r => exact .inr (.inr (.inl ⟨_, _, _, rfl, rfl, ex _ _ h, by omega, by omega, by rw [r.length]; exact lim_le h3, fun p hp => g.lst ex (r.flat _) hp⟩))
  · cases ry
    obtain ⟨⟨h1, h2⟩, rfl⟩ := ite_some hz
    cases rx with
    | tup h r =>
      cases r
      exact .inr (.inr (.inr (.inr ⟨_, _, rfl, rfl, Evl.ex_t ex h, h1, h2, g.same ex (.tup h .nil)⟩)))
  · cases ry
    obtain ⟨⟨h1, h2, h3, h4⟩, rfl⟩ := ite_some hz
    cases rx with
    | tup h r => exact .inr (.inr (.inr (.inl ⟨_, _, _, rfl, rfl, Evl.ex_t ex h, fun e => by rw [← r.length, e] at h3; exact absurd h3 (by decide), h1, h2, by rw [r.length]; exact h4, fun p hp => g.tup ex (r.flat _) hp⟩)))
  · cases hz⟩
theorem od_fdiv : OpD X da (binaryOp .FloorDiv) D.fdiv := ⟨_, op_fdivW, by
  intro Hk H x y d e z Q ex rx ry hz g
  unfold D.fdiv at hz
  split at hz
  · cases rx; cases ry
    obtain ⟨hl, rfl⟩ := ite_some hz
    exact ⟨_, _, rfl, rfl, hl, g.same ex (.int _)⟩
  · cases hz⟩
theorem od_mod : OpD X da (binaryOp .Mod) D.mod := ⟨_, op_mod, by
  intro Hk H x y d e z Q ex rx ry hz g
  unfold D.mod at hz
  split at hz
  · cases rx; cases ry
    obtain ⟨hl, rfl⟩ := ite_some hz
    exact ⟨_, _, rfl, rfl, hl, g.same ex (.int _)⟩
  · cases hz⟩
/-! ### subscripts, slices -/
def D.ix : D → D → Option D
  | .lst xs, .int i => atI xs i
  | .scr ns, .int i => (atI ns i).map .int
  | .tup xs, .int i => atI xs i
  | .str z, .int i => if z.length ≤ lim then (atI z.cps.toList i).map fun c => .str ⟨#[c]⟩ else none
  | _, _ => none
theorem RpL.atI {K : PySem.W.Frag} {ad : Ra} {H : Hp} {vs : List V} {ds : List D} {i : Int} {d : D} (r : RpL K ad H vs ds) (h : L2.atI ds i = some d) : ∃ v, L2.atI vs i = some v ∧ Rp K ad H v d := by
  unfold L2.atI at h ⊢
  rw [r.length]
  cases e : ixN ds.length i with
  | none => rw [e] at h; cases h
  | some j => rw [e] at h; exact r.get h
theorem id_ix : IxD X da D.ix := ⟨_, ix_seq, by
  intro Hk H x y d e z Q ex rx ry hz g
  unfold D.ix at hz
  split at hz
  · cases ry
    cases rx with
    | lst h r =>
      obtain ⟨v, h1, h2⟩ := r.atI hz
      exact .inl ⟨_, _, _, v, rfl, rfl, SqL.of (ex _ _ h), h1, g.same ex h2⟩
  · cases ry
    rename_i ns i
    cases rx with
    | scr h =>
      cases q : L2.atI ns i with
      | none => rw [q] at hz; cases hz
      | some c =>
        rw [q] at hz
        cases hz
        refine .inl ⟨_, _, _, .int c, rfl, rfl, Evl.ex_l ex h, ?_, g.same ex (.int _)⟩
        unfold L2.atI at q ⊢
        rw [List.length_map]
        cases e : ixN ns.length i with
        | none => rw [e] at q; cases q
        | some j =>
          rw [e] at q
          have q : ns[j]? = some c := q
          show (ns.map V.int)[j]? = _
          rw [List.getElem?_map, q]
          rfl
  · cases ry
    cases rx with
    | tup h r =>
      obtain ⟨v, h1, h2⟩ := r.atI hz
      exact .inr (.inl ⟨_, _, _, v, rfl, rfl, Evl.ex_t ex h, h1, g.same ex h2⟩)
  · cases rx; cases ry
    split at hz
    · rename_i hl
      rename_i w i
      cases q : L2.atI w.cps.toList i with
      | none => rw [q] at hz; cases hz
      | some c =>
        rw [q] at hz
        cases hz
        exact .inr (.inr ⟨_, _, c, rfl, rfl, lim_le hl, q, g.same ex (.str _)⟩)
    · cases hz
  · cases hz⟩
def cutL {α : Type} (xs : List α) (lo hi : Option Int) : List α := (xs.drop (HT.sIx xs.length 0 lo)).take (HT.sIx xs.length xs.length hi - HT.sIx xs.length 0 lo)
def D.sl : D → Option Int → Option Int → Option D
  | .lst xs, lo, hi => some (.lst (cutL xs lo hi))
  | .tup xs, lo, hi => some (.tup (cutL xs lo hi))
  | .str z, lo, hi => if z.length ≤ lim then some (.str (cutS z lo hi)) else none
  | _, _, _ => none
theorem RpL.cut {K : PySem.W.Frag} {ad : Ra} {H : Hp} {vs : List V} {ds : List D} {lo hi : Option Int} (r : RpL K ad H vs ds) : RpL K ad H (cutV vs lo hi) (cutL ds lo hi) := by
  unfold cutV cutL
  rw [r.length]
  exact (r.drop _).take _
theorem cut_whole {α : Type} {xs : List α} {lo hi : Option Int} (h : HT.sIx xs.length 0 lo = 0 ∧ HT.sIx xs.length xs.length hi = xs.length) : cutL xs lo hi = xs := by
  unfold cutL
  rw [h.1, h.2]
  simp
end
/-- an optional bound -/
def EOv (K : PySem.W.Frag) (da : Da) (cm : Nat → Addr) (W : WX) (f : Env → M (Option Int)) : TO := fun σ H Q => ∃ Hk env δ, At da Hk H δ ∧ EnvR K da Hk σ env ∧
  Fin K da cm (f env δ) Hk H (fun o δ' => ∀ Hk' H', Stp da Hk H Hk' H' → At da Hk' H' δ' → Q o H') (fun c dd H' => W c dd σ H')
abbrev POv (X : Cx) (da : Da) (cm : Nat → Addr) (W : WX) (e : Option Expr) (f : Env → M (Option Int)) : Prop := PO X e (EOv X.K da cm W f)
theorem PO.imp {X : Cx} {e : Option Expr} {t t' : TO} (h : PO X e t) (i : ∀ σ H Q, t' σ H Q → t σ H Q) : PO X e t' := ⟨fun pins s σ H Q I q => h.run pins s σ H Q I (i _ _ _ q)⟩
section
variable {X : Cx} {da : Da} {cm : Nat → Addr} {W : WX} {pos p2 : Pos} {a e : Expr} {fa : Env → M D} {lo hi : Option Expr} {fl fh : Env → M (Option Int)}
theorem EOv.seq {K : PySem.W.Frag} {σ : L2.St} {H Hk : Hp} {env : Env} {δ : Dice} {f : Env → M (Option Int)} {β : Type} {g : Option Int → M β} {k : β → Dice → Prop} (hA : At da Hk H δ) (hE : EnvR K da Hk σ env)
    (h : Fin K da cm (Dv.bind (f env) g δ) Hk H k (fun c dd H' => W c dd σ H')) {Q : Option Int → Hp → Prop}
    (hq : ∀ b δ' Hk' H', Stp da Hk H Hk' H' → At da Hk' H' δ' → EnvR K da Hk' σ env → Fin K da cm (g b δ') Hk' H' k (fun c dd H' => W c dd σ H') → Q b H') : EOv K da cm W f σ H Q :=
  ⟨Hk, env, δ, hA, hE, h.bind.mono fun d δ' hg Hk' H' s a => hq d δ' Hk' H' s a (hE.mono s.kn) (hg.later s fun _ _ z => z)⟩
def noP : Env → M (Option Int) := fun _ => ret none
def D.int? : D → Option Int
  | .int i => some i
  | _ => none
def someP (f : Env → M D) : Env → M (Option Int) := fun env => bind (f env) fun x => bind (lift x.int?) fun i => ret (some i)
theorem ov_none : POv X da cm W none noP := PO.imp po_none fun σ H Q ⟨Hk, env, δ, hA, hE, q⟩ => q Hk H (Stp.refl _ _ _) hA
theorem ov_some (h : PEv X da cm W e fa) : POv X da cm W (some e) (someP fa) := PO.imp (po_some h) fun σ H Q ⟨Hk, env, δ, hA, hE, q⟩ => by
  refine tEv.seq hA hE q fun x d δ1 Hk1 H1 s1 a1 e1 r1 q1 => ?_
  cases d with
  | int i => cases r1; exact ⟨i, rfl, q1 Hk1 H1 s1 a1⟩
  | _ => exact q1.elim
def slM (fa : Env → M D) (fl fh : Env → M (Option Int)) : Env → M D := fun env => bind (fa env) fun x => bind (fl env) fun l => bind (fh env) fun h => lift (x.sl l h)
theorem ev_slice (ha : PEv X da cm W a fa) (hl : POv X da cm W lo fl) (hh : POv X da cm W hi fh) : PEv X da cm W (.Subscript a (.Slice lo hi none p2) pos) (slM fa fl fh) :=
  PE.imp (pe_slice (sl_list.or (sl_tupA.or sl_str)) ha hl hh) fun σ H Q ⟨Hk, env, δ, hA, hE, q⟩ => by
    refine tEv.seq hA hE q fun x d δ1 Hk1 H1 s1 a1 e1 r1 q1 => EOv.seq a1 e1 q1 fun l δ2 Hk2 H2 s2 a2 e2 q2 => EOv.seq a2 e2 q2 fun h δ3 Hk3 H3 s3 a3 e3 q3 => ?_
    obtain ⟨z, hz, g⟩ := Fin.lift a3 ((s1.trans s2).trans s3) q3
    have r := (r1.mono s2.kn).mono s3.kn
    have ex := a3.ex
    unfold D.sl at hz
    split at hz
    · cases hz
      cases r with
      | lst h r => exact .inl ⟨_, _, rfl, SqL.of (ex _ _ h), fun p hp => g.lst ex r.cut hp⟩
    · cases hz
      cases r with
      | tup h r =>
        refine .inr (.inl ⟨_, _, rfl, Evl.ex_t ex h, fun hw => ?_, fun _ p hp => g.tup ex r.cut hp⟩)
        rw [r.length] at hw
        rw [cut_whole hw] at g
        exact g.same ex (.tup h r)
    · cases r
      obtain ⟨hl, rfl⟩ := ite_some hz
      exact .inr (.inr ⟨_, rfl, lim_le hl, g.same ex (.str _)⟩)
    · cases hz
end

/-! ### built-in functions -/
section
variable {X : Cx} {da : Da}
def D.len : List D → Option D
  | [.str z] => if z.length ≤ lim then some (.int z.length) else none
  | [.tup xs] => some (.int xs.length)
  | [.lst xs] => some (.int xs.length)
  | [.scr ns] => some (.int ns.length)
  | _ => none
theorem RpL.one {K : PySem.W.Frag} {ad : Ra} {H : Hp} {vs : List V} {d : D} (r : RpL K ad H vs [d]) : ∃ v, vs = [v] ∧ Rp K ad H v d := by
  cases r with
  | cons h t => cases t; exact ⟨_, rfl, h⟩
theorem RpL.two {K : PySem.W.Frag} {ad : Ra} {H : Hp} {vs : List V} {d e : D} (r : RpL K ad H vs [d, e]) : ∃ v u, vs = [v, u] ∧ Rp K ad H v d ∧ Rp K ad H u e := by
  cases r with
  | cons h t =>
    obtain ⟨u, rfl, r⟩ := t.one
    exact ⟨_, _, rfl, h, r⟩
theorem cd_len : CalD X da (.builtin "len") D.len := ⟨_, call_len_str.or call_len_seq, by
  intro Hk H xs ds z Q ex r hz g
  unfold D.len at hz
  split at hz
  · obtain ⟨v, rfl, rv⟩ := r.one
    cases rv
    obtain ⟨hl, rfl⟩ := ite_some hz
    exact .inl ⟨_, rfl, lim_le hl, g.same ex (.int _)⟩
  · obtain ⟨v, rfl, rv⟩ := r.one
    cases hz
    cases rv with
    | tup h r =>
      refine .inr ⟨_, _, rfl, .inr (Evl.ex_t ex h), ?_⟩
      rw [r.length]
      exact g.same ex (.int _)
  · obtain ⟨v, rfl, rv⟩ := r.one
    cases hz
    cases rv with
    | lst h r =>
      refine .inr ⟨_, _, rfl, .inl (SqL.of (ex _ _ h)), ?_⟩
      rw [r.length]
      exact g.same ex (.int _)
  · obtain ⟨v, rfl, rv⟩ := r.one
    cases hz
    cases rv with
    | scr h =>
      refine .inr ⟨_, _, rfl, .inl (Evl.ex_l ex h), ?_⟩
      rw [List.length_map]
      exact g.same ex (.int _)
  · cases hz⟩
def bls : List D → Option (List Bool)
  | [] => some []
  | .bl b :: r => match bls r with
    | some bs => some (b :: bs)
    | none => none
  | _ :: _ => none
theorem RpL.bls {K : PySem.W.Frag} {ad : Ra} {H : Hp} : ∀ {vs : List V} {ds : List D} {bs : List Bool}, RpL K ad H vs ds → Dv.bls ds = some bs → vs = bs.map V.bl
  | _, _, _, .nil, e => by simp only [Dv.bls, Option.some.injEq] at e; subst e; rfl
  | _, _, bs, .cons (d := d) h t, e => by
    unfold Dv.bls at e
    split at e
    · rename_i q; cases q
    · rename_i b r q
      cases q
      split at e
      · rename_i cs qs
        cases e
        cases h
        rw [RpL.bls t qs]
        rfl
      · cases e
    · cases e
def D.all : List D → Option D
  | [.lst xs] => (bls xs).map fun bs => .bl (bs.all id)
  | _ => none
def D.any : List D → Option D
  | [.lst xs] => (bls xs).map fun bs => .bl (bs.any id)
  | _ => none
def D.tupleOf : List D → Option D
  | [.lst xs] => some (.tup xs)
  | [.tup xs] => some (.tup xs)
  | _ => none
def signs (z : Str) : List D := z.cps.toList.map fun c => .str ⟨#[c]⟩
/-! ### isinstance of built-in classes -/
def D.typ : D → Option String
  | .non => some "NoneType"
  | .bl _ => some "bool"
  | .int _ => some "int"
  | .str _ => some "str"
  | .tup _ => some "tuple"
  | .lst _ => some "list"
  | .dic _ => some "dict"
  | _ => none
def D.isI : List D → Option D
  | [d, .ty T] => match d.typ with
    | some t => (kitB t T).map .bl
    | none => none
  | _ => none
theorem Rp.typ {K : PySem.W.Frag} {ad : Ra} {H : Hp} {v : V} {d : D} {t : String} (r : Rp K ad H v d) (h : d.typ = some t) : TyX K H v (.type t) := by
  cases r with
  | non => cases h; exact .base .non
  | bl b => cases h; exact .base (.bl b)
  | int i => cases h; exact .base (.int i)
  | str x => cases h; exact .base (.str x)
  | lst e _ => cases h; exact .base (.lst e)
  | tup e _ =>
    cases h
    rcases e with (e | ⟨o, e⟩) | ⟨o, its, n, e, c, _⟩
    · exact .base (.tup e)
    · exact .fTuple e
    · exact .kTuple e c
  | dic e _ =>
    cases h
    exact .fDict e
  | ref _ => cases h
  | ty _ => cases h
  | dice _ => cases h
  | scr _ => cases h
  | obj _ _ => cases h
  | cls _ => cases h
  | exn0 _ _ _ => cases h
  | exn1 _ _ _ => cases h
end
end Dv
set_option maxHeartbeats 4000000
namespace Dv
open PySem PySem.Spec PyProof.Rows L2

/-! ### what is walked -/
structure Yl (K : PySem.W.Frag) (da : Da) (J : It) (Hk : Hp) (ds : List D) : Prop where
  go : ∀ (i : Nat) H, Ex Hk H → i < ds.length → J.go i H
  stop : ∀ (i : Nat) H, Ex Hk H → ds.length ≤ i → J.stop i H
  yld : ∀ (i : Nat) H x H' Hk2 d, Ex Hk Hk2 → Ex Hk2 H → ds[i]? = some d → J.yld i H x H' → ∃ Hk3, Stq Hk2 H Hk3 H' ∧ Rp K da.ra Hk3 x d
def tIv (K : PySem.W.Frag) (da : Da) (cm : Nat → Addr) (W : WX) (f : Env → M (List D)) : TI := fun σ H R => ∃ Hk env δ, At da Hk H δ ∧ EnvR K da Hk σ env ∧
  Fin K da cm (f env δ) Hk H (fun ds δ' => ∀ J Hk' H', Stp da Hk H Hk' H' → At da Hk' H' δ' → Yl K da J Hk' ds → R J H') (fun c dd H' => W c dd σ H')
abbrev PIv (X : Cx) (da : Da) (cm : Nat → Addr) (W : WX) (tg iter : Expr) (f : Env → M (List D)) : Prop := PI X tg iter (tIv X.K da cm W f)
theorem PI.imp {X : Cx} {tg e : Expr} {t t' : TI} (h : PI X tg e t) (i : ∀ σ H Q, t' σ H Q → t σ H Q) : PI X tg e t' := ⟨fun pins s σ H Q I q => h.run pins s σ H Q I (i _ _ _ q)⟩
theorem PI.or {X : Cx} {tg e : Expr} {t t' : TI} (h : PI X tg e t) (h' : PI X tg e t') : PI X tg e (fun σ H Q => t σ H Q ∨ t' σ H Q) := ⟨fun pins s σ H Q I q => q.elim (h.run pins s σ H Q I) (h'.run pins s σ H Q I)⟩
def D.items : D → Option (List D)
  | .lst xs => some xs
  | .tup xs => some xs
  | .str z => some (signs z)
  | _ => none
def itM (f : Env → M D) : Env → M (List D) := fun env => bind (f env) fun d => lift d.items
section
variable {X : Cx} {da : Da} {cm : Nat → Addr} {W : WX} {pos p : Pos} {tg e : Expr} {fa : Env → M D}
theorem yl_list {K : PySem.W.Frag} {a : Addr} {xs : List V} {ds : List D} {Hk : Hp} (h : Hk a = some (.lst xs)) (r : RpL K da.ra Hk xs ds) : Yl K da (Itl K a) Hk ds where
  go := fun i H e hi => by
    obtain ⟨v, h1, _⟩ := r.get (List.getElem?_eq_getElem hi)
    exact ⟨xs, v, SqL.of (e _ _ h), h1⟩
  stop := fun i H e hi => ⟨xs, SqL.of (e _ _ h), by rw [r.length]; exact hi⟩
  yld := fun i H x H' Hk2 d e e2 hd hy => by
    obtain ⟨rfl, hy⟩ := hy
    have q := hy xs (SqL.of (e2 _ _ (e _ _ h)))
    obtain ⟨v, h1, h2⟩ := r.get hd
    rw [q] at h1
    cases h1
    exact ⟨Hk2, Stq.refl e2, h2.mono e⟩
theorem yl_tup {K : PySem.W.Frag} {a : Addr} {xs : List V} {ds : List D} {Hk : Hp} (h : SqT K Hk a xs) (r : RpL K da.ra Hk xs ds) : Yl K da (Itt K a) Hk ds where
  go := fun i H e hi => by
    obtain ⟨v, h1, _⟩ := r.get (List.getElem?_eq_getElem hi)
    exact ⟨xs, v, Evl.ex_t e h, h1⟩
  stop := fun i H e hi => ⟨xs, Evl.ex_t e h, by rw [r.length]; exact hi⟩
  yld := fun i H x H' Hk2 d e e2 hd hy => by
    obtain ⟨rfl, hy⟩ := hy
    have q := hy xs (Evl.ex_t e2 (Evl.ex_t e h))
    obtain ⟨v, h1, h2⟩ := r.get hd
    rw [q] at h1
    cases h1
    exact ⟨Hk2, Stq.refl e2, h2.mono e⟩
theorem signs_get {z : Str} {i : Nat} {d : D} (h : (signs z)[i]? = some d) : ∃ c, z.cps[i]? = some c ∧ d = .str ⟨#[c]⟩ := by
  unfold signs at h
  rw [List.getElem?_map] at h
  cases e : z.cps.toList[i]? with
  | none => rw [e] at h; cases h
  | some c =>
    rw [e] at h
    cases h
    exact ⟨c, by simpa using e, rfl⟩
theorem yl_str {K : PySem.W.Frag} {z : Str} {Hk : Hp} : Yl K da (Its z) Hk (signs z) where
  go := fun i H e hi => by
    unfold signs at hi
    show i < z.cps.size
    simpa using hi
  stop := fun i H e hi => by
    unfold signs at hi
    show z.cps.size ≤ i
    simpa using hi
  yld := fun i H x H' Hk2 d e e2 hd hy => by
    obtain ⟨rfl, c, h1, rfl⟩ := hy
    obtain ⟨c', h2, rfl⟩ := signs_get hd
    rw [h1] at h2
    cases h2
    exact ⟨Hk2, Stq.refl e2, .str _⟩
/-- a list, a tuple, a text -/
theorem iv_seq (ha : PEv X da cm W e fa) : PIv X da cm W tg e (itM fa) := Dv.PI.imp (Dv.PI.or (pi_list ha) (Dv.PI.or (pi_tup ha) (pi_str ha))) fun σ H R ⟨Hk, env, δ, hA, hE, q⟩ => by
  unfold itM at q
  cases h : fa env δ with
  | bad => unfold Dv.bind at q; rw [h] at q; exact q.elim
  | exc c fs δ' =>
    refine Or.inl ⟨Hk, env, δ, hA, hE, ?_⟩
    unfold Dv.bind at q
    rw [h] at q ⊢
    exact q
  | ok d δ' =>
    have q2 := q
    unfold Dv.bind at q2
    rw [h] at q2
    have all : ∀ {k : V → Hp → Prop}, (∀ v Hk1 H1, Stp da Hk H Hk1 H1 → At da Hk1 H1 δ' → Rp X.K da.ra Hk1 v d → k v H1) → tEv X.K da cm W fa σ H k := fun {k} hk => ⟨Hk, env, δ, hA, hE, by rw [h]; exact hk⟩
    cases d with
    | lst xs =>
      refine Or.inl (all fun v Hk1 H1 s1 a1 r1 => ?_)
      cases r1 with
      | lst hl r => exact ⟨_, rfl, ⟨_, SqL.of (a1.ex _ _ hl)⟩, q2 _ Hk1 H1 s1 a1 (yl_list hl r)⟩
    | tup xs =>
      refine Or.inr (Or.inl (all fun v Hk1 H1 s1 a1 r1 => ?_))
      cases r1 with
      | tup hl r => exact ⟨_, rfl, ⟨_, Evl.ex_t a1.ex hl⟩, q2 _ Hk1 H1 s1 a1 (yl_tup hl r)⟩
    | str z =>
      refine Or.inr (Or.inr (all fun v Hk1 H1 s1 a1 r1 => ?_))
      cases r1
      exact ⟨_, rfl, q2 _ Hk1 H1 s1 a1 yl_str⟩
    | _ => exact q2.elim
end
/-- lo, lo + 1, .. -/
def intsD (lo : Int) (n : Nat) : List D := (List.range n).map fun i => D.int (lo + Int.ofNat i)
theorem intsD_len (lo : Int) (n : Nat) : (intsD lo n).length = n := by unfold intsD; simp
theorem intsD_get {lo : Int} {n i : Nat} {d : D} (h : (intsD lo n)[i]? = some d) : d = .int (lo + Int.ofNat i) := by
  unfold intsD at h
  rw [List.getElem?_map] at h
  cases e : (List.range n)[i]? with
  | none => rw [e] at h; cases h
  | some j =>
    rw [e] at h
    cases h
    obtain ⟨hl, q⟩ := List.getElem?_eq_some_iff.mp e
    simp at q
    rw [q]
theorem yl_intsD {K : PySem.W.Frag} {da : Da} {lo : Int} {n : Nat} {Hk : Hp} : Yl K da (Itr lo n) Hk (intsD lo n) where
  go := fun i H e hi => by rw [intsD_len] at hi; exact hi
  stop := fun i H e hi => by rw [intsD_len] at hi; exact hi
  yld := fun i H x H' Hk2 d e e2 hd hy => by
    obtain ⟨rfl, rfl⟩ := hy
    rw [intsD_get hd]
    exact ⟨Hk2, Stq.refl e2, .int _⟩
def okR (j : Int) : Bool := decide (-(2 ^ 62) ≤ j ∧ j < 2 ^ 62)
def rng1D : List D → Option (List D)
  | [.int j] => if okR j then some (intsD 0 j.toNat) else none
  | _ => none
def rng2D : List D → Option (List D)
  | [.int i, .int j] => if okR i && okR j then some (intsD i (j - i).toNat) else none
  | _ => none
def rng1M (fs : Env → M (List D)) : Env → M (List D) := fun env => bind (fs env) fun xs => lift (rng1D xs)
def rng2M (fs : Env → M (List D)) : Env → M (List D) := fun env => bind (fs env) fun xs => lift (rng2D xs)
section
variable {X : Cx} {da : Da} {cm : Nat → Addr} {W : WX} {pos p : Pos} {tg e e2 : Expr} {fs : Env → M (List D)}
theorem iv_range1 (hg : Gl X "range") (hm : X.mg "range" = none) (ha : PAv X da cm W [e] fs) (hs : starEach [e] X.env = [(false, eval e X.env)] := by rfl) : PIv X da cm W tg (.Call (.Name "range" p) [e] [] pos) (rng1M fs) := Dv.PI.imp (pi_range1 hg hm ha hs) fun σ H R ⟨Hk, env, δ, hA, hE, q⟩ => by
  refine tAv.seq hA hE q fun xs ds δ1 Hk1 H1 s1 a1 e1 r1 q1 => ?_
  cases hz : rng1D ds with
  | none => rw [hz] at q1; exact q1.elim
  | some z =>
    rw [hz] at q1
    unfold rng1D at hz
    split at hz
    · obtain ⟨v, rfl, r⟩ := r1.one
      cases r
      obtain ⟨h1, rfl⟩ := ite_some hz
      unfold okR at h1
      have h1 := of_decide_eq_true h1
      exact ⟨_, rfl, h1.1, h1.2, q1 _ Hk1 H1 s1 a1 yl_intsD⟩
    · cases hz
end
end Dv
set_option maxHeartbeats 4000000
namespace Dv
open PySem PySem.Spec PyProof.Rows L2

/-! ### targets -/
inductive Tg where
  | nm (i : Nat) | tp (ts : List Tg)
mutual
def Tg.g (K : PySem.W.Frag) : Tg → TG
  | .nm i => gName i
  | .tp ts => gTup K ts.length (Tg.gs K ts)
def Tg.gs (K : PySem.W.Frag) : List Tg → TGs
  | [] => gNil
  | t :: ts => gCons (Tg.g K t) (Tg.gs K ts)
end
mutual
/-- what a target stores where -/
def Tg.l : Tg → D → Option (List (Nat × D))
  | .nm i, d => some [(i, d)]
  | .tp ts, .tup ds => if ds.length = ts.length then Tg.ls ts ds else none
  | _, _ => none
def Tg.ls : List Tg → List D → Option (List (Nat × D))
  | [], [] => some []
  | t :: ts, d :: ds => match Tg.l t d with
    | some l => match Tg.ls ts ds with
      | some r => some (l ++ r)
      | none => none
    | none => none
  | _, _ => none
end
theorem ite_some' {α : Type} {p : Prop} [Decidable p] {a : Option α} {z : α} (h : (if p then a else none) = some z) : p ∧ a = some z := by
  by_cases hp : p
  · rw [if_pos hp] at h; exact ⟨hp, h⟩
  · rw [if_neg hp] at h; cases h
def puts {α : Type} (σ : List α) : List (Nat × α) → List α
  | [] => σ
  | (i, v) :: r => puts (σ.set i v) r
theorem puts_app {α : Type} : ∀ (l r : List (Nat × α)) (σ : List α), puts σ (l ++ r) = puts (puts σ l) r
  | [], _, _ => rfl
  | (i, v) :: l, r, σ => puts_app l r (σ.set i v)
/-- pairs alike -/
def RpP (K : PySem.W.Frag) (ad : Ra) (H : Hp) (l : List (Nat × V)) (m : List (Nat × D)) : Prop := l.map (·.1) = m.map (·.1) ∧ RpL K ad H (l.map (·.2)) (m.map (·.2))
def putV (σ : L2.St) (l : List (Nat × V)) : L2.St := puts σ (l.map fun p => (p.1, some p.2))
theorem putV_app (l r : List (Nat × V)) (σ : L2.St) : putV σ (l ++ r) = putV (putV σ l) r := by
  unfold putV
  rw [List.map_append, puts_app]
section
variable {K : PySem.W.Frag} {da : Da} {Hk H : Hp}
mutual
theorem Tg.ok (ex : Ex Hk H) : ∀ (t : Tg) (d : D) (m : List (Nat × D)) (x : V) (σ : L2.St) (Q : L2.St → Hp → Prop), t.l d = some m → Rp K da.ra Hk x d → (∀ l, RpP K da.ra Hk l m → Q (putV σ l) H) → t.g K x σ H Q
  | .nm i, d, m, x, σ, Q, h, r, q => by
    simp only [Tg.l, Option.some.injEq] at h
    subst h
    simp only [Tg.g]
    exact q [(i, x)] ⟨rfl, .cons r .nil⟩
  | .tp ts, d, m, x, σ, Q, h, r, q => by
    cases d with
    | tup ds =>
      simp only [Tg.l] at h
      obtain ⟨hl, h⟩ := ite_some' h
      simp only [Tg.g]
      cases r with
      | tup hs rs => exact ⟨_, _, rfl, Evl.ex_t ex hs, rs.length.trans hl, Tg.oks ex ts ds m _ σ Q h rs q⟩
    | _ => simp only [Tg.l] at h; cases h
theorem Tg.oks (ex : Ex Hk H) : ∀ (ts : List Tg) (ds : List D) (m : List (Nat × D)) (xs : List V) (σ : L2.St) (Q : L2.St → Hp → Prop), Tg.ls ts ds = some m → RpL K da.ra Hk xs ds → (∀ l, RpP K da.ra Hk l m → Q (putV σ l) H) → Tg.gs K ts xs σ H Q
  | [], ds, m, xs, σ, Q, h, r, q => by
    cases ds with
    | nil =>
      simp only [Tg.ls, Option.some.injEq] at h
      subst h
      cases r
      simp only [Tg.gs]
      exact ⟨rfl, q [] ⟨rfl, .nil⟩⟩
    | cons _ _ => simp only [Tg.ls] at h; cases h
  | t :: ts, ds, m, xs, σ, Q, h, r, q => by
    cases r with
    | nil => simp only [Tg.ls] at h; cases h
    | cons rd rr =>
      simp only [Tg.ls] at h
      split at h
      · rename_i l1 e1
        split at h
        · rename_i l2 e2
          cases h
          simp only [Tg.gs]
          refine ⟨_, _, rfl, Tg.ok ex t _ l1 _ σ _ e1 rd fun la ha => Tg.oks ex ts _ l2 _ (putV σ la) Q e2 rr fun lb hb => ?_⟩
          rw [← putV_app]
          refine q _ ⟨?_, ?_⟩
          · rw [List.map_append, List.map_append, ha.1, hb.1]
          · rw [List.map_append, List.map_append]
            exact ha.2.append hb.2
        · cases h
      · cases h
end
end
end Dv
set_option maxHeartbeats 4000000
namespace Dv
open PySem PySem.Spec PyProof.Rows L2

/-! ### tables, and an own list or dict that changes -/
theorem tabs_mut {T : List (Addr × Str)} {H : Hp} {p : Addr} {o o' : HO} (t : LamX.Tabs T H) (h : H p = some o) (m : Mut o) : LamX.Tabs T (upd H p o') := fun q hq => by
  obtain ⟨ps, h1, h2, h3⟩ := t q hq
  have n1 : q.1 ≠ p := fun z => by rw [z, h] at h1; exact m.ntb ps (Option.some.inj h1)
  refine ⟨ps, by rw [upd_ne n1]; exact h1, h2, fun pos cv hc => ?_⟩
  obtain ⟨c, e1, e2⟩ := h3 pos cv hc
  refine ⟨c, e1, ?_⟩
  have n2 : c ≠ p := fun z => by
    rw [z, h] at e2
    have e3 := Option.some.inj e2
    rw [e3] at m
    rcases m with ⟨xs, e⟩ | ⟨xs, e⟩ | ⟨C, dx, fs, e⟩ | ⟨ob, ks, e⟩ | ⟨φ, e, hφ⟩
    · unfold LamX.CodeO at e; cases e
    · unfold LamX.CodeO at e; cases e
    · unfold LamX.CodeO at e; cases e
    · unfold LamX.CodeO at e; cases e
    · exact hφ _ _ rfl
  rw [upd_ne n2]
  exact e2
/-- an object that is not known changes -/
theorem At.mut {da : Da} {Hk H : Hp} {δ : Dice} {p : Addr} {o o' : HO} (a : At da Hk H δ) (h : H p = some o) (m : Mut o) (hk : Hk p = none) (hd : da.ad ≠ some p) : At da Hk (upd H p o') δ where
  ex := fun b u e => by
    have : b ≠ p := fun z => by rw [z, hk] at e; cases e
    rw [upd_ne this]
    exact a.ex b u e
  di := fun b e => by
    have : b ≠ p := fun z => hd (by rw [e, z])
    rw [upd_ne this]
    exact a.di b e
  tb := tabs_mut a.tb h m
  kn := a.kn
  nt := a.nt

/-! ### no exception within -/
def nx {α : Type} (m : M α) : M α := fun δ => match m δ with
  | .ok a δ' => .ok a δ'
  | _ => .bad
abbrev W0 : WX := fun _ _ _ _ => False
theorem Fin.nx {K : PySem.W.Frag} {da : Da} {cm : Nat → Addr} {Hk H Hk' H' : Hp} {α β : Type} {m : M α} {g : α → M β} {k : β → Dice → Prop} {w w' : Value → Option Addr → Hp → Prop} {δ : Dice} (h : Fin K da cm (Dv.bind (Dv.nx m) g δ) Hk H k w) :
    Fin K da cm (m δ) Hk' H' (fun a δ' => Fin K da cm (g a δ') Hk H k w) w' := by
  unfold Dv.bind Dv.nx at h
  cases e : m δ with
  | ok a δ' => rw [e] at h; exact h
  | exc c fs δ' => rw [e] at h; exact h.elim
  | bad => rw [e] at h; exact h.elim

/-! ### the slots of a block -/
def wipeE (env : Env) : List Nat → Env
  | [] => env
  | v :: vs => (wipeE env vs).set v none
def putD (env : Env) (m : List (Nat × D)) : Env := puts env (m.map fun p => (p.1, some p.2))
theorem wipeE_length (env : Env) : ∀ vs, (wipeE env vs).length = env.length
  | [] => rfl
  | v :: vs => by unfold wipeE; rw [List.length_set, wipeE_length env vs]
theorem wipeE_some {env : Env} {i : Nat} {d : D} : ∀ {vs : List Nat}, (wipeE env vs)[i]? = some (some d) → env[i]? = some (some d) ∧ i ∉ vs
  | [], h => ⟨h, by simp⟩
  | v :: vs, h => by
    unfold wipeE at h
    by_cases hv : v = i
    · subst hv
      cases get_set_same h
    · rw [List.getElem?_set_ne hv] at h
      obtain ⟨h1, h2⟩ := wipeE_some h
      exact ⟨h1, fun z => (List.mem_cons.mp z).elim (fun e => hv e.symm) h2⟩
section
variable {K : PySem.W.Frag} {da : Da} {Hk : Hp} {σ : L2.St} {env : Env}
theorem EnvR.wipe (h : EnvR K da Hk σ env) (vs : List Nat) : EnvR K da Hk (L2.wipe σ vs) (wipeE env vs) := ⟨by rw [wipeE_length, wipe_length]; exact h.1, fun i d e => by
  obtain ⟨h1, h2⟩ := wipeE_some e
  rw [wipe_out h2]
  exact h.2 i d h1⟩
theorem EnvR.set {v : V} {d : D} (h : EnvR K da Hk σ env) (r : Rp K da.ra Hk v d) (i : Nat) : EnvR K da Hk (σ.set i (some v)) (env.set i (some d)) := ⟨by rw [List.length_set, List.length_set]; exact h.1, fun j x e => by
  by_cases hj : i = j
  · subst hj
    have q := get_set_same e
    cases q
    exact ⟨v, List.getElem?_set_self (Nat.lt_of_lt_of_le (set_lt e) h.1), r⟩
  · rw [List.getElem?_set_ne hj] at e ⊢
    exact h.2 j x e⟩
theorem EnvR.put : ∀ {l : List (Nat × V)} {m : List (Nat × D)} {σ : L2.St} {env : Env}, EnvR K da Hk σ env → RpP K da.ra Hk l m → EnvR K da Hk (putV σ l) (putD env m)
  | [], [], _, _, h, _ => h
  | [], _ :: _, _, _, _, r => by cases r.1
  | _ :: _, [], _, _, _, r => by cases r.1
  | (i, v) :: l, (j, d) :: m, _, _, h, r => by
    obtain ⟨h1, h2⟩ := r
    simp only [List.map_cons, List.cons.injEq] at h1 h2
    obtain ⟨rfl, h1⟩ := h1
    cases h2 with
    | cons h2 h3 =>
      show EnvR K da Hk (putV (List.set _ i (some v)) l) (putD (List.set _ i (some d)) m)
      exact EnvR.put (EnvR.set h h2 i) ⟨h1, h3⟩
end
mutual
def Tg.ix : Tg → List Nat
  | .nm i => [i]
  | .tp ts => Tg.ixs ts
def Tg.ixs : List Tg → List Nat
  | [] => []
  | t :: ts => t.ix ++ Tg.ixs ts
end
mutual
theorem Tg.l_ix : ∀ (t : Tg) (d : D) (m : List (Nat × D)), t.l d = some m → m.map (·.1) = t.ix
  | .nm i, d, m, h => by simp only [Tg.l, Option.some.injEq] at h; subst h; simp [Tg.ix]
  | .tp ts, d, m, h => by
    cases d with
    | tup ds =>
      simp only [Tg.l] at h
      simp only [Tg.ix]
      exact Tg.ls_ix ts ds m (ite_some' h).2
    | _ => simp only [Tg.l] at h; cases h
theorem Tg.ls_ix : ∀ (t : List Tg) (d : List D) (m : List (Nat × D)), Tg.ls t d = some m → m.map (·.1) = Tg.ixs t
  | [], ds, m, h => by
    cases ds with
    | nil => simp only [Tg.ls, Option.some.injEq] at h; subst h; simp [Tg.ixs]
    | cons _ _ => simp only [Tg.ls] at h; cases h
  | t :: ts, ds, m, h => by
    cases ds with
    | nil => simp only [Tg.ls] at h; cases h
    | cons d ds =>
      simp only [Tg.ls] at h
      split at h
      · rename_i l1 e1
        split at h
        · rename_i l2 e2
          cases h
          simp only [Tg.ixs, List.map_append]
          rw [Tg.l_ix t _ _ e1, Tg.ls_ix ts _ _ e2]
        · cases h
      · cases h
end
theorem wipe_set {σ : L2.St} {i : Nat} {o : Option V} : ∀ {vs : List Nat}, i ∈ vs → L2.wipe (σ.set i o) vs = L2.wipe σ vs
  | [], h => by cases h
  | v :: vs, h => by
    unfold L2.wipe
    by_cases hv : v = i
    · subst hv
      by_cases hm : v ∈ vs
      · rw [wipe_set hm]
      · have : ∀ (ws : List Nat), L2.wipe (σ.set v o) ws = (L2.wipe σ ws).set v (((L2.wipe (σ.set v o) ws)[v]?).getD none) := fun ws => by
          induction ws with
          | nil =>
            unfold L2.wipe
            by_cases hl : v < σ.length
            · rw [List.getElem?_set_self hl]; rfl
            · rw [List.set_eq_of_length_le (by omega), List.set_eq_of_length_le (by omega)]
          | cons w ws ih =>
            unfold L2.wipe
            by_cases hw : w = v
            · subst hw
              rw [ih, List.set_set, List.set_set]
              by_cases hl : w < (L2.wipe σ ws).length
              · rw [List.getElem?_set_self hl]; simp
              · rw [List.set_eq_of_length_le (by omega), List.set_eq_of_length_le (by omega)]
            · rw [List.getElem?_set_ne hw]
              generalize hz : ((L2.wipe (σ.set v o) ws)[v]?).getD none = z at ih ⊢
              rw [ih, List.set_comm _ _ hw]
        rw [this vs, List.set_set]
    · rw [wipe_set ((List.mem_cons.mp h).resolve_left fun e => hv e.symm)]
theorem wipe_wipe {σ : L2.St} : ∀ {vs : List Nat} (ws : List Nat), (∀ v ∈ vs, v ∈ ws) → L2.wipe (L2.wipe σ vs) ws = L2.wipe σ ws
  | [], _, _ => rfl
  | v :: vs, ws, h => by
    show L2.wipe ((L2.wipe σ vs).set v none) ws = _
    rw [wipe_set (h v List.mem_cons_self)]
    exact wipe_wipe ws fun x hx => h x (List.mem_cons_of_mem _ hx)
theorem wipe_put : ∀ {l : List (Nat × V)} {σ : L2.St} {vs : List Nat}, (∀ i ∈ l.map (·.1), i ∈ vs) → L2.wipe (putV σ l) vs = L2.wipe σ vs
  | [], _, _, _ => rfl
  | (i, v) :: l, σ, vs, h => by
    have : putV σ ((i, v) :: l) = putV (σ.set i (some v)) l := rfl
    rw [this, wipe_put fun j hj => h j (List.mem_cons_of_mem _ hj), wipe_set (h i List.mem_cons_self)]

/-! ### comprehensions -/
def lcL (t : Tg) (tt : Env → M Bool) (te : Env → M D) (env : Env) : List D → M (List D)
  | [] => ret []
  | x :: xs => bind (lift (t.l x)) fun m => bind (nx (tt (putD env m))) fun b => if b then bind (nx (te (putD env m))) fun y => bind (lcL t tt te env xs) fun ys => ret (y :: ys) else lcL t tt te env xs
def lcN (it : Env → M (List D)) (t : Tg) (vs : List Nat) (tt : Env → M Bool) (te : Env → M D) : Env → M (List D) := fun env =>
  bind (it env) fun xs => if xs.length ≤ lim then lcL t tt te (wipeE env vs) xs else bad
/-- a list that no one else has -/
def tNv (K : PySem.W.Frag) (da : Da) (cm : Nat → Addr) (W : WX) (f : Env → M (List D)) : TE := fun σ H Q => ∃ Hk env δ, At da Hk H δ ∧ EnvR K da Hk σ env ∧
  Fin K da cm (f env δ) Hk H (fun ds δ' => ∀ p vs Hk' H', Stp da Hk H Hk' H' → At da Hk' H' δ' → Hk' p = none → ¬ Nt H p → H' p = some (.lst vs) → RpL K da.ra Hk' vs ds → Q (.ref p) H') (fun c dd H' => W c dd σ H')
abbrev PNv (X : Cx) (da : Da) (cm : Nat → Addr) (W : WX) (e : Expr) (f : Env → M (List D)) : Prop := PE X e (tNv X.K da cm W f)
def newM (f : Env → M (List D)) : Env → M D := fun env => bind (f env) fun ds => ret (.lst ds)
theorem tNv_of {K : PySem.W.Frag} {da : Da} {cm : Nat → Addr} {W : WX} {f : Env → M (List D)} (σ : L2.St) (H : Hp) (Q : VK) (h : tEv K da cm W (newM f) σ H Q) : tNv K da cm W f σ H Q := by
  obtain ⟨Hk, env, δ, hA, hE, q⟩ := h
  refine ⟨Hk, env, δ, hA, hE, q.bind.mono fun ds δ' q2 p vs Hk' H' s a kp hp hp' r => ?_⟩
  have q2 : ∀ v Hk' H', Stp da Hk H Hk' H' → At da Hk' H' δ' → Rp K da.ra Hk' v (.lst ds) → Q v H' := q2
  have e2 : Ex Hk' (upd Hk' p (.lst vs)) := Evl.Ex.new kp
  have np : ∀ {b : Addr}, Mu H b → b ≠ p := fun h z => hp (by rw [← z]; exact h.nt)
  have dp : da.ad ≠ some p := fun z => hp ⟨_, (hA.di _ z).2, fun _ z => nomatch z⟩
  refine q2 _ (upd Hk' p (.lst vs)) H' ⟨s.kn.trans e2, fun b hb n => by rw [upd_ne (np hb)]; exact s.fr b hb n, s.ke, s.th, s.tm⟩ ⟨fun b o e => ?_, fun b e => ?_, a.tb, da.km _ _ e2 a.kn, fun b ps e => ?_⟩ (.lst upd_same (r.mono e2))
  · by_cases z : b = p
    · subst z; rw [upd_same] at e; cases e; exact hp'
    · rw [upd_ne z] at e; exact a.ex b o e
  · rw [upd_ne (fun z => dp (by rw [e, z]))]
    exact a.di b e
  · by_cases z : b = p
    · subst z; rw [upd_same] at e; cases e
    · rw [upd_ne z] at e; exact a.nt b ps e
theorem ev_nw {X : Cx} {da : Da} {cm : Nat → Addr} {W : WX} {e : Expr} {f : Env → M (List D)} (h : PNv X da cm W e f) : PEv X da cm W e (newM f) := PE.imp h tNv_of
def yesT : Env → M Bool := fun _ => ret true
abbrev PTsv (X : Cx) (da : Da) (cm : Nat → Addr) (W : WX) (ifs : List Expr) (f : Env → M Bool) : Prop := PTs X ifs (tTv X.K da cm W f)
theorem PTs.imp {X : Cx} {e : List Expr} {t t' : TT} (h : PTs X e t) (i : ∀ σ H Q, t' σ H Q → t σ H Q) : PTs X e t' := ⟨fun pins s σ H Q I q => h.run pins s σ H Q I (i _ _ _ q)⟩
theorem tsv_nil {X : Cx} {da : Da} {cm : Nat → Addr} {W : WX} : PTsv X da cm W [] yesT := Dv.PTs.imp pts_nil fun σ H Q ⟨Hk, env, δ, hA, hE, q⟩ => q Hk H (Stp.refl _ _ _) hA
section
variable {X : Cx} {da : Da} {cm : Nat → Addr} {W : WX}
theorem tIv.seq {K : PySem.W.Frag} {σ : L2.St} {H Hk : Hp} {env : Env} {δ : Dice} {f : Env → M (List D)} {β : Type} {g : List D → M β} {k : β → Dice → Prop} (hA : At da Hk H δ) (hE : EnvR K da Hk σ env)
    (h : Fin K da cm (Dv.bind (f env) g δ) Hk H k (fun c dd H' => W c dd σ H')) {R : It → Hp → Prop}
    (hq : ∀ J ds δ' Hk' H', Stp da Hk H Hk' H' → At da Hk' H' δ' → EnvR K da Hk' σ env → Yl K da J Hk' ds → Fin K da cm (g ds δ') Hk' H' k (fun c dd H' => W c dd σ H') → R J H') : tIv K da cm W f σ H R :=
  ⟨Hk, env, δ, hA, hE, h.bind.mono fun d δ' hg J Hk' H' s a y => hq J d δ' Hk' H' s a (hE.mono s.kn) y (hg.later s fun _ _ z => z)⟩
theorem tLc_of {it : Env → M (List D)} {t : Tg} {vs : List Nat} {tt : Env → M Bool} {te : Env → M D} (hix : ∀ i ∈ t.ix, i ∈ vs) (σ : L2.St) (H : Hp) (Q : VK) (h : tNv X.K da cm W (lcN it t vs tt te) σ H Q) :
    tLc (tIv X.K da cm W it) (t.g X.K) (tTv X.K da cm W0 tt) (tEv X.K da cm W0 te) vs σ H Q := by
  obtain ⟨Hk, env, δ, hA, hE, q⟩ := h
  refine tIv.seq hA hE q fun J xs δ1 Hk1 H1 s1 a1 e1 yl q1 D nD => ?_
  by_cases hl : ¬ xs.length ≤ lim
  · rw [ifn hl] at q1; exact q1.elim
  have hl := Decidable.not_not.mp hl
  rw [ifp hl] at q1
  have kD : Hk1 D = none := by
    cases z : Hk1 D with
    | none => rfl
    | some o => rw [a1.ex _ _ z] at nD; cases nD
  have dD : da.ad ≠ some D := fun z => by rw [(a1.di _ z).2] at nD; cases nD
  have eD : ∀ {b : Addr}, Nt H1 b → b ≠ D := fun h z => h.ne (by rw [z]; exact nD)
  have eM : ∀ {b : Addr}, Mu H1 b → b ≠ D := fun h z => h.ne (by rw [z]; exact nD)
  have eD' : ∀ {b : Addr}, H1 b ≠ none → b ≠ D := fun h z => h (by rw [z]; exact nD)
  refine ⟨fun i m H' => ∃ Hk' δ' acc ds, At da Hk' H' δ' ∧ Hk' D = none ∧ H' D = some (.lst acc) ∧ RpL X.K da.ra Hk' acc ds ∧ acc.length ≤ i ∧ i ≤ xs.length ∧ m = xs.length - i ∧ Stp da Hk1 H1 Hk' H' ∧
    Fin X.K da cm (Dv.bind (lcL t tt te (wipeE env vs) (xs.drop i)) (fun ys => ret (ds ++ ys)) δ') Hk1 H1 (fun ds δ' => ∀ p vs Hk' H', Stp da Hk H Hk' H' → At da Hk' H' δ' → Hk' p = none → ¬ Nt H p → H' p = some (.lst vs) → RpL X.K da.ra Hk' vs ds → Q (.ref p) H') (fun c dd H' => W c dd σ H'),
    ⟨xs.length, Hk1, δ1, [], [], ?_, kD, upd_same, .nil, Nat.le_refl _, Nat.zero_le _, rfl, ?_, ?_⟩, ?_⟩
  · exact ⟨fun b o e => by rw [upd_ne (eD' (by rw [a1.ex _ _ e]; exact fun z => nomatch z))]; exact a1.ex b o e, fun b e => by
      have z := a1.di b e
      rw [upd_ne (eD' (by rw [z.2]; exact fun z => nomatch z))]
      exact z, a1.tb.ext (Evl.Ex.new nD), a1.kn, a1.nt⟩
  · exact ⟨Evl.Ex.refl _, fun _ _ z => z, fun b o e _ _ => by rw [upd_ne (eD' (by rw [e]; exact fun z => nomatch z))]; exact e, fun b hb => by
      obtain ⟨o, z, n⟩ := hb
      exact ⟨o, by rw [upd_ne (eD' (by rw [z]; exact fun z => nomatch z))]; exact z, n⟩, fun b hb => by
      obtain ⟨o, z, n⟩ := hb
      exact ⟨o, by rw [upd_ne (eD' (by rw [z]; exact fun z => nomatch z))]; exact z, n⟩⟩
  · rw [List.drop_zero, show (fun ys : List Dv.D => ret ([] ++ ys)) = ret from rfl, ret_bind]
    exact q1
  rintro i m H' ⟨Hk', δ', acc, ds, a', kD', hD', rA, hai, hi, rfl, s', q'⟩
  have ek : Ex Hk1 H' := s'.kn.trans a'.ex
  by_cases hx : i = xs.length
  · left
    refine ⟨yl.stop i H' ek (Nat.le_of_eq hx.symm), ?_⟩
    rw [hx, List.drop_length] at q'
    have q2 : ∀ p vs Hk' H', Stp da Hk H Hk' H' → At da Hk' H' δ' → Hk' p = none → ¬ Nt H p → H' p = some (.lst vs) → RpL X.K da.ra Hk' vs (ds ++ []) → Q (.ref p) H' := q'
    rw [List.append_nil] at q2
    exact q2 D acc Hk' H' (s1.trans s') a' kD' (by
      intro z
      exact (s1.th D z).ne nD) hD' rA
  · right
    have hlt : i < xs.length := by omega
    refine ⟨yl.go i H' ek hlt, fun H2 => ∃ m', m' < xs.length - i ∧ _, fun H2 z => z, fun x H2 hy => ?_⟩
    have hd : xs[i]? = some xs[i] := List.getElem?_eq_getElem hlt
    obtain ⟨Hk3, st3, r3⟩ := yl.yld i H' x H2 Hk' _ s'.kn a'.ex hd hy
    have a3 := st3.at_ a'
    rw [List.drop_eq_getElem_cons hlt] at q'
    unfold lcL at q'
    rw [bind_bind] at q'
    cases hm : t.l xs[i] with
    | none => rw [hm] at q'; exact q'.elim
    | some mm =>
      rw [hm, lift_some, bind_ret, bind_bind] at q'
      refine Tg.ok a3.ex t _ mm x _ _ hm r3 fun l hl2 => ⟨?_, ?_⟩
      · rw [wipe_put (fun j hj => hix j ?_), wipe_wipe _ (fun _ z => z)]
        rw [hl2.1, Tg.l_ix t _ _ hm] at hj
        exact hj
      have E3 : EnvR X.K da Hk3 (putV (L2.wipe σ vs) l) (putD (wipeE env vs) mm) := EnvR.put ((e1.mono (s'.kn.trans st3.kn)).wipe vs) hl2
      have s3 : Stp da Hk1 H1 Hk3 H2 := s'.trans st3.stp
      refine ⟨Hk3, _, δ', a3, E3, (Fin.nx q').mono fun b δ4 q4 Hk4 H4 s4 a4 => ?_⟩
      have hD4 : ∀ {Hk4 H4 : Hp}, Stp da Hk3 H2 Hk4 H4 → Hk4 D = none ∧ H4 D = some (.lst acc) := fun {Hk4 H4} s4 => by
        have z2 : H2 D = some (.lst acc) := st3.ke _ _ hD'
        have z1 : Hk3 D = none := st3.fr D (by rw [hD']; exact fun z => nomatch z) kD'
        exact ⟨s4.fr D ⟨_, z2, .lst _⟩ z1, s4.ke D _ z2 dD fun _ z => nomatch z⟩
      cases b with
      | false =>
        refine Eq.mpr (if_neg (c := false = true) (fun z => nomatch z)) ?_
        rw [if_neg (fun z => nomatch z)] at q4
        obtain ⟨k4, h4⟩ := hD4 s4
        exact ⟨xs.length - (i + 1), by omega, Hk4, δ4, acc, ds, a4, k4, h4, rA.mono (st3.kn.trans s4.kn), by omega, hlt, rfl, s3.trans s4, q4⟩
      | true =>
        refine Eq.mpr (if_pos (c := true = true) rfl) ?_
        rw [if_pos rfl, bind_bind] at q4
        refine ⟨Hk4, _, δ4, a4, E3.mono s4.kn, (Fin.nx q4).mono fun y δ5 q5 v Hk5 H5 s5 a5 r5 => ?_⟩
        obtain ⟨k5, h5⟩ := hD4 (s4.trans s5)
        refine ⟨acc, h5, by rw [sizeLine_eq]; unfold lim at hl; omega, xs.length - (i + 1), by omega, Hk5, δ5, acc ++ [v], ds ++ [y], a5.mut h5 (.lst _) k5 dD, k5, upd_same, ?_, by simp; omega, hlt, rfl, ?_, ?_⟩
        · exact (rA.mono ((st3.kn.trans s4.kn).trans s5.kn)).append (.cons r5 .nil)
        · have s6 := (s3.trans s4).trans s5
          exact ⟨s6.kn, s6.fr, fun b o e d n => by rw [upd_ne (eD' (by rw [e]; exact fun z => nomatch z))]; exact s6.ke b o e d n, fun b hb => by
            obtain ⟨o, z, n⟩ := s6.th b hb
            exact ⟨o, by rw [upd_ne (eD hb)]; exact z, n⟩, fun b hb => by
            obtain ⟨o, z, n⟩ := s6.tm b hb
            exact ⟨o, by rw [upd_ne (eM hb)]; exact z, n⟩⟩
        · rw [bind_bind] at q5
          simpa [bind_ret] using q5
end
end Dv
set_option maxHeartbeats 4000000
namespace Dv
open PySem PySem.Spec PyProof.Rows L2

section
variable {X : Cx} {da : Da} {cm : Nat → Addr} {W : WX} {pos spos py : Pos}
theorem pg_nm {i : Nat} {x : Str} (hN : X.N.Nodup) (hi : X.N[i]? = some x) (hx : Loc X.env.scope x) (hf : X.fn x = true ∨ X.env.scope.names.lookup x = some .local := by first | exact .inl rfl | exact .inr rfl | assumption) : PG X (.Name x pos) ((Tg.nm i).g X.K) := by
  simp only [Tg.g]
  exact pg_name hN hi hx hf
theorem nw_lc {elt tg iter : Expr} {ifs : List Expr} {scope : Scope} {own : List (Str × Nat)} {vs : List Nat} {it : Env → M (List D)} {t : Tg} {tt : Env → M Bool} {te : Env → M D} (hc : X.calm = true) (hN : X.N.Nodup) (hi : PIv X da cm W tg iter it) (ok : BlkOk X.N X.env.scope scope own)
    (hix : ∀ i ∈ t.ix, i ∈ vs)
    (hg : ∀ (s : Shared) (H : Hp) (C : Addr) (cl : List (Str × Addr)) (fp : List Addr), PG (X.blk s H scope (compEnvC scope cl C X.env) fp) tg (t.g X.K)) (ht : ∀ (s : Shared) (H : Hp) (C : Addr) (cl : List (Str × Addr)) (fp : List Addr), PTsv (X.blk s H scope (compEnvC scope cl C X.env) fp) da cm W0 ifs tt)
    (he : ∀ (s : Shared) (H : Hp) (C : Addr) (cl : List (Str × Addr)) (fp : List Addr), PEv (X.blk s H scope (compEnvC scope cl C X.env) fp) da cm W0 elt te) (hs : ∀ x, foldedSetIterable iter X.env x = pure x := by intro _; rfl) (hvs : own.map (·.2) = vs := by rfl) :
    PNv X da cm W (.ListComp elt [⟨tg, iter, ifs, 0⟩] scope pos) (lcN it t vs tt te) := by
  subst hvs
  exact PE.imp (pe_lc hc hN hi ok hg ht he hs) (tLc_of hix)
theorem ss_setLc {E : XK} {i : Nat} {y : Str} {elt tg iter : Expr} {ifs : List Expr} {scope : Scope} {own : List (Str × Nat)} {vs : List Nat} {it : Env → M (List D)} {t : Tg} {tt : Env → M Bool} {te : Env → M D} (hc : X.calm = true) (hN : X.N.Nodup) (hy : X.N[i]? = some y) (hyl : X.env.scope.names.lookup y = some .local)
    (hsw : swapsWith (.ListComp elt [⟨tg, iter, ifs, 0⟩] scope pos) (some (.Name y py)) spos.line X.env = pure true) (hi : PIv X da cm (WE0 E) tg iter it) (ok : BlkOk X.N X.env.scope scope own)
    (hix : ∀ i ∈ t.ix, i ∈ vs)
    (hg : ∀ (s : Shared) (H : Hp) (C : Addr) (cl : List (Str × Addr)) (fp : List Addr), PG (X.blk s H scope (compEnvC scope cl C X.env) fp) tg (t.g X.K)) (ht : ∀ (s : Shared) (H : Hp) (C : Addr) (cl : List (Str × Addr)) (fp : List Addr), PTsv (X.blk s H scope (compEnvC scope cl C X.env) fp) da cm W0 ifs tt)
    (he : ∀ (s : Shared) (H : Hp) (C : Addr) (cl : List (Str × Addr)) (fp : List Addr), PEv (X.blk s H scope (compEnvC scope cl C X.env) fp) da cm W0 elt te) (hs : ∀ x, foldedSetIterable iter X.env x = pure x := by intro _; rfl) (hvs : own.map (·.2) = vs := by rfl) :
    PSv X da cm E (.Assign [.Name y py] (.ListComp elt [⟨tg, iter, ifs, 0⟩] scope pos) spos) (asgS i (newM (lcN it t vs tt te))) := by
  subst hvs
  exact PS.imp (ps_setLc hc hN hy hyl hsw hi ok hg ht he hs) fun D σ H h => tLc_of hix σ H _ (tNv_of σ H _ (asgS_of D σ H h))
end

/-! ### for -/
def putS (env : SEnv) (m : List (Nat × D)) : SEnv := puts env (m.map fun p => (p.1, .dt p.2))
section
variable {K : PySem.W.Frag} {da : Da} {Hk H : Hp}
theorem EnvS.put : ∀ {l : List (Nat × V)} {m : List (Nat × D)} {σ : L2.St} {env : SEnv}, EnvS K da Hk H σ env → RpP K da.ra Hk l m → EnvS K da Hk H (putV σ l) (putS env m)
  | [], [], _, _, h, _ => h
  | [], _ :: _, _, _, _, r => by cases r.1
  | _ :: _, [], _, _, _, r => by cases r.1
  | (i, v) :: l, (j, d) :: m, _, _, h, r => by
    obtain ⟨h1, h2⟩ := r
    simp only [List.map_cons, List.cons.injEq] at h1 h2
    obtain ⟨rfl, h1⟩ := h1
    cases h2 with
    | cons h2 h3 =>
      show EnvS K da Hk H (putV (List.set _ i (some v)) l) (putS (List.set _ i (.dt d)) m)
      exact EnvS.put (EnvS.set h h2) ⟨h1, h3⟩
theorem Own.of_put {p : Addr} : ∀ {l : List (Nat × V)} {m : List (Nat × D)} {σ : L2.St} {env : SEnv}, l.map (·.1) = m.map (·.1) → Own (putV σ l) (putS env m) p → Own σ env p
  | [], [], _, _, _, h => h
  | [], _ :: _, _, _, r, _ => by cases r
  | _ :: _, [], _, _, r, _ => by cases r
  | (i, v) :: l, (j, d) :: m, _, _, r, h => by
    simp only [List.map_cons, List.cons.injEq] at r
    obtain ⟨rfl, h1⟩ := r
    exact (Own.of_put (l := l) (m := m) h1 h).of_set
end
def forL (t : Tg) (F : SEnv → M Fl) : List D → SEnv → M Fl
  | [], env => ret (.next env)
  | x :: xs, env => bind (lift (t.l x)) fun m => bind (F (putS env m)) fun r => match r with
    | .next e => forL t F xs e
    | .cont e => forL t F xs e
    | .brk e => ret (.next e)
    | .ret d => ret (.ret d)
    | .nw ds => ret (.nw ds)
def forM (it : Env → M (List D)) (t : Tg) (F : SEnv → M Fl) : SEnv → M Fl := fun env => bind (it (vw env)) fun xs => forL t F xs env
section
variable {X : Cx} {da : Da} {cm : Nat → Addr} {E : XK} {pos : Pos} {tg iter : Expr} {body : List Stmt}
theorem tIv.st {K : PySem.W.Frag} {σ : L2.St} {H Hk : Hp} {env : SEnv} {δ : Dice} {D : Ends} {f : Env → M (List Dv.D)} {g : List Dv.D → M Fl} (hA : At da Hk H δ) (hE : EnvS K da Hk H σ env) (h : FinS K da cm (Dv.bind (f (vw env)) g δ) Hk H σ env D E) {R : It → Hp → Prop}
    (hq : ∀ J ds δ' Hk' H', Stp da Hk H Hk' H' → At da Hk' H' δ' → EnvS K da Hk' H' σ env → Yl K da J Hk' ds → FinS K da cm (g ds δ') Hk' H' σ env D E → R J H') : tIv K da cm (WE0 E) f σ H R :=
  ⟨Hk, vw env, δ, hA, hE.vw, h.seq.mono fun d δ' hg J Hk' H' s a y => hq J d δ' Hk' H' s a (hE.step s) y (hg.step s)⟩
theorem tFor_of {it : Env → M (List Dv.D)} {t : Tg} {F : SEnv → M Fl} (D : Ends) (σ : L2.St) (H : Hp) (h : tSt X.K da cm E (forM it t F) D σ H) : tFor (tIv X.K da cm (WE0 E) it) (t.g X.K) (tSt X.K da cm E F) D σ H := by
  obtain ⟨Hk, env, δ, hA, hE, q⟩ := h
  refine tIv.st hA hE q fun J xs δ1 Hk1 H1 s1 a1 e1 yl q1 => ?_
  refine ⟨fun i m σ' H' => ∃ Hk' δ' env', At da Hk' H' δ' ∧ EnvS X.K da Hk' H' σ' env' ∧ i ≤ xs.length ∧ m = xs.length - i ∧ Ex Hk1 Hk' ∧ FinS X.K da cm (forL t F (xs.drop i) env' δ') Hk' H' σ' env' D E, ⟨xs.length, Hk1, δ1, env, a1, e1, Nat.zero_le _, rfl, Evl.Ex.refl _, q1⟩, ?_⟩
  rintro i m σ' H' ⟨Hk', δ', env', a', e', hi, rfl, kn, q'⟩
  have ek : Ex Hk1 H' := kn.trans a'.ex
  by_cases hx : i = xs.length
  · left
    refine ⟨yl.stop i H' ek (Nat.le_of_eq hx.symm), ?_⟩
    rw [hx, List.drop_length] at q'
    exact q' σ' Hk' H' (StpS.refl _ _ _ _) a' e' fun _ => own_le
  · right
    have hlt : i < xs.length := by omega
    refine ⟨yl.go i H' ek hlt, fun σ2 H2 => ∃ m', m' < xs.length - i ∧ _, fun σ2 H2 z => z, fun x H2 hy => ?_⟩
    have hd : xs[i]? = some xs[i] := List.getElem?_eq_getElem hlt
    obtain ⟨Hk3, st3, r3⟩ := yl.yld i H' x H2 Hk' _ kn a'.ex hd hy
    have a3 := st3.at_ a'
    have e3 := e'.step st3.stp
    rw [List.drop_eq_getElem_cons hlt] at q'
    unfold forL at q'
    cases hm : t.l xs[i] with
    | none => rw [hm] at q'; exact q'.elim
    | some mm =>
      rw [hm, lift_some, bind_ret] at q'
      refine Tg.ok a3.ex t _ mm x _ _ hm r3 fun l hl2 => ?_
      have E3 : EnvS X.K da Hk3 H2 (putV σ' l) (putS env' mm) := e3.put hl2
      have o3 : ∀ p, Own (putV σ' l) (putS env' mm) p → Own σ' env' p := fun p z => Own.of_put hl2.1 z
      refine ⟨Hk3, _, δ', a3, E3, ?_⟩
      have q3 := q'.step st3.stp
      -- on to the next turn
      have on : ∀ {env4 : SEnv} {δ4 : Dice}, FinS X.K da cm (forL t F (xs.drop (i + 1)) env4 δ4) Hk3 H2 σ' env' D E → Nx X.K da Hk3 H2 (putV σ' l) (putS env' mm) env4 δ4 (fun σ2 H2 => ∃ m', m' < xs.length - i ∧ ∃ Hk' δ' env', At da Hk' H2 δ' ∧ EnvS X.K da Hk' H2 σ2 env' ∧ i + 1 ≤ xs.length ∧ m' = xs.length - (i + 1) ∧ Ex Hk1 Hk' ∧ FinS X.K da cm (forL t F (xs.drop (i + 1)) env' δ') Hk' H2 σ2 env' D E) := fun {env4 δ4} q4 σ4 Hk4 H4 s4 a4 e4 o4 =>
        ⟨xs.length - (i + 1), by omega, Hk4, δ4, env4, a4, e4, hlt, rfl, (kn.trans st3.kn).trans s4.kn, q4.later (s4.mono o3) fun p hp => (o4 p hp).imp (o3 p) id⟩
      have w3 : StpS da (Own (putV σ' l) (putS env' mm)) Hk3 H2 Hk3 H2 := StpS.refl _ _ _ _
      unfold Dv.bind at q3
      cases hr : F (putS env' mm) δ' with
      | bad => rw [hr] at q3; exact q3.elim
      | exc c fs δ4 =>
        rw [hr] at q3
        exact fun dd Hk4 H4 s4 a4 x4 => q3 dd Hk4 H4 (s4.mono o3) a4 x4
      | ok fl δ4 =>
        rw [hr] at q3
        cases fl with
        | next env4 => exact on q3
        | cont env4 => exact on q3
        | brk env4 => exact fun σ4 Hk4 H4 s4 a4 e4 o4 => q3 σ4 Hk4 H4 (s4.mono o3) a4 e4 fun p hp => (o4 p hp).imp (o3 p) id
        | ret d => exact fun v Hk4 H4 s4 a4 r4 => q3 v Hk4 H4 (s4.mono o3) a4 r4
        | nw ds => exact fun p ws Hk4 H4 s4 a4 => q3 p ws Hk4 H4 (s4.mono o3) a4
theorem ss_for {it : Env → M (List D)} {t : Tg} {F : SEnv → M Fl} (hp : PassesOwn (model X.prog X.w) X.A X.env X.xe) (hc : X.calm = true) (hi : PIv X da cm (WE0 E) tg iter it) (hg : PG X tg (t.g X.K)) (hb : PBv X da cm E body F)
    (hs : ∀ x, foldedSetIterable iter X.env x = pure x := by intro _; rfl) : PSv X da cm E (.For tg iter body [] pos) (forM it t F) := PS.imp (ps_for hp hc hi hg hb hs) tFor_of
end
section
variable {X : Cx} {da : Da} {cm : Nat → Addr} {E : XK} {pos : Pos} {c : Expr} {body : List Stmt}
end
/-! ### an own list is data from now on -/
def frzE (i : Nat) (env : SEnv) : SEnv := match env[i]? with
  | some (.ow ds) => env.set i (.dt (.lst ds))
  | some (.od kvs) => env.set i (.dt (.dic kvs))
  | _ => env
def frzS (i : Nat) (F : SEnv → M Fl) : SEnv → M Fl := fun env => F (frzE i env)
section
variable {X : Cx} {da : Da} {cm : Nat → Addr} {E : XK} {K : PySem.W.Frag} {Hk H : Hp} {σ : L2.St} {env : SEnv} {δ : Dice} {D : Ends}
theorem Own.of_dt {i : Nat} {d : Dv.D} {p : Addr} (h : Own σ (env.set i (.dt d)) p) : Own σ env p := by
  obtain ⟨j, s, e, o, q⟩ := h
  by_cases hj : i = j
  · subst hj
    have z := get_set_same e
    subst z
    cases o
  · rw [List.getElem?_set_ne hj] at e
    exact ⟨j, s, e, o, q⟩
theorem frz_one {i : Nat} {s : Sl} {p : Addr} {o : HO} {d : Dv.D} {F : SEnv → M Fl} (hA : At da Hk H δ) (hE : EnvS K da Hk H σ env) (he : env[i]? = some s) (so : s.own = true) (h1 : σ[i]? = some (some (.ref p))) (h2 : Hk p = none) (h3 : da.ad ≠ some p) (h4 : H p = some o) (ho : ∀ ps, o ≠ .tbl ps)
    (r : Rp K da.ra (upd Hk p o) (.ref p) d) (q : FinS K da cm (F (env.set i (.dt d)) δ) Hk H σ env D E) : tSt K da cm E F D σ H := by
  have kn : Ex Hk (upd Hk p o) := Evl.Ex.new h2
  refine ⟨upd Hk p o, env.set i (.dt d), δ, ⟨fun b u e => ?_, fun b e => ?_, hA.tb, da.km _ _ kn hA.kn, fun b ps e => ?_⟩, ⟨by rw [List.length_set]; exact hE.len, fun j x e => ?_, fun j t e ow => ?_, fun j k t u a e1 o1 e2 o2 q1 q2 => ?_⟩, q.later ⟨kn, fun b _ n hb => ?_, fun b u e _ _ _ => e, fun b e => e, fun b e => e⟩ fun a z => .inl z.of_dt⟩
  · by_cases z : b = p
    · subst z; rw [upd_same] at e; cases e; exact h4
    · rw [upd_ne z] at e; exact hA.ex b u e
  · rw [upd_ne (fun z => h3 (by rw [e, z]))]
    exact hA.di b e
  · by_cases z : b = p
    · subst z; rw [upd_same] at e; exact ho ps (Option.some.inj e)
    · rw [upd_ne z] at e; exact hA.nt b ps e
  · by_cases hj : i = j
    · subst hj
      cases get_set_same e
      exact ⟨_, h1, r⟩
    · rw [List.getElem?_set_ne hj] at e
      obtain ⟨v, a1, a2⟩ := hE.dat j x e
      exact ⟨v, a1, a2.mono kn⟩
  · by_cases hj : i = j
    · subst hj
      cases get_set_same e
      cases ow
    · rw [List.getElem?_set_ne hj] at e
      obtain ⟨b, a1, a2, a3, a4⟩ := hE.own j t e ow
      have nb : b ≠ p := fun z => hj (hE.apart i j s t p he so e ow h1 (by rw [a1, z]))
      refine ⟨b, a1, by rw [upd_ne nb]; exact a2, a3, ?_⟩
      cases t with
      | ow ds => obtain ⟨vs, q, r⟩ := a4; exact ⟨vs, q, r.mono kn⟩
      | od ds => obtain ⟨vs, q, r⟩ := a4; exact ⟨vs, q, r.mono kn⟩
      | oo c ds => obtain ⟨vs, f, q, r⟩ := a4; exact ⟨vs, f, q, r.mono kn⟩
      | no => exact a4
      | dt d => exact a4
  · by_cases hj : i = j
    · subst hj
      cases get_set_same e1
      cases o1
    · by_cases hk : i = k
      · subst hk
        cases get_set_same e2
        cases o2
      · rw [List.getElem?_set_ne hj] at e1
        rw [List.getElem?_set_ne hk] at e2
        exact hE.apart j k t u a e1 o1 e2 o2 q1 q2
  · have : b ≠ p := fun z => n (by rw [z]; exact ⟨i, s, he, so, h1⟩)
    rw [upd_ne this]
    exact hb
/-- a dict is locked for good -/
def tFrzS (t : TS) : TS := fun D σ H => t D σ H ∨ ∃ d u, H d = some u ∧ L2.Mut (some u) ∧ ∀ od, t D σ (upd H d (.frz od u))
theorem ps_frzd {X : Cx} {st : Stmt} {t : TS} (h : PS X st t) : PS X st (tFrzS t) := ⟨fun pins s σ H D I hw => by
  rcases hw with hw | ⟨d, u, hd, mu, hw⟩
  · exact h.run pins s σ H D I hw
  · obtain ⟨od, I1⟩ := I.lock hd mu
    exact h.run pins s σ _ D I1 (hw od)⟩
theorem frz_oneD {i : Nat} {ds : List (Dv.D × Dv.D)} {p : Addr} {kvs : List (Key × V)} {od : Obj} {F : SEnv → M Fl} (hA : At da Hk H δ) (hE : EnvS K da Hk H σ env) (he : env[i]? = some (.od ds)) (h1 : σ[i]? = some (some (.ref p))) (h2 : Hk p = none) (h3 : da.ad ≠ some p) (h4 : H p = some (.dK kvs))
    (r : RpK K da.ra Hk kvs ds) (q : FinS K da cm (F (env.set i (.dt (.dic ds))) δ) Hk H σ env D E) : tSt K da cm E F D σ (upd H p (.frz od (.dK kvs))) := by
  have kn : Ex Hk (upd Hk p (.frz od (.dK kvs))) := Evl.Ex.new h2
  have so : (Sl.od ds).own = true := rfl
  have nu : ∀ {b : Addr}, Hk b ≠ none → b ≠ p := fun z e => z (by rw [e]; exact h2)
  refine ⟨upd Hk p (.frz od (.dK kvs)), env.set i (.dt (.dic ds)), δ, ⟨fun b u e => ?_, fun b e => ?_, tabs_mut hA.tb h4 (.dK _), da.km _ _ kn hA.kn, fun b ps e => ?_⟩, ⟨by rw [List.length_set]; exact hE.len, fun j x e => ?_, fun j t e ow => ?_, fun j k t u a e1 o1 e2 o2 q1 q2 => ?_⟩, q.later ⟨kn, fun b _ n hb => ?_, fun b u e _ _ n => ?_, fun b ⟨o, e, n⟩ => ?_, fun b ⟨o, e, n⟩ => ?_⟩ fun a z => .inl z.of_dt⟩
  · by_cases z : b = p
    · subst z; rw [upd_same] at e ⊢; exact e
    · rw [upd_ne z] at e ⊢; exact hA.ex b u e
  · have : b ≠ p := fun z => h3 (by rw [e, z])
    rw [upd_ne this, upd_ne this]
    exact hA.di b e
  · by_cases z : b = p
    · subst z; rw [upd_same] at e; cases e
    · rw [upd_ne z] at e; exact hA.nt b ps e
  · by_cases hj : i = j
    · subst hj
      cases get_set_same e
      exact ⟨_, h1, .dic upd_same (r.mono kn)⟩
    · rw [List.getElem?_set_ne hj] at e
      obtain ⟨v, a1, a2⟩ := hE.dat j x e
      exact ⟨v, a1, a2.mono kn⟩
  · by_cases hj : i = j
    · subst hj
      cases get_set_same e
      cases ow
    · rw [List.getElem?_set_ne hj] at e
      obtain ⟨b, a1, a2, a3, a4⟩ := hE.own j t e ow
      have nb : b ≠ p := fun z => hj (hE.apart i j _ t p he so e ow h1 (by rw [a1, z]))
      refine ⟨b, a1, by rw [upd_ne nb]; exact a2, a3, ?_⟩
      cases t with
      | ow ds => obtain ⟨vs, q, r⟩ := a4; exact ⟨vs, by rw [upd_ne nb]; exact q, r.mono kn⟩
      | od ds => obtain ⟨vs, q, r⟩ := a4; exact ⟨vs, by rw [upd_ne nb]; exact q, r.mono kn⟩
      | oo c ds => obtain ⟨vs, f, q, r⟩ := a4; exact ⟨vs, f, by rw [upd_ne nb]; exact q, r.mono kn⟩
      | no => exact a4
      | dt d => exact a4
  · by_cases hj : i = j
    · subst hj
      cases get_set_same e1
      cases o1
    · by_cases hk : i = k
      · subst hk
        cases get_set_same e2
        cases o2
      · rw [List.getElem?_set_ne hj] at e1
        rw [List.getElem?_set_ne hk] at e2
        exact hE.apart j k t u a e1 o1 e2 o2 q1 q2
  · have : b ≠ p := fun z => n (by rw [z]; exact ⟨i, _, he, so, h1⟩)
    rw [upd_ne this]
    exact hb
  · have : b ≠ p := fun z => n (by rw [z]; exact ⟨i, _, he, so, h1⟩)
    rw [upd_ne this]
    exact e
  · by_cases z : b = p
    · subst z; exact ⟨_, upd_same, fun _ z => nomatch z⟩
    · exact ⟨o, by rw [upd_ne z]; exact e, n⟩
  · by_cases z : b = p
    · subst z; exact ⟨_, upd_same, .frz _ _⟩
    · exact ⟨o, by rw [upd_ne z]; exact e, n⟩
theorem tSt_frz {i : Nat} {F : SEnv → M Fl} (D : Ends) (σ : L2.St) (H : Hp) (h : tSt K da cm E (frzS i F) D σ H) : tFrzS (tSt K da cm E F) D σ H := by
  obtain ⟨Hk, env, δ, hA, hE, q⟩ := h
  unfold frzS frzE at q
  split at q
  · rename_i ds he
    obtain ⟨p, h1, h2, h3, vs, h4, h5⟩ := hE.own i _ he rfl
    exact .inl (frz_one hA hE he rfl h1 h2 h3 h4 (fun _ z => nomatch z) (.lst upd_same (h5.mono (Evl.Ex.new h2))) q)
  · rename_i ds he
    obtain ⟨p, h1, h2, h3, vs, h4, h5⟩ := hE.own i _ he rfl
    exact .inr ⟨p, _, h4, trivial, fun od => frz_oneD hA hE he h1 h2 h3 h4 h5 q⟩
  · exact .inl ⟨Hk, env, δ, hA, hE, q⟩
theorem ss_frz {st : Stmt} {i : Nat} {F : SEnv → M Fl} (h : PSv X da cm E st F) : PSv X da cm E st (frzS i F) := PS.imp (ps_frzd h) tSt_frz
end
end Dv
set_option maxHeartbeats 4000000
namespace Dv
open PySem PySem.Spec PyProof.Rows L2

/-! ### lists that no one else has -/
section
variable {X : Cx} {da : Da} {cm : Nat → Addr} {W : WX} {pos p : Pos} {e : Expr} {es : List Expr} {fs : Env → M (List D)} {fa : Env → M D}
def dspN (fs : Env → M (List D)) : Env → M (List D) := fun env => bind (fs env) fun xs => if xs.length ≤ lim then ret xs else bad
theorem new_at {da : Da} {Hk H : Hp} {δ : Dice} {p : Addr} {o : HO} (a : At da Hk H δ) (h : H p = none) : At da Hk (upd H p o) δ ∧ Stp da Hk H Hk (upd H p o) ∧ Hk p = none ∧ da.ad ≠ some p := by
  have np : ∀ {b : Addr}, H b ≠ none → b ≠ p := fun q z => q (by rw [z]; exact h)
  have hk : Hk p = none := by
    cases z : Hk p with
    | none => rfl
    | some u => rw [a.ex _ _ z] at h; cases h
  exact ⟨⟨fun b u e => by rw [upd_ne (np (by rw [a.ex _ _ e]; exact fun z => nomatch z))]; exact a.ex b u e, fun b e => by
      have z := a.di b e
      rw [upd_ne (np (by rw [z.2]; exact fun z => nomatch z))]
      exact z, a.tb.ext (Evl.Ex.new h), a.kn, a.nt⟩, ⟨Evl.Ex.refl _, fun _ _ z => z, fun b u e _ _ => by rw [upd_ne (np (by rw [e]; exact fun z => nomatch z))]; exact e, fun b q => by
      obtain ⟨u, e, n⟩ := q
      exact ⟨u, by rw [upd_ne (np (by rw [e]; exact fun z => nomatch z))]; exact e, n⟩, fun b q => by
      obtain ⟨u, e, n⟩ := q
      exact ⟨u, by rw [upd_ne (np (by rw [e]; exact fun z => nomatch z))]; exact e, n⟩⟩, hk, fun z => by rw [(a.di _ z).2] at h; cases h⟩
theorem Stp.none {da : Da} {Hk H Hk' H' : Hp} {p : Addr} (s : Stp da Hk H Hk' H') (h : H' p = none) : ¬ Nt H p := fun z => (s.th p z).ne h
theorem nw_lst (h : PAv X da cm W es fs) : PNv X da cm W (.List es pos) (dspN fs) := PE.imp (pe_lst h) fun σ H Q ⟨Hk, env, δ, hA, hE, q⟩ => by
  refine tAv.seq hA hE q fun xs ds δ1 Hk1 H1 s1 a1 e1 r1 q1 => ?_
  by_cases hl : ds.length ≤ lim
  · rw [ifp hl] at q1
    refine ⟨by rw [r1.length]; exact lim_le hl, fun p hp => ?_⟩
    obtain ⟨a2, s2, k2, _⟩ := new_at (o := .lst xs) a1 hp
    exact q1 p xs Hk1 _ (s1.trans s2) a2 k2 (s1.none hp) upd_same r1
  · rw [ifn hl] at q1; exact q1.elim
def D.seq? : D → Option (List D)
  | .lst xs => some xs
  | .tup xs => some xs
  | _ => none
def D.seq1 : List D → Option (List D)
  | [d] => d.seq?
  | _ => none
def lstN (fs : Env → M (List D)) : Env → M (List D) := fun env => bind (fs env) fun xs => lift (D.seq1 xs)
end

/-! ### own lists -/
section
variable {K : PySem.W.Frag} {da : Da} {Hk H : Hp} {σ : L2.St} {env : SEnv} {δ : Dice}
/-- a new own list in slot i -/
theorem EnvS.newOw {i : Nat} {p : Addr} {vs : List V} {ds : List D} (h : EnvS K da Hk H σ env) (hp : H p = some (.lst vs)) (hk : Hk p = none) (hd : da.ad ≠ some p) (hn : ¬ Own σ env p) (r : RpL K da.ra Hk vs ds) : EnvS K da Hk H (σ.set i (some (.ref p))) (env.set i (.ow ds)) where
  len := by rw [List.length_set, List.length_set]; exact h.len
  dat := fun j x e => by
    by_cases hj : i = j
    · subst hj
      cases get_set_same e
    · rw [List.getElem?_set_ne hj] at e ⊢
      exact h.dat j x e
  own := fun j s e o => by
    by_cases hj : i = j
    · subst hj
      have hl := set_lt e
      cases get_set_same e
      exact ⟨p, List.getElem?_set_self (by rw [h.len]; exact hl), hk, hd, vs, hp, r⟩
    · rw [List.getElem?_set_ne hj] at e ⊢
      exact h.own j s e o
  apart := fun j k s t q e1 o1 e2 o2 q1 q2 => by
    by_cases hj : i = j
    · subst hj
      by_cases hk : i = k
      · exact hk
      · rw [List.getElem?_set_self (by rw [h.len]; exact set_lt e1)] at q1
        cases q1
        rw [List.getElem?_set_ne hk] at e2 q2
        exact absurd ⟨k, t, e2, o2, q2⟩ hn
    · rw [List.getElem?_set_ne hj] at e1 q1
      by_cases hk : i = k
      · subst hk
        rw [List.getElem?_set_self (by rw [h.len]; exact set_lt e2)] at q2
        cases q2
        exact absurd ⟨j, s, e1, o1, q1⟩ hn
      · rw [List.getElem?_set_ne hk] at e2 q2
        exact h.apart j k s t q e1 o1 e2 o2 q1 q2
theorem Own.of_new {i : Nat} {p q : Addr} {s : Sl} (h : Own (σ.set i (some (.ref p))) (env.set i s) q) : Own σ env q ∨ q = p := by
  obtain ⟨j, t, e, o, z⟩ := h
  by_cases hj : i = j
  · subst hj
    by_cases hl : i < σ.length
    · rw [List.getElem?_set_self hl] at z
      cases z
      exact .inr rfl
    · rw [List.set_eq_of_length_le (by omega)] at z
      rw [List.getElem?_eq_none (by omega)] at z
      cases z
  · rw [List.getElem?_set_ne hj] at e z
    exact .inl ⟨j, t, e, o, z⟩
/-- the own object of slot i changes -/
theorem EnvS.upd {i : Nat} {p : Addr} {s s' : Sl} {o' : HO} (h : EnvS K da Hk H σ env) (he : env[i]? = some s) (so : s.own = true) (h1 : σ[i]? = some (some (.ref p))) (so' : s'.own = true) (c : OwnAt K da Hk (L2.upd H p o') p s') : EnvS K da Hk (L2.upd H p o') σ (env.set i s') where
  len := by rw [List.length_set]; exact h.len
  dat := fun j x e => by
    by_cases hj : i = j
    · subst hj
      cases get_set_same e
      cases so'
    · rw [List.getElem?_set_ne hj] at e
      exact h.dat j x e
  own := fun j t e ow => by
    by_cases hj : i = j
    · subst hj
      cases get_set_same e
      obtain ⟨q, a1, a2, a3, _⟩ := h.own i s he so
      rw [h1] at a1
      cases a1
      exact ⟨p, h1, a2, a3, c⟩
    · rw [List.getElem?_set_ne hj] at e
      obtain ⟨q, a1, a2, a3, a4⟩ := h.own j t e ow
      have nq : q ≠ p := fun z => hj (h.apart i j s t p he so e ow h1 (by rw [a1, z]))
      refine ⟨q, a1, a2, a3, ?_⟩
      cases t with
      | ow ds => obtain ⟨vs, q, r⟩ := a4; exact ⟨vs, by rw [upd_ne nq]; exact q, r⟩
      | od ds => obtain ⟨vs, q, r⟩ := a4; exact ⟨vs, by rw [upd_ne nq]; exact q, r⟩
      | oo c ds => obtain ⟨vs, f, q, r⟩ := a4; exact ⟨vs, f, by rw [upd_ne nq]; exact q, r⟩
      | no => exact a4
      | dt d => exact a4
  apart := fun j k t u a e1 o1 e2 o2 q1 q2 => by
    have get : ∀ {j : Nat} {t : Sl}, (env.set i s')[j]? = some t → t.own = true → ∃ t', env[j]? = some t' ∧ t'.own = true := fun {j t} e o => by
      by_cases hj : i = j
      · subst hj; exact ⟨s, he, so⟩
      · rw [List.getElem?_set_ne hj] at e; exact ⟨t, e, o⟩
    obtain ⟨t', b1, b2⟩ := get e1 o1
    obtain ⟨u', c1, c2⟩ := get e2 o2
    exact h.apart j k t' u' a b1 b2 c1 c2 q1 q2
theorem Own.of_upd {i : Nat} {s s' : Sl} {q : Addr} (he : env[i]? = some s) (so : s.own = true) (h : Own σ (env.set i s') q) : Own σ env q := by
  obtain ⟨j, t, e, o, z⟩ := h
  by_cases hj : i = j
  · subst hj; exact ⟨i, s, he, so, z⟩
  · rw [List.getElem?_set_ne hj] at e; exact ⟨j, t, e, o, z⟩
theorem StpS.upd {O : Addr → Prop} {p : Addr} {o' : HO} (hO : O p) (ho : Mut o' := by first | exact Mut.lst _ | exact Mut.dK _ | exact Mut.ins _ _ _) : StpS da O Hk H Hk (L2.upd H p o') where
  kn := Evl.Ex.refl _
  fr := fun _ _ _ n => n
  ke := fun b o e _ _ n => by rw [upd_ne (fun z => n (by rw [z]; exact hO))]; exact e
  th := fun b hb => by
    by_cases z : b = p
    · subst z; exact ⟨_, upd_same, ho.ntb⟩
    · obtain ⟨u, e, n⟩ := hb
      exact ⟨u, by rw [upd_ne z]; exact e, n⟩
  tm := fun b hb => by
    by_cases z : b = p
    · subst z; exact ⟨_, upd_same, ho⟩
    · obtain ⟨u, e, n⟩ := hb
      exact ⟨u, by rw [upd_ne z]; exact e, n⟩
end
section
variable {X : Cx} {da : Da} {cm : Nat → Addr} {E : XK} {pos pos' : Pos} {e : Expr} {i : Nat} {x : Str}
/-- name = a list that no one else has -/
def asgN (i : Nat) (f : Env → M (List D)) : SEnv → M Fl := fun env => bind (f (vw env)) fun ds => ret (.next (env.set i (.ow ds)))
theorem asgN_of {f : Env → M (List D)} (D : Ends) (σ : L2.St) (H : Hp) (h : tSt X.K da cm E (asgN i f) D σ H) : tAsg (tNv X.K da cm (WE0 E) f) (gName i) D σ H := by
  obtain ⟨Hk, env, δ, hA, hE, q⟩ := h
  refine ⟨Hk, vw env, δ, hA, hE.vw, q.seq.mono fun ds δ' q2 p vs Hk' H' s a kp hp hp' r => ?_⟩
  have e2 := hE.step s
  have dp : da.ad ≠ some p := fun z => hp ⟨_, (hA.di _ z).2, fun _ z => nomatch z⟩
  have no : ¬ Own σ env p := fun z => hp (Own.there hE z).2.2.nt
  exact q2 _ Hk' H' s.s a (e2.newOw hp' kp dp no r) fun b hb => (Own.of_new hb).imp id fun z => by rw [z]; exact hp
theorem ss_setN {f : Env → M (List D)} (hN : X.N.Nodup) (hi : X.N[i]? = some x) (hx : Loc X.env.scope x) (he : PNv X da cm (WE0 E) e f) (hs : swapsWith e (some (.Name x pos')) pos.line X.env = pure false := by rfl)
    (hf : X.fn x = true ∨ X.env.scope.names.lookup x = some .local := by first | exact .inl rfl | exact .inr rfl | assumption) : PSv X da cm E (.Assign [.Name x pos'] e pos) (asgN i f) := PS.imp (ps_set hN hi hx he hs hf) asgN_of
/-- x.append(e) -/
def appS (i : Nat) (f : Env → M D) : SEnv → M Fl := fun env => match env[i]? with
  | some (.ow ds) => bind (f (vw env)) fun d => if ds.length < lim then ret (.next (env.set i (.ow (ds ++ [d])))) else bad
  | _ => bad
theorem ss_app {f : Env → M D} {p apos cpos : Pos} (hx : PE X (.Name x p) (tVar i)) (he : PEv X da cm (WE0 E) e f) (hs1 : starEach [e] X.env = [(false, eval e X.env)] := by rfl)
    (hbase : attributeBase (.Name x p) "append" X.env (eval (.Name x p) X.env) = eval (.Name x p) X.env := by rfl)
    (hfew : ((backTo cpos (starEach [e] X.env)).all (fun x => !x.1) && (backToKw cpos (keywordEach [] X.env)).all (fun x => x.1.isSome)
      && decide ([e].length + ([] : List Keyword).length + (if ([] : List Keyword).isEmpty then 0 else 1) < 30)) = true := by rfl)
    (hline : (apos.endLine == cpos.line) = true := by rfl) (hplain : (backTo cpos (starEach [] X.env)).any (·.1) = false := by rfl)
    (hs : swapsWith (.Call (.Attribute (.Name x p) "append" apos) [e] [] cpos) none pos.line X.env = pure false := by rfl) : PSv X da cm E (.Expr (.Call (.Attribute (.Name x p) "append" apos) [e] [] cpos) pos) (appS i f) :=
  PS.imp (ps_expr (pe_bm F.plainAttrs_list F.slot_list_append F.type_list_append mt_append hx (pa_cons he pa_nil hs1) hbase hfew hline hs1 hplain) hs) fun D σ H ⟨Hk, env, δ, hA, hE, q⟩ => by
    unfold appS at q
    cases he : env[i]? with
    | none => rw [he] at q; exact q.elim
    | some s =>
      rw [he] at q
      cases s with
      | no => exact q.elim
      | dt d => exact q.elim
      | od kvs => exact q.elim
      | oo c fs => exact q.elim
      | ow ds =>
        obtain ⟨p, h1, h2, h3, vs, h4, h5⟩ := hE.own i _ he rfl
        refine ⟨_, h1, Or.inl ⟨rfl, _, SqL.of h4⟩, ?_⟩
        refine tEv.st hA hE q fun v d δ1 Hk1 H1 s1 a1 e1 r1 q1 => ?_
        obtain ⟨p', h1', k2, _, vs', k4, k5⟩ := e1.own i _ he rfl
        rw [h1] at h1'
        cases h1'
        by_cases hl : ds.length < lim
        · rw [ifp hl] at q1
          refine ⟨p, vs', v, rfl, rfl, k4, by rw [k5.length, sizeLine_eq]; unfold lim at hl; omega, ?_⟩
          exact q1 σ Hk1 _ (StpS.upd ⟨i, _, he, rfl, h1⟩) (a1.mut k4 (.lst _) k2 h3) (e1.upd he rfl h1 rfl ⟨_, upd_same, k5.append (.cons r1 .nil)⟩) fun b hb => .inl (Own.of_upd he rfl hb)
        · rw [ifn hl] at q1; exact q1.elim
end
end Dv
set_option maxHeartbeats 4000000
namespace Dv
open PySem PySem.Spec PyProof.Rows L2

def mt1M (g : D → D → Option D) (fo fe : Env → M D) : Env → M D := fun env => bind (fo env) fun x => bind (lift (match x with | .str _ => some () | _ => none)) fun _ => bind (fe env) fun y => lift (g x y)
def Rm1 (K : PySem.W.Frag) (da : Da) (r : V → List V → Hp → VK → Prop) (g : D → D → Option D) : Prop :=
  ∀ (Hk H : Hp) (x y : V) (d e : D) (z : D) (Q : VK), Ex Hk H → Rp K da.ra Hk x d → Rp K da.ra Hk y e → g d e = some z → Gv K da Hk H z Q → r x [y] H Q
section
variable {X : Cx} {da : Da} {cm : Nat → Addr} {W : WX} {o e : Expr} {fo fe : Env → M D}
theorem tM1_of {r : V → List V → Hp → VK → Prop} {g : D → D → Option D} (hr : Rm1 X.K da r g) (σ : L2.St) (H : Hp) (Q : VK) (h : tEv X.K da cm W (mt1M g fo fe) σ H Q) : tM1 r (tEv X.K da cm W fo) (tEv X.K da cm W fe) σ H Q := by
  obtain ⟨Hk, env, δ, hA, hE, q⟩ := h
  refine tEv.seq hA hE q fun x d δ1 Hk1 H1 s1 a1 e1 r1 q1 => ?_
  cases d with
  | str z =>
    have q1 : Fin X.K da cm (Dv.bind (fe env) (fun y => Dv.lift (g (.str z) y)) δ1) Hk1 H1 _ _ := q1
    refine ⟨by cases r1; exact ⟨z, rfl⟩, tEv.seq a1 e1 q1 fun y e δ2 Hk2 H2 s2 a2 e2 r2 q2 => ?_⟩
    obtain ⟨w, hw, gw⟩ := Fin.lift a2 (s1.trans s2) q2
    exact hr Hk2 H2 x y _ e w Q a2.ex (r1.mono s2.kn) r2 hw gw
  | _ => exact q1.elim
/-- a list or tuple of texts -/
def strsD : List D → Option (List Str)
  | [] => some []
  | .str x :: r => match strsD r with
    | some ys => some (x :: ys)
    | none => none
  | _ :: _ => none
theorem RpL.strs {K : PySem.W.Frag} {ad : Ra} {H : Hp} : ∀ {vs : List V} {ds : List D} {ys : List Str}, RpL K ad H vs ds → strsD ds = some ys → vs = ys.map V.str
  | _, _, _, .nil, e => by simp only [strsD, Option.some.injEq] at e; subst e; rfl
  | _, _, ys, .cons (d := d) h t, e => by
    unfold strsD at e
    split at e
    · rename_i q; cases q
    · rename_i x r q
      cases q
      split at e
      · rename_i zs qs
        cases e
        cases h
        rw [RpL.strs t qs]
        rfl
      · cases e
    · cases e
def D.join : D → D → Option D
  | .str a, d => match d.seq? with
    | some xs => match strsD xs with
      | some ys => if (ys.map (·.length)).sum + ys.length * a.length ≤ 16000000 then some (.str (Txt.join a ys)) else none
      | none => none
    | none => none
  | _, _ => none
theorem ev_join {apos pos : Pos} (ho : PEv X da cm W o fo) (he : PEv X da cm W e fe) (hs : starEach [e] X.env = [(false, eval e X.env)] := by rfl) (hbase : attributeBase o "join" X.env (eval o X.env) = eval o X.env := by rfl) (hline : (apos.endLine == pos.line) = true := by rfl) :
    PEv X da cm W (.Call (.Attribute o "join" apos) [e] [] pos) (mt1M D.join fo fe) := PE.imp (pe_join ho he hs hbase hline) (tM1_of (by
  intro Hk H x y d e z Q ex rx ry hz g
  unfold D.join at hz
  split at hz
  · rename_i a d
    split at hz
    · rename_i xs hx
      split at hz
      · rename_i ys hy
        obtain ⟨hl, rfl⟩ := ite_some hz
        cases rx
        unfold D.seq? at hx
        split at hx
        · cases hx
          cases ry with
          | lst h r =>
            refine ⟨_, _, ys, rfl, rfl, .inl (SqL.of (ex _ _ ?_)), by omega, g.same ex (.str _)⟩
            rw [← r.strs hy]
            exact h
        · cases hx
          cases ry with
          | tup h r =>
            refine ⟨_, _, ys, rfl, rfl, .inr (Evl.ex_t ex ?_), by omega, g.same ex (.str _)⟩
            rw [← r.strs hy]
            exact h
        · cases hx
      · cases hz
    · cases hz
  · cases hz))
def D.split : D → D → Option D
  | .str a, .str b => if b.length = 0 ∨ lim < a.length then none else some (.lst ((Txt.split a b).map .str))
  | _, _ => none
end

/-! ### repr, str -/
def signsOk (x : Str) : Bool := x.cps.toList.all fun c => decide (c < 4294967296)
mutual
/-- at most that long when shown -/
def shW : PyData → Nat
  | .none => 4
  | .bool _ => 5
  | .int i => (PyData.shown (.int i)).length
  | .str x => 10 * x.length + 2
  | .list xs => shWs xs + 2
  | .tuple xs => shWs xs + 3
  | .dict _ => 0
def shWs : List PyData → Nat
  | [] => 0
  | x :: xs => shW x + 2 + shWs xs
end
mutual
def shOk : PyData → Bool
  | .none => true
  | .bool _ => true
  | .int i => decide (i.natAbs.log2 < 1920)
  | .str x => signsOk x
  | .list xs => shOks xs
  | .tuple xs => shOks xs
  | .dict _ => false
def shOks : List PyData → Bool
  | [] => true
  | x :: xs => shOk x && shOks xs
end
theorem str_app_len (a b : Str) : (a ++ b).length = a.length + b.length := by
  show (a.cps ++ b.cps).size = _
  rw [Array.size_append]
  rfl
def reprOk (p : PyData) : Bool := shOk p && decide (shW p ≤ 10000000) && decide (p.depth ≤ 60)
def D.repr : List D → Option D
  | [d] => match d.py with
    | some p => if reprOk p then some (.str p.shown) else none
    | none => none
  | _ => none
section
variable {X : Cx} {da : Da}
end
end Dv
set_option maxHeartbeats 4000000
namespace PySem
namespace SupX
open PySem.W PySem.Calls PyProof.Rows PySem.HandSPX
/-! ### __init__(self, p): super().__init__(msg); self.f = p -/
def iA (p : Str) (p1 p2 : Pos) : Arguments := { posonlyargs := [], args := [{ arg := "self", annotation := none, pos := p1 }, { arg := p, annotation := none, pos := p2 }], vararg := none, kwonlyargs := [], kw_defaults := [], kwarg := none, defaults := [] }
def iB (p f : Str) (msg : Expr) (q1 q2 q3 q4 q5 q6 q7 q8 q9 : Pos) : List Stmt :=
  [.Expr (.Call (.Attribute (.Call (.Name "super" q1) [] [] q2) "__init__" q3) [msg] [] q4) q5, .Assign [.Attribute (.Name "self" q6) f q7] (.Name p q8) q9]
/-- what the written part says of such a class at C, its __init__ at fI -/
structure SupTxt (prog : Program) (K : Frag) (mg : Str → Option Value) (C fI : Addr) (p f : Str) (msg : Expr) (scope : Scope) : Prop where
  cls : ∃ nm q N bs bm sn sub ab col dd k0 k1 k2 k3 k5, K.lookup C = some (excClassObj nm q C N bs bm true sn sub ab col dd k0 k1 k2 k3 k5 "ValueError.__new__") ∧ refsVE bm = true
  sa : findIn K (.ref C) "__setattr__" = some (some (.builtin "object.__setattr__"))
  noN : findIn K (.ref C) f = some none
  iC : findIn K (.ref C) "__init__" = some (some (.ref fI))
  tC : typeIn K (.ref fI) = some (.type "function")
  exC : subIn K (.ref C) (.type "BaseException") = some true
  veC : subIn K (.ref C) (.type "ValueError") = some true
  selfC : mroIn K C (.ref C) = some true
  opq : nsIn K cStatics "thirdparty.any" = some none
  sup : ks_superIn K C C "__init__" = some (some (.builtin "ValueError.__init__"))
  fn : ∃ (oc : Value) (od : Option Addr) (qual : Str) (doc pm : Value) (an : Option Addr) (cda cc : Addr) (ct : Value) (osl : Array (Option Value)) (p1 p2 q1 q2 q3 q4 q5 q6 q7 q8 q9 : Pos),
    K.lookup fI = some ⟨oc, od, .func (ksFn "__init__" qual (iA p p1 p2) (iB p f msg q1 q2 q3 q4 q5 q6 q7 q8 q9) scope .none .none doc pm an (.ref cda) ct cc), osl⟩ ∧ codeIn K (.ref cda) qual = true ∧
    (∀ env : Env, ∃ pl : Sem Bool, eval (.Call (.Attribute (.Call (.Name "super" q1) [] [] q2) "__init__" q3) [msg] [] q4) env = (do
      let ov ← attributeBase (.Call (.Name "super" q1) [] [] q2) "__init__" env (eval (.Call (.Name "super" q1) [] [] q2) env)
      standAt q3.atName
      let (g, first) ← holding [ov] (getMethod ov "__init__" pl)
      callWith q4 g first (backTo q4 (starEach [msg] env)) [])) ∧
    (∃ (cl : Value) (cld : Option Addr) (csl : Array (Option Value)), K.lookup cc = some ⟨cl, cld, .cell (some (.ref C)), csl⟩) ∧
    (∃ (ccl : Value) (cdd : Option Addr) (vs : Array Value) (ccs : Array (Option Value)) (file : Str) (tf : Tok), K.lookup cda = some ⟨ccl, cdd, .fields vs, ccs⟩ ∧ vs[2]? = some (.str file tf) ∧ ((prog.main.file : Str) == file) = true)
  bi : ∀ (qual : Str) (p1 p2 q1 q2 q3 q4 q5 q6 q7 q8 q9 : Pos) (doc pm : Value) (an : Option Addr) (cd ct : Value) (cc : Addr) (a v : Value), bindArgs (ksFn "__init__" qual (iA p p1 p2) (iB p f msg q1 q2 q3 q4 q5 q6 q7 q8 q9) scope .none .none doc pm an cd ct cc) ⟨[a, v], []⟩ = pure [(("self" : Str), a), (p, v)]
  hst : ∀ env : Env, starEach [msg] env = (false, eval msg env) :: starEach [] env
  sk : scope.kind = .function
  sco : scope.isCoroutine = false
  sge : scope.isGenerator = false
  sce : ∀ x ∈ scope.names, x.2 ≠ .cell
  ksu : scope.names.lookup ("super" : Str) = some .globalImplicit
  kcl : scope.names.lookup ("__class__" : Str) = some .free
  kse : scope.names.lookup ("self" : Str) = some .local
  kp : scope.names.lookup p = some .local
  nsu : nsIn K mainGlobals "super" = some none
  top : (prog.main.scope.names.lookup ("super" : Str)).isSome = false
  np : (p == ("self" : Str)) = false
  ndb : (p == ("__debug__" : Str)) = false
/-- the message's own step -/
def Msg (prog : Program) (w : World) (p : Str) (msg : Expr) (v : Value) (h0 : Heap) : Prop := ∀ (env : Env) (A : Around) (E : Value → Shared → Prop) (s : Shared) (m : Str → Option Value) (Q : Value → Shared → Prop), s.heap.Ns env.locals m → m p = some v → env.scope.kind = .function → env.kindOf p = some .local →
  A.guards = some [] → A.units + 100 < cLine → (∀ b o, h0.get? b = some o → s.heap.get? b = some o) →
  (∀ (x : Str) (t : Tok) (h' : Heap) (tk : Nat), (∀ b o, s.heap.get? b = some o → h'.get? b = some o) → Q (.str x t) { s with heap := h', toks := tk }) → wpAny (model prog w) A (eval msg env) Q E s
/-- what __init__ leaves of a fresh exception at x -/
structure InitEnd (h h' : Heap) (x C dx : Addr) (f : Str) (v : Value) : Prop where
  keep : ∀ b o, b ≠ x → h.get? b = some o → h'.get? b = some o
  obj : ∃ t1, h'.get? x = some { cls := .ref C, dict := some dx, data := .fields #[.ref t1, .none, .none, .none, .bool false, .none] }
  dbig : h.objs.size ≤ dx
  dne : dx ≠ x
  ns : h'.Ns1 dx (fun y => if y = f then some v else none)
section
variable {prog : Program} {w : World} {A : Around} {E : Value → Shared → Prop} {R : Result → Shared → Prop} {s : Shared} {K : Frag} {mg mb : Str → Option Value} {C fI : Addr} {p f : Str} {msg : Expr} {scope : Scope}
theorem ldL {M : Model} {env : Env} {m : Str → Option Value} {x : Str} {pos : Pos} {v : Value} {Q : Value → Shared → Prop} (hn : s.heap.Ns env.locals m) (hv : m x = some v) (h : Q v s)
    (hk : env.scope.kind = .function) (hl : env.kindOf x = some .local) (hd : (x == ("__debug__" : Str)) = false) : wpAny M A (eval (.Name x pos) env) Q E s := wpAny_Name (wpAny_loadName_local hk hl hn hv h) hd
theorem sup_init (T : SupTxt prog K mg C fI p f msg scope) {x t0 : Addr} {v : Value} (X : K.In s.heap) (hns : s.heap.Ns mainGlobals mg) (hb : s.heap.Ns builtinsNs mb) (hbb : ∀ x : Str, x ≠ "__name__" → mb x = bootBuiltins x)
    (hlim : s.heap.NoLimit) (hx : s.heap.get? x = some (excO C t0)) (hnx : K.lookup x = none) (hroom : A.depth < recursionLimit) (hg : A.guards = some []) (hu : A.units + 110 < cLine) (hm : Msg prog w p msg v s.heap)
    (hq : ∀ h' tk dx, InitEnd s.heap h' x C dx f v → R (.ok (.ret .none)) { s with heap := h', toks := tk }) :
    codeAny (model prog w) A (.call (.ref fI) ⟨[.ref x, v], []⟩) R s := by
  obtain ⟨oc, od, qual, doc, pm, an, cda, cc, ct, osl, p1, p2, q1, q2, q3, q4, q5, q6, q7, q8, q9, ho, hcd, hev, ⟨cl, cld, csl, hcell⟩, ccl, cdd, vs, ccs, file, tf, hcode, hvs, hfile⟩ := T.fn
  obtain ⟨nm, q, N, bs, bm, sn, sub, ab, col, dd, k0, k1, k2, k3, k5, hC, hbm⟩ := T.cls
  have hcl : clsIn K C = some { name := nm, bases := bs, mro := .ref C :: bm, ns := N, qualname := q, hasDict := true, slotNames := sn, subclasses := sub, abstract := ab, collection := col, hasDel := false } := by unfold clsIn; rw [hC] <;> rfl
  have hxC : x ≠ C := fun z => by rw [z, hC] at hnx; cases hnx
  refine ks_codeAny_call_defAt (binds := [("self", .ref x), (p, v)]) hroom (X _ _ ho) rfl hlim (codeRec_of X hcd) rfl (BindsTo.of_eq ?_) T.sce (fun y hy => ?_) (fun h₁ hn kk => ?_) T.sco T.sge T.sk
  · exact T.bi _ _ _ _ _ _ _ _ _ _ _ _ _ _ _ _ _ _ _ _
  · rcases List.mem_cons.mp hy with z | z
    · rw [z]; exact T.kse
    · rw [List.mem_singleton.mp z]; exact T.kp
  have hn' : h₁.Ns s.heap.objs.size (fun y => if y = p then some v else if y = "self" then some (.ref x) else none) := by
    have e : (fun y => List.lookup y ([((PySem.Str.ofString "self"), Value.ref x), (p, v)] : List (Str × Value)).reverse) = fun y => if y = p then some v else if y = "self" then some (.ref x) else none := by
      funext y
      simp only [List.reverse_cons, List.reverse_nil, List.nil_append, List.cons_append, List.lookup]
      by_cases h1 : y = p
      · rw [if_pos h1, beq_iff_eq.mpr h1]
      · rw [if_neg h1, beq_eq_false_iff_ne.mpr h1]
        by_cases h2 : y = PySem.Str.ofString "self"
        · rw [if_pos h2, beq_iff_eq.mpr h2]
        · rw [if_neg h2, beq_eq_false_iff_ne.mpr h2]
    rw [← e]
    exact hn
  generalize hmv : (fun y => if y = p then some v else if y = "self" then some (Value.ref x) else none) = mv at hn'
  have mp : mv p = some v := by rw [← hmv]; exact if_pos rfl
  have msf : mv "self" = some (.ref x) := by
    rw [← hmv]
    show (if ("self" : Str) = p then some v else if ("self" : Str) = "self" then some (Value.ref x) else none) = _
    have np : ¬ ("self" : Str) = p := fun z => by
      have := T.np
      rw [← z] at this
      simp at this
    rw [if_neg np, if_pos rfl]
  have xL : s.heap.objs.size ≠ x := Nat.ne_of_gt (Heap.lt_size hx)
  have lt1 : s.heap.objs.size < h₁.objs.size := hn'.lt
  -- super().__init__
  show wpAt _ _ (.func (iB p f msg q1 q2 q3 q4 q5 q6 q7 q8 q9) (ksEnv qual scope s.heap.objs.size fI (.ref cda) cc)) (execs (iB p f msg q1 q2 q3 q4 q5 q6 q7 q8 q9) (ksEnv qual scope s.heap.objs.size fI (.ref cda) cc)) _ _ _
  obtain ⟨pl, he⟩ := hev (ksEnv qual scope s.heap.objs.size fI (.ref cda) cc)
  refine ks_wpAt_execs_cons (ks_wpAt_Expr_any (ks_wpAt_MethodCall ?_ he) (hi := ?hi) (hs := ?hs))
  case hi =>
    unfold interactive
    show (scope.kind == .module && _) = false
    rw [T.sk]
    rfl
  case hs => rfl
  refine ks_wpAt_super_base (env := ksEnv qual scope s.heap.objs.size fI (.ref cda) cc) T.ksu T.kcl (by decide) rfl (kk _ _ (X _ _ ho)) rfl rfl rfl (kk _ _ (X _ _ hcode)) rfl hvs hfile T.top ?_
  refine ks_loadName_global T.sk T.ksu (loadGlobal_builtin (env := ksEnv qual scope s.heap.objs.size fI (.ref cda) cc) (hns.keeps kk) (mg_none_of X hns T.nsu) (hb.keeps kk) ((hbb _ (by decide +kernel)).trans rfl) ⟨rfl, ?_⟩)
  refine wpAny_loadName_free T.sk T.kcl rfl ⟨_, kk _ _ (X _ _ hcell), rfl⟩ ?_
  refine wpAny_loadName_local T.sk T.kse hn' msf ?_
  have hC1 := kk _ _ (X _ _ hC)
  have hx1 := kk _ _ hx
  refine ks_wpAny_isType_cls hC1 rfl ⟨rfl, ?_⟩
  refine ks_wpAny_call_super hC1 rfl hx1 rfl (fun c e => nomatch e) (looks_mroIn (X.keeps kk) T.selfC) (fun h₂ e₂ k₂ => ?_)
  have k2 : ∀ b o, s.heap.get? b = some o → h₂.get? b = some o := fun b o e => k₂ b o (kk b o e)
  have X2 : K.In h₂ := X.keeps k2
  have I2 : InstAt h₂ x (excO C t0) C none := ⟨k2 _ _ hx, rfl, rfl, trivial⟩
  refine kxs_getMethod kxs_ValueError e₂ (looks_opaque X2 T.opq) (l₀ := .ref C :: bm) (fun A Q E s k q => wpAny_bind ((looks_clsIn X2 hcl) A _ E s k (wpAny_pure q))) rfl X2 ?_ (I2.type.andThen (looks_subIn X2 T.veC)) hxC (by decide) ?_
  · have z := T.sup
    unfold ks_superIn at z
    rw [hcl] at z
    exact z
  rw [T.hst]
  have hu2 : (h₂.push (kxs_mw "ValueError.__init__" x)).get? h₂.objs.size = some (kxs_mw "ValueError.__init__" x) := Heap.get?_push_at rfl rfl
  have k3 : ∀ b o, h₂.get? b = some o → (h₂.push (kxs_mw "ValueError.__init__" x)).get? b = some o := fun b o e => Heap.get?_push_of_some _ e
  generalize h₂.push (kxs_mw "ValueError.__init__" x) = h3 at hu2 k3
  have n3 : h3.Ns s.heap.objs.size mv := (hn'.keeps k₂).keeps k3
  refine kxs_callWith (i := "ValueError.__init__") (x := x) rfl (evalArgs_plain (Calls.spliced_cons ?_))
  refine hm (ksEnv qual scope s.heap.objs.size fI (.ref cda) cc) _ _ _ mv _ n3 mp T.sk T.kp hg (by show A.units + 3 + 100 < cLine; omega) (fun b o e => k3 b o (k2 b o e)) fun y ty h4 tk4 k4 => ?_
  have hu4 := k4 _ _ hu2
  have e4 : ∀ b o, s.heap.get? b = some o → h4.get? b = some o := fun b o e => k4 b o (k3 b o (k2 b o e))
  have n4 : h4.Ns s.heap.objs.size mv := n3.keeps k4
  refine Calls.spliced_nil ⟨hu4, wpAny_call (codeAny_of_tree ?_)⟩
  show wpAny _ _ (callAny (.ref h₂.objs.size) ⟨[.str y ty], []⟩) _ _ _
  unfold callAny
  refine wpAny_bind (wpAny_load hu4 ?_)
  dsimp only [kxs_mw]
  refine KFB.if_so (by decide) (wpAny_bind (check_bound_init F.excBase_ValueError.toExcCallFacts (e4 _ _ (X _ _ hC)) (e4 _ _ hx) rfl (wpAny_bind (wpAny_pure (wpAny_pure ?_)))))
  refine ⟨plainId_quiet F.excBase_ValueError.init.plain _, codeAny_builtin F.excBase_ValueError.initEntry ?_⟩
  refine exc_init_tree (cls := .ref C) (t0 := t0) (dv := none) (c2 := .none) (c3 := .none) (b4 := .bool false) (e4 _ _ hx) (by show 1 ≤ sizeLine; rw [sizeLine_eq]; omega) fun h5 k5 hx5 ht5 => ?_
  have n5 : h5.Ns s.heap.objs.size mv := n4.at fun o e => k5 _ _ xL e
  have b5 : ∀ b o, b ≠ x → s.heap.get? b = some o → h5.get? b = some o := fun b o hb e => k5 b o hb (e4 b o e)
  have X5 : K.In h5 := fun a o e => b5 a o (fun z => by rw [z, hnx] at e; cases e) (X a o e)
  refine ks_wpAt_execs_cons (ks_wpAt_Assign_Attr ?_)
  refine wpAt_of_wpAny (ldL (v := v) n5 mp ?_ T.sk T.kp T.ndb)
  refine ldL (v := .ref x) n5 msf ?_ T.sk T.kse (by decide)
  refine set_plain X5 (ox := excO C h4.objs.size) (od := none) ⟨hx5, rfl, rfl, trivial⟩ T.sa ?_
  refine exc_osa X5 hx5 hcl (show refsVE (.ref C :: bm) = true from hbm) rfl T.noN (fun h6 tk6 dx k6 dn dne hx6 hn6 => ?_)
  refine wpAt_of_wpAny (wpAny_execs_nil (hq h6 tk6 dx ⟨fun b o hb e => k6 b o hb (b5 b o hb e), ⟨_, hx6⟩, ?_, dne, hn6⟩))
  exact Nat.le_trans (Nat.le_of_lt n5.lt) dn
/-- what a call of the class leaves -/
structure Made (h h' : Heap) (e C d : Addr) (f : Str) (v : Value) : Prop where
  keep : ∀ b o, h.get? b = some o → h'.get? b = some o
  new : h.objs.size ≤ e
  obj : ∃ oe vs, h'.get? e = some oe ∧ oe.cls = .ref C ∧ oe.dict = some d ∧ oe.data = .fields vs ∧ vs[1]? = some .none
  dbig : h.objs.size ≤ d
  dne : d ≠ e
  ns : h'.Ns1 d (fun y => if y = f then some v else none)
theorem under_guards {A : Around} {C : Addr} {us : List Value} {kw : List (Str × Value)} : (A.under (.builtin "type.__call__" ⟨.ref C :: us, kw⟩)).guards = A.guards := by
  first | rfl | simp [Around.under, Code.weight, Code.isCreation, Code.isGuard, Code.isCaller, Code.frames, Code.isFrame, guardIds]
end
/-! ### messages -/
section
variable {prog : Program} {w : World} {p : Str} {h0 : Heap}
/-- f'a{p}b' of a value whose plain form is known -/
theorem msg_fmt {a b : Str} {v : Value} {ja jb : Nat} {p1 p2 p3 p4 p5 : Pos} {c : Int} (hc : c = -1) (ha : a.length ≤ 1000) (hb : b.length ≤ 1000) (hd : (p == ("__debug__" : Str)) = false)
    (hf : ∀ (A : Around) (E : Value → Shared → Prop) (s : Shared) (Q : Value → Shared → Prop), A.guards = some [] → A.units + 100 < cLine → (∀ b o, h0.get? b = some o → s.heap.get? b = some o) →
      (∀ (x : Str) (t : Tok) (h' : Heap) (tk : Nat), x.length ≤ 10000000 → (∀ b o, s.heap.get? b = some o → h'.get? b = some o) → Q (.str x t) { s with heap := h', toks := tk }) → wpAny (model prog w) A (formatField v Str.empty) Q E s) :
    Msg prog w p (.JoinedStr [.Constant (.str a) ja p1, .FormattedValue (.Name p p2) c none p3, .Constant (.str b) jb p4] p5) v h0 := by
  intro env A E s m Q hn hv hk hl hg hu k hq
  subst hc
  refine JoinedStr_many (joinParts_cons (Calls.Constant_str ⟨?_, joinParts_cons (FormattedValue_plain (ldL hn hv ?_ hk hl hd))⟩))
  · rw [Dv.str_app_len, sizeLine_eq]
    show 0 + _ ≤ _
    omega
  refine hf A _ _ _ hg hu k fun x t h' tk hx k' => ⟨?_, joinParts_cons (Calls.Constant_str ⟨?_, joinParts_nil ?_ ?_⟩)⟩
  · rw [Dv.str_app_len, Dv.str_app_len, sizeLine_eq]
    show 0 + _ + _ ≤ _
    omega
  · rw [Dv.str_app_len, Dv.str_app_len, Dv.str_app_len, sizeLine_eq]
    show 0 + _ + _ + _ ≤ _
    omega
  · exact hq _ _ h' _ k'
  · rw [Dv.str_app_len, Dv.str_app_len, Dv.str_app_len, sizeLine_eq]
    show 0 + _ + _ + _ ≤ _
    omega
end
end SupX
end PySem
set_option maxHeartbeats 4000000
namespace Dv
open PySem PySem.Spec PyProof.Rows L2
/-- {v} gives some text -/
def Fmts (prog : Program) (w : World) (v : Value) (h0 : Heap) : Prop := ∀ (A : Around) (E : Value → Shared → Prop) (s : Shared) (Q : Value → Shared → Prop), A.guards = some [] → A.units + 100 < cLine → (∀ b o, h0.get? b = some o → s.heap.get? b = some o) →
      (∀ (x : Str) (t : Tok) (h' : Heap) (tk : Nat), x.length ≤ 10000000 → (∀ b o, s.heap.get? b = some o → h'.get? b = some o) → Q (.str x t) { s with heap := h', toks := tk }) → wpAny (model prog w) A (formatField v Str.empty) Q E s
end Dv
namespace L2
open PySem PySem.Spec PyProof.Rows
theorem relO_f {f : Str} {v : V} {v' : Value} (r : RelV v v') (y : Str) : RelO (List.lookup y [(f, v)]) (if y = f then some v' else none) := by
  by_cases hw : y = f
  · subst hw
    have q : List.lookup y [(y, v)] = some v := by simp [List.lookup]
    rw [if_pos rfl, q]
    exact r
  · have qw : (y == f) = false := by simpa using hw
    have q2 : List.lookup y [(f, v)] = none := by simp [List.lookup, qw]
    rw [if_neg hw, q2]
    trivial
section
variable {X : Cx} {C fI : Addr} {p f : Str} {msg : Expr} {scope : Scope}
end
end L2
set_option maxHeartbeats 4000000
namespace Dv
open PySem PySem.Spec PyProof.Rows L2
/-! ### raise -/
def excM {α : Type} (c : Nat) (fs : List (Str × D)) : M α := fun δ => .exc c fs δ
/-- raise c(f): no field -/
def raiS (c : Nat) (f : Env → M D) : SEnv → M Fl := fun env => bind (f (vw env)) fun _ => excM c []
section
variable {X : Cx} {da : Da} {cm : Nat → Addr} {E : XK} {pos pos2 p0 : Pos} {e : Expr} {f : Env → M D} {C : Addr} {x : Str} {c : Nat}
end
end Dv
set_option maxHeartbeats 4000000
namespace L2
open PySem PySem.Spec PyProof.Rows
/-- the clauses: the class, the slot of the name behind «as», the suite -/
abbrev ClM := Value × Option Nat × (Addr → Value → Option Addr → TS)
abbrev SuiteM (X : Cx) (st : List Stmt) (ts : Addr → Value → Option Addr → TS) : Prop := ∀ (ea : Addr) (oe : Obj) (cls : Value) (d : Option Addr) (pn : List (Addr × Obj)), Zc cls d oe → (∃ vs, oe.data = .fields vs) → PSs (X.suite ea ((ea, oe) :: pn)) st (ts ea cls d)
inductive HdsMx (X : Cx) : List ExceptHandler → List ClM → Prop
  | nil : HdsMx X [] []
  | no {x : Str} {c : Value} {ts : Addr → Value → Option Addr → TS} {b0 : Stmt} {su : List Stmt} {np p1 : Pos} {hds : List ExceptHandler} {l : List ClM} (hc : Names X x c) (hsu : SuiteM X (b0 :: su) ts) (r : HdsMx X hds l) :
      HdsMx X (.ExceptHandler (some (.Name x np)) none (b0 :: su) p1 :: hds) ((c, none, ts) :: l)
  | as {x n : Str} {i : Nat} {c : Value} {ts : Addr → Value → Option Addr → TS} {b0 : Stmt} {su : List Stmt} {np p1 : Pos} {hds : List ExceptHandler} {l : List ClM} (hN : X.N.Nodup) (hi : X.N[i]? = some n) (hln : X.env.kindOf n = some .local) (hc : Names X x c) (hsu : SuiteM X (b0 :: su) ts) (r : HdsMx X hds l) :
      HdsMx X (.ExceptHandler (some (.Name x np)) (some n) (b0 :: su) p1 :: hds) ((c, some i, ts) :: l)
section
variable {X : Cx}
variable {body : List Stmt} {c0 : ExceptHandler} {hds : List ExceptHandler} {l : List ClM} {pos : Pos} {tb : WX → TS} {Wo : WX}
end
end L2
set_option maxHeartbeats 4000000
namespace Dv
open PySem PySem.Spec PyProof.Rows L2
/-! ### expressions that read the caught exception -/
abbrev Fs := List (Str × D)
/-- slot i holds the exception at ea; its own dict dd; f may look at its fields -/
def tHv (K : PySem.W.Frag) (da : Da) (cm : Nat → Addr) (i : Nat) (ea : Addr) (c : Nat) (cls : Value) (dd : Option Addr) (f : Fs → Env → M D) : TE := fun σ H Q => ∃ Hk env δ fs, At da Hk H δ ∧ EnvR K da Hk σ env ∧ σ[i]? = some (some (.ref ea)) ∧ cls = .ref (cm c) ∧ Xr K da.ra Hk dd fs ∧
  Fin K da cm (f fs env δ) Hk H (fun d δ' => ∀ v Hk' H', Stp da Hk H Hk' H' → At da Hk' H' δ' → Rp K da.ra Hk' v d → Q v H') (fun _ _ _ => False)
def tHa (K : PySem.W.Frag) (da : Da) (cm : Nat → Addr) (i : Nat) (ea : Addr) (c : Nat) (cls : Value) (dd : Option Addr) (f : Fs → Env → M (List D)) : TA := fun σ H Q => ∃ Hk env δ fs, At da Hk H δ ∧ EnvR K da Hk σ env ∧ σ[i]? = some (some (.ref ea)) ∧ cls = .ref (cm c) ∧ Xr K da.ra Hk dd fs ∧
  Fin K da cm (f fs env δ) Hk H (fun d δ' => ∀ v Hk' H', Stp da Hk H Hk' H' → At da Hk' H' δ' → RpL K da.ra Hk' v d → Q v H') (fun _ _ _ => False)
theorem Xr.mono {K : PySem.W.Frag} {ad : Ra} {Hk Hk' : Hp} {dd : Option Addr} {fs : Fs} (h : Xr K ad Hk dd fs) (e : Ex Hk Hk') : Xr K ad Hk' dd fs := by
  cases fs with
  | nil => trivial
  | cons f fs =>
    obtain ⟨a, ws, h1, h2, h3, h4⟩ := h
    exact ⟨a, ws, h1, e _ _ h2, h3, h4.mono e⟩
section
variable {K : PySem.W.Frag} {da : Da} {cm : Nat → Addr} {i : Nat} {ea : Addr} {c : Nat} {cls : Value} {dd : Option Addr}
theorem tHv.seq {σ : L2.St} {H Hk : Hp} {env : Env} {δ : Dice} {fs : Fs} {f : Fs → Env → M D} {β : Type} {g : D → M β} {k : β → Dice → Prop} (hA : At da Hk H δ) (hE : EnvR K da Hk σ env) (hs : σ[i]? = some (some (.ref ea))) (hc : cls = .ref (cm c)) (hx : Xr K da.ra Hk dd fs)
    (h : Fin K da cm (Dv.bind (f fs env) g δ) Hk H k (fun _ _ _ => False)) {Q : VK}
    (hq : ∀ v d δ' Hk' H', Stp da Hk H Hk' H' → At da Hk' H' δ' → EnvR K da Hk' σ env → Xr K da.ra Hk' dd fs → Rp K da.ra Hk' v d → Fin K da cm (g d δ') Hk' H' k (fun _ _ _ => False) → Q v H') : tHv K da cm i ea c cls dd f σ H Q :=
  ⟨Hk, env, δ, fs, hA, hE, hs, hc, hx, h.bind.mono fun d δ' hg v Hk' H' s a r => hq v d δ' Hk' H' s a (hE.mono s.kn) (hx.mono s.kn) r (hg.later s fun _ _ z => z)⟩
theorem tHa.seq {σ : L2.St} {H Hk : Hp} {env : Env} {δ : Dice} {fs : Fs} {f : Fs → Env → M (List D)} {β : Type} {g : List D → M β} {k : β → Dice → Prop} (hA : At da Hk H δ) (hE : EnvR K da Hk σ env) (hs : σ[i]? = some (some (.ref ea))) (hc : cls = .ref (cm c)) (hx : Xr K da.ra Hk dd fs)
    (h : Fin K da cm (Dv.bind (f fs env) g δ) Hk H k (fun _ _ _ => False)) {Q : List V → Hp → Prop}
    (hq : ∀ v d δ' Hk' H', Stp da Hk H Hk' H' → At da Hk' H' δ' → EnvR K da Hk' σ env → Xr K da.ra Hk' dd fs → RpL K da.ra Hk' v d → Fin K da cm (g d δ') Hk' H' k (fun _ _ _ => False) → Q v H') : tHa K da cm i ea c cls dd f σ H Q :=
  ⟨Hk, env, δ, fs, hA, hE, hs, hc, hx, h.bind.mono fun d δ' hg v Hk' H' s a r => hq v d δ' Hk' H' s a (hE.mono s.kn) (hx.mono s.kn) r (hg.later s fun _ _ z => z)⟩
end
section
variable {X : Cx} {da : Da} {cm : Nat → Addr} {i : Nat} {ea : Addr} {c : Nat} {cls : Value} {dd : Option Addr} {pos p : Pos} {a b e : Expr} {es : List Expr} {fa fb : Fs → Env → M D} {fs : Fs → Env → M (List D)}
end
/-- what the written part says of the fields of the errors of a class -/
structure FldTxt (K : PySem.W.Frag) (C : Addr) (f : Str) : Prop where
  ga : PySem.W.findIn K (.ref C) "__getattribute__" = some (some (.builtin "BaseException.__getattribute__"))
  gg : PySem.W.findIn K (.ref C) "__getattr__" = some none
  noN : PySem.W.findIn K (.ref C) f = some none
  exC : PySem.W.subIn K (.ref C) (.type "BaseException") = some true
  hd : PySem.W.hasDictIn K C = true
section
variable {X : Cx} {da : Da} {cm : Nat → Addr} {i : Nat} {ea : Addr} {c : Nat} {cls : Value} {dd : Option Addr} {pos p : Pos} {oe : Obj} {pn : List (Addr × Obj)} {n f : Str}
end
end Dv
set_option maxHeartbeats 4000000
namespace Dv
open PySem PySem.Spec PyProof.Rows L2
/-! ### try: one expression; clauses -/
abbrev Mt := Nat → Nat → Option Bool
abbrev EF : XK := fun _ _ _ => False
/-- a suite that returns what is made of the exception -/
def asC (i : Nat) (F : Fs → Env → M D) : Fs → SEnv → M Fl := fun fs env => if i < env.length then bind (F fs (vw (env.set i .no))) fun d => ret (.ret d) else bad
inductive ClR (K : PySem.W.Frag) (da : Da) (cm : Nat → Addr) (mt : Mt) : List ClM → List (Nat × (Fs → SEnv → M Fl)) → Prop
  | nil : ClR K da cm mt [] []
  | no {k : Nat} {F : SEnv → M Fl} {l : List ClM} {m : List (Nat × (Fs → SEnv → M Fl))} (r : ClR K da cm mt l m) : ClR K da cm mt ((.ref (cm k), none, fun _ _ _ => tSt K da cm EF F) :: l) ((k, fun _ => F) :: m)
  | as {k : Nat} {i : Nat} {F : Fs → Env → M D} {l : List ClM} {m : List (Nat × (Fs → SEnv → M Fl))} (h : ∀ c, mt c k = some true → c = k) (r : ClR K da cm mt l m) :
      ClR K da cm mt ((.ref (cm k), some i, fun ea cls d => tRet (tHv K da cm i ea k cls d F)) :: l) ((k, asC i F) :: m)
section
variable {K : PySem.W.Frag} {da : Da} {cm : Nat → Addr} {mt : Mt} {E : XK} {σ : L2.St} {H Hk : Hp} {env : SEnv} {δ : Dice} {D : Ends}
theorem FinS.nx {m : M Fl} {E' : XK} (h : FinS K da cm (Dv.nx m δ) Hk H σ env D E) : FinS K da cm (m δ) Hk H σ env D E' := by
  unfold Dv.nx at h
  cases e : m δ with
  | ok a δ' => rw [e] at h; cases a <;> exact h
  | exc c fs δ' => rw [e] at h; exact h.elim
  | bad => rw [e] at h; exact h.elim
end
section
variable {X : Cx} {da : Da} {cm : Nat → Addr} {mt : Mt} {E : XK} {pos p2 : Pos} {e : Expr} {c0 : ExceptHandler} {hds : List ExceptHandler} {l : List ClM} {m : List (Nat × (Fs → SEnv → M Fl))} {f : Env → M D}
end
end Dv
set_option maxHeartbeats 4000000
namespace Dv
open PySem PySem.Spec PyProof.Rows L2 LamX
/-! ### a lambda handed to a def; its exceptions may be wished for at the slots of the call -/
section
variable {X : Cx} {pins : List (Addr × Obj)} {σ : L2.St} {H : Hp} {s : Shared}
end
section
variable {X : Cx}
end
end Dv
set_option maxHeartbeats 4000000
namespace Dv
open PySem PySem.Spec PyProof.Rows L2 LamX
def lamM (S : M D → M D) (f : Env → M D) : Env → M D := fun env => nx (S (f env))
section
variable {X : Cx} {da : Da} {cm : Nat → Addr} {W : WX}
end
def Da.more (da : Da) (c' : Addr) (q : Str) (G0 : Hp) : Da := ⟨da.ra, da.tb, fun G => da.kn G ∧ G c' = some (CodeO c' q) ∧ Ex G0 G, fun H H' e h => ⟨da.km H H' e h.1, e _ _ h.2.1, h.2.2.trans e⟩, da.sf⟩
section
variable {da : Da} {c' : Addr} {q : Str} {G0 Hk H Hk' H' : Hp} {δ : Dice}
theorem Stp.more (s : Stp da Hk H Hk' H') : Stp (da.more c' q G0) Hk H Hk' H' := ⟨s.kn, s.fr, s.ke, s.th, s.tm⟩
theorem At.up {Hk2 : Hp} (a : At da Hk' H' δ) (k : (da.more c' q G0).kn Hk2) (e : Ex Hk2 Hk') : At (da.more c' q G0) Hk' H' δ := ⟨a.ex, a.di, a.tb, (da.more c' q G0).km _ _ e k, a.nt⟩
end
section
variable {X : Cx} {da : Da} {cm : Nat → Addr}
end
end Dv
set_option maxHeartbeats 4000000
namespace Dv
open PySem PySem.Spec PyProof.Rows L2

/-! ### great powers -/
def D.powB : D → D → Option D
  | .int i, .int j => if 2 ≤ i ∧ 1 ≤ j ∧ ((Builtin.Int.intBits i : Nat) : Int) * j ≤ 100000 then some (.int (i ^ j.toNat)) else none
  | _, _ => none
section
variable {X : Cx} {da : Da}
theorem op_powB : OpR X (binaryOp .Pow) (fun x y H Q => ∃ i j, x = .int i ∧ y = .int j ∧ 2 ≤ i ∧ 1 ≤ j ∧ ((Builtin.Int.intBits i : Nat) : Int) * j ≤ 100000 ∧ Q (.int (i ^ j.toNat)) H) := by
  intro pins s σ H x y v u Q I rx ry h
  obtain ⟨i, j, rfl, rfl, h1, h2, h3, q⟩ := h
  obtain ⟨t, rfl⟩ := rx
  obtain ⟨t', rfl⟩ := ry
  have a1 : ¬ i = 0 := by omega
  have a2 : ¬ i = 1 := by omega
  have a3 : ¬ i = -1 := by omega
  have a4 : ¬ j = 0 := by omega
  refine PySem.AutoIntOps.pow_4 (by omega) (by simp [a4]) (by simp [a1, a2]) (by simp [a3]) ?_ ⟨.int _, H, I.tok _, ⟨_, rfl⟩, q⟩
  unfold Builtin.Int.intTooBig
  have : (100000 : Int) ≤ PySem.bitsLine := by decide
  simp only [decide_eq_true_eq, gt_iff_lt]
  omega
theorem od_powB : OpD X da (binaryOp .Pow) D.powB := ⟨_, op_powB, by
  intro Hk H x y d e z Q ex rx ry hz g
  unfold D.powB at hz
  split at hz
  · cases rx; cases ry
    obtain ⟨⟨h1, h2, h3⟩, rfl⟩ := ite_some hz
    exact ⟨_, _, rfl, rfl, h1, h2, h3, g.same ex (.int _)⟩
  · cases hz⟩
/-! ### ints -/
def D.neg : D → Option D
  | .int i => some (.int (-i))
  | _ => none
def D.abs : List D → Option D
  | [.int i] => some (.int (if i < 0 then -i else i))
  | _ => none
theorem cd_abs : CalD X da (.builtin "abs") D.abs := ⟨_, call_abs, by
  intro Hk H xs ds z Q ex r hz g
  unfold D.abs at hz
  split at hz
  · obtain ⟨v, rfl, rv⟩ := r.one
    cases rv; cases hz
    exact ⟨_, rfl, g.same ex (.int _)⟩
  · cases hz⟩
def D.toInt : List D → Option D
  | [.int i] => some (.int i)
  | [.bl b] => some (.int (if b then 1 else 0))
  | _ => none
theorem cd_int : CalD X da (.type "int") D.toInt := ⟨_, call_int1, by
  intro Hk H xs ds z Q ex r hz g
  unfold D.toInt at hz
  split at hz
  · obtain ⟨v, rfl, rv⟩ := r.one
    cases rv; cases hz
    exact .inl ⟨_, rfl, g.same ex (.int _)⟩
  · obtain ⟨v, rfl, rv⟩ := r.one
    cases rv; cases hz
    exact .inr ⟨_, rfl, g.same ex (.int _)⟩
  · cases hz⟩
def D.max2 : List D → Option D
  | [.int i, .int j] => some (.int (if j > i then j else i))
  | _ => none
theorem cd_max2 (hc : X.calm = true) : CalD X da (.builtin "max") D.max2 := ⟨_, call_max2 hc, by
  intro Hk H xs ds z Q ex r hz g
  unfold D.max2 at hz
  split at hz
  · obtain ⟨v, u, rfl, rv, ru⟩ := r.two
    cases rv; cases ru; cases hz
    exact ⟨_, _, rfl, g.same ex (.int _)⟩
  · cases hz⟩
def D.min2 : List D → Option D
  | [.int i, .int j] => some (.int (if j < i then j else i))
  | _ => none
theorem cd_min2 (hc : X.calm = true) : CalD X da (.builtin "min") D.min2 := ⟨_, call_min2 hc, by
  intro Hk H xs ds z Q ex r hz g
  unfold D.min2 at hz
  split at hz
  · obtain ⟨v, u, rfl, rv, ru⟩ := r.two
    cases rv; cases ru; cases hz
    exact ⟨_, _, rfl, g.same ex (.int _)⟩
  · cases hz⟩
end
section
variable {X : Cx} {da : Da} {cm : Nat → Addr} {W : WX} {E : XK} {pos : Pos} {a b e : Expr} {fa fb fe : Env → M D} {x : Str}
def un1M (g : D → Option D) (fa : Env → M D) : Env → M D := fun env => bind (fa env) fun x => lift (g x)
theorem ev_neg (ha : PEv X da cm W a fa) : PEv X da cm W (.UnaryOp .USub a pos) (un1M D.neg fa) := PE.imp (pe_un un_neg ha) fun σ H Q ⟨Hk, env, δ, hA, hE, q⟩ => by
  refine tEv.seq hA hE q fun x d δ1 Hk1 H1 s1 a1 e1 r1 q1 => ?_
  obtain ⟨z, hz, gz⟩ := Fin.lift a1 s1 q1
  cases d with
  | int i => cases r1; cases hz; exact ⟨_, rfl, gz.same a1.ex (.int _)⟩
  | _ => cases hz
/-- a module's constant -/
theorem ev_gc {u : Value} {v : V} {d : D} (hg : Gl X x) (hm : X.mg x = some u) (r : RelV v u) (rp : ∀ Hk, Rp X.K da.ra Hk v d) (hd : (x == ("__debug__" : Str)) = false := by decide) : PEv X da cm W (.Name x pos) (kc d) := ev_c (pe_glob hg hm r hd) rp
/-- a built-in class by its name -/
theorem ev_bty {T : String} (hg : Gl X x) (hm : X.mg x = none) (hv : bootBuiltins x = some (.type T)) (hn : x ≠ "__name__" := by decide) (hd : (x == ("__debug__" : Str)) = false := by decide) : PEv X da cm W (.Name x pos) (kc (.ty T)) := ev_c (pe_bltn (v := .ty T) hg hm hv rfl hn hd) fun _ => .ty T
/-! ### a, b = .. -/
def asgT (t : Tg) (f : Env → M D) : SEnv → M Fl := fun env => bind (f (vw env)) fun d => bind (lift (t.l d)) fun m => ret (.next (putS env m))
/-! ### the dice -/
def Dice.at (δ : Dice) : Nat → Int
  | 0 => δ.1
  | 1 => δ.2.1
  | _ => δ.2.2
def dixM (k : Nat) (fa : Env → M D) : Env → M D := fun env => bind (fa env) fun x => match x with
  | .dice => fun δ => .ok (.int (δ.at k)) δ
  | _ => bad
theorem ev_dix {j : Nat} {p : Pos} (k : Nat) (hk : k < 3) (ha : PEv X da cm W a fa) (hs : PlainIx (.Constant (.int (k : Int)) j p)) : PEv X da cm W (.Subscript a (.Constant (.int (k : Int)) j p) pos) (dixM k fa) := PE.imp (pe_ix (X := X) ix_list ha pe_int hs) fun σ H Q ⟨Hk, env, δ, hA, hE, q⟩ => by
  refine tEv.seq hA hE q fun x d δ1 Hk1 H1 s1 a1 e1 r1 q1 => ?_
  cases d with
  | dice =>
    cases r1 with
    | dice h =>
      have q1 : ∀ v Hk' H', _ → _ → _ → Q v H' := q1
      have hl := (a1.di _ h).2
      refine ⟨_, _, _, .int (δ1.at k), rfl, rfl, SqL.of hl, ?_, q1 _ Hk1 H1 s1 a1 (.int _)⟩
      have : k = 0 ∨ k = 1 ∨ k = 2 := by omega
      rcases this with rfl | rfl | rfl <;> rfl
  | _ => exact q1.elim
def Dice.set (δ : Dice) (k : Nat) (i : Int) : Dice := match k with
  | 0 => (i, δ.2.1, δ.2.2)
  | 1 => (δ.1, i, δ.2.2)
  | _ => (δ.1, δ.2.1, i)
def diceS (k : Nat) (fa fe : Env → M D) : SEnv → M Fl := fun env => bind (fe (vw env)) fun v => bind (fa (vw env)) fun x => match x, v with
  | .dice, .int i => fun δ => .ok (.next env) (δ.set k i)
  | _, _ => bad
theorem ss_dice {j : Nat} {p p2 : Pos} (k : Nat) (hk : k < 3) (he : PEv X da cm (WE0 E) e fe) (ha : PEv X da cm (WE0 E) a fa) (hset : ∀ v, assign (.Subscript a (.Constant (.int (k : Int)) j p) p2) X.env v = (do
      let ov ← holding [v] (eval a X.env)
      let iv ← holding [v, ov] (eval (.Constant (.int (k : Int)) j p) X.env)
      standAt p2
      holding [v, ov, iv] (setItem ov iv v)
      release [v, ov, iv] []) := by intro _; rfl)
    (hs : swapsWithSole [.Subscript a (.Constant (.int (k : Int)) j p) p2] e pos.line X.env = pure false := by rfl) (hw : swappedStores [.Subscript a (.Constant (.int (k : Int)) j p) p2] e X.env = pure none := by rfl)
    (h1 : (assignEach [.Subscript a (.Constant (.int (k : Int)) j p) p2] X.env).map (·.2) = [assign (.Subscript a (.Constant (.int (k : Int)) j p) p2) X.env] := by rfl) : PSv X da cm E (.Assign [.Subscript a (.Constant (.int (k : Int)) j p) p2] e pos) (diceS k fa fe) :=
  PS.imp (ps_asg he (pg_sub ha pe_int set_list hset) hs hw h1) fun D σ H ⟨Hk, env, δ, hA, hE, q⟩ => by
    refine tEv.st hA hE q fun v d δ1 Hk1 H1 s1 a1 e1 r1 q1 => ?_
    refine tEv.st a1 e1 q1 fun x y δ2 Hk2 H2 s2 a2 e2 r2 q2 => ?_
    cases y with
    | dice =>
      cases d with
      | int i =>
        cases r1
        cases r2 with
        | dice h =>
          rename_i ad
          have h : da.ad = some ad := h
          obtain ⟨d1, d2⟩ := a2.di _ h
          have q2 : Nx X.K da Hk2 H2 σ env env (δ2.set k i) D.nx := q2
          have keep : ∀ b o, b ≠ ad → H2 b = some o → upd H2 ad (.lst ([V.int δ2.1, .int δ2.2.1, .int δ2.2.2].set k (.int i))) b = some o := fun b o n e => by rw [upd_ne n]; exact e
          have ke : ∀ b o, Hk2 b = some o → upd H2 ad (.lst ([V.int δ2.1, .int δ2.2.1, .int δ2.2.2].set k (.int i))) b = some o := fun b o e => keep b o (fun z => by rw [z, d1] at e; cases e) (a2.ex b o e)
          refine ⟨ad, _, (k : Int), k, rfl, rfl, d2, ?_, ?_⟩
          · have : k = 0 ∨ k = 1 ∨ k = 2 := by omega
            rcases this with rfl | rfl | rfl <;> rfl
          · refine q2 σ Hk2 _ ⟨Evl.Ex.refl _, fun _ _ _ n => n, fun b o e n _ _ => keep b o (fun z => n (by rw [z]; exact h)) e, fun b hb => ?_, fun b hb => ?_⟩ ⟨ke, fun b e => ?_, tabs_mut a2.tb d2 (.lst _), a2.kn, a2.nt⟩ ⟨e2.len, e2.dat, fun i' s' e' o' => ?_, e2.apart⟩ fun p => own_le
            · obtain ⟨o, e, n⟩ := hb
              by_cases z : b = ad
              · subst z; exact ⟨_, upd_same, fun _ z => nomatch z⟩
              · exact ⟨o, keep b o z e, n⟩
            · obtain ⟨o, e, n⟩ := hb
              by_cases z : b = ad
              · subst z; exact ⟨_, upd_same, .lst _⟩
              · exact ⟨o, keep b o z e, n⟩
            · rw [h] at e
              cases e
              refine ⟨d1, ?_⟩
              rw [upd_same]
              have : k = 0 ∨ k = 1 ∨ k = 2 := by omega
              rcases this with rfl | rfl | rfl <;> rfl
            · obtain ⟨p, z1, z2, z3, z4⟩ := e2.own i' s' e' o'
              have np : p ≠ ad := fun z => z3 (by rw [z]; exact h)
              refine ⟨p, z1, z2, z3, ?_⟩
              cases s' with
              | ow ds => obtain ⟨vs, q, r⟩ := z4; exact ⟨vs, keep p _ np q, r⟩
              | od ds => obtain ⟨vs, q, r⟩ := z4; exact ⟨vs, keep p _ np q, r⟩
              | oo c ds => obtain ⟨vs, f, q, r⟩ := z4; exact ⟨vs, f, keep p _ np q, r⟩
              | no => exact z4
              | dt d => exact z4
      | _ => exact q2.elim
    | _ => exact q2.elim
end
end Dv
set_option maxHeartbeats 4000000
namespace Dv
open PySem PySem.Spec PyProof.Rows L2
section
variable {X : Cx} {da : Da} {cm : Nat → Addr} {W : WX} {E : XK} {pos p p2 : Pos} {e : Expr} {es : List Expr} {x y : Str} {tb : List (Addr × Str)} {fs : Env → M (List D)}
def retW (f : Env → M (List D)) : SEnv → M Fl := fun env => bind (f (vw env)) fun ds => ret (.nw ds)
theorem ss_retW {f : Env → M (List D)} (he : PNv X da cm (WE0 E) e f) : PSv X da cm E (.Return (some e) pos) (retW f) := PS.imp (ps_ret he) fun D σ H ⟨Hk, env, δ, hA, hE, q⟩ =>
  ⟨Hk, vw env, δ, hA, hE.vw, q.seq.mono fun ds δ' q2 p vs Hk' H' s a k n e r => q2 p vs Hk' H' s.s a k n e r⟩
/-! ### x(y(..)): what y hands back are the dice of x -/
def three : List D → Option (Int × Int × Int)
  | [.int a, .int b, .int c] => some (a, b, c)
  | _ => none
theorem three_some {l : List D} {t : Int × Int × Int} (h : three l = some t) : ∃ a b c, l = [.int a, .int b, .int c] ∧ t = (a, b, c) := by
  unfold three at h
  split at h
  · cases h; exact ⟨_, _, _, rfl, rfl⟩
  · cases h
def diceR (TR : List D → M D) (t : Int × Int × Int) : M D := fun δ => match TR [.dice] t with
    | .ok d _ => if d.scal then .ok d δ else .bad
    | _ => .bad
def diceM (TR : List D → M D) (l : List D) : M D := match three l with
  | some t => diceR TR t
  | none => bad
def rdM (n : Nat) (TD : List D → M (List D)) (TR : List D → M D) (fs : Env → M (List D)) : Env → M D := fun env => bind (fs env) fun ds => if ds.length = n then bind (TD ds) (diceM TR) else bad
theorem ev_rd {p3 : Pos} {TD : List D → M (List D)} {TR : List D → M D} {n kN kR : Nat} {fN fR : Addr} {dN dR : FuncData} {pN : List Str} {aR : Str} (h0 : da.ad = none) (hT : da.lay = (tb, cm))
    (FN : FnG X.prog X.w X.K X.mg X.base kN fN dN pN (spN X.K cm tb n TD)) (FR : FnG X.prog X.w X.K X.mg X.base kR fR dR [aR] (spM X.K cm tb 1 TR)) (rN : RoomG kN X.A) (rR : RoomG kR X.A)
    (gy : Gl X y) (my : X.mg y = some (.ref fN)) (ky : PySem.W.keepIn X.K (.ref fN) = true) (by_ : Binds X.K dN pN []) (gx : Gl X x) (mx : X.mg x = some (.ref fR)) (kx : PySem.W.keepIn X.K (.ref fR) = true) (bx : Binds X.K dR [aR] []) (tk : Takes X W)
    (ha : PAv X da cm W (e :: es) fs) (hdx : (x == ("__debug__" : Str)) = false := by decide) (hdy : (y == ("__debug__" : Str)) = false := by decide)
    (he : starEach (e :: es) X.env = (false, eval e X.env) :: starEach es X.env := by rfl) (hpl : (backTo p2 (starEach es X.env)).any (·.1) = false := by rfl)
    (he2 : starEach [.Call (.Name y p) (e :: es) [] p2] X.env = (false, eval (.Call (.Name y p) (e :: es) [] p2) X.env) :: starEach [] X.env := by rfl) (hpl2 : (backTo pos (starEach [] X.env)).any (·.1) = false := by rfl) :
    PEv X da cm W (.Call (.Name x p3) [.Call (.Name y p) (e :: es) [] p2] [] pos) (rdM n TD TR fs) :=
  PE.imp (pe_callG FR rR gx mx kx bx tk (pa_cons (pe_callG FN rN gy my ky by_ tk ha hdy he hpl) pa_nil he2) hdx he2 hpl2) fun σ H Q ⟨Hk, env, δ, hA, hE, q⟩ => by
    refine tAv.seq hA hE q fun xs ds δ1 Hk1 H1 s1 a1 e1 r1 q1 => ?_
    by_cases hl : ds.length = n
    · rw [ifp hl] at q1
      refine ⟨r1.length.trans hl, da, Hk1, δ1, ds, hT, a1, r1, q1.bind.mono fun l δ2 q2 pa ws Hk2 H2 s2 a2 kp np hp rw_ => ?_⟩
      unfold diceM at q2
      cases h3 : three l with
      | none => rw [h3] at q2; exact q2.elim
      | some t =>
        rw [h3] at q2
        obtain ⟨a, b, c, rfl, rfl⟩ := three_some h3
        obtain ⟨v1, v2, v3, rfl, z1, z2, z3⟩ : ∃ v1 v2 v3, ws = [v1, v2, v3] ∧ Rp X.K da.ra Hk2 v1 (.int a) ∧ Rp X.K da.ra Hk2 v2 (.int b) ∧ Rp X.K da.ra Hk2 v3 (.int c) := by
          cases rw_ with
          | cons r1 t =>
            cases t with
            | cons r2 t =>
              cases t with
              | cons r3 t =>
                cases t
                exact ⟨_, _, _, rfl, r1, r2, r3⟩
        cases z1; cases z2; cases z3
        have a3 : At ⟨⟨some pa, da.ra.cl⟩, da.tb, da.kn, da.km, da.sf⟩ Hk2 H2 (a, b, c) := ⟨a2.ex, fun w e => by cases e; exact ⟨kp, hp⟩, a2.tb, a2.kn, a2.nt⟩
        refine ⟨rfl, ⟨⟨some pa, da.ra.cl⟩, da.tb, da.kn, da.km, da.sf⟩, Hk2, (a, b, c), [.dice], hT, a3, .cons (.dice rfl) .nil, ?_⟩
        have q2 : Fin X.K da cm (match TR [.dice] (a, b, c) with
          | .ok d _ => if d.scal then .ok d δ2 else .bad
          | _ => .bad) Hk1 H1 _ _ := q2
        cases hr : TR [.dice] (a, b, c) with
        | bad => rw [hr] at q2; exact q2.elim
        | exc _ _ _ => rw [hr] at q2; exact q2.elim
        | ok d δ3 =>
          rw [hr] at q2
          have q2 : Fin X.K da cm (if d.scal then .ok d δ2 else .bad) Hk1 H1 _ _ := q2
          cases hd : d.scal with
          | false => rw [hd] at q2; exact q2.elim
          | true =>
            rw [hd] at q2
            intro v Hk4 H4 s4 a4 r4
            have q2 : ∀ v Hk' H', Stp da Hk H Hk' H' → At da Hk' H' δ2 → Rp X.K da.ra Hk' v d → Q v H' := q2
            have s02 := s1.trans s2
            refine q2 v Hk4 H4 ⟨s02.kn.trans s4.kn, fun w hw n => s4.fr w (s02.tm w hw) (s02.fr w hw n), fun w o hw n t => s4.ke w o (s02.ke w o hw n t) (fun z => ?_) t, fun w hw => s4.th w (s02.th w hw), fun w hw => s4.tm w (s02.tm w hw)⟩ ⟨a4.ex, fun w z => (by rw [h0] at z; cases z), a4.tb, a4.kn, a4.nt⟩ (by cases r4 <;> first | exact .non | exact .bl _ | exact .int _ | exact .str _ | cases hd)
            cases z
            exact np (s1.th pa ⟨o, hw, t⟩)
    · rw [ifn hl] at q1
      exact q1.elim
end
end Dv
set_option maxHeartbeats 4000000
namespace Dv
open PySem PySem.Spec PyProof.Rows L2
/-- the dict just made is locked for good -/
def tFrzE (t : TE) : TE := fun σ H Q => t σ H fun v H' => ∃ d u, v = .ref d ∧ H' d = some u ∧ L2.Mut (some u) ∧ ∀ od, Q v (upd H' d (.frz od u))
theorem pe_frz {X : Cx} {e : Expr} {t : TE} (h : PE X e t) : PE X e (tFrzE t) := ⟨fun pins s σ H Q I hw => thn (h.run pins s σ H _ I hw) fun v s1 ⟨x, H1, I2, r, d, u, _, hd, mu, q⟩ => by
  obtain ⟨od, I3⟩ := I2.lock hd mu
  exact ⟨x, _, I3, r, q od⟩⟩
/-! ### {k: v, ..} -/
abbrev Pm := List ((Env → M D) × (Env → M D))
def pairsM : Pm → Env → M (List (D × D))
  | [], _ => ret []
  | (f, g) :: r, env => bind (f env) fun x => bind (g env) fun y => bind (pairsM r env) fun l => ret ((x, y) :: l)
def RpD (K : PySem.W.Frag) (ad : Ra) (H : Hp) (l : List (V × V)) (m : List (D × D)) : Prop := RpL K ad H (l.map (·.1)) (m.map (·.1)) ∧ RpL K ad H (l.map (·.2)) (m.map (·.2))
section
variable {K : PySem.W.Frag} {da : Da} {cm : Nat → Addr} {W : WX}
theorem tPairs.seq {σ : L2.St} : ∀ {kvs : Pm} {H Hk : Hp} {env : Env} {δ : Dice} {β : Type} {g : List (D × D) → M β} {k : β → Dice → Prop} (hA : At da Hk H δ) (hE : EnvR K da Hk σ env)
    (h : Fin K da cm (Dv.bind (pairsM kvs env) g δ) Hk H k (fun c dd H' => W c dd σ H')) {Q : List (V × V) → Hp → Prop}
    (hq : ∀ vs ds δ' Hk' H', Stp da Hk H Hk' H' → At da Hk' H' δ' → EnvR K da Hk' σ env → RpD K da.ra Hk' vs ds → Fin K da cm (g ds δ') Hk' H' k (fun c dd H' => W c dd σ H') → Q vs H'),
    tPairs (kvs.map fun p => (tEv K da cm W p.1, tEv K da cm W p.2)) σ H Q
  | [], H, Hk, env, δ, β, g, k, hA, hE, h, Q, hq => hq [] [] δ Hk H (Stp.refl _ _ _) hA hE ⟨.nil, .nil⟩ h
  | (f, f') :: r, H, Hk, env, δ, β, g, k, hA, hE, h, Q, hq => by
    unfold pairsM at h
    rw [bind_bind] at h
    refine tEv.seq hA hE h fun x d δ1 Hk1 H1 s1 a1 e1 r1 q1 => ?_
    rw [bind_bind] at q1
    refine tEv.seq a1 e1 q1 fun y d' δ2 Hk2 H2 s2 a2 e2 r2 q2 => ?_
    rw [bind_bind] at q2
    exact tPairs.seq (kvs := r) a2 e2 q2 fun vs ds δ3 Hk3 H3 s3 a3 e3 r3 q3 => hq ((x, y) :: vs) ((d, d') :: ds) δ3 Hk3 H3 ((s1.trans s2).trans s3) a3 e3 ⟨.cons ((r1.mono s2.kn).mono s3.kn) r3.1, .cons (r2.mono s3.kn) r3.2⟩ q3
end
inductive PPv (X : Cx) (da : Da) (cm : Nat → Addr) (W : WX) (pos : Pos) : List (Option Expr) → List Expr → Pm → Prop
  | nil : PPv X da cm W pos [] [] []
  | cons {k v : Expr} {ks : List (Option Expr)} {vs : List Expr} {f g : Env → M D} {r : Pm} (hk : PEv X da cm W k f) (hv : PEv X da cm W v g) (t : PPv X da cm W pos ks vs r) : PPv X da cm W pos (some k :: ks) (v :: vs) ((f, g) :: r)
def D.key? : D → Option Key
  | .int i => some (.inl i)
  | .str x => some (.inr x)
  | _ => none
def keysD : List (D × D) → Option (List Key)
  | [] => some []
  | (d, _) :: r => match d.key? with
    | some k => match keysD r with
      | some ks => some (k :: ks)
      | none => none
    | none => none
def noDup : List Key → Bool
  | [] => true
  | k :: r => !(r.any fun k' => decide (k' = k)) && noDup r
/-- different keys, at least one -/
def D.disp (l : List (D × D)) : Option D := match keysD l with
  | some ks => if noDup ks && decide (l.length ≤ 15) then some (.dic l) else none
  | none => none
def dspD (kvs : Pm) : Env → M D := fun env => bind (pairsM kvs env) fun l => lift (D.disp l)
theorem keys_kvs {K : PySem.W.Frag} {ad : Ra} {H : Hp} : ∀ {vs : List (V × V)} {ds : List (D × D)} {ks : List Key}, RpD K ad H vs ds → keysD ds = some ks → ∃ kvs : List (Key × V), vs = kvs.map (fun kv => (kV kv.1, kv.2)) ∧ kvs.map (·.1) = ks ∧ RpK K ad H kvs ds
  | [], [], ks, _, h => by
    simp only [keysD, Option.some.injEq] at h
    subst h
    exact ⟨[], rfl, rfl, .nil⟩
  | [], _ :: _, _, r, _ => by cases r.1
  | _ :: _, [], _, r, _ => by cases r.1
  | (x, y) :: vs, (d, d') :: ds, ks, r, h => by
    obtain ⟨r1, r2⟩ := r
    simp only [List.map_cons] at r1 r2
    unfold keysD at h
    split at h
    · rename_i k hk
      split at h
      · rename_i ks' hks
        cases h
        cases r1 with
        | cons a1 b1 =>
          cases r2 with
          | cons a2 b2 =>
            obtain ⟨kvs, h1, h2, h3⟩ := keys_kvs ⟨b1, b2⟩ hks
            have : x = kV k ∧ d = dK k := by
              unfold D.key? at hk
              split at hk
              · cases hk; cases a1; exact ⟨rfl, rfl⟩
              · cases hk; cases a1; exact ⟨rfl, rfl⟩
              · cases hk
            obtain ⟨rfl, rfl⟩ := this
            exact ⟨(k, y) :: kvs, by rw [h1]; rfl, by rw [List.map_cons, h2], .cons a2 h3⟩
      · cases h
    · cases h
theorem put_new {k : Key} {v : V} {acc : List (Key × V)} (h : k ∉ acc.map (·.1)) : putK acc k v = acc ++ [(k, v)] := by
  unfold putK
  rw [if_neg]
  intro z
  obtain ⟨kv, h1, h2⟩ := List.any_eq_true.mp z
  exact h (List.mem_map.mpr ⟨kv, h1, of_decide_eq_true h2⟩)
theorem merge_new : ∀ (kvs acc : List (Key × V)), noDup (kvs.map (·.1)) = true → (∀ k ∈ kvs.map (·.1), k ∉ acc.map (·.1)) → mergeK acc kvs = acc ++ kvs
  | [], acc, _, _ => by unfold mergeK; simp
  | (k, v) :: kvs, acc, h, ha => by
    simp only [List.map_cons, noDup, Bool.and_eq_true, Bool.not_eq_true'] at h
    have hn : k ∉ kvs.map (·.1) := fun z => by
      have := List.any_eq_false.mp h.1 k z
      simp at this
    have e : mergeK acc ((k, v) :: kvs) = mergeK (putK acc k v) kvs := rfl
    rw [e, put_new (ha k (by simp)), merge_new kvs _ h.2 fun k' hk' => ?_]
    · simp
    · rw [List.map_append]
      intro z
      rcases List.mem_append.mp z with z | z
      · exact ha k' (by simp [hk']) z
      · have : k' = k := by simpa using z
        rw [this] at hk'
        exact hn hk'
section
variable {X : Cx} {da : Da} {cm : Nat → Addr} {W : WX} {pos : Pos} {keys : List (Option Expr)} {values : List Expr} {kvs : Pm}
theorem PPv.pps (h : PPv X da cm W pos keys values kvs) : PPs X pos keys values (kvs.map fun p => (tEv X.K da cm W p.1, tEv X.K da cm W p.2)) := by
  induction h with
  | nil => exact pps_nil
  | cons hk hv t ih => exact pps_cons hk hv ih
theorem ev_disp (h : PPv X da cm W pos keys values kvs) (hall : keys.all (·.isSome) = true := by rfl) (hl : keys.length = values.length := by rfl) (h0 : keys ≠ [] := by intro z; cases z) (h15 : keys.length ≤ 15 := by decide) : PEv X da cm W (.Dict keys values pos) (dspD kvs) :=
  PE.imp (pe_frz (pe_disp h.pps hall hl h0 h15)) fun σ H Q ⟨Hk, env, δ, hA, hE, q⟩ p hp => by
    have kp : Hk p = none := by
      cases z : Hk p with
      | none => rfl
      | some u => rw [hA.ex _ _ z] at hp; cases hp
    have np : ∀ {b : Addr}, H b ≠ none → b ≠ p := fun h z => h (by rw [z]; exact hp)
    have dp : da.ad ≠ some p := fun z => by rw [(hA.di _ z).2] at hp; cases hp
    have keep : ∀ b o, H b = some o → upd H p (.dK []) b = some o := fun b o e => by rw [upd_ne (np (by rw [e]; exact fun z => nomatch z))]; exact e
    have s0 : Stp da Hk H Hk (upd H p (.dK [])) := ⟨Evl.Ex.refl _, fun _ _ n => n, fun b o e _ _ => keep b o e, fun b ⟨o, e, n⟩ => ⟨o, keep b o e, n⟩, fun b ⟨o, e, n⟩ => ⟨o, keep b o e, n⟩⟩
    have a0 : At da Hk (upd H p (.dK [])) δ := ⟨fun b o e => keep b o (hA.ex b o e), fun b e => ⟨(hA.di b e).1, keep b _ (hA.di b e).2⟩, hA.tb.ext keep, hA.kn, hA.nt⟩
    have q0 : Fin X.K da cm (Dv.bind (pairsM kvs env) (fun l => Dv.lift (D.disp l)) δ) Hk (upd H p (.dK [])) (fun d δ' => ∀ v Hk' H', Stp da Hk H Hk' H' → At da Hk' H' δ' → Rp X.K da.ra Hk' v d → Q v H') _ := Fin.later q s0 fun _ _ z => z
    refine tPairs.seq a0 hE q0 fun vs ds δ1 Hk1 H1 s1 a1 e1 r1 q1 => ?_
    have hp1 : H1 p = some (.dK []) := s1.ke p _ upd_same dp fun _ z => nomatch z
    refine ⟨hp1, ?_⟩
    unfold D.disp at q1
    cases hk : keysD ds with
    | none => rw [hk] at q1; exact q1.elim
    | some ks =>
      rw [hk] at q1
      obtain ⟨kv, rfl, h2, h3⟩ := keys_kvs r1 hk
      by_cases hc : (noDup ks && decide (ds.length ≤ 15)) = true
      · have q1 : Fin X.K da cm (Dv.lift (if (noDup ks && decide (ds.length ≤ 15)) = true then some (D.dic ds) else none) δ1) Hk1 H1 _ _ := q1
        rw [if_pos hc] at q1
        obtain ⟨c1, c2⟩ := Bool.and_eq_true_iff.mp hc
        have len : kv.length = ds.length := by
          have := r1.1.length
          simpa using this
        refine ⟨kv, rfl, by rw [len]; exact of_decide_eq_true c2, ?_⟩
        have mg : mergeK [] kv = kv := by
          have z := merge_new kv [] (by rw [h2]; exact c1) fun _ _ z => by cases z
          rw [List.nil_append] at z
          exact z
        rw [mg]
        have k1 : Hk1 p = none := s1.fr p ⟨_, upd_same, .dK _⟩ kp
        refine ⟨p, _, rfl, upd_same, trivial, fun od => ?_⟩
        rw [upd_upd]
        have e2 : Ex Hk1 (upd Hk1 p (.frz od (.dK kv))) := Evl.Ex.new k1
        have s01 := s0.trans s1
        have up : ∀ b o, H b = some o → b ≠ p := fun b o e => np (by rw [e]; exact fun z => nomatch z)
        refine q1 _ (upd Hk1 p (.frz od (.dK kv))) _ ⟨s01.kn.trans e2, fun b ⟨o, e, m⟩ n => by rw [upd_ne (up b o e)]; exact s01.fr b ⟨o, e, m⟩ n, fun b o e d n => by rw [upd_ne (up b o e)]; exact s01.ke b o e d n, fun b ⟨o, e, n⟩ => ?_, fun b ⟨o, e, n⟩ => ?_⟩ ⟨fun b o e => ?_, fun b e => ?_, tabs_mut a1.tb hp1 (.dK _), da.km _ _ e2 a1.kn, fun b ps e => ?_⟩ (.dic upd_same (h3.mono e2))
        · obtain ⟨o', e', n'⟩ := s01.th b ⟨o, e, n⟩
          exact ⟨o', by rw [upd_ne (up b o e)]; exact e', n'⟩
        · obtain ⟨o', e', n'⟩ := s01.tm b ⟨o, e, n⟩
          exact ⟨o', by rw [upd_ne (up b o e)]; exact e', n'⟩
        · by_cases z : b = p
          · subst z; rw [upd_same] at e ⊢; exact e
          · rw [upd_ne z] at e ⊢; exact a1.ex b o e
        · have : b ≠ p := fun z => dp (by rw [e, z])
          rw [upd_ne this, upd_ne this]
          exact a1.di b e
        · by_cases z : b = p
          · subst z; rw [upd_same] at e; cases e
          · rw [upd_ne z] at e; exact a1.nt b ps e
      · have q1 : Fin X.K da cm (Dv.lift (if (noDup ks && decide (ds.length ≤ 15)) = true then some (D.dic ds) else none) δ1) Hk1 H1 _ _ := q1
        rw [if_neg hc] at q1
        exact q1.elim
end
end Dv
set_option maxHeartbeats 4000000
namespace Dv
open PySem PySem.Spec PyProof.Rows L2
theorem RoomG.hu {k : Nat} {A : Around} (h : RoomG k A) : A.units + 200 < cLine := by
  have := h.room.un
  omega
/-- what the written part says of a def -/
structure Fn1 (K : PySem.W.Frag) (mg : Str → Option Value) (x : Str) (st : Stmt) (ps : List Str) (f : Addr) (fd : FuncData) : Prop where
  F : Fun K x x st f fd
  g : mg x = some (.ref f)
  b : Binds K fd ps []
/-- .. of an error's class -/
structure Er1 (K : PySem.W.Frag) (mg : Str → Option Value) (x : Str) (C : Addr) : Prop where
  g : mg x = some (.ref C)
  k : PySem.W.keepIn K (.ref C) = true
  eC : PySem.W.subIn K (.ref C) (.type "BaseException") = some true
  tC : PySem.W.typeIn K (.ref C) = some (.type "type")
def StrC (mg : Str → Option Value) (x z : Str) : Prop := ∃ t, mg x = some (.str z t)
def IntC (mg : Str → Option Value) (x : Str) (i : Int) : Prop := ∃ t, mg x = some (.int i t)
def TupC (K : PySem.W.Frag) (mg : Str → Option Value) (x : Str) (ys : List Str) : Prop := ∃ a, mg x = some (.ref a) ∧ ∀ H, SqT K H a (ys.map V.str)
section
variable {X : Cx} {da : Da} {cm : Nat → Addr} {W : WX} {pos : Pos} {x : Str}
theorem ev_fn {fs : Env → M (List D)} {T : List D → M D} {n k j : Nat} {f : Addr} {fd : FuncData} {ps : List Str} {st : Stmt} {tb : List (Addr × Str)} {pos p : Pos} {e : Expr} {es : List Expr} (hT : da.lay = (tb, cm)) (F : FnG X.prog X.w X.K X.mg X.base k f fd ps (spM X.K cm tb n T)) (hr : RoomG j X.A) (hk : k ≤ j) (hg : Gl X x) (N : Fn1 X.K X.mg x st ps f fd) (tk : Takes X W)
    (ha : PAv X da cm W (e :: es) fs) (hdb : (x == ("__debug__" : Str)) = false := by decide) (he : starEach (e :: es) X.env = (false, eval e X.env) :: starEach es X.env := by rfl) (hpl : (backTo pos (starEach es X.env)).any (·.1) = false := by rfl) :
    PEv X da cm W (.Call (.Name x p) (e :: es) [] pos) (fcM n T fs) := ev_call hT F (hr.mono hk) hg N.g N.F.kp N.b tk ha hdb he hpl
end
/-! ### the parts of a class's text -/
def clsInit : Stmt → Stmt
  | .ClassDef _ _ _ body _ _ _ _ _ _ _ => body.headD (.Pass ⟨0, 0, 0, 0⟩)
  | st => st
def msgOf (st : Stmt) : Expr := match defBody st with
  | .Expr (.Call _ [m] _ _) _ :: _ => m
  | _ => .Constant .none 0 ⟨0, 0, 0, 0⟩
/-! ### the law itself: there are no dice yet -/
def spM0 (K : PySem.W.Frag) (cm : Nat → Addr) (tb : List (Addr × Str)) (n : Nat) (T : List D → M D) : Sp := fun vs H Q E => vs.length = n ∧ ∃ da Hk δ ds, da.lay = (tb, cm) ∧ da.ad = none ∧ At da Hk H δ ∧ RpL K da.ra Hk vs ds ∧
  Fin K da cm (T ds δ) Hk H (fun d δ' => ∀ v Hk' H', Stp da Hk H Hk' H' → At da Hk' H' δ' → Rp K da.ra Hk' v d → Q v H') (fun c dd H' => E c dd H')
theorem fn_ok0 {P : Program} {w : World} {K : PySem.W.Frag} {mg : Str → Option Value} {base : Heap} {cm : Nat → Addr} {x qual : Str} {st : Stmt} {f : Addr} {fd : FuncData} {N ps : List Str} {k : Nat} {tb : List (Addr × Str)} (F : Fun K x qual st f fd) (S : FnScope N ps (defScope st)) (hp : ps.length ≤ N.length) {G : SEnv → M Fl}
    (hbody : ∀ (da : Da), da.lay = (tb, cm) → da.ad = none → ∀ (cdv : Value), IsCode K f cdv → ∀ (A : Around) (fr : List PySem.Env) (s : Shared) (H : Hp) (E : XK), RoomG k (A.deeper (envOfC qual (defScope st) s.heap.objs.size f cdv)) →
      PBv (cxOf (L2.CX P w) P w K mg base N qual (defScope st) f cdv A fr s H E) da cm E (defBody st) G) : FnG P w K mg base (k + 1) f fd ps (spM0 K cm tb ps.length (fnM ps.length N.length G)) := by
  refine fnG_of F S (fun vs H Q E h => h.1) (fun cdv hcd A fr s H vs Q E hr h => ?_)
  obtain ⟨hl, da, Hk, δ, ds, ht, h0, hA, r, q⟩ := h
  refine ⟨_, hbody da ht h0 cdv hcd A fr s H E hr, Hk, _, δ, hA, start_env r (by omega), ?_⟩
  have hd : ds.length = ps.length := r.length.symm.trans hl
  unfold fnM at q
  rw [ifp hd] at q
  rw [hd]
  have q := q.bind
  cases e : G (List.map Sl.dt ds ++ List.replicate (N.length - ps.length) Sl.no) δ with
  | ok r δ' =>
    rw [e] at q
    cases r with
    | ret d => exact fun v Hk' H' s a r => q v Hk' H' (s.stp fun _ => start_own) a r
    | nw l =>
      intro p ws Hk' H' s a k n e r
      have kn := know hA (s.stp fun _ => start_own) a k n e (.lst _)
      exact q _ _ H' kn.1 kn.2.1 (.lst upd_same (r.mono kn.2.2))
    | next env => exact fun σ' Hk' H' s a _ _ => q _ Hk' H' (s.stp fun _ => start_own) a .non
    | brk env => exact q.elim
    | cont env => exact q.elim
  | exc c fs δ' => rw [e] at q; exact fun dd Hk' H' s a x => q dd Hk' H' (s.stp fun _ => start_own) a x
  | bad => rw [e] at q; exact q
theorem pix {b : Expr} (h : ∀ o i, subscripted b false o i = operate [o, i] (getItem o i) := by intro _ _; rfl) : PlainIx b := h
end Dv
set_option maxHeartbeats 4000000
namespace Dv
open PySem PySem.Spec PyProof.Rows L2
/-! ### what the operations give -/
/-- all signs below 128 -/
def asc (x : Str) : Bool := x.cps.toList.all fun c => decide (c < 128)
theorem asc_iff {x : Str} : asc x = true ↔ ∀ c ∈ x.cps.toList, c < 128 := by
  unfold asc
  rw [List.all_eq_true]
  exact ⟨fun h c hc => of_decide_eq_true (h c hc), fun h c hc => decide_eq_true (h c hc)⟩
theorem cps_app (a b : Str) : (a ++ b).cps.toList = a.cps.toList ++ b.cps.toList := by
  show (a.cps ++ b.cps).toList = _
  simp
theorem asc_app {a b : Str} (ha : asc a = true) (hb : asc b = true) : asc (a ++ b) = true := by
  rw [asc_iff] at *
  intro c hc
  rw [cps_app] at hc
  exact (List.mem_append.mp hc).elim (ha c) (hb c)
theorem shaped_int (i : Int) : SeqAt.shaped (.int i) = true := by simp [SeqAt.shaped, PyData.canLay0, PyData.depth]
theorem two_some' {c f : PyData → PyData → Bool} {d e : D} {p q : PyData} (h1 : d.py = some p) (h2 : e.py = some q) (h : c p q = true) : D.two c f d e = some (.bl (f p q)) := by
  unfold D.two
  rw [h1, h2]
  exact if_pos h
theorem eq_int (i j : Int) : D.eq (.int i) (.int j) = some (.bl (i == j)) := by
  have := two_some' (c := okEq) (f := PyData.eqv) (d := .int i) (e := .int j) (p := .int i) (q := .int j) (by simp [D.py]) (by simp [D.py]) (by unfold okEq; rw [shaped_int, shaped_int]; rfl)
  rw [show D.eq (.int i) (.int j) = _ from this]
  simp [PyData.eqv]
theorem okLt_int (i j : Int) : okLt (.int i) (.int j) = true := by simp [okLt, PySem.W.alike, PyData.depth]
theorem lt_int (i j : Int) : D.lt (.int i) (.int j) = some (.bl (decide (i < j))) := by
  have := two_some' (c := okLt) (f := PySem.W.dataLt) (d := .int i) (e := .int j) (by simp [D.py]) (by simp [D.py]) (okLt_int i j)
  rw [PySem.W.dataLt_int] at this; exact this
theorem gt_int (i j : Int) : D.gt (.int i) (.int j) = some (.bl (decide (j < i))) := by
  have := two_some' (c := okLt) (f := fun p q => PySem.W.dataLt q p) (d := .int i) (e := .int j) (by simp [D.py]) (by simp [D.py]) (okLt_int i j)
  rw [PySem.W.dataLt_int] at this; exact this
theorem le_int (i j : Int) : D.le (.int i) (.int j) = some (.bl (decide (i ≤ j))) := by
  have := two_some' (c := okLt) (f := fun p q => !PySem.W.dataLt q p) (d := .int i) (e := .int j) (by simp [D.py]) (by simp [D.py]) (okLt_int i j)
  rw [PySem.W.dataLt_int] at this
  rw [show D.le (.int i) (.int j) = _ from this]
  congr 2
  by_cases h : j < i
  · simp [h]
  · simp [h]; omega
theorem ge_int (i j : Int) : D.ge (.int i) (.int j) = some (.bl (decide (j ≤ i))) := by
  have := two_some' (c := okLt) (f := fun p q => !PySem.W.dataLt p q) (d := .int i) (e := .int j) (by simp [D.py]) (by simp [D.py]) (okLt_int i j)
  rw [PySem.W.dataLt_int] at this
  rw [show D.ge (.int i) (.int j) = _ from this]
  congr 2
  by_cases h : i < j
  · simp [h]
  · simp [h]; omega
theorem len_str {x : Str} (h : x.length ≤ lim) : D.len [.str x] = some (.int x.length) := by unfold D.len; exact if_pos h
end Dv
set_option maxHeartbeats 4000000
namespace Dv
open PySem PySem.Spec PyProof.Rows L2
/-! ### runs of mirrors: k counts the rolls that may be made without a cell -/
def BIG : Int := 1000000000
def Run {α : Type} (k : Nat) (P : α → Prop) (m : M α) : Prop := ∀ δ : Dice, 0 ≤ δ.2.2 → δ.2.2 + k ≤ BIG → ∃ a δ', m δ = .ok a δ' ∧ δ.2.2 ≤ δ'.2.2 ∧ δ'.2.2 ≤ δ.2.2 + k ∧ P a
theorem Run.ret {α : Type} {P : α → Prop} {a : α} (h : P a) : Run 0 P (ret a) := fun δ _ _ => ⟨a, δ, rfl, Int.le_refl _, by omega, h⟩
theorem Run.bind {α β : Type} {k k' : Nat} {P : α → Prop} {Q : β → Prop} {m : M α} {f : α → M β} (h : Run k P m) (h' : ∀ a, P a → Run k' Q (f a)) : Run (k + k') Q (bind m f) := fun δ h0 hk => by
  obtain ⟨a, δ1, e, l1, l2, p⟩ := h δ h0 (by omega)
  obtain ⟨b, δ2, e', l3, l4, q⟩ := h' a p δ1 (by omega) (by omega)
  refine ⟨b, δ2, ?_, by omega, by omega, q⟩
  unfold Dv.bind
  rw [e]
  exact e'
theorem Run.mono {α : Type} {k k' : Nat} {P Q : α → Prop} {m : M α} (h : Run k P m) (hk : k ≤ k') (hp : ∀ a, P a → Q a) : Run k' Q m := fun δ h0 hb => by
  obtain ⟨a, δ1, e, l1, l2, p⟩ := h δ h0 (by omega)
  exact ⟨a, δ1, e, l1, by omega, hp a p⟩
theorem Run.of_eq {α : Type} {k : Nat} {P : α → Prop} {m m' : M α} (h : Run k P m') (e : m = m') : Run k P m := e ▸ h
theorem Run.nx {α : Type} {k : Nat} {P : α → Prop} {m : M α} (h : Run k P m) : Run k P (nx m) := fun δ h0 hb => by
  obtain ⟨a, δ1, e, l1, l2, p⟩ := h δ h0 hb
  refine ⟨a, δ1, ?_, l1, l2, p⟩
  unfold Dv.nx
  rw [e]
theorem lcL_run {t : Tg} {te : Env → M D} {env : Env} {k : Nat} {P : D → Prop} : ∀ {xs : List D}, (∀ x ∈ xs, ∃ m, t.l x = some m ∧ Run k P (te (putD env m))) → Run (k * xs.length) (fun ys => ys.length = xs.length ∧ ∀ y ∈ ys, P y) (lcL t yesT te env xs)
  | [], _ => Run.mono (Run.ret (P := fun ys : List D => ys = []) rfl) (Nat.le_refl _) fun ys e => by subst e; exact ⟨rfl, fun _ z => nomatch z⟩
  | x :: xs, h => by
    obtain ⟨m, h1, h2⟩ := h x List.mem_cons_self
    have ih := lcL_run (k := k) (P := P) fun y hy => h y (List.mem_cons_of_mem _ hy)
    unfold lcL
    rw [h1, lift_some, bind_ret]
    have e : nx (yesT (putD env m)) = ret true := rfl
    rw [e, bind_ret, if_pos rfl]
    refine Run.mono (Run.bind (Run.nx h2) fun y hy => Run.bind ih fun ys hys => Run.ret (P := fun zs : List D => zs.length = (x :: xs).length ∧ ∀ z ∈ zs, P z) ⟨by simp [hys.1], fun z hz => (List.mem_cons.mp hz).elim (fun e => e ▸ hy) (hys.2 z)⟩) ?_ fun _ z => z
    rw [List.length_cons, Nat.mul_succ]
    omega
theorem l_nm (i : Nat) (x : D) : (Tg.nm i).l x = some [(i, x)] := by simp only [Tg.l]
/-! ### statements -/
/-- what lies in the slots behind, or what is handed back -/
def RunS (k : Nat) (PN : SEnv → Prop) (PR : D → Prop) (m : M Fl) : Prop := Run k (fun r => match r with
  | .next e => PN e
  | .ret d => PR d
  | _ => False) m
theorem RunS.seq {k k' : Nat} {PN PN' : SEnv → Prop} {PR : D → Prop} {F G : SEnv → M Fl} {env : SEnv} (h : RunS k PN PR (F env)) (h' : ∀ e, PN e → RunS k' PN' PR (G e)) : RunS (k + k') PN' PR (seqS F G env) := by
  unfold seqS RunS
  refine Run.bind h fun r hr => ?_
  cases r with
  | next e => exact h' e hr
  | ret d => exact Run.mono (Run.ret (P := fun r : Fl => r = .ret d) rfl) (Nat.zero_le _) fun r e => by subst e; exact hr
  | nw ds => exact hr.elim
  | brk e => exact hr.elim
  | cont e => exact hr.elim
theorem RunS.mono {k k' : Nat} {PN PN' : SEnv → Prop} {PR PR' : D → Prop} {m : M Fl} (h : RunS k PN PR m) (hk : k ≤ k') (hn : ∀ e, PN e → PN' e) (hr : ∀ d, PR d → PR' d) : RunS k' PN' PR' m := Run.mono h hk fun r h => by
  cases r with
  | next e => exact hn e h
  | ret d => exact hr d h
  | nw ds => exact h.elim
  | brk e => exact h.elim
  | cont e => exact h.elim
theorem RunS.ret {k : Nat} {PN : SEnv → Prop} {P : D → Prop} {f : Env → M D} {env : SEnv} (h : Run k P (f (va env))) : RunS k PN P (retS f env) := by
  unfold retS
  exact Run.bind (k' := 0) h fun d hd => Run.ret (P := fun r : Fl => _) hd
theorem RunS.nil {PN : SEnv → Prop} {PR : D → Prop} {env : SEnv} (h : PN env) : RunS 0 PN PR (nilS env) := Run.ret (P := fun r : Fl => _) h
/-- a def by its body -/
theorem Run.fn {k n N : Nat} {P : D → Prop} {F : SEnv → M Fl} {ds : List D} (hl : ds.length = n) (h : RunS k (fun _ => P .non) P (F (ds.map .dt ++ List.replicate (N - n) .no))) : Run k P (fnM n N F ds) := by
  unfold fnM
  rw [if_pos hl]
  refine Run.mono (Run.bind (k' := 0) h fun r hr => ?_) (Nat.le_refl _) fun _ z => z
  cases r with
  | next e => exact Run.ret hr
  | ret d => exact Run.ret hr
  | nw ds => exact hr.elim
  | brk e => exact hr.elim
  | cont e => exact hr.elim
theorem Run.fc {k n : Nat} {T : List D → M D} {P : D → Prop} {fs : Env → M (List D)} {env : Env} {ds : List D} (hf : fs env = Dv.ret ds) (hl : ds.length = n) (h : Run k P (T ds)) : Run k P (fcM n T fs env) := by
  unfold fcM
  rw [hf, bind_ret, if_pos hl]
  exact h
end Dv
set_option maxHeartbeats 4000000
namespace Dv
open PySem PySem.Spec PyProof.Rows L2
/-! ### reading off -/
theorem vr_0 {d : D} {r : Env} : vr 0 (some d :: r) = ret d := rfl
theorem cons_ret {f : Env → M D} {fs : Env → M (List D)} {env : Env} {d : D} {ds : List D} (h : f env = ret d) (hs : fs env = ret ds) : consA f fs env = ret (d :: ds) := by
  unfold consA
  rw [h, bind_ret, hs]
  rfl
theorem cal_ret {g : List D → Option D} {fs : Env → M (List D)} {env : Env} {ds : List D} {d : D} (h : fs env = ret ds) (hg : g ds = some d) : calM g fs env = ret d := by
  unfold calM
  rw [h, bind_ret, hg]
  rfl
theorem asB_ret {f : Env → M D} {env : Env} {b : Bool} (h : f env = ret (.bl b)) : asB f env = ret b := by
  unfold asB
  rw [h]
  rfl
theorem notT_ret {f : Env → M Bool} {env : Env} {b : Bool} (h : f env = ret b) : notT f env = ret !b := by
  unfold notT
  rw [h]
  rfl
theorem orT_ret {f g : Env → M Bool} {env : Env} {a b : Bool} (h : f env = ret a) (h' : a = false → g env = ret b) : orT f g env = ret (a || b) := by
  unfold orT
  rw [h, bind_ret]
  cases a with
  | true => rfl
  | false => exact h' rfl
theorem ret_ret {f : Env → M D} {env : SEnv} {d : D} (h : f (va env) = ret d) : retS f env = ret (.ret d) := by
  unfold retS
  rw [h]
  rfl
theorem fn_of {n N : Nat} {F : SEnv → M Fl} {ds : List D} {d : D} (hl : ds.length = n) (h : F (ds.map .dt ++ List.replicate (N - n) .no) = ret (.ret d)) : fnM n N F ds = ret d := by
  unfold fnM
  rw [if_pos hl, h]
  rfl
end Dv
set_option maxHeartbeats 4000000
namespace Dv
open PySem PySem.Spec PyProof.Rows L2
/-! ### what is shown of data below 128 -/
theorem reprChar_asc : ∀ q ∈ [34, 39], ∀ c ∈ List.range 128, ((Builtin.Str.reprChar q c).all fun d => decide (d < 128)) = true := by decide +kernel
theorem quote_or (x : Str) : reprQuote x = 34 ∨ reprQuote x = 39 := by
  unfold reprQuote
  split
  · exact .inl rfl
  · exact .inr rfl
theorem asc_repr {x : Str} (h : asc x = true) : asc (reprText x) = true := by
  have hq : reprQuote x ∈ [34, 39] := by rcases quote_or x with e | e <;> rw [e] <;> decide
  have hq2 : reprQuote x < 128 := by rcases quote_or x with e | e <;> rw [e] <;> decide
  have h := asc_iff.mp h
  have go : ∀ (l : List Nat) (acc : Array Nat), (∀ c ∈ l, c < 128) → (∀ c ∈ acc.toList, c < 128) → ∀ c ∈ (l.foldl (fun out c => out ++ (Builtin.Str.reprChar (reprQuote x) c).toArray) acc).toList, c < 128 := by
    intro l
    induction l with
    | nil => exact fun acc _ ha => ha
    | cons d l ih =>
      intro acc hl ha
      rw [List.foldl_cons]
      refine ih _ (fun c hc => hl c (List.mem_cons_of_mem _ hc)) fun c hc => ?_
      rw [Array.toList_append] at hc
      rcases List.mem_append.mp hc with z | z
      · exact ha c z
      · exact of_decide_eq_true (List.all_eq_true.mp (reprChar_asc _ hq d (List.mem_range.mpr (hl d List.mem_cons_self))) c (by simpa using z))
  rw [asc_iff]
  unfold reprText
  intro c hc
  have hc : c ∈ ((x.cps.foldl (fun out c => out ++ (Builtin.Str.reprChar (reprQuote x) c).toArray) #[reprQuote x]).push (reprQuote x)).toList := hc
  rw [Array.toList_push, ← Array.foldl_toList] at hc
  rcases List.mem_append.mp hc with z | z
  · exact go x.cps.toList #[reprQuote x] h (fun c hc => by have : c = reprQuote x := by simpa using hc
                                                           rw [this]; exact hq2) c z
  · have : c = reprQuote x := by simpa using z
    rw [this]; exact hq2
mutual
def shA : PyData → Bool
  | .none => true
  | .bool _ => true
  | .int _ => true
  | .str x => asc x
  | .list xs => shAs xs
  | .tuple xs => shAs xs
  | .dict _ => false
def shAs : List PyData → Bool
  | [] => true
  | x :: xs => shA x && shAs xs
end
theorem asc_join : ∀ ts : List Str, (∀ t ∈ ts, asc t = true) → asc (Str.join ", " ts) = true
  | [], _ => by decide +kernel
  | [x], h => h x List.mem_cons_self
  | x :: y :: r, h => by
    show asc (x ++ ", " ++ Str.join ", " (y :: r)) = true
    exact asc_app (asc_app (h x List.mem_cons_self) (by decide +kernel)) (asc_join (y :: r) fun t ht => h t (List.mem_cons_of_mem _ ht))
mutual
theorem asc_shown : ∀ p : PyData, shA p = true → asc p.shown = true
  | .none, _ => by rw [PyData.shown_none]; decide +kernel
  | .bool b, _ => by rw [PyData.shown_bool]; cases b <;> decide +kernel
  | .int i, _ => asc_iff.mpr fun c hc => by
    by_cases h : c < 128
    · exact h
    · exact absurd hc (PyProof.Rows.shown_int_free' ⟨by omega, by omega⟩ i)
  | .str x, h => by rw [PyData.shown_str]; simp only [shA] at h; exact asc_repr h
  | .list xs, h => by
    simp only [shA] at h
    rw [PyData.shown_list]
    exact asc_app (asc_app (by decide +kernel) (asc_join _ (asc_showns xs h))) (by decide +kernel)
  | .tuple xs, h => by
    simp only [shA] at h
    rw [PyData.shown_tuple]
    exact asc_app (asc_app (by decide +kernel) (asc_join _ (asc_showns xs h))) (by split <;> decide +kernel)
  | .dict _, h => by simp [shA] at h
theorem asc_showns : ∀ ps : List PyData, shAs ps = true → ∀ t ∈ PyData.shownAll ps, asc t = true
  | [], _, t, ht => by rw [PyData.shownAll_nil] at ht; cases ht
  | x :: xs, h, t, ht => by
    simp only [shAs, Bool.and_eq_true] at h
    rw [PyData.shownAll_cons] at ht
    rcases List.mem_cons.mp ht with rfl | z
    · exact asc_shown x h.1
    · exact asc_showns xs h.2 t z
end
end Dv
set_option maxHeartbeats 4000000
namespace Dv
open PySem PySem.Spec PyProof.Rows L2
/-! ### mirrors with their slots told, for simp -/
def outM : Fl → M D
  | .ret d => ret d
  | .nw ds => ret (.lst ds)
  | .next _ => ret .non
  | _ => bad
def outN : Fl → M (List D)
  | .nw ds => ret ds
  | _ => bad
def nextM (G : SEnv → M Fl) : Fl → M Fl
  | .next e => G e
  | r => ret r
theorem outM_ret {d : D} : outM (.ret d) = ret d := Eq.trans rfl rfl
theorem outM_nw {d : List D} : outM (.nw d) = ret (.lst d) := Eq.trans rfl rfl
theorem outM_next {d : SEnv} : outM (.next d) = ret .non := Eq.trans rfl rfl
theorem outN_nw {d : List D} : outN (.nw d) = ret d := Eq.trans rfl rfl
theorem nextM_next {G : SEnv → M Fl} {e : SEnv} : nextM G (.next e) = G e := Eq.trans rfl rfl
theorem nextM_ret {G : SEnv → M Fl} {e : D} : nextM G (.ret e) = ret (.ret e) := Eq.trans rfl rfl
theorem fn_1 {n : Nat} {F : SEnv → M Fl} {a : D} : fnM 1 n F [a] = bind (F (.dt a :: List.replicate (n - 1) .no)) outM := by
  show bind _ _ = bind _ _; congr 1
theorem fn_2 {n : Nat} {F : SEnv → M Fl} {a b : D} : fnM 2 n F [a, b] = bind (F (.dt a :: .dt b :: List.replicate (n - 2) .no)) outM := by
  show bind _ _ = bind _ _; congr 1
theorem fn_3 {n : Nat} {F : SEnv → M Fl} {a b c : D} : fnM 3 n F [a, b, c] = bind (F (.dt a :: .dt b :: .dt c :: List.replicate (n - 3) .no)) outM := by
  show bind _ _ = bind _ _; congr 1
theorem fnN_1 {n : Nat} {F : SEnv → M Fl} {a : D} : fnN 1 n F [a] = bind (F (.dt a :: List.replicate (n - 1) .no)) outN := by
  show bind _ _ = bind _ _; congr 1
theorem fnN_2 {n : Nat} {F : SEnv → M Fl} {a b : D} : fnN 2 n F [a, b] = bind (F (.dt a :: .dt b :: List.replicate (n - 2) .no)) outN := by
  show bind _ _ = bind _ _; congr 1
theorem fc_1 {T : List D → M D} {fs : Env → M D} {env : Env} : fcM 1 T (consA fs nilA) env = bind (fs env) fun a => T [a] := by
  unfold fcM consA nilA; rw [bind_bind]; rfl
theorem fc_2 {T : List D → M D} {f g : Env → M D} {env : Env} : fcM 2 T (consA f (consA g nilA)) env = bind (f env) fun a => bind (g env) fun b => T [a, b] := by
  unfold fcM consA nilA; simp only [bind_bind, bind_ret]; rfl
theorem fc_3 {T : List D → M D} {f g h : Env → M D} {env : Env} : fcM 3 T (consA f (consA g (consA h nilA))) env = bind (f env) fun a => bind (g env) fun b => bind (h env) fun c => T [a, b, c] := by
  unfold fcM consA nilA; simp only [bind_bind, bind_ret]; rfl
theorem fc_4 {T : List D → M D} {f g h k : Env → M D} {env : Env} : fcM 4 T (consA f (consA g (consA h (consA k nilA)))) env = bind (f env) fun a => bind (g env) fun b => bind (h env) fun c => bind (k env) fun d => T [a, b, c, d] := by
  unfold fcM consA nilA; simp only [bind_bind, bind_ret]; rfl
theorem seq_asg {i : Nat} {f : Env → M D} {G : SEnv → M Fl} {env : SEnv} : seqS (asgS i f) G env = bind (f (vw env)) fun d => G (env.set i (.dt d)) := by
  unfold seqS asgS; rw [bind_bind]; rfl
theorem seq_asgN {i : Nat} {f : Env → M (List D)} {G : SEnv → M Fl} {env : SEnv} : seqS (asgN i f) G env = bind (f (vw env)) fun d => G (env.set i (.ow d)) := by
  unfold seqS asgN; rw [bind_bind]; rfl
theorem seq_gen {F G : SEnv → M Fl} {env : SEnv} : seqS F G env = bind (F env) (nextM G) := by
  unfold seqS; congr 1
theorem seq_nil {G : SEnv → M Fl} {env : SEnv} : seqS nilS G env = G env := Eq.trans rfl rfl
theorem ret_S {f : Env → M D} {env : SEnv} : retS f env = bind (f (va env)) fun d => ret (.ret d) := Eq.trans rfl rfl
/-- a test ahead of the rest -/
theorem seq_if {t : Env → M Bool} {A B G : SEnv → M Fl} {env : SEnv} : seqS (ifS t A B) G env = bind (t (va env)) fun b => if b then seqS A G env else seqS B G env := by
  unfold seqS ifS
  rw [bind_bind]
  congr 1
  funext b
  cases b <;> rfl
theorem seq_seq {A B G : SEnv → M Fl} {env : SEnv} : seqS (seqS A B) G env = seqS A (seqS B G) env := by
  unfold seqS
  rw [bind_bind]
  congr 1
  funext r
  cases r <;> rfl
theorem seq_retS {f : Env → M D} {G : SEnv → M Fl} {env : SEnv} : seqS (retS f) G env = retS f env := by
  unfold seqS retS
  rw [bind_bind]
  rfl
theorem if_M {t : Env → M Bool} {A B : SEnv → M Fl} {env : SEnv} : ifS t A B env = bind (t (va env)) fun b => if b then A env else B env := Eq.trans rfl rfl
theorem vw_cons {s : Sl} {r : SEnv} : vw (s :: r) = s.vw :: vw r := Eq.trans rfl rfl
theorem va_cons {s : Sl} {r : SEnv} : va (s :: r) = s.va :: va r := Eq.trans rfl rfl
theorem vw_nil : vw [] = [] := Eq.trans rfl rfl
theorem va_nil : va [] = [] := Eq.trans rfl rfl
theorem vw_dt {d : D} : Sl.vw (.dt d) = some d := Eq.trans rfl rfl
theorem vw_no : Sl.vw .no = none := Eq.trans rfl rfl
theorem vw_ow {d : List D} : Sl.vw (.ow d) = none := Eq.trans rfl rfl
theorem va_dt {d : D} : Sl.va (.dt d) = some d := Eq.trans rfl rfl
theorem va_no : Sl.va .no = none := Eq.trans rfl rfl
theorem va_ow {d : List D} : Sl.va (.ow d) = some (.lst d) := Eq.trans rfl rfl
theorem op_M {g : D → D → Option D} {fa fb : Env → M D} {env : Env} : opM g fa fb env = bind (fa env) fun x => bind (fb env) fun y => lift (g x y) := Eq.trans rfl rfl
theorem kc_M {d : D} {env : Env} : kc d env = ret d := Eq.trans rfl rfl
theorem cal_1 {g : List D → Option D} {f : Env → M D} {env : Env} : calM g (consA f nilA) env = bind (f env) fun a => lift (g [a]) := by
  unfold calM consA nilA; rw [bind_bind]; rfl
theorem cal_2 {g : List D → Option D} {f h : Env → M D} {env : Env} : calM g (consA f (consA h nilA)) env = bind (f env) fun a => bind (h env) fun b => lift (g [a, b]) := by
  unfold calM consA nilA; simp only [bind_bind, bind_ret]
theorem as_B {f : Env → M D} {env : Env} : asB f env = bind (f env) fun x => lift x.bl? := Eq.trans rfl rfl
theorem bl_bl {b : Bool} : D.bl? (.bl b) = some b := Eq.trans rfl rfl
theorem not_M {f : Env → M D} {env : Env} : notM f env = bind (f env) fun x => bind (lift x.bl?) fun t => ret (.bl (!t)) := Eq.trans rfl rfl
theorem not_T {f : Env → M Bool} {env : Env} : notT f env = bind (f env) fun t => ret (!t) := Eq.trans rfl rfl
theorem and_T {f g : Env → M Bool} {env : Env} : andT f g env = bind (f env) fun t => if t then g env else ret false := Eq.trans rfl rfl
theorem or_T {f g : Env → M Bool} {env : Env} : orT f g env = bind (f env) fun t => if t then ret true else g env := Eq.trans rfl rfl
theorem and_M {f g : Env → M D} {env : Env} : andM f g env = bind (f env) fun x => bind (lift x.bl?) fun t => if t then g env else ret (.bl false) := Eq.trans rfl rfl
theorem or_M {f g : Env → M D} {env : Env} : orM f g env = bind (f env) fun x => bind (lift x.bl?) fun t => if t then ret (.bl true) else g env := Eq.trans rfl rfl
theorem if_E {t : Env → M Bool} {f g : Env → M D} {env : Env} : ifM t f g env = bind (t env) fun b => if b then f env else g env := Eq.trans rfl rfl
theorem cons_A {f : Env → M D} {fs : Env → M (List D)} {env : Env} : consA f fs env = bind (f env) fun x => bind (fs env) fun xs => ret (x :: xs) := Eq.trans rfl rfl
theorem nil_A {env : Env} : nilA env = ret [] := Eq.trans rfl rfl
theorem tup_M {fs : Env → M (List D)} {env : Env} : tupM fs env = bind (fs env) fun xs => lift (if xs.length ≤ lim then some (.tup xs) else none) := Eq.trans rfl rfl
theorem new_M {f : Env → M (List D)} {env : Env} : newM f env = bind (f env) fun ds => ret (.lst ds) := Eq.trans rfl rfl
theorem dsp_N {fs : Env → M (List D)} {env : Env} : dspN fs env = bind (fs env) fun xs => if xs.length ≤ lim then ret xs else bad := Eq.trans rfl rfl
theorem sl_M {f : Env → M D} {l h : Env → M (Option Int)} {env : Env} : slM f l h env = bind (f env) fun x => bind (l env) fun l => bind (h env) fun h => lift (x.sl l h) := Eq.trans rfl rfl
theorem no_P {env : Env} : noP env = ret none := Eq.trans rfl rfl
theorem some_P {f : Env → M D} {env : Env} : someP f env = bind (f env) fun x => bind (lift x.int?) fun i => ret (some i) := Eq.trans rfl rfl
theorem it_M {f : Env → M D} {env : Env} : itM f env = bind (f env) fun d => lift d.items := Eq.trans rfl rfl
theorem lc_N {it : Env → M (List D)} {t : Tg} {vs : List Nat} {tt : Env → M Bool} {te : Env → M D} {env : Env} : lcN it t vs tt te env = bind (it env) fun xs => if xs.length ≤ lim then lcL t tt te (wipeE env vs) xs else bad := Eq.trans rfl rfl
theorem frz_S {i : Nat} {F : SEnv → M Fl} {env : SEnv} : frzS i F env = F (frzE i env) := Eq.trans rfl rfl
theorem ite_t {α : Type} {a b : α} : (if true = true then a else b) = a := if_pos rfl
theorem ite_f {α : Type} {a b : α} : (if false = true then a else b) = b := if_neg (fun z => nomatch z)
theorem ite_bl {a b : Bool} : (if a = true then ret (D.bl b) else ret (.bl false)) = ret (.bl (a && b)) := by cases a <;> rfl
theorem ite_bl' {a b : Bool} : (if a = true then ret (.bl true) else ret (D.bl b)) = ret (.bl (a || b)) := by cases a <;> rfl
theorem ite_B {a b : Bool} : (if a = true then ret b else ret false) = ret (a && b) := by cases a <;> rfl
theorem ite_B' {a b : Bool} : (if a = true then ret true else ret b) = ret (a || b) := by cases a <;> rfl
/-! ### numbers -/
theorem mod_int {i j : Int} (h : 0 < j) : D.mod (.int i) (.int j) = some (.int (i % j)) := if_pos h
theorem fdiv_int {i j : Int} (h : 0 < j) (h2 : j.natAbs.log2 < 9000) : D.fdiv (.int i) (.int j) = some (.int (i / j)) := if_pos ⟨h, h2⟩
theorem log2_small {i : Int} {k : Nat} (h : i.natAbs < 2 ^ k) (hk : 0 < k) : i.natAbs.log2 < k := by
  by_cases z : i.natAbs = 0
  · rw [z]; exact hk
  · exact (Nat.log2_lt z).mpr h
theorem mul_int {i j : Int} (h : i.natAbs.log2 < 4000) (h2 : j.natAbs.log2 < 4000) : D.mul (.int i) (.int j) = some (.int (i * j)) := if_pos (by omega)
theorem mul_str {x : Str} {n : Int} (h : 2 ≤ n ∧ n ≤ 1000 ∧ 1 ≤ x.length ∧ x.length ≤ 100) : D.mul (.str x) (.int n) = some (.str (repS n.toNat x)) := by
  simp only [D.mul, if_pos h]
theorem int_some {i : Int} : D.int? (.int i) = some i := Eq.trans rfl rfl
/-- a number of at most 64 bits -/
theorem log2_64 {i : Int} (h0 : 0 ≤ i) (h : i < 18446744073709551616) : i.natAbs.log2 < 64 := log2_small (k := 64) (by
  have : i.natAbs < 18446744073709551616 := by omega
  exact this) (by omega)
/-! the same, not by rfl alone -/
theorem b_ret {α β : Type} (a : α) (f : α → M β) : bind (ret a) f = f a := Eq.trans rfl rfl
theorem l_some {α : Type} (a : α) : lift (some a) = ret a := Eq.trans rfl rfl
theorem b_exc {α β : Type} {c : Nat} {fs : List (Str × D)} (f : α → M β) : bind (excM c fs) f = excM c fs := Eq.trans rfl rfl
theorem v_0 {d : D} {r : Env} : vr 0 (some d :: r) = ret d := Eq.trans rfl rfl
theorem nx_r {α : Type} (a : α) : nx (ret a) = ret a := Eq.trans rfl rfl
theorem w_1 {o0 : Option D} {d : D} {r : Env} : vr 1 (o0 :: some d :: r) = ret d := Eq.trans rfl rfl
theorem w_2 {o0 o1 : Option D} {d : D} {r : Env} : vr 2 (o0 :: o1 :: some d :: r) = ret d := Eq.trans rfl rfl
theorem w_3 {o0 o1 o2 : Option D} {d : D} {r : Env} : vr 3 (o0 :: o1 :: o2 :: some d :: r) = ret d := Eq.trans rfl rfl
theorem w_4 {o0 o1 o2 o3 : Option D} {d : D} {r : Env} : vr 4 (o0 :: o1 :: o2 :: o3 :: some d :: r) = ret d := Eq.trans rfl rfl
theorem w_5 {o0 o1 o2 o3 o4 : Option D} {d : D} {r : Env} : vr 5 (o0 :: o1 :: o2 :: o3 :: o4 :: some d :: r) = ret d := Eq.trans rfl rfl
theorem w_6 {o0 o1 o2 o3 o4 o5 : Option D} {d : D} {r : Env} : vr 6 (o0 :: o1 :: o2 :: o3 :: o4 :: o5 :: some d :: r) = ret d := Eq.trans rfl rfl
theorem w_7 {o0 o1 o2 o3 o4 o5 o6 : Option D} {d : D} {r : Env} : vr 7 (o0 :: o1 :: o2 :: o3 :: o4 :: o5 :: o6 :: some d :: r) = ret d := Eq.trans rfl rfl
theorem w_8 {o0 o1 o2 o3 o4 o5 o6 o7 : Option D} {d : D} {r : Env} : vr 8 (o0 :: o1 :: o2 :: o3 :: o4 :: o5 :: o6 :: o7 :: some d :: r) = ret d := Eq.trans rfl rfl
theorem w_9 {o0 o1 o2 o3 o4 o5 o6 o7 o8 : Option D} {d : D} {r : Env} : vr 9 (o0 :: o1 :: o2 :: o3 :: o4 :: o5 :: o6 :: o7 :: o8 :: some d :: r) = ret d := Eq.trans rfl rfl
theorem w_10 {o0 o1 o2 o3 o4 o5 o6 o7 o8 o9 : Option D} {d : D} {r : Env} : vr 10 (o0 :: o1 :: o2 :: o3 :: o4 :: o5 :: o6 :: o7 :: o8 :: o9 :: some d :: r) = ret d := Eq.trans rfl rfl
theorem w_11 {o0 o1 o2 o3 o4 o5 o6 o7 o8 o9 o10 : Option D} {d : D} {r : Env} : vr 11 (o0 :: o1 :: o2 :: o3 :: o4 :: o5 :: o6 :: o7 :: o8 :: o9 :: o10 :: some d :: r) = ret d := Eq.trans rfl rfl
theorem w_12 {o0 o1 o2 o3 o4 o5 o6 o7 o8 o9 o10 o11 : Option D} {d : D} {r : Env} : vr 12 (o0 :: o1 :: o2 :: o3 :: o4 :: o5 :: o6 :: o7 :: o8 :: o9 :: o10 :: o11 :: some d :: r) = ret d := Eq.trans rfl rfl
theorem w_13 {o0 o1 o2 o3 o4 o5 o6 o7 o8 o9 o10 o11 o12 : Option D} {d : D} {r : Env} : vr 13 (o0 :: o1 :: o2 :: o3 :: o4 :: o5 :: o6 :: o7 :: o8 :: o9 :: o10 :: o11 :: o12 :: some d :: r) = ret d := Eq.trans rfl rfl
theorem w_14 {o0 o1 o2 o3 o4 o5 o6 o7 o8 o9 o10 o11 o12 o13 : Option D} {d : D} {r : Env} : vr 14 (o0 :: o1 :: o2 :: o3 :: o4 :: o5 :: o6 :: o7 :: o8 :: o9 :: o10 :: o11 :: o12 :: o13 :: some d :: r) = ret d := Eq.trans rfl rfl
theorem w_15 {o0 o1 o2 o3 o4 o5 o6 o7 o8 o9 o10 o11 o12 o13 o14 : Option D} {d : D} {r : Env} : vr 15 (o0 :: o1 :: o2 :: o3 :: o4 :: o5 :: o6 :: o7 :: o8 :: o9 :: o10 :: o11 :: o12 :: o13 :: o14 :: some d :: r) = ret d := Eq.trans rfl rfl
theorem w_16 {o0 o1 o2 o3 o4 o5 o6 o7 o8 o9 o10 o11 o12 o13 o14 o15 : Option D} {d : D} {r : Env} : vr 16 (o0 :: o1 :: o2 :: o3 :: o4 :: o5 :: o6 :: o7 :: o8 :: o9 :: o10 :: o11 :: o12 :: o13 :: o14 :: o15 :: some d :: r) = ret d := Eq.trans rfl rfl
theorem w_17 {o0 o1 o2 o3 o4 o5 o6 o7 o8 o9 o10 o11 o12 o13 o14 o15 o16 : Option D} {d : D} {r : Env} : vr 17 (o0 :: o1 :: o2 :: o3 :: o4 :: o5 :: o6 :: o7 :: o8 :: o9 :: o10 :: o11 :: o12 :: o13 :: o14 :: o15 :: o16 :: some d :: r) = ret d := Eq.trans rfl rfl
theorem w_18 {o0 o1 o2 o3 o4 o5 o6 o7 o8 o9 o10 o11 o12 o13 o14 o15 o16 o17 : Option D} {d : D} {r : Env} : vr 18 (o0 :: o1 :: o2 :: o3 :: o4 :: o5 :: o6 :: o7 :: o8 :: o9 :: o10 :: o11 :: o12 :: o13 :: o14 :: o15 :: o16 :: o17 :: some d :: r) = ret d := Eq.trans rfl rfl
theorem w_19 {o0 o1 o2 o3 o4 o5 o6 o7 o8 o9 o10 o11 o12 o13 o14 o15 o16 o17 o18 : Option D} {d : D} {r : Env} : vr 19 (o0 :: o1 :: o2 :: o3 :: o4 :: o5 :: o6 :: o7 :: o8 :: o9 :: o10 :: o11 :: o12 :: o13 :: o14 :: o15 :: o16 :: o17 :: o18 :: some d :: r) = ret d := Eq.trans rfl rfl
theorem lim_eq : lim = 100000 := Eq.trans rfl rfl
theorem lam_M {S : M D → M D} {f : Env → M D} {env : Env} : lamM S f env = nx (S (f env)) := Eq.trans rfl rfl
theorem seq_frz {i : Nat} {F G : SEnv → M Fl} {env : SEnv} : seqS (frzS i F) G env = seqS F G (frzE i env) := Eq.trans rfl rfl
def appG (f : Env → M D) (i : Nat) (env : SEnv) (G : SEnv → M Fl) : Option Sl → M Fl
  | some (.ow ds) => bind (f (vw env)) fun d => if ds.length < lim then G (env.set i (.ow (ds ++ [d]))) else bad
  | _ => bad
theorem seq_app {i : Nat} {f : Env → M D} {G : SEnv → M Fl} {env : SEnv} : seqS (appS i f) G env = appG f i env G env[i]? := by
  unfold seqS appS
  cases env[i]? with
  | none => rfl
  | some s =>
    cases s with
    | ow ds =>
      show bind (bind _ _) _ = bind _ _
      rw [bind_bind]
      congr 1
      funext d
      by_cases h : ds.length < lim
      · rw [if_pos h, if_pos h]; rfl
      · rw [if_neg h, if_neg h]; rfl
    | _ => rfl
theorem appG_ow {f : Env → M D} {i : Nat} {env : SEnv} {G : SEnv → M Fl} {ds : List D} : appG f i env G (some (.ow ds)) = bind (f (vw env)) fun d => if ds.length < lim then G (env.set i (.ow (ds ++ [d]))) else bad := Eq.trans rfl rfl
def frzG (i : Nat) (env : SEnv) : Option Sl → SEnv
  | some (.ow ds) => env.set i (.dt (.lst ds))
  | some (.od ds) => env.set i (.dt (.dic ds))
  | _ => env
theorem frz_E {i : Nat} {env : SEnv} : frzE i env = frzG i env env[i]? := by
  unfold frzE
  cases env[i]? with
  | none => rfl
  | some s => cases s <;> rfl
theorem frzG_ow {i : Nat} {env : SEnv} {ds : List D} : frzG i env (some (.ow ds)) = env.set i (.dt (.lst ds)) := Eq.trans rfl rfl
theorem frzG_dt {i : Nat} {env : SEnv} {d : D} : frzG i env (some (.dt d)) = env := Eq.trans rfl rfl
def mtG (g : D → D → Option D) (x : D) (m : M D) : M D := match x with
  | .str x => bind m fun y => lift (g (.str x) y)
  | _ => bad
theorem mt1_G {g : D → D → Option D} {fo fe : Env → M D} {env : Env} : mt1M g fo fe env = bind (fo env) fun x => mtG g x (fe env) := by
  unfold mt1M
  congr 1
  funext x
  cases x <;> rfl
theorem mtG_str {g : D → D → Option D} {x : Str} {m : M D} : mtG g (.str x) m = bind m fun y => lift (g (.str x) y) := Eq.trans rfl rfl
theorem rng_1 {f : Env → M D} {env : Env} : rng1M (consA f nilA) env = bind (f env) fun a => lift (rng1D [a]) := by
  unfold rng1M consA nilA; rw [bind_bind]; rfl
theorem rng_2 {f g : Env → M D} {env : Env} : rng2M (consA f (consA g nilA)) env = bind (f env) fun a => bind (g env) fun b => lift (rng2D [a, b]) := by
  unfold rng2M consA nilA; simp only [bind_bind, bind_ret]
theorem put_D {env : Env} {i : Nat} {d : D} : putD env [(i, d)] = env.set i (some d) := Eq.trans rfl rfl
theorem Run.lc {i : Nat} {te : Env → M D} {env : Env} {k n : Nat} {P : D → Prop} {xs : List D} (hn : xs.length ≤ n) (h : ∀ x ∈ xs, Run k P (te (env.set i (some x)))) : Run (k * n) (fun ys => ys.length = xs.length ∧ ∀ y ∈ ys, P y) (lcL (.nm i) yesT te env xs) :=
  Run.mono (lcL_run fun x hx => ⟨_, l_nm i x, h x hx⟩) (Nat.mul_le_mul_left k hn) fun _ z => z
theorem Run.b {α β : Type} {k n : Nat} {P : α → Prop} {Q : β → Prop} {m : M α} {f : α → M β} (h : Run k P m) (h' : ∀ a, P a → Run (n - k) Q (f a)) (hk : k ≤ n := by omega) : Run n Q (Dv.bind m f) :=
  Run.mono (Run.bind h h') (by omega) fun _ z => z
theorem Run.r {α : Type} {k : Nat} {P : α → Prop} {a : α} (h : P a) : Run k P (Dv.ret a) := Run.mono (Run.ret h) (Nat.zero_le _) fun _ z => z
theorem Run.i {α : Type} {k : Nat} {P : α → Prop} {b : Bool} {m m' : M α} (h : b = true → Run k P m) (h' : b = false → Run k P m') : Run k P (if b = true then m else m') := by
  cases b with
  | true => exact h rfl
  | false => exact h' rfl
theorem Run.bi {α β : Type} {k : Nat} {P : β → Prop} {b : Bool} {m m' : M α} {f : α → M β} (h : b = true → Run k P (Dv.bind m f)) (h' : b = false → Run k P (Dv.bind m' f)) : Run k P (Dv.bind (if b = true then m else m') f) := by
  cases b with
  | true => exact h rfl
  | false => exact h' rfl
theorem Run.le {α : Type} {k k' : Nat} {P : α → Prop} {m : M α} (h : Run k P m) (hk : k ≤ k' := by omega) : Run k' P m := Run.mono h hk fun _ z => z
theorem Run.lim {α : Type} {k n : Nat} {P : α → Prop} {m m' : M α} (h : n ≤ lim) (r : Run k P m) : Run k P (if n ≤ lim then m else m') := by rw [if_pos h]; exact r
/-! ### dice -/
def getM (k : Nat) : M D := fun δ => .ok (.int (δ.at k)) δ
def dgetM (k : Nat) : D → M D
  | .dice => getM k
  | _ => bad
def putM {α : Type} (k : Nat) (i : Int) (m : M α) : M α := fun δ => m (δ.set k i)
def dputM {α : Type} (k : Nat) (m : M α) : D → D → M α
  | .dice, .int i => putM k i m
  | _, _ => bad
theorem dix_M {k : Nat} {f : Env → M D} {env : Env} : dixM k f env = bind (f env) (dgetM k) := by
  unfold dixM
  congr 1
theorem dget_dice {k : Nat} : dgetM k .dice = getM k := Eq.trans rfl rfl
theorem dput_dice {α : Type} {k : Nat} {m : M α} {i : Int} : dputM k m .dice (.int i) = putM k i m := Eq.trans rfl rfl
theorem get_bind {α : Type} {k : Nat} {f : D → M α} {δ : Dice} : bind (getM k) f δ = f (.int (δ.at k)) δ := Eq.trans rfl rfl
theorem put_bind {α β : Type} {k : Nat} {i : Int} {m : M α} {f : α → M β} : bind (putM k i m) f = putM k i (bind m f) := Eq.trans rfl rfl
theorem put_at {α : Type} {k : Nat} {i : Int} {m : M α} {δ : Dice} : putM k i m δ = m (δ.set k i) := Eq.trans rfl rfl
theorem seq_dice {k : Nat} {fa fe : Env → M D} {G : SEnv → M Fl} {env : SEnv} : seqS (diceS k fa fe) G env = bind (fe (vw env)) fun v => bind (fa (vw env)) fun x => dputM k (G env) x v := by
  unfold seqS diceS
  rw [bind_bind]
  congr 1
  funext v
  rw [bind_bind]
  congr 1
  funext x
  cases x <;> cases v <;> rfl
theorem at_0 {δ : Dice} : δ.at 0 = δ.1 := Eq.trans rfl rfl
theorem at_2 {δ : Dice} : δ.at 2 = δ.2.2 := Eq.trans rfl rfl
theorem toInt_i {i : Int} : D.toInt [.int i] = some (.int i) := Eq.trans rfl rfl
theorem toInt_b {b : Bool} : D.toInt [.bl b] = some (.int (if b then 1 else 0)) := Eq.trans rfl rfl
theorem add_int {i j : Int} : D.add (.int i) (.int j) = some (.int (i + j)) := Eq.trans rfl rfl
theorem sub_int {i j : Int} : D.sub (.int i) (.int j) = some (.int (i - j)) := Eq.trans rfl rfl
end Dv
set_option maxHeartbeats 4000000
namespace Dv
open PySem PySem.Spec PyProof.Rows L2
theorem powB_int {i j : Int} (h : 2 ≤ i ∧ 1 ≤ j ∧ ((Builtin.Int.intBits i : Nat) : Int) * j ≤ 100000) : D.powB (.int i) (.int j) = some (.int (i ^ j.toNat)) := by
  simp only [D.powB, if_pos h]
theorem nil_S {env : SEnv} : nilS env = ret (.next env) := Eq.trans rfl rfl
theorem dsp_D {kvs : Pm} {env : Env} : dspD kvs env = bind (pairsM kvs env) fun l => lift (D.disp l) := Eq.trans rfl rfl
theorem prs_nil {env : Env} : pairsM [] env = ret [] := Eq.trans rfl rfl
theorem prs_cons {f g : Env → M D} {r : Pm} {env : Env} : pairsM ((f, g) :: r) env = bind (f env) fun x => bind (g env) fun y => bind (pairsM r env) fun l => ret ((x, y) :: l) := Eq.trans rfl rfl
theorem ret_W {f : Env → M (List D)} {env : SEnv} : retW f env = bind (f (vw env)) fun ds => ret (.nw ds) := Eq.trans rfl rfl
theorem seq_asgT {t : Tg} {f : Env → M D} {G : SEnv → M Fl} {env : SEnv} : seqS (asgT t f) G env = bind (f (vw env)) fun d => bind (lift (t.l d)) fun m => G (putS env m) := by
  unfold seqS asgT
  rw [bind_bind]
  congr 1
  funext d
  rw [bind_bind]
  rfl
theorem put_S0 {env : SEnv} : putS env [] = env := Eq.trans rfl rfl
theorem put_S {env : SEnv} {i : Nat} {d : D} {r : List (Nat × D)} : putS env ((i, d) :: r) = putS (env.set i (.dt d)) r := Eq.trans rfl rfl
theorem put_D0 {env : Env} : putD env [] = env := Eq.trans rfl rfl
theorem put_Dc {env : Env} {i : Nat} {d : D} {r : List (Nat × D)} : putD env ((i, d) :: r) = putD (env.set i (some d)) r := Eq.trans rfl rfl
theorem tg_nm {i : Nat} {d : D} : (Tg.nm i).l d = some [(i, d)] := l_nm i d
theorem tg_2 {i j : Nat} {a b : D} : (Tg.tp [.nm i, .nm j]).l (.tup [a, b]) = some [(i, a), (j, b)] := by simp [Tg.l, Tg.ls]
theorem tg_3 {i j k : Nat} {a b c : D} : (Tg.tp [.nm i, .nm j, .nm k]).l (.tup [a, b, c]) = some [(i, a), (j, b), (k, c)] := by simp [Tg.l, Tg.ls]
theorem seq_for {it : Env → M (List D)} {t : Tg} {F G : SEnv → M Fl} {env : SEnv} : seqS (forM it t F) G env = bind (it (vw env)) fun xs => bind (forL t F xs env) (nextM G) := by
  rw [seq_gen]
  unfold forM
  rw [bind_bind]
theorem for_M {it : Env → M (List D)} {t : Tg} {F : SEnv → M Fl} {env : SEnv} : forM it t F env = bind (it (vw env)) fun xs => forL t F xs env := Eq.trans rfl rfl
def goesOn (I : SEnv → Prop) (r : Fl) : Prop := ∃ e, r = .next e ∧ I e
/-- a loop that is never left ahead of its end -/
theorem Run.forL {t : Tg} {F : SEnv → M Fl} {I : SEnv → Prop} {k n : Nat} : ∀ {xs : List D} {e : SEnv}, xs.length ≤ n → (∀ x ∈ xs, ∀ e, I e → ∃ m, t.l x = some m ∧ Run k (fun r => ∃ e', (r = .next e' ∨ r = .cont e') ∧ I e') (F (putS e m))) → I e → Run (k * n) (goesOn I) (forL t F xs e)
  | [], e, _, _, h => Run.r ⟨e, rfl, h⟩
  | x :: xs, e, hn, hb, h => by
    obtain ⟨m, h1, h2⟩ := hb x List.mem_cons_self e h
    have hn' : xs.length + 1 ≤ n := hn
    obtain ⟨n', rfl⟩ : ∃ n', n = n' + 1 := ⟨n - 1, by omega⟩
    unfold Dv.forL
    rw [h1, l_some, b_ret]
    refine Run.mono (Run.bind (k' := k * n') h2 fun r hr => ?_) (by rw [Nat.mul_succ, Nat.add_comm]; exact Nat.le_refl _) fun _ z => z
    obtain ⟨e', hr, he⟩ := hr
    have ih := Run.forL (t := t) (F := F) (I := I) (k := k) (n := n') (xs := xs) (e := e') (by omega) (fun y hy => hb y (List.mem_cons_of_mem _ hy)) he
    rcases hr with rfl | rfl <;> exact ih
/-! ### plain data, for == and repr -/
/-- d is the datum p, which can be compared and shown -/
structure Pl (n w : Nat) (d : D) (p : PyData) : Prop where
  py : d.py = some p
  lay : p.canLay0 = true
  dep : p.depth ≤ n
  sh : shOk p = true
  wt : shW p ≤ w
  as_ : shA p = true
theorem Pl.shaped {n w : Nat} {d : D} {p : PyData} (h : Pl n w d p) (hn : n ≤ 60) : SeqAt.shaped p = true := by
  unfold SeqAt.shaped
  rw [h.lay, decide_eq_true (by have := h.dep; omega)]
  rfl
structure PlL (n w : Nat) (ds : List D) (ps : List PyData) : Prop where
  py : D.pyL ds = some ps
  lay : PyData.canLayAll0 ps = true
  dep : PyData.depthAll ps ≤ n
  sh : shOks ps = true
  wt : shWs ps ≤ (w + 2) * ds.length
  as_ : shAs ps = true
  len : ps.length = ds.length
theorem PlL.lst {n w : Nat} {ds : List D} {ps : List PyData} (h : PlL n w ds ps) : Pl (n + 1) ((w + 2) * ds.length + 3) (.lst ds) (.list ps) where
  py := by simp [D.py, h.py]
  lay := by simp [PyData.canLay0, h.lay]
  dep := by simp only [PyData.depth]; have := h.dep; omega
  sh := by simp [shOk, h.sh]
  wt := by simp only [shW]; have := h.wt; omega
  as_ := by simp [shA, h.as_]
theorem PlL.tup {n w : Nat} {ds : List D} {ps : List PyData} (h : PlL n w ds ps) : Pl (n + 1) ((w + 2) * ds.length + 3) (.tup ds) (.tuple ps) where
  py := by simp [D.py, h.py]
  lay := by simp [PyData.canLay0, h.lay]
  dep := by simp only [PyData.depth]; have := h.dep; omega
  sh := by simp [shOk, h.sh]
  wt := by simp only [shW]; have := h.wt; omega
  as_ := by simp [shA, h.as_]
theorem Pl.mono {n n' w w' : Nat} {d : D} {p : PyData} (h : Pl n w d p) (hn : n ≤ n') (hw : w ≤ w') : Pl n' w' d p := ⟨h.py, h.lay, Nat.le_trans h.dep hn, h.sh, Nat.le_trans h.wt hw, h.as_⟩
theorem Pl.repr {n w : Nat} {d : D} {p : PyData} (h : Pl n w d p) (hn : n ≤ 60) (hw : w ≤ 10000000) : D.repr [d] = some (.str p.shown) ∧ asc p.shown = true := by
  refine ⟨?_, asc_shown p h.as_⟩
  simp only [D.repr, h.py]
  refine if_pos ?_
  unfold reprOk
  rw [h.sh, decide_eq_true (Nat.le_trans h.wt hw), decide_eq_true (Nat.le_trans h.dep hn)]
  rfl
theorem Pl.eq {n n' w w' : Nat} {d d' : D} {p p' : PyData} (h : Pl n w d p) (h' : Pl n' w' d' p') (hn : n ≤ 60) (hn' : n' ≤ 60) : D.eq d d' = some (.bl (PyData.eqv p p')) :=
  two_some' (c := okEq) (f := PyData.eqv) h.py h'.py (by unfold okEq; rw [h.shaped hn, h'.shaped hn']; rfl)
theorem Pl.ne {n n' w w' : Nat} {d d' : D} {p p' : PyData} (h : Pl n w d p) (h' : Pl n' w' d' p') (hn : n ≤ 60) (hn' : n' ≤ 60) : D.ne d d' = some (.bl (!PyData.eqv p p')) :=
  two_some' (c := okEq) (f := fun p q => !PyData.eqv p q) h.py h'.py (by unfold okEq; rw [h.shaped hn, h'.shaped hn']; rfl)
end Dv
set_option maxHeartbeats 2000000
namespace Dv
open PySem PySem.Spec PyProof.Rows L2
/-! ### the law's call, by a contract FnG -/
/-- what is tracked at the start: the script, if it is not written, and the tables ts -/
def H0 (K : PySem.W.Frag) (a : Addr) (vs : List Value) (ns : List Int) (ts : List Addr) : Hp := fun b =>
  if b ∈ ts then some (.tbl #[]) else if b = a ∧ K.lookup a = none then some (.frz { cls := .type "list", data := .seq vs.toArray } (.lst (ns.map V.int))) else none
section
variable {P : Program} {w : World} {K : PySem.W.Frag} {mg mb : Str → Option Value} {k : Nat} {fa a : Addr} {cs : List (Addr × Addr)} {fd : FuncData} {x : Str} {sp : Sp} {t : Shared} {vs : List Value} {ns : List Int}
theorem H0_tab {ts : List Addr} {b : Addr} (h : b ∈ ts) : H0 K a vs ns ts b = some (.tbl #[]) := if_pos h
theorem H0_some {ts : List Addr} {b : Addr} {u : HO} (h : H0 K a vs ns ts b = some u) : (b ∈ ts ∧ u = .tbl #[]) ∨ (b ∉ ts ∧ b = a ∧ K.lookup a = none ∧ u = .frz { cls := .type "list", data := .seq vs.toArray } (.lst (ns.map V.int))) := by
  unfold H0 at h
  split at h
  · rename_i z; cases h; exact .inl ⟨z, rfl⟩
  · rename_i z
    split at h
    · rename_i q; cases h; exact .inr ⟨z, q.1, q.2, rfl⟩
    · cases h
/-- an object that is neither the script nor a table is not tracked -/
theorem H0_other {b : Addr} {o : Obj} (ha : t.heap.get? a = some { cls := .type "list", data := .seq vs.toArray }) (hT : ∀ q ∈ cs, t.heap.get? q.2 = some { cls := .none, data := .fields #[] }) (e : t.heap.get? b = some o)
    (n1 : ∀ l n, o.data = .seq l n → False) (n2 : o.data = .fields #[] → False) : H0 K a vs ns (cs.map (·.2)) b = none := by
  cases q : H0 K a vs ns (cs.map (·.2)) b with
  | none => rfl
  | some u =>
    exfalso
    rcases H0_some q with ⟨m, _⟩ | ⟨_, m, _⟩
    · obtain ⟨c, hc, rfl⟩ := List.mem_map.mp m
      rw [hT c hc] at e; cases e; exact n2 rfl
    · subst m
      rw [ha] at e; cases e; exact n1 _ _ rfl
theorem law_end (KX : K.In t.heap) (hns : t.heap.Ns mainGlobals mg) (hb : t.heap.Ns builtinsNs mb) (hbb : ∀ y : Str, y ≠ "__name__" → mb y = bootBuiltins y) (hlim : t.heap.NoLimit) (hg : t.gens = #[])
    (hT : ∀ q ∈ cs, t.heap.get? q.2 = some { cls := .none, data := .fields #[] }) (nT : ∀ q ∈ cs, K.lookup q.2 = none) (C : ∀ q ∈ cs, PySem.W.CodeHd t.heap q.1 q.2)
    (hbm : ∃ (m : Addr) (om : Obj), mg "__builtins__" = some (.ref m) ∧ m ≠ builtinsNs ∧ t.heap.get? m = some om ∧ om.cls = .type "module" ∧ om.dict = some builtinsNs ∧ om.data = .plain)
    (ha : t.heap.get? a = some { cls := .type "list", data := .seq vs.toArray }) (hi : IntsAre vs ns) (hl : ns.length ≤ sizeLine) (hr : RoomG k callerA)
    (F : ∀ base : Heap, K.In base → base.Ns mainGlobals mg → (∀ q ∈ cs, LamX.TabB base mg q.1 q.2) → FnG P w K mg base k fa fd [x] sp) (hbind : ∀ (s : Shared) (u : Value), BindsTo s fd ⟨[u], []⟩ [(x, u)])
    (hsp : ∀ H : Hp, (∀ q ∈ cs, H q.2 = some (.tbl #[])) → (∀ b u, H b = some u → u = .tbl #[] ∨ ∃ o l, u = .frz o (.lst l)) → SqL K H a (ns.map V.int) → sp [.ref a] H (fun v _ => v = .bl true) fun _ _ _ => False) :
    codeAny (model P w) callerA (.call (.ref fa) ⟨[.ref a], []⟩) (fun r u => r = .ok (.ret (.bool true)) ∧ OldK t.heap u.heap ∧ u.os = t.os ∧ AllBare u.gens) t := by
  have rv := vals_ints hi
  have aT : a ∉ cs.map (·.2) := fun z => by
    obtain ⟨c, hc, e⟩ := List.mem_map.mp z
    have q := hT c hc
    rw [e, ha] at q
    cases q
  generalize hH : H0 K a vs ns (cs.map (·.2)) = H
  have at_ : ∀ q ∈ cs, H q.2 = some (.tbl #[]) := fun q hq => by rw [← hH]; exact H0_tab (List.mem_map.mpr ⟨q, hq, rfl⟩)
  have form : ∀ b u, H b = some u → u = .tbl #[] ∨ ∃ o l, u = .frz o (.lst l) := fun b u e => by
    rw [← hH] at e
    exact (H0_some e).elim (fun z => .inl z.2) fun z => .inr ⟨_, _, z.2.2.2⟩
  have free : ∀ {b : Addr} {o : Obj}, t.heap.get? b = some o → (∀ l n, o.data = .seq l n → False) → (o.data = .fields #[] → False) → H b = none := fun e n1 n2 => by
    rw [← hH]
    exact H0_other ha hT e n1 n2
  have hok : HOk P w H t.heap := fun b u e => by
    rw [← hH] at e
    rcases H0_some e with ⟨m, rfl⟩ | ⟨_, rfl, _, rfl⟩
    · obtain ⟨c, hc, rfl⟩ := List.mem_map.mp m
      exact hT c hc
    · exact ⟨ha, by rw [List.length_map]; exact hl, vs, _, rv, ha⟩
  have hS : SqL K H a (ns.map V.int) := by
    cases q : K.lookup a with
    | none => exact .inl (.inr ⟨_, by rw [← hH]; exact (if_neg aT).trans (if_pos ⟨rfl, q⟩)⟩)
    | some o =>
      have e := KX a o q
      rw [ha] at e
      cases e
      exact .inr ⟨_, vs.toArray, _, q, rfl, rfl, rfl, by rw [List.size_toArray, hi.length]; exact hl, by simpa using rv⟩
  have up : ∀ {b : Addr} {m : Str → Option Value}, t.heap.Ns b m → (hidT t.heap H).Ns b m := fun {b m} ⟨o, es, ep, e, d, r⟩ =>
    ⟨o, es, ep, hidT_get e (free e (fun l n z => by rw [d] at z; cases z) fun z => by rw [d] at z; cases z), d, r⟩
  have KB : K.In (hidT t.heap H) := fun b o e => hidT_get (KX b o e) (by
    cases q : H b with
    | none => rfl
    | some u =>
      exfalso
      rw [← hH] at q
      rcases H0_some q with ⟨m, _⟩ | ⟨_, rfl, n, _⟩
      · obtain ⟨c, hc, rfl⟩ := List.mem_map.mp m
        rw [nT c hc] at e; cases e
      · rw [n] at e; cases e)
  have TB : ∀ q ∈ cs, LamX.TabB (hidT t.heap H) mg q.1 q.2 := fun q hq => by
    have hTq := hT q hq
    constructor
    · obtain ⟨o, us, f1, f2, f3, f4, f5, f6, f7, e1, r1, r2, r3, r4⟩ := C q hq
      exact ⟨o, us, f1, f2, f3, f4, f5, f6, f7, hidT_get e1 (free e1 (fun l n z => by rw [r2] at z; cases z) fun z => by
        rw [r2] at z
        cases z
        simp at r3), r1, r2, r3, r4⟩
    · obtain ⟨m, om, b1, b2, b3, b4, b5, b6⟩ := hbm
      refine ⟨m, om, b1, b2, fun z => ?_, fun z => ?_, hidT_get b3 (free b3 (fun l n z => by rw [b6] at z; cases z) fun z => by rw [b6] at z; cases z), b4, b5, b6⟩
      · obtain ⟨o, es, ep, e, hd, _⟩ := hns
        rw [z, e] at b3; cases b3
        rw [hd] at b6; cases b6
      · rw [z, hTq] at b3; cases b3; cases b6
    · intro z
      obtain ⟨o, es, ep, e, hd, _⟩ := hns
      rw [z, hTq] at e; cases e; cases hd
  have md : L2.Mod K mg (hidT t.heap H) := ⟨KB, up hns, ⟨mb, up hb, hbb⟩, hlim.elim fun mc z => ⟨mc, up z.1, z.2⟩⟩
  have e0 : Env0 P w K mg (hidT t.heap H) callerA [] t H := ⟨rfl, md, fun b o e => of_hidT e, Nat.le_of_eq (hidT_size _ _), trivial, fun b z => absurd (show b ∈ ([] : List Addr) from z) (by simp), hok, .of_eq hg⟩
  refine codeAny_mono ((F _ KB (up hns) TB).runs callerA [] t H ⟨[.ref a], []⟩ [.ref a] [.ref a] _ _ hr e0 (hbind t (.ref a)) (.cons rfl .nil) (hsp H at_ form hS)) fun r u h => ?_
  cases r with
  | error e =>
    obtain ⟨_, _, _, _, _, _, _, _, _, _, _, _, z⟩ := h
    exact z.elim
  | ok fl =>
    cases fl with
    | ret y =>
      obtain ⟨v, G, os, bare, un, okG, rel, q⟩ := h
      have q : v = .bl true := q
      subst q
      have : y = Value.bool true := rel
      subst this
      have kept : ∀ b o, b ∉ cs.map (·.2) → t.heap.get? b = some o → u.heap.get? b = some o := fun b o nb e => by
        cases q : H b with
        | none => exact un.keep b o e q (fun z => absurd (show b ∈ ([] : List Addr) from z) (by simp)) (by simp)
        | some y =>
          rcases form b y q with rfl | ⟨o2, l, rfl⟩
          · rw [← hH] at q
            exact ((H0_some q).elim (fun z => absurd z.1 nb) fun z => nomatch z.2.2.2)
          · have h1 := (hok b _ q).1
            rw [e] at h1
            cases h1
            exact (okG b _ (un.frzs b _ _ q)).1
      have more : ∀ c ∈ cs, ∃ m : Array Value, u.heap.get? c.2 = some { cls := .none, data := .fields m } := fun c hc => by
        obtain ⟨m, z⟩ := un.tbls c.2 #[] (at_ c hc)
        exact ⟨_, okG c.2 _ z⟩
      refine ⟨rfl, ⟨fun b o e => ?_, fun b o e => ?_⟩, os, bare⟩
      · by_cases hm : b ∈ cs.map (·.2)
        · obtain ⟨c, hc, rfl⟩ := List.mem_map.mp hm
          obtain ⟨m, hm⟩ := more c hc
          rw [hT c hc] at e
          cases e
          exact .inr (.inl ⟨((C c hc).tab (hT c hc)).isCodeTable, rfl, #[], m, rfl, by rw [Array.empty_append]; exact hm⟩)
        · exact .inl (kept b o hm e)
      · by_cases hm : b ∈ cs.map (·.2)
        · obtain ⟨c, hc, rfl⟩ := List.mem_map.mp hm
          exact (more c hc).elim fun m z => ⟨_, z⟩
        · exact ⟨o, kept b o hm e⟩
    | _ => exact h.elim
end
/-- without the tables -/
def noTab (H : Hp) : Hp := fun b => match H b with
  | some (.tbl _) => none
  | z => z
/-- the walk of a law whose mirror gives True -/
theorem walk_G {l : PySem.W.OpenLaw} {n k : Nat} {q : Program} {loose : List Str} {XP : (Str → Option Value) → Heap → Prop} {YP : World → Heap → Prop} {d : DefRec} {x : Str}
    (hn : l.most = some n) (hn2 : n ≤ sizeLine) (hdf : d.params.defaults = []) (hr : RoomG k callerA)
    (F : ∀ (w : World) (mg : Str → Option Value) (fa : Addr) (h : Heap), YP w h → h.Ns mainGlobals mg → mg d.name = some (.ref fa) →
      ∃ (K : PySem.W.Frag) (fd : FuncData) (cs : List (Addr × Addr)) (cm : Nat → Addr) (tb : List (Addr × Str)) (T : List D → M D), K.In h ∧ (∀ p ∈ cs, h.get? p.2 = some { cls := .none, data := .fields #[] }) ∧ (∀ p ∈ cs, K.lookup p.2 = none) ∧ (∀ p ∈ cs, PySem.W.CodeHd h p.1 p.2) ∧
        (∀ p ∈ tb, ∃ c ∈ cs, c.2 = p.1) ∧ (∀ (s : Shared) (u : Value), BindsTo s fd ⟨[u], []⟩ [(x, u)]) ∧ (∀ ns : List Int, ns.length ≤ n → ∀ δ, ∃ δ', T [.scr ns] δ = .ok (.bl true) δ') ∧
        ∀ base : Heap, K.In base → base.Ns mainGlobals mg → (∀ p ∈ cs, LamX.TabB base mg p.1 p.2) → FnG l.prog w K mg base k fa fd [x] (spM0 K cm tb 1 T)) :
    PySem.W.WalkO q loose XP YP l.row.toRowW d [] (fun f vs => PySem.call f vs) := by
  refine Att.attach_callB hn hdf fun w s₀ s₁ mg mb fa o pm cd doc a vs ns G Y ho hd hcd hmg hobj hints hlen hbits hg => ?_
  obtain ⟨K, fd, cs, cm, tb, T, KX, hT, nT, C, htb, hb, hlaw, hF⟩ := F w mg fa _ Y G.T.g hmg
  refine law_end KX G.T.g G.T.b G.T.builtins G.T.nolimit hg hT nT C G.T.bmain hobj hints (Nat.le_trans hlen hn2) hr hF hb fun H hH form hS => ⟨rfl, ⟨⟨none, cm⟩, tb, fun _ => True, fun _ _ _ _ => trivial, none⟩, ?_⟩
  obtain ⟨δ', e⟩ := hlaw ns hlen (0, 0, 0)
  refine ⟨noTab H, (0, 0, 0), [.scr ns], rfl, rfl, ⟨fun b u z => ?_, fun b z => (nomatch z), fun p hp => ?_, trivial, fun b ps z => ?_⟩, .cons (.scr ?_) .nil, ?_⟩
  · unfold noTab at z
    cases q : H b with
    | none => rw [q] at z; cases z
    | some y => rw [q] at z; cases y <;> first | (cases z; done) | exact z
  · obtain ⟨c, hc, e⟩ := htb p hp
    exact ⟨#[], by rw [← e]; exact hH c hc, trivial, fun pos cv z => nomatch z⟩
  · unfold noTab at z
    cases q : H b with
    | none => rw [q] at z; cases z
    | some y => rw [q] at z; cases y <;> cases z
  · rcases hS with (z | ⟨o, z⟩) | z
    · exact .inl (.inl (by unfold noTab; rw [z]))
    · exact .inl (.inr ⟨o, by unfold noTab; rw [z]⟩)
    · exact .inr z
  · rw [e]
    intro v Hk' H' _ _ r
    cases r
    rfl
end Dv
set_option maxHeartbeats 2000000
namespace Dv
open PySem PySem.Spec PyProof.Rows L2
/-! ### the head's facts -/
/-- an own error's __init__: its class, the statement, the error's one parameter, its field -/
structure InitD where
  x : Str
  st : Stmt
  p : Str
  f : Str
abbrev InV : Type := Option (Str × Str × Arguments × FuncBody × Scope × Addr × List Str × Addr)
def initAt (K : PySem.W.Frag) (x : Str) : Addr := He.ma K (He.ga K x) "__init__"
def initObs (K : PySem.W.Frag) (x : Str) : InV := match K.lookup (initAt K x) with
  | some ⟨_, _, .func fd, _⟩ => some (fd.name, fd.qualname, fd.params, fd.body, fd.scope, fd.globals, fd.closure.map (·.1), fd.builtins)
  | _ => none
def InitD.val (d : InitD) : InV := some ("__init__", d.x ++ ".__init__", defArgs d.st, .stmts (defBody d.st), defScope d.st, mainGlobals, ["__class__"], builtinsNs)
/-- the function's rest -/
def supFn4 (file : Str) (K : PySem.W.Frag) (x q : Str) : Value → Value → List (Str × Addr) → Value → Bool
  | .none, .none, [(_, cc)], .ref cda => PySem.W.codeIn K (.ref cda) q && ((match K.lookup cc with
        | some ⟨_, _, .cell (some (.ref C)), _⟩ => C == He.ga K x
        | _ => false) && (match K.lookup cda with
        | some ⟨_, _, .fields vs, _⟩ => (match vs[2]? with
          | some (Value.str f _) => f == file
          | _ => false)
        | _ => false))
  | _, _, _, _ => false
theorem supFn4_ok {file : Str} {K : PySem.W.Frag} {x q : Str} {a b c : Value} {l : List (Str × Addr)} (h : supFn4 file K x q a b l c = true) : ∃ nm cc cda, a = .none ∧ b = .none ∧ l = [(nm, cc)] ∧ c = .ref cda ∧ PySem.W.codeIn K (.ref cda) q = true ∧
    (∃ (cl : Value) (cld : Option Addr) (csl : Array (Option Value)), K.lookup cc = some ⟨cl, cld, .cell (some (.ref (He.ga K x))), csl⟩) ∧
    (∃ (ccl : Value) (cdd : Option Addr) (vs : Array Value) (ccs : Array (Option Value)) (f : Str) (tf : Tok), K.lookup cda = some ⟨ccl, cdd, .fields vs, ccs⟩ ∧ vs[2]? = some (.str f tf) ∧ f = file) := by
  unfold supFn4 at h
  split at h
  · rename_i nm cc cda
    simp only [Bool.and_eq_true] at h
    obtain ⟨c21, c22, c23⟩ := h
    refine ⟨nm, cc, cda, rfl, rfl, rfl, rfl, c21, ?_, ?_⟩
    · split at c22
      · rename_i cl cld C csl e
        exact ⟨cl, cld, csl, by rw [e, beq_iff_eq.mp c22]⟩
      · cases c22
    · split at c23
      · rename_i ccl cdd vs ccs e
        split at c23
        · rename_i f tf e9
          exact ⟨ccl, cdd, vs, ccs, f, tf, e, e9, beq_iff_eq.mp c23⟩
        · cases c23
      · cases c23
  · cases h
def supFn (file : Str) (K : PySem.W.Frag) (x : Str) : Bool := match K.lookup (initAt K x) with
  | some ⟨_, _, .func fd, _⟩ => supFn4 file K x fd.qualname fd.defaults fd.kwdefaults fd.closure fd.code
  | _ => false
/-- what is asked of the text alone -/
structure SupSt (prog : Program) (d : InitD) (msg : Expr) : Prop where
  ab : ∃ p1 p2 q1 q2 q3 q4 q5 q6 q7 q8 q9 : Pos, defArgs d.st = PySem.SupX.iA d.p p1 p2 ∧ defBody d.st = PySem.SupX.iB d.p d.f msg q1 q2 q3 q4 q5 q6 q7 q8 q9 ∧
    ∀ env : PySem.Env, ∃ pl : Sem Bool, eval (.Call (.Attribute (.Call (.Name "super" q1) [] [] q2) "__init__" q3) [msg] [] q4) env = (do
      let ov ← attributeBase (.Call (.Name "super" q1) [] [] q2) "__init__" env (eval (.Call (.Name "super" q1) [] [] q2) env)
      standAt q3.atName
      let (g, first) ← holding [ov] (getMethod ov "__init__" pl)
      callWith q4 g first (backTo q4 (starEach [msg] env)) [])
  bi : ∀ (qual : Str) (p1 p2 q1 q2 q3 q4 q5 q6 q7 q8 q9 : Pos) (doc pm : Value) (an : Option Addr) (cd ct : Value) (cc : Addr) (a v : Value), bindArgs (PySem.W.ksFn "__init__" qual (PySem.SupX.iA d.p p1 p2) (PySem.SupX.iB d.p d.f msg q1 q2 q3 q4 q5 q6 q7 q8 q9) (defScope d.st) .none .none doc pm an cd ct cc) ⟨[a, v], []⟩ = pure [(("self" : Str), a), (d.p, v)]
  hst : ∀ env : PySem.Env, starEach [msg] env = (false, eval msg env) :: starEach [] env
  sk : (defScope d.st).kind = .function
  sco : (defScope d.st).isCoroutine = false
  sge : (defScope d.st).isGenerator = false
  sce : ∀ x ∈ (defScope d.st).names, x.2 ≠ .cell
  ksu : (defScope d.st).names.lookup ("super" : Str) = some .globalImplicit
  kcl : (defScope d.st).names.lookup ("__class__" : Str) = some .free
  kse : (defScope d.st).names.lookup ("self" : Str) = some .local
  kp : (defScope d.st).names.lookup d.p = some .local
  top : (prog.main.scope.names.lookup ("super" : Str)).isSome = false
  np : (d.p == ("self" : Str)) = false
  ndb : (d.p == ("__debug__" : Str)) = false
def fldB (K : PySem.W.Frag) (x f : Str) : Bool := He.eqO (PySem.W.findIn K (.ref (He.ga K x)) "__getattribute__") (some (some (.builtin "BaseException.__getattribute__"))) && (He.eqO (PySem.W.findIn K (.ref (He.ga K x)) "__getattr__") (some none) && (He.eqO (PySem.W.findIn K (.ref (He.ga K x)) f) (some none) &&
  (decide (PySem.W.subIn K (.ref (He.ga K x)) (.type "BaseException") = some true) && PySem.W.hasDictIn K (He.ga K x))))
theorem fld_ok {K : PySem.W.Frag} {x f : Str} (h : fldB K x f = true) : FldTxt K (He.ga K x) f := by
  unfold fldB at h
  simp only [Bool.and_eq_true, decide_eq_true_eq] at h
  obtain ⟨c1, c2, c3, c4, c5⟩ := h
  exact ⟨He.eqO_ok c1, He.eqO_ok c2, He.eqO_ok c3, c4, c5⟩
def errB (K : PySem.W.Frag) (x : Str) : Bool := PySem.W.keepIn K (.ref (He.ga K x)) && (decide (PySem.W.subIn K (.ref (He.ga K x)) (.type "BaseException") = some true) && decide (PySem.W.typeIn K (.ref (He.ga K x)) = some (.type "type")))
/-! ### the Hook -/
/-- what is looked at: the module's names reach it in n steps, and the statics -/
def frZ (g : Addr → Option Obj) (n : Nat) : PySem.W.Frag := He.frT g (sysModules :: cStatics :: He.asD g n)
structure Asked where
  fa : List He.Fa
  fn : List He.DefD
  tf : List He.Defn
  ex : List (PySem.W.Frag → Bool)
  ins : List InitD
abbrev AlZ : Type := He.AlD × Bool × List InV
def Asked.obs (A : Asked) (n : Nat) (g : Addr → Option Obj) : AlZ := (He.obsD A.fa A.fn (frZ g n), (A.ex.all fun e => e (frZ g n)) && He.tabsB g A.tf (frZ g n), A.ins.map fun d => initObs (frZ g n) d.x)
structure Asked.Says (A : Asked) (h : Heap) (K : PySem.W.Frag) : Prop where
  d : He.SaysD A.fa A.fn K
  ex : ∀ e ∈ A.ex, e K = true
  tab : ∀ p ∈ A.tf, PySem.W.codeHdIn K (He.cT K p).1 (He.cT K p).2 = true ∧ K.lookup (He.cT K p).2 = none ∧ h.get? (He.cT K p).2 = some { cls := .none, data := .fields #[] }
  ini : ∀ d ∈ A.ins, initObs K d.x = d.val
def Asked.hook (A : Asked) (n : Nat) : PySem.W.Hook where
  α := AlZ
  obs := fun s => A.obs n s.heap.get?
  val := fun _ => (He.valD A.fn, true, A.ins.map InitD.val)
  says := fun _ h => ∃ K : PySem.W.Frag, K.In h ∧ A.Says h K
  of := fun w s e => by
    unfold Asked.obs at e
    obtain ⟨e1, e2⟩ := Prod.mk.inj e
    obtain ⟨e2, e3⟩ := Prod.mk.inj e2
    obtain ⟨e4, e5⟩ := Bool.and_eq_true_iff.mp e2
    refine ⟨frZ s.heap.get? n, He.frT_in, e1, List.all_eq_true.mp e4, fun p hp => ?_, fun d hd => ?_⟩
    · obtain ⟨h1, h2⟩ := Bool.and_eq_true_iff.mp (List.all_eq_true.mp e5 p hp)
      cases q : s.heap.get? (He.cT (frZ s.heap.get? n) p).2 with
      | none => rw [q] at h2; cases h2
      | some o =>
        rw [q] at h2
        exact ⟨h1, He.frT_none q h2, by rw [He.emptyTab_eq h2]⟩
    · exact List.map_inj_left.mp e3 d hd
  keeps := fun _ _ _ ⟨K, hK, c⟩ k => ⟨K, PySem.W.Frag.In.keeps hK k, ⟨c.d, c.ex, fun p hp => ⟨(c.tab p hp).1, (c.tab p hp).2.1, k _ _ (c.tab p hp).2.2⟩, c.ini⟩⟩
theorem Asked.obs_eq {A : Asked} {n : Nat} {s : PySem.W.SharedT} : A.obs n (HandSHeadRun.getT s) = (A.hook n).obs s.abs := by
  have e : HandSHeadRun.getT s = s.abs.heap.get? := funext (HandSHeadRun.getT_eq s)
  rw [e]
  rfl
section
variable {A : Asked} {h : Heap} {K : PySem.W.Frag} {mg : Str → Option Value}
/-- a plain def of the module -/
def dfd (x : Str) (st : Stmt) : He.DefD := ⟨(x, none), x, x, defArgs st, defBody st, defScope st, [], []⟩
theorem Asked.Says.fn1 (S : A.Says h K) (X : K.In h) (G : h.Ns mainGlobals mg) {x : Str} {st : Stmt} {ps : List Str} (i j : Nat) (hi : A.fn[i]? = some (dfd x st)) (hj : A.fa[j]? = some (.glo x))
    (hb : ∀ (kV doc pm : Value) (an : Option Addr) (cdv ct : Value) (us : List Value), us.length = ps.length → bindArgs (PySem.W.fnOf x x (defArgs st) (defBody st) (defScope st) .none kV doc pm an cdv ct) ⟨us, []⟩ = pure (ps.zip us)) :
    ∃ fd, (Fn1 K mg x st ps (He.ga K x) fd ∧ ∀ (s : Shared) (us : List Value), us.length = ps.length → BindsTo s fd ⟨us, []⟩ (ps.zip us)) ∧ ∃ c, He.codeOf K (x, none) = c ∧ IsCode K (He.ga K x) (.ref c) := by
  obtain ⟨fd, F⟩ := S.d.def_ i hi
  have g := He.glo_ok X G (S.d.fact j hj)
  have b := FunD.bindsN F hb
  obtain ⟨⟨oc, od, dV, kV, doc, pm, an, cdv, ct, osl, rfl, lk, hcd, hD, hK⟩, kp⟩ := F
  rcases hD with ⟨_, rfl⟩ | ⟨z, _⟩
  · obtain ⟨c, rfl⟩ := He.codeIn_ref hcd
    exact ⟨_, ⟨⟨⟨⟨oc, od, kV, doc, pm, an, .ref c, ct, osl, rfl, lk, hcd⟩, kp⟩, g, b⟩, fun s us hl => .of_eq (hb kV doc pm an _ ct us hl)⟩, c, He.codeOf_eq lk rfl, _, _, lk, rfl, rfl⟩
  · exact absurd rfl z
theorem Asked.Says.er1 (S : A.Says h K) (X : K.In h) (G : h.Ns mainGlobals mg) {x : Str} (i j : Nat) (hi : A.ex[i]? = some fun K => errB K x) (hj : A.fa[j]? = some (.glo x)) : Er1 K mg x (He.ga K x) := by
  have c : errB K x = true := S.ex _ (List.mem_of_getElem? hi)
  unfold errB at c
  simp only [Bool.and_eq_true, decide_eq_true_eq] at c
  exact ⟨He.glo_ok X G (S.d.fact j hj), c.1, c.2.1, c.2.2⟩
theorem Asked.Says.str (S : A.Says h K) (X : K.In h) (G : h.Ns mainGlobals mg) {x z : Str} (i : Nat) (hi : A.fa[i]? = some (.str x z)) : StrC mg x z := He.str_ok X G (S.d.fact i hi)
theorem Asked.Says.int (S : A.Says h K) (X : K.In h) (G : h.Ns mainGlobals mg) {x : Str} {z : Int} (i : Nat) (hi : A.fa[i]? = some (.int x z)) : IntC mg x z := He.int_ok X G (S.d.fact i hi)
theorem Asked.Says.free (S : A.Says h K) (X : K.In h) (G : h.Ns mainGlobals mg) {x : Str} (i : Nat) (hi : A.fa[i]? = some (.free x)) : mg x = none := He.free_ok X G (S.d.fact i hi)
theorem Asked.Says.exb (S : A.Says h K) {e : PySem.W.Frag → Bool} (i : Nat) (hi : A.ex[i]? = some e) : e K = true := S.ex e (List.mem_of_getElem? hi)
theorem strs_v {K : PySem.W.Frag} (ys : List Str) : (ys.map He.Dv.str).map (He.Dv.v K) = ys.map V.str := by
  rw [List.map_map]; rfl
theorem Asked.Says.tup (S : A.Says h K) (X : K.In h) (G : h.Ns mainGlobals mg) {x : Str} {ys : List Str} (i j : Nat) (hi : A.ex[i]? = some fun K => He.tupB K x (ys.map .str)) (hj : A.fa[j]? = some (.glo x)) : TupC K mg x ys :=
  ⟨_, He.glo_ok X G (S.d.fact j hj), fun H => by
    have := He.tupB_ok (S.exb i hi) H
    rw [strs_v] at this
    exact this⟩
end
end Dv
set_option maxHeartbeats 4000000
/-! Sets of tuples of any depth (their keys: NestedKey): the search, what is put in. -/
namespace Ts
open PySem PySem.Spec PyProof.Rows L2

/-- a value and the key it is -/
abbrev Kv := Value × NestedKey
def rws (w : World) (L : List Kv) : List (Int × Value) := L.map fun p => (p.2.hash w, p.1)
def hss (w : World) (L : List Kv) : List Int := L.map fun p => p.2.hash w
/-- a tuple, as a key -/
structure IsK (h : Heap) (p : Kv) : Prop where
  is : NestedIs h p.2 p.1
  dep : p.2.depth ≤ 8
  ref : ∃ a, p.1 = .ref a
theorem rws_len (w : World) (L : List Kv) : (rws w L).length = L.length := List.length_map ..
theorem hss_len (w : World) (L : List Kv) : (hss w L).length = L.length := List.length_map ..
theorem rws_get {w : World} {L : List Kv} {i : Nat} {p : Kv} (h : L[i]? = some p) : (rws w L)[i]? = some (p.2.hash w, p.1) := by unfold rws; rw [List.getElem?_map, h]; rfl
theorem hss_get {w : World} {L : List Kv} {i : Nat} {p : Kv} (h : L[i]? = some p) : (hss w L)[i]? = some (p.2.hash w) := by unfold hss; rw [List.getElem?_map, h]; rfl

section
variable {P : Program} {w : World} {A : Around} {E : Value → Shared → Prop} {s : Shared}
theorem items_any {h : Heap} : ∀ {ks : List NestedKey} {vs : List Value}, NestedAll h ks vs → ∀ v ∈ vs, ∃ k ∈ ks, NestedIs h k v
  | _, _, .nil, v, hv => by cases hv
  | _, _, .cons (k := k) r t, v, hv => by
    rcases List.mem_cons.mp hv with e | hv
    · exact ⟨k, List.mem_cons_self, e ▸ r⟩
    · obtain ⟨k', m, q⟩ := items_any t v hv
      exact ⟨k', List.mem_cons_of_mem _ m, q⟩
theorem depth_mem : ∀ {ks : List NestedKey} {k : NestedKey}, k ∈ ks → k.depth ≤ NestedKey.depthAll ks
  | _ :: _, _, h => by
    simp only [NestedKey.depthAll]
    rcases List.mem_cons.mp h with e | h
    · subst e; omega
    · have := depth_mem h; omega
/-- no class statement's object stands within -/
theorem cls_key : ∀ (n : Nat) (k : NestedKey) (v : Value) (Q : Bool → Shared → Prop), NestedIs s.heap k v → k.depth ≤ n → Q false s → wpAny (model P w) A (ofAClassStatement n v) Q E s
  | n, .none, _, Q, x, _, q => by cases x; cases n <;> exact wpAny_pure q
  | n, .num _, _, Q, x, _, q => by cases x <;> cases n <;> exact wpAny_pure q
  | n, .text _, _, Q, x, _, q => by cases x; cases n <;> exact wpAny_pure q
  | 0, .tup ks, _, Q, x, hd, q => by simp only [NestedKey.depth] at hd; omega
  | n + 1, .tup ks, _, Q, x, hdep, q => by
    cases x with
    | @tup b ob items m _ hob hcl hda hit =>
      have hT : s.TypeIs (.ref b) "tuple" := ⟨ob, hob, hcl⟩
      unfold ofAClassStatement
      refine wpAny_bind (wpAny_typeOf hT ?_)
      dsimp only
      simp only [show (("tuple" : String) == "tuple") = true from rfl, if_true, Bool.not_true, Bool.false_eq_true, if_false]
      try refine wpAny_bind (wpAny_pure ?_)
      try simp only [Bool.not_true, Bool.false_eq_true, if_false]
      show wpAny (model P w) A (seqItems? (.ref b) >>= _) Q E s
      refine wpAny_bind (wpAny_seqItems hob hda ?_)
      dsimp only
      refine wpAny_bind ?_
      show wpAny (model P w) A (forIn items _ _) _ E s
      rw [← Array.forIn_toList]
      refine wpAny_forIn_list _ (fun left r s1 => r.1 = none ∧ s = s1 ∧ ∀ v ∈ left, ∃ k ∈ ks, NestedIs s.heap k v) _ ?_ ?_ _ _ ⟨rfl, rfl, items_any hit⟩
      · rintro v left r s1 ⟨hr, es, all⟩
        subst es
        obtain ⟨k, hk, x⟩ := all v List.mem_cons_self
        have hkd := depth_mem hk
        simp only [NestedKey.depth] at hdep
        refine wpAny_bind (cls_key n k v _ x (by omega) ?_)
        simp only [Bool.false_eq_true, if_false]
        exact wpAny_pure ⟨rfl, rfl, fun u m => all u (List.mem_cons_of_mem _ m)⟩
      · rintro ⟨r1, r2⟩ s1 ⟨hr, es, _⟩
        subst es
        simp only at hr
        subst hr
        exact wpAny_pure q
/-- is the hash told by the value? one or the other -/
theorem hbv_key : ∀ (n : Nat) (k : NestedKey) (v : Value) (Q : Bool → Shared → Prop), NestedIs s.heap k v → (∀ b, Q b s) → wpAny (model P w) A (hashByValue n v) Q E s
  | n, .none, _, Q, x, q => by cases x; cases n <;> exact wpAny_pure (q _)
  | n, .num _, _, Q, x, q => by cases x <;> cases n <;> exact wpAny_pure (q _)
  | n, .text _, _, Q, x, q => by cases x; cases n <;> exact wpAny_pure (q _)
  | 0, .tup ks, _, Q, x, q => by cases x; exact wpAny_pure (q _)
  | n + 1, .tup ks, _, Q, x, q => by
    cases x with
    | @tup b ob items m _ hob hcl hda hit =>
      have hT : s.TypeIs (.ref b) "tuple" := ⟨ob, hob, hcl⟩
      unfold hashByValue
      refine wpAny_bind (wpAny_specialOf hT F.slot_tuple_hash.lookup ?_)
      show wpAny (model P w) A (seqItems? (.ref b) >>= _) Q E s
      refine wpAny_bind (wpAny_seqItems hob hda ?_)
      refine wpAny_bind ?_
      show wpAny (model P w) A (forIn items _ _) _ E s
      rw [← Array.forIn_toList]
      refine wpAny_forIn_list _ (fun left r s1 => r.1 = none ∧ s = s1 ∧ ∀ v ∈ left, ∃ k ∈ ks, NestedIs s.heap k v) _ ?_ ?_ _ _ ⟨rfl, rfl, items_any hit⟩
      · rintro v left r s1 ⟨hr, es, all⟩
        subst es
        obtain ⟨k, hk, x⟩ := all v List.mem_cons_self
        refine wpAny_bind (hbv_key n k v _ x fun c => ?_)
        cases c with
        | true =>
          simp only [Bool.not_true, Bool.false_eq_true, if_false]
          exact wpAny_pure ⟨rfl, rfl, fun u m => all u (List.mem_cons_of_mem _ m)⟩
        | false =>
          simp only [Bool.not_false, if_true]
          exact wpAny_pure (wpAny_pure (q _))
      · rintro ⟨r1, r2⟩ s1 ⟨hr, es, _⟩
        subst es
        simp only at hr
        subst hr
        exact wpAny_pure (q _)

/-- a search among such keys shows nothing -/
theorem quiet_find {p : Kv} (hp : IsK s.heap p) {ys : List Value} (hy : ∀ y ∈ ys, ∃ k, IsK s.heap (y, k)) {Q : Bool → Shared → Prop} (q : Q false s) : wpAny (model P w) A (searchCouldBeSeen p.1 ys) Q E s := by
  unfold searchCouldBeSeen
  refine wpAny_bind ?_
  refine wpAny_forIn_list _ (fun left r s1 => r.1 = none ∧ s = s1 ∧ ∀ y ∈ left, ∃ k, IsK s.heap (y, k)) _ ?_ ?_ _ _ ⟨rfl, rfl, hy⟩
  · rintro y left r s1 ⟨hr, es, all⟩
    subst es
    obtain ⟨k, c⟩ := all y List.mem_cons_self
    have more : ∀ y ∈ left, ∃ k, IsK s.heap (y, k) := fun u m => all u (List.mem_cons_of_mem _ m)
    obtain ⟨b, eb⟩ := hp.ref
    obtain ⟨d, ed⟩ := c.ref
    have h1 := hp.is
    have h2 := c.is
    dsimp only at ed h2
    rw [eb] at h1
    subst ed
    rw [eb]
    dsimp only
    by_cases hv : (b == d || (carriedByValue (.ref b) && carriedByValue (.ref d))) = true
    · exact wp_if_pos hv (wpAny_pure ⟨rfl, rfl, more⟩)
    · refine wp_if_neg hv (wpAny_bind (quiet_key (prog := P) (w := w) p.2 _ 8 s h1 hp.dep A E _ ?_))
      simp only [Bool.not_true, Bool.false_eq_true, if_false]
      refine wpAny_bind (quiet_key (prog := P) (w := w) k _ 8 s h2 c.dep A E _ ?_)
      simp only [Bool.not_true, Bool.false_eq_true, if_false]
      refine wpAny_bind (cls_key 8 p.2 _ _ h1 hp.dep ?_)
      simp only [Bool.false_eq_true, if_false]
      refine wpAny_bind (cls_key 8 k _ _ h2 c.dep ?_)
      simp only [Bool.false_eq_true, if_false]
      exact wpAny_pure ⟨rfl, rfl, more⟩
  · rintro ⟨r1, r2⟩ s1 ⟨hr, es, _⟩
    subst es
    simp only at hr
    subst hr
    exact wpAny_pure q

/-! ### the set -/
structure TSet (w : World) (h : Heap) (S : Addr) (L : List Kv) (es : Array (Int × Value)) (ep : Nat) (t : SetTable) : Prop where
  ob : ∃ o, h.get? S = some o ∧ o.ExactSet ∧ o.data = .set es ep t
  rows : es.toList = rws w L
  tab : TabOk t (hss w L)
  nd : (L.map (·.2)).Nodup
  key : ∀ p ∈ L, IsK h p
  led : w.params.followText "set-order" = true ∨ t.led = true
  room : L.length * 5 < t.mask * 3
variable {S : Addr} {L : List Kv} {es : Array (Int × Value)} {ep : Nat} {t : SetTable}
theorem TSet.size {h : Heap} (R : TSet w h S L es ep t) : es.size = L.length := by
  rw [← rws_len w L, ← R.rows, Array.length_toList]
theorem TSet.few {h : Heap} (R : TSet w h S L es ep t) : L.length ≤ 76 := by
  have := R.room
  rcases R.tab.mok with e | e | e <;> rw [e] at this <;> omega
theorem TSet.fits {h : Heap} (R : TSet w h S L es ep t) : t.fits es.size = true := by
  have h1 : t.place.size = L.length := R.tab.sz.trans (hss_len w L)
  have h3 := R.room
  simp only [SetTable.fits, SetTable.fill, R.tab.dm, R.size, h1, Bool.and_eq_true, beq_iff_eq, decide_eq_true_eq]
  refine ⟨trivial, ?_⟩
  show L.length + 0 ≤ t.mask
  omega
theorem TSet.ent {h : Heap} (R : TSet w h S L es ep t) {i : Nat} {p : Kv} (e : L[i]? = some p) : es[i]? = some (p.2.hash w, p.1) := by
  rw [← Array.getElem?_toList, R.rows, rws_get e]
theorem nth_dummy (m : Nat) : ∀ (n : Nat) (p : SetTable.Probe), p.dummy = none → (nth m p n).dummy = none
  | 0, _, h => h
  | n + 1, p, h => nth_dummy m n (adv m p) (by unfold adv; split <;> exact h)
/-- the way of a hash -/
abbrev wy (m : Nat) (x : Int) : SetTable.Probe := runAt m (SetTable.bits x % (m + 1)) (SetTable.bits x)
/-- THE SEARCH, from step c of the way on -/
theorem find_from (R : TSet w s.heap S L es ep t) {p : Kv} (hp : IsK s.heap p) (hu : A.units + 8 < cLine) {K : Nat} (hKf : K < 10 * SetTable.turns t.mask)
    (free : way t.mask (p.2.hash w) K ∉ t.place.toList) (taken : ∀ c, c < K → way t.mask (p.2.hash w) c ∈ t.place.toList) {Q : SetFound → Shared → Prop}
    (yes : p.2 ∈ L.map (·.2) → Q (.there none) s) (no : p.2 ∉ L.map (·.2) → Q (.free (way t.mask (p.2.hash w) K) false) s) :
    ∀ (f c : Nat) (from? : Option SetTable.Probe), from?.getD (t.probeStart (p.2.hash w)) = nth t.mask (wy t.mask (p.2.hash w)) c → c ≤ K → K - c < f →
      (∀ (i : Nat) q, L[i]? = some q → q.2 = p.2 → ∃ c', c ≤ c' ∧ c' < K ∧ t.place.toList[i]? = some (way t.mask (p.2.hash w) c')) →
      wpAny (model P w) A (setSearchFrom S p.1 (p.2.hash w) true f from?) Q E s
  | 0, _, _, _, _, hf, _ => absurd hf (Nat.not_lt_zero _)
  | f + 1, c, from?, hst, hc, hf, ahead => by
    obtain ⟨o, hob, hex, hda⟩ := R.ob
    rw [setSearchFrom_succ]
    refine wpAny_bind (wpAny_setState_of hob hda R.fits ?_)
    dsimp only
    have hgw : ¬ t.gaveWay = true := by unfold SetTable.gaveWay; rw [mask_odd R.tab.mok]; decide
    refine wp_if_neg hgw ?_
    try refine wpAny_bind (wpAny_pure ?_)
    have at_ : ∀ q, nth t.mask (nth t.mask (wy t.mask (p.2.hash w)) c) q = nth t.mask (wy t.mask (p.2.hash w)) (c + q) := fun q => (nth_add t.mask c _ q).symm
    have wat : ∀ q, (nth t.mask (nth t.mask (wy t.mask (p.2.hash w)) c) q).j = way t.mask (p.2.hash w) (c + q) := fun q => congrArg SetTable.Probe.j (at_ q)
    have cK : c + (K - c) = K := by omega
    have hh : ∀ (i : Nat) q, L[i]? = some q → (es[i]?.map (·.1)).getD 0 = q.2.hash w := fun i q e => by rw [R.ent e]; rfl
    have word := go_spec t R.tab.ris R.tab.dm (fun i => (es[i]?.map (·.1)).getD 0) (p.2.hash w) (10 * SetTable.turns t.mask) (K - c) _ (nth_dummy t.mask c _ rfl) (by omega)
      (fun q hq => by rw [wat]; exact taken _ (by omega)) (by rw [wat, cK]; exact free)
    rcases word with ⟨q, i, hq, hi, he, hno, hpr⟩ | ⟨hno, hpr⟩
    · have hpr2 : t.probe (fun i => (es[i]?.map (·.1)).getD 0) (p.2.hash w) (from?.getD (t.probeStart (p.2.hash w))) = some (.candidate (way t.mask (p.2.hash w) (c + q)) i (nth t.mask (wy t.mask (p.2.hash w)) (c + (q + 1)))) := by
        rw [hst, ← wat, ← at_]; exact hpr
      rw [hpr2]
      dsimp only
      rw [wat] at hi
      have hil : i < L.length := by
        have h1 := (List.getElem?_eq_some_iff.mp hi).1
        have h2 := R.tab.sz
        rw [Array.length_toList, h2, hss_len] at h1
        exact h1
      obtain ⟨y, hy⟩ : ∃ y, L[i]? = some y := ⟨_, List.getElem?_eq_getElem hil⟩
      have hm : y ∈ L := List.mem_of_getElem? hy
      have ky := R.key y hm
      obtain ⟨b, eb⟩ := ky.ref
      have live : t.slot (way t.mask (p.2.hash w) (c + q)) = .live i := slot_live R.tab.ris hi
      have rest : wpAny (model P w) A (searchRest S p.1 (p.2.hash w) true f es t (way t.mask (p.2.hash w) (c + q)) i (nth t.mask (wy t.mask (p.2.hash w)) (c + (q + 1)))) Q E s := by
        unfold searchRest
        rw [R.ent hy]
        dsimp only
        refine wpAny_bind (wpAny_holding (eqAt_key y.2 p.2 A s _ _ ky.is hp.is (by have := ky.dep; omega) P w E _ ?_))
        refine wpAny_bind (wpAny_setState_of hob hda R.fits ?_)
        dsimp only
        rw [← NestedKey.decide_eq]
        by_cases same : y.2 = p.2
        · exact wp_if_pos (by simp [same]) (wpAny_pure (yes (List.mem_map.mpr ⟨y, hm, same⟩)))
        · refine wp_if_neg (by simp [same]) ?_
          try refine wpAny_bind (wpAny_pure ?_)
          rw [sameMem]
          dsimp only
          simp only [if_true, live, R.ent hy]
          rw [eb]
          refine wpAny_bind (wpAny_isSame_ref_self (wpAny_bind (wpAny_pure ?_)))
          simp only [if_true]
          refine wp_if_neg (by simp [same]) ?_
          refine find_from R hp hu hKf free taken yes no f (c + (q + 1)) _ rfl (by omega) (by omega) fun i0 p0 h0 hk0 => ?_
          obtain ⟨c', a1, a2, a3⟩ := ahead i0 p0 h0 hk0
          have hash0 := (hh i0 p0 h0).trans (congrArg (NestedKey.hash w) hk0)
          refine ⟨c', ?_, a2, a3⟩
          rcases Nat.lt_trichotomy c' (c + q) with z | z | z
          · exact absurd hash0 (hno (c' - c) i0 (by omega) (by rw [wat, show c + (c' - c) = c' by omega]; exact a3))
          · rw [z] at a3
            have s0 := slot_live R.tab.ris a3
            rw [live] at s0
            cases s0
            rw [hy] at h0
            cases h0
            exact absurd hk0 same
          · omega
      by_cases hl : t.led = true
      · refine wp_if_neg (by simp [hl]) ?_
        try refine wpAny_bind (wpAny_pure ?_)
        exact rest
      · refine wp_if_pos (by simp [hl]) (wpAny_bind (quiet_find hp (fun z hz => ?_) ?_))
        · obtain ⟨e, hem, ez⟩ := List.mem_map.mp hz
          have hem : e ∈ es ∧ e.1 = p.2.hash w := by simpa using hem
          have hin : e ∈ es.toList := by simpa using hem.1
          rw [R.rows] at hin
          obtain ⟨p2, hp2, e2⟩ := List.mem_map.mp hin
          refine ⟨p2.2, ?_⟩
          rw [← ez, ← e2]
          exact R.key p2 hp2
        · refine wp_if_neg (by decide) ?_
          try refine wpAny_bind (wpAny_pure ?_)
          exact rest
    · have hpr2 : t.probe (fun i => (es[i]?.map (·.1)).getD 0) (p.2.hash w) (from?.getD (t.probeStart (p.2.hash w))) = some (.empty (way t.mask (p.2.hash w) K) none) := by
        rw [hst, show way t.mask (p.2.hash w) K = (nth t.mask (nth t.mask (wy t.mask (p.2.hash w)) c) (K - c)).j by rw [wat, cK]]
        exact hpr
      rw [hpr2]
      dsimp only
      refine wpAny_pure (no fun hm => ?_)
      obtain ⟨p0, h0, hk0⟩ := List.mem_map.mp hm
      obtain ⟨i0, e0⟩ := List.getElem?_of_mem h0
      obtain ⟨c', a1, a2, a3⟩ := ahead i0 p0 e0 hk0
      exact hno (c' - c) i0 (by omega) (by rw [wat, show c + (c' - c) = c' by omega]; exact a3) ((hh i0 p0 e0).trans (congrArg (NestedKey.hash w) hk0))
/-- .. as adding asks for it -/
theorem find_at (R : TSet w s.heap S L es ep t) {p : Kv} (hp : IsK s.heap p) (hu : A.units + 8 < cLine) {Q : SetFound → Shared → Prop} (yes : p.2 ∈ L.map (·.2) → Q (.there none) s)
    (no : ∀ K, p.2 ∉ L.map (·.2) → way t.mask (p.2.hash w) K ∉ t.place.toList → (∀ c, c < K → way t.mask (p.2.hash w) c ∈ t.place.toList) → Q (.free (way t.mask (p.2.hash w) K) false) s) :
    wpAny (model P w) A (setSearch S p.1 (p.2.hash w) true) Q E s := by
  have hroom := R.room
  obtain ⟨K, hKf, free, taken⟩ := R.tab.first (by rw [hss_len]; omega) (p.2.hash w)
  have hbig : K < 100000 := by
    refine Nat.lt_trans hKf ?_
    unfold SetTable.turns
    rcases R.tab.mok with e | e | e <;> omega
  unfold setSearch
  refine find_from R hp hu hKf free taken yes (fun hn => no K hn free taken) 100000 0 none rfl (Nat.zero_le _) (by omega) fun i y hy hk => ?_
  have hil : i < t.place.toList.length := by
    rw [Array.length_toList, R.tab.sz, hss_len]
    exact (List.getElem?_eq_some_iff.mp hy).1
  have hj := List.getElem?_eq_getElem hil
  obtain ⟨c, hc, e⟩ := R.tab.before free ((hss_get hy).trans (by rw [hk])) hj
  exact ⟨c, Nat.zero_le _, hc, by rw [hj, e]⟩
end
end Ts
set_option maxHeartbeats 4000000
/-! Sets of tuples of any depth: the table laid anew, adding. -/
namespace Ts
open PySem PySem.Spec PyProof.Rows L2
section
variable {P : Program} {w : World} {A : Around} {E : Value → Shared → Prop} {s : Shared} {S : Addr} {L : List Kv} {es : Array (Int × Value)} {ep : Nat} {t : SetTable}
/-- a key stays while the set alone changes -/
theorem IsK.but {h h' : Heap} {p : Kv} {o : Obj} (k : IsK h p) (ho : h.get? S = some o) (hd : o.data = .set es ep t) (same : Heap.SameBut S h h') : IsK h' p :=
  ⟨NestedIs.at (fun b u vs n e1 e2 => by
    refine (same.2 b fun z => ?_).trans e1
    subst z
    rw [ho] at e1
    cases e1
    rw [hd] at e2
    cases e2) _ _ k.is, k.dep, k.ref⟩
theorem IsK.kept {h h' : Heap} {p : Kv} (k : IsK h p) (x : ∀ c o, h.get? c = some o → h'.get? c = some o) : IsK h' p := ⟨NestedIs.at (fun b u _ _ e _ => x b u e) _ _ k.is, k.dep, k.ref⟩
/-- the rows in another order -/
theorem rows_of_order (hr : es.toList = rws w L) (order : Array Nat) (hp : order.toList.Perm (List.range L.length)) :
    ∃ L2, (order.filterMap (es[·]?)).toList = rws w L2 ∧ L2.Perm L ∧ hss w L2 = order.toList.map fun i => (es.map (·.1)).getD i 0 := by
  have key : ∀ l : List Nat, (∀ i ∈ l, i < L.length) → (l.filterMap fun i => es[i]?) = rws w (l.filterMap fun i => L[i]?) ∧ hss w (l.filterMap fun i => L[i]?) = l.map fun i => (es.map (·.1)).getD i 0 := by
    intro l
    induction l with
    | nil => exact fun _ => ⟨rfl, rfl⟩
    | cons i l ih =>
      intro hl
      have hi := hl i List.mem_cons_self
      obtain ⟨e1, e2⟩ := ih fun j hj => hl j (List.mem_cons_of_mem _ hj)
      have g : L[i]? = some L[i] := List.getElem?_eq_getElem hi
      have x : es[i]? = some ((L[i]).2.hash w, (L[i]).1) := by rw [← Array.getElem?_toList, hr, rws_get g]
      rw [List.filterMap_cons_some x, List.filterMap_cons_some g, e1, List.map_cons]
      refine ⟨rfl, ?_⟩
      show (L[i]).2.hash w :: hss w _ = _
      rw [e2]
      have y : (es.map (·.1)).getD i 0 = (L[i]).2.hash w := by
        have z : (es.map (·.1))[i]? = some ((L[i]).2.hash w) := by rw [Array.getElem?_map, x]; rfl
        simp [Array.getD_eq_getD_getElem?, z]
      rw [y]
  obtain ⟨e1, e2⟩ := key order.toList fun i hi => List.mem_range.mp (hp.mem_iff.mp hi)
  refine ⟨order.toList.filterMap fun i => L[i]?, by first | (rw [Array.toList_filterMap]; exact e1) | simpa using e1, ?_, e2⟩
  have whole : ∀ n, n ≤ L.length → ((List.range n).filterMap fun i => L[i]?) = L.take n := by
    intro n
    induction n with
    | zero => exact fun _ => rfl
    | succ n ih =>
      intro hn
      have g : L[n]? = some L[n] := List.getElem?_eq_getElem hn
      rw [List.range_succ, List.filterMap_append, ih (Nat.le_of_lt hn), List.take_succ, g, List.filterMap_cons_some g]
      rfl
  have q := hp.filterMap fun i => L[i]?
  rw [whole L.length (Nat.le_refl _), List.take_length] at q
  exact q
/-- the table laid anew -/
theorem relay {o : Obj} (hob : s.heap.get? S = some o) (hex : o.ExactSet) (hda : o.data = .set es ep t) (rows : es.toList = rws w L) (psz : t.place.size = es.size) (dm : t.dummies = #[]) (room : es.size ≤ t.mask)
    (nd : (L.map (·.2)).Nodup) (key : ∀ p ∈ L, IsK s.heap p) (led : w.params.followText "set-order" = true ∨ t.led = true) {wanted M : Nat}
    (hw : SetTable.sizeAbove wanted - 1 = M) (hM : MaskOk M) (hw2 : SetTable.sizeAbove wanted ≤ 128) (hn : L.length * 5 < M * 3) {Q : Unit → Shared → Prop}
    (hQ : ∀ h' L' es' ep' t', Heap.SameBut S s.heap h' → TSet w h' S L' es' ep' t' → L'.Perm L → Q () { s with heap := h' }) : wpAny (model P w) A (setRelay S wanted) Q E s := by
  have hsl : es.size = L.length := by rw [← rws_len w L, ← rows, Array.length_toList]
  have hf : t.fits es.size = true := by
    simp only [SetTable.fits, SetTable.fill, dm, psz, Bool.and_eq_true, beq_iff_eq, decide_eq_true_eq]
    refine ⟨trivial, ?_⟩
    show es.size + 0 ≤ t.mask
    omega
  obtain ⟨t', order, e, hp, T, em, el, _, _⟩ := relaid_ok t (hs := es.map (·.1)) (wanted := wanted) hw hM (by rw [Array.size_map, hsl]; omega)
  rw [Array.size_map, hsl] at hp
  obtain ⟨L2, r1, r2, r3⟩ := rows_of_order rows order hp
  rw [← r3] at T
  have hs2 : (order.filterMap (es[·]?)).size = es.size := by rw [← Array.length_toList, r1, rws_len, r2.length_eq, hsl]
  rw [setRelay_eq]
  refine wpAny_bind (wpAny_setState_of hob hda hf ?_)
  dsimp only
  refine wp_if_neg (by rw [sizeLine_eq]; omega) ?_
  try refine wpAny_bind (wpAny_pure ?_)
  rw [e]
  dsimp only
  refine wpAny_bind ?_
  refine wp_if_neg (by rw [hs2]; simp) ?_
  try refine wpAny_bind (wpAny_pure ?_)
  refine wpAny_pure ?_
  dsimp only
  refine wpAny_storeSet_of hob hda ?_ (by rw [hs2, hsl, sizeLine_eq]; rcases hM with z | z | z <;> omega)
  have sb := Heap.SameBut.update s.heap S (Obj.putSet (order.filterMap (es[·]?)) t')
  refine hQ _ L2 _ (ep + 1) t' sb ⟨⟨_, store_at hob hda, ⟨hex.1, hex.2.1, hex.2.2⟩, rfl⟩, r1, T, (r2.map (·.2)).nodup_iff.mpr nd, fun p hpm => (key p (r2.mem_iff.mp hpm)).but hob hda sb, by rw [el]; exact led, ?_⟩ r2
  rw [r2.length_eq, em]
  exact hn
/-- ADDING -/
theorem add (R : TSet w s.heap S L es ep t) {p : Kv} (hp : IsK s.heap p) (hu : A.units + 8 < cLine) (few : L.length + 1 ≤ 76) {Q : Bool → Shared → Prop}
    (hQ : ∀ b h' L' es' ep' t', Heap.SameBut S s.heap h' → TSet w h' S L' es' ep' t' → (p.2 ∈ L.map (·.2) → L' = L) → (p.2 ∉ L.map (·.2) → L'.Perm (p :: L)) → Q b { s with heap := h' }) :
    wpAny (model P w) A (setAddHashed S p.1 (p.2.hash w)) Q E s := by
  obtain ⟨o, hob, hex, hda⟩ := R.ob
  have hsl := R.size
  have hroom := R.room
  obtain ⟨v, k⟩ := p
  obtain ⟨x, ex⟩ := hp.ref
  dsimp only at ex
  subst ex
  unfold setAddHashed
  refine wpAny_holding ?_
  rw [show (100000 : Nat) = 99999 + 1 from rfl, setAddHashedIn_succ]
  refine wpAny_bind (wpAny_setState_of hob hda R.fits ?_)
  dsimp only
  refine wp_if_neg (by simp [byScan, Value.scannable]) ?_
  try refine wpAny_bind (wpAny_pure ?_)
  refine wpAny_bind (find_at R hp hu (fun hm => ?_) fun K hm free taken => ?_)
  · exact wpAny_pure (hQ false s.heap L es ep t (Heap.SameBut.refl S s.heap) R (fun _ => rfl) fun z => absurd hm z)
  · dsimp only
    refine wpAny_bind (wpAny_setState_of hob hda R.fits ?_)
    dsimp only
    obtain ⟨q1, q2, q3, q4, q5, q6, q7, q8, q9⟩ := R.tab.put free taken
    dsimp only at q1 q2 q3 q4 q5 q9
    generalize hj : way t.mask (k.hash w) K = j at q1 q2 q3 q4 q5 q6 q7 q8 q9 ⊢
    generalize hpt : t.put j = pt at q1 q3 q4 q5 q6 q7 q8 q9 ⊢
    obtain ⟨t1, n⟩ := pt
    dsimp only at q1 q3 q4 q5 q9 ⊢
    subst q1
    -- behind the question whether the hash is told by the value
    have go : ∀ t2 : SetTable, TabOk t2 ((hss w L).take (SetTable.below t.place j) ++ k.hash w :: (hss w L).drop (SetTable.below t.place j)) → t2.mask = t.mask → t2.led = t.led → t2.fill = (hss w L).length + 1 →
        wpAny (model P w) A (do
          storeSet S (SetTable.insertAt es (SetTable.below t.place j) (k.hash w, Value.ref x)) t2
          if (!false && t2.tooFull) = true then do
              setRelay S (SetTable.grown (es.size + 1))
              pure true
            else pure true) Q E s := fun t2 T em el ef => by
      have hin : (SetTable.insertAt es (SetTable.below t.place j) (k.hash w, Value.ref x)).toList = rws w (L.take (SetTable.below t.place j) ++ (Value.ref x, k) :: L.drop (SetTable.below t.place j)) := by
        rw [SetTable.toList_insertAt, R.rows]
        unfold rws
        rw [List.map_append, List.map_cons, List.map_take, List.map_drop]
      have hhs : hss w (L.take (SetTable.below t.place j) ++ (Value.ref x, k) :: L.drop (SetTable.below t.place j)) = (hss w L).take (SetTable.below t.place j) ++ k.hash w :: (hss w L).drop (SetTable.below t.place j) := by
        unfold hss
        rw [List.map_append, List.map_cons, List.map_take, List.map_drop]
      have pm := put_perm L (SetTable.below t.place j) (Value.ref x, k)
      rw [← hhs] at T
      generalize SetTable.insertAt es (SetTable.below t.place j) (k.hash w, Value.ref x) = es1 at hin ⊢
      generalize L.take (SetTable.below t.place j) ++ (Value.ref x, k) :: L.drop (SetTable.below t.place j) = L1 at pm T hin
      have len1 : L1.length = L.length + 1 := pm.length_eq
      have nd1 : (L1.map (·.2)).Nodup := (pm.map (·.2)).nodup_iff.mpr (by rw [List.map_cons]; exact List.nodup_cons.mpr ⟨hm, R.nd⟩)
      have sz1 : es1.size = L.length + 1 := by rw [← Array.length_toList, hin, rws_len, len1]
      refine wpAny_bind (wpAny_storeSet_of hob hda ?_ (by rw [sz1, sizeLine_eq]; omega))
      have sb := Heap.SameBut.update s.heap S (Obj.putSet es1 t2)
      have hob1 := store_at (es' := es1) (t' := t2) hob hda
      generalize s.heap.update S (Obj.putSet es1 t2) = h1 at sb hob1 ⊢
      have key1 : ∀ p ∈ L1, IsK h1 p := fun p hpm => by
        rcases List.mem_cons.mp (pm.mem_iff.mp hpm) with e | m
        · rw [e]; exact hp.but hob hda sb
        · exact (R.key p m).but hob hda sb
      have led1 : w.params.followText "set-order" = true ∨ t2.led = true := by rw [el]; exact R.led
      rw [hss_len] at ef
      by_cases hf : t2.tooFull = true
      · have full : (L.length + 1) * 5 ≥ t2.mask * 3 := by
          have h := hf
          unfold SetTable.tooFull at h
          rw [decide_eq_true_eq, ef] at h
          exact h
        have psz : t2.place.size = es1.size := by rw [T.sz, hss_len, len1, sz1]
        have cs : (t.mask = 7 ∧ L.length = 4) ∨ (t.mask = 31 ∧ L.length = 18) := by
          rw [em] at full
          rcases R.tab.mok with e | e | e
          · left; rw [e] at hroom full; exact ⟨e, by omega⟩
          · right; rw [e] at hroom full; exact ⟨e, by omega⟩
          · exfalso; rw [e] at full; omega
        have anew : ∀ M, SetTable.sizeAbove (SetTable.grown (L.length + 1)) - 1 = M → MaskOk M → SetTable.sizeAbove (SetTable.grown (L.length + 1)) ≤ 128 → (L.length + 1) * 5 < M * 3 →
            wpAny (model P w) A (setRelay S (SetTable.grown (L.length + 1))) (fun _ s' => wpAny (model P w) A (pure true) Q E s') E { s with heap := h1 } := fun M a1 a2 a3 a4 =>
          relay (s := { s with heap := h1 }) hob1 ⟨hex.1, hex.2.1, hex.2.2⟩ rfl hin psz T.dm (by rw [sz1, em]; rcases cs with ⟨e, e2⟩ | ⟨e, e2⟩ <;> omega) nd1 key1 led1 a1 a2 a3 (by rw [len1]; exact a4)
            fun h2 L2 es2 ep2 t3 sb2 R2 pm2 => wpAny_pure (hQ true h2 L2 es2 ep2 t3 (sb.trans sb2) R2 (fun z => absurd z hm) fun _ => pm2.trans pm)
        rw [hsl]
        first
          | (refine wpAny_bind ?_; refine wp_if_pos (by simp [hf]) ?_)
          | (refine wp_if_pos (by simp [hf]) ?_; refine wpAny_bind ?_)
        rcases cs with ⟨_, e⟩ | ⟨_, e⟩
        · exact anew 31 (by rw [e, size_20]) (.inr (.inl rfl)) (by rw [e, size_20]; decide) (by omega)
        · exact anew 127 (by rw [e, size_76]) (.inr (.inr rfl)) (by rw [e, size_76]; decide) (by omega)
      · have room2 : (L.length + 1) * 5 < t2.mask * 3 := by
          have h := hf
          unfold SetTable.tooFull at h
          rw [decide_eq_true_eq, ef] at h
          omega
        have fin : Q true { s with heap := h1 } := hQ true h1 L1 es1 (ep + 1) t2 sb ⟨⟨_, hob1, ⟨hex.1, hex.2.1, hex.2.2⟩, rfl⟩, hin, T, nd1, key1, led1, by rw [len1]; exact room2⟩ (fun z => absurd z hm) fun _ => pm
        first
          | exact wp_if_neg (by simp [hf]) (wpAny_pure fin)
          | exact wpAny_bind (wp_if_neg (by simp [hf]) (wpAny_pure (wpAny_pure fin)))
    have both : ∀ b : Bool, wpAny (model P w) A (do
        storeSet S (SetTable.insertAt es (SetTable.below t.place j) (k.hash w, Value.ref x)) (if b = true then t1 else { t1 with plain := false })
        if (!false && (if b = true then t1 else { t1 with plain := false }).tooFull) = true then do
            setRelay S (SetTable.grown (es.size + 1))
            pure true
          else pure true) Q E s := fun b => by
      cases b with
      | true => exact go t1 q3 q4 q5 q9
      | false => exact go { t1 with plain := false } ⟨q3.ris, q3.dm, q3.sz, q3.mok, q3.bd, q3.reach⟩ q4 q5 q9
    by_cases c : t1.plain = true
    · exact wp_if_pos c (wpAny_bind (hbv_key 8 k _ _ hp.is both))
    · exact wp_if_neg c (wpAny_bind (wpAny_pure (both true)))
end
end Ts
set_option maxHeartbeats 4000000
/-! set(xs) of tuples of any depth, of texts and ints. -/
namespace Ts
open PySem PySem.Spec PyProof.Rows L2
/-- the set, as it is walked -/
structure GSet (w : World) (h : Heap) (S : Addr) (L : List Kv) : Prop where
  ex : ∃ o es ep t, h.get? S = some o ∧ o.ExactSet ∧ o.data = .set es ep t ∧ es.toList = rws w L ∧ t.fits es.size = true ∧ Ris t.place.toList ∧ (w.params.followText "set-order" = true ∨ t.led = true) ∧ es.size < scanBound
  nd : (L.map (·.2)).Nodup
abbrev fset (w : World) : Obj := { cls := .type "set", dict := none, data := .set #[] 0 (.fresh 0 0 (!w.params.followText "set-order")) }
/-- a family of keys, and the sets of it -/
structure Fam (P : Program) (w : World) where
  Kx : Heap → Kv → Prop
  Sx : Heap → Addr → List Kv → Prop
  most : Nat
  isk : ∀ {h p}, Kx h p → NestedIs h p.2 p.1 ∧ p.2.depth ≤ 8
  kk : ∀ {h h' p}, Kx h p → (∀ b o, h.get? b = some o → h'.get? b = some o) → Kx h' p
  sk : ∀ {h h' S L}, Sx h S L → (∀ o, h.get? S = some o → h'.get? S = some o) → (∀ p ∈ L, Kx h' p) → Sx h' S L
  add : ∀ {A : Around} {E : Value → Shared → Prop} {s : Shared} {S L p} {Q : Bool → Shared → Prop}, Sx s.heap S L → Kx s.heap p → A.units + 8 < cLine → L.length + 1 ≤ most →
    (∀ b h' L', Heap.SameBut S s.heap h' → Sx h' S L' → (p.2 ∈ L.map (·.2) → L' = L) → (p.2 ∉ L.map (·.2) → L'.Perm (p :: L)) → Q b { s with heap := h' }) →
    wpAny (model P w) A (setAddHashed S p.1 (p.2.hash w)) Q E s
  fresh : ∀ {h S}, h.get? S = some (fset w) → Sx h S []
  g : ∀ {h S L}, Sx h S L → GSet w h S L

/-! ### texts and ints -/
/-- a text or an int, as a key -/
def IsS (p : Kv) : Prop := (∃ i t, p = (.int i t, .num i)) ∨ (∃ x t, p = (.str x t, .text x))
structure SSet (w : World) (h : Heap) (S : Addr) (L : List Kv) : Prop where
  g : GSet w h S L
  key : ∀ p ∈ L, IsS p
def sk1 : NestedKey → Key
  | .num i => .inl i
  | .text x => .inr x
  | _ => .inl 0
section
variable {P : Program} {w : World} {A : Around} {E : Value → Shared → Prop} {s : Shared} {S : Addr} {L : List Kv}
theorem IsS.inj {p q : Kv} (h : IsS p) (h' : IsS q) (e : sk1 p.2 = sk1 q.2) : p.2 = q.2 := by
  rcases h with ⟨i, t, rfl⟩ | ⟨x, t, rfl⟩ <;> rcases h' with ⟨j, u, rfl⟩ | ⟨y, u, rfl⟩ <;> first | cases e <;> rfl | exact nomatch e
end
end Ts
set_option maxHeartbeats 4000000
/-! set(xs): the loop, the call. -/
namespace Ts
open PySem PySem.Spec PyProof.Rows L2
/-- what has been put in -/
structure Gt (ks : List Kv) (i : Nat) (L : List Kv) : Prop where
  sub : ∀ p ∈ L, p ∈ ks.take i
  all : ∀ p ∈ ks.take i, p.2 ∈ L.map (·.2)
  len : L.length ≤ i
theorem Gt.zero (ks : List Kv) : Gt ks 0 [] := ⟨fun _ h => (by cases h), fun _ h => (by simp at h), Nat.le_refl _⟩
theorem Gt.step {ks L L' : List Kv} {i : Nat} {x : Kv} (g : Gt ks i L) (h : ks[i]? = some x) (c1 : x.2 ∈ L.map (·.2) → L' = L) (c2 : x.2 ∉ L.map (·.2) → L'.Perm (x :: L)) : Gt ks (i + 1) L' := by
  have nx : ks.take (i + 1) = ks.take i ++ [x] := by rw [List.take_succ, h]; rfl
  by_cases m : x.2 ∈ L.map (·.2)
  · rw [c1 m]
    refine ⟨fun p hp => by rw [nx]; exact List.mem_append_left _ (g.sub p hp), fun p hp => ?_, Nat.le_succ_of_le g.len⟩
    rw [nx] at hp
    rcases List.mem_append.mp hp with z | z
    · exact g.all p z
    · rw [List.mem_singleton.mp z]; exact m
  · have pm := c2 m
    refine ⟨fun p hp => ?_, fun p hp => ?_, by rw [pm.length_eq]; exact Nat.succ_le_succ g.len⟩
    · rw [nx]
      rcases List.mem_cons.mp (pm.mem_iff.mp hp) with e | z
      · rw [e]; exact List.mem_append_right _ List.mem_cons_self
      · exact List.mem_append_left _ (g.sub p z)
    · rw [(pm.map (·.2)).mem_iff, List.map_cons]
      rw [nx] at hp
      rcases List.mem_append.mp hp with z | z
      · exact List.mem_cons_of_mem _ (g.all p z)
      · rw [List.mem_singleton.mp z]; exact List.mem_cons_self

section
variable {P : Program} {w : World} {A : Around} {E : Value → Shared → Prop} {s : Shared}
/-- a list or a tuple -/
inductive SeqAtT (h : Heap) (l : Addr) (items : Array Value) : Prop
  | lst : h.IsList l items → SeqAtT h l items
  | tup : h.IsTuple l items → SeqAtT h l items
theorem SeqAtT.push {h : Heap} {l : Addr} {items : Array Value} (o : Obj) : SeqAtT h l items → SeqAtT (h.push o) l items
  | .lst x => .lst (x.push o)
  | .tup x => .tup ⟨_, Heap.get?_push_of_some _ x.choose_spec.1, x.choose_spec.2⟩
theorem SeqAtT.lt {h : Heap} {l : Addr} {items : Array Value} : SeqAtT h l items → l < h.objs.size
  | .lst ⟨_, x, _⟩ => Heap.lt_size x
  | .tup ⟨_, x, _⟩ => Heap.lt_size x
/-- an iterator of it -/
theorem SeqAtT.iter {l : Addr} {items : Array Value} (q : SeqAtT s.heap l items) {A' : Around} (hh : A'.handled = none) : ∃ (ob : Obj) (St : Nat → Shared → Prop),
    WalksS P w A' s.heap.objs.size [s.heap.objs.size, l] [s.heap.objs.size] (fun a b => b = a) items.size (fun i v => items[i]? = some v) St ∧ St 0 { s with heap := s.heap.push ob } ∧
    ∀ (A : Around) (E : Value → Shared → Prop) (Q : Value → Shared → Prop), Q (.ref s.heap.objs.size) { s with heap := s.heap.push ob } → wpAny (model P w) A (pyIter (.ref l)) Q E s := by
  have ne : l ≠ s.heap.objs.size := Nat.ne_of_lt q.lt
  cases q with
  | lst x => exact ⟨_, _, (Walks.list (prog := P) (w := w) hh s.heap.objs.size l ne items).toS, ⟨⟨_, Heap.get?_push_size _ rfl, rfl, rfl⟩, x.push _⟩, fun A E Q h => wpAny_pyIter_list x h⟩
  | tup x => exact ⟨_, _, (Walks.tuple (prog := P) (w := w) hh s.heap.objs.size l ne items).toS, ⟨⟨_, Heap.get?_push_size _ rfl, rfl, rfl⟩, ⟨_, Heap.get?_push_of_some _ x.choose_spec.1, x.choose_spec.2⟩⟩, fun A E Q h => wpAny_pyIter_tuple x h⟩
theorem SeqAtT.type {l : Addr} {items : Array Value} (q : SeqAtT s.heap l items) : ∃ T, s.TypeIs (.ref l) T ∧ isSubtype (.type T) (.type "set") = pure false ∧ isSubtype (.type T) (.type "frozenset") = pure false ∧ (Value.type T == Value.type "dict") = false := by
  cases q with
  | lst x => exact ⟨"list", x.typeIs, F.sub_list_set, F.sub_list_frozenset, by decide⟩
  | tup x => exact ⟨"tuple", x.typeIs, F.sub_tuple_set, F.sub_tuple_frozenset, by decide⟩
end
end Ts
set_option maxHeartbeats 4000000
/-! len(set(xs)), sorted(set(xs)). -/
namespace Ts
open PySem PySem.Spec PyProof.Rows L2 PySem.W

/-! ### keys, their order -/
mutual
/-- no None within -/
def full : NestedKey → Bool
  | .none => false
  | .num _ => true
  | .text _ => true
  | .tup ks => fullAll ks
def fullAll : List NestedKey → Bool
  | [] => true
  | k :: ks => full k && fullAll ks
end
/-! ### the calls, over the heap -/
theorem reads_key {h : Heap} : ∀ (k : NestedKey) (v : Value) (as : List Addr), full k = true → Reads h v k.data as → NestedIs h k v := by
  intro k
  exact go k
where
  go : ∀ (k : NestedKey) (v : Value) (as : List Addr), full k = true → Reads h v k.data as → NestedIs h k v
    | .none, _, _, f, _ => by cases f
    | .num i, _, _, _, r => by simp only [NestedKey.data] at r; cases r; exact .int _ _
    | .text x, _, _, _, r => by simp only [NestedKey.data] at r; cases r; exact .text _ _
    | .tup ks, _, _, f, r => by
      simp only [NestedKey.data] at r
      cases r with
      | tuple h1 h2 h3 h4 => exact .tup h1 h2 h3 (goAll ks _ _ f h4)
  goAll : ∀ (ks : List NestedKey) (vs : List Value) (as : List Addr), fullAll ks = true → ReadsAll h vs (NestedKey.datas ks) as → NestedAll h ks vs
    | [], _, _, _, r => by simp only [NestedKey.datas] at r; cases r; exact .nil
    | k :: ks, _, _, f, r => by
      simp only [NestedKey.datas] at r
      simp only [fullAll, Bool.and_eq_true] at f
      cases r with
      | cons r1 r2 => exact .cons (go k _ _ f.1 r1) (goAll ks _ _ f.2 r2)
section
variable {P : Program} {w : World} {A : Around} {E : Value → Shared → Prop} {s : Shared}
end
end Ts
set_option maxHeartbeats 4000000
/-! sorted(xs), sorted(set(xs)), len(set(xs)) in the walk. -/
namespace Ts
open PySem PySem.Spec PyProof.Rows L2 PySem.W
section
variable {X : Cx} {pins : List (Addr × Obj)} {σ : L2.St} {H : Hp} {s : Shared}
end
section
variable {X : Cx}
variable {a : Expr} {ta : TE} {p p2 q pos : Pos}
end
end Ts
set_option maxHeartbeats 4000000
/-! sorted(xs), sorted(set(xs)), len(set(xs)) of D. -/
namespace Dv
open PySem PySem.Spec PyProof.Rows L2 Ts
/-! ### D as keys -/
mutual
def ofK : NestedKey → D
  | .none => .non
  | .num i => .int i
  | .text x => .str x
  | .tup ks => .tup (ofKs ks)
def ofKs : List NestedKey → List D
  | [] => []
  | k :: ks => ofK k :: ofKs ks
end
mutual
theorem py_ofK : ∀ {k : NestedKey}, full k = true → (ofK k).py = some k.data
  | .none, h => by cases h
  | .num _, _ => rfl
  | .text _, _ => rfl
  | .tup ks, h => by simp only [ofK, D.py, pyL_ofK (ks := ks) h, NestedKey.data]
theorem pyL_ofK : ∀ {ks : List NestedKey}, fullAll ks = true → D.pyL (ofKs ks) = some (NestedKey.datas ks)
  | [], _ => rfl
  | k :: ks, h => by
    simp only [fullAll, Bool.and_eq_true] at h
    simp only [ofKs, D.pyL, py_ofK h.1, pyL_ofK h.2, NestedKey.datas]
end
section
variable {K : PySem.W.Frag} {ad : Ra} {H : Hp}
end
section
variable {X : Cx} {da : Da} {cm : Nat → Addr} {W : WX}
/-! ### sorted(set(e)), len(set(e)) -/
def op1M (g : D → Option D) (f : Env → M D) : Env → M D := fun env => bind (f env) fun x => lift (g x)
variable {a : Expr} {fa : Env → M D} {p p2 q pos : Pos}
end
end Dv
set_option maxHeartbeats 4000000
/-! Objects of own classes, read: isinstance, fields, properties, methods. -/
namespace Dv
open PySem PySem.Spec PyProof.Rows L2
def kinds : List String := ["NoneType", "bool", "int", "str", "tuple", "list", "dict"]
/-- what is asked of a class whose instances come -/
structure OwnC (K : PySem.W.Frag) (C : Addr) : Prop where
  cl : Cls K C
  ha : PySem.W.findIn K (.ref C) "__class__" = some (some (.builtin "object.__class__"))
  hn : PySem.W.specialIn K (.builtin "object.__class__") "__get__" = some (some (.builtin "getset_descriptor.__get__"))
  htk : PySem.W.takesIn K (.builtin "object.__class__") = some true
  hm : PySem.W.mroIn K C (.type "object") = some true
  no : ∀ T ∈ kinds, PySem.W.kitOne K (.type T) (.ref C) = some false
  ty : ∀ T ∈ kinds, PySem.W.kitOne K (.ref C) (.type T) = some false
/-- .. and of several of them -/
structure OwnCs (K : PySem.W.Frag) (cl : Nat → Addr) (cs : List Nat) : Prop where
  each : ∀ c ∈ cs, OwnC K (cl c)
  one : ∀ c ∈ cs, ∀ c' ∈ cs, PySem.W.kitOne K (.ref (cl c')) (.ref (cl c)) = some (decide (c' = c))
section
variable {X : Cx} {da : Da} {cm : Nat → Addr} {W : WX} {pos : Pos}
/-- a class by its name -/
theorem ev_gcls {x : Str} {c : Nat} (hg : Gl X x) (h : X.mg x = some (.ref (da.ra.cl c))) (hd : (x == ("__debug__" : Str)) = false := by decide) : PEv X da cm W (.Name x pos) (kc (.cls c)) :=
  ev_gc (v := .ref (da.ra.cl c)) hg h rfl (fun _ => .cls c) hd
/-! ### fields -/
def D.fld (c : Nat) (f : Str) : D → Option D
  | .obj c' fs => if c' = c then fs.lookup f else none
  | _ => none
theorem RpF.lookup {K : PySem.W.Frag} {ra : Ra} {H : Hp} {f : Str} : ∀ {vs : List (Str × V)} {fs : List (Str × D)} {d : D}, RpF K ra H vs fs → fs.lookup f = some d → ∃ v, vs.lookup f = some v ∧ Rp K ra H v d
  | _, _, _, .nil, e => by cases e
  | _, _, d, .cons (f := g) r t, e => by
    by_cases h : f = g
    · have hb : (f == g) = true := beq_iff_eq.mpr h
      simp only [List.lookup, hb, Option.some.injEq] at e ⊢
      subst e
      exact ⟨_, rfl, r⟩
    · have hb : (f == g) = false := beq_eq_false_iff_ne.mpr h
      simp only [List.lookup, hb] at e ⊢
      exact RpF.lookup t e
variable {e o : Expr} {fa : Env → M D}
variable {es : List Expr} {k n : Nat} {f : Addr} {fd : FuncData} {ps : List Str} {m : Str} {apos : Pos}
/-- o.m(..), o an instance of the class c -/
def meM (c : Nat) (m : Str) (n : Nat) (T : List D → M D) (fo : Env → M D) (fs : Env → M (List D)) : Env → M D := fun env => bind (fo env) fun x => match x with
  | .obj c' fl => if c' = c ∧ fl.lookup m = none then bind (fs env) fun ds => if ds.length + 1 = n then T (.obj c' fl :: ds) else bad else bad
  | _ => bad
variable {fs : Env → M (List D)} {T : List D → M D} {tb : List (Addr × Str)} {fo : Env → M D} {c j : Nat}
end
end Dv
set_option maxHeartbeats 4000000
/-! Properties of own classes. -/
namespace Dv
open PySem PySem.Spec PyProof.Rows L2
section
variable {X : Cx} {da : Da} {cm : Nat → Addr} {W : WX} {pos : Pos} {e : Expr} {k j n : Nat} {C p g a dx : Addr} {f : Str} {fd : FuncData} {ps : List Str} {sp : Sp} {fo : Env → M D} {T : List D → M D} {tb : List (Addr × Str)} {c : Nat}
/-- o.f, a property of the class c -/
def prM (c : Nat) (T : List D → M D) (fo : Env → M D) : Env → M D := fun env => bind (fo env) fun x => match x with
  | .obj c' fl => if c' = c then nx (T [.obj c' fl]) else bad
  | _ => bad
end
end Dv
set_option maxHeartbeats 4000000
/-! Objects made: fields stored by __init__, C(..). -/
namespace Dv
open PySem PySem.Spec PyProof.Rows L2
def putD' (f : Str) (d : D) : List (Str × D) → List (Str × D)
  | [] => [(f, d)]
  | (k, x) :: r => if k = f then (k, d) :: r else (k, x) :: putD' f d r
theorem RpF.put {K : PySem.W.Frag} {ra : Ra} {H : Hp} {f : Str} {v : V} {d : D} (rv : Rp K ra H v d) : ∀ {vs : List (Str × V)} {fs : List (Str × D)}, RpF K ra H vs fs → RpF K ra H (putF f v vs) (putD' f d fs)
  | _, _, .nil => .cons rv .nil
  | (k, x) :: vs, _ :: ds, .cons r t => by
    rw [show putF f v ((k, x) :: vs) = (if k = f then (k, v) :: vs else (k, x) :: putF f v vs) from rfl]
    unfold putD'
    by_cases h : k = f
    · rw [if_pos h, if_pos h]; exact .cons rv t
    · rw [if_neg h, if_neg h]; exact .cons r (RpF.put rv t)
theorem RpF.len {K : PySem.W.Frag} {ra : Ra} {H : Hp} : ∀ {vs : List (Str × V)} {fs : List (Str × D)}, RpF K ra H vs fs → vs.length = fs.length
  | _, _, .nil => rfl
  | _, _, .cons _ t => by rw [List.length_cons, List.length_cons, RpF.len t]
section
variable {X : Cx} {da : Da} {cm : Nat → Addr} {E : XK} {pos pos' p2 : Pos} {e : Expr} {i c : Nat} {x f : Str}
/-- self.f = e -/
def fldS (i c : Nat) (f : Str) (g : Env → M D) : SEnv → M Fl := fun env => bind (g (vw env)) fun d => match env[i]? with
  | some (.oo c' fs) => if c' = c ∧ fs.length < 900 then ret (.next (env.set i (.oo c (putD' f d fs)))) else bad
  | _ => bad
end
def endI (c : Nat) : Fl → M (List (Str × D))
  | .next env => match env[(0 : Nat)]? with
    | some (.oo c' fs) => if c' = c then ret fs else bad
    | _ => bad
  | _ => bad
def fnI (c n N : Nat) (F : SEnv → M Fl) : List D → M (List (Str × D)) := fun ds => if ds.length = n then bind (F (.oo c [] :: (ds.map .dt ++ List.replicate (N - 1 - n) .no))) fun r => endI c r
  else bad
section
variable {P : Program} {w : World} {K : PySem.W.Frag} {mg : Str → Option Value} {base : Heap} {cm : Nat → Addr}
end
end Dv
set_option maxHeartbeats 4000000
/-! C(..). -/
namespace Dv
open PySem PySem.Spec PyProof.Rows L2
section
variable {X : Cx} {da : Da} {cm : Nat → Addr} {W : WX} {pos p : Pos} {e : Expr} {es : List Expr} {k j n c : Nat} {f C : Addr} {fd : FuncData} {ps : List Str} {sp : Sp} {x : Str} {tb : List (Addr × Str)}
/-- C(..): its fields -/
def mkM (c n : Nat) (T : List D → M (List (Str × D))) (fs : Env → M (List D)) : Env → M D := fun env => bind (fs env) fun ds => if ds.length = n then bind (T ds) fun fl => ret (.obj c fl) else bad
variable {fs : Env → M (List D)} {T : List D → M (List (Str × D))}
end
end Dv
set_option maxHeartbeats 4000000
/-! Operators, len, truth and in of objects of own classes, at the model's level. -/
namespace Om
open PySem PySem.W PySem.Calls PyProof.Rows
section
variable {prog : Program} {w : World} {A : Around} {E : Value → Shared → Prop} {s : Shared} {K : Frag} {x C f : Addr} {ox : Obj} {od : Option Obj} {b tb : Value}
/-- what is asked of the other side's type -/
def Side (K : Frag) (C : Addr) (nm : String) (tb : Value) : Prop := tb = .ref C ∨ ∃ (T : String) (fo ro : Option Value), tb = .type T ∧ findIn K (.type T) (PySem.dunder nm) = some fo ∧ findIn K (.type T) (dunderR nm) = some ro ∧ subIn K (.type T) (.ref C) = some false
end
end Om
set_option maxHeartbeats 4000000
/-! ==, !=, in of objects of own classes, at the model's level. -/
namespace Om
open PySem PySem.W PySem.Calls PyProof.Rows
section
variable {prog : Program} {w : World} {A : Around} {E : Value → Shared → Prop} {s : Shared} {K : Frag} {x C f : Addr} {ox : Obj} {od : Option Obj} {b tb : Value}
end
end Om
set_option maxHeartbeats 4000000
/-! a | b, a == b, b in a, len(a), bool(a) of objects of own classes. -/
namespace Dv
open PySem PySem.Spec PyProof.Rows L2
section
variable {X : Cx} {pins : List (Addr × Obj)} {σ : L2.St} {H : Hp} {s : Shared}
end
/-- an operator's def of the class -/
structure OpC (K : PySem.W.Frag) (C : Addr) (nm : String) (f : Addr) : Prop where
  first : PySem.W.selfFirst K C = true
  at_ : PySem.W.findIn K (.ref C) (PySem.dunder nm) = some (some (.ref f))
  fn : PySem.W.isFn K (.ref f) = true
  rfl_ : PySem.W.findIn K (.ref C) (dunderR nm) = some none
  side : ∀ T ∈ kinds, Om.Side K C nm (.type T)
/-- the other side: of a built-in kind, or of the class -/
def D.okR (c : Nat) (d : D) : Bool := match d with
  | .obj c' _ => decide (c' = c)
  | d => d.typ.isSome
section
variable {X : Cx} {da : Da} {cm : Nat → Addr} {W : WX} {pos : Pos} {a b : Expr} {fa fb : Env → M D} {k j c : Nat} {f : Addr} {fd : FuncData} {ps : List Str} {T : List D → M D} {tb : List (Addr × Str)} {sp : Sp}
def boM (c : Nat) (T : List D → M D) (fa fb : Env → M D) : Env → M D := fun env => bind (fa env) fun x => bind (fb env) fun y => match x with
  | .obj c' fl => if c' = c ∧ y.okR c = true then T [.obj c' fl, y] else bad
  | _ => bad
end
end Dv
set_option maxHeartbeats 4000000
/-! Comparisons whose answer is a def of an own class. -/
namespace Dv
open PySem PySem.Spec PyProof.Rows L2
/-- .. the slots ahead -/
abbrev RS := L2.St → V → V → Hp → VK → Prop
def OpS (X : Cx) (f : Value → Value → Sem Value) (r : RS) : Prop := ∀ (pins : List (Addr × Obj)) (s : Shared) (σ : L2.St) (H : Hp) (x y : V) (v u : Value) (Q : VK), Inv X pins σ H s → RelV x v → RelV y u → r σ x y H Q → wpAny (model X.prog X.w) X.A (f v u) (EP X pins σ Q) X.xe s
section
variable {X : Cx} {a b : Expr} {ta tb : TE} {pos : Pos} {r : RS}
end
section
variable {X : Cx} {da : Da} {cm : Nat → Addr} {W : WX} {pos : Pos} {a b : Expr} {fa fb : Env → M D} {r : RS} {g : D → D → M D}
def RopM (K : PySem.W.Frag) (da : Da) (cm : Nat → Addr) (W : WX) (r : RS) (g : D → D → M D) : Prop := ∀ (σ : L2.St) (Hk H : Hp) (δ : Dice) (x y : V) (d e : D) (Q : VK), At da Hk H δ → Rp K da.ra Hk x d → Rp K da.ra Hk y e →
  Fin K da cm (g d e δ) Hk H (fun z δ' => ∀ v Hk' H', Stp da Hk H Hk' H' → At da Hk' H' δ' → Rp K da.ra Hk' v z → Q v H') (fun c dd H' => W c dd σ H') → r σ x y H Q
def bin2M (g : D → D → M D) (fa fb : Env → M D) : Env → M D := fun env => bind (fa env) fun x => bind (fb env) fun y => g x y
/-- a comparison whose answer is a run -/
structure CmpD (X : Cx) (da : Da) (cm : Nat → Addr) (W : WX) (op : CmpOp) (g : D → D → M D) : Prop where
  ex : ∃ r, OpS X (compareOp op) r ∧ RopM X.K da cm W r g
variable {k j c : Nat} {f : Addr} {fd : FuncData} {ps : List Str} {T : List D → M D} {tb : List (Addr × Str)} {sp : Sp} {cs : List Nat}
/-- the class has its own def of that name -/
structure DefC (K : PySem.W.Frag) (C : Addr) (m : Str) (f : Addr) : Prop where
  at_ : PySem.W.findIn K (.ref C) m = some (some (.ref f))
  fn : PySem.W.isFn K (.ref f) = true
/-- o == y by the class's __eq__ -/
def eqO (c : Nat) (T : List D → M D) (x y : D) : M D := match x with
  | .obj c' fl => if c' = c ∧ y.okR c = true then T [.obj c' fl, y] else bad
  | _ => bad
/-- x in o by the class's __contains__ -/
def inO (c : Nat) (T : List D → M D) (x y : D) : M D := match y with
  | .obj c' fl => if c' = c then bind (T [.obj c' fl, x]) fun z => bind (lift z.bl?) fun b => ret (.bl b) else bad
  | _ => bad
end
end Dv
set_option maxHeartbeats 4000000
/-! != of objects of own classes, at the model's level. -/
namespace Om
open PySem PySem.W PySem.Calls PyProof.Rows
section
variable {prog : Program} {w : World} {A : Around} {E : Value → Shared → Prop} {s : Shared} {K : Frag} {x C f : Addr} {ox : Obj} {od : Option Obj} {b tb : Value}
end
end Om
set_option maxHeartbeats 4000000
/-! bool(o), len(o), str(o) of objects of own classes. -/
namespace Om
open PySem PySem.W PySem.Calls PyProof.Rows
section
variable {prog : Program} {w : World} {A : Around} {E : Value → Shared → Prop} {s : Shared} {K : Frag} {x C f : Addr} {ox : Obj} {od : Option Obj}
end
end Om
set_option maxHeartbeats 4000000
/-! len(o), bool(o), str(o), o an object of an own class. -/
namespace Dv
open PySem PySem.Spec PyProof.Rows L2
section
variable {X : Cx} {da : Da} {cm : Nat → Addr} {W : WX} {pos p2 : Pos} {a : Expr} {fa : Env → M D} {k j c : Nat} {f C : Addr} {fd : FuncData} {ps : List Str} {T : List D → M D} {tb : List (Addr × Str)} {sp : Sp} {cs : List Nat}
def isB (v : V) : Prop := ∃ b, v = .bl b
def isT (v : V) : Prop := ∃ x, v = .str x
/-- the mirror: the def's answer, if it is of the kind -/
def ob1M (c : Nat) (ok : D → Bool) (T : List D → M D) (fa : Env → M D) : Env → M D := fun env => bind (fa env) fun x => match x with
  | .obj c' fl => if c' = c then bind (nx (T [.obj c' fl])) fun z => if ok z = true then ret z else bad else bad
  | _ => bad
def D.okB : D → Bool
  | .bl _ => true
  | _ => false
def D.okT : D → Bool
  | .str _ => true
  | _ => false
theorem okB {K : PySem.W.Frag} {ra : Ra} {Hk : Hp} {v : V} {d : D} (r : Rp K ra Hk v d) (h : d.okB = true) : isB v := by
  cases r with
  | bl b => exact ⟨b, rfl⟩
  | _ => cases h
theorem okT {K : PySem.W.Frag} {ra : Ra} {Hk : Hp} {v : V} {d : D} (r : Rp K ra Hk v d) (h : d.okT = true) : isT v := by
  cases r with
  | str b => exact ⟨b, rfl⟩
  | _ => cases h
end
end Dv
set_option maxHeartbeats 4000000
/-! Star displays, xs[::-1], != of objects. -/
namespace Dv
open PySem PySem.Spec PyProof.Rows L2
section
variable {X : Cx} {da : Da} {cm : Nat → Addr} {W : WX} {pos p : Pos} {e : Expr} {es : List Expr} {fe : Env → M D} {fs : Env → M (List D)}
def D.itms : D → Option (List D)
  | .lst xs => some xs
  | .tup xs => some xs
  | _ => none
/-- *e, .. -/
def starA (fe : Env → M D) (fs : Env → M (List D)) : Env → M (List D) := fun env => bind (fe env) fun x => bind (lift x.itms) fun xs => bind (fs env) fun ys => ret (xs ++ ys)
theorem RpL.reverse {K : PySem.W.Frag} {ra : Ra} {H : Hp} : ∀ {vs : List V} {ds : List D}, RpL K ra H vs ds → RpL K ra H vs.reverse ds.reverse
  | _, _, .nil => .nil
  | _, _, .cons r t => by rw [List.reverse_cons, List.reverse_cons]; exact (RpL.reverse t).append (.cons r .nil)
end
section
variable {X : Cx} {da : Da} {cm : Nat → Addr} {W : WX} {k j c : Nat} {f : Addr} {fd : FuncData} {ps : List Str} {T : List D → M D} {tb : List (Addr × Str)} {cs : List Nat}
end
end Dv
set_option maxHeartbeats 4000000
/-! Defs with *rest, class methods. -/
namespace Dv
open PySem PySem.Spec PyProof.Rows L2
/-- a promise of positional calls -/
def FnP (P : Program) (w : World) (K : PySem.W.Frag) (mg : Str → Option Value) (base : Heap) (k : Nat) (f : Addr) (sp : Sp) : Prop :=
  ∀ (A : Around) (fr : List PySem.Env) (s : Shared) (H : Hp) (us : List Value) (vs : List V) (Q : VK) (E : XK), RoomG k A → Env0 P w K mg base A fr s H → Vals vs us → sp vs H Q E → codeAny (model P w) A (.call (.ref f) ⟨us, []⟩) (CR (L2.CX P w) fr P w H s Q E) s
theorem FnP.mono {P : Program} {w : World} {K : PySem.W.Frag} {mg : Str → Option Value} {base : Heap} {j k : Nat} {f : Addr} {sp : Sp} (F : FnP P w K mg base j f sp) (h : j ≤ k) : FnP P w K mg base k f sp := fun A fr s H us vs Q E hr => F A fr s H us vs Q E (hr.mono h)
theorem FnG.pos {P : Program} {w : World} {K : PySem.W.Frag} {mg : Str → Option Value} {base : Heap} {k : Nat} {f : Addr} {fd : FuncData} {ps : List Str} {sp : Sp} (F : FnG P w K mg base k f fd ps sp) (hb : Binds K fd ps []) : FnP P w K mg base k f sp := fun A fr s H us vs Q E hr e0 r h => by
  have inK : K.In s.heap := e0.mod.kin.keeps fun b o e => (e0.bs b o e).1
  have b := hb s us inK
  rw [List.append_nil] at b
  exact F.runs A fr s H ⟨us, []⟩ us vs Q E hr e0 (b (r.length.symm.trans (F.arity vs H Q E h))) r h
section
variable {P : Program} {w : World} {K : PySem.W.Frag} {mg : Str → Option Value} {base : Heap} {cm : Nat → Addr}
end
end Dv
set_option maxHeartbeats 4000000
/-! C.m(..), m a classmethod; cls(..), cls a local name. -/
namespace Dv
open PySem PySem.Spec PyProof.Rows L2
section
variable {X : Cx} {da : Da} {cm : Nat → Addr} {W : WX} {pos apos p p2 : Pos} {o e : Expr} {es : List Expr} {fo : Env → M D} {fs : Env → M (List D)} {k j n c i : Nat} {C g pr f : Addr} {mc : Value} {m x : Str} {sp : Sp} {tb : List (Addr × Str)} {fd : FuncData} {ps : List Str}
end
end Dv
set_option maxHeartbeats 4000000
/-! cls(..), C() with a default. -/
namespace Dv
open PySem PySem.Spec PyProof.Rows L2
section
variable {X : Cx} {da : Da} {cm : Nat → Addr} {W : WX} {pos p : Pos} {e : Expr} {es : List Expr} {fs : Env → M (List D)} {k j n c i : Nat} {C f : Addr} {x : Str} {sp : Sp} {tb : List (Addr × Str)} {fd : FuncData} {ps : List Str} {T : List D → M (List (Str × D))}
end
end Dv
set_option maxHeartbeats 4000000
/-! found.append(left.pop(e)), two own lists. -/
namespace Dv
open PySem PySem.Spec PyProof.Rows L2
section
variable {X : Cx} {da : Da} {cm : Nat → Addr} {E : XK} {pos : Pos} {e : Expr} {i j : Nat} {x y : Str}
end
end Dv
set_option maxHeartbeats 4000000
/-! x, y = (a new list, a new list). -/
namespace Dv
open PySem PySem.Spec PyProof.Rows L2
section
variable {X : Cx} {da : Da} {cm : Nat → Addr} {E : XK} {pos : Pos} {e1 e2 : Expr} {i j : Nat} {fn gn : Env → M (List D)}
def asgN2 (i j : Nat) (f g : Env → M (List D)) : SEnv → M Fl := fun env => if i = j then bad else bind (f (vw env)) fun ds => bind (g (vw env)) fun es => ret (.next ((env.set i (.ow ds)).set j (.ow es)))
end
end Dv
set_option maxHeartbeats 4000000
/-! The rules of objects by the law's own class map cm. -/
namespace Dv
open PySem PySem.Spec PyProof.Rows L2
theorem lay_cl {da : Da} {tb : List (Addr × Str)} {cm : Nat → Addr} (h : da.lay = (tb, cm)) : da.ra.cl = cm := congrArg Prod.snd h
/-- what the written part says of a def of a class -/
structure FnM1 (K : PySem.W.Frag) (name qual : Str) (st : Stmt) (ps : List Str) (f : Addr) (fd : FuncData) : Prop where
  F : Fun K name qual st f fd
  b : Binds K fd ps []
section
variable {X : Cx} {da : Da} {cm : Nat → Addr} {W : WX} {E : XK} {pos p p2 apos pos' : Pos} {e o a b : Expr} {es : List Expr} {fo fa fb : Env → M D} {fs : Env → M (List D)} {k j n c i : Nat} {f g pr : Addr} {fd : FuncData} {ps : List Str} {T : List D → M D} {TI : List D → M (List (Str × D))} {tb : List (Addr × Str)} {cs : List Nat} {x m fl : Str} {mc : Value}
theorem ov_gcls (hT : da.lay = (tb, cm)) (hg : Gl X x) (h : X.mg x = some (.ref (cm c))) (hd : (x == ("__debug__" : Str)) = false := by decide) : PEv X da cm W (.Name x pos) (kc (.cls c)) := ev_gcls hg (by rw [lay_cl hT]; exact h) hd
end
end Dv
set_option maxHeartbeats 4000000
/-! f-strings of texts and ints. -/
namespace Dv
open PySem PySem.Spec PyProof.Rows L2
section
variable {X : Cx} {da : Da} {cm : Nat → Addr} {W : WX} {pos : Pos} {e : Expr} {fe : Env → M D}
inductive PJv (X : Cx) (da : Da) (cm : Nat → Addr) (W : WX) : List Expr → List (Env → M D) → Prop
  | nil : PJv X da cm W [] []
  | cons {e : Expr} {f : Env → M D} {es : List Expr} {fs : List (Env → M D)} : PEv X da cm W e f → PJv X da cm W es fs → PJv X da cm W (e :: es) (f :: fs)
end
end Dv
set_option maxHeartbeats 4000000
/-! The rules of class methods and of C() by the law's own class map. -/
namespace Dv
open PySem PySem.Spec PyProof.Rows L2
section
variable {X : Cx} {da : Da} {cm : Nat → Addr} {W : WX} {pos p apos : Pos} {e o : Expr} {es : List Expr} {fo : Env → M D} {fs : Env → M (List D)} {k j n c : Nat} {f g pr : Addr} {fd : FuncData} {ps : List Str} {T : List D → M D} {TI : List D → M (List (Str × D))} {tb : List (Addr × Str)} {x m : Str} {mc : Value}
end
end Dv
set_option maxHeartbeats 4000000
/-! Defs with defaults. -/
namespace Dv
open PySem PySem.Spec PyProof.Rows L2
/-- a def's text and place, whatever its defaults -/
structure FunV (K : PySem.W.Frag) (x qual : Str) (st : Stmt) (f : Addr) (fd : FuncData) : Prop where
  ex : ∃ (oc : Value) (od : Option Addr) (dV kV doc pm : Value) (an : Option Addr) (cdv ct : Value) (osl : Array (Option Value)),
    fd = PySem.W.fnOf x qual (defArgs st) (defBody st) (defScope st) dV kV doc pm an cdv ct ∧ K.lookup f = some ⟨oc, od, .func fd, osl⟩ ∧ PySem.W.codeIn K cdv qual = true
  kp : PySem.W.keepIn K (.ref f) = true
theorem FunV.of {K : PySem.W.Frag} {x qual : Str} {st : Stmt} {f : Addr} {fd : FuncData} (F : Fun K x qual st f fd) : FunV K x qual st f fd := by
  obtain ⟨oc, od, kV, doc, pm, an, cdv, ct, osl, e, lk, hcd⟩ := F.ex
  exact ⟨⟨oc, od, .none, kV, doc, pm, an, cdv, ct, osl, e, lk, hcd⟩, F.kp⟩
/-- what the written part says of a def with defaults -/
structure FnV1 (K : PySem.W.Frag) (name qual : Str) (st : Stmt) (ps : List Str) (f : Addr) (fd : FuncData) : Prop where
  F : FunV K name qual st f fd
  b : Binds K fd ps []
section
variable {P : Program} {w : World} {K : PySem.W.Frag} {mg : Str → Option Value} {base : Heap}
end
section
variable {P : Program} {w : World} {K : PySem.W.Frag} {mg : Str → Option Value} {base : Heap} {cm : Nat → Addr}
end
end Dv
set_option maxHeartbeats 4000000
/-! What of a class is asked of the heap, as Bools. -/
namespace Dv
open PySem PySem.Spec PyProof.Rows L2
section
variable {K : PySem.W.Frag} {C : Addr} {x m : Str}
theorem ba2 {a b : Bool} (h : (a && b) = true) : a = true ∧ b = true := Bool.and_eq_true_iff.mp h
end
end Dv
set_option maxHeartbeats 4000000
/-! x, y = (a new list, a new list), x and y plain local names: stored from the right. -/
namespace Dv
open PySem PySem.Spec PyProof.Rows L2
section
variable {X : Cx} {da : Da} {cm : Nat → Addr} {E : XK} {pos : Pos} {e1 e2 : Expr} {i j : Nat} {fn gn : Env → M (List D)}
end
end Dv
set_option maxHeartbeats 4000000
/-! for t in range(e), e read with own lists in sight. -/
namespace Dv
open PySem PySem.Spec PyProof.Rows L2
section
variable {X : Cx} {da : Da} {cm : Nat → Addr} {E : XK} {pos : Pos} {tg : Expr} {body : List Stmt}
def forR (f : Env → M (List D)) (t : Tg) (F : SEnv → M Fl) : SEnv → M Fl := fun env => bind (f (va env)) fun ds => bind (lift (rng1D ds)) fun xs => forL t F xs env
theorem seq_forR {f : Env → M (List D)} {t : Tg} {F G : SEnv → M Fl} {env : SEnv} : seqS (forR f t F) G env = bind (f (va env)) fun ds => bind (lift (rng1D ds)) fun xs => bind (forL t F xs env) (nextM G) := by
  rw [seq_gen]
  unfold forR
  simp only [bind_bind]
theorem for_R {f : Env → M (List D)} {t : Tg} {F : SEnv → M Fl} {env : SEnv} : forR f t F env = bind (f (va env)) fun ds => bind (lift (rng1D ds)) fun xs => forL t F xs env := Eq.trans rfl rfl
end
end Dv
set_option maxHeartbeats 4000000
/-! What a law with classes asks of the head. -/
namespace Dv
open PySem PySem.Spec PyProof.Rows L2
structure Ask2 where
  fa : List He.Fa
  fn : List He5.DefA
  tf : List He.Defn
  ex : List (PySem.W.Frag → Bool)
  ins : List InitD
def Ask2.obs (A : Ask2) (n : Nat) (g : Addr → Option Obj) : AlZ := (He5.obsA A.fa A.fn (frZ g n), (A.ex.all fun e => e (frZ g n)) && He.tabsB g A.tf (frZ g n), A.ins.map fun d => initObs (frZ g n) d.x)
structure Ask2.Says (A : Ask2) (h : Heap) (K : PySem.W.Frag) : Prop where
  d : He5.SaysA A.fa A.fn K
  ex : ∀ e ∈ A.ex, e K = true
  tab : ∀ p ∈ A.tf, PySem.W.codeHdIn K (He.cT K p).1 (He.cT K p).2 = true ∧ K.lookup (He.cT K p).2 = none ∧ h.get? (He.cT K p).2 = some { cls := .none, data := .fields #[] }
  ini : ∀ d ∈ A.ins, initObs K d.x = d.val
def Ask2.hook (A : Ask2) (n : Nat) : PySem.W.Hook where
  α := AlZ
  obs := fun s => A.obs n s.heap.get?
  val := fun _ => (He5.valA A.fn, true, A.ins.map InitD.val)
  says := fun _ h => ∃ K : PySem.W.Frag, K.In h ∧ A.Says h K
  of := fun w s e => by
    unfold Ask2.obs at e
    obtain ⟨e1, e2⟩ := Prod.mk.inj e
    obtain ⟨e2, e3⟩ := Prod.mk.inj e2
    obtain ⟨e4, e5⟩ := Bool.and_eq_true_iff.mp e2
    refine ⟨frZ s.heap.get? n, He.frT_in, e1, List.all_eq_true.mp e4, fun p hp => ?_, fun d hd => ?_⟩
    · obtain ⟨h1, h2⟩ := Bool.and_eq_true_iff.mp (List.all_eq_true.mp e5 p hp)
      cases q : s.heap.get? (He.cT (frZ s.heap.get? n) p).2 with
      | none => rw [q] at h2; cases h2
      | some o =>
        rw [q] at h2
        exact ⟨h1, He.frT_none q h2, by rw [He.emptyTab_eq h2]⟩
    · exact List.map_inj_left.mp e3 d hd
  keeps := fun _ _ _ ⟨K, hK, c⟩ k => ⟨K, PySem.W.Frag.In.keeps hK k, ⟨c.d, c.ex, fun p hp => ⟨(c.tab p hp).1, (c.tab p hp).2.1, k _ _ (c.tab p hp).2.2⟩, c.ini⟩⟩
theorem Ask2.obs_eq {A : Ask2} {n : Nat} {s : PySem.W.SharedT} : A.obs n (HandSHeadRun.getT s) = (A.hook n).obs s.abs := by
  have e : HandSHeadRun.getT s = s.abs.heap.get? := funext (HandSHeadRun.getT_eq s)
  rw [e]
  rfl
section
variable {A : Ask2} {h : Heap} {K : PySem.W.Frag} {mg : Str → Option Value}
/-- a plain def of the module; a def of a class, plain or wrapped -/
def dfa (x : Str) (st : Stmt) : He5.DefA := ⟨fun K => He.ga K x, x, x, defArgs st, defBody st, defScope st, [], []⟩
theorem Ask2.Says.fn1 (S : A.Says h K) (X : K.In h) (G : h.Ns mainGlobals mg) {x : Str} {st : Stmt} {ps : List Str} (i j : Nat) (hi : A.fn[i]? = some (dfa x st)) (hj : A.fa[j]? = some (.glo x))
    (hb : ∀ (kV doc pm : Value) (an : Option Addr) (cdv ct : Value) (us : List Value), us.length = ps.length → bindArgs (PySem.W.fnOf x x (defArgs st) (defBody st) (defScope st) .none kV doc pm an cdv ct) ⟨us, []⟩ = pure (ps.zip us)) :
    ∃ fd, (Fn1 K mg x st ps (He.ga K x) fd ∧ ∀ (s : Shared) (us : List Value), us.length = ps.length → BindsTo s fd ⟨us, []⟩ (ps.zip us)) ∧ ∃ c, He.codeOf K (x, none) = c ∧ IsCode K (He.ga K x) (.ref c) := by
  obtain ⟨fd, F⟩ := S.d.def_ i hi
  have F : FunD K x x (defArgs st) (defBody st) (defScope st) [] [] (He.ga K x) fd := F
  have g := He.glo_ok X G (S.d.fact j hj)
  have b := FunD.bindsN F hb
  obtain ⟨⟨oc, od, dV, kV, doc, pm, an, cdv, ct, osl, rfl, lk, hcd, hD, hK⟩, kp⟩ := F
  rcases hD with ⟨_, rfl⟩ | ⟨z, _⟩
  · obtain ⟨c, rfl⟩ := He.codeIn_ref hcd
    exact ⟨_, ⟨⟨⟨⟨oc, od, kV, doc, pm, an, .ref c, ct, osl, rfl, lk, hcd⟩, kp⟩, g, b⟩, fun s us hl => .of_eq (hb kV doc pm an _ ct us hl)⟩, c, He.codeOf_eq lk rfl, _, _, lk, rfl, rfl⟩
  · exact absurd rfl z
theorem Ask2.Says.er1 (S : A.Says h K) (X : K.In h) (G : h.Ns mainGlobals mg) {x : Str} (i j : Nat) (hi : A.ex[i]? = some fun K => errB K x) (hj : A.fa[j]? = some (.glo x)) : Er1 K mg x (He.ga K x) := by
  have c : errB K x = true := S.ex _ (List.mem_of_getElem? hi)
  unfold errB at c
  simp only [Bool.and_eq_true, decide_eq_true_eq] at c
  exact ⟨He.glo_ok X G (S.d.fact j hj), c.1, c.2.1, c.2.2⟩
theorem Ask2.Says.str (S : A.Says h K) (X : K.In h) (G : h.Ns mainGlobals mg) {x z : Str} (i : Nat) (hi : A.fa[i]? = some (.str x z)) : StrC mg x z := He.str_ok X G (S.d.fact i hi)
theorem Ask2.Says.int (S : A.Says h K) (X : K.In h) (G : h.Ns mainGlobals mg) {x : Str} {z : Int} (i : Nat) (hi : A.fa[i]? = some (.int x z)) : IntC mg x z := He.int_ok X G (S.d.fact i hi)
theorem Ask2.Says.free (S : A.Says h K) (X : K.In h) (G : h.Ns mainGlobals mg) {x : Str} (i : Nat) (hi : A.fa[i]? = some (.free x)) : mg x = none := He.free_ok X G (S.d.fact i hi)
theorem Ask2.Says.exb (S : A.Says h K) {e : PySem.W.Frag → Bool} (i : Nat) (hi : A.ex[i]? = some e) : e K = true := S.ex e (List.mem_of_getElem? hi)
theorem strs_v2 {K : PySem.W.Frag} (ys : List Str) : (ys.map He.Dv.str).map (He.Dv.v K) = ys.map V.str := by
  rw [List.map_map]; rfl
theorem Ask2.Says.tup (S : A.Says h K) (X : K.In h) (G : h.Ns mainGlobals mg) {x : Str} {ys : List Str} (i j : Nat) (hi : A.ex[i]? = some fun K => He.tupB K x (ys.map .str)) (hj : A.fa[j]? = some (.glo x)) : TupC K mg x ys :=
  ⟨_, He.glo_ok X G (S.d.fact j hj), fun H => by
    have := He.tupB_ok (S.exb i hi) H
    rw [strs_v2] at this
    exact this⟩
end
end Dv
set_option maxHeartbeats 4000000
/-! Keys as data: what ==, in, repr, sorted give of them. -/
namespace Dv
open PySem PySem.Spec PyProof.Rows L2 Ts
/-! ### D to keys and back -/
end Dv
set_option maxHeartbeats 4000000
/-! Mirrors of objects on told slots. -/
namespace Dv
open PySem PySem.Spec PyProof.Rows L2
theorem op1_M {g : D → Option D} {f : Env → M D} {env : Env} : op1M g f env = bind (f env) fun x => lift (g x) := Eq.trans rfl rfl
theorem un1_M {g : D → Option D} {f : Env → M D} {env : Env} : un1M g f env = bind (f env) fun x => lift (g x) := Eq.trans rfl rfl
theorem bin2_M {g : D → D → M D} {fa fb : Env → M D} {env : Env} : bin2M g fa fb env = bind (fa env) fun x => bind (fb env) fun y => g x y := Eq.trans rfl rfl
theorem mk_M {c n : Nat} {T : List D → M (List (Str × D))} {fs : Env → M (List D)} {env : Env} : mkM c n T fs env = bind (fs env) fun ds => if ds.length = n then bind (T ds) fun fl => ret (.obj c fl) else bad := Eq.trans rfl rfl
def prG (c : Nat) (T : List D → M D) (x : D) : M D := match x with
  | .obj c' fl => if c' = c then nx (T [.obj c' fl]) else bad
  | _ => bad
theorem pr_M {c : Nat} {T : List D → M D} {fo : Env → M D} {env : Env} : prM c T fo env = bind (fo env) (prG c T) := by
  unfold prM
  congr 1
theorem prG_o {c : Nat} {T : List D → M D} {fl : List (Str × D)} : prG c T (.obj c fl) = nx (T [.obj c fl]) := if_pos rfl
def boG (c : Nat) (T : List D → M D) (x y : D) : M D := match x with
  | .obj c' fl => if c' = c ∧ y.okR c = true then T [.obj c' fl, y] else bad
  | _ => bad
theorem bo_M {c : Nat} {T : List D → M D} {fa fb : Env → M D} {env : Env} : boM c T fa fb env = bind (fa env) fun x => bind (fb env) fun y => boG c T x y := by
  unfold boM
  congr 1
theorem inO_o {c : Nat} {T : List D → M D} {fl : List (Str × D)} {x : D} : inO c T x (.obj c fl) = bind (T [.obj c fl, x]) fun z => bind (lift z.bl?) fun b => ret (.bl b) := if_pos rfl
theorem okR_o {c : Nat} {fl : List (Str × D)} : D.okR c (.obj c fl) = true := decide_eq_true rfl
theorem okR_non {c : Nat} : D.okR c .non = true := Eq.trans rfl rfl
theorem okR_bl {c : Nat} {b : Bool} : D.okR c (.bl b) = true := Eq.trans rfl rfl
theorem okR_int {c : Nat} {b : Int} : D.okR c (.int b) = true := Eq.trans rfl rfl
theorem okR_str {c : Nat} {b : Str} : D.okR c (.str b) = true := Eq.trans rfl rfl
theorem okR_tup {c : Nat} {b : List D} : D.okR c (.tup b) = true := Eq.trans rfl rfl
theorem okR_lst {c : Nat} {b : List D} : D.okR c (.lst b) = true := Eq.trans rfl rfl
theorem okR_dic {c : Nat} {b : List (D × D)} : D.okR c (.dic b) = true := Eq.trans rfl rfl
def meG (c : Nat) (m : Str) (n : Nat) (T : List D → M D) (fs : M (List D)) (x : D) : M D := match x with
  | .obj c' fl => if c' = c ∧ fl.lookup m = none then bind fs fun ds => if ds.length + 1 = n then T (.obj c' fl :: ds) else bad else bad
  | _ => bad
theorem me_M {c : Nat} {m : Str} {n : Nat} {T : List D → M D} {fo : Env → M D} {fs : Env → M (List D)} {env : Env} : meM c m n T fo fs env = bind (fo env) (meG c m n T (fs env)) := by
  unfold meM
  congr 1
def obG (c : Nat) (ok : D → Bool) (T : List D → M D) (x : D) : M D := match x with
  | .obj c' fl => if c' = c then bind (nx (T [.obj c' fl])) fun z => if ok z = true then ret z else bad else bad
  | _ => bad
theorem ob1_M {c : Nat} {ok : D → Bool} {T : List D → M D} {fa : Env → M D} {env : Env} : ob1M c ok T fa env = bind (fa env) (obG c ok T) := by
  unfold ob1M
  congr 1
theorem obG_o {c : Nat} {ok : D → Bool} {T : List D → M D} {fl : List (Str × D)} : obG c ok T (.obj c fl) = bind (nx (T [.obj c fl])) fun z => if ok z = true then ret z else bad := if_pos rfl
theorem okB_b {b : Bool} : D.okB (.bl b) = true := Eq.trans rfl rfl
theorem okT_s {b : Str} : D.okT (.str b) = true := Eq.trans rfl rfl
theorem fld_o {c : Nat} {f : Str} {fl : List (Str × D)} : D.fld c f (.obj c fl) = fl.lookup f := if_pos rfl
theorem look_1 {f : Str} {d : D} {r : List (Str × D)} : ((f, d) :: r).lookup f = some d := by simp [List.lookup]
theorem fnI_1 {c N : Nat} {F : SEnv → M Fl} {a : D} : fnI c 1 N F [a] = bind (F (.oo c [] :: .dt a :: List.replicate (N - 1 - 1) .no)) (endI c) := Eq.trans rfl rfl
theorem fnI_2 {c N : Nat} {F : SEnv → M Fl} {a b : D} : fnI c 2 N F [a, b] = bind (F (.oo c [] :: .dt a :: .dt b :: List.replicate (N - 1 - 2) .no)) (endI c) := Eq.trans rfl rfl
theorem endI_o {c : Nat} {fs : List (Str × D)} {r : SEnv} : endI c (.next (.oo c fs :: r)) = ret fs := if_pos rfl
def fldG (i c : Nat) (f : Str) (d : D) (env : SEnv) : Option Sl → M Fl
  | some (.oo c' fs) => if c' = c ∧ fs.length < 900 then ret (.next (env.set i (.oo c (putD' f d fs)))) else bad
  | _ => bad
theorem fld_S {i c : Nat} {f : Str} {g : Env → M D} {env : SEnv} : fldS i c f g env = bind (g (vw env)) fun d => fldG i c f d env env[i]? := by
  unfold fldS
  congr 1
theorem vw_oo {c : Nat} {fs : List (Str × D)} : Sl.vw (.oo c fs) = none := Eq.trans rfl rfl
theorem rai_S {c : Nat} {f : Env → M D} {env : SEnv} : raiS c f env = bind (f (vw env)) fun _ => excM c [] := Eq.trans rfl rfl
theorem seq_rai {c : Nat} {f : Env → M D} {G : SEnv → M Fl} {env : SEnv} : seqS (raiS c f) G env = bind (f (vw env)) fun _ => excM c [] := by
  unfold seqS raiS
  rw [bind_bind]
  rfl
theorem exc_b {α β : Type} {c : Nat} {fs : List (Str × D)} {f : α → M β} : bind (excM c fs) f = excM c fs := Eq.trans rfl rfl
theorem star_A {fe : Env → M D} {fs : Env → M (List D)} {env : Env} : starA fe fs env = bind (fe env) fun x => bind (lift x.itms) fun xs => bind (fs env) fun ys => ret (xs ++ ys) := Eq.trans rfl rfl
theorem itms_l {ds : List D} : (D.lst ds).itms = some ds := Eq.trans rfl rfl
theorem itms_t {ds : List D} : (D.tup ds).itms = some ds := Eq.trans rfl rfl
theorem seq_expr {f : Env → M D} {G : SEnv → M Fl} {env : SEnv} : seqS (exprS f) G env = bind (f (va env)) fun _ => G env := by
  unfold seqS exprS
  rw [bind_bind]
  rfl
theorem expr_S {f : Env → M D} {env : SEnv} : exprS f env = bind (f (va env)) fun _ => ret (.next env) := Eq.trans rfl rfl
theorem if_S {t : Env → M Bool} {A B : SEnv → M Fl} {env : SEnv} : ifS t A B env = bind (t (va env)) fun b => if b then A env else B env := Eq.trans rfl rfl
theorem nx_ret' {α : Type} {a : α} : nx (ret a) = ret a := Eq.trans rfl rfl
theorem seqq_l {xs : List D} : (D.lst xs).seq? = some xs := Eq.trans rfl rfl
theorem seqq_t {xs : List D} : (D.tup xs).seq? = some xs := Eq.trans rfl rfl
end Dv
set_option maxHeartbeats 4000000
namespace Dv
open PySem PySem.Spec PyProof.Rows L2
theorem isi_of {d : D} {t T : String} {b : Bool} (h : d.typ = some t) (k : kitB t T = some b) : D.isI [d, .ty T] = some (.bl b) := by simp only [D.isI, h, k, Option.map_some]
theorem isi_non_bool : D.isI [.non, .ty "bool"] = some (.bl false) := isi_of rfl (by decide +kernel)
theorem isi_non_int : D.isI [.non, .ty "int"] = some (.bl false) := isi_of rfl (by decide +kernel)
theorem isi_non_str : D.isI [.non, .ty "str"] = some (.bl false) := isi_of rfl (by decide +kernel)
theorem isi_non_tuple : D.isI [.non, .ty "tuple"] = some (.bl false) := isi_of rfl (by decide +kernel)
theorem isi_non_list : D.isI [.non, .ty "list"] = some (.bl false) := isi_of rfl (by decide +kernel)
theorem isi_non_dict : D.isI [.non, .ty "dict"] = some (.bl false) := isi_of rfl (by decide +kernel)
theorem isi_bl_bool {b : Bool} : D.isI [.bl b, .ty "bool"] = some (.bl true) := isi_of rfl (by decide +kernel)
theorem isi_bl_int {b : Bool} : D.isI [.bl b, .ty "int"] = some (.bl true) := isi_of rfl (by decide +kernel)
theorem isi_bl_str {b : Bool} : D.isI [.bl b, .ty "str"] = some (.bl false) := isi_of rfl (by decide +kernel)
theorem isi_bl_tuple {b : Bool} : D.isI [.bl b, .ty "tuple"] = some (.bl false) := isi_of rfl (by decide +kernel)
theorem isi_bl_list {b : Bool} : D.isI [.bl b, .ty "list"] = some (.bl false) := isi_of rfl (by decide +kernel)
theorem isi_bl_dict {b : Bool} : D.isI [.bl b, .ty "dict"] = some (.bl false) := isi_of rfl (by decide +kernel)
theorem isi_int_bool {i : Int} : D.isI [.int i, .ty "bool"] = some (.bl false) := isi_of rfl (by decide +kernel)
theorem isi_int_int {i : Int} : D.isI [.int i, .ty "int"] = some (.bl true) := isi_of rfl (by decide +kernel)
theorem isi_int_str {i : Int} : D.isI [.int i, .ty "str"] = some (.bl false) := isi_of rfl (by decide +kernel)
theorem isi_int_tuple {i : Int} : D.isI [.int i, .ty "tuple"] = some (.bl false) := isi_of rfl (by decide +kernel)
theorem isi_int_list {i : Int} : D.isI [.int i, .ty "list"] = some (.bl false) := isi_of rfl (by decide +kernel)
theorem isi_int_dict {i : Int} : D.isI [.int i, .ty "dict"] = some (.bl false) := isi_of rfl (by decide +kernel)
theorem isi_str_bool {x : Str} : D.isI [.str x, .ty "bool"] = some (.bl false) := isi_of rfl (by decide +kernel)
theorem isi_str_int {x : Str} : D.isI [.str x, .ty "int"] = some (.bl false) := isi_of rfl (by decide +kernel)
theorem isi_str_str {x : Str} : D.isI [.str x, .ty "str"] = some (.bl true) := isi_of rfl (by decide +kernel)
theorem isi_str_tuple {x : Str} : D.isI [.str x, .ty "tuple"] = some (.bl false) := isi_of rfl (by decide +kernel)
theorem isi_str_list {x : Str} : D.isI [.str x, .ty "list"] = some (.bl false) := isi_of rfl (by decide +kernel)
theorem isi_str_dict {x : Str} : D.isI [.str x, .ty "dict"] = some (.bl false) := isi_of rfl (by decide +kernel)
theorem isi_tup_bool {ds : List D} : D.isI [.tup ds, .ty "bool"] = some (.bl false) := isi_of rfl (by decide +kernel)
theorem isi_tup_int {ds : List D} : D.isI [.tup ds, .ty "int"] = some (.bl false) := isi_of rfl (by decide +kernel)
theorem isi_tup_str {ds : List D} : D.isI [.tup ds, .ty "str"] = some (.bl false) := isi_of rfl (by decide +kernel)
theorem isi_tup_tuple {ds : List D} : D.isI [.tup ds, .ty "tuple"] = some (.bl true) := isi_of rfl (by decide +kernel)
theorem isi_tup_list {ds : List D} : D.isI [.tup ds, .ty "list"] = some (.bl false) := isi_of rfl (by decide +kernel)
theorem isi_tup_dict {ds : List D} : D.isI [.tup ds, .ty "dict"] = some (.bl false) := isi_of rfl (by decide +kernel)
theorem isi_lst_bool {ds : List D} : D.isI [.lst ds, .ty "bool"] = some (.bl false) := isi_of rfl (by decide +kernel)
theorem isi_lst_int {ds : List D} : D.isI [.lst ds, .ty "int"] = some (.bl false) := isi_of rfl (by decide +kernel)
theorem isi_lst_str {ds : List D} : D.isI [.lst ds, .ty "str"] = some (.bl false) := isi_of rfl (by decide +kernel)
theorem isi_lst_tuple {ds : List D} : D.isI [.lst ds, .ty "tuple"] = some (.bl false) := isi_of rfl (by decide +kernel)
theorem isi_lst_list {ds : List D} : D.isI [.lst ds, .ty "list"] = some (.bl true) := isi_of rfl (by decide +kernel)
theorem isi_lst_dict {ds : List D} : D.isI [.lst ds, .ty "dict"] = some (.bl false) := isi_of rfl (by decide +kernel)
theorem isi_dic_bool {es : List (D × D)} : D.isI [.dic es, .ty "bool"] = some (.bl false) := isi_of rfl (by decide +kernel)
theorem isi_dic_int {es : List (D × D)} : D.isI [.dic es, .ty "int"] = some (.bl false) := isi_of rfl (by decide +kernel)
theorem isi_dic_str {es : List (D × D)} : D.isI [.dic es, .ty "str"] = some (.bl false) := isi_of rfl (by decide +kernel)
theorem isi_dic_tuple {es : List (D × D)} : D.isI [.dic es, .ty "tuple"] = some (.bl false) := isi_of rfl (by decide +kernel)
theorem isi_dic_list {es : List (D × D)} : D.isI [.dic es, .ty "list"] = some (.bl false) := isi_of rfl (by decide +kernel)
theorem isi_dic_dict {es : List (D × D)} : D.isI [.dic es, .ty "dict"] = some (.bl true) := isi_of rfl (by decide +kernel)
theorem seq_asgN2 {i j : Nat} {f g : Env → M (List D)} {G : SEnv → M Fl} {env : SEnv} : seqS (asgN2 i j f g) G env = if i = j then bad else bind (f (vw env)) fun ds => bind (g (vw env)) fun es => G ((env.set i (.ow ds)).set j (.ow es)) := by
  unfold seqS asgN2
  split
  · rfl
  · rw [bind_bind]
    congr 1
    funext ds
    rw [bind_bind]
    rfl
theorem lst_N {f : Env → M D} {env : Env} : lstN (consA f nilA) env = bind (f env) fun x => lift x.seq? := by
  unfold lstN consA nilA
  simp only [bind_bind, bind_ret]
  rfl
theorem chain_M {g g' : D → D → Option D} {fa fb fc : Env → M D} {env : Env} : chainM g g' fa fb fc env = bind (fa env) fun x => bind (fb env) fun y => bind (lift ((g x y).bind D.bl?)) fun t => if t then bind (fc env) fun z => lift (g' y z) else ret (.bl false) := Eq.trans rfl rfl
theorem sbl {b : Bool} : (some (D.bl b)).bind D.bl? = some b := Eq.trans rfl rfl
theorem len_T {ds : List D} : D.len [.tup ds] = some (.int ds.length) := rfl
theorem len_L {ds : List D} : D.len [.lst ds] = some (.int ds.length) := rfl
theorem ne_int {i j : Int} : D.ne (.int i) (.int j) = some (.bl (!(i == j))) := by
  have := two_some' (c := okEq) (f := fun p q => !PyData.eqv p q) (d := .int i) (e := .int j) (p := .int i) (q := .int j) (by simp [D.py]) (by simp [D.py]) (by unfold okEq; rw [shaped_int, shaped_int]; rfl)
  rw [show D.ne (.int i) (.int j) = _ from this]
  simp [PyData.eqv]
theorem tupleOf_l {ds : List D} : D.tupleOf [.lst ds] = some (.tup ds) := rfl
theorem tupleOf_t {ds : List D} : D.tupleOf [.tup ds] = some (.tup ds) := rfl
theorem items_l {ds : List D} : (D.lst ds).items = some ds := rfl
theorem items_t {ds : List D} : (D.tup ds).items = some ds := rfl
end Dv
set_option maxHeartbeats 1000000
local macro_rules | `(tactic| walk_at "dv") => `(tactic| simp only [Dv.fn_1, Dv.fn_2, Dv.fn_3, Dv.fnN_1, Dv.fnN_2, Dv.fc_1, Dv.fc_2, Dv.fc_3, Dv.fc_4, Dv.seq_asg, Dv.seq_asgN, Dv.seq_nil, Dv.seq_if, Dv.seq_seq, Dv.seq_retS, Dv.ret_S, Dv.if_M, Dv.vw_cons, Dv.va_cons, Dv.vw_nil, Dv.va_nil, Dv.vw_dt, Dv.vw_no, Dv.vw_ow, Dv.va_dt, Dv.va_no, Dv.va_ow, Dv.op_M, Dv.kc_M, Dv.cal_1, Dv.cal_2, Dv.as_B, Dv.bl_bl, Dv.not_M, Dv.not_T, Dv.and_T, Dv.or_T, Dv.and_M, Dv.or_M, Dv.if_E, Dv.cons_A, Dv.nil_A, Dv.tup_M, Dv.new_M, Dv.dsp_N, Dv.sl_M, Dv.no_P, Dv.some_P, Dv.it_M, Dv.lc_N, Dv.frz_S, Dv.ite_t, Dv.ite_f, Dv.b_ret, Dv.bind_bind, Dv.l_some, Dv.outM_ret, Dv.outM_nw, Dv.outM_next, Dv.outN_nw, Dv.nextM_next, Dv.nextM_ret, Dv.dix_M, Dv.dget_dice, Dv.dput_dice, Dv.seq_dice, Dv.toInt_i, Dv.toInt_b, Dv.add_int, Dv.sub_int, Dv.gt_int, Dv.lt_int, Dv.le_int, Dv.ge_int, Dv.eq_int, Dv.put_bind, Dv.nil_S, Dv.dsp_D, Dv.prs_nil, Dv.prs_cons, Dv.ret_W, Dv.seq_asgT, Dv.put_S0, Dv.put_S, Dv.put_D0, Dv.put_Dc, Dv.tg_nm, Dv.tg_2, Dv.tg_3, Dv.seq_for, Dv.for_M, Dv.lam_M, Dv.seq_app, Dv.appG_ow, Dv.seq_frz, Dv.frz_E, Dv.frzG_ow, Dv.frzG_dt, Dv.lim_eq, Dv.nx_r, List.getElem?_cons_zero, List.getElem?_cons_succ, List.length_cons, List.length_nil, Nat.zero_add, Nat.reduceLeDiff, Nat.reduceLT, ↓reduceIte, List.nil_append, List.cons_append, Dv.mt1_G, Dv.mtG_str, Dv.rng_1, Dv.rng_2, Dv.put_D, Dv.v_0, Dv.w_1, Dv.w_2, Dv.w_3, Dv.w_4, Dv.w_5, Dv.w_6, Dv.w_7, Dv.w_8, Dv.w_9, Dv.w_10, Dv.w_11, Dv.w_12, Dv.w_13, Dv.w_14, Dv.w_15, Dv.w_16, Dv.w_17, Dv.w_18, Dv.w_19, List.replicate, Nat.reduceSub, Nat.reduceAdd, List.set_cons_succ, List.set_cons_zero, Dv.op1_M, Dv.un1_M, Dv.bin2_M, Dv.mk_M, Dv.pr_M, Dv.prG_o, Dv.bo_M, Dv.me_M, Dv.ob1_M, Dv.obG_o, Dv.inO_o, Dv.fld_o, Dv.look_1, Dv.fnI_1, Dv.fnI_2, Dv.endI_o, Dv.fld_S, Dv.rai_S, Dv.seq_rai, Dv.exc_b, Dv.star_A, Dv.itms_l, Dv.itms_t, Dv.seq_expr, Dv.expr_S, Dv.if_S, Dv.vw_oo, Dv.seq_asgN2, Dv.lst_N, Dv.nx_ret', Dv.seq_forR, Dv.for_R, Dv.chain_M])
namespace Lb
open PySem PySem.Spec PyProof.Rows L2 Dv
def m_l_dice : SEnv → M Fl :=
  seqS (asgS 2 (ifM (asB (opM D.lt (vr 1) (calM D.len (consA (vr 0) (nilA))))) (opM D.ix (vr 0) (vr 1)) (opM D.add (opM D.mul (kc (.int 59)) (vr 1)) (kc (.int 17))))) (seqS (asgS 3 (opM D.mod (calM D.toInt (consA (calM D.abs (consA (vr 2) (nilA))) (nilA))) (opM D.powB (opM D.powB (kc (.int 10)) (kc (.int 58))) (kc (.int 10))))) (seqS (asgS 4 (opM D.add (opM D.add (opM D.add (opM D.mul (opM D.mod (calM D.toInt (consA (vr 3) (nilA))) (kc (.int 2305843009213693907))) (kc (.int 1000303))) (opM D.mul (kc (.int 7919)) (vr 1))) (opM D.mul (kc (.int 41)) (calM D.toInt (consA (opM D.lt (vr 2) (kc (.int 0))) (nilA))))) (kc (.int 11)))) (retW (dspN (consA (calM D.max2 (consA (kc (.int 0)) (consA (opM D.sub (vr 3) (opM D.powB (kc (.int 10)) (kc (.int 18)))) (nilA)))) (consA (opM D.mod (calM D.toInt (consA (vr 4) (nilA))) (kc (.int 2305843009213693921))) (consA (kc (.int 0)) (nilA))))))))
def t_l_dice : List D → M (List D) := fnN 2 5 m_l_dice
def m_l_roll : SEnv → M Fl :=
  seqS (ifS (asB (opM D.gt (dixM 0 (vr 0)) (kc (.int 0)))) (seqS (asgS 2 (opM D.mod (calM D.toInt (consA (dixM 0 (vr 0)) (nilA))) (vr 1))) (seqS (diceS 0 (vr 0) (opM D.fdiv (dixM 0 (vr 0)) (vr 1))) (retS (vr 2)))) (nilS)) (seqS (diceS 2 (vr 0) (opM D.add (dixM 2 (vr 0)) (kc (.int 1)))) (seqS (asgS 3 (opM D.mod (calM D.toInt (consA (opM D.add (dixM 1 (vr 0)) (opM D.mul (kc (.int 961748941)) (dixM 2 (vr 0)))) (nilA))) (kc (.int 2305843009213693951)))) (seqS (asgS 4 (opM D.add (opM D.mul (opM D.mod (calM D.toInt (consA (opM D.mul (vr 3) (vr 3)) (nilA))) (kc (.int 1152921504606846883))) (vr 3)) (opM D.mul (kc (.int 7411)) (dixM 2 (vr 0))))) (retS (opM D.mod (calM D.toInt (consA (opM D.fdiv (opM D.mod (calM D.toInt (consA (opM D.add (vr 4) (dixM 1 (vr 0))) (nilA))) (kc (.int 4398046511093))) (kc (.int 64))) (nilA))) (vr 1))))))
def t_l_roll : List D → M D := fnM 2 5 m_l_roll
def m_l_pick : SEnv → M Fl :=
  retS (opM D.ix (vr 1) (fcM 2 t_l_roll (consA (vr 0) (consA (calM D.len (consA (vr 1) (nilA))) (nilA)))))
def t_l_pick : List D → M D := fnM 2 2 m_l_pick
def good (x : Str) : Bool := asc x && decide (x.length ≤ 1500)
theorem good_len {x : Str} (h : good x = true) : x.length ≤ lim := Nat.le_trans (of_decide_eq_true (Bool.and_eq_true_iff.mp h).2) (by decide)
theorem len1 {x : Str} (h : good x = true) {r : Dv.Env} : calM D.len (consA (vr 0) nilA) (some (.str x) :: r) = ret (.int x.length) := cal_ret (cons_ret vr_0 rfl) (len_str (good_len h))
theorem roll_run {n : Int} (h1 : 0 < n) (h2 : n ≤ 1000000) : Run 1 (fun d => ∃ i : Int, d = .int i ∧ 0 ≤ i ∧ i < n) (t_l_roll [.dice, .int n]) := fun δ h0 hk => by
  have hB : δ.2.2 + 1 ≤ 1000000000 := hk
  have ht : D.toInt = D.toInt := rfl
  have hn : n.natAbs.log2 < 9000 := Nat.lt_of_lt_of_le (log2_64 (by omega) (by omega)) (by omega)
  unfold t_l_roll m_l_roll
  walk_at "dv"
  have e1 := mod_int (i := δ.1) h1
  have e2 := fdiv_int (i := δ.1) h1 hn
  simp only [get_bind, at_0, Dv.gt_int, l_some, Dv.b_ret, bl_bl]
  by_cases hg : (0 : Int) < δ.1
  · refine ⟨.int (δ.1 % n), (δ.1 / n, δ.2), ?_, Int.le_refl _, by show δ.2.2 ≤ δ.2.2 + _; omega, _, rfl, Int.emod_nonneg _ (by omega), Int.emod_lt_of_pos _ h1⟩
    rw [decide_eq_true hg, ite_t]
    simp only [get_bind, Dv.bind_bind, at_0, toInt_i, l_some, Dv.b_ret, e1, e2, dput_dice, put_bind, put_at, outM_ret]
    rfl
  · rw [decide_eq_false hg, ite_f]
    have b2 : (δ.2.2 + 1).natAbs.log2 < 4000 := Nat.lt_of_lt_of_le (log2_64 (by omega) (by omega)) (by omega)
    have bm : ∀ i : Int, (i % 2305843009213693951).natAbs.log2 < 4000 := fun i => Nat.lt_of_lt_of_le (log2_64 (Int.emod_nonneg _ (by omega)) (by have := Int.emod_lt_of_pos i (b := 2305843009213693951) (by omega); omega)) (by omega)
    have bm2 : ∀ i : Int, (i % 1152921504606846883).natAbs.log2 < 4000 := fun i => Nat.lt_of_lt_of_le (log2_64 (Int.emod_nonneg _ (by omega)) (by have := Int.emod_lt_of_pos i (b := 1152921504606846883) (by omega); omega)) (by omega)
    have c1 : (961748941 : Int).natAbs.log2 < 4000 := Nat.lt_of_lt_of_le (log2_64 (by omega) (by omega)) (by omega)
    have c2 : (7411 : Int).natAbs.log2 < 4000 := Nat.lt_of_lt_of_le (log2_64 (by omega) (by omega)) (by omega)
    have c3 : (64 : Int).natAbs.log2 < 9000 := Nat.lt_of_lt_of_le (log2_64 (by omega) (by omega)) (by omega)
    have m1 : D.mul (.int 961748941) (.int (δ.2.2 + 1)) = _ := mul_int c1 b2
    have m2 : D.mul (.int 7411) (.int (δ.2.2 + 1)) = _ := mul_int c2 b2
    have m3 : ∀ i j : Int, D.mul (.int (i % 2305843009213693951)) (.int (j % 2305843009213693951)) = _ := fun i j => mul_int (bm i) (bm j)
    have m4 : ∀ i j : Int, D.mul (.int (i % 1152921504606846883)) (.int (j % 2305843009213693951)) = _ := fun i j => mul_int (bm2 i) (bm j)
    have e4 : ∀ i : Int, D.fdiv (.int i) (.int 64) = _ := fun i => fdiv_int (by omega) c3
    have e5 : ∀ i : Int, D.mod (.int i) (.int 2305843009213693951) = _ := fun i => mod_int (by omega)
    have e6 : ∀ i : Int, D.mod (.int i) (.int 1152921504606846883) = _ := fun i => mod_int (by omega)
    have e7 : ∀ i : Int, D.mod (.int i) (.int 4398046511093) = _ := fun i => mod_int (by omega)
    have e8 : ∀ i : Int, D.mod (.int i) (.int n) = _ := fun i => mod_int h1
    have a1 : ∀ i, (δ.set 2 i).at 1 = δ.2.1 := fun i => rfl
    have a2 : ∀ i, (δ.set 2 i).at 2 = i := fun i => rfl
    simp only [get_bind, Dv.bind_bind, at_2, toInt_i, l_some, Dv.b_ret, e4, e5, e6, e7, e8, m1, m2, m3, m4, a1, a2, Dv.add_int, dput_dice, put_bind, put_at, outM_ret]
    exact ⟨_, _, rfl, by show δ.2.2 ≤ δ.2.2 + 1; omega, by show δ.2.2 + 1 ≤ δ.2.2 + ((1 : Nat) : Int); omega, _, rfl, Int.emod_nonneg _ (by omega), Int.emod_lt_of_pos _ h1⟩
theorem atI_in {α : Type} {xs : List α} {i : Int} (h0 : 0 ≤ i) (h1 : i < xs.length) : ∃ d, atI xs i = some d ∧ d ∈ xs := by
  obtain ⟨n, rfl⟩ := Int.eq_ofNat_of_zero_le h0
  have hn : n < xs.length := by omega
  refine ⟨xs[n], ?_, List.getElem_mem hn⟩
  unfold atI
  have : ixN xs.length (n : Int) = some n := by unfold ixN; rw [if_pos (by omega), if_pos (by omega)]; rfl
  rw [this]
  exact List.getElem?_eq_getElem hn
theorem pick_lst {xs : List D} (h : xs ≠ []) (hl : xs.length ≤ 1000000) : Run 1 (fun d => d ∈ xs) (t_l_pick [.dice, .lst xs]) := by
  have e : D.len [.lst xs] = some (.int xs.length) := rfl
  have h1 : 0 < xs.length := List.length_pos_iff.mpr h
  unfold t_l_pick m_l_pick
  walk_at "dv"
  simp only [e, l_some, b_ret]
  refine Run.bind (k' := 0) (roll_run (by omega) (by omega)) fun a ⟨i, hi, i0, i1⟩ => ?_
  subst hi
  obtain ⟨d, hd, hm⟩ := atI_in i0 i1
  have e2 : D.ix (.lst xs) (.int i) = some d := hd
  rw [e2, l_some, b_ret]
  exact Run.ret hm
theorem ix_scr {ns : List Int} {i : Nat} (h : i < ns.length) : D.ix (.scr ns) (.int i) = some (.int ns[i]) := by
  show (atI ns i).map D.int = _
  unfold atI
  have : ixN ns.length (i : Int) = some i := by unfold ixN; rw [if_pos (by omega), if_pos (by omega)]; rfl
  rw [this]
  show (ns[i]?).map D.int = _
  rw [List.getElem?_eq_getElem h]
  rfl
theorem ex_two (x y : Int) : ∃ a b : Int, (ret [D.int x, .int y, .int 0] : M (List D)) = ret [.int a, .int b, .int 0] := ⟨x, y, rfl⟩
theorem great : ∃ A B : Int, D.powB (.int 10) (.int 58) = some (.int A) ∧ D.powB (.int A) (.int 10) = some (.int B) ∧ 0 < B :=
  ⟨10 ^ 58, (10 ^ 58) ^ 10, powB_int (by decide +kernel), powB_int (by decide +kernel), by decide +kernel⟩
theorem great3 : ∃ C : Int, D.powB (.int 10) (.int 18) = some (.int C) := ⟨10 ^ 18, powB_int (by decide +kernel)⟩
theorem dice_ok (ns : List Int) (i : Nat) (hi : i < 1000) : ∃ a b : Int, t_l_dice [.scr ns, .int i] = ret [.int a, .int b, .int 0] := by
  have l0 : D.len [.scr ns] = some (.int ns.length) := rfl
  obtain ⟨A, B, p1, p2, p4⟩ := great
  obtain ⟨C, p3⟩ := great3
  have ab : ∀ j : Int, D.abs [.int j] = some (.int (if j < 0 then -j else j)) := fun _ => rfl
  have mx : ∀ j k : Int, D.max2 [.int j, .int k] = some (.int (if k > j then k else j)) := fun _ _ => rfl
  have c1 : (59 : Int).natAbs.log2 < 4000 := Nat.lt_of_lt_of_le (log2_64 (by omega) (by omega)) (by omega)
  have c2 : (i : Int).natAbs.log2 < 4000 := Nat.lt_of_lt_of_le (log2_64 (by omega) (by omega)) (by omega)
  have c3 : (7919 : Int).natAbs.log2 < 4000 := Nat.lt_of_lt_of_le (log2_64 (by omega) (by omega)) (by omega)
  have c4 : (1000303 : Int).natAbs.log2 < 4000 := Nat.lt_of_lt_of_le (log2_64 (by omega) (by omega)) (by omega)
  have c5 : (41 : Int).natAbs.log2 < 4000 := Nat.lt_of_lt_of_le (log2_64 (by omega) (by omega)) (by omega)
  have c6 : ∀ j : Int, (j % 2305843009213693907).natAbs.log2 < 4000 := fun j => Nat.lt_of_lt_of_le (log2_64 (Int.emod_nonneg _ (by omega)) (by have := Int.emod_lt_of_pos j (b := 2305843009213693907) (by omega); omega)) (by omega)
  have c7 : ∀ b : Bool, (if b = true then (1 : Int) else 0).natAbs.log2 < 4000 := fun b => by cases b <;> exact Nat.lt_of_lt_of_le (log2_64 (by decide) (by decide)) (by omega)
  have m1 := mul_int c1 c2
  have m2 := mul_int c3 c2
  have m3 := fun j => mul_int (c6 j) c4
  have m4 := fun b => mul_int c5 (c7 b)
  have d1 : ∀ j : Int, D.mod (.int j) (.int B) = _ := fun j => mod_int p4
  have d2 : ∀ j : Int, D.mod (.int j) (.int 2305843009213693907) = _ := fun j => mod_int (by omega)
  have d3 : ∀ j : Int, D.mod (.int j) (.int 2305843009213693921) = _ := fun j => mod_int (by omega)
  unfold t_l_dice m_l_dice
  walk_at "dv"
  simp only [Dv.l_some, Dv.b_ret, Dv.bl_bl, Dv.ite_bl, Dv.ite_bl', Dv.ite_B, Dv.ite_B', ↓reduceIte, Bool.false_eq_true, Dv.le_int, Dv.lt_int, Dv.gt_int, Dv.ge_int, Dv.eq_int, Dv.add_int, Dv.sub_int, Dv.int_some, Dv.toInt_i, Dv.toInt_b, Dv.nx_r, Dv.outM_ret, Dv.outM_next, Dv.outM_nw, Dv.nextM_next, Dv.nextM_ret, Dv.b_exc, Dv.nil_S, Bool.true_and, Bool.false_and, Bool.true_or, Bool.false_or, Bool.and_true, Bool.and_false, Bool.or_true, Bool.or_false, Bool.not_true, Bool.not_false, Dv.isi_non_bool, Dv.isi_non_int, Dv.isi_non_str, Dv.isi_non_tuple, Dv.isi_non_list, Dv.isi_non_dict, Dv.isi_bl_bool, Dv.isi_bl_int, Dv.isi_bl_str, Dv.isi_bl_tuple, Dv.isi_bl_list, Dv.isi_bl_dict, Dv.isi_int_bool, Dv.isi_int_int, Dv.isi_int_str, Dv.isi_int_tuple, Dv.isi_int_list, Dv.isi_int_dict, Dv.isi_str_bool, Dv.isi_str_int, Dv.isi_str_str, Dv.isi_str_tuple, Dv.isi_str_list, Dv.isi_str_dict, Dv.isi_tup_bool, Dv.isi_tup_int, Dv.isi_tup_str, Dv.isi_tup_tuple, Dv.isi_tup_list, Dv.isi_tup_dict, Dv.isi_lst_bool, Dv.isi_lst_int, Dv.isi_lst_str, Dv.isi_lst_tuple, Dv.isi_lst_list, Dv.isi_lst_dict, Dv.isi_dic_bool, Dv.isi_dic_int, Dv.isi_dic_str, Dv.isi_dic_tuple, Dv.isi_dic_list, Dv.isi_dic_dict, Dv.len_T, Dv.len_L, Dv.ne_int, Dv.tupleOf_l, Dv.tupleOf_t, Dv.items_l, Dv.items_t, Dv.prG_o, Dv.obG_o, Dv.inO_o, Dv.fld_o, Dv.look_1, Dv.endI_o, Dv.exc_b, Dv.itms_l, Dv.itms_t, Dv.nx_ret', Dv.okR_o, Dv.okR_non, Dv.okR_bl, Dv.okR_int, Dv.okR_str, Dv.okR_tup, Dv.okR_lst, Dv.okR_dic, Dv.seqq_l, Dv.seqq_t, Dv.okB_b, Dv.okT_s, Dv.sbl, l0]
  by_cases h : (i : Int) < ns.length
  · rw [decide_eq_true h]
    simp only [Dv.l_some, Dv.b_ret, Dv.bl_bl, Dv.ite_bl, Dv.ite_bl', Dv.ite_B, Dv.ite_B', ↓reduceIte, Bool.false_eq_true, Dv.le_int, Dv.lt_int, Dv.gt_int, Dv.ge_int, Dv.eq_int, Dv.add_int, Dv.sub_int, Dv.int_some, Dv.toInt_i, Dv.toInt_b, Dv.nx_r, Dv.outM_ret, Dv.outM_next, Dv.outM_nw, Dv.nextM_next, Dv.nextM_ret, Dv.b_exc, Dv.nil_S, Bool.true_and, Bool.false_and, Bool.true_or, Bool.false_or, Bool.and_true, Bool.and_false, Bool.or_true, Bool.or_false, Bool.not_true, Bool.not_false, Dv.isi_non_bool, Dv.isi_non_int, Dv.isi_non_str, Dv.isi_non_tuple, Dv.isi_non_list, Dv.isi_non_dict, Dv.isi_bl_bool, Dv.isi_bl_int, Dv.isi_bl_str, Dv.isi_bl_tuple, Dv.isi_bl_list, Dv.isi_bl_dict, Dv.isi_int_bool, Dv.isi_int_int, Dv.isi_int_str, Dv.isi_int_tuple, Dv.isi_int_list, Dv.isi_int_dict, Dv.isi_str_bool, Dv.isi_str_int, Dv.isi_str_str, Dv.isi_str_tuple, Dv.isi_str_list, Dv.isi_str_dict, Dv.isi_tup_bool, Dv.isi_tup_int, Dv.isi_tup_str, Dv.isi_tup_tuple, Dv.isi_tup_list, Dv.isi_tup_dict, Dv.isi_lst_bool, Dv.isi_lst_int, Dv.isi_lst_str, Dv.isi_lst_tuple, Dv.isi_lst_list, Dv.isi_lst_dict, Dv.isi_dic_bool, Dv.isi_dic_int, Dv.isi_dic_str, Dv.isi_dic_tuple, Dv.isi_dic_list, Dv.isi_dic_dict, Dv.len_T, Dv.len_L, Dv.ne_int, Dv.tupleOf_l, Dv.tupleOf_t, Dv.items_l, Dv.items_t, Dv.prG_o, Dv.obG_o, Dv.inO_o, Dv.fld_o, Dv.look_1, Dv.endI_o, Dv.exc_b, Dv.itms_l, Dv.itms_t, Dv.nx_ret', Dv.okR_o, Dv.okR_non, Dv.okR_bl, Dv.okR_int, Dv.okR_str, Dv.okR_tup, Dv.okR_lst, Dv.okR_dic, Dv.seqq_l, Dv.seqq_t, Dv.okB_b, Dv.okT_s, Dv.sbl, ix_scr (by omega : i < ns.length), ab, p1, p2, p3, d1, d2, d3, m1, m2, m3, m4, mx]
    exact ex_two _ _
  · rw [decide_eq_false h]
    simp only [Dv.l_some, Dv.b_ret, Dv.bl_bl, Dv.ite_bl, Dv.ite_bl', Dv.ite_B, Dv.ite_B', ↓reduceIte, Bool.false_eq_true, Dv.le_int, Dv.lt_int, Dv.gt_int, Dv.ge_int, Dv.eq_int, Dv.add_int, Dv.sub_int, Dv.int_some, Dv.toInt_i, Dv.toInt_b, Dv.nx_r, Dv.outM_ret, Dv.outM_next, Dv.outM_nw, Dv.nextM_next, Dv.nextM_ret, Dv.b_exc, Dv.nil_S, Bool.true_and, Bool.false_and, Bool.true_or, Bool.false_or, Bool.and_true, Bool.and_false, Bool.or_true, Bool.or_false, Bool.not_true, Bool.not_false, Dv.isi_non_bool, Dv.isi_non_int, Dv.isi_non_str, Dv.isi_non_tuple, Dv.isi_non_list, Dv.isi_non_dict, Dv.isi_bl_bool, Dv.isi_bl_int, Dv.isi_bl_str, Dv.isi_bl_tuple, Dv.isi_bl_list, Dv.isi_bl_dict, Dv.isi_int_bool, Dv.isi_int_int, Dv.isi_int_str, Dv.isi_int_tuple, Dv.isi_int_list, Dv.isi_int_dict, Dv.isi_str_bool, Dv.isi_str_int, Dv.isi_str_str, Dv.isi_str_tuple, Dv.isi_str_list, Dv.isi_str_dict, Dv.isi_tup_bool, Dv.isi_tup_int, Dv.isi_tup_str, Dv.isi_tup_tuple, Dv.isi_tup_list, Dv.isi_tup_dict, Dv.isi_lst_bool, Dv.isi_lst_int, Dv.isi_lst_str, Dv.isi_lst_tuple, Dv.isi_lst_list, Dv.isi_lst_dict, Dv.isi_dic_bool, Dv.isi_dic_int, Dv.isi_dic_str, Dv.isi_dic_tuple, Dv.isi_dic_list, Dv.isi_dic_dict, Dv.len_T, Dv.len_L, Dv.ne_int, Dv.tupleOf_l, Dv.tupleOf_t, Dv.items_l, Dv.items_t, Dv.prG_o, Dv.obG_o, Dv.inO_o, Dv.fld_o, Dv.look_1, Dv.endI_o, Dv.exc_b, Dv.itms_l, Dv.itms_t, Dv.nx_ret', Dv.okR_o, Dv.okR_non, Dv.okR_bl, Dv.okR_int, Dv.okR_str, Dv.okR_tup, Dv.okR_lst, Dv.okR_dic, Dv.seqq_l, Dv.seqq_t, Dv.okB_b, Dv.okT_s, Dv.sbl, ab, p1, p2, p3, d1, d2, d3, m1, m2, m3, m4, mx]
    exact ex_two _ _
end Lb
set_option maxHeartbeats 1000000
namespace Lb
open PySem PySem.Spec PyProof.Rows L2 Dv
end Lb
set_option maxHeartbeats 4000000
/-! Dicts read: len, d[k], k in d, list(d), d.get(k, x). -/
namespace Dv
open PySem PySem.Spec PyProof.Rows L2
/-! ### rules side by side -/
def orC (g g' : List D → Option D) (ds : List D) : Option D := match g ds with
  | some z => some z
  | none => g' ds
def orO (g g' : D → D → Option D) (d e : D) : Option D := match g d e with
  | some z => some z
  | none => g' d e
section
variable {X : Cx} {da : Da}
theorem CalD.or {f : Value} {g g' : List D → Option D} (h : CalD X da f g) (h' : CalD X da f g') : CalD X da f (orC g g') := by
  obtain ⟨r, c, k⟩ := h
  obtain ⟨r', c', k'⟩ := h'
  refine ⟨_, c.or c', fun Hk H xs ds z Q ex rl hz gv => ?_⟩
  unfold orC at hz
  split at hz
  · rename_i y hy
    cases hz
    exact .inl (k Hk H xs ds _ Q ex rl hy gv)
  · exact .inr (k' Hk H xs ds _ Q ex rl hz gv)
theorem OpD.or {f : Value → Value → Sem Value} {g g' : D → D → Option D} (h : OpD X da f g) (h' : OpD X da f g') : OpD X da f (orO g g') := by
  obtain ⟨r, c, k⟩ := h
  obtain ⟨r', c', k'⟩ := h'
  refine ⟨_, c.or c', fun Hk H x y d e z Q ex rx ry hz gv => ?_⟩
  unfold orO at hz
  split at hz
  · rename_i y hy
    cases hz
    exact .inl (k Hk H _ _ d e _ Q ex rx ry hy gv)
  · exact .inr (k' Hk H _ _ d e _ Q ex rx ry hz gv)
theorem IxD.or {g g' : D → D → Option D} (h : IxD X da g) (h' : IxD X da g') : IxD X da (orO g g') := by
  obtain ⟨r, c, k⟩ := h
  obtain ⟨r', c', k'⟩ := h'
  refine ⟨_, c.or c', fun Hk H x y d e z Q ex rx ry hz gv => ?_⟩
  unfold orO at hz
  split at hz
  · rename_i y hy
    cases hz
    exact .inl (k Hk H _ _ d e _ Q ex rx ry hy gv)
  · exact .inr (k' Hk H _ _ d e _ Q ex rx ry hz gv)
end
/-! ### what stands at a key -/
def D.ky : D → Option Key
  | .int i => some (.inl i)
  | .str x => some (.inr x)
  | _ => none
theorem ky_dK (k : Key) : (dK k).ky = some k := by cases k <;> rfl
theorem ky_eq {d : D} {k : Key} (h : d.ky = some k) : d = dK k := by
  cases d <;> cases h <;> rfl
def lookD : List (D × D) → Key → Option D
  | [], _ => none
  | (e, v) :: r, k => if e.ky = some k then some v else lookD r k
section
variable {K : PySem.W.Frag} {ra : Ra} {H : Hp}
theorem RpK.length : ∀ {kvs : List (Key × V)} {es : List (D × D)}, RpK K ra H kvs es → kvs.length = es.length
  | _, _, .nil => rfl
  | _, _, .cons _ t => by rw [List.length_cons, List.length_cons, RpK.length t]
theorem RpK.look : ∀ {kvs : List (Key × V)} {es : List (D × D)}, RpK K ra H kvs es → ∀ k : Key, (lookD es k = none ∧ valV kvs k = none) ∨ ∃ d v, lookD es k = some d ∧ valV kvs k = some v ∧ Rp K ra H v d
  | _, _, .nil, k => .inl ⟨rfl, valV_nil⟩
  | (k0, v) :: kvs, (_, d) :: es, .cons r t, k => by
    by_cases h : k0 = k
    · subst h
      exact .inr ⟨d, v, by simp only [lookD, ky_dK, if_true], valV_pos rfl, r⟩
    · have h2 : ¬ (dK k0).ky = some k := by rw [ky_dK]; exact fun z => h (Option.some.inj z)
      rw [valV_neg (p := (k0, v)) h]
      simp only [lookD, if_neg h2]
      exact RpK.look t k
theorem RpK.some {kvs : List (Key × V)} {es : List (D × D)} {k : Key} {d : D} (r : RpK K ra H kvs es) (h : lookD es k = some d) : ∃ v, valV kvs k = some v ∧ Rp K ra H v d := by
  rcases r.look k with ⟨h1, _⟩ | ⟨d', v, h1, h2, h3⟩
  · rw [h1] at h; cases h
  · rw [h1] at h; cases h; exact ⟨v, h2, h3⟩
theorem RpK.isSome {kvs : List (Key × V)} {es : List (D × D)} (r : RpK K ra H kvs es) (k : Key) : (valV kvs k).isSome = (lookD es k).isSome := by
  rcases r.look k with ⟨h1, h2⟩ | ⟨d', v, h1, h2, h3⟩ <;> rw [h1, h2] <;> rfl
theorem Rp.key {v : V} {d : D} {k : Key} (r : Rp K ra H v d) (h : d.ky = some k) : v = kV k := by
  rw [ky_eq h] at r
  cases k with
  | inl i => cases r; rfl
  | inr x => cases r; rfl
theorem RpK.keys : ∀ {kvs : List (Key × V)} {es : List (D × D)}, RpK K ra H kvs es → RpL K ra H (kvs.map fun kv => kV kv.1) (es.map (·.1))
  | _, _, .nil => .nil
  | (k, _) :: _, _ :: _, .cons _ t => by
    rw [List.map_cons, List.map_cons]
    refine .cons ?_ (RpK.keys t)
    cases k with
    | inl i => exact .int i
    | inr x => exact .str x
end
/-! ### len, d[k], k in d, list(d) -/
section
variable {X : Cx} {da : Da}
variable {cm : Nat → Addr} {W : WX} {o e1 e2 : Expr} {fo f1 f2 : Env → M D}
end
end Dv
set_option maxHeartbeats 4000000
/-! Methods of dicts, locked or not: d.get(k, x). -/
namespace Dv
open PySem PySem.Spec PyProof.Rows L2
section
variable {X : Cx}
variable {o e : Expr} {es : List Expr} {to : TE} {t : TA} {name : Str} {apos cpos : Pos} {id : String} {r : V → List V → Hp → VK → Prop}
end
section
variable {X : Cx} {da : Da} {cm : Nat → Addr} {W : WX} {o e1 e2 : Expr} {fo f1 f2 : Env → M D} {apos cpos : Pos}
end
end Dv
set_option maxHeartbeats 4000000
/-! Dict comprehensions with one for. -/
namespace Dv
open PySem PySem.Spec PyProof.Rows L2
/-- in its place, or at the end -/
def insE (es : List (D × D)) (k : Key) (d : D) : List (D × D) :=
  if (es.any fun e => decide (e.1.ky = some k)) = true then es.map (fun e => if e.1.ky = some k then (e.1, d) else e) else es ++ [(dK k, d)]
section
variable {K : PySem.W.Frag} {ra : Ra} {H : Hp}
theorem RpK.app : ∀ {kvs ws : List (Key × V)} {es fs : List (D × D)}, RpK K ra H kvs es → RpK K ra H ws fs → RpK K ra H (kvs ++ ws) (es ++ fs)
  | _, _, _, _, .nil, s => s
  | _, _, _, _, .cons r t, s => .cons r (RpK.app t s)
theorem RpK.anyE {k : Key} : ∀ {kvs : List (Key × V)} {es : List (D × D)}, RpK K ra H kvs es → (es.any fun e => decide (e.1.ky = Option.some k)) = (kvs.any fun kv => decide (kv.1 = k))
  | _, _, .nil => rfl
  | (k0, _) :: _, _, .cons _ t => by
    rw [List.any_cons, List.any_cons, RpK.anyE t]
    congr 1
    rw [ky_dK]
    by_cases h : k0 = k
    · rw [h]; simp
    · rw [decide_eq_false h, decide_eq_false fun z => h (Option.some.inj z)]
theorem RpK.mapE {k : Key} {v : V} {d : D} (r : Rp K ra H v d) : ∀ {kvs : List (Key × V)} {es : List (D × D)}, RpK K ra H kvs es → RpK K ra H (kvs.map fun kv => if kv.1 = k then (kv.1, v) else kv) (es.map fun e => if e.1.ky = Option.some k then (e.1, d) else e)
  | _, _, .nil => .nil
  | (k0, _) :: _, _, .cons r0 t => by
    rw [List.map_cons, List.map_cons]
    by_cases h : k0 = k
    · rw [if_pos (show (k0, _).1 = k from h), if_pos (show (dK k0).ky = Option.some k by rw [ky_dK, h])]
      exact .cons r (RpK.mapE r t)
    · rw [if_neg (show ¬ (k0, _).1 = k from h), if_neg (show ¬ (dK k0).ky = Option.some k by rw [ky_dK]; exact fun z => h (Option.some.inj z))]
      exact .cons r0 (RpK.mapE r t)
theorem RpK.put {kvs : List (Key × V)} {es : List (D × D)} (t : RpK K ra H kvs es) {k : Key} {v : V} {d : D} (r : Rp K ra H v d) : RpK K ra H (putK kvs k v) (insE es k d) := by
  unfold putK insE
  rw [t.anyE]
  split
  · exact t.mapE r
  · exact t.app (.cons r .nil)
end
section
variable {X : Cx} {da : Da} {cm : Nat → Addr} {W : WX}
variable {pos : Pos}
end
end Dv
set_option maxHeartbeats 4000000
/-! List comprehensions with two fors. -/
namespace Dv
open PySem PySem.Spec PyProof.Rows L2
section
variable {X : Cx} {da : Da} {cm : Nat → Addr} {W : WX}
variable {pos : Pos}
end
end Dv
set_option maxHeartbeats 4000000
/-! Going over a dict: its keys, its values, its pairs. (A dict that is data is locked for good.) -/
namespace Dv
open PySem PySem.Spec PyProof.Rows L2
section
variable {K : PySem.W.Frag} {da : Da} {a : Addr} {o : Obj} {kvs : List (Key × V)} {es : List (D × D)} {Hk : Hp}
end
section
variable {X : Cx} {da : Da} {cm : Nat → Addr} {W : WX} {tg e : Expr} {fa : Env → M D} {apos cpos : Pos}
end
end Dv
set_option maxHeartbeats 4000000
/-! Dicts that no one else has: {}, dict(..), and statements that change them. -/
namespace Dv
open PySem PySem.Spec PyProof.Rows L2
def delE (es : List (D × D)) (k : Key) : List (D × D) := es.filter fun e => !decide (e.1.ky = some k)
theorem RpK.drop {K : PySem.W.Frag} {ra : Ra} {H : Hp} {k : Key} : ∀ {kvs : List (Key × V)} {es : List (D × D)}, RpK K ra H kvs es → RpK K ra H (dropK kvs k) (delE es k)
  | _, _, .nil => .nil
  | (k0, v0) :: _, (_, d0) :: _, .cons r0 t => by
    have ih := RpK.drop (k := k) t
    unfold dropK delE at ih ⊢
    rw [List.filter_cons, List.filter_cons]
    by_cases h : k0 = k
    · rw [if_neg (by simp [h]), if_neg (by simp [ky_dK, h])]
      exact ih
    · rw [if_pos (by simp [h]), if_pos (by simp [ky_dK, h])]
      exact .cons r0 ih
section
variable {X : Cx} {da : Da} {cm : Nat → Addr} {W : WX} {pos p : Pos} {e : Expr} {es : List Expr} {fs : Env → M (List D)}
end
/-! ### own dicts -/
section
variable {K : PySem.W.Frag} {da : Da} {Hk H : Hp} {σ : L2.St} {env : SEnv} {δ : Dice}
/-- a new own object in slot i -/
theorem EnvS.newS {i : Nat} {p : Addr} {n : Sl} (h : EnvS K da Hk H σ env) (hk : Hk p = none) (hd : da.ad ≠ some p) (hn : ¬ Own σ env p) (no : n.own = true) (c : OwnAt K da Hk H p n) : EnvS K da Hk H (σ.set i (some (.ref p))) (env.set i n) where
  len := by rw [List.length_set, List.length_set]; exact h.len
  dat := fun j x e => by
    by_cases hj : i = j
    · subst hj
      have z := get_set_same e
      subst z
      cases no
    · rw [List.getElem?_set_ne hj] at e ⊢
      exact h.dat j x e
  own := fun j s e o => by
    by_cases hj : i = j
    · subst hj
      have hl := set_lt e
      cases get_set_same e
      exact ⟨p, List.getElem?_set_self (by rw [h.len]; exact hl), hk, hd, c⟩
    · rw [List.getElem?_set_ne hj] at e ⊢
      exact h.own j s e o
  apart := fun j k s t q e1 o1 e2 o2 q1 q2 => by
    by_cases hj : i = j
    · subst hj
      by_cases hk : i = k
      · exact hk
      · rw [List.getElem?_set_self (by rw [h.len]; exact set_lt e1)] at q1
        cases q1
        rw [List.getElem?_set_ne hk] at e2 q2
        exact absurd ⟨k, t, e2, o2, q2⟩ hn
    · rw [List.getElem?_set_ne hj] at e1 q1
      by_cases hk : i = k
      · subst hk
        rw [List.getElem?_set_self (by rw [h.len]; exact set_lt e2)] at q2
        cases q2
        exact absurd ⟨j, s, e1, o1, q1⟩ hn
      · rw [List.getElem?_set_ne hk] at e2 q2
        exact h.apart j k s t q e1 o1 e2 o2 q1 q2
end
section
variable {X : Cx} {da : Da} {cm : Nat → Addr} {E : XK} {pos pos' : Pos} {e k : Expr} {i : Nat} {x : Str}
end
end Dv
set_option maxHeartbeats 4000000
/-! list(d.items()), d locked or not. -/
namespace Dv
open PySem PySem.Spec PyProof.Rows L2
section
variable {X : Cx} {e : Expr} {te : TE} {p apos cpos pos : Pos}
end
section
variable {X : Cx} {da : Da} {cm : Nat → Addr} {W : WX} {p apos cpos pos : Pos} {e : Expr} {fa : Env → M D}
end
end Dv
set_option maxHeartbeats 4000000
/-! x.update(d), x an own dict. -/
namespace Dv
open PySem PySem.Spec PyProof.Rows L2
section
variable {X : Cx} {da : Da} {cm : Nat → Addr} {E : XK} {pos pos' : Pos} {e k : Expr} {i : Nat} {x : Str}
end
end Dv
set_option maxHeartbeats 4000000
/-! {**d, k: v}. -/
namespace Dv
open PySem PySem.Spec PyProof.Rows L2
section
variable {prog : Program} {w : World} {K : Type} [DecidableEq K] {knd : PySem.KeyKind prog w K} {A : Around} {E : Value → Shared → Prop} {s : Shared}
end
section
variable {prog : Program} {w : World} {A : Around} {E : Value → Shared → Prop} {s : Shared}
end
end Dv
set_option maxHeartbeats 4000000
/-! {**d, k: v}: the display. -/
namespace Dv
open PySem PySem.Spec PyProof.Rows L2
section
variable {prog : Program} {w : World} {A : Around} {E : Value → Shared → Prop} {s : Shared}
end
end Dv
set_option maxHeartbeats 4000000
namespace Dv
open PySem PySem.Spec PyProof.Rows L2
section
variable {X : Cx} {da : Da} {cm : Nat → Addr} {W : WX} {pos p : Pos} {e : Expr} {fa : Env → M D}
end
end Dv
set_option maxHeartbeats 4000000
/-! Dicts compared: their values plain data. -/
namespace Dv
open PySem PySem.Spec PyProof.Rows L2
inductive HitK (K : PySem.W.Frag) (H : Hp) (ls : List (Key × V)) : List (Key × V) → Bool → Prop
  | nil : HitK K H ls [] true
  | miss {k : Key} {v : V} {r : List (Key × V)} : valV ls k = none → HitK K H ls ((k, v) :: r) false
  | hit {k : Key} {v y : V} {r : List (Key × V)} {p q : PyData} {b : Bool} : valV ls k = some y → Dp K H v p → Dp K H y q → okEq p q = true → HitK K H ls r b → HitK K H ls ((k, v) :: r) (PyData.eqv p q && b)
section
variable {X : Cx} {da : Da}
end
end Dv
set_option maxHeartbeats 4000000
/-! enumerate(xs), xs a list or a tuple. -/
namespace Dv
open PySem PySem.Spec PyProof.Rows L2
end Dv
set_option maxHeartbeats 4000000
namespace Dv
open PySem PySem.Spec PyProof.Rows L2
section
variable {K : PySem.W.Frag} {da : Da} {a : Addr} {vs : List V} {ds : List D} {Hk : Hp}
end
section
variable {X : Cx} {da : Da} {cm : Nat → Addr} {W : WX} {p pos tpos : Pos} {elts : List Expr} {kk : Nat} {e : Expr} {fs : Env → M (List D)}
end
end Dv
set_option maxHeartbeats 4000000
/-! sum(xs, []) of a list of lists. -/
namespace Dv
open PySem PySem.Spec PyProof.Rows L2
section
variable {prog : Program} {w : World} {A : Around} {R : Result → Shared → Prop}
end
end Dv
set_option maxHeartbeats 4000000
/-! sum(xs, []): the call. -/
namespace Dv
open PySem PySem.Spec PyProof.Rows L2
end Dv
set_option maxHeartbeats 4000000
/-! Loops of comprehensions, clause by clause: any thing done for each item. -/
namespace Dv
open PySem PySem.Spec PyProof.Rows L2
/-- what a thing done within a block must keep -/
structure PB (X : Cx) (vs : List Nat) (B : Sem Unit) (tb : L2.St → Hp → (Hp → Prop) → Prop) : Prop where
  run : ∀ (pins : List (Addr × Obj)) (s : Shared) (σ : L2.St) (H : Hp) (N : Hp → Prop), Inv X pins σ H s → tb σ H N → wpAny (model X.prog X.w) X.A B (fun _ s' => ∃ σ' H', Inv X pins σ' H' s' ∧ L2.wipe σ' vs = L2.wipe σ vs ∧ N H') (fun _ _ => False) s
end Dv
set_option maxHeartbeats 4000000
/-! Dict comprehensions with any clauses; u0 what tells the new dict. -/
namespace Dv
open PySem PySem.Spec PyProof.Rows L2
section
variable {X : Cx} {kx vx tg iter tg1 iter1 : Expr} {ifs ifs1 : List Expr} {scope : Scope} {own : List (Str × Nat)} {vs1 : List Nat} {pos : Pos} {wi wi1 : TI} {g g1 : TG} {tt tt1 : TT} {tk tv : TE}
end
end Dv
set_option maxHeartbeats 4000000
namespace Dv
open PySem PySem.Spec PyProof.Rows L2
section
variable {X : Cx} {da : Da} {cm : Nat → Addr} {W : WX}
variable {pos : Pos}
end
end Dv
set_option maxHeartbeats 4000000
/-! len({(e1, ..): v for ..}): keys tuples of texts, ints and tuples. -/
namespace Dv
open PySem PySem.Spec PyProof.Rows L2 Ts
abbrev Xn := List (NestedKey × Addr × Value)
/-- what the object itself of such a dict tells -/
def rawN (w : World) (D : Addr) (xs : Xn) (h : Heap) : Prop := ∃ o es ep, h.get? D = some o ∧ o.ExactDict ∧ o.data = .dict es ep ∧ es.toList = xs.map fun x => ⟨x.1.hash w, .ref x.2.1, x.2.2⟩
def nestO (w : World) (D : Addr) (xs : Xn) : HO := .ext (rawN w D xs)
/-- the keys' tuples -/
def NX (K : PySem.W.Frag) (H : Hp) (xs : Xn) : Prop := (xs.map (·.1)).Nodup ∧ ∀ x ∈ xs, Dp K H (.ref x.2.1) x.1.data ∧ full x.1 = true ∧ x.1.depth ≤ 8
theorem NX.dict {X : Cx} {pins : List (Addr × Obj)} {σ : L2.St} {H : Hp} {s : Shared} {D : Addr} {xs : Xn} (I : Inv X pins σ H s) (n : NX X.K H xs) (h : H D = some (nestO X.w D xs)) : s.heap.DictOfH (nestedKind X.prog X.w) D xs := by
  obtain ⟨⟨o, es, ep, e, c, d, l⟩, _⟩ := (show ObjOk X.prog X.w H s.heap D (nestO X.w D xs) from I.hok D _ h)
  refine ⟨o, es, ep, e, c, d, l, fun x hx => ?_, n.1⟩
  obtain ⟨h1, h2, h3⟩ := n.2 x hx
  obtain ⟨as, r⟩ := Dp.reads I _ _ _ h1 (show RelV (.ref x.2.1) (.ref x.2.1) from rfl)
  exact ⟨reads_key _ _ _ h2 r, h3⟩
end Dv
set_option maxHeartbeats 4000000
namespace Dv
open PySem PySem.Spec PyProof.Rows L2 Ts
/-- the keys' tuples are known -/
def NK (K : PySem.W.Frag) (ra : Ra) (Hk : Hp) (xs : Xn) (ks : List NestedKey) : Prop := xs.map (·.1) = ks ∧ ks.Nodup ∧ ∀ x ∈ xs, Rp K ra Hk (.ref x.2.1) (ofK x.1) ∧ full x.1 = true ∧ x.1.depth ≤ 8
theorem NK.mono {K : PySem.W.Frag} {ra : Ra} {Hk Hk' : Hp} {xs : Xn} {ks : List NestedKey} (h : NK K ra Hk xs ks) (e : Ex Hk Hk') : NK K ra Hk' xs ks := ⟨h.1, h.2.1, fun x hx => ⟨(h.2.2 x hx).1.mono e, (h.2.2 x hx).2⟩⟩
theorem NK.nx {K : PySem.W.Frag} {ra : Ra} {Hk H : Hp} {xs : Xn} {ks : List NestedKey} (h : NK K ra Hk xs ks) (e : Ex Hk H) : NX K H xs := ⟨by rw [h.1]; exact h.2.1, fun x hx => by
  obtain ⟨h1, h2, h3⟩ := h.2.2 x hx
  exact ⟨(h1.mono e).dp (py_ofK h2), h2, h3⟩⟩
section
variable {X : Cx} {da : Da} {cm : Nat → Addr} {W : WX}
variable {pos cpos p : Pos}
end
end Dv
set_option maxHeartbeats 4000000
/-! list(zip(xs, ys)), over the heap. -/
namespace Dv
open PySem PySem.Spec PyProof.Rows L2
/-- the pairs made so far -/
def PrT (h : Heap) (S : Addr) (xs ys : List Value) (Ts : List Addr) : Prop := ∀ (j : Nat) (T : Addr), Ts[j]? = some T → ∃ x y, xs[j]? = some x ∧ ys[j]? = some y ∧ IsPair h T x y ∧ S < T
theorem PrT.keep {h h' : Heap} {S : Addr} {xs ys : List Value} {Ts : List Addr} (p : PrT h S xs ys Ts) (k : ∀ b o, S < b → h.get? b = some o → h'.get? b = some o) : PrT h' S xs ys Ts := fun j T e => by
  obtain ⟨x, y, a, b, c, d⟩ := p j T e
  exact ⟨x, y, a, b, k _ _ d c, d⟩
section
variable {prog : Program} {w : World} {A : Around} {R : Result → Shared → Prop}
end
end Dv
set_option maxHeartbeats 4000000
/-! dict(list(zip(xs, ys))). -/
namespace Dv
open PySem PySem.Spec PyProof.Rows L2
section
variable {prog : Program} {w : World} {A : Around} {E : Value → Shared → Prop} {s : Shared}
end
end Dv
set_option maxHeartbeats 4000000
namespace Dv
open PySem PySem.Spec PyProof.Rows L2
end Dv
set_option maxHeartbeats 4000000
/-! A dict's values, drawn one by one (for zip). -/
namespace Dv
open PySem PySem.Spec PyProof.Rows L2
section
variable {prog : Program} {w : World} {K : Type} [DecidableEq K] {knd : PySem.KeyKind prog w K} {A : Around} {E : Value → Shared → Prop} {s : Shared}
end
end Dv
set_option maxHeartbeats 4000000
/-! zip(xs, d.values()), xs a list, d a locked dict. -/
namespace Dv
open PySem PySem.Spec PyProof.Rows L2
end Dv
set_option maxHeartbeats 4000000
namespace Dv
open PySem PySem.Spec PyProof.Rows L2
section
variable {X : Cx} {da : Da} {cm : Nat → Addr} {W : WX} {p pos tpos apos cpos : Pos} {elts : List Expr} {kk : Nat} {e e2 : Expr} {f1 f2 : Env → M D}
end
end Dv
set_option maxHeartbeats 4000000
/-! Values that go into a slot: data, or a list or dict that no one else has. x, y = e1, e2. -/
namespace Dv
open PySem PySem.Spec PyProof.Rows L2
def SlAt (K : PySem.W.Frag) (da : Da) (Hk' H H' : Hp) (v : V) : Sl → Prop
  | .dt d => Rp K da.ra Hk' v d
  | .ow ds => ∃ p vs, v = .ref p ∧ Hk' p = none ∧ ¬ Nt H p ∧ H' p = some (.lst vs) ∧ RpL K da.ra Hk' vs ds
  | .od es => ∃ p kvs, v = .ref p ∧ Hk' p = none ∧ ¬ Nt H p ∧ H' p = some (.dK kvs) ∧ RpK K da.ra Hk' kvs es
  | _ => False
def tSl (K : PySem.W.Frag) (da : Da) (cm : Nat → Addr) (W : WX) (f : Env → M Sl) : TE := fun σ H Q => ∃ Hk env δ, At da Hk H δ ∧ EnvR K da Hk σ env ∧
  Fin K da cm (f env δ) Hk H (fun s δ' => ∀ v Hk' H', Stp da Hk H Hk' H' → At da Hk' H' δ' → SlAt K da Hk' H H' v s → Q v H') (fun c dd H' => W c dd σ H')
abbrev PSl (X : Cx) (da : Da) (cm : Nat → Addr) (W : WX) (e : Expr) (f : Env → M Sl) : Prop := PE X e (tSl X.K da cm W f)
def dtM (f : Env → M D) : Env → M Sl := fun env => bind (f env) fun d => ret (.dt d)
section
variable {X : Cx} {da : Da} {cm : Nat → Addr} {W : WX} {e : Expr}
theorem sl_dt {f : Env → M D} (h : PEv X da cm W e f) : PSl X da cm W e (dtM f) := PE.imp h fun σ H Q ⟨Hk, env, δ, hA, hE, q⟩ => ⟨Hk, env, δ, hA, hE, q.bind.mono fun d δ' q2 => q2⟩
end
/-- ready to be stored -/
def SlOk (K : PySem.W.Frag) (da : Da) (Hk H : Hp) (O : Addr → Prop) (v : V) : Sl → Prop
  | .dt d => Rp K da.ra Hk v d
  | .ow ds => ∃ p, v = .ref p ∧ Hk p = none ∧ da.ad ≠ some p ∧ ¬ O p ∧ OwnAt K da Hk H p (.ow ds)
  | .od es => ∃ p, v = .ref p ∧ Hk p = none ∧ da.ad ≠ some p ∧ ¬ O p ∧ OwnAt K da Hk H p (.od es)
  | _ => False
theorem EnvS.sl {K : PySem.W.Frag} {da : Da} {Hk H : Hp} {σ : L2.St} {env : SEnv} {i : Nat} {v : V} {s : Sl} (h : EnvS K da Hk H σ env) (r : SlOk K da Hk H (Own σ env) v s) : EnvS K da Hk H (σ.set i (some v)) (env.set i s) := by
  cases s with
  | dt d => exact h.set r
  | ow ds => obtain ⟨p, rfl, k, d, n, o⟩ := r; exact h.newS k d n rfl o
  | od es => obtain ⟨p, rfl, k, d, n, o⟩ := r; exact h.newS k d n rfl o
  | _ => exact r.elim
theorem SlAt.ok {K : PySem.W.Frag} {da : Da} {Hk H Hk' H' : Hp} {σ : L2.St} {env : SEnv} {δ : Dice} {v : V} {s : Sl} (hA : At da Hk H δ) (hE : EnvS K da Hk H σ env) (r : SlAt K da Hk' H H' v s) : SlOk K da Hk' H' (Own σ env) v s := by
  have dp : ∀ {p : Addr}, ¬ Nt H p → da.ad ≠ some p := fun n z => n ⟨_, (hA.di _ z).2, fun _ z => nomatch z⟩
  have no : ∀ {p : Addr}, ¬ Nt H p → ¬ Own σ env p := fun n z => n (Own.there hE z).2.2.nt
  cases s with
  | dt d => exact r
  | ow ds => obtain ⟨p, vs, e, k, n, h, q⟩ := r; exact ⟨p, e, k, dp n, no n, vs, h, q⟩
  | od es => obtain ⟨p, vs, e, k, n, h, q⟩ := r; exact ⟨p, e, k, dp n, no n, vs, h, q⟩
  | _ => exact r.elim
/-- a step later -/
theorem SlOk.step {K : PySem.W.Frag} {da : Da} {Hk H Hk' H' : Hp} {O : Addr → Prop} {v : V} {s : Sl} (r : SlOk K da Hk H O v s) (st : Stp da Hk H Hk' H') : SlOk K da Hk' H' O v s := by
  cases s with
  | dt d => exact r.mono st.kn
  | ow ds =>
    obtain ⟨p, e, k, d, n, vs, h, q⟩ := r
    exact ⟨p, e, st.fr p ⟨_, h, .lst _⟩ k, d, n, vs, st.ke p _ h d (fun _ z => (nomatch z)), q.mono st.kn⟩
  | od es =>
    obtain ⟨p, e, k, d, n, vs, h, q⟩ := r
    exact ⟨p, e, st.fr p ⟨_, h, .dK _⟩ k, d, n, vs, st.ke p _ h d (fun _ z => (nomatch z)), RpK.mono st.kn q⟩
  | _ => exact r.elim
/-- .. whose object is one -/
theorem SlOk.out {K : PySem.W.Frag} {da : Da} {Hk H : Hp} {O O' : Addr → Prop} {v : V} {s : Sl} (r : SlOk K da Hk H O v s) (h : ∀ p, v = .ref p → s.own = true → O' p → O p) : SlOk K da Hk H O' v s := by
  cases s with
  | dt d => exact r
  | ow ds => obtain ⟨p, e, k, d, n, o⟩ := r; exact ⟨p, e, k, d, fun z => n (h p e rfl z), o⟩
  | od es => obtain ⟨p, e, k, d, n, o⟩ := r; exact ⟨p, e, k, d, fun z => n (h p e rfl z), o⟩
  | _ => exact r.elim
theorem Own.of_sl {σ : L2.St} {env : SEnv} {i : Nat} {v : V} {s : Sl} {q : Addr} (h : Own (σ.set i (some v)) (env.set i s) q) : Own σ env q ∨ (s.own = true ∧ v = .ref q) := by
  obtain ⟨j, t, e, o, z⟩ := h
  by_cases hj : i = j
  · subst hj
    have es := get_set_same e
    subst es
    by_cases hl : i < σ.length
    · rw [List.getElem?_set_self hl] at z
      exact .inr ⟨o, Option.some.inj (Option.some.inj z)⟩
    · rw [List.set_eq_of_length_le (by omega)] at z
      rw [List.getElem?_eq_none (by omega)] at z
      cases z
  · rw [List.getElem?_set_ne hj] at e z
    exact .inl ⟨j, t, e, o, z⟩
theorem SlAt.new {K : PySem.W.Frag} {da : Da} {Hk' H H' : Hp} {p : Addr} {s : Sl} (r : SlAt K da Hk' H H' (.ref p) s) (o : s.own = true) : ¬ Nt H p := by
  cases s with
  | ow ds => obtain ⟨q, _, e, _, n, _⟩ := r; cases e; exact n
  | od es => obtain ⟨q, _, e, _, n, _⟩ := r; cases e; exact n
  | dt d => cases o
  | no => cases o
  | oo c fs => exact r.elim
def asg2S (i j : Nat) (f g : Env → M Sl) : SEnv → M Fl := fun env => if i = j then bad else bind (f (vw env)) fun s => bind (g (vw env)) fun t => ret (.next ((env.set i s).set j t))
section
variable {X : Cx} {da : Da} {cm : Nat → Addr} {E : XK} {pos : Pos} {e1 e2 : Expr} {i j : Nat} {f g : Env → M Sl}
theorem ss_par2S {x y : Str} {px py pt : Pos} {n1 n2 : Nat} {p2 : Pos} (hc : X.calm = true) (hN : X.N.Nodup) (hi : X.N[i]? = some x) (hj : X.N[j]? = some y) (hx : X.env.scope.names.lookup x = some .local) (hy : X.env.scope.names.lookup y = some .local)
    (h1 : PSl X da cm (WE0 E) e1 f) (h2 : PSl X da cm (WE0 E) e2 g)
    (hw : swappedStores [.Tuple [.Name x px, .Name y py] n1 pt] (.Tuple [e1, e2] n2 p2) X.env = pure (some [x, y]) := by rfl) (hij : i ≠ j := by decide)
    (s1 : starEach [e1, e2] X.env = (false, eval e1 X.env) :: starEach [e2] X.env := by rfl) (s2 : starEach [e2] X.env = (false, eval e2 X.env) :: starEach [] X.env := by rfl)
    (hs : swapsWithSole [.Tuple [.Name x px, .Name y py] n1 pt] (.Tuple [e1, e2] n2 p2) pos.line X.env = pure false := by rfl) :
    PSv X da cm E (.Assign [.Tuple [.Name x px, .Name y py] n1 pt] (.Tuple [e1, e2] n2 p2) pos) (asg2S i j f g) :=
  PS.imp (ps_par hc hN hi hj hij hx hy (pa_cons h1 (pa_cons h2 pa_nil s2) s1) hw hs) fun D σ H ⟨Hk, env, δ, hA, hE, q⟩ => by
    unfold asg2S at q
    rw [ifn hij] at q
    refine ⟨Hk, vw env, δ, hA, hE.vw, q.seq.mono fun s δ1 q1 v Hk1 H1 st1 a1 r1 => ?_⟩
    have E1 := hE.step st1
    refine ⟨Hk1, vw env, δ1, a1, E1.vw, ?_⟩
    refine (q1.seq.later st1 fun _ _ z => z).mono fun t δ2 q2 u Hk2 H2 st2 a2 r2 => ?_
    have E2 := E1.step st2
    have k1 : SlOk X.K da Hk2 H2 (Own σ env) v s := (r1.ok hA hE).step st2
    have k2 : SlOk X.K da Hk2 H2 (Own σ env) u t := r2.ok a1 E1
    have E3 := E2.sl (i := i) k1
    have there : ∀ p, v = .ref p → s.own = true → Nt H1 p := fun p e o => by
      subst e
      have z := r1.ok hA hE
      cases s with
      | ow ds => obtain ⟨b, e, _, _, _, vs, h, _⟩ := z; cases e; exact ⟨_, h, fun _ z => nomatch z⟩
      | od es => obtain ⟨b, e, _, _, _, vs, h, _⟩ := z; cases e; exact ⟨_, h, fun _ z => nomatch z⟩
      | dt d => cases o
      | no => cases o
      | oo c fs => exact z.elim
    have k3 : SlOk X.K da Hk2 H2 (Own (σ.set i (some v)) (env.set i s)) u t := k2.out fun p e o hO => by
      rcases Own.of_sl hO with z | ⟨o2, z⟩
      · exact z
      · subst e
        exact absurd (there p z o2) (r2.new o)
    have E4 := E3.sl (i := j) k3
    refine ⟨v, u, rfl, ?_⟩
    refine q2 _ Hk2 _ (st1.trans st2).s a2 E4 fun p hp => ?_
    rcases Own.of_sl hp with z | ⟨o, z⟩
    · rcases Own.of_sl z with z | ⟨o, z⟩
      · exact .inl z
      · subst z
        exact .inr (r1.new o)
    · subst z
      exact .inr fun y => (r2.new o) (st1.th p y)
end
end Dv
set_option maxHeartbeats 4000000
/-! try: x = e; except .. -/
namespace Dv
open PySem PySem.Spec PyProof.Rows L2
section
variable {X : Cx} {da : Da} {cm : Nat → Addr} {mt : Mt} {E : XK} {pos p2 p3 : Pos} {e : Expr} {x : Str} {i : Nat} {c0 : ExceptHandler} {hds : List ExceptHandler} {l : List ClM} {m : List (Nat × (Fs → SEnv → M Fl))} {f : Env → M D}
end
end Dv
set_option maxHeartbeats 4000000
/-! list(d.values()), d locked or not. -/
namespace Dv
open PySem PySem.Spec PyProof.Rows L2
section
variable {X : Cx} {e : Expr} {te : TE} {p apos cpos pos : Pos}
end
section
variable {X : Cx} {da : Da} {cm : Nat → Addr} {W : WX} {p apos cpos pos : Pos} {e : Expr} {fa : Env → M D}
end
end Dv
set_option maxHeartbeats 4000000
/-! x = {k: v for ..}, x a plain local. -/
namespace Dv
open PySem PySem.Spec PyProof.Rows L2
end Dv
set_option maxHeartbeats 4000000
namespace Dv
open PySem PySem.Spec PyProof.Rows L2
section
variable {X : Cx} {da : Da} {cm : Nat → Addr} {E : XK} {i : Nat} {f : Env → M (List (D × D))}
variable {y : Str} {py pos spos : Pos} {kx vx tg iter tg1 iter1 : Expr} {ifs ifs1 : List Expr} {scope : Scope} {own : List (Str × Nat)} {vs vs1 : List Nat} {it it1 : Env → M (List D)} {t t1 : Tg} {tt tt1 : Env → M Bool} {tk tv : Env → M D}
end
end Dv
namespace Dv
open PySem PySem.Spec PyProof.Rows L2
end Dv
namespace L2
open PySem PySem.Spec
end L2
set_option maxHeartbeats 4000000
/-! `x = [.. for .. for ..]` into a plain local. -/
namespace Dv
open PySem PySem.Spec PyProof.Rows L2
section
variable {X : Cx} {da : Da} {cm : Nat → Addr} {W : WX} {pos spos py : Pos}
end
end Dv
set_option maxHeartbeats 4000000
/-! A dict of lists that no one else has, filled by d[k].append(e) in loops: the statements between its making and its use as data. -/
namespace Dv
open PySem PySem.Spec PyProof.Rows L2
abbrev Ln := List (Key × List D)
def lookL : Ln → Key → Option (List D)
  | [], _ => none
  | (k, ds) :: r, kk => if k = kk then some ds else lookL r kk
def appL : Ln → Key → D → Ln
  | [], _, _ => []
  | (k, ds) :: r, kk, d => if k = kk then (k, ds ++ [d]) :: r else (k, ds) :: appL r kk d
def lnD (x : Ln) : List (D × D) := x.map fun p => (dK p.1, .lst p.2)
inductive OwL (K : PySem.W.Frag) (da : Da) (Hk H : Hp) : List (Key × V) → Ln → Prop
  | nil : OwL K da Hk H [] []
  | cons {k : Key} {q : Addr} {vs : List V} {ds : List D} {kvs : List (Key × V)} {x : Ln} : Hk q = none → da.ad ≠ some q → H q = some (.lst vs) → RpL K da.ra Hk vs ds → OwL K da Hk H kvs x → OwL K da Hk H ((k, .ref q) :: kvs) ((k, ds) :: x)
section
variable {K : PySem.W.Frag} {da : Da} {Hk H Hk' H' : Hp}
theorem OwL.step (s : Stp da Hk H Hk' H') : ∀ {kvs : List (Key × V)} {x : Ln}, OwL K da Hk H kvs x → OwL K da Hk' H' kvs x
  | _, _, .nil => .nil
  | _, _, .cons h1 h2 h3 h4 t => .cons (s.fr _ ⟨_, h3, .lst _⟩ h1) h2 (s.ke _ _ h3 h2 fun _ z => nomatch z) (h4.mono s.kn) (t.step s)
theorem OwL.look {kk : Key} {ds : List D} : ∀ {kvs : List (Key × V)} {x : Ln}, OwL K da Hk H kvs x → lookL x kk = some ds → ∃ q vs, valV kvs kk = some (.ref q) ∧ V.ref q ∈ kvs.map (·.2) ∧ Hk q = none ∧ da.ad ≠ some q ∧ H q = some (.lst vs) ∧ RpL K da.ra Hk vs ds
  | _, _, .nil, e => by cases e
  | (k, _) :: kvs, _, .cons (q := q) (vs := vs) h1 h2 h3 h4 t, e => by
    unfold lookL at e
    by_cases h : k = kk
    · rw [if_pos h] at e
      cases e
      exact ⟨q, vs, valV_pos h, by simp, h1, h2, h3, h4⟩
    · rw [if_neg h] at e
      obtain ⟨q', vs', a1, a2, a3⟩ := t.look e
      exact ⟨q', vs', by rw [valV_neg (p := (k, _)) h]; exact a1, List.mem_cons_of_mem _ a2, a3⟩
theorem OwL.other {q : Addr} {o : HO} : ∀ {kvs : List (Key × V)} {x : Ln}, OwL K da Hk H kvs x → V.ref q ∉ kvs.map (·.2) → OwL K da Hk (upd H q o) kvs x
  | _, _, .nil, _ => .nil
  | _, _, .cons (q := q') h1 h2 h3 h4 t, n => by
    simp only [List.map_cons, List.mem_cons, not_or] at n
    have : q' ≠ q := fun z => n.1 (by rw [z])
    exact .cons h1 h2 (by rw [upd_ne this]; exact h3) h4 (t.other n.2)
theorem OwL.app {kk : Key} {q : Addr} {vs : List V} {v : V} {ds : List D} {d : D} : ∀ {kvs : List (Key × V)} {x : Ln}, OwL K da Hk H kvs x → (kvs.map (·.2)).Nodup → valV kvs kk = some (.ref q) → lookL x kk = some ds → H q = some (.lst vs) → RpL K da.ra Hk vs ds → Rp K da.ra Hk v d →
    OwL K da Hk (upd H q (.lst (vs ++ [v]))) kvs (appL x kk d)
  | _, _, .nil, _, e, _, _, _, _ => by cases e
  | (k, _) :: kvs, _, .cons (q := q') (vs := vs') h1 h2 h3 h4 t, nd, e, l, hq, r, rv => by
    simp only [List.map_cons, List.nodup_cons] at nd
    unfold lookL at l
    unfold appL
    by_cases h : k = kk
    · rw [if_pos h]
      rw [valV_pos (p := (k, V.ref q')) h] at e
      cases e
      rw [if_pos h] at l
      cases l
      rw [h3] at hq
      cases hq
      exact .cons h1 h2 upd_same (h4.append (.cons rv .nil)) (t.other nd.1)
    · rw [if_neg h]
      rw [if_neg h] at l
      rw [valV_neg (p := (k, V.ref q')) h] at e
      have : q' ≠ q := fun z => by
        obtain ⟨q2, vs2, a1, a2, _⟩ := t.look l
        rw [e] at a1
        cases a1
        exact nd.1 (by rw [z]; exact a2)
      exact .cons h1 h2 (by rw [upd_ne this]; exact h3) h4 (t.app nd.2 e l hq r rv)
end
structure LnAt (K : PySem.W.Frag) (da : Da) (Hk H : Hp) (p : Addr) (kvs : List (Key × V)) (x : Ln) : Prop where
  hk : Hk p = none
  ad : da.ad ≠ some p
  at_ : H p = some (.dK kvs)
  own : OwL K da Hk H kvs x
  nd : (kvs.map (·.2)).Nodup
/-- where the loops stand: since Hk0, H0, .. -/
structure LnI (K : PySem.W.Frag) (da : Da) (iF : Nat) (Hk0 H0 : Hp) (σ0 : L2.St) (env0 : SEnv) (σ : L2.St) (H Hk : Hp) (δ : Dice) (env : SEnv) (x : Ln) : Prop where
  a : At da Hk H δ
  e : EnvS K da Hk H σ env
  s : StpS da (Own σ0 env0) Hk0 H0 Hk H
  o : ∀ p, Own σ env p → Own σ0 env0 p ∨ ¬ Nt H0 p
  no : env[iF]? = some .no
  f : ∃ p kvs, σ[iF]? = some (some (.ref p)) ∧ LnAt K da Hk H p kvs x ∧ ¬ Nt H0 p ∧ ¬ Own σ env p ∧ ∀ q, V.ref q ∈ kvs.map (·.2) → ¬ Nt H0 q ∧ ¬ Own σ env q
section
variable {K : PySem.W.Frag} {da : Da} {cm : Nat → Addr} {iF : Nat} {Hk0 H0 : Hp} {σ0 : L2.St} {env0 : SEnv} {σ : L2.St} {H Hk H1 Hk1 : Hp} {δ δ1 : Dice} {env : SEnv} {x : Ln} {E : XK}
theorem LnI.step (h : LnI K da iF Hk0 H0 σ0 env0 σ H Hk δ env x) (s : Stp da Hk H Hk1 H1) (a : At da Hk1 H1 δ1) : LnI K da iF Hk0 H0 σ0 env0 σ H1 Hk1 δ1 env x where
  a := a
  e := h.e.step s
  s := h.s.trans (s.s (O := fun _ => False)) fun _ z => z.elim
  o := h.o
  no := h.no
  f := by
    obtain ⟨p, kvs, h1, h2, h3⟩ := h.f
    exact ⟨p, kvs, h1, ⟨s.fr p ⟨_, h2.at_, .dK _⟩ h2.hk, h2.ad, s.ke p _ h2.at_ h2.ad fun _ z => (nomatch z), h2.own.step s, h2.nd⟩, h3⟩
/-- the end of a run within -/
def FinL (K : PySem.W.Frag) (da : Da) (cm : Nat → Addr) (iF : Nat) (Hk0 H0 : Hp) (σ0 : L2.St) (env0 : SEnv) (r : R (SEnv × Ln)) (Hk : Hp) (N : L2.St → Hp → Prop) (E : XK) : Prop :=
  match r with
  | .ok y δ' => ∀ σ' H' Hk', Ex Hk Hk' → LnI K da iF Hk0 H0 σ0 env0 σ' H' Hk' δ' y.1 y.2 → N σ' H'
  | .exc c fs δ' => ∀ dd Hk' H', StpS da (Own σ0 env0) Hk0 H0 Hk' H' → At da Hk' H' δ' → Xr K da.ra Hk' dd fs → E (.ref (cm c)) dd H'
  | .bad => False
theorem FinL.bind {α : Type} {m : M α} {g : α → M (SEnv × Ln)} {N : L2.St → Hp → Prop} (h : FinL K da cm iF Hk0 H0 σ0 env0 (Dv.bind m g δ) Hk N E) (hs : StpS da (Own σ0 env0) Hk0 H0 Hk H) :
    Fin K da cm (m δ) Hk H (fun a δ' => FinL K da cm iF Hk0 H0 σ0 env0 (g a δ') Hk N E) (fun c dd H' => E c dd H') := by
  unfold Dv.bind at h
  cases e : m δ with
  | ok a δ' => rw [e] at h; exact h
  | exc c fs δ' =>
    rw [e] at h
    exact fun dd Hk' H' s a x => h dd Hk' H' (hs.trans (s.s (O := fun _ => False)) fun _ z => z.elim) a x
  | bad => rw [e] at h; exact h
theorem FinL.ext {r : R (SEnv × Ln)} {N : L2.St → Hp → Prop} (h : FinL K da cm iF Hk0 H0 σ0 env0 r Hk N E) (ex : Ex Hk Hk1) : FinL K da cm iF Hk0 H0 σ0 env0 r Hk1 N E := by
  cases r with
  | ok y δ' => exact fun σ' H' Hk' e l => h σ' H' Hk' (ex.trans e) l
  | exc c fs δ' => exact h
  | bad => exact h
theorem LnI.tv (h : LnI K da iF Hk0 H0 σ0 env0 σ H Hk δ env x) {f : Env → M Bool} {g : Bool → M (SEnv × Ln)} {N : L2.St → Hp → Prop} (q : FinL K da cm iF Hk0 H0 σ0 env0 (Dv.bind (f (vw env)) g δ) Hk N E) {Q : Bool → Hp → Prop}
    (hq : ∀ d δ' Hk' H', LnI K da iF Hk0 H0 σ0 env0 σ H' Hk' δ' env x → Ex Hk Hk' → FinL K da cm iF Hk0 H0 σ0 env0 (g d δ') Hk' N E → Q d H') : tTv K da cm (WE0 E) f σ H Q :=
  ⟨Hk, vw env, δ, h.a, h.e.vw, (q.bind h.s).mono fun d δ' q1 Hk' H' s a => hq d δ' Hk' H' (h.step s a) s.kn (q1.ext s.kn)⟩
theorem LnI.iv (h : LnI K da iF Hk0 H0 σ0 env0 σ H Hk δ env x) {f : Env → M (List D)} {g : List D → M (SEnv × Ln)} {N : L2.St → Hp → Prop} (q : FinL K da cm iF Hk0 H0 σ0 env0 (Dv.bind (f (vw env)) g δ) Hk N E) {R : It → Hp → Prop}
    (hq : ∀ J ds δ' Hk' H', LnI K da iF Hk0 H0 σ0 env0 σ H' Hk' δ' env x → Ex Hk Hk' → Yl K da J Hk' ds → FinL K da cm iF Hk0 H0 σ0 env0 (g ds δ') Hk' N E → R J H') : tIv K da cm (WE0 E) f σ H R :=
  ⟨Hk, vw env, δ, h.a, h.e.vw, (q.bind h.s).mono fun d δ' q1 J Hk' H' s a y => hq J d δ' Hk' H' (h.step s a) s.kn y (q1.ext s.kn)⟩
theorem puts_get {α : Type} {i : Nat} : ∀ {l : List (Nat × α)} {σ : List α}, i ∉ l.map (·.1) → (puts σ l)[i]? = σ[i]?
  | [], _, _ => rfl
  | (j, v) :: l, σ, h => by
    simp only [List.map_cons, List.mem_cons, not_or] at h
    show (puts (σ.set j v) l)[i]? = _
    rw [puts_get h.2, List.getElem?_set_ne (Ne.symm h.1)]
theorem LnI.put {l : List (Nat × V)} {m : List (Nat × D)} (h : LnI K da iF Hk0 H0 σ0 env0 σ H Hk δ env x) (r : RpP K da.ra Hk l m) (hi : iF ∉ m.map (·.1)) : LnI K da iF Hk0 H0 σ0 env0 (putV σ l) H Hk δ (putS env m) x where
  a := h.a
  e := h.e.put r
  s := h.s
  o := fun p z => h.o p (Own.of_put r.1 z)
  no := by
    unfold putS
    rw [puts_get (by rw [List.map_map]; exact hi)]
    exact h.no
  f := by
    obtain ⟨p, kvs, h1, h2, h3, h4, h5⟩ := h.f
    refine ⟨p, kvs, ?_, h2, h3, fun z => h4 (Own.of_put r.1 z), fun q hq => ⟨(h5 q hq).1, fun z => (h5 q hq).2 (Own.of_put r.1 z)⟩⟩
    unfold putV
    rw [puts_get (by rw [List.map_map]; show iF ∉ l.map (·.1); rw [r.1]; exact hi)]
    exact h1
theorem LnI.set {i : Nat} {v : V} {d : D} (h : LnI K da iF Hk0 H0 σ0 env0 σ H Hk δ env x) (r : Rp K da.ra Hk v d) (hi : i ≠ iF) : LnI K da iF Hk0 H0 σ0 env0 (σ.set i (some v)) H Hk δ (env.set i (.dt d)) x := by
  have := h.put (l := [(i, v)]) (m := [(i, d)]) ⟨rfl, .cons r .nil⟩ (by simp; exact fun z => hi z.symm)
  exact this
theorem LnI.app {p q : Addr} {kvs : List (Key × V)} {kk : Key} {vs : List V} {v : V} {ds : List D} {d : D} (h : LnI K da iF Hk0 H0 σ0 env0 σ H Hk δ env x) (ow : OwL K da Hk H kvs x) (nd : (kvs.map (·.2)).Nodup) (hp : σ[iF]? = some (some (.ref p)))
    (hk : Hk p = none) (hat : H p = some (.dK kvs)) (had : da.ad ≠ some p) (new : ¬ Nt H0 p ∧ ¬ Own σ env p ∧ ∀ q, V.ref q ∈ kvs.map (·.2) → ¬ Nt H0 q ∧ ¬ Own σ env q) (hv : valV kvs kk = some (.ref q)) (hl : lookL x kk = some ds)
    (hq : H q = some (.lst vs)) (r : RpL K da.ra Hk vs ds) (rv : Rp K da.ra Hk v d) (hm : V.ref q ∈ kvs.map (·.2)) : LnI K da iF Hk0 H0 σ0 env0 σ (upd H q (.lst (vs ++ [v]))) Hk δ env (appL x kk d) := by
  obtain ⟨q', vs', a1, a2, a3, a4, a5, a6⟩ := ow.look hl
  rw [hv] at a1
  cases a1
  have np : p ≠ q := fun z => by rw [z, hq] at hat; cases hat
  obtain ⟨n1, n2⟩ := new.2.2 q hm
  have mu : Mu H q := ⟨_, hq, .lst _⟩
  have nO : ∀ {i : Nat} {s : Sl}, env[i]? = some s → s.own = true → σ[i]? ≠ some (some (.ref q)) := fun e o z => n2 ⟨_, _, e, o, z⟩
  refine ⟨h.a.mut hq (.lst _) a3 a4, ⟨h.e.len, h.e.dat, fun i s e o => ?_, h.e.apart⟩, ?_, h.o, h.no, p, kvs, hp, ⟨hk, had, by rw [upd_ne np]; exact hat, ow.app nd hv hl hq r rv, nd⟩, new⟩
  · obtain ⟨b, b1, b2, b3, b4⟩ := h.e.own i s e o
    have nb : b ≠ q := fun z => nO e o (by rw [b1, z])
    refine ⟨b, b1, b2, b3, ?_⟩
    cases s with
    | ow ds => obtain ⟨vs, q, r⟩ := b4; exact ⟨vs, by rw [upd_ne nb]; exact q, r⟩
    | od ds => obtain ⟨vs, q, r⟩ := b4; exact ⟨vs, by rw [upd_ne nb]; exact q, r⟩
    | oo c ds => obtain ⟨vs, f, q, r⟩ := b4; exact ⟨vs, f, by rw [upd_ne nb]; exact q, r⟩
    | no => exact b4
    | dt d => exact b4
  · have s2 : StpS da (fun b => b = q) Hk H Hk (upd H q (.lst (vs ++ [v]))) := StpS.upd rfl
    exact h.s.trans s2 fun b z => .inr (by rw [z]; exact n1)
end
section
variable {X : Cx} {da : Da} {cm : Nat → Addr} {iF : Nat} {Hk0 H0 : Hp} {σ0 : L2.St} {env0 : SEnv} {E : XK} {pos : Pos}
end
end Dv
set_option maxHeartbeats 4000000
/-! dict([(k, []) for ..]): a dict of new lists; its use between. -/
namespace Dv
open PySem PySem.Spec PyProof.Rows L2
theorem Paired.imp {α β : Type} {P Q : α → β → Prop} (h : ∀ a b, P a b → Q a b) : ∀ {xs : List α} {ys : List β}, Paired P xs ys → Paired Q xs ys
  | _, _, .nil => .nil
  | _, _, .cons r t => .cons (h _ _ r) (Paired.imp h t)
section
variable {X : Cx} {da : Da} {cm : Nat → Addr} {W : WX}
end
end Dv
set_option maxHeartbeats 4000000
/-! b, f = e, dict([(k, []) for ..]); a loop that fills f's lists; then f is an own dict. -/
namespace Dv
open PySem PySem.Spec PyProof.Rows L2
section
variable {K : PySem.W.Frag} {da : Da} {cm : Nat → Addr} {Hk H Hk' H' : Hp} {σ : L2.St} {env : SEnv} {δ : Dice} {E : XK}
/-- the lists known, too -/
def knowL (Hk H : Hp) (kvs : List (Key × V)) : Hp := fun b => if (kvs.any fun kv => decide (kv.2 = V.ref b)) = true then H b else Hk b
theorem knowL_in {kvs : List (Key × V)} {b : Addr} (h : V.ref b ∈ kvs.map (·.2)) : knowL Hk H kvs b = H b := by
  unfold knowL
  rw [if_pos]
  obtain ⟨kv, h1, h2⟩ := List.mem_map.mp h
  exact List.any_eq_true.mpr ⟨kv, h1, by simpa using h2⟩
theorem knowL_out {kvs : List (Key × V)} {b : Addr} (h : V.ref b ∉ kvs.map (·.2)) : knowL Hk H kvs b = Hk b := by
  unfold knowL
  rw [if_neg]
  intro z
  obtain ⟨kv, h1, h2⟩ := List.any_eq_true.mp z
  exact h (List.mem_map.mpr ⟨kv, h1, by simpa using h2⟩)
theorem OwL.mem : ∀ {kvs : List (Key × V)} {x : Ln}, OwL K da Hk H kvs x → ∀ {q : Addr}, V.ref q ∈ kvs.map (·.2) → Hk q = none ∧ da.ad ≠ some q ∧ ∃ vs, H q = some (.lst vs)
  | _, _, .nil, _, h => by cases h
  | _, _, .cons h1 h2 h3 h4 t, q, h => by
    rcases List.mem_cons.mp h with e | h
    · cases e; exact ⟨h1, h2, _, h3⟩
    · exact t.mem h
theorem OwL.rpk {Hk2 : Hp} (ex : Ex Hk Hk2) : ∀ {kvs : List (Key × V)} {x : Ln}, OwL K da Hk H kvs x → (∀ q, V.ref q ∈ kvs.map (·.2) → Hk2 q = H q) → RpK K da.ra Hk2 kvs (lnD x)
  | _, _, .nil, _ => .nil
  | _, _, .cons h1 h2 h3 h4 t, n => .cons (.lst (by rw [n _ (by simp)]; exact h3) (h4.mono ex)) (OwL.rpk ex t fun q hq => n q (by simp only [List.map_cons, List.mem_cons]; exact .inr hq))
/-- from the loops on -/
theorem LnI.out {iF : Nat} {Hk0 H0 : Hp} {σ0 : L2.St} {env0 : SEnv} {x : Ln} {G : SEnv → M Fl} {D : Ends} (h : LnI K da iF Hk0 H0 σ0 env0 σ H Hk δ env x) (q : FinS K da cm (G (env.set iF (.od (lnD x))) δ) Hk0 H0 σ0 env0 D E) : tSt K da cm E G D σ H := by
  obtain ⟨p, kvs, h1, h2, h3, h4, h5⟩ := h.f
  have ex : Ex Hk (knowL Hk H kvs) := fun b u e => by
    by_cases z : V.ref b ∈ kvs.map (·.2)
    · rw [(h2.own.mem z).1] at e; cases e
    · rw [knowL_out z]; exact e
  have np : V.ref p ∉ kvs.map (·.2) := fun z => by
    obtain ⟨_, _, vs, e⟩ := h2.own.mem z
    rw [h2.at_] at e; cases e
  have hi : iF < env.length := by
    have := h.no
    rcases Nat.lt_or_ge iF env.length with z | z
    · exact z
    · rw [List.getElem?_eq_none z] at this; cases this
  have E2 : EnvS K da (knowL Hk H kvs) H σ (env.set iF (.od (lnD x))) := by
    refine ⟨by rw [List.length_set]; exact h.e.len, fun j d e => ?_, fun j s e o => ?_, fun j k s t b e1 o1 e2 o2 q1 q2 => ?_⟩
    · by_cases hj : iF = j
      · subst hj; have z := get_set_same e; cases z
      · rw [List.getElem?_set_ne hj] at e
        obtain ⟨v, a1, a2⟩ := h.e.dat j d e
        exact ⟨v, a1, a2.mono ex⟩
    · by_cases hj : iF = j
      · subst hj
        cases get_set_same e
        exact ⟨p, h1, by rw [knowL_out np]; exact h2.hk, h2.ad, kvs, h2.at_, h2.own.rpk ex fun q hq => knowL_in hq⟩
      · rw [List.getElem?_set_ne hj] at e
        obtain ⟨b, b1, b2, b3, b4⟩ := h.e.own j s e o
        have nb : V.ref b ∉ kvs.map (·.2) := fun z => (h5 b z).2 ⟨j, s, e, o, b1⟩
        refine ⟨b, b1, by rw [knowL_out nb]; exact b2, b3, ?_⟩
        cases s with
        | ow ds => obtain ⟨vs, q, r⟩ := b4; exact ⟨vs, q, r.mono ex⟩
        | od ds => obtain ⟨vs, q, r⟩ := b4; exact ⟨vs, q, r.mono ex⟩
        | oo c ds => obtain ⟨vs, f, q, r⟩ := b4; exact ⟨vs, f, q, r.mono ex⟩
        | no => exact b4
        | dt d => exact b4
    · by_cases hj : iF = j
      · by_cases hk : iF = k
        · rw [← hj, hk]
        · subst hj
          rw [List.getElem?_set_ne hk] at e2
          rw [h1] at q1
          cases q1
          exact absurd ⟨k, t, e2, o2, q2⟩ h4
      · rw [List.getElem?_set_ne hj] at e1
        by_cases hk : iF = k
        · subst hk
          rw [h1] at q2
          cases q2
          exact absurd ⟨j, s, e1, o1, q1⟩ h4
        · rw [List.getElem?_set_ne hk] at e2
          exact h.e.apart j k s t b e1 o1 e2 o2 q1 q2
  have A2 : At da (knowL Hk H kvs) H δ := by
    refine ⟨fun b u e => ?_, fun b e => ?_, h.a.tb, da.km _ _ ex h.a.kn, fun b ps e => ?_⟩
    · by_cases z : V.ref b ∈ kvs.map (·.2)
      · rw [knowL_in z] at e; exact e
      · rw [knowL_out z] at e; exact h.a.ex b u e
    · have nb : V.ref b ∉ kvs.map (·.2) := fun z => (h2.own.mem z).2.1 e
      rw [knowL_out nb]
      exact h.a.di b e
    · by_cases z : V.ref b ∈ kvs.map (·.2)
      · rw [knowL_in z] at e
        obtain ⟨_, _, vs, e2⟩ := h2.own.mem z
        rw [e2] at e; cases e
      · rw [knowL_out z] at e; exact h.a.nt b ps e
  refine ⟨_, _, δ, A2, E2, q.later ⟨h.s.kn.trans ex, fun b hb n hn => ?_, h.s.ke, h.s.th, h.s.tm⟩ fun b hb => ?_⟩
  · have nb : V.ref b ∉ kvs.map (·.2) := fun z => (h5 b z).1 hb.nt
    rw [knowL_out nb]
    exact h.s.fr b hb n hn
  · obtain ⟨j, s, e, o, z⟩ := hb
    by_cases hj : iF = j
    · subst hj
      rw [h1] at z
      cases z
      exact .inr h3
    · rw [List.getElem?_set_ne hj] at e
      exact h.o b ⟨j, s, e, o, z⟩
end
section
variable {X : Cx} {da : Da} {cm : Nat → Addr} {E : XK} {pos : Pos}
end
end Dv
set_option maxHeartbeats 4000000
/-! An own dict read for a while: it is locked and known as long as an expression is evaluated, whose value has no dict in it. -/
namespace Dv
open PySem PySem.Spec PyProof.Rows L2
mutual
/-- no dict within -/
def D.nd : D → Bool
  | .dic _ => false
  | .obj _ _ => false
  | .exn _ _ _ => false
  | .lst xs => D.ndL xs
  | .tup xs => D.ndL xs
  | _ => true
def D.ndL : List D → Bool
  | [] => true
  | d :: ds => D.nd d && D.ndL ds
end
section
variable {K : PySem.W.Frag} {ra : Ra} {Hk : Hp} {p : Addr} {od : Obj} {kvs : List (Key × V)}
end
section
variable {K : PySem.W.Frag} {da : Da} {cm : Nat → Addr} {Hk H : Hp} {σ : L2.St} {env : SEnv} {δ : Dice} {E : XK} {D : Ends}
end
section
variable {X : Cx} {da : Da} {cm : Nat → Addr} {E : XK} {pos pos' : Pos}
end
end Dv
set_option maxHeartbeats 4000000
/-! An own list read for a while: known as long as an expression is evaluated, whose value has no list in it; x[k] = e, x.append(e), x.pop(k). -/
namespace Dv
open PySem PySem.Spec PyProof.Rows L2
section
variable {K : PySem.W.Frag} {ra : Ra} {Hk : Hp} {p : Addr} {vs : List V}
end
section
variable {K : PySem.W.Frag} {da : Da} {cm : Nat → Addr} {Hk H : Hp} {σ : L2.St} {env : SEnv} {δ : Dice} {E : XK} {D : Ends}
end
section
variable {X : Cx} {da : Da} {cm : Nat → Addr} {E : XK} {pos pos' : Pos}
theorem RpL.set {K : PySem.W.Frag} {ra : Ra} {H : Hp} {v : V} {d : D} (r : Rp K ra H v d) : ∀ {vs : List V} {ds : List D} (j : Nat), RpL K ra H vs ds → RpL K ra H (vs.set j v) (ds.set j d)
  | _, _, _, .nil => .nil
  | _, _, 0, .cons _ t => .cons r t
  | _, _, j + 1, .cons r0 t => .cons r0 (RpL.set r j t)
end
end Dv
set_option maxHeartbeats 4000000
/-! f(a, x): x a list that no one else has, which f may change. -/
namespace Dv
open PySem PySem.Spec PyProof.Rows L2
section
variable {P : Program} {w : World} {K : PySem.W.Frag} {mg : Str → Option Value} {base : Heap} {cm : Nat → Addr}
end
section
variable {X : Cx} {da : Da} {cm : Nat → Addr} {W : WX} {pos p : Pos} {e1 e2 : Expr} {x : Str} {tb : List (Addr × Str)} {k : Nat} {f : Addr} {fd : FuncData} {ps : List Str}
end
end Dv
set_option maxHeartbeats 4000000
/-! self.f = g(e, self.h), while self is being made. -/
namespace Dv
open PySem PySem.Spec PyProof.Rows L2
section
variable {X : Cx} {da : Da} {cm : Nat → Addr} {E : XK} {pos pos' p2 : Pos} {i c : Nat} {x f h : Str}
end
end Dv
set_option maxHeartbeats 4000000
/-! f(). -/
namespace Dv
open PySem PySem.Spec PyProof.Rows L2
section
variable {X : Cx} {da : Da} {cm : Nat → Addr} {W : WX} {pos p : Pos} {T : List D → M D} {k j : Nat} {f : Addr} {fd : FuncData} {x : Str}
end
end Dv
set_option maxHeartbeats 1000000
/-! a, b = a new thing of its own, another one: through a tuple. -/
namespace Dv
open PySem PySem.Spec PyProof PyProof.Rows L2
section
variable {X : Cx} {da : Da} {cm : Nat → Addr} {E : XK} {pos : Pos} {e1 e2 tg : Expr} {i j : Nat} {f g : Env → M Sl}
end
end Dv
set_option maxHeartbeats 4000000
/-! t[::-1], t a tuple. -/
namespace Dv.Rev
open PySem PySem.Spec PyProof PyProof.Rows HT
section
variable {prog : Program} {w : World} {A : Around} {E : Value → Shared → Prop} {s : Shared}
end
end Dv.Rev
namespace Dv
open PySem PySem.Spec PyProof PyProof.Rows L2
section
variable {X : Cx}
end
section
variable {X : Cx} {da : Da} {cm : Nat → Addr} {W : WX} {pos : Pos} {e : Expr} {fe : Env → M D}
end
end Dv
set_option maxHeartbeats 4000000
/-! is True, is not False: of booleans. -/
namespace Dv
open PySem PySem.Spec PyProof PyProof.Rows L2
section
variable {X : Cx} {da : Da}
def D.isB : D → D → Option D
  | .bl a, .bl b => some (.bl (decide (a = b)))
  | _, _ => none
end
end Dv
set_option maxHeartbeats 4000000
/-! An error's class over any built-in base (KeyError has no __new__ of its own). -/
namespace PySem
namespace SupY
open PySem.W PySem.Calls PyProof.Rows
/-- what is known of the built-in base B -/
structure EbF (B newId initId : String) (bmB : List Value) : Prop where
  nw : ∃ (nB iN : String) (bmN : List Value), ExcBaseFacts nB newId iN bmN ∧ bmB.contains (.type nB) = true
  kx : KxsFacts B initId
  noA : bmB.contains (.type "AttributeError") = false
  noN : bmB.contains (.type "NameError") = false
  hasO : bmB.contains (.type "object") = true
  kind : builtinKind initId = some .slot
  row : Manifest.signature? initId = some ⟨.positional, "*", B, .self, [⟨"args", .varPos, false⟩]⟩
  star : (B != "*") = true
  plain : plainId initId = true
  entry : entryFor table initId = some Builtin.«BaseException.__init__»
  pass : ∀ self : Value, refuseLoop self "__setattr__" bmB = pure ()
theorem EbF.of {B newId initId : String} {bmB : List Value} (F : ExcBaseFacts B newId initId bmB) (KF : KxsFacts B initId) (S : StoreFacts B bmB "object.__setattr__" "object") : EbF B newId initId bmB :=
  ⟨⟨_, _, _, F, F.hasB⟩, KF, F.noAttr, F.noName, S.hasOwner, F.initKind, F.initRow, F.noStar, F.init.plain, F.initEntry, S.passes⟩
theorem eb_Value : EbF "ValueError" "ValueError.__new__" "ValueError.__init__" [.type "ValueError", .type "Exception", .type "BaseException", .type "object"] := .of F.excBase_ValueError kxs_ValueError F.store_ValueError
theorem kx_Key : KxsFacts "KeyError" "KeyError.__init__" where
  typ := by
    show builtinType _ = _
    rw [builtinType_eq_fast]
    kernel_rfl
  nac := by first | kernel_rfl | rfl
theorem slot_Key : Slot "KeyError" "__init__" "KeyError.__init__" := by
  refine .of (owner := "KeyError") (n := "__init__") ?_ (by decide +kernel) (by decide +kernel) (by decide +kernel) ?_ ?_
  · rw [typeLookup_type, builtinLookup_eq_fast]
    kernel_rfl
  · first
      | exact .inl (by decide +kernel)
      | exact .inr (by decide +kernel)
  · rw [isSubtype_type]
    kernel_rfl
theorem eb_Key : EbF "KeyError" "LookupError.__new__" "KeyError.__init__" [.type "KeyError", .type "LookupError", .type "Exception", .type "BaseException", .type "object"] where
  nw := ⟨_, _, _, F.excBase_LookupError, by decide +kernel⟩
  kx := kx_Key
  noA := by decide +kernel
  noN := by decide +kernel
  hasO := by decide +kernel
  kind := by kernel_rfl
  row := by kernel_rfl
  star := by decide +kernel
  plain := slot_Key.plain
  entry := by
    refine entryFor_alias (id' := "BaseException.__init__") ?_ (by first | rfl | decide +kernel) (by decide +kernel) ?_
    · rw [fastTable_eq_tree]
      kernel_rfl
    · rw [fastTable_eq_tree]
      kernel_rfl
  pass := fun self => by kernel_rfl
/-! ### the call of such a class -/
section
variable {M : Model} {A : Around} {E : Value → Shared → Prop} {h : Heap} {g : Array GenState} {dr : Drawn} {t : Nat} {os : OsState}
variable {nm qn : Str} {C N : Addr} {bs bm bmN : List Value} {hd : Bool} {sn : List Str} {sub : List Value} {ab : Bool} {col : Option Bool} {dd : Option Addr} {k0 k1 k2 k3 k5 : Option Value} {nB newId iN : String}
theorem chk_new (T : ExcBaseFacts nB newId iN bmN) (hb : bm.contains (.type nB) = true) {rest : List Value} {Q : Unit → Shared → Prop} (lC : h.get? C = some (excClassObj nm qn C N bs bm hd sn sub ab col dd k0 k1 k2 k3 k5 newId))
    (z : Q () ⟨h, g, dr, t, os⟩) : wpAny M A (checkBuiltinCall newId ⟨.ref C :: rest, []⟩) Q E ⟨h, g, dr, t, os⟩ := by
  have cB : (Value.ref C :: bm).contains (.type nB) = true := by rw [List.contains_cons, hb, Bool.or_true]
  have st := T.noStar
  simp only [checkBuiltinCall, T.newKind, T.newSplit, T.newRow]
  repeat (first
    | refine wpAny_loadPart_at lC ?_
    | (refine wpAny_isSubtype_exc lC ?_; rw [cB])
    | refine wpAny_staticBase_exc lC ?_
    | refine wpAny_madeBy_exc lC ?_
    | simp only [bne_self_eq_false, Bool.false_eq_true, if_false]
    | wp_step)
  exact z
theorem chk_init {B initId : String} {bmB : List Value} (T : EbF B newId initId bmB) {e : Addr} {oe : Obj} {rest : List Value} {Q : Unit → Shared → Prop} (lC : h.get? C = some (excClassObj nm qn C N bs bm hd sn sub ab col dd k0 k1 k2 k3 k5 newId))
    (le : h.get? e = some oe) (ce : oe.cls = .ref C) (z : Q () ⟨h, g, dr, t, os⟩) : wpAny M A (checkBoundCall initId ⟨.ref e :: rest, []⟩) Q E ⟨h, g, dr, t, os⟩ := by
  have st := T.star
  simp only [checkBoundCall, T.kind, T.row]
  repeat (first
    | (with_reducible refine wpAny_loadPart_at le ?_
       rw [ce])
    | with_reducible refine wpAny_loadPart_at lC ?_
    | wp_step)
  refine wpAny_onRaise ?_
  have y : ∀ (a b : String) (n : Nat), Bind.check ⟨.positional, "*", B, .self, [⟨"args", .varPos, false⟩]⟩ a b n (List.map (fun x => x.1) ({ pos := Value.ref e :: rest } : Args).kw) = pure () := fun _ _ _ => check_star_args _ _ _ _ _ _
  rw [y]
  exact wpAny_pure z
end
section
variable {prog : Program} {w : World} {A : Around} {E : Value → Shared → Prop} {R : Result → Shared → Prop} {h : Heap} {g : Array GenState} {dr : Drawn} {t : Nat} {os : OsState}
variable {nm qn : Str} {C N : Addr} {bs bm bmN : List Value} {hd : Bool} {sn : List Str} {sub : List Value} {ab : Bool} {col : Option Bool} {dd : Option Addr} {k0 k1 k2 k3 k5 : Option Value} {nB newId iN : String}
/-- BaseException.__new__ on the class at C -/
theorem new_at (T : ExcBaseFacts nB newId iN bmN) (hb : bm.contains (.type nB) = true) (ha : bm.contains (.type "AttributeError") = false) (hn : bm.contains (.type "NameError") = false) {rest : List Value}
    (lC : h.get? C = some (excClassObj nm qn C N bs bm hd sn sub ab col dd k0 k1 k2 k3 k5 newId))
    (z : R (.ok (.ret (.ref (h.objs.size + 1)))) ⟨(h.push (kdv_tup rest)).push (HandSPX.excO C h.objs.size), g, dr, t, os⟩) (hr : rest.length ≤ sizeLine) :
    codeAny (model prog w) A (.builtin newId ⟨.ref C :: rest, []⟩) R ⟨h, g, dr, t, os⟩ := by
  have en := T.ends
  have cB : (Value.ref C :: bm).contains (.type nB) = true := by rw [List.contains_cons, hb, Bool.or_true]
  have cA : (Value.ref C :: bm).contains (.type "AttributeError") = false := by
    rw [List.contains_cons, ha]
    rfl
  have cN : (Value.ref C :: bm).contains (.type "NameError") = false := by
    rw [List.contains_cons, hn]
    rfl
  refine codeAny_builtinAt T.entry ?_
  unfold Builtin.«BaseException.__new__»
  refine wpAt_bind ?_
  show wpAt _ _ _ (stack >>= _) _ _ _
  refine wpAt_bind (wpAt_stack fun _ _ => wpAt_of_wpAny ?_)
  wp_walk
  refine wpAt_of_wpAny ?_
  rw [T.owner]
  repeat (first
    | with_reducible refine wpAny_madeHere_exc T.canon lC ?_
    | with_reducible refine wpAny_loadPart_at lC ?_
    | (with_reducible refine wpAny_isSubtype_exc lC ?_
       first | rw [cB] | rw [cA] | rw [cN])
    | wp_step)
  show R _ _
  rw [Heap.size_push]
  exact z
theorem tcall {fI : Addr} {Q : Fin → Shared → Prop} {rest : List Value} (T : ExcBaseFacts nB newId iN bmN) (hb : bm.contains (.type nB) = true) (ha : bm.contains (.type "AttributeError") = false) (hn : bm.contains (.type "NameError") = false)
    (lC : h.get? C = some (excClassObj nm qn C N bs bm hd sn sub ab col dd k0 k1 k2 k3 k5 newId))
    (li : Looks (model prog w) h (typeLookup (.ref C) "__init__") (some (.ref fI))) (lb : ∀ v, Looks (model prog w) h (bindSpecial (.ref fI) v) (.ref fI, [v])) (hr : rest.length ≤ sizeLine)
    (z : codeAny (model prog w) A (.call (.ref fI) ⟨.ref (h.objs.size + 1) :: rest, []⟩)
      (fun r s' => match r with
        | .ok (.ret v) => v = .none ∧ Q (.done (.ret (.ref (h.objs.size + 1)))) s'
        | .ok _ => False
        | .error e => E e s')
      ⟨(h.push (kdv_tup rest)).push (HandSPX.excO C h.objs.size), g, dr, t, os⟩) :
    wpAny (model prog w) A (Builtin.«type.__call__» ⟨.ref C :: rest, []⟩) Q E ⟨h, g, dr, t, os⟩ := by
  repeat (first
    | with_reducible refine wpAny_loadPart_at lC ?_
    | with_reducible refine wpAny_madeBy_exc lC ?_
    | wp_step)
  refine codeAny_call_builtin_code (Code.quiet_builtin _ T.quiet) (chk_new T hb lC ?_)
  refine new_at T hb ha hn lC ?_ hr
  show wpAny _ _ _ _ _ _
  have kp : ∀ b o, h.get? b = some o → ((h.push (kdv_tup rest)).push (HandSPX.excO C h.objs.size)).get? b = some o := fun _ _ e => Heap.get?_push_of_some _ (Heap.get?_push_of_some _ e)
  have lC1 := kp _ _ lC
  have ge : ((h.push (kdv_tup rest)).push (HandSPX.excO C h.objs.size)).get? (h.objs.size + 1) = some (HandSPX.excO C h.objs.size) := by heap_get
  have cC : (Value.ref C :: bm).contains (.ref C) = true := by simp
  have i1 := li.keeps kp
  have b1 := (lb (.ref (h.objs.size + 1))).keeps kp
  unfold isInstance
  repeat (first
    | with_reducible refine wpAny_loadPart_at ge ?_
    | (with_reducible refine wpAny_isSubtype_exc lC1 ?_
       rw [cC])
    | wp_step)
  show wpAny _ _ (typeLookup (.ref C) _) _ _ _
  refine i1.at ?_
  refine wpAny_holding (wpAny_bind (b1.at ?_))
  refine wpAny_bind (wpAny_call (codeAny_mono z fun r s' y => ?_))
  rcases r with e | (v | _ | _ | _) <;> first | exact y | exact y.elim | skip
  obtain ⟨rfl, y⟩ := y
  first
    | exact wpAny_pure (wpAny_pure y)
    | (wp_walk
       exact y)
theorem call_cls {fI : Addr} {rest : List Value} (T : ExcBaseFacts nB newId iN bmN) (hb : bm.contains (.type nB) = true) (ha : bm.contains (.type "AttributeError") = false) (hn : bm.contains (.type "NameError") = false)
    (lC : h.get? C = some (excClassObj nm qn C N bs bm hd sn sub ab col dd k0 k1 k2 k3 k5 newId))
    (li : Looks (model prog w) h (typeLookup (.ref C) "__init__") (some (.ref fI))) (lb : ∀ v, Looks (model prog w) h (bindSpecial (.ref fI) v) (.ref fI, [v])) (hr : rest.length ≤ sizeLine)
    (z : codeAny (model prog w) (A.under (.builtin "type.__call__" ⟨.ref C :: rest, []⟩)) (.call (.ref fI) ⟨.ref (h.objs.size + 1) :: rest, []⟩) (InitBack (h.objs.size + 1) R)
      ⟨(h.push (kdv_tup rest)).push (HandSPX.excO C h.objs.size), g, dr, t, os⟩) :
    codeAny (model prog w) A (.call (.ref C) ⟨rest, []⟩) R ⟨h, g, dr, t, os⟩ := by
  have f1 := tc_lookup
  have f2 := tc_bind (.ref C)
  have ty : (⟨h, g, dr, t, os⟩ : Shared).TypeIs (.ref C) "type" := ⟨_, lC, rfl⟩
  refine codeAny_of_tree ?_
  show wpAny _ _ (callAny (.ref C) _) _ _ _
  repeat (any_goals (first
    | assumption
    | with_reducible refine wpAny_loadPart_at lC ?_
    | wp_step))
  refine ⟨rfl, ?_⟩
  refine codeAny_call_builtin_at (Code.quiet_builtin _ (by decide +kernel)) entry_typeCall (wpAny_check_type_call_sub lC (tcall T hb ha hn lC li lb hr ?_))
  refine codeAny_mono z fun r s' y => ?_
  rcases r with e | (v | _ | _ | _) <;> exact y
end
/-! ### object.__setattr__ on such an exception -/
section
variable {prog : Program} {w : World} {A : Around} {R : Result → Shared → Prop} {hp : Heap} {g : Array GenState} {dr : Drawn} {t : Nat} {os : OsState}
theorem tail_ne {bmB : List Value} {l : List Value} (h : excTail bmB l = true) (n : bmB.isEmpty = false) : l.isEmpty = false := by
  cases l with
  | nil =>
    have z : [] = bmB := beq_iff_eq.mp h
    rw [← z] at n
    cases n
  | cons _ _ => rfl
theorem exc_put {B newId initId : String} {bmB : List Value} (T : EbF B newId initId bmB) {K : Frag} {name : Str} {tk : Tok} {v : Value} {x C : Addr} {fv : Array Value} {cd : ClassData}
    (X : K.In hp) (lx : hp.get? x = some { cls := .ref C, data := .fields fv }) (lc : clsIn K C = some cd) (hm : excTail bmB cd.mro = true) (hh : cd.hasDict = true) (ha : findIn K (.ref C) name = some none)
    (z : ∀ h' tk' dx, (∀ b o, b ≠ x → hp.get? b = some o → h'.get? b = some o) → hp.objs.size ≤ dx → dx ≠ x → h'.get? x = some { cls := .ref C, dict := some dx, data := .fields fv } →
      h'.Ns1 dx (fun y => if y = name then some v else none) → R (.ok (.ret .none)) ⟨h', g, dr, tk', os⟩) :
    codeAny (model prog w) A (.call (.builtin "object.__setattr__") ⟨[.ref x, .str name tk, v], []⟩) R ⟨hp, g, dr, t, os⟩ := by
  have I : InstAt hp x { cls := .ref C, data := .fields fv } C none := ⟨lx, rfl, rfl, trivial⟩
  have nb : bmB.isEmpty = false := by
    have z := T.hasO
    cases bmB with
    | nil => cases z
    | cons _ _ => rfl
  have ne := tail_ne hm nb
  have ob : cd.mro.contains (.type "object") = true := (excTail_contains "object" _ hm).trans T.hasO
  have xs : x ≠ hp.objs.size := Nat.ne_of_lt (Heap.lt_size lx)
  have su : Looks (model prog w) hp (isInstance (.ref x) (.type "object")) true := by
    refine I.type.andThen (looks_mroIn X ?_)
    unfold mroIn
    rw [lc, Option.bind_some, if_neg (by rw [ne]; decide), ob]
  have SF := F.store_object
  refine codeAny_call_builtin SF.slot.plain SF.entry ?_
  refine @check_slot (model prog w) _ _ ⟨hp, g, dr, t, os⟩ "object.__setattr__" "object" "__setattr__" (.ref x) [.str name tk, v] [] _ SF.kind SF.split su (SF.args (.ref x) (.str name tk) v) ?_
  have mr : Looks (model prog w) hp (mroOf (.ref C)) cd.mro := (looks_clsIn X lc).andThen .now
  have st : Looks (model prog w) hp (Builtin.ObjectAttr.storeTaker? none) none := .now
  have cl : Looks (model prog w) hp (classData C) cd := looks_clsIn X lc
  rw [osa_eq, refuse_eq]
  refine wpAny_bind (wpAny_bind (I.type.at (wpAny_bind (mr.at ?_))))
  rw [excTail_pass _ (T.pass _) _ hm]
  refine wpAny_pure (wpAny_bind (I.type.at (wpAny_bind ((looks_findIn X ha).at (wpAny_bind (st.at ?_))))))
  show wpAny _ _ (Builtin.ObjectAttr.storeInOwnDict (.ref x) (.ref C) (.str name tk) name v false) _ _ _
  obtain ⟨c1, c2, c3, c4, c5, c6, c7, c8, c9, c10, c11⟩ := cd
  dsimp only at hh
  subst hh
  unfold Builtin.ObjectAttr.storeInOwnDict Builtin.ObjectAttr.ownDictForStores
  repeat (first
    | with_reducible refine HandSPX.store_in_new ?_ ?_
    | with_reducible refine wpAny_loadPart_at lx ?_
    | with_reducible refine cl.at ?_
    | wp_step)
  · have lt : (hp.push { cls := .type "dict", data := .dict #[] }).get? hp.objs.size = some { cls := .type "dict", data := .dict #[] } := Heap.get?_push_at rfl rfl
    exact ⟨_, #[], _, (Heap.get?_update_ne _ _ _ _ xs.symm).trans lt, rfl, fun e he => absurd he (by simp), fun _ => rfl⟩
  · intro h' tk' hn hs
    have lx1 : (hp.push { cls := .type "dict", data := .dict #[] }).get? x = some { cls := .ref C, data := .fields fv } := Heap.get?_push_of_some _ lx
    refine z h' tk' hp.objs.size (fun b o hb ho => ?_) (Nat.le_refl _) xs.symm ?_ hn
    · refine (hs.2 b (Nat.ne_of_lt (Heap.lt_size ho))).trans ?_
      exact (Heap.get?_update_ne _ _ _ _ hb).trans (Heap.get?_push_of_some _ ho)
    · refine (hs.2 x xs).trans ?_
      exact Heap.get?_update_self _ lx1 rfl
end
end SupY
end PySem
set_option maxHeartbeats 4000000
namespace PySem
namespace SupY
open PySem.W PySem.Calls PyProof.Rows PySem.HandSPX
open PySem.SupX (iA iB InitEnd Made ldL under_guards)
/-- what the written part says of such a class at C, its __init__ at fI -/
structure SupTxt (prog : Program) (K : Frag) (mg : Str → Option Value) (B newId initId : String) (bmB : List Value) (C fI : Addr) (p f : Str) (msg : Expr) (scope : Scope) : Prop where
  cls : ∃ nm q N bs bm sn sub ab col dd k0 k1 k2 k3 k5, K.lookup C = some (excClassObj nm q C N bs bm true sn sub ab col dd k0 k1 k2 k3 k5 newId) ∧ excTail bmB bm = true
  sa : findIn K (.ref C) "__setattr__" = some (some (.builtin "object.__setattr__"))
  noN : findIn K (.ref C) f = some none
  iC : findIn K (.ref C) "__init__" = some (some (.ref fI))
  tC : typeIn K (.ref fI) = some (.type "function")
  exC : subIn K (.ref C) (.type "BaseException") = some true
  veC : subIn K (.ref C) (.type B) = some true
  selfC : mroIn K C (.ref C) = some true
  opq : nsIn K cStatics "thirdparty.any" = some none
  sup : ks_superIn K C C "__init__" = some (some (.builtin initId))
  fn : ∃ (oc : Value) (od : Option Addr) (qual : Str) (doc pm : Value) (an : Option Addr) (cda cc : Addr) (ct : Value) (osl : Array (Option Value)) (p1 p2 q1 q2 q3 q4 q5 q6 q7 q8 q9 : Pos),
    K.lookup fI = some ⟨oc, od, .func (ksFn "__init__" qual (iA p p1 p2) (iB p f msg q1 q2 q3 q4 q5 q6 q7 q8 q9) scope .none .none doc pm an (.ref cda) ct cc), osl⟩ ∧ codeIn K (.ref cda) qual = true ∧
    (∀ env : Env, ∃ pl : Sem Bool, eval (.Call (.Attribute (.Call (.Name "super" q1) [] [] q2) "__init__" q3) [msg] [] q4) env = (do
      let ov ← attributeBase (.Call (.Name "super" q1) [] [] q2) "__init__" env (eval (.Call (.Name "super" q1) [] [] q2) env)
      standAt q3.atName
      let (g, first) ← holding [ov] (getMethod ov "__init__" pl)
      callWith q4 g first (backTo q4 (starEach [msg] env)) [])) ∧
    (∃ (cl : Value) (cld : Option Addr) (csl : Array (Option Value)), K.lookup cc = some ⟨cl, cld, .cell (some (.ref C)), csl⟩) ∧
    (∃ (ccl : Value) (cdd : Option Addr) (vs : Array Value) (ccs : Array (Option Value)) (file : Str) (tf : Tok), K.lookup cda = some ⟨ccl, cdd, .fields vs, ccs⟩ ∧ vs[2]? = some (.str file tf) ∧ ((prog.main.file : Str) == file) = true)
  bi : ∀ (qual : Str) (p1 p2 q1 q2 q3 q4 q5 q6 q7 q8 q9 : Pos) (doc pm : Value) (an : Option Addr) (cd ct : Value) (cc : Addr) (a v : Value), bindArgs (ksFn "__init__" qual (iA p p1 p2) (iB p f msg q1 q2 q3 q4 q5 q6 q7 q8 q9) scope .none .none doc pm an cd ct cc) ⟨[a, v], []⟩ = pure [(("self" : Str), a), (p, v)]
  hst : ∀ env : Env, starEach [msg] env = (false, eval msg env) :: starEach [] env
  sk : scope.kind = .function
  sco : scope.isCoroutine = false
  sge : scope.isGenerator = false
  sce : ∀ x ∈ scope.names, x.2 ≠ .cell
  ksu : scope.names.lookup ("super" : Str) = some .globalImplicit
  kcl : scope.names.lookup ("__class__" : Str) = some .free
  kse : scope.names.lookup ("self" : Str) = some .local
  kp : scope.names.lookup p = some .local
  nsu : nsIn K mainGlobals "super" = some none
  top : (prog.main.scope.names.lookup ("super" : Str)).isSome = false
  np : (p == ("self" : Str)) = false
  ndb : (p == ("__debug__" : Str)) = false
/-- the message's own step -/
def Msg (prog : Program) (w : World) (p : Str) (msg : Expr) (v : Value) (h0 : Heap) : Prop := ∀ (env : Env) (A : Around) (E : Value → Shared → Prop) (s : Shared) (m : Str → Option Value) (Q : Value → Shared → Prop), s.heap.Ns env.locals m → m p = some v → env.scope.kind = .function → env.kindOf p = some .local →
  A.guards = some [] → A.units + 100 < cLine → (∀ b o, h0.get? b = some o → s.heap.get? b = some o) →
  (∀ (x : Value) (h' : Heap) (tk : Nat), (∀ b o, s.heap.get? b = some o → h'.get? b = some o) → Q x { s with heap := h', toks := tk }) → wpAny (model prog w) A (eval msg env) Q E s
section
variable {prog : Program} {w : World} {A : Around} {E : Value → Shared → Prop} {R : Result → Shared → Prop} {s : Shared} {K : Frag} {mg mb : Str → Option Value} {B newId initId : String} {bmB : List Value} {C fI : Addr} {p f : Str} {msg : Expr} {scope : Scope}
theorem sup_init (T : SupTxt prog K mg B newId initId bmB C fI p f msg scope) (FB : EbF B newId initId bmB) {x t0 : Addr} {v : Value} (X : K.In s.heap) (hns : s.heap.Ns mainGlobals mg) (hb : s.heap.Ns builtinsNs mb) (hbb : ∀ x : Str, x ≠ "__name__" → mb x = bootBuiltins x)
    (hlim : s.heap.NoLimit) (hx : s.heap.get? x = some (excO C t0)) (hnx : K.lookup x = none) (hroom : A.depth < recursionLimit) (hg : A.guards = some []) (hu : A.units + 110 < cLine) (hm : Msg prog w p msg v s.heap)
    (hq : ∀ h' tk dx, InitEnd s.heap h' x C dx f v → R (.ok (.ret .none)) { s with heap := h', toks := tk }) :
    codeAny (model prog w) A (.call (.ref fI) ⟨[.ref x, v], []⟩) R s := by
  obtain ⟨oc, od, qual, doc, pm, an, cda, cc, ct, osl, p1, p2, q1, q2, q3, q4, q5, q6, q7, q8, q9, ho, hcd, hev, ⟨cl, cld, csl, hcell⟩, ccl, cdd, vs, ccs, file, tf, hcode, hvs, hfile⟩ := T.fn
  obtain ⟨nm, q, N, bs, bm, sn, sub, ab, col, dd, k0, k1, k2, k3, k5, hC, hbm⟩ := T.cls
  have hcl : clsIn K C = some { name := nm, bases := bs, mro := .ref C :: bm, ns := N, qualname := q, hasDict := true, slotNames := sn, subclasses := sub, abstract := ab, collection := col, hasDel := false } := by unfold clsIn; rw [hC] <;> rfl
  have hxC : x ≠ C := fun z => by rw [z, hC] at hnx; cases hnx
  refine ks_codeAny_call_defAt (binds := [("self", .ref x), (p, v)]) hroom (X _ _ ho) rfl hlim (codeRec_of X hcd) rfl (BindsTo.of_eq ?_) T.sce (fun y hy => ?_) (fun h₁ hn kk => ?_) T.sco T.sge T.sk
  · exact T.bi _ _ _ _ _ _ _ _ _ _ _ _ _ _ _ _ _ _ _ _
  · rcases List.mem_cons.mp hy with z | z
    · rw [z]; exact T.kse
    · rw [List.mem_singleton.mp z]; exact T.kp
  have hn' : h₁.Ns s.heap.objs.size (fun y => if y = p then some v else if y = "self" then some (.ref x) else none) := by
    have e : (fun y => List.lookup y ([((PySem.Str.ofString "self"), Value.ref x), (p, v)] : List (Str × Value)).reverse) = fun y => if y = p then some v else if y = "self" then some (.ref x) else none := by
      funext y
      simp only [List.reverse_cons, List.reverse_nil, List.nil_append, List.cons_append, List.lookup]
      by_cases h1 : y = p
      · rw [if_pos h1, beq_iff_eq.mpr h1]
      · rw [if_neg h1, beq_eq_false_iff_ne.mpr h1]
        by_cases h2 : y = PySem.Str.ofString "self"
        · rw [if_pos h2, beq_iff_eq.mpr h2]
        · rw [if_neg h2, beq_eq_false_iff_ne.mpr h2]
    rw [← e]
    exact hn
  generalize hmv : (fun y => if y = p then some v else if y = "self" then some (Value.ref x) else none) = mv at hn'
  have mp : mv p = some v := by rw [← hmv]; exact if_pos rfl
  have msf : mv "self" = some (.ref x) := by
    rw [← hmv]
    show (if ("self" : Str) = p then some v else if ("self" : Str) = "self" then some (Value.ref x) else none) = _
    have np : ¬ ("self" : Str) = p := fun z => by
      have := T.np
      rw [← z] at this
      simp at this
    rw [if_neg np, if_pos rfl]
  have xL : s.heap.objs.size ≠ x := Nat.ne_of_gt (Heap.lt_size hx)
  have lt1 : s.heap.objs.size < h₁.objs.size := hn'.lt
  -- super().__init__
  show wpAt _ _ (.func (iB p f msg q1 q2 q3 q4 q5 q6 q7 q8 q9) (ksEnv qual scope s.heap.objs.size fI (.ref cda) cc)) (execs (iB p f msg q1 q2 q3 q4 q5 q6 q7 q8 q9) (ksEnv qual scope s.heap.objs.size fI (.ref cda) cc)) _ _ _
  obtain ⟨pl, he⟩ := hev (ksEnv qual scope s.heap.objs.size fI (.ref cda) cc)
  refine ks_wpAt_execs_cons (ks_wpAt_Expr_any (ks_wpAt_MethodCall ?_ he) (hi := ?hi) (hs := ?hs))
  case hi =>
    unfold interactive
    show (scope.kind == .module && _) = false
    rw [T.sk]
    rfl
  case hs => rfl
  refine ks_wpAt_super_base (env := ksEnv qual scope s.heap.objs.size fI (.ref cda) cc) T.ksu T.kcl (by decide) rfl (kk _ _ (X _ _ ho)) rfl rfl rfl (kk _ _ (X _ _ hcode)) rfl hvs hfile T.top ?_
  refine ks_loadName_global T.sk T.ksu (loadGlobal_builtin (env := ksEnv qual scope s.heap.objs.size fI (.ref cda) cc) (hns.keeps kk) (mg_none_of X hns T.nsu) (hb.keeps kk) ((hbb _ (by decide +kernel)).trans rfl) ⟨rfl, ?_⟩)
  refine wpAny_loadName_free T.sk T.kcl rfl ⟨_, kk _ _ (X _ _ hcell), rfl⟩ ?_
  refine wpAny_loadName_local T.sk T.kse hn' msf ?_
  have hC1 := kk _ _ (X _ _ hC)
  have hx1 := kk _ _ hx
  refine ks_wpAny_isType_cls hC1 rfl ⟨rfl, ?_⟩
  refine ks_wpAny_call_super hC1 rfl hx1 rfl (fun c e => nomatch e) (looks_mroIn (X.keeps kk) T.selfC) (fun h₂ e₂ k₂ => ?_)
  have k2 : ∀ b o, s.heap.get? b = some o → h₂.get? b = some o := fun b o e => k₂ b o (kk b o e)
  have X2 : K.In h₂ := X.keeps k2
  have I2 : InstAt h₂ x (excO C t0) C none := ⟨k2 _ _ hx, rfl, rfl, trivial⟩
  refine kxs_getMethod FB.kx e₂ (looks_opaque X2 T.opq) (l₀ := .ref C :: bm) (fun A Q E s k q => wpAny_bind ((looks_clsIn X2 hcl) A _ E s k (wpAny_pure q))) rfl X2 ?_ (I2.type.andThen (looks_subIn X2 T.veC)) hxC (by decide) ?_
  · have z := T.sup
    unfold ks_superIn at z
    rw [hcl] at z
    exact z
  rw [T.hst]
  have hu2 : (h₂.push (kxs_mw initId x)).get? h₂.objs.size = some (kxs_mw initId x) := Heap.get?_push_at rfl rfl
  have k3 : ∀ b o, h₂.get? b = some o → (h₂.push (kxs_mw initId x)).get? b = some o := fun b o e => Heap.get?_push_of_some _ e
  generalize h₂.push (kxs_mw initId x) = h3 at hu2 k3
  have n3 : h3.Ns s.heap.objs.size mv := (hn'.keeps k₂).keeps k3
  refine kxs_callWith (i := initId) (x := x) rfl (evalArgs_plain (Calls.spliced_cons ?_))
  refine hm (ksEnv qual scope s.heap.objs.size fI (.ref cda) cc) _ _ _ mv _ n3 mp T.sk T.kp hg (by show A.units + 3 + 100 < cLine; omega) (fun b o e => k3 b o (k2 b o e)) fun y h4 tk4 k4 => ?_
  have hu4 := k4 _ _ hu2
  have e4 : ∀ b o, s.heap.get? b = some o → h4.get? b = some o := fun b o e => k4 b o (k3 b o (k2 b o e))
  have n4 : h4.Ns s.heap.objs.size mv := n3.keeps k4
  refine Calls.spliced_nil ⟨hu4, wpAny_call (codeAny_of_tree ?_)⟩
  show wpAny _ _ (callAny (.ref h₂.objs.size) ⟨[y], []⟩) _ _ _
  unfold callAny
  refine wpAny_bind (wpAny_load hu4 ?_)
  dsimp only [kxs_mw]
  refine KFB.if_so (by decide) (wpAny_bind (chk_init FB (e4 _ _ (X _ _ hC)) (e4 _ _ hx) rfl (wpAny_bind (wpAny_pure (wpAny_pure ?_)))))
  refine ⟨plainId_quiet FB.plain _, codeAny_builtin FB.entry ?_⟩
  refine exc_init_tree (cls := .ref C) (t0 := t0) (dv := none) (c2 := .none) (c3 := .none) (b4 := .bool false) (e4 _ _ hx) (by show 1 ≤ sizeLine; rw [sizeLine_eq]; omega) fun h5 k5 hx5 ht5 => ?_
  have n5 : h5.Ns s.heap.objs.size mv := n4.at fun o e => k5 _ _ xL e
  have b5 : ∀ b o, b ≠ x → s.heap.get? b = some o → h5.get? b = some o := fun b o hb e => k5 b o hb (e4 b o e)
  have X5 : K.In h5 := fun a o e => b5 a o (fun z => by rw [z, hnx] at e; cases e) (X a o e)
  refine ks_wpAt_execs_cons (ks_wpAt_Assign_Attr ?_)
  refine wpAt_of_wpAny (ldL (v := v) n5 mp ?_ T.sk T.kp T.ndb)
  refine ldL (v := .ref x) n5 msf ?_ T.sk T.kse (by decide)
  refine set_plain X5 (ox := excO C h4.objs.size) (od := none) ⟨hx5, rfl, rfl, trivial⟩ T.sa ?_
  refine exc_put FB X5 hx5 hcl (show excTail bmB (.ref C :: bm) = true from hbm) rfl T.noN (fun h6 tk6 dx k6 dn dne hx6 hn6 => ?_)
  refine wpAt_of_wpAny (wpAny_execs_nil (hq h6 tk6 dx ⟨fun b o hb e => k6 b o hb (b5 b o hb e), ⟨_, hx6⟩, ?_, dne, hn6⟩))
  exact Nat.le_trans (Nat.le_of_lt n5.lt) dn
end
/-! ### messages -/
theorem msg_of {prog : Program} {w : World} {p : Str} {msg : Expr} {v : Value} {h0 : Heap} (m : PySem.SupX.Msg prog w p msg v h0) : Msg prog w p msg v h0 := fun env A E s m' Q hn hv hk hl hg hu k hq => m env A E s m' Q hn hv hk hl hg hu k fun x t h' tk k' => hq (.str x t) h' tk k'
/-- the message is what was given -/
theorem msg_name {prog : Program} {w : World} {p : Str} {pos : Pos} {v : Value} {h0 : Heap} (hd : (p == ("__debug__" : Str)) = false) : Msg prog w p (.Name p pos) v h0 := fun env A E s m' Q hn hv hk hl hg hu k hq => ldL hn hv (hq v s.heap s.toks fun _ _ e => e) hk hl hd
/-- the message is a text -/
theorem msg_str {prog : Program} {w : World} {p x : Str} {k : Nat} {pos : Pos} {v : Value} {h0 : Heap} : Msg prog w p (.Constant (.str x) k pos) v h0 := fun env A E s m' Q hn hv hk hl hg hu k hq => Calls.Constant_str (hq _ _ _ fun _ _ e => e)
end SupY
end PySem
set_option maxHeartbeats 4000000
namespace L2
open PySem PySem.Spec PyProof.Rows
section
variable {X : Cx} {B newId initId : String} {bmB : List Value} {C fI : Addr} {p f : Str} {msg : Expr} {scope : Scope}
end
section
variable {X : Cx} {B newId initId : String} {bmB : List Value} {C fI : Addr} {p f : Str} {msg : Expr} {scope : Scope}
end
end L2
namespace Dv
open PySem PySem.Spec PyProof.Rows L2
section
variable {X : Cx} {da : Da} {cm : Nat → Addr} {E : XK} {pos pos2 p0 : Pos} {e : Expr} {f : Env → M D} {C : Addr} {x : Str} {c : Nat}
end
end Dv
set_option maxHeartbeats 2000000
namespace Dv
open PySem PySem.Spec PyProof.Rows L2
/-- the class's object -/
def supClsY (newId : String) (bmB : List Value) (K : PySem.W.Frag) (C : Addr) : Bool := match K.lookup C with
  | some ⟨.type t, _, .cls cd, sl⟩ => t == "type" && (match cd.mro, sl.toList with
    | .ref C' :: bm, [_, _, _, _, some (.builtin n), _] => C' == C && (n == newId && (!cd.hasDel && (cd.hasDict && PySem.W.excTail bmB bm)))
    | _, _ => false)
  | _ => false
theorem supClsY_ok {newId : String} {bmB : List Value} {K : PySem.W.Frag} {C : Addr} (h : supClsY newId bmB K C = true) : ∃ nm q N bs bm sn sub ab col dd k0 k1 k2 k3 k5, K.lookup C = some (excClassObj nm q C N bs bm true sn sub ab col dd k0 k1 k2 k3 k5 newId) ∧ PySem.W.excTail bmB bm = true := by
  unfold supClsY at h
  split at h
  · rename_i t dd cd sl e
    rw [Bool.and_eq_true] at h
    obtain ⟨h0, h⟩ := h
    split at h
    · rename_i C' bm k0 k1 k2 k3 n k5 hm hs
      simp only [Bool.and_eq_true, beq_iff_eq, Bool.not_eq_true'] at h h0
      obtain ⟨rfl, rfl, hd, hdict, hr⟩ := h
      subst h0
      obtain ⟨nm, bs, mro, ns, qn, hdc, sn, sub, ab, col, del⟩ := cd
      dsimp only at hm hd hdict
      subst hm hd hdict
      have hsl : sl = #[k0, k1, k2, k3, some (.builtin n), k5] := by
        obtain ⟨l⟩ := sl
        dsimp only at hs
        rw [hs]
      subst hsl
      exact ⟨nm, qn, ns, bs, bm, sn, sub, ab, col, dd, k0, k1, k2, k3, k5, e, hr⟩
    · cases h
  · cases h
def supBY (B newId initId : String) (bmB : List Value) (file : Str) (K : PySem.W.Frag) (d : InitD) : Bool :=
  supClsY newId bmB K (He.ga K d.x) && (supFn file K d.x && (He.eqO (PySem.W.findIn K (.ref (He.ga K d.x)) "__setattr__") (some (some (.builtin "object.__setattr__"))) && (He.eqO (PySem.W.findIn K (.ref (He.ga K d.x)) d.f) (some none) &&
  (He.eqO (PySem.W.findIn K (.ref (He.ga K d.x)) "__init__") (some (some (.ref (initAt K d.x)))) && (decide (PySem.W.typeIn K (.ref (initAt K d.x)) = some (.type "function")) && (decide (PySem.W.subIn K (.ref (He.ga K d.x)) (.type "BaseException") = some true) &&
  (decide (PySem.W.subIn K (.ref (He.ga K d.x)) (.type B) = some true) && (decide (PySem.W.mroIn K (He.ga K d.x) (.ref (He.ga K d.x)) = some true) && (He.eqO (PySem.W.nsIn K cStatics "thirdparty.any") (some none) &&
  (He.eqO (PySem.W.ks_superIn K (He.ga K d.x) (He.ga K d.x) "__init__") (some (some (.builtin initId))) && He.eqO (PySem.W.nsIn K mainGlobals "super") (some none)))))))))))
theorem sup_okY {B newId initId : String} {bmB : List Value} {prog : Program} {K : PySem.W.Frag} {mg : Str → Option Value} {d : InitD} {msg : Expr} (S : SupSt prog d msg) (h1 : initObs K d.x = d.val) (h2 : supBY B newId initId bmB prog.main.file K d = true) :
    PySem.SupY.SupTxt prog K mg B newId initId bmB (He.ga K d.x) (initAt K d.x) d.p d.f msg (defScope d.st) := by
  unfold supBY at h2
  simp only [Bool.and_eq_true, decide_eq_true_eq] at h2
  obtain ⟨c1, c2, c3, c4, c5, c6, c7, c8, c9, c10, c11, c12⟩ := h2
  refine { cls := supClsY_ok c1, sa := He.eqO_ok c3, noN := He.eqO_ok c4, iC := He.eqO_ok c5, tC := c6, exC := c7, veC := c8, selfC := c9, opq := He.eqO_ok c10, sup := He.eqO_ok c11, fn := ?_, bi := S.bi, hst := S.hst, sk := S.sk, sco := S.sco, sge := S.sge, sce := S.sce, ksu := S.ksu, kcl := S.kcl, kse := S.kse, kp := S.kp, nsu := He.eqO_ok c12, top := S.top, np := S.np, ndb := S.ndb }
  obtain ⟨p1, p2, q1, q2, q3, q4, q5, q6, q7, q8, q9, e1, e2, hev⟩ := S.ab
  unfold initObs at h1
  unfold supFn at c2
  cases q : K.lookup (initAt K d.x) with
  | none => rw [q] at c2; cases c2
  | some o =>
    obtain ⟨oc, od, dt, osl⟩ := o
    rw [q] at c2 h1
    cases dt with
    | func fd =>
      obtain ⟨n1, n2, n3, n4, n5, n6, n7, n8, n9, n10, n11, n12, n13, n14, n15⟩ := fd
      have h1 : (some (n1, n2, n3, n4, n5, n6, n7.map (·.1), n15) : InV) = d.val := h1
      unfold InitD.val at h1
      simp only [Option.some.injEq, Prod.mk.injEq] at h1
      obtain ⟨rfl, rfl, rfl, rfl, rfl, rfl, h7, rfl⟩ := h1
      obtain ⟨nm, cc, cda, rfl, rfl, rfl, rfl, c21, ⟨cl, cld, csl, e5⟩, ⟨ccl, cdd, vs, ccs, f, tf, e6, e7, e8⟩⟩ := supFn4_ok c2
      have e9 : nm = "__class__" := by simpa using h7
      subst e9
      refine ⟨oc, od, d.x ++ ".__init__", n10, n11, n12, cda, cc, n14, osl, p1, p2, q1, q2, q3, q4, q5, q6, q7, q8, q9, ?_, c21, hev, ⟨cl, cld, csl, e5⟩, ccl, cdd, vs, ccs, f, tf, e6, e7, by rw [e8]; simp⟩
      rw [e1, e2]
    | _ => cases c2
end Dv
set_option maxHeartbeats 4000000
/-! s.endswith(t), xs.index(e), xs[:0:-1] of lists. -/
namespace Dv.Rev0
open PySem PySem.Spec PyProof PyProof.Rows
end Dv.Rev0
namespace Dv
open PySem PySem.Spec PyProof PyProof.Rows L2
section
variable {X : Cx}
end
section
variable {X : Cx} {da : Da} {cm : Nat → Addr} {W : WX} {pos : Pos} {e o : Expr} {fe fo : Env → M D}
end
end Dv
set_option maxHeartbeats 4000000
/-! C(e), an error as a value: C without an own __init__. -/
namespace L2
open PySem PySem.Spec PyProof.Rows
/-- what K says of an error's class without own __init__ -/
structure Ex0 (K : PySem.W.Frag) (C : Addr) (newId initId : String) (bmB : List Value) : Prop where
  i : PySem.W.findIn K (.ref C) "__init__" = some (some (.builtin initId))
  q : PySem.W.excInitIn K C bmB newId = true
  k : PySem.W.keepIn K (.ref C) = true
def tExo0 (C : Addr) (ta : TE) : TE := fun σ H Q => ta σ H fun v H1 => ∀ a t, H1 a = none → H1 t = none → a ≠ t → Q (.ref a) (upd (upd H1 t (.tup [v])) a (Dv.exo0 a C t))
section
variable {X : Cx} {B newId initId : String} {bmB : List Value} {C : Addr}
theorem pe_exo0 {e : Expr} {ta : TE} {x : Str} {p pos : Pos} (F : ExcBaseFacts B newId initId bmB) (T : Ex0 X.K C newId initId bmB) (gC : X.mg x = some (.ref C)) (hg : Gl X x)
    (he : PE X e ta) (hs : starEach [e] X.env = (false, eval e X.env) :: starEach [] X.env := by rfl) (hdb : (x == ("__debug__" : Str)) = false := by decide) :
    PE X (.Call (.Name x p) [e] [] pos) (tExo0 C ta) := by
  refine ⟨fun pins s σ H Q I h => ?_⟩
  refine wpAny_Call_Name_kw (ld_glob I hg gC ?_ hdb)
  refine PySem.W.callWith_K (h₀ := X.base) I.ok.mod.kin T.k ?_ hs (by rfl)
  rw [hs]
  show wpAny _ _ (spliced ((false, eval e X.env) :: backTo pos (starEach [] X.env))) _ _ s
  refine Calls.spliced_cons (thn (he.run pins s σ H _ I h) fun u s1 ⟨v, H1, I1, r1, q1⟩ => ?_)
  refine Calls.spliced_nil ⟨I1.kIn, ?_⟩
  show wpAny _ _ (call (.ref C) [u]) _ _ _
  obtain ⟨nm, N', qn, bs, bm, hdct, sn, sub, ab, col, dd, k0, k1, k2, k3, k5, hC, hT⟩ := PySem.W.excInit_of I1.kIn T.q
  have hi := PySem.W.looks_findIn (M := model X.prog X.w) I1.kIn T.i
  obtain ⟨hp, g, dr, tk, os⟩ := s1
  refine PySem.W.call_B F hT hC hi (by show 1 ≤ sizeLine; rw [sizeLine_eq]; omega) fun h' k' hoe hot => ?_
  obtain ⟨G, g1, g2⟩ := restrict h' fun b => decide (b ≠ hp.objs.size + 1)
  have gk : ∀ b, b ≠ hp.objs.size + 1 → G.get? b = h'.get? b := fun b hb => g1 b (decide_eq_true hb)
  have ge : G.get? (hp.objs.size + 1) = none := g2 _ (by simp)
  have ne : hp.objs.size + 2 ≠ hp.objs.size + 1 := by omega
  have old : ∀ b o, hp.get? b = some o → G.get? b = some o := fun b o q => (gk b (Nat.ne_of_lt (Nat.lt_succ_of_lt (Heap.lt_size q)))).trans (k' b o q)
  have back : ∀ b o, G.get? b = some o → h'.get? b = some o := fun b o q => by
    by_cases hb : b = hp.objs.size + 1
    · rw [hb, ge] at q; cases q
    · exact (gk b hb).symm.trans q
  have f1 : H1 (hp.objs.size + 1) = none := I1.hok.fresh (Nat.le_succ _)
  have f2 : H1 (hp.objs.size + 2) = none := I1.hok.fresh (Nat.le_add_right _ 2)
  have ob : ObjOk X.prog X.w (upd H1 (hp.objs.size + 2) (.tup [v])) G (hp.objs.size + 2) (.tup [v]) :=
    ⟨by show 1 ≤ sizeLine; rw [sizeLine_eq]; omega, [u], .cons r1 .nil, _, (gk _ ne).trans hot, rfl, _, rfl⟩
  have J1 : Inv X pins σ (upd H1 (hp.objs.size + 2) (.tup [v])) ⟨G, g, dr, tk, os⟩ := I1.laid (t' := tk) old (Nat.le_add_right _ 2) ob
  have n1 : upd H1 (hp.objs.size + 2) (.tup [v]) (hp.objs.size + 1) = none := by rw [upd_ne (Ne.symm ne)]; exact f1
  have ob2 : ObjOk X.prog X.w (upd (upd H1 (hp.objs.size + 2) (.tup [v])) (hp.objs.size + 1) (Dv.exo0 (hp.objs.size + 1) C (hp.objs.size + 2))) h' (hp.objs.size + 1) (Dv.exo0 (hp.objs.size + 1) C (hp.objs.size + 2)) :=
    ⟨hoe, ⟨_, hoe⟩, fun _ _ q k => k _ q⟩
  have J2 := J1.laidN (t' := tk) back ge n1 ob2
  exact ⟨.ref (hp.objs.size + 1), _, J2, rfl, q1 _ _ f1 f2 (Ne.symm ne)⟩
end
end L2
namespace Dv
open PySem PySem.Spec PyProof.Rows L2
def exn0M (c : Nat) (f : Env → M D) : Env → M D := fun env => bind (f env) fun d => ret (.exn c [] [d])
section
variable {X : Cx} {da : Da} {cm : Nat → Addr} {W : WX} {pos p0 : Pos} {e : Expr} {f : Env → M D} {x : Str} {c : Nat}
theorem exo0_nt {a C t : Addr} : ∀ ps, exo0 a C t ≠ .tbl ps := fun ps z => by unfold exo0 at z; cases z
theorem exo1_nt {a C t : Addr} : ∀ ps, exo1 a C t ≠ .tbl ps := fun ps z => by unfold exo1 at z; cases z
theorem ev_exn0 {B newId initId : String} {bmB : List Value} (F : ExcBaseFacts B newId initId bmB) (T : Ex0 X.K (da.ra.cl c) newId initId bmB) (gC : X.mg x = some (.ref (da.ra.cl c))) (hg : Gl X x)
    (he : PEv X da cm W e f) (hs : starEach [e] X.env = (false, eval e X.env) :: starEach [] X.env := by rfl) (hdb : (x == ("__debug__" : Str)) = false := by decide) :
    PEv X da cm W (.Call (.Name x p0) [e] [] pos) (exn0M c f) := PE.imp (L2.pe_exo0 F T gC hg he hs hdb) fun σ H Q ⟨Hk, env, δ, hA, hE, q⟩ => by
  refine tEv.seq hA hE q fun v d δ1 Hk1 H1 s1 a1 e1 r1 q1 => ?_
  intro a t ha ht ne
  have st1 := Stq.new (o := .tup [v]) a1.ex ht
  have st2 := Stq.new (o := exo0 a (da.ra.cl c) t) (p := a) st1.kk (by rw [upd_ne ne]; exact ha) exo0_nt
  have st := st1.trans st2
  refine q1 _ _ _ (s1.trans st.stp) (st.at_ a1) (.exn0 upd_same (.inl (.inl ?_)) (.cons (r1.mono st.kn) .nil))
  rw [upd_ne (Ne.symm ne)]
  exact upd_same
end
end Dv
set_option maxHeartbeats 4000000
/-! Data with dicts within, shown. -/
namespace Dv
open PySem PySem.Spec PyProof.Rows L2
mutual
def D.pyd : D → Option PyData
  | .non => some .none
  | .bl b => some (.bool b)
  | .int i => some (.int i)
  | .str x => some (.str x)
  | .tup xs => match D.pydL xs with
    | some ps => some (.tuple ps)
    | none => none
  | .lst xs => match D.pydL xs with
    | some ps => some (.list ps)
    | none => none
  | .dic kvs => match D.pydK kvs with
    | some l => some (.dict l)
    | none => none
  | _ => none
def D.pydL : List D → Option (List PyData)
  | [] => some []
  | d :: r => match D.pyd d with
    | some p => match D.pydL r with
      | some ps => some (p :: ps)
      | none => none
    | none => none
def D.pydK : List (D × D) → Option (List (PyData × PyData))
  | [] => some []
  | (k, d) :: r => match k with
    | .int i => match D.pyd d with
      | some p => match D.pydK r with
        | some l => some ((.int i, p) :: l)
        | none => none
      | none => none
    | .str x => match D.pyd d with
      | some p => match D.pydK r with
        | some l => some ((.str x, p) :: l)
        | none => none
      | none => none
    | _ => none
end
/-- sys.modules stands in the written part -/
def SysD (K : PySem.W.Frag) : Prop := ∃ o, K.lookup sysModules = some o ∧ o.cls = .type "dict"
section
variable {X : Cx} {pins : List (Addr × Obj)} {σ : L2.St} {H : Hp} {s : Shared} {ad : Ra}
theorem no_nil : sysModules ∉ ([] : List Addr) := List.not_mem_nil
theorem no_app {as bs : List Addr} (h1 : sysModules ∉ as) (h2 : sysModules ∉ bs) : sysModules ∉ as ++ bs := fun z => (List.mem_append.mp z).elim h1 h2
theorem no_cons {a : Addr} {as : List Addr} (h1 : a ≠ sysModules) (h2 : sysModules ∉ as) : sysModules ∉ a :: as := fun z => (List.mem_cons.mp z).elim (fun e => h1 e.symm) h2
mutual
theorem Rp.rdD (I : Inv X pins σ H s) (S : SysD X.K) : ∀ {v : V} {d : D} {p : PyData} {u : Value}, Rp X.K ad H v d → d.pyd = some p → RelV v u → ∃ as, Reads s.heap u p as ∧ sysModules ∉ as
  | _, _, _, _, .non, e, r => by
    simp only [D.pyd, Option.some.injEq] at e; subst e
    cases r; exact ⟨_, .none, no_nil⟩
  | _, _, _, _, .bl b, e, r => by
    simp only [D.pyd, Option.some.injEq] at e; subst e
    cases r; exact ⟨_, .bool b, no_nil⟩
  | _, _, _, _, .int i, e, r => by
    simp only [D.pyd, Option.some.injEq] at e; subst e
    obtain ⟨t, rfl⟩ := r; exact ⟨_, .int i t, no_nil⟩
  | _, _, _, _, .str x, e, r => by
    simp only [D.pyd, Option.some.injEq] at e; subst e
    obtain ⟨t, rfl⟩ := r; exact ⟨_, .str x t, no_nil⟩
  | _, _, _, _, .lst (a := a) h rl, e, r => by
    simp only [D.pyd] at e
    split at e
    · rename_i ps q
      cases e
      cases r
      obtain ⟨its, rv, ⟨o, n, ho, hc, _, hd⟩, _⟩ := I.list (SqL.of h)
      obtain ⟨as, hr, na⟩ := RpL.rdD I S rl q rv
      refine ⟨_, .list ho hc hd hr, no_cons (fun z => ?_) na⟩
      obtain ⟨o', e1, e2⟩ := S
      have e3 := I.kIn _ _ e1
      rw [← z, ho] at e3
      cases e3
      rw [hc] at e2
      exact absurd e2 (by decide)
    · cases e
  | _, _, _, _, .tup h rl, e, r => by
    simp only [D.pyd] at e
    split at e
    · rename_i ps q
      cases e
      cases r
      obtain ⟨its, rv, ⟨o, ho, hc, n, hd⟩, _⟩ := I.tuple h
      obtain ⟨as, hr, na⟩ := RpL.rdD I S rl q rv
      exact ⟨_, .tuple ho hc hd hr, na⟩
    · cases e
  | _, _, _, _, .dic (a := a) (o := ob) h rk, e, r => by
    simp only [D.pyd] at e
    split at e
    · rename_i l q
      cases e
      cases r
      obtain ⟨_, _, hne, vs, hkv, o, es, ep, ho, hx, hd, _, hp, _⟩ := (show ObjOk X.prog X.w H s.heap a (.frz ob (.dK _)) from I.hok a _ h)
      obtain ⟨as, bs, h1, h2, n1, n2⟩ := RpK.rdD I S rk q hkv hp
      exact ⟨_, .dict ho hx.1 hd h1 h2, no_app (no_cons (fun z => by rw [z] at hne; exact absurd hne (by decide)) n1) n2⟩
    · cases e
  | _, _, _, _, .ref _, e, r => by simp only [D.pyd] at e; cases e
  | _, _, _, _, .ty _, e, r => by simp only [D.pyd] at e; cases e
  | _, _, _, _, .dice _, e, r => by simp only [D.pyd] at e; cases e
  | _, _, _, _, .scr _, e, r => by simp only [D.pyd] at e; cases e
  | _, _, _, _, .obj _ _, e, r => by simp only [D.pyd] at e; cases e
  | _, _, _, _, .cls _, e, r => by simp only [D.pyd] at e; cases e
  | _, _, _, _, .exn0 _ _ _, e, r => by simp only [D.pyd] at e; cases e
  | _, _, _, _, .exn1 _ _ _, e, r => by simp only [D.pyd] at e; cases e
theorem RpL.rdD (I : Inv X pins σ H s) (S : SysD X.K) : ∀ {v : List V} {d : List D} {p : List PyData} {us : List Value}, RpL X.K ad H v d → D.pydL d = some p → Vals v us → ∃ as, ReadsAll s.heap us p as ∧ sysModules ∉ as
  | _, _, _, _, .nil, e, r => by
    simp only [D.pydL, Option.some.injEq] at e; subst e
    cases r; exact ⟨_, .nil, no_nil⟩
  | _, _, _, _, .cons h rl, e, r => by
    simp only [D.pydL] at e
    split at e
    · rename_i p q
      split at e
      · rename_i ps q2
        cases e
        cases r with
        | cons r1 r2 =>
          obtain ⟨as, x1, n1⟩ := Rp.rdD I S h q r1
          obtain ⟨bs, x2, n2⟩ := RpL.rdD I S rl q2 r2
          exact ⟨_, .cons x1 x2, no_app n1 n2⟩
      · cases e
    · cases e
theorem RpK.rdD (I : Inv X pins σ H s) (S : SysD X.K) : ∀ {kvs : List (Key × V)} {d : List (D × D)} {p : List (PyData × PyData)} {vs : List (Key × Value)} {es : List DictEntry}, RpK X.K ad H kvs d → D.pydK d = some p → KV kvs vs → Pairs (mixKind X.prog X.w) es vs →
    ∃ as bs, ReadsAll s.heap (es.map (·.key)) (p.map (·.1)) as ∧ ReadsAll s.heap (es.map (·.val)) (p.map (·.2)) bs ∧ sysModules ∉ as ∧ sysModules ∉ bs
  | _, _, _, _, _, .nil, e, r, pr => by
    simp only [D.pydK, Option.some.injEq] at e; subst e
    cases r; cases pr; exact ⟨_, _, .nil, .nil, no_nil, no_nil⟩
  | _, _, _, _, _, .cons (k := k) h rl, e, r, pr => by
    cases r with
    | cons r1 r2 =>
      obtain ⟨ek, rv⟩ := r1
      cases pr with
      | cons p1 p2 p3 =>
        rcases keyIs_shape p1 with ⟨i, t, e1, e2⟩ | ⟨x, t, e1, e2⟩
        · obtain rfl : k = .inl i := ek.trans e1
          have e : (match D.pyd _ with
            | some p => match D.pydK _ with
              | some l => some ((.int i, p) :: l)
              | none => none
            | none => none) = some _ := e
          split at e
          · rename_i p q
            split at e
            · rename_i l q2
              cases e
              rw [← p2] at rv
              obtain ⟨as, x1, n1⟩ := Rp.rdD I S h q rv
              obtain ⟨bs, cs, y1, y2, m1, m2⟩ := RpK.rdD I S rl q2 r2 p3
              refine ⟨_, _, ?_, .cons x1 y2, no_app no_nil m1, no_app n1 m2⟩
              rw [List.map_cons, e2]
              exact .cons (.int i t) y1
            · cases e
          · cases e
        · obtain rfl : k = .inr x := ek.trans e1
          have e : (match D.pyd _ with
            | some p => match D.pydK _ with
              | some l => some ((.str x, p) :: l)
              | none => none
            | none => none) = some _ := e
          split at e
          · rename_i p q
            split at e
            · rename_i l q2
              cases e
              rw [← p2] at rv
              obtain ⟨as, x1, n1⟩ := Rp.rdD I S h q rv
              obtain ⟨bs, cs, y1, y2, m1, m2⟩ := RpK.rdD I S rl q2 r2 p3
              refine ⟨_, _, ?_, .cons x1 y2, no_app no_nil m1, no_app n1 m2⟩
              rw [List.map_cons, e2]
              exact .cons (.str x t) y1
            · cases e
          · cases e
end
end
def strShort : PyData → Bool
  | .str x => decide (x.length ≤ 1000000)
  | _ => true
def okShow (p : PyData) : Bool := p.showable && decide (p.shown.length ≤ 1000000) && decide (p.depth ≤ 60) && strShort p
def D.reprD : List D → Option D
  | [d] => match d.pyd with
    | some p => if okShow p then some (.str p.shown) else none
    | none => none
  | _ => none
section
variable {X : Cx} {da : Da}
theorem cr_reprD (S : SysD X.K) (hg : X.A.guards = some []) (hu : X.A.units + 200 < cLine) : CallR X (.builtin "repr") (fun xs H Q => ∃ v d ad p, xs = [v] ∧ Rp X.K ad H v d ∧ d.pyd = some p ∧ okShow p = true ∧ Q (.str p.shown) H) := by
  intro pins s σ H xs us Q I r h
  obtain ⟨v, d, ad, p, rfl, hd, hp, ok, q⟩ := h
  obtain ⟨u, rfl, ru⟩ := r.one
  unfold okShow at ok
  simp only [Bool.and_eq_true, decide_eq_true_eq] at ok
  obtain ⟨⟨⟨hs, h2⟩, h3⟩, h4⟩ := ok
  have hz : p.shown.length ≤ sizeLine := by rw [sizeLine_eq]; omega
  obtain ⟨as, rd, hn⟩ := hd.rdD I S hp ru
  have fin : ∀ h' (u : Tok) tk, (∀ b o, s.heap.get? b = some o → h'.get? b = some o) → EP X pins σ Q (.str p.shown u) { s with heap := h', toks := tk } := fun h' u tk k => ⟨.str _, H, I.kept k, ⟨u, rfl⟩, q⟩
  cases rd with
  | none => exact PySem.P.repr_of_none (by rw [PyData.shown_none] at fin; exact fin s.heap s.toks (s.toks + 1) fun _ _ z => z)
  | bool b =>
    refine PySem.P.repr_of_bool ?_
    rw [PyData.shown_bool] at fin
    cases b <;> exact fin s.heap s.toks (s.toks + 1) fun _ _ z => z
  | int i t =>
    refine PySem.P.repr_of_int (by simp only [PyData.showable] at hs; exact of_decide_eq_true hs) ?_
    rw [PyData.shown_int] at fin
    exact fin s.heap s.toks (s.toks + 1) fun _ _ z => z
  | str x t =>
    rw [PyData.shown_str] at fin hz
    exact PySem.P.repr_of_str (fin s.heap s.toks (s.toks + 1) fun _ _ z => z) hz
  | list a b c d => exact repr_of_reads' (.list a b c d) hs (fun _ => hn) hg (by omega) (fun _ _ z => z) fin hz
  | tuple a b c d => exact repr_of_reads' (.tuple a b c d) hs (fun _ => hn) hg (by omega) (fun _ _ z => z) fin hz
  | dict a b c d e => exact repr_of_reads' (.dict a b c d e) hs (fun _ => hn) hg (by omega) (fun _ _ z => z) fin hz
theorem cd_reprD (S : SysD X.K) (hg : X.A.guards = some []) (hu : X.A.units + 200 < cLine) : CalD X da (.builtin "repr") D.reprD := ⟨_, cr_reprD S hg hu, by
  intro Hk H xs ds z Q ex r hz g
  unfold D.reprD at hz
  split at hz
  · obtain ⟨v, rfl, rv⟩ := r.one
    split at hz
    · rename_i d p hp
      obtain ⟨h1, rfl⟩ := ite_some hz
      exact ⟨v, _, da.ra, p, rfl, rv.mono ex, hp, h1, g.same ex (.str _)⟩
    · cases hz
  · cases hz⟩
end
/-- .. in an f-string -/
theorem fmts_ofD {prog : Program} {w : World} {v : Value} {h0 : Heap} {p : PyData} {as : List Addr} (rd : Reads h0 v p as) (hn : sysModules ∉ as) (ok : okShow p = true) : Fmts prog w v h0 := by
  intro A E s Q hg hu k hq
  unfold okShow at ok
  simp only [Bool.and_eq_true, decide_eq_true_eq] at ok
  obtain ⟨⟨⟨hs, h2⟩, h3⟩, h4⟩ := ok
  have hz : p.shown.length ≤ sizeLine := by rw [sizeLine_eq]; omega
  cases rd with
  | str x t =>
    have hz : x.length ≤ 1000000 := by
      unfold strShort at h4
      exact of_decide_eq_true h4
    exact wpAny_formatField_str (hq x t s.heap s.toks (by omega) fun _ _ z => z) (hq x s.toks s.heap (s.toks + 1) (by omega) fun _ _ z => z) (by rw [sizeLine_eq]; omega)
  | none => exact wpAny_formatField_none (hq _ _ s.heap _ (by decide) fun _ _ z => z)
  | bool b => exact wpAny_formatField_bool (hq _ _ s.heap _ (by cases b <;> decide) fun _ _ z => z)
  | int i t =>
    rw [PyData.shown_int] at h2
    simp only [PyData.showable] at hs
    exact wpAny_formatField_int (of_decide_eq_true hs) (hq _ _ s.heap _ (by omega) fun _ _ z => z)
  | list a b c d => exact formatField_of_reads (.list a b c d) hs (fun _ => hn) hg (by omega) k (fun h' u tk k' => hq _ u h' tk (by omega) k') hz
  | tuple a b c d => exact formatField_of_reads (.tuple a b c d) hs (fun _ => hn) hg (by omega) k (fun h' u tk k' => hq _ u h' tk (by omega) k') hz
  | dict a b c d e => exact formatField_of_reads (.dict a b c d e) hs (fun _ => hn) hg (by omega) k (fun h' u tk k' => hq _ u h' tk (by omega) k') hz
end Dv
set_option maxHeartbeats 4000000
/-! C(e), an error as a value: C's __init__ says super().__init__(msg); self.f = p. -/
namespace PySem
namespace SupY
open PySem.W PySem.Calls PyProof.Rows PySem.HandSPX
open PySem.SupX (iA iB InitEnd ldL under_guards)
structure MadeX (h h' : Heap) (e C d : Addr) (f : Str) (v : Value) : Prop where
  keep : ∀ b o, h.get? b = some o → h'.get? b = some o
  new : h.objs.size ≤ e
  obj : ∃ t1 : Addr, h'.get? e = some ({ cls := .ref C, dict := some d, data := .fields #[.ref t1, .none, .none, .none, .bool false, .none] } : Obj)
  dbig : h.objs.size ≤ d
  dne : d ≠ e
  ns : h'.Ns1 d (fun y => if y = f then some v else none)
section
variable {prog : Program} {w : World} {A : Around} {E : Value → Shared → Prop} {R : Result → Shared → Prop} {s : Shared} {K : Frag} {mg mb : Str → Option Value} {B newId initId : String} {bmB : List Value} {C fI : Addr} {p f : Str} {msg : Expr} {scope : Scope}
theorem sup_madeX (T : SupTxt prog K mg B newId initId bmB C fI p f msg scope) (FB : EbF B newId initId bmB) {v : Value} (X : K.In s.heap) (hns : s.heap.Ns mainGlobals mg) (hb0 : s.heap.Ns builtinsNs mb) (hbb : ∀ x : Str, x ≠ "__name__" → mb x = bootBuiltins x)
    (hlim : s.heap.NoLimit) (hroom : A.depth + 1 < recursionLimit) (hg : A.guards = some []) (hu : A.units + 120 < cLine) (hm : ∀ h : Heap, (∀ b o, s.heap.get? b = some o → h.get? b = some o) → Msg prog w p msg v h)
    (hq : ∀ h' tk e d, MadeX s.heap h' e C d f v → R (.ok (.ret (.ref e))) { s with heap := h', toks := tk }) :
    codeAny (model prog w) A (.call (.ref C) ⟨[v], []⟩) R s := by
  obtain ⟨nm, q, N, bs, bm, sn, sub, ab, col, dd, k0, k1, k2, k3, k5, hC, hbm⟩ := T.cls
  obtain ⟨hp, g, dr, tk, os⟩ := s
  have k : ∀ b o, hp.get? b = some o → ((hp.push (kdv_tup [v])).push (excO C hp.objs.size)).get? b = some o := fun b o e => Heap.get?_push_of_some _ (Heap.get?_push_of_some _ e)
  have hget : ((hp.push (kdv_tup [v])).push (excO C hp.objs.size)).get? (hp.objs.size + 1) = some (excO C hp.objs.size) := by heap_get
  have hnx : K.lookup (hp.objs.size + 1) = none := by
    cases e : K.lookup (hp.objs.size + 1) with
    | none => rfl
    | some o => exact absurd (Nat.lt_of_succ_lt (Heap.lt_size (X _ _ e : hp.get? (hp.objs.size + 1) = some o))) (Nat.lt_irrefl _)
  obtain ⟨nB, iN, bmN, FN, hb⟩ := FB.nw
  refine call_cls FN ((excTail_contains nB bm hbm).trans hb) ((excTail_contains "AttributeError" bm hbm).trans FB.noA) ((excTail_contains "NameError" bm hbm).trans FB.noN) (X _ _ hC) (looks_findIn X T.iC) (fun self => bind_fn X self T.tC) (by show 1 ≤ sizeLine; rw [sizeLine_eq]; omega) ?_
  refine sup_init (s := ⟨(hp.push (kdv_tup [v])).push (excO C hp.objs.size), g, dr, tk, os⟩) T FB (X.keeps k) (hns.keeps k) (hb0.keeps k) hbb (hlim.keeps k) hget hnx ?_ ?_ ?_ (hm _ k) fun h' tk' dx ⟨k', ⟨t1, hx⟩, dn, dne, hns⟩ => ?_
  · show A.depth + 1 < recursionLimit
    exact hroom
  · rw [under_guards]; exact hg
  · rw [L2.make_units]; omega
  · have z : hp.objs.size + 1 + 1 ≤ dx := by
      first
        | (simpa only [Heap.size_push] using dn)
        | exact dn
    exact ⟨rfl, hq h' tk' (hp.objs.size + 1) dx ⟨fun b o e => k' b o (Nat.ne_of_lt (Nat.lt_succ_of_lt (Heap.lt_size e))) (k b o e), Nat.le_succ _, ⟨t1, hx⟩, Nat.le_trans (Nat.le_trans (Nat.le_succ _) (Nat.le_succ _)) z, dne, hns⟩⟩
end
end SupY
end PySem
namespace L2
open PySem PySem.Spec PyProof.Rows
section
variable {X : Cx} {B newId initId : String} {bmB : List Value} {C fI : Addr} {p f : Str} {msg : Expr} {scope : Scope} {P : V → Hp → Prop}
def tExo1 (C : Addr) (f : Str) (P : V → Hp → Prop) (ta : TE) : TE := fun σ H Q => ta σ H fun v H1 => P v H1 ∧ ∀ a d, H1 a = none → H1 d = none → a ≠ d → Q (.ref a) (upd (upd H1 d (.xd [(f, v)])) a (Dv.exo1 a C d))
theorem pe_exo1 {e : Expr} {ta : TE} {x : Str} {p0 pos : Pos} {k : Nat} (T : PySem.SupY.SupTxt X.prog X.K X.mg B newId initId bmB C fI p f msg scope) (FB : PySem.SupY.EbF B newId initId bmB)
    (hmsg : ∀ pins σ H s v u, Inv X pins σ H s → P v H → RelV v u → ∀ h : Heap, (∀ b o, s.heap.get? b = some o → h.get? b = some o) → PySem.SupY.Msg X.prog X.w p msg u h) (hr : Room k X.A) (hgd : X.A.guards = some []) (gC : X.mg x = some (.ref C)) (kC : PySem.W.keepIn X.K (.ref C) = true)
    (hg : Gl X x) (he : PE X e ta) (hs : starEach [e] X.env = (false, eval e X.env) :: starEach [] X.env := by rfl) (hdb : (x == ("__debug__" : Str)) = false := by decide) :
    PE X (.Call (.Name x p0) [e] [] pos) (tExo1 C f P ta) := by
  refine ⟨fun pins s σ H Q I h => ?_⟩
  refine wpAny_Call_Name_kw (ld_glob I hg gC ?_ hdb)
  refine PySem.W.callWith_K (h₀ := X.base) I.ok.mod.kin kC ?_ hs (by rfl)
  rw [hs]
  show wpAny _ _ (spliced ((false, eval e X.env) :: backTo pos (starEach [] X.env))) _ _ s
  refine Calls.spliced_cons (thn (he.run pins s σ H _ I h) fun u s1 ⟨v, H1, I1, rv, hP, q1⟩ => ?_)
  refine Calls.spliced_nil ⟨I1.kIn, ?_⟩
  show wpAny _ _ (call (.ref C) [u]) _ _ _
  have hlim := I1.nolimit
  obtain ⟨mb, b1, b2⟩ := I1.mod.blt
  have hns := I1.mod.glob.keeps I1.bk
  have hbs := b1.keeps I1.bk
  have hm := hmsg _ _ _ _ _ _ I1 hP rv
  obtain ⟨hp, g, dr, tk, os⟩ := s1
  refine wpAny_call (PySem.SupY.sup_madeX (mg := X.mg) T FB I1.kIn hns hbs b2 hlim (by have := hr.dp; omega) hgd (by have := hr.un; omega) hm fun h' tk' e d M => ?_)
  have hns := M.ns
  obtain ⟨t1, hoe⟩ := M.obj
  obtain ⟨G, g1, g2⟩ := restrict h' fun b => decide (b ≠ e)
  have gk : ∀ b, b ≠ e → G.get? b = h'.get? b := fun b hb => g1 b (decide_eq_true hb)
  have ge : G.get? e = none := g2 e (by simp)
  have old : ∀ b o, hp.get? b = some o → G.get? b = some o := fun b o q => (gk b (Nat.ne_of_lt (Nat.lt_of_lt_of_le (Heap.lt_size q) M.new))).trans (M.keep b o q)
  have back : ∀ b o, G.get? b = some o → h'.get? b = some o := fun b o q => by
    by_cases hb : b = e
    · rw [hb, ge] at q; cases q
    · exact (gk b hb).symm.trans q
  have ob : ObjOk X.prog X.w (upd H1 d (.xd [(f, v)])) G d (.xd [(f, v)]) :=
    ⟨_, hns.at (fun o q => (gk d M.dne).trans q), fun y => relO_f rv y⟩
  have J : Inv X pins σ (upd H1 d (.xd [(f, v)])) ⟨G, g, dr, tk', os⟩ := I1.laid (t' := tk') old M.dbig ob
  have f1 : H1 e = none := I1.hok.fresh M.new
  have f2 : H1 d = none := I1.hok.fresh M.dbig
  have n1 : upd H1 d (.xd [(f, v)]) e = none := by rw [upd_ne (Ne.symm M.dne)]; exact f1
  have ob2 : ObjOk X.prog X.w (upd (upd H1 d (.xd [(f, v)])) e (Dv.exo1 e C d)) h' e (Dv.exo1 e C d) := ⟨⟨t1, hoe⟩, ⟨_, hoe⟩, fun _ _ ⟨t, q⟩ k => ⟨t, k _ q⟩⟩
  have J2 := J.laidN (t' := tk') back ge n1 ob2
  exact ⟨.ref e, _, J2, rfl, q1 _ _ f1 f2 (Ne.symm M.dne)⟩
end
end L2
namespace Dv
open PySem PySem.Spec PyProof.Rows L2
def showOk (d : D) : Bool := match d.pyd with
  | some p => okShow p
  | none => false
/-- C(e), the message an f-string with e within; the message any other -/
def exnFM (c : Nat) (n : Str) (f : Env → M D) : Env → M D := fun env => bind (f env) fun d => if showOk d then ret (.exn c [(n, d)] []) else bad
def exnNM (c : Nat) (n : Str) (f : Env → M D) : Env → M D := fun env => bind (f env) fun d => ret (.exn c [(n, d)] [])
section
variable {X : Cx} {da : Da} {cm : Nat → Addr} {W : WX} {pos p0 : Pos} {e : Expr} {g : Env → M D} {x : Str} {c : Nat} {B newId initId : String} {bmB : List Value} {fI : Addr} {p f : Str} {msg : Expr} {scope : Scope} {k : Nat}
theorem exn1_new {Hk H H1 Hk1 : Hp} {δ δ1 : Dice} {v : V} {d : D} {a t C : Addr} {Q : VK} (s1 : Stp da Hk H Hk1 H1) (a1 : At da Hk1 H1 δ1) (r1 : Rp X.K da.ra Hk1 v d) (ha : H1 a = none) (ht : H1 t = none) (ne : a ≠ t) (hC : C = da.ra.cl c)
    (q1 : ∀ v Hk' H', Stp da Hk H Hk' H' → At da Hk' H' δ1 → Rp X.K da.ra Hk' v (.exn c [(f, d)] []) → Q v H') : Q (.ref a) (upd (upd H1 t (.xd [(f, v)])) a (exo1 a C t)) := by
  subst hC
  have st1 := Stq.new (o := .xd [(f, v)]) a1.ex ht
  have st2 := Stq.new (o := exo1 a (da.ra.cl c) t) (p := a) st1.kk (by rw [upd_ne ne]; exact ha) exo1_nt
  have st := st1.trans st2
  refine q1 _ _ _ (s1.trans st.stp) (st.at_ a1) (.exn1 upd_same ?_ (.cons (r1.mono st.kn) .nil))
  rw [upd_ne (Ne.symm ne)]
  exact upd_same
theorem ev_exnN (T : PySem.SupY.SupTxt X.prog X.K X.mg B newId initId bmB (da.ra.cl c) fI p f msg scope) (FB : PySem.SupY.EbF B newId initId bmB) (hmsg : ∀ (v : Value) (h : Heap), PySem.SupY.Msg X.prog X.w p msg v h) (hr : RoomG k X.A) (gC : X.mg x = some (.ref (da.ra.cl c))) (kC : PySem.W.keepIn X.K (.ref (da.ra.cl c)) = true) (hg : Gl X x)
    (he : PEv X da cm W e g) (hs : starEach [e] X.env = (false, eval e X.env) :: starEach [] X.env := by rfl) (hdb : (x == ("__debug__" : Str)) = false := by decide) :
    PEv X da cm W (.Call (.Name x p0) [e] [] pos) (exnNM c f g) := PE.imp (L2.pe_exo1 (P := fun _ _ => True) T FB (fun _ _ _ _ _ u _ _ _ h _ => hmsg u h) hr.room hr.gd gC kC hg he hs hdb) fun σ H Q ⟨Hk, env, δ, hA, hE, q⟩ => by
  refine tEv.seq hA hE q fun v d δ1 Hk1 H1 s1 a1 e1 r1 q1 => ⟨trivial, fun a t ha ht ne => ?_⟩
  exact exn1_new (Q := Q) (δ := δ) (Stp.refl _ _ _) a1 r1 ha ht ne rfl fun v Hk' H' s a r => q1 v Hk' H' (s1.trans s) a r
theorem ev_exnF (S : SysD X.K) (T : PySem.SupY.SupTxt X.prog X.K X.mg B newId initId bmB (da.ra.cl c) fI p f msg scope) (FB : PySem.SupY.EbF B newId initId bmB) (hmsg : ∀ (v : Value) (h : Heap), Fmts X.prog X.w v h → PySem.SupY.Msg X.prog X.w p msg v h) (hr : RoomG k X.A) (gC : X.mg x = some (.ref (da.ra.cl c))) (kC : PySem.W.keepIn X.K (.ref (da.ra.cl c)) = true) (hg : Gl X x)
    (he : PEv X da cm W e g) (hs : starEach [e] X.env = (false, eval e X.env) :: starEach [] X.env := by rfl) (hdb : (x == ("__debug__" : Str)) = false := by decide) :
    PEv X da cm W (.Call (.Name x p0) [e] [] pos) (exnFM c f g) := PE.imp (L2.pe_exo1 (P := fun v H => ∃ d, Rp X.K da.ra H v d ∧ showOk d = true) T FB (fun pins σ H s v u I hP rv h kh => by
      obtain ⟨d, rd, ok⟩ := hP
      unfold showOk at ok
      split at ok
      · rename_i p hp
        obtain ⟨as, r, hn⟩ := rd.rdD I S hp rv
        refine hmsg u h fun A E s2 Q g2 u2 k2 q2 => ?_
        exact fmts_ofD r hn ok A E s2 Q g2 u2 (fun b o z => k2 b o (kh b o z)) q2
      · cases ok) hr.room hr.gd gC kC hg he hs hdb) fun σ H Q ⟨Hk, env, δ, hA, hE, q⟩ => by
  refine tEv.seq hA hE q fun v d δ1 Hk1 H1 s1 a1 e1 r1 q1 => ?_
  by_cases ok : showOk d = true
  · rw [ifp ok] at q1
    refine ⟨⟨d, r1.mono a1.ex, ok⟩, fun a t ha ht ne => ?_⟩
    exact exn1_new (Q := Q) (δ := δ) (Stp.refl _ _ _) a1 r1 ha ht ne rfl fun v Hk' H' s a r => q1 v Hk' H' (s1.trans s) a r
  · rw [ifn ok] at q1
    exact q1.elim
end
end Dv
set_option maxHeartbeats 4000000
/-! Errors as values: isinstance(e, C), e.f, str(e). A list that is a sum of two. -/
namespace Dv
open PySem PySem.Spec PyProof.Rows L2
/-- an error of the class D lies at x -/
def ExnAt (H : Hp) (x : V) (D : Addr) : Prop := ∃ a, x = .ref a ∧ ((∃ t, H a = some (exo0 a D t)) ∨ ∃ dx vs, H a = some (exo1 a D dx) ∧ H dx = some (.xd vs))
theorem exn_at {K : PySem.W.Frag} {ra : Ra} {H : Hp} {v : V} {c : Nat} {fs : List (Str × D)} {xs : List D} (r : Rp K ra H v (.exn c fs xs)) : ExnAt H v (ra.cl c) := by
  cases r with
  | exn0 h _ _ => exact ⟨_, rfl, .inl ⟨_, h⟩⟩
  | exn1 h x _ => exact ⟨_, rfl, .inr ⟨_, _, h, x⟩⟩
section
variable {X : Cx} {pins : List (Addr × Obj)} {σ : L2.St} {H : Hp} {s : Shared}
theorem ExnAt.inst {x : V} {D : Addr} (I : Inv X pins σ H s) (h : ExnAt H x D) : ∃ a ox od, x = .ref a ∧ PySem.W.InstAt s.heap a ox D od := by
  obtain ⟨a, rfl, ⟨t, h⟩ | ⟨dx, vs, h, hx⟩⟩ := h
  · obtain ⟨hget, _, _⟩ := (show ObjOk X.prog X.w H s.heap a (exo0 a D t) from I.hok a _ h)
    exact ⟨a, _, none, rfl, hget, rfl, rfl, trivial⟩
  · obtain ⟨⟨t1, hget⟩, _, _⟩ := (show ObjOk X.prog X.w H s.heap a (exo1 a D dx) from I.hok a _ h)
    obtain ⟨mA, hns, _⟩ : ObjOk X.prog X.w H s.heap dx (.xd vs) := I.hok dx _ hx
    obtain ⟨od, ho, _⟩ := lookIn_ns hns
    exact ⟨a, _, some od, rfl, hget, rfl, rfl, ho⟩
theorem excC_kit {K : PySem.W.Frag} {D x : Addr} {ox : Obj} {od : Option Obj} (C : L2.ExcC K D) : PySem.W.KitX K (.ref x) (.ref D) (fun h => PySem.W.InstAt h x ox D od) :=
  PySem.W.kitx_exc (by obtain ⟨cd, hc, _⟩ := PySem.W.any_some C.hd; rw [hc]; rfl) C.hg C.hk C.hs C.ha C.hn C.ht C.hm
end
def rIsX (K : PySem.W.Frag) : List V → Hp → VK → Prop := fun xs H Q => ∃ (x c : V) (D : Addr) (u : Value) (b : Bool), xs = [x, c] ∧ ClsV c u ∧ L2.ExcC K D ∧ ExnAt H x D ∧ PySem.W.kitOne K (.ref D) u = some b ∧ Q (.bl b) H
theorem call_isX {X : Cx} : CallR X (.builtin "isinstance") (rIsX X.K) := by
  intro pins s σ H xs us Q I r h
  obtain ⟨x, c, D, u, b, rfl, k, C, hx, e, q⟩ := h
  obtain ⟨u1, u2, rfl, r1, r2⟩ := vals2 r
  have e2 := k.eq r2
  subst e2
  obtain ⟨a, ox, od, rfl, J⟩ := hx.inst I
  cases (show u1 = Value.ref a from r1)
  exact PySem.W.kia_one (excC_kit C) I.kIn J e (fun z => nomatch z) fun tk => ⟨.bl b, H, I.tok tk, rfl, q⟩
/-- what is asked of the errors' classes -/
structure ExcCs (K : PySem.W.Frag) (cl : Nat → Addr) (cs : List Nat) (up : Nat → List Nat) (ts : List String) (upT : Nat → List String) : Prop where
  each : ∀ c ∈ cs, L2.ExcC K (cl c)
  own : ∀ c ∈ cs, ∀ c' ∈ cs, PySem.W.kitOne K (.ref (cl c)) (.ref (cl c')) = some (decide (c' ∈ up c))
  typ : ∀ c ∈ cs, ∀ t ∈ ts, PySem.W.kitOne K (.ref (cl c)) (.type t) = some (decide (t ∈ upT c))
/-- .. and of those that str asks -/
structure StrCs (K : PySem.W.Frag) (cl : Nat → Addr) (cs : List Nat) : Prop where
  each : ∀ c ∈ cs, L2.ExcC K (cl c)
  str : ∀ c ∈ cs, PySem.W.findIn K (.ref (cl c)) "__str__" = some (some (.builtin "BaseException.__str__"))
def D.isX (cs : List Nat) (up : Nat → List Nat) (ts : List String) (upT : Nat → List String) : List D → Option D
  | [.exn c _ _, .cls c'] => if c ∈ cs ∧ c' ∈ cs then some (.bl (decide (c' ∈ up c))) else none
  | [.exn c _ _, .ty t] => if c ∈ cs ∧ t ∈ ts then some (.bl (decide (t ∈ upT c))) else none
  | _ => none
def D.strX (cs : List Nat) : List D → Option D
  | [.exn c [] [.str m]] => if c ∈ cs then some (.str m) else none
  | _ => none
def D.fldX (c : Nat) (f : Str) : D → Option D
  | .exn c' fs _ => if c' = c then fs.lookup f else none
  | _ => none
section
variable {X : Cx} {da : Da} {cm : Nat → Addr} {W : WX} {pos : Pos} {cs : List Nat} {up : Nat → List Nat} {ts : List String} {upT : Nat → List String}
theorem cd_isX (C : ExcCs X.K da.ra.cl cs up ts upT) : CalD X da (.builtin "isinstance") (D.isX cs up ts upT) := ⟨_, call_isX, by
  intro Hk H xs ds z Q ex r hz g
  unfold D.isX at hz
  split at hz
  · rename_i c fs xs c'
    obtain ⟨v, u, rfl, rv, ru⟩ := r.two
    obtain ⟨⟨h1, h2⟩, rfl⟩ := ite_some hz
    cases ru
    exact ⟨v, _, _, _, _, rfl, .own _, C.each c h1, exn_at (rv.mono ex), C.own c h1 c' h2, g.same ex (.bl _)⟩
  · rename_i c fs xs t
    obtain ⟨v, u, rfl, rv, ru⟩ := r.two
    obtain ⟨⟨h1, h2⟩, rfl⟩ := ite_some hz
    cases ru
    exact ⟨v, _, _, _, _, rfl, .ty t, C.each c h1, exn_at (rv.mono ex), C.typ c h1 t h2, g.same ex (.bl _)⟩
  · cases hz⟩
/-! ### str(e) -/
def rStrX (K : PySem.W.Frag) : List V → Hp → VK → Prop := fun xs H Q => ∃ (a t D : Addr) (m : Str), xs = [.ref a] ∧ H a = some (exo0 a D t) ∧ SqT K H t [.str m] ∧ L2.ExcC K D ∧ PySem.W.findIn K (.ref D) "__str__" = some (some (.builtin "BaseException.__str__")) ∧ Q (.str m) H
theorem call_strX (hu : X.A.units + 200 < cLine) : CallR X (.type "str") (rStrX X.K) := by
  intro pins s σ H xs us Q I r h
  obtain ⟨a, t, D, m, rfl, ha, ht, C, hs, q⟩ := h
  obtain ⟨u, rfl, ru⟩ := r.one
  cases (show u = Value.ref a from ru)
  obtain ⟨hget, _, _⟩ := (show ObjOk X.prog X.w H s.heap a (exo0 a D t) from I.hok a _ ha)
  obtain ⟨its, rv, ⟨o, ho, hc, n, hd⟩, _⟩ := I.tuple ht
  cases rv with
  | cons r1 r2 =>
    cases r2
    obtain ⟨tk, rfl⟩ := r1
    exact PySem.P.str_of_C_one (by omega) (K := X.K) (C := D) (t0 := t) ⟨I.kIn, _, _, hget, rfl, rfl, rfl⟩ ⟨o, n, ho, hc, hd⟩ hs C.hs ⟨.str m, H, I, ⟨tk, rfl⟩, q⟩
theorem cd_strX (hu : X.A.units + 200 < cLine) (C : StrCs X.K da.ra.cl cs) : CalD X da (.type "str") (D.strX cs) := ⟨_, call_strX hu, by
  intro Hk H xs ds z Q ex r hz g
  unfold D.strX at hz
  split at hz
  · rename_i c m
    obtain ⟨v, rfl, rv⟩ := r.one
    obtain ⟨h1, rfl⟩ := ite_some hz
    cases rv with
    | exn0 h t rl =>
      obtain ⟨w, rfl, rw⟩ := rl.one
      cases rw
      exact ⟨_, _, _, m, rfl, ex _ _ h, Evl.ex_t ex t, C.each c h1, C.str c h1, g.same ex (.str _)⟩
  · cases hz⟩
/-! ### e.f -/
variable {e a b : Expr} {fa fb : Env → M D}
def tFldX (K : PySem.W.Frag) (f : Str) (ta : TE) : TE := fun σ H Q => ta σ H fun x H1 => ∃ (a dx D : Addr) (vs : List (Str × V)) (v : V), x = .ref a ∧ H1 a = some (exo1 a D dx) ∧ H1 dx = some (.xd vs) ∧ vs.lookup f = some v ∧ FldTxt K D f ∧ Q v H1
theorem pe_fldX {f : Str} {ta : TE} (he : PE X e ta) (hb : attributeBase e f X.env (eval e X.env) = eval e X.env := by rfl) : PE X (.Attribute e f pos) (tFldX X.K f ta) := by
  refine ⟨fun pins s σ H Q I h => ?_⟩
  refine attr_of hb (thn (he.run pins s σ H _ I h) fun u s1 hh => ?_)
  obtain ⟨x, H1, I1, rx, a, dx, D, vs, v, rfl, h1, h2, hv, T, q⟩ := hh
  obtain rfl : u = Value.ref a := rx
  obtain ⟨⟨t1, hget⟩, _, _⟩ := (show ObjOk X.prog X.w H1 s1.heap a (exo1 a D dx) from I1.hok a _ h1)
  obtain ⟨mA, hns, hr⟩ : ObjOk X.prog X.w H1 s1.heap dx (.xd vs) := I1.hok dx _ h2
  obtain ⟨od, ho, hlk⟩ := lookIn_ns hns
  obtain ⟨u, hu, ru⟩ := RelO.some_of (v := v) (o := mA f) (by rw [← hv]; exact hr f)
  have J : PySem.W.InstAt s1.heap a _ D (some od) := ⟨hget, rfl, rfl, ho⟩
  exact HandSPX.exc_get I1.kIn J T.ga T.gg T.exC (PySem.W.findObj_own T.hd T.noN rfl (by rw [hlk, hu])) (handed_of ru) ⟨v, H1, I1.tok _, ru, q⟩
theorem ev_fldX {f : Str} {c : Nat} (T : FldTxt X.K (da.ra.cl c) f) (ha : PEv X da cm W e fa) (hb : attributeBase e f X.env (eval e X.env) = eval e X.env := by rfl) : PEv X da cm W (.Attribute e f pos) (op1M (D.fldX c f) fa) := PE.imp (pe_fldX ha hb) fun σ H Q ⟨Hk, env, δ, hA, hE, q⟩ => by
  refine tEv.seq hA hE q fun x d δ1 Hk1 H1 s1 a1 e1 r1 q1 => ?_
  obtain ⟨z, hz, g⟩ := Fin.lift a1 s1 q1
  unfold D.fldX at hz
  split at hz
  · rename_i c' fs xs
    obtain ⟨rfl, hz2⟩ : c' = c ∧ fs.lookup f = some z := by
      by_cases h : c' = c
      · rw [if_pos h] at hz; exact ⟨h, hz⟩
      · rw [if_neg h] at hz; cases hz
    cases r1 with
    | exn0 _ _ _ => cases hz2
    | exn1 h x r =>
      obtain ⟨v, hv, rv⟩ := r.lookup hz2
      exact ⟨_, _, _, _, v, rfl, a1.ex _ _ h, a1.ex _ _ x, hv, T, g.same a1.ex rv⟩
  · cases hz
/-! ### xs + ys, a list that no one else has -/
def catN (fa fb : Env → M D) : Env → M (List D) := fun env => bind (fa env) fun d => bind (fb env) fun e => match d, e with
  | .lst xs, .lst ys => if xs.length + ys.length ≤ lim then ret (xs ++ ys) else bad
  | _, _ => bad
theorem nw_cat (ha : PEv X da cm W a fa) (hb : PEv X da cm W b fb) : PNv X da cm W (.BinOp a .Add b pos) (catN fa fb) := PE.imp (pe_op op_cat ha hb) fun σ H Q ⟨Hk, env, δ, hA, hE, q⟩ => by
  refine tEv.seq hA hE q fun x d δ1 Hk1 H1 s1 a1 e1 r1 q1 => tEv.seq a1 e1 q1 fun y e δ2 Hk2 H2 s2 a2 e2 r2 q2 => ?_
  split at q2
  · rename_i xs ys
    by_cases hl : xs.length + ys.length ≤ lim
    · rw [ifp hl] at q2
      cases r1.mono s2.kn with
      | lst h1 g1 =>
        cases r2 with
        | lst h2 g2 =>
          refine ⟨_, _, _, _, rfl, rfl, a2.ex _ _ h1, a2.ex _ _ h2, by rw [g1.length, g2.length]; exact lim_le hl, fun p hp => ?_⟩
          obtain ⟨a3, s3, k3, _⟩ := new_at (o := .lst _) a2 hp
          exact q2 p _ Hk2 _ ((s1.trans s2).trans s3) a3 k3 ((s1.trans s2).none hp) upd_same (g1.append g2)
    · rw [ifn hl] at q2; exact q2.elim
  · exact q2.elim
end
end Dv
set_option maxHeartbeats 4000000
/-! Errors as values: by the law's class map; what is asked of the heap, as Bools. A text n times, n = 0, 1 too. -/
namespace Dv
open PySem PySem.Spec PyProof.Rows L2
/-! ### x * n -/
def D.mulX (d e : D) : Option D := match d, e with
  | .str x, .int n => if 0 ≤ n ∧ n ≤ 1000 ∧ 1 ≤ x.length ∧ x.length ≤ 100 then some (.str (repS n.toNat x)) else none
  | d, e => D.mul d e
def rMulX : R2 := fun x y H Q => ∃ z n, x = .str z ∧ y = .int n ∧ 0 ≤ n ∧ n < 2 ∧ 1 ≤ z.length ∧ z.length ≤ 100 ∧ Q (.str (repS n.toNat z)) H
theorem op_mulX {X : Cx} : OpR X (binaryOp .Mult) rMulX := by
  intro pins s σ H x y v u Q I rx ry h
  obtain ⟨z, n, rfl, rfl, h1, h2, h3, h4, q⟩ := h
  obtain ⟨t, rfl⟩ := rx
  obtain ⟨t', rfl⟩ := ry
  rcases (show n = 0 ∨ n = 1 by omega) with rfl | rfl
  · refine PySem.P.mul_str_none (by decide) (by decide) ⟨.str _, H, I.tok _, ⟨_, rfl⟩, ?_⟩
    exact q
  · refine PySem.P.mul_str (by decide) (fun _ z => by simp at z) (fun _ z => by simp at z) ?_
    rw [if_neg (by decide), if_pos (by simp)]
    refine ⟨.str _, H, I.tok _, ⟨_, rfl⟩, ?_⟩
    have e : repS (Int.toNat 1) z = z := by
      show (⟨#[] ++ z.cps⟩ : Str) = z
      rw [Array.empty_append]
    rw [e] at q
    exact q
theorem od_mulX {X : Cx} {da : Da} : OpD X da (binaryOp .Mult) D.mulX := by
  obtain ⟨r, o1, o2⟩ := (od_mul : OpD X da (binaryOp .Mult) D.mul)
  refine ⟨_, op_mulX.or o1, ?_⟩
  intro Hk H x y d e z Q ex rx ry hz g
  unfold D.mulX at hz
  split at hz
  · obtain ⟨⟨h1, h2, h3, h4⟩, rfl⟩ := ite_some hz
    rename_i xx n
    by_cases hn : n < 2
    · cases rx; cases ry
      exact .inl ⟨_, _, rfl, rfl, h1, hn, h3, h4, g.same ex (.str _)⟩
    · exact .inr (o2 Hk H x y _ _ _ Q ex rx ry (by unfold D.mul; exact if_pos ⟨by omega, h2, h3, h4⟩) g)
  · exact .inr (o2 Hk H x y _ _ _ Q ex rx ry hz g)
/-! ### by the class map -/
section
variable {X : Cx} {da : Da} {cm : Nat → Addr} {W : WX} {pos p0 : Pos} {e : Expr} {g fa : Env → M D} {x : Str} {c : Nat} {B newId initId : String} {bmB : List Value} {fI : Addr} {p f : Str} {msg : Expr} {scope : Scope} {k : Nat} {tb : List (Addr × Str)}
  {cs : List Nat} {up : Nat → List Nat} {ts : List String} {upT : Nat → List String}
theorem od_isX (hT : da.lay = (tb, cm)) (C : ExcCs X.K cm cs up ts upT) : CalD X da (.builtin "isinstance") (D.isX cs up ts upT) := cd_isX (by rw [lay_cl hT]; exact C)
theorem od_strX (hT : da.lay = (tb, cm)) (hu : X.A.units + 200 < cLine) (C : StrCs X.K cm cs) : CalD X da (.type "str") (D.strX cs) := cd_strX hu (by rw [lay_cl hT]; exact C)
theorem ov_fldX (hT : da.lay = (tb, cm)) (T : FldTxt X.K (cm c) f) (ha : PEv X da cm W e fa) (hb : attributeBase e f X.env (eval e X.env) = eval e X.env := by rfl) : PEv X da cm W (.Attribute e f pos) (op1M (D.fldX c f) fa) := ev_fldX (by rw [lay_cl hT]; exact T) ha hb
theorem ov_exn0 (hT : da.lay = (tb, cm)) (F : ExcBaseFacts B newId initId bmB) (T : Ex0 X.K (cm c) newId initId bmB) (gC : X.mg x = some (.ref (cm c))) (hg : Gl X x)
    (he : PEv X da cm W e g) (hs : starEach [e] X.env = (false, eval e X.env) :: starEach [] X.env := by rfl) (hdb : (x == ("__debug__" : Str)) = false := by decide) :
    PEv X da cm W (.Call (.Name x p0) [e] [] pos) (exn0M c g) := by
  have z := lay_cl hT
  exact ev_exn0 F (by rw [z]; exact T) (by rw [z]; exact gC) hg he hs hdb
theorem ov_exnN (hT : da.lay = (tb, cm)) (T : PySem.SupY.SupTxt X.prog X.K X.mg B newId initId bmB (cm c) fI p f msg scope) (FB : PySem.SupY.EbF B newId initId bmB) (hmsg : ∀ (v : Value) (h : Heap), PySem.SupY.Msg X.prog X.w p msg v h) (hr : RoomG k X.A) (gC : X.mg x = some (.ref (cm c))) (kC : PySem.W.keepIn X.K (.ref (cm c)) = true) (hg : Gl X x)
    (he : PEv X da cm W e g) (hs : starEach [e] X.env = (false, eval e X.env) :: starEach [] X.env := by rfl) (hdb : (x == ("__debug__" : Str)) = false := by decide) :
    PEv X da cm W (.Call (.Name x p0) [e] [] pos) (exnNM c f g) := by
  have z := lay_cl hT
  exact ev_exnN (by rw [z]; exact T) FB hmsg hr (by rw [z]; exact gC) (by rw [z]; exact kC) hg he hs hdb
theorem ov_exnF (hT : da.lay = (tb, cm)) (S : SysD X.K) (T : PySem.SupY.SupTxt X.prog X.K X.mg B newId initId bmB (cm c) fI p f msg scope) (FB : PySem.SupY.EbF B newId initId bmB) (hmsg : ∀ (v : Value) (h : Heap), Fmts X.prog X.w v h → PySem.SupY.Msg X.prog X.w p msg v h) (hr : RoomG k X.A) (gC : X.mg x = some (.ref (cm c))) (kC : PySem.W.keepIn X.K (.ref (cm c)) = true) (hg : Gl X x)
    (he : PEv X da cm W e g) (hs : starEach [e] X.env = (false, eval e X.env) :: starEach [] X.env := by rfl) (hdb : (x == ("__debug__" : Str)) = false := by decide) :
    PEv X da cm W (.Call (.Name x p0) [e] [] pos) (exnFM c f g) := by
  have z := lay_cl hT
  exact ev_exnF S (by rw [z]; exact T) FB hmsg hr (by rw [z]; exact gC) (by rw [z]; exact kC) hg he hs hdb
end
/-! ### as Bools -/
section
variable {K : PySem.W.Frag} {C : Addr}
def sysB (K : PySem.W.Frag) : Bool := match K.lookup sysModules with
  | some o => o.cls == .type "dict"
  | none => false
theorem sysB_ok (h : sysB K = true) : SysD K := by
  unfold sysB at h
  split at h
  · rename_i o e
    exact ⟨o, e, beq_iff_eq.mp h⟩
  · cases h
def bmV : List Value := [.type "ValueError", .type "Exception", .type "BaseException", .type "object"]
def ex0B (K : PySem.W.Frag) (C : Addr) : Bool := He.eqO (PySem.W.findIn K (.ref C) "__init__") (some (some (.builtin "ValueError.__init__"))) && (PySem.W.excInitIn K C bmV "ValueError.__new__" && PySem.W.keepIn K (.ref C))
theorem ex0B_ok (h : ex0B K C = true) : Ex0 K C "ValueError.__new__" "ValueError.__init__" bmV := by
  obtain ⟨h1, h⟩ := ba2 h
  obtain ⟨h2, h3⟩ := ba2 h
  exact ⟨He.eqO_ok h1, h2, h3⟩
def excB (K : PySem.W.Frag) (C : Addr) : Bool := He.eqO (PySem.W.findIn K (.ref C) "__getattribute__") (some (some (.builtin "BaseException.__getattribute__"))) && (He.eqO (PySem.W.findIn K (.ref C) "__getattr__") (some none) && (decide (PySem.W.subIn K (.ref C) (.type "BaseException") = some true) && (PySem.W.hasDictIn K C &&
  (He.eqO (PySem.W.findIn K (.ref C) "__class__") (some (some (.builtin "object.__class__"))) && (He.eqO (PySem.W.specialIn K (.builtin "object.__class__") "__get__") (some (some (.builtin "getset_descriptor.__get__"))) && (decide (PySem.W.takesIn K (.builtin "object.__class__") = some true) && decide (PySem.W.mroIn K C (.type "object") = some true)))))))
theorem excB_ok (h : excB K C = true) : L2.ExcC K C := by
  obtain ⟨h1, h⟩ := ba2 h
  obtain ⟨h2, h⟩ := ba2 h
  obtain ⟨h3, h⟩ := ba2 h
  obtain ⟨h4, h⟩ := ba2 h
  obtain ⟨h5, h⟩ := ba2 h
  obtain ⟨h6, h⟩ := ba2 h
  obtain ⟨h7, h8⟩ := ba2 h
  exact ⟨He.eqO_ok h1, He.eqO_ok h2, of_decide_eq_true h3, h4, He.eqO_ok h5, He.eqO_ok h6, of_decide_eq_true h7, of_decide_eq_true h8⟩
def excsB (K : PySem.W.Frag) (l : List (Nat × Str)) (up : Nat → List Nat) (ts : List String) (upT : Nat → List String) : Bool := l.all (fun p => excB K (He.ga K p.2)) &&
  (l.all (fun p => l.all fun q => decide (PySem.W.kitOne K (.ref (He.ga K p.2)) (.ref (He.ga K q.2)) = some (decide (q.1 ∈ up p.1)))) && l.all fun p => ts.all fun t => decide (PySem.W.kitOne K (.ref (He.ga K p.2)) (.type t) = some (decide (t ∈ upT p.1))))
theorem excsB_ok {l : List (Nat × Str)} {cl : Nat → Addr} {up : Nat → List Nat} {ts : List String} {upT : Nat → List String} (h : excsB K l up ts upT = true) (hc : ∀ p ∈ l, cl p.1 = He.ga K p.2) : ExcCs K cl (l.map (·.1)) up ts upT := by
  obtain ⟨h1, h⟩ := ba2 h
  obtain ⟨h2, h3⟩ := ba2 h
  constructor
  · intro c hm
    obtain ⟨p, hp, rfl⟩ := List.mem_map.mp hm
    rw [hc p hp]
    exact excB_ok (List.all_eq_true.mp h1 p hp)
  · intro c hm c' hm'
    obtain ⟨p, hp, rfl⟩ := List.mem_map.mp hm
    obtain ⟨q, hq, rfl⟩ := List.mem_map.mp hm'
    rw [hc p hp, hc q hq]
    exact of_decide_eq_true (List.all_eq_true.mp (List.all_eq_true.mp h2 p hp) q hq)
  · intro c hm t ht
    obtain ⟨p, hp, rfl⟩ := List.mem_map.mp hm
    rw [hc p hp]
    exact of_decide_eq_true (List.all_eq_true.mp (List.all_eq_true.mp h3 p hp) t ht)
def strsB (K : PySem.W.Frag) (l : List (Nat × Str)) : Bool := l.all (fun p => excB K (He.ga K p.2) && He.eqO (PySem.W.findIn K (.ref (He.ga K p.2)) "__str__") (some (some (.builtin "BaseException.__str__"))))
theorem strsB_ok {l : List (Nat × Str)} {cl : Nat → Addr} (h : strsB K l = true) (hc : ∀ p ∈ l, cl p.1 = He.ga K p.2) : StrCs K cl (l.map (·.1)) := by
  constructor
  · intro c hm
    obtain ⟨p, hp, rfl⟩ := List.mem_map.mp hm
    rw [hc p hp]
    exact excB_ok (ba2 (List.all_eq_true.mp h p hp)).1
  · intro c hm
    obtain ⟨p, hp, rfl⟩ := List.mem_map.mp hm
    rw [hc p hp]
    exact He.eqO_ok (ba2 (List.all_eq_true.mp h p hp)).2
end
end Dv
set_option maxHeartbeats 4000000
/-! Built-in bases of errors: four more. -/
namespace PySem
namespace SupY
open PySem.W PySem.Calls PyProof.Rows
theorem eb_IndexError : EbF "IndexError" "IndexError.__new__" "IndexError.__init__" [.type "IndexError", .type "LookupError", .type "Exception", .type "BaseException", .type "object"] := .of F.excBase_IndexError kxs_IndexError F.store_IndexError
theorem eb_OverflowError : EbF "OverflowError" "OverflowError.__new__" "OverflowError.__init__" [.type "OverflowError", .type "ArithmeticError", .type "Exception", .type "BaseException", .type "object"] := .of F.excBase_OverflowError kxs_OverflowError F.store_OverflowError
theorem eb_RuntimeError : EbF "RuntimeError" "RuntimeError.__new__" "RuntimeError.__init__" [.type "RuntimeError", .type "Exception", .type "BaseException", .type "object"] := .of F.excBase_RuntimeError kxs_RuntimeError F.store_RuntimeError
theorem eb_ArithmeticError : EbF "ArithmeticError" "ArithmeticError.__new__" "ArithmeticError.__init__" [.type "ArithmeticError", .type "Exception", .type "BaseException", .type "object"] := .of F.excBase_ArithmeticError kxs_ArithmeticError F.store_ArithmeticError
end SupY
end PySem
namespace PySem
namespace SupX
open PySem.W PySem.Calls PyProof.Rows
section
variable {prog : Program} {w : World} {p : Str} {h0 : Heap}
/-- f'a{p}' of a value whose plain form is known -/
theorem msg_fmt2 {a : Str} {v : Value} {ja : Nat} {p1 p2 p3 p5 : Pos} {c : Int} (hc : c = -1) (ha : a.length ≤ 1000) (hd : (p == ("__debug__" : Str)) = false) (hf : Dv.Fmts prog w v h0) :
    Msg prog w p (.JoinedStr [.Constant (.str a) ja p1, .FormattedValue (.Name p p2) c none p3] p5) v h0 := by
  intro env A E s m Q hn hv hk hl hg hu k hq
  subst hc
  refine JoinedStr_many (joinParts_cons (Calls.Constant_str ⟨?_, joinParts_cons (FormattedValue_plain (ldL hn hv ?_ hk hl hd))⟩))
  · rw [Dv.str_app_len, sizeLine_eq]
    show 0 + _ ≤ _
    omega
  refine hf A _ _ _ hg hu k fun x t h' tk hx k' => ⟨?_, joinParts_nil ?_ ?_⟩
  · rw [Dv.str_app_len, Dv.str_app_len, sizeLine_eq]
    show 0 + _ + _ ≤ _
    omega
  · exact hq _ _ h' _ k'
  · rw [Dv.str_app_len, Dv.str_app_len, sizeLine_eq]
    show 0 + _ + _ ≤ _
    omega
end
end SupX
end PySem
set_option maxHeartbeats 4000000
namespace K00
open PySem PySem.Spec PyProof.Rows L2 Dv
def top (i : Nat) : Stmt := PySem.Challenge.pw_chosentrees_k00_errors_and_what_they_kee.main.body.getD i (.Pass ⟨0, 0, 0, 0⟩)
abbrev s_l_dice : Stmt := top 17
abbrev s_l_kinds : Stmt := top 20
abbrev s_l_others : Stmt := top 21
abbrev s_l_roll : Stmt := top 18
abbrev s_l_pick : Stmt := top 19
abbrev s_l_right : Stmt := top 22
abbrev s_law : Stmt := top 23
abbrev i_ParseError : Stmt := clsInit (top 10)
abbrev i_UnknownName : Stmt := clsInit (top 11)
abbrev i_NothingToUndo : Stmt := clsInit (top 12)
abbrev i_TooMany : Stmt := clsInit (top 13)
abbrev i_InvalidNumber : Stmt := clsInit (top 14)
abbrev i_Refused : Stmt := clsInit (top 15)
/-- where all lies -/
structure Ad where
  l_dice : Addr
  d_l_dice : FuncData
  l_kinds : Addr
  d_l_kinds : FuncData
  l_others : Addr
  d_l_others : FuncData
  l_roll : Addr
  d_l_roll : FuncData
  l_pick : Addr
  d_l_pick : FuncData
  l_right : Addr
  d_l_right : FuncData
  law : Addr
  d_law : FuncData
  e_GrammarError : Addr
  e_InvalidGrammar : Addr
  e_InvalidTree : Addr
  e_InvalidText : Addr
  e_InvalidResolution : Addr
  e_InvalidLevels : Addr
  e_InvalidFilter : Addr
  e_InvalidWishes : Addr
  e_InvalidOperation : Addr
  e_ParseError : Addr
  e_UnknownName : Addr
  e_NothingToUndo : Addr
  e_TooMany : Addr
  e_InvalidNumber : Addr
  e_Refused : Addr
  j_ParseError : Addr
  j_UnknownName : Addr
  j_NothingToUndo : Addr
  j_TooMany : Addr
  j_InvalidNumber : Addr
  j_Refused : Addr
def cm (a : Ad) : Nat → Addr
  | 1 => a.e_GrammarError
  | 2 => a.e_InvalidGrammar
  | 3 => a.e_InvalidTree
  | 4 => a.e_InvalidText
  | 5 => a.e_InvalidResolution
  | 6 => a.e_InvalidLevels
  | 7 => a.e_InvalidFilter
  | 8 => a.e_InvalidWishes
  | 9 => a.e_InvalidOperation
  | 10 => a.e_ParseError
  | 11 => a.e_UnknownName
  | 12 => a.e_NothingToUndo
  | 13 => a.e_TooMany
  | 14 => a.e_InvalidNumber
  | 15 => a.e_Refused
  | _ => 0
def tbl (a : Ad) : List (Addr × Str) := []
def exCs : List Nat := [2, 3, 4, 5, 6, 7, 8, 9, 10, 1, 11, 12, 13, 14, 15]
def exSs : List Nat := [2, 3, 4, 5, 6, 7, 8, 9, 10, 1]
def exTs : List String := ["ValueError", "KeyError", "IndexError", "LookupError", "OverflowError", "ArithmeticError", "RuntimeError"]
def exUp : Nat → List Nat
  | 2 => [2, 1]
  | 3 => [3, 1]
  | 4 => [4, 1]
  | 5 => [5, 1]
  | 6 => [6, 1]
  | 7 => [7, 1]
  | 8 => [8, 1]
  | 9 => [9, 1]
  | 10 => [10, 1]
  | 1 => [1]
  | 11 => [11]
  | 12 => [12]
  | 13 => [13]
  | 14 => [14]
  | 15 => [15]
  | _ => []
def exUpT : Nat → List String
  | 2 => ["ValueError"]
  | 3 => ["ValueError"]
  | 4 => ["ValueError"]
  | 5 => ["ValueError"]
  | 6 => ["ValueError"]
  | 7 => ["ValueError"]
  | 8 => ["ValueError"]
  | 9 => ["ValueError"]
  | 10 => ["ValueError"]
  | 1 => ["ValueError"]
  | 11 => ["KeyError", "LookupError"]
  | 12 => ["IndexError", "LookupError"]
  | 13 => ["OverflowError", "ArithmeticError"]
  | 14 => ["RuntimeError"]
  | 15 => ["ArithmeticError"]
  | _ => []
/-- what the written part says -/
structure Tx (K : PySem.W.Frag) (mg : Str → Option Value) (base : Heap) (a : Ad) : Prop where
  f_l_dice : Fn1 K mg "_law_dice" s_l_dice ["_law_script", "_law_spot"] a.l_dice a.d_l_dice
  f_l_kinds : Fn1 K mg "_law_kinds" s_l_kinds ["_law_error"] a.l_kinds a.d_l_kinds
  f_l_others : Fn1 K mg "_law_others" s_l_others ["_law_error"] a.l_others a.d_l_others
  f_l_roll : Fn1 K mg "_law_roll" s_l_roll ["_law_dice_here", "_law_total"] a.l_roll a.d_l_roll
  f_l_pick : Fn1 K mg "_law_pick" s_l_pick ["_law_dice_here", "_law_items"] a.l_pick a.d_l_pick
  f_l_right : Fn1 K mg "_law_right" s_l_right ["_law_dice_here"] a.l_right a.d_l_right
  f_law : Fn1 K mg "law" s_law ["_law_script"] a.law a.d_law
  n_ArithmeticError : mg "ArithmeticError" = none
  n_IndexError : mg "IndexError" = none
  n_KeyError : mg "KeyError" = none
  n_LookupError : mg "LookupError" = none
  n_OverflowError : mg "OverflowError" = none
  n_RuntimeError : mg "RuntimeError" = none
  n_ValueError : mg "ValueError" = none
  n_abs : mg "abs" = none
  n_int : mg "int" = none
  n_isinstance : mg "isinstance" = none
  n_len : mg "len" = none
  n_max : mg "max" = none
  n_min : mg "min" = none
  n_range : mg "range" = none
  n_repr : mg "repr" = none
  n_str : mg "str" = none
  e_GrammarError : Er1 K mg "GrammarError" a.e_GrammarError
  e_InvalidGrammar : Er1 K mg "InvalidGrammar" a.e_InvalidGrammar
  e_InvalidTree : Er1 K mg "InvalidTree" a.e_InvalidTree
  e_InvalidText : Er1 K mg "InvalidText" a.e_InvalidText
  e_InvalidResolution : Er1 K mg "InvalidResolution" a.e_InvalidResolution
  e_InvalidLevels : Er1 K mg "InvalidLevels" a.e_InvalidLevels
  e_InvalidFilter : Er1 K mg "InvalidFilter" a.e_InvalidFilter
  e_InvalidWishes : Er1 K mg "InvalidWishes" a.e_InvalidWishes
  e_InvalidOperation : Er1 K mg "InvalidOperation" a.e_InvalidOperation
  e_ParseError : Er1 K mg "ParseError" a.e_ParseError
  e_UnknownName : Er1 K mg "UnknownName" a.e_UnknownName
  e_NothingToUndo : Er1 K mg "NothingToUndo" a.e_NothingToUndo
  e_TooMany : Er1 K mg "TooMany" a.e_TooMany
  e_InvalidNumber : Er1 K mg "InvalidNumber" a.e_InvalidNumber
  e_Refused : Er1 K mg "Refused" a.e_Refused
  s_ParseError : PySem.SupY.SupTxt PySem.Challenge.pw_chosentrees_k00_errors_and_what_they_kee K mg "ValueError" "ValueError.__new__" "ValueError.__init__" [.type "ValueError", .type "Exception", .type "BaseException", .type "object"] a.e_ParseError a.j_ParseError "line" "line" (msgOf i_ParseError) (defScope i_ParseError)
  s_UnknownName : PySem.SupY.SupTxt PySem.Challenge.pw_chosentrees_k00_errors_and_what_they_kee K mg "KeyError" "LookupError.__new__" "KeyError.__init__" [.type "KeyError", .type "LookupError", .type "Exception", .type "BaseException", .type "object"] a.e_UnknownName a.j_UnknownName "wanted" "wanted" (msgOf i_UnknownName) (defScope i_UnknownName)
  s_NothingToUndo : PySem.SupY.SupTxt PySem.Challenge.pw_chosentrees_k00_errors_and_what_they_kee K mg "IndexError" "IndexError.__new__" "IndexError.__init__" [.type "IndexError", .type "LookupError", .type "Exception", .type "BaseException", .type "object"] a.e_NothingToUndo a.j_NothingToUndo "many" "many" (msgOf i_NothingToUndo) (defScope i_NothingToUndo)
  s_TooMany : PySem.SupY.SupTxt PySem.Challenge.pw_chosentrees_k00_errors_and_what_they_kee K mg "OverflowError" "OverflowError.__new__" "OverflowError.__init__" [.type "OverflowError", .type "ArithmeticError", .type "Exception", .type "BaseException", .type "object"] a.e_TooMany a.j_TooMany "limit" "limit" (msgOf i_TooMany) (defScope i_TooMany)
  s_InvalidNumber : PySem.SupY.SupTxt PySem.Challenge.pw_chosentrees_k00_errors_and_what_they_kee K mg "RuntimeError" "RuntimeError.__new__" "RuntimeError.__init__" [.type "RuntimeError", .type "Exception", .type "BaseException", .type "object"] a.e_InvalidNumber a.j_InvalidNumber "given" "given" (msgOf i_InvalidNumber) (defScope i_InvalidNumber)
  s_Refused : PySem.SupY.SupTxt PySem.Challenge.pw_chosentrees_k00_errors_and_what_they_kee K mg "ArithmeticError" "ArithmeticError.__new__" "ArithmeticError.__init__" [.type "ArithmeticError", .type "Exception", .type "BaseException", .type "object"] a.e_Refused a.j_Refused "reason" "reason" (msgOf i_Refused) (defScope i_Refused)
  x0_GrammarError : Ex0 K (cm a 1) "ValueError.__new__" "ValueError.__init__" bmV
  x0_InvalidGrammar : Ex0 K (cm a 2) "ValueError.__new__" "ValueError.__init__" bmV
  x0_InvalidTree : Ex0 K (cm a 3) "ValueError.__new__" "ValueError.__init__" bmV
  x0_InvalidText : Ex0 K (cm a 4) "ValueError.__new__" "ValueError.__init__" bmV
  x0_InvalidResolution : Ex0 K (cm a 5) "ValueError.__new__" "ValueError.__init__" bmV
  x0_InvalidLevels : Ex0 K (cm a 6) "ValueError.__new__" "ValueError.__init__" bmV
  x0_InvalidFilter : Ex0 K (cm a 7) "ValueError.__new__" "ValueError.__init__" bmV
  x0_InvalidWishes : Ex0 K (cm a 8) "ValueError.__new__" "ValueError.__init__" bmV
  x0_InvalidOperation : Ex0 K (cm a 9) "ValueError.__new__" "ValueError.__init__" bmV
  exc : ExcCs K (cm a) exCs exUp exTs exUpT
  stx : StrCs K (cm a) exSs
  sys : SysD K
  x_InvalidNumber_given : FldTxt K (cm a 14) "given"
  x_NothingToUndo_many : FldTxt K (cm a 12) "many"
  x_ParseError_line : FldTxt K (cm a 10) "line"
  x_Refused_reason : FldTxt K (cm a 15) "reason"
  x_TooMany_limit : FldTxt K (cm a 13) "limit"
  x_UnknownName_wanted : FldTxt K (cm a 11) "wanted"
theorem msg_ParseError {P : Program} {w : World} (v : Value) (h : Heap) (hf : Fmts P w v h) : PySem.SupY.Msg P w "line" (msgOf i_ParseError) v h := PySem.SupY.msg_of (PySem.SupX.msg_fmt rfl (by decide) (by decide) (by decide) hf)
theorem msg_UnknownName {P : Program} {w : World} (v : Value) (h : Heap) : PySem.SupY.Msg P w "wanted" (msgOf i_UnknownName) v h := PySem.SupY.msg_name (by decide)
theorem msg_NothingToUndo {P : Program} {w : World} (v : Value) (h : Heap) (hf : Fmts P w v h) : PySem.SupY.Msg P w "many" (msgOf i_NothingToUndo) v h := PySem.SupY.msg_of (PySem.SupX.msg_fmt rfl (by decide) (by decide) (by decide) hf)
theorem msg_TooMany {P : Program} {w : World} (v : Value) (h : Heap) (hf : Fmts P w v h) : PySem.SupY.Msg P w "limit" (msgOf i_TooMany) v h := PySem.SupY.msg_of (PySem.SupX.msg_fmt2 rfl (by decide) (by decide) hf)
theorem msg_InvalidNumber {P : Program} {w : World} (v : Value) (h : Heap) (hf : Fmts P w v h) : PySem.SupY.Msg P w "given" (msgOf i_InvalidNumber) v h := PySem.SupY.msg_of (PySem.SupX.msg_fmt2 rfl (by decide) (by decide) hf)
theorem msg_Refused {P : Program} {w : World} (v : Value) (h : Heap) : PySem.SupY.Msg P w "reason" (msgOf i_Refused) v h := PySem.SupY.msg_str
section
variable {w : World} {K : PySem.W.Frag} {mg : Str → Option Value} {base : Heap} {a : Ad}
/-! #### _law_dice -/
theorem sc_l_dice : FnScope ["_law_script", "_law_spot", "_law_cell", "_law_great", "_law_blend"] ["_law_script", "_law_spot"] (defScope s_l_dice) := ⟨rfl, rfl, rfl, by decide +kernel, rfl, by decide +kernel, by decide +kernel⟩
def m_l_dice : SEnv → M Fl :=
  seqS (asgS 2 (ifM (asB (opM D.lt (vr 1) (calM D.len (consA (vr 0) (nilA))))) (opM D.ix (vr 0) (vr 1)) (opM D.add (opM D.mul (kc (.int 59)) (vr 1)) (kc (.int 17))))) (seqS (asgS 3 (opM D.mod (calM D.toInt (consA (calM D.abs (consA (vr 2) (nilA))) (nilA))) (opM D.powB (opM D.powB (kc (.int 10)) (kc (.int 58))) (kc (.int 10))))) (seqS (asgS 4 (opM D.add (opM D.add (opM D.add (opM D.mul (opM D.mod (calM D.toInt (consA (vr 3) (nilA))) (kc (.int 2305843009213693907))) (kc (.int 1000303))) (opM D.mul (kc (.int 7919)) (vr 1))) (opM D.mul (kc (.int 41)) (calM D.toInt (consA (opM D.lt (vr 2) (kc (.int 0))) (nilA))))) (kc (.int 11)))) (retW (dspN (consA (calM D.max2 (consA (kc (.int 0)) (consA (opM D.sub (vr 3) (opM D.powB (kc (.int 10)) (kc (.int 18)))) (nilA)))) (consA (opM D.mod (calM D.toInt (consA (vr 4) (nilA))) (kc (.int 2305843009213693921))) (consA (kc (.int 0)) (nilA))))))))
def t_l_dice : List D → M (List D) := fnN 2 5 m_l_dice
theorem ok_l_dice (T : Tx K mg base a) : FnG PySem.Challenge.pw_chosentrees_k00_errors_and_what_they_kee w K mg base 1 a.l_dice a.d_l_dice ["_law_script", "_law_spot"] (spN K (cm a) (tbl a) 2 t_l_dice) :=
  fn_okN T.f_l_dice.F sc_l_dice (by decide) fun da hT cdv hc A fr s H E hr =>
    sb_cons (ss_set (i := 2) sc_l_dice.nd rfl (Or.inl rfl) (ev_if (ptv_cmp (od_lt hr.hu) (ev_var (pv 1)) (ev_callB cd_len rfl T.n_len rfl (av_cons (ev_var (pv 0)) (av_nil))) (by rfl)) (ev_ix id_ix (ev_var (pv 0)) (ev_var (pv 1)) pix) (ev_bin od_add (ev_bin od_mul (ev_int) (ev_var (pv 1))) (ev_int)))) (sb_cons (ss_set (i := 3) sc_l_dice.nd rfl (Or.inl rfl) (ev_bin od_mod (ev_callTy cd_int rfl T.n_int rfl (av_cons (ev_callB cd_abs rfl T.n_abs rfl (av_cons (ev_var (pv 2)) (av_nil))) (av_nil))) (ev_bin od_powB (ev_bin od_powB (ev_int) (ev_int)) (ev_int)))) (sb_cons (ss_set (i := 4) sc_l_dice.nd rfl (Or.inl rfl) (ev_bin od_add (ev_bin od_add (ev_bin od_add (ev_bin od_mul (ev_bin od_mod (ev_callTy cd_int rfl T.n_int rfl (av_cons (ev_var (pv 3)) (av_nil))) (ev_int)) (ev_int)) (ev_bin od_mul (ev_int) (ev_var (pv 1)))) (ev_bin od_mul (ev_int) (ev_callTy cd_int rfl T.n_int rfl (av_cons (ev_cmp (od_lt hr.hu) (ev_var (pv 2)) (ev_int) (by rfl)) (av_nil))))) (ev_int))) (sb_one (ss_retW (nw_lst (av_cons (ev_callB (cd_max2 rfl) rfl T.n_max rfl (av_cons (ev_int) (av_cons (ev_bin od_sub (ev_var (pv 3)) (ev_bin od_powB (ev_int) (ev_int))) (av_nil)))) (av_cons (ev_bin od_mod (ev_callTy cd_int rfl T.n_int rfl (av_cons (ev_var (pv 4)) (av_nil))) (ev_int)) (av_cons (ev_int) (av_nil)))))))))
/-! #### _law_kinds -/
theorem sc_l_kinds : FnScope ["_law_error", "_law_told", "_law_one"] ["_law_error"] (defScope s_l_kinds) := ⟨rfl, rfl, rfl, by decide +kernel, rfl, by decide +kernel, by decide +kernel⟩
def m_l_kinds : SEnv → M Fl :=
  seqS (asgS 1 (newM (dspN (consA (calM (D.isX exCs exUp exTs exUpT) (consA (vr 0) (consA (kc (.cls 2)) (nilA)))) (consA (calM (D.isX exCs exUp exTs exUpT) (consA (vr 0) (consA (kc (.cls 3)) (nilA)))) (consA (calM (D.isX exCs exUp exTs exUpT) (consA (vr 0) (consA (kc (.cls 4)) (nilA)))) (nilA))))))) (seqS (asgS 1 (opM D.add (vr 1) (newM (dspN (consA (calM (D.isX exCs exUp exTs exUpT) (consA (vr 0) (consA (kc (.cls 5)) (nilA)))) (consA (calM (D.isX exCs exUp exTs exUpT) (consA (vr 0) (consA (kc (.cls 6)) (nilA)))) (nilA))))))) (seqS (asgS 1 (opM D.add (vr 1) (newM (dspN (consA (calM (D.isX exCs exUp exTs exUpT) (consA (vr 0) (consA (kc (.cls 7)) (nilA)))) (consA (calM (D.isX exCs exUp exTs exUpT) (consA (vr 0) (consA (kc (.cls 8)) (nilA)))) (nilA))))))) (seqS (asgS 1 (opM D.add (vr 1) (newM (dspN (consA (calM (D.isX exCs exUp exTs exUpT) (consA (vr 0) (consA (kc (.cls 9)) (nilA)))) (consA (calM (D.isX exCs exUp exTs exUpT) (consA (vr 0) (consA (kc (.cls 10)) (nilA)))) (nilA))))))) (seqS (asgS 1 (opM D.add (vr 1) (newM (dspN (consA (calM (D.isX exCs exUp exTs exUpT) (consA (vr 0) (consA (kc (.cls 1)) (nilA)))) (consA (calM (D.isX exCs exUp exTs exUpT) (consA (vr 0) (consA (kc (.ty "ValueError")) (nilA)))) (nilA))))))) (retS (mt1M D.join (kc (.str "")) (newM (lcN (itM (vr 1)) (.nm 2) [2] (yesT) (ifM (asB (vr 2)) (kc (.str "x")) (kc (.str ".")))))))))))
def t_l_kinds : List D → M D := fnM 1 3 m_l_kinds
theorem ok_l_kinds (T : Tx K mg base a) : FnG PySem.Challenge.pw_chosentrees_k00_errors_and_what_they_kee w K mg base 1 a.l_kinds a.d_l_kinds ["_law_error"] (spM K (cm a) (tbl a) 1 t_l_kinds) :=
  fn_ok T.f_l_kinds.F sc_l_kinds (by decide) fun da hT cdv hc A fr s H E hr =>
    sb_cons (ss_set (i := 1) sc_l_kinds.nd rfl (Or.inl rfl) (ev_nw (nw_lst (av_cons (ev_callB (od_isX hT T.exc) rfl T.n_isinstance rfl (av_cons (ev_var (pv 0)) (av_cons (ov_gcls hT rfl T.e_InvalidGrammar.g) (av_nil)))) (av_cons (ev_callB (od_isX hT T.exc) rfl T.n_isinstance rfl (av_cons (ev_var (pv 0)) (av_cons (ov_gcls hT rfl T.e_InvalidTree.g) (av_nil)))) (av_cons (ev_callB (od_isX hT T.exc) rfl T.n_isinstance rfl (av_cons (ev_var (pv 0)) (av_cons (ov_gcls hT rfl T.e_InvalidText.g) (av_nil)))) (av_nil))))))) (sb_cons (ss_set (i := 1) sc_l_kinds.nd rfl (Or.inl rfl) (ev_bin od_add (ev_var (pv 1)) (ev_nw (nw_lst (av_cons (ev_callB (od_isX hT T.exc) rfl T.n_isinstance rfl (av_cons (ev_var (pv 0)) (av_cons (ov_gcls hT rfl T.e_InvalidResolution.g) (av_nil)))) (av_cons (ev_callB (od_isX hT T.exc) rfl T.n_isinstance rfl (av_cons (ev_var (pv 0)) (av_cons (ov_gcls hT rfl T.e_InvalidLevels.g) (av_nil)))) (av_nil))))))) (sb_cons (ss_set (i := 1) sc_l_kinds.nd rfl (Or.inl rfl) (ev_bin od_add (ev_var (pv 1)) (ev_nw (nw_lst (av_cons (ev_callB (od_isX hT T.exc) rfl T.n_isinstance rfl (av_cons (ev_var (pv 0)) (av_cons (ov_gcls hT rfl T.e_InvalidFilter.g) (av_nil)))) (av_cons (ev_callB (od_isX hT T.exc) rfl T.n_isinstance rfl (av_cons (ev_var (pv 0)) (av_cons (ov_gcls hT rfl T.e_InvalidWishes.g) (av_nil)))) (av_nil))))))) (sb_cons (ss_set (i := 1) sc_l_kinds.nd rfl (Or.inl rfl) (ev_bin od_add (ev_var (pv 1)) (ev_nw (nw_lst (av_cons (ev_callB (od_isX hT T.exc) rfl T.n_isinstance rfl (av_cons (ev_var (pv 0)) (av_cons (ov_gcls hT rfl T.e_InvalidOperation.g) (av_nil)))) (av_cons (ev_callB (od_isX hT T.exc) rfl T.n_isinstance rfl (av_cons (ev_var (pv 0)) (av_cons (ov_gcls hT rfl T.e_ParseError.g) (av_nil)))) (av_nil))))))) (sb_cons (ss_set (i := 1) sc_l_kinds.nd rfl (Or.inl rfl) (ev_bin od_add (ev_var (pv 1)) (ev_nw (nw_lst (av_cons (ev_callB (od_isX hT T.exc) rfl T.n_isinstance rfl (av_cons (ev_var (pv 0)) (av_cons (ov_gcls hT rfl T.e_GrammarError.g) (av_nil)))) (av_cons (ev_callB (od_isX hT T.exc) rfl T.n_isinstance rfl (av_cons (ev_var (pv 0)) (av_cons (ev_bty rfl T.n_ValueError rfl) (av_nil)))) (av_nil))))))) (sb_one (ss_ret (ev_join (ev_str) (ev_nw (nw_lc rfl sc_l_kinds.nd (iv_seq (ev_var (pv 1))) (by exact blkOk_by (N := ["_law_error", "_law_told", "_law_one"]) (sc := defScope s_l_kinds) (own := [("_law_one", 2)]) (by decide +kernel)) (by decide) (fun s1 H1 C1 cl1 fp1 => pg_nm (i := 2) sc_l_kinds.nd rfl (Or.inl rfl)) (fun s1 H1 C1 cl1 fp1 => tsv_nil) (fun s1 H1 C1 cl1 fp1 => ev_if (ptv_val (ev_var (pv 2))) (ev_str) (ev_str)))))))))))
/-! #### _law_others -/
theorem sc_l_others : FnScope ["_law_error", "_law_told", "_law_one"] ["_law_error"] (defScope s_l_others) := ⟨rfl, rfl, rfl, by decide +kernel, rfl, by decide +kernel, by decide +kernel⟩
def m_l_others : SEnv → M Fl :=
  seqS (asgS 1 (newM (dspN (consA (calM (D.isX exCs exUp exTs exUpT) (consA (vr 0) (consA (kc (.cls 11)) (nilA)))) (consA (calM (D.isX exCs exUp exTs exUpT) (consA (vr 0) (consA (kc (.cls 12)) (nilA)))) (consA (calM (D.isX exCs exUp exTs exUpT) (consA (vr 0) (consA (kc (.cls 13)) (nilA)))) (nilA))))))) (seqS (asgS 1 (opM D.add (vr 1) (newM (dspN (consA (calM (D.isX exCs exUp exTs exUpT) (consA (vr 0) (consA (kc (.cls 14)) (nilA)))) (consA (calM (D.isX exCs exUp exTs exUpT) (consA (vr 0) (consA (kc (.cls 15)) (nilA)))) (consA (calM (D.isX exCs exUp exTs exUpT) (consA (vr 0) (consA (kc (.ty "KeyError")) (nilA)))) (nilA)))))))) (seqS (asgS 1 (opM D.add (vr 1) (newM (dspN (consA (calM (D.isX exCs exUp exTs exUpT) (consA (vr 0) (consA (kc (.ty "IndexError")) (nilA)))) (consA (calM (D.isX exCs exUp exTs exUpT) (consA (vr 0) (consA (kc (.ty "LookupError")) (nilA)))) (consA (calM (D.isX exCs exUp exTs exUpT) (consA (vr 0) (consA (kc (.ty "OverflowError")) (nilA)))) (nilA)))))))) (seqS (asgS 1 (opM D.add (vr 1) (newM (dspN (consA (calM (D.isX exCs exUp exTs exUpT) (consA (vr 0) (consA (kc (.ty "ArithmeticError")) (nilA)))) (consA (calM (D.isX exCs exUp exTs exUpT) (consA (vr 0) (consA (kc (.ty "RuntimeError")) (nilA)))) (nilA))))))) (retS (mt1M D.join (kc (.str "")) (newM (lcN (itM (vr 1)) (.nm 2) [2] (yesT) (ifM (asB (vr 2)) (kc (.str "x")) (kc (.str "."))))))))))
def t_l_others : List D → M D := fnM 1 3 m_l_others
theorem ok_l_others (T : Tx K mg base a) : FnG PySem.Challenge.pw_chosentrees_k00_errors_and_what_they_kee w K mg base 1 a.l_others a.d_l_others ["_law_error"] (spM K (cm a) (tbl a) 1 t_l_others) :=
  fn_ok T.f_l_others.F sc_l_others (by decide) fun da hT cdv hc A fr s H E hr =>
    sb_cons (ss_set (i := 1) sc_l_others.nd rfl (Or.inl rfl) (ev_nw (nw_lst (av_cons (ev_callB (od_isX hT T.exc) rfl T.n_isinstance rfl (av_cons (ev_var (pv 0)) (av_cons (ov_gcls hT rfl T.e_UnknownName.g) (av_nil)))) (av_cons (ev_callB (od_isX hT T.exc) rfl T.n_isinstance rfl (av_cons (ev_var (pv 0)) (av_cons (ov_gcls hT rfl T.e_NothingToUndo.g) (av_nil)))) (av_cons (ev_callB (od_isX hT T.exc) rfl T.n_isinstance rfl (av_cons (ev_var (pv 0)) (av_cons (ov_gcls hT rfl T.e_TooMany.g) (av_nil)))) (av_nil))))))) (sb_cons (ss_set (i := 1) sc_l_others.nd rfl (Or.inl rfl) (ev_bin od_add (ev_var (pv 1)) (ev_nw (nw_lst (av_cons (ev_callB (od_isX hT T.exc) rfl T.n_isinstance rfl (av_cons (ev_var (pv 0)) (av_cons (ov_gcls hT rfl T.e_InvalidNumber.g) (av_nil)))) (av_cons (ev_callB (od_isX hT T.exc) rfl T.n_isinstance rfl (av_cons (ev_var (pv 0)) (av_cons (ov_gcls hT rfl T.e_Refused.g) (av_nil)))) (av_cons (ev_callB (od_isX hT T.exc) rfl T.n_isinstance rfl (av_cons (ev_var (pv 0)) (av_cons (ev_bty rfl T.n_KeyError rfl) (av_nil)))) (av_nil)))))))) (sb_cons (ss_set (i := 1) sc_l_others.nd rfl (Or.inl rfl) (ev_bin od_add (ev_var (pv 1)) (ev_nw (nw_lst (av_cons (ev_callB (od_isX hT T.exc) rfl T.n_isinstance rfl (av_cons (ev_var (pv 0)) (av_cons (ev_bty rfl T.n_IndexError rfl) (av_nil)))) (av_cons (ev_callB (od_isX hT T.exc) rfl T.n_isinstance rfl (av_cons (ev_var (pv 0)) (av_cons (ev_bty rfl T.n_LookupError rfl) (av_nil)))) (av_cons (ev_callB (od_isX hT T.exc) rfl T.n_isinstance rfl (av_cons (ev_var (pv 0)) (av_cons (ev_bty rfl T.n_OverflowError rfl) (av_nil)))) (av_nil)))))))) (sb_cons (ss_set (i := 1) sc_l_others.nd rfl (Or.inl rfl) (ev_bin od_add (ev_var (pv 1)) (ev_nw (nw_lst (av_cons (ev_callB (od_isX hT T.exc) rfl T.n_isinstance rfl (av_cons (ev_var (pv 0)) (av_cons (ev_bty rfl T.n_ArithmeticError rfl) (av_nil)))) (av_cons (ev_callB (od_isX hT T.exc) rfl T.n_isinstance rfl (av_cons (ev_var (pv 0)) (av_cons (ev_bty rfl T.n_RuntimeError rfl) (av_nil)))) (av_nil))))))) (sb_one (ss_ret (ev_join (ev_str) (ev_nw (nw_lc rfl sc_l_others.nd (iv_seq (ev_var (pv 1))) (by exact blkOk_by (N := ["_law_error", "_law_told", "_law_one"]) (sc := defScope s_l_others) (own := [("_law_one", 2)]) (by decide +kernel)) (by decide) (fun s1 H1 C1 cl1 fp1 => pg_nm (i := 2) sc_l_others.nd rfl (Or.inl rfl)) (fun s1 H1 C1 cl1 fp1 => tsv_nil) (fun s1 H1 C1 cl1 fp1 => ev_if (ptv_val (ev_var (pv 2))) (ev_str) (ev_str))))))))))
/-! #### _law_roll -/
theorem sc_l_roll : FnScope ["_law_dice_here", "_law_total", "_law_found", "_law_one", "_law_two"] ["_law_dice_here", "_law_total"] (defScope s_l_roll) := ⟨rfl, rfl, rfl, by decide +kernel, rfl, by decide +kernel, by decide +kernel⟩
def m_l_roll : SEnv → M Fl :=
  seqS (ifS (asB (opM D.gt (dixM 0 (vr 0)) (kc (.int 0)))) (seqS (asgS 2 (opM D.mod (calM D.toInt (consA (dixM 0 (vr 0)) (nilA))) (vr 1))) (seqS (diceS 0 (vr 0) (opM D.fdiv (dixM 0 (vr 0)) (vr 1))) (retS (vr 2)))) (nilS)) (seqS (diceS 2 (vr 0) (opM D.add (dixM 2 (vr 0)) (kc (.int 1)))) (seqS (asgS 3 (opM D.mod (calM D.toInt (consA (opM D.add (dixM 1 (vr 0)) (opM D.mul (kc (.int 961748941)) (dixM 2 (vr 0)))) (nilA))) (kc (.int 2305843009213693951)))) (seqS (asgS 4 (opM D.add (opM D.mul (opM D.mod (calM D.toInt (consA (opM D.mul (vr 3) (vr 3)) (nilA))) (kc (.int 1152921504606846883))) (vr 3)) (opM D.mul (kc (.int 7411)) (dixM 2 (vr 0))))) (retS (opM D.mod (calM D.toInt (consA (opM D.fdiv (opM D.mod (calM D.toInt (consA (opM D.add (vr 4) (dixM 1 (vr 0))) (nilA))) (kc (.int 4398046511093))) (kc (.int 64))) (nilA))) (vr 1))))))
def t_l_roll : List D → M D := fnM 2 5 m_l_roll
theorem ok_l_roll (T : Tx K mg base a) : FnG PySem.Challenge.pw_chosentrees_k00_errors_and_what_they_kee w K mg base 1 a.l_roll a.d_l_roll ["_law_dice_here", "_law_total"] (spM K (cm a) (tbl a) 2 t_l_roll) :=
  fn_ok T.f_l_roll.F sc_l_roll (by decide) fun da hT cdv hc A fr s H E hr =>
    sb_cons (ss_if (ptv_cmp (od_gt hr.hu) (ev_dix 0 (by decide) (ev_var (pv 0)) pix) (ev_int) (by rfl)) (sb_cons (ss_set (i := 2) sc_l_roll.nd rfl (Or.inl rfl) (ev_bin od_mod (ev_callTy cd_int rfl T.n_int rfl (av_cons (ev_dix 0 (by decide) (ev_var (pv 0)) pix) (av_nil))) (ev_var (pv 1)))) (sb_cons (ss_dice 0 (by decide) (ev_bin od_fdiv (ev_dix 0 (by decide) (ev_var (pv 0)) pix) (ev_var (pv 1))) (ev_var (pv 0))) (sb_one (ss_ret (ev_var (pv 2)))))) (sb_nil)) (sb_cons (ss_dice 2 (by decide) (ev_bin od_add (ev_dix 2 (by decide) (ev_var (pv 0)) pix) (ev_int)) (ev_var (pv 0))) (sb_cons (ss_set (i := 3) sc_l_roll.nd rfl (Or.inl rfl) (ev_bin od_mod (ev_callTy cd_int rfl T.n_int rfl (av_cons (ev_bin od_add (ev_dix 1 (by decide) (ev_var (pv 0)) pix) (ev_bin od_mul (ev_int) (ev_dix 2 (by decide) (ev_var (pv 0)) pix))) (av_nil))) (ev_int))) (sb_cons (ss_set (i := 4) sc_l_roll.nd rfl (Or.inl rfl) (ev_bin od_add (ev_bin od_mul (ev_bin od_mod (ev_callTy cd_int rfl T.n_int rfl (av_cons (ev_bin od_mul (ev_var (pv 3)) (ev_var (pv 3))) (av_nil))) (ev_int)) (ev_var (pv 3))) (ev_bin od_mul (ev_int) (ev_dix 2 (by decide) (ev_var (pv 0)) pix)))) (sb_one (ss_ret (ev_bin od_mod (ev_callTy cd_int rfl T.n_int rfl (av_cons (ev_bin od_fdiv (ev_bin od_mod (ev_callTy cd_int rfl T.n_int rfl (av_cons (ev_bin od_add (ev_var (pv 4)) (ev_dix 1 (by decide) (ev_var (pv 0)) pix)) (av_nil))) (ev_int)) (ev_int)) (av_nil))) (ev_var (pv 1))))))))
/-! #### _law_pick -/
theorem sc_l_pick : FnScope ["_law_dice_here", "_law_items"] ["_law_dice_here", "_law_items"] (defScope s_l_pick) := ⟨rfl, rfl, rfl, by decide +kernel, rfl, by decide +kernel, by decide +kernel⟩
def m_l_pick : SEnv → M Fl :=
  retS (opM D.ix (vr 1) (fcM 2 t_l_roll (consA (vr 0) (consA (calM D.len (consA (vr 1) (nilA))) (nilA)))))
def t_l_pick : List D → M D := fnM 2 2 m_l_pick
theorem ok_l_pick (T : Tx K mg base a) : FnG PySem.Challenge.pw_chosentrees_k00_errors_and_what_they_kee w K mg base 2 a.l_pick a.d_l_pick ["_law_dice_here", "_law_items"] (spM K (cm a) (tbl a) 2 t_l_pick) :=
  fn_ok T.f_l_pick.F sc_l_pick (by decide) fun da hT cdv hc A fr s H E hr =>
    sb_one (ss_ret (ev_ix id_ix (ev_var (pv 1)) (ev_fn hT (ok_l_roll T) hr (by decide) rfl T.f_l_roll (takes_of rfl rfl rfl rfl) (av_cons (ev_var (pv 0)) (av_cons (ev_callB cd_len rfl T.n_len rfl (av_cons (ev_var (pv 1)) (av_nil))) (av_nil)))) pix))
/-! #### _law_right -/
theorem sc_l_right : FnScope ["_law_dice_here", "_law_some", "_law_thing", "_law_words", "_law_base", "_law_due", "_law_at", "_law_one", "_law_others_here", "_law_kept"] ["_law_dice_here"] (defScope s_l_right) := ⟨rfl, rfl, rfl, by decide +kernel, rfl, by decide +kernel, by decide +kernel⟩
def m_l_right : SEnv → M Fl :=
  seqS (asgN 1 (dspN (consA (kc .non) (consA (kc (.int 0)) (consA (un1M D.neg (kc (.int 1))) (consA (kc (.bl true)) (consA (opM D.powB (kc (.int 10)) (kc (.int 59))) (consA (kc (.str "")) (consA (kc (.str "num")) (consA (kc (.str "no such")) (consA (tupM (nilA)) (consA (tupM (consA (kc (.str "a")) (consA (kc (.int 1)) (nilA)))) (consA (newM (dspN (consA (kc (.int 1)) (nilA)))) (consA (dspD [(kc (.str "a"), tupM (nilA))]) (nilA))))))))))))))) (seqS (appS 1 (tupM (consA (kc (.str "clash")) (consA (tupM (consA (kc (.int 4)) (consA (kc (.str "else")) (nilA)))) (consA (tupM (nilA)) (nilA)))))) (seqS (frzS 1 (asg2S 2 3 (dtM (fcM 2 t_l_pick (consA (vr 0) (consA (vr 1) (nilA))))) (dtM (fcM 2 t_l_pick (consA (vr 0) (consA (newM (dspN (consA (kc (.str "")) (consA (kc (.str "a grammar is expected")) (consA (kc (.str "odd: !")) (nilA)))))) (nilA))))))) (seqS (asgN 4 (dspN (consA (exn0M 1 (vr 3)) (consA (exn0M 2 (vr 3)) (consA (exn0M 3 (vr 3)) (consA (exn0M 4 (vr 3)) (nilA))))))) (seqS (frzS 4 (asgN 4 (catN (vr 4) (newM (dspN (consA (exn0M 5 (vr 3)) (consA (exn0M 6 (vr 3)) (consA (exn0M 7 (vr 3)) (nilA))))))))) (seqS (frzS 4 (asgN 4 (catN (vr 4) (newM (dspN (consA (exn0M 8 (vr 3)) (consA (exn0M 9 (vr 3)) (nilA)))))))) (seqS (appS 4 (exnFM 10 "line" (fcM 2 t_l_pick (consA (vr 0) (consA (newM (dspN (consA (kc .non) (consA (kc (.int 0)) (consA (kc (.int 7)) (consA (opM D.powB (kc (.int 10)) (kc (.int 20))) (nilA))))))) (nilA)))))) (seqS (asgS 5 (newM (lcN (rng1M (consA (kc (.int 9)) (nilA))) (.nm 6) [6] (yesT) (opM D.add (opM D.add (opM D.add (opM D.mulX (kc (.str ".")) (vr 6)) (kc (.str "x"))) (opM D.mulX (kc (.str ".")) (opM D.sub (kc (.int 8)) (vr 6)))) (kc (.str "xx")))))) (seqS (frzS 4 (ifS (asB (opM D.ne (newM (lcN (itM (vr 4)) (.nm 7) [7] (yesT) (fcM 1 t_l_kinds (consA (vr 7) (nilA))))) (opM D.add (newM (dspN (consA (opM D.add (opM D.mulX (kc (.str ".")) (kc (.int 9))) (kc (.str "xx"))) (nilA)))) (vr 5)))) (retS (kc (.bl false))) (nilS))) (seqS (frzS 4 (ifS (orT (asB (opM D.ne (newM (lcN (itM (vr 4)) (.nm 7) [7] (yesT) (fcM 1 t_l_others (consA (vr 7) (nilA))))) (opM D.mulX (newM (dspN (consA (opM D.mulX (kc (.str ".")) (kc (.int 11))) (nilA)))) (kc (.int 10))))) (asB (opM D.ne (newM (lcN (itM (slM (vr 4) (noP) (someP (kc (.int 9))))) (.nm 7) [7] (yesT) (calM (D.strX exSs) (consA (vr 7) (nilA))))) (opM D.mulX (newM (dspN (consA (vr 3) (nilA)))) (kc (.int 9)))))) (retS (kc (.bl false))) (nilS))) (seqS (asgS 8 (newM (dspN (consA (exnNM 11 "wanted" (vr 2)) (consA (exnFM 12 "many" (vr 2)) (consA (exnFM 13 "limit" (vr 2)) (consA (exnFM 14 "given" (vr 2)) (consA (exnNM 15 "reason" (vr 2)) (nilA))))))))) (seqS (asgS 5 (newM (dspN (consA (kc (.str "x....x.x...")) (consA (kc (.str ".x....xx...")) (consA (kc (.str "..x.....xx.")) (consA (kc (.str "...x......x")) (consA (kc (.str "....x....x.")) (nilA))))))))) (seqS (ifS (orT (asB (opM D.ne (newM (lcN (itM (vr 8)) (.nm 7) [7] (yesT) (fcM 1 t_l_others (consA (vr 7) (nilA))))) (vr 5))) (asB (opM D.ne (newM (lcN (itM (vr 8)) (.nm 7) [7] (yesT) (fcM 1 t_l_kinds (consA (vr 7) (nilA))))) (opM D.mulX (newM (dspN (consA (opM D.mulX (kc (.str ".")) (kc (.int 11))) (nilA)))) (kc (.int 5)))))) (retS (kc (.bl false))) (nilS)) (seqS (asgS 9 (newM (dspN (consA (op1M (D.fldX 11 "wanted") (opM D.ix (vr 8) (kc (.int 0)))) (consA (op1M (D.fldX 12 "many") (opM D.ix (vr 8) (kc (.int 1)))) (consA (op1M (D.fldX 13 "limit") (opM D.ix (vr 8) (kc (.int 2)))) (consA (op1M (D.fldX 14 "given") (opM D.ix (vr 8) (kc (.int 3)))) (consA (op1M (D.fldX 15 "reason") (opM D.ix (vr 8) (kc (.int 4)))) (nilA))))))))) (retS (opM D.eq (calM D.reprD (consA (vr 9) (nilA))) (calM D.reprD (consA (opM D.mulX (newM (dspN (consA (vr 2) (nilA)))) (kc (.int 5))) (nilA))))))))))))))))))
def t_l_right : List D → M D := fnM 1 10 m_l_right
theorem ok_l_right (T : Tx K mg base a) : FnG PySem.Challenge.pw_chosentrees_k00_errors_and_what_they_kee w K mg base 3 a.l_right a.d_l_right ["_law_dice_here"] (spM K (cm a) (tbl a) 1 t_l_right) :=
  fn_ok T.f_l_right.F sc_l_right (by decide) fun da hT cdv hc A fr s H E hr =>
    sb_cons (ss_setN (i := 1) sc_l_right.nd rfl (Or.inl rfl) (nw_lst (av_cons (ev_non) (av_cons (ev_int) (av_cons (ev_neg (ev_int)) (av_cons (ev_bl) (av_cons (ev_bin od_powB (ev_int) (ev_int)) (av_cons (ev_str) (av_cons (ev_str) (av_cons (ev_str) (av_cons (ev_tup (av_nil)) (av_cons (ev_tup (av_cons (ev_str) (av_cons (ev_int) (av_nil)))) (av_cons (ev_nw (nw_lst (av_cons (ev_int) (av_nil)))) (av_cons (ev_disp (.cons (ev_str) (ev_tup (av_nil)) (.nil))) (av_nil))))))))))))))) (sb_cons (ss_app (i := 1) (pv 1) (ev_tup (av_cons (ev_str) (av_cons (ev_tup (av_cons (ev_int) (av_cons (ev_str) (av_nil)))) (av_cons (ev_tup (av_nil)) (av_nil)))))) (sb_cons (ss_frz (i := 1) (ss_par2S (i := 2) (j := 3) rfl sc_l_right.nd rfl rfl rfl rfl (sl_dt (ev_fn hT (ok_l_pick T) hr (by decide) rfl T.f_l_pick (takes_of rfl rfl rfl rfl) (av_cons (ev_var (pv 0)) (av_cons (ev_var (pv 1)) (av_nil))))) (sl_dt (ev_fn hT (ok_l_pick T) hr (by decide) rfl T.f_l_pick (takes_of rfl rfl rfl rfl) (av_cons (ev_var (pv 0)) (av_cons (ev_nw (nw_lst (av_cons (ev_str) (av_cons (ev_str) (av_cons (ev_str) (av_nil)))))) (av_nil))))))) (sb_cons (ss_setN (i := 4) sc_l_right.nd rfl (Or.inl rfl) (nw_lst (av_cons (ov_exn0 hT F.excBase_ValueError T.x0_GrammarError T.e_GrammarError.g rfl (ev_var (pv 3))) (av_cons (ov_exn0 hT F.excBase_ValueError T.x0_InvalidGrammar T.e_InvalidGrammar.g rfl (ev_var (pv 3))) (av_cons (ov_exn0 hT F.excBase_ValueError T.x0_InvalidTree T.e_InvalidTree.g rfl (ev_var (pv 3))) (av_cons (ov_exn0 hT F.excBase_ValueError T.x0_InvalidText T.e_InvalidText.g rfl (ev_var (pv 3))) (av_nil))))))) (sb_cons (ss_frz (i := 4) (ss_setN (i := 4) sc_l_right.nd rfl (Or.inl rfl) (nw_cat (ev_var (pv 4)) (ev_nw (nw_lst (av_cons (ov_exn0 hT F.excBase_ValueError T.x0_InvalidResolution T.e_InvalidResolution.g rfl (ev_var (pv 3))) (av_cons (ov_exn0 hT F.excBase_ValueError T.x0_InvalidLevels T.e_InvalidLevels.g rfl (ev_var (pv 3))) (av_cons (ov_exn0 hT F.excBase_ValueError T.x0_InvalidFilter T.e_InvalidFilter.g rfl (ev_var (pv 3))) (av_nil))))))))) (sb_cons (ss_frz (i := 4) (ss_setN (i := 4) sc_l_right.nd rfl (Or.inl rfl) (nw_cat (ev_var (pv 4)) (ev_nw (nw_lst (av_cons (ov_exn0 hT F.excBase_ValueError T.x0_InvalidWishes T.e_InvalidWishes.g rfl (ev_var (pv 3))) (av_cons (ov_exn0 hT F.excBase_ValueError T.x0_InvalidOperation T.e_InvalidOperation.g rfl (ev_var (pv 3))) (av_nil)))))))) (sb_cons (ss_app (i := 4) (pv 4) (ov_exnF hT T.sys T.s_ParseError PySem.SupY.eb_Value msg_ParseError hr T.e_ParseError.g T.e_ParseError.k rfl (ev_fn hT (ok_l_pick T) hr (by decide) rfl T.f_l_pick (takes_of rfl rfl rfl rfl) (av_cons (ev_var (pv 0)) (av_cons (ev_nw (nw_lst (av_cons (ev_non) (av_cons (ev_int) (av_cons (ev_int) (av_cons (ev_bin od_powB (ev_int) (ev_int)) (av_nil))))))) (av_nil)))))) (sb_cons (ss_setLc (i := 5) rfl sc_l_right.nd rfl rfl rfl (iv_range1 rfl T.n_range (av_cons (ev_int) (av_nil))) (by exact blkOk_by (N := ["_law_dice_here", "_law_some", "_law_thing", "_law_words", "_law_base", "_law_due", "_law_at", "_law_one", "_law_others_here", "_law_kept"]) (sc := defScope s_l_right) (own := [("_law_at", 6)]) (by decide +kernel)) (by decide) (fun s1 H1 C1 cl1 fp1 => pg_nm (i := 6) sc_l_right.nd rfl (Or.inl rfl)) (fun s1 H1 C1 cl1 fp1 => tsv_nil) (fun s1 H1 C1 cl1 fp1 => ev_bin od_add (ev_bin od_add (ev_bin od_add (ev_bin od_mulX (ev_str) (ev_var (pv 6))) (ev_str)) (ev_bin od_mulX (ev_str) (ev_bin od_sub (ev_int) (ev_var (pv 6))))) (ev_str))) (sb_cons (ss_frz (i := 4) (ss_if (ptv_cmp (od_ne hr.hu) (ev_nw (nw_lc rfl sc_l_right.nd (iv_seq (ev_var (pv 4))) (by exact blkOk_by (N := ["_law_dice_here", "_law_some", "_law_thing", "_law_words", "_law_base", "_law_due", "_law_at", "_law_one", "_law_others_here", "_law_kept"]) (sc := defScope s_l_right) (own := [("_law_one", 7)]) (by decide +kernel)) (by decide) (fun s1 H1 C1 cl1 fp1 => pg_nm (i := 7) sc_l_right.nd rfl (Or.inl rfl)) (fun s1 H1 C1 cl1 fp1 => tsv_nil) (fun s1 H1 C1 cl1 fp1 => ev_fn hT (ok_l_kinds T) hr (by decide) rfl T.f_l_kinds takes0 (av_cons (ev_var (pv 7)) (av_nil))))) (ev_bin od_add (ev_nw (nw_lst (av_cons (ev_bin od_add (ev_bin od_mulX (ev_str) (ev_int)) (ev_str)) (av_nil)))) (ev_var (pv 5))) (by rfl)) (sb_one (ss_ret (ev_bl))) (sb_nil))) (sb_cons (ss_frz (i := 4) (ss_if (PW.pt (pwv_or (ptv_cmp (od_ne hr.hu) (ev_nw (nw_lc rfl sc_l_right.nd (iv_seq (ev_var (pv 4))) (by exact blkOk_by (N := ["_law_dice_here", "_law_some", "_law_thing", "_law_words", "_law_base", "_law_due", "_law_at", "_law_one", "_law_others_here", "_law_kept"]) (sc := defScope s_l_right) (own := [("_law_one", 7)]) (by decide +kernel)) (by decide) (fun s1 H1 C1 cl1 fp1 => pg_nm (i := 7) sc_l_right.nd rfl (Or.inl rfl)) (fun s1 H1 C1 cl1 fp1 => tsv_nil) (fun s1 H1 C1 cl1 fp1 => ev_fn hT (ok_l_others T) hr (by decide) rfl T.f_l_others takes0 (av_cons (ev_var (pv 7)) (av_nil))))) (ev_bin od_mulX (ev_nw (nw_lst (av_cons (ev_bin od_mulX (ev_str) (ev_int)) (av_nil)))) (ev_int)) (by rfl)) (pwv_or1 (ptv_cmp (od_ne hr.hu) (ev_nw (nw_lc rfl sc_l_right.nd (iv_seq (ev_slice (ev_var (pv 4)) (ov_none) (ov_some (ev_int)))) (by exact blkOk_by (N := ["_law_dice_here", "_law_some", "_law_thing", "_law_words", "_law_base", "_law_due", "_law_at", "_law_one", "_law_others_here", "_law_kept"]) (sc := defScope s_l_right) (own := [("_law_one", 7)]) (by decide +kernel)) (by decide) (fun s1 H1 C1 cl1 fp1 => pg_nm (i := 7) sc_l_right.nd rfl (Or.inl rfl)) (fun s1 H1 C1 cl1 fp1 => tsv_nil) (fun s1 H1 C1 cl1 fp1 => ev_callTy (od_strX hT hr.hu T.stx) rfl T.n_str rfl (av_cons (ev_var (pv 7)) (av_nil))))) (ev_bin od_mulX (ev_nw (nw_lst (av_cons (ev_var (pv 3)) (av_nil)))) (ev_int)) (by rfl))))) (sb_one (ss_ret (ev_bl))) (sb_nil))) (sb_cons (ss_set (i := 8) sc_l_right.nd rfl (Or.inl rfl) (ev_nw (nw_lst (av_cons (ov_exnN hT T.s_UnknownName PySem.SupY.eb_Key msg_UnknownName hr T.e_UnknownName.g T.e_UnknownName.k rfl (ev_var (pv 2))) (av_cons (ov_exnF hT T.sys T.s_NothingToUndo PySem.SupY.eb_IndexError msg_NothingToUndo hr T.e_NothingToUndo.g T.e_NothingToUndo.k rfl (ev_var (pv 2))) (av_cons (ov_exnF hT T.sys T.s_TooMany PySem.SupY.eb_OverflowError msg_TooMany hr T.e_TooMany.g T.e_TooMany.k rfl (ev_var (pv 2))) (av_cons (ov_exnF hT T.sys T.s_InvalidNumber PySem.SupY.eb_RuntimeError msg_InvalidNumber hr T.e_InvalidNumber.g T.e_InvalidNumber.k rfl (ev_var (pv 2))) (av_cons (ov_exnN hT T.s_Refused PySem.SupY.eb_ArithmeticError msg_Refused hr T.e_Refused.g T.e_Refused.k rfl (ev_var (pv 2))) (av_nil))))))))) (sb_cons (ss_set (i := 5) sc_l_right.nd rfl (Or.inl rfl) (ev_nw (nw_lst (av_cons (ev_str) (av_cons (ev_str) (av_cons (ev_str) (av_cons (ev_str) (av_cons (ev_str) (av_nil))))))))) (sb_cons (ss_if (PW.pt (pwv_or (ptv_cmp (od_ne hr.hu) (ev_nw (nw_lc rfl sc_l_right.nd (iv_seq (ev_var (pv 8))) (by exact blkOk_by (N := ["_law_dice_here", "_law_some", "_law_thing", "_law_words", "_law_base", "_law_due", "_law_at", "_law_one", "_law_others_here", "_law_kept"]) (sc := defScope s_l_right) (own := [("_law_one", 7)]) (by decide +kernel)) (by decide) (fun s1 H1 C1 cl1 fp1 => pg_nm (i := 7) sc_l_right.nd rfl (Or.inl rfl)) (fun s1 H1 C1 cl1 fp1 => tsv_nil) (fun s1 H1 C1 cl1 fp1 => ev_fn hT (ok_l_others T) hr (by decide) rfl T.f_l_others takes0 (av_cons (ev_var (pv 7)) (av_nil))))) (ev_var (pv 5)) (by rfl)) (pwv_or1 (ptv_cmp (od_ne hr.hu) (ev_nw (nw_lc rfl sc_l_right.nd (iv_seq (ev_var (pv 8))) (by exact blkOk_by (N := ["_law_dice_here", "_law_some", "_law_thing", "_law_words", "_law_base", "_law_due", "_law_at", "_law_one", "_law_others_here", "_law_kept"]) (sc := defScope s_l_right) (own := [("_law_one", 7)]) (by decide +kernel)) (by decide) (fun s1 H1 C1 cl1 fp1 => pg_nm (i := 7) sc_l_right.nd rfl (Or.inl rfl)) (fun s1 H1 C1 cl1 fp1 => tsv_nil) (fun s1 H1 C1 cl1 fp1 => ev_fn hT (ok_l_kinds T) hr (by decide) rfl T.f_l_kinds takes0 (av_cons (ev_var (pv 7)) (av_nil))))) (ev_bin od_mulX (ev_nw (nw_lst (av_cons (ev_bin od_mulX (ev_str) (ev_int)) (av_nil)))) (ev_int)) (by rfl))))) (sb_one (ss_ret (ev_bl))) (sb_nil)) (sb_cons (ss_set (i := 9) sc_l_right.nd rfl (Or.inl rfl) (ev_nw (nw_lst (av_cons (ov_fldX hT T.x_UnknownName_wanted (ev_ix id_ix (ev_var (pv 8)) (ev_int) pix)) (av_cons (ov_fldX hT T.x_NothingToUndo_many (ev_ix id_ix (ev_var (pv 8)) (ev_int) pix)) (av_cons (ov_fldX hT T.x_TooMany_limit (ev_ix id_ix (ev_var (pv 8)) (ev_int) pix)) (av_cons (ov_fldX hT T.x_InvalidNumber_given (ev_ix id_ix (ev_var (pv 8)) (ev_int) pix)) (av_cons (ov_fldX hT T.x_Refused_reason (ev_ix id_ix (ev_var (pv 8)) (ev_int) pix)) (av_nil))))))))) (sb_one (ss_ret (ev_cmp (od_eq hr.hu) (ev_callB (cd_reprD T.sys hr.gd hr.hu) rfl T.n_repr rfl (av_cons (ev_var (pv 9)) (av_nil))) (ev_callB (cd_reprD T.sys hr.gd hr.hu) rfl T.n_repr rfl (av_cons (ev_bin od_mulX (ev_nw (nw_lst (av_cons (ev_var (pv 2)) (av_nil)))) (ev_int)) (av_nil))) (by rfl)))))))))))))))))
/-! #### law -/
theorem sc_law : FnScope ["_law_script", "_law_spot"] ["_law_script"] (defScope s_law) := ⟨rfl, rfl, rfl, by decide +kernel, rfl, by decide +kernel, by decide +kernel⟩
def m_law : SEnv → M Fl :=
  seqS (forM (rng1M (consA (calM D.max2 (consA (kc (.int 1)) (consA (calM D.min2 (consA (kc (.int 4)) (consA (calM D.len (consA (vr 0) (nilA))) (nilA)))) (nilA)))) (nilA))) (.nm 1) (ifS (notT (asB (rdM 2 t_l_dice t_l_right (consA (vr 0) (consA (vr 1) (nilA)))))) (retS (kc (.bl false))) (nilS))) (retS (opM D.eq (newM (dspN (consA (op1M (D.fldX 10 "line") (exnFM 10 "line" (kc .non))) (consA (op1M (D.fldX 10 "line") (exnFM 10 "line" (kc (.int 3)))) (consA (op1M (D.fldX 13 "limit") (exnFM 13 "limit" (kc (.int 300)))) (nilA)))))) (newM (dspN (consA (kc .non) (consA (kc (.int 3)) (consA (kc (.int 300)) (nilA))))))))
def t_law : List D → M D := fnM 1 2 m_law
theorem ok_law (T : Tx K mg base a) : FnG PySem.Challenge.pw_chosentrees_k00_errors_and_what_they_kee w K mg base 4 a.law a.d_law ["_law_script"] (spM0 K (cm a) (tbl a) 1 t_law) :=
  fn_ok0 T.f_law.F sc_law (by decide) fun da hT h0 cdv hc A fr s H E hr =>
    sb_cons (ss_for (t := (.nm 1)) (passes_of rfl) rfl (iv_range1 rfl T.n_range (av_cons (ev_callB (cd_max2 rfl) rfl T.n_max rfl (av_cons (ev_int) (av_cons (ev_callB (cd_min2 rfl) rfl T.n_min rfl (av_cons (ev_int) (av_cons (ev_callB cd_len rfl T.n_len rfl (av_cons (ev_var (pv 0)) (av_nil))) (av_nil)))) (av_nil)))) (av_nil))) (pg_nm (i := 1) sc_law.nd rfl (Or.inl rfl)) (sb_one (ss_if (ptv_not (ptv_val (ev_rd h0 hT (ok_l_dice T) (ok_l_right T) (hr.mono (by decide)) (hr.mono (by decide)) rfl T.f_l_dice.g T.f_l_dice.F.kp T.f_l_dice.b rfl T.f_l_right.g T.f_l_right.F.kp T.f_l_right.b (takes_of rfl rfl rfl rfl) (av_cons (ev_var (pv 0)) (av_cons (ev_var (pv 1)) (av_nil)))))) (sb_one (ss_ret (ev_bl))) (sb_nil)))) (sb_one (ss_ret (ev_cmp (od_eq hr.hu) (ev_nw (nw_lst (av_cons (ov_fldX hT T.x_ParseError_line (ov_exnF hT T.sys T.s_ParseError PySem.SupY.eb_Value msg_ParseError hr T.e_ParseError.g T.e_ParseError.k rfl (ev_non))) (av_cons (ov_fldX hT T.x_ParseError_line (ov_exnF hT T.sys T.s_ParseError PySem.SupY.eb_Value msg_ParseError hr T.e_ParseError.g T.e_ParseError.k rfl (ev_int))) (av_cons (ov_fldX hT T.x_TooMany_limit (ov_exnF hT T.sys T.s_TooMany PySem.SupY.eb_OverflowError msg_TooMany hr T.e_TooMany.g T.e_TooMany.k rfl (ev_int))) (av_nil)))))) (ev_nw (nw_lst (av_cons (ev_non) (av_cons (ev_int) (av_cons (ev_int) (av_nil)))))) (by rfl))))
end
end K00
set_option maxHeartbeats 0
namespace K00
open PySem PySem.Spec PyProof.Rows L2 Dv
def in_ParseError : InitD := ⟨"ParseError", i_ParseError, "line", "line"⟩
theorem st_ParseError : SupSt PySem.Challenge.pw_chosentrees_k00_errors_and_what_they_kee in_ParseError (msgOf i_ParseError) where
  ab := ⟨_, _, _, _, _, _, _, _, _, _, _, rfl, rfl, fun _ => ⟨_, rfl⟩⟩
  bi := by intros; rfl
  hst := by intros; rfl
  sk := rfl
  sco := rfl
  sge := rfl
  sce := by decide
  ksu := rfl
  kcl := rfl
  kse := rfl
  kp := rfl
  top := by kernel_rfl
  np := by decide
  ndb := by decide
def in_UnknownName : InitD := ⟨"UnknownName", i_UnknownName, "wanted", "wanted"⟩
theorem st_UnknownName : SupSt PySem.Challenge.pw_chosentrees_k00_errors_and_what_they_kee in_UnknownName (msgOf i_UnknownName) where
  ab := ⟨_, _, _, _, _, _, _, _, _, _, _, rfl, rfl, fun _ => ⟨_, rfl⟩⟩
  bi := by intros; rfl
  hst := by intros; rfl
  sk := rfl
  sco := rfl
  sge := rfl
  sce := by decide
  ksu := rfl
  kcl := rfl
  kse := rfl
  kp := rfl
  top := by kernel_rfl
  np := by decide
  ndb := by decide
def in_NothingToUndo : InitD := ⟨"NothingToUndo", i_NothingToUndo, "many", "many"⟩
theorem st_NothingToUndo : SupSt PySem.Challenge.pw_chosentrees_k00_errors_and_what_they_kee in_NothingToUndo (msgOf i_NothingToUndo) where
  ab := ⟨_, _, _, _, _, _, _, _, _, _, _, rfl, rfl, fun _ => ⟨_, rfl⟩⟩
  bi := by intros; rfl
  hst := by intros; rfl
  sk := rfl
  sco := rfl
  sge := rfl
  sce := by decide
  ksu := rfl
  kcl := rfl
  kse := rfl
  kp := rfl
  top := by kernel_rfl
  np := by decide
  ndb := by decide
def in_TooMany : InitD := ⟨"TooMany", i_TooMany, "limit", "limit"⟩
theorem st_TooMany : SupSt PySem.Challenge.pw_chosentrees_k00_errors_and_what_they_kee in_TooMany (msgOf i_TooMany) where
  ab := ⟨_, _, _, _, _, _, _, _, _, _, _, rfl, rfl, fun _ => ⟨_, rfl⟩⟩
  bi := by intros; rfl
  hst := by intros; rfl
  sk := rfl
  sco := rfl
  sge := rfl
  sce := by decide
  ksu := rfl
  kcl := rfl
  kse := rfl
  kp := rfl
  top := by kernel_rfl
  np := by decide
  ndb := by decide
def in_InvalidNumber : InitD := ⟨"InvalidNumber", i_InvalidNumber, "given", "given"⟩
theorem st_InvalidNumber : SupSt PySem.Challenge.pw_chosentrees_k00_errors_and_what_they_kee in_InvalidNumber (msgOf i_InvalidNumber) where
  ab := ⟨_, _, _, _, _, _, _, _, _, _, _, rfl, rfl, fun _ => ⟨_, rfl⟩⟩
  bi := by intros; rfl
  hst := by intros; rfl
  sk := rfl
  sco := rfl
  sge := rfl
  sce := by decide
  ksu := rfl
  kcl := rfl
  kse := rfl
  kp := rfl
  top := by kernel_rfl
  np := by decide
  ndb := by decide
def in_Refused : InitD := ⟨"Refused", i_Refused, "reason", "reason"⟩
theorem st_Refused : SupSt PySem.Challenge.pw_chosentrees_k00_errors_and_what_they_kee in_Refused (msgOf i_Refused) where
  ab := ⟨_, _, _, _, _, _, _, _, _, _, _, rfl, rfl, fun _ => ⟨_, rfl⟩⟩
  bi := by intros; rfl
  hst := by intros; rfl
  sk := rfl
  sco := rfl
  sge := rfl
  sce := by decide
  ksu := rfl
  kcl := rfl
  kse := rfl
  kp := rfl
  top := by kernel_rfl
  np := by decide
  ndb := by decide
abbrev dd_l_dice : He5.DefA := dfa "_law_dice" s_l_dice
abbrev dd_l_kinds : He5.DefA := dfa "_law_kinds" s_l_kinds
abbrev dd_l_others : He5.DefA := dfa "_law_others" s_l_others
abbrev dd_l_roll : He5.DefA := dfa "_law_roll" s_l_roll
abbrev dd_l_pick : He5.DefA := dfa "_law_pick" s_l_pick
abbrev dd_l_right : He5.DefA := dfa "_law_right" s_l_right
abbrev dd_law : He5.DefA := dfa "law" s_law
def asked : Ask2 where
  fa := [.glo "_law_dice", .glo "_law_kinds", .glo "_law_others", .glo "_law_roll", .glo "_law_pick", .glo "_law_right", .glo "law", .free "ArithmeticError", .free "IndexError", .free "KeyError", .free "LookupError", .free "OverflowError", .free "RuntimeError", .free "ValueError", .free "abs", .free "int", .free "isinstance", .free "len", .free "max", .free "min", .free "range", .free "repr", .free "str", .glo "GrammarError", .glo "InvalidGrammar", .glo "InvalidTree", .glo "InvalidText", .glo "InvalidResolution", .glo "InvalidLevels", .glo "InvalidFilter", .glo "InvalidWishes", .glo "InvalidOperation", .glo "ParseError", .glo "UnknownName", .glo "NothingToUndo", .glo "TooMany", .glo "InvalidNumber", .glo "Refused"]
  fn := [dd_l_dice, dd_l_kinds, dd_l_others, dd_l_roll, dd_l_pick, dd_l_right, dd_law]
  tf := []
  ex := [fun K => errB K "GrammarError", fun K => errB K "InvalidGrammar", fun K => errB K "InvalidTree", fun K => errB K "InvalidText", fun K => errB K "InvalidResolution", fun K => errB K "InvalidLevels", fun K => errB K "InvalidFilter", fun K => errB K "InvalidWishes", fun K => errB K "InvalidOperation", fun K => errB K "ParseError", fun K => errB K "UnknownName", fun K => errB K "NothingToUndo", fun K => errB K "TooMany", fun K => errB K "InvalidNumber", fun K => errB K "Refused", fun K => supBY "ValueError" "ValueError.__new__" "ValueError.__init__" [.type "ValueError", .type "Exception", .type "BaseException", .type "object"] PySem.Challenge.pw_chosentrees_k00_errors_and_what_they_kee.main.file K in_ParseError, fun K => supBY "KeyError" "LookupError.__new__" "KeyError.__init__" [.type "KeyError", .type "LookupError", .type "Exception", .type "BaseException", .type "object"] PySem.Challenge.pw_chosentrees_k00_errors_and_what_they_kee.main.file K in_UnknownName, fun K => supBY "IndexError" "IndexError.__new__" "IndexError.__init__" [.type "IndexError", .type "LookupError", .type "Exception", .type "BaseException", .type "object"] PySem.Challenge.pw_chosentrees_k00_errors_and_what_they_kee.main.file K in_NothingToUndo, fun K => supBY "OverflowError" "OverflowError.__new__" "OverflowError.__init__" [.type "OverflowError", .type "ArithmeticError", .type "Exception", .type "BaseException", .type "object"] PySem.Challenge.pw_chosentrees_k00_errors_and_what_they_kee.main.file K in_TooMany, fun K => supBY "RuntimeError" "RuntimeError.__new__" "RuntimeError.__init__" [.type "RuntimeError", .type "Exception", .type "BaseException", .type "object"] PySem.Challenge.pw_chosentrees_k00_errors_and_what_they_kee.main.file K in_InvalidNumber, fun K => supBY "ArithmeticError" "ArithmeticError.__new__" "ArithmeticError.__init__" [.type "ArithmeticError", .type "Exception", .type "BaseException", .type "object"] PySem.Challenge.pw_chosentrees_k00_errors_and_what_they_kee.main.file K in_Refused, fun K => ex0B K (He.ga K "GrammarError"), fun K => ex0B K (He.ga K "InvalidGrammar"), fun K => ex0B K (He.ga K "InvalidTree"), fun K => ex0B K (He.ga K "InvalidText"), fun K => ex0B K (He.ga K "InvalidResolution"), fun K => ex0B K (He.ga K "InvalidLevels"), fun K => ex0B K (He.ga K "InvalidFilter"), fun K => ex0B K (He.ga K "InvalidWishes"), fun K => ex0B K (He.ga K "InvalidOperation"), fun K => excsB K [(2, "InvalidGrammar"), (3, "InvalidTree"), (4, "InvalidText"), (5, "InvalidResolution"), (6, "InvalidLevels"), (7, "InvalidFilter"), (8, "InvalidWishes"), (9, "InvalidOperation"), (10, "ParseError"), (1, "GrammarError"), (11, "UnknownName"), (12, "NothingToUndo"), (13, "TooMany"), (14, "InvalidNumber"), (15, "Refused")] exUp exTs exUpT, fun K => strsB K [(2, "InvalidGrammar"), (3, "InvalidTree"), (4, "InvalidText"), (5, "InvalidResolution"), (6, "InvalidLevels"), (7, "InvalidFilter"), (8, "InvalidWishes"), (9, "InvalidOperation"), (10, "ParseError"), (1, "GrammarError")], fun K => sysB K, fun K => fldB K "InvalidNumber" "given", fun K => fldB K "NothingToUndo" "many", fun K => fldB K "ParseError" "line", fun K => fldB K "Refused" "reason", fun K => fldB K "TooMany" "limit", fun K => fldB K "UnknownName" "wanted"]
  ins := [in_ParseError, in_UnknownName, in_NothingToUndo, in_TooMany, in_InvalidNumber, in_Refused]
abbrev R : PySem.W.OpenRow := PySem.W.OpenLaw.row PySem.Challenge.rw_chosentrees_k00_errors_and_what_they_kee
def loose : List PySem.Str := (["GrammarError", "InvalidGrammar", "InvalidTree", "InvalidText", "InvalidResolution", "InvalidLevels", "InvalidFilter", "InvalidWishes", "InvalidOperation", "ParseError", "UnknownName", "NothingToUndo", "TooMany", "InvalidNumber", "Refused", "_law_dice", "_law_roll", "_law_pick", "_law_kinds", "_law_others", "_law_right"] : List PySem.Str)
theorem run (w : World) : HandSHeadRun.RunEq R (PySem.W.view R.prog [23]) (asked.hook 6) (fun s => asked.obs 6 (HandSHeadRun.getT s)) 6000 loose w := by
  intro os
  kernel_rfl
theorem facts {h : Heap} {K : PySem.W.Frag} {mg : Str → Option Value} (S : asked.Says h K) (X : K.In h) (G : h.Ns mainGlobals mg) : ∃ a : Ad, a.law = He.ga K "law" ∧ (∀ (s : Shared) (u : Value), BindsTo s a.d_law ⟨[u], []⟩ [("_law_script", u)]) ∧ ∀ base : Heap, (∀ p ∈ asked.tf.map (He.cT K), LamX.TabB base mg p.1 p.2) → Tx K mg base a := by
  obtain ⟨d_l_dice, ⟨F_l_dice, B_l_dice⟩, c_l_dice, hc_l_dice, k_l_dice⟩ := S.fn1 X G (x := "_law_dice") (st := s_l_dice) (ps := ["_law_script", "_law_spot"]) 0 0 rfl rfl (fun _ _ _ _ _ _ us hl => match us, hl with | [_, _], _ => rfl)
  obtain ⟨d_l_kinds, ⟨F_l_kinds, B_l_kinds⟩, c_l_kinds, hc_l_kinds, k_l_kinds⟩ := S.fn1 X G (x := "_law_kinds") (st := s_l_kinds) (ps := ["_law_error"]) 1 1 rfl rfl (fun _ _ _ _ _ _ us hl => match us, hl with | [_], _ => rfl)
  obtain ⟨d_l_others, ⟨F_l_others, B_l_others⟩, c_l_others, hc_l_others, k_l_others⟩ := S.fn1 X G (x := "_law_others") (st := s_l_others) (ps := ["_law_error"]) 2 2 rfl rfl (fun _ _ _ _ _ _ us hl => match us, hl with | [_], _ => rfl)
  obtain ⟨d_l_roll, ⟨F_l_roll, B_l_roll⟩, c_l_roll, hc_l_roll, k_l_roll⟩ := S.fn1 X G (x := "_law_roll") (st := s_l_roll) (ps := ["_law_dice_here", "_law_total"]) 3 3 rfl rfl (fun _ _ _ _ _ _ us hl => match us, hl with | [_, _], _ => rfl)
  obtain ⟨d_l_pick, ⟨F_l_pick, B_l_pick⟩, c_l_pick, hc_l_pick, k_l_pick⟩ := S.fn1 X G (x := "_law_pick") (st := s_l_pick) (ps := ["_law_dice_here", "_law_items"]) 4 4 rfl rfl (fun _ _ _ _ _ _ us hl => match us, hl with | [_, _], _ => rfl)
  obtain ⟨d_l_right, ⟨F_l_right, B_l_right⟩, c_l_right, hc_l_right, k_l_right⟩ := S.fn1 X G (x := "_law_right") (st := s_l_right) (ps := ["_law_dice_here"]) 5 5 rfl rfl (fun _ _ _ _ _ _ us hl => match us, hl with | [_], _ => rfl)
  obtain ⟨d_law, ⟨F_law, B_law⟩, c_law, hc_law, k_law⟩ := S.fn1 X G (x := "law") (st := s_law) (ps := ["_law_script"]) 6 6 rfl rfl (fun _ _ _ _ _ _ us hl => match us, hl with | [_], _ => rfl)
  refine ⟨{ l_dice := He.ga K "_law_dice", d_l_dice := d_l_dice, l_kinds := He.ga K "_law_kinds", d_l_kinds := d_l_kinds, l_others := He.ga K "_law_others", d_l_others := d_l_others, l_roll := He.ga K "_law_roll", d_l_roll := d_l_roll, l_pick := He.ga K "_law_pick", d_l_pick := d_l_pick, l_right := He.ga K "_law_right", d_l_right := d_l_right, law := He.ga K "law", d_law := d_law, e_GrammarError := He.ga K "GrammarError", e_InvalidGrammar := He.ga K "InvalidGrammar", e_InvalidTree := He.ga K "InvalidTree", e_InvalidText := He.ga K "InvalidText", e_InvalidResolution := He.ga K "InvalidResolution", e_InvalidLevels := He.ga K "InvalidLevels", e_InvalidFilter := He.ga K "InvalidFilter", e_InvalidWishes := He.ga K "InvalidWishes", e_InvalidOperation := He.ga K "InvalidOperation", e_ParseError := He.ga K "ParseError", e_UnknownName := He.ga K "UnknownName", e_NothingToUndo := He.ga K "NothingToUndo", e_TooMany := He.ga K "TooMany", e_InvalidNumber := He.ga K "InvalidNumber", e_Refused := He.ga K "Refused", j_ParseError := initAt K "ParseError", j_UnknownName := initAt K "UnknownName", j_NothingToUndo := initAt K "NothingToUndo", j_TooMany := initAt K "TooMany", j_InvalidNumber := initAt K "InvalidNumber", j_Refused := initAt K "Refused" }, rfl, fun s u => B_law s [u] rfl, fun base TB => ?_⟩
  exact {
    f_l_dice := F_l_dice
    f_l_kinds := F_l_kinds
    f_l_others := F_l_others
    f_l_roll := F_l_roll
    f_l_pick := F_l_pick
    f_l_right := F_l_right
    f_law := F_law
    n_ArithmeticError := S.free X G 7 rfl
    n_IndexError := S.free X G 8 rfl
    n_KeyError := S.free X G 9 rfl
    n_LookupError := S.free X G 10 rfl
    n_OverflowError := S.free X G 11 rfl
    n_RuntimeError := S.free X G 12 rfl
    n_ValueError := S.free X G 13 rfl
    n_abs := S.free X G 14 rfl
    n_int := S.free X G 15 rfl
    n_isinstance := S.free X G 16 rfl
    n_len := S.free X G 17 rfl
    n_max := S.free X G 18 rfl
    n_min := S.free X G 19 rfl
    n_range := S.free X G 20 rfl
    n_repr := S.free X G 21 rfl
    n_str := S.free X G 22 rfl
    e_GrammarError := S.er1 X G 0 23 rfl rfl
    e_InvalidGrammar := S.er1 X G 1 24 rfl rfl
    e_InvalidTree := S.er1 X G 2 25 rfl rfl
    e_InvalidText := S.er1 X G 3 26 rfl rfl
    e_InvalidResolution := S.er1 X G 4 27 rfl rfl
    e_InvalidLevels := S.er1 X G 5 28 rfl rfl
    e_InvalidFilter := S.er1 X G 6 29 rfl rfl
    e_InvalidWishes := S.er1 X G 7 30 rfl rfl
    e_InvalidOperation := S.er1 X G 8 31 rfl rfl
    e_ParseError := S.er1 X G 9 32 rfl rfl
    e_UnknownName := S.er1 X G 10 33 rfl rfl
    e_NothingToUndo := S.er1 X G 11 34 rfl rfl
    e_TooMany := S.er1 X G 12 35 rfl rfl
    e_InvalidNumber := S.er1 X G 13 36 rfl rfl
    e_Refused := S.er1 X G 14 37 rfl rfl
    s_ParseError := sup_okY st_ParseError (S.ini in_ParseError (by simp [asked])) (S.exb 15 rfl)
    s_UnknownName := sup_okY st_UnknownName (S.ini in_UnknownName (by simp [asked])) (S.exb 16 rfl)
    s_NothingToUndo := sup_okY st_NothingToUndo (S.ini in_NothingToUndo (by simp [asked])) (S.exb 17 rfl)
    s_TooMany := sup_okY st_TooMany (S.ini in_TooMany (by simp [asked])) (S.exb 18 rfl)
    s_InvalidNumber := sup_okY st_InvalidNumber (S.ini in_InvalidNumber (by simp [asked])) (S.exb 19 rfl)
    s_Refused := sup_okY st_Refused (S.ini in_Refused (by simp [asked])) (S.exb 20 rfl)
    x0_GrammarError := ex0B_ok (S.exb 21 rfl)
    x0_InvalidGrammar := ex0B_ok (S.exb 22 rfl)
    x0_InvalidTree := ex0B_ok (S.exb 23 rfl)
    x0_InvalidText := ex0B_ok (S.exb 24 rfl)
    x0_InvalidResolution := ex0B_ok (S.exb 25 rfl)
    x0_InvalidLevels := ex0B_ok (S.exb 26 rfl)
    x0_InvalidFilter := ex0B_ok (S.exb 27 rfl)
    x0_InvalidWishes := ex0B_ok (S.exb 28 rfl)
    x0_InvalidOperation := ex0B_ok (S.exb 29 rfl)
    exc := excsB_ok (l := [(2, "InvalidGrammar"), (3, "InvalidTree"), (4, "InvalidText"), (5, "InvalidResolution"), (6, "InvalidLevels"), (7, "InvalidFilter"), (8, "InvalidWishes"), (9, "InvalidOperation"), (10, "ParseError"), (1, "GrammarError"), (11, "UnknownName"), (12, "NothingToUndo"), (13, "TooMany"), (14, "InvalidNumber"), (15, "Refused")]) (S.exb 30 rfl) (fun p hp => by
      simp only [List.mem_cons, List.not_mem_nil, or_false] at hp
      rcases hp with rfl | rfl | rfl | rfl | rfl | rfl | rfl | rfl | rfl | rfl | rfl | rfl | rfl | rfl | rfl <;> rfl)
    stx := strsB_ok (l := [(2, "InvalidGrammar"), (3, "InvalidTree"), (4, "InvalidText"), (5, "InvalidResolution"), (6, "InvalidLevels"), (7, "InvalidFilter"), (8, "InvalidWishes"), (9, "InvalidOperation"), (10, "ParseError"), (1, "GrammarError")]) (S.exb 31 rfl) (fun p hp => by
      simp only [List.mem_cons, List.not_mem_nil, or_false] at hp
      rcases hp with rfl | rfl | rfl | rfl | rfl | rfl | rfl | rfl | rfl | rfl <;> rfl)
    sys := sysB_ok (S.exb 32 rfl)
    x_InvalidNumber_given := fld_ok (S.exb 33 rfl)
    x_NothingToUndo_many := fld_ok (S.exb 34 rfl)
    x_ParseError_line := fld_ok (S.exb 35 rfl)
    x_Refused_reason := fld_ok (S.exb 36 rfl)
    x_TooMany_limit := fld_ok (S.exb 37 rfl)
    x_UnknownName_wanted := fld_ok (S.exb 38 rfl) }
theorem room : RoomG 4 callerA := ⟨⟨rfl, by decide, by decide⟩, rfl⟩
end K00
set_option maxHeartbeats 1000000
/-! Rules of symbols and what they lead to. -/
namespace Gr
open PySem
abbrev Rl := List (Str × List Str)
inductive Der (R : Rl) : Str → Prop
  | mk {h : Str} {b : List Str} : (h, b) ∈ R → (∀ s ∈ b, Der R s) → Der R h
def Closed (R : Rl) (f : List Str) : Prop := ∀ h b, (h, b) ∈ R → (∀ s ∈ b, s ∈ f) → h ∈ f
def Sound (R : Rl) (f : List Str) : Prop := ∀ s ∈ f, Der R s
theorem Der.of {R : Rl} {f : List Str} (hc : Closed R f) : ∀ {s : Str}, Der R s → s ∈ f
  | _, .mk h hb => hc _ _ h fun s hs => Der.of hc (hb s hs)
theorem Der.mono {R R' : Rl} (h : ∀ p ∈ R, p ∈ R') : ∀ {s : Str}, Der R s → Der R' s
  | _, .mk a b => .mk (h _ a) fun s hs => (b s hs).mono h
/-! ### a closure, step by step -/
theorem Sound.app {R : Rl} {f g : List Str} (hf : Sound R f) (hg : ∀ s ∈ g, ∃ b, (s, b) ∈ R ∧ ∀ x ∈ b, x ∈ f) : Sound R (f ++ g) := fun s hs => by
  rcases List.mem_append.mp hs with hs | hs
  · exact hf s hs
  · obtain ⟨b, h1, h2⟩ := hg s hs
    exact .mk h1 fun x hx => hf x (h2 x hx)
/-! ### what a symbol leads to -/
/-- steps, at least one -/
inductive Plus (r : Str → Str → Prop) : Str → Str → Prop
  | one {a b : Str} : r a b → Plus r a b
  | more {a b c : Str} : Plus r a b → r b c → Plus r a c
theorem Plus.map {r r' : Str → Str → Prop} (h : ∀ a b, r a b → r' a b) {a b : Str} : Plus r a b → Plus r' a b
  | .one x => .one (h _ _ x)
  | .more x y => .more (x.map h) (h _ _ y)
theorem Plus.trans {r : Str → Str → Prop} {a b c : Str} (x : Plus r a b) (y : Plus r b c) : Plus r a c := by
  induction y with
  | one z => exact .more x z
  | more _ z ih => exact .more ih z
/-- from some beginnings, along arrows -/
inductive Rch (st : Str → Prop) (r : Str → Str → Prop) : Str → Prop
  | st {a : Str} : st a → Rch st r a
  | go {a b : Str} : Rch st r a → r a b → Rch st r b
theorem Rch.of {st : Str → Prop} {r : Str → Str → Prop} {f : List Str} (h1 : ∀ a, st a → a ∈ f) (h2 : ∀ a ∈ f, ∀ b, r a b → b ∈ f) {a : Str} (h : Rch st r a) : a ∈ f := by
  induction h with
  | st h => exact h1 _ h
  | go _ x ih => exact h2 _ ih _ x
end Gr
set_option maxHeartbeats 1000000
namespace Gr
open PySem PySem.Spec PyProof.Rows L2 Dv Ts
open Lb (good)
def As (xs : List Str) : Prop := ∀ x ∈ xs, asc x = true
theorem As.sub {xs ys : List Str} (h : As xs) (s : ∀ y ∈ ys, y ∈ xs) : As ys := fun y hy => h y (s y hy)
theorem As.app {xs ys : List Str} (h : As xs) (h' : As ys) : As (xs ++ ys) := fun y hy => (List.mem_append.mp hy).elim (h y) (h' y)
/-- for: an invariant -/
theorem fo_run {α : Type} {t : Tg} {F : SEnv → M Fl} {f : α → D} {I : List α → SEnv → Prop} : ∀ (xs : List α) (e : SEnv), I xs e → (∀ a r e, a ∈ xs → I (a :: r) e → ∃ m e', t.l (f a) = some m ∧ F (putS e m) = ret (.next e') ∧ I r e') → ∃ e', forL t F (xs.map f) e = ret (.next e') ∧ I [] e'
  | [], e, hi, _ => ⟨e, rfl, hi⟩
  | a :: xs, e, hi, h => by
    obtain ⟨m, e', h1, h2, h3⟩ := h a xs e (by simp) hi
    obtain ⟨e2, h4, h5⟩ := fo_run xs e' h3 fun b r e hb => h b r e (by simp [hb])
    refine ⟨e2, ?_, h5⟩
    rw [List.map_cons]
    unfold forL
    rw [h1, lift_some, bind_ret, h2, bind_ret]
    exact h4
end Gr
set_option maxHeartbeats 1000000
namespace K00
open PySem PySem.Spec PyProof.Rows L2 Dv
theorem seq_gen' {F G : SEnv → M Fl} {e : SEnv} {r : M Fl} (h : F e = r) : seqS F G e = Dv.bind r fun r => match r with
  | .next e => G e
  | r => ret r := by rw [← h]; rfl
theorem Rn.det {α : Type} {k : Nat} {P : α → Prop} {m : M α} {a : α} (h : m = Dv.ret a) (hp : P a) : Run k P m := by rw [h]; exact Run.r hp
theorem stp {F G : SEnv → M Fl} {e e' : SEnv} (h : F e = ret (.next e')) : seqS F G e = G e' := by rw [seq_gen' h, bind_ret]
theorem if_no {t : Dv.Env → M Bool} {F G : SEnv → M Fl} {env : SEnv} (h : t (va env) = ret false) : seqS (ifS t F nilS) G env = G env := by
  rw [seq_gen, if_S, h, bind_ret, if_neg (by simp), nil_S, bind_ret]; rfl
theorem seq_frz' {i : Nat} {F G : SEnv → M Fl} {env : SEnv} : seqS (frzS i F) G env = seqS F G (frzE i env) := rfl
def things : List D := [.non, .int 0, .int (-1), .bl true, .int (10 ^ 59), .str "", .str "num", .str "no such", .tup [], .tup [.str "a", .int 1], .lst [.int 1], .dic [(.str "a", .tup [])], .tup [.str "clash", .tup [.int 4, .str "else"], .tup []]]
def wordsL : List D := [.str "", .str "a grammar is expected", .str "odd: !"]
def linesL : List D := [.non, .int 0, .int 7, .int (10 ^ 20)]
def base0 (w ln : D) : List D := [.exn 1 [] [w], .exn 2 [] [w], .exn 3 [] [w], .exn 4 [] [w], .exn 5 [] [w], .exn 6 [] [w], .exn 7 [] [w], .exn 8 [] [w], .exn 9 [] [w], .exn 10 [("line", ln)] []]
theorem lines_ok : ∀ d ∈ linesL, showOk d = true := by decide +kernel
def dueL : List D := [.str "x........xx", .str ".x.......xx", .str "..x......xx", .str "...x.....xx", .str "....x....xx", .str ".....x...xx", .str "......x..xx", .str ".......x.xx", .str "........xxx"]
theorem pick_some {env : Dv.Env} {xs : List D} (h : consA (vr 0) (consA (vr 1) nilA) env = ret [.dice, .lst xs]) (hn : xs ≠ []) (hl : xs.length ≤ 1000) : Run 1 (fun d => d ∈ xs) (fcM 2 t_l_pick (consA (vr 0) (consA (vr 1) nilA)) env) := Run.fc h rfl (Lb.pick_lst hn (by omega))

/-- the last part: draws are over -/
def E7 (th w ln : D) : SEnv := [.dt .dice, .dt (.lst things), .dt th, .dt w, .ow (base0 w ln), .no, .no, .no, .no, .no]
def E8 (th w ln : D) : SEnv := [.dt .dice, .dt (.lst things), .dt th, .dt w, .ow (base0 w ln), .dt (.lst dueL), .no, .no, .no, .no]
def E9 (th w ln : D) : SEnv := [.dt .dice, .dt (.lst things), .dt th, .dt w, .dt (.lst (base0 w ln)), .dt (.lst dueL), .no, .no, .no, .no]
theorem right_run : Run 3 (fun d => d = .bl true) (t_l_right [.dice]) := by
  unfold t_l_right m_l_right
  refine Run.mono (Run.fn (k := 3) (P := fun d => d = .bl true) rfl ?_) (by omega) fun _ z => z
  refine Run.mono (P := fun r => r = .ret (.bl true)) ?_ (Nat.le_refl _) fun r e => by subst e; rfl
  refine Run.of_eq ?_ (stp (e' := [.dt .dice, .ow (things.take 12), .no, .no, .no, .no, .no, .no, .no, .no]) (by kernel_rfl))
  refine Run.of_eq ?_ (stp (e' := [.dt .dice, .ow things, .no, .no, .no, .no, .no, .no, .no, .no]) (by kernel_rfl))
  refine Run.of_eq ?_ (seq_frz' (env := [.dt .dice, .ow things, .no, .no, .no, .no, .no, .no, .no, .no]))
  show Run 3 _ (seqS (asg2S 2 3 _ _) _ [.dt .dice, .dt (.lst things), .no, .no, .no, .no, .no, .no, .no, .no])
  refine Run.of_eq ?_ seq_gen
  refine Run.b (k := 2) (P := fun r => ∃ th w, th ∈ things ∧ w ∈ wordsL ∧ r = .next [.dt .dice, .dt (.lst things), .dt th, .dt w, .no, .no, .no, .no, .no, .no]) ?_ ?_
  · show Run 2 _ (Dv.bind (Dv.bind (fcM 2 t_l_pick _ _) _) _)
    rw [bind_bind]
    refine Run.b (k := 1) (pick_some rfl (by decide) (by decide)) fun th hth => ?_
    show Run 1 _ (Dv.bind (Dv.bind (fcM 2 t_l_pick _ _) _) _)
    rw [bind_bind]
    refine Run.b (k := 1) (P := fun d => d ∈ wordsL) (Run.fc (ds := [.dice, .lst wordsL]) (by kernel_rfl) rfl (Lb.pick_lst (by decide) (by decide))) fun w hw => ?_
    exact Run.r ⟨th, w, hth, hw, rfl⟩
  rintro _ ⟨th, w, hth, hw, rfl⟩
  show Run 1 _ (seqS _ _ [.dt .dice, .dt (.lst things), .dt th, .dt w, .no, .no, .no, .no, .no, .no])
  refine Run.of_eq ?_ (stp (e' := [.dt .dice, .dt (.lst things), .dt th, .dt w, .ow ((base0 w .non).take 4), .no, .no, .no, .no, .no]) (by kernel_rfl))
  refine Run.of_eq ?_ (stp (e' := [.dt .dice, .dt (.lst things), .dt th, .dt w, .ow ((base0 w .non).take 7), .no, .no, .no, .no, .no]) (by kernel_rfl))
  refine Run.of_eq ?_ (stp (e' := [.dt .dice, .dt (.lst things), .dt th, .dt w, .ow ((base0 w .non).take 9), .no, .no, .no, .no, .no]) (by kernel_rfl))
  refine Run.of_eq ?_ seq_gen
  refine Run.b (k := 1) (P := fun r => ∃ ln, r = .next (E7 th w ln)) ?_ ?_
  · show Run 1 _ (Dv.bind (Dv.bind (fcM 2 t_l_pick _ _) _) _)
    rw [bind_bind]
    refine Run.b (k := 1) (P := fun d => d ∈ linesL) (Run.fc (ds := [.dice, .lst linesL]) (by kernel_rfl) rfl (Lb.pick_lst (by decide) (by decide))) fun ln hl => ?_
    have z := lines_ok ln hl
    show Run 0 _ (Dv.bind (if showOk ln = true then _ else _) _)
    rw [if_pos z]
    exact Run.r ⟨ln, rfl⟩
  rintro r ⟨ln, e⟩
  rw [e, nextM_next]
  refine Rn.det ?_ rfl
  refine (stp (e' := E8 th w ln) (by kernel_rfl)).trans ?_
  refine (seq_frz' (env := E8 th w ln)).trans ?_
  show seqS (ifS _ _ nilS) _ (E9 th w ln) = _
  refine (if_no (by kernel_rfl)).trans ?_
  refine (seq_frz' (env := E9 th w ln)).trans ?_
  show seqS (ifS _ _ nilS) _ (E9 th w ln) = _
  refine (if_no ?_).trans ?_
  · refine orT_ret (a := false) (b := false) (by kernel_rfl) fun _ => ?_
    simp only [wordsL, List.mem_cons, List.not_mem_nil, or_false] at hw
    rcases hw with rfl | rfl | rfl <;> kernel_rfl
  simp only [things, List.mem_cons, List.not_mem_nil, or_false] at hth
  rcases hth with rfl | rfl | rfl | rfl | rfl | rfl | rfl | rfl | rfl | rfl | rfl | rfl | rfl <;> kernel_rfl
end K00
set_option maxHeartbeats 1000000
namespace K00
open PySem PySem.Spec PyProof.Rows L2 Dv Gr
theorem rng_ret {fs : Dv.Env → M (List D)} {env : Dv.Env} {n : Nat} (h : fs env = ret [.int n]) (hn : n ≤ 1000) : rng1M fs env = ret ((List.range n).map fun i => D.int (0 + Int.ofNat i)) := by
  unfold rng1M
  rw [h, bind_ret]
  show lift (if okR (n : Int) = true then some (intsD 0 (n : Int).toNat) else none) = _
  rw [if_pos (show okR (n : Int) = true from by unfold okR; exact decide_eq_true ⟨by omega, by omega⟩), lift_some]
  rfl
theorem cons1 {f : Dv.Env → M D} {env : Dv.Env} {d : D} (h : f env = ret d) : consA f nilA env = ret [d] := cons_ret h rfl
theorem law_ok (ns : List Int) (δ : Dice) (h : ns.length ≤ 63) : ∃ δ', t_law [.scr ns] δ = .ok (.bl true) δ' := by
  suffices hs : t_law [.scr ns] = Dv.ret (.bl true) from ⟨δ, by rw [hs]; rfl⟩
  unfold t_law m_law
  refine fn_of rfl ?_
  show seqS _ _ [.dt (.scr ns), .no] = _
  obtain ⟨l, hl, rg⟩ : ∃ l : Nat, l ≤ 4 ∧ rng1M (consA (calM D.max2 (consA (kc (.int 1)) (consA (calM D.min2 (consA (kc (.int 4)) (consA (calM D.len (consA (vr 0) (nilA))) (nilA)))) (nilA)))) (nilA)) (vw [.dt (.scr ns), .no]) = Dv.ret ((List.range l).map fun i => D.int (0 + Int.ofNat i)) := by
    have mn : ∃ k : Nat, D.min2 [.int 4, .int ns.length] = some (.int k) ∧ k ≤ 4 := by
      refine ⟨min 4 ns.length, ?_, by omega⟩
      show some (D.int _) = _
      congr 2
      split <;> omega
    obtain ⟨k, mn, hk⟩ := mn
    have mx : ∃ l : Nat, D.max2 [.int 1, .int k] = some (.int l) ∧ l ≤ 4 := by
      refine ⟨max 1 k, ?_, by omega⟩
      show some (D.int _) = _
      congr 2
      split <;> omega
    obtain ⟨l, mx, hl⟩ := mx
    exact ⟨l, hl, rng_ret (cons1 (cal_ret (cons_ret rfl (cons1 (cal_ret (cons_ret rfl (cons1 (cal_ret (cons1 rfl) rfl))) mn))) mx)) (by omega)⟩
  obtain ⟨e', q1, ⟨s1, rfl⟩⟩ := fo_run (t := .nm 1) (F := ifS (notT (asB (rdM 2 t_l_dice t_l_right (consA (vr 0) (consA (vr 1) (nilA)))))) (retS (kc (.bl false))) (nilS)) (f := fun i : Nat => D.int (0 + Int.ofNat i)) (I := fun _ e => ∃ s1, e = [.dt (.scr ns), s1]) (List.range l) [.dt (.scr ns), .no] ⟨_, rfl⟩ (by
    rintro i rest e hi ⟨s1, rfl⟩
    have hi := List.mem_range.mp hi
    refine ⟨_, [.dt (.scr ns), .dt (.int i)], tg_nm, ?_, _, rfl⟩
    rw [show (0 + Int.ofNat i) = (i : Int) by rw [Int.zero_add]; rfl]
    show ifS _ _ _ [.dt (.scr ns), .dt (.int i)] = _
    obtain ⟨a, b, hd⟩ := Lb.dice_ok ns i (by omega)
    have hr : rdM 2 t_l_dice t_l_right (consA (vr 0) (consA (vr 1) nilA)) (va [.dt (.scr ns), .dt (.int i)]) = Dv.ret (.bl true) := by
      obtain ⟨r, δ', e, _, _, hr⟩ := right_run (a, b, 0) (Int.le_refl 0) (show (0 : Int) + ((3 : Nat) : Int) ≤ 1000000000 by decide)
      subst hr
      unfold rdM
      rw [show consA (vr 0) (consA (vr 1) nilA) (va [.dt (.scr ns), .dt (.int i)]) = Dv.ret [.scr ns, .int i] from cons_ret rfl (cons1 rfl), bind_ret, if_pos (show [D.scr ns, D.int (i : Int)].length = 2 from rfl), show t_l_dice [.scr ns, .int i] = Dv.ret [.int a, .int b, .int 0] from hd, bind_ret]
      show (fun δ => match t_l_right [.dice] (a, b, 0) with
        | .ok d _ => if d.scal then R.ok d δ else .bad
        | _ => .bad) = _
      rw [e]
      rfl
    unfold ifS
    rw [notT_ret (asB_ret hr), bind_ret, if_neg (by simp)]
    rfl)
  rw [seq_for, rg, bind_ret, q1, bind_ret]
  show retS _ [.dt (.scr ns), s1] = _
  exact ret_ret (by kernel_rfl)
end K00
set_option maxHeartbeats 0
open PySem PySem.W PySem.Calls PyProof.Rows
theorem PySem.Challenge.cw_chosentrees_k00_errors_and_what_they_kee_holds : PySem.Challenge.rw_chosentrees_k00_errors_and_what_they_kee.Holds := by
  w_on; o_law
  refine HandSHeadRun.head_any (r := K00.R) (q := PySem.W.view K00.R.prog [23]) (H := K00.asked.hook 6) (ob := fun s => K00.asked.obs 6 (HandSHeadRun.getT s)) (M := 6000) (loose := K00.loose) (d := HandSHeadRun.topDef K00.R.prog 23) (kwd := []) (fun _ => Dv.Ask2.obs_eq)
    (by kernel_rfl) (fun s => by kernel_rfl) K00.run (by kernel_rfl) (by kernel_rfl) (by kernel_rfl) (by rfl) (by first | assumption | decide +kernel) (by decide +kernel) ⟨rfl, rfl, rfl, rfl, rfl, by decide +kernel⟩ ?hw ?hc
  case hw => w_witness2
  case hc =>
    refine Dv.walk_G (l := PySem.Challenge.rw_chosentrees_k00_errors_and_what_they_kee) (n := 63) (k := 4) (x := "_law_script") rfl (by decide) (by kernel_rfl) K00.room fun w mg fa h Y G hmg0 => ?_
    obtain ⟨K, X, S⟩ := Y
    obtain ⟨a, e0, bind, hT⟩ := K00.facts S X G
    have hmg : mg ("law" : PySem.Str) = some (.ref fa) := by
      have e : (HandSHeadRun.topDef K00.R.prog 23).name = ("law" : PySem.Str) := by kernel_rfl
      rw [← e]
      exact hmg0
    have hfa : fa = a.law := by
      have := hmg.symm.trans (He.glo_ok X G (S.d.fact 6 rfl))
      rw [e0]
      cases this
      rfl
    subst hfa
    refine ⟨K, a.d_law, K00.asked.tf.map (He.cT K), K00.cm a, K00.tbl a, K00.t_law, X, fun p hp => ?_, fun p hp => ?_, fun p hp => ?_, fun p hp => ?_, bind, fun ns hl δ => K00.law_ok ns δ hl, fun base hb hn TB => K00.ok_law (hT base TB)⟩
    · obtain ⟨z, hz, rfl⟩ := List.mem_map.mp hp
      exact (S.tab z hz).2.2
    · obtain ⟨z, hz, rfl⟩ := List.mem_map.mp hp
      exact (S.tab z hz).2.1
    · obtain ⟨z, hz, rfl⟩ := List.mem_map.mp hp
      exact PySem.W.codeHd_of_K X (S.tab z hz).1
    · exact absurd hp (by simp [K00.tbl])

