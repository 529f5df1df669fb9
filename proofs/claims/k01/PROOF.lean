import PyProof.Rows.All
import Wide.All
import OpenK.AllK
import Wide.FinOn
import HandS.ForMost
import HandS.Exc
import HandS.TryOnly
import HandS.TryMany
import HandS.ExcOwn
import HandS.WordsExc
import HandS.Codes
import HandS.IsInst
import HandS.Deep
import HandS.TupAny
import HandS.Wide
import HandS.Evl
import HandS.Lambda
import HandS.RaiseMore
import KE.DataCmp
import HandS.TupMul
import KE.KExcSuper
import KE.KSuper
import HandS.FStr
import HandS.EndTab
import HandS.Head0
import HandS.Head1
import HandS.Head2
import HandS.HeadHook1
import HandS.HeadHook2
import HandS.HeadHook3
import HandS.HeadHook4
import HandS.HeadEnd
import KE.SortData
import KE.DatumOrd
import PySem.Challenge.RW_chosentrees_k01_symbols_and_rows_of_term
set_option Elab.async false
set_option linter.all false
set_option maxRecDepth 100000
set_option maxHeartbeats 4000000
namespace Dv
open PySem PySem.Spec PyProof.Rows L2

inductive D where
  | non | bl (b : Bool) | int (i : Int) | str (x : Str) | tup (xs : List D) | lst (xs : List D) | dic (kvs : List (D × D)) | ref (a : Addr) | ty (n : String) | dice | scr (ns : List Int)

/-- the address of the dice, the tables of code objects that may grow -/
structure Da where
  ad : Option Addr
  tb : List (Addr × Str)
  kn : Hp → Prop
  km : ∀ H H', Evl.Ex H H' → kn H → kn H'

def dK : Key → D
  | .inl i => .int i
  | .inr x => .str x

mutual
inductive Rp (K : PySem.W.Frag) (ad : Option Addr) (H : Hp) : V → D → Prop
  | non : Rp K ad H .non .non
  | bl (b : Bool) : Rp K ad H (.bl b) (.bl b)
  | int (i : Int) : Rp K ad H (.int i) (.int i)
  | str (x : Str) : Rp K ad H (.str x) (.str x)
  | lst {a : Addr} {xs : List V} {ds : List D} : H a = some (.lst xs) → RpL K ad H xs ds → Rp K ad H (.ref a) (.lst ds)
  | tup {a : Addr} {xs : List V} {ds : List D} : SqT K H a xs → RpL K ad H xs ds → Rp K ad H (.ref a) (.tup ds)
  | dic {a : Addr} {kvs : List (Key × V)} {es : List (D × D)} : Rd H a (.dK kvs) → RpK K ad H kvs es → Rp K ad H (.ref a) (.dic es)
  | ref (a : Addr) : Rp K ad H (.ref a) (.ref a)
  | ty (n : String) : Rp K ad H (.ty n) (.ty n)
  | dice {a : Addr} : ad = some a → Rp K ad H (.ref a) .dice
  | scr {a : Addr} {ns : List Int} : SqL K H a (ns.map V.int) → Rp K ad H (.ref a) (.scr ns)
inductive RpL (K : PySem.W.Frag) (ad : Option Addr) (H : Hp) : List V → List D → Prop
  | nil : RpL K ad H [] []
  | cons {v : V} {vs : List V} {d : D} {ds : List D} : Rp K ad H v d → RpL K ad H vs ds → RpL K ad H (v :: vs) (d :: ds)
inductive RpK (K : PySem.W.Frag) (ad : Option Addr) (H : Hp) : List (Key × V) → List (D × D) → Prop
  | nil : RpK K ad H [] []
  | cons {k : Key} {v : V} {vs : List (Key × V)} {d : D} {ds : List (D × D)} : Rp K ad H v d → RpK K ad H vs ds → RpK K ad H ((k, v) :: vs) ((dK k, d) :: ds)
end

abbrev Ex := Evl.Ex
section
variable {K : PySem.W.Frag} {ad : Option Addr} {H H' : Hp}
theorem ex_rd (e : Ex H H') {a : Addr} {u : HO} (h : Rd H a u) : Rd H' a u := Evl.ex_rd e h
mutual
theorem Rp.mono (e : Ex H H') : ∀ {v : V} {d : D}, Rp K ad H v d → Rp K ad H' v d
  | _, _, .non => .non
  | _, _, .bl b => .bl b
  | _, _, .int i => .int i
  | _, _, .str x => .str x
  | _, _, .lst h r => .lst (e _ _ h) (RpL.mono e r)
  | _, _, .tup h r => .tup (Evl.ex_t e h) (RpL.mono e r)
  | _, _, .dic h r => .dic (ex_rd e h) (RpK.mono e r)
  | _, _, .ref a => .ref a
  | _, _, .ty n => .ty n
  | _, _, .dice h => .dice h
  | _, _, .scr h => .scr (Evl.ex_l e h)
theorem RpL.mono (e : Ex H H') : ∀ {v : List V} {d : List D}, RpL K ad H v d → RpL K ad H' v d
  | _, _, .nil => .nil
  | _, _, .cons h r => .cons (Rp.mono e h) (RpL.mono e r)
theorem RpK.mono (e : Ex H H') : ∀ {v : List (Key × V)} {d : List (D × D)}, RpK K ad H v d → RpK K ad H' v d
  | _, _, .nil => .nil
  | _, _, .cons h r => .cons (Rp.mono e h) (RpK.mono e r)
end
theorem RpL.length : ∀ {vs : List V} {ds : List D}, RpL K ad H vs ds → vs.length = ds.length
  | _, _, .nil => rfl
  | _, _, .cons _ r => by simp [RpL.length r]
theorem RpL.get : ∀ {vs : List V} {ds : List D} {i : Nat} {d : D}, RpL K ad H vs ds → ds[i]? = some d → ∃ v, vs[i]? = some v ∧ Rp K ad H v d
  | _, _, _, _, .nil, e => by simp at e
  | _, _, 0, _, .cons r _, e => by simp at e; subst e; exact ⟨_, rfl, r⟩
  | _, _, i + 1, d, .cons _ t, e => by
    obtain ⟨u, h1, h2⟩ := RpL.get (i := i) (d := d) t (by simpa using e)
    exact ⟨u, by simpa using h1, h2⟩
theorem RpL.append : ∀ {vs ws : List V} {ds es : List D}, RpL K ad H vs ds → RpL K ad H ws es → RpL K ad H (vs ++ ws) (ds ++ es)
  | _, _, _, _, .nil, s => s
  | _, _, _, _, .cons r t, s => .cons r (RpL.append t s)
theorem RpL.drop : ∀ {vs : List V} {ds : List D} (n : Nat), RpL K ad H vs ds → RpL K ad H (vs.drop n) (ds.drop n)
  | _, _, 0, r => r
  | _, _, _ + 1, .nil => .nil
  | _, _, n + 1, .cons _ t => RpL.drop n t
theorem RpL.take : ∀ {vs : List V} {ds : List D} (n : Nat), RpL K ad H vs ds → RpL K ad H (vs.take n) (ds.take n)
  | _, _, 0, _ => .nil
  | _, _, _ + 1, .nil => .nil
  | _, _, n + 1, .cons r t => .cons r (RpL.take n t)
end

/-! ### the mirror's monad -/
abbrev Dice := Int × Int × Int
inductive R (α : Type) where
  | ok (a : α) (δ : Dice)
  | exc (c : Nat) (fs : List (Str × D)) (δ : Dice)
  | bad
def M (α : Type) : Type := Dice → R α
def ret {α : Type} (a : α) : M α := fun δ => .ok a δ
def bind {α β : Type} (m : M α) (f : α → M β) : M β := fun δ => match m δ with
  | .ok a δ' => f a δ'
  | .exc c fs δ' => .exc c fs δ'
  | .bad => .bad
def bad {α : Type} : M α := fun _ => .bad
def lift {α : Type} (o : Option α) : M α := fun δ => match o with
  | some a => .ok a δ
  | none => .bad

theorem bind_ret {α β : Type} (a : α) (f : α → M β) : bind (ret a) f = f a := rfl
theorem ret_bind {α : Type} (m : M α) : bind m ret = m := by
  funext δ; unfold bind ret; cases m δ <;> rfl
theorem bind_bind {α β γ : Type} (m : M α) (f : α → M β) (g : β → M γ) : bind (bind m f) g = bind m fun a => bind (f a) g := by
  funext δ; unfold bind; cases m δ <;> rfl
theorem lift_some {α : Type} (a : α) : lift (some a) = ret a := rfl

/-! ### what the abstract heap knows, and how it goes on -/
/-- a list or a dict -/
def Mut (o : HO) : Prop := (∃ xs, o = .lst xs) ∨ (∃ ks, o = .dK ks)
theorem Mut.lst (xs : List V) : Mut (.lst xs) := .inl ⟨xs, rfl⟩
theorem Mut.dK (xs : List (Key × V)) : Mut (.dK xs) := .inr ⟨xs, rfl⟩
theorem Mut.ntb {o : HO} (m : Mut o) : ∀ ps, o ≠ .tbl ps := fun ps z => by
  rcases m with ⟨xs, e⟩ | ⟨xs, e⟩ <;> (rw [e] at z; cases z)
/-- there, and a list or a dict -/
def Mu (H : Hp) (b : Addr) : Prop := ∃ o, H b = some o ∧ Mut o
theorem Mu.ex {H H' : Hp} {b : Addr} (h : Mu H b) (e : Evl.Ex H H') : Mu H' b := by
  obtain ⟨o, q, n⟩ := h
  exact ⟨o, e _ _ q, n⟩
theorem Mu.ne {H : Hp} {b : Addr} (h : Mu H b) : H b ≠ none := by
  obtain ⟨o, e, _⟩ := h
  rw [e]; exact fun z => nomatch z
/-- there, and no table of code objects -/
def Nt (H : Hp) (b : Addr) : Prop := ∃ o, H b = some o ∧ ∀ ps, o ≠ .tbl ps
theorem Mu.nt {H : Hp} {b : Addr} (h : Mu H b) : Nt H b := by
  obtain ⟨o, e, m⟩ := h
  exact ⟨o, e, m.ntb⟩
theorem Nt.ne {H : Hp} {b : Addr} (h : Nt H b) : H b ≠ none := by
  obtain ⟨o, e, _⟩ := h
  rw [e]; exact fun z => nomatch z
theorem Nt.ex {H H' : Hp} {b : Addr} (h : Nt H b) (e : Evl.Ex H H') : Nt H' b := by
  obtain ⟨o, q, n⟩ := h
  exact ⟨o, e _ _ q, n⟩
theorem Nt.no {H : Hp} {b : Addr} (h : H b = none) : ¬ Nt H b := fun z => z.ne h
structure At (da : Da) (Hk H : Hp) (δ : Dice) : Prop where
  ex : Ex Hk H
  di : ∀ a, da.ad = some a → Hk a = none ∧ H a = some (.lst [.int δ.1, .int δ.2.1, .int δ.2.2])
  tb : LamX.Tabs da.tb H
  kn : da.kn Hk
  nt : ∀ b ps, Hk b ≠ some (.tbl ps)
structure Stp (da : Da) (Hk H Hk' H' : Hp) : Prop where
  kn : Ex Hk Hk'
  fr : ∀ b, Mu H b → Hk b = none → Hk' b = none
  ke : ∀ b o, H b = some o → da.ad ≠ some b → (∀ ps, o ≠ .tbl ps) → H' b = some o
  th : ∀ b, Nt H b → Nt H' b
  tm : ∀ b, Mu H b → Mu H' b
theorem Stp.refl (da : Da) (Hk H : Hp) : Stp da Hk H Hk H := ⟨Evl.Ex.refl _, fun _ _ h => h, fun _ _ h _ _ => h, fun _ h => h, fun _ h => h⟩
theorem Stp.trans {da : Da} {Hk H Hk1 H1 Hk2 H2 : Hp} (a : Stp da Hk H Hk1 H1) (b : Stp da Hk1 H1 Hk2 H2) : Stp da Hk H Hk2 H2 :=
  ⟨a.kn.trans b.kn, fun c h n => b.fr c (a.tm c h) (a.fr c h n), fun c o h n t => b.ke c o (a.ke c o h n t) n t, fun c h => b.th c (a.th c h), fun c h => b.tm c (a.tm c h)⟩
/-- .. that leaves all that is tracked, the dice too -/
structure Stq (Hk H Hk' H' : Hp) : Prop where
  kn : Ex Hk Hk'
  fr : ∀ b, H b ≠ none → Hk b = none → Hk' b = none
  ke : Ex H H'
  kk : Ex Hk' H'
  nt : (∀ b ps, Hk b ≠ some (.tbl ps)) → ∀ b ps, Hk' b ≠ some (.tbl ps)
theorem Stq.stp {da : Da} {Hk H Hk' H' : Hp} (a : Stq Hk H Hk' H') : Stp da Hk H Hk' H' :=
  ⟨a.kn, fun b h n => a.fr b h.ne n, fun c o h _ _ => a.ke c o h, fun c h => h.ex a.ke, fun c h => h.ex a.ke⟩
theorem Stq.at_ {da : Da} {Hk H Hk' H' : Hp} {δ : Dice} (a : Stq Hk H Hk' H') (t : At da Hk H δ) : At da Hk' H' δ :=
  ⟨a.kk, fun b e => by
    obtain ⟨n, h⟩ := t.di b e
    exact ⟨a.fr b (by rw [h]; exact fun z => nomatch z) n, a.ke b _ h⟩, t.tb.ext a.ke, da.km _ _ a.kn t.kn, a.nt t.nt⟩
theorem Stq.refl {Hk H : Hp} (e : Ex Hk H) : Stq Hk H Hk H := ⟨Evl.Ex.refl _, fun _ _ h => h, Evl.Ex.refl _, e, fun h => h⟩
/-- a new object, known from now on -/
theorem Stq.new {Hk H : Hp} {p : Addr} {o : HO} (e : Ex Hk H) (h : H p = none) (ho : ∀ ps, o ≠ .tbl ps := by intro _ z; cases z) : Stq Hk H (upd Hk p o) (upd H p o) := by
  have hk : Hk p = none := by
    cases q : Hk p with
    | none => rfl
    | some u => rw [e p u q] at h; cases h
  refine ⟨Evl.Ex.new hk, fun b hb n => ?_, Evl.Ex.new h, fun b u q => ?_, fun nt b ps q => ?_⟩
  · have : b ≠ p := fun z => by rw [z] at hb; exact hb h
    rw [upd_ne this]; exact n
  · by_cases z : b = p
    · subst z; rw [upd_same] at q ⊢; exact q
    · rw [upd_ne z] at q ⊢; exact e b u q
  · by_cases z : b = p
    · subst z; rw [upd_same] at q; exact ho ps (Option.some.inj q)
    · rw [upd_ne z] at q; exact nt b ps q
theorem Stq.trans {Hk H Hk1 H1 Hk2 H2 : Hp} (a : Stq Hk H Hk1 H1) (b : Stq Hk1 H1 Hk2 H2) : Stq Hk H Hk2 H2 :=
  ⟨a.kn.trans b.kn, fun c h n => b.fr c (fun z => by
    cases e : H c with
    | none => exact h e
    | some o => rw [a.ke c o e] at z; cases z) (a.fr c h n), a.ke.trans b.ke, b.kk, fun h => b.nt (a.nt h)⟩

/-- how an exception's own dict lies -/
def Xr (K : PySem.W.Frag) (ad : Option Addr) (Hk : Hp) (dd : Option Addr) : List (Str × D) → Prop
  | [] => True
  | fs => ∃ a ws, dd = some a ∧ Hk a = some (.xd ws) ∧ ws.map (·.1) = fs.map (·.1) ∧ RpL K ad Hk (ws.map (·.2)) (fs.map (·.2))

/-- what a run that ends as r wants: k of a value, w of an exception -/
def Fin {α : Type} (K : PySem.W.Frag) (da : Da) (cm : Nat → Addr) (r : R α) (Hk H : Hp) (k : α → Dice → Prop) (w : Value → Option Addr → Hp → Prop) : Prop :=
  match r with
  | .ok a δ => k a δ
  | .exc c fs δ => ∀ dd Hk' H', Stp da Hk H Hk' H' → At da Hk' H' δ → Xr K da.ad Hk' dd fs → w (.ref (cm c)) dd H'
  | .bad => False

abbrev Env := List (Option D)
def EnvR (K : PySem.W.Frag) (da : Da) (Hk : Hp) (σ : L2.St) (env : Env) : Prop :=
  env.length ≤ σ.length ∧ ∀ (i : Nat) (d : D), env[i]? = some (some d) → ∃ v, σ[i]? = some (some v) ∧ Rp K da.ad Hk v d
theorem EnvR.mono {K : PySem.W.Frag} {da : Da} {Hk Hk' : Hp} {σ : L2.St} {env : Env} (h : EnvR K da Hk σ env) (e : Ex Hk Hk') : EnvR K da Hk' σ env := ⟨h.1, fun i d hi => by
  obtain ⟨v, h1, h2⟩ := h.2 i d hi
  exact ⟨v, h1, h2.mono e⟩⟩

/-- the reading of an expression whose mirror is f -/
def tEv (K : PySem.W.Frag) (da : Da) (cm : Nat → Addr) (W : WX) (f : Env → M D) : TE := fun σ H Q => ∃ Hk env δ, At da Hk H δ ∧ EnvR K da Hk σ env ∧
  Fin K da cm (f env δ) Hk H (fun d δ' => ∀ v Hk' H', Stp da Hk H Hk' H' → At da Hk' H' δ' → Rp K da.ad Hk' v d → Q v H') (fun c dd H' => W c dd σ H')
def tTv (K : PySem.W.Frag) (da : Da) (cm : Nat → Addr) (W : WX) (f : Env → M Bool) : TT := fun σ H Q => ∃ Hk env δ, At da Hk H δ ∧ EnvR K da Hk σ env ∧
  Fin K da cm (f env δ) Hk H (fun b δ' => ∀ Hk' H', Stp da Hk H Hk' H' → At da Hk' H' δ' → Q b H') (fun c dd H' => W c dd σ H')
def tAv (K : PySem.W.Frag) (da : Da) (cm : Nat → Addr) (W : WX) (f : Env → M (List D)) : TA := fun σ H Q => ∃ Hk env δ, At da Hk H δ ∧ EnvR K da Hk σ env ∧
  Fin K da cm (f env δ) Hk H (fun ds δ' => ∀ vs Hk' H', Stp da Hk H Hk' H' → At da Hk' H' δ' → RpL K da.ad Hk' vs ds → Q vs H') (fun c dd H' => W c dd σ H')

/-! ### an expression, then more -/
section
variable {K : PySem.W.Frag} {da : Da} {cm : Nat → Addr} {W : WX} {σ : L2.St} {H Hk : Hp} {env : Env} {δ : Dice}
/-- the tail of a run from a later state -/
theorem Fin.later {α : Type} {r : R α} {Hk' H' : Hp} {k k' : α → Dice → Prop} {w : Value → Option Addr → Hp → Prop} (h : Fin K da cm r Hk H k w) (s : Stp da Hk H Hk' H') (hk : ∀ a δ', k a δ' → k' a δ') : Fin K da cm r Hk' H' k' w := by
  cases r with
  | ok a δ => exact hk _ _ h
  | exc c fs δ => exact fun dd Hk2 H2 s2 a2 x2 => h dd Hk2 H2 (s.trans s2) a2 x2
  | bad => exact h
theorem Fin.bind {α β : Type} {m : M α} {g : α → M β} {k : β → Dice → Prop} {w : Value → Option Addr → Hp → Prop} (h : Fin K da cm (bind m g δ) Hk H k w) :
    Fin K da cm (m δ) Hk H (fun a δ' => Fin K da cm (g a δ') Hk H k w) w := by
  unfold Dv.bind at h
  cases e : m δ with
  | ok a δ' => rw [e] at h; exact h
  | exc c fs δ' => rw [e] at h; exact h
  | bad => rw [e] at h; exact h
theorem Fin.mono {α : Type} {r : R α} {k k' : α → Dice → Prop} {w : Value → Option Addr → Hp → Prop} (h : Fin K da cm r Hk H k w) (hk : ∀ a δ', k a δ' → k' a δ') : Fin K da cm r Hk H k' w := h.later (Stp.refl _ _ _) hk
/-- run f, then what is wanted goes on with its value -/
theorem tEv.seq {f : Env → M D} {β : Type} {g : D → M β} {k : β → Dice → Prop} (hA : At da Hk H δ) (hE : EnvR K da Hk σ env)
    (h : Fin K da cm (Dv.bind (f env) g δ) Hk H k (fun c dd H' => W c dd σ H')) {Q : VK}
    (hq : ∀ v d δ' Hk' H', Stp da Hk H Hk' H' → At da Hk' H' δ' → EnvR K da Hk' σ env → Rp K da.ad Hk' v d → Fin K da cm (g d δ') Hk' H' k (fun c dd H' => W c dd σ H') → Q v H') : tEv K da cm W f σ H Q :=
  ⟨Hk, env, δ, hA, hE, h.bind.mono fun d δ' hg v Hk' H' s a r => hq v d δ' Hk' H' s a (hE.mono s.kn) r (hg.later s fun _ _ z => z)⟩
theorem tTv.seq {f : Env → M Bool} {β : Type} {g : Bool → M β} {k : β → Dice → Prop} (hA : At da Hk H δ) (hE : EnvR K da Hk σ env)
    (h : Fin K da cm (Dv.bind (f env) g δ) Hk H k (fun c dd H' => W c dd σ H')) {Q : Bool → Hp → Prop}
    (hq : ∀ b δ' Hk' H', Stp da Hk H Hk' H' → At da Hk' H' δ' → EnvR K da Hk' σ env → Fin K da cm (g b δ') Hk' H' k (fun c dd H' => W c dd σ H') → Q b H') : tTv K da cm W f σ H Q :=
  ⟨Hk, env, δ, hA, hE, h.bind.mono fun d δ' hg Hk' H' s a => hq d δ' Hk' H' s a (hE.mono s.kn) (hg.later s fun _ _ z => z)⟩
theorem tAv.seq {f : Env → M (List D)} {β : Type} {g : List D → M β} {k : β → Dice → Prop} (hA : At da Hk H δ) (hE : EnvR K da Hk σ env)
    (h : Fin K da cm (Dv.bind (f env) g δ) Hk H k (fun c dd H' => W c dd σ H')) {Q : List V → Hp → Prop}
    (hq : ∀ vs ds δ' Hk' H', Stp da Hk H Hk' H' → At da Hk' H' δ' → EnvR K da Hk' σ env → RpL K da.ad Hk' vs ds → Fin K da cm (g ds δ') Hk' H' k (fun c dd H' => W c dd σ H') → Q vs H') : tAv K da cm W f σ H Q :=
  ⟨Hk, env, δ, hA, hE, h.bind.mono fun d δ' hg v Hk' H' s a r => hq v d δ' Hk' H' s a (hE.mono s.kn) r (hg.later s fun _ _ z => z)⟩
end
end Dv
set_option maxHeartbeats 4000000
namespace Dv
open PySem PySem.Spec PyProof.Rows L2

theorem PE.imp {X : Cx} {e : Expr} {t t' : TE} (h : PE X e t) (i : ∀ σ H Q, t' σ H Q → t σ H Q) : PE X e t' := ⟨fun pins s σ H Q I q => h.run pins s σ H Q I (i _ _ _ q)⟩
theorem PT.imp {X : Cx} {e : Expr} {t t' : TT} (h : PT X e t) (i : ∀ σ H Q, t' σ H Q → t σ H Q) : PT X e t' := ⟨fun pins s σ H Q I q => h.run pins s σ H Q I (i _ _ _ q)⟩
theorem PW.imp {X : Cx} {e : Expr} {t t' : TT} (h : PW X e t) (i : ∀ σ H Q, t' σ H Q → t σ H Q) : PW X e t' := ⟨fun wh pins s σ H Q I q => h.run wh pins s σ H Q I (i _ _ _ q)⟩
theorem PA.imp {X : Cx} {es : List Expr} {t t' : TA} (h : PA X es t) (i : ∀ σ H Q, t' σ H Q → t σ H Q) : PA X es t' := ⟨fun pos pins s σ H Q I q => h.run pos pins s σ H Q I (i _ _ _ q)⟩

abbrev PEv (X : Cx) (da : Da) (cm : Nat → Addr) (W : WX) (e : Expr) (f : Env → M D) : Prop := PE X e (tEv X.K da cm W f)
abbrev PTv (X : Cx) (da : Da) (cm : Nat → Addr) (W : WX) (e : Expr) (f : Env → M Bool) : Prop := PT X e (tTv X.K da cm W f)
abbrev PWv (X : Cx) (da : Da) (cm : Nat → Addr) (W : WX) (e : Expr) (f : Env → M Bool) : Prop := PW X e (tTv X.K da cm W f)
abbrev PAv (X : Cx) (da : Da) (cm : Nat → Addr) (W : WX) (es : List Expr) (f : Env → M (List D)) : Prop := PA X es (tAv X.K da cm W f)

/-- what is wanted of a value z that comes from Hk, H: new things may have been laid -/
def Gv (K : PySem.W.Frag) (da : Da) (Hk H : Hp) (z : D) (Q : VK) : Prop := ∀ v Hk' H', Stq Hk H Hk' H' → Rp K da.ad Hk' v z → Q v H'
def Rop (K : PySem.W.Frag) (da : Da) (r : R2) (g : D → D → Option D) : Prop :=
  ∀ (Hk H : Hp) (x y : V) (d e z : D) (Q : VK), Ex Hk H → Rp K da.ad Hk x d → Rp K da.ad Hk y e → g d e = some z → Gv K da Hk H z Q → r x y H Q
def OpD (X : Cx) (da : Da) (f : Value → Value → Sem Value) (g : D → D → Option D) : Prop := ∃ r, OpR X f r ∧ Rop X.K da r g
def IxD (X : Cx) (da : Da) (g : D → D → Option D) : Prop := ∃ r, IxR X r ∧ Rop X.K da r g
def Rcl (K : PySem.W.Frag) (da : Da) (r : List V → Hp → VK → Prop) (g : List D → Option D) : Prop :=
  ∀ (Hk H : Hp) (xs : List V) (ds : List D) (z : D) (Q : VK), Ex Hk H → RpL K da.ad Hk xs ds → g ds = some z → Gv K da Hk H z Q → r xs H Q
def CalD (X : Cx) (da : Da) (f : Value) (g : List D → Option D) : Prop := ∃ r, CallR X f r ∧ Rcl X.K da r g
def Rmt (K : PySem.W.Frag) (da : Da) (r : V → List V → Hp → VK → Prop) (g : D → List D → Option D) : Prop :=
  ∀ (Hk H : Hp) (x : V) (xs : List V) (d : D) (ds : List D) (z : D) (Q : VK), Ex Hk H → Rp K da.ad Hk x d → RpL K da.ad Hk xs ds → g d ds = some z → Gv K da Hk H z Q → r x xs H Q

section
variable {K : PySem.W.Frag} {da : Da} {cm : Nat → Addr} {W : WX} {σ : L2.St} {H Hk : Hp} {env : Env} {δ : Dice}
theorem Gv.same {z : D} {Q : VK} (h : Gv K da Hk H z Q) (e : Ex Hk H) {v : V} (r : Rp K da.ad Hk v z) : Q v H := h v Hk H (Stq.refl e) r
theorem Gv.tup {xs : List V} {ds : List D} {Q : VK} (h : Gv K da Hk H (.tup ds) Q) (e : Ex Hk H) (r : RpL K da.ad Hk xs ds) {p : Addr} (hp : H p = none) : Q (.ref p) (upd H p (.tup xs)) := by
  have s := Stq.new (o := .tup xs) e hp
  exact h _ _ _ s (.tup (SqT.of upd_same) (r.mono s.kn))
theorem Gv.lst {xs : List V} {ds : List D} {Q : VK} (h : Gv K da Hk H (.lst ds) Q) (e : Ex Hk H) (r : RpL K da.ad Hk xs ds) {p : Addr} (hp : H p = none) : Q (.ref p) (upd H p (.lst xs)) := by
  have s := Stq.new (o := .lst xs) e hp
  exact h _ _ _ s (.lst upd_same (r.mono s.kn))
/-- the end of a reading: a value made out of what was read -/
theorem Fin.lift {o : Option D} {Q : VK} {Hk0 H0 : Hp} {w : Value → Option Addr → Hp → Prop} (hA : At da Hk H δ) (s0 : Stp da Hk0 H0 Hk H)
    (h : Fin K da cm (Dv.lift o δ) Hk H (fun d δ' => ∀ v Hk' H', Stp da Hk0 H0 Hk' H' → At da Hk' H' δ' → Rp K da.ad Hk' v d → Q v H') w) : ∃ z, o = some z ∧ Gv K da Hk H z Q := by
  cases o with
  | none => exact h.elim
  | some z => exact ⟨z, rfl, fun v Hk' H' s r => h v Hk' H' (s0.trans s.stp) (s.at_ hA) r⟩
end

section
variable {X : Cx} {da : Da} {cm : Nat → Addr} {W : WX} {pos : Pos}
/-! ### names, constants -/
def vr (i : Nat) : Env → M D := fun env => lift (env[i]?).join
def kc (d : D) : Env → M D := fun _ => ret d
theorem ev_var {i : Nat} {x : Str} (h : PE X (.Name x pos) (tVar i)) : PEv X da cm W (.Name x pos) (vr i) := PE.imp h fun σ H Q ⟨Hk, env, δ, hA, hE, q⟩ => by
  unfold vr at q
  obtain ⟨z, hz, g⟩ := Fin.lift hA (Stp.refl _ _ _) q
  have : env[i]? = some (some z) := by
    cases e : env[i]? with
    | none => rw [e] at hz; cases hz
    | some o => rw [e] at hz; simp at hz; rw [hz]
  obtain ⟨v, h1, h2⟩ := hE.2 i z this
  exact ⟨v, h1, g.same hA.ex h2⟩
theorem ev_c {e : Expr} {v : V} {d : D} (h : PE X e (tC v)) (r : ∀ Hk, Rp X.K da.ad Hk v d) : PEv X da cm W e (kc d) := PE.imp h fun σ H Q ⟨Hk, env, δ, hA, hE, q⟩ => q v Hk H (Stp.refl _ _ _) hA (r Hk)
theorem ev_int {i j} : PEv X da cm W (.Constant (.int i) j pos) (kc (.int i)) := ev_c pe_int fun _ => .int i
theorem ev_bl {b j} : PEv X da cm W (.Constant (.bool b) j pos) (kc (.bl b)) := ev_c pe_bl fun _ => .bl b
theorem ev_non {j} : PEv X da cm W (.Constant .none j pos) (kc .non) := ev_c pe_non fun _ => .non
theorem ev_str {x j} : PEv X da cm W (.Constant (.str x) j pos) (kc (.str x)) := ev_c pe_str fun _ => .str x

/-! ### operators -/
def opM (g : D → D → Option D) (fa fb : Env → M D) : Env → M D := fun env => bind (fa env) fun x => bind (fb env) fun y => lift (g x y)
variable {a b c e : Expr} {fa fb fc : Env → M D} {g g' : D → D → Option D}
theorem tOp_of {r : R2} (hr : Rop X.K da r g) (σ : L2.St) (H : Hp) (Q : VK) (h : tEv X.K da cm W (opM g fa fb) σ H Q) : tOp r (tEv X.K da cm W fa) (tEv X.K da cm W fb) σ H Q := by
  obtain ⟨Hk, env, δ, hA, hE, q⟩ := h
  refine tEv.seq hA hE q fun x d δ1 Hk1 H1 s1 a1 e1 r1 q1 => tEv.seq a1 e1 q1 fun y e δ2 Hk2 H2 s2 a2 e2 r2 q2 => ?_
  obtain ⟨z, hz, gz⟩ := Fin.lift a2 (s1.trans s2) q2
  exact hr Hk2 H2 x y d e z Q a2.ex (r1.mono s2.kn) r2 hz gz
theorem ev_bin {op : Operator} (ho : OpD X da (binaryOp op) g) (ha : PEv X da cm W a fa) (hb : PEv X da cm W b fb) : PEv X da cm W (.BinOp a op b pos) (opM g fa fb) := by
  obtain ⟨r, h1, h2⟩ := ho
  exact PE.imp (pe_op h1 ha hb) (tOp_of h2)
theorem ev_cmp {op : CmpOp} (ho : OpD X da (compareOp op) g) (ha : PEv X da cm W a fa) (hb : PEv X da cm W b fb) (hm : behindInMarks op b = false) : PEv X da cm W (.Compare a [op] [b] pos) (opM g fa fb) := by
  obtain ⟨r, h1, h2⟩ := ho
  exact PE.imp (pe_cmpR h1 ha hb hm) (tOp_of h2)
theorem ev_ix (ho : IxD X da g) (ha : PEv X da cm W a fa) (hb : PEv X da cm W b fb) (hs : PlainIx b) : PEv X da cm W (.Subscript a b pos) (opM g fa fb) := by
  obtain ⟨r, h1, h2⟩ := ho
  exact PE.imp (pe_ix h1 ha hb hs) (tOp_of h2)
/-- a bool, or nothing -/
def D.bl? : D → Option Bool
  | .bl b => some b
  | _ => none
def asB (f : Env → M D) : Env → M Bool := fun env => bind (f env) fun x => lift x.bl?
theorem Fin.bl {x : D} {v : V} {Hk H : Hp} {β : Type} {gg : Bool → M β} {δ : Dice} {k : β → Dice → Prop} {w : Value → Option Addr → Hp → Prop} (r : Rp X.K da.ad Hk v x) (q : Fin X.K da cm (Dv.bind (Dv.lift x.bl?) gg δ) Hk H k w) :
    ∃ t, v = .bl t ∧ x = .bl t ∧ Fin X.K da cm (gg t δ) Hk H k w := by
  cases x with
  | bl t => cases r; exact ⟨t, rfl, rfl, q⟩
  | _ => exact q.elim
def andM (fa fb : Env → M D) : Env → M D := fun env => bind (fa env) fun x => bind (lift x.bl?) fun t => if t then fb env else ret (.bl false)
def orM (fa fb : Env → M D) : Env → M D := fun env => bind (fa env) fun x => bind (lift x.bl?) fun t => if t then ret (.bl true) else fb env
def notM (fa : Env → M D) : Env → M D := fun env => bind (fa env) fun x => bind (lift x.bl?) fun t => ret (.bl (!t))
theorem ev_one {op : BoolOp} (ha : PEv X da cm W a fa) : PEv X da cm W (.BoolOp op [a] pos) fa := pe_one ha
theorem ev_and {rest : List Expr} (ha : PEv X da cm W a fa) (hb : PEv X da cm W (.BoolOp .And (b :: rest) pos) fb) : PEv X da cm W (.BoolOp .And (a :: b :: rest) pos) (andM fa fb) := PE.imp (pe_and ha hb) fun σ H Q ⟨Hk, env, δ, hA, hE, q⟩ => by
  refine tEv.seq hA hE q fun x d δ1 Hk1 H1 s1 a1 e1 r1 q1 => ?_
  obtain ⟨t, rfl, rfl, q2⟩ := Fin.bl r1 q1
  refine ⟨t, rfl, ?_⟩
  cases t with
  | true => exact ⟨Hk1, env, δ1, a1, e1, q2.mono fun z δ2 k v Hk' H' s => k v Hk' H' (s1.trans s)⟩
  | false => exact q2 _ Hk1 H1 s1 a1 (.bl false)
theorem ev_or {rest : List Expr} (ha : PEv X da cm W a fa) (hb : PEv X da cm W (.BoolOp .Or (b :: rest) pos) fb) : PEv X da cm W (.BoolOp .Or (a :: b :: rest) pos) (orM fa fb) := PE.imp (pe_or ha hb) fun σ H Q ⟨Hk, env, δ, hA, hE, q⟩ => by
  refine tEv.seq hA hE q fun x d δ1 Hk1 H1 s1 a1 e1 r1 q1 => ?_
  obtain ⟨t, rfl, rfl, q2⟩ := Fin.bl r1 q1
  refine ⟨t, rfl, ?_⟩
  cases t with
  | true => exact q2 _ Hk1 H1 s1 a1 (.bl true)
  | false => exact ⟨Hk1, env, δ1, a1, e1, q2.mono fun z δ2 k v Hk' H' s => k v Hk' H' (s1.trans s)⟩
theorem ev_not (ha : PEv X da cm W a fa) : PEv X da cm W (.UnaryOp .Not a pos) (notM fa) := PE.imp (pe_not ha) fun σ H Q ⟨Hk, env, δ, hA, hE, q⟩ => by
  refine tEv.seq hA hE q fun x d δ1 Hk1 H1 s1 a1 e1 r1 q1 => ?_
  obtain ⟨t, rfl, rfl, q2⟩ := Fin.bl r1 q1
  exact ⟨t, rfl, q2 _ Hk1 H1 s1 a1 (.bl _)⟩
/-- a < b < c -/
def chainM (g g' : D → D → Option D) (fa fb fc : Env → M D) : Env → M D := fun env => bind (fa env) fun x => bind (fb env) fun y => bind (lift ((g x y).bind D.bl?)) fun t => if t then bind (fc env) fun z => lift (g' y z) else ret (.bl false)
theorem tChain_of {r r' : R2} (hr : Rop X.K da r g) (hr' : Rop X.K da r' g') (σ : L2.St) (H : Hp) (Q : VK) (h : tEv X.K da cm W (chainM g g' fa fb fc) σ H Q) :
    tChain r r' (tEv X.K da cm W fa) (tEv X.K da cm W fb) (tEv X.K da cm W fc) σ H Q := by
  obtain ⟨Hk, env, δ, hA, hE, q⟩ := h
  refine tEv.seq hA hE q fun x d δ1 Hk1 H1 s1 a1 e1 r1 q1 => tEv.seq a1 e1 q1 fun y e δ2 Hk2 H2 s2 a2 e2 r2 q2 => ?_
  cases hg : g d e with
  | none => rw [hg] at q2; exact q2.elim
  | some z =>
    rw [hg] at q2
    refine hr Hk2 H2 x y d e z _ a2.ex (r1.mono s2.kn) r2 hg fun v Hk3 H3 s3 r3 => ?_
    cases z with
    | bl t =>
      cases r3
      refine ⟨t, rfl, ?_⟩
      have q3 : Fin X.K da cm ((if t then bind (fc env) fun z => lift (g' e z) else ret (.bl false)) δ2) Hk2 H2 _ _ := q2
      have a3 := s3.at_ a2
      cases t with
      | false => exact q3 _ Hk3 H3 ((s1.trans s2).trans s3.stp) a3 (.bl false)
      | true =>
        refine tEv.seq (k := fun d δ' => ∀ v Hk' H', Stp da Hk H Hk' H' → At da Hk' H' δ' → Rp X.K da.ad Hk' v d → Q v H') a3 (e2.mono s3.kn) (q3.later s3.stp fun _ _ z => z) fun w f δ4 Hk4 H4 s4 a4 e4 r4 q4 => ?_
        obtain ⟨z, hz, gz⟩ := Fin.lift a4 (((s1.trans s2).trans s3.stp).trans s4) q4
        exact hr' Hk4 H4 y w e f z Q a4.ex ((r2.mono s3.kn).mono s4.kn) r4 hz gz
    | _ => exact q2.elim
theorem ev_chain {op op' : CmpOp} (ho : OpD X da (compareOp op) g) (ho' : OpD X da (compareOp op') g') (ha : PEv X da cm W a fa) (hb : PEv X da cm W b fb) (hc : PEv X da cm W c fc)
    (hm : lastMarks [op, op'] [b, c] = false := by with_unfolding_all rfl) : PEv X da cm W (.Compare a [op, op'] [b, c] pos) (chainM g g' fa fb fc) := by
  obtain ⟨r, h1, h2⟩ := ho
  obtain ⟨r', h3, h4⟩ := ho'
  exact PE.imp (pe_chain h1 h3 ha hb hc hm) (tChain_of h2 h4)

/-! ### tests -/
theorem tTest_of {f : Env → M D} (σ : L2.St) (H : Hp) (Q : Bool → Hp → Prop) (h : tTv X.K da cm W (asB f) σ H Q) : tTest (tEv X.K da cm W f) σ H Q := by
  obtain ⟨Hk, env, δ, hA, hE, q⟩ := h
  refine tEv.seq hA hE q fun x d δ1 Hk1 H1 s1 a1 e1 r1 q1 => ?_
  rw [← ret_bind (Dv.lift d.bl?)] at q1
  obtain ⟨t, rfl, rfl, q2⟩ := Fin.bl r1 q1
  exact ⟨t, rfl, q2 Hk1 H1 s1 a1⟩
theorem ptv_cmp {op : CmpOp} (ho : OpD X da (compareOp op) g) (ha : PEv X da cm W a fa) (hb : PEv X da cm W b fb) (hm : behindInMarks op b = false) : PTv X da cm W (.Compare a [op] [b] pos) (asB (opM g fa fb)) := by
  obtain ⟨r, h1, h2⟩ := ho
  refine PT.imp (pt_cmpR h1 ha hb hm) fun σ H Q h => ?_
  exact tOp_of h2 σ H _ (tTest_of σ H Q h)
theorem ptv_chain {op op' : CmpOp} (ho : OpD X da (compareOp op) g) (ho' : OpD X da (compareOp op') g') (ha : PEv X da cm W a fa) (hb : PEv X da cm W b fb) (hc : PEv X da cm W c fc)
    (hm : lastMarks [op, op'] [b, c] = false := by with_unfolding_all rfl) : PTv X da cm W (.Compare a [op, op'] [b, c] pos) (asB (chainM g g' fa fb fc)) := by
  obtain ⟨r, h1, h2⟩ := ho
  obtain ⟨r', h3, h4⟩ := ho'
  refine PT.imp (pt_chain h1 h3 ha hb hc hm) fun σ H Q h => ?_
  exact tChain_of h2 h4 σ H _ (tTest_of σ H Q h)
/-- an expression whose value is a bool, as a test -/
theorem ptv_val {f : Env → M D} (h : PEv X da cm W e f) (he : ∀ whole, isTrue e X.env whole = (do let v ← whole; standAt e.pos; holding [v] (truthy v)) := by intro _; rfl) : PTv X da cm W e (asB f) :=
  PT.imp (pt_val h he) tTest_of
variable {ta tb : Env → M Bool}
def andT (ta tb : Env → M Bool) : Env → M Bool := fun env => bind (ta env) fun t => if t then tb env else ret false
def orT (ta tb : Env → M Bool) : Env → M Bool := fun env => bind (ta env) fun t => if t then ret true else tb env
def notT (ta : Env → M Bool) : Env → M Bool := fun env => bind (ta env) fun t => ret (!t)
theorem pwv_and1 (ha : PTv X da cm W a ta) : PWv X da cm W (.BoolOp .And [a] pos) ta := pw_and1 ha
theorem pwv_or1 (ha : PTv X da cm W a ta) : PWv X da cm W (.BoolOp .Or [a] pos) ta := pw_or1 ha
theorem pwv_and {rest : List Expr} (ha : PTv X da cm W a ta) (hb : PWv X da cm W (.BoolOp .And (b :: rest) pos) tb) : PWv X da cm W (.BoolOp .And (a :: b :: rest) pos) (andT ta tb) := PW.imp (pw_and ha hb) fun σ H Q ⟨Hk, env, δ, hA, hE, q⟩ => by
  refine tTv.seq hA hE q fun t δ1 Hk1 H1 s1 a1 e1 q1 => ?_
  cases t with
  | true => exact ⟨Hk1, env, δ1, a1, e1, q1.mono fun z δ2 k Hk' H' s => k Hk' H' (s1.trans s)⟩
  | false => exact q1 Hk1 H1 s1 a1
theorem pwv_or {rest : List Expr} (ha : PTv X da cm W a ta) (hb : PWv X da cm W (.BoolOp .Or (b :: rest) pos) tb) : PWv X da cm W (.BoolOp .Or (a :: b :: rest) pos) (orT ta tb) := PW.imp (pw_or ha hb) fun σ H Q ⟨Hk, env, δ, hA, hE, q⟩ => by
  refine tTv.seq hA hE q fun t δ1 Hk1 H1 s1 a1 e1 q1 => ?_
  cases t with
  | true => exact q1 Hk1 H1 s1 a1
  | false => exact ⟨Hk1, env, δ1, a1, e1, q1.mono fun z δ2 k Hk' H' s => k Hk' H' (s1.trans s)⟩
theorem ptv_not (ha : PTv X da cm W a ta) : PTv X da cm W (.UnaryOp .Not a pos) (notT ta) := PT.imp (pt_not ha) fun σ H Q ⟨Hk, env, δ, hA, hE, q⟩ => by
  refine tTv.seq hA hE q fun t δ1 Hk1 H1 s1 a1 e1 q1 => ?_
  exact q1 Hk1 H1 s1 a1
def ifM (tc : Env → M Bool) (fa fb : Env → M D) : Env → M D := fun env => bind (tc env) fun t => if t then fa env else fb env
theorem ev_if (hc : PTv X da cm W c ta) (ha : PEv X da cm W a fa) (hb : PEv X da cm W b fb) : PEv X da cm W (.IfExp c a b pos) (ifM ta fa fb) := PE.imp (pe_ifExp hc ha hb) fun σ H Q ⟨Hk, env, δ, hA, hE, q⟩ => by
  refine tTv.seq hA hE q fun t δ1 Hk1 H1 s1 a1 e1 q1 => ?_
  cases t with
  | true => exact ⟨Hk1, env, δ1, a1, e1, q1.mono fun z δ2 k v Hk' H' s => k v Hk' H' (s1.trans s)⟩
  | false => exact ⟨Hk1, env, δ1, a1, e1, q1.mono fun z δ2 k v Hk' H' s => k v Hk' H' (s1.trans s)⟩

/-! ### arguments, displays -/
def nilA : Env → M (List D) := fun _ => ret []
def consA (f : Env → M D) (fs : Env → M (List D)) : Env → M (List D) := fun env => bind (f env) fun x => bind (fs env) fun xs => ret (x :: xs)
variable {es : List Expr} {fs : Env → M (List D)}
theorem av_nil : PAv X da cm W [] nilA := PA.imp pa_nil fun σ H Q ⟨Hk, env, δ, hA, hE, q⟩ => q [] Hk H (Stp.refl _ _ _) hA .nil
theorem av_cons (ha : PEv X da cm W e fa) (hr : PAv X da cm W es fs) (hs : starEach (e :: es) X.env = (false, eval e X.env) :: starEach es X.env := by rfl) : PAv X da cm W (e :: es) (consA fa fs) := PA.imp (pa_cons ha hr hs) fun σ H Q ⟨Hk, env, δ, hA, hE, q⟩ => by
  refine tEv.seq hA hE q fun x d δ1 Hk1 H1 s1 a1 e1 r1 q1 => tAv.seq a1 e1 q1 fun xs ds δ2 Hk2 H2 s2 a2 e2 r2 q2 => ?_
  exact q2 _ Hk2 H2 (s1.trans s2) a2 (.cons (r1.mono s2.kn) r2)
def lim : Nat := 100000
theorem lim_le {n : Nat} (h : n ≤ lim) : n ≤ sizeLine := by rw [sizeLine_eq]; unfold lim at h; omega
def tupM (fs : Env → M (List D)) : Env → M D := fun env => bind (fs env) fun xs => lift (if xs.length ≤ lim then some (.tup xs) else none)
def lstM (fs : Env → M (List D)) : Env → M D := fun env => bind (fs env) fun xs => lift (if xs.length ≤ lim then some (.lst xs) else none)
theorem ite_some {α : Type} {p : Prop} [Decidable p] {a z : α} (h : (if p then some a else none) = some z) : p ∧ a = z := by
  by_cases hp : p
  · rw [if_pos hp] at h; exact ⟨hp, Option.some.inj h⟩
  · rw [if_neg hp] at h; cases h
theorem ev_tup {x1} (h : PAv X da cm W es fs) : PEv X da cm W (.Tuple es x1 pos) (tupM fs) := PE.imp (pe_tup h) fun σ H Q ⟨Hk, env, δ, hA, hE, q⟩ => by
  refine tAv.seq hA hE q fun xs ds δ1 Hk1 H1 s1 a1 e1 r1 q1 => ?_
  obtain ⟨z, hz, gz⟩ := Fin.lift a1 s1 q1
  obtain ⟨hl, rfl⟩ := ite_some hz
  exact ⟨by rw [r1.length]; exact lim_le hl, fun p hp => gz.tup a1.ex r1 hp⟩
theorem ev_lst (h : PAv X da cm W es fs) : PEv X da cm W (.List es pos) (lstM fs) := PE.imp (pe_lst h) fun σ H Q ⟨Hk, env, δ, hA, hE, q⟩ => by
  refine tAv.seq hA hE q fun xs ds δ1 Hk1 H1 s1 a1 e1 r1 q1 => ?_
  obtain ⟨z, hz, gz⟩ := Fin.lift a1 s1 q1
  obtain ⟨hl, rfl⟩ := ite_some hz
  exact ⟨by rw [r1.length]; exact lim_le hl, fun p hp => gz.lst a1.ex r1 hp⟩

/-! ### calls of built-ins -/
def calM (g : List D → Option D) (fs : Env → M (List D)) : Env → M D := fun env => bind (fs env) fun xs => lift (g xs)
variable {gl : List D → Option D} {x : Str} {p : Pos}
theorem tCB_of {r : List V → Hp → VK → Prop} (hr : Rcl X.K da r gl) (σ : L2.St) (H : Hp) (Q : VK) (h : tEv X.K da cm W (calM gl fs) σ H Q) : tCB r (tAv X.K da cm W fs) σ H Q := by
  obtain ⟨Hk, env, δ, hA, hE, q⟩ := h
  refine tAv.seq hA hE q fun xs ds δ1 Hk1 H1 s1 a1 e1 r1 q1 => ?_
  obtain ⟨z, hz, gz⟩ := Fin.lift a1 s1 q1
  exact hr Hk1 H1 xs ds z Q a1.ex r1 hz gz
theorem ev_callB {id : String} (hc : CalD X da (.builtin id) gl) (hg : Gl X x) (hm : X.mg x = none) (hv : bootBuiltins x = some (.builtin id)) (ha : PAv X da cm W (e :: es) fs) (hn : x ≠ "__name__" := by decide) (hdb : (x == ("__debug__" : Str)) = false := by decide)
    (he : starEach (e :: es) X.env = (false, eval e X.env) :: starEach es X.env := by rfl) (hpl : (backTo pos (starEach es X.env)).any (·.1) = false := by rfl) : PEv X da cm W (.Call (.Name x p) (e :: es) [] pos) (calM gl fs) := by
  obtain ⟨r, h1, h2⟩ := hc
  exact PE.imp (pe_callB h1 hg hm hv ha hn hdb he hpl) (tCB_of h2)
theorem ev_callTy {T : String} (hc : CalD X da (.type T) gl) (hg : Gl X x) (hm : X.mg x = none) (hv : bootBuiltins x = some (.type T)) (ha : PAv X da cm W (e :: es) fs) (hn : x ≠ "__name__" := by decide) (hdb : (x == ("__debug__" : Str)) = false := by decide)
    (he : starEach (e :: es) X.env = (false, eval e X.env) :: starEach es X.env := by rfl) (hpl : (backTo pos (starEach es X.env)).any (·.1) = false := by rfl) : PEv X da cm W (.Call (.Name x p) (e :: es) [] pos) (calM gl fs) := by
  obtain ⟨r, h1, h2⟩ := hc
  exact PE.imp (pe_callTy h1 hg hm hv ha hn hdb he hpl) (tCB_of h2)
end
end Dv
set_option maxHeartbeats 4000000
namespace Dv
open PySem PySem.Spec PyProof.Rows L2

/-! ### the slots of a def: data, or an own list or dict -/
inductive Sl where
  | no | dt (d : D) | ow (ds : List D) | od (kvs : List (D × D))
abbrev SEnv := List Sl
def Sl.vw : Sl → Option D
  | .dt d => some d
  | _ => none
/-- with the own lists seen -/
def Sl.va : Sl → Option D
  | .dt d => some d
  | .ow ds => some (.lst ds)
  | .od kvs => some (.dic kvs)
  | .no => none
def vw (env : SEnv) : Env := env.map Sl.vw
def va (env : SEnv) : Env := env.map Sl.va
def Sl.own : Sl → Bool
  | .ow _ => true
  | .od _ => true
  | _ => false
/-- the content of an own slot at p -/
def OwnAt (K : PySem.W.Frag) (da : Da) (Hk H : Hp) (p : Addr) : Sl → Prop
  | .ow ds => ∃ vs, H p = some (.lst vs) ∧ RpL K da.ad Hk vs ds
  | .od kvs => ∃ vs, H p = some (.dK vs) ∧ RpK K da.ad Hk vs kvs
  | _ => False
def Own (σ : L2.St) (env : SEnv) (p : Addr) : Prop := ∃ (i : Nat) (s : Sl), env[i]? = some s ∧ s.own = true ∧ σ[i]? = some (some (V.ref p))
structure EnvS (K : PySem.W.Frag) (da : Da) (Hk H : Hp) (σ : L2.St) (env : SEnv) : Prop where
  len : σ.length = env.length
  dat : ∀ (i : Nat) (d : D), env[i]? = some (.dt d) → ∃ v, σ[i]? = some (some v) ∧ Rp K da.ad Hk v d
  own : ∀ (i : Nat) (s : Sl), env[i]? = some s → s.own = true → ∃ p, σ[i]? = some (some (.ref p)) ∧ Hk p = none ∧ da.ad ≠ some p ∧ OwnAt K da Hk H p s
  apart : ∀ (i j : Nat) (s t : Sl) (p : Addr), env[i]? = some s → s.own = true → env[j]? = some t → t.own = true → σ[i]? = some (some (.ref p)) → σ[j]? = some (some (.ref p)) → i = j
structure StpS (da : Da) (O : Addr → Prop) (Hk H Hk' H' : Hp) : Prop where
  kn : Ex Hk Hk'
  fr : ∀ b, Mu H b → ¬ O b → Hk b = none → Hk' b = none
  ke : ∀ b o, H b = some o → da.ad ≠ some b → (∀ ps, o ≠ .tbl ps) → ¬ O b → H' b = some o
  th : ∀ b, Nt H b → Nt H' b
  tm : ∀ b, Mu H b → Mu H' b
theorem Stp.s {da : Da} {O : Addr → Prop} {Hk H Hk' H' : Hp} (s : Stp da Hk H Hk' H') : StpS da O Hk H Hk' H' := ⟨s.kn, fun b h _ n => s.fr b h n, fun b o h n t _ => s.ke b o h n t, s.th, s.tm⟩
theorem StpS.refl (da : Da) (O : Addr → Prop) (Hk H : Hp) : StpS da O Hk H Hk H := (Stp.refl da Hk H).s
theorem StpS.trans {da : Da} {O O1 : Addr → Prop} {Hk H Hk1 H1 Hk2 H2 : Hp} (a : StpS da O Hk H Hk1 H1) (b : StpS da O1 Hk1 H1 Hk2 H2) (ho : ∀ p, O1 p → O p ∨ ¬ Nt H p) : StpS da O Hk H Hk2 H2 := by
  have nO : ∀ c, Nt H c → ¬ O c → ¬ O1 c := fun c h n z => (ho c z).elim n fun q => q h
  exact ⟨a.kn.trans b.kn, fun c h n k => b.fr c (a.tm c h) (nO c h.nt n) (a.fr c h n k), fun c o h d t n => b.ke c o (a.ke c o h d t n) d t (nO c ⟨o, h, t⟩ n), fun c h => b.th c (a.th c h), fun c h => b.tm c (a.tm c h)⟩
theorem StpS.mono {da : Da} {O O' : Addr → Prop} {Hk H Hk' H' : Hp} (a : StpS da O Hk H Hk' H') (h : ∀ p, O p → O' p) : StpS da O' Hk H Hk' H' :=
  ⟨a.kn, fun b x n => a.fr b x fun z => n (h b z), fun b o x d t n => a.ke b o x d t fun z => n (h b z), a.th, a.tm⟩
theorem StpS.stp {da : Da} {O : Addr → Prop} {Hk H Hk' H' : Hp} (a : StpS da O Hk H Hk' H') (h : ∀ p, ¬ O p) : Stp da Hk H Hk' H' :=
  ⟨a.kn, fun b x n => a.fr b x (h b) n, fun b o x d t => a.ke b o x d t (h b), a.th, a.tm⟩

section
variable {K : PySem.W.Frag} {da : Da} {Hk H Hk' H' : Hp} {σ : L2.St} {env : SEnv} {δ : Dice}
theorem vw_get {env : SEnv} {i : Nat} {d : D} (h : (vw env)[i]? = some (some d)) : env[i]? = some (.dt d) := by
  unfold vw at h
  rw [List.getElem?_map] at h
  cases e : env[i]? with
  | none => rw [e] at h; cases h
  | some s =>
    rw [e] at h
    cases s <;> simp [Sl.vw] at h
    rw [h]
theorem EnvS.vw (h : EnvS K da Hk H σ env) : EnvR K da Hk σ (vw env) := ⟨by unfold Dv.vw; rw [List.length_map, h.len]; exact Nat.le_refl _, fun i d e => h.dat i d (vw_get e)⟩
/-- nothing but new things, and the dice -/
theorem EnvS.step (h : EnvS K da Hk H σ env) (s : Stp da Hk H Hk' H') : EnvS K da Hk' H' σ env where
  len := h.len
  dat := fun i d e => by
    obtain ⟨v, h1, h2⟩ := h.dat i d e
    exact ⟨v, h1, h2.mono s.kn⟩
  own := fun i t e o => by
    obtain ⟨p, h1, h2, h3, h4⟩ := h.own i t e o
    refine ⟨p, h1, ?_, h3, ?_⟩
    · refine s.fr p ?_ h2
      cases t <;> first | exact h4.elim | (obtain ⟨vs, q, _⟩ := h4; exact ⟨_, q, by first | exact .lst _ | exact .dK _⟩)
    · cases t with
      | ow ds => obtain ⟨vs, q, r⟩ := h4; exact ⟨vs, s.ke p _ q h3 (fun _ z => nomatch z), r.mono s.kn⟩
      | od ds => obtain ⟨vs, q, r⟩ := h4; exact ⟨vs, s.ke p _ q h3 (fun _ z => nomatch z), r.mono s.kn⟩
      | no => exact h4
      | dt d => exact h4
  apart := h.apart
theorem Own.there (h : EnvS K da Hk H σ env) {p : Addr} (o : Own σ env p) : Hk p = none ∧ da.ad ≠ some p ∧ Mu H p := by
  obtain ⟨i, s, h1, h2, h3⟩ := o
  obtain ⟨q, a1, a2, a3, a4⟩ := h.own i s h1 h2
  rw [h3] at a1
  cases a1
  refine ⟨a2, a3, ?_⟩
  cases s <;> first | exact a4.elim | (obtain ⟨vs, q, _⟩ := a4; exact ⟨_, q, by first | exact .lst _ | exact .dK _⟩)
end

/-! ### statements -/
inductive Fl where
  | next (env : SEnv) | ret (d : D) | nw (ds : List D) | brk (env : SEnv) | cont (env : SEnv)
section
variable (K : PySem.W.Frag) (da : Da)
/-- a state behind: σ', H' with the mirror's env', δ' -/
def Nx (Hk H : Hp) (σ : L2.St) (env : SEnv) (env' : SEnv) (δ' : Dice) (N : L2.St → Hp → Prop) : Prop :=
  ∀ σ' Hk' H', StpS da (Own σ env) Hk H Hk' H' → At da Hk' H' δ' → EnvS K da Hk' H' σ' env' → (∀ p, Own σ' env' p → Own σ env p ∨ ¬ Nt H p) → N σ' H'
def Rt (Hk H : Hp) (σ : L2.St) (env : SEnv) (d : D) (δ' : Dice) (Q : VK) : Prop := ∀ v Hk' H', StpS da (Own σ env) Hk H Hk' H' → At da Hk' H' δ' → Rp K da.ad Hk' v d → Q v H'
/-- a list that no one else has is handed back -/
def RtN (Hk H : Hp) (σ : L2.St) (env : SEnv) (ds : List D) (δ' : Dice) (Q : VK) : Prop := ∀ p vs Hk' H', StpS da (Own σ env) Hk H Hk' H' → At da Hk' H' δ' → Hk' p = none → ¬ Nt H p → H' p = some (.lst vs) → RpL K da.ad Hk' vs ds → Q (.ref p) H'
def FinS (cm : Nat → Addr) (r : R Fl) (Hk H : Hp) (σ : L2.St) (env : SEnv) (D : Ends) (E : XK) : Prop :=
  match r with
  | .ok (.next e) δ => Nx K da Hk H σ env e δ D.nx
  | .ok (.brk e) δ => Nx K da Hk H σ env e δ D.bk
  | .ok (.cont e) δ => Nx K da Hk H σ env e δ D.ct
  | .ok (.ret d) δ => Rt K da Hk H σ env d δ D.rt
  | .ok (.nw ds) δ => RtN K da Hk H σ env ds δ D.rt
  | .exc c fs δ => ∀ dd Hk' H', StpS da (Own σ env) Hk H Hk' H' → At da Hk' H' δ → Xr K da.ad Hk' dd fs → E (.ref (cm c)) dd H'
  | .bad => False
def tSt (cm : Nat → Addr) (E : XK) (F : SEnv → M Fl) : TS := fun D σ H => ∃ Hk env δ, At da Hk H δ ∧ EnvS K da Hk H σ env ∧ FinS K da cm (F env δ) Hk H σ env D E
end
abbrev PSv (X : Cx) (da : Da) (cm : Nat → Addr) (E : XK) (st : Stmt) (F : SEnv → M Fl) : Prop := PS X st (tSt X.K da cm E F)
abbrev PBv (X : Cx) (da : Da) (cm : Nat → Addr) (E : XK) (st : List Stmt) (F : SEnv → M Fl) : Prop := PSs X st (tSt X.K da cm E F)
abbrev WE0 (E : XK) : WX := fun c dd _ H => E c dd H
theorem PS.imp {X : Cx} {st : Stmt} {t t' : TS} (h : PS X st t) (i : ∀ D σ H, t' D σ H → t D σ H) : PS X st t' := ⟨fun pins s σ H D I q => h.run pins s σ H D I (i _ _ _ q)⟩
theorem PSs.imp {X : Cx} {st : List Stmt} {t t' : TS} (h : PSs X st t) (i : ∀ D σ H, t' D σ H → t D σ H) : PSs X st t' := ⟨fun pins s σ H D I q => h.run pins s σ H D I (i _ _ _ q)⟩

section
variable {K : PySem.W.Frag} {da : Da} {cm : Nat → Addr} {E : XK} {σ : L2.St} {H Hk : Hp} {env : SEnv} {δ : Dice} {D : Ends}
/-- an expression at the head of a statement, evaluated in what the statement sees; behind it the rest of the statement's mirror -/
theorem FinS.seq {α : Type} {m : M α} {g : α → M Fl} (h : FinS K da cm (bind m g δ) Hk H σ env D E) :
    Fin K da cm (m δ) Hk H (fun a δ' => FinS K da cm (g a δ') Hk H σ env D E) (fun c dd H' => E c dd H') := by
  unfold Dv.bind at h
  cases e : m δ with
  | ok a δ' => rw [e] at h; exact h
  | exc c fs δ' => rw [e] at h; exact fun dd Hk' H' s a x => h dd Hk' H' s.s a x
  | bad => rw [e] at h; exact h
theorem Nx.later {env' : SEnv} {δ' : Dice} {N : L2.St → Hp → Prop} {σ1 : L2.St} {env1 : SEnv} {Hk1 H1 : Hp} (h : Nx K da Hk H σ env env' δ' N) (s : StpS da (Own σ env) Hk H Hk1 H1) (o : ∀ p, Own σ1 env1 p → Own σ env p ∨ ¬ Nt H p) : Nx K da Hk1 H1 σ1 env1 env' δ' N :=
  fun σ' Hk' H' s' a e n => h σ' Hk' H' (s.trans s' o) a e fun p hp => (n p hp).elim (o p) fun z => by
    by_cases q : Nt H p
    · exact absurd (s.th p q) z
    · exact .inr q
theorem FinS.later {r : R Fl} {σ1 : L2.St} {env1 : SEnv} {Hk1 H1 : Hp} (h : FinS K da cm r Hk H σ env D E) (s : StpS da (Own σ env) Hk H Hk1 H1) (o : ∀ p, Own σ1 env1 p → Own σ env p ∨ ¬ Nt H p) : FinS K da cm r Hk1 H1 σ1 env1 D E := by
  cases r with
  | ok f δ =>
    cases f with
    | next e => exact Nx.later h s o
    | brk e => exact Nx.later h s o
    | cont e => exact Nx.later h s o
    | ret d => exact fun v Hk' H' s' a r => h v Hk' H' (s.trans s' o) a r
    | nw ds => exact fun p vs Hk' H' s' a k n => h p vs Hk' H' (s.trans s' o) a k fun z => n (s.th p z)
  | exc c fs δ => exact fun dd Hk' H' s' a x => h dd Hk' H' (s.trans s' o) a x
  | bad => exact h
theorem FinS.step {r : R Fl} {Hk1 H1 : Hp} (h : FinS K da cm r Hk H σ env D E) (s : Stp da Hk H Hk1 H1) : FinS K da cm r Hk1 H1 σ env D E := h.later s.s fun _ z => .inl z
/-- .. the expression with its own lists hidden -/
theorem tEv.st {f : Env → M Dv.D} {g : Dv.D → M Fl} (hA : At da Hk H δ) (hE : EnvS K da Hk H σ env) (h : FinS K da cm (bind (f (vw env)) g δ) Hk H σ env D E) {Q : VK}
    (hq : ∀ v d δ' Hk' H', Stp da Hk H Hk' H' → At da Hk' H' δ' → EnvS K da Hk' H' σ env → Rp K da.ad Hk' v d → FinS K da cm (g d δ') Hk' H' σ env D E → Q v H') : tEv K da cm (WE0 E) f σ H Q :=
  ⟨Hk, vw env, δ, hA, hE.vw, h.seq.mono fun d δ' hg v Hk' H' s a r => hq v d δ' Hk' H' s a (hE.step s) r (hg.step s)⟩
theorem tAv.st {f : Env → M (List Dv.D)} {g : List Dv.D → M Fl} (hA : At da Hk H δ) (hE : EnvS K da Hk H σ env) (h : FinS K da cm (bind (f (vw env)) g δ) Hk H σ env D E) {Q : List V → Hp → Prop}
    (hq : ∀ v d δ' Hk' H', Stp da Hk H Hk' H' → At da Hk' H' δ' → EnvS K da Hk' H' σ env → RpL K da.ad Hk' v d → FinS K da cm (g d δ') Hk' H' σ env D E → Q v H') : tAv K da cm (WE0 E) f σ H Q :=
  ⟨Hk, vw env, δ, hA, hE.vw, h.seq.mono fun d δ' hg v Hk' H' s a r => hq v d δ' Hk' H' s a (hE.step s) r (hg.step s)⟩

/-! ### own lists seen for the time of an expression -/
/- Hk with the own lists and dicts of the slots -/
open Classical in
noncomputable def seen (H Hk : Hp) (σ : L2.St) (env : SEnv) : Hp := fun b => match Hk b with
  | some o => some o
  | none => if Own σ env b then H b else none
theorem seen_some {b : Addr} {o : HO} (h : Hk b = some o) : seen H Hk σ env b = some o := by unfold seen; rw [h]
theorem seen_own {b : Addr} (h : Hk b = none) (o : Own σ env b) : seen H Hk σ env b = H b := by unfold seen; rw [h]; exact if_pos o
theorem seen_not {b : Addr} (h : Hk b = none) (o : ¬ Own σ env b) : seen H Hk σ env b = none := by unfold seen; rw [h]; exact if_neg o
end
end Dv
set_option maxHeartbeats 4000000
namespace Dv
open PySem PySem.Spec PyProof.Rows L2

theorem ifp {α : Type} {p : Prop} [Decidable p] {a b : M α} {δ : Dice} (h : p) : (if p then a else b : M α) δ = a δ := by
  rw [show (if p then a else b : M α) = a from if_pos h]
theorem ifn {α : Type} {p : Prop} [Decidable p] {a b : M α} {δ : Dice} (h : ¬ p) : (if p then a else b : M α) δ = b δ := by
  rw [show (if p then a else b : M α) = b from if_neg h]
section
variable {K : PySem.W.Frag} {da : Da} {cm : Nat → Addr} {E : XK} {σ : L2.St} {H Hk : Hp} {env : SEnv} {δ : Dice} {D : Ends}
theorem get_set_same {α : Type} {l : List α} {i : Nat} {a b : α} (h : (l.set i a)[i]? = some b) : a = b := by
  obtain ⟨hl, e⟩ := List.getElem?_eq_some_iff.mp h
  rw [List.getElem_set_self] at e
  exact e
theorem set_lt {α : Type} {l : List α} {i : Nat} {a b : α} (h : (l.set i a)[i]? = some b) : i < l.length := by
  obtain ⟨hl, e⟩ := List.getElem?_eq_some_iff.mp h
  simpa using hl
/-- data is stored -/
theorem EnvS.set {i : Nat} {v : V} {d : Dv.D} (h : EnvS K da Hk H σ env) (r : Rp K da.ad Hk v d) : EnvS K da Hk H (σ.set i (some v)) (env.set i (.dt d)) where
  len := by rw [List.length_set, List.length_set]; exact h.len
  dat := fun j x e => by
    by_cases hj : i = j
    · subst hj
      have q := get_set_same e
      cases q
      exact ⟨v, List.getElem?_set_self (by rw [h.len]; exact set_lt e), r⟩
    · rw [List.getElem?_set_ne hj] at e ⊢
      exact h.dat j x e
  own := fun j s e o => by
    by_cases hj : i = j
    · subst hj
      have q := get_set_same e
      subst q
      cases o
    · rw [List.getElem?_set_ne hj] at e ⊢
      exact h.own j s e o
  apart := fun j k s t p e1 o1 e2 o2 q1 q2 => by
    by_cases hj : i = j
    · subst hj
      have q := get_set_same e1
      subst q
      cases o1
    · by_cases hk : i = k
      · subst hk
        have q := get_set_same e2
        subst q
        cases o2
      · rw [List.getElem?_set_ne hj] at e1 q1
        rw [List.getElem?_set_ne hk] at e2 q2
        exact h.apart j k s t p e1 o1 e2 o2 q1 q2
theorem Own.of_set {i : Nat} {v : Option V} {d : Dv.D} {p : Addr} (h : Own (σ.set i v) (env.set i (.dt d)) p) : Own σ env p := by
  obtain ⟨j, s, e, o, q⟩ := h
  by_cases hj : i = j
  · subst hj
    have z := get_set_same e
    subst z
    cases o
  · rw [List.getElem?_set_ne hj] at e q
    exact ⟨j, s, e, o, q⟩
theorem own_le {p : Addr} (h : Own σ env p) : Own σ env p ∨ ¬ Nt H p := .inl h

/-! ### with the own lists seen -/
theorem seen_ex : Ex Hk (seen H Hk σ env) := fun _ _ e => seen_some e
theorem seen_at (hA : At da Hk H δ) (hE : EnvS K da Hk H σ env) : At da (seen H Hk σ env) H δ where
  ex := fun b o e => by
    cases q : Hk b with
    | some u => rw [seen_some q] at e; cases e; exact hA.ex b _ q
    | none =>
      by_cases z : Own σ env b
      · rw [seen_own q z] at e; exact e
      · rw [seen_not q z] at e; cases e
  di := fun a e => by
    obtain ⟨h1, h2⟩ := hA.di a e
    exact ⟨seen_not h1 fun z => (Own.there hE z).2.1 e, h2⟩
  tb := hA.tb
  kn := da.km _ _ seen_ex hA.kn
  nt := fun b ps e => by
    cases q : Hk b with
    | some u => rw [seen_some q] at e; cases e; exact hA.nt b ps q
    | none =>
      by_cases z : Own σ env b
      · rw [seen_own q z] at e
        obtain ⟨i, t, h1, h2, h3⟩ := z
        obtain ⟨p, a1, _, _, a4⟩ := hE.own i t h1 h2
        rw [h3] at a1
        cases a1
        cases t <;> first | exact a4.elim | (obtain ⟨vs, c, _⟩ := a4; rw [c] at e; cases e)
      · rw [seen_not q z] at e; cases e
theorem va_get {i : Nat} {d : Dv.D} (h : (va env)[i]? = some (some d)) : ∃ s, env[i]? = some s ∧ s.va = some d := by
  unfold va at h
  rw [List.getElem?_map] at h
  cases e : env[i]? with
  | none => rw [e] at h; cases h
  | some s =>
    rw [e] at h
    exact ⟨s, rfl, Option.some.inj h⟩
theorem seen_env (hE : EnvS K da Hk H σ env) : EnvR K da (seen H Hk σ env) σ (va env) := ⟨by unfold va; rw [List.length_map, hE.len]; exact Nat.le_refl _, fun i d h => by
  obtain ⟨s, e, hs⟩ := va_get h
  cases s with
  | no => cases hs
  | dt x =>
    cases hs
    obtain ⟨v, h1, h2⟩ := hE.dat i d e
    exact ⟨v, h1, h2.mono seen_ex⟩
  | ow ds =>
    cases hs
    obtain ⟨p, h1, h2, h3, vs, h4, h5⟩ := hE.own i _ e rfl
    exact ⟨_, h1, .lst ((seen_own h2 ⟨i, _, e, rfl, h1⟩).trans h4) (h5.mono seen_ex)⟩
  | od ds =>
    cases hs
    obtain ⟨p, h1, h2, h3, vs, h4, h5⟩ := hE.own i _ e rfl
    exact ⟨_, h1, .dic (.inl ((seen_own h2 ⟨i, _, e, rfl, h1⟩).trans h4)) (h5.mono seen_ex)⟩⟩
theorem seen_stp {Hk' H' : Hp} (s : Stp da (seen H Hk σ env) H Hk' H') : StpS da (Own σ env) Hk H Hk' H' :=
  ⟨seen_ex.trans s.kn, fun b h n k => s.fr b h (seen_not k n), fun b o h d t _ => s.ke b o h d t, s.th, s.tm⟩
/-- behind it the own lists may be hidden again -/
theorem seen_back (hA : At da Hk H δ) (hE : EnvS K da Hk H σ env) {Hk' H' : Hp} {δ' : Dice} (s : Stp da (seen H Hk σ env) H Hk' H') (a : At da Hk' H' δ') :
    StpS da (Own σ env) Hk H Hk H' ∧ At da Hk H' δ' ∧ EnvS K da Hk H' σ env := by
  refine ⟨⟨Evl.Ex.refl _, fun _ _ _ n => n, fun b o h d t _ => s.ke b o h d t, s.th, s.tm⟩, ⟨fun b o e => a.ex b o (s.kn b o (seen_some e)), fun b e => ⟨(hA.di b e).1, (a.di b e).2⟩, a.tb, hA.kn, hA.nt⟩, hE.len, hE.dat, fun i t e o => ?_, hE.apart⟩
  obtain ⟨p, h1, h2, h3, h4⟩ := hE.own i t e o
  refine ⟨p, h1, h2, h3, ?_⟩
  cases t with
  | ow ds => obtain ⟨vs, q, r⟩ := h4; exact ⟨vs, s.ke p _ q h3 (fun _ z => nomatch z), r⟩
  | od ds => obtain ⟨vs, q, r⟩ := h4; exact ⟨vs, s.ke p _ q h3 (fun _ z => nomatch z), r⟩
  | no => exact h4
  | dt d => exact h4
theorem FinS.seen {α : Type} {m : M α} {g : α → M Fl} (h : FinS K da cm (bind m g δ) Hk H σ env D E) :
    Fin K da cm (m δ) (seen H Hk σ env) H (fun a δ' => FinS K da cm (g a δ') Hk H σ env D E) (fun c dd H' => E c dd H') := by
  unfold Dv.bind at h
  cases e : m δ with
  | ok a δ' => rw [e] at h; exact h
  | exc c fs δ' => rw [e] at h; exact fun dd Hk' H' s a x => h dd Hk' H' (seen_stp s) a x
  | bad => rw [e] at h; exact h
theorem tTv.st {f : Env → M Bool} {g : Bool → M Fl} (hA : At da Hk H δ) (hE : EnvS K da Hk H σ env) (h : FinS K da cm (bind (f (va env)) g δ) Hk H σ env D E) {Q : Bool → Hp → Prop}
    (hq : ∀ b δ' H', At da Hk H' δ' → EnvS K da Hk H' σ env → FinS K da cm (g b δ') Hk H' σ env D E → Q b H') : tTv K da cm (WE0 E) f σ H Q :=
  ⟨Dv.seen H Hk σ env, va env, δ, seen_at hA hE, seen_env hE, h.seen.mono fun b δ' hg Hk' H' s a => by
    obtain ⟨s', a', e'⟩ := seen_back hA hE s a
    exact hq b δ' H' a' e' (hg.later s' fun _ => own_le)⟩
/-- .. an expression whose value may bear them: they are known from now on -/
theorem tEv.stR {f : Env → M Dv.D} {g : Dv.D → M Fl} (hA : At da Hk H δ) (hE : EnvS K da Hk H σ env) (h : FinS K da cm (bind (f (va env)) g δ) Hk H σ env D E) {Q : VK}
    (hq : ∀ v d δ' Hk' H', StpS da (Own σ env) Hk H Hk' H' → At da Hk' H' δ' → Rp K da.ad Hk' v d → FinS K da cm (g d δ') Hk H σ env D E → Q v H') : tEv K da cm (WE0 E) f σ H Q :=
  ⟨Dv.seen H Hk σ env, va env, δ, seen_at hA hE, seen_env hE, h.seen.mono fun d δ' hg v Hk' H' s a r => hq v d δ' Hk' H' (seen_stp s) a r hg⟩
def D.scal : Dv.D → Bool
  | .non | .bl _ | .int _ | .str _ => true
  | _ => false
theorem Rp.scal {H H' : Hp} {v : V} {d : Dv.D} (r : Rp K da.ad H v d) (h : d.scal = true) : Rp K da.ad H' v d := by
  cases r <;> first | exact .non | exact .bl _ | exact .int _ | exact .str _ | cases h
/-- .. an expression whose value is plain -/
theorem tEv.stS {f : Env → M Dv.D} {g : Dv.D → M Fl} (hA : At da Hk H δ) (hE : EnvS K da Hk H σ env) (h : FinS K da cm (bind (f (va env)) g δ) Hk H σ env D E) {Q : VK}
    (hq : ∀ v d δ' H', At da Hk H' δ' → EnvS K da Hk H' σ env → (d.scal = true → Rp K da.ad Hk v d) → FinS K da cm (g d δ') Hk H' σ env D E → Q v H') : tEv K da cm (WE0 E) f σ H Q :=
  ⟨Dv.seen H Hk σ env, va env, δ, seen_at hA hE, seen_env hE, h.seen.mono fun d δ' hg v Hk' H' s a r => by
    obtain ⟨s', a', e'⟩ := seen_back hA hE s a
    exact hq v d δ' H' a' e' (fun hd => r.scal hd) (hg.later s' fun _ => own_le)⟩
end

section
variable {X : Cx} {da : Da} {cm : Nat → Addr} {E : XK} {pos : Pos} {e : Expr} {f : Env → M D} {st : Stmt} {rest : List Stmt} {F G : SEnv → M Fl}
/-! ### blocks -/
def nilS : SEnv → M Fl := fun env => ret (.next env)
def seqS (F G : SEnv → M Fl) : SEnv → M Fl := fun env => bind (F env) fun r => match r with
  | .next e => G e
  | r => ret r
theorem sb_nil : PBv X da cm E [] nilS := PSs.imp pss_nil fun D σ H ⟨Hk, env, δ, hA, hE, q⟩ => q σ Hk H (StpS.refl _ _ _ _) hA hE fun _ => own_le
theorem sb_cons (h1 : PSv X da cm E st F) (h2 : PBv X da cm E rest G) : PBv X da cm E (st :: rest) (seqS F G) := PSs.imp (pss_cons h1 h2) fun D σ H ⟨Hk, env, δ, hA, hE, q⟩ => by
  refine ⟨Hk, env, δ, hA, hE, ?_⟩
  unfold seqS Dv.bind at q
  cases e : F env δ with
  | ok r δ' =>
    rw [e] at q
    cases r with
    | next e' => exact fun σ' Hk' H' s a e1 o => ⟨Hk', e', δ', a, e1, FinS.later q s o⟩
    | ret d => exact q
    | nw ds => exact q
    | brk e' => exact q
    | cont e' => exact q
  | exc c fs δ' => rw [e] at q; exact q
  | bad => rw [e] at q; exact q
theorem sb_one (h1 : PSv X da cm E st F) : PBv X da cm E [st] F := pss_one h1
/-! ### small statements -/
def asgS (i : Nat) (f : Env → M D) : SEnv → M Fl := fun env => bind (f (vw env)) fun d => ret (.next (env.set i (.dt d)))
/-- the value a plain one, own lists may be read -/
def asgP (i : Nat) (f : Env → M D) : SEnv → M Fl := fun env => bind (f (va env)) fun d => if d.scal then ret (.next (env.set i (.dt d))) else bad
theorem asgS_of {i : Nat} (D : Ends) (σ : L2.St) (H : Hp) (h : tSt X.K da cm E (asgS i f) D σ H) : tAsg (tEv X.K da cm (WE0 E) f) (gName i) D σ H := by
  obtain ⟨Hk, env, δ, hA, hE, q⟩ := h
  refine tEv.st hA hE q fun v d δ' Hk' H' s a e r q => ?_
  exact q _ Hk' H' (StpS.refl _ _ _ _) a (e.set r) fun p hp => .inl hp.of_set
theorem asgP_of {i : Nat} (D : Ends) (σ : L2.St) (H : Hp) (h : tSt X.K da cm E (asgP i f) D σ H) : tAsg (tEv X.K da cm (WE0 E) f) (gName i) D σ H := by
  obtain ⟨Hk, env, δ, hA, hE, q⟩ := h
  refine tEv.stS hA hE q fun v d δ' H' a e r q => ?_
  cases hd : d.scal with
  | true =>
    rw [hd] at q
    exact q _ Hk H' (StpS.refl _ _ _ _) a (e.set (r hd)) fun p hp => .inl hp.of_set
  | false =>
    rw [hd] at q
    exact q.elim
variable {i : Nat} {x : Str} {pos' : Pos}
theorem ss_set (hN : X.N.Nodup) (hi : X.N[i]? = some x) (hx : Loc X.env.scope x) (he : PEv X da cm (WE0 E) e f) (hs : swapsWith e (some (.Name x pos')) pos.line X.env = pure false := by rfl)
    (hf : X.fn x = true ∨ X.env.scope.names.lookup x = some .local := by first | exact .inl rfl | exact .inr rfl | assumption) : PSv X da cm E (.Assign [.Name x pos'] e pos) (asgS i f) := PS.imp (ps_set hN hi hx he hs hf) asgS_of
theorem ss_setP (hN : X.N.Nodup) (hi : X.N[i]? = some x) (hx : Loc X.env.scope x) (he : PEv X da cm (WE0 E) e f) (hs : swapsWith e (some (.Name x pos')) pos.line X.env = pure false := by rfl)
    (hf : X.fn x = true ∨ X.env.scope.names.lookup x = some .local := by first | exact .inl rfl | exact .inr rfl | assumption) : PSv X da cm E (.Assign [.Name x pos'] e pos) (asgP i f) := PS.imp (ps_set hN hi hx he hs hf) asgP_of
def exprS (f : Env → M D) : SEnv → M Fl := fun env => bind (f (va env)) fun _ => ret (.next env)
theorem ss_expr (he : PEv X da cm (WE0 E) e f) (hs : swapsWith e none pos.line X.env = pure false := by rfl) : PSv X da cm E (.Expr e pos) (exprS f) := PS.imp (ps_expr he hs) fun D σ H ⟨Hk, env, δ, hA, hE, q⟩ =>
  tEv.stS hA hE q fun v d δ' H' a e r q => q σ Hk H' (StpS.refl _ _ _ _) a e fun _ => own_le
def retS (f : Env → M D) : SEnv → M Fl := fun env => bind (f (va env)) fun d => ret (.ret d)
theorem ss_ret (he : PEv X da cm (WE0 E) e f) : PSv X da cm E (.Return (some e) pos) (retS f) := PS.imp (ps_ret he) fun D σ H ⟨Hk, env, δ, hA, hE, q⟩ =>
  tEv.stR hA hE q fun v d δ' Hk' H' s a r q => q v Hk' H' s a r
def retN : SEnv → M Fl := fun _ => ret (.ret .non)
theorem ss_retN : PSv X da cm E (.Return none pos) retN := PS.imp ps_retN fun D σ H ⟨Hk, env, δ, hA, hE, q⟩ => q _ Hk H (StpS.refl _ _ _ _) hA .non
theorem ss_pass : PSv X da cm E (.Pass pos) nilS := PS.imp ps_pass fun D σ H ⟨Hk, env, δ, hA, hE, q⟩ => q σ Hk H (StpS.refl _ _ _ _) hA hE fun _ => own_le
def brkS : SEnv → M Fl := fun env => ret (.brk env)
def contS : SEnv → M Fl := fun env => ret (.cont env)
theorem ss_break : PSv X da cm E (.Break pos) brkS := PS.imp ps_break fun D σ H ⟨Hk, env, δ, hA, hE, q⟩ => q σ Hk H (StpS.refl _ _ _ _) hA hE fun _ => own_le
theorem ss_continue : PSv X da cm E (.Continue pos) contS := PS.imp ps_continue fun D σ H ⟨Hk, env, δ, hA, hE, q⟩ => q σ Hk H (StpS.refl _ _ _ _) hA hE fun _ => own_le
def ifS (t : Env → M Bool) (F G : SEnv → M Fl) : SEnv → M Fl := fun env => bind (t (va env)) fun b => if b then F env else G env
theorem ss_if {c : Expr} {A B : List Stmt} {t : Env → M Bool} (hc : PTv X da cm (WE0 E) c t) (ha : PBv X da cm E A F) (hb : PBv X da cm E B G) : PSv X da cm E (.If c A B pos) (ifS t F G) := PS.imp (ps_if hc ha hb) fun D σ H ⟨Hk, env, δ, hA, hE, q⟩ => by
  refine tTv.st hA hE q fun b δ' H' a e q => ?_
  cases b with
  | true => exact ⟨Hk, env, δ', a, e, q⟩
  | false => exact ⟨Hk, env, δ', a, e, q⟩
end

/-! ### a def -/
/-- a list or dict that no one else has is known from now on -/
theorem know {da : Da} {Hk H Hk' H' : Hp} {δ δ' : Dice} {p : Addr} {o : HO} (hA : At da Hk H δ) (s : Stp da Hk H Hk' H') (a : At da Hk' H' δ') (kp : Hk' p = none) (hp : ¬ Nt H p) (hp' : H' p = some o) (m : Mut o) :
    Stp da Hk H (upd Hk' p o) H' ∧ At da (upd Hk' p o) H' δ' ∧ Ex Hk' (upd Hk' p o) := by
  have e2 : Ex Hk' (upd Hk' p o) := Evl.Ex.new kp
  have np : ∀ {b : Addr}, Mu H b → b ≠ p := fun h z => hp (by rw [← z]; exact h.nt)
  have dp : da.ad ≠ some p := fun z => hp ⟨_, (hA.di _ z).2, fun _ z => nomatch z⟩
  refine ⟨⟨s.kn.trans e2, fun b hb n => by rw [upd_ne (np hb)]; exact s.fr b hb n, s.ke, s.th, s.tm⟩, ⟨fun b u e => ?_, fun b e => ?_, a.tb, da.km _ _ e2 a.kn, fun b ps e => ?_⟩, e2⟩
  · by_cases z : b = p
    · subst z; rw [upd_same] at e; cases e; exact hp'
    · rw [upd_ne z] at e; exact a.ex b u e
  · rw [upd_ne (fun z => dp (by rw [e, z]))]
    exact a.di b e
  · by_cases z : b = p
    · subst z; rw [upd_same] at e; exact m.ntb ps (Option.some.inj e)
    · rw [upd_ne z] at e; exact a.nt b ps e
def spM (K : PySem.W.Frag) (cm : Nat → Addr) (tb : List (Addr × Str)) (n : Nat) (T : List D → M D) : Sp := fun vs H Q E => vs.length = n ∧ ∃ da Hk δ ds, da.tb = tb ∧ At da Hk H δ ∧ RpL K da.ad Hk vs ds ∧
  Fin K da cm (T ds δ) Hk H (fun d δ' => ∀ v Hk' H', Stp da Hk H Hk' H' → At da Hk' H' δ' → Rp K da.ad Hk' v d → Q v H') (fun c dd H' => E c dd H')
def fnM (n N : Nat) (F : SEnv → M Fl) : List D → M D := fun ds => if ds.length = n then bind (F (ds.map .dt ++ List.replicate (N - n) .no)) fun r => match r with
  | .ret d => ret d
  | .nw ds => ret (.lst ds)
  | .next _ => ret .non
  | _ => bad
  else bad
/-- .. that hands back a list that no one else has -/
def spN (K : PySem.W.Frag) (cm : Nat → Addr) (tb : List (Addr × Str)) (n : Nat) (T : List D → M (List D)) : Sp := fun vs H Q E => vs.length = n ∧ ∃ da Hk δ ds, da.tb = tb ∧ At da Hk H δ ∧ RpL K da.ad Hk vs ds ∧
  Fin K da cm (T ds δ) Hk H (fun l δ' => ∀ p ws Hk' H', Stp da Hk H Hk' H' → At da Hk' H' δ' → Hk' p = none → ¬ Nt H p → H' p = some (.lst ws) → RpL K da.ad Hk' ws l → Q (.ref p) H') (fun c dd H' => E c dd H')
def fnN (n N : Nat) (F : SEnv → M Fl) : List D → M (List D) := fun ds => if ds.length = n then bind (F (ds.map .dt ++ List.replicate (N - n) .no)) fun r => match r with
  | .nw ds => ret ds
  | _ => bad
  else bad
section
variable {P : Program} {w : World} {K : PySem.W.Frag} {mg : Str → Option Value} {base : Heap} {cm : Nat → Addr}
theorem start_env {da : Da} {Hk H : Hp} {vs : List V} {ds : List D} {N : List Str} (r : RpL K da.ad Hk vs ds) (h : vs.length ≤ N.length) : EnvS K da Hk H (L2.start N vs) (ds.map .dt ++ List.replicate (N.length - ds.length) .no) where
  len := by unfold L2.start; simp [r.length]
  dat := fun i d e => by
    have hi : i < ds.length := by
      by_cases q : i < ds.length
      · exact q
      · rw [List.getElem?_append_right (by simpa using q)] at e
        rw [List.getElem?_replicate] at e
        split at e <;> cases e
    rw [List.getElem?_append_left (by simpa using hi), List.getElem?_map] at e
    cases q : ds[i]? with
    | none => rw [q] at e; cases e
    | some x =>
      rw [q] at e
      cases e
      obtain ⟨v, h1, h2⟩ := r.get q
      refine ⟨v, ?_, h2⟩
      unfold L2.start
      rw [List.getElem?_append_left (by rw [List.length_map, r.length]; exact hi), List.getElem?_map, h1]
      rfl
  own := fun i s e o => by
    exfalso
    by_cases q : i < ds.length
    · rw [List.getElem?_append_left (by simpa using q), List.getElem?_map, List.getElem?_eq_getElem q] at e
      cases e
      cases o
    · rw [List.getElem?_append_right (by simpa using q), List.getElem?_replicate] at e
      split at e
      · cases e; cases o
      · cases e
  apart := fun i j s t p e o _ _ _ _ => by
    exfalso
    by_cases q : i < ds.length
    · rw [List.getElem?_append_left (by simpa using q), List.getElem?_map, List.getElem?_eq_getElem q] at e
      cases e
      cases o
    · rw [List.getElem?_append_right (by simpa using q), List.getElem?_replicate] at e
      split at e
      · cases e; cases o
      · cases e
theorem start_own {σ : L2.St} {ds : List D} {n : Nat} {p : Addr} : ¬ Own σ (ds.map Sl.dt ++ List.replicate n .no) p := fun ⟨i, s, e, o, _⟩ => by
  by_cases q : i < ds.length
  · rw [List.getElem?_append_left (by simpa using q), List.getElem?_map, List.getElem?_eq_getElem q] at e
    cases e
    cases o
  · rw [List.getElem?_append_right (by simpa using q), List.getElem?_replicate] at e
    split at e
    · cases e; cases o
    · cases e
end
end Dv
set_option maxHeartbeats 4000000
namespace Dv
open PySem PySem.Spec PyProof.Rows L2

/-! ### contracts of defs where no repr is under way -/
structure RoomG (k : Nat) (A : Around) : Prop where
  room : Room k A
  gd : A.guards = some []
theorem RoomG.mono {j k : Nat} {A : Around} (r : RoomG k A) (h : j ≤ k) : RoomG j A := ⟨r.room.mono h, r.gd⟩
/-- the code object of a def -/
def IsCode (K : PySem.W.Frag) (f : Addr) (c : Value) : Prop := ∃ o fd, K.lookup f = some o ∧ o.data = .func fd ∧ fd.code = c
theorem IsCode.eq {K : PySem.W.Frag} {f : Addr} {c c' : Value} (h : IsCode K f c) (h' : IsCode K f c') : c = c' := by
  obtain ⟨o, fd, h1, h2, h3⟩ := h
  obtain ⟨o', fd', h4, h5, h6⟩ := h'
  rw [h1] at h4
  cases h4
  rw [h2] at h5
  cases h5
  exact h3.symm.trans h6
structure FnG (P : Program) (w : World) (K : PySem.W.Frag) (mg : Str → Option Value) (base : Heap) (k : Nat) (f : Addr) (fd : FuncData) (ps : List Str) (sp : Sp) : Prop where
  arity : ∀ vs H Q E, sp vs H Q E → vs.length = ps.length
  runs : ∀ (A : Around) (fr : List PySem.Env) (s : Shared) (H : Hp) (ar : Args) (us : List Value) (vs : List V) (Q : VK) (E : XK), RoomG k A → Env0 P w K mg base A fr s H →
    BindsTo s fd ar (ps.zip us) → Vals vs us → sp vs H Q E → codeAny (model P w) A (.call (.ref f) ar) (CR (L2.CX P w) fr P w H s Q E) s
theorem FnG.mono {P : Program} {w : World} {K : PySem.W.Frag} {mg : Str → Option Value} {base : Heap} {j k : Nat} {f : Addr} {fd : FuncData} {ps : List Str} {sp : Sp} (F : FnG P w K mg base j f fd ps sp) (h : j ≤ k) : FnG P w K mg base k f fd ps sp :=
  ⟨F.arity, fun A fr s H ar us vs Q E hr => F.runs A fr s H ar us vs Q E (hr.mono h)⟩
section
variable {P : Program} {w : World} {K : PySem.W.Frag} {mg : Str → Option Value} {base : Heap}
theorem parK {N ps : List Str} {sc : Scope} (S : FnScope N ps sc) (n0 : Nat) (us : List Value) : ∀ y ∈ ps.zip us, sc.names.lookup y.1 = some .local ∨ (sc.names.lookup y.1 = some .cell ∧ ((cellsFrom n0 sc.names []).lookup y.1).isSome = true) := by
  rintro ⟨n, v⟩ hy
  rcases S.par n (List.of_mem_zip hy).1 with q | q
  · exact Or.inl q
  · exact Or.inr ⟨q, PySem.W.cellsFrom_some sc.names n0 [] (Or.inl q)⟩
/-- a def by its body, under known guards -/
theorem fnG_of {k : Nat} {f : Addr} {x qual : Str} {st : Stmt} {fd : FuncData} {N ps : List Str} {sp : Sp} (F : Fun K x qual st f fd) (S : FnScope N ps (defScope st)) (len : ∀ vs H Q E, sp vs H Q E → vs.length = ps.length)
    (hbody : ∀ (cdv : Value), IsCode K f cdv → ∀ (A : Around) (fr : List PySem.Env) (s : Shared) (H : Hp) (vs : List V) (Q : VK) (E : XK), RoomG k (A.deeper (envOfC qual (defScope st) s.heap.objs.size f cdv)) → sp vs H Q E →
      ∃ t, PSs (cxOf (L2.CX P w) P w K mg base N qual (defScope st) f cdv A fr s H E) (defBody st) t ∧ t { nx := fun _ H' => Q .non H', rt := Q } (L2.start N vs) H) : FnG P w K mg base (k + 1) f fd ps sp := by
  obtain ⟨oc, od, kV, doc, pm, an, cdv, ct, osl, rfl, lk, hcd⟩ := F.ex
  constructor
  · exact len
  intro A fr s H ar us vs Q E hr e0 hb rv hsp
  have old : ∀ b o, base.get? b = some o → s.heap.get? b = some o := fun b o e => (e0.bs b o e).1
  have inK : K.In s.heap := e0.mod.kin.keeps old
  apply codeAny_call_function hr.room.depth (inK _ _ lk) rfl S.co S.gen rfl (PySem.W.codeRec_of inK hcd)
  apply hb
  apply wpAny_newFunctionEnv_cells S.kind (parK S _ us)
  rintro env rfl s1 x
  constructor
  · exact (e0.mod.nolimit.keeps old).keeps x.toInCall.keep
  apply codeAny_func
  obtain ⟨t, ht, hq⟩ := hbody cdv ⟨_, _, lk, rfl, rfl⟩ A fr s H vs Q E ⟨hr.room.deeper _, hr.gd⟩ hsp
  have I := inv_start (CX := L2.CX P w) (E := E) (f := f) (cd := cdv) (qual := qual) S hr.room.hd e0 (len vs H Q E hsp) rv x
  apply wpAny_mono (ht.run [] s1 _ H _ I hq)
  · intro fl s' hs
    cases fl with
    | brk => exact hs.elim fun _ z => z.elim fun _ z => z.2.elim
    | cont => exact hs.elim fun _ z => z.elim fun _ z => z.2.elim
    | next =>
      obtain ⟨σ', H', J, q⟩ := hs
      exact ⟨V.non, H', J.os, J.bare, J.base, J.hok, rfl, q⟩
    | ret u =>
      obtain ⟨v, σ', H', J, r', q⟩ := hs
      exact ⟨v, H', J.os, J.bare, J.base, J.hok, r', q⟩
  · intro e s' hs
    exact hs
end
section
variable {P : Program} {w : World} {K : PySem.W.Frag} {mg : Str → Option Value} {base : Heap} {cm : Nat → Addr}
/-- THE RULE for a def -/
theorem fn_ok {x qual : Str} {st : Stmt} {f : Addr} {fd : FuncData} {N ps : List Str} {k : Nat} {tb : List (Addr × Str)} (F : Fun K x qual st f fd) (S : FnScope N ps (defScope st)) (hp : ps.length ≤ N.length) {G : SEnv → M Fl}
    (hbody : ∀ (da : Da), da.tb = tb → ∀ (cdv : Value), IsCode K f cdv → ∀ (A : Around) (fr : List PySem.Env) (s : Shared) (H : Hp) (E : XK), RoomG k (A.deeper (envOfC qual (defScope st) s.heap.objs.size f cdv)) →
      PBv (cxOf (L2.CX P w) P w K mg base N qual (defScope st) f cdv A fr s H E) da cm E (defBody st) G) : FnG P w K mg base (k + 1) f fd ps (spM K cm tb ps.length (fnM ps.length N.length G)) := by
  refine fnG_of F S (fun vs H Q E h => h.1) (fun cdv hcd A fr s H vs Q E hr h => ?_)
  obtain ⟨hl, da, Hk, δ, ds, ht, hA, r, q⟩ := h
  refine ⟨_, hbody da ht cdv hcd A fr s H E hr, Hk, _, δ, hA, start_env r (by omega), ?_⟩
  have hd : ds.length = ps.length := r.length.symm.trans hl
  unfold fnM at q
  rw [ifp hd] at q
  rw [hd]
  have q := q.bind
  cases e : G (List.map Sl.dt ds ++ List.replicate (N.length - ps.length) Sl.no) δ with
  | ok r δ' =>
    rw [e] at q
    cases r with
    | ret d => exact fun v Hk' H' s a r => q v Hk' H' (s.stp fun _ => start_own) a r
    | nw l =>
      intro p ws Hk' H' s a k n e r
      have kn := know hA (s.stp fun _ => start_own) a k n e (.lst _)
      exact q _ _ H' kn.1 kn.2.1 (.lst upd_same (r.mono kn.2.2))
    | next env => exact fun σ' Hk' H' s a _ _ => q _ Hk' H' (s.stp fun _ => start_own) a .non
    | brk env => exact q.elim
    | cont env => exact q.elim
  | exc c fs δ' => rw [e] at q; exact fun dd Hk' H' s a x => q dd Hk' H' (s.stp fun _ => start_own) a x
  | bad => rw [e] at q; exact q
theorem fn_okN {x qual : Str} {st : Stmt} {f : Addr} {fd : FuncData} {N ps : List Str} {k : Nat} {tb : List (Addr × Str)} (F : Fun K x qual st f fd) (S : FnScope N ps (defScope st)) (hp : ps.length ≤ N.length) {G : SEnv → M Fl}
    (hbody : ∀ (da : Da), da.tb = tb → ∀ (cdv : Value), IsCode K f cdv → ∀ (A : Around) (fr : List PySem.Env) (s : Shared) (H : Hp) (E : XK), RoomG k (A.deeper (envOfC qual (defScope st) s.heap.objs.size f cdv)) →
      PBv (cxOf (L2.CX P w) P w K mg base N qual (defScope st) f cdv A fr s H E) da cm E (defBody st) G) : FnG P w K mg base (k + 1) f fd ps (spN K cm tb ps.length (fnN ps.length N.length G)) := by
  refine fnG_of F S (fun vs H Q E h => h.1) (fun cdv hcd A fr s H vs Q E hr h => ?_)
  obtain ⟨hl, da, Hk, δ, ds, ht, hA, r, q⟩ := h
  refine ⟨_, hbody da ht cdv hcd A fr s H E hr, Hk, _, δ, hA, start_env r (by omega), ?_⟩
  have hd : ds.length = ps.length := r.length.symm.trans hl
  unfold fnN at q
  rw [ifp hd] at q
  rw [hd]
  have q := q.bind
  cases e : G (List.map Sl.dt ds ++ List.replicate (N.length - ps.length) Sl.no) δ with
  | ok r δ' =>
    rw [e] at q
    cases r with
    | nw l => exact fun p ws Hk' H' s a k n e r => q p ws Hk' H' (s.stp fun _ => start_own) a k n e r
    | ret d => exact q.elim
    | next env => exact q.elim
    | brk env => exact q.elim
    | cont env => exact q.elim
  | exc c fs δ' => rw [e] at q; exact fun dd Hk' H' s a x => q dd Hk' H' (s.stp fun _ => start_own) a x
  | bad => rw [e] at q; exact q
end
/-! ### a call of a def -/
section
variable {X : Cx} {da : Da} {cm : Nat → Addr} {W : WX} {pos p : Pos} {e : Expr} {es : List Expr} {fs : Env → M (List D)} {T : List D → M D} {n k : Nat} {f : Addr} {fd : FuncData} {ps : List Str} {x : Str}
theorem run_G {sp : Sp} {pins : List (Addr × Obj)} {σ : L2.St} {H : Hp} {s : Shared} {Q : VK} {us : List Value} {vs : List V} {E : XK} (F : FnG X.prog X.w X.K X.mg X.base k f fd ps sp) (hr : RoomG k X.A) (hb : Binds X.K fd ps []) (hx : PassesAt (L2.CX X.prog X.w) X σ E)
    (I : Inv X pins σ H s) (r : Vals vs us) (h : sp vs H Q E) : wpAny (model X.prog X.w) X.A (PySem.call (.ref f) us) (EP X pins σ Q) X.xe s := by
  have b := hb s us I.kIn
  rw [List.append_nil] at b
  have hu : us.length = ps.length := r.length.symm.trans (F.arity vs H Q E h)
  apply wpAny_call
  apply codeAny_mono (F.runs X.A X.stack s H ⟨us, []⟩ us vs Q E hr I.env0 (b hu) r h)
  rintro (e | fl) s' hq
  · exact hx pins H s e s' I hq
  · cases fl with
    | ret u => exact I.after hq
    | _ => exact hq.elim
def tCallG (sp : Sp) (W : WX) (t : TA) : TE := fun σ H Q => t σ H fun vs H1 => sp vs H1 Q (WE W σ)
theorem pe_callG {sp : Sp} {t : TA} (F : FnG X.prog X.w X.K X.mg X.base k f fd ps sp) (hr : RoomG k X.A) (hg : Gl X x) (hm : X.mg x = some (.ref f)) (hk : PySem.W.keepIn X.K (.ref f) = true) (hb : Binds X.K fd ps []) (tk : Takes X W)
    (ha : PA X (e :: es) t) (hdb : (x == ("__debug__" : Str)) = false := by decide) (he : starEach (e :: es) X.env = (false, eval e X.env) :: starEach es X.env := by rfl) (hpl : (backTo pos (starEach es X.env)).any (·.1) = false := by rfl) :
    PE X (.Call (.Name x p) (e :: es) [] pos) (tCallG sp W t) := by
  constructor
  intro pins s σ H Q I h
  apply wpAny_Call_Name_kw
  apply ld_glob I hg hm ?_ hdb
  apply PySem.W.callWith_K (h₀ := X.base) I.ok.mod.kin hk ?_ he hpl
  apply thn (ha.run pos pins s σ H _ I h)
  rintro us s1 ⟨vs, H1, I1, r, q⟩
  exact ⟨I1.kIn, run_G F hr hb (passAt tk σ) I1 r q⟩
def fcM (n : Nat) (T : List D → M D) (fs : Env → M (List D)) : Env → M D := fun env => bind (fs env) fun ds => if ds.length = n then T ds else bad
theorem ev_call {tb : List (Addr × Str)} (hT : da.tb = tb) (F : FnG X.prog X.w X.K X.mg X.base k f fd ps (spM X.K cm tb n T)) (hr : RoomG k X.A) (hg : Gl X x) (hm : X.mg x = some (.ref f)) (hk : PySem.W.keepIn X.K (.ref f) = true) (hb : Binds X.K fd ps []) (tk : Takes X W)
    (ha : PAv X da cm W (e :: es) fs) (hdb : (x == ("__debug__" : Str)) = false := by decide) (he : starEach (e :: es) X.env = (false, eval e X.env) :: starEach es X.env := by rfl) (hpl : (backTo pos (starEach es X.env)).any (·.1) = false := by rfl) :
    PEv X da cm W (.Call (.Name x p) (e :: es) [] pos) (fcM n T fs) := PE.imp (pe_callG F hr hg hm hk hb tk ha hdb he hpl) fun σ H Q ⟨Hk, env, δ, hA, hE, q⟩ => by
  refine tAv.seq hA hE q fun xs ds δ1 Hk1 H1 s1 a1 e1 r1 q1 => ?_
  by_cases hl : ds.length = n
  · rw [ifp hl] at q1
    exact ⟨r1.length.trans hl, da, Hk1, δ1, ds, hT, a1, r1, q1.mono fun d δ2 k v Hk' H' s => k v Hk' H' (s1.trans s)⟩
  · rw [ifn hl] at q1
    exact q1.elim
end
end Dv
set_option maxHeartbeats 4000000
namespace Dv
open PySem PySem.Spec PyProof.Rows L2

/-! ### plain data -/
mutual
def D.py : D → Option PyData
  | .non => some .none
  | .bl b => some (.bool b)
  | .int i => some (.int i)
  | .str x => some (.str x)
  | .tup xs => match D.pyL xs with
    | some ps => some (.tuple ps)
    | none => none
  | .lst xs => match D.pyL xs with
    | some ps => some (.list ps)
    | none => none
  | .dic _ => none
  | .ref _ => none
  | .ty _ => none
  | .dice => none
  | .scr _ => none
def D.pyL : List D → Option (List PyData)
  | [] => some []
  | d :: r => match D.py d with
    | some p => match D.pyL r with
      | some ps => some (p :: ps)
      | none => none
    | none => none
end
section
variable {K : PySem.W.Frag} {ad : Option Addr} {H : Hp}
mutual
theorem Rp.dp : ∀ {v : V} {d : D} {p : PyData}, Rp K ad H v d → d.py = some p → Dp K H v p
  | _, _, _, .non, e => by simp only [D.py, Option.some.injEq] at e; subst e; exact .non
  | _, _, _, .bl b, e => by simp only [D.py, Option.some.injEq] at e; subst e; exact .bl b
  | _, _, _, .int i, e => by simp only [D.py, Option.some.injEq] at e; subst e; exact .int i
  | _, _, _, .str x, e => by simp only [D.py, Option.some.injEq] at e; subst e; exact .str x
  | _, _, _, .lst h r, e => by
    simp only [D.py] at e
    split at e
    · rename_i ps q
      cases e
      exact .lst (SqL.of h) (RpL.dp r q)
    · cases e
  | _, _, _, .tup h r, e => by
    simp only [D.py] at e
    split at e
    · rename_i ps q
      cases e
      exact .tup h (RpL.dp r q)
    · cases e
  | _, _, _, .dic _ _, e => by simp only [D.py] at e; cases e
  | _, _, _, .ref _, e => by simp only [D.py] at e; cases e
  | _, _, _, .ty _, e => by simp only [D.py] at e; cases e
  | _, _, _, .dice _, e => by simp only [D.py] at e; cases e
  | _, _, _, .scr _, e => by simp only [D.py] at e; cases e
theorem RpL.dp : ∀ {v : List V} {d : List D} {p : List PyData}, RpL K ad H v d → D.pyL d = some p → DpAll K H v p
  | _, _, _, .nil, e => by simp only [D.pyL, Option.some.injEq] at e; subst e; exact .nil
  | _, _, _, .cons h r, e => by
    simp only [D.pyL] at e
    split at e
    · rename_i p q
      split at e
      · rename_i ps q2
        cases e
        exact .cons (Rp.dp h q) (RpL.dp r q2)
      · cases e
    · cases e
end
end
/-- both plain, of a depth that is carried -/
def D.two (c : PyData → PyData → Bool) (f : PyData → PyData → Bool) (d e : D) : Option D := match d.py with
  | some p => match e.py with
    | some q => if c p q then some (.bl (f p q)) else none
    | none => none
  | none => none
theorem D.two_some {c f : PyData → PyData → Bool} {d e z : D} (h : D.two c f d e = some z) : ∃ p q, d.py = some p ∧ e.py = some q ∧ c p q = true ∧ z = .bl (f p q) := by
  unfold D.two at h
  split at h
  · rename_i p hp
    split at h
    · rename_i q hq
      obtain ⟨h1, h2⟩ := ite_some h
      exact ⟨p, q, hp, hq, h1, h2.symm⟩
    · cases h
  · cases h
def okEq (p q : PyData) : Bool := SeqAt.shaped p && SeqAt.shaped q
def D.eq (d e : D) : Option D := D.two okEq PyData.eqv d e
def D.ne (d e : D) : Option D := D.two okEq (fun p q => !PyData.eqv p q) d e
def okLt (p q : PyData) : Bool := PySem.W.alike p q && decide (p.depth ≤ 60) && (match p with | .none => false | _ => true)
def D.lt (d e : D) : Option D := D.two okLt PySem.W.dataLt d e
def D.gt (d e : D) : Option D := D.two okLt (fun p q => PySem.W.dataLt q p) d e
def D.le (d e : D) : Option D := D.two okLt (fun p q => !PySem.W.dataLt q p) d e
def D.ge (d e : D) : Option D := D.two okLt (fun p q => !PySem.W.dataLt p q) d e
section
variable {X : Cx} {da : Da}
/-- a comparison of plain data -/
def rTwo (K : PySem.W.Frag) (c f : PyData → PyData → Bool) : R2 := fun x y H Q => ∃ p q, Dp K H x p ∧ Dp K H y q ∧ c p q = true ∧ Q (.bl (f p q)) H
theorem rop_two {K : PySem.W.Frag} {c f : PyData → PyData → Bool} : Rop K da (rTwo K c f) (D.two c f) := by
  intro Hk H x y d e z Q ex rx ry hz g
  obtain ⟨p, q, h1, h2, h3, rfl⟩ := D.two_some hz
  exact ⟨p, q, (rx.mono ex).dp h1, (ry.mono ex).dp h2, h3, g.same ex (.bl _)⟩
theorem od_eq (hu : X.A.units + 200 < cLine) : OpD X da (compareOp .Eq) D.eq := ⟨rTwo X.K okEq PyData.eqv, by
  intro pins s σ H x y v u Q I rx ry h
  obtain ⟨p, q, h1, h2, h3, k⟩ := h
  obtain ⟨s1, s2⟩ := Bool.and_eq_true_iff.mp h3
  exact op_eqD (by omega) pins s σ H x y v u Q I rx ry ⟨p, q, h1, h2, s1, s2, k⟩, rop_two⟩
theorem od_ne (hu : X.A.units + 200 < cLine) : OpD X da (compareOp .NotEq) D.ne := ⟨rTwo X.K okEq _, by
  intro pins s σ H x y v u Q I rx ry h
  obtain ⟨p, q, h1, h2, h3, k⟩ := h
  obtain ⟨s1, s2⟩ := Bool.and_eq_true_iff.mp h3
  exact op_neD (by omega) pins s σ H x y v u Q I rx ry ⟨p, q, h1, h2, s1, s2, k⟩, rop_two⟩
theorem okLt_of {p q : PyData} (h : okLt p q = true) : PySem.W.alike p q = true ∧ p.depth ≤ 60 ∧ p ≠ .none := by
  unfold okLt at h
  simp only [Bool.and_eq_true, decide_eq_true_eq] at h
  exact ⟨h.1.1, h.1.2, fun z => by rw [z] at h; cases h.2⟩
theorem od_ord {op : CmpOp} {f : PyData → PyData → Bool} (hu : X.A.units + 200 < cLine)
    (rule : ∀ (E : Value → Shared → Prop) (s : Shared) (a b : Value) (p q : PyData) (as bs : List Addr) (Q : Value → Shared → Prop), Reads s.heap a p as → Reads s.heap b q bs → PySem.W.alike p q = true → p ≠ .none → X.A.units + min p.depth q.depth < cLine → Q (.bool (f p q)) s →
      wpAny (model X.prog X.w) X.A (compareOp op a b) Q E s) : OpD X da (compareOp op) (D.two okLt f) := ⟨rTwo X.K okLt f, by
  intro pins s σ H x y v u Q I rx ry h
  obtain ⟨p, q, h1, h2, h3, k⟩ := h
  obtain ⟨a1, a2, a3⟩ := okLt_of h3
  obtain ⟨as, r1⟩ := Dp.reads I p x v h1 rx
  obtain ⟨bs, r2⟩ := Dp.reads I q y u h2 ry
  exact rule _ s v u p q as bs _ r1 r2 a1 a3 (by have := Nat.min_le_left p.depth q.depth; omega) ⟨.bl _, H, I, rfl, k⟩, rop_two⟩
theorem od_lt (hu : X.A.units + 200 < cLine) : OpD X da (compareOp .Lt) D.lt := od_ord hu fun _ _ _ _ _ _ _ _ _ h1 h2 h3 h4 h5 h6 => PySem.W.lt_data h1 h2 h3 h4 h5 h6
theorem od_gt (hu : X.A.units + 200 < cLine) : OpD X da (compareOp .Gt) D.gt := od_ord hu fun _ _ _ _ _ _ _ _ _ h1 h2 h3 h4 h5 h6 => PySem.W.gt_data h1 h2 h3 h4 h5 h6
theorem od_le (hu : X.A.units + 200 < cLine) : OpD X da (compareOp .LtE) D.le := od_ord hu fun _ _ _ _ _ _ _ _ _ h1 h2 h3 h4 h5 h6 => PySem.W.le_data h1 h2 h3 h4 h5 h6
theorem od_ge (hu : X.A.units + 200 < cLine) : OpD X da (compareOp .GtE) D.ge := od_ord hu fun _ _ _ _ _ _ _ _ _ h1 h2 h3 h4 h5 h6 => PySem.W.ge_data h1 h2 h3 h4 h5 h6

/-! ### is None -/
def D.isN : D → D → Option D
  | .non, .non => some (.bl true)
  | _, .non => some (.bl false)
  | _, _ => none
def D.notN : D → D → Option D
  | .non, .non => some (.bl false)
  | _, .non => some (.bl true)
  | _, _ => none
theorem Rp.non_iff {K : PySem.W.Frag} {ad : Option Addr} {H : Hp} {v : V} {d : D} (r : Rp K ad H v d) : (decide (v = .non) = true ∧ d = .non) ∨ (decide (v = .non) = false ∧ d ≠ .non) := by
  cases r <;> first | exact .inl ⟨by decide, rfl⟩ | exact .inr ⟨by simp, by simp⟩
theorem od_isN : OpD X da (compareOp .Is) D.isN := ⟨_, op_isN, by
  intro Hk H x y d e z Q ex rx ry hz g
  have he : e = .non := by cases e <;> first | rfl | (cases d <;> cases hz)
  subst he
  cases ry
  refine ⟨rfl, ?_⟩
  rcases rx.non_iff with ⟨h1, rfl⟩ | ⟨h1, h2⟩
  · rw [h1]
    cases hz
    exact g.same ex (.bl _)
  · rw [h1]
    have : z = .bl false := by cases d <;> first | exact absurd rfl h2 | (cases hz; rfl)
    subst this
    exact g.same ex (.bl _)⟩
theorem od_notN : OpD X da (compareOp .IsNot) D.notN := ⟨_, op_notN, by
  intro Hk H x y d e z Q ex rx ry hz g
  have he : e = .non := by cases e <;> first | rfl | (cases d <;> cases hz)
  subst he
  cases ry
  refine ⟨rfl, ?_⟩
  rcases rx.non_iff with ⟨h1, rfl⟩ | ⟨h1, h2⟩
  · rw [h1]
    cases hz
    exact g.same ex (.bl _)
  · rw [h1]
    have : z = .bl true := by cases d <;> first | exact absurd rfl h2 | (cases hz; rfl)
    subst this
    exact g.same ex (.bl _)⟩

/-! ### in, not in -/
/-- the one sign of a text -/
def sign? (x : Str) : Option Nat := match x.cps.toList with
  | [c] => some c
  | _ => none
theorem sign_some {x : Str} {c : Nat} (h : sign? x = some c) : x = ⟨#[c]⟩ := by
  unfold sign? at h
  split at h
  · rename_i a e
    cases h
    cases x with
    | mk cps =>
      have : cps = #[c] := by
        have := congrArg List.toArray e
        simpa using this
      rw [this]
  · cases h
def D.inn (neg : Bool) : D → D → Option D
  | .str x, .str z => match sign? x with
    | some c => some (.bl (neg != decide (c ∈ z.cps.toList)))
    | none => none
  | d, .tup xs => match d.py with
    | some p => match D.pyL xs with
      | some ps => if SeqAt.shaped p && SeqAt.shaped (.tuple ps) then some (.bl (neg != ps.any fun z => PyData.eqv z p)) else none
      | none => none
    | none => none
  | d, .lst xs => match d.py with
    | some p => match D.pyL xs with
      | some ps => if SeqAt.shaped p && SeqAt.shaped (.list ps) then some (.bl (neg != ps.any fun z => PyData.eqv z p)) else none
      | none => none
    | none => none
  | _, _ => none
def rInn (K : PySem.W.Frag) (neg : Bool) : R2 := fun x y H Q =>
  (∃ (c : Nat) (z : Str), x = .str ⟨#[c]⟩ ∧ y = .str z ∧ Q (.bl (neg != decide (c ∈ z.cps.toList))) H) ∨
  (∃ p ps, Dp K H x p ∧ (Dp K H y (.tuple ps) ∨ Dp K H y (.list ps)) ∧ SeqAt.shaped p = true ∧ SeqAt.shaped (.list ps) = true ∧ Q (.bl (neg != ps.any fun z => PyData.eqv z p)) H)
theorem rop_inn {K : PySem.W.Frag} {neg : Bool} : Rop K da (rInn K neg) (D.inn neg) := by
  intro Hk H x y d e z Q ex rx ry hz g
  unfold D.inn at hz
  split at hz
  · rename_i a b
    cases rx
    cases ry
    split at hz
    · rename_i c hc
      cases hz
      exact .inl ⟨c, b, by rw [sign_some hc], rfl, g.same ex (.bl _)⟩
    · cases hz
  · rename_i xs _
    split at hz
    · rename_i p hp
      split at hz
      · rename_i ps hps
        obtain ⟨h1, rfl⟩ := ite_some hz
        obtain ⟨s1, s2⟩ := Bool.and_eq_true_iff.mp h1
        refine .inr ⟨p, ps, (rx.mono ex).dp hp, .inl ((ry.mono ex).dp (by simp only [D.py, hps])), s1, s2, g.same ex (.bl _)⟩
      · cases hz
    · cases hz
  · rename_i xs _
    split at hz
    · rename_i p hp
      split at hz
      · rename_i ps hps
        obtain ⟨h1, rfl⟩ := ite_some hz
        obtain ⟨s1, s2⟩ := Bool.and_eq_true_iff.mp h1
        refine .inr ⟨p, ps, (rx.mono ex).dp hp, .inr ((ry.mono ex).dp (by simp only [D.py, hps])), s1, s2, g.same ex (.bl _)⟩
      · cases hz
    · cases hz
  · cases hz
theorem room_inn {p : PyData} {u m : Nat} (sp : SeqAt.shaped p = true) (hu : u + 200 < cLine) : u + 1 + min m p.depth < cLine := by
  have h1 := SeqAt.depth_of_shaped sp
  have h2 := Nat.min_le_right m p.depth
  omega
theorem od_in (hu : X.A.units + 200 < cLine) : OpD X da (compareOp .In) (D.inn false) := ⟨rInn X.K false, by
  intro pins s σ H x y v u Q I rx ry h
  rcases h with ⟨c, z, rfl, rfl, q⟩ | ⟨p, ps, h1, h2, s1, s2, q⟩
  · exact op_in_sign pins s σ H _ _ v u Q I rx ry ⟨c, z, rfl, rfl, by simpa using q⟩
  · obtain ⟨as, r1⟩ := Dp.reads I p x v h1 rx
    have q' : Q (.bl (ps.any fun z => PyData.eqv z p)) H := by simpa using q
    rcases h2 with h2 | h2
    · obtain ⟨bs, r2⟩ := Dp.reads I _ y u h2 ry
      exact SeqAt.in_tuple_reads r2 r1 (SeqAt.canLay_of_shaped s2) (SeqAt.canLay_of_shaped s1) (room_inn s1 hu) ⟨.bl _, H, I, rfl, q'⟩
    · obtain ⟨bs, r2⟩ := Dp.reads I _ y u h2 ry
      exact SeqAt.in_list_reads r2 r1 (SeqAt.canLay_of_shaped s2) (SeqAt.canLay_of_shaped s1) (room_inn s1 hu) ⟨.bl _, H, I, rfl, q'⟩, rop_inn⟩
theorem od_notIn (hu : X.A.units + 200 < cLine) : OpD X da (compareOp .NotIn) (D.inn true) := ⟨rInn X.K true, by
  intro pins s σ H x y v u Q I rx ry h
  rcases h with ⟨c, z, rfl, rfl, q⟩ | ⟨p, ps, h1, h2, s1, s2, q⟩
  · exact op_notIn_sign pins s σ H _ _ v u Q I rx ry ⟨c, z, rfl, rfl, by simpa using q⟩
  · obtain ⟨as, r1⟩ := Dp.reads I p x v h1 rx
    have q' : Q (.bl (!ps.any fun z => PyData.eqv z p)) H := by simpa using q
    rcases h2 with h2 | h2
    · obtain ⟨bs, r2⟩ := Dp.reads I _ y u h2 ry
      exact SeqAt.notIn_tuple_reads r2 r1 (SeqAt.canLay_of_shaped s2) (SeqAt.canLay_of_shaped s1) (room_inn s1 hu) ⟨.bl _, H, I, rfl, q'⟩
    · obtain ⟨bs, r2⟩ := Dp.reads I _ y u h2 ry
      exact SeqAt.notIn_list_reads r2 r1 (SeqAt.canLay_of_shaped s2) (SeqAt.canLay_of_shaped s1) (room_inn s1 hu) ⟨.bl _, H, I, rfl, q'⟩, rop_inn⟩
end
end Dv
set_option maxHeartbeats 4000000
namespace Dv
open PySem PySem.Spec PyProof.Rows L2

/-! ### () * n: the same object -/
theorem tuple_mulE (l : Addr) (items : Array Value) (n : Nat) (dd : Option Addr) (sl : Array (Option Value)) (x : Int) (u : Tok) (c0 : (decide (x < -(2 ^ 63)) || decide (x ≥ 2 ^ 63)) = false) (c1 : items.isEmpty = true) :
    Meets (Builtin.«tuple.__mul__» ⟨[.ref l, .int x u], []⟩) (fun _ R s => s.heap.get? l = some { cls := .type "tuple", dict := dd, data := .seq items n, slots := sl } ∧ R (.ok (.ret (Value.ref l))) s) :=
  .of_wp fun prog w A R s ⟨hl, h⟩ => by
    obtain ⟨hp, g, d, tk, os⟩ := s
    have f1 := AutoSeq1.idx_int
    have c2 : (items.isEmpty || x == 1) = true := by rw [c1]; rfl
    wp_walk using wpAny_loadPart' hl
    repeat (first
      | (refine wpAny_ite_false (decide_eq_false fun z => Bool.noConfusion (c0.symm.trans z)) ?_; wp_walk using wpAny_loadPart' hl)
      | (refine wpAny_ite_true (decide_eq_true c2) ?_; wp_walk using wpAny_loadPart' hl))
    exact ⟨_, rfl, h⟩
def rRepE (K : PySem.W.Frag) : R2 := fun x y H Q => ∃ l k, x = .ref l ∧ y = .int k ∧ SqT K H l [] ∧ -1000 ≤ k ∧ k ≤ 1000 ∧ Q (.ref l) H
theorem op_repE {X : Cx} : OpR X (binaryOp .Mult) (rRepE X.K) := by
  intro pins s σ H x y v u Q I rx ry ⟨l, k, e1, e2, hT, h1, h2, q⟩
  subst e1 e2
  cases rx
  obtain ⟨t, rfl⟩ := ry
  obtain ⟨its, r, ⟨⟨cls, dd, data, sl⟩, ho, hc, n, hd⟩, hs⟩ := I.tuple hT
  cases r
  simp only at hc hd
  subst hc hd
  have c0 : (decide (k < -(2 ^ 63)) || decide (k ≥ 2 ^ 63)) = false := by
    rw [decide_eq_false (by omega : ¬ k < -(2 ^ 63)), decide_eq_false (by omega : ¬ k ≥ 2 ^ 63)]
    rfl
  exact wpAny_binaryOp_repeat_ref (T := "tuple") (U := "int") (by decide) ⟨_, ho, rfl⟩ (fun s' => typeIs_int s' k t) noFill_tuple_mul F.fills_int_mul F.slot_int_rmul repeat_tuple F.slot_int_index.lookup
    (call_meets F.slot_int_rmul (typeIs_int s k t) F.entry_int_rmul (F.args_int_rmul_2 _ _) (int_rmul_tuple k t l _ n dd sl)
      ⟨ho, rfl, ⟨_, ho, rfl⟩, call_meets F.slot_tuple_mul ⟨_, ho, rfl⟩ F.entry_tuple_mul (F.args_tuple_mul_2 _ _) (tuple_mulE l _ n dd sl k t c0 rfl) ⟨ho, ⟨.ref l, H, I, rfl, q⟩⟩⟩)
theorem RpL.flat {K : PySem.W.Frag} {ad : Option Addr} {H : Hp} {vs : List V} {ds : List D} (r : RpL K ad H vs ds) : ∀ n : Nat, RpL K ad H (List.replicate n vs).flatten (List.replicate n ds).flatten
  | 0 => .nil
  | n + 1 => by
    rw [List.replicate_succ, List.replicate_succ, List.flatten_cons, List.flatten_cons]
    exact r.append (RpL.flat r n)
/-! ### + - * // % ** -/
def D.add : D → D → Option D
  | .int i, .int j => some (.int (i + j))
  | .str a, .str b => if a.length + b.length ≤ lim then some (.str (a ++ b)) else none
  | .tup a, .tup b => if a.length + b.length ≤ lim then some (.tup (a ++ b)) else none
  | .lst a, .lst b => if a.length + b.length ≤ lim then some (.lst (a ++ b)) else none
  | _, _ => none
def D.sub : D → D → Option D
  | .int i, .int j => some (.int (i - j))
  | _, _ => none
def repS (n : Nat) (x : Str) : Str := ⟨(List.replicate n x.cps).foldl (· ++ ·) #[]⟩
def D.mul : D → D → Option D
  | .int i, .int j => if i.natAbs.log2 + j.natAbs.log2 < 1000000 then some (.int (i * j)) else none
  | .str x, .int n => if 2 ≤ n ∧ n ≤ 1000 ∧ 1 ≤ x.length ∧ x.length ≤ 100 then some (.str (repS n.toNat x)) else none
  | .lst xs, .int n => if 0 ≤ n ∧ n ≤ 100000 ∧ xs.length * n.toNat ≤ lim then some (.lst (List.replicate n.toNat xs).flatten) else none
  | .tup [], .int n => if -1000 ≤ n ∧ n ≤ 1000 then some (.tup []) else none
  | .tup xs, .int n => if 2 ≤ n ∧ n ≤ 1000 ∧ 1 ≤ xs.length ∧ xs.length ≤ 1000 then some (.tup (List.replicate n.toNat xs).flatten) else none
  | _, _ => none
def D.fdiv : D → D → Option D
  | .int i, .int j => if 0 < j ∧ j.natAbs.log2 < 9000 then some (.int (i / j)) else none
  | _, _ => none
def D.mod : D → D → Option D
  | .int i, .int j => if 0 < j then some (.int (i % j)) else none
  | _, _ => none
def D.pow : D → D → Option D
  | .int i, .int j => if 0 ≤ j ∧ j ≤ 1000000 ∧ i.natAbs < 2 ^ 64 then some (.int (i ^ j.toNat)) else none
  | _, _ => none
def rMulS : R2 := fun x y H Q => ∃ z n, x = .str z ∧ y = .int n ∧ 2 ≤ n ∧ n ≤ 1000 ∧ 1 ≤ z.length ∧ z.length ≤ 100 ∧ Q (.str (repS n.toNat z)) H
theorem size_fold (z : Array Nat) : ∀ (n : Nat) (a : Array Nat), ((List.replicate n z).foldl (· ++ ·) a).size = a.size + n * z.size
  | 0, a => by simp
  | n + 1, a => by
    rw [List.replicate_succ, List.foldl_cons, size_fold z n, Array.size_append, Nat.succ_mul]
    omega
section
variable {X : Cx} {da : Da}
theorem op_mulS : OpR X (binaryOp .Mult) rMulS := by
  intro pins s σ H x y v u Q I rx ry h
  obtain ⟨z, n, rfl, rfl, h1, h2, h3, h4, q⟩ := h
  obtain ⟨t, rfl⟩ := rx
  obtain ⟨t', rfl⟩ := ry
  have hc : (n == 1 || z.length == 0) = false := by
    have a1 : ¬ n = 1 := by omega
    have a2 : ¬ z.length = 0 := by omega
    simp [a1, a2]
  have hm : z.length * n.toNat ≤ 100000 := by
    have : n.toNat ≤ 1000 := by omega
    exact Nat.le_trans (Nat.mul_le_mul h4 this) (by decide)
  refine PySem.P.mul_str (by rw [decide_eq_false (by omega), decide_eq_false (by omega)]; rfl) (fun _ _ => ?_) (fun _ _ => ?_) ?_
  · have : (1000 : Int) ≤ (2 ^ 63 - 1) / n := by
      refine (Int.le_ediv_iff_mul_le (by omega)).mpr ?_
      omega
    omega
  · show decide (_ > sizeLine) = false
    rw [sizeLine_eq]
    exact decide_eq_false (by omega)
  · rw [if_neg (by omega), hc, if_neg Bool.false_ne_true]
    refine ⟨?_, ⟨.str _, H, I.tok _, ⟨_, rfl⟩, q⟩⟩
    show ((List.replicate n.toNat z.cps).foldl (· ++ ·) #[]).size ≤ sizeLine
    rw [size_fold, sizeLine_eq]
    have e : z.cps.size = z.length := rfl
    rw [e, Nat.mul_comm]
    show 0 + _ ≤ _
    omega
theorem rop_or {K : PySem.W.Frag} {r r' : R2} {g : D → D → Option D}
    (h : ∀ (Hk H : Hp) (x y : V) (d e z : D) (Q : VK), Ex Hk H → Rp K da.ad Hk x d → Rp K da.ad Hk y e → g d e = some z → Gv K da Hk H z Q → r x y H Q ∨ r' x y H Q) : Rop K da (fun x y H Q => r x y H Q ∨ r' x y H Q) g := h
theorem od_add : OpD X da (binaryOp .Add) D.add := ⟨_, op_add.or (op_add_str.or (op_catA.or op_cat)), by
  intro Hk H x y d e z Q ex rx ry hz g
  unfold D.add at hz
  split at hz
  · cases rx; cases ry; cases hz
    exact .inl ⟨_, _, rfl, rfl, g.same ex (.int _)⟩
  · cases rx; cases ry
    obtain ⟨hl, rfl⟩ := ite_some hz
    exact .inr (.inl ⟨_, _, rfl, rfl, lim_le hl, g.same ex (.str _)⟩)
  · obtain ⟨hl, rfl⟩ := ite_some hz
    cases rx with
    | tup h1 r1 =>
      cases ry with
      | tup h2 r2 =>
        refine .inr (.inr (.inl ⟨_, _, _, _, rfl, rfl, Evl.ex_t ex h1, Evl.ex_t ex h2, by rw [r1.length, r2.length]; exact lim_le hl, fun e1 => ?_, fun _ e2 => ?_, fun _ _ p hp => g.tup ex (r1.append r2) hp⟩))
        · subst e1
          cases r1
          exact g.same ex (.tup h2 r2)
        · subst e2
          cases r2
          rw [List.append_nil] at g
          exact g.same ex (.tup h1 r1)
  · obtain ⟨hl, rfl⟩ := ite_some hz
    cases rx with
    | lst h1 r1 =>
      cases ry with
      | lst h2 r2 => exact .inr (.inr (.inr ⟨_, _, _, _, rfl, rfl, ex _ _ h1, ex _ _ h2, by rw [r1.length, r2.length]; exact lim_le hl, fun p hp => g.lst ex (r1.append r2) hp⟩))
  · cases hz⟩
theorem od_sub : OpD X da (binaryOp .Sub) D.sub := ⟨_, op_sub, by
  intro Hk H x y d e z Q ex rx ry hz g
  unfold D.sub at hz
  split at hz
  · cases rx; cases ry; cases hz
    exact ⟨_, _, rfl, rfl, g.same ex (.int _)⟩
  · cases hz⟩
theorem od_mul : OpD X da (binaryOp .Mult) D.mul := ⟨_, op_mulW.or (op_mulS.or (op_rep.or (op_repT.or op_repE))), by
  intro Hk H x y d e z Q ex rx ry hz g
  unfold D.mul at hz
  split at hz
  · cases rx; cases ry
    obtain ⟨hl, rfl⟩ := ite_some hz
    exact .inl ⟨_, _, rfl, rfl, hl, g.same ex (.int _)⟩
  · cases rx; cases ry
    obtain ⟨⟨h1, h2, h3, h4⟩, rfl⟩ := ite_some hz
    exact .inr (.inl ⟨_, _, rfl, rfl, h1, h2, h3, h4, g.same ex (.str _)⟩)
  · cases ry
    obtain ⟨⟨h1, h2, h3⟩, rfl⟩ := ite_some hz
    cases rx with
    | lst h r => exact .inr (.inr (.inl ⟨_, _, _, rfl, rfl, ex _ _ h, by omega, by omega, by rw [r.length]; exact lim_le h3, fun p hp => g.lst ex (r.flat _) hp⟩))
  · cases ry
    obtain ⟨⟨h1, h2⟩, rfl⟩ := ite_some hz
    cases rx with
    | tup h r =>
      cases r
      exact .inr (.inr (.inr (.inr ⟨_, _, rfl, rfl, Evl.ex_t ex h, h1, h2, g.same ex (.tup h .nil)⟩)))
  · cases ry
    obtain ⟨⟨h1, h2, h3, h4⟩, rfl⟩ := ite_some hz
    cases rx with
    | tup h r => exact .inr (.inr (.inr (.inl ⟨_, _, _, rfl, rfl, Evl.ex_t ex h, fun e => by rw [← r.length, e] at h3; exact absurd h3 (by decide), h1, h2, by rw [r.length]; exact h4, fun p hp => g.tup ex (r.flat _) hp⟩)))
  · cases hz⟩
theorem od_fdiv : OpD X da (binaryOp .FloorDiv) D.fdiv := ⟨_, op_fdivW, by
  intro Hk H x y d e z Q ex rx ry hz g
  unfold D.fdiv at hz
  split at hz
  · cases rx; cases ry
    obtain ⟨hl, rfl⟩ := ite_some hz
    exact ⟨_, _, rfl, rfl, hl, g.same ex (.int _)⟩
  · cases hz⟩
theorem od_mod : OpD X da (binaryOp .Mod) D.mod := ⟨_, op_mod, by
  intro Hk H x y d e z Q ex rx ry hz g
  unfold D.mod at hz
  split at hz
  · cases rx; cases ry
    obtain ⟨hl, rfl⟩ := ite_some hz
    exact ⟨_, _, rfl, rfl, hl, g.same ex (.int _)⟩
  · cases hz⟩
theorem od_pow : OpD X da (binaryOp .Pow) D.pow := ⟨_, op_pow, by
  intro Hk H x y d e z Q ex rx ry hz g
  unfold D.pow at hz
  split at hz
  · cases rx; cases ry
    obtain ⟨hl, rfl⟩ := ite_some hz
    exact ⟨_, _, rfl, rfl, hl, g.same ex (.int _)⟩
  · cases hz⟩
/-! ### subscripts, slices -/
def D.ix : D → D → Option D
  | .lst xs, .int i => atI xs i
  | .scr ns, .int i => (atI ns i).map .int
  | .tup xs, .int i => atI xs i
  | .str z, .int i => if z.length ≤ lim then (atI z.cps.toList i).map fun c => .str ⟨#[c]⟩ else none
  | _, _ => none
theorem RpL.atI {K : PySem.W.Frag} {ad : Option Addr} {H : Hp} {vs : List V} {ds : List D} {i : Int} {d : D} (r : RpL K ad H vs ds) (h : L2.atI ds i = some d) : ∃ v, L2.atI vs i = some v ∧ Rp K ad H v d := by
  unfold L2.atI at h ⊢
  rw [r.length]
  cases e : ixN ds.length i with
  | none => rw [e] at h; cases h
  | some j => rw [e] at h; exact r.get h
theorem id_ix : IxD X da D.ix := ⟨_, ix_seq, by
  intro Hk H x y d e z Q ex rx ry hz g
  unfold D.ix at hz
  split at hz
  · cases ry
    cases rx with
    | lst h r =>
      obtain ⟨v, h1, h2⟩ := r.atI hz
      exact .inl ⟨_, _, _, v, rfl, rfl, SqL.of (ex _ _ h), h1, g.same ex h2⟩
  · cases ry
    rename_i ns i
    cases rx with
    | scr h =>
      cases q : L2.atI ns i with
      | none => rw [q] at hz; cases hz
      | some c =>
        rw [q] at hz
        cases hz
        refine .inl ⟨_, _, _, .int c, rfl, rfl, Evl.ex_l ex h, ?_, g.same ex (.int _)⟩
        unfold L2.atI at q ⊢
        rw [List.length_map]
        cases e : ixN ns.length i with
        | none => rw [e] at q; cases q
        | some j =>
          rw [e] at q
          have q : ns[j]? = some c := q
          show (ns.map V.int)[j]? = _
          rw [List.getElem?_map, q]
          rfl
  · cases ry
    cases rx with
    | tup h r =>
      obtain ⟨v, h1, h2⟩ := r.atI hz
      exact .inr (.inl ⟨_, _, _, v, rfl, rfl, Evl.ex_t ex h, h1, g.same ex h2⟩)
  · cases rx; cases ry
    split at hz
    · rename_i hl
      rename_i w i
      cases q : L2.atI w.cps.toList i with
      | none => rw [q] at hz; cases hz
      | some c =>
        rw [q] at hz
        cases hz
        exact .inr (.inr ⟨_, _, c, rfl, rfl, lim_le hl, q, g.same ex (.str _)⟩)
    · cases hz
  · cases hz⟩
def cutL {α : Type} (xs : List α) (lo hi : Option Int) : List α := (xs.drop (HT.sIx xs.length 0 lo)).take (HT.sIx xs.length xs.length hi - HT.sIx xs.length 0 lo)
def D.sl : D → Option Int → Option Int → Option D
  | .lst xs, lo, hi => some (.lst (cutL xs lo hi))
  | .tup xs, lo, hi => some (.tup (cutL xs lo hi))
  | .str z, lo, hi => if z.length ≤ lim then some (.str (cutS z lo hi)) else none
  | _, _, _ => none
theorem RpL.cut {K : PySem.W.Frag} {ad : Option Addr} {H : Hp} {vs : List V} {ds : List D} {lo hi : Option Int} (r : RpL K ad H vs ds) : RpL K ad H (cutV vs lo hi) (cutL ds lo hi) := by
  unfold cutV cutL
  rw [r.length]
  exact (r.drop _).take _
theorem cut_whole {α : Type} {xs : List α} {lo hi : Option Int} (h : HT.sIx xs.length 0 lo = 0 ∧ HT.sIx xs.length xs.length hi = xs.length) : cutL xs lo hi = xs := by
  unfold cutL
  rw [h.1, h.2]
  simp
end
/-- an optional bound -/
def EOv (K : PySem.W.Frag) (da : Da) (cm : Nat → Addr) (W : WX) (f : Env → M (Option Int)) : TO := fun σ H Q => ∃ Hk env δ, At da Hk H δ ∧ EnvR K da Hk σ env ∧
  Fin K da cm (f env δ) Hk H (fun o δ' => ∀ Hk' H', Stp da Hk H Hk' H' → At da Hk' H' δ' → Q o H') (fun c dd H' => W c dd σ H')
abbrev POv (X : Cx) (da : Da) (cm : Nat → Addr) (W : WX) (e : Option Expr) (f : Env → M (Option Int)) : Prop := PO X e (EOv X.K da cm W f)
theorem PO.imp {X : Cx} {e : Option Expr} {t t' : TO} (h : PO X e t) (i : ∀ σ H Q, t' σ H Q → t σ H Q) : PO X e t' := ⟨fun pins s σ H Q I q => h.run pins s σ H Q I (i _ _ _ q)⟩
section
variable {X : Cx} {da : Da} {cm : Nat → Addr} {W : WX} {pos p2 : Pos} {a e : Expr} {fa : Env → M D} {lo hi : Option Expr} {fl fh : Env → M (Option Int)}
theorem EOv.seq {K : PySem.W.Frag} {σ : L2.St} {H Hk : Hp} {env : Env} {δ : Dice} {f : Env → M (Option Int)} {β : Type} {g : Option Int → M β} {k : β → Dice → Prop} (hA : At da Hk H δ) (hE : EnvR K da Hk σ env)
    (h : Fin K da cm (Dv.bind (f env) g δ) Hk H k (fun c dd H' => W c dd σ H')) {Q : Option Int → Hp → Prop}
    (hq : ∀ b δ' Hk' H', Stp da Hk H Hk' H' → At da Hk' H' δ' → EnvR K da Hk' σ env → Fin K da cm (g b δ') Hk' H' k (fun c dd H' => W c dd σ H') → Q b H') : EOv K da cm W f σ H Q :=
  ⟨Hk, env, δ, hA, hE, h.bind.mono fun d δ' hg Hk' H' s a => hq d δ' Hk' H' s a (hE.mono s.kn) (hg.later s fun _ _ z => z)⟩
def noP : Env → M (Option Int) := fun _ => ret none
def D.int? : D → Option Int
  | .int i => some i
  | _ => none
def someP (f : Env → M D) : Env → M (Option Int) := fun env => bind (f env) fun x => bind (lift x.int?) fun i => ret (some i)
theorem ov_none : POv X da cm W none noP := PO.imp po_none fun σ H Q ⟨Hk, env, δ, hA, hE, q⟩ => q Hk H (Stp.refl _ _ _) hA
theorem ov_some (h : PEv X da cm W e fa) : POv X da cm W (some e) (someP fa) := PO.imp (po_some h) fun σ H Q ⟨Hk, env, δ, hA, hE, q⟩ => by
  refine tEv.seq hA hE q fun x d δ1 Hk1 H1 s1 a1 e1 r1 q1 => ?_
  cases d with
  | int i => cases r1; exact ⟨i, rfl, q1 Hk1 H1 s1 a1⟩
  | _ => exact q1.elim
def slM (fa : Env → M D) (fl fh : Env → M (Option Int)) : Env → M D := fun env => bind (fa env) fun x => bind (fl env) fun l => bind (fh env) fun h => lift (x.sl l h)
theorem ev_slice (ha : PEv X da cm W a fa) (hl : POv X da cm W lo fl) (hh : POv X da cm W hi fh) : PEv X da cm W (.Subscript a (.Slice lo hi none p2) pos) (slM fa fl fh) :=
  PE.imp (pe_slice (sl_list.or (sl_tupA.or sl_str)) ha hl hh) fun σ H Q ⟨Hk, env, δ, hA, hE, q⟩ => by
    refine tEv.seq hA hE q fun x d δ1 Hk1 H1 s1 a1 e1 r1 q1 => EOv.seq a1 e1 q1 fun l δ2 Hk2 H2 s2 a2 e2 q2 => EOv.seq a2 e2 q2 fun h δ3 Hk3 H3 s3 a3 e3 q3 => ?_
    obtain ⟨z, hz, g⟩ := Fin.lift a3 ((s1.trans s2).trans s3) q3
    have r := (r1.mono s2.kn).mono s3.kn
    have ex := a3.ex
    unfold D.sl at hz
    split at hz
    · cases hz
      cases r with
      | lst h r => exact .inl ⟨_, _, rfl, SqL.of (ex _ _ h), fun p hp => g.lst ex r.cut hp⟩
    · cases hz
      cases r with
      | tup h r =>
        refine .inr (.inl ⟨_, _, rfl, Evl.ex_t ex h, fun hw => ?_, fun _ p hp => g.tup ex r.cut hp⟩)
        rw [r.length] at hw
        rw [cut_whole hw] at g
        exact g.same ex (.tup h r)
    · cases r
      obtain ⟨hl, rfl⟩ := ite_some hz
      exact .inr (.inr ⟨_, rfl, lim_le hl, g.same ex (.str _)⟩)
    · cases hz
end

/-! ### built-in functions -/
section
variable {X : Cx} {da : Da}
def D.len : List D → Option D
  | [.str z] => if z.length ≤ lim then some (.int z.length) else none
  | [.tup xs] => some (.int xs.length)
  | [.lst xs] => some (.int xs.length)
  | [.scr ns] => some (.int ns.length)
  | _ => none
theorem RpL.one {K : PySem.W.Frag} {ad : Option Addr} {H : Hp} {vs : List V} {d : D} (r : RpL K ad H vs [d]) : ∃ v, vs = [v] ∧ Rp K ad H v d := by
  cases r with
  | cons h t => cases t; exact ⟨_, rfl, h⟩
theorem RpL.two {K : PySem.W.Frag} {ad : Option Addr} {H : Hp} {vs : List V} {d e : D} (r : RpL K ad H vs [d, e]) : ∃ v u, vs = [v, u] ∧ Rp K ad H v d ∧ Rp K ad H u e := by
  cases r with
  | cons h t =>
    obtain ⟨u, rfl, r⟩ := t.one
    exact ⟨_, _, rfl, h, r⟩
theorem cd_len : CalD X da (.builtin "len") D.len := ⟨_, call_len_str.or call_len_seq, by
  intro Hk H xs ds z Q ex r hz g
  unfold D.len at hz
  split at hz
  · obtain ⟨v, rfl, rv⟩ := r.one
    cases rv
    obtain ⟨hl, rfl⟩ := ite_some hz
    exact .inl ⟨_, rfl, lim_le hl, g.same ex (.int _)⟩
  · obtain ⟨v, rfl, rv⟩ := r.one
    cases hz
    cases rv with
    | tup h r =>
      refine .inr ⟨_, _, rfl, .inr (Evl.ex_t ex h), ?_⟩
      rw [r.length]
      exact g.same ex (.int _)
  · obtain ⟨v, rfl, rv⟩ := r.one
    cases hz
    cases rv with
    | lst h r =>
      refine .inr ⟨_, _, rfl, .inl (SqL.of (ex _ _ h)), ?_⟩
      rw [r.length]
      exact g.same ex (.int _)
  · obtain ⟨v, rfl, rv⟩ := r.one
    cases hz
    cases rv with
    | scr h =>
      refine .inr ⟨_, _, rfl, .inl (Evl.ex_l ex h), ?_⟩
      rw [List.length_map]
      exact g.same ex (.int _)
  · cases hz⟩
def bls : List D → Option (List Bool)
  | [] => some []
  | .bl b :: r => match bls r with
    | some bs => some (b :: bs)
    | none => none
  | _ :: _ => none
theorem RpL.bls {K : PySem.W.Frag} {ad : Option Addr} {H : Hp} : ∀ {vs : List V} {ds : List D} {bs : List Bool}, RpL K ad H vs ds → Dv.bls ds = some bs → vs = bs.map V.bl
  | _, _, _, .nil, e => by simp only [Dv.bls, Option.some.injEq] at e; subst e; rfl
  | _, _, bs, .cons (d := d) h t, e => by
    unfold Dv.bls at e
    split at e
    · rename_i q; cases q
    · rename_i b r q
      cases q
      split at e
      · rename_i cs qs
        cases e
        cases h
        rw [RpL.bls t qs]
        rfl
      · cases e
    · cases e
def D.all : List D → Option D
  | [.lst xs] => (bls xs).map fun bs => .bl (bs.all id)
  | _ => none
def D.any : List D → Option D
  | [.lst xs] => (bls xs).map fun bs => .bl (bs.any id)
  | _ => none
theorem cd_all (hc : X.calm = true) : CalD X da (.builtin "all") D.all := ⟨_, cr_all hc, by
  intro Hk H xs ds z Q ex r hz g
  unfold D.all at hz
  split at hz
  · obtain ⟨v, rfl, rv⟩ := r.one
    rename_i es
    cases q : bls es with
    | none => rw [q] at hz; cases hz
    | some bs =>
      rw [q] at hz
      cases hz
      cases rv with
      | lst h r =>
        refine ⟨_, bs, rfl, SqL.of (ex _ _ ?_), g.same ex (.bl _)⟩
        rw [← r.bls q]
        exact h
  · cases hz⟩
theorem cd_any (hc : X.calm = true) : CalD X da (.builtin "any") D.any := ⟨_, cr_any hc, by
  intro Hk H xs ds z Q ex r hz g
  unfold D.any at hz
  split at hz
  · obtain ⟨v, rfl, rv⟩ := r.one
    rename_i es
    cases q : bls es with
    | none => rw [q] at hz; cases hz
    | some bs =>
      rw [q] at hz
      cases hz
      cases rv with
      | lst h r =>
        refine ⟨_, bs, rfl, SqL.of (ex _ _ ?_), g.same ex (.bl _)⟩
        rw [← r.bls q]
        exact h
  · cases hz⟩
def D.tupleOf : List D → Option D
  | [.lst xs] => some (.tup xs)
  | [.tup xs] => some (.tup xs)
  | _ => none
theorem cd_tuple : CalD X da (.type "tuple") D.tupleOf := ⟨_, call_tuple_of, by
  intro Hk H xs ds z Q ex r hz g
  unfold D.tupleOf at hz
  split at hz
  · obtain ⟨v, rfl, rv⟩ := r.one
    cases hz
    cases rv with
    | lst h r => exact ⟨_, _, rfl, .inl ⟨SqL.of (ex _ _ h), fun p hp => g.tup ex r hp⟩⟩
  · obtain ⟨v, rfl, rv⟩ := r.one
    cases hz
    cases rv with
    | tup h r => exact ⟨_, _, rfl, .inr ⟨Evl.ex_t ex h, g.same ex (.tup h r)⟩⟩
  · cases hz⟩
def signs (z : Str) : List D := z.cps.toList.map fun c => .str ⟨#[c]⟩
theorem vals_at : ∀ {l : List V} {us : List Value}, l.length = us.length → (∀ (i : Nat) v u, l[i]? = some v → us[i]? = some u → RelV v u) → Vals l us
  | [], [], _, _ => .nil
  | [], _ :: _, h, _ => by cases h
  | _ :: _, [], h, _ => by cases h
  | v :: l, u :: us, h, r => .cons (r 0 v u rfl rfl) (vals_at (by simpa using h) fun i a b h1 h2 => r (i + 1) a b (by simpa using h1) (by simpa using h2))
theorem call_listS (hc : X.calm = true) : CallR X (.type "list") (fun xs H Q => ∃ x : Str, xs = [.str x] ∧ x.length ≤ lim ∧ ∀ l, H l = none → Q (.ref l) (upd H l (.lst (x.cps.toList.map fun c => V.str ⟨#[c]⟩)))) := by
  intro pins s σ H xs us Q I r ⟨x, e, hl, q⟩
  subst e
  obtain ⟨u, rfl, t, rfl⟩ := vals1 r
  have hz : x.cps.size ≤ sizeLine := lim_le hl
  refine PySem.call_list_str (I.ok.hd hc) x t (fun h' tk acc c' k ho hi => ?_) hz
  have len : (x.cps.toList.map fun c => V.str ⟨#[c]⟩).length = acc.toList.length := by simp [hi.1]
  refine ⟨.ref s.heap.objs.size, _, I.laid (t' := tk) k (Nat.le_refl _) (show ObjOk X.prog X.w _ h' _ (.lst (x.cps.toList.map fun c => V.str ⟨#[c]⟩)) from ⟨by rw [len, Array.length_toList, hi.1]; exact hz, acc.toList, c', vals_at len fun i v w h1 h2 => ?_, by simpa using ho⟩), rfl, q _ (I.hok.fresh (Nat.le_refl _))⟩
  obtain ⟨c, tc, e1, e2⟩ := hi.2 i w (by simpa using h2)
  rw [List.getElem?_map] at h1
  have e3 : x.cps.toList[i]? = some c := by simpa using e1
  rw [e3] at h1
  cases h1
  exact ⟨tc, e2⟩
theorem RpL.ofSigns {K : PySem.W.Frag} {ad : Option Addr} {H : Hp} : ∀ cs : List Nat, RpL K ad H (cs.map fun c => V.str ⟨#[c]⟩) (cs.map fun c => D.str ⟨#[c]⟩)
  | [] => .nil
  | c :: cs => .cons (.str _) (RpL.ofSigns cs)
def D.listOf : List D → Option D
  | [.lst xs] => some (.lst xs)
  | [.tup xs] => some (.lst xs)
  | [.str z] => if z.length ≤ lim then some (.lst (signs z)) else none
  | _ => none
theorem cd_list (hc : X.calm = true) : CalD X da (.type "list") D.listOf := ⟨_, call_list_of.or (call_listS hc), by
  intro Hk H xs ds z Q ex r hz g
  unfold D.listOf at hz
  split at hz
  · obtain ⟨v, rfl, rv⟩ := r.one
    cases hz
    cases rv with
    | lst h r => exact .inl ⟨_, _, rfl, .inl (SqL.of (ex _ _ h)), fun p hp => g.lst ex r hp⟩
  · obtain ⟨v, rfl, rv⟩ := r.one
    cases hz
    cases rv with
    | tup h r => exact .inl ⟨_, _, rfl, .inr (Evl.ex_t ex h), fun p hp => g.lst ex r hp⟩
  · obtain ⟨v, rfl, rv⟩ := r.one
    cases rv
    obtain ⟨hl, rfl⟩ := ite_some hz
    exact .inr ⟨_, rfl, hl, fun p hp => g.lst ex (RpL.ofSigns _) hp⟩
  · cases hz⟩
/-! ### isinstance of built-in classes -/
def D.typ : D → Option String
  | .non => some "NoneType"
  | .bl _ => some "bool"
  | .int _ => some "int"
  | .str _ => some "str"
  | .tup _ => some "tuple"
  | .lst _ => some "list"
  | .dic _ => some "dict"
  | _ => none
def D.isI : List D → Option D
  | [d, .ty T] => match d.typ with
    | some t => (kitB t T).map .bl
    | none => none
  | _ => none
theorem Rp.typ {K : PySem.W.Frag} {ad : Option Addr} {H : Hp} {v : V} {d : D} {t : String} (r : Rp K ad H v d) (h : d.typ = some t) : TyX K H v (.type t) := by
  cases r with
  | non => cases h; exact .base .non
  | bl b => cases h; exact .base (.bl b)
  | int i => cases h; exact .base (.int i)
  | str x => cases h; exact .base (.str x)
  | lst e _ => cases h; exact .base (.lst e)
  | tup e _ =>
    cases h
    rcases e with (e | ⟨o, e⟩) | ⟨o, its, n, e, c, _⟩
    · exact .base (.tup e)
    · exact .fTuple e
    · exact .kTuple e c
  | dic e _ =>
    cases h
    rcases e with e | ⟨o, e⟩
    · exact .base (.dK e)
    · exact .fDict e
  | ref _ => cases h
  | ty _ => cases h
  | dice _ => cases h
  | scr _ => cases h
theorem cd_isi : CalD X da (.builtin "isinstance") D.isI := ⟨_, call_isi, by
  intro Hk H xs ds z Q ex r hz g
  unfold D.isI at hz
  split at hz
  · rename_i d T
    obtain ⟨v, u, rfl, rv, ru⟩ := r.two
    cases ru
    split at hz
    · rename_i t ht
      cases q : kitB t T with
      | none => rw [q] at hz; cases hz
      | some b =>
        rw [q] at hz
        cases hz
        exact ⟨v, .ty T, .type t, .type T, b, rfl, .ty T, (rv.mono ex).typ ht, kit_ty q, g.same ex (.bl _)⟩
    · cases hz
  · cases hz⟩
end
end Dv
set_option maxHeartbeats 4000000
namespace Dv
open PySem PySem.Spec PyProof.Rows L2

/-! ### what is walked -/
structure Yl (K : PySem.W.Frag) (da : Da) (J : It) (Hk : Hp) (ds : List D) : Prop where
  go : ∀ (i : Nat) H, Ex Hk H → i < ds.length → J.go i H
  stop : ∀ (i : Nat) H, Ex Hk H → ds.length ≤ i → J.stop i H
  yld : ∀ (i : Nat) H x H' Hk2 d, Ex Hk Hk2 → Ex Hk2 H → ds[i]? = some d → J.yld i H x H' → ∃ Hk3, Stq Hk2 H Hk3 H' ∧ Rp K da.ad Hk3 x d
def tIv (K : PySem.W.Frag) (da : Da) (cm : Nat → Addr) (W : WX) (f : Env → M (List D)) : TI := fun σ H R => ∃ Hk env δ, At da Hk H δ ∧ EnvR K da Hk σ env ∧
  Fin K da cm (f env δ) Hk H (fun ds δ' => ∀ J Hk' H', Stp da Hk H Hk' H' → At da Hk' H' δ' → Yl K da J Hk' ds → R J H') (fun c dd H' => W c dd σ H')
abbrev PIv (X : Cx) (da : Da) (cm : Nat → Addr) (W : WX) (tg iter : Expr) (f : Env → M (List D)) : Prop := PI X tg iter (tIv X.K da cm W f)
theorem PI.imp {X : Cx} {tg e : Expr} {t t' : TI} (h : PI X tg e t) (i : ∀ σ H Q, t' σ H Q → t σ H Q) : PI X tg e t' := ⟨fun pins s σ H Q I q => h.run pins s σ H Q I (i _ _ _ q)⟩
theorem PI.or {X : Cx} {tg e : Expr} {t t' : TI} (h : PI X tg e t) (h' : PI X tg e t') : PI X tg e (fun σ H Q => t σ H Q ∨ t' σ H Q) := ⟨fun pins s σ H Q I q => q.elim (h.run pins s σ H Q I) (h'.run pins s σ H Q I)⟩
def D.items : D → Option (List D)
  | .lst xs => some xs
  | .tup xs => some xs
  | .str z => some (signs z)
  | _ => none
def itM (f : Env → M D) : Env → M (List D) := fun env => bind (f env) fun d => lift d.items
section
variable {X : Cx} {da : Da} {cm : Nat → Addr} {W : WX} {pos p : Pos} {tg e : Expr} {fa : Env → M D}
theorem yl_list {K : PySem.W.Frag} {a : Addr} {xs : List V} {ds : List D} {Hk : Hp} (h : Hk a = some (.lst xs)) (r : RpL K da.ad Hk xs ds) : Yl K da (Itl K a) Hk ds where
  go := fun i H e hi => by
    obtain ⟨v, h1, _⟩ := r.get (List.getElem?_eq_getElem hi)
    exact ⟨xs, v, SqL.of (e _ _ h), h1⟩
  stop := fun i H e hi => ⟨xs, SqL.of (e _ _ h), by rw [r.length]; exact hi⟩
  yld := fun i H x H' Hk2 d e e2 hd hy => by
    obtain ⟨rfl, hy⟩ := hy
    have q := hy xs (SqL.of (e2 _ _ (e _ _ h)))
    obtain ⟨v, h1, h2⟩ := r.get hd
    rw [q] at h1
    cases h1
    exact ⟨Hk2, Stq.refl e2, h2.mono e⟩
theorem yl_tup {K : PySem.W.Frag} {a : Addr} {xs : List V} {ds : List D} {Hk : Hp} (h : SqT K Hk a xs) (r : RpL K da.ad Hk xs ds) : Yl K da (Itt K a) Hk ds where
  go := fun i H e hi => by
    obtain ⟨v, h1, _⟩ := r.get (List.getElem?_eq_getElem hi)
    exact ⟨xs, v, Evl.ex_t e h, h1⟩
  stop := fun i H e hi => ⟨xs, Evl.ex_t e h, by rw [r.length]; exact hi⟩
  yld := fun i H x H' Hk2 d e e2 hd hy => by
    obtain ⟨rfl, hy⟩ := hy
    have q := hy xs (Evl.ex_t e2 (Evl.ex_t e h))
    obtain ⟨v, h1, h2⟩ := r.get hd
    rw [q] at h1
    cases h1
    exact ⟨Hk2, Stq.refl e2, h2.mono e⟩
theorem signs_get {z : Str} {i : Nat} {d : D} (h : (signs z)[i]? = some d) : ∃ c, z.cps[i]? = some c ∧ d = .str ⟨#[c]⟩ := by
  unfold signs at h
  rw [List.getElem?_map] at h
  cases e : z.cps.toList[i]? with
  | none => rw [e] at h; cases h
  | some c =>
    rw [e] at h
    cases h
    exact ⟨c, by simpa using e, rfl⟩
theorem yl_str {K : PySem.W.Frag} {z : Str} {Hk : Hp} : Yl K da (Its z) Hk (signs z) where
  go := fun i H e hi => by
    unfold signs at hi
    show i < z.cps.size
    simpa using hi
  stop := fun i H e hi => by
    unfold signs at hi
    show z.cps.size ≤ i
    simpa using hi
  yld := fun i H x H' Hk2 d e e2 hd hy => by
    obtain ⟨rfl, c, h1, rfl⟩ := hy
    obtain ⟨c', h2, rfl⟩ := signs_get hd
    rw [h1] at h2
    cases h2
    exact ⟨Hk2, Stq.refl e2, .str _⟩
/-- a list, a tuple, a text -/
theorem iv_seq (ha : PEv X da cm W e fa) : PIv X da cm W tg e (itM fa) := Dv.PI.imp (Dv.PI.or (pi_list ha) (Dv.PI.or (pi_tup ha) (pi_str ha))) fun σ H R ⟨Hk, env, δ, hA, hE, q⟩ => by
  unfold itM at q
  cases h : fa env δ with
  | bad => unfold Dv.bind at q; rw [h] at q; exact q.elim
  | exc c fs δ' =>
    refine Or.inl ⟨Hk, env, δ, hA, hE, ?_⟩
    unfold Dv.bind at q
    rw [h] at q ⊢
    exact q
  | ok d δ' =>
    have q2 := q
    unfold Dv.bind at q2
    rw [h] at q2
    have all : ∀ {k : V → Hp → Prop}, (∀ v Hk1 H1, Stp da Hk H Hk1 H1 → At da Hk1 H1 δ' → Rp X.K da.ad Hk1 v d → k v H1) → tEv X.K da cm W fa σ H k := fun {k} hk => ⟨Hk, env, δ, hA, hE, by rw [h]; exact hk⟩
    cases d with
    | lst xs =>
      refine Or.inl (all fun v Hk1 H1 s1 a1 r1 => ?_)
      cases r1 with
      | lst hl r => exact ⟨_, rfl, ⟨_, SqL.of (a1.ex _ _ hl)⟩, q2 _ Hk1 H1 s1 a1 (yl_list hl r)⟩
    | tup xs =>
      refine Or.inr (Or.inl (all fun v Hk1 H1 s1 a1 r1 => ?_))
      cases r1 with
      | tup hl r => exact ⟨_, rfl, ⟨_, Evl.ex_t a1.ex hl⟩, q2 _ Hk1 H1 s1 a1 (yl_tup hl r)⟩
    | str z =>
      refine Or.inr (Or.inr (all fun v Hk1 H1 s1 a1 r1 => ?_))
      cases r1
      exact ⟨_, rfl, q2 _ Hk1 H1 s1 a1 yl_str⟩
    | _ => exact q2.elim
end
/-- lo, lo + 1, .. -/
def intsD (lo : Int) (n : Nat) : List D := (List.range n).map fun i => D.int (lo + Int.ofNat i)
theorem intsD_len (lo : Int) (n : Nat) : (intsD lo n).length = n := by unfold intsD; simp
theorem intsD_get {lo : Int} {n i : Nat} {d : D} (h : (intsD lo n)[i]? = some d) : d = .int (lo + Int.ofNat i) := by
  unfold intsD at h
  rw [List.getElem?_map] at h
  cases e : (List.range n)[i]? with
  | none => rw [e] at h; cases h
  | some j =>
    rw [e] at h
    cases h
    obtain ⟨hl, q⟩ := List.getElem?_eq_some_iff.mp e
    simp at q
    rw [q]
theorem yl_intsD {K : PySem.W.Frag} {da : Da} {lo : Int} {n : Nat} {Hk : Hp} : Yl K da (Itr lo n) Hk (intsD lo n) where
  go := fun i H e hi => by rw [intsD_len] at hi; exact hi
  stop := fun i H e hi => by rw [intsD_len] at hi; exact hi
  yld := fun i H x H' Hk2 d e e2 hd hy => by
    obtain ⟨rfl, rfl⟩ := hy
    rw [intsD_get hd]
    exact ⟨Hk2, Stq.refl e2, .int _⟩
def okR (j : Int) : Bool := decide (-(2 ^ 62) ≤ j ∧ j < 2 ^ 62)
def rng1D : List D → Option (List D)
  | [.int j] => if okR j then some (intsD 0 j.toNat) else none
  | _ => none
def rng2D : List D → Option (List D)
  | [.int i, .int j] => if okR i && okR j then some (intsD i (j - i).toNat) else none
  | _ => none
def rng1M (fs : Env → M (List D)) : Env → M (List D) := fun env => bind (fs env) fun xs => lift (rng1D xs)
def rng2M (fs : Env → M (List D)) : Env → M (List D) := fun env => bind (fs env) fun xs => lift (rng2D xs)
section
variable {X : Cx} {da : Da} {cm : Nat → Addr} {W : WX} {pos p : Pos} {tg e e2 : Expr} {fs : Env → M (List D)}
theorem iv_range1 (hg : Gl X "range") (hm : X.mg "range" = none) (ha : PAv X da cm W [e] fs) (hs : starEach [e] X.env = [(false, eval e X.env)] := by rfl) : PIv X da cm W tg (.Call (.Name "range" p) [e] [] pos) (rng1M fs) := Dv.PI.imp (pi_range1 hg hm ha hs) fun σ H R ⟨Hk, env, δ, hA, hE, q⟩ => by
  refine tAv.seq hA hE q fun xs ds δ1 Hk1 H1 s1 a1 e1 r1 q1 => ?_
  cases hz : rng1D ds with
  | none => rw [hz] at q1; exact q1.elim
  | some z =>
    rw [hz] at q1
    unfold rng1D at hz
    split at hz
    · obtain ⟨v, rfl, r⟩ := r1.one
      cases r
      obtain ⟨h1, rfl⟩ := ite_some hz
      unfold okR at h1
      have h1 := of_decide_eq_true h1
      exact ⟨_, rfl, h1.1, h1.2, q1 _ Hk1 H1 s1 a1 yl_intsD⟩
    · cases hz
theorem iv_range2 (hg : Gl X "range") (hm : X.mg "range" = none) (ha : PAv X da cm W [e, e2] fs) (hs : starEach [e, e2] X.env = [(false, eval e X.env), (false, eval e2 X.env)] := by rfl) (hs2 : starEach [e2] X.env = [(false, eval e2 X.env)] := by rfl) : PIv X da cm W tg (.Call (.Name "range" p) [e, e2] [] pos) (rng2M fs) := Dv.PI.imp (pi_range2 hg hm ha hs hs2) fun σ H R ⟨Hk, env, δ, hA, hE, q⟩ => by
  refine tAv.seq hA hE q fun xs ds δ1 Hk1 H1 s1 a1 e1 r1 q1 => ?_
  cases hz : rng2D ds with
  | none => rw [hz] at q1; exact q1.elim
  | some z =>
    rw [hz] at q1
    unfold rng2D at hz
    split at hz
    · obtain ⟨v, u, rfl, r, r'⟩ := r1.two
      cases r; cases r'
      obtain ⟨h1, rfl⟩ := ite_some hz
      unfold okR at h1
      have h1 := Bool.and_eq_true_iff.mp h1
      have h2 := of_decide_eq_true h1.1
      have h3 := of_decide_eq_true h1.2
      exact ⟨_, _, rfl, ⟨h2.1, h2.2, h3.1, h3.2⟩, q1 _ Hk1 H1 s1 a1 yl_intsD⟩
    · cases hz
end
end Dv
set_option maxHeartbeats 4000000
namespace Dv
open PySem PySem.Spec PyProof.Rows L2

/-! ### targets -/
inductive Tg where
  | nm (i : Nat) | tp (ts : List Tg)
mutual
def Tg.g (K : PySem.W.Frag) : Tg → TG
  | .nm i => gName i
  | .tp ts => gTup K ts.length (Tg.gs K ts)
def Tg.gs (K : PySem.W.Frag) : List Tg → TGs
  | [] => gNil
  | t :: ts => gCons (Tg.g K t) (Tg.gs K ts)
end
mutual
/-- what a target stores where -/
def Tg.l : Tg → D → Option (List (Nat × D))
  | .nm i, d => some [(i, d)]
  | .tp ts, .tup ds => if ds.length = ts.length then Tg.ls ts ds else none
  | _, _ => none
def Tg.ls : List Tg → List D → Option (List (Nat × D))
  | [], [] => some []
  | t :: ts, d :: ds => match Tg.l t d with
    | some l => match Tg.ls ts ds with
      | some r => some (l ++ r)
      | none => none
    | none => none
  | _, _ => none
end
theorem ite_some' {α : Type} {p : Prop} [Decidable p] {a : Option α} {z : α} (h : (if p then a else none) = some z) : p ∧ a = some z := by
  by_cases hp : p
  · rw [if_pos hp] at h; exact ⟨hp, h⟩
  · rw [if_neg hp] at h; cases h
def puts {α : Type} (σ : List α) : List (Nat × α) → List α
  | [] => σ
  | (i, v) :: r => puts (σ.set i v) r
theorem puts_app {α : Type} : ∀ (l r : List (Nat × α)) (σ : List α), puts σ (l ++ r) = puts (puts σ l) r
  | [], _, _ => rfl
  | (i, v) :: l, r, σ => puts_app l r (σ.set i v)
/-- pairs alike -/
def RpP (K : PySem.W.Frag) (ad : Option Addr) (H : Hp) (l : List (Nat × V)) (m : List (Nat × D)) : Prop := l.map (·.1) = m.map (·.1) ∧ RpL K ad H (l.map (·.2)) (m.map (·.2))
def putV (σ : L2.St) (l : List (Nat × V)) : L2.St := puts σ (l.map fun p => (p.1, some p.2))
theorem putV_app (l r : List (Nat × V)) (σ : L2.St) : putV σ (l ++ r) = putV (putV σ l) r := by
  unfold putV
  rw [List.map_append, puts_app]
section
variable {K : PySem.W.Frag} {da : Da} {Hk H : Hp}
mutual
theorem Tg.ok (ex : Ex Hk H) : ∀ (t : Tg) (d : D) (m : List (Nat × D)) (x : V) (σ : L2.St) (Q : L2.St → Hp → Prop), t.l d = some m → Rp K da.ad Hk x d → (∀ l, RpP K da.ad Hk l m → Q (putV σ l) H) → t.g K x σ H Q
  | .nm i, d, m, x, σ, Q, h, r, q => by
    simp only [Tg.l, Option.some.injEq] at h
    subst h
    simp only [Tg.g]
    exact q [(i, x)] ⟨rfl, .cons r .nil⟩
  | .tp ts, d, m, x, σ, Q, h, r, q => by
    cases d with
    | tup ds =>
      simp only [Tg.l] at h
      obtain ⟨hl, h⟩ := ite_some' h
      simp only [Tg.g]
      cases r with
      | tup hs rs => exact ⟨_, _, rfl, Evl.ex_t ex hs, rs.length.trans hl, Tg.oks ex ts ds m _ σ Q h rs q⟩
    | _ => simp only [Tg.l] at h; cases h
theorem Tg.oks (ex : Ex Hk H) : ∀ (ts : List Tg) (ds : List D) (m : List (Nat × D)) (xs : List V) (σ : L2.St) (Q : L2.St → Hp → Prop), Tg.ls ts ds = some m → RpL K da.ad Hk xs ds → (∀ l, RpP K da.ad Hk l m → Q (putV σ l) H) → Tg.gs K ts xs σ H Q
  | [], ds, m, xs, σ, Q, h, r, q => by
    cases ds with
    | nil =>
      simp only [Tg.ls, Option.some.injEq] at h
      subst h
      cases r
      simp only [Tg.gs]
      exact ⟨rfl, q [] ⟨rfl, .nil⟩⟩
    | cons _ _ => simp only [Tg.ls] at h; cases h
  | t :: ts, ds, m, xs, σ, Q, h, r, q => by
    cases r with
    | nil => simp only [Tg.ls] at h; cases h
    | cons rd rr =>
      simp only [Tg.ls] at h
      split at h
      · rename_i l1 e1
        split at h
        · rename_i l2 e2
          cases h
          simp only [Tg.gs]
          refine ⟨_, _, rfl, Tg.ok ex t _ l1 _ σ _ e1 rd fun la ha => Tg.oks ex ts _ l2 _ (putV σ la) Q e2 rr fun lb hb => ?_⟩
          rw [← putV_app]
          refine q _ ⟨?_, ?_⟩
          · rw [List.map_append, List.map_append, ha.1, hb.1]
          · rw [List.map_append, List.map_append]
            exact ha.2.append hb.2
        · cases h
      · cases h
end
end
end Dv
set_option maxHeartbeats 4000000
namespace Dv
open PySem PySem.Spec PyProof.Rows L2

/-! ### tables, and an own list or dict that changes -/
theorem tabs_mut {T : List (Addr × Str)} {H : Hp} {p : Addr} {o o' : HO} (t : LamX.Tabs T H) (h : H p = some o) (m : Mut o) : LamX.Tabs T (upd H p o') := fun q hq => by
  obtain ⟨ps, h1, h2, h3⟩ := t q hq
  have n1 : q.1 ≠ p := fun z => by rw [z, h] at h1; exact m.ntb ps (Option.some.inj h1)
  refine ⟨ps, by rw [upd_ne n1]; exact h1, h2, fun pos cv hc => ?_⟩
  obtain ⟨c, e1, e2⟩ := h3 pos cv hc
  refine ⟨c, e1, ?_⟩
  have n2 : c ≠ p := fun z => by
    rw [z, h] at e2
    have e3 := Option.some.inj e2
    rw [e3] at m
    rcases m with ⟨xs, e⟩ | ⟨xs, e⟩ <;> (unfold LamX.CodeO at e; cases e)
  rw [upd_ne n2]
  exact e2
/-- an object that is not known changes -/
theorem At.mut {da : Da} {Hk H : Hp} {δ : Dice} {p : Addr} {o o' : HO} (a : At da Hk H δ) (h : H p = some o) (m : Mut o) (hk : Hk p = none) (hd : da.ad ≠ some p) : At da Hk (upd H p o') δ where
  ex := fun b u e => by
    have : b ≠ p := fun z => by rw [z, hk] at e; cases e
    rw [upd_ne this]
    exact a.ex b u e
  di := fun b e => by
    have : b ≠ p := fun z => hd (by rw [e, z])
    rw [upd_ne this]
    exact a.di b e
  tb := tabs_mut a.tb h m
  kn := a.kn
  nt := a.nt

/-! ### no exception within -/
def nx {α : Type} (m : M α) : M α := fun δ => match m δ with
  | .ok a δ' => .ok a δ'
  | _ => .bad
abbrev W0 : WX := fun _ _ _ _ => False
theorem Fin.nx {K : PySem.W.Frag} {da : Da} {cm : Nat → Addr} {Hk H Hk' H' : Hp} {α β : Type} {m : M α} {g : α → M β} {k : β → Dice → Prop} {w w' : Value → Option Addr → Hp → Prop} {δ : Dice} (h : Fin K da cm (Dv.bind (Dv.nx m) g δ) Hk H k w) :
    Fin K da cm (m δ) Hk' H' (fun a δ' => Fin K da cm (g a δ') Hk H k w) w' := by
  unfold Dv.bind Dv.nx at h
  cases e : m δ with
  | ok a δ' => rw [e] at h; exact h
  | exc c fs δ' => rw [e] at h; exact h.elim
  | bad => rw [e] at h; exact h.elim

/-! ### the slots of a block -/
def wipeE (env : Env) : List Nat → Env
  | [] => env
  | v :: vs => (wipeE env vs).set v none
def putD (env : Env) (m : List (Nat × D)) : Env := puts env (m.map fun p => (p.1, some p.2))
theorem wipeE_length (env : Env) : ∀ vs, (wipeE env vs).length = env.length
  | [] => rfl
  | v :: vs => by unfold wipeE; rw [List.length_set, wipeE_length env vs]
theorem wipeE_some {env : Env} {i : Nat} {d : D} : ∀ {vs : List Nat}, (wipeE env vs)[i]? = some (some d) → env[i]? = some (some d) ∧ i ∉ vs
  | [], h => ⟨h, by simp⟩
  | v :: vs, h => by
    unfold wipeE at h
    by_cases hv : v = i
    · subst hv
      cases get_set_same h
    · rw [List.getElem?_set_ne hv] at h
      obtain ⟨h1, h2⟩ := wipeE_some h
      exact ⟨h1, fun z => (List.mem_cons.mp z).elim (fun e => hv e.symm) h2⟩
section
variable {K : PySem.W.Frag} {da : Da} {Hk : Hp} {σ : L2.St} {env : Env}
theorem EnvR.wipe (h : EnvR K da Hk σ env) (vs : List Nat) : EnvR K da Hk (L2.wipe σ vs) (wipeE env vs) := ⟨by rw [wipeE_length, wipe_length]; exact h.1, fun i d e => by
  obtain ⟨h1, h2⟩ := wipeE_some e
  rw [wipe_out h2]
  exact h.2 i d h1⟩
theorem EnvR.set {v : V} {d : D} (h : EnvR K da Hk σ env) (r : Rp K da.ad Hk v d) (i : Nat) : EnvR K da Hk (σ.set i (some v)) (env.set i (some d)) := ⟨by rw [List.length_set, List.length_set]; exact h.1, fun j x e => by
  by_cases hj : i = j
  · subst hj
    have q := get_set_same e
    cases q
    exact ⟨v, List.getElem?_set_self (Nat.lt_of_lt_of_le (set_lt e) h.1), r⟩
  · rw [List.getElem?_set_ne hj] at e ⊢
    exact h.2 j x e⟩
theorem EnvR.put : ∀ {l : List (Nat × V)} {m : List (Nat × D)} {σ : L2.St} {env : Env}, EnvR K da Hk σ env → RpP K da.ad Hk l m → EnvR K da Hk (putV σ l) (putD env m)
  | [], [], _, _, h, _ => h
  | [], _ :: _, _, _, _, r => by cases r.1
  | _ :: _, [], _, _, _, r => by cases r.1
  | (i, v) :: l, (j, d) :: m, _, _, h, r => by
    obtain ⟨h1, h2⟩ := r
    simp only [List.map_cons, List.cons.injEq] at h1 h2
    obtain ⟨rfl, h1⟩ := h1
    cases h2 with
    | cons h2 h3 =>
      show EnvR K da Hk (putV (List.set _ i (some v)) l) (putD (List.set _ i (some d)) m)
      exact EnvR.put (EnvR.set h h2 i) ⟨h1, h3⟩
end
mutual
def Tg.ix : Tg → List Nat
  | .nm i => [i]
  | .tp ts => Tg.ixs ts
def Tg.ixs : List Tg → List Nat
  | [] => []
  | t :: ts => t.ix ++ Tg.ixs ts
end
mutual
theorem Tg.l_ix : ∀ (t : Tg) (d : D) (m : List (Nat × D)), t.l d = some m → m.map (·.1) = t.ix
  | .nm i, d, m, h => by simp only [Tg.l, Option.some.injEq] at h; subst h; simp [Tg.ix]
  | .tp ts, d, m, h => by
    cases d with
    | tup ds =>
      simp only [Tg.l] at h
      simp only [Tg.ix]
      exact Tg.ls_ix ts ds m (ite_some' h).2
    | _ => simp only [Tg.l] at h; cases h
theorem Tg.ls_ix : ∀ (t : List Tg) (d : List D) (m : List (Nat × D)), Tg.ls t d = some m → m.map (·.1) = Tg.ixs t
  | [], ds, m, h => by
    cases ds with
    | nil => simp only [Tg.ls, Option.some.injEq] at h; subst h; simp [Tg.ixs]
    | cons _ _ => simp only [Tg.ls] at h; cases h
  | t :: ts, ds, m, h => by
    cases ds with
    | nil => simp only [Tg.ls] at h; cases h
    | cons d ds =>
      simp only [Tg.ls] at h
      split at h
      · rename_i l1 e1
        split at h
        · rename_i l2 e2
          cases h
          simp only [Tg.ixs, List.map_append]
          rw [Tg.l_ix t _ _ e1, Tg.ls_ix ts _ _ e2]
        · cases h
      · cases h
end
theorem wipe_set {σ : L2.St} {i : Nat} {o : Option V} : ∀ {vs : List Nat}, i ∈ vs → L2.wipe (σ.set i o) vs = L2.wipe σ vs
  | [], h => by cases h
  | v :: vs, h => by
    unfold L2.wipe
    by_cases hv : v = i
    · subst hv
      by_cases hm : v ∈ vs
      · rw [wipe_set hm]
      · have : ∀ (ws : List Nat), L2.wipe (σ.set v o) ws = (L2.wipe σ ws).set v (((L2.wipe (σ.set v o) ws)[v]?).getD none) := fun ws => by
          induction ws with
          | nil =>
            unfold L2.wipe
            by_cases hl : v < σ.length
            · rw [List.getElem?_set_self hl]; rfl
            · rw [List.set_eq_of_length_le (by omega), List.set_eq_of_length_le (by omega)]
          | cons w ws ih =>
            unfold L2.wipe
            by_cases hw : w = v
            · subst hw
              rw [ih, List.set_set, List.set_set]
              by_cases hl : w < (L2.wipe σ ws).length
              · rw [List.getElem?_set_self hl]; simp
              · rw [List.set_eq_of_length_le (by omega), List.set_eq_of_length_le (by omega)]
            · rw [List.getElem?_set_ne hw]
              generalize hz : ((L2.wipe (σ.set v o) ws)[v]?).getD none = z at ih ⊢
              rw [ih, List.set_comm _ _ hw]
        rw [this vs, List.set_set]
    · rw [wipe_set ((List.mem_cons.mp h).resolve_left fun e => hv e.symm)]
theorem wipe_wipe {σ : L2.St} : ∀ {vs : List Nat} (ws : List Nat), (∀ v ∈ vs, v ∈ ws) → L2.wipe (L2.wipe σ vs) ws = L2.wipe σ ws
  | [], _, _ => rfl
  | v :: vs, ws, h => by
    show L2.wipe ((L2.wipe σ vs).set v none) ws = _
    rw [wipe_set (h v List.mem_cons_self)]
    exact wipe_wipe ws fun x hx => h x (List.mem_cons_of_mem _ hx)
theorem wipe_put : ∀ {l : List (Nat × V)} {σ : L2.St} {vs : List Nat}, (∀ i ∈ l.map (·.1), i ∈ vs) → L2.wipe (putV σ l) vs = L2.wipe σ vs
  | [], _, _, _ => rfl
  | (i, v) :: l, σ, vs, h => by
    have : putV σ ((i, v) :: l) = putV (σ.set i (some v)) l := rfl
    rw [this, wipe_put fun j hj => h j (List.mem_cons_of_mem _ hj), wipe_set (h i List.mem_cons_self)]

/-! ### comprehensions -/
def lcL (t : Tg) (tt : Env → M Bool) (te : Env → M D) (env : Env) : List D → M (List D)
  | [] => ret []
  | x :: xs => bind (lift (t.l x)) fun m => bind (nx (tt (putD env m))) fun b => if b then bind (nx (te (putD env m))) fun y => bind (lcL t tt te env xs) fun ys => ret (y :: ys) else lcL t tt te env xs
def lcN (it : Env → M (List D)) (t : Tg) (vs : List Nat) (tt : Env → M Bool) (te : Env → M D) : Env → M (List D) := fun env =>
  bind (it env) fun xs => if xs.length ≤ lim then lcL t tt te (wipeE env vs) xs else bad
/-- a list that no one else has -/
def tNv (K : PySem.W.Frag) (da : Da) (cm : Nat → Addr) (W : WX) (f : Env → M (List D)) : TE := fun σ H Q => ∃ Hk env δ, At da Hk H δ ∧ EnvR K da Hk σ env ∧
  Fin K da cm (f env δ) Hk H (fun ds δ' => ∀ p vs Hk' H', Stp da Hk H Hk' H' → At da Hk' H' δ' → Hk' p = none → ¬ Nt H p → H' p = some (.lst vs) → RpL K da.ad Hk' vs ds → Q (.ref p) H') (fun c dd H' => W c dd σ H')
abbrev PNv (X : Cx) (da : Da) (cm : Nat → Addr) (W : WX) (e : Expr) (f : Env → M (List D)) : Prop := PE X e (tNv X.K da cm W f)
def newM (f : Env → M (List D)) : Env → M D := fun env => bind (f env) fun ds => ret (.lst ds)
theorem tNv_of {K : PySem.W.Frag} {da : Da} {cm : Nat → Addr} {W : WX} {f : Env → M (List D)} (σ : L2.St) (H : Hp) (Q : VK) (h : tEv K da cm W (newM f) σ H Q) : tNv K da cm W f σ H Q := by
  obtain ⟨Hk, env, δ, hA, hE, q⟩ := h
  refine ⟨Hk, env, δ, hA, hE, q.bind.mono fun ds δ' q2 p vs Hk' H' s a kp hp hp' r => ?_⟩
  have q2 : ∀ v Hk' H', Stp da Hk H Hk' H' → At da Hk' H' δ' → Rp K da.ad Hk' v (.lst ds) → Q v H' := q2
  have e2 : Ex Hk' (upd Hk' p (.lst vs)) := Evl.Ex.new kp
  have np : ∀ {b : Addr}, Mu H b → b ≠ p := fun h z => hp (by rw [← z]; exact h.nt)
  have dp : da.ad ≠ some p := fun z => hp ⟨_, (hA.di _ z).2, fun _ z => nomatch z⟩
  refine q2 _ (upd Hk' p (.lst vs)) H' ⟨s.kn.trans e2, fun b hb n => by rw [upd_ne (np hb)]; exact s.fr b hb n, s.ke, s.th, s.tm⟩ ⟨fun b o e => ?_, fun b e => ?_, a.tb, da.km _ _ e2 a.kn, fun b ps e => ?_⟩ (.lst upd_same (r.mono e2))
  · by_cases z : b = p
    · subst z; rw [upd_same] at e; cases e; exact hp'
    · rw [upd_ne z] at e; exact a.ex b o e
  · rw [upd_ne (fun z => dp (by rw [e, z]))]
    exact a.di b e
  · by_cases z : b = p
    · subst z; rw [upd_same] at e; cases e
    · rw [upd_ne z] at e; exact a.nt b ps e
theorem ev_nw {X : Cx} {da : Da} {cm : Nat → Addr} {W : WX} {e : Expr} {f : Env → M (List D)} (h : PNv X da cm W e f) : PEv X da cm W e (newM f) := PE.imp h tNv_of
def yesT : Env → M Bool := fun _ => ret true
abbrev PTsv (X : Cx) (da : Da) (cm : Nat → Addr) (W : WX) (ifs : List Expr) (f : Env → M Bool) : Prop := PTs X ifs (tTv X.K da cm W f)
theorem PTs.imp {X : Cx} {e : List Expr} {t t' : TT} (h : PTs X e t) (i : ∀ σ H Q, t' σ H Q → t σ H Q) : PTs X e t' := ⟨fun pins s σ H Q I q => h.run pins s σ H Q I (i _ _ _ q)⟩
theorem tsv_nil {X : Cx} {da : Da} {cm : Nat → Addr} {W : WX} : PTsv X da cm W [] yesT := Dv.PTs.imp pts_nil fun σ H Q ⟨Hk, env, δ, hA, hE, q⟩ => q Hk H (Stp.refl _ _ _) hA
theorem tsv_one {X : Cx} {da : Da} {cm : Nat → Addr} {W : WX} {c : Expr} {f : Env → M Bool} (h : PTv X da cm W c f) : PTsv X da cm W [c] f := pts_one h
section
variable {X : Cx} {da : Da} {cm : Nat → Addr} {W : WX}
theorem tIv.seq {K : PySem.W.Frag} {σ : L2.St} {H Hk : Hp} {env : Env} {δ : Dice} {f : Env → M (List D)} {β : Type} {g : List D → M β} {k : β → Dice → Prop} (hA : At da Hk H δ) (hE : EnvR K da Hk σ env)
    (h : Fin K da cm (Dv.bind (f env) g δ) Hk H k (fun c dd H' => W c dd σ H')) {R : It → Hp → Prop}
    (hq : ∀ J ds δ' Hk' H', Stp da Hk H Hk' H' → At da Hk' H' δ' → EnvR K da Hk' σ env → Yl K da J Hk' ds → Fin K da cm (g ds δ') Hk' H' k (fun c dd H' => W c dd σ H') → R J H') : tIv K da cm W f σ H R :=
  ⟨Hk, env, δ, hA, hE, h.bind.mono fun d δ' hg J Hk' H' s a y => hq J d δ' Hk' H' s a (hE.mono s.kn) y (hg.later s fun _ _ z => z)⟩
theorem tLc_of {it : Env → M (List D)} {t : Tg} {vs : List Nat} {tt : Env → M Bool} {te : Env → M D} (hix : ∀ i ∈ t.ix, i ∈ vs) (σ : L2.St) (H : Hp) (Q : VK) (h : tNv X.K da cm W (lcN it t vs tt te) σ H Q) :
    tLc (tIv X.K da cm W it) (t.g X.K) (tTv X.K da cm W0 tt) (tEv X.K da cm W0 te) vs σ H Q := by
  obtain ⟨Hk, env, δ, hA, hE, q⟩ := h
  refine tIv.seq hA hE q fun J xs δ1 Hk1 H1 s1 a1 e1 yl q1 D nD => ?_
  by_cases hl : ¬ xs.length ≤ lim
  · rw [ifn hl] at q1; exact q1.elim
  have hl := Decidable.not_not.mp hl
  rw [ifp hl] at q1
  have kD : Hk1 D = none := by
    cases z : Hk1 D with
    | none => rfl
    | some o => rw [a1.ex _ _ z] at nD; cases nD
  have dD : da.ad ≠ some D := fun z => by rw [(a1.di _ z).2] at nD; cases nD
  have eD : ∀ {b : Addr}, Nt H1 b → b ≠ D := fun h z => h.ne (by rw [z]; exact nD)
  have eM : ∀ {b : Addr}, Mu H1 b → b ≠ D := fun h z => h.ne (by rw [z]; exact nD)
  have eD' : ∀ {b : Addr}, H1 b ≠ none → b ≠ D := fun h z => h (by rw [z]; exact nD)
  refine ⟨fun i m H' => ∃ Hk' δ' acc ds, At da Hk' H' δ' ∧ Hk' D = none ∧ H' D = some (.lst acc) ∧ RpL X.K da.ad Hk' acc ds ∧ acc.length ≤ i ∧ i ≤ xs.length ∧ m = xs.length - i ∧ Stp da Hk1 H1 Hk' H' ∧
    Fin X.K da cm (Dv.bind (lcL t tt te (wipeE env vs) (xs.drop i)) (fun ys => ret (ds ++ ys)) δ') Hk1 H1 (fun ds δ' => ∀ p vs Hk' H', Stp da Hk H Hk' H' → At da Hk' H' δ' → Hk' p = none → ¬ Nt H p → H' p = some (.lst vs) → RpL X.K da.ad Hk' vs ds → Q (.ref p) H') (fun c dd H' => W c dd σ H'),
    ⟨xs.length, Hk1, δ1, [], [], ?_, kD, upd_same, .nil, Nat.le_refl _, Nat.zero_le _, rfl, ?_, ?_⟩, ?_⟩
  · exact ⟨fun b o e => by rw [upd_ne (eD' (by rw [a1.ex _ _ e]; exact fun z => nomatch z))]; exact a1.ex b o e, fun b e => by
      have z := a1.di b e
      rw [upd_ne (eD' (by rw [z.2]; exact fun z => nomatch z))]
      exact z, a1.tb.ext (Evl.Ex.new nD), a1.kn, a1.nt⟩
  · exact ⟨Evl.Ex.refl _, fun _ _ z => z, fun b o e _ _ => by rw [upd_ne (eD' (by rw [e]; exact fun z => nomatch z))]; exact e, fun b hb => by
      obtain ⟨o, z, n⟩ := hb
      exact ⟨o, by rw [upd_ne (eD' (by rw [z]; exact fun z => nomatch z))]; exact z, n⟩, fun b hb => by
      obtain ⟨o, z, n⟩ := hb
      exact ⟨o, by rw [upd_ne (eD' (by rw [z]; exact fun z => nomatch z))]; exact z, n⟩⟩
  · rw [List.drop_zero, show (fun ys : List Dv.D => ret ([] ++ ys)) = ret from rfl, ret_bind]
    exact q1
  rintro i m H' ⟨Hk', δ', acc, ds, a', kD', hD', rA, hai, hi, rfl, s', q'⟩
  have ek : Ex Hk1 H' := s'.kn.trans a'.ex
  by_cases hx : i = xs.length
  · left
    refine ⟨yl.stop i H' ek (Nat.le_of_eq hx.symm), ?_⟩
    rw [hx, List.drop_length] at q'
    have q2 : ∀ p vs Hk' H', Stp da Hk H Hk' H' → At da Hk' H' δ' → Hk' p = none → ¬ Nt H p → H' p = some (.lst vs) → RpL X.K da.ad Hk' vs (ds ++ []) → Q (.ref p) H' := q'
    rw [List.append_nil] at q2
    exact q2 D acc Hk' H' (s1.trans s') a' kD' (by
      intro z
      exact (s1.th D z).ne nD) hD' rA
  · right
    have hlt : i < xs.length := by omega
    refine ⟨yl.go i H' ek hlt, fun H2 => ∃ m', m' < xs.length - i ∧ _, fun H2 z => z, fun x H2 hy => ?_⟩
    have hd : xs[i]? = some xs[i] := List.getElem?_eq_getElem hlt
    obtain ⟨Hk3, st3, r3⟩ := yl.yld i H' x H2 Hk' _ s'.kn a'.ex hd hy
    have a3 := st3.at_ a'
    rw [List.drop_eq_getElem_cons hlt] at q'
    unfold lcL at q'
    rw [bind_bind] at q'
    cases hm : t.l xs[i] with
    | none => rw [hm] at q'; exact q'.elim
    | some mm =>
      rw [hm, lift_some, bind_ret, bind_bind] at q'
      refine Tg.ok a3.ex t _ mm x _ _ hm r3 fun l hl2 => ⟨?_, ?_⟩
      · rw [wipe_put (fun j hj => hix j ?_), wipe_wipe _ (fun _ z => z)]
        rw [hl2.1, Tg.l_ix t _ _ hm] at hj
        exact hj
      have E3 : EnvR X.K da Hk3 (putV (L2.wipe σ vs) l) (putD (wipeE env vs) mm) := EnvR.put ((e1.mono (s'.kn.trans st3.kn)).wipe vs) hl2
      have s3 : Stp da Hk1 H1 Hk3 H2 := s'.trans st3.stp
      refine ⟨Hk3, _, δ', a3, E3, (Fin.nx q').mono fun b δ4 q4 Hk4 H4 s4 a4 => ?_⟩
      have hD4 : ∀ {Hk4 H4 : Hp}, Stp da Hk3 H2 Hk4 H4 → Hk4 D = none ∧ H4 D = some (.lst acc) := fun {Hk4 H4} s4 => by
        have z2 : H2 D = some (.lst acc) := st3.ke _ _ hD'
        have z1 : Hk3 D = none := st3.fr D (by rw [hD']; exact fun z => nomatch z) kD'
        exact ⟨s4.fr D ⟨_, z2, .lst _⟩ z1, s4.ke D _ z2 dD fun _ z => nomatch z⟩
      cases b with
      | false =>
        refine Eq.mpr (if_neg (c := false = true) (fun z => nomatch z)) ?_
        rw [if_neg (fun z => nomatch z)] at q4
        obtain ⟨k4, h4⟩ := hD4 s4
        exact ⟨xs.length - (i + 1), by omega, Hk4, δ4, acc, ds, a4, k4, h4, rA.mono (st3.kn.trans s4.kn), by omega, hlt, rfl, s3.trans s4, q4⟩
      | true =>
        refine Eq.mpr (if_pos (c := true = true) rfl) ?_
        rw [if_pos rfl, bind_bind] at q4
        refine ⟨Hk4, _, δ4, a4, E3.mono s4.kn, (Fin.nx q4).mono fun y δ5 q5 v Hk5 H5 s5 a5 r5 => ?_⟩
        obtain ⟨k5, h5⟩ := hD4 (s4.trans s5)
        refine ⟨acc, h5, by rw [sizeLine_eq]; unfold lim at hl; omega, xs.length - (i + 1), by omega, Hk5, δ5, acc ++ [v], ds ++ [y], a5.mut h5 (.lst _) k5 dD, k5, upd_same, ?_, by simp; omega, hlt, rfl, ?_, ?_⟩
        · exact (rA.mono ((st3.kn.trans s4.kn).trans s5.kn)).append (.cons r5 .nil)
        · have s6 := (s3.trans s4).trans s5
          exact ⟨s6.kn, s6.fr, fun b o e d n => by rw [upd_ne (eD' (by rw [e]; exact fun z => nomatch z))]; exact s6.ke b o e d n, fun b hb => by
            obtain ⟨o, z, n⟩ := s6.th b hb
            exact ⟨o, by rw [upd_ne (eD hb)]; exact z, n⟩, fun b hb => by
            obtain ⟨o, z, n⟩ := s6.tm b hb
            exact ⟨o, by rw [upd_ne (eM hb)]; exact z, n⟩⟩
        · rw [bind_bind] at q5
          simpa [bind_ret] using q5
end
end Dv
set_option maxHeartbeats 4000000
namespace Dv
open PySem PySem.Spec PyProof.Rows L2

section
variable {X : Cx} {da : Da} {cm : Nat → Addr} {W : WX} {pos spos py : Pos}
theorem pg_nm {i : Nat} {x : Str} (hN : X.N.Nodup) (hi : X.N[i]? = some x) (hx : Loc X.env.scope x) (hf : X.fn x = true ∨ X.env.scope.names.lookup x = some .local := by first | exact .inl rfl | exact .inr rfl | assumption) : PG X (.Name x pos) ((Tg.nm i).g X.K) := by
  simp only [Tg.g]
  exact pg_name hN hi hx hf
theorem pg_tp {es : List Expr} {k : Nat} {ts : List Tg} (hc : X.calm = true) (h : PGs X es (Tg.gs X.K ts))
    (hn : (assignEach es X.env).length = ts.length := by rfl) (hst : (assignEach es X.env).findIdx? (·.1) = none := by rfl) : PG X (.Tuple es k pos) ((Tg.tp ts).g X.K) := by
  simp only [Tg.g]
  exact pg_tup hc h hn hst
theorem pgs_nl : PGs X [] (Tg.gs X.K []) := by simp only [Tg.gs]; exact pgs_nil
theorem pgs_cn {e : Expr} {es : List Expr} {t : Tg} {ts : List Tg} (h1 : PG X e (t.g X.K)) (h2 : PGs X es (Tg.gs X.K ts))
    (hs : (assignEach (e :: es) X.env).map (·.2) = assign e X.env :: (assignEach es X.env).map (·.2) := by rfl) : PGs X (e :: es) (Tg.gs X.K (t :: ts)) := by
  simp only [Tg.gs]
  exact pgs_cons h1 h2 hs
theorem nw_lc {elt tg iter : Expr} {ifs : List Expr} {scope : Scope} {own : List (Str × Nat)} {vs : List Nat} {it : Env → M (List D)} {t : Tg} {tt : Env → M Bool} {te : Env → M D} (hc : X.calm = true) (hN : X.N.Nodup) (hi : PIv X da cm W tg iter it) (ok : BlkOk X.N X.env.scope scope own)
    (hix : ∀ i ∈ t.ix, i ∈ vs)
    (hg : ∀ (s : Shared) (H : Hp) (C : Addr) (cl : List (Str × Addr)) (fp : List Addr), PG (X.blk s H scope (compEnvC scope cl C X.env) fp) tg (t.g X.K)) (ht : ∀ (s : Shared) (H : Hp) (C : Addr) (cl : List (Str × Addr)) (fp : List Addr), PTsv (X.blk s H scope (compEnvC scope cl C X.env) fp) da cm W0 ifs tt)
    (he : ∀ (s : Shared) (H : Hp) (C : Addr) (cl : List (Str × Addr)) (fp : List Addr), PEv (X.blk s H scope (compEnvC scope cl C X.env) fp) da cm W0 elt te) (hs : ∀ x, foldedSetIterable iter X.env x = pure x := by intro _; rfl) (hvs : own.map (·.2) = vs := by rfl) :
    PNv X da cm W (.ListComp elt [⟨tg, iter, ifs, 0⟩] scope pos) (lcN it t vs tt te) := by
  subst hvs
  exact PE.imp (pe_lc hc hN hi ok hg ht he hs) (tLc_of hix)
theorem ss_setLc {E : XK} {i : Nat} {y : Str} {elt tg iter : Expr} {ifs : List Expr} {scope : Scope} {own : List (Str × Nat)} {vs : List Nat} {it : Env → M (List D)} {t : Tg} {tt : Env → M Bool} {te : Env → M D} (hc : X.calm = true) (hN : X.N.Nodup) (hy : X.N[i]? = some y) (hyl : X.env.scope.names.lookup y = some .local)
    (hsw : swapsWith (.ListComp elt [⟨tg, iter, ifs, 0⟩] scope pos) (some (.Name y py)) spos.line X.env = pure true) (hi : PIv X da cm (WE0 E) tg iter it) (ok : BlkOk X.N X.env.scope scope own)
    (hix : ∀ i ∈ t.ix, i ∈ vs)
    (hg : ∀ (s : Shared) (H : Hp) (C : Addr) (cl : List (Str × Addr)) (fp : List Addr), PG (X.blk s H scope (compEnvC scope cl C X.env) fp) tg (t.g X.K)) (ht : ∀ (s : Shared) (H : Hp) (C : Addr) (cl : List (Str × Addr)) (fp : List Addr), PTsv (X.blk s H scope (compEnvC scope cl C X.env) fp) da cm W0 ifs tt)
    (he : ∀ (s : Shared) (H : Hp) (C : Addr) (cl : List (Str × Addr)) (fp : List Addr), PEv (X.blk s H scope (compEnvC scope cl C X.env) fp) da cm W0 elt te) (hs : ∀ x, foldedSetIterable iter X.env x = pure x := by intro _; rfl) (hvs : own.map (·.2) = vs := by rfl) :
    PSv X da cm E (.Assign [.Name y py] (.ListComp elt [⟨tg, iter, ifs, 0⟩] scope pos) spos) (asgS i (newM (lcN it t vs tt te))) := by
  subst hvs
  exact PS.imp (ps_setLc hc hN hy hyl hsw hi ok hg ht he hs) fun D σ H h => tLc_of hix σ H _ (tNv_of σ H _ (asgS_of D σ H h))
end

/-! ### for -/
def putS (env : SEnv) (m : List (Nat × D)) : SEnv := puts env (m.map fun p => (p.1, .dt p.2))
section
variable {K : PySem.W.Frag} {da : Da} {Hk H : Hp}
theorem EnvS.put : ∀ {l : List (Nat × V)} {m : List (Nat × D)} {σ : L2.St} {env : SEnv}, EnvS K da Hk H σ env → RpP K da.ad Hk l m → EnvS K da Hk H (putV σ l) (putS env m)
  | [], [], _, _, h, _ => h
  | [], _ :: _, _, _, _, r => by cases r.1
  | _ :: _, [], _, _, _, r => by cases r.1
  | (i, v) :: l, (j, d) :: m, _, _, h, r => by
    obtain ⟨h1, h2⟩ := r
    simp only [List.map_cons, List.cons.injEq] at h1 h2
    obtain ⟨rfl, h1⟩ := h1
    cases h2 with
    | cons h2 h3 =>
      show EnvS K da Hk H (putV (List.set _ i (some v)) l) (putS (List.set _ i (.dt d)) m)
      exact EnvS.put (EnvS.set h h2) ⟨h1, h3⟩
theorem Own.of_put {p : Addr} : ∀ {l : List (Nat × V)} {m : List (Nat × D)} {σ : L2.St} {env : SEnv}, l.map (·.1) = m.map (·.1) → Own (putV σ l) (putS env m) p → Own σ env p
  | [], [], _, _, _, h => h
  | [], _ :: _, _, _, r, _ => by cases r
  | _ :: _, [], _, _, r, _ => by cases r
  | (i, v) :: l, (j, d) :: m, _, _, r, h => by
    simp only [List.map_cons, List.cons.injEq] at r
    obtain ⟨rfl, h1⟩ := r
    exact (Own.of_put (l := l) (m := m) h1 h).of_set
end
def forL (t : Tg) (F : SEnv → M Fl) : List D → SEnv → M Fl
  | [], env => ret (.next env)
  | x :: xs, env => bind (lift (t.l x)) fun m => bind (F (putS env m)) fun r => match r with
    | .next e => forL t F xs e
    | .cont e => forL t F xs e
    | .brk e => ret (.next e)
    | .ret d => ret (.ret d)
    | .nw ds => ret (.nw ds)
def forM (it : Env → M (List D)) (t : Tg) (F : SEnv → M Fl) : SEnv → M Fl := fun env => bind (it (vw env)) fun xs => forL t F xs env
section
variable {X : Cx} {da : Da} {cm : Nat → Addr} {E : XK} {pos : Pos} {tg iter : Expr} {body : List Stmt}
theorem tIv.st {K : PySem.W.Frag} {σ : L2.St} {H Hk : Hp} {env : SEnv} {δ : Dice} {D : Ends} {f : Env → M (List Dv.D)} {g : List Dv.D → M Fl} (hA : At da Hk H δ) (hE : EnvS K da Hk H σ env) (h : FinS K da cm (Dv.bind (f (vw env)) g δ) Hk H σ env D E) {R : It → Hp → Prop}
    (hq : ∀ J ds δ' Hk' H', Stp da Hk H Hk' H' → At da Hk' H' δ' → EnvS K da Hk' H' σ env → Yl K da J Hk' ds → FinS K da cm (g ds δ') Hk' H' σ env D E → R J H') : tIv K da cm (WE0 E) f σ H R :=
  ⟨Hk, vw env, δ, hA, hE.vw, h.seq.mono fun d δ' hg J Hk' H' s a y => hq J d δ' Hk' H' s a (hE.step s) y (hg.step s)⟩
theorem tFor_of {it : Env → M (List Dv.D)} {t : Tg} {F : SEnv → M Fl} (D : Ends) (σ : L2.St) (H : Hp) (h : tSt X.K da cm E (forM it t F) D σ H) : tFor (tIv X.K da cm (WE0 E) it) (t.g X.K) (tSt X.K da cm E F) D σ H := by
  obtain ⟨Hk, env, δ, hA, hE, q⟩ := h
  refine tIv.st hA hE q fun J xs δ1 Hk1 H1 s1 a1 e1 yl q1 => ?_
  refine ⟨fun i m σ' H' => ∃ Hk' δ' env', At da Hk' H' δ' ∧ EnvS X.K da Hk' H' σ' env' ∧ i ≤ xs.length ∧ m = xs.length - i ∧ Ex Hk1 Hk' ∧ FinS X.K da cm (forL t F (xs.drop i) env' δ') Hk' H' σ' env' D E, ⟨xs.length, Hk1, δ1, env, a1, e1, Nat.zero_le _, rfl, Evl.Ex.refl _, q1⟩, ?_⟩
  rintro i m σ' H' ⟨Hk', δ', env', a', e', hi, rfl, kn, q'⟩
  have ek : Ex Hk1 H' := kn.trans a'.ex
  by_cases hx : i = xs.length
  · left
    refine ⟨yl.stop i H' ek (Nat.le_of_eq hx.symm), ?_⟩
    rw [hx, List.drop_length] at q'
    exact q' σ' Hk' H' (StpS.refl _ _ _ _) a' e' fun _ => own_le
  · right
    have hlt : i < xs.length := by omega
    refine ⟨yl.go i H' ek hlt, fun σ2 H2 => ∃ m', m' < xs.length - i ∧ _, fun σ2 H2 z => z, fun x H2 hy => ?_⟩
    have hd : xs[i]? = some xs[i] := List.getElem?_eq_getElem hlt
    obtain ⟨Hk3, st3, r3⟩ := yl.yld i H' x H2 Hk' _ kn a'.ex hd hy
    have a3 := st3.at_ a'
    have e3 := e'.step st3.stp
    rw [List.drop_eq_getElem_cons hlt] at q'
    unfold forL at q'
    cases hm : t.l xs[i] with
    | none => rw [hm] at q'; exact q'.elim
    | some mm =>
      rw [hm, lift_some, bind_ret] at q'
      refine Tg.ok a3.ex t _ mm x _ _ hm r3 fun l hl2 => ?_
      have E3 : EnvS X.K da Hk3 H2 (putV σ' l) (putS env' mm) := e3.put hl2
      have o3 : ∀ p, Own (putV σ' l) (putS env' mm) p → Own σ' env' p := fun p z => Own.of_put hl2.1 z
      refine ⟨Hk3, _, δ', a3, E3, ?_⟩
      have q3 := q'.step st3.stp
      -- on to the next turn
      have on : ∀ {env4 : SEnv} {δ4 : Dice}, FinS X.K da cm (forL t F (xs.drop (i + 1)) env4 δ4) Hk3 H2 σ' env' D E → Nx X.K da Hk3 H2 (putV σ' l) (putS env' mm) env4 δ4 (fun σ2 H2 => ∃ m', m' < xs.length - i ∧ ∃ Hk' δ' env', At da Hk' H2 δ' ∧ EnvS X.K da Hk' H2 σ2 env' ∧ i + 1 ≤ xs.length ∧ m' = xs.length - (i + 1) ∧ Ex Hk1 Hk' ∧ FinS X.K da cm (forL t F (xs.drop (i + 1)) env' δ') Hk' H2 σ2 env' D E) := fun {env4 δ4} q4 σ4 Hk4 H4 s4 a4 e4 o4 =>
        ⟨xs.length - (i + 1), by omega, Hk4, δ4, env4, a4, e4, hlt, rfl, (kn.trans st3.kn).trans s4.kn, q4.later (s4.mono o3) fun p hp => (o4 p hp).imp (o3 p) id⟩
      have w3 : StpS da (Own (putV σ' l) (putS env' mm)) Hk3 H2 Hk3 H2 := StpS.refl _ _ _ _
      unfold Dv.bind at q3
      cases hr : F (putS env' mm) δ' with
      | bad => rw [hr] at q3; exact q3.elim
      | exc c fs δ4 =>
        rw [hr] at q3
        exact fun dd Hk4 H4 s4 a4 x4 => q3 dd Hk4 H4 (s4.mono o3) a4 x4
      | ok fl δ4 =>
        rw [hr] at q3
        cases fl with
        | next env4 => exact on q3
        | cont env4 => exact on q3
        | brk env4 => exact fun σ4 Hk4 H4 s4 a4 e4 o4 => q3 σ4 Hk4 H4 (s4.mono o3) a4 e4 fun p hp => (o4 p hp).imp (o3 p) id
        | ret d => exact fun v Hk4 H4 s4 a4 r4 => q3 v Hk4 H4 (s4.mono o3) a4 r4
        | nw ds => exact fun p ws Hk4 H4 s4 a4 => q3 p ws Hk4 H4 (s4.mono o3) a4
theorem ss_for {it : Env → M (List D)} {t : Tg} {F : SEnv → M Fl} (hp : PassesOwn (model X.prog X.w) X.A X.env X.xe) (hc : X.calm = true) (hi : PIv X da cm (WE0 E) tg iter it) (hg : PG X tg (t.g X.K)) (hb : PBv X da cm E body F)
    (hs : ∀ x, foldedSetIterable iter X.env x = pure x := by intro _; rfl) : PSv X da cm E (.For tg iter body [] pos) (forM it t F) := PS.imp (ps_for hp hc hi hg hb hs) tFor_of
end
/-! ### while: n turns at most -/
def whL (t : Env → M Bool) (F : SEnv → M Fl) : Nat → SEnv → M Fl
  | 0, _ => bad
  | n + 1, env => bind (t (va env)) fun b => if b then bind (F env) fun r => match r with
      | .next e => whL t F n e
      | .cont e => whL t F n e
      | .brk e => ret (.next e)
      | .ret d => ret (.ret d)
      | .nw ds => ret (.nw ds)
    else ret (.next env)
section
variable {X : Cx} {da : Da} {cm : Nat → Addr} {E : XK} {pos : Pos} {c : Expr} {body : List Stmt}
theorem tWhile_of {n : Nat} {t : Env → M Bool} {F : SEnv → M Fl} (D : Ends) (σ : L2.St) (H : Hp) (h : tSt X.K da cm E (whL t F n) D σ H) : tWhile (tTv X.K da cm (WE0 E) t) (tSt X.K da cm E F) D σ H := by
  refine ⟨fun m σ' H' => tSt X.K da cm E (whL t F m) D σ' H', ⟨n, h⟩, ?_⟩
  rintro m σ' H' ⟨Hk, env, δ, hA, hE, q⟩
  cases m with
  | zero => exact q.elim
  | succ m =>
    unfold whL at q
    refine tTv.st hA hE q fun b δ1 H1 a1 e1 q1 => ?_
    cases b with
    | false =>
      rw [if_neg (fun z => nomatch z)]
      rw [ifn (fun z => nomatch z)] at q1
      exact q1 σ' Hk H1 (StpS.refl _ _ _ _) a1 e1 fun _ => own_le
    | true =>
      rw [if_pos rfl]
      rw [ifp rfl] at q1
      refine ⟨fun σ2 H2 => ∃ m', m' < m + 1 ∧ tSt X.K da cm E (whL t F m') D σ2 H2, fun _ _ z => z, Hk, env, δ1, a1, e1, ?_⟩
      have on : ∀ {env4 : SEnv} {δ4 : Dice}, FinS X.K da cm (whL t F m env4 δ4) Hk H1 σ' env D E → Nx X.K da Hk H1 σ' env env4 δ4 (fun σ2 H2 => ∃ m', m' < m + 1 ∧ tSt X.K da cm E (whL t F m') D σ2 H2) := fun {env4 δ4} q4 σ4 Hk4 H4 s4 a4 e4 o4 =>
        ⟨m, Nat.lt_succ_self m, Hk4, env4, δ4, a4, e4, q4.later s4 o4⟩
      unfold Dv.bind at q1
      cases hr : F env δ1 with
      | bad => rw [hr] at q1; exact q1.elim
      | exc c fs δ4 => rw [hr] at q1; exact q1
      | ok fl δ4 =>
        rw [hr] at q1
        cases fl with
        | next env4 => exact on q1
        | cont env4 => exact on q1
        | brk env4 => exact q1
        | ret d => exact q1
        | nw ds => exact q1
theorem ss_while {t : Env → M Bool} {F : SEnv → M Fl} (n : Nat) (hp : PassesOwn (model X.prog X.w) X.A X.env X.xe) (hc : PTv X da cm (WE0 E) c t) (hb : PBv X da cm E body F) : PSv X da cm E (.While c body [] pos) (whL t F n) := PS.imp (ps_while hp hc hb) tWhile_of
end
/-! ### an own list is data from now on -/
def frzE (i : Nat) (env : SEnv) : SEnv := match env[i]? with
  | some (.ow ds) => env.set i (.dt (.lst ds))
  | some (.od kvs) => env.set i (.dt (.dic kvs))
  | _ => env
def frzS (i : Nat) (F : SEnv → M Fl) : SEnv → M Fl := fun env => F (frzE i env)
section
variable {X : Cx} {da : Da} {cm : Nat → Addr} {E : XK} {K : PySem.W.Frag} {Hk H : Hp} {σ : L2.St} {env : SEnv} {δ : Dice} {D : Ends}
theorem Own.of_dt {i : Nat} {d : Dv.D} {p : Addr} (h : Own σ (env.set i (.dt d)) p) : Own σ env p := by
  obtain ⟨j, s, e, o, q⟩ := h
  by_cases hj : i = j
  · subst hj
    have z := get_set_same e
    subst z
    cases o
  · rw [List.getElem?_set_ne hj] at e
    exact ⟨j, s, e, o, q⟩
theorem frz_one {i : Nat} {s : Sl} {p : Addr} {o : HO} {d : Dv.D} {F : SEnv → M Fl} (hA : At da Hk H δ) (hE : EnvS K da Hk H σ env) (he : env[i]? = some s) (so : s.own = true) (h1 : σ[i]? = some (some (.ref p))) (h2 : Hk p = none) (h3 : da.ad ≠ some p) (h4 : H p = some o) (ho : ∀ ps, o ≠ .tbl ps)
    (r : Rp K da.ad (upd Hk p o) (.ref p) d) (q : FinS K da cm (F (env.set i (.dt d)) δ) Hk H σ env D E) : tSt K da cm E F D σ H := by
  have kn : Ex Hk (upd Hk p o) := Evl.Ex.new h2
  refine ⟨upd Hk p o, env.set i (.dt d), δ, ⟨fun b u e => ?_, fun b e => ?_, hA.tb, da.km _ _ kn hA.kn, fun b ps e => ?_⟩, ⟨by rw [List.length_set]; exact hE.len, fun j x e => ?_, fun j t e ow => ?_, fun j k t u a e1 o1 e2 o2 q1 q2 => ?_⟩, q.later ⟨kn, fun b _ n hb => ?_, fun b u e _ _ _ => e, fun b e => e, fun b e => e⟩ fun a z => .inl z.of_dt⟩
  · by_cases z : b = p
    · subst z; rw [upd_same] at e; cases e; exact h4
    · rw [upd_ne z] at e; exact hA.ex b u e
  · rw [upd_ne (fun z => h3 (by rw [e, z]))]
    exact hA.di b e
  · by_cases z : b = p
    · subst z; rw [upd_same] at e; exact ho ps (Option.some.inj e)
    · rw [upd_ne z] at e; exact hA.nt b ps e
  · by_cases hj : i = j
    · subst hj
      cases get_set_same e
      exact ⟨_, h1, r⟩
    · rw [List.getElem?_set_ne hj] at e
      obtain ⟨v, a1, a2⟩ := hE.dat j x e
      exact ⟨v, a1, a2.mono kn⟩
  · by_cases hj : i = j
    · subst hj
      cases get_set_same e
      cases ow
    · rw [List.getElem?_set_ne hj] at e
      obtain ⟨b, a1, a2, a3, a4⟩ := hE.own j t e ow
      have nb : b ≠ p := fun z => hj (hE.apart i j s t p he so e ow h1 (by rw [a1, z]))
      refine ⟨b, a1, by rw [upd_ne nb]; exact a2, a3, ?_⟩
      cases t with
      | ow ds => obtain ⟨vs, q, r⟩ := a4; exact ⟨vs, q, r.mono kn⟩
      | od ds => obtain ⟨vs, q, r⟩ := a4; exact ⟨vs, q, r.mono kn⟩
      | no => exact a4
      | dt d => exact a4
  · by_cases hj : i = j
    · subst hj
      cases get_set_same e1
      cases o1
    · by_cases hk : i = k
      · subst hk
        cases get_set_same e2
        cases o2
      · rw [List.getElem?_set_ne hj] at e1
        rw [List.getElem?_set_ne hk] at e2
        exact hE.apart j k t u a e1 o1 e2 o2 q1 q2
  · have : b ≠ p := fun z => n (by rw [z]; exact ⟨i, s, he, so, h1⟩)
    rw [upd_ne this]
    exact hb
theorem tSt_frz {i : Nat} {F : SEnv → M Fl} (D : Ends) (σ : L2.St) (H : Hp) (h : tSt K da cm E (frzS i F) D σ H) : tSt K da cm E F D σ H := by
  obtain ⟨Hk, env, δ, hA, hE, q⟩ := h
  unfold frzS frzE at q
  split at q
  · rename_i ds he
    obtain ⟨p, h1, h2, h3, vs, h4, h5⟩ := hE.own i _ he rfl
    exact frz_one hA hE he rfl h1 h2 h3 h4 (fun _ z => nomatch z) (.lst upd_same (h5.mono (Evl.Ex.new h2))) q
  · rename_i ds he
    obtain ⟨p, h1, h2, h3, vs, h4, h5⟩ := hE.own i _ he rfl
    exact frz_one hA hE he rfl h1 h2 h3 h4 (fun _ z => nomatch z) (.dic (.inl upd_same) (h5.mono (Evl.Ex.new h2))) q
  · exact ⟨Hk, env, δ, hA, hE, q⟩
theorem ss_frz {st : Stmt} {i : Nat} {F : SEnv → M Fl} (h : PSv X da cm E st F) : PSv X da cm E st (frzS i F) := PS.imp h tSt_frz
theorem sb_frz {st : List Stmt} {i : Nat} {F : SEnv → M Fl} (h : PBv X da cm E st F) : PBv X da cm E st (frzS i F) := PSs.imp h tSt_frz
end
end Dv
set_option maxHeartbeats 4000000
namespace Dv
open PySem PySem.Spec PyProof.Rows L2

/-! ### lists that no one else has -/
section
variable {X : Cx} {da : Da} {cm : Nat → Addr} {W : WX} {pos p : Pos} {e : Expr} {es : List Expr} {fs : Env → M (List D)} {fa : Env → M D}
def dspN (fs : Env → M (List D)) : Env → M (List D) := fun env => bind (fs env) fun xs => if xs.length ≤ lim then ret xs else bad
theorem new_at {da : Da} {Hk H : Hp} {δ : Dice} {p : Addr} {o : HO} (a : At da Hk H δ) (h : H p = none) : At da Hk (upd H p o) δ ∧ Stp da Hk H Hk (upd H p o) ∧ Hk p = none ∧ da.ad ≠ some p := by
  have np : ∀ {b : Addr}, H b ≠ none → b ≠ p := fun q z => q (by rw [z]; exact h)
  have hk : Hk p = none := by
    cases z : Hk p with
    | none => rfl
    | some u => rw [a.ex _ _ z] at h; cases h
  exact ⟨⟨fun b u e => by rw [upd_ne (np (by rw [a.ex _ _ e]; exact fun z => nomatch z))]; exact a.ex b u e, fun b e => by
      have z := a.di b e
      rw [upd_ne (np (by rw [z.2]; exact fun z => nomatch z))]
      exact z, a.tb.ext (Evl.Ex.new h), a.kn, a.nt⟩, ⟨Evl.Ex.refl _, fun _ _ z => z, fun b u e _ _ => by rw [upd_ne (np (by rw [e]; exact fun z => nomatch z))]; exact e, fun b q => by
      obtain ⟨u, e, n⟩ := q
      exact ⟨u, by rw [upd_ne (np (by rw [e]; exact fun z => nomatch z))]; exact e, n⟩, fun b q => by
      obtain ⟨u, e, n⟩ := q
      exact ⟨u, by rw [upd_ne (np (by rw [e]; exact fun z => nomatch z))]; exact e, n⟩⟩, hk, fun z => by rw [(a.di _ z).2] at h; cases h⟩
theorem Stp.none {da : Da} {Hk H Hk' H' : Hp} {p : Addr} (s : Stp da Hk H Hk' H') (h : H' p = none) : ¬ Nt H p := fun z => (s.th p z).ne h
theorem nw_lst (h : PAv X da cm W es fs) : PNv X da cm W (.List es pos) (dspN fs) := PE.imp (pe_lst h) fun σ H Q ⟨Hk, env, δ, hA, hE, q⟩ => by
  refine tAv.seq hA hE q fun xs ds δ1 Hk1 H1 s1 a1 e1 r1 q1 => ?_
  by_cases hl : ds.length ≤ lim
  · rw [ifp hl] at q1
    refine ⟨by rw [r1.length]; exact lim_le hl, fun p hp => ?_⟩
    obtain ⟨a2, s2, k2, _⟩ := new_at (o := .lst xs) a1 hp
    exact q1 p xs Hk1 _ (s1.trans s2) a2 k2 (s1.none hp) upd_same r1
  · rw [ifn hl] at q1; exact q1.elim
def D.seq? : D → Option (List D)
  | .lst xs => some xs
  | .tup xs => some xs
  | _ => none
def D.seq1 : List D → Option (List D)
  | [d] => d.seq?
  | _ => none
def lstN (fs : Env → M (List D)) : Env → M (List D) := fun env => bind (fs env) fun xs => lift (D.seq1 xs)
theorem nw_list {x : Str} (hg : Gl X x) (hm : X.mg x = none) (hv : bootBuiltins x = some (.type "list")) (ha : PAv X da cm W (e :: es) fs) (hn : x ≠ "__name__" := by decide) (hdb : (x == ("__debug__" : Str)) = false := by decide)
    (he : starEach (e :: es) X.env = (false, eval e X.env) :: starEach es X.env := by rfl) (hpl : (backTo pos (starEach es X.env)).any (·.1) = false := by rfl) : PNv X da cm W (.Call (.Name x p) (e :: es) [] pos) (lstN fs) := PE.imp (pe_callTy call_list_of hg hm hv ha hn hdb he hpl) fun σ H Q ⟨Hk, env, δ, hA, hE, q⟩ => by
  refine tAv.seq hA hE q fun xs ds δ1 Hk1 H1 s1 a1 e1 r1 q1 => ?_
  cases hz : D.seq1 ds with
  | none => rw [hz] at q1; exact q1.elim
  | some z =>
    rw [hz] at q1
    unfold D.seq1 at hz
    split at hz
    · obtain ⟨v, rfl, rv⟩ := r1.one
      unfold D.seq? at hz
      split at hz
      · cases hz
        cases rv with
        | lst h r =>
          refine ⟨_, _, rfl, .inl (SqL.of (a1.ex _ _ h)), fun l hl => ?_⟩
          obtain ⟨a2, s2, k2, _⟩ := new_at (o := .lst _) a1 hl
          exact q1 l _ Hk1 _ (s1.trans s2) a2 k2 (s1.none hl) upd_same r
      · cases hz
        cases rv with
        | tup h r =>
          refine ⟨_, _, rfl, .inr (Evl.ex_t a1.ex h), fun l hl => ?_⟩
          obtain ⟨a2, s2, k2, _⟩ := new_at (o := .lst _) a1 hl
          exact q1 l _ Hk1 _ (s1.trans s2) a2 k2 (s1.none hl) upd_same r
      · cases hz
    · cases hz
end

/-! ### own lists -/
section
variable {K : PySem.W.Frag} {da : Da} {Hk H : Hp} {σ : L2.St} {env : SEnv} {δ : Dice}
/-- a new own list in slot i -/
theorem EnvS.newOw {i : Nat} {p : Addr} {vs : List V} {ds : List D} (h : EnvS K da Hk H σ env) (hp : H p = some (.lst vs)) (hk : Hk p = none) (hd : da.ad ≠ some p) (hn : ¬ Own σ env p) (r : RpL K da.ad Hk vs ds) : EnvS K da Hk H (σ.set i (some (.ref p))) (env.set i (.ow ds)) where
  len := by rw [List.length_set, List.length_set]; exact h.len
  dat := fun j x e => by
    by_cases hj : i = j
    · subst hj
      cases get_set_same e
    · rw [List.getElem?_set_ne hj] at e ⊢
      exact h.dat j x e
  own := fun j s e o => by
    by_cases hj : i = j
    · subst hj
      have hl := set_lt e
      cases get_set_same e
      exact ⟨p, List.getElem?_set_self (by rw [h.len]; exact hl), hk, hd, vs, hp, r⟩
    · rw [List.getElem?_set_ne hj] at e ⊢
      exact h.own j s e o
  apart := fun j k s t q e1 o1 e2 o2 q1 q2 => by
    by_cases hj : i = j
    · subst hj
      by_cases hk : i = k
      · exact hk
      · rw [List.getElem?_set_self (by rw [h.len]; exact set_lt e1)] at q1
        cases q1
        rw [List.getElem?_set_ne hk] at e2 q2
        exact absurd ⟨k, t, e2, o2, q2⟩ hn
    · rw [List.getElem?_set_ne hj] at e1 q1
      by_cases hk : i = k
      · subst hk
        rw [List.getElem?_set_self (by rw [h.len]; exact set_lt e2)] at q2
        cases q2
        exact absurd ⟨j, s, e1, o1, q1⟩ hn
      · rw [List.getElem?_set_ne hk] at e2 q2
        exact h.apart j k s t q e1 o1 e2 o2 q1 q2
theorem Own.of_new {i : Nat} {p q : Addr} {s : Sl} (h : Own (σ.set i (some (.ref p))) (env.set i s) q) : Own σ env q ∨ q = p := by
  obtain ⟨j, t, e, o, z⟩ := h
  by_cases hj : i = j
  · subst hj
    by_cases hl : i < σ.length
    · rw [List.getElem?_set_self hl] at z
      cases z
      exact .inr rfl
    · rw [List.set_eq_of_length_le (by omega)] at z
      rw [List.getElem?_eq_none (by omega)] at z
      cases z
  · rw [List.getElem?_set_ne hj] at e z
    exact .inl ⟨j, t, e, o, z⟩
/-- the own object of slot i changes -/
theorem EnvS.upd {i : Nat} {p : Addr} {s s' : Sl} {o' : HO} (h : EnvS K da Hk H σ env) (he : env[i]? = some s) (so : s.own = true) (h1 : σ[i]? = some (some (.ref p))) (so' : s'.own = true) (c : OwnAt K da Hk (L2.upd H p o') p s') : EnvS K da Hk (L2.upd H p o') σ (env.set i s') where
  len := by rw [List.length_set]; exact h.len
  dat := fun j x e => by
    by_cases hj : i = j
    · subst hj
      cases get_set_same e
      cases so'
    · rw [List.getElem?_set_ne hj] at e
      exact h.dat j x e
  own := fun j t e ow => by
    by_cases hj : i = j
    · subst hj
      cases get_set_same e
      obtain ⟨q, a1, a2, a3, _⟩ := h.own i s he so
      rw [h1] at a1
      cases a1
      exact ⟨p, h1, a2, a3, c⟩
    · rw [List.getElem?_set_ne hj] at e
      obtain ⟨q, a1, a2, a3, a4⟩ := h.own j t e ow
      have nq : q ≠ p := fun z => hj (h.apart i j s t p he so e ow h1 (by rw [a1, z]))
      refine ⟨q, a1, a2, a3, ?_⟩
      cases t with
      | ow ds => obtain ⟨vs, q, r⟩ := a4; exact ⟨vs, by rw [upd_ne nq]; exact q, r⟩
      | od ds => obtain ⟨vs, q, r⟩ := a4; exact ⟨vs, by rw [upd_ne nq]; exact q, r⟩
      | no => exact a4
      | dt d => exact a4
  apart := fun j k t u a e1 o1 e2 o2 q1 q2 => by
    have get : ∀ {j : Nat} {t : Sl}, (env.set i s')[j]? = some t → t.own = true → ∃ t', env[j]? = some t' ∧ t'.own = true := fun {j t} e o => by
      by_cases hj : i = j
      · subst hj; exact ⟨s, he, so⟩
      · rw [List.getElem?_set_ne hj] at e; exact ⟨t, e, o⟩
    obtain ⟨t', b1, b2⟩ := get e1 o1
    obtain ⟨u', c1, c2⟩ := get e2 o2
    exact h.apart j k t' u' a b1 b2 c1 c2 q1 q2
theorem Own.of_upd {i : Nat} {s s' : Sl} {q : Addr} (he : env[i]? = some s) (so : s.own = true) (h : Own σ (env.set i s') q) : Own σ env q := by
  obtain ⟨j, t, e, o, z⟩ := h
  by_cases hj : i = j
  · subst hj; exact ⟨i, s, he, so, z⟩
  · rw [List.getElem?_set_ne hj] at e; exact ⟨j, t, e, o, z⟩
theorem StpS.upd {O : Addr → Prop} {p : Addr} {o' : HO} (hO : O p) (ho : Mut o' := by first | exact Mut.lst _ | exact Mut.dK _) : StpS da O Hk H Hk (L2.upd H p o') where
  kn := Evl.Ex.refl _
  fr := fun _ _ _ n => n
  ke := fun b o e _ _ n => by rw [upd_ne (fun z => n (by rw [z]; exact hO))]; exact e
  th := fun b hb => by
    by_cases z : b = p
    · subst z; exact ⟨_, upd_same, ho.ntb⟩
    · obtain ⟨u, e, n⟩ := hb
      exact ⟨u, by rw [upd_ne z]; exact e, n⟩
  tm := fun b hb => by
    by_cases z : b = p
    · subst z; exact ⟨_, upd_same, ho⟩
    · obtain ⟨u, e, n⟩ := hb
      exact ⟨u, by rw [upd_ne z]; exact e, n⟩
end
section
variable {X : Cx} {da : Da} {cm : Nat → Addr} {E : XK} {pos pos' : Pos} {e : Expr} {i : Nat} {x : Str}
/-- name = a list that no one else has -/
def asgN (i : Nat) (f : Env → M (List D)) : SEnv → M Fl := fun env => bind (f (vw env)) fun ds => ret (.next (env.set i (.ow ds)))
theorem asgN_of {f : Env → M (List D)} (D : Ends) (σ : L2.St) (H : Hp) (h : tSt X.K da cm E (asgN i f) D σ H) : tAsg (tNv X.K da cm (WE0 E) f) (gName i) D σ H := by
  obtain ⟨Hk, env, δ, hA, hE, q⟩ := h
  refine ⟨Hk, vw env, δ, hA, hE.vw, q.seq.mono fun ds δ' q2 p vs Hk' H' s a kp hp hp' r => ?_⟩
  have e2 := hE.step s
  have dp : da.ad ≠ some p := fun z => hp ⟨_, (hA.di _ z).2, fun _ z => nomatch z⟩
  have no : ¬ Own σ env p := fun z => hp (Own.there hE z).2.2.nt
  exact q2 _ Hk' H' s.s a (e2.newOw hp' kp dp no r) fun b hb => (Own.of_new hb).imp id fun z => by rw [z]; exact hp
theorem ss_setN {f : Env → M (List D)} (hN : X.N.Nodup) (hi : X.N[i]? = some x) (hx : Loc X.env.scope x) (he : PNv X da cm (WE0 E) e f) (hs : swapsWith e (some (.Name x pos')) pos.line X.env = pure false := by rfl)
    (hf : X.fn x = true ∨ X.env.scope.names.lookup x = some .local := by first | exact .inl rfl | exact .inr rfl | assumption) : PSv X da cm E (.Assign [.Name x pos'] e pos) (asgN i f) := PS.imp (ps_set hN hi hx he hs hf) asgN_of
theorem ss_setLcN {y : Str} {py spos : Pos} {elt tg iter : Expr} {ifs : List Expr} {scope : Scope} {own : List (Str × Nat)} {vs : List Nat} {it : Env → M (List D)} {t : Tg} {tt : Env → M Bool} {te : Env → M D} (hc : X.calm = true) (hN : X.N.Nodup) (hy : X.N[i]? = some y) (hyl : X.env.scope.names.lookup y = some .local)
    (hsw : swapsWith (.ListComp elt [⟨tg, iter, ifs, 0⟩] scope pos) (some (.Name y py)) spos.line X.env = pure true) (hi : PIv X da cm (WE0 E) tg iter it) (ok : BlkOk X.N X.env.scope scope own)
    (hix : ∀ i ∈ t.ix, i ∈ vs)
    (hg : ∀ (s : Shared) (H : Hp) (C : Addr) (cl : List (Str × Addr)) (fp : List Addr), PG (X.blk s H scope (compEnvC scope cl C X.env) fp) tg (t.g X.K)) (ht : ∀ (s : Shared) (H : Hp) (C : Addr) (cl : List (Str × Addr)) (fp : List Addr), PTsv (X.blk s H scope (compEnvC scope cl C X.env) fp) da cm W0 ifs tt)
    (he : ∀ (s : Shared) (H : Hp) (C : Addr) (cl : List (Str × Addr)) (fp : List Addr), PEv (X.blk s H scope (compEnvC scope cl C X.env) fp) da cm W0 elt te) (hs : ∀ x, foldedSetIterable iter X.env x = pure x := by intro _; rfl) (hvs : own.map (·.2) = vs := by rfl) :
    PSv X da cm E (.Assign [.Name y py] (.ListComp elt [⟨tg, iter, ifs, 0⟩] scope pos) spos) (asgN i (lcN it t vs tt te)) := by
  subst hvs
  exact PS.imp (ps_setLc hc hN hy hyl hsw hi ok hg ht he hs) fun D σ H h => tLc_of hix σ H _ (asgN_of D σ H h)
/-- x.append(e) -/
def appS (i : Nat) (f : Env → M D) : SEnv → M Fl := fun env => match env[i]? with
  | some (.ow ds) => bind (f (vw env)) fun d => if ds.length < lim then ret (.next (env.set i (.ow (ds ++ [d])))) else bad
  | _ => bad
theorem ss_app {f : Env → M D} {p apos cpos : Pos} (hx : PE X (.Name x p) (tVar i)) (he : PEv X da cm (WE0 E) e f) (hs1 : starEach [e] X.env = [(false, eval e X.env)] := by rfl)
    (hbase : attributeBase (.Name x p) "append" X.env (eval (.Name x p) X.env) = eval (.Name x p) X.env := by rfl)
    (hfew : ((backTo cpos (starEach [e] X.env)).all (fun x => !x.1) && (backToKw cpos (keywordEach [] X.env)).all (fun x => x.1.isSome)
      && decide ([e].length + ([] : List Keyword).length + (if ([] : List Keyword).isEmpty then 0 else 1) < 30)) = true := by rfl)
    (hline : (apos.endLine == cpos.line) = true := by rfl) (hplain : (backTo cpos (starEach [] X.env)).any (·.1) = false := by rfl)
    (hs : swapsWith (.Call (.Attribute (.Name x p) "append" apos) [e] [] cpos) none pos.line X.env = pure false := by rfl) : PSv X da cm E (.Expr (.Call (.Attribute (.Name x p) "append" apos) [e] [] cpos) pos) (appS i f) :=
  PS.imp (ps_expr (pe_bm F.plainAttrs_list F.slot_list_append F.type_list_append mt_append hx (pa_cons he pa_nil hs1) hbase hfew hline hs1 hplain) hs) fun D σ H ⟨Hk, env, δ, hA, hE, q⟩ => by
    unfold appS at q
    cases he : env[i]? with
    | none => rw [he] at q; exact q.elim
    | some s =>
      rw [he] at q
      cases s with
      | no => exact q.elim
      | dt d => exact q.elim
      | od kvs => exact q.elim
      | ow ds =>
        obtain ⟨p, h1, h2, h3, vs, h4, h5⟩ := hE.own i _ he rfl
        refine ⟨_, h1, Or.inl ⟨rfl, _, SqL.of h4⟩, ?_⟩
        refine tEv.st hA hE q fun v d δ1 Hk1 H1 s1 a1 e1 r1 q1 => ?_
        obtain ⟨p', h1', k2, _, vs', k4, k5⟩ := e1.own i _ he rfl
        rw [h1] at h1'
        cases h1'
        by_cases hl : ds.length < lim
        · rw [ifp hl] at q1
          refine ⟨p, vs', v, rfl, rfl, k4, by rw [k5.length, sizeLine_eq]; unfold lim at hl; omega, ?_⟩
          exact q1 σ Hk1 _ (StpS.upd ⟨i, _, he, rfl, h1⟩) (a1.mut k4 (.lst _) k2 h3) (e1.upd he rfl h1 rfl ⟨_, upd_same, k5.append (.cons r1 .nil)⟩) fun b hb => .inl (Own.of_upd he rfl hb)
        · rw [ifn hl] at q1; exact q1.elim
end
end Dv
set_option maxHeartbeats 4000000
namespace Dv
open PySem PySem.Spec PyProof.Rows L2

/-! ### the methods of texts -/
def mtM (g : D → List D → Option D) (fo : Env → M D) (fs : Env → M (List D)) : Env → M D := fun env => bind (fo env) fun x => bind (lift (match x with | .str _ => some () | _ => none)) fun _ => bind (fs env) fun xs => lift (g x xs)
def mt1M (g : D → D → Option D) (fo fe : Env → M D) : Env → M D := fun env => bind (fo env) fun x => bind (lift (match x with | .str _ => some () | _ => none)) fun _ => bind (fe env) fun y => lift (g x y)
def Rm1 (K : PySem.W.Frag) (da : Da) (r : V → List V → Hp → VK → Prop) (g : D → D → Option D) : Prop :=
  ∀ (Hk H : Hp) (x y : V) (d e : D) (z : D) (Q : VK), Ex Hk H → Rp K da.ad Hk x d → Rp K da.ad Hk y e → g d e = some z → Gv K da Hk H z Q → r x [y] H Q
section
variable {X : Cx} {da : Da} {cm : Nat → Addr} {W : WX} {o e : Expr} {fo fe : Env → M D}
theorem tM1_of {r : V → List V → Hp → VK → Prop} {g : D → D → Option D} (hr : Rm1 X.K da r g) (σ : L2.St) (H : Hp) (Q : VK) (h : tEv X.K da cm W (mt1M g fo fe) σ H Q) : tM1 r (tEv X.K da cm W fo) (tEv X.K da cm W fe) σ H Q := by
  obtain ⟨Hk, env, δ, hA, hE, q⟩ := h
  refine tEv.seq hA hE q fun x d δ1 Hk1 H1 s1 a1 e1 r1 q1 => ?_
  cases d with
  | str z =>
    have q1 : Fin X.K da cm (Dv.bind (fe env) (fun y => Dv.lift (g (.str z) y)) δ1) Hk1 H1 _ _ := q1
    refine ⟨by cases r1; exact ⟨z, rfl⟩, tEv.seq a1 e1 q1 fun y e δ2 Hk2 H2 s2 a2 e2 r2 q2 => ?_⟩
    obtain ⟨w, hw, gw⟩ := Fin.lift a2 (s1.trans s2) q2
    exact hr Hk2 H2 x y _ e w Q a2.ex (r1.mono s2.kn) r2 hw gw
  | _ => exact q1.elim
/-- a list or tuple of texts -/
def strsD : List D → Option (List Str)
  | [] => some []
  | .str x :: r => match strsD r with
    | some ys => some (x :: ys)
    | none => none
  | _ :: _ => none
theorem RpL.strs {K : PySem.W.Frag} {ad : Option Addr} {H : Hp} : ∀ {vs : List V} {ds : List D} {ys : List Str}, RpL K ad H vs ds → strsD ds = some ys → vs = ys.map V.str
  | _, _, _, .nil, e => by simp only [strsD, Option.some.injEq] at e; subst e; rfl
  | _, _, ys, .cons (d := d) h t, e => by
    unfold strsD at e
    split at e
    · rename_i q; cases q
    · rename_i x r q
      cases q
      split at e
      · rename_i zs qs
        cases e
        cases h
        rw [RpL.strs t qs]
        rfl
      · cases e
    · cases e
theorem RpL.ofStrs {K : PySem.W.Frag} {ad : Option Addr} {H : Hp} : ∀ ys : List Str, RpL K ad H (ys.map V.str) (ys.map D.str)
  | [] => .nil
  | y :: ys => .cons (.str y) (RpL.ofStrs ys)
def D.join : D → D → Option D
  | .str a, d => match d.seq? with
    | some xs => match strsD xs with
      | some ys => if (ys.map (·.length)).sum + ys.length * a.length ≤ 16000000 then some (.str (Txt.join a ys)) else none
      | none => none
    | none => none
  | _, _ => none
theorem ev_join {apos pos : Pos} (ho : PEv X da cm W o fo) (he : PEv X da cm W e fe) (hs : starEach [e] X.env = [(false, eval e X.env)] := by rfl) (hbase : attributeBase o "join" X.env (eval o X.env) = eval o X.env := by rfl) (hline : (apos.endLine == pos.line) = true := by rfl) :
    PEv X da cm W (.Call (.Attribute o "join" apos) [e] [] pos) (mt1M D.join fo fe) := PE.imp (pe_join ho he hs hbase hline) (tM1_of (by
  intro Hk H x y d e z Q ex rx ry hz g
  unfold D.join at hz
  split at hz
  · rename_i a d
    split at hz
    · rename_i xs hx
      split at hz
      · rename_i ys hy
        obtain ⟨hl, rfl⟩ := ite_some hz
        cases rx
        unfold D.seq? at hx
        split at hx
        · cases hx
          cases ry with
          | lst h r =>
            refine ⟨_, _, ys, rfl, rfl, .inl (SqL.of (ex _ _ ?_)), by omega, g.same ex (.str _)⟩
            rw [← r.strs hy]
            exact h
        · cases hx
          cases ry with
          | tup h r =>
            refine ⟨_, _, ys, rfl, rfl, .inr (Evl.ex_t ex ?_), by omega, g.same ex (.str _)⟩
            rw [← r.strs hy]
            exact h
        · cases hx
      · cases hz
    · cases hz
  · cases hz))
def D.split : D → D → Option D
  | .str a, .str b => if b.length = 0 ∨ lim < a.length then none else some (.lst ((Txt.split a b).map .str))
  | _, _ => none
theorem ev_split {apos pos : Pos} (ho : PEv X da cm W o fo) (he : PEv X da cm W e fe) (hs : starEach [e] X.env = [(false, eval e X.env)] := by rfl) (hbase : attributeBase o "split" X.env (eval o X.env) = eval o X.env := by rfl) (hline : (apos.endLine == pos.line) = true := by rfl) :
    PEv X da cm W (.Call (.Attribute o "split" apos) [e] [] pos) (mt1M D.split fo fe) := PE.imp (pe_split ho he hs hbase hline) (tM1_of (by
  intro Hk H x y d e z Q ex rx ry hz g
  unfold D.split at hz
  split at hz
  · rename_i a b
    cases rx; cases ry
    split at hz
    · cases hz
    · rename_i hc
      cases hz
      have h1 : ¬ b.length = 0 := fun z => hc (.inl z)
      have h2 : ¬ lim < a.length := fun z => hc (.inr z)
      refine ⟨_, _, rfl, rfl, by simpa using h1, by rw [sizeLine_eq]; unfold lim at h2; omega, fun p hp => ?_⟩
      exact g.lst ex (RpL.ofStrs _) hp
  · cases hz))
end

/-! ### repr, str -/
def signsOk (x : Str) : Bool := x.cps.toList.all fun c => decide (c < 4294967296)
mutual
/-- at most that long when shown -/
def shW : PyData → Nat
  | .none => 4
  | .bool _ => 5
  | .int i => (PyData.shown (.int i)).length
  | .str x => 10 * x.length + 2
  | .list xs => shWs xs + 2
  | .tuple xs => shWs xs + 3
  | .dict _ => 0
def shWs : List PyData → Nat
  | [] => 0
  | x :: xs => shW x + 2 + shWs xs
end
mutual
def shOk : PyData → Bool
  | .none => true
  | .bool _ => true
  | .int i => decide (i.natAbs.log2 < 1920)
  | .str x => signsOk x
  | .list xs => shOks xs
  | .tuple xs => shOks xs
  | .dict _ => false
def shOks : List PyData → Bool
  | [] => true
  | x :: xs => shOk x && shOks xs
end
theorem piled_one (t : Str) (ts : List Str) : piled (t :: ts) = t.length + 2 + piled ts := by unfold piled; simp
theorem join_le (ts : List Str) : (Str.join ", " ts).length ≤ piled ts := by
  by_cases h : ts = []
  · subst h; decide
  · have := join_length_add ts h
    omega
theorem str_app_len (a b : Str) : (a ++ b).length = a.length + b.length := by
  show (a.cps ++ b.cps).size = _
  rw [Array.size_append]
  rfl
mutual
theorem shown_le : ∀ p : PyData, shOk p = true → p.shown.length ≤ shW p
  | .none, _ => by rw [PyData.shown_none]; decide
  | .bool b, _ => by rw [PyData.shown_bool]; cases b <;> decide
  | .int i, _ => by simp only [shW]; exact Nat.le_refl _
  | .str x, h => by
    rw [PyData.shown_str]
    simp only [shOk] at h
    unfold signsOk at h
    exact StrLaws.reprText_len x fun c hc => by
      have := of_decide_eq_true (List.all_eq_true.mp h c hc)
      exact Nat.lt_of_lt_of_le this (by decide)
  | .list xs, h => by
    simp only [shOk] at h
    have := showns_le xs h
    have j := join_le (PyData.shownAll xs)
    rw [PyData.shown_list, str_app_len, str_app_len]
    have e1 : ((("[" : String) : Str)).length = 1 := rfl
    have e2 : ((("]" : String) : Str)).length = 1 := rfl
    simp only [shW]
    omega
  | .tuple xs, h => by
    simp only [shOk] at h
    have := showns_le xs h
    have j := join_le (PyData.shownAll xs)
    rw [PyData.shown_tuple, str_app_len, str_app_len]
    have e1 : ((("(" : String) : Str)).length = 1 := rfl
    have e2 : (((if xs.length == 1 then ",)" else ")" : String) : Str)).length ≤ 2 := by split <;> decide
    simp only [shW]
    omega
  | .dict _, h => by simp [shOk] at h
theorem showns_le : ∀ xs : List PyData, shOks xs = true → piled (PyData.shownAll xs) ≤ shWs xs
  | [], _ => by rw [PyData.shownAll_nil]; decide
  | x :: xs, h => by
    simp only [shOks, Bool.and_eq_true] at h
    have h1 := shown_le x h.1
    have h2 := showns_le xs h.2
    rw [PyData.shownAll_cons, piled_one]
    simp only [shWs]
    omega
end
mutual
theorem show_of : ∀ p : PyData, shOk p = true → p.showable = true ∧ p.hasDict = false
  | .none, _ => by simp [PyData.showable, PyData.hasDict]
  | .bool b, _ => by simp [PyData.showable, PyData.hasDict]
  | .int i, h => by simp only [shOk] at h; exact ⟨by simp only [PyData.showable]; exact h, by simp only [PyData.hasDict]⟩
  | .str x, _ => by simp [PyData.showable, PyData.hasDict]
  | .list xs, h => by simp only [shOk] at h; simp only [PyData.showable, PyData.hasDict]; exact shows_of xs h
  | .tuple xs, h => by simp only [shOk] at h; simp only [PyData.showable, PyData.hasDict]; exact shows_of xs h
  | .dict _, h => by simp [shOk] at h
theorem shows_of : ∀ p : List PyData, shOks p = true → PyData.showableAll p = true ∧ PyData.hasDictAll p = false
  | [], _ => by simp [PyData.showableAll, PyData.hasDictAll]
  | x :: xs, h => by
    simp only [shOks, Bool.and_eq_true] at h
    have h1 := show_of x h.1
    have h2 := shows_of xs h.2
    simp only [PyData.showableAll, PyData.hasDictAll, h1.1, h1.2, h2.1, h2.2]
    exact ⟨rfl, rfl⟩
end
def reprOk (p : PyData) : Bool := shOk p && decide (shW p ≤ 10000000) && decide (p.depth ≤ 60)
def D.repr : List D → Option D
  | [d] => match d.py with
    | some p => if reprOk p then some (.str p.shown) else none
    | none => none
  | _ => none
section
variable {X : Cx} {da : Da}
theorem cr_repr (hg : X.A.guards = some []) (hu : X.A.units + 200 < cLine) : CallR X (.builtin "repr") (fun xs H Q => ∃ v p, xs = [v] ∧ Dp X.K H v p ∧ reprOk p = true ∧ Q (.str p.shown) H) := by
  intro pins s σ H xs us Q I r h
  obtain ⟨v, p, rfl, hd, ok, q⟩ := h
  obtain ⟨u, rfl, ru⟩ := r.one
  unfold reprOk at ok
  simp only [Bool.and_eq_true, decide_eq_true_eq] at ok
  obtain ⟨⟨h1, h2⟩, h3⟩ := ok
  have hz : p.shown.length ≤ sizeLine := by have := shown_le p h1; rw [sizeLine_eq]; omega
  obtain ⟨hs, hn⟩ := show_of p h1
  obtain ⟨as, rd⟩ := Dp.reads I p v u hd ru
  have fin : ∀ h' (u : Tok) tk, (∀ b o, s.heap.get? b = some o → h'.get? b = some o) → EP X pins σ Q (.str p.shown u) { s with heap := h', toks := tk } := fun h' u tk k => ⟨.str _, H, I.kept k, ⟨u, rfl⟩, q⟩
  have e0 : ∀ {Q : Value → Shared → Prop} {v : Value} {t : Nat}, Q v { s with toks := t } → Q v { s with heap := s.heap, toks := t } := fun z => z
  cases rd with
  | none => exact PySem.P.repr_of_none (by rw [PyData.shown_none] at fin; exact fin s.heap s.toks (s.toks + 1) fun _ _ z => z)
  | bool b =>
    refine PySem.P.repr_of_bool ?_
    rw [PyData.shown_bool] at fin
    cases b <;> exact fin s.heap s.toks (s.toks + 1) fun _ _ z => z
  | int i t =>
    refine PySem.P.repr_of_int (by simp only [shOk] at h1; exact of_decide_eq_true h1) ?_
    rw [PyData.shown_int] at fin
    exact fin s.heap s.toks (s.toks + 1) fun _ _ z => z
  | str x t =>
    rw [PyData.shown_str] at fin hz
    exact PySem.P.repr_of_str (fin s.heap s.toks (s.toks + 1) fun _ _ z => z) hz
  | list a b c d => exact repr_of_reads' (.list a b c d) hs (PyData.noDict_hsm hn) hg (by omega) (fun _ _ z => z) fin hz
  | tuple a b c d => exact repr_of_reads' (.tuple a b c d) hs (PyData.noDict_hsm hn) hg (by omega) (fun _ _ z => z) fin hz
  | dict a b c d e => exact repr_of_reads' (.dict a b c d e) hs (PyData.noDict_hsm hn) hg (by omega) (fun _ _ z => z) fin hz
theorem cd_repr (hg : X.A.guards = some []) (hu : X.A.units + 200 < cLine) : CalD X da (.builtin "repr") D.repr := ⟨_, cr_repr hg hu, by
  intro Hk H xs ds z Q ex r hz g
  unfold D.repr at hz
  split at hz
  · obtain ⟨v, rfl, rv⟩ := r.one
    split at hz
    · rename_i p hp
      obtain ⟨h1, rfl⟩ := ite_some hz
      exact ⟨v, p, rfl, (rv.mono ex).dp hp, h1, g.same ex (.str _)⟩
    · cases hz
  · cases hz⟩
end
end Dv
set_option maxHeartbeats 4000000
namespace PySem
namespace SupX
open PySem.W PySem.Calls PyProof.Rows PySem.HandSPX
/-! ### __init__(self, p): super().__init__(msg); self.f = p -/
def iA (p : Str) (p1 p2 : Pos) : Arguments := { posonlyargs := [], args := [{ arg := "self", annotation := none, pos := p1 }, { arg := p, annotation := none, pos := p2 }], vararg := none, kwonlyargs := [], kw_defaults := [], kwarg := none, defaults := [] }
def iB (p f : Str) (msg : Expr) (q1 q2 q3 q4 q5 q6 q7 q8 q9 : Pos) : List Stmt :=
  [.Expr (.Call (.Attribute (.Call (.Name "super" q1) [] [] q2) "__init__" q3) [msg] [] q4) q5, .Assign [.Attribute (.Name "self" q6) f q7] (.Name p q8) q9]
/-- what the written part says of such a class at C, its __init__ at fI -/
structure SupTxt (prog : Program) (K : Frag) (mg : Str → Option Value) (C fI : Addr) (p f : Str) (msg : Expr) (scope : Scope) : Prop where
  cls : ∃ nm q N bs bm sn sub ab col dd k0 k1 k2 k3 k5, K.lookup C = some (excClassObj nm q C N bs bm true sn sub ab col dd k0 k1 k2 k3 k5 "ValueError.__new__") ∧ refsVE bm = true
  sa : findIn K (.ref C) "__setattr__" = some (some (.builtin "object.__setattr__"))
  noN : findIn K (.ref C) f = some none
  iC : findIn K (.ref C) "__init__" = some (some (.ref fI))
  tC : typeIn K (.ref fI) = some (.type "function")
  exC : subIn K (.ref C) (.type "BaseException") = some true
  veC : subIn K (.ref C) (.type "ValueError") = some true
  selfC : mroIn K C (.ref C) = some true
  opq : nsIn K cStatics "thirdparty.any" = some none
  sup : ks_superIn K C C "__init__" = some (some (.builtin "ValueError.__init__"))
  fn : ∃ (oc : Value) (od : Option Addr) (qual : Str) (doc pm : Value) (an : Option Addr) (cda cc : Addr) (ct : Value) (osl : Array (Option Value)) (p1 p2 q1 q2 q3 q4 q5 q6 q7 q8 q9 : Pos),
    K.lookup fI = some ⟨oc, od, .func (ksFn "__init__" qual (iA p p1 p2) (iB p f msg q1 q2 q3 q4 q5 q6 q7 q8 q9) scope .none .none doc pm an (.ref cda) ct cc), osl⟩ ∧ codeIn K (.ref cda) qual = true ∧
    (∀ env : Env, ∃ pl : Sem Bool, eval (.Call (.Attribute (.Call (.Name "super" q1) [] [] q2) "__init__" q3) [msg] [] q4) env = (do
      let ov ← attributeBase (.Call (.Name "super" q1) [] [] q2) "__init__" env (eval (.Call (.Name "super" q1) [] [] q2) env)
      standAt q3.atName
      let (g, first) ← holding [ov] (getMethod ov "__init__" pl)
      callWith q4 g first (backTo q4 (starEach [msg] env)) [])) ∧
    (∃ (cl : Value) (cld : Option Addr) (csl : Array (Option Value)), K.lookup cc = some ⟨cl, cld, .cell (some (.ref C)), csl⟩) ∧
    (∃ (ccl : Value) (cdd : Option Addr) (vs : Array Value) (ccs : Array (Option Value)) (file : Str) (tf : Tok), K.lookup cda = some ⟨ccl, cdd, .fields vs, ccs⟩ ∧ vs[2]? = some (.str file tf) ∧ ((prog.main.file : Str) == file) = true)
  bi : ∀ (qual : Str) (p1 p2 q1 q2 q3 q4 q5 q6 q7 q8 q9 : Pos) (doc pm : Value) (an : Option Addr) (cd ct : Value) (cc : Addr) (a v : Value), bindArgs (ksFn "__init__" qual (iA p p1 p2) (iB p f msg q1 q2 q3 q4 q5 q6 q7 q8 q9) scope .none .none doc pm an cd ct cc) ⟨[a, v], []⟩ = pure [(("self" : Str), a), (p, v)]
  hst : ∀ env : Env, starEach [msg] env = (false, eval msg env) :: starEach [] env
  sk : scope.kind = .function
  sco : scope.isCoroutine = false
  sge : scope.isGenerator = false
  sce : ∀ x ∈ scope.names, x.2 ≠ .cell
  ksu : scope.names.lookup ("super" : Str) = some .globalImplicit
  kcl : scope.names.lookup ("__class__" : Str) = some .free
  kse : scope.names.lookup ("self" : Str) = some .local
  kp : scope.names.lookup p = some .local
  nsu : nsIn K mainGlobals "super" = some none
  top : (prog.main.scope.names.lookup ("super" : Str)).isSome = false
  np : (p == ("self" : Str)) = false
  ndb : (p == ("__debug__" : Str)) = false
/-- the message's own step -/
def Msg (prog : Program) (w : World) (p : Str) (msg : Expr) (v : Value) (h0 : Heap) : Prop := ∀ (env : Env) (A : Around) (E : Value → Shared → Prop) (s : Shared) (m : Str → Option Value) (Q : Value → Shared → Prop), s.heap.Ns env.locals m → m p = some v → env.scope.kind = .function → env.kindOf p = some .local →
  A.guards = some [] → A.units + 100 < cLine → (∀ b o, h0.get? b = some o → s.heap.get? b = some o) →
  (∀ (x : Str) (t : Tok) (h' : Heap) (tk : Nat), (∀ b o, s.heap.get? b = some o → h'.get? b = some o) → Q (.str x t) { s with heap := h', toks := tk }) → wpAny (model prog w) A (eval msg env) Q E s
/-- what __init__ leaves of a fresh exception at x -/
structure InitEnd (h h' : Heap) (x C dx : Addr) (f : Str) (v : Value) : Prop where
  keep : ∀ b o, b ≠ x → h.get? b = some o → h'.get? b = some o
  obj : ∃ t1, h'.get? x = some { cls := .ref C, dict := some dx, data := .fields #[.ref t1, .none, .none, .none, .bool false, .none] }
  dbig : h.objs.size ≤ dx
  dne : dx ≠ x
  ns : h'.Ns1 dx (fun y => if y = f then some v else none)
section
variable {prog : Program} {w : World} {A : Around} {E : Value → Shared → Prop} {R : Result → Shared → Prop} {s : Shared} {K : Frag} {mg mb : Str → Option Value} {C fI : Addr} {p f : Str} {msg : Expr} {scope : Scope}
theorem ldL {M : Model} {env : Env} {m : Str → Option Value} {x : Str} {pos : Pos} {v : Value} {Q : Value → Shared → Prop} (hn : s.heap.Ns env.locals m) (hv : m x = some v) (h : Q v s)
    (hk : env.scope.kind = .function) (hl : env.kindOf x = some .local) (hd : (x == ("__debug__" : Str)) = false) : wpAny M A (eval (.Name x pos) env) Q E s := wpAny_Name (wpAny_loadName_local hk hl hn hv h) hd
theorem sup_init (T : SupTxt prog K mg C fI p f msg scope) {x t0 : Addr} {v : Value} (X : K.In s.heap) (hns : s.heap.Ns mainGlobals mg) (hb : s.heap.Ns builtinsNs mb) (hbb : ∀ x : Str, x ≠ "__name__" → mb x = bootBuiltins x)
    (hlim : s.heap.NoLimit) (hx : s.heap.get? x = some (excO C t0)) (hnx : K.lookup x = none) (hroom : A.depth < recursionLimit) (hg : A.guards = some []) (hu : A.units + 110 < cLine) (hm : Msg prog w p msg v s.heap)
    (hq : ∀ h' tk dx, InitEnd s.heap h' x C dx f v → R (.ok (.ret .none)) { s with heap := h', toks := tk }) :
    codeAny (model prog w) A (.call (.ref fI) ⟨[.ref x, v], []⟩) R s := by
  obtain ⟨oc, od, qual, doc, pm, an, cda, cc, ct, osl, p1, p2, q1, q2, q3, q4, q5, q6, q7, q8, q9, ho, hcd, hev, ⟨cl, cld, csl, hcell⟩, ccl, cdd, vs, ccs, file, tf, hcode, hvs, hfile⟩ := T.fn
  obtain ⟨nm, q, N, bs, bm, sn, sub, ab, col, dd, k0, k1, k2, k3, k5, hC, hbm⟩ := T.cls
  have hcl : clsIn K C = some { name := nm, bases := bs, mro := .ref C :: bm, ns := N, qualname := q, hasDict := true, slotNames := sn, subclasses := sub, abstract := ab, collection := col, hasDel := false } := by unfold clsIn; rw [hC] <;> rfl
  have hxC : x ≠ C := fun z => by rw [z, hC] at hnx; cases hnx
  refine ks_codeAny_call_defAt (binds := [("self", .ref x), (p, v)]) hroom (X _ _ ho) rfl hlim (codeRec_of X hcd) rfl (BindsTo.of_eq ?_) T.sce (fun y hy => ?_) (fun h₁ hn kk => ?_) T.sco T.sge T.sk
  · exact T.bi _ _ _ _ _ _ _ _ _ _ _ _ _ _ _ _ _ _ _ _
  · rcases List.mem_cons.mp hy with z | z
    · rw [z]; exact T.kse
    · rw [List.mem_singleton.mp z]; exact T.kp
  have hn' : h₁.Ns s.heap.objs.size (fun y => if y = p then some v else if y = "self" then some (.ref x) else none) := by
    have e : (fun y => List.lookup y ([((PySem.Str.ofString "self"), Value.ref x), (p, v)] : List (Str × Value)).reverse) = fun y => if y = p then some v else if y = "self" then some (.ref x) else none := by
      funext y
      simp only [List.reverse_cons, List.reverse_nil, List.nil_append, List.cons_append, List.lookup]
      by_cases h1 : y = p
      · rw [if_pos h1, beq_iff_eq.mpr h1]
      · rw [if_neg h1, beq_eq_false_iff_ne.mpr h1]
        by_cases h2 : y = PySem.Str.ofString "self"
        · rw [if_pos h2, beq_iff_eq.mpr h2]
        · rw [if_neg h2, beq_eq_false_iff_ne.mpr h2]
    rw [← e]
    exact hn
  generalize hmv : (fun y => if y = p then some v else if y = "self" then some (Value.ref x) else none) = mv at hn'
  have mp : mv p = some v := by rw [← hmv]; exact if_pos rfl
  have msf : mv "self" = some (.ref x) := by
    rw [← hmv]
    show (if ("self" : Str) = p then some v else if ("self" : Str) = "self" then some (Value.ref x) else none) = _
    have np : ¬ ("self" : Str) = p := fun z => by
      have := T.np
      rw [← z] at this
      simp at this
    rw [if_neg np, if_pos rfl]
  have xL : s.heap.objs.size ≠ x := Nat.ne_of_gt (Heap.lt_size hx)
  have lt1 : s.heap.objs.size < h₁.objs.size := hn'.lt
  -- super().__init__
  show wpAt _ _ (.func (iB p f msg q1 q2 q3 q4 q5 q6 q7 q8 q9) (ksEnv qual scope s.heap.objs.size fI (.ref cda) cc)) (execs (iB p f msg q1 q2 q3 q4 q5 q6 q7 q8 q9) (ksEnv qual scope s.heap.objs.size fI (.ref cda) cc)) _ _ _
  obtain ⟨pl, he⟩ := hev (ksEnv qual scope s.heap.objs.size fI (.ref cda) cc)
  refine ks_wpAt_execs_cons (ks_wpAt_Expr_any (ks_wpAt_MethodCall ?_ he) (hi := ?hi) (hs := ?hs))
  case hi =>
    unfold interactive
    show (scope.kind == .module && _) = false
    rw [T.sk]
    rfl
  case hs => rfl
  refine ks_wpAt_super_base (env := ksEnv qual scope s.heap.objs.size fI (.ref cda) cc) T.ksu T.kcl (by decide) rfl (kk _ _ (X _ _ ho)) rfl rfl rfl (kk _ _ (X _ _ hcode)) rfl hvs hfile T.top ?_
  refine ks_loadName_global T.sk T.ksu (loadGlobal_builtin (env := ksEnv qual scope s.heap.objs.size fI (.ref cda) cc) (hns.keeps kk) (mg_none_of X hns T.nsu) (hb.keeps kk) ((hbb _ (by decide +kernel)).trans rfl) ⟨rfl, ?_⟩)
  refine wpAny_loadName_free T.sk T.kcl rfl ⟨_, kk _ _ (X _ _ hcell), rfl⟩ ?_
  refine wpAny_loadName_local T.sk T.kse hn' msf ?_
  have hC1 := kk _ _ (X _ _ hC)
  have hx1 := kk _ _ hx
  refine ks_wpAny_isType_cls hC1 rfl ⟨rfl, ?_⟩
  refine ks_wpAny_call_super hC1 rfl hx1 rfl (fun c e => nomatch e) (looks_mroIn (X.keeps kk) T.selfC) (fun h₂ e₂ k₂ => ?_)
  have k2 : ∀ b o, s.heap.get? b = some o → h₂.get? b = some o := fun b o e => k₂ b o (kk b o e)
  have X2 : K.In h₂ := X.keeps k2
  have I2 : InstAt h₂ x (excO C t0) C none := ⟨k2 _ _ hx, rfl, rfl, trivial⟩
  refine kxs_getMethod kxs_ValueError e₂ (looks_opaque X2 T.opq) (l₀ := .ref C :: bm) (fun A Q E s k q => wpAny_bind ((looks_clsIn X2 hcl) A _ E s k (wpAny_pure q))) rfl X2 ?_ (I2.type.andThen (looks_subIn X2 T.veC)) hxC (by decide) ?_
  · have z := T.sup
    unfold ks_superIn at z
    rw [hcl] at z
    exact z
  rw [T.hst]
  have hu2 : (h₂.push (kxs_mw "ValueError.__init__" x)).get? h₂.objs.size = some (kxs_mw "ValueError.__init__" x) := Heap.get?_push_at rfl rfl
  have k3 : ∀ b o, h₂.get? b = some o → (h₂.push (kxs_mw "ValueError.__init__" x)).get? b = some o := fun b o e => Heap.get?_push_of_some _ e
  generalize h₂.push (kxs_mw "ValueError.__init__" x) = h3 at hu2 k3
  have n3 : h3.Ns s.heap.objs.size mv := (hn'.keeps k₂).keeps k3
  refine kxs_callWith (i := "ValueError.__init__") (x := x) rfl (evalArgs_plain (Calls.spliced_cons ?_))
  refine hm (ksEnv qual scope s.heap.objs.size fI (.ref cda) cc) _ _ _ mv _ n3 mp T.sk T.kp hg (by show A.units + 3 + 100 < cLine; omega) (fun b o e => k3 b o (k2 b o e)) fun y ty h4 tk4 k4 => ?_
  have hu4 := k4 _ _ hu2
  have e4 : ∀ b o, s.heap.get? b = some o → h4.get? b = some o := fun b o e => k4 b o (k3 b o (k2 b o e))
  have n4 : h4.Ns s.heap.objs.size mv := n3.keeps k4
  refine Calls.spliced_nil ⟨hu4, wpAny_call (codeAny_of_tree ?_)⟩
  show wpAny _ _ (callAny (.ref h₂.objs.size) ⟨[.str y ty], []⟩) _ _ _
  unfold callAny
  refine wpAny_bind (wpAny_load hu4 ?_)
  dsimp only [kxs_mw]
  refine KFB.if_so (by decide) (wpAny_bind (check_bound_init F.excBase_ValueError.toExcCallFacts (e4 _ _ (X _ _ hC)) (e4 _ _ hx) rfl (wpAny_bind (wpAny_pure (wpAny_pure ?_)))))
  refine ⟨plainId_quiet F.excBase_ValueError.init.plain _, codeAny_builtin F.excBase_ValueError.initEntry ?_⟩
  refine exc_init_tree (cls := .ref C) (t0 := t0) (dv := none) (c2 := .none) (c3 := .none) (b4 := .bool false) (e4 _ _ hx) (by show 1 ≤ sizeLine; rw [sizeLine_eq]; omega) fun h5 k5 hx5 ht5 => ?_
  have n5 : h5.Ns s.heap.objs.size mv := n4.at fun o e => k5 _ _ xL e
  have b5 : ∀ b o, b ≠ x → s.heap.get? b = some o → h5.get? b = some o := fun b o hb e => k5 b o hb (e4 b o e)
  have X5 : K.In h5 := fun a o e => b5 a o (fun z => by rw [z, hnx] at e; cases e) (X a o e)
  refine ks_wpAt_execs_cons (ks_wpAt_Assign_Attr ?_)
  refine wpAt_of_wpAny (ldL (v := v) n5 mp ?_ T.sk T.kp T.ndb)
  refine ldL (v := .ref x) n5 msf ?_ T.sk T.kse (by decide)
  refine set_plain X5 (ox := excO C h4.objs.size) (od := none) ⟨hx5, rfl, rfl, trivial⟩ T.sa ?_
  refine exc_osa X5 hx5 hcl (show refsVE (.ref C :: bm) = true from hbm) rfl T.noN (fun h6 tk6 dx k6 dn dne hx6 hn6 => ?_)
  refine wpAt_of_wpAny (wpAny_execs_nil (hq h6 tk6 dx ⟨fun b o hb e => k6 b o hb (b5 b o hb e), ⟨_, hx6⟩, ?_, dne, hn6⟩))
  exact Nat.le_trans (Nat.le_of_lt n5.lt) dn
/-- what a call of the class leaves -/
structure Made (h h' : Heap) (e C d : Addr) (f : Str) (v : Value) : Prop where
  keep : ∀ b o, h.get? b = some o → h'.get? b = some o
  new : h.objs.size ≤ e
  obj : ∃ oe vs, h'.get? e = some oe ∧ oe.cls = .ref C ∧ oe.dict = some d ∧ oe.data = .fields vs ∧ vs[1]? = some .none
  dbig : h.objs.size ≤ d
  dne : d ≠ e
  ns : h'.Ns1 d (fun y => if y = f then some v else none)
theorem under_guards {A : Around} {C : Addr} {us : List Value} {kw : List (Str × Value)} : (A.under (.builtin "type.__call__" ⟨.ref C :: us, kw⟩)).guards = A.guards := by
  first | rfl | simp [Around.under, Code.weight, Code.isCreation, Code.isGuard, Code.isCaller, Code.frames, Code.isFrame, guardIds]
theorem sup_made (T : SupTxt prog K mg C fI p f msg scope) {v : Value} (X : K.In s.heap) (hns : s.heap.Ns mainGlobals mg) (hb : s.heap.Ns builtinsNs mb) (hbb : ∀ x : Str, x ≠ "__name__" → mb x = bootBuiltins x)
    (hlim : s.heap.NoLimit) (hroom : A.depth + 1 < recursionLimit) (hg : A.guards = some []) (hu : A.units + 120 < cLine) (hm : ∀ h : Heap, (∀ b o, s.heap.get? b = some o → h.get? b = some o) → Msg prog w p msg v h)
    (hq : ∀ h' tk e d, Made s.heap h' e C d f v → R (.ok (.ret (.ref e))) { s with heap := h', toks := tk }) :
    codeAny (model prog w) A (.call (.ref C) ⟨[v], []⟩) R s := by
  obtain ⟨nm, q, N, bs, bm, sn, sub, ab, col, dd, k0, k1, k2, k3, k5, hC, hbm⟩ := T.cls
  obtain ⟨hp, g, dr, tk, os⟩ := s
  have k : ∀ b o, hp.get? b = some o → ((hp.push (kdv_tup [v])).push (excO C hp.objs.size)).get? b = some o := fun b o e => Heap.get?_push_of_some _ (Heap.get?_push_of_some _ e)
  have hget : ((hp.push (kdv_tup [v])).push (excO C hp.objs.size)).get? (hp.objs.size + 1) = some (excO C hp.objs.size) := by heap_get
  have hnx : K.lookup (hp.objs.size + 1) = none := by
    cases e : K.lookup (hp.objs.size + 1) with
    | none => rfl
    | some o => exact absurd (Nat.lt_of_succ_lt (Heap.lt_size (X _ _ e : hp.get? (hp.objs.size + 1) = some o))) (Nat.lt_irrefl _)
  refine call_own F.excBase_ValueError (fun Z => refsVE_contains Z bm hbm) (X _ _ hC) (looks_findIn X T.iC) (fun self => bind_fn X self T.tC) (by show 1 ≤ sizeLine; rw [sizeLine_eq]; omega) ?_
  refine sup_init (s := ⟨(hp.push (kdv_tup [v])).push (excO C hp.objs.size), g, dr, tk, os⟩) T (X.keeps k) (hns.keeps k) (hb.keeps k) hbb (hlim.keeps k) hget hnx ?_ ?_ ?_ (hm _ k) fun h' tk' dx ⟨k', ⟨t1, hx⟩, dn, dne, hns⟩ => ?_
  · show A.depth + 1 < recursionLimit
    exact hroom
  · rw [under_guards]; exact hg
  · rw [L2.make_units]; omega
  · have z : hp.objs.size + 1 + 1 ≤ dx := by
      first
        | (simpa only [Heap.size_push] using dn)
        | exact dn
    exact ⟨rfl, hq h' tk' (hp.objs.size + 1) dx ⟨fun b o e => k' b o (Nat.ne_of_lt (Nat.lt_succ_of_lt (Heap.lt_size e))) (k b o e), Nat.le_succ _, ⟨_, _, hx, rfl, rfl, rfl, rfl⟩, Nat.le_trans (Nat.le_trans (Nat.le_succ _) (Nat.le_succ _)) z, dne, hns⟩⟩
end
/-! ### messages -/
section
variable {prog : Program} {w : World} {p : Str} {h0 : Heap}
/-- f'a{p}b' of a value whose plain form is known -/
theorem msg_fmt {a b : Str} {v : Value} {ja jb : Nat} {p1 p2 p3 p4 p5 : Pos} {c : Int} (hc : c = -1) (ha : a.length ≤ 1000) (hb : b.length ≤ 1000) (hd : (p == ("__debug__" : Str)) = false)
    (hf : ∀ (A : Around) (E : Value → Shared → Prop) (s : Shared) (Q : Value → Shared → Prop), A.guards = some [] → A.units + 100 < cLine → (∀ b o, h0.get? b = some o → s.heap.get? b = some o) →
      (∀ (x : Str) (t : Tok) (h' : Heap) (tk : Nat), x.length ≤ 10000000 → (∀ b o, s.heap.get? b = some o → h'.get? b = some o) → Q (.str x t) { s with heap := h', toks := tk }) → wpAny (model prog w) A (formatField v Str.empty) Q E s) :
    Msg prog w p (.JoinedStr [.Constant (.str a) ja p1, .FormattedValue (.Name p p2) c none p3, .Constant (.str b) jb p4] p5) v h0 := by
  intro env A E s m Q hn hv hk hl hg hu k hq
  subst hc
  refine JoinedStr_many (joinParts_cons (Calls.Constant_str ⟨?_, joinParts_cons (FormattedValue_plain (ldL hn hv ?_ hk hl hd))⟩))
  · rw [Dv.str_app_len, sizeLine_eq]
    show 0 + _ ≤ _
    omega
  refine hf A _ _ _ hg hu k fun x t h' tk hx k' => ⟨?_, joinParts_cons (Calls.Constant_str ⟨?_, joinParts_nil ?_ ?_⟩)⟩
  · rw [Dv.str_app_len, Dv.str_app_len, sizeLine_eq]
    show 0 + _ + _ ≤ _
    omega
  · rw [Dv.str_app_len, Dv.str_app_len, Dv.str_app_len, sizeLine_eq]
    show 0 + _ + _ + _ ≤ _
    omega
  · exact hq _ _ h' _ k'
  · rw [Dv.str_app_len, Dv.str_app_len, Dv.str_app_len, sizeLine_eq]
    show 0 + _ + _ + _ ≤ _
    omega
end
end SupX
end PySem
set_option maxHeartbeats 4000000
namespace Dv
open PySem PySem.Spec PyProof.Rows L2
/-- the value may be shown in a message -/
def okFmt : PyData → Bool
  | .str x => decide (x.length ≤ 1000000)
  | p => reprOk p
/-- {v} gives some text -/
def Fmts (prog : Program) (w : World) (v : Value) (h0 : Heap) : Prop := ∀ (A : Around) (E : Value → Shared → Prop) (s : Shared) (Q : Value → Shared → Prop), A.guards = some [] → A.units + 100 < cLine → (∀ b o, h0.get? b = some o → s.heap.get? b = some o) →
      (∀ (x : Str) (t : Tok) (h' : Heap) (tk : Nat), x.length ≤ 10000000 → (∀ b o, s.heap.get? b = some o → h'.get? b = some o) → Q (.str x t) { s with heap := h', toks := tk }) → wpAny (model prog w) A (formatField v Str.empty) Q E s
theorem fmts_of {prog : Program} {w : World} {v : Value} {h0 : Heap} {p : PyData} {as : List Addr} (rd : Reads h0 v p as) (ok : okFmt p = true) : Fmts prog w v h0 := by
  intro A E s Q hg hu k hq
  cases rd with
  | str x t =>
    have hz : x.length ≤ 1000000 := by unfold okFmt at ok; exact of_decide_eq_true ok
    exact wpAny_formatField_str (hq x t s.heap s.toks (by omega) fun _ _ z => z) (hq x s.toks s.heap (s.toks + 1) (by omega) fun _ _ z => z) (by rw [sizeLine_eq]; omega)
  | none => exact wpAny_formatField_none (hq _ _ s.heap _ (by decide) fun _ _ z => z)
  | bool b => exact wpAny_formatField_bool (hq _ _ s.heap _ (by cases b <;> decide) fun _ _ z => z)
  | int i t =>
    have ok' : reprOk (.int i) = true := ok
    unfold reprOk at ok'
    simp only [Bool.and_eq_true, decide_eq_true_eq] at ok'
    obtain ⟨⟨h1, h2⟩, h3⟩ := ok'
    have h4 := shown_le _ h1
    rw [PyData.shown_int] at h4
    simp only [shOk] at h1
    exact wpAny_formatField_int (of_decide_eq_true h1) (hq _ _ s.heap _ (Nat.le_trans h4 h2) fun _ _ z => z)
  | list a b c d =>
    have ok' : reprOk (.list _) = true := ok
    unfold reprOk at ok'
    simp only [Bool.and_eq_true, decide_eq_true_eq] at ok'
    obtain ⟨⟨h1, h2⟩, h3⟩ := ok'
    have h4 := shown_le _ h1
    obtain ⟨hs, hn⟩ := show_of _ h1
    exact formatField_of_reads (.list a b c d) hs (PyData.noDict_hsm hn) hg (by omega) k (fun h' u tk k' => hq _ u h' tk (Nat.le_trans h4 h2) k') (by rw [sizeLine_eq]; omega)
  | tuple a b c d =>
    have ok' : reprOk (.tuple _) = true := ok
    unfold reprOk at ok'
    simp only [Bool.and_eq_true, decide_eq_true_eq] at ok'
    obtain ⟨⟨h1, h2⟩, h3⟩ := ok'
    have h4 := shown_le _ h1
    obtain ⟨hs, hn⟩ := show_of _ h1
    exact formatField_of_reads (.tuple a b c d) hs (PyData.noDict_hsm hn) hg (by omega) k (fun h' u tk k' => hq _ u h' tk (Nat.le_trans h4 h2) k') (by rw [sizeLine_eq]; omega)
  | dict a b c d e =>
    have ok' : reprOk (.dict _) = true := ok
    unfold reprOk at ok'
    simp [shOk] at ok'
end Dv
namespace L2
open PySem PySem.Spec PyProof.Rows
theorem relO_f {f : Str} {v : V} {v' : Value} (r : RelV v v') (y : Str) : RelO (List.lookup y [(f, v)]) (if y = f then some v' else none) := by
  by_cases hw : y = f
  · subst hw
    have q : List.lookup y [(y, v)] = some v := by simp [List.lookup]
    rw [if_pos rfl, q]
    exact r
  · have qw : (y == f) = false := by simpa using hw
    have q2 : List.lookup y [(f, v)] = none := by simp [List.lookup, qw]
    rw [if_neg hw, q2]
    trivial
section
variable {X : Cx} {C fI : Addr} {p f : Str} {msg : Expr} {scope : Scope}
def tMkS (K : PySem.W.Frag) (C : Addr) (f : Str) (ta : TA) : St → Hp → XK → Prop := fun σ H Q => ta σ H fun vs H1 => ∃ v pd, vs = [v] ∧ Dp K H1 v pd ∧ Dv.okFmt pd = true ∧ ∀ d, H1 d = none → Q (.ref C) (some d) (upd H1 d (.xd [(f, v)]))
/-- X(e), X a class whose __init__ says super().__init__(msg); self.f = p -/
theorem pmk_sup {a : Expr} {ta : TA} {x : Str} {p0 pos : Pos} {k : Nat} (T : PySem.SupX.SupTxt X.prog X.K X.mg C fI p f msg scope) (hmsg : ∀ (v : Value) (h : Heap), Dv.Fmts X.prog X.w v h → PySem.SupX.Msg X.prog X.w p msg v h) (hr : Room k X.A) (hgd : X.A.guards = some []) (gC : X.mg x = some (.ref C)) (kC : PySem.W.keepIn X.K (.ref C) = true) (rC : Raises X (.ref C))
    (ha : PA X [a] ta) (hg : Gl X x) (he : starEach (a :: []) X.env = (false, eval a X.env) :: starEach [] X.env := by rfl) (hpl : (backTo pos (starEach [] X.env)).any (·.1) = false := by rfl) (hdb : (x == ("__debug__" : Str)) = false := by decide) :
    PMk X (.Call (.Name x p0) [a] [] pos) (tMkS X.K C f ta) := by
  intro pins s σ H Q I h
  refine wpAny_Call_Name_kw (ld_glob I hg gC ?_ hdb)
  refine PySem.W.callWith_K (h₀ := X.base) I.ok.mod.kin kC (thn (ha.run pos pins s σ H _ I h) fun us s1 hh => ?_) he hpl
  obtain ⟨vs, H1, I1, r1, v, pd, ev, hd, ok, q1⟩ := hh
  subst ev
  refine ⟨I1.kIn, ?_⟩
  obtain ⟨u, rfl, rv⟩ := r1.one
  obtain ⟨as, rd⟩ := Dp.reads I1 pd v u hd rv
  show wpAny _ _ (call (.ref C) [u]) _ _ _
  have hlim := I1.nolimit
  obtain ⟨mb, b1, b2⟩ := I1.mod.blt
  have hns := I1.mod.glob.keeps I1.bk
  have hbs := b1.keeps I1.bk
  obtain ⟨hp, g, dr, tk, os⟩ := s1
  refine wpAny_call (PySem.SupX.sup_made (mg := X.mg) T I1.kIn hns hbs b2 hlim (by have := hr.dp; omega) hgd (by have := hr.un; omega) (fun h k => hmsg u h ?_) fun h' tk' e d M => ?_)
  · exact fun A E s Q g2 u2 k2 q2 => Dv.fmts_of rd ok A E s Q g2 u2 (fun b o z => k2 b o (k b o z)) q2
  show MkP X pins σ Q (.ref e) ⟨h', g, dr, tk', os⟩
  obtain ⟨oe, fv, hoe, hc, hd, hdat, h1⟩ := M.obj
  have hns := M.ns
  obtain ⟨G', g1, g2⟩ := restrict h' fun b => decide (b ≠ e)
  have gk : ∀ b, b ≠ e → G'.get? b = h'.get? b := fun b hb => g1 b (decide_eq_true hb)
  have ge : G'.get? e = none := g2 e (by simp)
  have old : ∀ b o, hp.get? b = some o → G'.get? b = some o := fun b o q => (gk b (Nat.ne_of_lt (Nat.lt_of_lt_of_le (Heap.lt_size q) M.new))).trans (M.keep b o q)
  have ob : ObjOk X.prog X.w (upd H1 d (.xd [(f, v)])) G' d (.xd [(f, v)]) :=
    ⟨_, hns.at (fun o q => (gk d M.dne).trans q), fun y => relO_f rv y⟩
  have J : Inv X pins σ (upd H1 d (.xd [(f, v)])) ⟨G', g, dr, tk', os⟩ := I1.laid (t' := tk') old M.dbig ob
  refine ⟨e, oe, fv, ⟨G', g, dr, tk', os⟩, _, .ref C, some d, rfl, J, fun b o q => ?_, ge, hoe, ⟨hc, hd⟩, hdat, h1, ?_, rfl, I1.bare, rC, q1 d (I1.hok.fresh M.dbig)⟩
  · by_cases hb : b = e
    · have q' : G'.get? b = some o := q
      rw [hb, ge] at q'; cases q'
    · exact (gk b hb).symm.trans q
  · rw [upd_ne (Ne.symm M.dne)]
    exact I1.hok.fresh M.new
end
end L2
set_option maxHeartbeats 4000000
namespace Dv
open PySem PySem.Spec PyProof.Rows L2
/-! ### raise -/
def excM {α : Type} (c : Nat) (fs : List (Str × D)) : M α := fun δ => .exc c fs δ
/-- raise c(f): no field -/
def raiS (c : Nat) (f : Env → M D) : SEnv → M Fl := fun env => bind (f (vw env)) fun _ => excM c []
/-- raise c(f): its field n -/
def raiF (c : Nat) (n : Str) (f : Env → M D) : SEnv → M Fl := fun env => bind (f (vw env)) fun d => match d.py with
  | some p => if okFmt p then excM c [(n, d)] else bad
  | none => bad
section
variable {X : Cx} {da : Da} {cm : Nat → Addr} {E : XK} {pos pos2 p0 : Pos} {e : Expr} {f : Env → M D} {C : Addr} {x : Str} {c : Nat}
theorem ss_raise {bmB : List Value} {B newId initId : String} (F : ExcBaseFacts B newId initId bmB) (q : PySem.W.excIn X.K C bmB newId = true) (hc : X.calm = true) (tk : Takes X (WE0 E)) (gC : X.mg x = some (.ref C)) (kC : PySem.W.keepIn X.K (.ref C) = true) (r : Raises X (.ref C)) (hcm : cm c = C) (hg : Gl X x)
    (he : PEv X da cm (WE0 E) e f) (hs : starEach [e] X.env = (false, eval e X.env) :: starEach [] X.env := by rfl) (hdb : (x == ("__debug__" : Str)) = false := by decide) :
    PSv X da cm E (.Raise (some (.Call (.Name x p0) [e] [] pos)) none pos2) (raiS c f) := PS.imp (ps_raise hc tk (SkE.pmk_own1 F q gC kC r hg he hs hdb)) fun D σ H ⟨Hk, env, δ, hA, hE, q⟩ => by
  refine tEv.st hA hE q fun v d δ1 Hk1 H1 s1 a1 e1 r1 q1 => ?_
  have z := q1 none Hk1 H1 (StpS.refl _ _ _ _) a1 trivial
  rw [hcm] at z
  exact z
theorem ss_raiseF {fI : Addr} {p n : Str} {msg : Expr} {scope : Scope} {k : Nat} (T : PySem.SupX.SupTxt X.prog X.K X.mg C fI p n msg scope) (hmsg : ∀ (v : Value) (h : Heap), Fmts X.prog X.w v h → PySem.SupX.Msg X.prog X.w p msg v h) (hr : RoomG k X.A) (hc : X.calm = true) (tk : Takes X (WE0 E)) (gC : X.mg x = some (.ref C)) (kC : PySem.W.keepIn X.K (.ref C) = true) (r : Raises X (.ref C)) (hcm : cm c = C) (hg : Gl X x)
    (he : PAv X da cm (WE0 E) [e] (consA f nilA)) (hs : starEach [e] X.env = (false, eval e X.env) :: starEach [] X.env := by rfl) (hpl : (backTo pos (starEach [] X.env)).any (·.1) = false := by rfl) (hdb : (x == ("__debug__" : Str)) = false := by decide) :
    PSv X da cm E (.Raise (some (.Call (.Name x p0) [e] [] pos)) none pos2) (raiF c n f) := PS.imp (ps_raise hc tk (pmk_sup T hmsg hr.room hr.gd gC kC r he hg hs hpl hdb)) fun D σ H ⟨Hk, env, δ, hA, hE, q⟩ => by
  have q' : FinS X.K da cm (Dv.bind (consA f nilA (vw env)) (fun ds => match ds with
      | [d] => (match d.py with
        | some p => if okFmt p then excM c [(n, d)] else bad
        | none => bad : M Fl)
      | _ => bad) δ) Hk H σ env D E := by
    unfold raiF at q
    unfold consA nilA
    rw [bind_bind]
    exact q
  refine tAv.st hA hE q' fun vs ds δ1 Hk1 H1 s1 a1 e1 r1 q1 => ?_
  cases r1 with
  | nil => exact q1.elim
  | cons rv rn =>
    cases rn with
    | cons _ _ => exact q1.elim
    | nil =>
      rename_i v d
      have q1 : FinS X.K da cm ((match d.py with
        | some p => if okFmt p then excM c [(n, d)] else bad
        | none => bad : M Fl) δ1) Hk1 H1 σ env D E := q1
      cases hp : d.py with
      | none => rw [hp] at q1; exact q1.elim
      | some p =>
        rw [hp] at q1
        by_cases ok : okFmt p = true
        · have q1 : FinS X.K da cm ((if okFmt p = true then excM c [(n, d)] else bad : M Fl) δ1) Hk1 H1 σ env D E := q1
          rw [ifp ok] at q1
          refine ⟨v, p, rfl, (rv.mono a1.ex).dp hp, ok, fun dd hdd => ?_⟩
          have kn : Hk1 dd = none := by
            cases z : Hk1 dd with
            | none => rfl
            | some u => rw [a1.ex _ _ z] at hdd; cases hdd
          have st := Stq.new (o := .xd [(n, v)]) a1.ex hdd
          have z := q1 (some dd) _ _ st.stp.s (st.at_ a1) ⟨dd, [(n, v)], rfl, upd_same, rfl, .cons (rv.mono st.kn) .nil⟩
          rw [hcm] at z
          exact z
        · have q1 : FinS X.K da cm ((if okFmt p = true then excM c [(n, d)] else bad : M Fl) δ1) Hk1 H1 σ env D E := q1
          rw [ifn ok] at q1
          exact q1.elim
end
end Dv
set_option maxHeartbeats 4000000
namespace L2
open PySem PySem.Spec PyProof.Rows
/-- the clauses: the class, the slot of the name behind «as», the suite -/
abbrev ClM := Value × Option Nat × (Addr → Value → Option Addr → TS)
def dropAs (D : Ends) (i : Nat) : Ends := { nx := fun τ G => D.nx (τ.set i none) G, rt := D.rt, bk := fun τ G => D.bk (τ.set i none) G, ct := fun τ G => D.ct (τ.set i none) G }
def wMix (K : PySem.W.Frag) (Wo : WX) (D : Ends) : List ClM → WX
  | [] => Wo
  | (c, none, ts) :: r => fun cls d τ G => ∃ b, PySem.W.exmOne K cls c = some b ∧ (b = true → ∀ ea, G ea = none → ts ea cls d D τ G) ∧ (b = false → wMix K Wo D r cls d τ G)
  | (c, some i, ts) :: r => fun cls d τ G => ∃ b, PySem.W.exmOne K cls c = some b ∧ (b = true → ∀ ea, G ea = none → ts ea cls d (dropAs D i) (τ.set i (some (.ref ea))) G) ∧ (b = false → wMix K Wo D r cls d τ G)
abbrev SuiteM (X : Cx) (st : List Stmt) (ts : Addr → Value → Option Addr → TS) : Prop := ∀ (ea : Addr) (oe : Obj) (cls : Value) (d : Option Addr) (pn : List (Addr × Obj)), Zc cls d oe → (∃ vs, oe.data = .fields vs) → PSs (X.suite ea ((ea, oe) :: pn)) st (ts ea cls d)
inductive HdsMx (X : Cx) : List ExceptHandler → List ClM → Prop
  | nil : HdsMx X [] []
  | no {x : Str} {c : Value} {ts : Addr → Value → Option Addr → TS} {b0 : Stmt} {su : List Stmt} {np p1 : Pos} {hds : List ExceptHandler} {l : List ClM} (hc : Names X x c) (hsu : SuiteM X (b0 :: su) ts) (r : HdsMx X hds l) :
      HdsMx X (.ExceptHandler (some (.Name x np)) none (b0 :: su) p1 :: hds) ((c, none, ts) :: l)
  | as {x n : Str} {i : Nat} {c : Value} {ts : Addr → Value → Option Addr → TS} {b0 : Stmt} {su : List Stmt} {np p1 : Pos} {hds : List ExceptHandler} {l : List ClM} (hN : X.N.Nodup) (hi : X.N[i]? = some n) (hln : X.env.kindOf n = some .local) (hc : Names X x c) (hsu : SuiteM X (b0 :: su) ts) (r : HdsMx X hds l) :
      HdsMx X (.ExceptHandler (some (.Name x np)) (some n) (b0 :: su) p1 :: hds) ((c, some i, ts) :: l)
section
variable {X : Cx}
/-- the clauses looked through, one after the other; the exception ea lies noted -/
theorem mix_go {Wo : WX} {D : Ends} {pins : List (Addr × Obj)} {τ : St} {G : Hp} {sI s' : Shared} {ea : Addr} {B g3 : Heap} {cls : Value} {d : Option Addr} (ok : X.Ok) (hs : X.stack = X.env :: X.outer) (hf : X.env.frame = some X.env.locals) (tk : Takes X Wo)
    (J : Inv X pins τ G sI) (T3 : Inv X pins τ G { s' with heap := g3 }) (na : G ea = none) (nL : ea ≠ X.env.locals) (nF : ea ∉ X.fs)
    (fl : HandSPX.FlyingZ B (X.env :: X.outer) ea (Zc cls d) g3) (J3 : ∀ g4, HandSPX.FlyingZ B (X.env :: X.outer) ea (Zc cls d) g4 → g3.UpToSlots g4 → Inv X pins τ G { s' with heap := g4 })
    (fly : ∀ g4, HandSPX.HeldZ B (X.env :: X.outer) ea (Zc cls d) X.env.locals g4 → g3.UpToSlots g4 → Wo cls d τ G → XE X Wo (.ref ea) { s' with heap := g4 }) :
    ∀ {hds : List ExceptHandler} {l : List ClM}, HdsMx X hds l → wMix X.K Wo D l cls d τ G → wpAny (model X.prog X.w) X.A (handleBy (.ref ea) X.env hds) (SP X pins D) X.xe { s' with heap := g3 } := by
  have here := fl.there
  obtain ⟨o3, w3, l3, z3, d3⟩ := here
  have S3 := T3.suite l3 d3 na nL nF
  have typ : PySem.W.Looks (model X.prog X.w) g3 (typeOf (.ref ea)) cls := fun A Q E s k q => wpAny_typeOf_ref (k _ _ l3) (by rw [z3.1]; exact q)
  have name : ∀ {x : Str} {c : Value} {np : Pos}, Names X x c → ∀ {Q : Value → Shared → Prop} {E : Value → Shared → Prop}, Q c { s' with heap := g3 } → wpAny (model X.prog X.w) (X.A.mark (some (.ref ea))) (eval (.Name x np) X.env) Q E { s' with heap := g3 } := fun {x c np} hc {Q E} q => by
    obtain ⟨hg, hdb, hm | ⟨hm, hv, hn⟩⟩ := hc
    · exact ld_glob (X := X.suite ea ((ea, o3) :: (X.pn ++ pins))) S3 hg hm q hdb
    · exact ld_blt (X := X.suite ea ((ea, o3) :: (X.pn ++ pins))) S3 hg hm hv q hn hdb
  intro hds l hk
  induction hk with
  | nil =>
    intro wo
    refine wpAny_handleBy_nil ?_
    obtain ⟨_, _, _, oe, vs, T, oT, ts', he, _, hd, h1, _⟩ := id fl
    unfold PySem.passOn
    refine wpAny_bind (wpAny_field he hd h1 ?_)
    rw [if_neg (show ¬ ((Value.ref T == Value.none) = true) from by simp)]
    have out : wpAny (model X.prog X.w) X.A (setFlight (.ref ea) X.env.frame) (fun _ s4 => wpAny (model X.prog X.w) X.A (throw (.ref ea) : Sem Flow) (SP X pins D) X.xe s4) X.xe { s' with heap := g3 } := by
      rw [hf]
      exact HandSPX.setFlight_upZ fl fun g4 held up => wpAny_throw (tk _ _ (fly g4 held up wo))
    first
      | exact wpAny_bind (wpAny_pure (wpAny_bind out))
      | exact wpAny_bind out
  | @no x c ts b0 su np p1 hds l hc hsu r ih =>
    rintro ⟨b, hb, yes, nope⟩
    refine wpAny_handleBy_cons (codeAny_handlers_test (name hc ((PySem.W.exm_one (M := model X.prog X.w) T3.kIn typ hb).here ?_))) (by intro q; cases q)
    cases b with
    | false => exact ih (nope rfl)
    | true =>
      refine codeAny_handlers_suite (HandSPX.lands_againZ fl fun g4 fl4 up4 => ?_)
      obtain ⟨o4, w4, l4, z4, d4⟩ := fl4.there
      have S4 := (J3 g4 fl4 up4).suite l4 d4 na nL nF
      refine wpAny_mono ((hsu ea o4 cls d (X.pn ++ pins) z4 ⟨_, d4⟩).run [] _ _ G D S4 (yes rfl ea na)) (fun fw s6 got => ?_) (fun _ _ z => False.elim z)
      cases fw with
      | ret u => obtain ⟨v6, t6, G6, S6, r6, q6⟩ := got; exact ⟨v6, t6, G6, S6.unsuite ok, r6, q6⟩
      | next => obtain ⟨t6, G6, S6, q6⟩ := got; exact ⟨t6, G6, S6.unsuite ok, q6⟩
      | brk => obtain ⟨t6, G6, S6, q6⟩ := got; exact ⟨t6, G6, S6.unsuite ok, q6⟩
      | cont => obtain ⟨t6, G6, S6, q6⟩ := got; exact ⟨t6, G6, S6.unsuite ok, q6⟩
  | @as x n i c ts b0 su np p1 hds l hN hi hln hc hsu r ih =>
    rintro ⟨b, hb, yes, nope⟩
    refine wpAny_handleBy_cons (codeAny_handlers_test (name hc ((PySem.W.exm_one (M := model X.prog X.w) T3.kIn typ hb).here ?_))) (by intro q; cases q)
    cases b with
    | false => exact ih (nope rfl)
    | true =>
      refine codeAny_handlers_suite_as (HandSPX.lands_againZ fl fun g4 fl4 up4 => ?_)
      obtain ⟨o4, w4, l4, z4, d4⟩ := fl4.there
      have S4 := (J3 g4 fl4 up4).suite l4 d4 na nL nF
      refine store_ok (X := X.suite ea ((ea, o4) :: (X.pn ++ pins))) (v := .ref ea) S4 hN hi (.inl hln) rfl (fun s5 S5 => ?_) (.inr hln)
      refine wpAny_mono ((hsu ea o4 cls d (X.pn ++ pins) z4 ⟨_, d4⟩).run [] s5 _ G (dropAs D i) S5 (yes rfl ea na)) (fun fw s6 got => ?_) (fun _ _ z => False.elim z)
      have gone : ∀ {t6 : St} {G6 : Hp} {Q : Shared → Prop}, Inv (X.suite ea ((ea, o4) :: (X.pn ++ pins))) [] t6 G6 s6 → (∀ s7, Inv X pins (t6.set i none) G6 s7 → Q s7) →
          wpAny (model X.prog X.w) X.A (do bindName X.env n .none; unbindBehindTheSuite X.env n p1) (fun _ s7 => Q s7) X.xe s6 := fun {t6 G6 Q} S6 hq => gone_ok (S6.unsuite ok) hN hi hln hq
      cases fw with
      | ret u => obtain ⟨v6, t6, G6, S6, r6, q6⟩ := got; exact gone S6 fun s7 J7 => ⟨v6, _, G6, J7, r6, q6⟩
      | next => obtain ⟨t6, G6, S6, q6⟩ := got; exact gone S6 fun s7 J7 => ⟨_, G6, J7, q6⟩
      | brk => obtain ⟨t6, G6, S6, q6⟩ := got; exact gone S6 fun s7 J7 => ⟨_, G6, J7, q6⟩
      | cont => obtain ⟨t6, G6, S6, q6⟩ := got; exact gone S6 fun s7 J7 => ⟨_, G6, J7, q6⟩
variable {body : List Stmt} {c0 : ExceptHandler} {hds : List ExceptHandler} {l : List ClM} {pos : Pos} {tb : WX → TS} {Wo : WX}
/-- try: body / clauses with and without «as» -/
theorem ps_try_mix (hs : X.stack = X.env :: X.outer) (hf : X.env.frame = some X.env.locals) (tk : Takes X Wo)
    (hb : ∀ (W : WX) (pn : List (Addr × Obj)) (xe : Value → Shared → Prop), Takes (X.tr pn xe) W → PSs (X.tr pn xe) body (tb W))
    (hh : HdsMx X (c0 :: hds) l) : PS X (.Try body (c0 :: hds) [] [] pos) (fun D τ G => tb (wMix X.K Wo D l) D τ G) := by
  refine ⟨fun pins s τ0 G0 D I h => wpAny_Try_except ?_⟩
  have ok := I.ok
  have frm : X.A.frames = some (X.env :: X.outer) := by rw [ok.frames, hs]
  have run := (hb (wMix X.K Wo D l) (X.pn ++ pins) (fun e s₁ => wpAny (model X.prog X.w) X.A (noteFrame e X.env) (fun _ s₂ => wpAny (model X.prog X.w) X.A (setFlight e none) (fun _ s₃ =>
    wpAny (model X.prog X.w) X.A (handleBy e X.env (c0 :: hds)) (SP X pins D) X.xe s₃) X.xe s₂) X.xe s₁) (fun u s' got => ?_)).run [] s τ0 G0 D (I.toTry _) h
  · refine wpAny_mono run (fun fw s1 got => ?_) fun _ _ z => z
    cases fw with
    | next => obtain ⟨t, G, J, q⟩ := got; exact wpAny_execs_nil ⟨t, G, J.ofTry ok, q⟩
    | ret u => obtain ⟨v, t, G, J, r, q⟩ := got; exact ⟨v, t, G, J.ofTry ok, r, q⟩
    | brk => obtain ⟨t, G, J, q⟩ := got; exact ⟨t, G, J.ofTry ok, q⟩
    | cont => obtain ⟨t, G, J, q⟩ := got; exact ⟨t, G, J.ofTry ok, q⟩
  · obtain ⟨ea, B, sI, pins', τ, G, cls, d, rfl, J0, nb, up, sky, na, os, ag, w⟩ := got
    have J : Inv X pins τ G sI := J0.ofTry ok
    rw [show (X.tr (X.pn ++ pins) _).stack = X.env :: X.outer from hs] at sky
    show wpAny (model X.prog X.w) X.A (noteFrame (.ref ea) X.env) _ _ _
    refine Sky.land Zc.steady frm hf sky fun g3 fl3 up3 => ?_
    have inv : ∀ g4, HandSPX.FlyingZ B (X.env :: X.outer) ea (Zc cls d) g4 → g3.UpToSlots g4 → Inv X pins τ G { s' with heap := g4 } := fun g4 fl4 up4 => J.landed nb fl4.1 ((up.trans up3).trans up4) os ag
    have T3 : Inv X pins τ G { s' with heap := g3 } := J.landed nb fl3.1 (up.trans up3) os ag
    obtain ⟨o3, w3, l3, z3, d3⟩ := fl3.there
    have nfr : ea ∉ frs (X.env :: X.outer) := fun hm => by
      obtain ⟨_, o', e', nf⟩ := fl3.2.2.1.mem hm
      rw [l3] at e'
      cases e'
      exact nf _ d3
    refine mix_go ok hs hf tk J T3 na (fun z => nfr (List.mem_filterMap.mpr ⟨X.env, List.mem_cons_self, by rw [hf, z]⟩)) (fun hm => ?_) fl3 inv (fun g4 held up4 wo => ?_) hh w
    · obtain ⟨e, he, q⟩ := List.mem_filterMap.mp hm
      exact nfr (List.mem_filterMap.mpr ⟨e, List.mem_cons_of_mem _ he, q⟩)
    · exact ⟨ea, B, sI, pins, τ, G, cls, d, rfl, J, nb, (up.trans up3).trans up4, .inr (.inr (by rw [hs]; exact held)), na, os, ag, wo⟩
end
end L2
set_option maxHeartbeats 4000000
namespace Dv
open PySem PySem.Spec PyProof.Rows L2
/-! ### expressions that read the caught exception -/
abbrev Fs := List (Str × D)
/-- slot i holds the exception at ea; its own dict dd; f may look at its fields -/
def tHv (K : PySem.W.Frag) (da : Da) (cm : Nat → Addr) (i : Nat) (ea : Addr) (c : Nat) (cls : Value) (dd : Option Addr) (f : Fs → Env → M D) : TE := fun σ H Q => ∃ Hk env δ fs, At da Hk H δ ∧ EnvR K da Hk σ env ∧ σ[i]? = some (some (.ref ea)) ∧ cls = .ref (cm c) ∧ Xr K da.ad Hk dd fs ∧
  Fin K da cm (f fs env δ) Hk H (fun d δ' => ∀ v Hk' H', Stp da Hk H Hk' H' → At da Hk' H' δ' → Rp K da.ad Hk' v d → Q v H') (fun _ _ _ => False)
def tHa (K : PySem.W.Frag) (da : Da) (cm : Nat → Addr) (i : Nat) (ea : Addr) (c : Nat) (cls : Value) (dd : Option Addr) (f : Fs → Env → M (List D)) : TA := fun σ H Q => ∃ Hk env δ fs, At da Hk H δ ∧ EnvR K da Hk σ env ∧ σ[i]? = some (some (.ref ea)) ∧ cls = .ref (cm c) ∧ Xr K da.ad Hk dd fs ∧
  Fin K da cm (f fs env δ) Hk H (fun d δ' => ∀ v Hk' H', Stp da Hk H Hk' H' → At da Hk' H' δ' → RpL K da.ad Hk' v d → Q v H') (fun _ _ _ => False)
theorem Xr.mono {K : PySem.W.Frag} {ad : Option Addr} {Hk Hk' : Hp} {dd : Option Addr} {fs : Fs} (h : Xr K ad Hk dd fs) (e : Ex Hk Hk') : Xr K ad Hk' dd fs := by
  cases fs with
  | nil => trivial
  | cons f fs =>
    obtain ⟨a, ws, h1, h2, h3, h4⟩ := h
    exact ⟨a, ws, h1, e _ _ h2, h3, h4.mono e⟩
section
variable {K : PySem.W.Frag} {da : Da} {cm : Nat → Addr} {i : Nat} {ea : Addr} {c : Nat} {cls : Value} {dd : Option Addr}
theorem tHv.seq {σ : L2.St} {H Hk : Hp} {env : Env} {δ : Dice} {fs : Fs} {f : Fs → Env → M D} {β : Type} {g : D → M β} {k : β → Dice → Prop} (hA : At da Hk H δ) (hE : EnvR K da Hk σ env) (hs : σ[i]? = some (some (.ref ea))) (hc : cls = .ref (cm c)) (hx : Xr K da.ad Hk dd fs)
    (h : Fin K da cm (Dv.bind (f fs env) g δ) Hk H k (fun _ _ _ => False)) {Q : VK}
    (hq : ∀ v d δ' Hk' H', Stp da Hk H Hk' H' → At da Hk' H' δ' → EnvR K da Hk' σ env → Xr K da.ad Hk' dd fs → Rp K da.ad Hk' v d → Fin K da cm (g d δ') Hk' H' k (fun _ _ _ => False) → Q v H') : tHv K da cm i ea c cls dd f σ H Q :=
  ⟨Hk, env, δ, fs, hA, hE, hs, hc, hx, h.bind.mono fun d δ' hg v Hk' H' s a r => hq v d δ' Hk' H' s a (hE.mono s.kn) (hx.mono s.kn) r (hg.later s fun _ _ z => z)⟩
theorem tHa.seq {σ : L2.St} {H Hk : Hp} {env : Env} {δ : Dice} {fs : Fs} {f : Fs → Env → M (List D)} {β : Type} {g : List D → M β} {k : β → Dice → Prop} (hA : At da Hk H δ) (hE : EnvR K da Hk σ env) (hs : σ[i]? = some (some (.ref ea))) (hc : cls = .ref (cm c)) (hx : Xr K da.ad Hk dd fs)
    (h : Fin K da cm (Dv.bind (f fs env) g δ) Hk H k (fun _ _ _ => False)) {Q : List V → Hp → Prop}
    (hq : ∀ v d δ' Hk' H', Stp da Hk H Hk' H' → At da Hk' H' δ' → EnvR K da Hk' σ env → Xr K da.ad Hk' dd fs → RpL K da.ad Hk' v d → Fin K da cm (g d δ') Hk' H' k (fun _ _ _ => False) → Q v H') : tHa K da cm i ea c cls dd f σ H Q :=
  ⟨Hk, env, δ, fs, hA, hE, hs, hc, hx, h.bind.mono fun d δ' hg v Hk' H' s a r => hq v d δ' Hk' H' s a (hE.mono s.kn) (hx.mono s.kn) r (hg.later s fun _ _ z => z)⟩
end
abbrev PHv (X : Cx) (da : Da) (cm : Nat → Addr) (i : Nat) (ea : Addr) (c : Nat) (cls : Value) (dd : Option Addr) (e : Expr) (f : Fs → Env → M D) : Prop := PE X e (tHv X.K da cm i ea c cls dd f)
abbrev PHa (X : Cx) (da : Da) (cm : Nat → Addr) (i : Nat) (ea : Addr) (c : Nat) (cls : Value) (dd : Option Addr) (e : List Expr) (f : Fs → Env → M (List D)) : Prop := PA X e (tHa X.K da cm i ea c cls dd f)
section
variable {X : Cx} {da : Da} {cm : Nat → Addr} {i : Nat} {ea : Addr} {c : Nat} {cls : Value} {dd : Option Addr} {pos p : Pos} {a b e : Expr} {es : List Expr} {fa fb : Fs → Env → M D} {fs : Fs → Env → M (List D)}
/-- one that does not -/
theorem hv_up {f : Env → M D} (h : PEv X da cm W0 e f) : PHv X da cm i ea c cls dd e (fun _ => f) := PE.imp h fun σ H Q ⟨Hk, env, δ, fs, hA, hE, hs, hc, hx, q⟩ => ⟨Hk, env, δ, hA, hE, q⟩
theorem hv_bin {op : Operator} {g : D → D → Option D} (ho : OpD X da (binaryOp op) g) (ha : PHv X da cm i ea c cls dd a fa) (hb : PHv X da cm i ea c cls dd b fb) : PHv X da cm i ea c cls dd (.BinOp a op b pos) (fun fs => opM g (fa fs) (fb fs)) := by
  obtain ⟨r, h1, h2⟩ := ho
  refine PE.imp (pe_op h1 ha hb) fun σ H Q ⟨Hk, env, δ, fs, hA, hE, hs, hc, hx, q⟩ => ?_
  refine tHv.seq hA hE hs hc hx q fun x d δ1 Hk1 H1 s1 a1 e1 x1 r1 q1 => tHv.seq a1 e1 hs hc x1 q1 fun y e δ2 Hk2 H2 s2 a2 e2 x2 r2 q2 => ?_
  obtain ⟨z, hz, gz⟩ := Fin.lift a2 (s1.trans s2) q2
  exact h2 Hk2 H2 x y d e z Q a2.ex (r1.mono s2.kn) r2 hz gz
theorem ha_nil : PHa X da cm i ea c cls dd [] (fun _ => nilA) := PA.imp pa_nil fun σ H Q ⟨Hk, env, δ, fs, hA, hE, hs, hc, hx, q⟩ => q [] Hk H (Stp.refl _ _ _) hA .nil
theorem ha_cons (ha : PHv X da cm i ea c cls dd e fa) (hr : PHa X da cm i ea c cls dd es fs) (hs : starEach (e :: es) X.env = (false, eval e X.env) :: starEach es X.env := by rfl) : PHa X da cm i ea c cls dd (e :: es) (fun l => consA (fa l) (fs l)) := PA.imp (pa_cons ha hr hs) fun σ H Q ⟨Hk, env, δ, fs, hA, hE, hs, hc, hx, q⟩ => by
  refine tHv.seq hA hE hs hc hx q fun x d δ1 Hk1 H1 s1 a1 e1 x1 r1 q1 => tHa.seq a1 e1 hs hc x1 q1 fun xs ds δ2 Hk2 H2 s2 a2 e2 x2 r2 q2 => ?_
  exact q2 _ Hk2 H2 (s1.trans s2) a2 (.cons (r1.mono s2.kn) r2)
theorem hv_callB {id : String} {x : Str} {gl : List D → Option D} (hc : CalD X da (.builtin id) gl) (hg : Gl X x) (hm : X.mg x = none) (hv : bootBuiltins x = some (.builtin id)) (ha : PHa X da cm i ea c cls dd (e :: es) fs) (hn : x ≠ "__name__" := by decide) (hdb : (x == ("__debug__" : Str)) = false := by decide)
    (he : starEach (e :: es) X.env = (false, eval e X.env) :: starEach es X.env := by rfl) (hpl : (backTo pos (starEach es X.env)).any (·.1) = false := by rfl) : PHv X da cm i ea c cls dd (.Call (.Name x p) (e :: es) [] pos) (fun l => calM gl (fs l)) := by
  obtain ⟨r, h1, h2⟩ := hc
  refine PE.imp (pe_callB h1 hg hm hv ha hn hdb he hpl) fun σ H Q ⟨Hk, env, δ, fs, hA, hE, hs, hc, hx, q⟩ => ?_
  refine tHa.seq hA hE hs hc hx q fun xs ds δ1 Hk1 H1 s1 a1 e1 x1 r1 q1 => ?_
  obtain ⟨z, hz, gz⟩ := Fin.lift a1 s1 q1
  exact h2 Hk1 H1 xs ds z Q a1.ex r1 hz gz
theorem hv_callTy {T : String} {x : Str} {gl : List D → Option D} (hc : CalD X da (.type T) gl) (hg : Gl X x) (hm : X.mg x = none) (hv : bootBuiltins x = some (.type T)) (ha : PHa X da cm i ea c cls dd (e :: es) fs) (hn : x ≠ "__name__" := by decide) (hdb : (x == ("__debug__" : Str)) = false := by decide)
    (he : starEach (e :: es) X.env = (false, eval e X.env) :: starEach es X.env := by rfl) (hpl : (backTo pos (starEach es X.env)).any (·.1) = false := by rfl) : PHv X da cm i ea c cls dd (.Call (.Name x p) (e :: es) [] pos) (fun l => calM gl (fs l)) := by
  obtain ⟨r, h1, h2⟩ := hc
  refine PE.imp (pe_callTy h1 hg hm hv ha hn hdb he hpl) fun σ H Q ⟨Hk, env, δ, fs, hA, hE, hs, hc, hx, q⟩ => ?_
  refine tHa.seq hA hE hs hc hx q fun xs ds δ1 Hk1 H1 s1 a1 e1 x1 r1 q1 => ?_
  obtain ⟨z, hz, gz⟩ := Fin.lift a1 s1 q1
  exact h2 Hk1 H1 xs ds z Q a1.ex r1 hz gz
theorem hv_tup {x1 : Nat} (h : PHa X da cm i ea c cls dd es fs) : PHv X da cm i ea c cls dd (.Tuple es x1 pos) (fun l => tupM (fs l)) := PE.imp (pe_tup h) fun σ H Q ⟨Hk, env, δ, fs, hA, hE, hs, hc, hx, q⟩ => by
  refine tHa.seq hA hE hs hc hx q fun xs ds δ1 Hk1 H1 s1 a1 e1 x1 r1 q1 => ?_
  obtain ⟨z, hz, gz⟩ := Fin.lift a1 s1 q1
  obtain ⟨hl, rfl⟩ := ite_some hz
  exact ⟨by rw [r1.length]; exact lim_le hl, fun p hp => gz.tup a1.ex r1 hp⟩
end
/-- what the written part says of the fields of the errors of a class -/
structure FldTxt (K : PySem.W.Frag) (C : Addr) (f : Str) : Prop where
  ga : PySem.W.findIn K (.ref C) "__getattribute__" = some (some (.builtin "BaseException.__getattribute__"))
  gg : PySem.W.findIn K (.ref C) "__getattr__" = some none
  noN : PySem.W.findIn K (.ref C) f = some none
  exC : PySem.W.subIn K (.ref C) (.type "BaseException") = some true
  hd : PySem.W.hasDictIn K C = true
def fldH (f : Str) : Fs → Env → M D := fun fs _ => lift (fs.lookup f)
theorem look_two {K : PySem.W.Frag} {ad : Option Addr} {H : Hp} {f : Str} {d : D} : ∀ {ws : List (Str × V)} {fs : Fs}, ws.map (·.1) = fs.map (·.1) → RpL K ad H (ws.map (·.2)) (fs.map (·.2)) → fs.lookup f = some d → ∃ v, ws.lookup f = some v ∧ Rp K ad H v d
  | [], [], _, _, h => by cases h
  | [], _ :: _, h, _, _ => by cases h
  | _ :: _, [], h, _, _ => by cases h
  | (k, v) :: ws, (k', d') :: fs, h, r, q => by
    simp only [List.map_cons, List.cons.injEq] at h r
    obtain ⟨rfl, h⟩ := h
    cases r with
    | cons r1 r2 =>
      by_cases e : (f == k) = true
      · simp only [List.lookup, e, Option.some.injEq] at q
        subst q
        exact ⟨v, by simp only [List.lookup, e], r1⟩
      · simp only [List.lookup, e] at q
        obtain ⟨v, h1, h2⟩ := look_two h r2 q
        exact ⟨v, by simp only [List.lookup, e]; exact h1, h2⟩
section
variable {X : Cx} {da : Da} {cm : Nat → Addr} {i : Nat} {ea : Addr} {c : Nat} {cls : Value} {dd : Option Addr} {pos p : Pos} {oe : Obj} {pn : List (Addr × Obj)} {n f : Str}
theorem hv_fld (T : FldTxt X.K (cm c) f) (hz : Zc cls dd oe) (hf : ∃ vs, oe.data = .fields vs) (he : PE (X.suite ea ((ea, oe) :: pn)) (.Name n p) (tVar i)) (hb : attributeBase (.Name n p) f X.env (eval (.Name n p) X.env) = eval (.Name n p) X.env := by rfl) :
    PHv (X.suite ea ((ea, oe) :: pn)) da cm i ea c cls dd (.Attribute (.Name n p) f pos) (fldH f) := by
  refine ⟨fun pins s σ H Q I h => ?_⟩
  obtain ⟨Hk, env, δ, fs, hA, hE, hs, hc, hx, q⟩ := h
  have q : Fin X.K da cm (Dv.lift (fs.lookup f) δ) Hk H _ _ := q
  cases hl : fs.lookup f with
  | none => rw [hl] at q; exact q.elim
  | some d =>
    rw [hl] at q
    refine attr_of hb (thn (he.run pins s σ H (fun v H1 => v = .ref ea ∧ H1 = H) I ⟨_, hs, rfl, rfl⟩) fun u s1 hh => ?_)
    obtain ⟨x, H1, I1, rx, ex, eH⟩ := hh
    subst ex
    subst eH
    obtain rfl : u = Value.ref ea := rx
    have hx' : ∃ a ws, dd = some a ∧ Hk a = some (.xd ws) ∧ ws.map (·.1) = fs.map (·.1) ∧ RpL X.K da.ad Hk (ws.map (·.2)) (fs.map (·.2)) := by
      cases fs with
      | nil => cases hl
      | cons _ _ => exact hx
    obtain ⟨dx, ws, rfl, h1, h2, h3⟩ := hx'
    obtain ⟨v, hv, rv⟩ := look_two h2 h3 hl
    obtain ⟨ha, _⟩ := I1.pin (ea, oe) (List.mem_append_left _ List.mem_cons_self)
    obtain ⟨vs, hd⟩ := hf
    obtain ⟨mA, hns, hr⟩ : ObjOk X.prog X.w H1 s1.heap dx (.xd ws) := I1.hok dx _ (hA.ex _ _ h1)
    obtain ⟨od, ho, hlk⟩ := lookIn_ns hns
    obtain ⟨u, hu, ru⟩ := RelO.some_of (v := v) (o := mA f) (by rw [← hv]; exact hr f)
    have J : PySem.W.InstAt s1.heap ea oe (cm c) (some od) := ⟨ha, by rw [hz.1, hc], by unfold PySem.W.notCls; rw [hd] <;> rfl, by rw [hz.2]; exact ho⟩
    exact HandSPX.exc_get I1.kIn J T.ga T.gg T.exC (PySem.W.findObj_own T.hd T.noN rfl (by rw [hlk, hu])) (handed_of ru) ⟨v, H1, I1.tok _, ru, q v Hk H1 (Stp.refl _ _ _) hA rv⟩
end
end Dv
set_option maxHeartbeats 4000000
namespace Dv
open PySem PySem.Spec PyProof.Rows L2
/-! ### try: one expression; clauses -/
abbrev Mt := Nat → Nat → Option Bool
def catchM (mt : Mt) (env : SEnv) (c : Nat) (fs : Fs) : List (Nat × (Fs → SEnv → M Fl)) → M Fl
  | [] => excM c fs
  | (k, F) :: r => match mt c k with
    | some true => nx (F fs env)
    | some false => catchM mt env c fs r
    | none => bad
def tryS (mt : Mt) (f : Env → M D) (g : D → SEnv → M Fl) (m : List (Nat × (Fs → SEnv → M Fl))) : SEnv → M Fl := fun env δ => match f (vw env) δ with
  | .ok d δ' => g d env δ'
  | .exc c fs δ' => catchM mt env c fs m δ'
  | .bad => .bad
abbrev EF : XK := fun _ _ _ => False
/-- a suite that returns what is made of the exception -/
def asC (i : Nat) (F : Fs → Env → M D) : Fs → SEnv → M Fl := fun fs env => if i < env.length then bind (F fs (vw (env.set i .no))) fun d => ret (.ret d) else bad
inductive ClR (K : PySem.W.Frag) (da : Da) (cm : Nat → Addr) (mt : Mt) : List ClM → List (Nat × (Fs → SEnv → M Fl)) → Prop
  | nil : ClR K da cm mt [] []
  | no {k : Nat} {F : SEnv → M Fl} {l : List ClM} {m : List (Nat × (Fs → SEnv → M Fl))} (r : ClR K da cm mt l m) : ClR K da cm mt ((.ref (cm k), none, fun _ _ _ => tSt K da cm EF F) :: l) ((k, fun _ => F) :: m)
  | as {k : Nat} {i : Nat} {F : Fs → Env → M D} {l : List ClM} {m : List (Nat × (Fs → SEnv → M Fl))} (h : ∀ c, mt c k = some true → c = k) (r : ClR K da cm mt l m) :
      ClR K da cm mt ((.ref (cm k), some i, fun ea cls d => tRet (tHv K da cm i ea k cls d F)) :: l) ((k, asC i F) :: m)
/-- the table of classes holds -/
def MtOk (K : PySem.W.Frag) (cm : Nat → Addr) (mt : Mt) : Prop := ∀ c k b, mt c k = some b → PySem.W.exmOne K (.ref (cm c)) (.ref (cm k)) = some b
section
variable {K : PySem.W.Frag} {da : Da} {cm : Nat → Addr} {mt : Mt} {E : XK} {σ : L2.St} {H Hk : Hp} {env : SEnv} {δ : Dice} {D : Ends}
theorem FinS.nx {m : M Fl} {E' : XK} (h : FinS K da cm (Dv.nx m δ) Hk H σ env D E) : FinS K da cm (m δ) Hk H σ env D E' := by
  unfold Dv.nx at h
  cases e : m δ with
  | ok a δ' => rw [e] at h; cases a <;> exact h
  | exc c fs δ' => rw [e] at h; exact h.elim
  | bad => rw [e] at h; exact h.elim
theorem EnvS.clear {i : Nat} {v : Option V} (h : EnvS K da Hk H σ env) : EnvS K da Hk H (σ.set i v) (env.set i .no) where
  len := by rw [List.length_set, List.length_set]; exact h.len
  dat := fun j x e => by
    by_cases hj : i = j
    · subst hj; cases get_set_same e
    · rw [List.getElem?_set_ne hj] at e ⊢; exact h.dat j x e
  own := fun j s e o => by
    by_cases hj : i = j
    · subst hj; cases get_set_same e; cases o
    · rw [List.getElem?_set_ne hj] at e ⊢; exact h.own j s e o
  apart := fun j k s t p e1 o1 e2 o2 q1 q2 => by
    by_cases hj : i = j
    · subst hj; cases get_set_same e1; cases o1
    · by_cases hk : i = k
      · subst hk; cases get_set_same e2; cases o2
      · rw [List.getElem?_set_ne hj] at e1 q1
        rw [List.getElem?_set_ne hk] at e2 q2
        exact h.apart j k s t p e1 o1 e2 o2 q1 q2
theorem catch_of (hmt : MtOk K cm mt) {c : Nat} {fs : Fs} {dd : Option Addr} (hA : At da Hk H δ) (hE : EnvS K da Hk H σ env) (hx : Xr K da.ad Hk dd fs) : ∀ {l : List ClM} {m : List (Nat × (Fs → SEnv → M Fl))}, ClR K da cm mt l m →
    FinS K da cm (catchM mt env c fs m δ) Hk H σ env D E → wMix K (WE0 E) D l (.ref (cm c)) dd σ H := by
  intro l m hl
  induction hl with
  | nil => intro h; exact h dd Hk H (StpS.refl _ _ _ _) hA hx
  | @no k F l m r ih =>
    intro h
    unfold catchM at h
    cases e : mt c k with
    | none => rw [e] at h; exact h.elim
    | some b =>
      rw [e] at h
      refine ⟨b, hmt c k b e, fun hb ea _ => ?_, fun hb => ?_⟩
      · subst hb
        exact ⟨Hk, env, δ, hA, hE, FinS.nx h⟩
      · subst hb
        exact ih h
  | @as k i F l m hk r ih =>
    intro h
    unfold catchM at h
    cases e : mt c k with
    | none => rw [e] at h; exact h.elim
    | some b =>
      rw [e] at h
      refine ⟨b, hmt c k b e, fun hb ea _ => ?_, fun hb => ?_⟩
      · subst hb
        obtain rfl := hk c e
        have h := FinS.nx (E' := EF) h
        unfold asC at h
        by_cases hi : i < env.length
        · rw [ifp hi] at h
          refine ⟨Hk, vw (env.set i .no), δ, fs, hA, (hE.clear (v := some (.ref ea))).vw, List.getElem?_set_self (by rw [hE.len]; exact hi), rfl, hx, ?_⟩
          unfold Dv.bind at h
          cases hf : F fs (vw (env.set i .no)) δ with
          | bad => rw [hf] at h; exact h.elim
          | exc c' fs' δ' => rw [hf] at h; exact fun dd' Hk' H' s a x => h dd' Hk' H' s.s a x
          | ok d δ' => rw [hf] at h; exact fun v Hk' H' s a r => h v Hk' H' s.s a r
        · rw [ifn hi] at h
          exact h.elim
      · subst hb
        exact ih h
theorem tEv.tr (hmt : MtOk K cm mt) {l : List ClM} {m : List (Nat × (Fs → SEnv → M Fl))} (hl : ClR K da cm mt l m) {f : Env → M Dv.D} {g : Dv.D → SEnv → M Fl} (hA : At da Hk H δ) (hE : EnvS K da Hk H σ env) (h : FinS K da cm (tryS mt f g m env δ) Hk H σ env D E) {Q : VK}
    (hq : ∀ v d δ' Hk' H', Stp da Hk H Hk' H' → At da Hk' H' δ' → EnvS K da Hk' H' σ env → Rp K da.ad Hk' v d → FinS K da cm (g d env δ') Hk' H' σ env D E → Q v H') : tEv K da cm (wMix K (WE0 E) D l) f σ H Q := by
  refine ⟨Hk, vw env, δ, hA, hE.vw, ?_⟩
  unfold tryS at h
  cases hf : f (vw env) δ with
  | bad => rw [hf] at h; exact h.elim
  | ok d δ' => rw [hf] at h; exact fun v Hk' H' s a r => hq v d δ' Hk' H' s a (hE.step s) r (h.step s)
  | exc c fs δ' => rw [hf] at h; exact fun dd Hk' H' s a x => catch_of hmt a (hE.step s) x hl (h.step s)
end
section
variable {X : Cx} {da : Da} {cm : Nat → Addr} {mt : Mt} {E : XK} {pos p2 : Pos} {e : Expr} {c0 : ExceptHandler} {hds : List ExceptHandler} {l : List ClM} {m : List (Nat × (Fs → SEnv → M Fl))} {f : Env → M D}
theorem ss_tryR (hs : X.stack = X.env :: X.outer) (hf : X.env.frame = some X.env.locals) (hmt : MtOk X.K cm mt) (tk : Takes X (WE0 E)) (hl : ClR X.K da cm mt l m) (hh : HdsMx X (c0 :: hds) l)
    (he : ∀ (W : WX) (pn : List (Addr × Obj)) (xe : Value → Shared → Prop), Takes (X.tr pn xe) W → PEv (X.tr pn xe) da cm W e f) :
    PSv X da cm E (.Try [.Return (some e) p2] (c0 :: hds) [] [] pos) (tryS mt f (fun d _ => ret (.ret d)) m) :=
  PS.imp (ps_try_mix (tb := fun W => tRet (tEv X.K da cm W f)) hs hf tk (fun W pn xe tk => pss_one (ps_ret (he W pn xe tk))) hh) fun D σ H ⟨Hk, env, δ, hA, hE, q⟩ =>
    tEv.tr hmt hl hA hE q fun v d δ' Hk' H' s a e r q => q v Hk' H' (StpS.refl _ _ _ _) a r
theorem ss_tryE (hs : X.stack = X.env :: X.outer) (hf : X.env.frame = some X.env.locals) (hmt : MtOk X.K cm mt) (tk : Takes X (WE0 E)) (hl : ClR X.K da cm mt l m) (hh : HdsMx X (c0 :: hds) l)
    (he : ∀ (W : WX) (pn : List (Addr × Obj)) (xe : Value → Shared → Prop), Takes (X.tr pn xe) W → PEv (X.tr pn xe) da cm W e f) (hw : ∀ (pn : List (Addr × Obj)) (xe : Value → Shared → Prop), swapsWith e none p2.line (X.tr pn xe).env = pure false := by intro _ _; rfl) :
    PSv X da cm E (.Try [.Expr e p2] (c0 :: hds) [] [] pos) (tryS mt f (fun _ env => ret (.next env)) m) :=
  PS.imp (ps_try_mix (tb := fun W => tDrop (tEv X.K da cm W f)) hs hf tk (fun W pn xe tk => pss_one (ps_expr (he W pn xe tk) (hw pn xe))) hh) fun D σ H ⟨Hk, env, δ, hA, hE, q⟩ =>
    tEv.tr hmt hl hA hE q fun v d δ' Hk' H' s a e r q => q σ Hk' H' (StpS.refl _ _ _ _) a e fun _ => own_le
end
end Dv
set_option maxHeartbeats 4000000
namespace Dv
open PySem PySem.Spec PyProof.Rows L2 LamX
/-! ### a lambda handed to a def; its exceptions may be wished for at the slots of the call -/
section
variable {X : Cx} {pins : List (Addr × Obj)} {σ : L2.St} {H : Hp} {s : Shared}
/-- the context of the def that got it -/
abbrev gCx (X : Cx) (Ng : List Str) (x : Str) (sg : Scope) (g : Addr) (cdg : Value) (s : Shared) (H : Hp) : Cx := cxOf C8.CX0 X.prog X.w X.K X.mg X.base Ng x sg g cdg X.A X.stack s H C8.E0
theorem act_pe {Ng : List Str} {x : Str} {sg : Scope} {g f c' : Addr} {cdg pm ctv : Value} {params : Arguments} {body : Expr} {scope : Scope} {k i : Nat} {a : Str} {pn : List (Addr × Obj)} {xe : Value → Shared → Prop} {W : WX} {tb : XK → TE} {p1 p2 : Pos}
    (I : Inv X pins σ H s) (L : LamS X.env.scope scope) (lf : s.heap.get? f = some (PySem.W.kla_obj "<lambda>" (X.env.qual ++ "<lambda>") params body scope (cloFrom X.env.cells scope.names []) pm c' ctv)) (nf : H f = none) (ff : f ∉ frs X.stack)
    (bind : bindArgs (PySem.W.kla_fn "<lambda>" (X.env.qual ++ "<lambda>") params body scope (cloFrom X.env.cells scope.names []) pm (.ref c') ctv) ⟨[], []⟩ = pure [])
    (tk : Takes ((gCx X Ng x sg g cdg s H).tr pn xe) W) (hr : Room (k + 1) (X.A.deeper (envOfC x sg s.heap.objs.size g cdg)))
    (hbody : ∀ (A : Around) (outer : List PySem.Env) (s1 : Shared) (H1 : Hp) (E : XK), A.guards = X.A.guards → Room k (A.deeper (lamEnv X scope s1.heap.objs.size f c')) → PE (lamCx X A outer s1 H1 E scope f c') body (tb E))
    (hN : Ng[i]? = some a) (hv : Vis sg a) (hd : (a == ("__debug__" : Str)) = false) (hcd : (a == ("__classdict__" : Str)) = false) :
    PE ((gCx X Ng x sg g cdg s H).tr pn xe) (.Call (.Name a p1) [] [] p2) (fun τ G Q => τ[i]? = some (some (.ref f)) ∧ G c' = some (CodeO c' (X.env.qual ++ "<lambda>")) ∧ tb (WE W τ) σ G Q) := by
  refine ⟨fun pz sz τ G Q J ⟨h1, h2, h3⟩ => ?_⟩
  refine wpAny_Call_Name_kw (thn ((pe_var (pos := p1) (i := i) hN hv hd hcd).run pz sz τ G (fun v G1 => v = .ref f ∧ G1 = G) J ⟨.ref f, h1, rfl, rfl⟩) fun u s1 ⟨v, G1, J1, ru, ev, eG⟩ => ?_)
  subst ev
  subst eG
  obtain rfl : u = Value.ref f := ru
  have lf1 : s1.heap.get? f = some (PySem.W.kla_obj "<lambda>" (X.env.qual ++ "<lambda>") params body scope (cloFrom X.env.cells scope.names []) pm c' ctv) := J1.base.keep f _ lf nf ff (fun z => nomatch (show f ∈ ([] : List Addr) from z))
  refine PySem.W.callWith_F0 ⟨_, _, _, _, lf1⟩ (wpAny_call ?_)
  have un : Un (frs X.stack) [] H G1 s.heap s1.heap := J1.base
  obtain ⟨⟨oc, vs, t, e1, e2, e3⟩, _, _⟩ := J1.hok c' _ h2
  have ran : codeAny (model X.prog X.w) (X.A.deeper (envOfC x sg s.heap.objs.size g cdg)) (.call (.ref f) ⟨[], []⟩) (CR (L2.CX X.prog X.w) (envOfC x sg s.heap.objs.size g cdg :: X.stack) X.prog X.w G1 s1 Q (WE W τ)) s1 := by
    refine PySem.W.kla_callFunE hr.depth lf1 rfl L.co L.gen rfl ⟨c', oc, vs, t, rfl, e1, e2, e3⟩ ?_
    rw [bind]
    refine wpAny_pure (wpAny_newFunctionEnv (fun y hy => (L.own y hy).2) (fun y hy => absurd hy (by simp)) (fun h₁ hns sb => ⟨J1.nolimit.fresh _ sb, ?_⟩) L.kind)
    show codeAny _ _ (.expr body (lamEnv X scope s1.heap.objs.size f c')) _ _
    have kp : ∀ b o, s1.heap.get? b = some o → h₁.get? b = some o := fun b o e => sb.extBut b o (Nat.ne_of_lt (Heap.lt_size e)) (Heap.get?_push_of_some _ e)
    have J2 := lam_start2 (f := f) (E := WE W τ) (c' := c') (tk := s1.toks + ([] : List (Str × Value)).length) I L J1.env0 hr.hd un hns kp
    refine PySem.W.kla_codeExpr (wpAny_mono ((hbody (X.A.deeper (envOfC x sg s.heap.objs.size g cdg)) (envOfC x sg s.heap.objs.size g cdg :: X.stack) s1 G1 (WE W τ) rfl (hr.deeper _)).run [] _ _ G1 Q J2 h3) (fun v s' ⟨w', G', J3, rv, q⟩ => ⟨w', G', J3.os, J3.bare, J3.base, J3.hok, rv, q⟩) fun _ _ z => z)
  refine codeAny_mono ran fun r s' hq => ?_
  cases r with
  | error e => exact passAt tk τ pz G1 s1 e s' J1 hq
  | ok fl =>
    cases fl with
    | ret u => exact J1.after hq
    | next => exact hq.elim
    | brk => exact hq.elim
    | cont => exact hq.elim
/-- what the def makes of it -/
def GiveM (X : Cx) (Ng : List Str) (x : Str) (sg : Scope) (g : Addr) (cdg : Value) (bg : List Stmt) (a : Str) (q : Str) (TT : (XK → Hp → VK → Prop) → Hp → VK → Prop) : Prop :=
  ∀ (f c' : Addr) (s : Shared) (H : Hp) (Q : VK) (tl : XK → Hp → VK → Prop),
    (∀ (W : WX) (pn : List (Addr × Obj)) (xe : Value → Shared → Prop) (p1 p2 : Pos), Takes ((gCx X Ng x sg g cdg s H).tr pn xe) W →
      PE ((gCx X Ng x sg g cdg s H).tr pn xe) (.Call (.Name a p1) [] [] p2) (fun τ G Q => τ[0]? = some (some (.ref f)) ∧ G c' = some (CodeO c' q) ∧ tl (WE W τ) G Q)) →
    H c' = some (CodeO c' q) → TT tl H Q →
    ∃ t, PSs (gCx X Ng x sg g cdg s H).nox bg t ∧ t { nx := fun _ H' => Q .non H', rt := Q } (L2.start Ng [.ref f]) H
end
section
variable {X : Cx}
theorem pe_give {T : List (Addr × Str)} {TT : (XK → Hp → VK → Prop) → Hp → VK → Prop} {x a : Str} {g c P : Addr} {k : Nat} {fdg : FuncData} {stg : Stmt} {Ng : List Str}
    {params : Arguments} {body : Expr} {scope : Scope} {t : XK → TE} {p lpos pos : Pos} (hg : Gl X x) (hm : X.mg x = some (.ref g)) (Fg : Fun X.K x x stg g fdg) (hb : L2.Binds X.K fdg [a] []) (Sg : FnScope Ng [a] (defScope stg)) (hNg : Ng[0]? = some a) (hva : Vis (defScope stg) a)
    (hG : ∀ cdv : Value, GiveM X Ng x (defScope stg) g cdv (defBody stg) a (X.env.qual ++ "<lambda>") TT)
    (TB : TabB X.base X.mg c P) (hcode : X.env.code = .ref c) (hmT : (P, X.env.qual ++ "<lambda>") ∈ T) (hu : ∀ p ∈ T, p.1 = P → p.2 = X.env.qual ++ "<lambda>") (hr : Room (k + 2) X.A) (L : LamS X.env.scope scope) (hdef : defaultsOf params X.env = ([], []))
    (hbind : ∀ (q : Str) (cl : List (Str × Addr)) (pm cv ctv : Value), bindArgs (PySem.W.kla_fn "<lambda>" q params body scope cl pm cv ctv) ⟨[], []⟩ = pure [])
    (hbody : ∀ (A : Around) (outer : List PySem.Env) (s : Shared) (H : Hp) (E : XK) (f c' : Addr), A.guards = X.A.guards → Room k (A.deeper (lamEnv X scope s.heap.objs.size f c')) → PE (lamCx X A outer s H E scope f c') body (t E))
    (hdb : (x == ("__debug__" : Str)) = false := by decide) (hd : (a == ("__debug__" : Str)) = false := by decide) (hcd : (a == ("__classdict__" : Str)) = false := by decide) :
    PE X (.Call (.Name x p) [.Lambda params body scope lpos] [] pos) (tLam T TT t) := by
  obtain ⟨oc, od, kV, doc, pm, an, cdv, ct, osl, rfl, lk, hcg⟩ := Fg.ex
  refine ⟨fun pins s σ H Q I ⟨hT, h⟩ => wpAny_Call_Name_kw (ld_glob I hg hm (PySem.W.callWith_K (h₀ := X.base) I.ok.mod.kin Fg.kp ?_ (by rfl) (by rfl)) hdb)⟩
  show wpAny _ _ (spliced ((false, eval (.Lambda params body scope lpos) X.env) :: backTo pos (starEach [] X.env))) _ _ s
  refine Calls.spliced_cons (lam_make2 I TB hcode hmT hu hT hdef (L.has I.ok) fun f c' pm' ctv H1 s' I1 eN T1 lf nf ff hco => ?_)
  refine Calls.spliced_nil ⟨I1.kIn, wpAny_call ?_⟩
  have rc : codeAny (model X.prog X.w) X.A (.call (.ref g) ⟨[.ref f], []⟩) (CR C8.CX0 X.stack X.prog X.w H1 s' Q C8.E0) s' := by
    refine run_ofS (N := Ng) (ps := [a]) (us := [.ref f]) (vs := [.ref f]) lk hcg Sg hr I1.env0 (hb s' [.ref f] I1.kIn rfl) (.cons rfl .nil) rfl fun hr' => ?_
    obtain ⟨t', ht', hq'⟩ := hG cdv f c' s' H1 Q (fun E H' Q' => t E σ H' Q') (fun W pn xe p1 p2 tk => act_pe (i := 0) I1 L lf nf ff (hbind _ _ _ _ _) tk hr' (fun A outer s1 H2 E hgd hr2 => hbody A outer s1 H2 E f c' hgd hr2) hNg hva hd hcd) hco (h H1 eN T1)
    exact ⟨t', ht'.nox, hq'⟩
  refine codeAny_mono rc fun r s2 hq => ?_
  cases r with
  | error e => exact (show False from hq).elim
  | ok fl =>
    cases fl with
    | ret u => exact I1.after hq
    | next => exact hq.elim
    | brk => exact hq.elim
    | cont => exact hq.elim
end
end Dv
set_option maxHeartbeats 4000000
namespace Dv
open PySem PySem.Spec PyProof.Rows L2 LamX
theorem extN_at {da : Da} {Hk H H1 : Hp} {δ : Dice} (a : At da Hk H δ) (e : ExtN H H1) (t : Tabs da.tb H1) : At da Hk H1 δ ∧ Stp da Hk H Hk H1 :=
  ⟨⟨fun b o q => e b o (a.ex b o q) fun ps z => a.nt b ps (by rw [q, z]), fun b q => ⟨(a.di b q).1, e b _ (a.di b q).2 fun _ z => nomatch z⟩, t, a.kn, a.nt⟩,
    Evl.Ex.refl _, fun _ _ n => n, fun b o q _ n => e b o q n, fun b ⟨o, q, n⟩ => ⟨o, e b o q n, n⟩, fun b ⟨o, q, n⟩ => ⟨o, e b o q n.ntb, n⟩⟩
/-- a def that calls what it got: S of what that does -/
def TTv (K : PySem.W.Frag) (da : Da) (cm : Nat → Addr) (S : M D → M D) : (XK → Hp → VK → Prop) → Hp → VK → Prop := fun tl H Q => ∃ Hk δ m, At da Hk H δ ∧
  (∀ Hk' H' δ' (E : XK) (Q' : VK), Ex Hk Hk' → At da Hk' H' δ' → Fin K da cm (m δ') Hk' H' (fun d δ'' => ∀ v Hk'' H'', Stp da Hk' H' Hk'' H'' → At da Hk'' H'' δ'' → Rp K da.ad Hk'' v d → Q' v H'') E → tl E H' Q') ∧
  Fin K da cm (S m δ) Hk H (fun d δ' => ∀ v Hk' H', Stp da Hk H Hk' H' → At da Hk' H' δ' → Rp K da.ad Hk' v d → Q v H') (fun _ _ _ => False)
def lamM (S : M D → M D) (f : Env → M D) : Env → M D := fun env => nx (S (f env))
theorem tLam_of {K : PySem.W.Frag} {da : Da} {cm : Nat → Addr} {W : WX} {S : M D → M D} {f : Env → M D} (σ : L2.St) (H : Hp) (Q : VK) (h : tEv K da cm W (lamM S f) σ H Q) : tLam da.tb (TTv K da cm S) (fun E => tEv K da cm (WE0 E) f) σ H Q := by
  obtain ⟨Hk, env, δ, hA, hE, q⟩ := h
  refine ⟨hA.tb, fun H1 eN T1 => ?_⟩
  obtain ⟨a1, s1⟩ := extN_at hA eN T1
  refine ⟨Hk, δ, f env, a1, fun Hk' H' δ' E Q' s a fin => ⟨Hk', env, δ', a, hE.mono s, fin⟩, ?_⟩
  unfold lamM at q
  rw [← ret_bind (Dv.nx (S (f env)))] at q
  exact (Fin.nx q).mono fun d δ' k v Hk' H' s => k v Hk' H' (s1.trans s)
section
variable {X : Cx} {da : Da} {cm : Nat → Addr} {W : WX}
theorem ev_lam {S : M D → M D} {f : Env → M D} {x a : Str} {g c P : Addr} {k : Nat} {fdg : FuncData} {stg : Stmt} {Ng : List Str}
    {params : Arguments} {body : Expr} {scope : Scope} {p lpos pos : Pos} (hg : Gl X x) (hm : X.mg x = some (.ref g)) (Fg : Fun X.K x x stg g fdg) (hb : L2.Binds X.K fdg [a] []) (Sg : FnScope Ng [a] (defScope stg)) (hNg : Ng[0]? = some a) (hva : Vis (defScope stg) a)
    (hG : ∀ cdv : Value, GiveM X Ng x (defScope stg) g cdv (defBody stg) a (X.env.qual ++ "<lambda>") (TTv X.K da cm S))
    (TB : TabB X.base X.mg c P) (hcode : X.env.code = .ref c) (hmT : (P, X.env.qual ++ "<lambda>") ∈ da.tb) (hu : ∀ p ∈ da.tb, p.1 = P → p.2 = X.env.qual ++ "<lambda>") (hr : RoomG (k + 2) X.A) (L : LamS X.env.scope scope) (hdef : defaultsOf params X.env = ([], []))
    (hbind : ∀ (q : Str) (cl : List (Str × Addr)) (pm cv ctv : Value), bindArgs (PySem.W.kla_fn "<lambda>" q params body scope cl pm cv ctv) ⟨[], []⟩ = pure [])
    (hbody : ∀ (A : Around) (outer : List PySem.Env) (s : Shared) (H : Hp) (E : XK) (f' c' : Addr), RoomG k (A.deeper (lamEnv X scope s.heap.objs.size f' c')) → PEv (lamCx X A outer s H E scope f' c') da cm (WE0 E) body f)
    (hdb : (x == ("__debug__" : Str)) = false := by decide) (hd : (a == ("__debug__" : Str)) = false := by decide) (hcd : (a == ("__classdict__" : Str)) = false := by decide) :
    PEv X da cm W (.Call (.Name x p) [.Lambda params body scope lpos] [] pos) (lamM S f) :=
  PE.imp (pe_give hg hm Fg hb Sg hNg hva hG TB hcode hmT hu hr.room L hdef hbind (fun A outer s H E f' c' hgd hr2 => hbody A outer s H E f' c' ⟨hr2, hgd.trans hr.gd⟩) hdb hd hcd) tLam_of
end
/-! ### the def that gets it -/
def isRef {α : Type} (f : Addr) (d : D) (m : M α) : M α := match d with
  | .ref b => if b = f then m else bad
  | _ => bad
/-- a call of what was given, in slot 0 -/
def actM (f : Addr) (m : M D) : Env → M D := fun env => bind (vr 0 env) fun d => isRef f d m
def runS (F : SEnv → M Fl) (env : SEnv) : M D := bind (F env) fun r => match r with
  | .ret d => ret d
  | .next _ => ret .non
  | _ => bad
def Da.more (da : Da) (c' : Addr) (q : Str) (G0 : Hp) : Da := ⟨da.ad, da.tb, fun G => da.kn G ∧ G c' = some (CodeO c' q) ∧ Ex G0 G, fun H H' e h => ⟨da.km H H' e h.1, e _ _ h.2.1, h.2.2.trans e⟩⟩
section
variable {da : Da} {c' : Addr} {q : Str} {G0 Hk H Hk' H' : Hp} {δ : Dice}
theorem At.less (a : At (da.more c' q G0) Hk H δ) : At da Hk H δ := ⟨a.ex, a.di, a.tb, a.kn.1, a.nt⟩
theorem Stp.less (s : Stp (da.more c' q G0) Hk H Hk' H') : Stp da Hk H Hk' H' := ⟨s.kn, s.fr, s.ke, s.th, s.tm⟩
theorem Stp.more (s : Stp da Hk H Hk' H') : Stp (da.more c' q G0) Hk H Hk' H' := ⟨s.kn, s.fr, s.ke, s.th, s.tm⟩
theorem At.up {Hk2 : Hp} (a : At da Hk' H' δ) (k : (da.more c' q G0).kn Hk2) (e : Ex Hk2 Hk') : At (da.more c' q G0) Hk' H' δ := ⟨a.ex, a.di, a.tb, (da.more c' q G0).km _ _ e k, a.nt⟩
theorem Fin.less {α : Type} {K : PySem.W.Frag} {cm : Nat → Addr} {r : R α} {k k' : α → Dice → Prop} {w : Value → Option Addr → Hp → Prop} (kn : (da.more c' q G0).kn Hk) (h : Fin K (da.more c' q G0) cm r Hk H k w) (hk : ∀ a δ', k a δ' → k' a δ') : Fin K da cm r Hk H k' w := by
  cases r with
  | ok a δ => exact hk _ _ h
  | exc c fs δ => exact fun dd Hk2 H2 s a x => h dd Hk2 H2 s.more (a.up kn s.kn) x
  | bad => exact h
/-- the code object is known from now on -/
theorem at_more (a : At da Hk H δ) (h : H c' = some (CodeO c' q)) : ∃ Hk1, At (da.more c' q Hk) Hk1 H δ ∧ Stp da Hk H Hk1 H := by
  have nm : ¬ Mu H c' := fun ⟨o, e, m⟩ => by
    rw [h] at e
    cases e
    unfold CodeO at m
    rcases m with ⟨xs, z⟩ | ⟨xs, z⟩ <;> cases z
  cases hk : Hk c' with
  | some u =>
    have e := a.ex _ _ hk
    rw [h] at e
    cases e
    exact ⟨Hk, ⟨a.ex, a.di, a.tb, ⟨a.kn, hk, Evl.Ex.refl _⟩, a.nt⟩, Stp.refl _ _ _⟩
  | none =>
    have ex : Ex Hk (upd Hk c' (CodeO c' q)) := Evl.Ex.new hk
    refine ⟨upd Hk c' (CodeO c' q), ⟨fun b o e => ?_, fun b e => ?_, a.tb, ⟨da.km _ _ ex a.kn, upd_same, ex⟩, fun b ps e => ?_⟩, ex, fun b hb n => ?_, fun b o e _ _ => e, fun b e => e, fun b e => e⟩
    · by_cases z : b = c'
      · subst z; rw [upd_same] at e; cases e; exact h
      · rw [upd_ne z] at e; exact a.ex b o e
    · obtain ⟨h1, h2⟩ := a.di b e
      have : b ≠ c' := fun z => nm ⟨_, by rw [← z]; exact h2, .lst _⟩
      exact ⟨by rw [upd_ne this]; exact h1, h2⟩
    · by_cases z : b = c'
      · subst z; rw [upd_same] at e; unfold CodeO at e; cases e
      · rw [upd_ne z] at e; exact a.nt b ps e
    · have : b ≠ c' := fun z => nm (by rw [← z]; exact hb)
      rw [upd_ne this]; exact n
end
section
variable {X : Cx} {da : Da} {cm : Nat → Addr}
theorem give_of {Ng : List Str} {x a q : Str} {sg : Scope} {g : Addr} {cdg : Value} {bg : List Stmt} {S : M D → M D} {G : Addr → M D → SEnv → M Fl} (hl : 1 ≤ Ng.length)
    (hS : ∀ (m : M D) (f : Addr), runS (G f m) (.dt (.ref f) :: List.replicate (Ng.length - 1) .no) = S m)
    (hb : ∀ (da' : Da), da'.tb = da.tb → ∀ (s : Shared) (H : Hp) (f : Addr) (m : M D),
      (∀ (W : WX) (pn : List (Addr × Obj)) (xe : Value → Shared → Prop) (p1 p2 : Pos), Takes ((gCx X Ng x sg g cdg s H).tr pn xe) W → PEv ((gCx X Ng x sg g cdg s H).tr pn xe) da' cm W (.Call (.Name a p1) [] [] p2) (actM f m)) →
      PBv (gCx X Ng x sg g cdg s H).nox da' cm EF bg (G f m)) : GiveM X Ng x sg g cdg bg a q (TTv X.K da cm S) := by
  intro f c' s H Q tl act hc ⟨Hk, δ, m, hA, impl, fin⟩
  obtain ⟨Hk1, a1, s1⟩ := at_more hA hc
  have hb' := hb (da.more c' q Hk) rfl s H f m fun W pn xe p1 p2 tk => PE.imp (act W pn xe p1 p2 tk) fun τ G Q' ⟨Hk2, env, δ2, hA2, hE2, q2⟩ => ?_
  · refine ⟨_, hb', Hk1, .dt (.ref f) :: List.replicate (Ng.length - 1) .no, δ, a1, ?_, ?_⟩
    · have z := start_env (da := da.more c' q Hk) (Hk := Hk1) (H := H) (N := Ng) (RpL.cons (K := X.K) (.ref f) .nil) (by simpa using hl)
      exact z
    · have z : Fin X.K da cm (S m δ) Hk1 H (fun d δ' => ∀ v Hk' H', Stp da Hk1 H Hk' H' → At da Hk' H' δ' → Rp X.K da.ad Hk' v d → Q v H') (fun _ _ _ => False) := fin.later s1 fun d δ' k v Hk' H' s => k v Hk' H' (s1.trans s)
      rw [← hS m f] at z
      unfold runS at z
      have z := z.bind
      cases e : G f m (.dt (.ref f) :: List.replicate (Ng.length - 1) .no) δ with
      | bad => rw [e] at z; exact z.elim
      | exc c fs δ' => rw [e] at z; exact fun dd Hk' H' s a x => z dd Hk' H' (s.stp fun p => start_own (ds := [.ref f])).less a.less x
      | ok r δ' =>
        rw [e] at z
        cases r with
        | nw ds => exact z.elim
        | ret d => exact fun v Hk' H' s a r => z v Hk' H' (s.stp fun p => start_own (ds := [.ref f])).less a.less r
        | next env => exact fun σ' Hk' H' s a _ _ => z _ Hk' H' (s.stp fun p => start_own (ds := [.ref f])).less a.less .non
        | brk env => exact z.elim
        | cont env => exact z.elim
  · have q2 : Fin X.K (da.more c' q Hk) cm (Dv.bind (Dv.lift (env[0]?).join) (fun d => isRef f d m) δ2) Hk2 G _ _ := q2
    cases h0 : (env[0]?).join with
    | none => rw [h0] at q2; exact q2.elim
    | some d =>
      rw [h0, lift_some, bind_ret] at q2
      have h1 : env[0]? = some (some d) := by
        cases z : env[0]? with
        | none => rw [z] at h0; cases h0
        | some o => rw [z] at h0; simp at h0; rw [h0]
      obtain ⟨v, hv, rv⟩ := hE2.2 0 d h1
      unfold isRef at q2
      cases d with
      | ref b =>
        by_cases hbf : b = f
        · subst hbf
          have q2 : Fin X.K (da.more c' q Hk) cm ((if b = b then m else bad : M D) δ2) Hk2 G _ _ := q2
          rw [ifp rfl] at q2
          cases rv
          exact ⟨hv, hA2.ex _ _ hA2.kn.2.1, impl Hk2 G δ2 _ _ hA2.kn.2.2 hA2.less (q2.less hA2.kn fun d δ' k v Hk' H' s a r => k v Hk' H' s.more (a.up hA2.kn s.kn) r)⟩
        · have q2 : Fin X.K (da.more c' q Hk) cm ((if b = f then m else bad : M D) δ2) Hk2 G _ _ := q2
          rw [ifn hbf] at q2
          exact q2.elim
      | _ => exact q2.elim
end
end Dv
set_option maxHeartbeats 4000000
namespace Dv
open PySem PySem.Spec PyProof.Rows L2

/-! ### great powers -/
def D.powB : D → D → Option D
  | .int i, .int j => if 2 ≤ i ∧ 1 ≤ j ∧ ((Builtin.Int.intBits i : Nat) : Int) * j ≤ 100000 then some (.int (i ^ j.toNat)) else none
  | _, _ => none
section
variable {X : Cx} {da : Da}
theorem op_powB : OpR X (binaryOp .Pow) (fun x y H Q => ∃ i j, x = .int i ∧ y = .int j ∧ 2 ≤ i ∧ 1 ≤ j ∧ ((Builtin.Int.intBits i : Nat) : Int) * j ≤ 100000 ∧ Q (.int (i ^ j.toNat)) H) := by
  intro pins s σ H x y v u Q I rx ry h
  obtain ⟨i, j, rfl, rfl, h1, h2, h3, q⟩ := h
  obtain ⟨t, rfl⟩ := rx
  obtain ⟨t', rfl⟩ := ry
  have a1 : ¬ i = 0 := by omega
  have a2 : ¬ i = 1 := by omega
  have a3 : ¬ i = -1 := by omega
  have a4 : ¬ j = 0 := by omega
  refine PySem.AutoIntOps.pow_4 (by omega) (by simp [a4]) (by simp [a1, a2]) (by simp [a3]) ?_ ⟨.int _, H, I.tok _, ⟨_, rfl⟩, q⟩
  unfold Builtin.Int.intTooBig
  have : (100000 : Int) ≤ PySem.bitsLine := by decide
  simp only [decide_eq_true_eq, gt_iff_lt]
  omega
theorem od_powB : OpD X da (binaryOp .Pow) D.powB := ⟨_, op_powB, by
  intro Hk H x y d e z Q ex rx ry hz g
  unfold D.powB at hz
  split at hz
  · cases rx; cases ry
    obtain ⟨⟨h1, h2, h3⟩, rfl⟩ := ite_some hz
    exact ⟨_, _, rfl, rfl, h1, h2, h3, g.same ex (.int _)⟩
  · cases hz⟩
/-! ### ints -/
def D.neg : D → Option D
  | .int i => some (.int (-i))
  | _ => none
def D.abs : List D → Option D
  | [.int i] => some (.int (if i < 0 then -i else i))
  | _ => none
theorem cd_abs : CalD X da (.builtin "abs") D.abs := ⟨_, call_abs, by
  intro Hk H xs ds z Q ex r hz g
  unfold D.abs at hz
  split at hz
  · obtain ⟨v, rfl, rv⟩ := r.one
    cases rv; cases hz
    exact ⟨_, rfl, g.same ex (.int _)⟩
  · cases hz⟩
def D.toInt : List D → Option D
  | [.int i] => some (.int i)
  | [.bl b] => some (.int (if b then 1 else 0))
  | _ => none
theorem cd_int : CalD X da (.type "int") D.toInt := ⟨_, call_int1, by
  intro Hk H xs ds z Q ex r hz g
  unfold D.toInt at hz
  split at hz
  · obtain ⟨v, rfl, rv⟩ := r.one
    cases rv; cases hz
    exact .inl ⟨_, rfl, g.same ex (.int _)⟩
  · obtain ⟨v, rfl, rv⟩ := r.one
    cases rv; cases hz
    exact .inr ⟨_, rfl, g.same ex (.int _)⟩
  · cases hz⟩
def D.toBool : List D → Option D
  | [.int i] => some (.bl (i != 0))
  | [.bl b] => some (.bl b)
  | _ => none
theorem cd_bool : CalD X da (.type "bool") D.toBool := ⟨_, call_bool1, by
  intro Hk H xs ds z Q ex r hz g
  unfold D.toBool at hz
  split at hz
  · obtain ⟨v, rfl, rv⟩ := r.one
    cases rv; cases hz
    exact .inl ⟨_, rfl, g.same ex (.bl _)⟩
  · obtain ⟨v, rfl, rv⟩ := r.one
    cases rv; cases hz
    exact .inr ⟨_, rfl, g.same ex (.bl _)⟩
  · cases hz⟩
def D.max2 : List D → Option D
  | [.int i, .int j] => some (.int (if j > i then j else i))
  | _ => none
theorem cd_max2 (hc : X.calm = true) : CalD X da (.builtin "max") D.max2 := ⟨_, call_max2 hc, by
  intro Hk H xs ds z Q ex r hz g
  unfold D.max2 at hz
  split at hz
  · obtain ⟨v, u, rfl, rv, ru⟩ := r.two
    cases rv; cases ru; cases hz
    exact ⟨_, _, rfl, g.same ex (.int _)⟩
  · cases hz⟩
def D.min2 : List D → Option D
  | [.int i, .int j] => some (.int (if j < i then j else i))
  | _ => none
theorem cd_min2 (hc : X.calm = true) : CalD X da (.builtin "min") D.min2 := ⟨_, call_min2 hc, by
  intro Hk H xs ds z Q ex r hz g
  unfold D.min2 at hz
  split at hz
  · obtain ⟨v, u, rfl, rv, ru⟩ := r.two
    cases rv; cases ru; cases hz
    exact ⟨_, _, rfl, g.same ex (.int _)⟩
  · cases hz⟩
end
section
variable {X : Cx} {da : Da} {cm : Nat → Addr} {W : WX} {E : XK} {pos : Pos} {a b e : Expr} {fa fb fe : Env → M D} {x : Str}
def un1M (g : D → Option D) (fa : Env → M D) : Env → M D := fun env => bind (fa env) fun x => lift (g x)
theorem ev_neg (ha : PEv X da cm W a fa) : PEv X da cm W (.UnaryOp .USub a pos) (un1M D.neg fa) := PE.imp (pe_un un_neg ha) fun σ H Q ⟨Hk, env, δ, hA, hE, q⟩ => by
  refine tEv.seq hA hE q fun x d δ1 Hk1 H1 s1 a1 e1 r1 q1 => ?_
  obtain ⟨z, hz, gz⟩ := Fin.lift a1 s1 q1
  cases d with
  | int i => cases r1; cases hz; exact ⟨_, rfl, gz.same a1.ex (.int _)⟩
  | _ => cases hz
/-- a module's constant -/
theorem ev_gc {u : Value} {v : V} {d : D} (hg : Gl X x) (hm : X.mg x = some u) (r : RelV v u) (rp : ∀ Hk, Rp X.K da.ad Hk v d) (hd : (x == ("__debug__" : Str)) = false := by decide) : PEv X da cm W (.Name x pos) (kc d) := ev_c (pe_glob hg hm r hd) rp
/-- a built-in class by its name -/
theorem ev_bty {T : String} (hg : Gl X x) (hm : X.mg x = none) (hv : bootBuiltins x = some (.type T)) (hn : x ≠ "__name__" := by decide) (hd : (x == ("__debug__" : Str)) = false := by decide) : PEv X da cm W (.Name x pos) (kc (.ty T)) := ev_c (pe_bltn (v := .ty T) hg hm hv rfl hn hd) fun _ => .ty T
/-! ### a, b = .. -/
def asgT (t : Tg) (f : Env → M D) : SEnv → M Fl := fun env => bind (f (vw env)) fun d => bind (lift (t.l d)) fun m => ret (.next (putS env m))
theorem ss_asgT {tg : Expr} {t : Tg} (he : PEv X da cm (WE0 E) e fe) (hg : PG X tg (t.g X.K)) (hs : swapsWithSole [tg] e pos.line X.env = pure false := by rfl) (hw : swappedStores [tg] e X.env = pure none := by rfl)
    (h1 : (assignEach [tg] X.env).map (·.2) = [assign tg X.env] := by rfl) : PSv X da cm E (.Assign [tg] e pos) (asgT t fe) := PS.imp (ps_asg he hg hs hw h1) fun D σ H ⟨Hk, env, δ, hA, hE, q⟩ => by
  refine tEv.st hA hE q fun v d δ1 Hk1 H1 s1 a1 e1 r1 q1 => ?_
  cases hm : t.l d with
  | none => rw [hm] at q1; exact q1.elim
  | some m =>
    rw [hm, lift_some, bind_ret] at q1
    exact Tg.ok a1.ex t d m v σ _ hm r1 fun l hl => q1 _ Hk1 H1 (StpS.refl _ _ _ _) a1 (e1.put hl) fun p hp => .inl (Own.of_put hl.1 hp)
/-! ### the dice -/
def Dice.at (δ : Dice) : Nat → Int
  | 0 => δ.1
  | 1 => δ.2.1
  | _ => δ.2.2
def dixM (k : Nat) (fa : Env → M D) : Env → M D := fun env => bind (fa env) fun x => match x with
  | .dice => fun δ => .ok (.int (δ.at k)) δ
  | _ => bad
theorem ev_dix {j : Nat} {p : Pos} (k : Nat) (hk : k < 3) (ha : PEv X da cm W a fa) (hs : PlainIx (.Constant (.int (k : Int)) j p)) : PEv X da cm W (.Subscript a (.Constant (.int (k : Int)) j p) pos) (dixM k fa) := PE.imp (pe_ix (X := X) ix_list ha pe_int hs) fun σ H Q ⟨Hk, env, δ, hA, hE, q⟩ => by
  refine tEv.seq hA hE q fun x d δ1 Hk1 H1 s1 a1 e1 r1 q1 => ?_
  cases d with
  | dice =>
    cases r1 with
    | dice h =>
      have q1 : ∀ v Hk' H', _ → _ → _ → Q v H' := q1
      have hl := (a1.di _ h).2
      refine ⟨_, _, _, .int (δ1.at k), rfl, rfl, SqL.of hl, ?_, q1 _ Hk1 H1 s1 a1 (.int _)⟩
      have : k = 0 ∨ k = 1 ∨ k = 2 := by omega
      rcases this with rfl | rfl | rfl <;> rfl
  | _ => exact q1.elim
def Dice.set (δ : Dice) (k : Nat) (i : Int) : Dice := match k with
  | 0 => (i, δ.2.1, δ.2.2)
  | 1 => (δ.1, i, δ.2.2)
  | _ => (δ.1, δ.2.1, i)
def diceS (k : Nat) (fa fe : Env → M D) : SEnv → M Fl := fun env => bind (fe (vw env)) fun v => bind (fa (vw env)) fun x => match x, v with
  | .dice, .int i => fun δ => .ok (.next env) (δ.set k i)
  | _, _ => bad
theorem ss_dice {j : Nat} {p p2 : Pos} (k : Nat) (hk : k < 3) (he : PEv X da cm (WE0 E) e fe) (ha : PEv X da cm (WE0 E) a fa) (hset : ∀ v, assign (.Subscript a (.Constant (.int (k : Int)) j p) p2) X.env v = (do
      let ov ← holding [v] (eval a X.env)
      let iv ← holding [v, ov] (eval (.Constant (.int (k : Int)) j p) X.env)
      standAt p2
      holding [v, ov, iv] (setItem ov iv v)
      release [v, ov, iv] []) := by intro _; rfl)
    (hs : swapsWithSole [.Subscript a (.Constant (.int (k : Int)) j p) p2] e pos.line X.env = pure false := by rfl) (hw : swappedStores [.Subscript a (.Constant (.int (k : Int)) j p) p2] e X.env = pure none := by rfl)
    (h1 : (assignEach [.Subscript a (.Constant (.int (k : Int)) j p) p2] X.env).map (·.2) = [assign (.Subscript a (.Constant (.int (k : Int)) j p) p2) X.env] := by rfl) : PSv X da cm E (.Assign [.Subscript a (.Constant (.int (k : Int)) j p) p2] e pos) (diceS k fa fe) :=
  PS.imp (ps_asg he (pg_sub ha pe_int set_list hset) hs hw h1) fun D σ H ⟨Hk, env, δ, hA, hE, q⟩ => by
    refine tEv.st hA hE q fun v d δ1 Hk1 H1 s1 a1 e1 r1 q1 => ?_
    refine tEv.st a1 e1 q1 fun x y δ2 Hk2 H2 s2 a2 e2 r2 q2 => ?_
    cases y with
    | dice =>
      cases d with
      | int i =>
        cases r1
        cases r2 with
        | dice h =>
          rename_i ad
          obtain ⟨d1, d2⟩ := a2.di _ h
          have q2 : Nx X.K da Hk2 H2 σ env env (δ2.set k i) D.nx := q2
          have keep : ∀ b o, b ≠ ad → H2 b = some o → upd H2 ad (.lst ([V.int δ2.1, .int δ2.2.1, .int δ2.2.2].set k (.int i))) b = some o := fun b o n e => by rw [upd_ne n]; exact e
          have ke : ∀ b o, Hk2 b = some o → upd H2 ad (.lst ([V.int δ2.1, .int δ2.2.1, .int δ2.2.2].set k (.int i))) b = some o := fun b o e => keep b o (fun z => by rw [z, d1] at e; cases e) (a2.ex b o e)
          refine ⟨ad, _, (k : Int), k, rfl, rfl, d2, ?_, ?_⟩
          · have : k = 0 ∨ k = 1 ∨ k = 2 := by omega
            rcases this with rfl | rfl | rfl <;> rfl
          · refine q2 σ Hk2 _ ⟨Evl.Ex.refl _, fun _ _ _ n => n, fun b o e n _ _ => keep b o (fun z => n (by rw [z]; exact h)) e, fun b hb => ?_, fun b hb => ?_⟩ ⟨ke, fun b e => ?_, tabs_mut a2.tb d2 (.lst _), a2.kn, a2.nt⟩ ⟨e2.len, e2.dat, fun i' s' e' o' => ?_, e2.apart⟩ fun p => own_le
            · obtain ⟨o, e, n⟩ := hb
              by_cases z : b = ad
              · subst z; exact ⟨_, upd_same, fun _ z => nomatch z⟩
              · exact ⟨o, keep b o z e, n⟩
            · obtain ⟨o, e, n⟩ := hb
              by_cases z : b = ad
              · subst z; exact ⟨_, upd_same, .lst _⟩
              · exact ⟨o, keep b o z e, n⟩
            · rw [h] at e
              cases e
              refine ⟨d1, ?_⟩
              rw [upd_same]
              have : k = 0 ∨ k = 1 ∨ k = 2 := by omega
              rcases this with rfl | rfl | rfl <;> rfl
            · obtain ⟨p, z1, z2, z3, z4⟩ := e2.own i' s' e' o'
              have np : p ≠ ad := fun z => z3 (by rw [z]; exact h)
              refine ⟨p, z1, z2, z3, ?_⟩
              cases s' with
              | ow ds => obtain ⟨vs, q, r⟩ := z4; exact ⟨vs, keep p _ np q, r⟩
              | od ds => obtain ⟨vs, q, r⟩ := z4; exact ⟨vs, keep p _ np q, r⟩
              | no => exact z4
              | dt d => exact z4
      | _ => exact q2.elim
    | _ => exact q2.elim
end
end Dv
set_option maxHeartbeats 4000000
namespace Dv
open PySem PySem.Spec PyProof.Rows L2
section
variable {X : Cx} {da : Da} {cm : Nat → Addr} {W : WX} {E : XK} {pos p p2 : Pos} {e : Expr} {es : List Expr} {x y : Str} {tb : List (Addr × Str)} {fs : Env → M (List D)}
def retW (f : Env → M (List D)) : SEnv → M Fl := fun env => bind (f (vw env)) fun ds => ret (.nw ds)
theorem ss_retW {f : Env → M (List D)} (he : PNv X da cm (WE0 E) e f) : PSv X da cm E (.Return (some e) pos) (retW f) := PS.imp (ps_ret he) fun D σ H ⟨Hk, env, δ, hA, hE, q⟩ =>
  ⟨Hk, vw env, δ, hA, hE.vw, q.seq.mono fun ds δ' q2 p vs Hk' H' s a k n e r => q2 p vs Hk' H' s.s a k n e r⟩
def fcN (n : Nat) (T : List D → M (List D)) (fs : Env → M (List D)) : Env → M (List D) := fun env => bind (fs env) fun ds => if ds.length = n then T ds else bad
theorem nw_call {T : List D → M (List D)} {n k : Nat} {f : Addr} {fd : FuncData} {ps : List Str} (hT : da.tb = tb) (F : FnG X.prog X.w X.K X.mg X.base k f fd ps (spN X.K cm tb n T)) (hr : RoomG k X.A) (hg : Gl X x) (hm : X.mg x = some (.ref f)) (hk : PySem.W.keepIn X.K (.ref f) = true) (hb : Binds X.K fd ps []) (tk : Takes X W)
    (ha : PAv X da cm W (e :: es) fs) (hdb : (x == ("__debug__" : Str)) = false := by decide) (he : starEach (e :: es) X.env = (false, eval e X.env) :: starEach es X.env := by rfl) (hpl : (backTo pos (starEach es X.env)).any (·.1) = false := by rfl) :
    PNv X da cm W (.Call (.Name x p) (e :: es) [] pos) (fcN n T fs) := PE.imp (pe_callG F hr hg hm hk hb tk ha hdb he hpl) fun σ H Q ⟨Hk, env, δ, hA, hE, q⟩ => by
  refine tAv.seq hA hE q fun xs ds δ1 Hk1 H1 s1 a1 e1 r1 q1 => ?_
  by_cases hl : ds.length = n
  · rw [ifp hl] at q1
    exact ⟨r1.length.trans hl, da, Hk1, δ1, ds, hT, a1, r1, q1.mono fun l δ2 k p vs Hk' H' s a kp np => k p vs Hk' H' (s1.trans s) a kp fun z => np (s1.th p z)⟩
  · rw [ifn hl] at q1
    exact q1.elim
/-! ### x(y(..)): what y hands back are the dice of x -/
def three : List D → Option (Int × Int × Int)
  | [.int a, .int b, .int c] => some (a, b, c)
  | _ => none
theorem three_some {l : List D} {t : Int × Int × Int} (h : three l = some t) : ∃ a b c, l = [.int a, .int b, .int c] ∧ t = (a, b, c) := by
  unfold three at h
  split at h
  · cases h; exact ⟨_, _, _, rfl, rfl⟩
  · cases h
def diceR (TR : List D → M D) (t : Int × Int × Int) : M D := fun δ => match TR [.dice] t with
    | .ok d _ => if d.scal then .ok d δ else .bad
    | _ => .bad
def diceM (TR : List D → M D) (l : List D) : M D := match three l with
  | some t => diceR TR t
  | none => bad
def rdM (n : Nat) (TD : List D → M (List D)) (TR : List D → M D) (fs : Env → M (List D)) : Env → M D := fun env => bind (fs env) fun ds => if ds.length = n then bind (TD ds) (diceM TR) else bad
theorem ev_rd {p3 : Pos} {TD : List D → M (List D)} {TR : List D → M D} {n kN kR : Nat} {fN fR : Addr} {dN dR : FuncData} {pN : List Str} {aR : Str} (h0 : da.ad = none) (hT : da.tb = tb)
    (FN : FnG X.prog X.w X.K X.mg X.base kN fN dN pN (spN X.K cm tb n TD)) (FR : FnG X.prog X.w X.K X.mg X.base kR fR dR [aR] (spM X.K cm tb 1 TR)) (rN : RoomG kN X.A) (rR : RoomG kR X.A)
    (gy : Gl X y) (my : X.mg y = some (.ref fN)) (ky : PySem.W.keepIn X.K (.ref fN) = true) (by_ : Binds X.K dN pN []) (gx : Gl X x) (mx : X.mg x = some (.ref fR)) (kx : PySem.W.keepIn X.K (.ref fR) = true) (bx : Binds X.K dR [aR] []) (tk : Takes X W)
    (ha : PAv X da cm W (e :: es) fs) (hdx : (x == ("__debug__" : Str)) = false := by decide) (hdy : (y == ("__debug__" : Str)) = false := by decide)
    (he : starEach (e :: es) X.env = (false, eval e X.env) :: starEach es X.env := by rfl) (hpl : (backTo p2 (starEach es X.env)).any (·.1) = false := by rfl)
    (he2 : starEach [.Call (.Name y p) (e :: es) [] p2] X.env = (false, eval (.Call (.Name y p) (e :: es) [] p2) X.env) :: starEach [] X.env := by rfl) (hpl2 : (backTo pos (starEach [] X.env)).any (·.1) = false := by rfl) :
    PEv X da cm W (.Call (.Name x p3) [.Call (.Name y p) (e :: es) [] p2] [] pos) (rdM n TD TR fs) :=
  PE.imp (pe_callG FR rR gx mx kx bx tk (pa_cons (pe_callG FN rN gy my ky by_ tk ha hdy he hpl) pa_nil he2) hdx he2 hpl2) fun σ H Q ⟨Hk, env, δ, hA, hE, q⟩ => by
    refine tAv.seq hA hE q fun xs ds δ1 Hk1 H1 s1 a1 e1 r1 q1 => ?_
    by_cases hl : ds.length = n
    · rw [ifp hl] at q1
      refine ⟨r1.length.trans hl, da, Hk1, δ1, ds, hT, a1, r1, q1.bind.mono fun l δ2 q2 pa ws Hk2 H2 s2 a2 kp np hp rw_ => ?_⟩
      unfold diceM at q2
      cases h3 : three l with
      | none => rw [h3] at q2; exact q2.elim
      | some t =>
        rw [h3] at q2
        obtain ⟨a, b, c, rfl, rfl⟩ := three_some h3
        obtain ⟨v1, v2, v3, rfl, z1, z2, z3⟩ : ∃ v1 v2 v3, ws = [v1, v2, v3] ∧ Rp X.K da.ad Hk2 v1 (.int a) ∧ Rp X.K da.ad Hk2 v2 (.int b) ∧ Rp X.K da.ad Hk2 v3 (.int c) := by
          cases rw_ with
          | cons r1 t =>
            cases t with
            | cons r2 t =>
              cases t with
              | cons r3 t =>
                cases t
                exact ⟨_, _, _, rfl, r1, r2, r3⟩
        cases z1; cases z2; cases z3
        have a3 : At ⟨some pa, da.tb, da.kn, da.km⟩ Hk2 H2 (a, b, c) := ⟨a2.ex, fun w e => by cases e; exact ⟨kp, hp⟩, a2.tb, a2.kn, a2.nt⟩
        refine ⟨rfl, ⟨some pa, da.tb, da.kn, da.km⟩, Hk2, (a, b, c), [.dice], hT, a3, .cons (.dice rfl) .nil, ?_⟩
        have q2 : Fin X.K da cm (match TR [.dice] (a, b, c) with
          | .ok d _ => if d.scal then .ok d δ2 else .bad
          | _ => .bad) Hk1 H1 _ _ := q2
        cases hr : TR [.dice] (a, b, c) with
        | bad => rw [hr] at q2; exact q2.elim
        | exc _ _ _ => rw [hr] at q2; exact q2.elim
        | ok d δ3 =>
          rw [hr] at q2
          have q2 : Fin X.K da cm (if d.scal then .ok d δ2 else .bad) Hk1 H1 _ _ := q2
          cases hd : d.scal with
          | false => rw [hd] at q2; exact q2.elim
          | true =>
            rw [hd] at q2
            intro v Hk4 H4 s4 a4 r4
            have q2 : ∀ v Hk' H', Stp da Hk H Hk' H' → At da Hk' H' δ2 → Rp X.K da.ad Hk' v d → Q v H' := q2
            have s02 := s1.trans s2
            refine q2 v Hk4 H4 ⟨s02.kn.trans s4.kn, fun w hw n => s4.fr w (s02.tm w hw) (s02.fr w hw n), fun w o hw n t => s4.ke w o (s02.ke w o hw n t) (fun z => ?_) t, fun w hw => s4.th w (s02.th w hw), fun w hw => s4.tm w (s02.tm w hw)⟩ ⟨a4.ex, fun w z => (by rw [h0] at z; cases z), a4.tb, a4.kn, a4.nt⟩ (by cases r4 <;> first | exact .non | exact .bl _ | exact .int _ | exact .str _ | cases hd)
            cases z
            exact np (s1.th pa ⟨o, hw, t⟩)
    · rw [ifn hl] at q1
      exact q1.elim
end
end Dv
set_option maxHeartbeats 4000000
namespace Dv
open PySem PySem.Spec PyProof.Rows L2
/-! ### {k: v, ..} -/
abbrev Pm := List ((Env → M D) × (Env → M D))
def pairsM : Pm → Env → M (List (D × D))
  | [], _ => ret []
  | (f, g) :: r, env => bind (f env) fun x => bind (g env) fun y => bind (pairsM r env) fun l => ret ((x, y) :: l)
def RpD (K : PySem.W.Frag) (ad : Option Addr) (H : Hp) (l : List (V × V)) (m : List (D × D)) : Prop := RpL K ad H (l.map (·.1)) (m.map (·.1)) ∧ RpL K ad H (l.map (·.2)) (m.map (·.2))
section
variable {K : PySem.W.Frag} {da : Da} {cm : Nat → Addr} {W : WX}
theorem tPairs.seq {σ : L2.St} : ∀ {kvs : Pm} {H Hk : Hp} {env : Env} {δ : Dice} {β : Type} {g : List (D × D) → M β} {k : β → Dice → Prop} (hA : At da Hk H δ) (hE : EnvR K da Hk σ env)
    (h : Fin K da cm (Dv.bind (pairsM kvs env) g δ) Hk H k (fun c dd H' => W c dd σ H')) {Q : List (V × V) → Hp → Prop}
    (hq : ∀ vs ds δ' Hk' H', Stp da Hk H Hk' H' → At da Hk' H' δ' → EnvR K da Hk' σ env → RpD K da.ad Hk' vs ds → Fin K da cm (g ds δ') Hk' H' k (fun c dd H' => W c dd σ H') → Q vs H'),
    tPairs (kvs.map fun p => (tEv K da cm W p.1, tEv K da cm W p.2)) σ H Q
  | [], H, Hk, env, δ, β, g, k, hA, hE, h, Q, hq => hq [] [] δ Hk H (Stp.refl _ _ _) hA hE ⟨.nil, .nil⟩ h
  | (f, f') :: r, H, Hk, env, δ, β, g, k, hA, hE, h, Q, hq => by
    unfold pairsM at h
    rw [bind_bind] at h
    refine tEv.seq hA hE h fun x d δ1 Hk1 H1 s1 a1 e1 r1 q1 => ?_
    rw [bind_bind] at q1
    refine tEv.seq a1 e1 q1 fun y d' δ2 Hk2 H2 s2 a2 e2 r2 q2 => ?_
    rw [bind_bind] at q2
    exact tPairs.seq (kvs := r) a2 e2 q2 fun vs ds δ3 Hk3 H3 s3 a3 e3 r3 q3 => hq ((x, y) :: vs) ((d, d') :: ds) δ3 Hk3 H3 ((s1.trans s2).trans s3) a3 e3 ⟨.cons ((r1.mono s2.kn).mono s3.kn) r3.1, .cons (r2.mono s3.kn) r3.2⟩ q3
end
inductive PPv (X : Cx) (da : Da) (cm : Nat → Addr) (W : WX) (pos : Pos) : List (Option Expr) → List Expr → Pm → Prop
  | nil : PPv X da cm W pos [] [] []
  | cons {k v : Expr} {ks : List (Option Expr)} {vs : List Expr} {f g : Env → M D} {r : Pm} (hk : PEv X da cm W k f) (hv : PEv X da cm W v g) (t : PPv X da cm W pos ks vs r) : PPv X da cm W pos (some k :: ks) (v :: vs) ((f, g) :: r)
def D.key? : D → Option Key
  | .int i => some (.inl i)
  | .str x => some (.inr x)
  | _ => none
def keysD : List (D × D) → Option (List Key)
  | [] => some []
  | (d, _) :: r => match d.key? with
    | some k => match keysD r with
      | some ks => some (k :: ks)
      | none => none
    | none => none
def noDup : List Key → Bool
  | [] => true
  | k :: r => !(r.any fun k' => decide (k' = k)) && noDup r
/-- different keys, at least one -/
def D.disp (l : List (D × D)) : Option D := match keysD l with
  | some ks => if noDup ks && decide (l.length ≤ 15) then some (.dic l) else none
  | none => none
def dspD (kvs : Pm) : Env → M D := fun env => bind (pairsM kvs env) fun l => lift (D.disp l)
theorem keys_kvs {K : PySem.W.Frag} {ad : Option Addr} {H : Hp} : ∀ {vs : List (V × V)} {ds : List (D × D)} {ks : List Key}, RpD K ad H vs ds → keysD ds = some ks → ∃ kvs : List (Key × V), vs = kvs.map (fun kv => (kV kv.1, kv.2)) ∧ kvs.map (·.1) = ks ∧ RpK K ad H kvs ds
  | [], [], ks, _, h => by
    simp only [keysD, Option.some.injEq] at h
    subst h
    exact ⟨[], rfl, rfl, .nil⟩
  | [], _ :: _, _, r, _ => by cases r.1
  | _ :: _, [], _, r, _ => by cases r.1
  | (x, y) :: vs, (d, d') :: ds, ks, r, h => by
    obtain ⟨r1, r2⟩ := r
    simp only [List.map_cons] at r1 r2
    unfold keysD at h
    split at h
    · rename_i k hk
      split at h
      · rename_i ks' hks
        cases h
        cases r1 with
        | cons a1 b1 =>
          cases r2 with
          | cons a2 b2 =>
            obtain ⟨kvs, h1, h2, h3⟩ := keys_kvs ⟨b1, b2⟩ hks
            have : x = kV k ∧ d = dK k := by
              unfold D.key? at hk
              split at hk
              · cases hk; cases a1; exact ⟨rfl, rfl⟩
              · cases hk; cases a1; exact ⟨rfl, rfl⟩
              · cases hk
            obtain ⟨rfl, rfl⟩ := this
            exact ⟨(k, y) :: kvs, by rw [h1]; rfl, by rw [List.map_cons, h2], .cons a2 h3⟩
      · cases h
    · cases h
theorem put_new {k : Key} {v : V} {acc : List (Key × V)} (h : k ∉ acc.map (·.1)) : putK acc k v = acc ++ [(k, v)] := by
  unfold putK
  rw [if_neg]
  intro z
  obtain ⟨kv, h1, h2⟩ := List.any_eq_true.mp z
  exact h (List.mem_map.mpr ⟨kv, h1, of_decide_eq_true h2⟩)
theorem merge_new : ∀ (kvs acc : List (Key × V)), noDup (kvs.map (·.1)) = true → (∀ k ∈ kvs.map (·.1), k ∉ acc.map (·.1)) → mergeK acc kvs = acc ++ kvs
  | [], acc, _, _ => by unfold mergeK; simp
  | (k, v) :: kvs, acc, h, ha => by
    simp only [List.map_cons, noDup, Bool.and_eq_true, Bool.not_eq_true'] at h
    have hn : k ∉ kvs.map (·.1) := fun z => by
      have := List.any_eq_false.mp h.1 k z
      simp at this
    have e : mergeK acc ((k, v) :: kvs) = mergeK (putK acc k v) kvs := rfl
    rw [e, put_new (ha k (by simp)), merge_new kvs _ h.2 fun k' hk' => ?_]
    · simp
    · rw [List.map_append]
      intro z
      rcases List.mem_append.mp z with z | z
      · exact ha k' (by simp [hk']) z
      · have : k' = k := by simpa using z
        rw [this] at hk'
        exact hn hk'
section
variable {X : Cx} {da : Da} {cm : Nat → Addr} {W : WX} {pos : Pos} {keys : List (Option Expr)} {values : List Expr} {kvs : Pm}
theorem PPv.pps (h : PPv X da cm W pos keys values kvs) : PPs X pos keys values (kvs.map fun p => (tEv X.K da cm W p.1, tEv X.K da cm W p.2)) := by
  induction h with
  | nil => exact pps_nil
  | cons hk hv t ih => exact pps_cons hk hv ih
theorem ev_disp (h : PPv X da cm W pos keys values kvs) (hall : keys.all (·.isSome) = true := by rfl) (hl : keys.length = values.length := by rfl) (h0 : keys ≠ [] := by intro z; cases z) (h15 : keys.length ≤ 15 := by decide) : PEv X da cm W (.Dict keys values pos) (dspD kvs) :=
  PE.imp (pe_disp h.pps hall hl h0 h15) fun σ H Q ⟨Hk, env, δ, hA, hE, q⟩ p hp => by
    have kp : Hk p = none := by
      cases z : Hk p with
      | none => rfl
      | some u => rw [hA.ex _ _ z] at hp; cases hp
    have np : ∀ {b : Addr}, H b ≠ none → b ≠ p := fun h z => h (by rw [z]; exact hp)
    have dp : da.ad ≠ some p := fun z => by rw [(hA.di _ z).2] at hp; cases hp
    have keep : ∀ b o, H b = some o → upd H p (.dK []) b = some o := fun b o e => by rw [upd_ne (np (by rw [e]; exact fun z => nomatch z))]; exact e
    have s0 : Stp da Hk H Hk (upd H p (.dK [])) := ⟨Evl.Ex.refl _, fun _ _ n => n, fun b o e _ _ => keep b o e, fun b ⟨o, e, n⟩ => ⟨o, keep b o e, n⟩, fun b ⟨o, e, n⟩ => ⟨o, keep b o e, n⟩⟩
    have a0 : At da Hk (upd H p (.dK [])) δ := ⟨fun b o e => keep b o (hA.ex b o e), fun b e => ⟨(hA.di b e).1, keep b _ (hA.di b e).2⟩, hA.tb.ext keep, hA.kn, hA.nt⟩
    have q0 : Fin X.K da cm (Dv.bind (pairsM kvs env) (fun l => Dv.lift (D.disp l)) δ) Hk (upd H p (.dK [])) (fun d δ' => ∀ v Hk' H', Stp da Hk H Hk' H' → At da Hk' H' δ' → Rp X.K da.ad Hk' v d → Q v H') _ := Fin.later q s0 fun _ _ z => z
    refine tPairs.seq a0 hE q0 fun vs ds δ1 Hk1 H1 s1 a1 e1 r1 q1 => ?_
    have hp1 : H1 p = some (.dK []) := s1.ke p _ upd_same dp fun _ z => nomatch z
    refine ⟨hp1, ?_⟩
    unfold D.disp at q1
    cases hk : keysD ds with
    | none => rw [hk] at q1; exact q1.elim
    | some ks =>
      rw [hk] at q1
      obtain ⟨kv, rfl, h2, h3⟩ := keys_kvs r1 hk
      by_cases hc : (noDup ks && decide (ds.length ≤ 15)) = true
      · have q1 : Fin X.K da cm (Dv.lift (if (noDup ks && decide (ds.length ≤ 15)) = true then some (D.dic ds) else none) δ1) Hk1 H1 _ _ := q1
        rw [if_pos hc] at q1
        obtain ⟨c1, c2⟩ := Bool.and_eq_true_iff.mp hc
        have len : kv.length = ds.length := by
          have := r1.1.length
          simpa using this
        refine ⟨kv, rfl, by rw [len]; exact of_decide_eq_true c2, ?_⟩
        have mg : mergeK [] kv = kv := by
          have z := merge_new kv [] (by rw [h2]; exact c1) fun _ _ z => by cases z
          rw [List.nil_append] at z
          exact z
        rw [mg]
        have k1 : Hk1 p = none := s1.fr p ⟨_, upd_same, .dK _⟩ kp
        have e2 : Ex Hk1 (upd Hk1 p (.dK kv)) := Evl.Ex.new k1
        have s01 := s0.trans s1
        have up : ∀ b o, H b = some o → b ≠ p := fun b o e => np (by rw [e]; exact fun z => nomatch z)
        refine q1 _ (upd Hk1 p (.dK kv)) _ ⟨s01.kn.trans e2, fun b ⟨o, e, m⟩ n => by rw [upd_ne (up b o e)]; exact s01.fr b ⟨o, e, m⟩ n, fun b o e d n => by rw [upd_ne (up b o e)]; exact s01.ke b o e d n, fun b ⟨o, e, n⟩ => ?_, fun b ⟨o, e, n⟩ => ?_⟩ ⟨fun b o e => ?_, fun b e => ?_, tabs_mut a1.tb hp1 (.dK _), da.km _ _ e2 a1.kn, fun b ps e => ?_⟩ (.dic (.inl upd_same) (h3.mono e2))
        · obtain ⟨o', e', n'⟩ := s01.th b ⟨o, e, n⟩
          exact ⟨o', by rw [upd_ne (up b o e)]; exact e', n'⟩
        · obtain ⟨o', e', n'⟩ := s01.tm b ⟨o, e, n⟩
          exact ⟨o', by rw [upd_ne (up b o e)]; exact e', n'⟩
        · by_cases z : b = p
          · subst z; rw [upd_same] at e ⊢; exact e
          · rw [upd_ne z] at e ⊢; exact a1.ex b o e
        · have : b ≠ p := fun z => dp (by rw [e, z])
          rw [upd_ne this, upd_ne this]
          exact a1.di b e
        · by_cases z : b = p
          · subst z; rw [upd_same] at e; cases e
          · rw [upd_ne z] at e; exact a1.nt b ps e
      · have q1 : Fin X.K da cm (Dv.lift (if (noDup ks && decide (ds.length ≤ 15)) = true then some (D.dic ds) else none) δ1) Hk1 H1 _ _ := q1
        rw [if_neg hc] at q1
        exact q1.elim
theorem ev_dnew : PEv X da cm W (.Dict [] [] pos) (kc (.dic [])) := PE.imp pe_dnewK fun σ H Q ⟨Hk, env, δ, hA, hE, q⟩ p hp => by
  have st := Stq.new (o := .dK []) hA.ex hp
  exact q _ _ _ st.stp (st.at_ hA) (.dic (.inl upd_same) .nil)
end
end Dv
set_option maxHeartbeats 4000000
namespace Dv
open PySem PySem.Spec PyProof.Rows L2
theorem RoomG.hu {k : Nat} {A : Around} (h : RoomG k A) : A.units + 200 < cLine := by
  have := h.room.un
  omega
/-- what the written part says of a def -/
structure Fn1 (K : PySem.W.Frag) (mg : Str → Option Value) (x : Str) (st : Stmt) (ps : List Str) (f : Addr) (fd : FuncData) : Prop where
  F : Fun K x x st f fd
  g : mg x = some (.ref f)
  b : Binds K fd ps []
/-- .. of an error's class -/
structure Er1 (K : PySem.W.Frag) (mg : Str → Option Value) (x : Str) (C : Addr) : Prop where
  g : mg x = some (.ref C)
  k : PySem.W.keepIn K (.ref C) = true
  eC : PySem.W.subIn K (.ref C) (.type "BaseException") = some true
  tC : PySem.W.typeIn K (.ref C) = some (.type "type")
/-- .. that has no __init__ of its own -/
def ErQ (K : PySem.W.Frag) (C : Addr) : Prop := PySem.W.excIn K C [.type "ValueError", .type "Exception", .type "BaseException", .type "object"] "ValueError.__new__" = true
def StrC (mg : Str → Option Value) (x z : Str) : Prop := ∃ t, mg x = some (.str z t)
def IntC (mg : Str → Option Value) (x : Str) (i : Int) : Prop := ∃ t, mg x = some (.int i t)
def TupC (K : PySem.W.Frag) (mg : Str → Option Value) (x : Str) (ys : List Str) : Prop := ∃ a, mg x = some (.ref a) ∧ ∀ H, SqT K H a (ys.map V.str)
section
variable {X : Cx} {da : Da} {cm : Nat → Addr} {W : WX} {pos : Pos} {x : Str}
theorem ev_gs {z : Str} (hg : Gl X x) (h : StrC X.mg x z) (hd : (x == ("__debug__" : Str)) = false := by decide) : PEv X da cm W (.Name x pos) (kc (.str z)) := by
  obtain ⟨t, h⟩ := h
  exact ev_gc (v := .str z) hg h ⟨t, rfl⟩ (fun _ => .str z) hd
theorem ev_gi {i : Int} (hg : Gl X x) (h : IntC X.mg x i) (hd : (x == ("__debug__" : Str)) = false := by decide) : PEv X da cm W (.Name x pos) (kc (.int i)) := by
  obtain ⟨t, h⟩ := h
  exact ev_gc (v := .int i) hg h ⟨t, rfl⟩ (fun _ => .int i) hd
theorem ev_gt {ys : List Str} (hg : Gl X x) (h : TupC X.K X.mg x ys) (hd : (x == ("__debug__" : Str)) = false := by decide) : PEv X da cm W (.Name x pos) (kc (.tup (ys.map .str))) := by
  obtain ⟨a, h, t⟩ := h
  exact ev_gc (v := .ref a) hg h rfl (fun Hk => .tup (t Hk) (RpL.ofStrs ys)) hd
theorem ev_fn {fs : Env → M (List D)} {T : List D → M D} {n k j : Nat} {f : Addr} {fd : FuncData} {ps : List Str} {st : Stmt} {tb : List (Addr × Str)} {pos p : Pos} {e : Expr} {es : List Expr} (hT : da.tb = tb) (F : FnG X.prog X.w X.K X.mg X.base k f fd ps (spM X.K cm tb n T)) (hr : RoomG j X.A) (hk : k ≤ j) (hg : Gl X x) (N : Fn1 X.K X.mg x st ps f fd) (tk : Takes X W)
    (ha : PAv X da cm W (e :: es) fs) (hdb : (x == ("__debug__" : Str)) = false := by decide) (he : starEach (e :: es) X.env = (false, eval e X.env) :: starEach es X.env := by rfl) (hpl : (backTo pos (starEach es X.env)).any (·.1) = false := by rfl) :
    PEv X da cm W (.Call (.Name x p) (e :: es) [] pos) (fcM n T fs) := ev_call hT F (hr.mono hk) hg N.g N.F.kp N.b tk ha hdb he hpl
end
/-! ### the parts of a class's text -/
def clsInit : Stmt → Stmt
  | .ClassDef _ _ _ body _ _ _ _ _ _ _ => body.headD (.Pass ⟨0, 0, 0, 0⟩)
  | st => st
def msgOf (st : Stmt) : Expr := match defBody st with
  | .Expr (.Call _ [m] _ _) _ :: _ => m
  | _ => .Constant .none 0 ⟨0, 0, 0, 0⟩
/-! ### the table of classes -/
def mtOf (l : List (Nat × Nat × Bool)) : Mt := fun c k => (l.find? fun t => t.1 == c && t.2.1 == k).map (·.2.2)
theorem mtOf_some {l : List (Nat × Nat × Bool)} {c k : Nat} {b : Bool} (h : mtOf l c k = some b) : (c, k, b) ∈ l := by
  unfold mtOf at h
  cases e : l.find? fun t => t.1 == c && t.2.1 == k with
  | none => rw [e] at h; cases h
  | some t =>
    rw [e] at h
    have h1 := List.find?_some e
    have h2 := List.mem_of_find?_eq_some e
    simp only [Bool.and_eq_true, beq_iff_eq] at h1
    cases h
    obtain ⟨a, b, c⟩ := t
    obtain ⟨rfl, rfl⟩ := h1
    exact h2
theorem mtOf_as {l : List (Nat × Nat × Bool)} {k : Nat} (h : (l.all fun t => !(t.2.1 == k && t.2.2) || t.1 == k) = true) : ∀ c, mtOf l c k = some true → c = k := fun c hc => by
  have := List.all_eq_true.mp h _ (mtOf_some hc)
  simpa using this
theorem mtOf_ok {K : PySem.W.Frag} {cm : Nat → Addr} {l : List (Nat × Nat × Bool)} (h : ∀ t ∈ l, PySem.W.exmOne K (.ref (cm t.1)) (.ref (cm t.2.1)) = some t.2.2) : MtOk K cm (mtOf l) := fun _ _ _ e => h _ (mtOf_some e)
theorem tryS_act {mt : Mt} {f : Addr} {m : M D} {g : D → SEnv → M Fl} {cl : List (Nat × (Fs → SEnv → M Fl))} {r : SEnv} : tryS mt (actM f m) g cl (.dt (.ref f) :: r) = tryS mt (fun _ => m) g cl (.dt (.ref f) :: r) := by
  funext δ
  have e : actM f m (vw (.dt (.ref f) :: r)) = m := by
    show (if f = f then m else bad) = m
    rw [if_pos rfl]
  unfold tryS
  rw [e]
/-! ### the law itself: there are no dice yet -/
def spM0 (K : PySem.W.Frag) (cm : Nat → Addr) (tb : List (Addr × Str)) (n : Nat) (T : List D → M D) : Sp := fun vs H Q E => vs.length = n ∧ ∃ da Hk δ ds, da.tb = tb ∧ da.ad = none ∧ At da Hk H δ ∧ RpL K da.ad Hk vs ds ∧
  Fin K da cm (T ds δ) Hk H (fun d δ' => ∀ v Hk' H', Stp da Hk H Hk' H' → At da Hk' H' δ' → Rp K da.ad Hk' v d → Q v H') (fun c dd H' => E c dd H')
theorem fn_ok0 {P : Program} {w : World} {K : PySem.W.Frag} {mg : Str → Option Value} {base : Heap} {cm : Nat → Addr} {x qual : Str} {st : Stmt} {f : Addr} {fd : FuncData} {N ps : List Str} {k : Nat} {tb : List (Addr × Str)} (F : Fun K x qual st f fd) (S : FnScope N ps (defScope st)) (hp : ps.length ≤ N.length) {G : SEnv → M Fl}
    (hbody : ∀ (da : Da), da.tb = tb → da.ad = none → ∀ (cdv : Value), IsCode K f cdv → ∀ (A : Around) (fr : List PySem.Env) (s : Shared) (H : Hp) (E : XK), RoomG k (A.deeper (envOfC qual (defScope st) s.heap.objs.size f cdv)) →
      PBv (cxOf (L2.CX P w) P w K mg base N qual (defScope st) f cdv A fr s H E) da cm E (defBody st) G) : FnG P w K mg base (k + 1) f fd ps (spM0 K cm tb ps.length (fnM ps.length N.length G)) := by
  refine fnG_of F S (fun vs H Q E h => h.1) (fun cdv hcd A fr s H vs Q E hr h => ?_)
  obtain ⟨hl, da, Hk, δ, ds, ht, h0, hA, r, q⟩ := h
  refine ⟨_, hbody da ht h0 cdv hcd A fr s H E hr, Hk, _, δ, hA, start_env r (by omega), ?_⟩
  have hd : ds.length = ps.length := r.length.symm.trans hl
  unfold fnM at q
  rw [ifp hd] at q
  rw [hd]
  have q := q.bind
  cases e : G (List.map Sl.dt ds ++ List.replicate (N.length - ps.length) Sl.no) δ with
  | ok r δ' =>
    rw [e] at q
    cases r with
    | ret d => exact fun v Hk' H' s a r => q v Hk' H' (s.stp fun _ => start_own) a r
    | nw l =>
      intro p ws Hk' H' s a k n e r
      have kn := know hA (s.stp fun _ => start_own) a k n e (.lst _)
      exact q _ _ H' kn.1 kn.2.1 (.lst upd_same (r.mono kn.2.2))
    | next env => exact fun σ' Hk' H' s a _ _ => q _ Hk' H' (s.stp fun _ => start_own) a .non
    | brk env => exact q.elim
    | cont env => exact q.elim
  | exc c fs δ' => rw [e] at q; exact fun dd Hk' H' s a x => q dd Hk' H' (s.stp fun _ => start_own) a x
  | bad => rw [e] at q; exact q
theorem pix {b : Expr} (h : ∀ o i, subscripted b false o i = operate [o, i] (getItem o i) := by intro _ _; rfl) : PlainIx b := h
end Dv
set_option maxHeartbeats 4000000
namespace Dv
open PySem PySem.Spec PyProof.Rows L2
/-! ### what the operations give -/
/-- all signs below 128 -/
def asc (x : Str) : Bool := x.cps.toList.all fun c => decide (c < 128)
theorem asc_ok {x : Str} (h : asc x = true) : PyData.strOk x = true := by
  unfold PyData.strOk
  unfold asc at h
  rw [← Array.all_toList]
  exact List.all_eq_true.mpr fun c hc => by
    have := of_decide_eq_true (List.all_eq_true.mp h c hc)
    exact decide_eq_true (Nat.lt_of_lt_of_le this (by decide))
theorem asc_signs {x : Str} (h : asc x = true) : signsOk x = true := by
  unfold signsOk
  unfold asc at h
  exact List.all_eq_true.mpr fun c hc => by
    have := of_decide_eq_true (List.all_eq_true.mp h c hc)
    exact decide_eq_true (Nat.lt_of_lt_of_le this (by decide))
theorem asc_iff {x : Str} : asc x = true ↔ ∀ c ∈ x.cps.toList, c < 128 := by
  unfold asc
  rw [List.all_eq_true]
  exact ⟨fun h c hc => of_decide_eq_true (h c hc), fun h c hc => decide_eq_true (h c hc)⟩
theorem cps_app (a b : Str) : (a ++ b).cps.toList = a.cps.toList ++ b.cps.toList := by
  show (a.cps ++ b.cps).toList = _
  simp
theorem asc_app {a b : Str} (ha : asc a = true) (hb : asc b = true) : asc (a ++ b) = true := by
  rw [asc_iff] at *
  intro c hc
  rw [cps_app] at hc
  exact (List.mem_append.mp hc).elim (ha c) (hb c)
theorem str_ext {x y : Str} (h : x.cps.toList = y.cps.toList) : x = y := PySem.W.str_of_cps h
theorem shaped_int (i : Int) : SeqAt.shaped (.int i) = true := by simp [SeqAt.shaped, PyData.canLay0, PyData.depth]
theorem shaped_bool (i : Bool) : SeqAt.shaped (.bool i) = true := by simp [SeqAt.shaped, PyData.canLay0, PyData.depth]
theorem shaped_none : SeqAt.shaped .none = true := by simp [SeqAt.shaped, PyData.canLay0, PyData.depth]
theorem shaped_str {x : Str} (h : asc x = true) : SeqAt.shaped (.str x) = true := by
  unfold SeqAt.shaped
  simp [PyData.canLay0, PyData.depth, asc_ok h]
theorem depthAll_strs : ∀ ys : List Str, PyData.depthAll (ys.map .str) = 0
  | [] => by simp [PyData.depthAll]
  | y :: ys => by simp [PyData.depthAll, PyData.depth, depthAll_strs ys]
theorem depthAll_bools : ∀ ys : List Bool, PyData.depthAll (ys.map .bool) = 0
  | [] => by simp [PyData.depthAll]
  | y :: ys => by simp [PyData.depthAll, PyData.depth, depthAll_bools ys]
theorem canLay_strs : ∀ {ys : List Str}, (∀ y ∈ ys, asc y = true) → PyData.canLayAll0 (ys.map .str) = true
  | [], _ => by simp [PyData.canLayAll0]
  | y :: ys, h => by
    simp only [List.map_cons, PyData.canLayAll0, PyData.canLay0]
    rw [asc_ok (h y List.mem_cons_self), Bool.true_and]
    exact canLay_strs fun z hz => h z (List.mem_cons_of_mem _ hz)
theorem shaped_strsL {ys : List Str} (h : ∀ y ∈ ys, asc y = true) : SeqAt.shaped (.list (ys.map .str)) = true := by
  unfold SeqAt.shaped
  simp [PyData.canLay0, PyData.depth, canLay_strs h, depthAll_strs]
theorem shaped_strsT {ys : List Str} (h : ∀ y ∈ ys, asc y = true) : SeqAt.shaped (.tuple (ys.map .str)) = true := by
  unfold SeqAt.shaped
  simp [PyData.canLay0, PyData.depth, canLay_strs h, depthAll_strs]
theorem pyL_strs : ∀ ys : List Str, D.pyL (ys.map .str) = some (ys.map .str)
  | [] => by simp [D.pyL]
  | y :: ys => by simp [D.pyL, D.py, pyL_strs ys]
theorem pyL_bools : ∀ ys : List Bool, D.pyL (ys.map .bl) = some (ys.map .bool)
  | [] => by simp [D.pyL]
  | y :: ys => by simp [D.pyL, D.py, pyL_bools ys]
theorem py_tupS (ys : List Str) : D.py (.tup (ys.map .str)) = some (.tuple (ys.map .str)) := by simp [D.py, pyL_strs]
theorem py_lstS (ys : List Str) : D.py (.lst (ys.map .str)) = some (.list (ys.map .str)) := by simp [D.py, pyL_strs]
theorem eqvAll_strs : ∀ xs ys : List Str, PyData.eqvAll (xs.map .str) (ys.map .str) = (xs == ys)
  | [], [] => by simp [PyData.eqvAll]
  | [], _ :: _ => by simp [PyData.eqvAll]
  | _ :: _, [] => by simp [PyData.eqvAll]
  | x :: xs, y :: ys => by simp [PyData.eqvAll, PyData.eqv, eqvAll_strs xs ys]
theorem two_some' {c f : PyData → PyData → Bool} {d e : D} {p q : PyData} (h1 : d.py = some p) (h2 : e.py = some q) (h : c p q = true) : D.two c f d e = some (.bl (f p q)) := by
  unfold D.two
  rw [h1, h2]
  exact if_pos h
theorem eq_int (i j : Int) : D.eq (.int i) (.int j) = some (.bl (i == j)) := by
  have := two_some' (c := okEq) (f := PyData.eqv) (d := .int i) (e := .int j) (p := .int i) (q := .int j) (by simp [D.py]) (by simp [D.py]) (by unfold okEq; rw [shaped_int, shaped_int]; rfl)
  rw [show D.eq (.int i) (.int j) = _ from this]
  simp [PyData.eqv]
theorem eq_str {x y : Str} (hx : asc x = true) (hy : asc y = true) : D.eq (.str x) (.str y) = some (.bl (x == y)) := by
  have := two_some' (c := okEq) (f := PyData.eqv) (d := .str x) (e := .str y) (p := .str x) (q := .str y) (by simp [D.py]) (by simp [D.py]) (by unfold okEq; rw [shaped_str hx, shaped_str hy]; rfl)
  rw [show D.eq (.str x) (.str y) = _ from this]
  simp [PyData.eqv]
theorem ne_str {x y : Str} (hx : asc x = true) (hy : asc y = true) : D.ne (.str x) (.str y) = some (.bl (!(x == y))) := by
  have := two_some' (c := okEq) (f := fun p q => !PyData.eqv p q) (d := .str x) (e := .str y) (p := .str x) (q := .str y) (by simp [D.py]) (by simp [D.py]) (by unfold okEq; rw [shaped_str hx, shaped_str hy]; rfl)
  rw [show D.ne (.str x) (.str y) = _ from this]
  simp [PyData.eqv]
theorem eq_lstS {xs ys : List Str} (hx : ∀ y ∈ xs, asc y = true) (hy : ∀ y ∈ ys, asc y = true) : D.eq (.lst (xs.map .str)) (.lst (ys.map .str)) = some (.bl (xs == ys)) := by
  have := two_some' (c := okEq) (f := PyData.eqv) (py_lstS xs) (py_lstS ys) (by unfold okEq; rw [shaped_strsL hx, shaped_strsL hy]; rfl)
  rw [show D.eq (.lst (xs.map .str)) (.lst (ys.map .str)) = _ from this]
  simp [PyData.eqv, eqvAll_strs]
theorem alikeAll_strs : ∀ xs ys : List Str, PySem.W.alikeAll (xs.map .str) (ys.map .str) = true
  | [], _ => by simp [PySem.W.alikeAll]
  | x :: xs, [] => by simp [PySem.W.alikeAll]
  | x :: xs, y :: ys => by simp [PySem.W.alikeAll, PySem.W.alike, alikeAll_strs xs ys]
theorem okLt_int (i j : Int) : okLt (.int i) (.int j) = true := by simp [okLt, PySem.W.alike, PyData.depth]
theorem okLt_str (i j : Str) : okLt (.str i) (.str j) = true := by simp [okLt, PySem.W.alike, PyData.depth]
theorem lt_int (i j : Int) : D.lt (.int i) (.int j) = some (.bl (decide (i < j))) := by
  have := two_some' (c := okLt) (f := PySem.W.dataLt) (d := .int i) (e := .int j) (by simp [D.py]) (by simp [D.py]) (okLt_int i j)
  rw [PySem.W.dataLt_int] at this; exact this
theorem gt_int (i j : Int) : D.gt (.int i) (.int j) = some (.bl (decide (j < i))) := by
  have := two_some' (c := okLt) (f := fun p q => PySem.W.dataLt q p) (d := .int i) (e := .int j) (by simp [D.py]) (by simp [D.py]) (okLt_int i j)
  rw [PySem.W.dataLt_int] at this; exact this
theorem le_int (i j : Int) : D.le (.int i) (.int j) = some (.bl (decide (i ≤ j))) := by
  have := two_some' (c := okLt) (f := fun p q => !PySem.W.dataLt q p) (d := .int i) (e := .int j) (by simp [D.py]) (by simp [D.py]) (okLt_int i j)
  rw [PySem.W.dataLt_int] at this
  rw [show D.le (.int i) (.int j) = _ from this]
  congr 2
  by_cases h : j < i
  · simp [h]
  · simp [h]; omega
theorem ge_int (i j : Int) : D.ge (.int i) (.int j) = some (.bl (decide (j ≤ i))) := by
  have := two_some' (c := okLt) (f := fun p q => !PySem.W.dataLt p q) (d := .int i) (e := .int j) (by simp [D.py]) (by simp [D.py]) (okLt_int i j)
  rw [PySem.W.dataLt_int] at this
  rw [show D.ge (.int i) (.int j) = _ from this]
  congr 2
  by_cases h : i < j
  · simp [h]
  · simp [h]; omega
theorem le_str (x y : Str) : D.le (.str x) (.str y) = some (.bl (!decide (y.cps.toList < x.cps.toList))) := by
  have := two_some' (c := okLt) (f := fun p q => !PySem.W.dataLt q p) (d := .str x) (e := .str y) (by simp [D.py]) (by simp [D.py]) (okLt_str x y)
  rw [PySem.W.dataLt_str] at this; exact this
theorem in_sign {c : Nat} {z : Str} (n : Bool) : D.inn n (.str ⟨#[c]⟩) (.str z) = some (.bl (n != decide (c ∈ z.cps.toList))) := by
  have : sign? ⟨#[c]⟩ = some c := rfl
  simp only [D.inn, this]
theorem any_strs (x : Str) : ∀ ys : List Str, (ys.map PyData.str).any (fun z => PyData.eqv z (.str x)) = decide (x ∈ ys)
  | [] => rfl
  | y :: ys => by
    simp only [List.map_cons, List.any_cons, PyData.eqv, any_strs x ys, List.mem_cons]
    by_cases h : x = y
    · subst h; simp
    · have : ¬ y = x := fun z => h z.symm
      simp [h, this]
theorem in_lstS {x : Str} {ys : List Str} (n : Bool) (hx : asc x = true) (hy : ∀ y ∈ ys, asc y = true) : D.inn n (.str x) (.lst (ys.map .str)) = some (.bl (n != decide (x ∈ ys))) := by
  unfold D.inn
  simp only [D.py, pyL_strs]
  rw [if_pos (by rw [shaped_str hx, shaped_strsL hy]; rfl), any_strs]
theorem in_tupS {x : Str} {ys : List Str} (n : Bool) (hx : asc x = true) (hy : ∀ y ∈ ys, asc y = true) : D.inn n (.str x) (.tup (ys.map .str)) = some (.bl (n != decide (x ∈ ys))) := by
  unfold D.inn
  simp only [D.py, pyL_strs]
  rw [if_pos (by rw [shaped_str hx, shaped_strsT hy]; rfl), any_strs]
theorem bls_map : ∀ bs : List Bool, bls (bs.map .bl) = some bs
  | [] => rfl
  | b :: bs => by
    unfold bls
    rw [List.map_cons]
    simp only [bls_map bs]
theorem all_bls (bs : List Bool) : D.all [.lst (bs.map .bl)] = some (.bl (bs.all id)) := by unfold D.all; simp only [bls_map, Option.map_some]
theorem any_bls (bs : List Bool) : D.any [.lst (bs.map .bl)] = some (.bl (bs.any id)) := by unfold D.any; simp only [bls_map, Option.map_some]
theorem len_str {x : Str} (h : x.length ≤ lim) : D.len [.str x] = some (.int x.length) := by unfold D.len; exact if_pos h
theorem kit_str : ∀ t ∈ ["NoneType", "bool", "int", "tuple", "list", "dict"], kitB t "str" = some false := by decide +kernel
theorem isi_str (x : Str) : D.isI [.str x, .ty "str"] = some (.bl true) := by
  have : kitB "str" "str" = some true := by decide +kernel
  simp only [D.isI, D.typ, this, Option.map_some]
/-- an odd value: of a built-in class that is not str -/
def D.nstr (d : D) : Bool := match d with
  | .non | .bl _ | .int _ | .tup _ | .lst _ | .dic _ => true
  | _ => false
theorem isi_nstr {d : D} (h : d.nstr = true) : D.isI [d, .ty "str"] = some (.bl false) := by
  have k := kit_str
  cases d with
  | non => simp only [D.isI, D.typ]; rw [k "NoneType" (by decide)]; rfl
  | bl b => simp only [D.isI, D.typ]; rw [k "bool" (by decide)]; rfl
  | int b => simp only [D.isI, D.typ]; rw [k "int" (by decide)]; rfl
  | tup b => simp only [D.isI, D.typ]; rw [k "tuple" (by decide)]; rfl
  | lst b => simp only [D.isI, D.typ]; rw [k "list" (by decide)]; rfl
  | dic b => simp only [D.isI, D.typ]; rw [k "dict" (by decide)]; rfl
  | str b => cases h
  | ref b => cases h
  | ty b => cases h
  | dice => cases h
  | scr b => cases h
end Dv
set_option maxHeartbeats 4000000
namespace Dv
open PySem PySem.Spec PyProof.Rows L2
/-! ### runs of mirrors: k counts the rolls that may be made without a cell -/
def BIG : Int := 1000000000
def Run {α : Type} (k : Nat) (P : α → Prop) (m : M α) : Prop := ∀ δ : Dice, 0 ≤ δ.2.2 → δ.2.2 + k ≤ BIG → ∃ a δ', m δ = .ok a δ' ∧ δ.2.2 ≤ δ'.2.2 ∧ δ'.2.2 ≤ δ.2.2 + k ∧ P a
theorem Run.ret {α : Type} {P : α → Prop} {a : α} (h : P a) : Run 0 P (ret a) := fun δ _ _ => ⟨a, δ, rfl, Int.le_refl _, by omega, h⟩
theorem Run.bind {α β : Type} {k k' : Nat} {P : α → Prop} {Q : β → Prop} {m : M α} {f : α → M β} (h : Run k P m) (h' : ∀ a, P a → Run k' Q (f a)) : Run (k + k') Q (bind m f) := fun δ h0 hk => by
  obtain ⟨a, δ1, e, l1, l2, p⟩ := h δ h0 (by omega)
  obtain ⟨b, δ2, e', l3, l4, q⟩ := h' a p δ1 (by omega) (by omega)
  refine ⟨b, δ2, ?_, by omega, by omega, q⟩
  unfold Dv.bind
  rw [e]
  exact e'
theorem Run.mono {α : Type} {k k' : Nat} {P Q : α → Prop} {m : M α} (h : Run k P m) (hk : k ≤ k') (hp : ∀ a, P a → Q a) : Run k' Q m := fun δ h0 hb => by
  obtain ⟨a, δ1, e, l1, l2, p⟩ := h δ h0 (by omega)
  exact ⟨a, δ1, e, l1, by omega, hp a p⟩
theorem Run.of_eq {α : Type} {k : Nat} {P : α → Prop} {m m' : M α} (h : Run k P m') (e : m = m') : Run k P m := e ▸ h
theorem Run.nx {α : Type} {k : Nat} {P : α → Prop} {m : M α} (h : Run k P m) : Run k P (nx m) := fun δ h0 hb => by
  obtain ⟨a, δ1, e, l1, l2, p⟩ := h δ h0 hb
  refine ⟨a, δ1, ?_, l1, l2, p⟩
  unfold Dv.nx
  rw [e]
theorem nx_ret {α : Type} (a : α) : nx (ret a) = ret a := rfl
theorem lift_ret {α : Type} {o : Option α} {a : α} (h : o = some a) : lift o = ret a := by rw [h]; rfl
/-! ### comprehensions -/
theorem lcL_pure {t : Tg} {tt : Env → M Bool} {te : Env → M D} {env : Env} {p : D → Bool} {g : D → D} : ∀ {xs : List D}, (∀ x ∈ xs, ∃ m, t.l x = some m ∧ tt (putD env m) = ret (p x) ∧ (p x = true → te (putD env m) = ret (g x))) → lcL t tt te env xs = ret ((xs.filter p).map g)
  | [], _ => rfl
  | x :: xs, h => by
    obtain ⟨m, h1, h2, h3⟩ := h x List.mem_cons_self
    have ih := lcL_pure fun y hy => h y (List.mem_cons_of_mem _ hy)
    unfold lcL
    rw [h1, lift_some, bind_ret, h2, nx_ret, bind_ret, ih]
    by_cases hp : p x = true
    · rw [if_pos hp, h3 hp, nx_ret, bind_ret, bind_ret, List.filter_cons_of_pos hp]
      rfl
    · rw [if_neg hp, List.filter_cons_of_neg hp]
/-- no condition -/
theorem lcL_map {t : Tg} {te : Env → M D} {env : Env} {g : D → D} {xs : List D} (h : ∀ x ∈ xs, ∃ m, t.l x = some m ∧ te (putD env m) = ret (g x)) : lcL t yesT te env xs = ret (xs.map g) := by
  have := lcL_pure (t := t) (tt := yesT) (te := te) (env := env) (p := fun _ => true) (g := g) (xs := xs) fun x hx => by
    obtain ⟨m, h1, h2⟩ := h x hx
    exact ⟨m, h1, rfl, fun _ => h2⟩
  rw [this, List.filter_eq_self.mpr fun _ _ => rfl]
theorem lcL_run {t : Tg} {te : Env → M D} {env : Env} {k : Nat} {P : D → Prop} : ∀ {xs : List D}, (∀ x ∈ xs, ∃ m, t.l x = some m ∧ Run k P (te (putD env m))) → Run (k * xs.length) (fun ys => ys.length = xs.length ∧ ∀ y ∈ ys, P y) (lcL t yesT te env xs)
  | [], _ => Run.mono (Run.ret (P := fun ys : List D => ys = []) rfl) (Nat.le_refl _) fun ys e => by subst e; exact ⟨rfl, fun _ z => nomatch z⟩
  | x :: xs, h => by
    obtain ⟨m, h1, h2⟩ := h x List.mem_cons_self
    have ih := lcL_run (k := k) (P := P) fun y hy => h y (List.mem_cons_of_mem _ hy)
    unfold lcL
    rw [h1, lift_some, bind_ret]
    have e : nx (yesT (putD env m)) = ret true := rfl
    rw [e, bind_ret, if_pos rfl]
    refine Run.mono (Run.bind (Run.nx h2) fun y hy => Run.bind ih fun ys hys => Run.ret (P := fun zs : List D => zs.length = (x :: xs).length ∧ ∀ z ∈ zs, P z) ⟨by simp [hys.1], fun z hz => (List.mem_cons.mp hz).elim (fun e => e ▸ hy) (hys.2 z)⟩) ?_ fun _ z => z
    rw [List.length_cons, Nat.mul_succ]
    omega
theorem l_nm (i : Nat) (x : D) : (Tg.nm i).l x = some [(i, x)] := by simp only [Tg.l]
/-! ### statements -/
/-- what lies in the slots behind, or what is handed back -/
def RunS (k : Nat) (PN : SEnv → Prop) (PR : D → Prop) (m : M Fl) : Prop := Run k (fun r => match r with
  | .next e => PN e
  | .ret d => PR d
  | _ => False) m
theorem RunS.seq {k k' : Nat} {PN PN' : SEnv → Prop} {PR : D → Prop} {F G : SEnv → M Fl} {env : SEnv} (h : RunS k PN PR (F env)) (h' : ∀ e, PN e → RunS k' PN' PR (G e)) : RunS (k + k') PN' PR (seqS F G env) := by
  unfold seqS RunS
  refine Run.bind h fun r hr => ?_
  cases r with
  | next e => exact h' e hr
  | ret d => exact Run.mono (Run.ret (P := fun r : Fl => r = .ret d) rfl) (Nat.zero_le _) fun r e => by subst e; exact hr
  | nw ds => exact hr.elim
  | brk e => exact hr.elim
  | cont e => exact hr.elim
theorem RunS.mono {k k' : Nat} {PN PN' : SEnv → Prop} {PR PR' : D → Prop} {m : M Fl} (h : RunS k PN PR m) (hk : k ≤ k') (hn : ∀ e, PN e → PN' e) (hr : ∀ d, PR d → PR' d) : RunS k' PN' PR' m := Run.mono h hk fun r h => by
  cases r with
  | next e => exact hn e h
  | ret d => exact hr d h
  | nw ds => exact h.elim
  | brk e => exact h.elim
  | cont e => exact h.elim
theorem RunS.asg {k : Nat} {P : D → Prop} {PR : D → Prop} {i : Nat} {f : Env → M D} {env : SEnv} (h : Run k P (f (vw env))) : RunS k (fun e => ∃ d, P d ∧ e = env.set i (.dt d)) PR (asgS i f env) := by
  unfold asgS
  exact Run.bind (k' := 0) h fun d hd => Run.ret (P := fun r : Fl => _) ⟨d, hd, rfl⟩
theorem RunS.ret {k : Nat} {PN : SEnv → Prop} {P : D → Prop} {f : Env → M D} {env : SEnv} (h : Run k P (f (va env))) : RunS k PN P (retS f env) := by
  unfold retS
  exact Run.bind (k' := 0) h fun d hd => Run.ret (P := fun r : Fl => _) hd
theorem RunS.nil {PN : SEnv → Prop} {PR : D → Prop} {env : SEnv} (h : PN env) : RunS 0 PN PR (nilS env) := Run.ret (P := fun r : Fl => _) h
theorem RunS.if_ {k k' : Nat} {P : Bool → Prop} {PN : SEnv → Prop} {PR : D → Prop} {t : Env → M Bool} {F G : SEnv → M Fl} {env : SEnv} (h : Run k P (t (va env))) (h1 : P true → RunS k' PN PR (F env)) (h2 : P false → RunS k' PN PR (G env)) : RunS (k + k') PN PR (ifS t F G env) := by
  unfold ifS
  refine Run.bind h fun b hb => ?_
  cases b with
  | true => rw [if_pos rfl]; exact h1 hb
  | false => rw [if_neg (fun z => nomatch z)]; exact h2 hb
theorem RunS.for_ {k k' : Nat} {P : D → Prop} {I : SEnv → Prop} {PR : D → Prop} {it : Env → M (List D)} {t : Tg} {F : SEnv → M Fl} {env : SEnv} {n : Nat} (hi : Run k (fun xs => xs.length ≤ n ∧ ∀ x ∈ xs, P x) (it (vw env))) (h0 : I env)
    (hb : ∀ x e, P x → I e → ∃ m, t.l x = some m ∧ RunS k' I PR (F (putS e m))) : RunS (k + k' * n) I PR (forM it t F env) := by
  unfold forM
  refine Run.bind hi fun xs ⟨hn, hx⟩ => ?_
  have go : ∀ (xs : List D) (e : SEnv), (∀ x ∈ xs, P x) → I e → RunS (k' * xs.length) I PR (forL t F xs e) := by
    intro xs
    induction xs with
    | nil => exact fun e _ he => Run.mono (Run.ret (P := fun r : Fl => r = .next e) rfl) (Nat.zero_le _) fun r q => by subst q; exact he
    | cons x xs ih =>
      intro e hx he
      obtain ⟨m, h1, h2⟩ := hb x e (hx x List.mem_cons_self) he
      unfold forL
      rw [h1, lift_some, bind_ret]
      refine Run.mono (Run.bind h2 fun r hr => ?_) (by rw [List.length_cons, Nat.mul_succ, Nat.add_comm]; exact Nat.le_refl _) fun _ z => z
      cases r with
      | next e' => exact ih e' (fun y hy => hx y (List.mem_cons_of_mem _ hy)) hr
      | ret d => exact Run.mono (Run.ret (P := fun r : Fl => r = .ret d) rfl) (Nat.zero_le _) fun r q => by subst q; exact hr
      | nw ds => exact hr.elim
      | brk e => exact hr.elim
      | cont e => exact hr.elim
  exact RunS.mono (go xs env hx h0) (Nat.mul_le_mul_left _ hn) (fun _ z => z) fun _ z => z
/-- a def by its body -/
theorem Run.fn {k n N : Nat} {P : D → Prop} {F : SEnv → M Fl} {ds : List D} (hl : ds.length = n) (h : RunS k (fun _ => P .non) P (F (ds.map .dt ++ List.replicate (N - n) .no))) : Run k P (fnM n N F ds) := by
  unfold fnM
  rw [if_pos hl]
  refine Run.mono (Run.bind (k' := 0) h fun r hr => ?_) (Nat.le_refl _) fun _ z => z
  cases r with
  | next e => exact Run.ret hr
  | ret d => exact Run.ret hr
  | nw ds => exact hr.elim
  | brk e => exact hr.elim
  | cont e => exact hr.elim
theorem Run.fc {k n : Nat} {T : List D → M D} {P : D → Prop} {fs : Env → M (List D)} {env : Env} {ds : List D} (hf : fs env = Dv.ret ds) (hl : ds.length = n) (h : Run k P (T ds)) : Run k P (fcM n T fs env) := by
  unfold fcM
  rw [hf, bind_ret, if_pos hl]
  exact h
end Dv
set_option maxHeartbeats 4000000
namespace Dv
open PySem PySem.Spec PyProof.Rows L2
/-! ### reading off -/
theorem vr_0 {d : D} {r : Env} : vr 0 (some d :: r) = ret d := rfl
theorem vr_1 {o0 : Option D} {d : D} {r : Env} : vr 1 (o0 :: some d :: r) = ret d := rfl
theorem vr_2 {o0 o1 : Option D} {d : D} {r : Env} : vr 2 (o0 :: o1 :: some d :: r) = ret d := rfl
theorem vr_3 {o0 o1 o2 : Option D} {d : D} {r : Env} : vr 3 (o0 :: o1 :: o2 :: some d :: r) = ret d := rfl
theorem vr_4 {o0 o1 o2 o3 : Option D} {d : D} {r : Env} : vr 4 (o0 :: o1 :: o2 :: o3 :: some d :: r) = ret d := rfl
theorem vr_5 {o0 o1 o2 o3 o4 : Option D} {d : D} {r : Env} : vr 5 (o0 :: o1 :: o2 :: o3 :: o4 :: some d :: r) = ret d := rfl
theorem vr_6 {o0 o1 o2 o3 o4 o5 : Option D} {d : D} {r : Env} : vr 6 (o0 :: o1 :: o2 :: o3 :: o4 :: o5 :: some d :: r) = ret d := rfl
theorem vr_7 {o0 o1 o2 o3 o4 o5 o6 : Option D} {d : D} {r : Env} : vr 7 (o0 :: o1 :: o2 :: o3 :: o4 :: o5 :: o6 :: some d :: r) = ret d := rfl
theorem vr_8 {o0 o1 o2 o3 o4 o5 o6 o7 : Option D} {d : D} {r : Env} : vr 8 (o0 :: o1 :: o2 :: o3 :: o4 :: o5 :: o6 :: o7 :: some d :: r) = ret d := rfl
theorem vr_9 {o0 o1 o2 o3 o4 o5 o6 o7 o8 : Option D} {d : D} {r : Env} : vr 9 (o0 :: o1 :: o2 :: o3 :: o4 :: o5 :: o6 :: o7 :: o8 :: some d :: r) = ret d := rfl
theorem vr_10 {o0 o1 o2 o3 o4 o5 o6 o7 o8 o9 : Option D} {d : D} {r : Env} : vr 10 (o0 :: o1 :: o2 :: o3 :: o4 :: o5 :: o6 :: o7 :: o8 :: o9 :: some d :: r) = ret d := rfl
theorem vr_11 {o0 o1 o2 o3 o4 o5 o6 o7 o8 o9 o10 : Option D} {d : D} {r : Env} : vr 11 (o0 :: o1 :: o2 :: o3 :: o4 :: o5 :: o6 :: o7 :: o8 :: o9 :: o10 :: some d :: r) = ret d := rfl
theorem vr_12 {o0 o1 o2 o3 o4 o5 o6 o7 o8 o9 o10 o11 : Option D} {d : D} {r : Env} : vr 12 (o0 :: o1 :: o2 :: o3 :: o4 :: o5 :: o6 :: o7 :: o8 :: o9 :: o10 :: o11 :: some d :: r) = ret d := rfl
theorem vr_13 {o0 o1 o2 o3 o4 o5 o6 o7 o8 o9 o10 o11 o12 : Option D} {d : D} {r : Env} : vr 13 (o0 :: o1 :: o2 :: o3 :: o4 :: o5 :: o6 :: o7 :: o8 :: o9 :: o10 :: o11 :: o12 :: some d :: r) = ret d := rfl
theorem vr_14 {o0 o1 o2 o3 o4 o5 o6 o7 o8 o9 o10 o11 o12 o13 : Option D} {d : D} {r : Env} : vr 14 (o0 :: o1 :: o2 :: o3 :: o4 :: o5 :: o6 :: o7 :: o8 :: o9 :: o10 :: o11 :: o12 :: o13 :: some d :: r) = ret d := rfl
theorem vr_15 {o0 o1 o2 o3 o4 o5 o6 o7 o8 o9 o10 o11 o12 o13 o14 : Option D} {d : D} {r : Env} : vr 15 (o0 :: o1 :: o2 :: o3 :: o4 :: o5 :: o6 :: o7 :: o8 :: o9 :: o10 :: o11 :: o12 :: o13 :: o14 :: some d :: r) = ret d := rfl

theorem fn_ret {n N : Nat} {f : Env → M D} {ds : List D} (hl : ds.length = n) : fnM n N (retS f) ds = f (va (ds.map .dt ++ List.replicate (N - n) .no)) := by
  unfold fnM retS
  rw [if_pos hl, bind_bind]
  exact ret_bind _
theorem fc_ret {n : Nat} {T : List D → M D} {fs : Env → M (List D)} {env : Env} {ds : List D} (h : fs env = ret ds) (hl : ds.length = n) : fcM n T fs env = T ds := by
  unfold fcM
  rw [h, bind_ret, if_pos hl]
theorem lcN_eq {it : Env → M (List D)} {t : Tg} {vs : List Nat} {tt : Env → M Bool} {te : Env → M D} {env : Env} {xs : List D} (h : it env = ret xs) (hl : xs.length ≤ lim) : lcN it t vs tt te env = lcL t tt te (wipeE env vs) xs := by
  unfold lcN
  rw [h, bind_ret, if_pos hl]
/-- a comprehension over what a list is made of -/
theorem lcL_filt {α : Type} {i : Nat} {tt : Env → M Bool} {te : Env → M D} {env : Env} {l : List α} {f : α → D} {p : α → Bool} {g : α → D} (h1 : ∀ a ∈ l, tt (env.set i (some (f a))) = ret (p a)) (h2 : ∀ a ∈ l, p a = true → te (env.set i (some (f a))) = ret (g a)) :
    lcL (.nm i) tt te env (l.map f) = ret ((l.filter p).map g) := by
  induction l with
  | nil => rfl
  | cons a l ih =>
    have ih := ih (fun b hb => h1 b (List.mem_cons_of_mem _ hb)) fun b hb => h2 b (List.mem_cons_of_mem _ hb)
    rw [List.map_cons]
    unfold lcL
    rw [l_nm, lift_some, bind_ret]
    have e1 : nx (tt (putD env [(i, f a)])) = ret (p a) := by rw [show putD env [(i, f a)] = env.set i (some (f a)) from rfl, h1 a List.mem_cons_self]; rfl
    rw [e1, bind_ret, ih]
    by_cases hp : p a = true
    · have e2 : nx (te (putD env [(i, f a)])) = ret (g a) := by rw [show putD env [(i, f a)] = env.set i (some (f a)) from rfl, h2 a List.mem_cons_self hp]; rfl
      rw [if_pos hp, e2, bind_ret, bind_ret, List.filter_cons_of_pos hp]
      rfl
    · rw [if_neg hp, List.filter_cons_of_neg hp]
theorem lcL_each {α : Type} {i : Nat} {te : Env → M D} {env : Env} {l : List α} {f : α → D} {g : α → D} (h2 : ∀ a ∈ l, te (env.set i (some (f a))) = ret (g a)) :
    lcL (.nm i) yesT te env (l.map f) = ret (l.map g) := by
  have := lcL_filt (i := i) (tt := yesT) (te := te) (env := env) (l := l) (f := f) (p := fun _ => true) (g := g) (fun _ _ => rfl) fun a ha _ => h2 a ha
  rw [this, List.filter_eq_self.mpr fun _ _ => rfl]
theorem newM_ret {f : Env → M (List D)} {env : Env} {ds : List D} (h : f env = ret ds) : newM f env = ret (.lst ds) := by
  unfold newM
  rw [h]
  rfl
theorem dsp_ret {f : Env → M (List D)} {env : Env} {ds : List D} (h : f env = ret ds) (hl : ds.length ≤ lim) : dspN f env = ret ds := by
  unfold dspN
  rw [h, bind_ret, if_pos hl]
theorem cons_ret {f : Env → M D} {fs : Env → M (List D)} {env : Env} {d : D} {ds : List D} (h : f env = ret d) (hs : fs env = ret ds) : consA f fs env = ret (d :: ds) := by
  unfold consA
  rw [h, bind_ret, hs]
  rfl
theorem cal_ret {g : List D → Option D} {fs : Env → M (List D)} {env : Env} {ds : List D} {d : D} (h : fs env = ret ds) (hg : g ds = some d) : calM g fs env = ret d := by
  unfold calM
  rw [h, bind_ret, hg]
  rfl
theorem op_ret {g : D → D → Option D} {fa fb : Env → M D} {env : Env} {x y z : D} (ha : fa env = ret x) (hb : fb env = ret y) (h : g x y = some z) : opM g fa fb env = ret z := by
  unfold opM
  rw [ha, bind_ret, hb, bind_ret, h]
  rfl
theorem and_ret {fa fb : Env → M D} {env : Env} {a b : Bool} (ha : fa env = ret (.bl a)) (hb : a = true → fb env = ret (.bl b)) : andM fa fb env = ret (.bl (a && b)) := by
  unfold andM
  rw [ha, bind_ret]
  cases a with
  | true => exact hb rfl
  | false => rfl
theorem or_ret {fa fb : Env → M D} {env : Env} {a b : Bool} (ha : fa env = ret (.bl a)) (hb : a = false → fb env = ret (.bl b)) : orM fa fb env = ret (.bl (a || b)) := by
  unfold orM
  rw [ha, bind_ret]
  cases a with
  | true => rfl
  | false => exact hb rfl
theorem not_ret {fa : Env → M D} {env : Env} {a : Bool} (ha : fa env = ret (.bl a)) : notM fa env = ret (.bl !a) := by
  unfold notM
  rw [ha, bind_ret]
  rfl
theorem chain_ret {g g' : D → D → Option D} {fa fb fc : Env → M D} {env : Env} {x y z : D} {a b : Bool} (ha : fa env = ret x) (hb : fb env = ret y) (h : g x y = some (.bl a)) (hc : a = true → fc env = ret z) (h' : a = true → g' y z = some (.bl b)) : chainM g g' fa fb fc env = ret (.bl (a && b)) := by
  unfold chainM
  rw [ha, bind_ret, hb, bind_ret, h]
  cases a with
  | true =>
    show bind (fc env) (fun z => lift (g' y z)) = _
    rw [hc rfl, bind_ret, h' rfl]
    rfl
  | false => rfl
theorem asB_ret {f : Env → M D} {env : Env} {b : Bool} (h : f env = ret (.bl b)) : asB f env = ret b := by
  unfold asB
  rw [h]
  rfl
theorem notT_ret {f : Env → M Bool} {env : Env} {b : Bool} (h : f env = ret b) : notT f env = ret !b := by
  unfold notT
  rw [h]
  rfl
theorem andT_ret {f g : Env → M Bool} {env : Env} {a b : Bool} (h : f env = ret a) (h' : a = true → g env = ret b) : andT f g env = ret (a && b) := by
  unfold andT
  rw [h, bind_ret]
  cases a with
  | true => exact h' rfl
  | false => rfl
theorem orT_ret {f g : Env → M Bool} {env : Env} {a b : Bool} (h : f env = ret a) (h' : a = false → g env = ret b) : orT f g env = ret (a || b) := by
  unfold orT
  rw [h, bind_ret]
  cases a with
  | true => rfl
  | false => exact h' rfl
theorem if_ret {t : Env → M Bool} {fa fb : Env → M D} {env : Env} {b : Bool} {d : D} (h : t env = ret b) (h1 : b = true → fa env = ret d) (h2 : b = false → fb env = ret d) : ifM t fa fb env = ret d := by
  unfold ifM
  rw [h, bind_ret]
  cases b with
  | true => exact h1 rfl
  | false => exact h2 rfl
theorem it_ret {f : Env → M D} {env : Env} {d : D} {ds : List D} (h : f env = ret d) (hd : d.items = some ds) : itM f env = ret ds := by
  unfold itM
  rw [h, bind_ret, hd]
  rfl
theorem tup_ret {f : Env → M (List D)} {env : Env} {ds : List D} (h : f env = ret ds) (hl : ds.length ≤ lim) : tupM f env = ret (.tup ds) := by
  unfold tupM
  rw [h, bind_ret, if_pos hl]
  rfl
theorem sl_ret {fa : Env → M D} {fl fh : Env → M (Option Int)} {env : Env} {x z : D} {l h : Option Int} (ha : fa env = ret x) (hl : fl env = ret l) (hh : fh env = ret h) (hs : x.sl l h = some z) : slM fa fl fh env = ret z := by
  unfold slM
  rw [ha, bind_ret, hl, bind_ret, hh, bind_ret, hs]
  rfl
theorem some_ret {f : Env → M D} {env : Env} {i : Int} (h : f env = ret (.int i)) : someP f env = ret (some i) := by
  unfold someP
  rw [h]
  rfl
theorem mt1_ret {g : D → D → Option D} {fo fe : Env → M D} {env : Env} {x : Str} {y z : D} (ho : fo env = ret (.str x)) (he : fe env = ret y) (h : g (.str x) y = some z) : mt1M g fo fe env = ret z := by
  unfold mt1M
  rw [ho, bind_ret]
  show bind (fe env) (fun y => lift (g (.str x) y)) = _
  rw [he, bind_ret, h]
  rfl
/-! ### statements that do not roll -/
theorem asg_ret {i : Nat} {f : Env → M D} {env : SEnv} {d : D} (h : f (vw env) = ret d) : asgS i f env = ret (.next (env.set i (.dt d))) := by
  unfold asgS
  rw [h]
  rfl
theorem ret_ret {f : Env → M D} {env : SEnv} {d : D} (h : f (va env) = ret d) : retS f env = ret (.ret d) := by
  unfold retS
  rw [h]
  rfl
theorem seq_next {F G : SEnv → M Fl} {env e : SEnv} (h : F env = ret (.next e)) : seqS F G env = G e := by
  unfold seqS
  rw [h]
  rfl
theorem seq_ret {F G : SEnv → M Fl} {env : SEnv} {d : D} (h : F env = ret (.ret d)) : seqS F G env = ret (.ret d) := by
  unfold seqS
  rw [h]
  rfl
theorem ifS_eq {t : Env → M Bool} {F G : SEnv → M Fl} {env : SEnv} {b : Bool} (h : t (va env) = ret b) : ifS t F G env = if b then F env else G env := by
  unfold ifS
  rw [h]
  rfl
theorem ifS_t {t : Env → M Bool} {F G : SEnv → M Fl} {env : SEnv} (h : t (va env) = ret true) : ifS t F G env = F env := by
  unfold ifS
  rw [h]
  rfl
theorem ifS_f {t : Env → M Bool} {F G : SEnv → M Fl} {env : SEnv} (h : t (va env) = ret false) : ifS t F G env = G env := by
  unfold ifS
  rw [h]
  rfl
theorem nil_ret {env : SEnv} : nilS env = ret (.next env) := rfl
theorem fn_of {n N : Nat} {F : SEnv → M Fl} {ds : List D} {d : D} (hl : ds.length = n) (h : F (ds.map .dt ++ List.replicate (N - n) .no) = ret (.ret d)) : fnM n N F ds = ret d := by
  unfold fnM
  rw [if_pos hl, h]
  rfl
end Dv
set_option maxHeartbeats 4000000
namespace Dv
open PySem PySem.Spec PyProof.Rows L2
/-! ### what is shown of data below 128 -/
theorem reprChar_asc : ∀ q ∈ [34, 39], ∀ c ∈ List.range 128, ((Builtin.Str.reprChar q c).all fun d => decide (d < 128)) = true := by decide +kernel
theorem quote_or (x : Str) : reprQuote x = 34 ∨ reprQuote x = 39 := by
  unfold reprQuote
  split
  · exact .inl rfl
  · exact .inr rfl
theorem asc_repr {x : Str} (h : asc x = true) : asc (reprText x) = true := by
  have hq : reprQuote x ∈ [34, 39] := by rcases quote_or x with e | e <;> rw [e] <;> decide
  have hq2 : reprQuote x < 128 := by rcases quote_or x with e | e <;> rw [e] <;> decide
  have h := asc_iff.mp h
  have go : ∀ (l : List Nat) (acc : Array Nat), (∀ c ∈ l, c < 128) → (∀ c ∈ acc.toList, c < 128) → ∀ c ∈ (l.foldl (fun out c => out ++ (Builtin.Str.reprChar (reprQuote x) c).toArray) acc).toList, c < 128 := by
    intro l
    induction l with
    | nil => exact fun acc _ ha => ha
    | cons d l ih =>
      intro acc hl ha
      rw [List.foldl_cons]
      refine ih _ (fun c hc => hl c (List.mem_cons_of_mem _ hc)) fun c hc => ?_
      rw [Array.toList_append] at hc
      rcases List.mem_append.mp hc with z | z
      · exact ha c z
      · exact of_decide_eq_true (List.all_eq_true.mp (reprChar_asc _ hq d (List.mem_range.mpr (hl d List.mem_cons_self))) c (by simpa using z))
  rw [asc_iff]
  unfold reprText
  intro c hc
  have hc : c ∈ ((x.cps.foldl (fun out c => out ++ (Builtin.Str.reprChar (reprQuote x) c).toArray) #[reprQuote x]).push (reprQuote x)).toList := hc
  rw [Array.toList_push, ← Array.foldl_toList] at hc
  rcases List.mem_append.mp hc with z | z
  · exact go x.cps.toList #[reprQuote x] h (fun c hc => by have : c = reprQuote x := by simpa using hc
                                                           rw [this]; exact hq2) c z
  · have : c = reprQuote x := by simpa using z
    rw [this]; exact hq2
mutual
def shA : PyData → Bool
  | .none => true
  | .bool _ => true
  | .int _ => true
  | .str x => asc x
  | .list xs => shAs xs
  | .tuple xs => shAs xs
  | .dict _ => false
def shAs : List PyData → Bool
  | [] => true
  | x :: xs => shA x && shAs xs
end
theorem asc_join : ∀ ts : List Str, (∀ t ∈ ts, asc t = true) → asc (Str.join ", " ts) = true
  | [], _ => by decide +kernel
  | [x], h => h x List.mem_cons_self
  | x :: y :: r, h => by
    show asc (x ++ ", " ++ Str.join ", " (y :: r)) = true
    exact asc_app (asc_app (h x List.mem_cons_self) (by decide +kernel)) (asc_join (y :: r) fun t ht => h t (List.mem_cons_of_mem _ ht))
mutual
theorem asc_shown : ∀ p : PyData, shA p = true → asc p.shown = true
  | .none, _ => by rw [PyData.shown_none]; decide +kernel
  | .bool b, _ => by rw [PyData.shown_bool]; cases b <;> decide +kernel
  | .int i, _ => asc_iff.mpr fun c hc => by
    by_cases h : c < 128
    · exact h
    · exact absurd hc (PyProof.Rows.shown_int_free' ⟨by omega, by omega⟩ i)
  | .str x, h => by rw [PyData.shown_str]; simp only [shA] at h; exact asc_repr h
  | .list xs, h => by
    simp only [shA] at h
    rw [PyData.shown_list]
    exact asc_app (asc_app (by decide +kernel) (asc_join _ (asc_showns xs h))) (by decide +kernel)
  | .tuple xs, h => by
    simp only [shA] at h
    rw [PyData.shown_tuple]
    exact asc_app (asc_app (by decide +kernel) (asc_join _ (asc_showns xs h))) (by split <;> decide +kernel)
  | .dict _, h => by simp [shA] at h
theorem asc_showns : ∀ ps : List PyData, shAs ps = true → ∀ t ∈ PyData.shownAll ps, asc t = true
  | [], _, t, ht => by rw [PyData.shownAll_nil] at ht; cases ht
  | x :: xs, h, t, ht => by
    simp only [shAs, Bool.and_eq_true] at h
    rw [PyData.shownAll_cons] at ht
    rcases List.mem_cons.mp ht with rfl | z
    · exact asc_shown x h.1
    · exact asc_showns xs h.2 t z
end
theorem shAs_strs {ys : List Str} (h : ∀ y ∈ ys, asc y = true) : shAs (ys.map .str) = true := by
  induction ys with
  | nil => rfl
  | cons y ys ih =>
    simp only [List.map_cons, shAs, shA, h y List.mem_cons_self, Bool.true_and]
    exact ih fun z hz => h z (List.mem_cons_of_mem _ hz)
theorem shOks_strs {ys : List Str} (h : ∀ y ∈ ys, asc y = true) : shOks (ys.map .str) = true := by
  induction ys with
  | nil => rfl
  | cons y ys ih =>
    simp only [List.map_cons, shOks, shOk, asc_signs (h y List.mem_cons_self), Bool.true_and]
    exact ih fun z hz => h z (List.mem_cons_of_mem _ hz)
/-- the weight of texts of at most n signs -/
theorem shWs_strs {ys : List Str} {n : Nat} (h : ∀ y ∈ ys, y.length ≤ n) : shWs (ys.map .str) ≤ (10 * n + 4) * ys.length := by
  induction ys with
  | nil => simp [shWs]
  | cons y ys ih =>
    have := h y List.mem_cons_self
    have := ih fun z hz => h z (List.mem_cons_of_mem _ hz)
    simp only [List.map_cons, shWs, shW, List.length_cons, Nat.mul_succ]
    omega
/-- both sides show the same -/
theorem repr_eq {fa fb : Env → M D} {env : Env} {d : D} {p : PyData} (ha : fa env = ret d) (hb : fb env = ret d) (hp : d.py = some p) (ok : reprOk p = true) (sa : shA p = true) :
    opM D.eq (calM D.repr (consA fa nilA)) (calM D.repr (consA fb nilA)) env = ret (.bl true) := by
  have e : D.repr [d] = some (.str p.shown) := by simp only [D.repr, hp]; exact if_pos ok
  refine op_ret (cal_ret (cons_ret ha rfl) e) (cal_ret (cons_ret hb rfl) e) ((eq_str (asc_shown p sa) (asc_shown p sa)).trans ?_)
  rw [beq_self_eq_true]
theorem repr_ne {fa fb : Env → M D} {env : Env} {d : D} {p : PyData} (ha : fa env = ret d) (hb : fb env = ret d) (hp : d.py = some p) (ok : reprOk p = true) (sa : shA p = true) :
    opM D.ne (calM D.repr (consA fa nilA)) (calM D.repr (consA fb nilA)) env = ret (.bl false) := by
  have e : D.repr [d] = some (.str p.shown) := by simp only [D.repr, hp]; exact if_pos ok
  refine op_ret (cal_ret (cons_ret ha rfl) e) (cal_ret (cons_ret hb rfl) e) ((ne_str (asc_shown p sa) (asc_shown p sa)).trans ?_)
  rw [beq_self_eq_true]
  rfl
end Dv
set_option maxHeartbeats 4000000
namespace Dv
open PySem PySem.Spec PyProof.Rows L2
/-! ### mirrors with their slots told, for simp -/
def outM : Fl → M D
  | .ret d => ret d
  | .nw ds => ret (.lst ds)
  | .next _ => ret .non
  | _ => bad
def outN : Fl → M (List D)
  | .nw ds => ret ds
  | _ => bad
def nextM (G : SEnv → M Fl) : Fl → M Fl
  | .next e => G e
  | r => ret r
theorem outM_ret {d : D} : outM (.ret d) = ret d := Eq.trans rfl rfl
theorem outM_nw {d : List D} : outM (.nw d) = ret (.lst d) := Eq.trans rfl rfl
theorem outM_next {d : SEnv} : outM (.next d) = ret .non := Eq.trans rfl rfl
theorem outN_nw {d : List D} : outN (.nw d) = ret d := Eq.trans rfl rfl
theorem nextM_next {G : SEnv → M Fl} {e : SEnv} : nextM G (.next e) = G e := Eq.trans rfl rfl
theorem nextM_ret {G : SEnv → M Fl} {e : D} : nextM G (.ret e) = ret (.ret e) := Eq.trans rfl rfl
theorem nextM_nw {G : SEnv → M Fl} {e : List D} : nextM G (.nw e) = ret (.nw e) := Eq.trans rfl rfl
theorem nextM_brk {G : SEnv → M Fl} {e : SEnv} : nextM G (.brk e) = ret (.brk e) := Eq.trans rfl rfl
theorem nextM_cont {G : SEnv → M Fl} {e : SEnv} : nextM G (.cont e) = ret (.cont e) := Eq.trans rfl rfl
theorem fn_1 {n : Nat} {F : SEnv → M Fl} {a : D} : fnM 1 n F [a] = bind (F (.dt a :: List.replicate (n - 1) .no)) outM := by
  show bind _ _ = bind _ _; congr 1
theorem fn_2 {n : Nat} {F : SEnv → M Fl} {a b : D} : fnM 2 n F [a, b] = bind (F (.dt a :: .dt b :: List.replicate (n - 2) .no)) outM := by
  show bind _ _ = bind _ _; congr 1
theorem fn_3 {n : Nat} {F : SEnv → M Fl} {a b c : D} : fnM 3 n F [a, b, c] = bind (F (.dt a :: .dt b :: .dt c :: List.replicate (n - 3) .no)) outM := by
  show bind _ _ = bind _ _; congr 1
theorem fn_4 {n : Nat} {F : SEnv → M Fl} {a b c d : D} : fnM 4 n F [a, b, c, d] = bind (F (.dt a :: .dt b :: .dt c :: .dt d :: List.replicate (n - 4) .no)) outM := by
  show bind _ _ = bind _ _; congr 1
theorem fn_5 {n : Nat} {F : SEnv → M Fl} {a b c d e : D} : fnM 5 n F [a, b, c, d, e] = bind (F (.dt a :: .dt b :: .dt c :: .dt d :: .dt e :: List.replicate (n - 5) .no)) outM := by
  show bind _ _ = bind _ _; congr 1
theorem fnN_1 {n : Nat} {F : SEnv → M Fl} {a : D} : fnN 1 n F [a] = bind (F (.dt a :: List.replicate (n - 1) .no)) outN := by
  show bind _ _ = bind _ _; congr 1
theorem fnN_2 {n : Nat} {F : SEnv → M Fl} {a b : D} : fnN 2 n F [a, b] = bind (F (.dt a :: .dt b :: List.replicate (n - 2) .no)) outN := by
  show bind _ _ = bind _ _; congr 1
theorem fc_1 {T : List D → M D} {fs : Env → M D} {env : Env} : fcM 1 T (consA fs nilA) env = bind (fs env) fun a => T [a] := by
  unfold fcM consA nilA; rw [bind_bind]; rfl
theorem fc_2 {T : List D → M D} {f g : Env → M D} {env : Env} : fcM 2 T (consA f (consA g nilA)) env = bind (f env) fun a => bind (g env) fun b => T [a, b] := by
  unfold fcM consA nilA; simp only [bind_bind, bind_ret]; rfl
theorem fc_3 {T : List D → M D} {f g h : Env → M D} {env : Env} : fcM 3 T (consA f (consA g (consA h nilA))) env = bind (f env) fun a => bind (g env) fun b => bind (h env) fun c => T [a, b, c] := by
  unfold fcM consA nilA; simp only [bind_bind, bind_ret]; rfl
theorem fc_4 {T : List D → M D} {f g h k : Env → M D} {env : Env} : fcM 4 T (consA f (consA g (consA h (consA k nilA)))) env = bind (f env) fun a => bind (g env) fun b => bind (h env) fun c => bind (k env) fun d => T [a, b, c, d] := by
  unfold fcM consA nilA; simp only [bind_bind, bind_ret]; rfl
theorem fc_5 {T : List D → M D} {f g h k l : Env → M D} {env : Env} : fcM 5 T (consA f (consA g (consA h (consA k (consA l nilA))))) env = bind (f env) fun a => bind (g env) fun b => bind (h env) fun c => bind (k env) fun d => bind (l env) fun e => T [a, b, c, d, e] := by
  unfold fcM consA nilA; simp only [bind_bind, bind_ret]; rfl
theorem seq_asg {i : Nat} {f : Env → M D} {G : SEnv → M Fl} {env : SEnv} : seqS (asgS i f) G env = bind (f (vw env)) fun d => G (env.set i (.dt d)) := by
  unfold seqS asgS; rw [bind_bind]; rfl
theorem seq_asgN {i : Nat} {f : Env → M (List D)} {G : SEnv → M Fl} {env : SEnv} : seqS (asgN i f) G env = bind (f (vw env)) fun d => G (env.set i (.ow d)) := by
  unfold seqS asgN; rw [bind_bind]; rfl
theorem seq_gen {F G : SEnv → M Fl} {env : SEnv} : seqS F G env = bind (F env) (nextM G) := by
  unfold seqS; congr 1
theorem seq_nil {G : SEnv → M Fl} {env : SEnv} : seqS nilS G env = G env := Eq.trans rfl rfl
theorem ret_S {f : Env → M D} {env : SEnv} : retS f env = bind (f (va env)) fun d => ret (.ret d) := Eq.trans rfl rfl
/-- a test ahead of the rest -/
theorem seq_if {t : Env → M Bool} {A B G : SEnv → M Fl} {env : SEnv} : seqS (ifS t A B) G env = bind (t (va env)) fun b => if b then seqS A G env else seqS B G env := by
  unfold seqS ifS
  rw [bind_bind]
  congr 1
  funext b
  cases b <;> rfl
theorem seq_seq {A B G : SEnv → M Fl} {env : SEnv} : seqS (seqS A B) G env = seqS A (seqS B G) env := by
  unfold seqS
  rw [bind_bind]
  congr 1
  funext r
  cases r <;> rfl
theorem seq_retS {f : Env → M D} {G : SEnv → M Fl} {env : SEnv} : seqS (retS f) G env = retS f env := by
  unfold seqS retS
  rw [bind_bind]
  rfl
theorem if_M {t : Env → M Bool} {A B : SEnv → M Fl} {env : SEnv} : ifS t A B env = bind (t (va env)) fun b => if b then A env else B env := Eq.trans rfl rfl
theorem vw_cons {s : Sl} {r : SEnv} : vw (s :: r) = s.vw :: vw r := Eq.trans rfl rfl
theorem va_cons {s : Sl} {r : SEnv} : va (s :: r) = s.va :: va r := Eq.trans rfl rfl
theorem vw_nil : vw [] = [] := Eq.trans rfl rfl
theorem va_nil : va [] = [] := Eq.trans rfl rfl
theorem vw_dt {d : D} : Sl.vw (.dt d) = some d := Eq.trans rfl rfl
theorem vw_no : Sl.vw .no = none := Eq.trans rfl rfl
theorem vw_ow {d : List D} : Sl.vw (.ow d) = none := Eq.trans rfl rfl
theorem va_dt {d : D} : Sl.va (.dt d) = some d := Eq.trans rfl rfl
theorem va_no : Sl.va .no = none := Eq.trans rfl rfl
theorem va_ow {d : List D} : Sl.va (.ow d) = some (.lst d) := Eq.trans rfl rfl
theorem op_M {g : D → D → Option D} {fa fb : Env → M D} {env : Env} : opM g fa fb env = bind (fa env) fun x => bind (fb env) fun y => lift (g x y) := Eq.trans rfl rfl
theorem kc_M {d : D} {env : Env} : kc d env = ret d := Eq.trans rfl rfl
theorem cal_1 {g : List D → Option D} {f : Env → M D} {env : Env} : calM g (consA f nilA) env = bind (f env) fun a => lift (g [a]) := by
  unfold calM consA nilA; rw [bind_bind]; rfl
theorem cal_2 {g : List D → Option D} {f h : Env → M D} {env : Env} : calM g (consA f (consA h nilA)) env = bind (f env) fun a => bind (h env) fun b => lift (g [a, b]) := by
  unfold calM consA nilA; simp only [bind_bind, bind_ret]
theorem as_B {f : Env → M D} {env : Env} : asB f env = bind (f env) fun x => lift x.bl? := Eq.trans rfl rfl
theorem bl_bl {b : Bool} : D.bl? (.bl b) = some b := Eq.trans rfl rfl
theorem not_M {f : Env → M D} {env : Env} : notM f env = bind (f env) fun x => bind (lift x.bl?) fun t => ret (.bl (!t)) := Eq.trans rfl rfl
theorem not_T {f : Env → M Bool} {env : Env} : notT f env = bind (f env) fun t => ret (!t) := Eq.trans rfl rfl
theorem and_T {f g : Env → M Bool} {env : Env} : andT f g env = bind (f env) fun t => if t then g env else ret false := Eq.trans rfl rfl
theorem or_T {f g : Env → M Bool} {env : Env} : orT f g env = bind (f env) fun t => if t then ret true else g env := Eq.trans rfl rfl
theorem and_M {f g : Env → M D} {env : Env} : andM f g env = bind (f env) fun x => bind (lift x.bl?) fun t => if t then g env else ret (.bl false) := Eq.trans rfl rfl
theorem or_M {f g : Env → M D} {env : Env} : orM f g env = bind (f env) fun x => bind (lift x.bl?) fun t => if t then ret (.bl true) else g env := Eq.trans rfl rfl
theorem if_E {t : Env → M Bool} {f g : Env → M D} {env : Env} : ifM t f g env = bind (t env) fun b => if b then f env else g env := Eq.trans rfl rfl
theorem cons_A {f : Env → M D} {fs : Env → M (List D)} {env : Env} : consA f fs env = bind (f env) fun x => bind (fs env) fun xs => ret (x :: xs) := Eq.trans rfl rfl
theorem nil_A {env : Env} : nilA env = ret [] := Eq.trans rfl rfl
theorem tup_M {fs : Env → M (List D)} {env : Env} : tupM fs env = bind (fs env) fun xs => lift (if xs.length ≤ lim then some (.tup xs) else none) := Eq.trans rfl rfl
theorem new_M {f : Env → M (List D)} {env : Env} : newM f env = bind (f env) fun ds => ret (.lst ds) := Eq.trans rfl rfl
theorem dsp_N {fs : Env → M (List D)} {env : Env} : dspN fs env = bind (fs env) fun xs => if xs.length ≤ lim then ret xs else bad := Eq.trans rfl rfl
theorem sl_M {f : Env → M D} {l h : Env → M (Option Int)} {env : Env} : slM f l h env = bind (f env) fun x => bind (l env) fun l => bind (h env) fun h => lift (x.sl l h) := Eq.trans rfl rfl
theorem no_P {env : Env} : noP env = ret none := Eq.trans rfl rfl
theorem some_P {f : Env → M D} {env : Env} : someP f env = bind (f env) fun x => bind (lift x.int?) fun i => ret (some i) := Eq.trans rfl rfl
theorem it_M {f : Env → M D} {env : Env} : itM f env = bind (f env) fun d => lift d.items := Eq.trans rfl rfl
theorem mt1_M {g : D → D → Option D} {fo fe : Env → M D} {env : Env} {x : Str} (h : fo env = ret (.str x)) : mt1M g fo fe env = bind (fe env) fun y => lift (g (.str x) y) := by
  unfold mt1M; rw [h, bind_ret]; rfl
theorem lc_N {it : Env → M (List D)} {t : Tg} {vs : List Nat} {tt : Env → M Bool} {te : Env → M D} {env : Env} : lcN it t vs tt te env = bind (it env) fun xs => if xs.length ≤ lim then lcL t tt te (wipeE env vs) xs else bad := Eq.trans rfl rfl
theorem frz_S {i : Nat} {F : SEnv → M Fl} {env : SEnv} : frzS i F env = F (frzE i env) := Eq.trans rfl rfl
theorem ite_t {α : Type} {a b : α} : (if true = true then a else b) = a := if_pos rfl
theorem ite_f {α : Type} {a b : α} : (if false = true then a else b) = b := if_neg (fun z => nomatch z)
theorem lift_of {α : Type} {o : Option α} {a : α} (h : o = some a) : lift o = ret a := by rw [h]; rfl
theorem ite_bl {a b : Bool} : (if a = true then ret (D.bl b) else ret (.bl false)) = ret (.bl (a && b)) := by cases a <;> rfl
theorem ite_bl' {a b : Bool} : (if a = true then ret (.bl true) else ret (D.bl b)) = ret (.bl (a || b)) := by cases a <;> rfl
theorem ite_B {a b : Bool} : (if a = true then ret b else ret false) = ret (a && b) := by cases a <;> rfl
theorem ite_B' {a b : Bool} : (if a = true then ret true else ret b) = ret (a || b) := by cases a <;> rfl
/-! ### numbers -/
theorem mod_int {i j : Int} (h : 0 < j) : D.mod (.int i) (.int j) = some (.int (i % j)) := if_pos h
theorem fdiv_int {i j : Int} (h : 0 < j) (h2 : j.natAbs.log2 < 9000) : D.fdiv (.int i) (.int j) = some (.int (i / j)) := if_pos ⟨h, h2⟩
theorem log2_small {i : Int} {k : Nat} (h : i.natAbs < 2 ^ k) (hk : 0 < k) : i.natAbs.log2 < k := by
  by_cases z : i.natAbs = 0
  · rw [z]; exact hk
  · exact (Nat.log2_lt z).mpr h
theorem mul_int {i j : Int} (h : i.natAbs.log2 < 4000) (h2 : j.natAbs.log2 < 4000) : D.mul (.int i) (.int j) = some (.int (i * j)) := if_pos (by omega)
theorem mul_str {x : Str} {n : Int} (h : 2 ≤ n ∧ n ≤ 1000 ∧ 1 ≤ x.length ∧ x.length ≤ 100) : D.mul (.str x) (.int n) = some (.str (repS n.toNat x)) := by
  simp only [D.mul, if_pos h]
theorem add_str {x y : Str} (h : x.length + y.length ≤ lim) : D.add (.str x) (.str y) = some (.str (x ++ y)) := if_pos h
theorem len_sign {c : Nat} : (⟨#[c]⟩ : Str).length = 1 := rfl
theorem asc_sign {c : Nat} (h : c < 128) : asc ⟨#[c]⟩ = true := by unfold asc; simpa using h
theorem int_some {i : Int} : D.int? (.int i) = some i := Eq.trans rfl rfl
theorem lim_of {n : Nat} (h : n ≤ 100000) : n ≤ lim := h
theorem filter_none {p : Str → Bool} : ∀ l : List Str, ((l.filter fun y => !p y) == []) = l.all p
  | [] => rfl
  | y :: l => by
    cases h : p y with
    | true => rw [List.filter_cons_of_neg (by simp [h]), filter_none l, List.all_cons, h]; rfl
    | false => rw [List.filter_cons_of_pos (by simp [h]), List.all_cons, h]; rfl
/-- a number of at most 64 bits -/
theorem log2_64 {i : Int} (h0 : 0 ≤ i) (h : i < 18446744073709551616) : i.natAbs.log2 < 64 := log2_small (k := 64) (by
  have : i.natAbs < 18446744073709551616 := by omega
  exact this) (by omega)
/-! the same, not by rfl alone -/
theorem b_ret {α β : Type} (a : α) (f : α → M β) : bind (ret a) f = f a := Eq.trans rfl rfl
theorem l_some {α : Type} (a : α) : lift (some a) = ret a := Eq.trans rfl rfl
theorem l_none {α : Type} : lift (none : Option α) = bad := Eq.trans rfl rfl
theorem b_bad {α β : Type} (f : α → M β) : bind bad f = bad := Eq.trans rfl rfl
theorem b_exc {α β : Type} {c : Nat} {fs : List (Str × D)} (f : α → M β) : bind (excM c fs) f = excM c fs := Eq.trans rfl rfl
theorem v_0 {d : D} {r : Env} : vr 0 (some d :: r) = ret d := Eq.trans rfl rfl
theorem v_s {o : Option D} {r : Env} {n : Nat} : vr (n + 1) (o :: r) = vr n r := by
  unfold vr
  rw [List.getElem?_cons_succ]
theorem nx_r {α : Type} (a : α) : nx (ret a) = ret a := Eq.trans rfl rfl
theorem nx_x {α : Type} {c : Nat} {fs : List (Str × D)} : nx (excM c fs : M α) = bad := Eq.trans rfl rfl
theorem w_1 {o0 : Option D} {d : D} {r : Env} : vr 1 (o0 :: some d :: r) = ret d := Eq.trans rfl rfl
theorem w_2 {o0 o1 : Option D} {d : D} {r : Env} : vr 2 (o0 :: o1 :: some d :: r) = ret d := Eq.trans rfl rfl
theorem w_3 {o0 o1 o2 : Option D} {d : D} {r : Env} : vr 3 (o0 :: o1 :: o2 :: some d :: r) = ret d := Eq.trans rfl rfl
theorem w_4 {o0 o1 o2 o3 : Option D} {d : D} {r : Env} : vr 4 (o0 :: o1 :: o2 :: o3 :: some d :: r) = ret d := Eq.trans rfl rfl
theorem w_5 {o0 o1 o2 o3 o4 : Option D} {d : D} {r : Env} : vr 5 (o0 :: o1 :: o2 :: o3 :: o4 :: some d :: r) = ret d := Eq.trans rfl rfl
theorem w_6 {o0 o1 o2 o3 o4 o5 : Option D} {d : D} {r : Env} : vr 6 (o0 :: o1 :: o2 :: o3 :: o4 :: o5 :: some d :: r) = ret d := Eq.trans rfl rfl
theorem w_7 {o0 o1 o2 o3 o4 o5 o6 : Option D} {d : D} {r : Env} : vr 7 (o0 :: o1 :: o2 :: o3 :: o4 :: o5 :: o6 :: some d :: r) = ret d := Eq.trans rfl rfl
theorem w_8 {o0 o1 o2 o3 o4 o5 o6 o7 : Option D} {d : D} {r : Env} : vr 8 (o0 :: o1 :: o2 :: o3 :: o4 :: o5 :: o6 :: o7 :: some d :: r) = ret d := Eq.trans rfl rfl
theorem w_9 {o0 o1 o2 o3 o4 o5 o6 o7 o8 : Option D} {d : D} {r : Env} : vr 9 (o0 :: o1 :: o2 :: o3 :: o4 :: o5 :: o6 :: o7 :: o8 :: some d :: r) = ret d := Eq.trans rfl rfl
theorem w_10 {o0 o1 o2 o3 o4 o5 o6 o7 o8 o9 : Option D} {d : D} {r : Env} : vr 10 (o0 :: o1 :: o2 :: o3 :: o4 :: o5 :: o6 :: o7 :: o8 :: o9 :: some d :: r) = ret d := Eq.trans rfl rfl
theorem w_11 {o0 o1 o2 o3 o4 o5 o6 o7 o8 o9 o10 : Option D} {d : D} {r : Env} : vr 11 (o0 :: o1 :: o2 :: o3 :: o4 :: o5 :: o6 :: o7 :: o8 :: o9 :: o10 :: some d :: r) = ret d := Eq.trans rfl rfl
theorem w_12 {o0 o1 o2 o3 o4 o5 o6 o7 o8 o9 o10 o11 : Option D} {d : D} {r : Env} : vr 12 (o0 :: o1 :: o2 :: o3 :: o4 :: o5 :: o6 :: o7 :: o8 :: o9 :: o10 :: o11 :: some d :: r) = ret d := Eq.trans rfl rfl
theorem w_13 {o0 o1 o2 o3 o4 o5 o6 o7 o8 o9 o10 o11 o12 : Option D} {d : D} {r : Env} : vr 13 (o0 :: o1 :: o2 :: o3 :: o4 :: o5 :: o6 :: o7 :: o8 :: o9 :: o10 :: o11 :: o12 :: some d :: r) = ret d := Eq.trans rfl rfl
theorem w_14 {o0 o1 o2 o3 o4 o5 o6 o7 o8 o9 o10 o11 o12 o13 : Option D} {d : D} {r : Env} : vr 14 (o0 :: o1 :: o2 :: o3 :: o4 :: o5 :: o6 :: o7 :: o8 :: o9 :: o10 :: o11 :: o12 :: o13 :: some d :: r) = ret d := Eq.trans rfl rfl
theorem w_15 {o0 o1 o2 o3 o4 o5 o6 o7 o8 o9 o10 o11 o12 o13 o14 : Option D} {d : D} {r : Env} : vr 15 (o0 :: o1 :: o2 :: o3 :: o4 :: o5 :: o6 :: o7 :: o8 :: o9 :: o10 :: o11 :: o12 :: o13 :: o14 :: some d :: r) = ret d := Eq.trans rfl rfl
theorem w_16 {o0 o1 o2 o3 o4 o5 o6 o7 o8 o9 o10 o11 o12 o13 o14 o15 : Option D} {d : D} {r : Env} : vr 16 (o0 :: o1 :: o2 :: o3 :: o4 :: o5 :: o6 :: o7 :: o8 :: o9 :: o10 :: o11 :: o12 :: o13 :: o14 :: o15 :: some d :: r) = ret d := Eq.trans rfl rfl
theorem w_17 {o0 o1 o2 o3 o4 o5 o6 o7 o8 o9 o10 o11 o12 o13 o14 o15 o16 : Option D} {d : D} {r : Env} : vr 17 (o0 :: o1 :: o2 :: o3 :: o4 :: o5 :: o6 :: o7 :: o8 :: o9 :: o10 :: o11 :: o12 :: o13 :: o14 :: o15 :: o16 :: some d :: r) = ret d := Eq.trans rfl rfl
theorem w_18 {o0 o1 o2 o3 o4 o5 o6 o7 o8 o9 o10 o11 o12 o13 o14 o15 o16 o17 : Option D} {d : D} {r : Env} : vr 18 (o0 :: o1 :: o2 :: o3 :: o4 :: o5 :: o6 :: o7 :: o8 :: o9 :: o10 :: o11 :: o12 :: o13 :: o14 :: o15 :: o16 :: o17 :: some d :: r) = ret d := Eq.trans rfl rfl
theorem w_19 {o0 o1 o2 o3 o4 o5 o6 o7 o8 o9 o10 o11 o12 o13 o14 o15 o16 o17 o18 : Option D} {d : D} {r : Env} : vr 19 (o0 :: o1 :: o2 :: o3 :: o4 :: o5 :: o6 :: o7 :: o8 :: o9 :: o10 :: o11 :: o12 :: o13 :: o14 :: o15 :: o16 :: o17 :: o18 :: some d :: r) = ret d := Eq.trans rfl rfl
theorem lim_eq : lim = 100000 := Eq.trans rfl rfl
theorem lam_M {S : M D → M D} {f : Env → M D} {env : Env} : lamM S f env = nx (S (f env)) := Eq.trans rfl rfl
theorem seq_frz {i : Nat} {F G : SEnv → M Fl} {env : SEnv} : seqS (frzS i F) G env = seqS F G (frzE i env) := Eq.trans rfl rfl
def appG (f : Env → M D) (i : Nat) (env : SEnv) (G : SEnv → M Fl) : Option Sl → M Fl
  | some (.ow ds) => bind (f (vw env)) fun d => if ds.length < lim then G (env.set i (.ow (ds ++ [d]))) else bad
  | _ => bad
theorem seq_app {i : Nat} {f : Env → M D} {G : SEnv → M Fl} {env : SEnv} : seqS (appS i f) G env = appG f i env G env[i]? := by
  unfold seqS appS
  cases env[i]? with
  | none => rfl
  | some s =>
    cases s with
    | ow ds =>
      show bind (bind _ _) _ = bind _ _
      rw [bind_bind]
      congr 1
      funext d
      by_cases h : ds.length < lim
      · rw [if_pos h, if_pos h]; rfl
      · rw [if_neg h, if_neg h]; rfl
    | _ => rfl
theorem appG_ow {f : Env → M D} {i : Nat} {env : SEnv} {G : SEnv → M Fl} {ds : List D} : appG f i env G (some (.ow ds)) = bind (f (vw env)) fun d => if ds.length < lim then G (env.set i (.ow (ds ++ [d]))) else bad := Eq.trans rfl rfl
def frzG (i : Nat) (env : SEnv) : Option Sl → SEnv
  | some (.ow ds) => env.set i (.dt (.lst ds))
  | some (.od ds) => env.set i (.dt (.dic ds))
  | _ => env
theorem frz_E {i : Nat} {env : SEnv} : frzE i env = frzG i env env[i]? := by
  unfold frzE
  cases env[i]? with
  | none => rfl
  | some s => cases s <;> rfl
theorem frzG_ow {i : Nat} {env : SEnv} {ds : List D} : frzG i env (some (.ow ds)) = env.set i (.dt (.lst ds)) := Eq.trans rfl rfl
theorem frzG_dt {i : Nat} {env : SEnv} {d : D} : frzG i env (some (.dt d)) = env := Eq.trans rfl rfl
def mtG (g : D → D → Option D) (x : D) (m : M D) : M D := match x with
  | .str x => bind m fun y => lift (g (.str x) y)
  | _ => bad
theorem mt1_G {g : D → D → Option D} {fo fe : Env → M D} {env : Env} : mt1M g fo fe env = bind (fo env) fun x => mtG g x (fe env) := by
  unfold mt1M
  congr 1
  funext x
  cases x <;> rfl
theorem mtG_str {g : D → D → Option D} {x : Str} {m : M D} : mtG g (.str x) m = bind m fun y => lift (g (.str x) y) := Eq.trans rfl rfl
theorem rng_1 {f : Env → M D} {env : Env} : rng1M (consA f nilA) env = bind (f env) fun a => lift (rng1D [a]) := by
  unfold rng1M consA nilA; rw [bind_bind]; rfl
theorem rng_2 {f g : Env → M D} {env : Env} : rng2M (consA f (consA g nilA)) env = bind (f env) fun a => bind (g env) fun b => lift (rng2D [a, b]) := by
  unfold rng2M consA nilA; simp only [bind_bind, bind_ret]
theorem rng_ok {i : Int} (h : i < 1000000000) (h0 : -1000000000 < i) : rng1D [.int i] = some (intsD 0 i.toNat) := if_pos (decide_eq_true ⟨by omega, by omega⟩)
theorem put_D {env : Env} {i : Nat} {d : D} : putD env [(i, d)] = env.set i (some d) := Eq.trans rfl rfl
theorem ite_lim {α : Type} {n : Nat} {a b : α} (h : n ≤ lim) : (if n ≤ lim then a else b) = a := if_pos h
theorem Run.lc {i : Nat} {te : Env → M D} {env : Env} {k n : Nat} {P : D → Prop} {xs : List D} (hn : xs.length ≤ n) (h : ∀ x ∈ xs, Run k P (te (env.set i (some x)))) : Run (k * n) (fun ys => ys.length = xs.length ∧ ∀ y ∈ ys, P y) (lcL (.nm i) yesT te env xs) :=
  Run.mono (lcL_run fun x hx => ⟨_, l_nm i x, h x hx⟩) (Nat.mul_le_mul_left k hn) fun _ z => z
theorem Run.b {α β : Type} {k n : Nat} {P : α → Prop} {Q : β → Prop} {m : M α} {f : α → M β} (h : Run k P m) (h' : ∀ a, P a → Run (n - k) Q (f a)) (hk : k ≤ n := by omega) : Run n Q (Dv.bind m f) :=
  Run.mono (Run.bind h h') (by omega) fun _ z => z
theorem Run.r {α : Type} {k : Nat} {P : α → Prop} {a : α} (h : P a) : Run k P (Dv.ret a) := Run.mono (Run.ret h) (Nat.zero_le _) fun _ z => z
theorem Run.i {α : Type} {k : Nat} {P : α → Prop} {b : Bool} {m m' : M α} (h : b = true → Run k P m) (h' : b = false → Run k P m') : Run k P (if b = true then m else m') := by
  cases b with
  | true => exact h rfl
  | false => exact h' rfl
theorem Run.bi {α β : Type} {k : Nat} {P : β → Prop} {b : Bool} {m m' : M α} {f : α → M β} (h : b = true → Run k P (Dv.bind m f)) (h' : b = false → Run k P (Dv.bind m' f)) : Run k P (Dv.bind (if b = true then m else m') f) := by
  cases b with
  | true => exact h rfl
  | false => exact h' rfl
theorem Run.le {α : Type} {k k' : Nat} {P : α → Prop} {m : M α} (h : Run k P m) (hk : k ≤ k' := by omega) : Run k' P m := Run.mono h hk fun _ z => z
theorem Run.lim {α : Type} {k n : Nat} {P : α → Prop} {m m' : M α} (h : n ≤ lim) (r : Run k P m) : Run k P (if n ≤ lim then m else m') := by rw [if_pos h]; exact r
theorem intsD_mem {n : Nat} {d : D} (h : d ∈ intsD 0 n) : ∃ i : Nat, i < n ∧ d = .int i := by
  unfold intsD at h
  obtain ⟨i, hi, rfl⟩ := List.mem_map.mp h
  exact ⟨i, List.mem_range.mp hi, by show D.int (0 + Int.ofNat i) = _; rw [Int.zero_add]; rfl⟩
/-! ### dice -/
def getM (k : Nat) : M D := fun δ => .ok (.int (δ.at k)) δ
def dgetM (k : Nat) : D → M D
  | .dice => getM k
  | _ => bad
def putM {α : Type} (k : Nat) (i : Int) (m : M α) : M α := fun δ => m (δ.set k i)
def dputM {α : Type} (k : Nat) (m : M α) : D → D → M α
  | .dice, .int i => putM k i m
  | _, _ => bad
theorem dix_M {k : Nat} {f : Env → M D} {env : Env} : dixM k f env = bind (f env) (dgetM k) := by
  unfold dixM
  congr 1
theorem dget_dice {k : Nat} : dgetM k .dice = getM k := Eq.trans rfl rfl
theorem dput_dice {α : Type} {k : Nat} {m : M α} {i : Int} : dputM k m .dice (.int i) = putM k i m := Eq.trans rfl rfl
theorem get_bind {α : Type} {k : Nat} {f : D → M α} {δ : Dice} : bind (getM k) f δ = f (.int (δ.at k)) δ := Eq.trans rfl rfl
theorem put_bind {α β : Type} {k : Nat} {i : Int} {m : M α} {f : α → M β} : bind (putM k i m) f = putM k i (bind m f) := Eq.trans rfl rfl
theorem put_at {α : Type} {k : Nat} {i : Int} {m : M α} {δ : Dice} : putM k i m δ = m (δ.set k i) := Eq.trans rfl rfl
theorem seq_dice {k : Nat} {fa fe : Env → M D} {G : SEnv → M Fl} {env : SEnv} : seqS (diceS k fa fe) G env = bind (fe (vw env)) fun v => bind (fa (vw env)) fun x => dputM k (G env) x v := by
  unfold seqS diceS
  rw [bind_bind]
  congr 1
  funext v
  rw [bind_bind]
  congr 1
  funext x
  cases x <;> cases v <;> rfl
theorem get_at {k : Nat} {δ : Dice} : getM k δ = .ok (.int (δ.at k)) δ := Eq.trans rfl rfl
theorem ret_at {α : Type} {a : α} {δ : Dice} : ret a δ = .ok a δ := Eq.trans rfl rfl
theorem at_0 {δ : Dice} : δ.at 0 = δ.1 := Eq.trans rfl rfl
theorem at_1 {δ : Dice} : δ.at 1 = δ.2.1 := Eq.trans rfl rfl
theorem at_2 {δ : Dice} : δ.at 2 = δ.2.2 := Eq.trans rfl rfl
theorem toInt_i {i : Int} : D.toInt [.int i] = some (.int i) := Eq.trans rfl rfl
theorem toInt_b {b : Bool} : D.toInt [.bl b] = some (.int (if b then 1 else 0)) := Eq.trans rfl rfl
theorem add_int {i j : Int} : D.add (.int i) (.int j) = some (.int (i + j)) := Eq.trans rfl rfl
theorem sub_int {i j : Int} : D.sub (.int i) (.int j) = some (.int (i - j)) := Eq.trans rfl rfl
end Dv
set_option maxHeartbeats 4000000
namespace Dv
open PySem PySem.Spec PyProof.Rows L2
theorem powB_int {i j : Int} (h : 2 ≤ i ∧ 1 ≤ j ∧ ((Builtin.Int.intBits i : Nat) : Int) * j ≤ 100000) : D.powB (.int i) (.int j) = some (.int (i ^ j.toNat)) := by
  simp only [D.powB, if_pos h]
theorem nil_S {env : SEnv} : nilS env = ret (.next env) := Eq.trans rfl rfl
theorem cut_take {α : Type} (xs : List α) (n : Nat) : cutL xs none (some (n : Int)) = xs.take n := by
  unfold cutL
  rw [show HT.sIx xs.length 0 none = 0 from rfl, HT.sIx_nat]
  simp [List.take_eq_take_iff]
theorem cut_drop {α : Type} (xs : List α) (n : Nat) : cutL xs (some (n : Int)) none = xs.drop n := by
  unfold cutL
  rw [show HT.sIx xs.length xs.length none = xs.length from rfl, HT.sIx_nat]
  by_cases h : n ≤ xs.length
  · rw [Nat.min_eq_left h, List.take_of_length_le (by simp)]
  · rw [Nat.min_eq_right (by omega), List.drop_eq_nil_of_le (Nat.le_refl _), List.drop_eq_nil_of_le (by omega)]
    simp
theorem dsp_D {kvs : Pm} {env : Env} : dspD kvs env = bind (pairsM kvs env) fun l => lift (D.disp l) := Eq.trans rfl rfl
theorem prs_nil {env : Env} : pairsM [] env = ret [] := Eq.trans rfl rfl
theorem prs_cons {f g : Env → M D} {r : Pm} {env : Env} : pairsM ((f, g) :: r) env = bind (f env) fun x => bind (g env) fun y => bind (pairsM r env) fun l => ret ((x, y) :: l) := Eq.trans rfl rfl
theorem ret_W {f : Env → M (List D)} {env : SEnv} : retW f env = bind (f (vw env)) fun ds => ret (.nw ds) := Eq.trans rfl rfl
theorem seq_asgT {t : Tg} {f : Env → M D} {G : SEnv → M Fl} {env : SEnv} : seqS (asgT t f) G env = bind (f (vw env)) fun d => bind (lift (t.l d)) fun m => G (putS env m) := by
  unfold seqS asgT
  rw [bind_bind]
  congr 1
  funext d
  rw [bind_bind]
  rfl
theorem put_S0 {env : SEnv} : putS env [] = env := Eq.trans rfl rfl
theorem put_S {env : SEnv} {i : Nat} {d : D} {r : List (Nat × D)} : putS env ((i, d) :: r) = putS (env.set i (.dt d)) r := Eq.trans rfl rfl
theorem put_D0 {env : Env} : putD env [] = env := Eq.trans rfl rfl
theorem put_Dc {env : Env} {i : Nat} {d : D} {r : List (Nat × D)} : putD env ((i, d) :: r) = putD (env.set i (some d)) r := Eq.trans rfl rfl
theorem tg_nm {i : Nat} {d : D} : (Tg.nm i).l d = some [(i, d)] := l_nm i d
theorem tg_2 {i j : Nat} {a b : D} : (Tg.tp [.nm i, .nm j]).l (.tup [a, b]) = some [(i, a), (j, b)] := by simp [Tg.l, Tg.ls]
theorem tg_3 {i j k : Nat} {a b c : D} : (Tg.tp [.nm i, .nm j, .nm k]).l (.tup [a, b, c]) = some [(i, a), (j, b), (k, c)] := by simp [Tg.l, Tg.ls]
theorem seq_for {it : Env → M (List D)} {t : Tg} {F G : SEnv → M Fl} {env : SEnv} : seqS (forM it t F) G env = bind (it (vw env)) fun xs => bind (forL t F xs env) (nextM G) := by
  rw [seq_gen]
  unfold forM
  rw [bind_bind]
theorem for_M {it : Env → M (List D)} {t : Tg} {F : SEnv → M Fl} {env : SEnv} : forM it t F env = bind (it (vw env)) fun xs => forL t F xs env := Eq.trans rfl rfl
def goesOn (I : SEnv → Prop) (r : Fl) : Prop := ∃ e, r = .next e ∧ I e
/-- a loop that is never left ahead of its end -/
theorem Run.forL {t : Tg} {F : SEnv → M Fl} {I : SEnv → Prop} {k n : Nat} : ∀ {xs : List D} {e : SEnv}, xs.length ≤ n → (∀ x ∈ xs, ∀ e, I e → ∃ m, t.l x = some m ∧ Run k (fun r => ∃ e', (r = .next e' ∨ r = .cont e') ∧ I e') (F (putS e m))) → I e → Run (k * n) (goesOn I) (forL t F xs e)
  | [], e, _, _, h => Run.r ⟨e, rfl, h⟩
  | x :: xs, e, hn, hb, h => by
    obtain ⟨m, h1, h2⟩ := hb x List.mem_cons_self e h
    have hn' : xs.length + 1 ≤ n := hn
    obtain ⟨n', rfl⟩ : ∃ n', n = n' + 1 := ⟨n - 1, by omega⟩
    unfold Dv.forL
    rw [h1, l_some, b_ret]
    refine Run.mono (Run.bind (k' := k * n') h2 fun r hr => ?_) (by rw [Nat.mul_succ, Nat.add_comm]; exact Nat.le_refl _) fun _ z => z
    obtain ⟨e', hr, he⟩ := hr
    have ih := Run.forL (t := t) (F := F) (I := I) (k := k) (n := n') (xs := xs) (e := e') (by omega) (fun y hy => hb y (List.mem_cons_of_mem _ hy)) he
    rcases hr with rfl | rfl <;> exact ih
/-! ### plain data, for == and repr -/
/-- d is the datum p, which can be compared and shown -/
structure Pl (n w : Nat) (d : D) (p : PyData) : Prop where
  py : d.py = some p
  lay : p.canLay0 = true
  dep : p.depth ≤ n
  sh : shOk p = true
  wt : shW p ≤ w
  as_ : shA p = true
theorem Pl.shaped {n w : Nat} {d : D} {p : PyData} (h : Pl n w d p) (hn : n ≤ 60) : SeqAt.shaped p = true := by
  unfold SeqAt.shaped
  rw [h.lay, decide_eq_true (by have := h.dep; omega)]
  rfl
structure PlL (n w : Nat) (ds : List D) (ps : List PyData) : Prop where
  py : D.pyL ds = some ps
  lay : PyData.canLayAll0 ps = true
  dep : PyData.depthAll ps ≤ n
  sh : shOks ps = true
  wt : shWs ps ≤ (w + 2) * ds.length
  as_ : shAs ps = true
  len : ps.length = ds.length
theorem plL_of {n w : Nat} : ∀ {ds : List D}, (∀ d ∈ ds, ∃ p, Pl n w d p) → ∃ ps, PlL n w ds ps
  | [], _ => ⟨[], by simp [D.pyL], by simp [PyData.canLayAll0], by simp [PyData.depthAll], by simp [shOks], by simp [shWs], by simp [shAs], rfl⟩
  | d :: ds, h => by
    obtain ⟨p, hp⟩ := h d List.mem_cons_self
    obtain ⟨ps, hs⟩ := plL_of fun e he => h e (List.mem_cons_of_mem _ he)
    refine ⟨p :: ps, ⟨by simp [D.pyL, hp.py, hs.py], by simp [PyData.canLayAll0, hp.lay, hs.lay], ?_, by simp [shOks, hp.sh, hs.sh], ?_, by simp [shAs, hp.as_, hs.as_], by simp [hs.len]⟩⟩
    · simp only [PyData.depthAll]
      have := hp.dep
      have := hs.dep
      omega
    · have := hp.wt
      have := hs.wt
      simp only [shWs, List.length_cons, Nat.mul_succ]
      omega
theorem PlL.lst {n w : Nat} {ds : List D} {ps : List PyData} (h : PlL n w ds ps) : Pl (n + 1) ((w + 2) * ds.length + 3) (.lst ds) (.list ps) where
  py := by simp [D.py, h.py]
  lay := by simp [PyData.canLay0, h.lay]
  dep := by simp only [PyData.depth]; have := h.dep; omega
  sh := by simp [shOk, h.sh]
  wt := by simp only [shW]; have := h.wt; omega
  as_ := by simp [shA, h.as_]
theorem PlL.tup {n w : Nat} {ds : List D} {ps : List PyData} (h : PlL n w ds ps) : Pl (n + 1) ((w + 2) * ds.length + 3) (.tup ds) (.tuple ps) where
  py := by simp [D.py, h.py]
  lay := by simp [PyData.canLay0, h.lay]
  dep := by simp only [PyData.depth]; have := h.dep; omega
  sh := by simp [shOk, h.sh]
  wt := by simp only [shW]; have := h.wt; omega
  as_ := by simp [shA, h.as_]
theorem Pl.mono {n n' w w' : Nat} {d : D} {p : PyData} (h : Pl n w d p) (hn : n ≤ n') (hw : w ≤ w') : Pl n' w' d p := ⟨h.py, h.lay, Nat.le_trans h.dep hn, h.sh, Nat.le_trans h.wt hw, h.as_⟩
theorem pl_str {x : Str} {n w : Nat} (h : asc x = true) (hw : 10 * x.length + 2 ≤ w) : Pl n w (.str x) (.str x) := ⟨by simp [D.py], by simp [PyData.canLay0, asc_ok h], by simp [PyData.depth], by simp [shOk, asc_signs h], by simp only [shW]; omega, by simp [shA, h]⟩
theorem pl_non {n w : Nat} (hw : 4 ≤ w) : Pl n w .non .none := ⟨by simp [D.py], by simp [PyData.canLay0], by simp [PyData.depth], by simp [shOk], by simp only [shW]; omega, by simp [shA]⟩
theorem pl_bl {n w : Nat} {b : Bool} (hw : 5 ≤ w) : Pl n w (.bl b) (.bool b) := ⟨by simp [D.py], by simp [PyData.canLay0], by simp [PyData.depth], by simp [shOk], by simp only [shW]; omega, by simp [shA]⟩
theorem pl_int {i : Int} {n w : Nat} (h : i.natAbs.log2 < 1920) (hw : (PyData.int i).shown.length ≤ w) : Pl n w (.int i) (.int i) := ⟨by simp [D.py], by simp [PyData.canLay0], by simp [PyData.depth], by simp [shOk, h], by simp only [shW]; omega, by simp [shA]⟩
theorem Pl.repr {n w : Nat} {d : D} {p : PyData} (h : Pl n w d p) (hn : n ≤ 60) (hw : w ≤ 10000000) : D.repr [d] = some (.str p.shown) ∧ asc p.shown = true := by
  refine ⟨?_, asc_shown p h.as_⟩
  simp only [D.repr, h.py]
  refine if_pos ?_
  unfold reprOk
  rw [h.sh, decide_eq_true (Nat.le_trans h.wt hw), decide_eq_true (Nat.le_trans h.dep hn)]
  rfl
theorem Pl.eq {n n' w w' : Nat} {d d' : D} {p p' : PyData} (h : Pl n w d p) (h' : Pl n' w' d' p') (hn : n ≤ 60) (hn' : n' ≤ 60) : D.eq d d' = some (.bl (PyData.eqv p p')) :=
  two_some' (c := okEq) (f := PyData.eqv) h.py h'.py (by unfold okEq; rw [h.shaped hn, h'.shaped hn']; rfl)
theorem Pl.ne {n n' w w' : Nat} {d d' : D} {p p' : PyData} (h : Pl n w d p) (h' : Pl n' w' d' p') (hn : n ≤ 60) (hn' : n' ≤ 60) : D.ne d d' = some (.bl (!PyData.eqv p p')) :=
  two_some' (c := okEq) (f := fun p q => !PyData.eqv p q) h.py h'.py (by unfold okEq; rw [h.shaped hn, h'.shaped hn']; rfl)
theorem Pl.eq_self {n w : Nat} {d : D} {p : PyData} (h : Pl n w d p) (hn : n ≤ 60) : D.eq d d = some (.bl true) := by rw [h.eq h hn hn, PySem.SeqAt.eqv_refl p h.lay]
theorem Pl.ne_self {n w : Nat} {d : D} {p : PyData} (h : Pl n w d p) (hn : n ≤ 60) : D.ne d d = some (.bl false) := by rw [h.ne h hn hn, PySem.SeqAt.eqv_refl p h.lay]; rfl
theorem eqvAll_nil (ps : List PyData) : PyData.eqvAll ps [] = ps.isEmpty := by cases ps <;> simp [PyData.eqvAll]
theorem PlL.eq_nil {n w : Nat} {ds : List D} {ps : List PyData} (h : PlL n w ds ps) (hn : n ≤ 59) : D.eq (.lst ds) (.lst []) = some (.bl ds.isEmpty) := by
  have h0 : Pl 1 10 (.lst []) (.list []) := ⟨by simp [D.py, D.pyL], by simp [PyData.canLay0, PyData.canLayAll0], by simp [PyData.depth, PyData.depthAll], by simp [shOk, shOks], by simp [shW, shWs], by simp [shA, shAs]⟩
  rw [h.lst.eq h0 (by omega) (by omega)]
  have e : PyData.eqv (.list ps) (.list []) = ps.isEmpty := by simp only [PyData.eqv]; exact eqvAll_nil ps
  rw [e]
  have hl := h.len
  cases ds <;> cases ps <;> simp at hl ⊢
theorem lcL_filtD {i : Nat} {tt : Env → M Bool} {te : Env → M D} {env : Env} {p : D → Bool} {l : List D} (h1 : ∀ a ∈ l, tt (env.set i (some a)) = ret (p a)) (h2 : ∀ a ∈ l, te (env.set i (some a)) = ret a) :
    lcL (.nm i) tt te env l = ret (l.filter p) := by
  have := lcL_filt (i := i) (tt := tt) (te := te) (env := env) (l := l) (f := id) (p := p) (g := id) h1 fun a ha _ => h2 a ha
  simpa using this
theorem lcL_mapD {i : Nat} {te : Env → M D} {env : Env} {g : D → D} {l : List D} (h2 : ∀ a ∈ l, te (env.set i (some a)) = ret (g a)) : lcL (.nm i) yesT te env l = ret (l.map g) := by
  have := lcL_each (i := i) (te := te) (env := env) (l := l) (f := id) (g := g) h2
  simpa using this
theorem filterD_none {p : D → Bool} : ∀ l : List D, ((l.filter fun y => !p y).isEmpty) = l.all p
  | [] => rfl
  | y :: l => by
    cases h : p y with
    | true => rw [List.filter_cons_of_neg (by simp [h]), filterD_none l, List.all_cons, h]; rfl
    | false => rw [List.filter_cons_of_pos (by simp [h]), List.all_cons, h]; rfl
end Dv
set_option maxHeartbeats 2000000
namespace Dv
open PySem PySem.Spec PyProof.Rows L2
/-! ### the law's call, by a contract FnG -/
/-- what is tracked at the start: the script, if it is not written, and the tables ts -/
def H0 (K : PySem.W.Frag) (a : Addr) (vs : List Value) (ns : List Int) (ts : List Addr) : Hp := fun b =>
  if b ∈ ts then some (.tbl #[]) else if b = a ∧ K.lookup a = none then some (.frz { cls := .type "list", data := .seq vs.toArray } (.lst (ns.map V.int))) else none
section
variable {P : Program} {w : World} {K : PySem.W.Frag} {mg mb : Str → Option Value} {k : Nat} {fa a : Addr} {cs : List (Addr × Addr)} {fd : FuncData} {x : Str} {sp : Sp} {t : Shared} {vs : List Value} {ns : List Int}
theorem H0_tab {ts : List Addr} {b : Addr} (h : b ∈ ts) : H0 K a vs ns ts b = some (.tbl #[]) := if_pos h
theorem H0_some {ts : List Addr} {b : Addr} {u : HO} (h : H0 K a vs ns ts b = some u) : (b ∈ ts ∧ u = .tbl #[]) ∨ (b ∉ ts ∧ b = a ∧ K.lookup a = none ∧ u = .frz { cls := .type "list", data := .seq vs.toArray } (.lst (ns.map V.int))) := by
  unfold H0 at h
  split at h
  · rename_i z; cases h; exact .inl ⟨z, rfl⟩
  · rename_i z
    split at h
    · rename_i q; cases h; exact .inr ⟨z, q.1, q.2, rfl⟩
    · cases h
/-- an object that is neither the script nor a table is not tracked -/
theorem H0_other {b : Addr} {o : Obj} (ha : t.heap.get? a = some { cls := .type "list", data := .seq vs.toArray }) (hT : ∀ q ∈ cs, t.heap.get? q.2 = some { cls := .none, data := .fields #[] }) (e : t.heap.get? b = some o)
    (n1 : ∀ l n, o.data = .seq l n → False) (n2 : o.data = .fields #[] → False) : H0 K a vs ns (cs.map (·.2)) b = none := by
  cases q : H0 K a vs ns (cs.map (·.2)) b with
  | none => rfl
  | some u =>
    exfalso
    rcases H0_some q with ⟨m, _⟩ | ⟨_, m, _⟩
    · obtain ⟨c, hc, rfl⟩ := List.mem_map.mp m
      rw [hT c hc] at e; cases e; exact n2 rfl
    · subst m
      rw [ha] at e; cases e; exact n1 _ _ rfl
theorem law_end (KX : K.In t.heap) (hns : t.heap.Ns mainGlobals mg) (hb : t.heap.Ns builtinsNs mb) (hbb : ∀ y : Str, y ≠ "__name__" → mb y = bootBuiltins y) (hlim : t.heap.NoLimit) (hg : t.gens = #[])
    (hT : ∀ q ∈ cs, t.heap.get? q.2 = some { cls := .none, data := .fields #[] }) (nT : ∀ q ∈ cs, K.lookup q.2 = none) (C : ∀ q ∈ cs, PySem.W.CodeHd t.heap q.1 q.2)
    (hbm : ∃ (m : Addr) (om : Obj), mg "__builtins__" = some (.ref m) ∧ m ≠ builtinsNs ∧ t.heap.get? m = some om ∧ om.cls = .type "module" ∧ om.dict = some builtinsNs ∧ om.data = .plain)
    (ha : t.heap.get? a = some { cls := .type "list", data := .seq vs.toArray }) (hi : IntsAre vs ns) (hl : ns.length ≤ sizeLine) (hr : RoomG k callerA)
    (F : ∀ base : Heap, K.In base → base.Ns mainGlobals mg → (∀ q ∈ cs, LamX.TabB base mg q.1 q.2) → FnG P w K mg base k fa fd [x] sp) (hbind : ∀ (s : Shared) (u : Value), BindsTo s fd ⟨[u], []⟩ [(x, u)])
    (hsp : ∀ H : Hp, (∀ q ∈ cs, H q.2 = some (.tbl #[])) → (∀ b u, H b = some u → u = .tbl #[] ∨ ∃ o l, u = .frz o (.lst l)) → SqL K H a (ns.map V.int) → sp [.ref a] H (fun v _ => v = .bl true) fun _ _ _ => False) :
    codeAny (model P w) callerA (.call (.ref fa) ⟨[.ref a], []⟩) (fun r u => r = .ok (.ret (.bool true)) ∧ OldK t.heap u.heap ∧ u.os = t.os ∧ AllBare u.gens) t := by
  have rv := vals_ints hi
  have aT : a ∉ cs.map (·.2) := fun z => by
    obtain ⟨c, hc, e⟩ := List.mem_map.mp z
    have q := hT c hc
    rw [e, ha] at q
    cases q
  generalize hH : H0 K a vs ns (cs.map (·.2)) = H
  have at_ : ∀ q ∈ cs, H q.2 = some (.tbl #[]) := fun q hq => by rw [← hH]; exact H0_tab (List.mem_map.mpr ⟨q, hq, rfl⟩)
  have form : ∀ b u, H b = some u → u = .tbl #[] ∨ ∃ o l, u = .frz o (.lst l) := fun b u e => by
    rw [← hH] at e
    exact (H0_some e).elim (fun z => .inl z.2) fun z => .inr ⟨_, _, z.2.2.2⟩
  have free : ∀ {b : Addr} {o : Obj}, t.heap.get? b = some o → (∀ l n, o.data = .seq l n → False) → (o.data = .fields #[] → False) → H b = none := fun e n1 n2 => by
    rw [← hH]
    exact H0_other ha hT e n1 n2
  have hok : HOk P w H t.heap := fun b u e => by
    rw [← hH] at e
    rcases H0_some e with ⟨m, rfl⟩ | ⟨_, rfl, _, rfl⟩
    · obtain ⟨c, hc, rfl⟩ := List.mem_map.mp m
      exact hT c hc
    · exact ⟨ha, by rw [List.length_map]; exact hl, vs, _, rv, ha⟩
  have hS : SqL K H a (ns.map V.int) := by
    cases q : K.lookup a with
    | none => exact .inl (.inr ⟨_, by rw [← hH]; exact (if_neg aT).trans (if_pos ⟨rfl, q⟩)⟩)
    | some o =>
      have e := KX a o q
      rw [ha] at e
      cases e
      exact .inr ⟨_, vs.toArray, _, q, rfl, rfl, rfl, by rw [List.size_toArray, hi.length]; exact hl, by simpa using rv⟩
  have up : ∀ {b : Addr} {m : Str → Option Value}, t.heap.Ns b m → (hidT t.heap H).Ns b m := fun {b m} ⟨o, es, ep, e, d, r⟩ =>
    ⟨o, es, ep, hidT_get e (free e (fun l n z => by rw [d] at z; cases z) fun z => by rw [d] at z; cases z), d, r⟩
  have KB : K.In (hidT t.heap H) := fun b o e => hidT_get (KX b o e) (by
    cases q : H b with
    | none => rfl
    | some u =>
      exfalso
      rw [← hH] at q
      rcases H0_some q with ⟨m, _⟩ | ⟨_, rfl, n, _⟩
      · obtain ⟨c, hc, rfl⟩ := List.mem_map.mp m
        rw [nT c hc] at e; cases e
      · rw [n] at e; cases e)
  have TB : ∀ q ∈ cs, LamX.TabB (hidT t.heap H) mg q.1 q.2 := fun q hq => by
    have hTq := hT q hq
    constructor
    · obtain ⟨o, us, f1, f2, f3, f4, f5, f6, f7, e1, r1, r2, r3, r4⟩ := C q hq
      exact ⟨o, us, f1, f2, f3, f4, f5, f6, f7, hidT_get e1 (free e1 (fun l n z => by rw [r2] at z; cases z) fun z => by
        rw [r2] at z
        cases z
        simp at r3), r1, r2, r3, r4⟩
    · obtain ⟨m, om, b1, b2, b3, b4, b5, b6⟩ := hbm
      refine ⟨m, om, b1, b2, fun z => ?_, fun z => ?_, hidT_get b3 (free b3 (fun l n z => by rw [b6] at z; cases z) fun z => by rw [b6] at z; cases z), b4, b5, b6⟩
      · obtain ⟨o, es, ep, e, hd, _⟩ := hns
        rw [z, e] at b3; cases b3
        rw [hd] at b6; cases b6
      · rw [z, hTq] at b3; cases b3; cases b6
    · intro z
      obtain ⟨o, es, ep, e, hd, _⟩ := hns
      rw [z, hTq] at e; cases e; cases hd
  have md : L2.Mod K mg (hidT t.heap H) := ⟨KB, up hns, ⟨mb, up hb, hbb⟩, hlim.elim fun mc z => ⟨mc, up z.1, z.2⟩⟩
  have e0 : Env0 P w K mg (hidT t.heap H) callerA [] t H := ⟨rfl, md, fun b o e => of_hidT e, Nat.le_of_eq (hidT_size _ _), trivial, fun b z => absurd (show b ∈ ([] : List Addr) from z) (by simp), hok, .of_eq hg⟩
  refine codeAny_mono ((F _ KB (up hns) TB).runs callerA [] t H ⟨[.ref a], []⟩ [.ref a] [.ref a] _ _ hr e0 (hbind t (.ref a)) (.cons rfl .nil) (hsp H at_ form hS)) fun r u h => ?_
  cases r with
  | error e =>
    obtain ⟨_, _, _, _, _, _, _, _, _, _, _, _, z⟩ := h
    exact z.elim
  | ok fl =>
    cases fl with
    | ret y =>
      obtain ⟨v, G, os, bare, un, okG, rel, q⟩ := h
      have q : v = .bl true := q
      subst q
      have : y = Value.bool true := rel
      subst this
      have kept : ∀ b o, b ∉ cs.map (·.2) → t.heap.get? b = some o → u.heap.get? b = some o := fun b o nb e => by
        cases q : H b with
        | none => exact un.keep b o e q (fun z => absurd (show b ∈ ([] : List Addr) from z) (by simp)) (by simp)
        | some y =>
          rcases form b y q with rfl | ⟨o2, l, rfl⟩
          · rw [← hH] at q
            exact ((H0_some q).elim (fun z => absurd z.1 nb) fun z => nomatch z.2.2.2)
          · have h1 := (hok b _ q).1
            rw [e] at h1
            cases h1
            exact (okG b _ (un.frzs b _ _ q)).1
      have more : ∀ c ∈ cs, ∃ m : Array Value, u.heap.get? c.2 = some { cls := .none, data := .fields m } := fun c hc => by
        obtain ⟨m, z⟩ := un.tbls c.2 #[] (at_ c hc)
        exact ⟨_, okG c.2 _ z⟩
      refine ⟨rfl, ⟨fun b o e => ?_, fun b o e => ?_⟩, os, bare⟩
      · by_cases hm : b ∈ cs.map (·.2)
        · obtain ⟨c, hc, rfl⟩ := List.mem_map.mp hm
          obtain ⟨m, hm⟩ := more c hc
          rw [hT c hc] at e
          cases e
          exact .inr (.inl ⟨((C c hc).tab (hT c hc)).isCodeTable, rfl, #[], m, rfl, by rw [Array.empty_append]; exact hm⟩)
        · exact .inl (kept b o hm e)
      · by_cases hm : b ∈ cs.map (·.2)
        · obtain ⟨c, hc, rfl⟩ := List.mem_map.mp hm
          exact (more c hc).elim fun m z => ⟨_, z⟩
        · exact ⟨o, kept b o hm e⟩
    | _ => exact h.elim
end
/-- without the tables -/
def noTab (H : Hp) : Hp := fun b => match H b with
  | some (.tbl _) => none
  | z => z
/-- the walk of a law whose mirror gives True -/
theorem walk_G {l : PySem.W.OpenLaw} {n k : Nat} {q : Program} {loose : List Str} {XP : (Str → Option Value) → Heap → Prop} {YP : World → Heap → Prop} {d : DefRec} {x : Str}
    (hn : l.most = some n) (hn2 : n ≤ sizeLine) (hdf : d.params.defaults = []) (hr : RoomG k callerA)
    (F : ∀ (w : World) (mg : Str → Option Value) (fa : Addr) (h : Heap), YP w h → h.Ns mainGlobals mg → mg d.name = some (.ref fa) →
      ∃ (K : PySem.W.Frag) (fd : FuncData) (cs : List (Addr × Addr)) (cm : Nat → Addr) (tb : List (Addr × Str)) (T : List D → M D), K.In h ∧ (∀ p ∈ cs, h.get? p.2 = some { cls := .none, data := .fields #[] }) ∧ (∀ p ∈ cs, K.lookup p.2 = none) ∧ (∀ p ∈ cs, PySem.W.CodeHd h p.1 p.2) ∧
        (∀ p ∈ tb, ∃ c ∈ cs, c.2 = p.1) ∧ (∀ (s : Shared) (u : Value), BindsTo s fd ⟨[u], []⟩ [(x, u)]) ∧ (∀ ns : List Int, ns.length ≤ n → ∀ δ, ∃ δ', T [.scr ns] δ = .ok (.bl true) δ') ∧
        ∀ base : Heap, K.In base → base.Ns mainGlobals mg → (∀ p ∈ cs, LamX.TabB base mg p.1 p.2) → FnG l.prog w K mg base k fa fd [x] (spM0 K cm tb 1 T)) :
    PySem.W.WalkO q loose XP YP l.row.toRowW d [] (fun f vs => PySem.call f vs) := by
  refine Att.attach_callB hn hdf fun w s₀ s₁ mg mb fa o pm cd doc a vs ns G Y ho hd hcd hmg hobj hints hlen hbits hg => ?_
  obtain ⟨K, fd, cs, cm, tb, T, KX, hT, nT, C, htb, hb, hlaw, hF⟩ := F w mg fa _ Y G.T.g hmg
  refine law_end KX G.T.g G.T.b G.T.builtins G.T.nolimit hg hT nT C G.T.bmain hobj hints (Nat.le_trans hlen hn2) hr hF hb fun H hH form hS => ⟨rfl, ⟨none, tb, fun _ => True, fun _ _ _ _ => trivial⟩, ?_⟩
  obtain ⟨δ', e⟩ := hlaw ns hlen (0, 0, 0)
  refine ⟨noTab H, (0, 0, 0), [.scr ns], rfl, rfl, ⟨fun b u z => ?_, fun b z => (nomatch z), fun p hp => ?_, trivial, fun b ps z => ?_⟩, .cons (.scr ?_) .nil, ?_⟩
  · unfold noTab at z
    cases q : H b with
    | none => rw [q] at z; cases z
    | some y => rw [q] at z; cases y <;> first | (cases z; done) | exact z
  · obtain ⟨c, hc, e⟩ := htb p hp
    exact ⟨#[], by rw [← e]; exact hH c hc, trivial, fun pos cv z => nomatch z⟩
  · unfold noTab at z
    cases q : H b with
    | none => rw [q] at z; cases z
    | some y => rw [q] at z; cases y <;> cases z
  · rcases hS with (z | ⟨o, z⟩) | z
    · exact .inl (.inl (by unfold noTab; rw [z]))
    · exact .inl (.inr ⟨o, by unfold noTab; rw [z]⟩)
    · exact .inr z
  · rw [e]
    intro v Hk' H' _ _ r
    cases r
    rfl
end Dv
set_option maxHeartbeats 2000000
namespace Dv
open PySem PySem.Spec PyProof.Rows L2
/-! ### the head's facts -/
/-- an own error's __init__: its class, the statement, the error's one parameter, its field -/
structure InitD where
  x : Str
  st : Stmt
  p : Str
  f : Str
abbrev InV : Type := Option (Str × Str × Arguments × FuncBody × Scope × Addr × List Str × Addr)
def initAt (K : PySem.W.Frag) (x : Str) : Addr := He.ma K (He.ga K x) "__init__"
def initObs (K : PySem.W.Frag) (x : Str) : InV := match K.lookup (initAt K x) with
  | some ⟨_, _, .func fd, _⟩ => some (fd.name, fd.qualname, fd.params, fd.body, fd.scope, fd.globals, fd.closure.map (·.1), fd.builtins)
  | _ => none
def InitD.val (d : InitD) : InV := some ("__init__", d.x ++ ".__init__", defArgs d.st, .stmts (defBody d.st), defScope d.st, mainGlobals, ["__class__"], builtinsNs)
/-- the class's object -/
def supCls (K : PySem.W.Frag) (C : Addr) : Bool := match K.lookup C with
  | some ⟨.type t, _, .cls cd, sl⟩ => t == "type" && (match cd.mro, sl.toList with
    | .ref C' :: bm, [_, _, _, _, some (.builtin n), _] => C' == C && (n == "ValueError.__new__" && (!cd.hasDel && (cd.hasDict && PySem.HandSPX.refsVE bm)))
    | _, _ => false)
  | _ => false
theorem supCls_ok {K : PySem.W.Frag} {C : Addr} (h : supCls K C = true) : ∃ nm q N bs bm sn sub ab col dd k0 k1 k2 k3 k5, K.lookup C = some (excClassObj nm q C N bs bm true sn sub ab col dd k0 k1 k2 k3 k5 "ValueError.__new__") ∧ PySem.HandSPX.refsVE bm = true := by
  unfold supCls at h
  split at h
  · rename_i t dd cd sl e
    rw [Bool.and_eq_true] at h
    obtain ⟨h0, h⟩ := h
    split at h
    · rename_i C' bm k0 k1 k2 k3 n k5 hm hs
      simp only [Bool.and_eq_true, beq_iff_eq, Bool.not_eq_true'] at h h0
      obtain ⟨rfl, rfl, hd, hdict, hr⟩ := h
      subst h0
      obtain ⟨nm, bs, mro, ns, qn, hdc, sn, sub, ab, col, del⟩ := cd
      dsimp only at hm hd hdict
      subst hm hd hdict
      have hsl : sl = #[k0, k1, k2, k3, some (.builtin "ValueError.__new__"), k5] := by
        obtain ⟨l⟩ := sl
        dsimp only at hs
        rw [hs]
      subst hsl
      exact ⟨nm, qn, ns, bs, bm, sn, sub, ab, col, dd, k0, k1, k2, k3, k5, e, hr⟩
    · cases h
  · cases h
/-- the function's rest -/
def supFn4 (file : Str) (K : PySem.W.Frag) (x q : Str) : Value → Value → List (Str × Addr) → Value → Bool
  | .none, .none, [(_, cc)], .ref cda => PySem.W.codeIn K (.ref cda) q && ((match K.lookup cc with
        | some ⟨_, _, .cell (some (.ref C)), _⟩ => C == He.ga K x
        | _ => false) && (match K.lookup cda with
        | some ⟨_, _, .fields vs, _⟩ => (match vs[2]? with
          | some (Value.str f _) => f == file
          | _ => false)
        | _ => false))
  | _, _, _, _ => false
theorem supFn4_ok {file : Str} {K : PySem.W.Frag} {x q : Str} {a b c : Value} {l : List (Str × Addr)} (h : supFn4 file K x q a b l c = true) : ∃ nm cc cda, a = .none ∧ b = .none ∧ l = [(nm, cc)] ∧ c = .ref cda ∧ PySem.W.codeIn K (.ref cda) q = true ∧
    (∃ (cl : Value) (cld : Option Addr) (csl : Array (Option Value)), K.lookup cc = some ⟨cl, cld, .cell (some (.ref (He.ga K x))), csl⟩) ∧
    (∃ (ccl : Value) (cdd : Option Addr) (vs : Array Value) (ccs : Array (Option Value)) (f : Str) (tf : Tok), K.lookup cda = some ⟨ccl, cdd, .fields vs, ccs⟩ ∧ vs[2]? = some (.str f tf) ∧ f = file) := by
  unfold supFn4 at h
  split at h
  · rename_i nm cc cda
    simp only [Bool.and_eq_true] at h
    obtain ⟨c21, c22, c23⟩ := h
    refine ⟨nm, cc, cda, rfl, rfl, rfl, rfl, c21, ?_, ?_⟩
    · split at c22
      · rename_i cl cld C csl e
        exact ⟨cl, cld, csl, by rw [e, beq_iff_eq.mp c22]⟩
      · cases c22
    · split at c23
      · rename_i ccl cdd vs ccs e
        split at c23
        · rename_i f tf e9
          exact ⟨ccl, cdd, vs, ccs, f, tf, e, e9, beq_iff_eq.mp c23⟩
        · cases c23
      · cases c23
  · cases h
def supFn (file : Str) (K : PySem.W.Frag) (x : Str) : Bool := match K.lookup (initAt K x) with
  | some ⟨_, _, .func fd, _⟩ => supFn4 file K x fd.qualname fd.defaults fd.kwdefaults fd.closure fd.code
  | _ => false
def supB (file : Str) (K : PySem.W.Frag) (d : InitD) : Bool :=
  supCls K (He.ga K d.x) && (supFn file K d.x && (He.eqO (PySem.W.findIn K (.ref (He.ga K d.x)) "__setattr__") (some (some (.builtin "object.__setattr__"))) && (He.eqO (PySem.W.findIn K (.ref (He.ga K d.x)) d.f) (some none) &&
  (He.eqO (PySem.W.findIn K (.ref (He.ga K d.x)) "__init__") (some (some (.ref (initAt K d.x)))) && (decide (PySem.W.typeIn K (.ref (initAt K d.x)) = some (.type "function")) && (decide (PySem.W.subIn K (.ref (He.ga K d.x)) (.type "BaseException") = some true) &&
  (decide (PySem.W.subIn K (.ref (He.ga K d.x)) (.type "ValueError") = some true) && (decide (PySem.W.mroIn K (He.ga K d.x) (.ref (He.ga K d.x)) = some true) && (He.eqO (PySem.W.nsIn K cStatics "thirdparty.any") (some none) &&
  (He.eqO (PySem.W.ks_superIn K (He.ga K d.x) (He.ga K d.x) "__init__") (some (some (.builtin "ValueError.__init__"))) && He.eqO (PySem.W.nsIn K mainGlobals "super") (some none)))))))))))
/-- what is asked of the text alone -/
structure SupSt (prog : Program) (d : InitD) (msg : Expr) : Prop where
  ab : ∃ p1 p2 q1 q2 q3 q4 q5 q6 q7 q8 q9 : Pos, defArgs d.st = PySem.SupX.iA d.p p1 p2 ∧ defBody d.st = PySem.SupX.iB d.p d.f msg q1 q2 q3 q4 q5 q6 q7 q8 q9 ∧
    ∀ env : PySem.Env, ∃ pl : Sem Bool, eval (.Call (.Attribute (.Call (.Name "super" q1) [] [] q2) "__init__" q3) [msg] [] q4) env = (do
      let ov ← attributeBase (.Call (.Name "super" q1) [] [] q2) "__init__" env (eval (.Call (.Name "super" q1) [] [] q2) env)
      standAt q3.atName
      let (g, first) ← holding [ov] (getMethod ov "__init__" pl)
      callWith q4 g first (backTo q4 (starEach [msg] env)) [])
  bi : ∀ (qual : Str) (p1 p2 q1 q2 q3 q4 q5 q6 q7 q8 q9 : Pos) (doc pm : Value) (an : Option Addr) (cd ct : Value) (cc : Addr) (a v : Value), bindArgs (PySem.W.ksFn "__init__" qual (PySem.SupX.iA d.p p1 p2) (PySem.SupX.iB d.p d.f msg q1 q2 q3 q4 q5 q6 q7 q8 q9) (defScope d.st) .none .none doc pm an cd ct cc) ⟨[a, v], []⟩ = pure [(("self" : Str), a), (d.p, v)]
  hst : ∀ env : PySem.Env, starEach [msg] env = (false, eval msg env) :: starEach [] env
  sk : (defScope d.st).kind = .function
  sco : (defScope d.st).isCoroutine = false
  sge : (defScope d.st).isGenerator = false
  sce : ∀ x ∈ (defScope d.st).names, x.2 ≠ .cell
  ksu : (defScope d.st).names.lookup ("super" : Str) = some .globalImplicit
  kcl : (defScope d.st).names.lookup ("__class__" : Str) = some .free
  kse : (defScope d.st).names.lookup ("self" : Str) = some .local
  kp : (defScope d.st).names.lookup d.p = some .local
  top : (prog.main.scope.names.lookup ("super" : Str)).isSome = false
  np : (d.p == ("self" : Str)) = false
  ndb : (d.p == ("__debug__" : Str)) = false
theorem sup_ok {prog : Program} {K : PySem.W.Frag} {mg : Str → Option Value} {d : InitD} {msg : Expr} (S : SupSt prog d msg) (h1 : initObs K d.x = d.val) (h2 : supB prog.main.file K d = true) :
    PySem.SupX.SupTxt prog K mg (He.ga K d.x) (initAt K d.x) d.p d.f msg (defScope d.st) := by
  unfold supB at h2
  simp only [Bool.and_eq_true, decide_eq_true_eq] at h2
  obtain ⟨c1, c2, c3, c4, c5, c6, c7, c8, c9, c10, c11, c12⟩ := h2
  refine { cls := supCls_ok c1, sa := He.eqO_ok c3, noN := He.eqO_ok c4, iC := He.eqO_ok c5, tC := c6, exC := c7, veC := c8, selfC := c9, opq := He.eqO_ok c10, sup := He.eqO_ok c11, fn := ?_, bi := S.bi, hst := S.hst, sk := S.sk, sco := S.sco, sge := S.sge, sce := S.sce, ksu := S.ksu, kcl := S.kcl, kse := S.kse, kp := S.kp, nsu := He.eqO_ok c12, top := S.top, np := S.np, ndb := S.ndb }
  obtain ⟨p1, p2, q1, q2, q3, q4, q5, q6, q7, q8, q9, e1, e2, hev⟩ := S.ab
  unfold initObs at h1
  unfold supFn at c2
  cases q : K.lookup (initAt K d.x) with
  | none => rw [q] at c2; cases c2
  | some o =>
    obtain ⟨oc, od, dt, osl⟩ := o
    rw [q] at c2 h1
    cases dt with
    | func fd =>
      obtain ⟨n1, n2, n3, n4, n5, n6, n7, n8, n9, n10, n11, n12, n13, n14, n15⟩ := fd
      have h1 : (some (n1, n2, n3, n4, n5, n6, n7.map (·.1), n15) : InV) = d.val := h1
      unfold InitD.val at h1
      simp only [Option.some.injEq, Prod.mk.injEq] at h1
      obtain ⟨rfl, rfl, rfl, rfl, rfl, rfl, h7, rfl⟩ := h1
      obtain ⟨nm, cc, cda, rfl, rfl, rfl, rfl, c21, ⟨cl, cld, csl, e5⟩, ⟨ccl, cdd, vs, ccs, f, tf, e6, e7, e8⟩⟩ := supFn4_ok c2
      have e9 : nm = "__class__" := by simpa using h7
      subst e9
      refine ⟨oc, od, d.x ++ ".__init__", n10, n11, n12, cda, cc, n14, osl, p1, p2, q1, q2, q3, q4, q5, q6, q7, q8, q9, ?_, c21, hev, ⟨cl, cld, csl, e5⟩, ccl, cdd, vs, ccs, f, tf, e6, e7, by rw [e8]; simp⟩
      rw [e1, e2]
    | _ => cases c2
def fldB (K : PySem.W.Frag) (x f : Str) : Bool := He.eqO (PySem.W.findIn K (.ref (He.ga K x)) "__getattribute__") (some (some (.builtin "BaseException.__getattribute__"))) && (He.eqO (PySem.W.findIn K (.ref (He.ga K x)) "__getattr__") (some none) && (He.eqO (PySem.W.findIn K (.ref (He.ga K x)) f) (some none) &&
  (decide (PySem.W.subIn K (.ref (He.ga K x)) (.type "BaseException") = some true) && PySem.W.hasDictIn K (He.ga K x))))
theorem fld_ok {K : PySem.W.Frag} {x f : Str} (h : fldB K x f = true) : FldTxt K (He.ga K x) f := by
  unfold fldB at h
  simp only [Bool.and_eq_true, decide_eq_true_eq] at h
  obtain ⟨c1, c2, c3, c4, c5⟩ := h
  exact ⟨He.eqO_ok c1, He.eqO_ok c2, He.eqO_ok c3, c4, c5⟩
def errB (K : PySem.W.Frag) (x : Str) : Bool := PySem.W.keepIn K (.ref (He.ga K x)) && (decide (PySem.W.subIn K (.ref (He.ga K x)) (.type "BaseException") = some true) && decide (PySem.W.typeIn K (.ref (He.ga K x)) = some (.type "type")))
/-! ### the Hook -/
/-- what is looked at: the module's names reach it in n steps, and the statics -/
def frZ (g : Addr → Option Obj) (n : Nat) : PySem.W.Frag := He.frT g (cStatics :: He.asD g n)
structure Asked where
  fa : List He.Fa
  fn : List He.DefD
  tf : List He.Defn
  ex : List (PySem.W.Frag → Bool)
  ins : List InitD
abbrev AlZ : Type := He.AlD × Bool × List InV
def Asked.obs (A : Asked) (n : Nat) (g : Addr → Option Obj) : AlZ := (He.obsD A.fa A.fn (frZ g n), (A.ex.all fun e => e (frZ g n)) && He.tabsB g A.tf (frZ g n), A.ins.map fun d => initObs (frZ g n) d.x)
structure Asked.Says (A : Asked) (h : Heap) (K : PySem.W.Frag) : Prop where
  d : He.SaysD A.fa A.fn K
  ex : ∀ e ∈ A.ex, e K = true
  tab : ∀ p ∈ A.tf, PySem.W.codeHdIn K (He.cT K p).1 (He.cT K p).2 = true ∧ K.lookup (He.cT K p).2 = none ∧ h.get? (He.cT K p).2 = some { cls := .none, data := .fields #[] }
  ini : ∀ d ∈ A.ins, initObs K d.x = d.val
def Asked.hook (A : Asked) (n : Nat) : PySem.W.Hook where
  α := AlZ
  obs := fun s => A.obs n s.heap.get?
  val := fun _ => (He.valD A.fn, true, A.ins.map InitD.val)
  says := fun _ h => ∃ K : PySem.W.Frag, K.In h ∧ A.Says h K
  of := fun w s e => by
    unfold Asked.obs at e
    obtain ⟨e1, e2⟩ := Prod.mk.inj e
    obtain ⟨e2, e3⟩ := Prod.mk.inj e2
    obtain ⟨e4, e5⟩ := Bool.and_eq_true_iff.mp e2
    refine ⟨frZ s.heap.get? n, He.frT_in, e1, List.all_eq_true.mp e4, fun p hp => ?_, fun d hd => ?_⟩
    · obtain ⟨h1, h2⟩ := Bool.and_eq_true_iff.mp (List.all_eq_true.mp e5 p hp)
      cases q : s.heap.get? (He.cT (frZ s.heap.get? n) p).2 with
      | none => rw [q] at h2; cases h2
      | some o =>
        rw [q] at h2
        exact ⟨h1, He.frT_none q h2, by rw [He.emptyTab_eq h2]⟩
    · exact List.map_inj_left.mp e3 d hd
  keeps := fun _ _ _ ⟨K, hK, c⟩ k => ⟨K, PySem.W.Frag.In.keeps hK k, ⟨c.d, c.ex, fun p hp => ⟨(c.tab p hp).1, (c.tab p hp).2.1, k _ _ (c.tab p hp).2.2⟩, c.ini⟩⟩
theorem Asked.obs_eq {A : Asked} {n : Nat} {s : PySem.W.SharedT} : A.obs n (HandSHeadRun.getT s) = (A.hook n).obs s.abs := by
  have e : HandSHeadRun.getT s = s.abs.heap.get? := funext (HandSHeadRun.getT_eq s)
  rw [e]
  rfl
section
variable {A : Asked} {h : Heap} {K : PySem.W.Frag} {mg : Str → Option Value}
/-- a plain def of the module -/
def dfd (x : Str) (st : Stmt) : He.DefD := ⟨(x, none), x, x, defArgs st, defBody st, defScope st, [], []⟩
theorem Asked.Says.fn1 (S : A.Says h K) (X : K.In h) (G : h.Ns mainGlobals mg) {x : Str} {st : Stmt} {ps : List Str} (i j : Nat) (hi : A.fn[i]? = some (dfd x st)) (hj : A.fa[j]? = some (.glo x))
    (hb : ∀ (kV doc pm : Value) (an : Option Addr) (cdv ct : Value) (us : List Value), us.length = ps.length → bindArgs (PySem.W.fnOf x x (defArgs st) (defBody st) (defScope st) .none kV doc pm an cdv ct) ⟨us, []⟩ = pure (ps.zip us)) :
    ∃ fd, (Fn1 K mg x st ps (He.ga K x) fd ∧ ∀ (s : Shared) (us : List Value), us.length = ps.length → BindsTo s fd ⟨us, []⟩ (ps.zip us)) ∧ ∃ c, He.codeOf K (x, none) = c ∧ IsCode K (He.ga K x) (.ref c) := by
  obtain ⟨fd, F⟩ := S.d.def_ i hi
  have g := He.glo_ok X G (S.d.fact j hj)
  have b := FunD.bindsN F hb
  obtain ⟨⟨oc, od, dV, kV, doc, pm, an, cdv, ct, osl, rfl, lk, hcd, hD, hK⟩, kp⟩ := F
  rcases hD with ⟨_, rfl⟩ | ⟨z, _⟩
  · obtain ⟨c, rfl⟩ := He.codeIn_ref hcd
    exact ⟨_, ⟨⟨⟨⟨oc, od, kV, doc, pm, an, .ref c, ct, osl, rfl, lk, hcd⟩, kp⟩, g, b⟩, fun s us hl => .of_eq (hb kV doc pm an _ ct us hl)⟩, c, He.codeOf_eq lk rfl, _, _, lk, rfl, rfl⟩
  · exact absurd rfl z
theorem Asked.Says.er1 (S : A.Says h K) (X : K.In h) (G : h.Ns mainGlobals mg) {x : Str} (i j : Nat) (hi : A.ex[i]? = some fun K => errB K x) (hj : A.fa[j]? = some (.glo x)) : Er1 K mg x (He.ga K x) := by
  have c : errB K x = true := S.ex _ (List.mem_of_getElem? hi)
  unfold errB at c
  simp only [Bool.and_eq_true, decide_eq_true_eq] at c
  exact ⟨He.glo_ok X G (S.d.fact j hj), c.1, c.2.1, c.2.2⟩
theorem Asked.Says.erq (S : A.Says h K) {x : Str} (i : Nat) (hi : A.fa[i]? = some (.exc x)) : ErQ K (He.ga K x) := (He.exc_ok (S.d.fact i hi)).1
theorem Asked.Says.str (S : A.Says h K) (X : K.In h) (G : h.Ns mainGlobals mg) {x z : Str} (i : Nat) (hi : A.fa[i]? = some (.str x z)) : StrC mg x z := He.str_ok X G (S.d.fact i hi)
theorem Asked.Says.int (S : A.Says h K) (X : K.In h) (G : h.Ns mainGlobals mg) {x : Str} {z : Int} (i : Nat) (hi : A.fa[i]? = some (.int x z)) : IntC mg x z := He.int_ok X G (S.d.fact i hi)
theorem Asked.Says.free (S : A.Says h K) (X : K.In h) (G : h.Ns mainGlobals mg) {x : Str} (i : Nat) (hi : A.fa[i]? = some (.free x)) : mg x = none := He.free_ok X G (S.d.fact i hi)
theorem Asked.Says.exb (S : A.Says h K) {e : PySem.W.Frag → Bool} (i : Nat) (hi : A.ex[i]? = some e) : e K = true := S.ex e (List.mem_of_getElem? hi)
theorem strs_v {K : PySem.W.Frag} (ys : List Str) : (ys.map He.Dv.str).map (He.Dv.v K) = ys.map V.str := by
  rw [List.map_map]; rfl
theorem Asked.Says.tup (S : A.Says h K) (X : K.In h) (G : h.Ns mainGlobals mg) {x : Str} {ys : List Str} (i j : Nat) (hi : A.ex[i]? = some fun K => He.tupB K x (ys.map .str)) (hj : A.fa[j]? = some (.glo x)) : TupC K mg x ys :=
  ⟨_, He.glo_ok X G (S.d.fact j hj), fun H => by
    have := He.tupB_ok (S.exb i hi) H
    rw [strs_v] at this
    exact this⟩
end
end Dv
set_option maxHeartbeats 4000000
namespace K01
open PySem PySem.Spec PyProof.Rows L2 Dv
def top (i : Nat) : Stmt := PySem.Challenge.pw_chosentrees_k01_symbols_and_rows_of_term.main.body.getD i (.Pass ⟨0, 0, 0, 0⟩)
abbrev s_l_dice : Stmt := top 24
abbrev s_l_error : Stmt := top 32
abbrev s_l_is_small : Stmt := top 27
abbrev s_l_is_told_terminal : Stmt := top 28
abbrev s_l_roll : Stmt := top 25
abbrev s_l_pick : Stmt := top 26
abbrev s_rank : Stmt := top 18
abbrev s_is_lower : Stmt := top 13
abbrev s_is_terminal : Stmt := top 14
abbrev s_is_terminals : Stmt := top 17
abbrev s_require_terminals : Stmt := top 19
abbrev s_is_before : Stmt := top 20
abbrev s_read_terminals : Stmt := top 22
abbrev s_write_terminals : Stmt := top 21
abbrev s_l_lines_right : Stmt := top 33
abbrev s_l_order_right : Stmt := top 34
abbrev s_l_row : Stmt := top 31
abbrev s_l_told : Stmt := top 29
abbrev s_l_word : Stmt := top 30
abbrev s_is_name : Stmt := top 16
abbrev s_is_nonterminal : Stmt := top 15
abbrev s_l_right : Stmt := top 35
abbrev s_law : Stmt := top 36
abbrev i_ParseError : Stmt := clsInit (top 3)
/-- where all lies -/
structure Ad where
  l_dice : Addr
  d_l_dice : FuncData
  l_error : Addr
  d_l_error : FuncData
  l_is_small : Addr
  d_l_is_small : FuncData
  l_is_told_terminal : Addr
  d_l_is_told_terminal : FuncData
  l_roll : Addr
  d_l_roll : FuncData
  l_pick : Addr
  d_l_pick : FuncData
  rank : Addr
  d_rank : FuncData
  is_lower : Addr
  d_is_lower : FuncData
  is_terminal : Addr
  d_is_terminal : FuncData
  is_terminals : Addr
  d_is_terminals : FuncData
  require_terminals : Addr
  d_require_terminals : FuncData
  is_before : Addr
  d_is_before : FuncData
  read_terminals : Addr
  d_read_terminals : FuncData
  write_terminals : Addr
  d_write_terminals : FuncData
  l_lines_right : Addr
  d_l_lines_right : FuncData
  l_order_right : Addr
  d_l_order_right : FuncData
  l_row : Addr
  d_l_row : FuncData
  l_told : Addr
  d_l_told : FuncData
  l_word : Addr
  d_l_word : FuncData
  is_name : Addr
  d_is_name : FuncData
  is_nonterminal : Addr
  d_is_nonterminal : FuncData
  l_right : Addr
  d_l_right : FuncData
  law : Addr
  d_law : FuncData
  c_l_lines_right : Addr
  P_l_lines_right : Addr
  c_l_right : Addr
  P_l_right : Addr
  e_InvalidText : Addr
  e_ParseError : Addr
  j_ParseError : Addr
def cm (a : Ad) : Nat → Addr
  | 2 => a.e_InvalidText
  | 3 => a.e_ParseError
  | _ => 0
theorem cm_InvalidText (a : Ad) : cm a 2 = a.e_InvalidText := rfl
theorem cm_ParseError (a : Ad) : cm a 3 = a.e_ParseError := rfl
def mtab : List (Nat × Nat × Bool) := [(2, 3, false), (2, 2, true), (3, 3, true), (3, 2, false)]
def tbl (a : Ad) : List (Addr × Str) := [(a.P_l_lines_right, (("_law_lines_right" : Str) ++ ".<locals>." ++ "<lambda>")), (a.P_l_right, (("_law_right" : Str) ++ ".<locals>." ++ "<lambda>"))]
/-- what the written part says -/
structure Tx (K : PySem.W.Frag) (mg : Str → Option Value) (base : Heap) (a : Ad) : Prop where
  f_l_dice : Fn1 K mg "_law_dice" s_l_dice ["_law_script", "_law_spot"] a.l_dice a.d_l_dice
  f_l_error : Fn1 K mg "_law_error" s_l_error ["_law_call"] a.l_error a.d_l_error
  f_l_is_small : Fn1 K mg "_law_is_small" s_l_is_small ["_law_text", "_law_most"] a.l_is_small a.d_l_is_small
  f_l_is_told_terminal : Fn1 K mg "_law_is_told_terminal" s_l_is_told_terminal ["_law_value"] a.l_is_told_terminal a.d_l_is_told_terminal
  f_l_roll : Fn1 K mg "_law_roll" s_l_roll ["_law_dice_here", "_law_total"] a.l_roll a.d_l_roll
  f_l_pick : Fn1 K mg "_law_pick" s_l_pick ["_law_dice_here", "_law_items"] a.l_pick a.d_l_pick
  f_rank : Fn1 K mg "rank" s_rank ["text"] a.rank a.d_rank
  f_is_lower : Fn1 K mg "is_lower" s_is_lower ["text", "most"] a.is_lower a.d_is_lower
  f_is_terminal : Fn1 K mg "is_terminal" s_is_terminal ["value"] a.is_terminal a.d_is_terminal
  f_is_terminals : Fn1 K mg "is_terminals" s_is_terminals ["value"] a.is_terminals a.d_is_terminals
  f_require_terminals : Fn1 K mg "require_terminals" s_require_terminals ["value"] a.require_terminals a.d_require_terminals
  f_is_before : Fn1 K mg "is_before" s_is_before ["one", "other"] a.is_before a.d_is_before
  f_read_terminals : Fn1 K mg "read_terminals" s_read_terminals ["line"] a.read_terminals a.d_read_terminals
  f_write_terminals : Fn1 K mg "write_terminals" s_write_terminals ["text"] a.write_terminals a.d_write_terminals
  f_l_lines_right : Fn1 K mg "_law_lines_right" s_l_lines_right ["_law_dice_here", "_law_row_here"] a.l_lines_right a.d_l_lines_right
  f_l_order_right : Fn1 K mg "_law_order_right" s_l_order_right ["_law_row_here", "_law_other"] a.l_order_right a.d_l_order_right
  f_l_row : Fn1 K mg "_law_row" s_l_row ["_law_dice_here"] a.l_row a.d_l_row
  f_l_told : Fn1 K mg "_law_told" s_l_told ["_law_value"] a.l_told a.d_l_told
  f_l_word : Fn1 K mg "_law_word" s_l_word ["_law_dice_here"] a.l_word a.d_l_word
  f_is_name : Fn1 K mg "is_name" s_is_name ["value"] a.is_name a.d_is_name
  f_is_nonterminal : Fn1 K mg "is_nonterminal" s_is_nonterminal ["value"] a.is_nonterminal a.d_is_nonterminal
  f_l_right : Fn1 K mg "_law_right" s_l_right ["_law_dice_here"] a.l_right a.d_l_right
  f_law : Fn1 K mg "law" s_law ["_law_script"] a.law a.d_law
  k_l_lines_right : IsCode K a.l_lines_right (.ref a.c_l_lines_right)
  t_l_lines_right : LamX.TabB base mg a.c_l_lines_right a.P_l_lines_right
  k_l_right : IsCode K a.l_right (.ref a.c_l_right)
  t_l_right : LamX.TabB base mg a.c_l_right a.P_l_right
  ne_l_lines_right_l_right : a.P_l_lines_right ≠ a.P_l_right
  c_END : StrC mg "END" "\x24"
  c_LOWER : StrC mg "LOWER" "abcdefghijklmnopqrstuvwxyz"
  c_MAX_LETTERS : IntC mg "MAX_LETTERS" 8
  c_MAX_TAIL : IntC mg "MAX_TAIL" 5
  c_MAX_TEXT : IntC mg "MAX_TEXT" 60
  c_RESERVED : TupC K mg "RESERVED" ["shift", "accept"]
  c_SIGNS : StrC mg "SIGNS" "!&()*+,-./:;<=>?[]^|"
  c_UPPER : StrC mg "UPPER" "ABCDEFGHIJKLMNOPQRSTUVWXYZ"
  n_abs : mg "abs" = none
  n_all : mg "all" = none
  n_int : mg "int" = none
  n_isinstance : mg "isinstance" = none
  n_len : mg "len" = none
  n_list : mg "list" = none
  n_max : mg "max" = none
  n_min : mg "min" = none
  n_range : mg "range" = none
  n_repr : mg "repr" = none
  n_str : mg "str" = none
  n_tuple : mg "tuple" = none
  e_InvalidText : Er1 K mg "InvalidText" a.e_InvalidText
  e_ParseError : Er1 K mg "ParseError" a.e_ParseError
  q_InvalidText : ErQ K a.e_InvalidText
  s_ParseError : PySem.SupX.SupTxt PySem.Challenge.pw_chosentrees_k01_symbols_and_rows_of_term K mg a.e_ParseError a.j_ParseError "line" "line" (msgOf i_ParseError) (defScope i_ParseError)
  mt : ∀ t ∈ mtab, PySem.W.exmOne K (.ref (cm a t.1)) (.ref (cm a t.2.1)) = some t.2.2
  x_ParseError_line : FldTxt K (cm a 3) "line"
theorem msg_ParseError {P : Program} {w : World} (v : Value) (h : Heap) (hf : Fmts P w v h) : PySem.SupX.Msg P w "line" (msgOf i_ParseError) v h := PySem.SupX.msg_fmt rfl (by decide) (by decide) (by decide) hf
theorem mem_l_lines_right (a : Ad) : (a.P_l_lines_right, (("_law_lines_right" : Str) ++ ".<locals>." ++ "<lambda>")) ∈ tbl a := by simp [tbl]
theorem uq_l_lines_right {K : PySem.W.Frag} {mg : Str → Option Value} {base : Heap} {a : Ad} (T : Tx K mg base a) : ∀ p ∈ tbl a, p.1 = a.P_l_lines_right → p.2 = (("_law_lines_right" : Str) ++ ".<locals>." ++ "<lambda>") := by
  intro p hp e
  simp only [tbl, List.mem_cons, List.not_mem_nil, or_false] at hp
  rcases hp with rfl | rfl
  · exact rfl
  · exact absurd e.symm T.ne_l_lines_right_l_right
theorem mem_l_right (a : Ad) : (a.P_l_right, (("_law_right" : Str) ++ ".<locals>." ++ "<lambda>")) ∈ tbl a := by simp [tbl]
theorem uq_l_right {K : PySem.W.Frag} {mg : Str → Option Value} {base : Heap} {a : Ad} (T : Tx K mg base a) : ∀ p ∈ tbl a, p.1 = a.P_l_right → p.2 = (("_law_right" : Str) ++ ".<locals>." ++ "<lambda>") := by
  intro p hp e
  simp only [tbl, List.mem_cons, List.not_mem_nil, or_false] at hp
  rcases hp with rfl | rfl
  · exact absurd e T.ne_l_lines_right_l_right
  · exact rfl
section
variable {w : World} {K : PySem.W.Frag} {mg : Str → Option Value} {base : Heap} {a : Ad}
/-! #### _law_dice -/
theorem sc_l_dice : FnScope ["_law_script", "_law_spot", "_law_cell", "_law_great", "_law_blend"] ["_law_script", "_law_spot"] (defScope s_l_dice) := ⟨rfl, rfl, rfl, by decide +kernel, rfl, by decide +kernel, by decide +kernel⟩
def m_l_dice : SEnv → M Fl :=
  seqS (asgS 2 (ifM (asB (opM D.lt (vr 1) (calM D.len (consA (vr 0) (nilA))))) (opM D.ix (vr 0) (vr 1)) (opM D.add (opM D.mul (kc (.int 59)) (vr 1)) (kc (.int 17))))) (seqS (asgS 3 (opM D.mod (calM D.toInt (consA (calM D.abs (consA (vr 2) (nilA))) (nilA))) (opM D.powB (opM D.powB (kc (.int 10)) (kc (.int 58))) (kc (.int 10))))) (seqS (asgS 4 (opM D.add (opM D.add (opM D.add (opM D.mul (opM D.mod (calM D.toInt (consA (vr 3) (nilA))) (kc (.int 2305843009213693907))) (kc (.int 1000303))) (opM D.mul (kc (.int 7919)) (vr 1))) (opM D.mul (kc (.int 41)) (calM D.toInt (consA (opM D.lt (vr 2) (kc (.int 0))) (nilA))))) (kc (.int 11)))) (retW (dspN (consA (calM D.max2 (consA (kc (.int 0)) (consA (opM D.sub (vr 3) (opM D.powB (kc (.int 10)) (kc (.int 18)))) (nilA)))) (consA (opM D.mod (calM D.toInt (consA (vr 4) (nilA))) (kc (.int 2305843009213693921))) (consA (kc (.int 0)) (nilA))))))))
def t_l_dice : List D → M (List D) := fnN 2 5 m_l_dice
theorem ok_l_dice (T : Tx K mg base a) : FnG PySem.Challenge.pw_chosentrees_k01_symbols_and_rows_of_term w K mg base 1 a.l_dice a.d_l_dice ["_law_script", "_law_spot"] (spN K (cm a) (tbl a) 2 t_l_dice) :=
  fn_okN T.f_l_dice.F sc_l_dice (by decide) fun da hT cdv hc A fr s H E hr =>
    sb_cons (ss_set (i := 2) sc_l_dice.nd rfl (Or.inl rfl) (ev_if (ptv_cmp (od_lt hr.hu) (ev_var (pv 1)) (ev_callB cd_len rfl T.n_len rfl (av_cons (ev_var (pv 0)) (av_nil))) (by rfl)) (ev_ix id_ix (ev_var (pv 0)) (ev_var (pv 1)) pix) (ev_bin od_add (ev_bin od_mul (ev_int) (ev_var (pv 1))) (ev_int)))) (sb_cons (ss_set (i := 3) sc_l_dice.nd rfl (Or.inl rfl) (ev_bin od_mod (ev_callTy cd_int rfl T.n_int rfl (av_cons (ev_callB cd_abs rfl T.n_abs rfl (av_cons (ev_var (pv 2)) (av_nil))) (av_nil))) (ev_bin od_powB (ev_bin od_powB (ev_int) (ev_int)) (ev_int)))) (sb_cons (ss_set (i := 4) sc_l_dice.nd rfl (Or.inl rfl) (ev_bin od_add (ev_bin od_add (ev_bin od_add (ev_bin od_mul (ev_bin od_mod (ev_callTy cd_int rfl T.n_int rfl (av_cons (ev_var (pv 3)) (av_nil))) (ev_int)) (ev_int)) (ev_bin od_mul (ev_int) (ev_var (pv 1)))) (ev_bin od_mul (ev_int) (ev_callTy cd_int rfl T.n_int rfl (av_cons (ev_cmp (od_lt hr.hu) (ev_var (pv 2)) (ev_int) (by rfl)) (av_nil))))) (ev_int))) (sb_one (ss_retW (nw_lst (av_cons (ev_callB (cd_max2 rfl) rfl T.n_max rfl (av_cons (ev_int) (av_cons (ev_bin od_sub (ev_var (pv 3)) (ev_bin od_powB (ev_int) (ev_int))) (av_nil)))) (av_cons (ev_bin od_mod (ev_callTy cd_int rfl T.n_int rfl (av_cons (ev_var (pv 4)) (av_nil))) (ev_int)) (av_cons (ev_int) (av_nil)))))))))
/-! #### _law_error -/
theorem sc_l_error : FnScope ["_law_call", "error"] ["_law_call"] (defScope s_l_error) := ⟨rfl, rfl, rfl, by decide +kernel, rfl, by decide +kernel, by decide +kernel⟩
def g_l_error (f : Addr) (m : M D) : SEnv → M Fl :=
  seqS (tryS (mtOf mtab) (actM f m) (fun _ env => ret (.next env)) [(2, fun _ => retS (kc (.str "text"))), (3, asC 1 (fun fs => opM D.add ((fun _ => kc (.str "parse ")) fs) ((fun fs => calM D.repr ((fun fs => consA (fldH "line" fs) ((fun _ => nilA) fs)) fs)) fs)))]) (retS (kc (.str "none")))
def t_l_error (m : M D) : M D := runS (g_l_error 0 m) (.dt (.ref 0) :: List.replicate 1 .no)
theorem s_eq_l_error (m : M D) (f : Addr) : runS (g_l_error f m) (.dt (.ref f) :: List.replicate 1 .no) = t_l_error m := by
  funext δ
  unfold t_l_error runS g_l_error seqS
  rw [tryS_act, tryS_act]
  unfold tryS Dv.bind
  dsimp only
  cases m δ with
  | ok d δ' => rfl
  | bad => rfl
  | exc c fs δ' =>
    simp only [catchM]
    cases mtOf mtab c 2 with
    | none => rfl
    | some b => cases b with
      | true => rfl
      | false => cases mtOf mtab c 3 with
        | none => rfl
        | some b => cases b <;> rfl
theorem give_l_error {X : Cx} {da : Da} (hP : X.prog = PySem.Challenge.pw_chosentrees_k01_symbols_and_rows_of_term) (T : Tx X.K X.mg X.base a) {k : Nat} (hr : RoomG (k + 1) X.A) (q : Str) (cdv : Value) : GiveM X ["_law_call", "error"] "_law_error" (defScope s_l_error) a.l_error cdv (defBody s_l_error) "_law_call" q (TTv X.K da (cm a) t_l_error) :=
  give_of (by decide) s_eq_l_error fun da2 hT2 s H f m act => by
    have hrb : RoomG k (X.A.deeper (envOfC "_law_error" (defScope s_l_error) s.heap.objs.size a.l_error cdv)) := ⟨hr.room.deeper _, hr.gd⟩
    exact sb_cons (ss_tryE rfl rfl (mtOf_ok T.mt) takes0 (.no (.as (mtOf_as (by decide)) (.nil))) (.no ⟨rfl, by decide, .inl T.e_InvalidText.g⟩ (fun ea oe cls d pn hz hf => sb_one (ss_ret (ev_str))) (.as sc_l_error.nd rfl rfl ⟨rfl, by decide, .inl T.e_ParseError.g⟩ (fun ea oe cls d pn hz hf => pss_one (ps_ret (hv_bin od_add (hv_up (ev_str)) (hv_callB (cd_repr hrb.gd hrb.hu) rfl T.n_repr rfl (ha_cons (hv_fld T.x_ParseError_line hz hf (pv 1)) (ha_nil)))))) (.nil))) (fun W pn xe tk => act W pn xe _ _ tk)) (sb_one (ss_ret (ev_str)))
theorem lam_l_error {X : Cx} {da : Da} {W : WX} {c Pt : Addr} {j : Nat} {params : Arguments} {body : Expr} {scope : Scope} {f : Dv.Env → M D} {p lpos pos : Pos} (hP : X.prog = PySem.Challenge.pw_chosentrees_k01_symbols_and_rows_of_term) (T : Tx X.K X.mg X.base a) (hg : Gl X "_law_error") (hT : da.tb = tbl a) (hcode : X.env.code = .ref c) (TB : LamX.TabB X.base X.mg c Pt) (hm : (Pt, X.env.qual ++ "<lambda>") ∈ tbl a) (hu : ∀ p ∈ tbl a, p.1 = Pt → p.2 = X.env.qual ++ "<lambda>") (hr : RoomG (j + 2) X.A) (L : LamX.LamS X.env.scope scope)
    (hbody : ∀ (A : Around) (outer : List PySem.Env) (s : Shared) (H : Hp) (E : XK) (f' c' : Addr), RoomG j (A.deeper (LamX.lamEnv X scope s.heap.objs.size f' c')) → PEv (LamX.lamCx X A outer s H E scope f' c') da (cm a) (WE0 E) body f)
    (hdef : defaultsOf params X.env = ([], []) := by rfl) (hbind : ∀ (q : Str) (cl : List (Str × Addr)) (pm cv ctv : Value), bindArgs (PySem.W.kla_fn "<lambda>" q params body scope cl pm cv ctv) ⟨[], []⟩ = pure [] := by intros; rfl) : PEv X da (cm a) W (.Call (.Name "_law_error" p) [.Lambda params body scope lpos] [] pos) (lamM t_l_error f) :=
  ev_lam hg T.f_l_error.g T.f_l_error.F T.f_l_error.b sc_l_error rfl (Or.inl rfl) (fun cdv => give_l_error hP T hr (X.env.qual ++ "<lambda>") cdv) TB hcode (by rw [hT]; exact hm) (by rw [hT]; exact hu) hr L hdef hbind hbody
/-! #### _law_is_small -/
theorem sc_l_is_small : FnScope ["_law_text", "_law_most", "_law_one"] ["_law_text", "_law_most"] (defScope s_l_is_small) := ⟨rfl, rfl, rfl, by decide +kernel, rfl, by decide +kernel, by decide +kernel⟩
def m_l_is_small : SEnv → M Fl :=
  retS (andM (chainM D.le D.le (kc (.int 1)) (calM D.len (consA (vr 0) (nilA))) (vr 1)) (opM D.eq (newM (lcN (itM (vr 0)) (.nm 2) [2] (notT (asB (chainM D.le D.le (kc (.str "a")) (vr 2) (kc (.str "z"))))) (vr 2))) (newM (dspN (nilA)))))
def t_l_is_small : List D → M D := fnM 2 3 m_l_is_small
theorem ok_l_is_small (T : Tx K mg base a) : FnG PySem.Challenge.pw_chosentrees_k01_symbols_and_rows_of_term w K mg base 1 a.l_is_small a.d_l_is_small ["_law_text", "_law_most"] (spM K (cm a) (tbl a) 2 t_l_is_small) :=
  fn_ok T.f_l_is_small.F sc_l_is_small (by decide) fun da hT cdv hc A fr s H E hr =>
    sb_one (ss_ret (ev_and (ev_chain (od_le hr.hu) (od_le hr.hu) (ev_int) (ev_callB cd_len rfl T.n_len rfl (av_cons (ev_var (pv 0)) (av_nil))) (ev_var (pv 1))) (ev_one (ev_cmp (od_eq hr.hu) (ev_nw (nw_lc rfl sc_l_is_small.nd (iv_seq (ev_var (pv 0))) (by exact blkOk_by (N := ["_law_text", "_law_most", "_law_one"]) (sc := defScope s_l_is_small) (own := [("_law_one", 2)]) (by decide +kernel)) (by decide) (fun s1 H1 C1 cl1 fp1 => pg_nm (i := 2) sc_l_is_small.nd rfl (Or.inl rfl)) (fun s1 H1 C1 cl1 fp1 => tsv_one (ptv_not (ptv_chain (od_le hr.hu) (od_le hr.hu) (ev_str) (ev_var (pv 2)) (ev_str)))) (fun s1 H1 C1 cl1 fp1 => ev_var (pv 2)))) (ev_nw (nw_lst (av_nil))) (by rfl)))))
/-! #### _law_is_told_terminal -/
theorem sc_l_is_told_terminal : FnScope ["_law_value"] ["_law_value"] (defScope s_l_is_told_terminal) := ⟨rfl, rfl, rfl, by decide +kernel, rfl, by decide +kernel, by decide +kernel⟩
def m_l_is_told_terminal : SEnv → M Fl :=
  seqS (ifS (notT (asB (calM D.isI (consA (vr 0) (consA (kc (.ty "str")) (nilA)))))) (retS (kc (.bl false))) (nilS)) (retS (orM (fcM 2 t_l_is_small (consA (vr 0) (consA (kc (.int 8)) (nilA)))) (andM (opM D.eq (calM D.len (consA (vr 0) (nilA))) (kc (.int 1))) (opM (D.inn false) (vr 0) (calM D.listOf (consA (kc (.str "+-*/^=<>!?&|.,;:()[]")) (nilA)))))))
def t_l_is_told_terminal : List D → M D := fnM 1 1 m_l_is_told_terminal
theorem ok_l_is_told_terminal (T : Tx K mg base a) : FnG PySem.Challenge.pw_chosentrees_k01_symbols_and_rows_of_term w K mg base 2 a.l_is_told_terminal a.d_l_is_told_terminal ["_law_value"] (spM K (cm a) (tbl a) 1 t_l_is_told_terminal) :=
  fn_ok T.f_l_is_told_terminal.F sc_l_is_told_terminal (by decide) fun da hT cdv hc A fr s H E hr =>
    sb_cons (ss_if (ptv_not (ptv_val (ev_callB cd_isi rfl T.n_isinstance rfl (av_cons (ev_var (pv 0)) (av_cons (ev_bty rfl T.n_str rfl) (av_nil)))))) (sb_one (ss_ret (ev_bl))) (sb_nil)) (sb_one (ss_ret (ev_or (ev_fn hT (ok_l_is_small T) hr (by decide) rfl T.f_l_is_small (takes_of rfl rfl rfl rfl) (av_cons (ev_var (pv 0)) (av_cons (ev_int) (av_nil)))) (ev_one (ev_and (ev_cmp (od_eq hr.hu) (ev_callB cd_len rfl T.n_len rfl (av_cons (ev_var (pv 0)) (av_nil))) (ev_int) (by rfl)) (ev_one (ev_cmp (od_in hr.hu) (ev_var (pv 0)) (ev_callTy (cd_list rfl) rfl T.n_list rfl (av_cons (ev_str) (av_nil))) (by rfl))))))))
/-! #### _law_roll -/
theorem sc_l_roll : FnScope ["_law_dice_here", "_law_total", "_law_found", "_law_one", "_law_two"] ["_law_dice_here", "_law_total"] (defScope s_l_roll) := ⟨rfl, rfl, rfl, by decide +kernel, rfl, by decide +kernel, by decide +kernel⟩
def m_l_roll : SEnv → M Fl :=
  seqS (ifS (asB (opM D.gt (dixM 0 (vr 0)) (kc (.int 0)))) (seqS (asgS 2 (opM D.mod (calM D.toInt (consA (dixM 0 (vr 0)) (nilA))) (vr 1))) (seqS (diceS 0 (vr 0) (opM D.fdiv (dixM 0 (vr 0)) (vr 1))) (retS (vr 2)))) (nilS)) (seqS (diceS 2 (vr 0) (opM D.add (dixM 2 (vr 0)) (kc (.int 1)))) (seqS (asgS 3 (opM D.mod (calM D.toInt (consA (opM D.add (dixM 1 (vr 0)) (opM D.mul (kc (.int 961748941)) (dixM 2 (vr 0)))) (nilA))) (kc (.int 2305843009213693951)))) (seqS (asgS 4 (opM D.add (opM D.mul (opM D.mod (calM D.toInt (consA (opM D.mul (vr 3) (vr 3)) (nilA))) (kc (.int 1152921504606846883))) (vr 3)) (opM D.mul (kc (.int 7411)) (dixM 2 (vr 0))))) (retS (opM D.mod (calM D.toInt (consA (opM D.fdiv (opM D.mod (calM D.toInt (consA (opM D.add (vr 4) (dixM 1 (vr 0))) (nilA))) (kc (.int 4398046511093))) (kc (.int 64))) (nilA))) (vr 1))))))
def t_l_roll : List D → M D := fnM 2 5 m_l_roll
theorem ok_l_roll (T : Tx K mg base a) : FnG PySem.Challenge.pw_chosentrees_k01_symbols_and_rows_of_term w K mg base 1 a.l_roll a.d_l_roll ["_law_dice_here", "_law_total"] (spM K (cm a) (tbl a) 2 t_l_roll) :=
  fn_ok T.f_l_roll.F sc_l_roll (by decide) fun da hT cdv hc A fr s H E hr =>
    sb_cons (ss_if (ptv_cmp (od_gt hr.hu) (ev_dix 0 (by decide) (ev_var (pv 0)) pix) (ev_int) (by rfl)) (sb_cons (ss_set (i := 2) sc_l_roll.nd rfl (Or.inl rfl) (ev_bin od_mod (ev_callTy cd_int rfl T.n_int rfl (av_cons (ev_dix 0 (by decide) (ev_var (pv 0)) pix) (av_nil))) (ev_var (pv 1)))) (sb_cons (ss_dice 0 (by decide) (ev_bin od_fdiv (ev_dix 0 (by decide) (ev_var (pv 0)) pix) (ev_var (pv 1))) (ev_var (pv 0))) (sb_one (ss_ret (ev_var (pv 2)))))) (sb_nil)) (sb_cons (ss_dice 2 (by decide) (ev_bin od_add (ev_dix 2 (by decide) (ev_var (pv 0)) pix) (ev_int)) (ev_var (pv 0))) (sb_cons (ss_set (i := 3) sc_l_roll.nd rfl (Or.inl rfl) (ev_bin od_mod (ev_callTy cd_int rfl T.n_int rfl (av_cons (ev_bin od_add (ev_dix 1 (by decide) (ev_var (pv 0)) pix) (ev_bin od_mul (ev_int) (ev_dix 2 (by decide) (ev_var (pv 0)) pix))) (av_nil))) (ev_int))) (sb_cons (ss_set (i := 4) sc_l_roll.nd rfl (Or.inl rfl) (ev_bin od_add (ev_bin od_mul (ev_bin od_mod (ev_callTy cd_int rfl T.n_int rfl (av_cons (ev_bin od_mul (ev_var (pv 3)) (ev_var (pv 3))) (av_nil))) (ev_int)) (ev_var (pv 3))) (ev_bin od_mul (ev_int) (ev_dix 2 (by decide) (ev_var (pv 0)) pix)))) (sb_one (ss_ret (ev_bin od_mod (ev_callTy cd_int rfl T.n_int rfl (av_cons (ev_bin od_fdiv (ev_bin od_mod (ev_callTy cd_int rfl T.n_int rfl (av_cons (ev_bin od_add (ev_var (pv 4)) (ev_dix 1 (by decide) (ev_var (pv 0)) pix)) (av_nil))) (ev_int)) (ev_int)) (av_nil))) (ev_var (pv 1))))))))
/-! #### _law_pick -/
theorem sc_l_pick : FnScope ["_law_dice_here", "_law_items"] ["_law_dice_here", "_law_items"] (defScope s_l_pick) := ⟨rfl, rfl, rfl, by decide +kernel, rfl, by decide +kernel, by decide +kernel⟩
def m_l_pick : SEnv → M Fl :=
  retS (opM D.ix (vr 1) (fcM 2 t_l_roll (consA (vr 0) (consA (calM D.len (consA (vr 1) (nilA))) (nilA)))))
def t_l_pick : List D → M D := fnM 2 2 m_l_pick
theorem ok_l_pick (T : Tx K mg base a) : FnG PySem.Challenge.pw_chosentrees_k01_symbols_and_rows_of_term w K mg base 2 a.l_pick a.d_l_pick ["_law_dice_here", "_law_items"] (spM K (cm a) (tbl a) 2 t_l_pick) :=
  fn_ok T.f_l_pick.F sc_l_pick (by decide) fun da hT cdv hc A fr s H E hr =>
    sb_one (ss_ret (ev_ix id_ix (ev_var (pv 1)) (ev_fn hT (ok_l_roll T) hr (by decide) rfl T.f_l_roll (takes_of rfl rfl rfl rfl) (av_cons (ev_var (pv 0)) (av_cons (ev_callB cd_len rfl T.n_len rfl (av_cons (ev_var (pv 1)) (av_nil))) (av_nil)))) pix))
/-! #### rank -/
theorem sc_rank : FnScope ["text"] ["text"] (defScope s_rank) := ⟨rfl, rfl, rfl, by decide +kernel, rfl, by decide +kernel, by decide +kernel⟩
def m_rank : SEnv → M Fl :=
  retS (tupM (consA (calM D.len (consA (vr 0) (nilA))) (consA (vr 0) (nilA))))
def t_rank : List D → M D := fnM 1 1 m_rank
theorem ok_rank (T : Tx K mg base a) : FnG PySem.Challenge.pw_chosentrees_k01_symbols_and_rows_of_term w K mg base 1 a.rank a.d_rank ["text"] (spM K (cm a) (tbl a) 1 t_rank) :=
  fn_ok T.f_rank.F sc_rank (by decide) fun da hT cdv hc A fr s H E hr =>
    sb_one (ss_ret (ev_tup (av_cons (ev_callB cd_len rfl T.n_len rfl (av_cons (ev_var (pv 0)) (av_nil))) (av_cons (ev_var (pv 0)) (av_nil)))))
/-! #### is_lower -/
theorem sc_is_lower : FnScope ["text", "most", "sign"] ["text", "most"] (defScope s_is_lower) := ⟨rfl, rfl, rfl, by decide +kernel, rfl, by decide +kernel, by decide +kernel⟩
def m_is_lower : SEnv → M Fl :=
  retS (andM (chainM D.le D.le (kc (.int 1)) (calM D.len (consA (vr 0) (nilA))) (vr 1)) (calM D.all (consA (newM (lcN (itM (vr 0)) (.nm 2) [2] (yesT) (opM (D.inn false) (vr 2) (kc (.str "abcdefghijklmnopqrstuvwxyz"))))) (nilA))))
def t_is_lower : List D → M D := fnM 2 3 m_is_lower
theorem ok_is_lower (T : Tx K mg base a) : FnG PySem.Challenge.pw_chosentrees_k01_symbols_and_rows_of_term w K mg base 1 a.is_lower a.d_is_lower ["text", "most"] (spM K (cm a) (tbl a) 2 t_is_lower) :=
  fn_ok T.f_is_lower.F sc_is_lower (by decide) fun da hT cdv hc A fr s H E hr =>
    sb_one (ss_ret (ev_and (ev_chain (od_le hr.hu) (od_le hr.hu) (ev_int) (ev_callB cd_len rfl T.n_len rfl (av_cons (ev_var (pv 0)) (av_nil))) (ev_var (pv 1))) (ev_one (ev_callB (cd_all rfl) rfl T.n_all rfl (av_cons (ev_nw (nw_lc rfl sc_is_lower.nd (iv_seq (ev_var (pv 0))) (by exact blkOk_by (N := ["text", "most", "sign"]) (sc := defScope s_is_lower) (own := [("sign", 2)]) (by decide +kernel)) (by decide) (fun s1 H1 C1 cl1 fp1 => pg_nm (i := 2) sc_is_lower.nd rfl (Or.inl rfl)) (fun s1 H1 C1 cl1 fp1 => tsv_nil) (fun s1 H1 C1 cl1 fp1 => ev_cmp (od_in hr.hu) (ev_var (pv 2)) (ev_gs rfl T.c_LOWER) (by rfl)))) (av_nil))))))
/-! #### is_terminal -/
theorem sc_is_terminal : FnScope ["value"] ["value"] (defScope s_is_terminal) := ⟨rfl, rfl, rfl, by decide +kernel, rfl, by decide +kernel, by decide +kernel⟩
def m_is_terminal : SEnv → M Fl :=
  seqS (ifS (notT (asB (calM D.isI (consA (vr 0) (consA (kc (.ty "str")) (nilA)))))) (retS (kc (.bl false))) (nilS)) (retS (orM (fcM 2 t_is_lower (consA (vr 0) (consA (kc (.int 8)) (nilA)))) (andM (opM D.eq (calM D.len (consA (vr 0) (nilA))) (kc (.int 1))) (opM (D.inn false) (vr 0) (kc (.str "!&()*+,-./:;<=>?[]^|"))))))
def t_is_terminal : List D → M D := fnM 1 1 m_is_terminal
theorem ok_is_terminal (T : Tx K mg base a) : FnG PySem.Challenge.pw_chosentrees_k01_symbols_and_rows_of_term w K mg base 2 a.is_terminal a.d_is_terminal ["value"] (spM K (cm a) (tbl a) 1 t_is_terminal) :=
  fn_ok T.f_is_terminal.F sc_is_terminal (by decide) fun da hT cdv hc A fr s H E hr =>
    sb_cons (ss_if (ptv_not (ptv_val (ev_callB cd_isi rfl T.n_isinstance rfl (av_cons (ev_var (pv 0)) (av_cons (ev_bty rfl T.n_str rfl) (av_nil)))))) (sb_one (ss_ret (ev_bl))) (sb_nil)) (sb_one (ss_ret (ev_or (ev_fn hT (ok_is_lower T) hr (by decide) rfl T.f_is_lower (takes_of rfl rfl rfl rfl) (av_cons (ev_var (pv 0)) (av_cons (ev_gi rfl T.c_MAX_LETTERS) (av_nil)))) (ev_one (ev_and (ev_cmp (od_eq hr.hu) (ev_callB cd_len rfl T.n_len rfl (av_cons (ev_var (pv 0)) (av_nil))) (ev_int) (by rfl)) (ev_one (ev_cmp (od_in hr.hu) (ev_var (pv 0)) (ev_gs rfl T.c_SIGNS) (by rfl))))))))
/-! #### is_terminals -/
theorem sc_is_terminals : FnScope ["value", "one"] ["value"] (defScope s_is_terminals) := ⟨rfl, rfl, rfl, by decide +kernel, rfl, by decide +kernel, by decide +kernel⟩
def m_is_terminals : SEnv → M Fl :=
  retS (andM (calM D.isI (consA (vr 0) (consA (kc (.ty "tuple")) (nilA)))) (andM (opM D.le (calM D.len (consA (vr 0) (nilA))) (kc (.int 60))) (calM D.all (consA (newM (lcN (itM (vr 0)) (.nm 1) [1] (yesT) (fcM 1 t_is_terminal (consA (vr 1) (nilA))))) (nilA)))))
def t_is_terminals : List D → M D := fnM 1 2 m_is_terminals
theorem ok_is_terminals (T : Tx K mg base a) : FnG PySem.Challenge.pw_chosentrees_k01_symbols_and_rows_of_term w K mg base 3 a.is_terminals a.d_is_terminals ["value"] (spM K (cm a) (tbl a) 1 t_is_terminals) :=
  fn_ok T.f_is_terminals.F sc_is_terminals (by decide) fun da hT cdv hc A fr s H E hr =>
    sb_one (ss_ret (ev_and (ev_callB cd_isi rfl T.n_isinstance rfl (av_cons (ev_var (pv 0)) (av_cons (ev_bty rfl T.n_tuple rfl) (av_nil)))) (ev_and (ev_cmp (od_le hr.hu) (ev_callB cd_len rfl T.n_len rfl (av_cons (ev_var (pv 0)) (av_nil))) (ev_gi rfl T.c_MAX_TEXT) (by rfl)) (ev_one (ev_callB (cd_all rfl) rfl T.n_all rfl (av_cons (ev_nw (nw_lc rfl sc_is_terminals.nd (iv_seq (ev_var (pv 0))) (by exact blkOk_by (N := ["value", "one"]) (sc := defScope s_is_terminals) (own := [("one", 1)]) (by decide +kernel)) (by decide) (fun s1 H1 C1 cl1 fp1 => pg_nm (i := 1) sc_is_terminals.nd rfl (Or.inl rfl)) (fun s1 H1 C1 cl1 fp1 => tsv_nil) (fun s1 H1 C1 cl1 fp1 => ev_fn hT (ok_is_terminal T) hr (by decide) rfl T.f_is_terminal takes0 (av_cons (ev_var (pv 1)) (av_nil))))) (av_nil)))))))
/-! #### require_terminals -/
theorem sc_require_terminals : FnScope ["value"] ["value"] (defScope s_require_terminals) := ⟨rfl, rfl, rfl, by decide +kernel, rfl, by decide +kernel, by decide +kernel⟩
def m_require_terminals : SEnv → M Fl :=
  ifS (notT (asB (fcM 1 t_is_terminals (consA (vr 0) (nilA))))) (raiS 2 (kc (.str "a tuple of at most sixty terminals is expected"))) (nilS)
def t_require_terminals : List D → M D := fnM 1 1 m_require_terminals
theorem ok_require_terminals (T : Tx K mg base a) : FnG PySem.Challenge.pw_chosentrees_k01_symbols_and_rows_of_term w K mg base 4 a.require_terminals a.d_require_terminals ["value"] (spM K (cm a) (tbl a) 1 t_require_terminals) :=
  fn_ok T.f_require_terminals.F sc_require_terminals (by decide) fun da hT cdv hc A fr s H E hr =>
    sb_one (ss_if (ptv_not (ptv_val (ev_fn hT (ok_is_terminals T) hr (by decide) rfl T.f_is_terminals (takes_of rfl rfl rfl rfl) (av_cons (ev_var (pv 0)) (av_nil))))) (sb_one (ss_raise F.excBase_ValueError T.q_InvalidText rfl (takes_of rfl rfl rfl rfl) T.e_InvalidText.g T.e_InvalidText.k (raises_own T.e_InvalidText.eC T.e_InvalidText.tC) (cm_InvalidText a) rfl (ev_str))) (sb_nil))
/-! #### is_before -/
theorem sc_is_before : FnScope ["one", "other"] ["one", "other"] (defScope s_is_before) := ⟨rfl, rfl, rfl, by decide +kernel, rfl, by decide +kernel, by decide +kernel⟩
def m_is_before : SEnv → M Fl :=
  seqS (exprS (fcM 1 t_require_terminals (consA (vr 0) (nilA)))) (seqS (exprS (fcM 1 t_require_terminals (consA (vr 1) (nilA)))) (retS (opM D.lt (fcM 1 t_rank (consA (vr 0) (nilA))) (fcM 1 t_rank (consA (vr 1) (nilA))))))
def t_is_before : List D → M D := fnM 2 2 m_is_before
theorem ok_is_before (T : Tx K mg base a) : FnG PySem.Challenge.pw_chosentrees_k01_symbols_and_rows_of_term w K mg base 5 a.is_before a.d_is_before ["one", "other"] (spM K (cm a) (tbl a) 2 t_is_before) :=
  fn_ok T.f_is_before.F sc_is_before (by decide) fun da hT cdv hc A fr s H E hr =>
    sb_cons (ss_expr (ev_fn hT (ok_require_terminals T) hr (by decide) rfl T.f_require_terminals (takes_of rfl rfl rfl rfl) (av_cons (ev_var (pv 0)) (av_nil)))) (sb_cons (ss_expr (ev_fn hT (ok_require_terminals T) hr (by decide) rfl T.f_require_terminals (takes_of rfl rfl rfl rfl) (av_cons (ev_var (pv 1)) (av_nil)))) (sb_one (ss_ret (ev_cmp (od_lt hr.hu) (ev_fn hT (ok_rank T) hr (by decide) rfl T.f_rank (takes_of rfl rfl rfl rfl) (av_cons (ev_var (pv 0)) (av_nil))) (ev_fn hT (ok_rank T) hr (by decide) rfl T.f_rank (takes_of rfl rfl rfl rfl) (av_cons (ev_var (pv 1)) (av_nil))) (by rfl)))))
/-! #### read_terminals -/
theorem sc_read_terminals : FnScope ["line", "found"] ["line"] (defScope s_read_terminals) := ⟨rfl, rfl, rfl, by decide +kernel, rfl, by decide +kernel, by decide +kernel⟩
def m_read_terminals : SEnv → M Fl :=
  seqS (ifS (notT (asB (calM D.isI (consA (vr 0) (consA (kc (.ty "str")) (nilA)))))) (raiF 3 "line" (kc .non)) (nilS)) (seqS (asgS 1 (ifM (asB (opM D.ne (vr 0) (kc (.str "")))) (calM D.tupleOf (consA (mt1M D.split (vr 0) (kc (.str " "))) (nilA))) (tupM (nilA)))) (seqS (ifS (notT (asB (fcM 1 t_is_terminals (consA (vr 1) (nilA))))) (raiF 3 "line" (kc .non)) (nilS)) (retS (vr 1))))
def t_read_terminals : List D → M D := fnM 1 2 m_read_terminals
theorem ok_read_terminals (T : Tx K mg base a) : FnG PySem.Challenge.pw_chosentrees_k01_symbols_and_rows_of_term w K mg base 4 a.read_terminals a.d_read_terminals ["line"] (spM K (cm a) (tbl a) 1 t_read_terminals) :=
  fn_ok T.f_read_terminals.F sc_read_terminals (by decide) fun da hT cdv hc A fr s H E hr =>
    sb_cons (ss_if (ptv_not (ptv_val (ev_callB cd_isi rfl T.n_isinstance rfl (av_cons (ev_var (pv 0)) (av_cons (ev_bty rfl T.n_str rfl) (av_nil)))))) (sb_one (ss_raiseF T.s_ParseError msg_ParseError hr rfl (takes_of rfl rfl rfl rfl) T.e_ParseError.g T.e_ParseError.k (raises_own T.e_ParseError.eC T.e_ParseError.tC) (cm_ParseError a) rfl (av_cons (ev_non) av_nil))) (sb_nil)) (sb_cons (ss_set (i := 1) sc_read_terminals.nd rfl (Or.inl rfl) (ev_if (ptv_cmp (od_ne hr.hu) (ev_var (pv 0)) (ev_str) (by rfl)) (ev_callTy cd_tuple rfl T.n_tuple rfl (av_cons (ev_split (ev_var (pv 0)) (ev_str)) (av_nil))) (ev_tup (av_nil)))) (sb_cons (ss_if (ptv_not (ptv_val (ev_fn hT (ok_is_terminals T) hr (by decide) rfl T.f_is_terminals (takes_of rfl rfl rfl rfl) (av_cons (ev_var (pv 1)) (av_nil))))) (sb_one (ss_raiseF T.s_ParseError msg_ParseError hr rfl (takes_of rfl rfl rfl rfl) T.e_ParseError.g T.e_ParseError.k (raises_own T.e_ParseError.eC T.e_ParseError.tC) (cm_ParseError a) rfl (av_cons (ev_non) av_nil))) (sb_nil)) (sb_one (ss_ret (ev_var (pv 1))))))
/-! #### write_terminals -/
theorem sc_write_terminals : FnScope ["text"] ["text"] (defScope s_write_terminals) := ⟨rfl, rfl, rfl, by decide +kernel, rfl, by decide +kernel, by decide +kernel⟩
def m_write_terminals : SEnv → M Fl :=
  seqS (exprS (fcM 1 t_require_terminals (consA (vr 0) (nilA)))) (retS (mt1M D.join (kc (.str " ")) (vr 0)))
def t_write_terminals : List D → M D := fnM 1 1 m_write_terminals
theorem ok_write_terminals (T : Tx K mg base a) : FnG PySem.Challenge.pw_chosentrees_k01_symbols_and_rows_of_term w K mg base 5 a.write_terminals a.d_write_terminals ["text"] (spM K (cm a) (tbl a) 1 t_write_terminals) :=
  fn_ok T.f_write_terminals.F sc_write_terminals (by decide) fun da hT cdv hc A fr s H E hr =>
    sb_cons (ss_expr (ev_fn hT (ok_require_terminals T) hr (by decide) rfl T.f_require_terminals (takes_of rfl rfl rfl rfl) (av_cons (ev_var (pv 0)) (av_nil)))) (sb_one (ss_ret (ev_join (ev_str) (ev_var (pv 0)))))
/-! #### _law_lines_right -/
theorem sc_l_lines_right : FnScope ["_law_dice_here", "_law_row_here", "_law_line", "_law_told_here", "_law_at", "_law_bent", "_law_words", "_law_one"] ["_law_dice_here", "_law_row_here"] (defScope s_l_lines_right) := ⟨rfl, rfl, rfl, by decide +kernel, rfl, by decide +kernel, by decide +kernel⟩
def m_l_lines_right : SEnv → M Fl :=
  seqS (asgS 2 (mt1M D.join (kc (.str " ")) (calM D.listOf (consA (vr 1) (nilA))))) (seqS (ifS (asB (opM D.gt (calM D.len (consA (vr 1) (nilA))) (kc (.int 60)))) (seqS (asgN 3 (dspN (consA (lamM t_l_error (fcM 1 t_write_terminals (consA (vr 1) (nilA)))) (nilA)))) (seqS (appS 3 (lamM t_l_error (fcM 1 t_read_terminals (consA (vr 2) (nilA))))) (frzS 3 (retS (andM (opM D.eq (vr 3) (newM (dspN (consA (kc (.str "text")) (consA (kc (.str "parse None")) (nilA)))))) (opM D.eq (lamM t_l_error (fcM 2 t_is_before (consA (tupM (nilA)) (consA (vr 1) (nilA))))) (kc (.str "text")))))))) (nilS)) (seqS (ifS (orT (asB (opM D.ne (fcM 1 t_write_terminals (consA (vr 1) (nilA))) (vr 2))) (asB (opM D.ne (calM D.repr (consA (fcM 1 t_read_terminals (consA (vr 2) (nilA))) (nilA))) (calM D.repr (consA (vr 1) (nilA)))))) (retS (kc (.bl false))) (nilS)) (seqS (asgS 4 (fcM 2 t_l_roll (consA (vr 0) (consA (opM D.add (calM D.len (consA (vr 2) (nilA))) (kc (.int 1))) (nilA))))) (seqS (asgS 5 (opM D.add (opM D.add (slM (vr 2) (noP) (someP (vr 4))) (fcM 2 t_l_pick (consA (vr 0) (consA (newM (dspN (consA (kc (.str " ")) (consA (kc (.str "  ")) (consA (kc (.str "\n")) (consA (kc (.str "\x24")) (consA (kc (.str "a ")) (consA (kc (.str " E")) (consA (kc (.str "0")) (nilA)))))))))) (nilA))))) (slM (vr 2) (someP (opM D.add (vr 4) (fcM 2 t_l_roll (consA (vr 0) (consA (kc (.int 2)) (nilA)))))) (noP)))) (seqS (asgS 6 (ifM (asB (opM D.eq (vr 5) (kc (.str "")))) (newM (dspN (nilA))) (mt1M D.split (vr 5) (kc (.str " "))))) (seqS (ifS (andT (asB (opM D.le (calM D.len (consA (vr 6) (nilA))) (kc (.int 60)))) (asB (opM D.eq (newM (lcN (itM (vr 6)) (.nm 7) [7] (notT (asB (fcM 1 t_l_is_told_terminal (consA (vr 7) (nilA))))) (vr 7))) (newM (dspN (nilA)))))) (retS (opM D.eq (calM D.repr (consA (fcM 1 t_read_terminals (consA (vr 5) (nilA))) (nilA))) (calM D.repr (consA (calM D.tupleOf (consA (vr 6) (nilA))) (nilA))))) (nilS)) (retS (opM D.eq (lamM t_l_error (fcM 1 t_read_terminals (consA (vr 5) (nilA)))) (kc (.str "parse None"))))))))))
def t_l_lines_right : List D → M D := fnM 2 8 m_l_lines_right
theorem ok_l_lines_right (T : Tx K mg base a) : FnG PySem.Challenge.pw_chosentrees_k01_symbols_and_rows_of_term w K mg base 8 a.l_lines_right a.d_l_lines_right ["_law_dice_here", "_law_row_here"] (spM K (cm a) (tbl a) 2 t_l_lines_right) :=
  fn_ok T.f_l_lines_right.F sc_l_lines_right (by decide) fun da hT cdv hc A fr s H E hr =>
    sb_cons (ss_set (i := 2) sc_l_lines_right.nd rfl (Or.inr rfl) (ev_join (ev_str) (ev_callTy (cd_list rfl) rfl T.n_list rfl (av_cons (ev_var (pv 1)) (av_nil))))) (sb_cons (ss_if (ptv_cmp (od_gt hr.hu) (ev_callB cd_len rfl T.n_len rfl (av_cons (ev_var (pv 1)) (av_nil))) (ev_int) (by rfl)) (sb_cons (ss_setN (i := 3) sc_l_lines_right.nd rfl (Or.inl rfl) (nw_lst (av_cons (lam_l_error rfl T rfl hT (hc.eq T.k_l_lines_right) T.t_l_lines_right (mem_l_lines_right a) (uq_l_lines_right T) (hr.mono (by decide)) (by exact LamX.lamS_by (sc := defScope s_l_lines_right) (by decide +kernel))  (j := 5) (fun A2 fr2 s2 H2 E2 f2 c2 hr2 => (ev_fn hT (ok_write_terminals T) hr2 (by decide) rfl T.f_write_terminals (takes_of rfl rfl rfl rfl) (av_cons (ev_var (pv 1)) (av_nil))))) (av_nil)))) (sb_cons (ss_app (i := 3) (pv 3) (lam_l_error rfl T rfl hT (hc.eq T.k_l_lines_right) T.t_l_lines_right (mem_l_lines_right a) (uq_l_lines_right T) (hr.mono (by decide)) (by exact LamX.lamS_by (sc := defScope s_l_lines_right) (by decide +kernel))  (j := 5) (fun A2 fr2 s2 H2 E2 f2 c2 hr2 => (ev_fn hT (ok_read_terminals T) hr2 (by decide) rfl T.f_read_terminals (takes_of rfl rfl rfl rfl) (av_cons (ev_var (pv 2)) (av_nil)))))) (sb_one (ss_frz (i := 3) (ss_ret (ev_and (ev_cmp (od_eq hr.hu) (ev_var (pv 3)) (ev_nw (nw_lst (av_cons (ev_str) (av_cons (ev_str) (av_nil))))) (by rfl)) (ev_one (ev_cmp (od_eq hr.hu) (lam_l_error rfl T rfl hT (hc.eq T.k_l_lines_right) T.t_l_lines_right (mem_l_lines_right a) (uq_l_lines_right T) (hr.mono (by decide)) (by exact LamX.lamS_by (sc := defScope s_l_lines_right) (by decide +kernel))  (j := 5) (fun A2 fr2 s2 H2 E2 f2 c2 hr2 => (ev_fn hT (ok_is_before T) hr2 (by decide) rfl T.f_is_before (takes_of rfl rfl rfl rfl) (av_cons (ev_tup (av_nil)) (av_cons (ev_var (pv 1)) (av_nil)))))) (ev_str) (by rfl))))))))) (sb_nil)) (sb_cons (ss_if (PW.pt (pwv_or (ptv_cmp (od_ne hr.hu) (ev_fn hT (ok_write_terminals T) hr (by decide) rfl T.f_write_terminals (takes_of rfl rfl rfl rfl) (av_cons (ev_var (pv 1)) (av_nil))) (ev_var (pv 2)) (by rfl)) (pwv_or1 (ptv_cmp (od_ne hr.hu) (ev_callB (cd_repr hr.gd hr.hu) rfl T.n_repr rfl (av_cons (ev_fn hT (ok_read_terminals T) hr (by decide) rfl T.f_read_terminals (takes_of rfl rfl rfl rfl) (av_cons (ev_var (pv 2)) (av_nil))) (av_nil))) (ev_callB (cd_repr hr.gd hr.hu) rfl T.n_repr rfl (av_cons (ev_var (pv 1)) (av_nil))) (by rfl))))) (sb_one (ss_ret (ev_bl))) (sb_nil)) (sb_cons (ss_set (i := 4) sc_l_lines_right.nd rfl (Or.inl rfl) (ev_fn hT (ok_l_roll T) hr (by decide) rfl T.f_l_roll (takes_of rfl rfl rfl rfl) (av_cons (ev_var (pv 0)) (av_cons (ev_bin od_add (ev_callB cd_len rfl T.n_len rfl (av_cons (ev_var (pv 2)) (av_nil))) (ev_int)) (av_nil))))) (sb_cons (ss_set (i := 5) sc_l_lines_right.nd rfl (Or.inr rfl) (ev_bin od_add (ev_bin od_add (ev_slice (ev_var (pv 2)) (ov_none) (ov_some (ev_var (pv 4)))) (ev_fn hT (ok_l_pick T) hr (by decide) rfl T.f_l_pick (takes_of rfl rfl rfl rfl) (av_cons (ev_var (pv 0)) (av_cons (ev_nw (nw_lst (av_cons (ev_str) (av_cons (ev_str) (av_cons (ev_str) (av_cons (ev_str) (av_cons (ev_str) (av_cons (ev_str) (av_cons (ev_str) (av_nil)))))))))) (av_nil))))) (ev_slice (ev_var (pv 2)) (ov_some (ev_bin od_add (ev_var (pv 4)) (ev_fn hT (ok_l_roll T) hr (by decide) rfl T.f_l_roll (takes_of rfl rfl rfl rfl) (av_cons (ev_var (pv 0)) (av_cons (ev_int) (av_nil)))))) (ov_none)))) (sb_cons (ss_set (i := 6) sc_l_lines_right.nd rfl (Or.inl rfl) (ev_if (ptv_cmp (od_eq hr.hu) (ev_var (pv 5)) (ev_str) (by rfl)) (ev_nw (nw_lst (av_nil))) (ev_split (ev_var (pv 5)) (ev_str)))) (sb_cons (ss_if (PW.pt (pwv_and (ptv_cmp (od_le hr.hu) (ev_callB cd_len rfl T.n_len rfl (av_cons (ev_var (pv 6)) (av_nil))) (ev_int) (by rfl)) (pwv_and1 (ptv_cmp (od_eq hr.hu) (ev_nw (nw_lc rfl sc_l_lines_right.nd (iv_seq (ev_var (pv 6))) (by exact blkOk_by (N := ["_law_dice_here", "_law_row_here", "_law_line", "_law_told_here", "_law_at", "_law_bent", "_law_words", "_law_one"]) (sc := defScope s_l_lines_right) (own := [("_law_one", 7)]) (by decide +kernel)) (by decide) (fun s1 H1 C1 cl1 fp1 => pg_nm (i := 7) sc_l_lines_right.nd rfl (Or.inl rfl)) (fun s1 H1 C1 cl1 fp1 => tsv_one (ptv_not (ptv_val (ev_fn hT (ok_l_is_told_terminal T) hr (by decide) rfl T.f_l_is_told_terminal takes0 (av_cons (ev_var (pv 7)) (av_nil)))))) (fun s1 H1 C1 cl1 fp1 => ev_var (pv 7)))) (ev_nw (nw_lst (av_nil))) (by rfl))))) (sb_one (ss_ret (ev_cmp (od_eq hr.hu) (ev_callB (cd_repr hr.gd hr.hu) rfl T.n_repr rfl (av_cons (ev_fn hT (ok_read_terminals T) hr (by decide) rfl T.f_read_terminals (takes_of rfl rfl rfl rfl) (av_cons (ev_var (pv 5)) (av_nil))) (av_nil))) (ev_callB (cd_repr hr.gd hr.hu) rfl T.n_repr rfl (av_cons (ev_callTy cd_tuple rfl T.n_tuple rfl (av_cons (ev_var (pv 6)) (av_nil))) (av_nil))) (by rfl)))) (sb_nil)) (sb_one (ss_ret (ev_cmp (od_eq hr.hu) (lam_l_error rfl T rfl hT (hc.eq T.k_l_lines_right) T.t_l_lines_right (mem_l_lines_right a) (uq_l_lines_right T) (hr.mono (by decide)) (by exact LamX.lamS_by (sc := defScope s_l_lines_right) (by decide +kernel))  (j := 5) (fun A2 fr2 s2 H2 E2 f2 c2 hr2 => (ev_fn hT (ok_read_terminals T) hr2 (by decide) rfl T.f_read_terminals (takes_of rfl rfl rfl rfl) (av_cons (ev_var (pv 5)) (av_nil))))) (ev_str) (by rfl))))))))))
/-! #### _law_order_right -/
theorem sc_l_order_right : FnScope ["_law_row_here", "_law_other", "_law_due"] ["_law_row_here", "_law_other"] (defScope s_l_order_right) := ⟨rfl, rfl, rfl, by decide +kernel, rfl, by decide +kernel, by decide +kernel⟩
def m_l_order_right : SEnv → M Fl :=
  seqS (asgS 2 (orM (opM D.lt (calM D.len (consA (vr 0) (nilA))) (calM D.len (consA (vr 1) (nilA)))) (andM (opM D.eq (calM D.len (consA (vr 0) (nilA))) (calM D.len (consA (vr 1) (nilA)))) (opM D.lt (calM D.listOf (consA (vr 0) (nilA))) (calM D.listOf (consA (vr 1) (nilA))))))) (retS (opM D.eq (calM D.repr (consA (fcM 2 t_is_before (consA (vr 0) (consA (vr 1) (nilA)))) (nilA))) (calM D.repr (consA (vr 2) (nilA)))))
def t_l_order_right : List D → M D := fnM 2 3 m_l_order_right
theorem ok_l_order_right (T : Tx K mg base a) : FnG PySem.Challenge.pw_chosentrees_k01_symbols_and_rows_of_term w K mg base 6 a.l_order_right a.d_l_order_right ["_law_row_here", "_law_other"] (spM K (cm a) (tbl a) 2 t_l_order_right) :=
  fn_ok T.f_l_order_right.F sc_l_order_right (by decide) fun da hT cdv hc A fr s H E hr =>
    sb_cons (ss_set (i := 2) sc_l_order_right.nd rfl (Or.inl rfl) (ev_or (ev_cmp (od_lt hr.hu) (ev_callB cd_len rfl T.n_len rfl (av_cons (ev_var (pv 0)) (av_nil))) (ev_callB cd_len rfl T.n_len rfl (av_cons (ev_var (pv 1)) (av_nil))) (by rfl)) (ev_one (ev_and (ev_cmp (od_eq hr.hu) (ev_callB cd_len rfl T.n_len rfl (av_cons (ev_var (pv 0)) (av_nil))) (ev_callB cd_len rfl T.n_len rfl (av_cons (ev_var (pv 1)) (av_nil))) (by rfl)) (ev_one (ev_cmp (od_lt hr.hu) (ev_callTy (cd_list rfl) rfl T.n_list rfl (av_cons (ev_var (pv 0)) (av_nil))) (ev_callTy (cd_list rfl) rfl T.n_list rfl (av_cons (ev_var (pv 1)) (av_nil))) (by rfl))))))) (sb_one (ss_ret (ev_cmp (od_eq hr.hu) (ev_callB (cd_repr hr.gd hr.hu) rfl T.n_repr rfl (av_cons (ev_fn hT (ok_is_before T) hr (by decide) rfl T.f_is_before (takes_of rfl rfl rfl rfl) (av_cons (ev_var (pv 0)) (av_cons (ev_var (pv 1)) (av_nil)))) (av_nil))) (ev_callB (cd_repr hr.gd hr.hu) rfl T.n_repr rfl (av_cons (ev_var (pv 2)) (av_nil))) (by rfl))))
/-! #### _law_row -/
theorem sc_l_row : FnScope ["_law_dice_here", "_law_some", "_law_size", "_law_at"] ["_law_dice_here"] (defScope s_l_row) := ⟨rfl, rfl, rfl, by decide +kernel, rfl, by decide +kernel, by decide +kernel⟩
def m_l_row : SEnv → M Fl :=
  seqS (asgS 1 (newM (dspN (consA (kc (.str "a")) (consA (kc (.str "n")) (consA (kc (.str "if")) (consA (kc (.str "else")) (consA (opM D.mul (kc (.str "x")) (kc (.int 8))) (consA (kc (.str "+")) (consA (kc (.str "*")) (consA (kc (.str "(")) (consA (kc (.str ")")) (consA (kc (.str "|")) (consA (kc (.str "^")) (consA (kc (.str "shift")) (consA (kc (.str "accept")) (nilA))))))))))))))))) (seqS (asgS 2 (fcM 2 t_l_pick (consA (vr 0) (consA (newM (dspN (consA (kc (.int 0)) (consA (kc (.int 1)) (consA (kc (.int 2)) (consA (kc (.int 3)) (consA (kc (.int 5)) (consA (kc (.int 9)) (consA (kc (.int 59)) (consA (kc (.int 60)) (consA (kc (.int 61)) (nilA)))))))))))) (nilA))))) (retS (calM D.tupleOf (consA (newM (lcN (rng1M (consA (vr 2) (nilA))) (.nm 3) [3] (yesT) (fcM 2 t_l_pick (consA (vr 0) (consA (vr 1) (nilA)))))) (nilA)))))
def t_l_row : List D → M D := fnM 1 4 m_l_row
theorem ok_l_row (T : Tx K mg base a) : FnG PySem.Challenge.pw_chosentrees_k01_symbols_and_rows_of_term w K mg base 3 a.l_row a.d_l_row ["_law_dice_here"] (spM K (cm a) (tbl a) 1 t_l_row) :=
  fn_ok T.f_l_row.F sc_l_row (by decide) fun da hT cdv hc A fr s H E hr =>
    sb_cons (ss_set (i := 1) sc_l_row.nd rfl (Or.inr rfl) (ev_nw (nw_lst (av_cons (ev_str) (av_cons (ev_str) (av_cons (ev_str) (av_cons (ev_str) (av_cons (ev_bin od_mul (ev_str) (ev_int)) (av_cons (ev_str) (av_cons (ev_str) (av_cons (ev_str) (av_cons (ev_str) (av_cons (ev_str) (av_cons (ev_str) (av_cons (ev_str) (av_cons (ev_str) (av_nil))))))))))))))))) (sb_cons (ss_set (i := 2) sc_l_row.nd rfl (Or.inl rfl) (ev_fn hT (ok_l_pick T) hr (by decide) rfl T.f_l_pick (takes_of rfl rfl rfl rfl) (av_cons (ev_var (pv 0)) (av_cons (ev_nw (nw_lst (av_cons (ev_int) (av_cons (ev_int) (av_cons (ev_int) (av_cons (ev_int) (av_cons (ev_int) (av_cons (ev_int) (av_cons (ev_int) (av_cons (ev_int) (av_cons (ev_int) (av_nil)))))))))))) (av_nil))))) (sb_one (ss_ret (ev_callTy cd_tuple rfl T.n_tuple rfl (av_cons (ev_nw (nw_lc rfl sc_l_row.nd (iv_range1 rfl T.n_range (av_cons (ev_var (pv 2)) (av_nil))) (by exact blkOk_by (N := ["_law_dice_here", "_law_some", "_law_size", "_law_at"]) (sc := defScope s_l_row) (own := [("_law_at", 3)]) (by decide +kernel)) (by decide) (fun s1 H1 C1 cl1 fp1 => pg_nm (i := 3) sc_l_row.nd rfl (Or.inl rfl)) (fun s1 H1 C1 cl1 fp1 => tsv_nil) (fun s1 H1 C1 cl1 fp1 => ev_fn hT (ok_l_pick T) hr (by decide) rfl T.f_l_pick takes0 (av_cons (ev_var (pv 0)) (av_cons (ev_var (pv 1)) (av_nil)))))) (av_nil))))))
/-! #### _law_told -/
theorem sc_l_told : FnScope ["_law_value", "_law_great"] ["_law_value"] (defScope s_l_told) := ⟨rfl, rfl, rfl, by decide +kernel, rfl, by decide +kernel, by decide +kernel⟩
def m_l_told : SEnv → M Fl :=
  seqS (ifS (notT (asB (calM D.isI (consA (vr 0) (consA (kc (.ty "str")) (nilA)))))) (retS (newM (dspN (consA (kc (.bl false)) (consA (kc (.bl false)) (consA (kc (.bl false)) (nilA))))))) (nilS)) (seqS (asgS 1 (andM (chainM D.le D.le (kc (.str "A")) (slM (vr 0) (noP) (someP (kc (.int 1)))) (kc (.str "Z"))) (orM (opM D.eq (calM D.len (consA (vr 0) (nilA))) (kc (.int 1))) (fcM 2 t_l_is_small (consA (slM (vr 0) (someP (kc (.int 1))) (noP)) (consA (kc (.int 5)) (nilA))))))) (retS (newM (dspN (consA (fcM 1 t_l_is_told_terminal (consA (vr 0) (nilA))) (consA (vr 1) (consA (andM (fcM 2 t_l_is_small (consA (vr 0) (consA (kc (.int 8)) (nilA)))) (opM (D.inn true) (vr 0) (newM (dspN (consA (kc (.str "shift")) (consA (kc (.str "accept")) (nilA))))))) (nilA))))))))
def t_l_told : List D → M D := fnM 1 2 m_l_told
theorem ok_l_told (T : Tx K mg base a) : FnG PySem.Challenge.pw_chosentrees_k01_symbols_and_rows_of_term w K mg base 3 a.l_told a.d_l_told ["_law_value"] (spM K (cm a) (tbl a) 1 t_l_told) :=
  fn_ok T.f_l_told.F sc_l_told (by decide) fun da hT cdv hc A fr s H E hr =>
    sb_cons (ss_if (ptv_not (ptv_val (ev_callB cd_isi rfl T.n_isinstance rfl (av_cons (ev_var (pv 0)) (av_cons (ev_bty rfl T.n_str rfl) (av_nil)))))) (sb_one (ss_ret (ev_nw (nw_lst (av_cons (ev_bl) (av_cons (ev_bl) (av_cons (ev_bl) (av_nil)))))))) (sb_nil)) (sb_cons (ss_set (i := 1) sc_l_told.nd rfl (Or.inl rfl) (ev_and (ev_chain (od_le hr.hu) (od_le hr.hu) (ev_str) (ev_slice (ev_var (pv 0)) (ov_none) (ov_some (ev_int))) (ev_str)) (ev_one (ev_or (ev_cmp (od_eq hr.hu) (ev_callB cd_len rfl T.n_len rfl (av_cons (ev_var (pv 0)) (av_nil))) (ev_int) (by rfl)) (ev_one (ev_fn hT (ok_l_is_small T) hr (by decide) rfl T.f_l_is_small (takes_of rfl rfl rfl rfl) (av_cons (ev_slice (ev_var (pv 0)) (ov_some (ev_int)) (ov_none)) (av_cons (ev_int) (av_nil))))))))) (sb_one (ss_ret (ev_nw (nw_lst (av_cons (ev_fn hT (ok_l_is_told_terminal T) hr (by decide) rfl T.f_l_is_told_terminal (takes_of rfl rfl rfl rfl) (av_cons (ev_var (pv 0)) (av_nil))) (av_cons (ev_var (pv 1)) (av_cons (ev_and (ev_fn hT (ok_l_is_small T) hr (by decide) rfl T.f_l_is_small (takes_of rfl rfl rfl rfl) (av_cons (ev_var (pv 0)) (av_cons (ev_int) (av_nil)))) (ev_one (ev_cmp (od_notIn hr.hu) (ev_var (pv 0)) (ev_nw (nw_lst (av_cons (ev_str) (av_cons (ev_str) (av_nil))))) (by rfl)))) (av_nil)))))))))
/-! #### _law_word -/
theorem sc_l_word : FnScope ["_law_dice_here", "_law_letters", "_law_at", "_law_signs", "_law_way", "_law_some"] ["_law_dice_here"] (defScope s_l_word) := ⟨rfl, rfl, rfl, by decide +kernel, rfl, by decide +kernel, by decide +kernel⟩
def m_l_word : SEnv → M Fl :=
  seqS (asgS 1 (mt1M D.join (kc (.str "")) (newM (lcN (rng1M (consA (fcM 2 t_l_roll (consA (vr 0) (consA (kc (.int 10)) (nilA)))) (nilA))) (.nm 2) [2] (yesT) (fcM 2 t_l_pick (consA (vr 0) (consA (kc (.str "abcdefghijklmnopqrstuvwxyz")) (nilA)))))))) (seqS (asgS 3 (kc (.str "!\"\x23\x24&'()*+,-./:;<=>?\x40[\\]^_\x60{|}~ \n0AZaz"))) (seqS (asgS 4 (fcM 2 t_l_roll (consA (vr 0) (consA (kc (.int 9)) (nilA))))) (seqS (ifS (asB (opM D.eq (vr 4) (kc (.int 0)))) (seqS (asgS 5 (newM (dspN (consA (kc (.str "shift")) (consA (kc (.str "accept")) (consA (kc (.str "shifts")) (consA (kc (.str "")) (consA (kc (.str "\x24")) (consA (kc (.str "Shift")) (consA (kc (.str "aA")) (consA (kc (.str "AA")) (consA (opM D.mul (kc (.str "a")) (kc (.int 8))) (consA (opM D.mul (kc (.str "a")) (kc (.int 9))) (consA (kc (.str "->")) (consA (kc (.str "--")) (nilA)))))))))))))))) (retS (fcM 2 t_l_pick (consA (vr 0) (consA (vr 5) (nilA)))))) (nilS)) (seqS (ifS (asB (opM D.lt (vr 4) (kc (.int 3)))) (retS (fcM 2 t_l_pick (consA (vr 0) (consA (vr 3) (nilA))))) (nilS)) (seqS (ifS (asB (opM D.eq (vr 4) (kc (.int 3)))) (retS (opM D.add (vr 1) (fcM 2 t_l_pick (consA (vr 0) (consA (vr 3) (nilA)))))) (nilS)) (seqS (ifS (asB (opM D.lt (vr 4) (kc (.int 6)))) (retS (opM D.add (fcM 2 t_l_pick (consA (vr 0) (consA (kc (.str "ABCDEFGHIJKLMNOPQRSTUVWXYZ")) (nilA)))) (slM (vr 1) (noP) (someP (fcM 2 t_l_roll (consA (vr 0) (consA (kc (.int 8)) (nilA)))))))) (nilS)) (seqS (ifS (asB (opM D.eq (vr 4) (kc (.int 6)))) (retS (opM D.add (fcM 2 t_l_pick (consA (vr 0) (consA (vr 3) (nilA)))) (vr 1))) (nilS)) (retS (vr 1)))))))))
def t_l_word : List D → M D := fnM 1 6 m_l_word
theorem ok_l_word (T : Tx K mg base a) : FnG PySem.Challenge.pw_chosentrees_k01_symbols_and_rows_of_term w K mg base 3 a.l_word a.d_l_word ["_law_dice_here"] (spM K (cm a) (tbl a) 1 t_l_word) :=
  fn_ok T.f_l_word.F sc_l_word (by decide) fun da hT cdv hc A fr s H E hr =>
    sb_cons (ss_set (i := 1) sc_l_word.nd rfl (Or.inl rfl) (ev_join (ev_str) (ev_nw (nw_lc rfl sc_l_word.nd (iv_range1 rfl T.n_range (av_cons (ev_fn hT (ok_l_roll T) hr (by decide) rfl T.f_l_roll (takes_of rfl rfl rfl rfl) (av_cons (ev_var (pv 0)) (av_cons (ev_int) (av_nil)))) (av_nil))) (by exact blkOk_by (N := ["_law_dice_here", "_law_letters", "_law_at", "_law_signs", "_law_way", "_law_some"]) (sc := defScope s_l_word) (own := [("_law_at", 2)]) (by decide +kernel)) (by decide) (fun s1 H1 C1 cl1 fp1 => pg_nm (i := 2) sc_l_word.nd rfl (Or.inl rfl)) (fun s1 H1 C1 cl1 fp1 => tsv_nil) (fun s1 H1 C1 cl1 fp1 => ev_fn hT (ok_l_pick T) hr (by decide) rfl T.f_l_pick takes0 (av_cons (ev_var (pv 0)) (av_cons (ev_str) (av_nil)))))))) (sb_cons (ss_set (i := 3) sc_l_word.nd rfl (Or.inl rfl) (ev_str)) (sb_cons (ss_set (i := 4) sc_l_word.nd rfl (Or.inl rfl) (ev_fn hT (ok_l_roll T) hr (by decide) rfl T.f_l_roll (takes_of rfl rfl rfl rfl) (av_cons (ev_var (pv 0)) (av_cons (ev_int) (av_nil))))) (sb_cons (ss_if (ptv_cmp (od_eq hr.hu) (ev_var (pv 4)) (ev_int) (by rfl)) (sb_cons (ss_set (i := 5) sc_l_word.nd rfl (Or.inl rfl) (ev_nw (nw_lst (av_cons (ev_str) (av_cons (ev_str) (av_cons (ev_str) (av_cons (ev_str) (av_cons (ev_str) (av_cons (ev_str) (av_cons (ev_str) (av_cons (ev_str) (av_cons (ev_bin od_mul (ev_str) (ev_int)) (av_cons (ev_bin od_mul (ev_str) (ev_int)) (av_cons (ev_str) (av_cons (ev_str) (av_nil)))))))))))))))) (sb_one (ss_ret (ev_fn hT (ok_l_pick T) hr (by decide) rfl T.f_l_pick (takes_of rfl rfl rfl rfl) (av_cons (ev_var (pv 0)) (av_cons (ev_var (pv 5)) (av_nil))))))) (sb_nil)) (sb_cons (ss_if (ptv_cmp (od_lt hr.hu) (ev_var (pv 4)) (ev_int) (by rfl)) (sb_one (ss_ret (ev_fn hT (ok_l_pick T) hr (by decide) rfl T.f_l_pick (takes_of rfl rfl rfl rfl) (av_cons (ev_var (pv 0)) (av_cons (ev_var (pv 3)) (av_nil)))))) (sb_nil)) (sb_cons (ss_if (ptv_cmp (od_eq hr.hu) (ev_var (pv 4)) (ev_int) (by rfl)) (sb_one (ss_ret (ev_bin od_add (ev_var (pv 1)) (ev_fn hT (ok_l_pick T) hr (by decide) rfl T.f_l_pick (takes_of rfl rfl rfl rfl) (av_cons (ev_var (pv 0)) (av_cons (ev_var (pv 3)) (av_nil))))))) (sb_nil)) (sb_cons (ss_if (ptv_cmp (od_lt hr.hu) (ev_var (pv 4)) (ev_int) (by rfl)) (sb_one (ss_ret (ev_bin od_add (ev_fn hT (ok_l_pick T) hr (by decide) rfl T.f_l_pick (takes_of rfl rfl rfl rfl) (av_cons (ev_var (pv 0)) (av_cons (ev_str) (av_nil)))) (ev_slice (ev_var (pv 1)) (ov_none) (ov_some (ev_fn hT (ok_l_roll T) hr (by decide) rfl T.f_l_roll (takes_of rfl rfl rfl rfl) (av_cons (ev_var (pv 0)) (av_cons (ev_int) (av_nil))))))))) (sb_nil)) (sb_cons (ss_if (ptv_cmp (od_eq hr.hu) (ev_var (pv 4)) (ev_int) (by rfl)) (sb_one (ss_ret (ev_bin od_add (ev_fn hT (ok_l_pick T) hr (by decide) rfl T.f_l_pick (takes_of rfl rfl rfl rfl) (av_cons (ev_var (pv 0)) (av_cons (ev_var (pv 3)) (av_nil)))) (ev_var (pv 1))))) (sb_nil)) (sb_one (ss_ret (ev_var (pv 1)))))))))))
/-! #### is_name -/
theorem sc_is_name : FnScope ["value"] ["value"] (defScope s_is_name) := ⟨rfl, rfl, rfl, by decide +kernel, rfl, by decide +kernel, by decide +kernel⟩
def m_is_name : SEnv → M Fl :=
  retS (andM (calM D.isI (consA (vr 0) (consA (kc (.ty "str")) (nilA)))) (andM (fcM 2 t_is_lower (consA (vr 0) (consA (kc (.int 8)) (nilA)))) (opM (D.inn true) (vr 0) (kc (.tup ((["shift", "accept"] : List Str).map .str))))))
def t_is_name : List D → M D := fnM 1 1 m_is_name
theorem ok_is_name (T : Tx K mg base a) : FnG PySem.Challenge.pw_chosentrees_k01_symbols_and_rows_of_term w K mg base 2 a.is_name a.d_is_name ["value"] (spM K (cm a) (tbl a) 1 t_is_name) :=
  fn_ok T.f_is_name.F sc_is_name (by decide) fun da hT cdv hc A fr s H E hr =>
    sb_one (ss_ret (ev_and (ev_callB cd_isi rfl T.n_isinstance rfl (av_cons (ev_var (pv 0)) (av_cons (ev_bty rfl T.n_str rfl) (av_nil)))) (ev_and (ev_fn hT (ok_is_lower T) hr (by decide) rfl T.f_is_lower (takes_of rfl rfl rfl rfl) (av_cons (ev_var (pv 0)) (av_cons (ev_gi rfl T.c_MAX_LETTERS) (av_nil)))) (ev_one (ev_cmp (od_notIn hr.hu) (ev_var (pv 0)) (ev_gt rfl T.c_RESERVED) (by rfl))))))
/-! #### is_nonterminal -/
theorem sc_is_nonterminal : FnScope ["value"] ["value"] (defScope s_is_nonterminal) := ⟨rfl, rfl, rfl, by decide +kernel, rfl, by decide +kernel, by decide +kernel⟩
def m_is_nonterminal : SEnv → M Fl :=
  seqS (ifS (orT (notT (asB (calM D.isI (consA (vr 0) (consA (kc (.ty "str")) (nilA)))))) (orT (asB (opM D.eq (vr 0) (kc (.str "")))) (asB (opM (D.inn true) (opM D.ix (vr 0) (kc (.int 0))) (kc (.str "ABCDEFGHIJKLMNOPQRSTUVWXYZ")))))) (retS (kc (.bl false))) (nilS)) (retS (orM (opM D.eq (calM D.len (consA (vr 0) (nilA))) (kc (.int 1))) (fcM 2 t_is_lower (consA (slM (vr 0) (someP (kc (.int 1))) (noP)) (consA (kc (.int 5)) (nilA))))))
def t_is_nonterminal : List D → M D := fnM 1 1 m_is_nonterminal
theorem ok_is_nonterminal (T : Tx K mg base a) : FnG PySem.Challenge.pw_chosentrees_k01_symbols_and_rows_of_term w K mg base 2 a.is_nonterminal a.d_is_nonterminal ["value"] (spM K (cm a) (tbl a) 1 t_is_nonterminal) :=
  fn_ok T.f_is_nonterminal.F sc_is_nonterminal (by decide) fun da hT cdv hc A fr s H E hr =>
    sb_cons (ss_if (PW.pt (pwv_or (ptv_not (ptv_val (ev_callB cd_isi rfl T.n_isinstance rfl (av_cons (ev_var (pv 0)) (av_cons (ev_bty rfl T.n_str rfl) (av_nil)))))) (pwv_or (ptv_cmp (od_eq hr.hu) (ev_var (pv 0)) (ev_str) (by rfl)) (pwv_or1 (ptv_cmp (od_notIn hr.hu) (ev_ix id_ix (ev_var (pv 0)) (ev_int) pix) (ev_gs rfl T.c_UPPER) (by rfl)))))) (sb_one (ss_ret (ev_bl))) (sb_nil)) (sb_one (ss_ret (ev_or (ev_cmp (od_eq hr.hu) (ev_callB cd_len rfl T.n_len rfl (av_cons (ev_var (pv 0)) (av_nil))) (ev_int) (by rfl)) (ev_one (ev_fn hT (ok_is_lower T) hr (by decide) rfl T.f_is_lower (takes_of rfl rfl rfl rfl) (av_cons (ev_slice (ev_var (pv 0)) (ov_some (ev_int)) (ov_none)) (av_cons (ev_gi rfl T.c_MAX_TAIL) (av_nil))))))))
/-! #### _law_right -/
theorem sc_l_right : FnScope ["_law_dice_here", "_law_odd", "_law_turn", "_law_value", "_law_row_here", "_law_other", "_law_more", "_law_due", "_law_one", "_law_wrong", "_law_bad", "_law_told_here"] ["_law_dice_here"] (defScope s_l_right) := ⟨rfl, rfl, rfl, by decide +kernel, rfl, by decide +kernel, by decide +kernel⟩
def m_l_right : SEnv → M Fl :=
  seqS (asgS 1 (newM (dspN (consA (kc .non) (consA (kc (.int 0)) (consA (kc (.bl true)) (consA (kc (.int 1)) (consA (tupM (consA (kc (.str "a")) (nilA))) (consA (newM (dspN (consA (kc (.str "a")) (nilA)))) (consA (dspD [(kc (.str "a"), kc (.int 1))]) (consA (opM D.powB (kc (.int 10)) (kc (.int 30))) (nilA)))))))))))) (seqS (forM (rng1M (consA (kc (.int 12)) (nilA))) (.nm 2) (seqS (asgS 3 (ifM (asB (opM D.gt (fcM 2 t_l_roll (consA (vr 0) (consA (kc (.int 8)) (nilA)))) (kc (.int 0)))) (fcM 1 t_l_word (consA (vr 0) (nilA))) (fcM 2 t_l_pick (consA (vr 0) (consA (vr 1) (nilA)))))) (ifS (asB (opM D.ne (calM D.repr (consA (newM (dspN (consA (fcM 1 t_is_terminal (consA (vr 3) (nilA))) (consA (fcM 1 t_is_nonterminal (consA (vr 3) (nilA))) (consA (fcM 1 t_is_name (consA (vr 3) (nilA))) (nilA)))))) (nilA))) (calM D.repr (consA (fcM 1 t_l_told (consA (vr 3) (nilA))) (nilA))))) (retS (kc (.bl false))) (nilS)))) (seqS (asgT (.tp [(.nm 4), (.nm 5)]) (tupM (consA (fcM 1 t_l_row (consA (vr 0) (nilA))) (consA (fcM 1 t_l_row (consA (vr 0) (nilA))) (nilA))))) (seqS (asgS 6 (newM (dspN (consA (vr 4) (consA (calM D.listOf (consA (vr 4) (nilA))) (consA (opM D.add (vr 4) (tupM (consA (kc .non) (nilA)))) (consA (opM D.add (vr 4) (tupM (consA (kc (.str "E")) (nilA)))) (consA (opM D.mul (slM (vr 4) (noP) (someP (kc (.int 1)))) (kc (.int 3))) (consA (kc (.str "a")) (consA (kc .non) (consA (kc (.dic [])) (consA (tupM (consA (kc (.int 1)) (nilA))) (consA (tupM (consA (tupM (consA (kc (.str "a")) (nilA))) (nilA))) (nilA)))))))))))))) (seqS (forM (itM (vr 6)) (.nm 3) (seqS (asgS 7 (andM (calM D.isI (consA (vr 3) (consA (kc (.ty "tuple")) (nilA)))) (opM D.le (calM D.len (consA (vr 3) (nilA))) (kc (.int 60))))) (seqS (asgS 7 (andM (vr 7) (opM D.eq (newM (lcN (itM (vr 3)) (.nm 8) [8] (notT (asB (fcM 1 t_l_is_told_terminal (consA (vr 8) (nilA))))) (vr 8))) (newM (dspN (nilA)))))) (ifS (asB (opM D.ne (calM D.repr (consA (fcM 1 t_is_terminals (consA (vr 3) (nilA))) (nilA))) (calM D.repr (consA (vr 7) (nilA))))) (retS (kc (.bl false))) (nilS))))) (seqS (ifS (andT (asB (opM D.le (calM D.len (consA (vr 4) (nilA))) (kc (.int 60)))) (andT (asB (opM D.le (calM D.len (consA (vr 5) (nilA))) (kc (.int 60)))) (notT (andT (asB (fcM 2 t_l_order_right (consA (vr 4) (consA (vr 5) (nilA))))) (asB (fcM 2 t_l_order_right (consA (vr 4) (consA (vr 4) (nilA))))))))) (retS (kc (.bl false))) (nilS)) (seqS (asgS 9 (fcM 2 t_l_pick (consA (vr 0) (consA (newM (dspN (consA (kc .non) (consA (kc (.str "a")) (consA (newM (dspN (consA (kc (.str "a")) (nilA)))) (consA (tupM (consA (kc (.str "E")) (nilA))) (consA (tupM (consA (kc (.str "a")) (consA (kc (.int 0)) (nilA)))) (consA (tupM (consA (kc (.str "\x24")) (nilA))) (nilA))))))))) (nilA))))) (seqS (asgS 10 (fcM 2 t_l_pick (consA (vr 0) (consA (newM (dspN (consA (kc .non) (consA (kc (.int 0)) (consA (tupM (consA (kc (.str "a")) (nilA))) (consA (newM (dspN (consA (kc (.str "a")) (nilA)))) (nilA))))))) (nilA))))) (seqS (asgN 11 (dspN (consA (lamM t_l_error (fcM 1 t_write_terminals (consA (vr 9) (nilA)))) (nilA)))) (seqS (appS 11 (lamM t_l_error (fcM 2 t_is_before (consA (vr 9) (consA (slM (vr 4) (noP) (someP (kc (.int 3)))) (nilA)))))) (seqS (appS 11 (lamM t_l_error (fcM 2 t_is_before (consA (slM (vr 4) (noP) (someP (kc (.int 3)))) (consA (vr 9) (nilA)))))) (seqS (appS 11 (lamM t_l_error (fcM 1 t_read_terminals (consA (vr 10) (nilA))))) (frzS 11 (retS (andM (opM D.eq (vr 11) (newM (dspN (consA (kc (.str "text")) (consA (kc (.str "text")) (consA (kc (.str "text")) (consA (kc (.str "parse None")) (nilA)))))))) (fcM 2 t_l_lines_right (consA (vr 0) (consA (vr 4) (nilA))))))))))))))))))
def t_l_right : List D → M D := fnM 1 12 m_l_right
theorem ok_l_right (T : Tx K mg base a) : FnG PySem.Challenge.pw_chosentrees_k01_symbols_and_rows_of_term w K mg base 9 a.l_right a.d_l_right ["_law_dice_here"] (spM K (cm a) (tbl a) 1 t_l_right) :=
  fn_ok T.f_l_right.F sc_l_right (by decide) fun da hT cdv hc A fr s H E hr =>
    sb_cons (ss_set (i := 1) sc_l_right.nd rfl (Or.inl rfl) (ev_nw (nw_lst (av_cons (ev_non) (av_cons (ev_int) (av_cons (ev_bl) (av_cons (ev_int) (av_cons (ev_tup (av_cons (ev_str) (av_nil))) (av_cons (ev_nw (nw_lst (av_cons (ev_str) (av_nil)))) (av_cons (ev_disp (.cons (ev_str) (ev_int) (.nil))) (av_cons (ev_bin od_powB (ev_int) (ev_int)) (av_nil)))))))))))) (sb_cons (ss_for (t := (.nm 2)) (passes_of rfl) rfl (iv_range1 rfl T.n_range (av_cons (ev_int) (av_nil))) (pg_nm (i := 2) sc_l_right.nd rfl (Or.inl rfl)) (sb_cons (ss_set (i := 3) sc_l_right.nd rfl (Or.inl rfl) (ev_if (ptv_cmp (od_gt hr.hu) (ev_fn hT (ok_l_roll T) hr (by decide) rfl T.f_l_roll (takes_of rfl rfl rfl rfl) (av_cons (ev_var (pv 0)) (av_cons (ev_int) (av_nil)))) (ev_int) (by rfl)) (ev_fn hT (ok_l_word T) hr (by decide) rfl T.f_l_word (takes_of rfl rfl rfl rfl) (av_cons (ev_var (pv 0)) (av_nil))) (ev_fn hT (ok_l_pick T) hr (by decide) rfl T.f_l_pick (takes_of rfl rfl rfl rfl) (av_cons (ev_var (pv 0)) (av_cons (ev_var (pv 1)) (av_nil)))))) (sb_one (ss_if (ptv_cmp (od_ne hr.hu) (ev_callB (cd_repr hr.gd hr.hu) rfl T.n_repr rfl (av_cons (ev_nw (nw_lst (av_cons (ev_fn hT (ok_is_terminal T) hr (by decide) rfl T.f_is_terminal (takes_of rfl rfl rfl rfl) (av_cons (ev_var (pv 3)) (av_nil))) (av_cons (ev_fn hT (ok_is_nonterminal T) hr (by decide) rfl T.f_is_nonterminal (takes_of rfl rfl rfl rfl) (av_cons (ev_var (pv 3)) (av_nil))) (av_cons (ev_fn hT (ok_is_name T) hr (by decide) rfl T.f_is_name (takes_of rfl rfl rfl rfl) (av_cons (ev_var (pv 3)) (av_nil))) (av_nil)))))) (av_nil))) (ev_callB (cd_repr hr.gd hr.hu) rfl T.n_repr rfl (av_cons (ev_fn hT (ok_l_told T) hr (by decide) rfl T.f_l_told (takes_of rfl rfl rfl rfl) (av_cons (ev_var (pv 3)) (av_nil))) (av_nil))) (by rfl)) (sb_one (ss_ret (ev_bl))) (sb_nil))))) (sb_cons (ss_asgT (t := (.tp [(.nm 4), (.nm 5)])) (ev_tup (av_cons (ev_fn hT (ok_l_row T) hr (by decide) rfl T.f_l_row (takes_of rfl rfl rfl rfl) (av_cons (ev_var (pv 0)) (av_nil))) (av_cons (ev_fn hT (ok_l_row T) hr (by decide) rfl T.f_l_row (takes_of rfl rfl rfl rfl) (av_cons (ev_var (pv 0)) (av_nil))) (av_nil)))) (pg_tp rfl (pgs_cn (pg_nm (i := 4) sc_l_right.nd rfl (Or.inr rfl)) (pgs_cn (pg_nm (i := 5) sc_l_right.nd rfl (Or.inl rfl)) (pgs_nl))))) (sb_cons (ss_set (i := 6) sc_l_right.nd rfl (Or.inl rfl) (ev_nw (nw_lst (av_cons (ev_var (pv 4)) (av_cons (ev_callTy (cd_list rfl) rfl T.n_list rfl (av_cons (ev_var (pv 4)) (av_nil))) (av_cons (ev_bin od_add (ev_var (pv 4)) (ev_tup (av_cons (ev_non) (av_nil)))) (av_cons (ev_bin od_add (ev_var (pv 4)) (ev_tup (av_cons (ev_str) (av_nil)))) (av_cons (ev_bin od_mul (ev_slice (ev_var (pv 4)) (ov_none) (ov_some (ev_int))) (ev_int)) (av_cons (ev_str) (av_cons (ev_non) (av_cons (ev_dnew) (av_cons (ev_tup (av_cons (ev_int) (av_nil))) (av_cons (ev_tup (av_cons (ev_tup (av_cons (ev_str) (av_nil))) (av_nil))) (av_nil)))))))))))))) (sb_cons (ss_for (t := (.nm 3)) (passes_of rfl) rfl (iv_seq (ev_var (pv 6))) (pg_nm (i := 3) sc_l_right.nd rfl (Or.inl rfl)) (sb_cons (ss_set (i := 7) sc_l_right.nd rfl (Or.inl rfl) (ev_and (ev_callB cd_isi rfl T.n_isinstance rfl (av_cons (ev_var (pv 3)) (av_cons (ev_bty rfl T.n_tuple rfl) (av_nil)))) (ev_one (ev_cmp (od_le hr.hu) (ev_callB cd_len rfl T.n_len rfl (av_cons (ev_var (pv 3)) (av_nil))) (ev_int) (by rfl))))) (sb_cons (ss_set (i := 7) sc_l_right.nd rfl (Or.inl rfl) (ev_and (ev_var (pv 7)) (ev_one (ev_cmp (od_eq hr.hu) (ev_nw (nw_lc rfl sc_l_right.nd (iv_seq (ev_var (pv 3))) (by exact blkOk_by (N := ["_law_dice_here", "_law_odd", "_law_turn", "_law_value", "_law_row_here", "_law_other", "_law_more", "_law_due", "_law_one", "_law_wrong", "_law_bad", "_law_told_here"]) (sc := defScope s_l_right) (own := [("_law_one", 8)]) (by decide +kernel)) (by decide) (fun s1 H1 C1 cl1 fp1 => pg_nm (i := 8) sc_l_right.nd rfl (Or.inl rfl)) (fun s1 H1 C1 cl1 fp1 => tsv_one (ptv_not (ptv_val (ev_fn hT (ok_l_is_told_terminal T) hr (by decide) rfl T.f_l_is_told_terminal takes0 (av_cons (ev_var (pv 8)) (av_nil)))))) (fun s1 H1 C1 cl1 fp1 => ev_var (pv 8)))) (ev_nw (nw_lst (av_nil))) (by rfl))))) (sb_one (ss_if (ptv_cmp (od_ne hr.hu) (ev_callB (cd_repr hr.gd hr.hu) rfl T.n_repr rfl (av_cons (ev_fn hT (ok_is_terminals T) hr (by decide) rfl T.f_is_terminals (takes_of rfl rfl rfl rfl) (av_cons (ev_var (pv 3)) (av_nil))) (av_nil))) (ev_callB (cd_repr hr.gd hr.hu) rfl T.n_repr rfl (av_cons (ev_var (pv 7)) (av_nil))) (by rfl)) (sb_one (ss_ret (ev_bl))) (sb_nil)))))) (sb_cons (ss_if (PW.pt (pwv_and (ptv_cmp (od_le hr.hu) (ev_callB cd_len rfl T.n_len rfl (av_cons (ev_var (pv 4)) (av_nil))) (ev_int) (by rfl)) (pwv_and (ptv_cmp (od_le hr.hu) (ev_callB cd_len rfl T.n_len rfl (av_cons (ev_var (pv 5)) (av_nil))) (ev_int) (by rfl)) (pwv_and1 (ptv_not (PW.pt (pwv_and (ptv_val (ev_fn hT (ok_l_order_right T) hr (by decide) rfl T.f_l_order_right (takes_of rfl rfl rfl rfl) (av_cons (ev_var (pv 4)) (av_cons (ev_var (pv 5)) (av_nil))))) (pwv_and1 (ptv_val (ev_fn hT (ok_l_order_right T) hr (by decide) rfl T.f_l_order_right (takes_of rfl rfl rfl rfl) (av_cons (ev_var (pv 4)) (av_cons (ev_var (pv 4)) (av_nil))))))))))))) (sb_one (ss_ret (ev_bl))) (sb_nil)) (sb_cons (ss_set (i := 9) sc_l_right.nd rfl (Or.inr rfl) (ev_fn hT (ok_l_pick T) hr (by decide) rfl T.f_l_pick (takes_of rfl rfl rfl rfl) (av_cons (ev_var (pv 0)) (av_cons (ev_nw (nw_lst (av_cons (ev_non) (av_cons (ev_str) (av_cons (ev_nw (nw_lst (av_cons (ev_str) (av_nil)))) (av_cons (ev_tup (av_cons (ev_str) (av_nil))) (av_cons (ev_tup (av_cons (ev_str) (av_cons (ev_int) (av_nil)))) (av_cons (ev_tup (av_cons (ev_str) (av_nil))) (av_nil))))))))) (av_nil))))) (sb_cons (ss_set (i := 10) sc_l_right.nd rfl (Or.inr rfl) (ev_fn hT (ok_l_pick T) hr (by decide) rfl T.f_l_pick (takes_of rfl rfl rfl rfl) (av_cons (ev_var (pv 0)) (av_cons (ev_nw (nw_lst (av_cons (ev_non) (av_cons (ev_int) (av_cons (ev_tup (av_cons (ev_str) (av_nil))) (av_cons (ev_nw (nw_lst (av_cons (ev_str) (av_nil)))) (av_nil))))))) (av_nil))))) (sb_cons (ss_setN (i := 11) sc_l_right.nd rfl (Or.inl rfl) (nw_lst (av_cons (lam_l_error rfl T rfl hT (hc.eq T.k_l_right) T.t_l_right (mem_l_right a) (uq_l_right T) (hr.mono (by decide)) (by exact LamX.lamS_by (sc := defScope s_l_right) (by decide +kernel))  (j := 6) (fun A2 fr2 s2 H2 E2 f2 c2 hr2 => (ev_fn hT (ok_write_terminals T) hr2 (by decide) rfl T.f_write_terminals (takes_of rfl rfl rfl rfl) (av_cons (ev_var (pv 9)) (av_nil))))) (av_nil)))) (sb_cons (ss_app (i := 11) (pv 11) (lam_l_error rfl T rfl hT (hc.eq T.k_l_right) T.t_l_right (mem_l_right a) (uq_l_right T) (hr.mono (by decide)) (by exact LamX.lamS_by (sc := defScope s_l_right) (by decide +kernel))  (j := 6) (fun A2 fr2 s2 H2 E2 f2 c2 hr2 => (ev_fn hT (ok_is_before T) hr2 (by decide) rfl T.f_is_before (takes_of rfl rfl rfl rfl) (av_cons (ev_var (pv 9)) (av_cons (ev_slice (ev_var (pv 4)) (ov_none) (ov_some (ev_int))) (av_nil))))))) (sb_cons (ss_app (i := 11) (pv 11) (lam_l_error rfl T rfl hT (hc.eq T.k_l_right) T.t_l_right (mem_l_right a) (uq_l_right T) (hr.mono (by decide)) (by exact LamX.lamS_by (sc := defScope s_l_right) (by decide +kernel))  (j := 6) (fun A2 fr2 s2 H2 E2 f2 c2 hr2 => (ev_fn hT (ok_is_before T) hr2 (by decide) rfl T.f_is_before (takes_of rfl rfl rfl rfl) (av_cons (ev_slice (ev_var (pv 4)) (ov_none) (ov_some (ev_int))) (av_cons (ev_var (pv 9)) (av_nil))))))) (sb_cons (ss_app (i := 11) (pv 11) (lam_l_error rfl T rfl hT (hc.eq T.k_l_right) T.t_l_right (mem_l_right a) (uq_l_right T) (hr.mono (by decide)) (by exact LamX.lamS_by (sc := defScope s_l_right) (by decide +kernel))  (j := 6) (fun A2 fr2 s2 H2 E2 f2 c2 hr2 => (ev_fn hT (ok_read_terminals T) hr2 (by decide) rfl T.f_read_terminals (takes_of rfl rfl rfl rfl) (av_cons (ev_var (pv 10)) (av_nil)))))) (sb_one (ss_frz (i := 11) (ss_ret (ev_and (ev_cmp (od_eq hr.hu) (ev_var (pv 11)) (ev_nw (nw_lst (av_cons (ev_str) (av_cons (ev_str) (av_cons (ev_str) (av_cons (ev_str) (av_nil))))))) (by rfl)) (ev_one (ev_fn hT (ok_l_lines_right T) hr (by decide) rfl T.f_l_lines_right (takes_of rfl rfl rfl rfl) (av_cons (ev_var (pv 0)) (av_cons (ev_var (pv 4)) (av_nil))))))))))))))))))))
/-! #### law -/
theorem sc_law : FnScope ["_law_script", "_law_spot", "_law_told_here"] ["_law_script"] (defScope s_law) := ⟨rfl, rfl, rfl, by decide +kernel, rfl, by decide +kernel, by decide +kernel⟩
def m_law : SEnv → M Fl :=
  seqS (forM (rng1M (consA (calM D.max2 (consA (kc (.int 1)) (consA (calM D.min2 (consA (kc (.int 6)) (consA (calM D.len (consA (vr 0) (nilA))) (nilA)))) (nilA)))) (nilA))) (.nm 1) (ifS (notT (asB (rdM 2 t_l_dice t_l_right (consA (vr 0) (consA (vr 1) (nilA)))))) (retS (kc (.bl false))) (nilS))) (seqS (asgS 2 (newM (dspN (consA (kc (.str "\x24")) (consA (kc (.int 8)) (consA (kc (.int 60)) (consA (kc (.str "!&()*+,-./:;<=>?[]^|")) (consA (fcM 1 t_read_terminals (consA (kc (.str "")) (nilA))) (consA (fcM 1 t_write_terminals (consA (tupM (nilA)) (nilA))) (nilA)))))))))) (seqS (ifS (asB (opM D.ne (vr 2) (newM (dspN (consA (kc (.str "\x24")) (consA (kc (.int 8)) (consA (kc (.int 60)) (consA (kc (.str "!&()*+,-./:;<=>?[]^|")) (consA (tupM (nilA)) (consA (kc (.str "")) (nilA))))))))))) (retS (kc (.bl false))) (nilS)) (seqS (asgS 2 (newM (dspN (consA (fcM 2 t_is_before (consA (tupM (nilA)) (consA (tupM (consA (kc (.str "a")) (nilA))) (nilA)))) (consA (fcM 2 t_is_before (consA (tupM (consA (kc (.str "b")) (nilA))) (consA (tupM (consA (kc (.str "a")) (consA (kc (.str "a")) (nilA)))) (nilA)))) (consA (fcM 2 t_is_before (consA (tupM (consA (kc (.str "b")) (nilA))) (consA (tupM (consA (kc (.str "a")) (nilA))) (nilA)))) (consA (fcM 2 t_is_before (consA (tupM (consA (kc (.str "(")) (nilA))) (consA (tupM (consA (kc (.str "a")) (nilA))) (nilA)))) (nilA)))))))) (retS (andM (opM D.eq (vr 2) (newM (dspN (consA (kc (.bl true)) (consA (kc (.bl true)) (consA (kc (.bl false)) (consA (kc (.bl true)) (nilA)))))))) (andM (fcM 1 t_is_nonterminal (consA (kc (.str "Abcdef")) (nilA))) (notM (fcM 1 t_is_nonterminal (consA (kc (.str "Abcdefg")) (nilA))))))))))
def t_law : List D → M D := fnM 1 3 m_law
theorem ok_law (T : Tx K mg base a) : FnG PySem.Challenge.pw_chosentrees_k01_symbols_and_rows_of_term w K mg base 10 a.law a.d_law ["_law_script"] (spM0 K (cm a) (tbl a) 1 t_law) :=
  fn_ok0 T.f_law.F sc_law (by decide) fun da hT h0 cdv hc A fr s H E hr =>
    sb_cons (ss_for (t := (.nm 1)) (passes_of rfl) rfl (iv_range1 rfl T.n_range (av_cons (ev_callB (cd_max2 rfl) rfl T.n_max rfl (av_cons (ev_int) (av_cons (ev_callB (cd_min2 rfl) rfl T.n_min rfl (av_cons (ev_int) (av_cons (ev_callB cd_len rfl T.n_len rfl (av_cons (ev_var (pv 0)) (av_nil))) (av_nil)))) (av_nil)))) (av_nil))) (pg_nm (i := 1) sc_law.nd rfl (Or.inl rfl)) (sb_one (ss_if (ptv_not (ptv_val (ev_rd h0 hT (ok_l_dice T) (ok_l_right T) (hr.mono (by decide)) (hr.mono (by decide)) rfl T.f_l_dice.g T.f_l_dice.F.kp T.f_l_dice.b rfl T.f_l_right.g T.f_l_right.F.kp T.f_l_right.b (takes_of rfl rfl rfl rfl) (av_cons (ev_var (pv 0)) (av_cons (ev_var (pv 1)) (av_nil)))))) (sb_one (ss_ret (ev_bl))) (sb_nil)))) (sb_cons (ss_set (i := 2) sc_law.nd rfl (Or.inl rfl) (ev_nw (nw_lst (av_cons (ev_gs rfl T.c_END) (av_cons (ev_gi rfl T.c_MAX_LETTERS) (av_cons (ev_gi rfl T.c_MAX_TEXT) (av_cons (ev_gs rfl T.c_SIGNS) (av_cons (ev_fn hT (ok_read_terminals T) hr (by decide) rfl T.f_read_terminals (takes_of rfl rfl rfl rfl) (av_cons (ev_str) (av_nil))) (av_cons (ev_fn hT (ok_write_terminals T) hr (by decide) rfl T.f_write_terminals (takes_of rfl rfl rfl rfl) (av_cons (ev_tup (av_nil)) (av_nil))) (av_nil)))))))))) (sb_cons (ss_if (ptv_cmp (od_ne hr.hu) (ev_var (pv 2)) (ev_nw (nw_lst (av_cons (ev_str) (av_cons (ev_int) (av_cons (ev_int) (av_cons (ev_str) (av_cons (ev_tup (av_nil)) (av_cons (ev_str) (av_nil))))))))) (by rfl)) (sb_one (ss_ret (ev_bl))) (sb_nil)) (sb_cons (ss_set (i := 2) sc_law.nd rfl (Or.inl rfl) (ev_nw (nw_lst (av_cons (ev_fn hT (ok_is_before T) hr (by decide) rfl T.f_is_before (takes_of rfl rfl rfl rfl) (av_cons (ev_tup (av_nil)) (av_cons (ev_tup (av_cons (ev_str) (av_nil))) (av_nil)))) (av_cons (ev_fn hT (ok_is_before T) hr (by decide) rfl T.f_is_before (takes_of rfl rfl rfl rfl) (av_cons (ev_tup (av_cons (ev_str) (av_nil))) (av_cons (ev_tup (av_cons (ev_str) (av_cons (ev_str) (av_nil)))) (av_nil)))) (av_cons (ev_fn hT (ok_is_before T) hr (by decide) rfl T.f_is_before (takes_of rfl rfl rfl rfl) (av_cons (ev_tup (av_cons (ev_str) (av_nil))) (av_cons (ev_tup (av_cons (ev_str) (av_nil))) (av_nil)))) (av_cons (ev_fn hT (ok_is_before T) hr (by decide) rfl T.f_is_before (takes_of rfl rfl rfl rfl) (av_cons (ev_tup (av_cons (ev_str) (av_nil))) (av_cons (ev_tup (av_cons (ev_str) (av_nil))) (av_nil)))) (av_nil)))))))) (sb_one (ss_ret (ev_and (ev_cmp (od_eq hr.hu) (ev_var (pv 2)) (ev_nw (nw_lst (av_cons (ev_bl) (av_cons (ev_bl) (av_cons (ev_bl) (av_cons (ev_bl) (av_nil))))))) (by rfl)) (ev_and (ev_fn hT (ok_is_nonterminal T) hr (by decide) rfl T.f_is_nonterminal (takes_of rfl rfl rfl rfl) (av_cons (ev_str) (av_nil))) (ev_one (ev_not (ev_fn hT (ok_is_nonterminal T) hr (by decide) rfl T.f_is_nonterminal (takes_of rfl rfl rfl rfl) (av_cons (ev_str) (av_nil))))))))))))
end
end K01
set_option maxHeartbeats 1000000
namespace K01
open PySem PySem.Spec PyProof.Rows L2 Dv
/-! ### signs -/
def lowC (c : Nat) : Bool := decide (97 ≤ c) && decide (c ≤ 122)
def uppC (c : Nat) : Bool := decide (65 ≤ c) && decide (c ≤ 90)
def sgn : List Nat := [33, 38, 40, 41, 42, 43, 44, 45, 46, 47, 58, 59, 60, 61, 62, 63, 91, 93, 94, 124]
theorem low_cps : ("abcdefghijklmnopqrstuvwxyz" : Str).cps.toList = (List.range 26).map (· + 97) := by decide +kernel
theorem upp_cps : ("ABCDEFGHIJKLMNOPQRSTUVWXYZ" : Str).cps.toList = (List.range 26).map (· + 65) := by decide +kernel
theorem sgn_cps : ("!&()*+,-./:;<=>?[]^|" : Str).cps.toList = sgn := by decide +kernel
theorem mem_low (c : Nat) : decide (c ∈ ("abcdefghijklmnopqrstuvwxyz" : Str).cps.toList) = lowC c := by
  rw [low_cps]
  unfold lowC
  rw [← Bool.decide_and]
  apply decide_eq_decide.mpr
  simp only [List.mem_map, List.mem_range]
  constructor
  · rintro ⟨a, h, rfl⟩; omega
  · rintro ⟨h1, h2⟩; exact ⟨c - 97, by omega, by omega⟩
theorem mem_upp (c : Nat) : decide (c ∈ ("ABCDEFGHIJKLMNOPQRSTUVWXYZ" : Str).cps.toList) = uppC c := by
  rw [upp_cps]
  unfold uppC
  rw [← Bool.decide_and]
  apply decide_eq_decide.mpr
  simp only [List.mem_map, List.mem_range]
  constructor
  · rintro ⟨a, h, rfl⟩; omega
  · rintro ⟨h1, h2⟩; exact ⟨c - 65, by omega, by omega⟩
/-- a c b with one sign at the ends -/
theorem btw (a b c : Nat) : (!decide ([c] < [a]) && !decide ([b] < [c])) = (decide (a ≤ c) && decide (c ≤ b)) := by
  have h : ∀ x y : Nat, decide ([x] < [y]) = decide (x < y) := fun x y => decide_eq_decide.mpr (by rw [List.cons_lt_cons_iff]; simp)
  rw [h, h]
  by_cases h1 : c < a <;> by_cases h2 : b < c <;> simp [h1, h2] <;> omega
def isLow (n : Int) (x : Str) : Bool := decide ((1 : Int) ≤ x.length) && decide ((x.length : Int) ≤ n) && x.cps.toList.all lowC
def one? (p : Nat → Bool) (x : Str) : Bool := (x.length : Int) == 1 && x.cps.toList.all p
def isTerm (x : Str) : Bool := isLow 8 x || one? (fun c => decide (c ∈ sgn)) x
theorem one_sign {x : Str} (h : ((x.length : Int) == 1) = true) : ∃ c, x = ⟨#[c]⟩ := by
  have h : x.cps.size = 1 := by
    have h := beq_iff_eq.mp h
    have : x.length = 1 := by omega
    exact this
  refine ⟨x.cps[0], str_ext ?_⟩
  apply List.ext_getElem
  · simp [h]
  · intro i h1 h2
    have : i = 0 := by simp at h2; omega
    subst this
    simp
/-- good: short, below 128 -/
def good (x : Str) : Bool := asc x && decide (x.length ≤ 1500)
theorem good_asc {x : Str} (h : good x = true) : asc x = true := (Bool.and_eq_true_iff.mp h).1
theorem good_len {x : Str} (h : good x = true) : x.length ≤ lim := Nat.le_trans (of_decide_eq_true (Bool.and_eq_true_iff.mp h).2) (by decide)
theorem signs_len (x : Str) : (Dv.signs x).length = x.length := by unfold Dv.signs; simp; rfl
theorem signs_le {x : Str} (h : good x = true) : (Dv.signs x).length ≤ lim := by rw [signs_len]; exact good_len h
/-! ### is_lower, _law_is_small -/
theorem is_lower_eq {x : Str} (h : good x = true) (n : Int) : t_is_lower [.str x, .int n] = ret (.bl (isLow n x)) := by
  refine (fn_ret rfl).trans ?_
  show andM _ _ [some (.str x), some (.int n), none] = _
  have hl : calM D.len (consA (vr 0) nilA) [some (.str x), some (.int n), none] = ret (.int x.length) := cal_ret (cons_ret rfl rfl) (len_str (good_len h))
  refine and_ret (a := decide ((1 : Int) ≤ x.length) && decide ((x.length : Int) ≤ n)) (b := x.cps.toList.all lowC) (chain_ret rfl hl (le_int _ _) (fun _ => vr_1) fun _ => le_int _ _) fun _ => ?_
  refine cal_ret (d := .bl (x.cps.toList.all lowC)) (cons_ret (newM_ret (ds := (x.cps.toList.map lowC).map .bl) ?_) rfl) ?_
  · refine (lcN_eq (it_ret (d := .str x) vr_0 rfl) (signs_le h)).trans ?_
    rw [List.map_map]
    exact lcL_each (f := fun c => .str ⟨#[c]⟩) fun c hc => op_ret (x := .str ⟨#[c]⟩) rfl rfl (by rw [in_sign, mem_low]; show some (D.bl (false != lowC c)) = some (D.bl (lowC c)); cases lowC c <;> rfl)
  · rw [all_bls, List.all_map]
    rfl
theorem is_small_eq {x : Str} (h : good x = true) (n : Int) : t_l_is_small [.str x, .int n] = ret (.bl (isLow n x)) := by
  refine (fn_ret rfl).trans ?_
  show andM _ _ [some (.str x), some (.int n), none] = _
  have hl : calM D.len (consA (vr 0) nilA) [some (.str x), some (.int n), none] = ret (.int x.length) := cal_ret (cons_ret rfl rfl) (len_str (good_len h))
  refine and_ret (a := decide ((1 : Int) ≤ x.length) && decide ((x.length : Int) ≤ n)) (b := x.cps.toList.all lowC) (chain_ret rfl hl (le_int _ _) (fun _ => vr_1) fun _ => le_int _ _) fun _ => ?_
  have ha := asc_iff.mp (good_asc h)
  refine op_ret (x := .lst (((x.cps.toList.filter fun c => !lowC c).map fun c => (⟨#[c]⟩ : Str)).map .str)) (y := .lst (([] : List Str).map .str)) (newM_ret ?_) (newM_ret (dsp_ret rfl (by decide))) ?_
  · refine (lcN_eq (it_ret (d := .str x) vr_0 rfl) (signs_le h)).trans ?_
    rw [List.map_map]
    refine lcL_filt (f := fun c => .str ⟨#[c]⟩) (fun c hc => notT_ret (asB_ret ?_)) fun c hc _ => rfl
    unfold lowC
    rw [← btw]
    exact chain_ret (x := .str "a") (y := .str ⟨#[c]⟩) (z := .str "z") rfl rfl (le_str _ _) (fun _ => rfl) fun _ => le_str _ _
  · rw [eq_lstS (fun y hy => ?_) fun y hy => absurd hy (by simp)]
    · congr 2
      rw [Bool.eq_iff_iff]
      simp only [beq_iff_eq, List.map_eq_nil_iff, List.filter_eq_nil_iff, List.all_eq_true, Bool.not_eq_true, Bool.not_eq_false']
    · obtain ⟨c, hc, rfl⟩ := List.mem_map.mp hy
      exact asc_iff.mpr fun c' hc' => by
        have : c' = c := by simpa using hc'
        subst this
        exact ha _ (List.mem_filter.mp hc).1

/-! ### values -/
def Val (d : D) : Prop := (∃ x, d = .str x ∧ good x = true) ∨ d.nstr = true
def isTermD : D → Bool
  | .str x => isTerm x
  | _ => false
theorem nstr_term {d : D} (h : d.nstr = true) : isTermD d = false := by cases d <;> first | rfl | cases h
theorem isi_eq (d : D) {env : Dv.Env} {b : Bool} {r : Dv.Env} (he : env = some d :: r) (h : D.isI [d, .ty "str"] = some (.bl b)) : calM D.isI (consA (vr 0) (consA (kc (.ty "str")) nilA)) env = ret (.bl b) := by
  subst he
  exact cal_ret (cons_ret (d := d) rfl (cons_ret rfl rfl)) h
theorem in_sgn {x : Str} (h : ((x.length : Int) == 1) = true) : D.inn false (.str x) (.str "!&()*+,-./:;<=>?[]^|") = some (.bl (x.cps.toList.all fun c => decide (c ∈ sgn))) := by
  obtain ⟨c, rfl⟩ := one_sign h
  rw [in_sign, sgn_cps]
  show some (D.bl (false != decide (c ∈ sgn))) = some (D.bl (decide (c ∈ sgn) && true))
  cases decide (c ∈ sgn) <;> rfl
theorem len1 {x : Str} (h : good x = true) {r : Dv.Env} : calM D.len (consA (vr 0) nilA) (some (.str x) :: r) = ret (.int x.length) := cal_ret (cons_ret vr_0 rfl) (len_str (good_len h))
theorem is_terminal_eq {d : D} (h : Val d) : t_is_terminal [d] = ret (.bl (isTermD d)) := by
  refine fn_of rfl ?_
  rcases h with ⟨x, rfl, h⟩ | h
  · refine (seq_next (e := [.dt (.str x)]) ((ifS_f (notT_ret (asB_ret (isi_eq (.str x) rfl (isi_str x))))).trans nil_ret)).trans (ret_ret ?_)
    refine or_ret (a := isLow 8 x) ((fc_ret (cons_ret rfl (cons_ret rfl rfl)) rfl).trans (is_lower_eq h 8)) fun _ => ?_
    exact and_ret (a := (x.length : Int) == 1) (op_ret (len1 h) rfl (eq_int _ _)) fun h1 => op_ret rfl rfl (in_sgn h1)
  · rw [nstr_term h]
    exact seq_ret ((ifS_t (notT_ret (asB_ret (isi_eq d rfl (isi_nstr h))))).trans (ret_ret rfl))
theorem told_signs (c : Nat) : decide (c ∈ ("+-*/^=<>!?&|.,;:()[]" : Str).cps.toList) = decide (c ∈ sgn) := by
  have e : ("+-*/^=<>!?&|.,;:()[]" : Str).cps.toList = [43, 45, 42, 47, 94, 61, 60, 62, 33, 63, 38, 124, 46, 44, 59, 58, 40, 41, 91, 93] := by decide +kernel
  rw [e]
  unfold sgn
  apply decide_eq_decide.mpr
  simp only [List.mem_cons, List.not_mem_nil, or_false]
  omega
theorem told_signs_asc : ∀ y ∈ (("+-*/^=<>!?&|.,;:()[]" : Str).cps.toList.map fun c => (⟨#[c]⟩ : Str)), asc y = true := by decide +kernel
theorem in_told {x : Str} (h : good x = true) (h1 : ((x.length : Int) == 1) = true) : D.inn false (.str x) (.lst (Dv.signs "+-*/^=<>!?&|.,;:()[]")) = some (.bl (x.cps.toList.all fun c => decide (c ∈ sgn))) := by
  have e : Dv.signs "+-*/^=<>!?&|.,;:()[]" = (("+-*/^=<>!?&|.,;:()[]" : Str).cps.toList.map fun c => (⟨#[c]⟩ : Str)).map .str := by unfold Dv.signs; rw [List.map_map]; rfl
  rw [e, in_lstS false (good_asc h) told_signs_asc]
  obtain ⟨c, rfl⟩ := one_sign h1
  have e2 : decide ((⟨#[c]⟩ : Str) ∈ ("+-*/^=<>!?&|.,;:()[]" : Str).cps.toList.map fun c => (⟨#[c]⟩ : Str)) = decide (c ∈ sgn) := by
    rw [← told_signs]
    apply decide_eq_decide.mpr
    rw [List.mem_map]
    constructor
    · rintro ⟨c', h, e⟩
      have : c' = c := by
        have := congrArg (fun z : Str => z.cps.toList) e
        simpa using this
      rw [← this]; exact h
    · exact fun h => ⟨c, h, rfl⟩
  rw [e2]
  show some (D.bl (false != decide (c ∈ sgn))) = some (D.bl (decide (c ∈ sgn) && true))
  cases decide (c ∈ sgn) <;> rfl
theorem told_terminal_eq {d : D} (h : Val d) : t_l_is_told_terminal [d] = ret (.bl (isTermD d)) := by
  refine fn_of rfl ?_
  rcases h with ⟨x, rfl, h⟩ | h
  · refine (seq_next (e := [.dt (.str x)]) ((ifS_f (notT_ret (asB_ret (isi_eq (.str x) rfl (isi_str x))))).trans nil_ret)).trans (ret_ret ?_)
    refine or_ret (a := isLow 8 x) ((fc_ret (cons_ret rfl (cons_ret rfl rfl)) rfl).trans (is_small_eq h 8)) fun _ => ?_
    exact and_ret (a := (x.length : Int) == 1) (op_ret (len1 h) rfl (eq_int _ _)) fun h1 => op_ret (y := .lst (Dv.signs "+-*/^=<>!?&|.,;:()[]")) rfl (cal_ret (cons_ret rfl rfl) rfl) (in_told h h1)
  · rw [nstr_term h]
    exact seq_ret ((ifS_t (notT_ret (asB_ret (isi_eq d rfl (isi_nstr h))))).trans (ret_ret rfl))
/-! ### names -/
def isName (x : Str) : Bool := isLow 8 x && !decide (x ∈ (["shift", "accept"] : List Str))
def isNameD : D → Bool
  | .str x => isName x
  | _ => false
theorem two_asc : ∀ y ∈ (["shift", "accept"] : List Str), asc y = true := by decide +kernel
theorem is_name_eq {d : D} (h : Val d) : t_is_name [d] = ret (.bl (isNameD d)) := by
  refine (fn_ret rfl).trans ?_
  rcases h with ⟨x, rfl, h⟩ | h
  · refine (and_ret (a := true) (b := isName x) (isi_eq (.str x) rfl (isi_str x)) fun _ => ?_).trans rfl
    refine and_ret (a := isLow 8 x) ((fc_ret (cons_ret rfl (cons_ret rfl rfl)) rfl).trans (is_lower_eq h 8)) fun _ => ?_
    exact op_ret rfl rfl ((in_tupS true (good_asc h) two_asc).trans (by cases decide (x ∈ (["shift", "accept"] : List Str)) <;> rfl))
  · have e : isNameD d = false := by cases d <;> first | rfl | cases h
    rw [e]
    exact and_ret (a := false) (b := false) (isi_eq d rfl (isi_nstr h)) fun z => nomatch z

/-! ### nonterminals -/
theorem cut_from (x : Str) : (cutS x (some 1) none).cps.toList = x.cps.toList.drop 1 := by
  have e : HT.sIx x.length x.length none = x.length := rfl
  have e2 : HT.sIx x.length 0 (some 1) = min 1 x.length := HT.sIx_nat _ _ 1
  unfold cutS
  rw [e, e2]
  show ((x.cps.toList.drop _).take _) = _
  have hl : x.length = x.cps.toList.length := by show x.cps.size = _; simp
  rw [hl]
  cases h : x.cps.toList with
  | nil => simp
  | cons c r => simp
theorem cut_to (x : Str) : (cutS x none (some 1)).cps.toList = x.cps.toList.take 1 := by
  have e : HT.sIx x.length 0 none = 0 := rfl
  have e2 : HT.sIx x.length x.length (some 1) = min 1 x.length := HT.sIx_nat _ _ 1
  unfold cutS
  rw [e, e2]
  show ((x.cps.toList.drop 0).take (min 1 x.length - 0)) = _
  have hl : x.length = x.cps.toList.length := by show x.cps.size = _; simp
  rw [hl]
  cases h : x.cps.toList with
  | nil => simp
  | cons c r => simp
theorem good_sub {x y : Str} (h : good x = true) (hs : ∀ c ∈ y.cps.toList, c ∈ x.cps.toList) (hl : y.cps.toList.length ≤ x.cps.toList.length) : good y = true := by
  unfold good at *
  simp only [Bool.and_eq_true, decide_eq_true_eq] at *
  refine ⟨asc_iff.mpr fun c hc => asc_iff.mp h.1 c (hs c hc), ?_⟩
  have e1 : y.length = y.cps.toList.length := by show y.cps.size = _; simp
  have e2 : x.length = x.cps.toList.length := by show x.cps.size = _; simp
  omega
theorem good_from {x : Str} (h : good x = true) : good (cutS x (some 1) none) = true := good_sub h (fun c hc => by rw [cut_from] at hc; exact List.mem_of_mem_drop hc) (by rw [cut_from, List.length_drop]; omega)
theorem good_to {x : Str} (h : good x = true) : good (cutS x none (some 1)) = true := good_sub h (fun c hc => by rw [cut_to] at hc; exact List.mem_of_mem_take hc) (by rw [cut_to, List.length_take]; omega)
def isNon (x : Str) : Bool := (match x.cps.toList with | [] => false | c :: _ => uppC c) && ((x.length : Int) == 1 || isLow 5 (cutS x (some 1) none))
def isNonD : D → Bool
  | .str x => isNon x
  | _ => false
theorem asc_empty : asc "" = true := by decide +kernel
theorem slS {x : Str} (h : good x = true) (lo hi : Option Int) : D.sl (.str x) lo hi = some (.str (cutS x lo hi)) := if_pos (good_len h)
theorem tail_arg {x : Str} (h : good x = true) {r : Dv.Env} : slM (vr 0) (someP (kc (.int 1))) noP (some (.str x) :: r) = ret (.str (cutS x (some 1) none)) := sl_ret vr_0 (some_ret rfl) rfl (slS h _ _)
theorem is_nonterminal_eq {d : D} (h : Val d) : t_is_nonterminal [d] = ret (.bl (isNonD d)) := by
  refine fn_of rfl ?_
  rcases h with ⟨x, rfl, h⟩ | h
  · have t1 := asB_ret (isi_eq (.str x) (env := [some (.str x)]) rfl (isi_str x))
    have t2 : asB (opM D.eq (vr 0) (kc (.str ""))) [some (.str x)] = ret (x == "") := asB_ret (op_ret rfl rfl (eq_str (good_asc h) asc_empty))
    cases hx : x.cps.toList with
    | nil =>
      have e0 : x = "" := str_ext (by rw [hx]; rfl)
      have e : isNonD (.str x) = false := by show isNon x = false; unfold isNon; rw [hx]; rfl
      rw [e]
      refine seq_ret ((ifS_t (orT_ret (b := true) (notT_ret t1) fun _ => orT_ret (a := true) (b := false) (t2.trans (by rw [e0]; rfl)) fun z => nomatch z)).trans (ret_ret rfl))
    | cons c r =>
      have ne : (x == "") = false := beq_eq_false_iff_ne.mpr fun z => by rw [z] at hx; cases hx
      have ix : opM D.ix (vr 0) (kc (.int 0)) [some (.str x)] = ret (.str ⟨#[c]⟩) := by
        refine op_ret rfl rfl ?_
        show (if x.length ≤ lim then (atI x.cps.toList 0).map fun c => D.str ⟨#[c]⟩ else none) = _
        rw [if_pos (good_len h), hx]
        have : ixN (c :: r).length 0 = some 0 := by unfold ixN; rw [if_pos (by decide), if_pos (by simp)]; rfl
        unfold atI
        rw [this]
        rfl
      have t3 : asB (opM (D.inn true) (opM D.ix (vr 0) (kc (.int 0))) (kc (.str "ABCDEFGHIJKLMNOPQRSTUVWXYZ"))) [some (.str x)] = ret (true != uppC c) := asB_ret (op_ret ix rfl (by rw [in_sign, mem_upp]))
      have tt := orT_ret (notT_ret t1) fun _ => orT_ret (t2.trans (by rw [ne])) fun _ => t3
      have e : isNonD (.str x) = (uppC c && ((x.length : Int) == 1 || isLow 5 (cutS x (some 1) none))) := by show isNon x = _; unfold isNon; rw [hx]
      rw [e]
      cases hc : uppC c with
      | false => rw [hc] at tt; exact seq_ret ((ifS_t tt).trans (ret_ret rfl))
      | true =>
        rw [hc] at tt
        refine (seq_next (e := [.dt (.str x)]) ((ifS_f tt).trans nil_ret)).trans (ret_ret ?_)
        exact or_ret (op_ret (len1 h) rfl (eq_int _ _)) fun _ => (fc_ret (cons_ret (tail_arg h) (cons_ret rfl rfl)) rfl).trans (is_lower_eq (good_from h) 5)
  · have e : isNonD d = false := by cases d <;> first | rfl | cases h
    rw [e]
    exact seq_ret ((ifS_t (orT_ret (b := true) (notT_ret (asB_ret (isi_eq d rfl (isi_nstr h)))) fun z => nomatch z)).trans (ret_ret rfl))
/-! ### what the law tells -/
theorem lt_nil (l : List Nat) : decide (l < []) = false := decide_eq_false (by simp)
theorem nil_lt (c : Nat) : decide (([] : List Nat) < [c]) = true := decide_eq_true (by simp)
theorem told_eq {d : D} (h : Val d) : t_l_told [d] = ret (.lst [.bl (isTermD d), .bl (isNonD d), .bl (isNameD d)]) := by
  refine fn_of rfl ?_
  have hv := h
  rcases h with ⟨x, rfl, h⟩ | h
  · refine (seq_next (e := [.dt (.str x), .no]) ((ifS_f (notT_ret (asB_ret (isi_eq (.str x) rfl (isi_str x))))).trans nil_ret)).trans ?_
    have g : andM (chainM D.le D.le (kc (.str "A")) (slM (vr 0) noP (someP (kc (.int 1)))) (kc (.str "Z"))) (orM (opM D.eq (calM D.len (consA (vr 0) nilA)) (kc (.int 1))) (fcM 2 t_l_is_small (consA (slM (vr 0) (someP (kc (.int 1))) noP) (consA (kc (.int 5)) nilA)))) [some (.str x), none] = ret (.bl (isNon x)) := by
      have sl0 : slM (vr 0) noP (someP (kc (.int 1))) [some (.str x), none] = ret (.str (cutS x none (some 1))) := sl_ret vr_0 rfl (some_ret rfl) (slS h _ _)
      refine and_ret (a := match x.cps.toList with | [] => false | c :: _ => uppC c) (b := (x.length : Int) == 1 || isLow 5 (cutS x (some 1) none)) ?_ fun _ => or_ret (op_ret (len1 h) rfl (eq_int _ _)) fun _ => (fc_ret (cons_ret (tail_arg h) (cons_ret rfl rfl)) rfl).trans (is_small_eq (good_from h) 5)
      have c := chain_ret (fa := kc (.str "A")) (fc := kc (.str "Z")) (env := [some (.str x), none]) (z := .str "Z") rfl sl0 (le_str "A" (cutS x none (some 1))) (fun _ => rfl) fun _ => le_str (cutS x none (some 1)) "Z"
      rw [c]
      congr 2
      rw [cut_to]
      have eA : ("A" : Str).cps.toList = [65] := rfl
      have eZ : ("Z" : Str).cps.toList = [90] := rfl
      rw [eA, eZ]
      cases hx : x.cps.toList with
      | nil =>
        show (!decide (([] : List Nat) < [65]) && _) = false
        rw [nil_lt]
        rfl
      | cons c r =>
        show (!decide ([c] < [65]) && !decide ([90] < [c])) = uppC c
        rw [btw]
        rfl
    refine (seq_next (e := [.dt (.str x), .dt (.bl (isNon x))]) (asg_ret g)).trans (ret_ret ?_)
    refine newM_ret (dsp_ret (cons_ret ((fc_ret (cons_ret rfl rfl) rfl).trans (told_terminal_eq hv)) (cons_ret rfl (cons_ret ?_ rfl))) (Nat.le_of_ble_eq_true rfl))
    refine and_ret (a := isLow 8 x) ((fc_ret (cons_ret rfl (cons_ret rfl rfl)) rfl).trans (is_small_eq h 8)) fun _ => ?_
    exact op_ret (y := .lst ((["shift", "accept"] : List Str).map .str)) rfl (newM_ret (dsp_ret rfl (by decide))) ((in_lstS true (good_asc h) two_asc).trans (by cases decide (x ∈ (["shift", "accept"] : List Str)) <;> rfl))
  · have e1 : isNonD d = false := by cases d <;> first | rfl | cases h
    have e2 : isNameD d = false := by cases d <;> first | rfl | cases h
    rw [e1, e2, nstr_term h]
    exact seq_ret ((ifS_t (notT_ret (asB_ret (isi_eq d rfl (isi_nstr h))))).trans (ret_ret (newM_ret (dsp_ret rfl (by decide)))))

/-! ### rows -/
def rowD (ys : List Str) : D := .tup (ys.map .str)
def isTermsD : D → Bool
  | .tup ds => decide ((ds.length : Int) ≤ 60) && ds.all isTermD
  | _ => false
theorem kit_tuple : ∀ t ∈ ["NoneType", "bool", "int", "str", "list", "dict"], kitB t "tuple" = some false := by decide +kernel
/-- a tuple of values, or a value of another class -/
def ntup : D → Bool
  | .non | .bl _ | .int _ | .str _ | .lst _ | .dic _ => true
  | _ => false
theorem isi_tup (ds : List D) : D.isI [.tup ds, .ty "tuple"] = some (.bl true) := by
  have : kitB "tuple" "tuple" = some true := by decide +kernel
  simp only [D.isI, D.typ, this, Option.map_some]
theorem isi_ntup {d : D} (h : ntup d = true) : D.isI [d, .ty "tuple"] = some (.bl false) := by
  have k := kit_tuple
  cases d with
  | non => simp only [D.isI, D.typ]; rw [k "NoneType" (by decide)]; rfl
  | bl b => simp only [D.isI, D.typ]; rw [k "bool" (by decide)]; rfl
  | int b => simp only [D.isI, D.typ]; rw [k "int" (by decide)]; rfl
  | str b => simp only [D.isI, D.typ]; rw [k "str" (by decide)]; rfl
  | lst b => simp only [D.isI, D.typ]; rw [k "list" (by decide)]; rfl
  | dic b => simp only [D.isI, D.typ]; rw [k "dict" (by decide)]; rfl
  | tup b => cases h
  | ref b => cases h
  | ty b => cases h
  | dice => cases h
  | scr b => cases h
def Rows (d : D) : Prop := (∃ ds, d = .tup ds ∧ (∀ e ∈ ds, Val e) ∧ ds.length ≤ lim) ∨ ntup d = true
theorem isit_eq (d : D) {env : Dv.Env} {b : Bool} {r : Dv.Env} (he : env = some d :: r) (h : D.isI [d, .ty "tuple"] = some (.bl b)) : calM D.isI (consA (vr 0) (consA (kc (.ty "tuple")) nilA)) env = ret (.bl b) := by
  subst he
  exact cal_ret (cons_ret (d := d) rfl (cons_ret rfl rfl)) h
theorem ntup_terms {d : D} (h : ntup d = true) : isTermsD d = false := by cases d <;> first | rfl | cases h
theorem is_terminals_eq {d : D} (h : Rows d) : t_is_terminals [d] = ret (.bl (isTermsD d)) := by
  refine (fn_ret rfl).trans ?_
  rcases h with ⟨ds, rfl, hv, hl⟩ | h
  · refine (and_ret (a := true) (b := isTermsD (.tup ds)) (isit_eq (.tup ds) rfl (isi_tup ds)) fun _ => ?_).trans rfl
    refine and_ret (a := decide ((ds.length : Int) ≤ 60)) (op_ret (cal_ret (cons_ret (d := .tup ds) rfl rfl) rfl) rfl (le_int _ _)) fun _ => ?_
    refine cal_ret (d := .bl (ds.all isTermD)) (cons_ret (newM_ret (ds := (ds.map isTermD).map .bl) ?_) rfl) ((all_bls _).trans (by rw [List.all_map]; rfl))
    refine (lcN_eq (it_ret (d := .tup ds) rfl rfl) hl).trans ?_
    rw [List.map_map, ← List.map_id ds]
    rw [List.map_id]
    have := lcL_each (i := 1) (te := fcM 1 t_is_terminal (consA (vr 1) nilA)) (env := wipeE [some (.tup ds), none] [1]) (l := ds) (f := id) (g := D.bl ∘ isTermD) fun e he => (fc_ret (cons_ret (d := e) rfl rfl) rfl).trans (is_terminal_eq (hv e he))
    rw [List.map_id] at this
    exact this
  · rw [ntup_terms h]
    exact and_ret (a := false) (b := false) (isit_eq d rfl (isi_ntup h)) fun z => nomatch z
theorem require_eq {d : D} (h : Rows d) : t_require_terminals [d] = if isTermsD d then ret .non else excM 2 [] := by
  show (bind (m_require_terminals [.dt d]) fun r => _) = _
  have e : m_require_terminals [.dt d] = if !(isTermsD d) then raiS 2 (kc (.str "a tuple of at most sixty terminals is expected")) [.dt d] else nilS [.dt d] := ifS_eq (notT_ret (asB_ret ((fc_ret (cons_ret (d := d) rfl rfl) rfl).trans (is_terminals_eq h))))
  rw [e]
  cases isTermsD d <;> rfl
theorem exc_bind {α β : Type} {c : Nat} {fs : Fs} {f : α → M β} : bind (excM c fs) f = excM c fs := rfl
theorem exprS_req {d : D} (h : Rows d) {i : Nat} {env : SEnv} (hi : vr i (va env) = ret d) : exprS (fcM 1 t_require_terminals (consA (vr i) nilA)) env = if isTermsD d then ret (.next env) else excM 2 [] := by
  unfold exprS
  have e : fcM 1 t_require_terminals (consA (vr i) nilA) (va env) = _ := (fc_ret (cons_ret hi rfl) rfl).trans (require_eq h)
  rw [e]
  cases isTermsD d <;> rfl
/-! the order -/
def befo (a b : List Str) : Bool := decide ((a.length : Int) < b.length) || ((a.length : Int) == b.length && PySem.W.dataLt (.list (a.map .str)) (.list (b.map .str)))
def goods (ys : List Str) : Prop := ys.length ≤ 2000 ∧ ∀ y ∈ ys, good y = true
theorem goods_asc {ys : List Str} (h : goods ys) : ∀ y ∈ ys, asc y = true := fun y hy => good_asc (h.2 y hy)
theorem goods_lim {ys : List Str} (h : goods ys) : (ys.map D.str).length ≤ lim := by rw [List.length_map]; exact Nat.le_trans h.1 (by decide)
theorem goods_rows {ys : List Str} (h : goods ys) : Rows (rowD ys) := .inl ⟨_, rfl, fun e he => by
  obtain ⟨y, hy, rfl⟩ := List.mem_map.mp he
  exact .inl ⟨y, rfl, h.2 y hy⟩, goods_lim h⟩
theorem rank_eq (ys : List Str) : t_rank [rowD ys] = ret (.tup [.int ys.length, rowD ys]) := by
  refine (fn_ret rfl).trans (tup_ret (cons_ret (cal_ret (cons_ret (d := rowD ys) rfl rfl) ?_) (cons_ret rfl rfl)) (Nat.le_of_ble_eq_true rfl))
  show some (D.int ((ys.map D.str).length : Nat)) = _
  rw [List.length_map]
theorem lt_rank (a b : List Str) : D.lt (.tup [.int a.length, rowD a]) (.tup [.int b.length, rowD b]) = some (.bl (befo a b)) := by
  have p : ∀ ys : List Str, D.py (.tup [.int ys.length, rowD ys]) = some (.tuple [.int ys.length, .tuple (ys.map .str)]) := fun ys => by simp [rowD, D.py, D.pyL, pyL_strs]
  have c : okLt (.tuple [.int a.length, .tuple (a.map .str)]) (.tuple [.int b.length, .tuple (b.map .str)]) = true := by
    simp [okLt, PySem.W.alike, PySem.W.alikeAll, alikeAll_strs, PyData.depth, PyData.depthAll, depthAll_strs]
  have := two_some' (c := okLt) (f := PySem.W.dataLt) (p a) (p b) c
  rw [show D.lt (.tup [.int a.length, rowD a]) (.tup [.int b.length, rowD b]) = _ from this]
  rw [PySem.W.dataLt_pair (by simp [PySem.W.alike]) (by simp [PySem.W.alike, alikeAll_strs])]
  unfold befo
  congr 2
  rw [PySem.W.dataLt_int, PySem.W.dataLt_tuple, PySem.W.dataLt_list]
  have e1 : PyData.eqv (.int a.length) (.int b.length) = ((a.length : Int) == b.length) := by simp [PyData.eqv]
  have e2 : PyData.eqv (.tuple (a.map .str)) (.tuple (b.map .str)) = (a == b) := by simp [PyData.eqv, eqvAll_strs]
  rw [e1, e2]
  by_cases h : (a.length : Int) = b.length
  · have h' : ((a.length : Int) == b.length) = true := by simp [h]
    rw [h', if_pos rfl, Bool.true_and]
    have hn : decide ((a.length : Int) < b.length) = false := decide_eq_false (by omega)
    rw [hn, Bool.false_or]
    by_cases hab : a = b
    · subst hab
      rw [if_pos (by simp)]
      have := PySem.W.dataLt_self (.list (a.map .str))
      rw [PySem.W.dataLt_list] at this
      exact this.symm
    · rw [if_neg (by simp [hab])]
  · have h' : ((a.length : Int) == b.length) = false := by simpa using h
    rw [h', if_neg (by simp), Bool.false_and, Bool.or_false]
theorem is_before_eq {a b : List Str} (ha : goods a) (hb : goods b) : t_is_before [rowD a, rowD b] = if isTermsD (rowD a) && isTermsD (rowD b) then ret (.bl (befo a b)) else excM 2 [] := by
  show (bind (m_is_before [.dt (rowD a), .dt (rowD b)]) fun r => _) = _
  unfold m_is_before
  have e1 := exprS_req (goods_rows ha) (i := 0) (env := [.dt (rowD a), .dt (rowD b)]) rfl
  have e2 := exprS_req (goods_rows hb) (i := 1) (env := [.dt (rowD a), .dt (rowD b)]) rfl
  cases h1 : isTermsD (rowD a) with
  | false =>
    rw [h1] at e1
    unfold seqS
    rw [e1]
    rfl
  | true =>
    rw [h1] at e1
    rw [seq_next e1]
    cases h2 : isTermsD (rowD b) with
    | false =>
      rw [h2] at e2
      unfold seqS
      rw [e2]
      rfl
    | true =>
      rw [h2] at e2
      have e3 : retS (opM D.lt (fcM 1 t_rank (consA (vr 0) nilA)) (fcM 1 t_rank (consA (vr 1) nilA))) [.dt (rowD a), .dt (rowD b)] = ret (.ret (.bl (befo a b))) :=
        ret_ret (op_ret ((fc_ret (cons_ret rfl rfl) rfl).trans (rank_eq a)) ((fc_ret (cons_ret rfl rfl) rfl).trans (rank_eq b)) (lt_rank a b))
      rw [seq_next e2, e3]
      rfl

/-! ### lines -/
theorem parts_in {sep : Str} : ∀ {ts : List Str} {t : Str}, t ∈ ts → (∀ c ∈ t.cps.toList, c ∈ (Str.join sep ts).cps.toList) ∧ t.cps.toList.length ≤ (Str.join sep ts).cps.toList.length
  | [], _, h => by cases h
  | [x], t, h => by
    have : t = x := by simpa using h
    subst this
    exact ⟨fun c hc => hc, Nat.le_refl _⟩
  | x :: y :: r, t, h => by
    have e : (Str.join sep (x :: y :: r)).cps.toList = x.cps.toList ++ sep.cps.toList ++ (Str.join sep (y :: r)).cps.toList := by
      show (x ++ sep ++ Str.join sep (y :: r)).cps.toList = _
      rw [cps_app, cps_app]
    rw [e]
    rcases List.mem_cons.mp h with rfl | h
    · exact ⟨fun c hc => by simp [hc], by simp⟩
    · obtain ⟨h1, h2⟩ := parts_in (sep := sep) h
      refine ⟨fun c hc => List.mem_append_right _ (h1 c hc), ?_⟩
      rw [List.length_append]
      omega
theorem parts_many {sep : Str} (hs : 1 ≤ sep.cps.toList.length) : ∀ ts : List Str, ts.length ≤ (Str.join sep ts).cps.toList.length + 1
  | [] => by simp
  | [x] => by simp
  | x :: y :: r => by
    have e : (Str.join sep (x :: y :: r)).cps.toList = x.cps.toList ++ sep.cps.toList ++ (Str.join sep (y :: r)).cps.toList := by
      show (x ++ sep ++ Str.join sep (y :: r)).cps.toList = _
      rw [cps_app, cps_app]
    have ih := parts_many hs (y :: r)
    rw [e, List.length_append, List.length_append, List.length_cons]
    omega
theorem len_cps (x : Str) : x.length = x.cps.toList.length := by show x.cps.size = _; simp
def words (x : Str) : List Str := if x == "" then [] else Txt.split x " "
theorem good_split {x : Str} (h : good x = true) : goods (Txt.split x " ") := by
  have e := StrLaws.join_split x " "
  refine ⟨?_, fun y hy => ?_⟩
  · have := parts_many (sep := " ") (by decide) (Txt.split x " ")
    rw [e] at this
    have h2 := of_decide_eq_true (Bool.and_eq_true_iff.mp h).2
    rw [len_cps] at h2
    omega
  · obtain ⟨h1, h2⟩ := parts_in (sep := " ") hy
    rw [e] at h1 h2
    exact good_sub h h1 h2
theorem good_words {x : Str} (h : good x = true) : goods (words x) := by
  unfold words
  split
  · exact ⟨by simp, fun _ z => by cases z⟩
  · exact good_split h
theorem split_ok {x : Str} (h : good x = true) : D.split (.str x) (.str " ") = some (.lst ((Txt.split x " ").map .str)) := by
  have hl := good_len h
  unfold D.split
  exact if_neg fun z => z.elim (fun z => by cases z) fun z => by omega
theorem read_eq {x : Str} (h : good x = true) : t_read_terminals [.str x] = if isTermsD (rowD (words x)) then ret (rowD (words x)) else excM 3 [("line", .non)] := by
  show (bind (m_read_terminals [.dt (.str x), .no]) fun r => _) = _
  unfold m_read_terminals
  rw [seq_next (e := [.dt (.str x), .no]) ((ifS_f (notT_ret (asB_ret (isi_eq (.str x) rfl (isi_str x))))).trans nil_ret)]
  have e1 : ifM (asB (opM D.ne (vr 0) (kc (.str "")))) (calM D.tupleOf (consA (mt1M D.split (vr 0) (kc (.str " "))) nilA)) (tupM nilA) [some (.str x), none] = ret (rowD (words x)) := by
    refine if_ret (b := !(x == "")) (asB_ret (op_ret rfl rfl (ne_str (good_asc h) asc_empty))) (fun hb => ?_) fun hb => ?_
    · have : (x == "") = false := by simpa using hb
      unfold words
      rw [this]
      exact cal_ret (d := rowD (Txt.split x " ")) (cons_ret (mt1_ret (y := .str " ") rfl rfl (split_ok h)) rfl) rfl
    · have : (x == "") = true := by simpa using hb
      unfold words
      rw [this]
      exact tup_ret rfl (Nat.zero_le _)
  rw [seq_next (e := [.dt (.str x), .dt (rowD (words x))]) (asg_ret e1)]
  have t : notT (asB (fcM 1 t_is_terminals (consA (vr 1) nilA))) [some (.str x), some (rowD (words x))] = ret !(isTermsD (rowD (words x))) := notT_ret (asB_ret ((fc_ret (cons_ret (d := rowD (words x)) rfl rfl) rfl).trans (is_terminals_eq (goods_rows (good_words h)))))
  cases hb : isTermsD (rowD (words x)) with
  | true =>
    rw [hb] at t
    rw [seq_next (e := [.dt (.str x), .dt (rowD (words x))]) ((ifS_f t).trans nil_ret)]
    rfl
  | false =>
    rw [hb] at t
    unfold seqS
    rw [ifS_t t]
    rfl
theorem read_odd {d : D} (h : d.nstr = true) : t_read_terminals [d] = excM 3 [("line", .non)] := by
  show (bind (m_read_terminals [.dt d, .no]) fun r => _) = _
  unfold m_read_terminals seqS
  rw [ifS_t (notT_ret (asB_ret (isi_eq d (env := [some d, none]) rfl (isi_nstr h))))]
  rfl
/-! rows of short texts -/
structure Short (ys : List Str) : Prop where
  len : ys.length ≤ 61
  each : ∀ y ∈ ys, asc y = true ∧ y.length ≤ 8
theorem Short.goods {ys : List Str} (h : Short ys) : goods ys := ⟨by have := h.len; omega, fun y hy => by
  obtain ⟨h1, h2⟩ := h.each y hy
  unfold good
  rw [h1, decide_eq_true (by omega : y.length ≤ 1500)]
  rfl⟩
theorem Short.sum {ys : List Str} (h : ∀ y ∈ ys, asc y = true ∧ y.length ≤ 8) : (ys.map (·.length)).sum ≤ 8 * ys.length := by
  induction ys with
  | nil => simp
  | cons y ys ih =>
    have h1 := (h y List.mem_cons_self).2
    have h2 := ih fun z hz => h z (List.mem_cons_of_mem _ hz)
    simp only [List.map_cons, List.sum_cons, List.length_cons]
    omega
def line (ys : List Str) : Str := Txt.join " " ys
theorem line_eq (ys : List Str) : line ys = Str.join " " ys := TL.join_eq " " ys
theorem asc_jn {sep : Str} (hs : asc sep = true) : ∀ ts : List Str, (∀ t ∈ ts, asc t = true) → asc (Str.join sep ts) = true
  | [], _ => by show asc Str.empty = true; decide
  | [x], h => h x List.mem_cons_self
  | x :: y :: r, h => by
    show asc (x ++ sep ++ Str.join sep (y :: r)) = true
    exact asc_app (asc_app (h x List.mem_cons_self) hs) (asc_jn hs (y :: r) fun t ht => h t (List.mem_cons_of_mem _ ht))
theorem line_len {ys : List Str} (h : Short ys) : (line ys).length ≤ 549 := by
  rw [line_eq]
  have h1 := StrLaws.join_length_le " " ys
  have h2 := Short.sum h.each
  have h3 := h.len
  have e : (" " : Str).length = 1 := rfl
  rw [e] at h1
  omega
theorem line_asc {ys : List Str} (h : Short ys) : asc (line ys) = true := by
  rw [line_eq]
  exact asc_jn (by decide +kernel) ys fun y hy => (h.each y hy).1
theorem line_good {ys : List Str} (h : Short ys) : good (line ys) = true := by
  unfold good
  rw [line_asc h, decide_eq_true (by have := line_len h; omega : (line ys).length ≤ 1500)]
  rfl
theorem strsD_map : ∀ ys : List Str, strsD (ys.map .str) = some ys
  | [] => rfl
  | y :: ys => by
    rw [List.map_cons]
    unfold strsD
    rw [strsD_map ys]
theorem join_ok {ys : List Str} (h : Short ys) {d : D} (hd : d.seq? = some (ys.map .str)) : D.join (.str " ") d = some (.str (line ys)) := by
  have h2 := Short.sum h.each
  have h3 := h.len
  have e : (" " : Str).length = 1 := rfl
  unfold D.join
  simp only [hd, strsD_map]
  rw [if_pos (by rw [e]; omega)]
  rfl
theorem write_eq {ys : List Str} (h : Short ys) : t_write_terminals [rowD ys] = if isTermsD (rowD ys) then ret (.str (line ys)) else excM 2 [] := by
  show (bind (m_write_terminals [.dt (rowD ys)]) fun r => _) = _
  unfold m_write_terminals
  have e1 := exprS_req (goods_rows h.goods) (i := 0) (env := [.dt (rowD ys)]) rfl
  cases h1 : isTermsD (rowD ys) with
  | false =>
    rw [h1] at e1
    unfold seqS
    rw [e1]
    rfl
  | true =>
    rw [h1] at e1
    have e2 : retS (mt1M D.join (kc (.str " ")) (vr 0)) [.dt (rowD ys)] = ret (.ret (.str (line ys))) := ret_ret (mt1_ret (x := " ") (y := rowD ys) rfl rfl (join_ok h rfl))
    rw [seq_next e1, e2]
    rfl
theorem write_bad {d : D} (h : Rows d) (hb : isTermsD d = false) : t_write_terminals [d] = excM 2 [] := by
  show (bind (m_write_terminals [.dt d]) fun r => _) = _
  unfold m_write_terminals
  have e1 := exprS_req h (i := 0) (env := [.dt d]) rfl
  rw [hb] at e1
  unfold seqS
  rw [e1]
  rfl
theorem before_bad1 {d e : D} (h : Rows d) (hb : isTermsD d = false) : t_is_before [d, e] = excM 2 [] := by
  show (bind (m_is_before [.dt d, .dt e]) fun r => _) = _
  unfold m_is_before
  have e1 := exprS_req h (i := 0) (env := [.dt d, .dt e]) rfl
  rw [hb] at e1
  unfold seqS
  rw [e1]
  rfl
theorem before_bad2 {d e : D} (h : Rows d) (ht : isTermsD d = true) (h2 : Rows e) (hb : isTermsD e = false) : t_is_before [d, e] = excM 2 [] := by
  show (bind (m_is_before [.dt d, .dt e]) fun r => _) = _
  unfold m_is_before
  have e1 := exprS_req h (i := 0) (env := [.dt d, .dt e]) rfl
  rw [ht] at e1
  rw [seq_next e1]
  have e2 := exprS_req h2 (i := 1) (env := [.dt d, .dt e]) rfl
  rw [hb] at e2
  unfold seqS
  rw [e2]
  rfl
/-! ### the told errors -/
theorem error_ret (v : D) : t_l_error (ret v) = ret (.str "none") := rfl
theorem error_text (fs : Fs) : t_l_error (excM 2 fs) = ret (.str "text") := rfl
theorem error_parse : t_l_error (excM 3 [("line", .non)]) = ret (.str "parse None") := rfl
end K01
set_option maxHeartbeats 1000000
local macro_rules | `(tactic| walk_at "dv") => `(tactic| simp only [Dv.fn_1, Dv.fn_2, Dv.fn_3, Dv.fnN_1, Dv.fnN_2, Dv.fc_1, Dv.fc_2, Dv.fc_3, Dv.fc_4, Dv.seq_asg, Dv.seq_asgN, Dv.seq_nil, Dv.seq_if, Dv.seq_seq, Dv.seq_retS, Dv.ret_S, Dv.if_M, Dv.vw_cons, Dv.va_cons, Dv.vw_nil, Dv.va_nil, Dv.vw_dt, Dv.vw_no, Dv.vw_ow, Dv.va_dt, Dv.va_no, Dv.va_ow, Dv.op_M, Dv.kc_M, Dv.cal_1, Dv.cal_2, Dv.as_B, Dv.bl_bl, Dv.not_M, Dv.not_T, Dv.and_T, Dv.or_T, Dv.and_M, Dv.or_M, Dv.if_E, Dv.cons_A, Dv.nil_A, Dv.tup_M, Dv.new_M, Dv.dsp_N, Dv.sl_M, Dv.no_P, Dv.some_P, Dv.it_M, Dv.lc_N, Dv.frz_S, Dv.ite_t, Dv.ite_f, Dv.b_ret, Dv.bind_bind, Dv.l_some, Dv.outM_ret, Dv.outM_nw, Dv.outM_next, Dv.outN_nw, Dv.nextM_next, Dv.nextM_ret, Dv.dix_M, Dv.dget_dice, Dv.dput_dice, Dv.seq_dice, Dv.toInt_i, Dv.toInt_b, Dv.add_int, Dv.sub_int, Dv.gt_int, Dv.lt_int, Dv.le_int, Dv.ge_int, Dv.eq_int, Dv.put_bind, Dv.lam_M, Dv.seq_app, Dv.appG_ow, Dv.seq_frz, Dv.frz_E, Dv.frzG_ow, Dv.frzG_dt, Dv.lim_eq, Dv.nx_r, List.getElem?_cons_zero, List.getElem?_cons_succ, List.length_cons, List.length_nil, Nat.zero_add, Nat.reduceLeDiff, Nat.reduceLT, ↓reduceIte, List.nil_append, List.cons_append, Dv.mt1_G, Dv.mtG_str, Dv.rng_1, Dv.rng_2, Dv.put_D, Dv.v_0, Dv.w_1, Dv.w_2, Dv.w_3, Dv.w_4, Dv.w_5, Dv.w_6, Dv.w_7, Dv.w_8, Dv.w_9, Dv.w_10, Dv.w_11, Dv.w_12, Dv.w_13, Dv.w_14, Dv.w_15, Dv.w_16, Dv.w_17, Dv.w_18, Dv.w_19, List.replicate, Nat.reduceSub, Nat.reduceAdd, List.set_cons_succ, List.set_cons_zero])
namespace K01
open PySem PySem.Spec PyProof.Rows L2 Dv
theorem roll_run {n : Int} (h1 : 0 < n) (h2 : n ≤ 1000000) : Run 1 (fun d => ∃ i : Int, d = .int i ∧ 0 ≤ i ∧ i < n) (t_l_roll [.dice, .int n]) := fun δ h0 hk => by
  have hB : δ.2.2 + 1 ≤ 1000000000 := hk
  have ht : D.toInt = D.toInt := rfl
  have hn : n.natAbs.log2 < 9000 := Nat.lt_of_lt_of_le (log2_64 (by omega) (by omega)) (by omega)
  unfold t_l_roll m_l_roll
  walk_at "dv"
  have e1 := mod_int (i := δ.1) h1
  have e2 := fdiv_int (i := δ.1) h1 hn
  simp only [get_bind, at_0, Dv.gt_int, l_some, Dv.b_ret, bl_bl]
  by_cases hg : (0 : Int) < δ.1
  · refine ⟨.int (δ.1 % n), (δ.1 / n, δ.2), ?_, Int.le_refl _, by show δ.2.2 ≤ δ.2.2 + _; omega, _, rfl, Int.emod_nonneg _ (by omega), Int.emod_lt_of_pos _ h1⟩
    rw [decide_eq_true hg, ite_t]
    simp only [get_bind, Dv.bind_bind, at_0, toInt_i, l_some, Dv.b_ret, e1, e2, dput_dice, put_bind, put_at, outM_ret]
    rfl
  · rw [decide_eq_false hg, ite_f]
    have b2 : (δ.2.2 + 1).natAbs.log2 < 4000 := Nat.lt_of_lt_of_le (log2_64 (by omega) (by omega)) (by omega)
    have bm : ∀ i : Int, (i % 2305843009213693951).natAbs.log2 < 4000 := fun i => Nat.lt_of_lt_of_le (log2_64 (Int.emod_nonneg _ (by omega)) (by have := Int.emod_lt_of_pos i (b := 2305843009213693951) (by omega); omega)) (by omega)
    have bm2 : ∀ i : Int, (i % 1152921504606846883).natAbs.log2 < 4000 := fun i => Nat.lt_of_lt_of_le (log2_64 (Int.emod_nonneg _ (by omega)) (by have := Int.emod_lt_of_pos i (b := 1152921504606846883) (by omega); omega)) (by omega)
    have c1 : (961748941 : Int).natAbs.log2 < 4000 := Nat.lt_of_lt_of_le (log2_64 (by omega) (by omega)) (by omega)
    have c2 : (7411 : Int).natAbs.log2 < 4000 := Nat.lt_of_lt_of_le (log2_64 (by omega) (by omega)) (by omega)
    have c3 : (64 : Int).natAbs.log2 < 9000 := Nat.lt_of_lt_of_le (log2_64 (by omega) (by omega)) (by omega)
    have m1 : D.mul (.int 961748941) (.int (δ.2.2 + 1)) = _ := mul_int c1 b2
    have m2 : D.mul (.int 7411) (.int (δ.2.2 + 1)) = _ := mul_int c2 b2
    have m3 : ∀ i j : Int, D.mul (.int (i % 2305843009213693951)) (.int (j % 2305843009213693951)) = _ := fun i j => mul_int (bm i) (bm j)
    have m4 : ∀ i j : Int, D.mul (.int (i % 1152921504606846883)) (.int (j % 2305843009213693951)) = _ := fun i j => mul_int (bm2 i) (bm j)
    have e4 : ∀ i : Int, D.fdiv (.int i) (.int 64) = _ := fun i => fdiv_int (by omega) c3
    have e5 : ∀ i : Int, D.mod (.int i) (.int 2305843009213693951) = _ := fun i => mod_int (by omega)
    have e6 : ∀ i : Int, D.mod (.int i) (.int 1152921504606846883) = _ := fun i => mod_int (by omega)
    have e7 : ∀ i : Int, D.mod (.int i) (.int 4398046511093) = _ := fun i => mod_int (by omega)
    have e8 : ∀ i : Int, D.mod (.int i) (.int n) = _ := fun i => mod_int h1
    have a1 : ∀ i, (δ.set 2 i).at 1 = δ.2.1 := fun i => rfl
    have a2 : ∀ i, (δ.set 2 i).at 2 = i := fun i => rfl
    simp only [get_bind, Dv.bind_bind, at_2, toInt_i, l_some, Dv.b_ret, e4, e5, e6, e7, e8, m1, m2, m3, m4, a1, a2, Dv.add_int, dput_dice, put_bind, put_at, outM_ret]
    exact ⟨_, _, rfl, by show δ.2.2 ≤ δ.2.2 + 1; omega, by show δ.2.2 + 1 ≤ δ.2.2 + ((1 : Nat) : Int); omega, _, rfl, Int.emod_nonneg _ (by omega), Int.emod_lt_of_pos _ h1⟩
theorem atI_in {α : Type} {xs : List α} {i : Int} (h0 : 0 ≤ i) (h1 : i < xs.length) : ∃ d, atI xs i = some d ∧ d ∈ xs := by
  obtain ⟨n, rfl⟩ := Int.eq_ofNat_of_zero_le h0
  have hn : n < xs.length := by omega
  refine ⟨xs[n], ?_, List.getElem_mem hn⟩
  unfold atI
  have : ixN xs.length (n : Int) = some n := by unfold ixN; rw [if_pos (by omega), if_pos (by omega)]; rfl
  rw [this]
  exact List.getElem?_eq_getElem hn
theorem pick_lst {xs : List D} (h : xs ≠ []) (hl : xs.length ≤ 1000000) : Run 1 (fun d => d ∈ xs) (t_l_pick [.dice, .lst xs]) := by
  have e : D.len [.lst xs] = some (.int xs.length) := rfl
  have h1 : 0 < xs.length := List.length_pos_iff.mpr h
  unfold t_l_pick m_l_pick
  walk_at "dv"
  simp only [e, l_some, b_ret]
  refine Run.bind (k' := 0) (roll_run (by omega) (by omega)) fun a ⟨i, hi, i0, i1⟩ => ?_
  subst hi
  obtain ⟨d, hd, hm⟩ := atI_in i0 i1
  have e2 : D.ix (.lst xs) (.int i) = some d := hd
  rw [e2, l_some, b_ret]
  exact Run.ret hm
theorem pick_str {z : Str} (h : z.cps.toList ≠ []) (hl : z.length ≤ lim) : Run 1 (fun d => ∃ c ∈ z.cps.toList, d = .str ⟨#[c]⟩) (t_l_pick [.dice, .str z]) := by
  have e := len_str hl
  have h1 : 0 < z.length := by rw [len_cps]; exact List.length_pos_iff.mpr h
  unfold t_l_pick m_l_pick
  walk_at "dv"
  simp only [e, l_some, b_ret]
  have hl' : z.length ≤ 100000 := hl
  refine Run.bind (k' := 0) (roll_run (by omega) (by omega)) fun a ⟨i, hi, i0, i1⟩ => ?_
  subst hi
  obtain ⟨c, hc, hm⟩ := atI_in (xs := z.cps.toList) i0 (by rw [← len_cps]; exact i1)
  have e2 : D.ix (.str z) (.int i) = some (.str ⟨#[c]⟩) := by
    show (if z.length ≤ lim then (atI z.cps.toList i).map fun c => D.str ⟨#[c]⟩ else none) = _
    rw [if_pos hl, hc]; rfl
  rw [e2, l_some, b_ret]
  exact Run.ret ⟨c, hm, rfl⟩
end K01
set_option maxHeartbeats 1000000
namespace K01
open PySem PySem.Spec PyProof.Rows L2 Dv
theorem of_signs : ∀ {ys : List D}, (∀ y ∈ ys, ∃ c : Nat, c < 128 ∧ y = .str ⟨#[c]⟩) → ∃ zs : List Str, ys = zs.map .str ∧ (∀ z ∈ zs, asc z = true ∧ z.length = 1)
  | [], _ => ⟨[], rfl, fun _ z => nomatch z⟩
  | y :: ys, h => by
    obtain ⟨c, hc, rfl⟩ := h y List.mem_cons_self
    obtain ⟨zs, rfl, hz⟩ := of_signs fun z hz => h z (List.mem_cons_of_mem _ hz)
    exact ⟨⟨#[c]⟩ :: zs, rfl, fun z hm => (List.mem_cons.mp hm).elim (fun e => by subst e; exact ⟨by unfold asc; simpa using hc, rfl⟩) (hz z)⟩
theorem join_one {zs : List Str} (h : ∀ z ∈ zs, asc z = true ∧ z.length = 1) (hn : zs.length ≤ 100) : ∃ x, D.join (.str "") (.lst (zs.map .str)) = some (.str x) ∧ asc x = true ∧ x.length ≤ zs.length := by
  have hs : (zs.map (·.length)).sum = zs.length := by
    clear hn
    induction zs with
    | nil => rfl
    | cons z zs ih =>
      have := ih fun y hy => h y (List.mem_cons_of_mem _ hy)
      have := (h z List.mem_cons_self).2
      simp only [List.map_cons, List.sum_cons, List.length_cons]
      omega
  have e0 : ("" : Str).length = 0 := rfl
  refine ⟨Txt.join "" zs, ?_, ?_, ?_⟩
  · have hd : D.seq? (.lst (zs.map D.str)) = some (zs.map .str) := rfl
    unfold D.join
    simp only [hd, strsD_map]
    rw [if_pos (by rw [e0]; omega)]
  · rw [TL.join_eq]; exact asc_jn (by decide +kernel) zs fun y hy => (h y hy).1
  · rw [TL.join_eq]
    have h1 := StrLaws.join_length_le "" zs
    rw [e0] at h1
    omega
theorem cutS_cps (x : Str) (lo hi : Option Int) : ∃ a b, (cutS x lo hi).cps.toList = (x.cps.toList.drop a).take b := by
  unfold cutS
  exact ⟨_, _, rfl⟩
theorem cutS_sub (x : Str) (lo hi : Option Int) {c : Nat} (h : c ∈ (cutS x lo hi).cps.toList) : c ∈ x.cps.toList ∧ True := by
  obtain ⟨a, b, e⟩ := cutS_cps x lo hi
  rw [e] at h
  exact ⟨List.mem_of_mem_drop (List.mem_of_mem_take h), trivial⟩
theorem cutS_len (x : Str) (lo hi : Option Int) : (cutS x lo hi).cps.toList.length ≤ x.cps.toList.length := by
  obtain ⟨a, b, e⟩ := cutS_cps x lo hi
  rw [e, List.length_take, List.length_drop]
  omega
theorem word_run : Run 20 (fun d => ∃ x, d = .str x ∧ good x = true) (t_l_word [.dice]) := by
  unfold t_l_word m_l_word
  walk_at "dv"
  refine Run.b (roll_run (by omega) (by omega)) fun a ⟨i, e, i0, i1⟩ => ?_
  subst e
  rw [rng_ok (by omega) (by omega), l_some, b_ret]
  have hln : (intsD 0 i.toNat).length ≤ 9 := by rw [intsD_len]; omega
  refine Run.b (k := 9) (Run.le (Run.lim (by rw [intsD_len]; show _ ≤ 100000; omega) (Run.lc (k := 1) (P := fun y => ∃ c : Nat, c < 128 ∧ y = .str ⟨#[c]⟩) hln fun x _ => ?_))) fun ys ⟨h1, h2⟩ => ?_
  · walk_at "dv"
    refine Run.mono (pick_str (by rw [low_cps]; simp) (by decide)) (by omega) fun d ⟨c, hc, e⟩ => ⟨c, ?_, e⟩
    rw [low_cps] at hc
    simp at hc
    omega
  obtain ⟨zs, rfl, hz⟩ := of_signs h2
  rw [List.length_map] at h1
  obtain ⟨x, e, h3, h4⟩ := join_one hz (by omega)
  have hx : good x = true := by unfold good; rw [h3, decide_eq_true (by omega : x.length ≤ 1500)]; rfl
  have hxl : x.length ≤ lim := good_len hx
  have hadd : ∀ c : Nat, c < 128 → good (x ++ ⟨#[c]⟩) = true ∧ good (⟨#[c]⟩ ++ x) = true := fun c hc => by
    have hc' : asc ⟨#[c]⟩ = true := by unfold asc; simpa using hc
    have e1 : (⟨#[c]⟩ : Str).length = 1 := rfl
    unfold good
    rw [asc_app h3 hc', asc_app hc' h3, str_app_len, str_app_len, e1, decide_eq_true (by omega), decide_eq_true (by omega)]
    exact ⟨rfl, rfl⟩
  have a1 : ∀ c : Nat, D.add (.str x) (.str ⟨#[c]⟩) = some (.str (x ++ ⟨#[c]⟩)) := fun c => add_str (lim_of (by rw [len_sign]; omega))
  have a2 : ∀ c : Nat, D.add (.str ⟨#[c]⟩) (.str x) = some (.str (⟨#[c]⟩ ++ x)) := fun c => add_str (lim_of (by rw [len_sign]; omega))
  have sg : ∀ {k : Nat} {Q : D → Prop} {f : D → M Fl}, (∀ c : Nat, c < 128 → Run k Q (Dv.bind (f (.str ⟨#[c]⟩)) outM)) → Run (k + 1) Q (Dv.bind (Dv.bind (t_l_pick [.dice, .str "!\"\x23\x24&'()*+,-./:;<=>?\x40[\\]^_\x60{|}~ \n0AZaz"]) f) outM) := fun h => by
    rw [Dv.bind_bind]
    refine Run.b (pick_str (by decide) (by decide)) fun d ⟨c, hc, e⟩ => ?_
    subst e
    refine Run.le (h c ?_)
    have : ∀ c ∈ ("!\"\x23\x24&'()*+,-./:;<=>?\x40[\\]^_\x60{|}~ \n0AZaz" : Str).cps.toList, c < 128 := by decide
    exact this c hc
  rw [e, l_some, b_ret]
  refine Run.b (roll_run (by omega) (by omega)) fun a ⟨j, e, j0, j1⟩ => ?_
  subst e
  simp only [Dv.eq_int, Dv.lt_int, l_some, b_ret, bl_bl]
  refine Run.bi (fun _ => ?_) fun _ => Run.bi (fun _ => ?_) fun _ => Run.bi (fun _ => ?_) fun _ => Run.bi (fun _ => ?_) fun _ => Run.bi (fun _ => ?_) fun _ => ?_
  · have e8 : D.mul (.str "a") (.int 8) = some (.str (repS 8 "a")) := mul_str (by decide)
    have e9 : D.mul (.str "a") (.int 9) = some (.str (repS 9 "a")) := mul_str (by decide)
    simp only [e8, e9, l_some, b_ret]
    rw [Dv.bind_bind]
    refine Run.b (pick_lst (by simp) (by decide)) fun d hd => ?_
    rw [b_ret, outM_ret]
    refine Run.r ?_
    have : ∀ d ∈ (["shift", "accept", "shifts", "", "\x24", "Shift", "aA", "AA", repS 8 "a", repS 9 "a", "->", "--"] : List Str).map D.str, ∃ x, d = .str x ∧ good x = true := by
      intro d hd
      obtain ⟨x, hx, rfl⟩ := List.mem_map.mp hd
      exact ⟨x, rfl, (by decide +kernel : ∀ x ∈ (["shift", "accept", "shifts", "", "\x24", "Shift", "aA", "AA", repS 8 "a", repS 9 "a", "->", "--"] : List Str), good x = true) x hx⟩
    exact this d hd
  · exact Run.le (sg fun c hc => Run.r (k := 0) ⟨_, rfl, by unfold good; rw [asc_sign hc]; rfl⟩)
  · refine Run.le (sg (k := 0) fun c hc => ?_)
    rw [a1, l_some, b_ret, b_ret, outM_ret]
    exact Run.r ⟨_, rfl, (hadd c hc).1⟩
  · rw [Dv.bind_bind]
    refine Run.b (pick_str (by decide) (by decide)) fun d ⟨c, hc, e⟩ => ?_
    subst e
    rw [Dv.bind_bind]
    refine Run.b (roll_run (by omega) (by omega)) fun a ⟨q, e, q0, q1⟩ => ?_
    subst e
    have hc : c < 128 := by
      have : ∀ c ∈ ("ABCDEFGHIJKLMNOPQRSTUVWXYZ" : Str).cps.toList, c < 128 := by decide
      exact this c hc
    have hs := good_sub (y := cutS x none (some q)) hx (fun d hd => (cutS_sub x none (some q) hd).1) (cutS_len x none (some q))
    have hsl : (cutS x none (some q)).length ≤ x.length := by rw [len_cps, len_cps]; exact cutS_len x none (some q)
    rw [int_some, l_some, b_ret, slS hx, l_some, b_ret, add_str (lim_of (by rw [len_sign]; omega)), l_some, b_ret, b_ret, outM_ret]
    refine Run.r ⟨_, rfl, ?_⟩
    unfold good
    rw [asc_app (asc_sign hc) (good_asc hs), str_app_len, len_sign, decide_eq_true (by omega)]
    rfl
  · refine Run.le (sg (k := 0) fun c hc => ?_)
    rw [a2, l_some, b_ret, b_ret, outM_ret]
    exact Run.r ⟨_, rfl, (hadd c hc).2⟩
  · exact Run.r ⟨_, rfl, hx⟩
end K01
set_option maxHeartbeats 1000000
namespace K01
open PySem PySem.Spec PyProof.Rows L2 Dv
theorem short_strs : ∀ {ys : List D}, (∀ y ∈ ys, ∃ z : Str, y = .str z ∧ asc z = true ∧ z.length ≤ 8 ∧ isTerm z = true) → ∃ zs : List Str, ys = zs.map .str ∧ (∀ z ∈ zs, asc z = true ∧ z.length ≤ 8 ∧ isTerm z = true)
  | [], _ => ⟨[], rfl, fun _ z => nomatch z⟩
  | y :: ys, h => by
    obtain ⟨c, rfl, hc⟩ := h y List.mem_cons_self
    obtain ⟨zs, rfl, hz⟩ := short_strs fun z hz => h z (List.mem_cons_of_mem _ hz)
    exact ⟨c :: zs, rfl, fun z hm => (List.mem_cons.mp hm).elim (fun e => by subst e; exact hc) (hz z)⟩
theorem row_run : Run 62 (fun d => ∃ ys, d = rowD ys ∧ Short ys ∧ ∀ y ∈ ys, isTerm y = true) (t_l_row [.dice]) := by
  unfold t_l_row m_l_row
  have e8 : D.mul (.str "x") (.int 8) = some (.str (repS 8 "x")) := mul_str (by decide)
  walk_at "dv"
  simp only [e8, l_some, b_ret]
  refine Run.b (pick_lst (by simp) (by decide)) fun d hd => ?_
  have hd' : ∃ i : Int, d = .int i ∧ 0 ≤ i ∧ i ≤ 61 := by
    have : ∀ d ∈ ([0, 1, 2, 3, 5, 9, 59, 60, 61] : List Int).map D.int, ∃ i : Int, d = .int i ∧ 0 ≤ i ∧ i ≤ 61 := by
      intro d hd
      obtain ⟨i, hi, rfl⟩ := List.mem_map.mp hd
      exact ⟨i, rfl, (by decide : ∀ i ∈ ([0, 1, 2, 3, 5, 9, 59, 60, 61] : List Int), 0 ≤ i ∧ i ≤ 61) i hi⟩
    exact this d hd
  obtain ⟨i, rfl, i0, i1⟩ := hd'
  rw [rng_ok (by omega) (by omega), l_some, b_ret]
  have hln : (intsD 0 i.toNat).length ≤ 61 := by rw [intsD_len]; omega
  refine Run.b (k := 61) (Run.le (Run.lim (lim_of (by omega)) (Run.lc (k := 1) (P := fun y => ∃ z : Str, y = .str z ∧ asc z = true ∧ z.length ≤ 8 ∧ isTerm z = true) hln fun x _ => ?_))) fun ys ⟨h1, h2⟩ => ?_
  · walk_at "dv"
    refine Run.mono (pick_lst (by simp) (by decide)) (by omega) fun d hd => ?_
    have : ∀ d ∈ (["a", "n", "if", "else", repS 8 "x", "+", "*", "(", ")", "|", "^", "shift", "accept"] : List Str).map D.str, ∃ z : Str, d = .str z ∧ asc z = true ∧ z.length ≤ 8 ∧ isTerm z = true := by
      intro d hd
      obtain ⟨x, hx, rfl⟩ := List.mem_map.mp hd
      exact ⟨x, rfl, (by decide +kernel : ∀ x ∈ (["a", "n", "if", "else", repS 8 "x", "+", "*", "(", ")", "|", "^", "shift", "accept"] : List Str), asc x = true ∧ x.length ≤ 8 ∧ isTerm x = true) x hx⟩
    exact this d hd
  · obtain ⟨zs, rfl, hz⟩ := short_strs h2
    rw [List.length_map] at h1
    have e : D.tupleOf [.lst (zs.map .str)] = some (rowD zs) := rfl
    rw [e, l_some, b_ret]
    exact Run.r ⟨zs, rfl, ⟨by omega, fun y hy => ⟨(hz y hy).1, (hz y hy).2.1⟩⟩, fun y hy => (hz y hy).2.2⟩
theorem order_eq {a b : List Str} (ha : goods a) (hb : goods b) (ta : isTermsD (rowD a) = true) (tb : isTermsD (rowD b) = true) : t_l_order_right [rowD a, rowD b] = ret (.bl true) := by
  have la : D.len [rowD a] = some (.int a.length) := by show some (D.int ((a.map D.str).length : Nat)) = _; rw [List.length_map]
  have lb : D.len [rowD b] = some (.int b.length) := by show some (D.int ((b.map D.str).length : Nat)) = _; rw [List.length_map]
  have oa : D.listOf [rowD a] = some (.lst (a.map .str)) := rfl
  have ob : D.listOf [rowD b] = some (.lst (b.map .str)) := rfl
  have hlt : D.lt (.lst (a.map .str)) (.lst (b.map .str)) = some (.bl (PySem.W.dataLt (.list (a.map .str)) (.list (b.map .str)))) := two_some' (c := okLt) (f := PySem.W.dataLt) (py_lstS a) (py_lstS b) (by simp [okLt, PySem.W.alike, alikeAll_strs, PyData.depth, depthAll_strs])
  have hbe := is_before_eq ha hb
  rw [ta, tb] at hbe
  have hbe : t_is_before [rowD a, rowD b] = ret (.bl (befo a b)) := hbe
  have hr : ∀ b : Bool, D.repr [.bl b] = some (.str (PyData.bool b).shown) := by intro b; cases b <;> rfl
  have he : ∀ b : Bool, D.eq (.str (PyData.bool b).shown) (.str (PyData.bool b).shown) = some (.bl true) := by
    intro b
    have : asc (PyData.bool b).shown = true := asc_shown _ rfl
    rw [eq_str this this, beq_self_eq_true]
  unfold t_l_order_right m_l_order_right
  walk_at "dv"
  simp only [la, lb, oa, ob, hlt, l_some, b_ret, Dv.lt_int, Dv.eq_int, bl_bl, ite_bl, ite_bl', hbe, hr]
  have e : (decide ((a.length : Int) < b.length) || (a.length : Int) == b.length && PySem.W.dataLt (.list (a.map .str)) (.list (b.map .str))) = befo a b := rfl
  rw [e, he, l_some, b_ret]
theorem term_sign {y : Str} (h : isTerm y = true) : 32 ∉ y.cps.toList := by
  intro hm
  unfold isTerm at h
  rcases Bool.or_eq_true_iff.mp h with h | h
  · unfold isLow at h
    have := List.all_eq_true.mp (Bool.and_eq_true_iff.mp h).2 _ hm
    revert this
    decide
  · unfold one? at h
    have := List.all_eq_true.mp (Bool.and_eq_true_iff.mp h).2 _ hm
    revert this
    decide
theorem term_ne {y : Str} (h : isTerm y = true) : y ≠ "" := by
  intro e
  subst e
  revert h
  decide +kernel
theorem words_line {ys : List Str} (h : ∀ y ∈ ys, isTerm y = true) : words (line ys) = ys := by
  cases ys with
  | nil => rfl
  | cons y ys =>
    have hs : Txt.split (line (y :: ys)) " " = y :: ys := TL.split_join (y := " ") (s := 32) (S := []) rfl (by decide +kernel) (by simp) fun p hp => term_sign (h p hp)
    have ne : (line (y :: ys) == "") = false := beq_eq_false_iff_ne.mpr fun z => by
      rw [z] at hs
      have e : Txt.split "" " " = [("" : Str)] := by decide +kernel
      rw [e] at hs
      exact term_ne (h y List.mem_cons_self) (List.cons.inj hs).1.symm
    unfold words
    rw [ne]
    exact hs
theorem terms_iff (ys : List Str) : isTermsD (rowD ys) = (decide ((ys.length : Int) ≤ 60) && ys.all isTerm) := by
  show (decide (((ys.map D.str).length : Int) ≤ 60) && (ys.map D.str).all isTermD) = _
  rw [List.length_map, List.all_map]
  rfl
theorem terms_short {ys : List Str} (h : ∀ y ∈ ys, isTerm y = true) : isTermsD (rowD ys) = decide ((ys.length : Int) ≤ 60) := by
  rw [terms_iff, List.all_eq_true.mpr h, Bool.and_true]
end K01
set_option maxHeartbeats 1000000
namespace K01
open PySem PySem.Spec PyProof.Rows L2 Dv
theorem depth_tupS (ys : List Str) : (PyData.tuple (ys.map .str)).depth ≤ 1 := by simp [PyData.depth, depthAll_strs]
theorem repr_row {ys : List Str} (h : ∀ y ∈ ys, good y = true) (hl : ys.length ≤ 100) : ∃ s, D.repr [rowD ys] = some (.str s) ∧ asc s = true := by
  have ha : ∀ y ∈ ys, asc y = true := fun y hy => good_asc (h y hy)
  have hw := shWs_strs (ys := ys) (n := 1500) fun y hy => of_decide_eq_true (Bool.and_eq_true_iff.mp (h y hy)).2
  refine ⟨(PyData.tuple (ys.map .str)).shown, ?_, asc_shown _ (by simp only [shA]; exact shAs_strs ha)⟩
  have hp : D.py (rowD ys) = some (.tuple (ys.map .str)) := py_tupS ys
  simp only [D.repr, hp]
  refine if_pos ?_
  have h1 : shOk (.tuple (ys.map .str)) = true := by simp only [shOk]; exact shOks_strs ha
  have h2 : shW (.tuple (ys.map .str)) ≤ 10000000 := by
    simp only [shW]
    have : (10 * 1500 + 4) * ys.length ≤ (10 * 1500 + 4) * 100 := Nat.mul_le_mul_left _ hl
    omega
  have h3 := depth_tupS ys
  unfold reprOk
  rw [h1, decide_eq_true h2, decide_eq_true (by omega)]
  rfl
theorem eq_self {s : Str} (h : asc s = true) : D.eq (.str s) (.str s) = some (.bl true) := by rw [eq_str h h, beq_self_eq_true]
theorem ne_self {s : Str} (h : asc s = true) : D.ne (.str s) (.str s) = some (.bl false) := by rw [ne_str h h, beq_self_eq_true]; rfl
theorem exc_t {c : Nat} {fs : Fs} {b : Bool} {α : Type} {a : α} (h : b = false) : (if b = true then Dv.ret a else excM c fs) = excM c fs := by rw [h]; rfl
theorem lines_run {ys : List Str} (h : Short ys) (ht : ∀ y ∈ ys, isTerm y = true) : Run 3 (fun d => d = .bl true) (t_l_lines_right [.dice, rowD ys]) := by
  have hj : D.join (.str " ") (.lst (ys.map .str)) = some (.str (line ys)) := join_ok h rfl
  have la : D.len [rowD ys] = some (.int ys.length) := by show some (D.int ((ys.map D.str).length : Nat)) = _; rw [List.length_map]
  have oa : D.listOf [rowD ys] = some (.lst (ys.map .str)) := rfl
  have hg := line_good h
  have hr := read_eq hg
  have hw := write_eq h
  have hT := terms_short ht
  rw [words_line ht] at hr
  unfold t_l_lines_right m_l_lines_right
  walk_at "dv"
  simp only [la, oa, hj, l_some, b_ret, Dv.gt_int, bl_bl]
  refine Run.bi (fun hb => ?_) fun hb => ?_
  · have hF : isTermsD (rowD ys) = false := by rw [hT]; have := of_decide_eq_true hb; exact decide_eq_false (by omega)
    rw [hF] at hr hw
    have hw : t_write_terminals [rowD ys] = excM 2 [] := hw
    have hr : t_read_terminals [.str (line ys)] = excM 3 [("line", .non)] := hr
    have hq : t_is_before [.tup [], rowD ys] = excM 2 [] := before_bad2 (d := rowD []) (goods_rows ⟨by simp, fun _ z => nomatch z⟩) rfl (goods_rows h.goods) hF
    have e1 : D.eq (.lst [.str "text", .str "parse None"]) (.lst [.str "text", .str "parse None"]) = some (.bl true) := (eq_lstS (xs := ["text", "parse None"]) (ys := ["text", "parse None"]) (by decide +kernel) (by decide +kernel)).trans (by rw [beq_self_eq_true])
    have e2 : D.eq (.str "text") (.str "text") = some (.bl true) := eq_self (by decide +kernel)
    simp only [hw, hr, hq, error_text, error_parse, nx_r, b_ret, e1, e2, l_some, bl_bl, ite_t, outM_ret]
    exact Run.r rfl
  · have hl60 : ys.length ≤ 60 := by have := of_decide_eq_false hb; omega
    have hF : isTermsD (rowD ys) = true := by rw [hT]; exact decide_eq_true (by omega)
    rw [hF] at hr hw
    have hw : t_write_terminals [rowD ys] = ret (.str (line ys)) := hw
    have hr : t_read_terminals [.str (line ys)] = ret (rowD ys) := hr
    obtain ⟨s, hs, hsa⟩ := repr_row h.goods.2 (by omega)
    have hll := line_len h
    have hlen := len_str (good_len hg)
    simp only [hw, hr, b_ret, ne_self (good_asc hg), ne_self hsa, hs, l_some, bl_bl, ite_f, hlen, Dv.add_int, Dv.bind_bind]
    refine Run.b (roll_run (by omega) (by omega)) fun a ⟨i, e, i0, i1⟩ => ?_
    subst e
    simp only [int_some, l_some, b_ret, slS hg]
    refine Run.b (pick_lst (by simp) (by decide)) fun p hp => ?_
    have hp' : ∃ z : Str, p = .str z ∧ asc z = true ∧ z.length ≤ 2 := by
      have : ∀ d ∈ ([" ", "  ", "\n", "$", "a ", " E", "0"] : List Str).map D.str, ∃ z : Str, d = .str z ∧ asc z = true ∧ z.length ≤ 2 := by
        intro d hd
        obtain ⟨x, hx, rfl⟩ := List.mem_map.mp hd
        exact ⟨x, rfl, (by decide +kernel : ∀ x ∈ ([" ", "  ", "\n", "$", "a ", " E", "0"] : List Str), asc x = true ∧ x.length ≤ 2) x hx⟩
      exact this p hp
    obtain ⟨z, rfl, hz, hzl⟩ := hp'
    have c1 : (cutS (line ys) none (some i)).length ≤ (line ys).length := by rw [len_cps, len_cps]; exact cutS_len _ _ _
    have c2 : ∀ j, (cutS (line ys) (some j) none).length ≤ (line ys).length := fun j => by rw [len_cps, len_cps]; exact cutS_len _ _ _
    have g1 := good_sub (y := cutS (line ys) none (some i)) hg (fun d hd => (cutS_sub _ _ _ hd).1) (cutS_len _ _ _)
    have g2 := fun j => good_sub (y := cutS (line ys) (some j) none) hg (fun d hd => (cutS_sub _ _ _ hd).1) (cutS_len _ _ _)
    rw [add_str (lim_of (by omega)), l_some, b_ret]
    refine Run.b (roll_run (by omega) (by omega)) fun a ⟨j, e, j0, j1⟩ => ?_
    subst e
    simp only [Dv.add_int, int_some, l_some, b_ret, slS hg]
    have hal : ((cutS (line ys) none (some i) ++ z) ++ cutS (line ys) (some (i + j)) none).length ≤ 1500 := by
      have := c2 (i + j)
      rw [str_app_len, str_app_len]; omega
    have hba : asc ((cutS (line ys) none (some i) ++ z) ++ cutS (line ys) (some (i + j)) none) = true := asc_app (asc_app (good_asc g1) hz) (good_asc (g2 _))
    rw [add_str (lim_of (by have := c2 (i + j); rw [str_app_len]; omega)), l_some, b_ret]
    generalize ((cutS (line ys) none (some i) ++ z) ++ cutS (line ys) (some (i + j)) none) = bent at hal hba
    have hgb : good bent = true := by unfold good; rw [hba, decide_eq_true hal]; rfl
    have hrb := read_eq hgb
    have hgw := good_words hgb
    have hE : isTermsD (rowD (words bent)) = (decide (((words bent).length : Int) ≤ 60) && (words bent).all isTerm) := terms_iff _
    have lw : D.len [.lst ((words bent).map .str)] = some (.int (words bent).length) := by show some (D.int (((words bent).map D.str).length : Nat)) = _; rw [List.length_map]
    have hspl : (if (bent == "") = true then Dv.ret (D.lst []) else mtG D.split (D.str bent) (Dv.ret (D.str " "))) = ret (.lst ((words bent).map .str)) := by
      unfold words
      cases bent == "" with
      | true => rfl
      | false =>
        show Dv.bind (Dv.ret (D.str " ")) (fun y => lift (D.split (.str bent) y)) = _
        rw [b_ret, split_ok hgb]
        rfl
    have hit : D.items (.lst ((words bent).map .str)) = some ((words bent).map .str) := rfl
    have htu : D.tupleOf [.lst ((words bent).map .str)] = some (rowD (words bent)) := rfl
    have hlc : ∀ env : Dv.Env, env.length = 8 → lcL (.nm 7) (notT (asB (fcM 1 t_l_is_told_terminal (consA (vr 7) nilA)))) (vr 7) env ((words bent).map .str) = ret (((words bent).filter fun y => !isTerm y).map .str) := by
      intro env he
      have gv : ∀ d : D, vr 7 (env.set 7 (some d)) = ret d := fun d => by
        unfold vr
        rw [List.getElem?_set_self (by omega)]
        rfl
      refine lcL_filt (fun y hy => ?_) fun y hy _ => gv _
      simp only [not_T, as_B, fc_1, gv, b_ret, told_terminal_eq (.inl ⟨y, rfl, hgw.2 y hy⟩), l_some, bl_bl]
      rfl
    have hnil : ∀ l : List Str, (∀ y ∈ l, asc y = true) → D.eq (.lst (l.map .str)) (.lst []) = some (.bl (l == [])) := fun l hl => eq_lstS (ys := []) hl (fun _ z => nomatch z)
    have hfa : (((words bent).filter fun y => !isTerm y) == []) = (words bent).all isTerm := filter_none _
    simp only [eq_str hba asc_empty, l_some, b_ret, bl_bl, hspl, lw, Dv.le_int, hit]
    rw [if_pos (show _ ≤ 100000 from goods_lim hgw)]
    rw [hlc _ rfl, b_ret, hnil _ (fun y hy => goods_asc hgw y (List.mem_filter.mp hy).1), hfa]
    simp only [l_some, b_ret, bl_bl, ite_B, ← hE]
    refine Run.bi (fun hb => ?_) fun hb => ?_
    · rw [hb] at hrb
      have hrb : t_read_terminals [.str bent] = ret (rowD (words bent)) := hrb
      have h60 := of_decide_eq_true (Bool.and_eq_true_iff.mp (hE.symm.trans hb)).1
      obtain ⟨s2, hs2, ha2⟩ := repr_row hgw.2 (by omega)
      simp only [hrb, b_ret, hs2, htu, l_some, eq_self ha2, outM_ret]
      exact Run.r rfl
    · rw [hb] at hrb
      have hrb : t_read_terminals [.str bent] = excM 3 [("line", .non)] := hrb
      simp only [hrb, error_parse, nx_r, b_ret, eq_self (s := "parse None") (by decide +kernel), l_some, outM_ret]
      exact Run.r rfl
end K01
set_option maxHeartbeats 1000000
local macro_rules | `(tactic| walk_at "dv") => `(tactic| simp only [Dv.fn_1, Dv.fn_2, Dv.fn_3, Dv.fnN_1, Dv.fnN_2, Dv.fc_1, Dv.fc_2, Dv.fc_3, Dv.fc_4, Dv.seq_asg, Dv.seq_asgN, Dv.seq_nil, Dv.seq_if, Dv.seq_seq, Dv.seq_retS, Dv.ret_S, Dv.if_M, Dv.vw_cons, Dv.va_cons, Dv.vw_nil, Dv.va_nil, Dv.vw_dt, Dv.vw_no, Dv.vw_ow, Dv.va_dt, Dv.va_no, Dv.va_ow, Dv.op_M, Dv.kc_M, Dv.cal_1, Dv.cal_2, Dv.as_B, Dv.bl_bl, Dv.not_M, Dv.not_T, Dv.and_T, Dv.or_T, Dv.and_M, Dv.or_M, Dv.if_E, Dv.cons_A, Dv.nil_A, Dv.tup_M, Dv.new_M, Dv.dsp_N, Dv.sl_M, Dv.no_P, Dv.some_P, Dv.it_M, Dv.lc_N, Dv.frz_S, Dv.ite_t, Dv.ite_f, Dv.b_ret, Dv.bind_bind, Dv.l_some, Dv.outM_ret, Dv.outM_nw, Dv.outM_next, Dv.outN_nw, Dv.nextM_next, Dv.nextM_ret, Dv.dix_M, Dv.dget_dice, Dv.dput_dice, Dv.seq_dice, Dv.toInt_i, Dv.toInt_b, Dv.add_int, Dv.sub_int, Dv.gt_int, Dv.lt_int, Dv.le_int, Dv.ge_int, Dv.eq_int, Dv.put_bind, Dv.nil_S, Dv.dsp_D, Dv.prs_nil, Dv.prs_cons, Dv.ret_W, Dv.seq_asgT, Dv.put_S0, Dv.put_S, Dv.put_D0, Dv.put_Dc, Dv.tg_nm, Dv.tg_2, Dv.tg_3, Dv.seq_for, Dv.for_M, Dv.lam_M, Dv.seq_app, Dv.appG_ow, Dv.seq_frz, Dv.frz_E, Dv.frzG_ow, Dv.frzG_dt, Dv.lim_eq, Dv.nx_r, List.getElem?_cons_zero, List.getElem?_cons_succ, List.length_cons, List.length_nil, Nat.zero_add, Nat.reduceLeDiff, Nat.reduceLT, ↓reduceIte, List.nil_append, List.cons_append, Dv.mt1_G, Dv.mtG_str, Dv.rng_1, Dv.rng_2, Dv.put_D, Dv.v_0, Dv.w_1, Dv.w_2, Dv.w_3, Dv.w_4, Dv.w_5, Dv.w_6, Dv.w_7, Dv.w_8, Dv.w_9, Dv.w_10, Dv.w_11, Dv.w_12, Dv.w_13, Dv.w_14, Dv.w_15, Dv.w_16, Dv.w_17, Dv.w_18, Dv.w_19, List.replicate, Nat.reduceSub, Nat.reduceAdd, List.set_cons_succ, List.set_cons_zero])
namespace K01
open PySem PySem.Spec PyProof.Rows L2 Dv
def oddD : List D := [.non, .int 0, .bl true, .int 1, .tup [.str "a"], .lst [.str "a"], .dic [(.str "a", .int 1)], .int (10 ^ 30)]
theorem val_str {x : Str} (h : good x = true) : Val (.str x) := .inl ⟨x, rfl, h⟩
theorem val_a : Val (.str "a") := val_str (by decide +kernel)
theorem val_odd : ∀ d ∈ oddD, Val d := by
  intro d hd
  unfold oddD at hd
  simp only [List.mem_cons, List.not_mem_nil, or_false] at hd
  rcases hd with rfl | rfl | rfl | rfl | rfl | rfl | rfl | rfl <;> exact .inr rfl
theorem told_repr (a b c : Bool) : ∃ s, D.repr [.lst [.bl a, .bl b, .bl c]] = some (.str s) ∧ asc s = true := by
  obtain ⟨ps, h⟩ := plL_of (n := 0) (w := 5) (ds := [.bl a, .bl b, .bl c]) (by
    intro d hd
    simp only [List.mem_cons, List.not_mem_nil, or_false] at hd
    rcases hd with rfl | rfl | rfl <;> exact ⟨_, pl_bl (by omega)⟩)
  have := h.lst.repr (by omega) (by simp only [List.length_cons, List.length_nil]; omega)
  exact ⟨_, this⟩
/-- rows' own values: a tuple of plain values, or of another class -/
theorem rows_row {ys : List Str} (h : Short ys) : Rows (rowD ys) := goods_rows h.goods
def RowsP (d : D) : Prop := (∃ ds, d = .tup ds ∧ (∀ e ∈ ds, Val e ∧ ∃ p, Pl 5 20000 e p) ∧ ds.length ≤ 200) ∨ ntup d = true
theorem RowsP.rows {d : D} (h : RowsP d) : Rows d := h.elim (fun ⟨ds, e, h1, h2⟩ => .inl ⟨ds, e, fun x hx => (h1 x hx).1, Nat.le_trans h2 (by decide)⟩) .inr
theorem pl_short {y : Str} (h : asc y = true ∧ y.length ≤ 8) : ∃ p, Pl 5 20000 (.str y) p := ⟨_, pl_str h.1 (by omega)⟩
theorem short_elt {ys : List Str} (h : Short ys) : ∀ e ∈ ys.map D.str, Val e ∧ ∃ p, Pl 5 20000 e p := fun e he => by
  obtain ⟨y, hy, rfl⟩ := List.mem_map.mp he
  exact ⟨val_str (h.goods.2 y hy), pl_short (h.each y hy)⟩
theorem repr_bl (b : Bool) : ∃ s, D.repr [.bl b] = some (.str s) ∧ asc s = true := ⟨_, (pl_bl (n := 0) (w := 5) (by omega)).repr (by omega) (by omega)⟩
theorem more_rows {ys : List Str} (h : Short ys) : ∃ d2 d3 d5 d6, D.add (rowD ys) (.tup [.non]) = some d2 ∧ D.add (rowD ys) (.tup [.str "E"]) = some d3 ∧ D.sl (rowD ys) none (some 1) = some d5 ∧ D.mul d5 (.int 3) = some d6 ∧ RowsP d2 ∧ RowsP d3 ∧ RowsP d6 := by
  have hl : (ys.map D.str).length ≤ 61 := by rw [List.length_map]; exact h.len
  have he := short_elt h
  have a : ∀ e : D, D.add (rowD ys) (.tup [e]) = some (.tup (ys.map D.str ++ [e])) := fun e => if_pos (lim_of (by simp only [List.length_cons, List.length_nil]; omega))
  have r : ∀ e : D, (Val e ∧ ∃ p, Pl 5 20000 e p) → RowsP (.tup (ys.map D.str ++ [e])) := fun e hv => .inl ⟨_, rfl, fun x hx => (List.mem_append.mp hx).elim (he x) fun z => (List.mem_singleton.mp z) ▸ hv, by simp only [List.length_append, List.length_cons, List.length_nil]; omega⟩
  have c : D.sl (rowD ys) none (some 1) = some (.tup ((ys.map D.str).take 1)) := by
    show some (D.tup (cutL (ys.map D.str) none (some ((1 : Nat) : Int)))) = _
    rw [cut_take]
  refine ⟨_, _, _, .tup (List.replicate 3 ((ys.map D.str).take 1)).flatten, a _, a _, c, ?_, r _ ⟨.inr rfl, _, pl_non (by omega)⟩, r _ ⟨val_str (by decide +kernel), _, pl_str (by decide +kernel) (by decide)⟩, ?_⟩
  · cases ys with
    | nil => rfl
    | cons y ys => rfl
  · refine .inl ⟨_, rfl, fun x hx => ?_, ?_⟩
    · cases ys with
      | nil => simp at hx
      | cons y ys =>
        have : x = .str y := by simpa using hx
        subst this
        exact he _ List.mem_cons_self
    · cases ys with
      | nil => simp
      | cons y ys => simp
theorem right_run : Run 1000 (fun d => d = .bl true) (t_l_right [.dice]) := by
  have e30 : D.powB (.int 10) (.int 30) = some (.int (10 ^ 30)) := powB_int (by decide)
  have edi : D.disp [(.str "a", .int 1)] = some (.dic [(.str "a", .int 1)]) := rfl
  have r12 : rng1D [.int 12] = some (intsD 0 12) := rfl
  unfold t_l_right m_l_right
  walk_at "dv"
  simp only [e30, edi, l_some, b_ret]
  simp only [r12, l_some, b_ret]
  refine Run.b (k := 300) (Run.le (Run.forL (n := 12) (k := 21) (I := fun e => ∃ a b, e = [.dt .dice, .dt (.lst oddD), a, b, .no, .no, .no, .no, .no, .no, .no, .no]) (by rw [intsD_len]; omega) (fun x _ e ⟨a, b, he⟩ => ?_) ⟨_, _, rfl⟩) (by omega)) fun r ⟨e, hr, a, b, he⟩ => ?_
  · subst he
    refine ⟨_, tg_nm, ?_⟩
    walk_at "dv"
    refine Run.b (roll_run (by omega) (by omega)) fun a ⟨i, e, _, _⟩ => ?_
    subst e
    simp only [Dv.gt_int, l_some, b_ret, bl_bl]
    refine Run.b (k := 20) (P := Val) (Run.i (fun _ => Run.mono word_run (by omega) fun d ⟨x, e, h⟩ => .inl ⟨x, e, h⟩) fun _ => Run.mono (pick_lst (by simp [oddD]) (by decide)) (by omega) fun d hd => val_odd d hd) fun d hd => ?_
    obtain ⟨s, hs, hsa⟩ := told_repr (isTermD d) (isNonD d) (isNameD d)
    simp only [is_terminal_eq hd, is_nonterminal_eq hd, is_name_eq hd, told_eq hd, b_ret, l_some, hs, ne_self hsa, bl_bl, ite_f]
    exact Run.r ⟨_, .inl rfl, _, _, rfl⟩
  subst hr
  subst he
  walk_at "dv"
  refine Run.b row_run fun d ⟨ys, hd, hS, hT⟩ => ?_
  subst hd
  refine Run.b row_run fun d ⟨zs, hd, hZ, hU⟩ => ?_
  subst hd
  walk_at "dv"
  obtain ⟨d2, d3, d5, d6, q2, q3, q5, q6, p2, p3, p6⟩ := more_rows hS
  have oa : D.listOf [rowD ys] = some (.lst (ys.map .str)) := rfl
  have hal : ∀ x ∈ [rowD ys, .lst (ys.map .str), d2, d3, d6, .str "a", .non, .dic [], .tup [.int 1], .tup [.tup [.str "a"]]], RowsP x := by
    intro x hx
    simp only [List.mem_cons, List.not_mem_nil, or_false] at hx
    rcases hx with rfl | rfl | rfl | rfl | rfl | rfl | rfl | rfl | rfl | rfl
    · exact .inl ⟨_, rfl, short_elt hS, by rw [List.length_map]; have := hS.len; omega⟩
    · exact .inr rfl
    · exact p2
    · exact p3
    · exact p6
    · exact .inr rfl
    · exact .inr rfl
    · exact .inr rfl
    · exact .inl ⟨_, rfl, fun e he => by
        have : e = .int 1 := by simpa using he
        rw [this]
        exact ⟨.inr rfl, _, pl_int (by decide) (by decide +kernel)⟩, by decide⟩
    · exact .inl ⟨_, rfl, fun e he => by
        have : e = .tup [.str "a"] := by simpa using he
        rw [this]
        obtain ⟨ps, hp⟩ := plL_of (n := 0) (w := 12) (ds := [.str "a"]) fun d hd => ⟨.str "a", by
          have : d = .str "a" := by simpa using hd
          rw [this]; exact pl_str (by decide +kernel) (by decide)⟩
        exact ⟨.inr rfl, _, hp.tup.mono (by omega) (by simp only [List.length_cons, List.length_nil]; omega)⟩, by decide⟩
  simp only [oa, q2, q3, int_some, q5, q6, l_some, b_ret]
  rw [show (D.lst [rowD ys, .lst (ys.map .str), d2, d3, d6, .str "a", .non, .dic [], .tup [.int 1], .tup [.tup [.str "a"]]]).items = some [rowD ys, .lst (ys.map .str), d2, d3, d6, .str "a", .non, .dic [], .tup [.int 1], .tup [.tup [.str "a"]]] from rfl, l_some, b_ret]
  refine Run.b (k := 0) (Run.le (Run.forL (n := 10) (k := 0) (I := fun e => ∃ b c d g, e = [.dt .dice, .dt (.lst oddD), a, b, .dt (rowD ys), .dt (rowD zs), g, c, d, .no, .no, .no]) (Nat.le_refl 10) (fun x hx e ⟨b, c, d, g, he⟩ => ?_) ⟨_, _, _, _, rfl⟩) (by omega)) fun r ⟨e, hr, b, c, d, g, he⟩ => ?_
  · subst he
    refine ⟨_, tg_nm, ?_⟩
    have hR := hal x hx
    have ht := is_terminals_eq hR.rows
    have nilE : D.len [x] = D.len [x] := rfl
    walk_at "dv"
    rcases hR with ⟨ds, rfl, hds, hl⟩ | hn
    · obtain ⟨ps, hps⟩ := plL_of (ds := ds.filter fun y => !isTermD y) fun e he => (hds e (List.mem_filter.mp he).1).2
      have l1 : D.len [.tup ds] = some (.int ds.length) := rfl
      have i1 : D.items (.tup ds) = some ds := rfl
      have hlc : ∀ env : Dv.Env, env.length = 12 → lcL (.nm 8) (notT (asB (fcM 1 t_l_is_told_terminal (consA (vr 8) nilA)))) (vr 8) env ds = ret (ds.filter fun y => !isTermD y) := by
        intro env he
        have gv : ∀ d : D, vr 8 (env.set 8 (some d)) = ret d := fun d => by
          unfold vr
          rw [List.getElem?_set_self (by omega)]
          rfl
        refine lcL_filtD (fun y hy => ?_) fun y hy => gv _
        simp only [not_T, as_B, fc_1, gv, b_ret, told_terminal_eq (hds y hy).1, l_some, bl_bl]
      simp only [Dv.l_some, Dv.b_ret, Dv.bl_bl, Dv.ite_bl, Dv.ite_bl', Dv.ite_B, Dv.ite_B', ↓reduceIte, Bool.false_eq_true, Dv.le_int, Dv.lt_int, Dv.gt_int, Dv.ge_int, Dv.eq_int, Dv.add_int, Dv.sub_int, Dv.int_some, Dv.toInt_i, Dv.toInt_b, Dv.nx_r, Dv.outM_ret, Dv.outM_next, Dv.outM_nw, Dv.nextM_next, Dv.nextM_ret, Dv.b_exc, Dv.nil_S, Bool.true_and, Bool.false_and, Bool.true_or, Bool.false_or, Bool.and_true, Bool.and_false, Bool.or_true, Bool.or_false, Bool.not_true, Bool.not_false, isi_tup, l1, i1, ht]
      rw [if_pos (show _ ≤ 100000 by omega), hlc _ rfl, b_ret, hps.eq_nil (by omega), filterD_none]
      simp only [Dv.l_some, Dv.b_ret, Dv.bl_bl, Dv.ite_bl, Dv.ite_bl', Dv.ite_B, Dv.ite_B', ↓reduceIte, Bool.false_eq_true, Dv.le_int, Dv.lt_int, Dv.gt_int, Dv.ge_int, Dv.eq_int, Dv.add_int, Dv.sub_int, Dv.int_some, Dv.toInt_i, Dv.toInt_b, Dv.nx_r, Dv.outM_ret, Dv.outM_next, Dv.outM_nw, Dv.nextM_next, Dv.nextM_ret, Dv.b_exc, Dv.nil_S, Bool.true_and, Bool.false_and, Bool.true_or, Bool.false_or, Bool.and_true, Bool.and_false, Bool.or_true, Bool.or_false, Bool.not_true, Bool.not_false]
      obtain ⟨s, hs, hsa⟩ := repr_bl (isTermsD (.tup ds))
      have e : (decide ((ds.length : Int) ≤ 60) && ds.all isTermD) = isTermsD (.tup ds) := rfl
      simp only [Dv.l_some, Dv.b_ret, Dv.bl_bl, Dv.ite_bl, Dv.ite_bl', Dv.ite_B, Dv.ite_B', ↓reduceIte, Bool.false_eq_true, Dv.le_int, Dv.lt_int, Dv.gt_int, Dv.ge_int, Dv.eq_int, Dv.add_int, Dv.sub_int, Dv.int_some, Dv.toInt_i, Dv.toInt_b, Dv.nx_r, Dv.outM_ret, Dv.outM_next, Dv.outM_nw, Dv.nextM_next, Dv.nextM_ret, Dv.b_exc, Dv.nil_S, Bool.true_and, Bool.false_and, Bool.true_or, Bool.false_or, Bool.and_true, Bool.and_false, Bool.or_true, Bool.or_false, Bool.not_true, Bool.not_false, e, hs, ne_self hsa]
      exact Run.r ⟨_, .inl rfl, _, _, _, _, rfl⟩
    · obtain ⟨s, hs, hsa⟩ := repr_bl false
      simp only [Dv.l_some, Dv.b_ret, Dv.bl_bl, Dv.ite_bl, Dv.ite_bl', Dv.ite_B, Dv.ite_B', ↓reduceIte, Bool.false_eq_true, Dv.le_int, Dv.lt_int, Dv.gt_int, Dv.ge_int, Dv.eq_int, Dv.add_int, Dv.sub_int, Dv.int_some, Dv.toInt_i, Dv.toInt_b, Dv.nx_r, Dv.outM_ret, Dv.outM_next, Dv.outM_nw, Dv.nextM_next, Dv.nextM_ret, Dv.b_exc, Dv.nil_S, Bool.true_and, Bool.false_and, Bool.true_or, Bool.false_or, Bool.and_true, Bool.and_false, Bool.or_true, Bool.or_false, Bool.not_true, Bool.not_false, isi_ntup hn, ht, ntup_terms hn, hs, ne_self hsa]
      exact Run.r ⟨_, .inl rfl, _, _, _, _, rfl⟩
  subst hr
  subst he
  walk_at "dv"
  have lenr : ∀ us : List Str, D.len [rowD us] = some (.int us.length) := fun us => by show some (D.int ((us.map D.str).length : Nat)) = _; rw [List.length_map]
  have sl3 : D.sl (rowD ys) none (some 3) = some (rowD (ys.take 3)) := by
    show some (D.tup (cutL (ys.map D.str) none (some ((3 : Nat) : Int)))) = _
    rw [cut_take, ← List.map_take]
    rfl
  have h3 : Short (ys.take 3) := ⟨by rw [List.length_take]; omega, fun y hy => hS.each y (List.mem_of_mem_take hy)⟩
  have t3 : isTermsD (rowD (ys.take 3)) = true := by
    rw [terms_short fun y hy => hT y (List.mem_of_mem_take hy), List.length_take]
    exact decide_eq_true (by omega)
  have hrest : Run 500 (fun d => d = .bl true) (Dv.bind (t_l_pick [.dice, .lst [.non, .str "a", .lst [.str "a"], .tup [.str "E"], .tup [.str "a", .int 0], .tup [.str "$"]]]) fun d => Dv.bind (t_l_pick [.dice, .lst [.non, .int 0, .tup [.str "a"], .lst [.str "a"]]]) fun d_1 => Dv.bind (nx (t_l_error (t_write_terminals [d]))) fun a => Dv.bind (nx (t_l_error (t_is_before [d, rowD (ys.take 3)]))) fun d_2 => Dv.bind (nx (t_l_error (t_is_before [rowD (ys.take 3), d]))) fun d => Dv.bind (nx (t_l_error (t_read_terminals [d_1]))) fun d_3 => Dv.bind (lift ((D.lst [a, d_2, d, d_3]).eq (D.lst [.str "text", .str "text", .str "text", .str "parse None"]))) fun a => Dv.bind (lift a.bl?) fun a => Dv.bind (if a = true then t_l_lines_right [.dice, rowD ys] else Dv.ret (.bl false)) fun d => Dv.ret d) := by
    refine Run.b (pick_lst (by simp) (by decide)) fun d hd => ?_
    refine Run.b (pick_lst (by simp) (by decide)) fun d1 hd1 => ?_
    have hd : Rows d ∧ isTermsD d = false := by
      simp only [List.mem_cons, List.not_mem_nil, or_false] at hd
      rcases hd with rfl | rfl | rfl | rfl | rfl | rfl
      · exact ⟨.inr rfl, rfl⟩
      · exact ⟨.inr rfl, rfl⟩
      · exact ⟨.inr rfl, rfl⟩
      · exact ⟨.inl ⟨_, rfl, fun e he => List.mem_singleton.mp he ▸ val_str (by decide +kernel), by decide⟩, by decide +kernel⟩
      · refine ⟨.inl ⟨_, rfl, fun e he => ?_, by decide⟩, by decide +kernel⟩
        simp only [List.mem_cons, List.not_mem_nil, or_false] at he
        rcases he with rfl | rfl
        · exact val_a
        · exact .inr rfl
      · exact ⟨.inl ⟨_, rfl, fun e he => List.mem_singleton.mp he ▸ val_str (by decide +kernel), by decide⟩, by decide +kernel⟩
    have hd1 : d1.nstr = true := by
      simp only [List.mem_cons, List.not_mem_nil, or_false] at hd1
      rcases hd1 with rfl | rfl | rfl | rfl <;> rfl
    have e1 : D.eq (.lst [.str "text", .str "text", .str "text", .str "parse None"]) (.lst [.str "text", .str "text", .str "text", .str "parse None"]) = some (.bl true) := (eq_lstS (xs := ["text", "text", "text", "parse None"]) (ys := ["text", "text", "text", "parse None"]) (by decide +kernel) (by decide +kernel)).trans (by rw [beq_self_eq_true])
    simp only [Dv.l_some, Dv.b_ret, Dv.bl_bl, Dv.ite_bl, Dv.ite_bl', Dv.ite_B, Dv.ite_B', ↓reduceIte, Bool.false_eq_true, Dv.le_int, Dv.lt_int, Dv.gt_int, Dv.ge_int, Dv.eq_int, Dv.add_int, Dv.sub_int, Dv.int_some, Dv.toInt_i, Dv.toInt_b, Dv.nx_r, Dv.outM_ret, Dv.outM_next, Dv.outM_nw, Dv.nextM_next, Dv.nextM_ret, Dv.b_exc, Dv.nil_S, Bool.true_and, Bool.false_and, Bool.true_or, Bool.false_or, Bool.and_true, Bool.and_false, Bool.or_true, Bool.or_false, Bool.not_true, Bool.not_false, write_bad hd.1 hd.2, before_bad1 hd.1 hd.2, before_bad2 (rows_row h3) t3 hd.1 hd.2, read_odd hd1, error_text, error_parse, e1]
    exact Run.b (k := 3) (lines_run hS hT) fun d hd => Run.r hd
  simp only [Dv.l_some, Dv.b_ret, Dv.bl_bl, Dv.ite_bl, Dv.ite_bl', Dv.ite_B, Dv.ite_B', ↓reduceIte, Bool.false_eq_true, Dv.le_int, Dv.lt_int, Dv.gt_int, Dv.ge_int, Dv.eq_int, Dv.add_int, Dv.sub_int, Dv.int_some, Dv.toInt_i, Dv.toInt_b, Dv.nx_r, Dv.outM_ret, Dv.outM_next, Dv.outM_nw, Dv.nextM_next, Dv.nextM_ret, Dv.b_exc, Dv.nil_S, Bool.true_and, Bool.false_and, Bool.true_or, Bool.false_or, Bool.and_true, Bool.and_false, Bool.or_true, Bool.or_false, Bool.not_true, Bool.not_false, lenr, sl3]
  have hcond : (if decide ((ys.length : Int) ≤ 60) = true then if decide ((zs.length : Int) ≤ 60) = true then Dv.bind (t_l_order_right [rowD ys, rowD zs]) fun a => Dv.bind (lift a.bl?) fun a => Dv.bind (if a = true then Dv.bind (t_l_order_right [rowD ys, rowD ys]) fun x => lift x.bl? else Dv.ret false) fun t => Dv.ret !t else Dv.ret false else Dv.ret false) = ret false := by
    have ty := terms_short hT
    have tz := terms_short hU
    cases h1 : decide ((ys.length : Int) ≤ 60) with
    | false => rfl
    | true =>
      cases h2 : decide ((zs.length : Int) ≤ 60) with
      | false => rfl
      | true =>
        rw [h1] at ty
        rw [h2] at tz
        simp only [Dv.l_some, Dv.b_ret, Dv.bl_bl, Dv.ite_bl, Dv.ite_bl', Dv.ite_B, Dv.ite_B', ↓reduceIte, Bool.false_eq_true, Dv.le_int, Dv.lt_int, Dv.gt_int, Dv.ge_int, Dv.eq_int, Dv.add_int, Dv.sub_int, Dv.int_some, Dv.toInt_i, Dv.toInt_b, Dv.nx_r, Dv.outM_ret, Dv.outM_next, Dv.outM_nw, Dv.nextM_next, Dv.nextM_ret, Dv.b_exc, Dv.nil_S, Bool.true_and, Bool.false_and, Bool.true_or, Bool.false_or, Bool.and_true, Bool.and_false, Bool.or_true, Bool.or_false, Bool.not_true, Bool.not_false, order_eq hS.goods hZ.goods ty tz, order_eq hS.goods hS.goods ty ty]
  rw [hcond]
  simp only [Dv.l_some, Dv.b_ret, Dv.bl_bl, Dv.ite_bl, Dv.ite_bl', Dv.ite_B, Dv.ite_B', ↓reduceIte, Bool.false_eq_true, Dv.le_int, Dv.lt_int, Dv.gt_int, Dv.ge_int, Dv.eq_int, Dv.add_int, Dv.sub_int, Dv.int_some, Dv.toInt_i, Dv.toInt_b, Dv.nx_r, Dv.outM_ret, Dv.outM_next, Dv.outM_nw, Dv.nextM_next, Dv.nextM_ret, Dv.b_exc, Dv.nil_S, Bool.true_and, Bool.false_and, Bool.true_or, Bool.false_or, Bool.and_true, Bool.and_false, Bool.or_true, Bool.or_false, Bool.not_true, Bool.not_false, Dv.bind_bind]
  exact Run.le hrest
end K01
set_option maxHeartbeats 1000000
namespace K01
open PySem PySem.Spec PyProof.Rows L2 Dv
theorem ix_scr {ns : List Int} {i : Nat} (h : i < ns.length) : D.ix (.scr ns) (.int i) = some (.int ns[i]) := by
  show (atI ns i).map D.int = _
  unfold atI
  have : ixN ns.length (i : Int) = some i := by unfold ixN; rw [if_pos (by omega), if_pos (by omega)]; rfl
  rw [this]
  show (ns[i]?).map D.int = _
  rw [List.getElem?_eq_getElem h]
  rfl
theorem ex_two (x y : Int) : ∃ a b : Int, (ret [D.int x, .int y, .int 0] : M (List D)) = ret [.int a, .int b, .int 0] := ⟨x, y, rfl⟩

theorem great : ∃ A B : Int, D.powB (.int 10) (.int 58) = some (.int A) ∧ D.powB (.int A) (.int 10) = some (.int B) ∧ 0 < B :=
  ⟨10 ^ 58, (10 ^ 58) ^ 10, powB_int (by decide +kernel), powB_int (by decide +kernel), by decide +kernel⟩
theorem great3 : ∃ C : Int, D.powB (.int 10) (.int 18) = some (.int C) := ⟨10 ^ 18, powB_int (by decide +kernel)⟩

theorem dice_ok (ns : List Int) (i : Nat) (hi : i < 1000) : ∃ a b : Int, t_l_dice [.scr ns, .int i] = ret [.int a, .int b, .int 0] := by
  have l0 : D.len [.scr ns] = some (.int ns.length) := rfl
  obtain ⟨A, B, p1, p2, p4⟩ := great
  obtain ⟨C, p3⟩ := great3
  have ab : ∀ j : Int, D.abs [.int j] = some (.int (if j < 0 then -j else j)) := fun _ => rfl
  have mx : ∀ j k : Int, D.max2 [.int j, .int k] = some (.int (if k > j then k else j)) := fun _ _ => rfl
  have c1 : (59 : Int).natAbs.log2 < 4000 := Nat.lt_of_lt_of_le (log2_64 (by omega) (by omega)) (by omega)
  have c2 : (i : Int).natAbs.log2 < 4000 := Nat.lt_of_lt_of_le (log2_64 (by omega) (by omega)) (by omega)
  have c3 : (7919 : Int).natAbs.log2 < 4000 := Nat.lt_of_lt_of_le (log2_64 (by omega) (by omega)) (by omega)
  have c4 : (1000303 : Int).natAbs.log2 < 4000 := Nat.lt_of_lt_of_le (log2_64 (by omega) (by omega)) (by omega)
  have c5 : (41 : Int).natAbs.log2 < 4000 := Nat.lt_of_lt_of_le (log2_64 (by omega) (by omega)) (by omega)
  have c6 : ∀ j : Int, (j % 2305843009213693907).natAbs.log2 < 4000 := fun j => Nat.lt_of_lt_of_le (log2_64 (Int.emod_nonneg _ (by omega)) (by have := Int.emod_lt_of_pos j (b := 2305843009213693907) (by omega); omega)) (by omega)
  have c7 : ∀ b : Bool, (if b = true then (1 : Int) else 0).natAbs.log2 < 4000 := fun b => by cases b <;> exact Nat.lt_of_lt_of_le (log2_64 (by decide) (by decide)) (by omega)
  have m1 := mul_int c1 c2
  have m2 := mul_int c3 c2
  have m3 := fun j => mul_int (c6 j) c4
  have m4 := fun b => mul_int c5 (c7 b)
  have d1 : ∀ j : Int, D.mod (.int j) (.int B) = _ := fun j => mod_int p4
  have d2 : ∀ j : Int, D.mod (.int j) (.int 2305843009213693907) = _ := fun j => mod_int (by omega)
  have d3 : ∀ j : Int, D.mod (.int j) (.int 2305843009213693921) = _ := fun j => mod_int (by omega)
  unfold t_l_dice m_l_dice
  walk_at "dv"
  simp only [Dv.l_some, Dv.b_ret, Dv.bl_bl, Dv.ite_bl, Dv.ite_bl', Dv.ite_B, Dv.ite_B', ↓reduceIte, Bool.false_eq_true, Dv.le_int, Dv.lt_int, Dv.gt_int, Dv.ge_int, Dv.eq_int, Dv.add_int, Dv.sub_int, Dv.int_some, Dv.toInt_i, Dv.toInt_b, Dv.nx_r, Dv.outM_ret, Dv.outM_next, Dv.outM_nw, Dv.nextM_next, Dv.nextM_ret, Dv.b_exc, Dv.nil_S, Bool.true_and, Bool.false_and, Bool.true_or, Bool.false_or, Bool.and_true, Bool.and_false, Bool.or_true, Bool.or_false, Bool.not_true, Bool.not_false, l0]
  by_cases h : (i : Int) < ns.length
  · rw [decide_eq_true h]
    simp only [Dv.l_some, Dv.b_ret, Dv.bl_bl, Dv.ite_bl, Dv.ite_bl', Dv.ite_B, Dv.ite_B', ↓reduceIte, Bool.false_eq_true, Dv.le_int, Dv.lt_int, Dv.gt_int, Dv.ge_int, Dv.eq_int, Dv.add_int, Dv.sub_int, Dv.int_some, Dv.toInt_i, Dv.toInt_b, Dv.nx_r, Dv.outM_ret, Dv.outM_next, Dv.outM_nw, Dv.nextM_next, Dv.nextM_ret, Dv.b_exc, Dv.nil_S, Bool.true_and, Bool.false_and, Bool.true_or, Bool.false_or, Bool.and_true, Bool.and_false, Bool.or_true, Bool.or_false, Bool.not_true, Bool.not_false, ix_scr (by omega : i < ns.length), ab, p1, p2, p3, d1, d2, d3, m1, m2, m3, m4, mx]
    exact ex_two _ _
  · rw [decide_eq_false h]
    simp only [Dv.l_some, Dv.b_ret, Dv.bl_bl, Dv.ite_bl, Dv.ite_bl', Dv.ite_B, Dv.ite_B', ↓reduceIte, Bool.false_eq_true, Dv.le_int, Dv.lt_int, Dv.gt_int, Dv.ge_int, Dv.eq_int, Dv.add_int, Dv.sub_int, Dv.int_some, Dv.toInt_i, Dv.toInt_b, Dv.nx_r, Dv.outM_ret, Dv.outM_next, Dv.outM_nw, Dv.nextM_next, Dv.nextM_ret, Dv.b_exc, Dv.nil_S, Bool.true_and, Bool.false_and, Bool.true_or, Bool.false_or, Bool.and_true, Bool.and_false, Bool.or_true, Bool.or_false, Bool.not_true, Bool.not_false, ab, p1, p2, p3, d1, d2, d3, m1, m2, m3, m4, mx]
    exact ex_two _ _

theorem law_ok (ns : List Int) (δ : Dice) (h : ns.length ≤ 63) : ∃ δ', t_law [.scr ns] δ = .ok (.bl true) δ' := by
  suffices hs : t_law [.scr ns] = ret (.bl true) from ⟨δ, by rw [hs]; rfl⟩
  have l0 : D.len [.scr ns] = some (.int ns.length) := rfl
  unfold t_law m_law
  walk_at "dv"
  simp only [Dv.l_some, Dv.b_ret, Dv.bl_bl, Dv.ite_bl, Dv.ite_bl', Dv.ite_B, Dv.ite_B', ↓reduceIte, Bool.false_eq_true, Dv.le_int, Dv.lt_int, Dv.gt_int, Dv.ge_int, Dv.eq_int, Dv.add_int, Dv.sub_int, Dv.int_some, Dv.toInt_i, Dv.toInt_b, Dv.nx_r, Dv.outM_ret, Dv.outM_next, Dv.outM_nw, Dv.nextM_next, Dv.nextM_ret, Dv.b_exc, Dv.nil_S, Bool.true_and, Bool.false_and, Bool.true_or, Bool.false_or, Bool.and_true, Bool.and_false, Bool.or_true, Bool.or_false, Bool.not_true, Bool.not_false, l0]
  have mn : ∃ k : Int, D.min2 [.int 6, .int ns.length] = some (.int k) ∧ k ≤ 6 := ⟨_, rfl, by split <;> omega⟩
  obtain ⟨k, mn, hk⟩ := mn
  have mx : ∃ l : Int, D.max2 [.int 1, .int k] = some (.int l) ∧ 1 ≤ l ∧ l ≤ 6 := ⟨_, rfl, by split <;> omega⟩
  obtain ⟨l, mx, hl1, hl⟩ := mx
  simp only [Dv.l_some, Dv.b_ret, Dv.bl_bl, Dv.ite_bl, Dv.ite_bl', Dv.ite_B, Dv.ite_B', ↓reduceIte, Bool.false_eq_true, Dv.le_int, Dv.lt_int, Dv.gt_int, Dv.ge_int, Dv.eq_int, Dv.add_int, Dv.sub_int, Dv.int_some, Dv.toInt_i, Dv.toInt_b, Dv.nx_r, Dv.outM_ret, Dv.outM_next, Dv.outM_nw, Dv.nextM_next, Dv.nextM_ret, Dv.b_exc, Dv.nil_S, Bool.true_and, Bool.false_and, Bool.true_or, Bool.false_or, Bool.and_true, Bool.and_false, Bool.or_true, Bool.or_false, Bool.not_true, Bool.not_false, mn, mx, rng_ok (by omega : l < 1000000000) (by omega)]
  have loop : ∀ (xs : List D) (e : SEnv), (∀ x ∈ xs, ∃ i : Nat, i < 1000 ∧ x = .int i) → (∃ s, e = [.dt (.scr ns), s, .no]) → ∃ s, forL (.nm 1) (ifS (notT (asB (rdM 2 t_l_dice t_l_right (consA (vr 0) (consA (vr 1) nilA))))) (retS (kc (.bl false))) nilS) xs e = ret (.next [.dt (.scr ns), s, .no]) := by
    intro xs
    induction xs with
    | nil => exact fun e _ ⟨s, he⟩ => ⟨s, by rw [he]; rfl⟩
    | cons x xs ih =>
      intro e hx ⟨s, he⟩
      obtain ⟨i, hi, rfl⟩ := hx x List.mem_cons_self
      subst he
      obtain ⟨s2, h2⟩ := ih [.dt (.scr ns), .dt (.int i), .no] (fun y hy => hx y (List.mem_cons_of_mem _ hy)) ⟨_, rfl⟩
      apply Exists.intro s2
      obtain ⟨a, b, hd⟩ := dice_ok ns i hi
      have hr : rdM 2 t_l_dice t_l_right (consA (vr 0) (consA (vr 1) nilA)) [some (.scr ns), some (.int i), none] = ret (.bl true) := by
        obtain ⟨r, δ', e, _, _, hr⟩ := right_run (a, b, 0) (Int.le_refl 0) (show (0 : Int) + ((1000 : Nat) : Int) ≤ 1000000000 by decide)
        subst hr
        unfold rdM
        walk_at "dv"
        rw [hd, b_ret]
        show (fun δ => match t_l_right [.dice] (a, b, 0) with
          | .ok d _ => if d.scal then R.ok d δ else .bad
          | _ => .bad) = _
        rw [e]
        rfl
      unfold forL
      rw [tg_nm, l_some, b_ret]
      walk_at "dv"
      rw [hr]
      simp only [Dv.l_some, Dv.b_ret, Dv.bl_bl, Dv.ite_bl, Dv.ite_bl', Dv.ite_B, Dv.ite_B', ↓reduceIte, Bool.false_eq_true, Dv.le_int, Dv.lt_int, Dv.gt_int, Dv.ge_int, Dv.eq_int, Dv.add_int, Dv.sub_int, Dv.int_some, Dv.toInt_i, Dv.toInt_b, Dv.nx_r, Dv.outM_ret, Dv.outM_next, Dv.outM_nw, Dv.nextM_next, Dv.nextM_ret, Dv.b_exc, Dv.nil_S, Bool.true_and, Bool.false_and, Bool.true_or, Bool.false_or, Bool.and_true, Bool.and_false, Bool.or_true, Bool.or_false, Bool.not_true, Bool.not_false]
      exact h2
  obtain ⟨s, hloop⟩ := loop (intsD 0 l.toNat) [.dt (.scr ns), .no, .no] (fun x hx => by
    obtain ⟨i, hi, e⟩ := intsD_mem hx
    exact ⟨i, by omega, e⟩) ⟨_, rfl⟩
  rw [hloop]
  simp only [Dv.l_some, Dv.b_ret, Dv.bl_bl, Dv.ite_bl, Dv.ite_bl', Dv.ite_B, Dv.ite_B', ↓reduceIte, Bool.false_eq_true, Dv.le_int, Dv.lt_int, Dv.gt_int, Dv.ge_int, Dv.eq_int, Dv.add_int, Dv.sub_int, Dv.int_some, Dv.toInt_i, Dv.toInt_b, Dv.nx_r, Dv.outM_ret, Dv.outM_next, Dv.outM_nw, Dv.nextM_next, Dv.nextM_ret, Dv.b_exc, Dv.nil_S, Bool.true_and, Bool.false_and, Bool.true_or, Bool.false_or, Bool.and_true, Bool.and_false, Bool.or_true, Bool.or_false, Bool.not_true, Bool.not_false]
  walk_at "dv"
  have g0 : t_read_terminals [.str ""] = ret (rowD []) := by
    have := read_eq (x := "") (by decide +kernel)
    rw [show words "" = [] from rfl] at this
    exact this
  have s0 : Short [] := ⟨by simp, fun _ z => nomatch z⟩
  have g1 : t_write_terminals [.tup []] = ret (.str "") := by
    have := write_eq s0
    rw [if_pos (by decide +kernel), show line [] = "" from by decide +kernel] at this
    exact this
  have sh : ∀ ys : List Str, (ys.length ≤ 61 ∧ ∀ y ∈ ys, asc y = true ∧ y.length ≤ 8) → goods ys := fun ys h => Short.goods ⟨h.1, h.2⟩
  have hb : ∀ a b : List Str, goods a → goods b → isTermsD (rowD a) = true → isTermsD (rowD b) = true → t_is_before [rowD a, rowD b] = ret (.bl (befo a b)) := fun a b ha hb h1 h2 => by
    rw [is_before_eq ha hb, h1, h2]
    rfl
  have b1 : t_is_before [.tup [], .tup [.str "a"]] = ret (.bl true) := (hb [] ["a"] (sh _ (by decide +kernel)) (sh _ (by decide +kernel)) (by decide +kernel) (by decide +kernel)).trans (by rw [show befo [] ["a"] = true by decide +kernel])
  have b2 : t_is_before [.tup [.str "b"], .tup [.str "a", .str "a"]] = ret (.bl true) := (hb ["b"] ["a", "a"] (sh _ (by decide +kernel)) (sh _ (by decide +kernel)) (by decide +kernel) (by decide +kernel)).trans (by rw [show befo ["b"] ["a", "a"] = true by decide +kernel])
  have b3 : t_is_before [.tup [.str "b"], .tup [.str "a"]] = ret (.bl false) := (hb ["b"] ["a"] (sh _ (by decide +kernel)) (sh _ (by decide +kernel)) (by decide +kernel) (by decide +kernel)).trans (by rw [show befo ["b"] ["a"] = false by decide +kernel])
  have b4 : t_is_before [.tup [.str "("], .tup [.str "a"]] = ret (.bl true) := (hb ["("] ["a"] (sh _ (by decide +kernel)) (sh _ (by decide +kernel)) (by decide +kernel) (by decide +kernel)).trans (by rw [show befo ["("] ["a"] = true by decide +kernel])
  have n1 : t_is_nonterminal [.str "Abcdef"] = ret (.bl true) := (is_nonterminal_eq (val_str (by decide +kernel))).trans (by rw [show isNonD (.str "Abcdef") = true by decide +kernel])
  have n2 : t_is_nonterminal [.str "Abcdefg"] = ret (.bl false) := (is_nonterminal_eq (val_str (by decide +kernel))).trans (by rw [show isNonD (.str "Abcdefg") = false by decide +kernel])
  have e1 : D.ne (.lst [.str "\x24", .int 8, .int 60, .str "!&()*+,-./:;<=>?[]^|", rowD [], .str ""]) (.lst [.str "\x24", .int 8, .int 60, .str "!&()*+,-./:;<=>?[]^|", .tup [], .str ""]) = some (.bl false) := by
    have p : D.py (.lst [.str "\x24", .int 8, .int 60, .str "!&()*+,-./:;<=>?[]^|", .tup [], .str ""]) = some (.list [.str "\x24", .int 8, .int 60, .str "!&()*+,-./:;<=>?[]^|", .tuple [], .str ""]) := by simp [D.py, D.pyL]
    exact (two_some' (c := okEq) (f := fun p q => !PyData.eqv p q) p p (by decide +kernel)).trans (congrArg some (congrArg D.bl (by decide +kernel)))
  have e2 : D.eq (.lst [.bl true, .bl true, .bl false, .bl true]) (.lst [.bl true, .bl true, .bl false, .bl true]) = some (.bl true) := by
    have p : D.py (.lst [.bl true, .bl true, .bl false, .bl true]) = some (.list [.bool true, .bool true, .bool false, .bool true]) := by simp [D.py, D.pyL]
    exact (two_some' (c := okEq) (f := PyData.eqv) p p (by decide +kernel)).trans (congrArg some (congrArg D.bl (by decide +kernel)))
  simp only [Dv.l_some, Dv.b_ret, Dv.bl_bl, Dv.ite_bl, Dv.ite_bl', Dv.ite_B, Dv.ite_B', ↓reduceIte, Bool.false_eq_true, Dv.le_int, Dv.lt_int, Dv.gt_int, Dv.ge_int, Dv.eq_int, Dv.add_int, Dv.sub_int, Dv.int_some, Dv.toInt_i, Dv.toInt_b, Dv.nx_r, Dv.outM_ret, Dv.outM_next, Dv.outM_nw, Dv.nextM_next, Dv.nextM_ret, Dv.b_exc, Dv.nil_S, Bool.true_and, Bool.false_and, Bool.true_or, Bool.false_or, Bool.and_true, Bool.and_false, Bool.or_true, Bool.or_false, Bool.not_true, Bool.not_false, g0, g1, e1, b1, b2, b3, b4, n1, n2, e2]
end K01
set_option maxHeartbeats 0
namespace K01
open PySem PySem.Spec PyProof.Rows L2 Dv
def in_ParseError : InitD := ⟨"ParseError", i_ParseError, "line", "line"⟩
theorem st_ParseError : SupSt PySem.Challenge.pw_chosentrees_k01_symbols_and_rows_of_term in_ParseError (msgOf i_ParseError) where
  ab := ⟨_, _, _, _, _, _, _, _, _, _, _, rfl, rfl, fun _ => ⟨_, rfl⟩⟩
  bi := by intros; rfl
  hst := by intros; rfl
  sk := rfl
  sco := rfl
  sge := rfl
  sce := by decide
  ksu := rfl
  kcl := rfl
  kse := rfl
  kp := rfl
  top := by kernel_rfl
  np := by decide
  ndb := by decide
abbrev dd_l_dice : He.DefD := dfd "_law_dice" s_l_dice
abbrev dd_l_error : He.DefD := dfd "_law_error" s_l_error
abbrev dd_l_is_small : He.DefD := dfd "_law_is_small" s_l_is_small
abbrev dd_l_is_told_terminal : He.DefD := dfd "_law_is_told_terminal" s_l_is_told_terminal
abbrev dd_l_roll : He.DefD := dfd "_law_roll" s_l_roll
abbrev dd_l_pick : He.DefD := dfd "_law_pick" s_l_pick
abbrev dd_rank : He.DefD := dfd "rank" s_rank
abbrev dd_is_lower : He.DefD := dfd "is_lower" s_is_lower
abbrev dd_is_terminal : He.DefD := dfd "is_terminal" s_is_terminal
abbrev dd_is_terminals : He.DefD := dfd "is_terminals" s_is_terminals
abbrev dd_require_terminals : He.DefD := dfd "require_terminals" s_require_terminals
abbrev dd_is_before : He.DefD := dfd "is_before" s_is_before
abbrev dd_read_terminals : He.DefD := dfd "read_terminals" s_read_terminals
abbrev dd_write_terminals : He.DefD := dfd "write_terminals" s_write_terminals
abbrev dd_l_lines_right : He.DefD := dfd "_law_lines_right" s_l_lines_right
abbrev dd_l_order_right : He.DefD := dfd "_law_order_right" s_l_order_right
abbrev dd_l_row : He.DefD := dfd "_law_row" s_l_row
abbrev dd_l_told : He.DefD := dfd "_law_told" s_l_told
abbrev dd_l_word : He.DefD := dfd "_law_word" s_l_word
abbrev dd_is_name : He.DefD := dfd "is_name" s_is_name
abbrev dd_is_nonterminal : He.DefD := dfd "is_nonterminal" s_is_nonterminal
abbrev dd_l_right : He.DefD := dfd "_law_right" s_l_right
abbrev dd_law : He.DefD := dfd "law" s_law
def asked : Asked where
  fa := [.glo "_law_dice", .glo "_law_error", .glo "_law_is_small", .glo "_law_is_told_terminal", .glo "_law_roll", .glo "_law_pick", .glo "rank", .glo "is_lower", .glo "is_terminal", .glo "is_terminals", .glo "require_terminals", .glo "is_before", .glo "read_terminals", .glo "write_terminals", .glo "_law_lines_right", .glo "_law_order_right", .glo "_law_row", .glo "_law_told", .glo "_law_word", .glo "is_name", .glo "is_nonterminal", .glo "_law_right", .glo "law", .str "END" "\x24", .str "LOWER" "abcdefghijklmnopqrstuvwxyz", .int "MAX_LETTERS" 8, .int "MAX_TAIL" 5, .int "MAX_TEXT" 60, .glo "RESERVED", .str "SIGNS" "!&()*+,-./:;<=>?[]^|", .str "UPPER" "ABCDEFGHIJKLMNOPQRSTUVWXYZ", .free "abs", .free "all", .free "int", .free "isinstance", .free "len", .free "list", .free "max", .free "min", .free "range", .free "repr", .free "str", .free "tuple", .glo "InvalidText", .exc "InvalidText", .glo "ParseError", .exm "InvalidText" "ParseError" false, .exm "InvalidText" "InvalidText" true, .exm "ParseError" "ParseError" true, .exm "ParseError" "InvalidText" false]
  fn := [dd_l_dice, dd_l_error, dd_l_is_small, dd_l_is_told_terminal, dd_l_roll, dd_l_pick, dd_rank, dd_is_lower, dd_is_terminal, dd_is_terminals, dd_require_terminals, dd_is_before, dd_read_terminals, dd_write_terminals, dd_l_lines_right, dd_l_order_right, dd_l_row, dd_l_told, dd_l_word, dd_is_name, dd_is_nonterminal, dd_l_right, dd_law]
  tf := [("_law_lines_right", none), ("_law_right", none)]
  ex := [fun K => He.tupB K "RESERVED" ((["shift", "accept"] : List Str).map .str), fun K => errB K "InvalidText", fun K => errB K "ParseError", fun K => supB PySem.Challenge.pw_chosentrees_k01_symbols_and_rows_of_term.main.file K in_ParseError, fun K => fldB K "ParseError" "line", fun K => !decide ((He.cT K ("_law_lines_right", none)).2 = (He.cT K ("_law_right", none)).2)]
  ins := [in_ParseError]
abbrev R : PySem.W.OpenRow := PySem.W.OpenLaw.row PySem.Challenge.rw_chosentrees_k01_symbols_and_rows_of_term
def loose : List PySem.Str := (["GrammarError", "InvalidText", "ParseError", "END", "SIGNS", "MAX_LETTERS", "MAX_TAIL", "MAX_TEXT", "LOWER", "UPPER", "RESERVED", "is_lower", "is_terminal", "is_nonterminal", "is_name", "is_terminals", "rank", "require_terminals", "is_before", "write_terminals", "read_terminals", "_law_dice", "_law_roll", "_law_pick", "_law_is_small", "_law_is_told_terminal", "_law_told", "_law_word", "_law_row", "_law_error"] : List PySem.Str) ++ (["_law_lines_right", "_law_order_right", "_law_right"] : List PySem.Str)
theorem run (w : World) : HandSHeadRun.RunEq R (PySem.W.view R.prog [36]) (asked.hook 6) (fun s => asked.obs 6 (HandSHeadRun.getT s)) 6000 loose w := by
  intro os
  kernel_rfl
theorem facts {h : Heap} {K : PySem.W.Frag} {mg : Str → Option Value} (S : asked.Says h K) (X : K.In h) (G : h.Ns mainGlobals mg) : ∃ a : Ad, a.law = He.ga K "law" ∧ (∀ (s : Shared) (u : Value), BindsTo s a.d_law ⟨[u], []⟩ [("_law_script", u)]) ∧ (a.c_l_lines_right, a.P_l_lines_right) = He.cT K ("_law_lines_right", none) ∧ (a.c_l_right, a.P_l_right) = He.cT K ("_law_right", none) ∧ ∀ base : Heap, (∀ p ∈ asked.tf.map (He.cT K), LamX.TabB base mg p.1 p.2) → Tx K mg base a := by
  obtain ⟨d_l_dice, ⟨F_l_dice, B_l_dice⟩, c_l_dice, hc_l_dice, k_l_dice⟩ := S.fn1 X G (x := "_law_dice") (st := s_l_dice) (ps := ["_law_script", "_law_spot"]) 0 0 rfl rfl (fun _ _ _ _ _ _ us hl => match us, hl with | [_, _], _ => rfl)
  obtain ⟨d_l_error, ⟨F_l_error, B_l_error⟩, c_l_error, hc_l_error, k_l_error⟩ := S.fn1 X G (x := "_law_error") (st := s_l_error) (ps := ["_law_call"]) 1 1 rfl rfl (fun _ _ _ _ _ _ us hl => match us, hl with | [_], _ => rfl)
  obtain ⟨d_l_is_small, ⟨F_l_is_small, B_l_is_small⟩, c_l_is_small, hc_l_is_small, k_l_is_small⟩ := S.fn1 X G (x := "_law_is_small") (st := s_l_is_small) (ps := ["_law_text", "_law_most"]) 2 2 rfl rfl (fun _ _ _ _ _ _ us hl => match us, hl with | [_, _], _ => rfl)
  obtain ⟨d_l_is_told_terminal, ⟨F_l_is_told_terminal, B_l_is_told_terminal⟩, c_l_is_told_terminal, hc_l_is_told_terminal, k_l_is_told_terminal⟩ := S.fn1 X G (x := "_law_is_told_terminal") (st := s_l_is_told_terminal) (ps := ["_law_value"]) 3 3 rfl rfl (fun _ _ _ _ _ _ us hl => match us, hl with | [_], _ => rfl)
  obtain ⟨d_l_roll, ⟨F_l_roll, B_l_roll⟩, c_l_roll, hc_l_roll, k_l_roll⟩ := S.fn1 X G (x := "_law_roll") (st := s_l_roll) (ps := ["_law_dice_here", "_law_total"]) 4 4 rfl rfl (fun _ _ _ _ _ _ us hl => match us, hl with | [_, _], _ => rfl)
  obtain ⟨d_l_pick, ⟨F_l_pick, B_l_pick⟩, c_l_pick, hc_l_pick, k_l_pick⟩ := S.fn1 X G (x := "_law_pick") (st := s_l_pick) (ps := ["_law_dice_here", "_law_items"]) 5 5 rfl rfl (fun _ _ _ _ _ _ us hl => match us, hl with | [_, _], _ => rfl)
  obtain ⟨d_rank, ⟨F_rank, B_rank⟩, c_rank, hc_rank, k_rank⟩ := S.fn1 X G (x := "rank") (st := s_rank) (ps := ["text"]) 6 6 rfl rfl (fun _ _ _ _ _ _ us hl => match us, hl with | [_], _ => rfl)
  obtain ⟨d_is_lower, ⟨F_is_lower, B_is_lower⟩, c_is_lower, hc_is_lower, k_is_lower⟩ := S.fn1 X G (x := "is_lower") (st := s_is_lower) (ps := ["text", "most"]) 7 7 rfl rfl (fun _ _ _ _ _ _ us hl => match us, hl with | [_, _], _ => rfl)
  obtain ⟨d_is_terminal, ⟨F_is_terminal, B_is_terminal⟩, c_is_terminal, hc_is_terminal, k_is_terminal⟩ := S.fn1 X G (x := "is_terminal") (st := s_is_terminal) (ps := ["value"]) 8 8 rfl rfl (fun _ _ _ _ _ _ us hl => match us, hl with | [_], _ => rfl)
  obtain ⟨d_is_terminals, ⟨F_is_terminals, B_is_terminals⟩, c_is_terminals, hc_is_terminals, k_is_terminals⟩ := S.fn1 X G (x := "is_terminals") (st := s_is_terminals) (ps := ["value"]) 9 9 rfl rfl (fun _ _ _ _ _ _ us hl => match us, hl with | [_], _ => rfl)
  obtain ⟨d_require_terminals, ⟨F_require_terminals, B_require_terminals⟩, c_require_terminals, hc_require_terminals, k_require_terminals⟩ := S.fn1 X G (x := "require_terminals") (st := s_require_terminals) (ps := ["value"]) 10 10 rfl rfl (fun _ _ _ _ _ _ us hl => match us, hl with | [_], _ => rfl)
  obtain ⟨d_is_before, ⟨F_is_before, B_is_before⟩, c_is_before, hc_is_before, k_is_before⟩ := S.fn1 X G (x := "is_before") (st := s_is_before) (ps := ["one", "other"]) 11 11 rfl rfl (fun _ _ _ _ _ _ us hl => match us, hl with | [_, _], _ => rfl)
  obtain ⟨d_read_terminals, ⟨F_read_terminals, B_read_terminals⟩, c_read_terminals, hc_read_terminals, k_read_terminals⟩ := S.fn1 X G (x := "read_terminals") (st := s_read_terminals) (ps := ["line"]) 12 12 rfl rfl (fun _ _ _ _ _ _ us hl => match us, hl with | [_], _ => rfl)
  obtain ⟨d_write_terminals, ⟨F_write_terminals, B_write_terminals⟩, c_write_terminals, hc_write_terminals, k_write_terminals⟩ := S.fn1 X G (x := "write_terminals") (st := s_write_terminals) (ps := ["text"]) 13 13 rfl rfl (fun _ _ _ _ _ _ us hl => match us, hl with | [_], _ => rfl)
  obtain ⟨d_l_lines_right, ⟨F_l_lines_right, B_l_lines_right⟩, c_l_lines_right, hc_l_lines_right, k_l_lines_right⟩ := S.fn1 X G (x := "_law_lines_right") (st := s_l_lines_right) (ps := ["_law_dice_here", "_law_row_here"]) 14 14 rfl rfl (fun _ _ _ _ _ _ us hl => match us, hl with | [_, _], _ => rfl)
  obtain ⟨d_l_order_right, ⟨F_l_order_right, B_l_order_right⟩, c_l_order_right, hc_l_order_right, k_l_order_right⟩ := S.fn1 X G (x := "_law_order_right") (st := s_l_order_right) (ps := ["_law_row_here", "_law_other"]) 15 15 rfl rfl (fun _ _ _ _ _ _ us hl => match us, hl with | [_, _], _ => rfl)
  obtain ⟨d_l_row, ⟨F_l_row, B_l_row⟩, c_l_row, hc_l_row, k_l_row⟩ := S.fn1 X G (x := "_law_row") (st := s_l_row) (ps := ["_law_dice_here"]) 16 16 rfl rfl (fun _ _ _ _ _ _ us hl => match us, hl with | [_], _ => rfl)
  obtain ⟨d_l_told, ⟨F_l_told, B_l_told⟩, c_l_told, hc_l_told, k_l_told⟩ := S.fn1 X G (x := "_law_told") (st := s_l_told) (ps := ["_law_value"]) 17 17 rfl rfl (fun _ _ _ _ _ _ us hl => match us, hl with | [_], _ => rfl)
  obtain ⟨d_l_word, ⟨F_l_word, B_l_word⟩, c_l_word, hc_l_word, k_l_word⟩ := S.fn1 X G (x := "_law_word") (st := s_l_word) (ps := ["_law_dice_here"]) 18 18 rfl rfl (fun _ _ _ _ _ _ us hl => match us, hl with | [_], _ => rfl)
  obtain ⟨d_is_name, ⟨F_is_name, B_is_name⟩, c_is_name, hc_is_name, k_is_name⟩ := S.fn1 X G (x := "is_name") (st := s_is_name) (ps := ["value"]) 19 19 rfl rfl (fun _ _ _ _ _ _ us hl => match us, hl with | [_], _ => rfl)
  obtain ⟨d_is_nonterminal, ⟨F_is_nonterminal, B_is_nonterminal⟩, c_is_nonterminal, hc_is_nonterminal, k_is_nonterminal⟩ := S.fn1 X G (x := "is_nonterminal") (st := s_is_nonterminal) (ps := ["value"]) 20 20 rfl rfl (fun _ _ _ _ _ _ us hl => match us, hl with | [_], _ => rfl)
  obtain ⟨d_l_right, ⟨F_l_right, B_l_right⟩, c_l_right, hc_l_right, k_l_right⟩ := S.fn1 X G (x := "_law_right") (st := s_l_right) (ps := ["_law_dice_here"]) 21 21 rfl rfl (fun _ _ _ _ _ _ us hl => match us, hl with | [_], _ => rfl)
  obtain ⟨d_law, ⟨F_law, B_law⟩, c_law, hc_law, k_law⟩ := S.fn1 X G (x := "law") (st := s_law) (ps := ["_law_script"]) 22 22 rfl rfl (fun _ _ _ _ _ _ us hl => match us, hl with | [_], _ => rfl)
  refine ⟨{ l_dice := He.ga K "_law_dice", d_l_dice := d_l_dice, l_error := He.ga K "_law_error", d_l_error := d_l_error, l_is_small := He.ga K "_law_is_small", d_l_is_small := d_l_is_small, l_is_told_terminal := He.ga K "_law_is_told_terminal", d_l_is_told_terminal := d_l_is_told_terminal, l_roll := He.ga K "_law_roll", d_l_roll := d_l_roll, l_pick := He.ga K "_law_pick", d_l_pick := d_l_pick, rank := He.ga K "rank", d_rank := d_rank, is_lower := He.ga K "is_lower", d_is_lower := d_is_lower, is_terminal := He.ga K "is_terminal", d_is_terminal := d_is_terminal, is_terminals := He.ga K "is_terminals", d_is_terminals := d_is_terminals, require_terminals := He.ga K "require_terminals", d_require_terminals := d_require_terminals, is_before := He.ga K "is_before", d_is_before := d_is_before, read_terminals := He.ga K "read_terminals", d_read_terminals := d_read_terminals, write_terminals := He.ga K "write_terminals", d_write_terminals := d_write_terminals, l_lines_right := He.ga K "_law_lines_right", d_l_lines_right := d_l_lines_right, l_order_right := He.ga K "_law_order_right", d_l_order_right := d_l_order_right, l_row := He.ga K "_law_row", d_l_row := d_l_row, l_told := He.ga K "_law_told", d_l_told := d_l_told, l_word := He.ga K "_law_word", d_l_word := d_l_word, is_name := He.ga K "is_name", d_is_name := d_is_name, is_nonterminal := He.ga K "is_nonterminal", d_is_nonterminal := d_is_nonterminal, l_right := He.ga K "_law_right", d_l_right := d_l_right, law := He.ga K "law", d_law := d_law, c_l_lines_right := c_l_lines_right, P_l_lines_right := (He.cT K ("_law_lines_right", none)).2, c_l_right := c_l_right, P_l_right := (He.cT K ("_law_right", none)).2, e_InvalidText := He.ga K "InvalidText", e_ParseError := He.ga K "ParseError", j_ParseError := initAt K "ParseError" }, rfl, fun s u => B_law s [u] rfl, by rw [← hc_l_lines_right]; rfl, by rw [← hc_l_right]; rfl, fun base TB => ?_⟩
  exact {
    f_l_dice := F_l_dice
    f_l_error := F_l_error
    f_l_is_small := F_l_is_small
    f_l_is_told_terminal := F_l_is_told_terminal
    f_l_roll := F_l_roll
    f_l_pick := F_l_pick
    f_rank := F_rank
    f_is_lower := F_is_lower
    f_is_terminal := F_is_terminal
    f_is_terminals := F_is_terminals
    f_require_terminals := F_require_terminals
    f_is_before := F_is_before
    f_read_terminals := F_read_terminals
    f_write_terminals := F_write_terminals
    f_l_lines_right := F_l_lines_right
    f_l_order_right := F_l_order_right
    f_l_row := F_l_row
    f_l_told := F_l_told
    f_l_word := F_l_word
    f_is_name := F_is_name
    f_is_nonterminal := F_is_nonterminal
    f_l_right := F_l_right
    f_law := F_law
    k_l_lines_right := k_l_lines_right
    t_l_lines_right := (by have := TB (He.cT K ("_law_lines_right", none)) (List.mem_map.mpr ⟨_, by simp [asked], rfl⟩); rw [show (He.cT K ("_law_lines_right", none)).1 = c_l_lines_right from hc_l_lines_right] at this; exact this)
    k_l_right := k_l_right
    t_l_right := (by have := TB (He.cT K ("_law_right", none)) (List.mem_map.mpr ⟨_, by simp [asked], rfl⟩); rw [show (He.cT K ("_law_right", none)).1 = c_l_right from hc_l_right] at this; exact this)
    c_END := S.str X G 23 rfl
    c_LOWER := S.str X G 24 rfl
    c_MAX_LETTERS := S.int X G 25 rfl
    c_MAX_TAIL := S.int X G 26 rfl
    c_MAX_TEXT := S.int X G 27 rfl
    c_RESERVED := S.tup X G 0 28 rfl rfl
    c_SIGNS := S.str X G 29 rfl
    c_UPPER := S.str X G 30 rfl
    n_abs := S.free X G 31 rfl
    n_all := S.free X G 32 rfl
    n_int := S.free X G 33 rfl
    n_isinstance := S.free X G 34 rfl
    n_len := S.free X G 35 rfl
    n_list := S.free X G 36 rfl
    n_max := S.free X G 37 rfl
    n_min := S.free X G 38 rfl
    n_range := S.free X G 39 rfl
    n_repr := S.free X G 40 rfl
    n_str := S.free X G 41 rfl
    n_tuple := S.free X G 42 rfl
    q_InvalidText := S.erq 44 rfl
    e_InvalidText := S.er1 X G 1 43 rfl rfl
    e_ParseError := S.er1 X G 2 45 rfl rfl
    s_ParseError := sup_ok st_ParseError (S.ini in_ParseError (by simp [asked])) (S.exb 3 rfl)
    x_ParseError_line := fld_ok (S.exb 4 rfl)
    ne_l_lines_right_l_right := (fun z => by have : (!decide ((He.cT K ("_law_lines_right", none)).2 = (He.cT K ("_law_right", none)).2)) = true := S.exb 5 rfl; rw [decide_eq_true z] at this; cases this)
    mt := by
      intro t ht
      simp only [mtab, List.mem_cons, List.not_mem_nil, or_false] at ht
      rcases ht with rfl | rfl | rfl | rfl
      · exact He.exm_ok (S.d.fact 46 (f := .exm "InvalidText" "ParseError" false) rfl)
      · exact He.exm_ok (S.d.fact 47 (f := .exm "InvalidText" "InvalidText" true) rfl)
      · exact He.exm_ok (S.d.fact 48 (f := .exm "ParseError" "ParseError" true) rfl)
      · exact He.exm_ok (S.d.fact 49 (f := .exm "ParseError" "InvalidText" false) rfl) }
theorem room : RoomG 10 callerA := ⟨⟨rfl, by decide, by decide⟩, rfl⟩
end K01
set_option maxHeartbeats 0
open PySem PySem.W PySem.Calls PyProof.Rows
theorem PySem.Challenge.cw_chosentrees_k01_symbols_and_rows_of_term_holds : PySem.Challenge.rw_chosentrees_k01_symbols_and_rows_of_term.Holds := by
  w_on; o_law
  refine HandSHeadRun.head_any (r := K01.R) (q := PySem.W.view K01.R.prog [36]) (H := K01.asked.hook 6) (ob := fun s => K01.asked.obs 6 (HandSHeadRun.getT s)) (M := 6000) (loose := K01.loose) (d := HandSHeadRun.topDef K01.R.prog 36) (kwd := []) (fun _ => Dv.Asked.obs_eq)
    (by kernel_rfl) (fun s => by kernel_rfl) K01.run (by kernel_rfl) (by kernel_rfl) (by kernel_rfl) (by rfl) (by first | assumption | decide +kernel) (by decide +kernel) ⟨rfl, rfl, rfl, rfl, rfl, by decide +kernel⟩ ?hw ?hc
  case hw => w_witness2
  case hc =>
    refine Dv.walk_G (l := PySem.Challenge.rw_chosentrees_k01_symbols_and_rows_of_term) (n := 63) (k := 10) (x := "_law_script") rfl (by decide) (by kernel_rfl) K01.room fun w mg fa h Y G hmg0 => ?_
    obtain ⟨K, X, S⟩ := Y
    obtain ⟨a, e0, bind, e_l_lines_right, e_l_right, hT⟩ := K01.facts S X G
    have hmg : mg ("law" : PySem.Str) = some (.ref fa) := by
      have e : (HandSHeadRun.topDef K01.R.prog 36).name = ("law" : PySem.Str) := by kernel_rfl
      rw [← e]
      exact hmg0
    have hfa : fa = a.law := by
      have := hmg.symm.trans (He.glo_ok X G (S.d.fact 22 rfl))
      rw [e0]
      cases this
      rfl
    subst hfa
    refine ⟨K, a.d_law, K01.asked.tf.map (He.cT K), K01.cm a, K01.tbl a, K01.t_law, X, fun p hp => ?_, fun p hp => ?_, fun p hp => ?_, fun p hp => ?_, bind, fun ns hl δ => K01.law_ok ns δ hl, fun base hb hn TB => K01.ok_law (hT base TB)⟩
    · obtain ⟨z, hz, rfl⟩ := List.mem_map.mp hp
      exact (S.tab z hz).2.2
    · obtain ⟨z, hz, rfl⟩ := List.mem_map.mp hp
      exact (S.tab z hz).2.1
    · obtain ⟨z, hz, rfl⟩ := List.mem_map.mp hp
      exact PySem.W.codeHd_of_K X (S.tab z hz).1
    · simp only [K01.tbl, List.mem_cons, List.not_mem_nil, or_false] at hp
      rcases hp with rfl | rfl
      · exact ⟨He.cT K ("_law_lines_right", none), List.mem_map.mpr ⟨_, by simp [K01.asked], rfl⟩, by rw [← e_l_lines_right]⟩
      · exact ⟨He.cT K ("_law_right", none), List.mem_map.mpr ⟨_, by simp [K01.asked], rfl⟩, by rw [← e_l_right]⟩
