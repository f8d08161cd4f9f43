import PyProof.Rows.All
import Wide.All
import OpenK.AllK
import Wide.FinOn
import HandS.Wide
import HandS.ForMost
import HandS.ForExc
import HandS.IsInst
import HandS.Flow
import HandS.DictComp
import HandS.TupAny
import HandS.Deep
import HandS.More
import HandS.Defaults
import HandS.SortKw
import HandS.Lambda
import HandS.Star
import HandS.ExcInit
import HandS.ExcField
import HandS.ExcIs
import KE.KDictCopyH
import PyProof.P3Eq
import PyProof.NeData
import PyProof.EqKinds
import HandS.TupMul
import PyProof.ReprRoads
import PyProof.CallFns
import KE.DatumOrd
import HandS.NoneIn
import HandS.SetBool
import HandS.Strs
import HandS.SetKeys
import HandS.HeadHook1
import HandS.SetFor
import HandS.Zip
import HandS.HeadHook4
import HandS.ExcValue
import HandS.TupLe
import HandS.Small
import HandS.Head0
import HandS.Head1
import HandS.Head2
import HandS.HeadEnd
import HandS.HeadHook2
import HandS.Ends
import HandS.EndTab
import KE.KNestM
import PySem.Challenge.RW_oncerung_k06_errors_by_class
set_option Elab.async false
set_option linter.all false
set_option maxRecDepth 100000
set_option maxHeartbeats 0
/-! D1: values as trees, how they lie in the abstract heap, owned variables. -/
namespace DL
open PySem PySem.Spec PyProof.Rows L2

abbrev SS := L2.St
/-- a value as a tree -/
inductive D where
  | non | bl (b : Bool) | int (i : Int) | str (x : Str)
  | tup (xs : List D) | lst (xs : List D)
  | dct (kvs : List (D × D))
  | obj (c : Str) (fs : List (Str × D))
  | hnd (n : Nat)
  | scr (ns : List Int)
  | ty (n : String) | gl (x : Str)
  | exc (c : Str) (fs : List (Str × D))
  | adr (a : Addr)
  | ldc (kvs : List (D × D))

/-- a key of a dict -/
def kD : Key → D
  | .inl i => .int i
  | .inr x => .str x

/-- an exception's object at a: its class, its dict -/
def EXO (cls : Value) (dd : Option Addr) (a : Addr) : HO := .ext fun h => ∃ (oe : Obj) (vs : Array Value), h.get? a = some oe ∧ Zc cls dd oe ∧ oe.data = .fields vs
def XF (H : Hp) : Option Addr → List (Str × V) → Prop
  | none, fs => fs = []
  | some p, fs => H p = some (.xd fs)
/-- a key by value: None, a number, a text -/
def lV : Leaf → V
  | .none => .non
  | .num i => .int i
  | .text x => .str x
def lD : Leaf → D
  | .none => .non
  | .num i => .int i
  | .text x => .str x
theorem lV_is {P : Program} {w : World} {k : Leaf} {u : Value} (r : RelV (lV k) u) : (leafKind P w).is k u = true := by
  cases k with
  | none => cases (show u = .none from r); rfl
  | num i => obtain ⟨t, e⟩ := (show ∃ t, u = .int i t from r); subst e; exact decide_eq_true rfl
  | text x => obtain ⟨t, e⟩ := (show ∃ t, u = .str x t from r); subst e; show (x == x) = true; simp
/-- at a: a dict whose keys are None, numbers, texts -/
def LDO (P : Program) (w : World) (a : Addr) (kvs : List (Leaf × V)) : HO := .ext fun h => kvs.length ≤ sizeLine ∧ (a == sysModules) = false ∧ ∃ vs, KV kvs vs ∧ h.DictOf (leafKind P w) a vs
/-- never a table -/
def NT (o : HO) : Prop := ∀ ps, o ≠ .tbl ps
/-- stays for ever: a code object that a table tells -/
def Fix (o : HO) : Prop := ∃ c q, o = LamX.CodeO c q
/-- what is told of an object with fields is not told of a dict -/
theorem ldo_ne {P : Program} {w : World} {a c : Addr} {kvs : List (Leaf × V)} {φ : Heap → Prop} (o : Obj) {us : Array Value} (hd : o.data = .fields us) (hφ : ∀ h : Heap, h.get? c = some o → φ h) : LDO P w a kvs ≠ .ext φ := fun e => by
  unfold LDO at e
  injection e with e
  let h : Heap := { objs := Array.replicate (c + 1) o }
  have look : ∀ b, h.get? b = (match (Array.replicate (c + 1) o)[b]? with | some ⟨_, _, .freed, _⟩ => none | r => r) := fun b => rfl
  have at_ : h.get? c = some o := by
    rw [look, Array.getElem?_replicate, if_pos (Nat.lt_succ_self c)]
    obtain ⟨oc, od, dt, sl⟩ := o
    cases (show dt = .fields us from hd)
    rfl
  have only : ∀ b u, h.get? b = some u → u = o := fun b u hu => by
    rw [look, Array.getElem?_replicate] at hu
    by_cases hb : b < c + 1
    · rw [if_pos hb] at hu
      obtain ⟨oc, od, dt, sl⟩ := o
      cases (show dt = .fields us from hd)
      exact (Option.some.inj hu).symm
    · rw [if_neg hb] at hu
      cases hu
  have l := hφ h at_
  rw [← e] at l
  obtain ⟨_, _, vs, _, ob, es, ep, h1, _, h2, _⟩ := l
  rw [only _ _ h1, hd] at h2
  cases h2
theorem ldo_nf {P : Program} {w : World} {a : Addr} {kvs : List (Leaf × V)} : ¬ Fix (LDO P w a kvs) := fun ⟨c, q, e⟩ =>
  ldo_ne (c := c) { cls := .none, data := .fields #[.none, .str q default] } rfl (fun h e => ⟨_, _, default, e, rfl, rfl⟩) e
theorem exo_nl {P : Program} {w : World} {a b : Addr} {kvs : List (Leaf × V)} {cls : Value} {dd : Option Addr} : EXO cls dd b ≠ LDO P w a kvs := fun e =>
  ldo_ne (c := b) { cls := cls, dict := dd, data := .fields #[] } rfl (fun h e => ⟨_, _, e, ⟨rfl, rfl⟩, rfl⟩) e.symm
/-- the law's world: the written part, the module's names, a resource (footprint F, invariant ok, handles) -/
structure Ctx where
  P : Program
  w : World
  K : PySem.W.Frag
  mg : Str → Option Value
  F : Addr → Prop
  S : Addr → Prop
  Zm : Addr → Prop
  top : Nat
  ok : Nat → Hp → Prop
  ha : Nat → Addr
  ok_mono : ∀ (n m : Nat) (H : Hp), n ≤ m → ok n H → ok m H
  ok_ext : ∀ (n : Nat) (H H' : Hp), ok n H → (∀ b, F b → H' b = H b) → (∀ b o, H b = some o → Fix o ∨ S b → H' b = some o) → (∀ b ps, H' b = some (.tbl ps) → H b = some (.tbl ps)) → ok n H'
  ok_dom : ∀ (n : Nat) (H : Hp) (b : Addr), ok n H → F b → H b ≠ none
  zfresh : ∀ (n : Nat) (H : Hp) (p : Addr), ok n H → H p = none → Zm p
  sdom : ∀ (n : Nat) (H : Hp) (b : Addr), ok n H → S b → H b ≠ none
  tb : ∀ (n : Nat) (H : Hp) (b : Addr) (ps : Array Value), ok n H → H b = some (.tbl ps) → F b
def Ctx.ca (G : Ctx) (x : Str) : Addr := match G.mg x with
  | some (.ref a) => a
  | _ => 0

mutual
inductive Den (G : Ctx) (H : Hp) : V → D → Prop
  | non : Den G H .non .non
  | bl (b : Bool) : Den G H (.bl b) (.bl b)
  | int (i : Int) : Den G H (.int i) (.int i)
  | str (x : Str) : Den G H (.str x) (.str x)
  | tup {a : Addr} {xs : List V} {ds : List D} : SqT G.K H a xs → DenL G H xs ds → Den G H (.ref a) (.tup ds)
  | lst {a : Addr} {xs : List V} {ds : List D} : H a = some (.lst xs) → DenL G H xs ds → Den G H (.ref a) (.lst ds)
  | dct {a : Addr} {kvs : List (Key × V)} {ds : List (D × D)} : Rd H a (.dK kvs) → DenK G H kvs ds → Den G H (.ref a) (.dct ds)
  | obj {a dx : Addr} {c : Str} {fs : List (Str × V)} {ds : List (Str × D)} : H a = some (.ins (G.ca c) dx fs) → DenF G H fs ds → Den G H (.ref a) (.obj c ds)
  | hnd (n : Nat) : Den G H (.ref (G.ha n)) (.hnd n)
  | scr {a : Addr} {ns : List Int} : SqL G.K H a (ns.map V.int) → Den G H (.ref a) (.scr ns)
  | ty (n : String) : Den G H (.ty n) (.ty n)
  | gl {x : Str} {a : Addr} : G.mg x = some (.ref a) → Den G H (.ref a) (.gl x)
  | exc {a : Addr} {dd : Option Addr} {c : Str} {fs : List (Str × V)} {ds : List (Str × D)} : H a = some (EXO (.ref (G.ca c)) dd a) → XF H dd fs → DenF G H fs ds → Den G H (.ref a) (.exc c ds)
  | adr (a : Addr) : Den G H (.ref a) (.adr a)
  | ldc {a : Addr} {kvs : List (Leaf × V)} {ds : List (D × D)} : H a = some (LDO G.P G.w a kvs) → DenM G H kvs ds → Den G H (.ref a) (.ldc ds)
inductive DenL (G : Ctx) (H : Hp) : List V → List D → Prop
  | nil : DenL G H [] []
  | cons {v : V} {vs : List V} {d : D} {ds : List D} : Den G H v d → DenL G H vs ds → DenL G H (v :: vs) (d :: ds)
inductive DenK (G : Ctx) (H : Hp) : List (Key × V) → List (D × D) → Prop
  | nil : DenK G H [] []
  | cons {k : Key} {v : V} {vs : List (Key × V)} {d : D} {ds : List (D × D)} : Den G H v d → DenK G H vs ds → DenK G H ((k, v) :: vs) ((kD k, d) :: ds)
inductive DenM (G : Ctx) (H : Hp) : List (Leaf × V) → List (D × D) → Prop
  | nil : DenM G H [] []
  | cons {k : Leaf} {v : V} {vs : List (Leaf × V)} {d : D} {ds : List (D × D)} : Den G H v d → DenM G H vs ds → DenM G H ((k, v) :: vs) ((lD k, d) :: ds)
inductive DenF (G : Ctx) (H : Hp) : List (Str × V) → List (Str × D) → Prop
  | nil : DenF G H [] []
  | cons {f : Str} {v : V} {vs : List (Str × V)} {d : D} {ds : List (Str × D)} : Den G H v d → DenF G H vs ds → DenF G H ((f, v) :: vs) ((f, d) :: ds)
end

/-- what H holds, H' holds -/
abbrev Sub (H H' : Hp) : Prop := ∀ b o, H b = some o → H' b = some o
theorem Rd.sub {H H' : Hp} {a : Addr} {u : HO} (s : Sub H H') (h : Rd H a u) : Rd H' a u := by
  rcases h with h | ⟨o, h⟩
  · exact .inl (s _ _ h)
  · exact .inr ⟨o, s _ _ h⟩
theorem XF.sub {H H' : Hp} (s : Sub H H') : ∀ {dd : Option Addr} {fs : List (Str × V)}, XF H dd fs → XF H' dd fs
  | none, _, h => h
  | some _, _, h => s _ _ h
theorem SqT.sub {K : PySem.W.Frag} {H H' : Hp} {a : Addr} {xs : List V} (s : Sub H H') (h : SqT K H a xs) : SqT K H' a xs := by
  rcases h with h | h
  · exact .inl (Rd.sub s h)
  · exact .inr h
theorem SqL.sub {K : PySem.W.Frag} {H H' : Hp} {a : Addr} {xs : List V} (s : Sub H H') (h : SqL K H a xs) : SqL K H' a xs := by
  rcases h with h | h
  · exact .inl (Rd.sub s h)
  · exact .inr h
mutual
theorem Den.sub {G : Ctx} {H H' : Hp} (s : Sub H H') : ∀ {v : V} {d : D}, Den G H v d → Den G H' v d
  | _, _, .non => .non
  | _, _, .bl b => .bl b
  | _, _, .int i => .int i
  | _, _, .str x => .str x
  | _, _, .tup h r => .tup (SqT.sub s h) (DenL.sub s r)
  | _, _, .lst h r => .lst (s _ _ h) (DenL.sub s r)
  | _, _, .dct h r => .dct (Rd.sub s h) (DenK.sub s r)
  | _, _, .obj h r => .obj (s _ _ h) (DenF.sub s r)
  | _, _, .hnd n => .hnd n
  | _, _, .scr h => .scr (SqL.sub s h)
  | _, _, .ty n => .ty n
  | _, _, .gl h => .gl h
  | _, _, .exc h x r => .exc (s _ _ h) (x.sub s) (DenF.sub s r)
  | _, _, .adr a => .adr a
  | _, _, .ldc h r => .ldc (s _ _ h) (DenM.sub s r)
theorem DenL.sub {G : Ctx} {H H' : Hp} (s : Sub H H') : ∀ {vs : List V} {ds : List D}, DenL G H vs ds → DenL G H' vs ds
  | _, _, .nil => .nil
  | _, _, .cons h r => .cons (Den.sub s h) (DenL.sub s r)
theorem DenK.sub {G : Ctx} {H H' : Hp} (s : Sub H H') : ∀ {vs : List (Key × V)} {ds : List (D × D)}, DenK G H vs ds → DenK G H' vs ds
  | _, _, .nil => .nil
  | _, _, .cons h r => .cons (Den.sub s h) (DenK.sub s r)
theorem DenM.sub {G : Ctx} {H H' : Hp} (s : Sub H H') : ∀ {vs : List (Leaf × V)} {ds : List (D × D)}, DenM G H vs ds → DenM G H' vs ds
  | _, _, .nil => .nil
  | _, _, .cons h r => .cons (Den.sub s h) (DenM.sub s r)
theorem DenF.sub {G : Ctx} {H H' : Hp} (s : Sub H H') : ∀ {vs : List (Str × V)} {ds : List (Str × D)}, DenF G H vs ds → DenF G H' vs ds
  | _, _, .nil => .nil
  | _, _, .cons h r => .cons (Den.sub s h) (DenF.sub s r)
end

open Classical in
/-- H without the addresses in Z -/
noncomputable def hid (H : Hp) (Z : Addr → Prop) : Hp := fun a => if Z a then none else H a
theorem hid_some {H : Hp} {Z : Addr → Prop} {a : Addr} {o : HO} : hid H Z a = some o ↔ ¬ Z a ∧ H a = some o := by
  unfold hid
  by_cases h : Z a
  · rw [if_pos h]
    exact ⟨fun q => (by cases q), fun q => absurd h q.1⟩
  · rw [if_neg h]
    exact ⟨fun q => ⟨h, q⟩, fun q => q.2⟩
theorem hid_sub {H : Hp} {Z : Addr → Prop} : Sub (hid H Z) H := fun _ _ h => (hid_some.mp h).2

/-- a slot: not assigned, or (is it owned, its value) -/
abbrev DEnv := List (Option (Bool × D))
def Own (σ : SS) (env : DEnv) (a : Addr) : Prop := ∃ (i : Nat) (d : D), env[i]? = some (some (true, d)) ∧ σ[i]? = some (some (.ref a))
def Hz (σ : SS) (env : DEnv) (Z : Addr → Prop) (a : Addr) : Prop := Own σ env a ∨ Z a
/-- a fresh object's content -/
def RootO (G : Ctx) (H : Hp) (a : Addr) (o : HO) : D → Prop
  | .lst ds => ∃ xs, o = .lst xs ∧ DenL G H xs ds
  | .dct ds => ∃ kvs, o = .dK kvs ∧ DenK G H kvs ds
  | .obj c ds => ∃ dx fs, o = .ins (G.ca c) dx fs ∧ DenF G H fs ds
  | .ldc ds => ∃ kvs, o = LDO G.P G.w a kvs ∧ DenM G H kvs ds
  | _ => False
theorem RootO.sub {G : Ctx} {H H' : Hp} {a : Addr} {o : HO} (s : Sub H H') : ∀ {d : D}, RootO G H a o d → RootO G H' a o d
  | .lst _, ⟨xs, e, r⟩ => ⟨xs, e, r.sub s⟩
  | .dct _, ⟨xs, e, r⟩ => ⟨xs, e, r.sub s⟩
  | .obj _ _, ⟨dx, fs, e, r⟩ => ⟨dx, fs, e, r.sub s⟩
  | .ldc _, ⟨kvs, e, r⟩ => ⟨kvs, e, r.sub s⟩
  | .non, h => h.elim
  | .bl _, h => h.elim
  | .int _, h => h.elim
  | .str _, h => h.elim
  | .tup _, h => h.elim
  | .hnd _, h => h.elim
  | .scr _, h => h.elim
  | .ty _, h => h.elim
  | .gl _, h => h.elim
  | .exc _ _, h => h.elim
  | .adr _, h => h.elim
theorem RootO.den {G : Ctx} {H : Hp} {o : HO} {a : Addr} (e : H a = some o) : ∀ {d : D}, RootO G H a o d → Den G H (.ref a) d
  | .lst _, ⟨xs, eo, r⟩ => .lst (eo ▸ e) r
  | .dct _, ⟨xs, eo, r⟩ => .dct (.inl (eo ▸ e)) r
  | .obj _ _, ⟨dx, fs, eo, r⟩ => .obj (eo ▸ e) r
  | .ldc _, ⟨kvs, eo, r⟩ => .ldc (eo ▸ e) r
  | .non, h => h.elim
  | .bl _, h => h.elim
  | .int _, h => h.elim
  | .str _, h => h.elim
  | .tup _, h => h.elim
  | .hnd _, h => h.elim
  | .scr _, h => h.elim
  | .ty _, h => h.elim
  | .gl _, h => h.elim
  | .exc _ _, h => h.elim
  | .adr _, h => h.elim
theorem RootO.nf {G : Ctx} {H : Hp} {a : Addr} {o : HO} {d : D} (h : RootO G H a o d) : ¬ Fix o ∧ NT o := by
  have go : (∃ xs, o = .lst xs) ∨ (∃ kvs, o = .dK kvs) ∨ (∃ C dx fs, o = .ins C dx fs) ∨ (∃ kvs, o = LDO G.P G.w a kvs) := by
    cases d <;> first
      | exact h.elim
      | (obtain ⟨xs, e, _⟩ := h; exact .inl ⟨_, e⟩)
      | (obtain ⟨xs, e, _⟩ := h; exact .inr (.inl ⟨_, e⟩))
      | (obtain ⟨dx, fs, e, _⟩ := h; exact .inr (.inr (.inl ⟨_, _, _, e⟩)))
      | (obtain ⟨xs, e, _⟩ := h; exact .inr (.inr (.inr ⟨_, e⟩)))
  rcases go with ⟨xs, rfl⟩ | ⟨kvs, rfl⟩ | ⟨C, dx, fs, rfl⟩ | ⟨kvs, rfl⟩
  · exact ⟨fun ⟨c, q, e⟩ => (by cases e), fun ps e => (by cases e)⟩
  · exact ⟨fun ⟨c, q, e⟩ => (by cases e), fun ps e => (by cases e)⟩
  · exact ⟨fun ⟨c, q, e⟩ => (by cases e), fun ps e => (by cases e)⟩
  · exact ⟨ldo_nf, fun ps e => (by unfold LDO at e; cases e)⟩

structure ER (G : Ctx) (T : Nat) (Z : Addr → Prop) (σ : SS) (H : Hp) (env : DEnv) : Prop where
  len : env.length = σ.length
  low : ∀ (i : Nat) (d : D), env[i]? = some (some (false, d)) → ∃ v, σ[i]? = some (some v) ∧ Den G (hid H (Hz σ env Z)) v d
  own : ∀ (i : Nat) (d : D), env[i]? = some (some (true, d)) → ∃ a o, σ[i]? = some (some (.ref a)) ∧ ¬ Z a ∧ H a = some o ∧ RootO G (hid H (Hz σ env Z)) a o d
  inj : ∀ (i j : Nat) (a : Addr) (d e : D), env[i]? = some (some (true, d)) → env[j]? = some (some (true, e)) → σ[i]? = some (some (.ref a)) → σ[j]? = some (some (.ref a)) → i = j
  zf : ∀ a, G.F a → Z a
  zd : ∀ a, Z a → H a ≠ none
  ok : G.ok T H
  os : ∀ (i : Nat) (a : Addr) (d : D), env[i]? = some (some (true, d)) → σ[i]? = some (some (.ref a)) → ¬ G.S a ∧ G.Zm a
  zm : ∀ a, Z a → G.Zm a
def ZOk (G : Ctx) (Z : Addr → Prop) : Prop := (∀ a, G.F a → Z a) ∧ ∀ a, Z a → G.Zm a
/-- all that is neither the resource's nor owned is kept, and not owned -/
def Keep (G : Ctx) (σ : SS) (env : DEnv) (H : Hp) (σ' : SS) (env' : DEnv) (H' : Hp) : Prop :=
  ∀ b o, ¬ G.F b → ¬ Own σ env b → H b = some o → H' b = some o ∧ ¬ Own σ' env' b
section
variable {G : Ctx} {T m : Nat} {Z : Addr → Prop} {σ σ' σ2 : SS} {H H' H2 : Hp} {env env' env2 : DEnv}
theorem Keep.refl : Keep G σ env H σ env H := fun _ _ _ n h => ⟨h, n⟩
theorem Keep.trans (a : Keep G σ env H σ' env' H') (b : Keep G σ' env' H' σ2 env2 H2) : Keep G σ env H σ2 env2 H2 := fun c o f n h =>
  let ⟨h1, n1⟩ := a c o f n h
  b c o f n1 h1
theorem Keep.sub (k : Keep G σ env H σ' env' H') (e : ER G T Z σ H env) : Sub (hid H (Hz σ env Z)) (hid H' (Hz σ' env' Z)) := fun b o h => by
  obtain ⟨n, h⟩ := hid_some.mp h
  have nz : ¬ Z b := fun z => n (.inr z)
  obtain ⟨h', n'⟩ := k b o (fun f => nz (e.zf b f)) (fun z => n (.inl z)) h
  exact hid_some.mpr ⟨fun q => q.elim n' nz, h'⟩

/-- the slots are weakened: an owned variable is shared from now on -/
theorem own_sub_disown {i : Nat} {d : D} {a : Addr} (h : Own σ (env.set i (some (false, d))) a) : Own σ env a := by
  obtain ⟨j, e, h1, h2⟩ := h
  by_cases hj : i = j
  · subst hj
    by_cases hl : i < env.length
    · rw [List.getElem?_set_self hl] at h1
      cases h1
    · rw [List.getElem?_eq_none (by rw [List.length_set]; omega)] at h1
      cases h1
  · rw [List.getElem?_set_ne hj] at h1
    exact ⟨j, e, h1, h2⟩
theorem ER.disown (R : ER G T Z σ H env) {i : Nat} {d : D} (h : env[i]? = some (some (true, d))) : ER G T Z σ H (env.set i (some (false, d))) ∧ Keep G σ env H σ (env.set i (some (false, d))) H ∧
    ∃ a, σ[i]? = some (some (.ref a)) ∧ Den G (hid H (Hz σ (env.set i (some (false, d))) Z)) (.ref a) d := by
  have hl : i < env.length := (List.getElem?_eq_some_iff.mp h).1
  have K : Keep G σ env H σ (env.set i (some (false, d))) H := fun b o f n hb => ⟨hb, fun z => n (own_sub_disown z)⟩
  have s := K.sub R
  obtain ⟨a, o, h1, h2, h3, h4⟩ := R.own i d h
  have na : ¬ Own σ (env.set i (some (false, d))) a := fun ⟨j, e, q1, q2⟩ => by
    by_cases hj : i = j
    · subst hj
      rw [List.getElem?_set_self hl] at q1
      cases q1
    · rw [List.getElem?_set_ne hj] at q1
      exact hj (R.inj i j a d e h q1 h1 q2)
  have da : Den G (hid H (Hz σ (env.set i (some (false, d))) Z)) (.ref a) d := (h4.sub s).den (hid_some.mpr ⟨fun q => q.elim na h2, h3⟩)
  refine ⟨⟨by rw [List.length_set]; exact R.len, fun j e q => ?_, fun j e q => ?_, fun j k b e f q1 q2 q3 q4 => ?_, R.zf, R.zd, R.ok, fun j b e q1 q2 => ?_, R.zm⟩, K, a, h1, da⟩
  · by_cases hj : i = j
    · subst hj
      rw [List.getElem?_set_self hl] at q
      cases q
      exact ⟨_, h1, da⟩
    · rw [List.getElem?_set_ne hj] at q
      obtain ⟨v, g1, g2⟩ := R.low j e q
      exact ⟨v, g1, g2.sub s⟩
  · by_cases hj : i = j
    · subst hj
      rw [List.getElem?_set_self hl] at q
      cases q
    · rw [List.getElem?_set_ne hj] at q
      obtain ⟨b, u, g1, g2, g3, g4⟩ := R.own j e q
      exact ⟨b, u, g1, g2, g3, g4.sub s⟩
  · by_cases hj : i = j
    · subst hj
      rw [List.getElem?_set_self hl] at q1
      cases q1
    · rw [List.getElem?_set_ne hj] at q1
      by_cases hk : i = k
      · subst hk
        rw [List.getElem?_set_self hl] at q2
        cases q2
      · rw [List.getElem?_set_ne hk] at q2
        exact R.inj j k b e f q1 q2 q3 q4
  · by_cases hj : i = j
    · subst hj
      rw [List.getElem?_set_self hl] at q1
      cases q1
    · rw [List.getElem?_set_ne hj] at q1
      exact R.os j b e q1 q2

/-- a new object is laid -/
theorem own_some (R : ER G T Z σ H env) {a : Addr} (h : Own σ env a) : H a ≠ none := by
  obtain ⟨i, d, h1, h2⟩ := h
  obtain ⟨b, o, g1, g2, g3, g4⟩ := R.own i d h1
  rw [h2] at g1
  cases g1
  rw [g3]
  exact fun z => by cases z
theorem ER.grow (R : ER G T Z σ H env) (s : ∀ b o, ¬ G.F b → H b = some o → H' b = some o) (ok : G.ok m H') : ER G m Z σ H' env ∧ Keep G σ env H σ env H' := by
  have K : Keep G σ env H σ env H' := fun b o f n hb => ⟨s b o f hb, n⟩
  have ss := K.sub R
  refine ⟨⟨R.len, fun i d h => ?_, fun i d h => ?_, R.inj, R.zf, fun a z => ?_, ok, R.os, R.zm⟩, K⟩
  · obtain ⟨v, g1, g2⟩ := R.low i d h
    exact ⟨v, g1, g2.sub ss⟩
  · obtain ⟨a, o, g1, g2, g3, g4⟩ := R.own i d h
    exact ⟨a, o, g1, g2, s a o (fun f => g2 (R.zf a f)) g3, g4.sub ss⟩
  · by_cases f : G.F a
    · exact G.ok_dom _ H' a ok f
    · cases e : H a with
      | none => exact absurd e (R.zd a z)
      | some o =>
        rw [s a o f e]
        exact fun z => by cases z
theorem upd_fix {H : Hp} {p : Addr} {o : HO} {S : Addr → Prop} (hp : H p = none) : ∀ b u, H b = some u → Fix u ∨ S b → upd H p o b = some u := fun b u h _ => by
  rw [upd_ne (ne_of_none h hp)]
  exact h
theorem upd_tb {H : Hp} {p : Addr} {o : HO} (ho : NT o) : ∀ b ps, upd H p o b = some (.tbl ps) → H b = some (.tbl ps) := fun b ps h => by
  by_cases e : b = p
  · rw [e, upd_same] at h
    exact absurd (Option.some.inj h) (ho ps)
  · rw [upd_ne e] at h
    exact h
theorem ER.alloc (R : ER G T Z σ H env) {p : Addr} {o : HO} (hp : H p = none) (ho : NT o) : ER G T Z σ (upd H p o) env ∧ Keep G σ env H σ env (upd H p o) ∧ hid (upd H p o) (Hz σ env Z) p = some o := by
  have s : Sub H (upd H p o) := fun b u h => by
    rw [upd_ne (ne_of_none h hp)]
    exact h
  obtain ⟨R', K⟩ := R.grow (fun b u _ h => s b u h) (G.ok_ext _ H _ R.ok (fun b f => by
    refine upd_ne fun z => ?_
    subst z
    exact G.ok_dom _ H b R.ok f hp) (upd_fix hp) (upd_tb ho))
  refine ⟨R', K, hid_some.mpr ⟨fun q => ?_, upd_same⟩⟩
  rcases q with q | q
  · exact own_some R q hp
  · exact R.zd p q hp

/-- a slot is given a value -/
theorem own_sub_set {i : Nat} {v : V} {d : D} {a : Addr} (hl : i < env.length) (h : Own (σ.set i (some v)) (env.set i (some (false, d))) a) : Own σ env a := by
  obtain ⟨j, e, h1, h2⟩ := h
  by_cases hj : i = j
  · subst hj
    rw [List.getElem?_set_self hl] at h1
    cases h1
  · rw [List.getElem?_set_ne hj] at h1 h2
    exact ⟨j, e, h1, h2⟩
theorem ER.set (R : ER G T Z σ H env) {i : Nat} {v : V} {d : D} (hl : i < env.length) (hd : Den G (hid H (Hz σ env Z)) v d) :
    ER G T Z (σ.set i (some v)) H (env.set i (some (false, d))) ∧ Keep G σ env H (σ.set i (some v)) (env.set i (some (false, d))) H := by
  have K : Keep G σ env H (σ.set i (some v)) (env.set i (some (false, d))) H := fun b o f n hb => ⟨hb, fun z => n (own_sub_set hl z)⟩
  have s := K.sub R
  have hlσ : i < σ.length := R.len ▸ hl
  refine ⟨⟨by rw [List.length_set, List.length_set]; exact R.len, fun j e q => ?_, fun j e q => ?_, fun j k b e f q1 q2 q3 q4 => ?_, R.zf, R.zd, R.ok, fun j b e q1 q2 => ?_, R.zm⟩, K⟩
  · by_cases hj : i = j
    · subst hj
      rw [List.getElem?_set_self hl] at q
      cases q
      exact ⟨v, List.getElem?_set_self hlσ, hd.sub s⟩
    · rw [List.getElem?_set_ne hj] at q
      obtain ⟨u, g1, g2⟩ := R.low j e q
      exact ⟨u, by rw [List.getElem?_set_ne hj]; exact g1, g2.sub s⟩
  · by_cases hj : i = j
    · subst hj
      rw [List.getElem?_set_self hl] at q
      cases q
    · rw [List.getElem?_set_ne hj] at q
      obtain ⟨b, u, g1, g2, g3, g4⟩ := R.own j e q
      exact ⟨b, u, by rw [List.getElem?_set_ne hj]; exact g1, g2, g3, g4.sub s⟩
  · by_cases hj : i = j
    · subst hj
      rw [List.getElem?_set_self hl] at q1
      cases q1
    · rw [List.getElem?_set_ne hj] at q1 q3
      by_cases hk : i = k
      · subst hk
        rw [List.getElem?_set_self hl] at q2
        cases q2
      · rw [List.getElem?_set_ne hk] at q2 q4
        exact R.inj j k b e f q1 q2 q3 q4
  · by_cases hj : i = j
    · subst hj
      rw [List.getElem?_set_self hl] at q1
      cases q1
    · rw [List.getElem?_set_ne hj] at q1 q2
      exact R.os j b e q1 q2
/-- a slot is given a new object, which it owns -/
theorem ER.setNew (R : ER G T Z σ H env) {i : Nat} {p : Addr} {o : HO} {d : D} (hl : i < env.length) (hp : H p = none) (hd : RootO G (hid H (Hz σ env Z)) p o d) :
    ER G T Z (σ.set i (some (.ref p))) (upd H p o) (env.set i (some (true, d))) ∧ Keep G σ env H (σ.set i (some (.ref p))) (env.set i (some (true, d))) (upd H p o) := by
  have hlσ : i < σ.length := R.len ▸ hl
  have sH : Sub H (upd H p o) := fun b u h => by
    rw [upd_ne (ne_of_none h hp)]
    exact h
  have ow : ∀ b, Own (σ.set i (some (.ref p))) (env.set i (some (true, d))) b → b = p ∨ Own σ env b := fun b ⟨j, e, h1, h2⟩ => by
    by_cases hj : i = j
    · subst hj
      rw [List.getElem?_set_self hlσ] at h2
      cases h2
      exact .inl rfl
    · rw [List.getElem?_set_ne hj] at h1 h2
      exact .inr ⟨j, e, h1, h2⟩
  have K : Keep G σ env H (σ.set i (some (.ref p))) (env.set i (some (true, d))) (upd H p o) := fun b u f n hb => ⟨sH b u hb, fun z => by
    rcases ow b z with z | z
    · rw [z, hp] at hb
      cases hb
    · exact n z⟩
  have s := K.sub R
  have nzp : ¬ Z p := fun z => R.zd p z hp
  refine ⟨⟨by rw [List.length_set, List.length_set]; exact R.len, fun j e q => ?_, fun j e q => ?_, fun j k b e f q1 q2 q3 q4 => ?_, R.zf, fun a z h => ?_, ?_, fun j b e q1 q2 => ?_, R.zm⟩, K⟩
  · by_cases hj : i = j
    · subst hj
      rw [List.getElem?_set_self hl] at q
      cases q
    · rw [List.getElem?_set_ne hj] at q
      obtain ⟨u, g1, g2⟩ := R.low j e q
      exact ⟨u, by rw [List.getElem?_set_ne hj]; exact g1, g2.sub s⟩
  · by_cases hj : i = j
    · subst hj
      rw [List.getElem?_set_self hl] at q
      cases q
      exact ⟨p, o, List.getElem?_set_self hlσ, nzp, upd_same, hd.sub s⟩
    · rw [List.getElem?_set_ne hj] at q
      obtain ⟨b, u, g1, g2, g3, g4⟩ := R.own j e q
      exact ⟨b, u, by rw [List.getElem?_set_ne hj]; exact g1, g2, sH _ _ g3, g4.sub s⟩
  · have np : ∀ j e, i ≠ j → (env.set i (some (true, d)))[j]? = some (some (true, e)) → (σ.set i (some (.ref p)))[j]? ≠ some (some (.ref p)) := fun j e hj g1 g2 => by
      rw [List.getElem?_set_ne hj] at g1 g2
      exact own_some R ⟨j, e, g1, g2⟩ hp
    by_cases hj : i = j
    · subst hj
      rw [List.getElem?_set_self hlσ] at q3
      cases q3
      by_cases hk : i = k
      · exact hk
      · exact absurd q4 (np k f hk q2)
    · by_cases hk : i = k
      · subst hk
        rw [List.getElem?_set_self hlσ] at q4
        cases q4
        exact absurd q3 (np j e hj q1)
      · rw [List.getElem?_set_ne hj] at q1 q3
        rw [List.getElem?_set_ne hk] at q2 q4
        exact R.inj j k b e f q1 q2 q3 q4
  · have q := sH
    cases e : H a with
    | none => exact R.zd a z e
    | some u =>
      rw [sH a u e] at h
      cases h
  · exact G.ok_ext _ H _ R.ok (fun b f => upd_ne fun z => by
      subst z
      exact G.ok_dom _ H b R.ok f hp) (upd_fix hp) (upd_tb hd.nf.2)
  · by_cases hj : i = j
    · subst hj
      rw [List.getElem?_set_self hlσ] at q2
      cases q2
      exact ⟨fun z => G.sdom _ H _ R.ok z hp, G.zfresh _ H _ R.ok hp⟩
    · rw [List.getElem?_set_ne hj] at q1 q2
      exact R.os j b e q1 q2
/-- an owned object is changed -/
theorem ER.mut (R : ER G T Z σ H env) {i : Nat} {a : Addr} {o : HO} {d e : D} (h : env[i]? = some (some (true, d))) (ha : σ[i]? = some (some (.ref a))) (hd : RootO G (hid H (Hz σ env Z)) a o e) :
    ER G T Z σ (upd H a o) (env.set i (some (true, e))) ∧ Keep G σ env H σ (env.set i (some (true, e))) (upd H a o) := by
  have hl : i < env.length := (List.getElem?_eq_some_iff.mp h).1
  obtain ⟨a', o', h1, h2, h3, h4⟩ := R.own i d h
  rw [ha] at h1
  cases h1
  have ow : ∀ b, Own σ (env.set i (some (true, e))) b → Own σ env b := fun b ⟨j, f, g1, g2⟩ => by
    by_cases hj : i = j
    · subst hj
      exact ⟨i, d, h, g2⟩
    · rw [List.getElem?_set_ne hj] at g1
      exact ⟨j, f, g1, g2⟩
  have K : Keep G σ env H σ (env.set i (some (true, e))) (upd H a o) := fun b u f n hb => ⟨by
    rw [upd_ne fun z => n (by rw [z]; exact ⟨i, d, h, ha⟩)]
    exact hb, fun z => n (ow b z)⟩
  have s := K.sub R
  refine ⟨⟨by rw [List.length_set]; exact R.len, fun j f q => ?_, fun j f q => ?_, fun j k b f g q1 q2 q3 q4 => ?_, R.zf, fun b z => ?_, ?_, fun j b f q1 q2 => ?_, R.zm⟩, K⟩
  · by_cases hj : i = j
    · subst hj
      rw [List.getElem?_set_self hl] at q
      cases q
    · rw [List.getElem?_set_ne hj] at q
      obtain ⟨u, g1, g2⟩ := R.low j f q
      exact ⟨u, g1, g2.sub s⟩
  · by_cases hj : i = j
    · subst hj
      rw [List.getElem?_set_self hl] at q
      cases q
      exact ⟨a, o, ha, h2, upd_same, hd.sub s⟩
    · rw [List.getElem?_set_ne hj] at q
      obtain ⟨b, u, g1, g2, g3, g4⟩ := R.own j f q
      refine ⟨b, u, g1, g2, ?_, g4.sub s⟩
      rw [upd_ne fun z => ?_]
      · exact g3
      · subst z
        exact hj (R.inj i j b d f h q ha g1)
  · have back : ∀ j f, (env.set i (some (true, e)))[j]? = some (some (true, f)) → ∃ f', env[j]? = some (some (true, f')) := fun j f g => by
      by_cases hj : i = j
      · subst hj
        exact ⟨d, h⟩
      · rw [List.getElem?_set_ne hj] at g
        exact ⟨f, g⟩
    obtain ⟨f', e1⟩ := back j f q1
    obtain ⟨g', e2⟩ := back k g q2
    exact R.inj j k b f' g' e1 e2 q3 q4
  · by_cases hb : b = a
    · subst hb
      exact absurd z h2
    · rw [upd_ne hb]
      exact R.zd b z
  · exact G.ok_ext _ H _ R.ok (fun b f => upd_ne fun z => by
      subst z
      exact h2 (R.zf b f)) (fun b u q f => by
      rw [upd_ne fun z => by
        rw [z] at q f
        rw [h3] at q
        exact f.elim (fun f => h4.nf.1 (Option.some.inj q ▸ f)) (R.os i a d h ha).1]
      exact q) (upd_tb hd.nf.2)
  · by_cases hj : i = j
    · subst hj
      rw [ha] at q2
      cases q2
      exact R.os i a d h ha
    · rw [List.getElem?_set_ne hj] at q1
      exact R.os j b f q1 q2
end
end DL

/-! D2: readings over values lifted to readings over the heap. -/
namespace DL
open PySem PySem.Spec PyProof.Rows L2

/-- an exception of an own class, with its fields -/
structure XD where
  c : Str
  v : List (Str × D) := []
def XDen (G : Ctx) (H : Hp) (cls : Value) (dd : Option Addr) (x : XD) : Prop :=
  cls = .ref (G.ca x.c) ∧ ∃ fs, XF H dd fs ∧ DenF G H fs x.v
theorem XDen.sub {G : Ctx} {H H' : Hp} {cls : Value} {dd : Option Addr} {x : XD} (s : Sub H H') (h : XDen G H cls dd x) : XDen G H' cls dd x :=
  ⟨h.1, let ⟨fs, a, b⟩ := h.2; ⟨fs, a.sub s, b.sub s⟩⟩

/-- only new things, and the resource -/
structure Grow (G : Ctx) (m : Nat) (H H' : Hp) : Prop where
  to : ∀ b o, ¬ G.F b → H b = some o → H' b = some o
  ok : G.ok m H'
theorem Grow.le {G : Ctx} {n m : Nat} {H H1 : Hp} (a : Grow G n H H1) (h : n ≤ m) : Grow G m H H1 := ⟨a.to, G.ok_mono _ _ _ h a.ok⟩
theorem Grow.trans {G : Ctx} {n m : Nat} {H H1 H2 : Hp} (a : Grow G n H H1) (b : Grow G m H1 H2) : Grow G m H H2 := ⟨fun c o f h => b.to c o f (a.to c o f h), b.ok⟩
/-- owned by a slot that is not in al -/
def OwnX (σ : SS) (env : DEnv) (al : List Nat) (a : Addr) : Prop := ∃ (i : Nat) (d : D), i ∉ al ∧ env[i]? = some (some (true, d)) ∧ σ[i]? = some (some (.ref a))
def Hx (σ : SS) (env : DEnv) (al : List Nat) (Z : Addr → Prop) (a : Addr) : Prop := OwnX σ env al a ∨ Z a
noncomputable abbrev Vw (H : Hp) (σ : SS) (env : DEnv) (al : List Nat) (Z : Addr → Prop) : Hp := hid H (Hx σ env al Z)
section
variable {G : Ctx} {T m : Nat} {Z : Addr → Prop} {σ : SS} {H H' : Hp} {env : DEnv} {al al' : List Nat}
theorem ownX_nil {a : Addr} : OwnX σ env [] a ↔ Own σ env a := ⟨fun ⟨i, d, _, h1, h2⟩ => ⟨i, d, h1, h2⟩, fun ⟨i, d, h1, h2⟩ => ⟨i, d, List.not_mem_nil, h1, h2⟩⟩
theorem OwnX.own {a : Addr} (h : OwnX σ env al a) : Own σ env a := let ⟨i, d, _, h1, h2⟩ := h; ⟨i, d, h1, h2⟩
theorem hx_nil : Hx σ env [] Z = Hz σ env Z := by
  funext a
  exact propext ⟨fun h => h.elim (fun q => .inl (ownX_nil.mp q)) .inr, fun h => h.elim (fun q => .inl (ownX_nil.mpr q)) .inr⟩
theorem vw_nil : Vw H σ env [] Z = hid H (Hz σ env Z) := by unfold Vw; rw [hx_nil]
theorem ER.zok (R : ER G T Z σ H env) : ZOk G (Hx σ env al Z) := ⟨fun a f => .inr (R.zf a f), fun a z => z.elim (fun ⟨i, d, _, h1, h2⟩ => (R.os i a d h1 h2).2) (R.zm a)⟩
theorem ER.growG (R : ER G T Z σ H env) (g : Grow G m H H') : ER G m Z σ H' env := (R.grow g.to g.ok).1
theorem ER.self (R : ER G T Z σ H env) : Grow G T H H := ⟨fun _ _ _ h => h, R.ok⟩
theorem vw_sub (R : ER G T Z σ H env) (g : Grow G m H H') (s : ∀ i ∈ al, i ∈ al') : Sub (Vw H σ env al Z) (Vw H' σ env al' Z) := fun b o h => by
  obtain ⟨n, h⟩ := hid_some.mp h
  refine hid_some.mpr ⟨fun q => n ?_, g.to b o (fun f => n (.inr (R.zf b f))) h⟩
  rcases q with ⟨i, d, q1, q2, q3⟩ | q
  · exact .inl ⟨i, d, fun z => q1 (s i z), q2, q3⟩
  · exact .inr q
theorem vw_mono (s : ∀ i ∈ al, i ∈ al') : Sub (Vw H σ env al Z) (Vw H σ env al' Z) := fun b o h => by
  obtain ⟨n, h⟩ := hid_some.mp h
  refine hid_some.mpr ⟨fun q => n ?_, h⟩
  rcases q with ⟨i, d, q1, q2, q3⟩ | q
  · exact .inl ⟨i, d, fun z => q1 (s i z), q2, q3⟩
  · exact .inr q
theorem vw_base : Sub (Vw H σ env al Z) (hid H Z) := fun b o h => by
  obtain ⟨n, h⟩ := hid_some.mp h
  exact hid_some.mpr ⟨fun q => n (.inr q), h⟩
theorem vw_up : Sub (Vw H σ env al Z) H := hid_sub
/-- a new object is visible -/
theorem vw_new (R : ER G T Z σ H env) {p : Addr} {o : HO} (hp : H p = none) : Vw (upd H p o) σ env al Z p = some o := by
  refine hid_some.mpr ⟨fun q => ?_, upd_same⟩
  rcases q with q | q
  · exact own_some R q.own hp
  · exact R.zd p q hp
theorem ER.new (R : ER G T Z σ H env) {p : Addr} {o : HO} (hp : H p = none) (ho : NT o := by exact fun _ z => nomatch z) : Grow G T H (upd H p o) := by
  refine ⟨fun b u _ h => ?_, G.ok_ext _ H _ R.ok (fun b f => upd_ne fun z => ?_) (upd_fix hp) (upd_tb ho)⟩
  · rw [upd_ne (ne_of_none h hp)]
    exact h
  · subst z
    exact G.ok_dom _ H b R.ok f hp
/-- a slot is read -/
theorem ER.get (R : ER G T Z σ H env) {i : Nat} {b : Bool} {d : D} (h : env[i]? = some (some (b, d))) : ∃ v, σ[i]? = some (some v) ∧ Den G (Vw H σ env [i] Z) v d := by
  cases b with
  | false =>
    obtain ⟨v, h1, h2⟩ := R.low i d h
    rw [← vw_nil] at h2
    exact ⟨v, h1, h2.sub (vw_mono fun _ z => absurd z List.not_mem_nil)⟩
  | true =>
    obtain ⟨a, o, h1, h2, h3, h4⟩ := R.own i d h
    rw [← vw_nil] at h4
    refine ⟨.ref a, h1, (h4.sub (vw_mono (al' := [i]) fun _ z => absurd z List.not_mem_nil)).den (hid_some.mpr ⟨fun q => ?_, h3⟩)⟩
    rcases q with ⟨j, e, q1, q2, q3⟩ | q
    · exact q1 (by rw [R.inj j i a e d q2 h q3 h1]; exact List.mem_singleton.mpr rfl)
    · exact h2 q
theorem ER.getLow (R : ER G T Z σ H env) {i : Nat} {d : D} (h : env[i]? = some (some (false, d))) : ∃ v, σ[i]? = some (some v) ∧ Den G (Vw H σ env [] Z) v d := by
  rw [vw_nil]
  exact R.low i d h
end

/-! no list, dict or instance within -/
mutual
def flat : D → Bool
  | .non => true | .bl _ => true | .int _ => true | .str _ => true
  | .tup xs => flatL xs
  | .lst _ => false | .dct _ => false | .obj _ _ => false
  | .hnd _ => true | .scr _ => false | .ty _ => true | .gl _ => true
  | .exc _ fs => flatF fs
  | .adr _ => true
  | .ldc _ => false
def flatL : List D → Bool
  | [] => true
  | x :: xs => flat x && flatL xs
def flatF : List (Str × D) → Bool
  | [] => true
  | x :: xs => flat x.2 && flatF xs
end
mutual
theorem Den.flat {G : Ctx} {H H1 H2 : Hp} (s : ∀ b o, H1 b = some o → (∀ xs, o ≠ .lst xs) → (∀ kvs, o ≠ .dK kvs) → (∀ C dx fs, o ≠ .ins C dx fs) → (∀ P w a kvs, o ≠ LDO P w a kvs) → H2 b = some o) : ∀ {v : V} {d : D}, flat d = true → Den G H1 v d → Den G H2 v d
  | _, _, _, .non => .non
  | _, _, _, .bl b => .bl b
  | _, _, _, .int i => .int i
  | _, _, _, .str x => .str x
  | _, _, f, .tup h r => .tup (by
      rcases h with (h | ⟨o, h⟩) | h
      · exact .inl (.inl (s _ _ h (fun _ z => by cases z) (fun _ z => by cases z) (fun _ _ _ z => by cases z) fun _ _ _ _ z => by unfold LDO at z; cases z))
      · exact .inl (.inr ⟨o, s _ _ h (fun _ z => by cases z) (fun _ z => by cases z) (fun _ _ _ z => by cases z) fun _ _ _ _ z => by unfold LDO at z; cases z⟩)
      · exact .inr h) (DenL.flat (H := H) s (by simpa only [DL.flat] using f) r)
  | _, _, f, .lst _ _ => by simp [DL.flat] at f
  | _, _, f, .dct _ _ => by simp [DL.flat] at f
  | _, _, f, .obj _ _ => by simp [DL.flat] at f
  | _, _, _, .hnd n => .hnd n
  | _, _, f, .scr _ => by simp [DL.flat] at f
  | _, _, _, .ty n => .ty n
  | _, _, _, .gl h => .gl h
  | _, _, _, .adr a => .adr a
  | _, _, f, .ldc _ _ => by simp [DL.flat] at f
  | _, _, f, .exc (dd := dd) h x r => .exc (s _ _ h (fun _ z => by cases z) (fun _ z => by cases z) (fun _ _ _ z => by cases z) fun _ _ _ _ z => exo_nl z) (match dd, x with
    | none, x => x
    | some p, x => s _ _ x (fun _ z => by cases z) (fun _ z => by cases z) (fun _ _ _ z => by cases z) fun _ _ _ _ z => by unfold LDO at z; cases z) (DenF.flat (H := H) s (by simpa only [DL.flat] using f) r)
theorem DenL.flat {G : Ctx} {H H1 H2 : Hp} (s : ∀ b o, H1 b = some o → (∀ xs, o ≠ .lst xs) → (∀ kvs, o ≠ .dK kvs) → (∀ C dx fs, o ≠ .ins C dx fs) → (∀ P w a kvs, o ≠ LDO P w a kvs) → H2 b = some o) : ∀ {vs : List V} {ds : List D}, flatL ds = true → DenL G H1 vs ds → DenL G H2 vs ds
  | _, _, _, .nil => .nil
  | _, _, f, .cons h r => by
    simp only [DL.flatL, Bool.and_eq_true] at f
    exact .cons (Den.flat (H := H) s f.1 h) (DenL.flat (H := H) s f.2 r)
theorem DenF.flat {G : Ctx} {H H1 H2 : Hp} (s : ∀ b o, H1 b = some o → (∀ xs, o ≠ .lst xs) → (∀ kvs, o ≠ .dK kvs) → (∀ C dx fs, o ≠ .ins C dx fs) → (∀ P w a kvs, o ≠ LDO P w a kvs) → H2 b = some o) : ∀ {vs : List (Str × V)} {ds : List (Str × D)}, flatF ds = true → DenF G H1 vs ds → DenF G H2 vs ds
  | _, _, _, .nil => .nil
  | _, _, f, .cons h r => by
    simp only [DL.flatF, Bool.and_eq_true] at f
    exact .cons (Den.flat (H := H) s f.1 h) (DenF.flat (H := H) s f.2 r)
end
/-- what is flat reaches nothing that is owned -/
theorem Den.unshare {G : Ctx} {Z : Addr → Prop} {σ : SS} {H : Hp} {env : DEnv} {al : List Nat} (R : ER G T Z σ H env) {v : V} {d : D} (f : DL.flat d = true) (h : Den G (Vw H σ env al Z) v d) : Den G (Vw H σ env [] Z) v d := by
  refine Den.flat (H := H) (fun b o e n1 n2 n3 n4 => ?_) f h
  obtain ⟨n, e⟩ := hid_some.mp e
  refine hid_some.mpr ⟨fun q => ?_, e⟩
  rcases q with ⟨i, d, _, q2, q3⟩ | q
  · obtain ⟨a, u, h1, h2, h3, h4⟩ := R.own i d q2
    rw [q3] at h1
    cases h1
    rw [e] at h3
    cases h3
    cases d with
    | lst ds => obtain ⟨xs, z, _⟩ := h4; exact n1 _ z
    | dct ds => obtain ⟨xs, z, _⟩ := h4; exact n2 _ z
    | obj c ds => obtain ⟨dx, fs, z, _⟩ := h4; exact n3 _ _ _ z
    | ldc ds => obtain ⟨kvs, z, _⟩ := h4; exact n4 _ _ _ _ z
    | _ => exact h4
  · exact n (.inr q)

abbrev TP := DEnv → (D → Prop) → (XD → Prop) → Prop
abbrev TPL := DEnv → (List D → Prop) → (XD → Prop) → Prop
abbrev TPT := DEnv → (Bool → Prop) → (XD → Prop) → Prop

/-- what is wanted of an exception -/
def XW (G : Ctx) (m : Nat) (W : WX) (Z : Addr → Prop) (σ : SS) (H : Hp) (EP : XD → Prop) : Prop := ∀ (x : XD) (cls : Value) (dd : Option Addr) (H' : Hp), Grow G m H H' → XDen G (hid H' Z) cls dd x → EP x → W cls dd σ H'
theorem XW.grow {G : Ctx} {n m : Nat} {W : WX} {Z : Addr → Prop} {σ : SS} {H H1 : Hp} {EP : XD → Prop} (x : XW G m W Z σ H EP) (g : Grow G n H H1) : XW G m W Z σ H1 EP := fun y cls dd H' g' => x y cls dd H' (g.trans g')
theorem XW.le {G : Ctx} {n m : Nat} {W : WX} {Z : Addr → Prop} {σ : SS} {H : Hp} {EP : XD → Prop} (x : XW G m W Z σ H EP) (h : n ≤ m) : XW G n W Z σ H EP := fun y cls dd H' g' => x y cls dd H' (g'.le h)
def liftP (G : Ctx) (c : Nat) (W : WX) (al : List Nat) (t : TP) : TE := fun σ H Q => ∃ (T m : Nat) (Z : Addr → Prop) (env : DEnv) (P : D → Prop) (EP : XD → Prop), (T + c ≤ m ∧ m ≤ G.top) ∧ ER G T Z σ H env ∧ t env P EP ∧
  (∀ v d H', Grow G m H H' → Den G (Vw H' σ env al Z) v d → P d → Q v H') ∧ XW G m W Z σ H EP
/-- a new object comes out -/
def liftN (G : Ctx) (c : Nat) (W : WX) (al : List Nat) (t : TP) : TE := fun σ H Q => ∃ (T m : Nat) (Z : Addr → Prop) (env : DEnv) (P : D → Prop) (EP : XD → Prop), (T + c ≤ m ∧ m ≤ G.top) ∧ ER G T Z σ H env ∧ t env P EP ∧
  (∀ p o d H', Grow G m H H' → H' p = none → RootO G (Vw H' σ env al Z) p o d → P d → Q (.ref p) (upd H' p o)) ∧ XW G m W Z σ H EP
def liftA (G : Ctx) (c : Nat) (W : WX) (al : List Nat) (t : TPL) : TA := fun σ H Q => ∃ (T m : Nat) (Z : Addr → Prop) (env : DEnv) (P : List D → Prop) (EP : XD → Prop), (T + c ≤ m ∧ m ≤ G.top) ∧ ER G T Z σ H env ∧ t env P EP ∧
  (∀ vs ds H', Grow G m H H' → DenL G (Vw H' σ env al Z) vs ds → P ds → Q vs H') ∧ XW G m W Z σ H EP
def liftT (G : Ctx) (c : Nat) (W : WX) (t : TPT) : TT := fun σ H Q => ∃ (T m : Nat) (Z : Addr → Prop) (env : DEnv) (P : Bool → Prop) (EP : XD → Prop), (T + c ≤ m ∧ m ≤ G.top) ∧ ER G T Z σ H env ∧ t env P EP ∧
  (∀ b H', Grow G m H H' → P b → Q b H') ∧ XW G m W Z σ H EP

theorem _root_.L2.PE.imp {X : Cx} {e : Expr} {t t' : TE} (h : PE X e t) (s : ∀ σ H Q, t' σ H Q → t σ H Q) : PE X e t' := ⟨fun pins sh σ H Q I q => h.run pins sh σ H Q I (s σ H Q q)⟩
theorem _root_.L2.PA.imp {X : Cx} {e : List Expr} {t t' : TA} (h : PA X e t) (s : ∀ σ H Q, t' σ H Q → t σ H Q) : PA X e t' := ⟨fun pos pins sh σ H Q I q => h.run pos pins sh σ H Q I (s σ H Q q)⟩
theorem _root_.L2.PT.imp {X : Cx} {e : Expr} {t t' : TT} (h : PT X e t) (s : ∀ σ H Q, t' σ H Q → t σ H Q) : PT X e t' := ⟨fun pins sh σ H Q I q => h.run pins sh σ H Q I (s σ H Q q)⟩
theorem _root_.L2.PW.imp {X : Cx} {e : Expr} {t t' : TT} (h : PW X e t) (s : ∀ σ H Q, t' σ H Q → t σ H Q) : PW X e t' := ⟨fun wh pins sh σ H Q I q => h.run wh pins sh σ H Q I (s σ H Q q)⟩
theorem _root_.L2.PS.imp {X : Cx} {e : Stmt} {t t' : TS} (h : PS X e t) (s : ∀ D σ H, t' D σ H → t D σ H) : PS X e t' := ⟨fun pins sh σ H D I q => h.run pins sh σ H D I (s D σ H q)⟩
theorem _root_.L2.PSs.imp {X : Cx} {e : List Stmt} {t t' : TS} (h : PSs X e t) (s : ∀ D σ H, t' D σ H → t D σ H) : PSs X e t' := ⟨fun pins sh σ H D I q => h.run pins sh σ H D I (s D σ H q)⟩

section
variable {G : Ctx} {W : WX} {X : Cx} {e a b c : Expr} {t ta tb tc : TP} {al al' ala alb : List Nat} {u0 u1 u2 : Nat}
abbrev sub0 {al : List Nat} : ∀ i ∈ ([] : List Nat), i ∈ al := fun _ z => absurd z List.not_mem_nil
abbrev subS {al : List Nat} : ∀ i ∈ al, i ∈ al := fun _ z => z
theorem lift_new (h : PE X e (liftN G u0 W al t)) : PE X e (liftP G u0 W al t) := h.imp fun σ H Q ⟨T, m, Z, env, P, EP, ⟨hm, ht⟩, R, q, k, x⟩ =>
  ⟨T, m, Z, env, P, EP, ⟨hm, ht⟩, R, q, fun p o d H' g hp r hd => by
    have R' := R.growG g
    have g2 := R'.new (o := o) hp r.nf.2
    exact k _ d _ (g.trans g2) ((r.sub (vw_sub R' g2 subS)).den (vw_new R' hp)) hd, x⟩
theorem lift_al (h : PE X e (liftP G u0 W al t)) (s : ∀ i ∈ al, i ∈ al') : PE X e (liftP G u0 W al' t) := h.imp fun σ H Q ⟨T, m, Z, env, P, EP, ⟨hm, ht⟩, R, q, k, x⟩ =>
  ⟨T, m, Z, env, P, EP, ⟨hm, ht⟩, R, q, fun v d H' g r hd => k v d H' g (r.sub (vw_mono s)) hd, x⟩
theorem lift_alN (h : PE X e (liftN G u0 W al t)) (s : ∀ i ∈ al, i ∈ al') : PE X e (liftN G u0 W al' t) := h.imp fun σ H Q ⟨T, m, Z, env, P, EP, ⟨hm, ht⟩, R, q, k, x⟩ =>
  ⟨T, m, Z, env, P, EP, ⟨hm, ht⟩, R, q, fun p o d H' g hp r hd => k p o d H' g hp (r.sub (vw_mono s)) hd, x⟩
/-- a flat result reaches nothing owned -/
def dFlat (t : TP) : TP := fun env P EP => t env (fun d => flat d = true ∧ P d) EP
theorem lift_flat (h : PE X e (liftP G u0 W al t)) : PE X e (liftP G u0 W [] (dFlat t)) := h.imp fun σ H Q ⟨T, m, Z, env, P, EP, ⟨hm, ht⟩, R, q, k, x⟩ =>
  ⟨T, m, Z, env, _, EP, ⟨hm, ht⟩, R, q, fun v d H' g r ⟨f, hd⟩ => k v d H' g (Den.unshare (R.growG g) f r) hd, x⟩

/-! ### names, constants -/
def dVar (i : Nat) : TP := fun env P _ => match env[i]? with
  | some (some (_, d)) => P d
  | _ => False
theorem lift_var {i : Nat} (h : PE X e (tVar i)) : PE X e (liftP G 0 W [i] (dVar i)) := h.imp fun σ H Q ⟨T, m, Z, env, P, EP, ⟨hm, ht⟩, R, q, k, x⟩ => by
  unfold dVar at q
  split at q
  · rename_i b d hd
    obtain ⟨v, h1, h2⟩ := R.get hd
    exact ⟨v, h1, k v d H (R.self.le hm) h2 q⟩
  · exact q.elim
def dC (d : D) : TP := fun _ P _ => P d
theorem lift_c {v : V} {d : D} (hd : ∀ H, Den G H v d) (h : PE X e (tC v)) : PE X e (liftP G 0 W [] (dC d)) := h.imp fun σ H Q ⟨T, m, Z, env, P, EP, ⟨hm, ht⟩, R, q, k, x⟩ => k v d H (R.self.le hm) (hd _) q

/-! ### two operands -/
abbrev F2 := D → D → (D → Prop) → Prop
/-- what an operator's rule asks, told over values; the result reaches no more than its operands; it is flat or new -/
def Op2 (G : Ctx) (r : R2) (f : F2) : Prop := ∀ (T : Nat) (Z : Addr → Prop) (σ : SS) (env : DEnv) (al : List Nat) (H : Hp) (v w : V) (x y : D) (P : D → Prop) (Q : VK), ER G T Z σ H env → Den G (Vw H σ env al Z) v x → Den G (Vw H σ env al Z) w y → f x y P →
  (∀ u d H', Grow G T H H' → Den G (Vw H' σ env al Z) u d → P d → Q u H') → r v w H Q
/-- .. a flat result -/
def Op2f (G : Ctx) (r : R2) (f : F2) : Prop := ∀ (T : Nat) (Z : Addr → Prop) (σ : SS) (env : DEnv) (al : List Nat) (H : Hp) (v w : V) (x y : D) (P : D → Prop) (Q : VK), ER G T Z σ H env → Den G (Vw H σ env al Z) v x → Den G (Vw H σ env al Z) w y → f x y P →
  (∀ u d, (∀ H', Den G H' u d) → P d → Q u H) → r v w H Q
def dOp (f : F2) (ta tb : TP) : TP := fun env P EP => ta env (fun x => tb env (fun y => f x y P) EP) EP
theorem lift_op {r : R2} {f : F2} (o : Op2 G r f) (sa : ∀ i ∈ ala, i ∈ al) (sb : ∀ i ∈ alb, i ∈ al) (h : PE X e (tOp r (liftP G u1 W ala ta) (liftP G u2 W alb tb))) : PE X e (liftP G (u1 + u2) W al (dOp f ta tb)) := h.imp fun σ H Q ⟨T, m, Z, env, P, EP, ⟨hm, ht⟩, R, q, k, x⟩ =>
  ⟨T, T + u1, Z, env, _, EP, ⟨Nat.le_refl _, by omega⟩, R, q, fun v d H1 g1 hv q1 => ⟨T + u1, m, Z, env, _, EP, ⟨by omega, by omega⟩, R.growG g1, q1, fun w d2 H2 g2 hw q2 =>
    o m Z σ env al H2 v w d d2 P Q (R.growG (g1.trans g2)) (hv.sub (vw_sub (R.growG g1) g2 sa)) (hw.sub (vw_mono sb)) q2 fun u d3 H3 g3 hu p => k u d3 H3 ((g1.trans g2).trans g3) hu p, x.grow g1⟩, x.le (by omega)⟩
theorem lift_opf {r : R2} {f : F2} (o : Op2f G r f) (h : PE X e (tOp r (liftP G u1 W ala ta) (liftP G u2 W alb tb))) : PE X e (liftP G (u1 + u2) W [] (dOp f ta tb)) := h.imp fun σ H Q ⟨T, m, Z, env, P, EP, ⟨hm, ht⟩, R, q, k, x⟩ =>
  ⟨T, T + u1, Z, env, _, EP, ⟨Nat.le_refl _, by omega⟩, R, q, fun v d H1 g1 hv q1 => ⟨T + u1, m, Z, env, _, EP, ⟨by omega, by omega⟩, R.growG g1, q1, fun w d2 H2 g2 hw q2 =>
    o m Z σ env (ala ++ alb) H2 v w d d2 P Q (R.growG (g1.trans g2)) (hv.sub (vw_sub (R.growG g1) g2 fun i z => List.mem_append_left _ z)) (hw.sub (vw_mono fun i z => List.mem_append_right _ z)) q2 fun u d3 hu p => k u d3 H2 (g1.trans g2) (hu _) p, x.grow g1⟩, x.le (by omega)⟩
/-- .. as a test -/
def dTest (t : TP) : TPT := fun env P EP => t env (fun d => ∃ b, d = .bl b ∧ P b) EP
theorem lift_test (h : PT X e (tTest (liftP G u0 W al t))) : PT X e (liftT G u0 W (dTest t)) := h.imp fun σ H Q ⟨T, m, Z, env, P, EP, ⟨hm, ht⟩, R, q, k, x⟩ =>
  ⟨T, m, Z, env, _, EP, ⟨hm, ht⟩, R, q, fun v d H1 g1 hv ⟨b, eb, q1⟩ => by
    subst eb
    cases hv
    exact ⟨b, rfl, k b H1 g1 q1⟩, x⟩

/-! ### one operand -/
abbrev F1 := D → (D → Prop) → Prop
def Op1f (G : Ctx) (r : V → Hp → VK → Prop) (f : F1) : Prop := ∀ (T : Nat) (Z : Addr → Prop) (σ : SS) (env : DEnv) (al : List Nat) (H : Hp) (v : V) (x : D) (P : D → Prop) (Q : VK), ER G T Z σ H env → Den G (Vw H σ env al Z) v x → f x P →
  (∀ u d, (∀ H', Den G H' u d) → P d → Q u H) → r v H Q
def dOp1 (f : F1) (ta : TP) : TP := fun env P EP => ta env (fun x => f x P) EP
theorem imp_un {r : V → Hp → VK → Prop} {f : F1} (o : Op1f G r f) : ∀ σ H Q, liftP G u0 W [] (dOp1 f ta) σ H Q → tUn r (liftP G u0 W ala ta) σ H Q := fun σ H Q ⟨T, m, Z, env, P, EP, ⟨hm, ht⟩, R, q, k, x⟩ =>
  ⟨T, m, Z, env, _, EP, ⟨hm, ht⟩, R, q, fun v d H1 g1 hv q1 => o _ Z σ env ala H1 v d P Q (R.growG g1) hv q1 fun u d3 hu p => k u d3 H1 g1 (hu _) p, x⟩

theorem lift_un {r : V → Hp → VK → Prop} {f : F1} (o : Op1f G r f) (h : PE X e (tUn r (liftP G u0 W ala ta))) : PE X e (liftP G u0 W [] (dOp1 f ta)) := h.imp (imp_un o)

/-! ### arguments -/
def dNil : TPL := fun _ P _ => P []
def dCons (t : TP) (u : TPL) : TPL := fun env P EP => t env (fun d => u env (fun ds => P (d :: ds)) EP) EP
variable {es : List Expr} {u : TPL}
theorem lift_nil (h : PA X [] tNil) : PA X [] (liftA G 0 W [] dNil) := h.imp fun σ H Q ⟨T, m, Z, env, P, EP, ⟨hm, ht⟩, R, q, k, x⟩ => k [] [] H (R.self.le hm) .nil q
theorem lift_cons (sa : ∀ i ∈ ala, i ∈ al) (sb : ∀ i ∈ alb, i ∈ al) (h : PA X es (tCons (liftP G u1 W ala t) (liftA G u2 W alb u))) : PA X es (liftA G (u1 + u2) W al (dCons t u)) := h.imp fun σ H Q ⟨T, m, Z, env, P, EP, ⟨hm, ht⟩, R, q, k, x⟩ =>
  ⟨T, T + u1, Z, env, _, EP, ⟨Nat.le_refl _, by omega⟩, R, q, fun v d H1 g1 hv q1 => ⟨T + u1, m, Z, env, _, EP, ⟨by omega, by omega⟩, R.growG g1, q1, fun vs ds H2 g2 hw q2 =>
    k _ _ H2 (g1.trans g2) (.cons (hv.sub (vw_sub (R.growG g1) g2 sa)) (hw.sub (vw_mono sb))) q2, x.grow g1⟩, x.le (by omega)⟩
/-- a built-in's call, a method: by values; the result reaches no more than the arguments -/
abbrev FL := List D → (D → Prop) → Prop
def CallD (G : Ctx) (r : List V → Hp → VK → Prop) (f : FL) : Prop := ∀ (T : Nat) (Z : Addr → Prop) (σ : SS) (env : DEnv) (al : List Nat) (H : Hp) (vs : List V) (ds : List D) (P : D → Prop) (Q : VK), ER G T Z σ H env → DenL G (Vw H σ env al Z) vs ds → f ds P →
  (∀ v d H', Grow G T H H' → Den G (Vw H' σ env al Z) v d → P d → Q v H') → r vs H Q
def CallDf (G : Ctx) (r : List V → Hp → VK → Prop) (f : FL) : Prop := ∀ (T : Nat) (Z : Addr → Prop) (σ : SS) (env : DEnv) (al : List Nat) (H : Hp) (vs : List V) (ds : List D) (P : D → Prop) (Q : VK), ER G T Z σ H env → DenL G (Vw H σ env al Z) vs ds → f ds P →
  (∀ v d, (∀ H', Den G H' v d) → P d → Q v H) → r vs H Q
/-- .. a new object -/
def CallDn (G : Ctx) (r : List V → Hp → VK → Prop) (f : FL) : Prop := ∀ (T : Nat) (Z : Addr → Prop) (σ : SS) (env : DEnv) (al : List Nat) (H : Hp) (vs : List V) (ds : List D) (P : D → Prop) (Q : VK), ER G T Z σ H env → DenL G (Vw H σ env al Z) vs ds → f ds P →
  (∀ p o d, H p = none → RootO G (Vw H σ env al Z) p o d → P d → Q (.ref p) (upd H p o)) → r vs H Q
def dCall (f : FL) (u : TPL) : TP := fun env P EP => u env (fun ds => f ds P) EP
theorem lift_call {r : List V → Hp → VK → Prop} {f : FL} (o : CallD G r f) (h : PE X e (tCB r (liftA G u0 W al u))) : PE X e (liftP G u0 W al (dCall f u)) := h.imp fun σ H Q ⟨T, m, Z, env, P, EP, ⟨hm, ht⟩, R, q, k, x⟩ =>
  ⟨T, m, Z, env, _, EP, ⟨hm, ht⟩, R, q, fun vs ds H1 g1 hv q1 => o _ Z σ env al H1 vs ds P Q (R.growG g1) hv q1 fun v d H2 g2 hd p => k v d H2 (g1.trans g2) hd p, x⟩
theorem lift_callf {r : List V → Hp → VK → Prop} {f : FL} (o : CallDf G r f) (h : PE X e (tCB r (liftA G u0 W al u))) : PE X e (liftP G u0 W [] (dCall f u)) := h.imp fun σ H Q ⟨T, m, Z, env, P, EP, ⟨hm, ht⟩, R, q, k, x⟩ =>
  ⟨T, m, Z, env, _, EP, ⟨hm, ht⟩, R, q, fun vs ds H1 g1 hv q1 => o _ Z σ env al H1 vs ds P Q (R.growG g1) hv q1 fun v d hd p => k v d H1 g1 (hd _) p, x⟩
theorem lift_calln {r : List V → Hp → VK → Prop} {f : FL} (o : CallDn G r f) (h : PE X e (tCB r (liftA G u0 W al u))) : PE X e (liftN G u0 W al (dCall f u)) := h.imp fun σ H Q ⟨T, m, Z, env, P, EP, ⟨hm, ht⟩, R, q, k, x⟩ =>
  ⟨T, m, Z, env, _, EP, ⟨hm, ht⟩, R, q, fun vs ds H1 g1 hv q1 => o _ Z σ env al H1 vs ds P Q (R.growG g1) hv q1 fun p o d hp hd pp => k p o d H1 g1 hp hd pp, x⟩
/-- a tuple, a list, written -/
def dTup (u : TPL) : TP := fun env P EP => u env (fun ds => ds.length ≤ sizeLine ∧ P (.tup ds)) EP
def dLst (u : TPL) : TP := fun env P EP => u env (fun ds => ds.length ≤ sizeLine ∧ P (.lst ds)) EP
theorem DenL.length {G : Ctx} {H : Hp} : ∀ {vs : List V} {ds : List D}, DenL G H vs ds → vs.length = ds.length
  | _, _, .nil => rfl
  | _, _, .cons _ r => by simp [r.length]
theorem lift_tup (h : PE X e (tTup (liftA G u0 W al u))) : PE X e (liftP G u0 W al (dTup u)) := h.imp fun σ H Q ⟨T, m, Z, env, P, EP, ⟨hm, ht⟩, R, q, k, x⟩ =>
  ⟨T, m, Z, env, _, EP, ⟨hm, ht⟩, R, q, fun vs ds H1 g1 hv ⟨hl, q1⟩ => ⟨by rw [hv.length]; exact hl, fun p hp => by
    have R1 := R.growG g1
    have g2 := R1.new (o := .tup vs) hp
    exact k _ _ _ (g1.trans g2) (.tup (SqT.of (vw_new R1 hp)) (hv.sub (vw_sub R1 g2 subS))) q1⟩, x⟩
theorem lift_lst (h : PE X e (tLst (liftA G u0 W al u))) : PE X e (liftN G u0 W al (dLst u)) := h.imp fun σ H Q ⟨T, m, Z, env, P, EP, ⟨hm, ht⟩, R, q, k, x⟩ =>
  ⟨T, m, Z, env, _, EP, ⟨hm, ht⟩, R, q, fun vs ds H1 g1 hv ⟨hl, q1⟩ => ⟨by rw [hv.length]; exact hl, fun p hp => k p _ (.lst ds) H1 g1 hp ⟨vs, rfl, hv⟩ q1⟩, x⟩
end
end DL

/-! D3: == over values. -/
namespace DL
open PySem PySem.Spec PyProof.Rows L2
open PySem.SeqAt (EqAt)

mutual
def deq : D → D → Bool
  | .non, .non => true
  | .bl a, .bl b => a == b
  | .bl a, .int b => (if a then 1 else 0) == b
  | .int a, .bl b => a == (if b then 1 else 0)
  | .int a, .int b => a == b
  | .str a, .str b => a == b
  | .tup a, .tup b => deqL a b
  | .lst a, .lst b => deqL a b
  | _, _ => false
def deqL : List D → List D → Bool
  | [], [] => true
  | x :: xs, y :: ys => deq x y && deqL xs ys
  | _, _ => false
end
/-- data of depth n at most: None, bools, ints, texts, lists, tuples -/
def dat : Nat → D → Bool
  | _, .non => true
  | _, .bl _ => true
  | _, .int _ => true
  | _, .str _ => true
  | n + 1, .tup xs => xs.all (dat n)
  | n + 1, .lst xs => xs.all (dat n)
  | _, _ => false
theorem deqL_all : ∀ (xs ys : List D), ((List.range (min xs.length ys.length)).all (fun j => deq (xs.getD j .non) (ys.getD j .non)) && xs.length == ys.length) = deqL xs ys
  | [], [] => rfl
  | [], _ :: _ => by simp [deqL]
  | _ :: _, [] => by simp [deqL]
  | x :: xs, y :: ys => by
    have ih := deqL_all xs ys
    have e : min (x :: xs).length (y :: ys).length = min xs.length ys.length + 1 := by simp
    rw [e, List.range_succ_eq_map, List.all_cons, List.all_map, deqL, ← ih]
    simp [Function.comp_def, Bool.and_assoc]
theorem deqL_same {xs ys : List D} (h : xs.length = ys.length) : (List.range xs.length).all (fun j => deq (xs.getD j .non) (ys.getD j .non)) = deqL xs ys := by
  have e := deqL_all xs ys
  rw [← h, Nat.min_self] at e
  simpa using e
theorem deqL_len {xs ys : List D} (h : xs.length ≠ ys.length) : deqL xs ys = false := by
  rw [← deqL_all]
  simp [h]
theorem deqL_refl : ∀ {n : Nat} {xs : List D}, (∀ x ∈ xs, deq x x = true) → deqL xs xs = true
  | _, [], _ => rfl
  | n, x :: xs, h => by
    simp only [deqL, Bool.and_eq_true]
    exact ⟨h x List.mem_cons_self, deqL_refl (n := n) fun y hy => h y (List.mem_cons_of_mem _ hy)⟩
theorem deq_refl : ∀ (n : Nat) (x : D), dat n x = true → deq x x = true
  | _, .non, _ => rfl
  | _, .bl b, _ => by simp [deq]
  | _, .int i, _ => by simp [deq]
  | _, .str x, _ => by simp [deq]
  | 0, .tup xs, h => by simp [dat] at h
  | 0, .lst xs, h => by simp [dat] at h
  | n + 1, .tup xs, h => by
    simp only [deq]
    exact deqL_refl (n := n) fun x hx => deq_refl n x (List.all_eq_true.mp (by simpa only [dat] using h) x hx)
  | n + 1, .lst xs, h => by
    simp only [deq]
    exact deqL_refl (n := n) fun x hx => deq_refl n x (List.all_eq_true.mp (by simpa only [dat] using h) x hx)
  | 0, .dct _, h => by simp [dat] at h
  | 0, .obj _ _, h => by simp [dat] at h
  | 0, .hnd _, h => by simp [dat] at h
  | 0, .scr _, h => by simp [dat] at h
  | 0, .ty _, h => by simp [dat] at h
  | 0, .gl _, h => by simp [dat] at h
  | 0, .exc _ _, h => by simp [dat] at h
  | 0, .adr _, h => by simp [dat] at h
  | 0, .ldc _, h => by simp [dat] at h
  | _ + 1, .ldc _, h => by simp [dat] at h
  | _ + 1, .adr _, h => by simp [dat] at h
  | _ + 1, .exc _ _, h => by simp [dat] at h
  | _ + 1, .dct _, h => by simp [dat] at h
  | _ + 1, .obj _ _, h => by simp [dat] at h
  | _ + 1, .hnd _, h => by simp [dat] at h
  | _ + 1, .scr _, h => by simp [dat] at h
  | _ + 1, .ty _, h => by simp [dat] at h
  | _ + 1, .gl _, h => by simp [dat] at h
section
variable {G : Ctx} {X : Cx} {pins : List (Addr × Obj)} {σ : SS} {H : Hp} {s : Shared}
theorem DenL.get {G : Ctx} {H : Hp} : ∀ {vs : List V} {ds : List D} {j : Nat} {v : V}, DenL G H vs ds → vs[j]? = some v → ∃ d, ds[j]? = some d ∧ Den G H v d
  | _, _, _, _, .nil, e => by simp at e
  | _, _, 0, _, .cons h _, e => by simp at e; subst e; exact ⟨_, rfl, h⟩
  | _, _, j + 1, _, .cons _ r, e => by
    obtain ⟨d, h1, h2⟩ := r.get (j := j) (by simpa using e)
    exact ⟨d, by simpa using h1, h2⟩
theorem DenL.getD {G : Ctx} {H : Hp} : ∀ {vs : List V} {ds : List D} {j : Nat} {d : D}, DenL G H vs ds → ds[j]? = some d → ∃ v, vs[j]? = some v ∧ Den G H v d
  | _, _, _, _, .nil, e => by simp at e
  | _, _, 0, _, .cons h _, e => by simp at e; subst e; exact ⟨_, rfl, h⟩
  | _, _, j + 1, _, .cons _ r, e => by
    obtain ⟨d, h1, h2⟩ := r.getD (j := j) (by simpa using e)
    exact ⟨d, by simpa using h1, h2⟩
/-- one value, one tree -/
theorem den_one (I : Inv X pins σ H s) (hK : G.K = X.K) : ∀ (n : Nat) (x y : D) (v : V), dat n x = true → dat n y = true → Den G H v x → Den G H v y → x = y := by
  intro n
  induction n with
  | zero =>
    intro x y v hx hy h1 h2
    cases h1 <;> simp [dat] at hx <;> cases h2 <;> simp [dat] at hy <;> rfl
  | succ n ih =>
    have all : ∀ (xs : List V) (ds es : List D), ds.all (dat n) = true → es.all (dat n) = true → DenL G H xs ds → DenL G H xs es → ds = es := by
      intro xs
      induction xs with
      | nil => intro ds es _ _ a b; cases a; cases b; rfl
      | cons z zs ihz =>
        intro ds es ha hb a b
        cases a with
        | cons a1 a2 =>
          cases b with
          | cons b1 b2 =>
            simp only [List.all_cons, Bool.and_eq_true] at ha hb
            rw [ih _ _ z ha.1 hb.1 a1 b1, ihz _ _ ha.2 hb.2 a2 b2]
    intro x y v hx hy h1 h2
    cases h1 with
    | non => cases h2; rfl
    | bl b => cases h2; rfl
    | int i => cases h2; rfl
    | str z => cases h2; rfl
    | @tup a xs ds ha hd =>
      cases h2 with
      | @tup _ ys es hb he =>
        have e := I.tuple_inj (hK ▸ ha) (hK ▸ hb)
        subst e
        rw [all _ _ _ (by simpa only [dat] using hx) (by simpa only [dat] using hy) hd he]
      | @lst _ ys es hb he =>
        obtain ⟨its, _, ⟨o, ho, hc, _⟩, _⟩ := I.tuple (hK ▸ ha)
        obtain ⟨_, its', k, _, ho'⟩ := I.hok _ _ hb
        rw [ho] at ho'; cases ho'; exact absurd (Value.type.inj hc) (by decide)
      | _ => simp [dat] at hy
    | @lst a xs ds ha hd =>
      cases h2 with
      | @lst _ ys es hb he =>
        rw [ha] at hb
        cases hb
        rw [all _ _ _ (by simpa only [dat] using hx) (by simpa only [dat] using hy) hd he]
      | @tup _ ys es hb he =>
        obtain ⟨its, _, ⟨o, ho, hc, _⟩, _⟩ := I.tuple (hK ▸ hb)
        obtain ⟨_, its', k, _, ho'⟩ := I.hok _ _ ha
        rw [ho] at ho'; cases ho'; exact absurd (Value.type.inj hc) (by decide)
      | _ => simp [dat] at hy
    | _ => simp [dat] at hx
theorem den_eq (I : Inv X pins σ H s) (hK : G.K = X.K) : ∀ (n : Nat) (x y : D) (v w : V) (u u' : Value) (A : Around), dat n x = true → dat n y = true → Den G H v x → Den G H w y → L2.RelV v u → L2.RelV w u' → A.units + n < cLine →
    EqAt A s u u' (deq x y) := by
  intro n
  induction n with
  | zero =>
    intro x y v w u u' A hx hy h1 h2 r1 r2 hu
    have hu0 : A.units < cLine := by omega
    cases h1 with
    | non =>
      cases (show u = .none from r1)
      cases h2 with
      | non =>
        cases (show u' = .none from r2)
        exact EqAt.same _
      | bl d =>
        cases (show u' = .bool d from r2)
        exact EqAt.none_bool d
      | int d =>
        obtain ⟨t2, qt2⟩ := (show ∃ t, u' = .int d t from r2)
        cases qt2
        exact EqAt.none_int d t2
      | str d =>
        obtain ⟨t2, qt2⟩ := (show ∃ t, u' = .str d t from r2)
        cases qt2
        exact EqAt.none_str d t2
      | _ => simp [dat] at hy
    | bl c =>
      cases (show u = .bool c from r1)
      cases h2 with
      | non =>
        cases (show u' = .none from r2)
        exact EqAt.bool_none c
      | bl d =>
        cases (show u' = .bool d from r2)
        exact EqAt.bool_bool c d
      | int d =>
        obtain ⟨t2, qt2⟩ := (show ∃ t, u' = .int d t from r2)
        cases qt2
        exact EqAt.bool_int c d t2
      | str d =>
        obtain ⟨t2, qt2⟩ := (show ∃ t, u' = .str d t from r2)
        cases qt2
        exact EqAt.bool_str c d t2
      | _ => simp [dat] at hy
    | int c =>
      obtain ⟨t1, qt1⟩ := (show ∃ t, u = .int c t from r1)
      cases qt1
      cases h2 with
      | non =>
        cases (show u' = .none from r2)
        exact EqAt.int_none c t1
      | bl d =>
        cases (show u' = .bool d from r2)
        exact EqAt.int_bool c t1 d
      | int d =>
        obtain ⟨t2, qt2⟩ := (show ∃ t, u' = .int d t from r2)
        cases qt2
        exact EqAt.int_int c t1 d t2
      | str d =>
        obtain ⟨t2, qt2⟩ := (show ∃ t, u' = .str d t from r2)
        cases qt2
        exact EqAt.int_str c t1 d t2
      | _ => simp [dat] at hy
    | str c =>
      obtain ⟨t1, qt1⟩ := (show ∃ t, u = .str c t from r1)
      cases qt1
      cases h2 with
      | non =>
        cases (show u' = .none from r2)
        exact EqAt.str_none c t1
      | bl d =>
        cases (show u' = .bool d from r2)
        exact EqAt.str_bool c t1 d
      | int d =>
        obtain ⟨t2, qt2⟩ := (show ∃ t, u' = .int d t from r2)
        cases qt2
        exact EqAt.str_int c t1 d t2
      | str d =>
        obtain ⟨t2, qt2⟩ := (show ∃ t, u' = .str d t from r2)
        cases qt2
        exact EqAt.str_str c t1 d t2
      | _ => simp [dat] at hy
    | _ => simp [dat] at hx
  | succ n ih =>
    intro x y v w u u' A hx hy h1 h2 r1 r2 hu
    have hu0 : A.units < cLine := by omega
    cases h1 with
    | non =>
      cases (show u = .none from r1)
      cases h2 with
      | non =>
        cases (show u' = .none from r2)
        exact EqAt.same _
      | bl d =>
        cases (show u' = .bool d from r2)
        exact EqAt.none_bool d
      | int d =>
        obtain ⟨t2, qt2⟩ := (show ∃ t, u' = .int d t from r2)
        cases qt2
        exact EqAt.none_int d t2
      | str d =>
        obtain ⟨t2, qt2⟩ := (show ∃ t, u' = .str d t from r2)
        cases qt2
        exact EqAt.none_str d t2
      | @lst ad xsd dsd had hdd =>
        cases (show u' = .ref ad from r2)
        obtain ⟨_, itsd, md, rvd, hod⟩ := (show ObjOk X.prog X.w H s.heap ad (.lst xsd) from I.hok _ _ had)
        have itd : s.heap.IsList ad itsd.toArray := ⟨_, hod, rfl, _, rfl⟩
        exact EqAt.none_list itd hu0
      | @tup ad xsd dsd had hdd =>
        cases (show u' = .ref ad from r2)
        obtain ⟨itsd, rvd, ⟨od, hod, hcd, md, hdtd⟩, _⟩ := I.tuple (hK ▸ had)
        have itd : s.heap.IsTuple ad itsd.toArray := ⟨od, hod, hcd, md, hdtd⟩
        exact EqAt.none_tuple itd hu0
      | _ => simp [dat] at hy
    | bl c =>
      cases (show u = .bool c from r1)
      cases h2 with
      | non =>
        cases (show u' = .none from r2)
        exact EqAt.bool_none c
      | bl d =>
        cases (show u' = .bool d from r2)
        exact EqAt.bool_bool c d
      | int d =>
        obtain ⟨t2, qt2⟩ := (show ∃ t, u' = .int d t from r2)
        cases qt2
        exact EqAt.bool_int c d t2
      | str d =>
        obtain ⟨t2, qt2⟩ := (show ∃ t, u' = .str d t from r2)
        cases qt2
        exact EqAt.bool_str c d t2
      | @lst ad xsd dsd had hdd =>
        cases (show u' = .ref ad from r2)
        obtain ⟨_, itsd, md, rvd, hod⟩ := (show ObjOk X.prog X.w H s.heap ad (.lst xsd) from I.hok _ _ had)
        have itd : s.heap.IsList ad itsd.toArray := ⟨_, hod, rfl, _, rfl⟩
        exact EqAt.bool_list c itd hu0
      | @tup ad xsd dsd had hdd =>
        cases (show u' = .ref ad from r2)
        obtain ⟨itsd, rvd, ⟨od, hod, hcd, md, hdtd⟩, _⟩ := I.tuple (hK ▸ had)
        have itd : s.heap.IsTuple ad itsd.toArray := ⟨od, hod, hcd, md, hdtd⟩
        exact EqAt.bool_tuple c itd hu0
      | _ => simp [dat] at hy
    | int c =>
      obtain ⟨t1, qt1⟩ := (show ∃ t, u = .int c t from r1)
      cases qt1
      cases h2 with
      | non =>
        cases (show u' = .none from r2)
        exact EqAt.int_none c t1
      | bl d =>
        cases (show u' = .bool d from r2)
        exact EqAt.int_bool c t1 d
      | int d =>
        obtain ⟨t2, qt2⟩ := (show ∃ t, u' = .int d t from r2)
        cases qt2
        exact EqAt.int_int c t1 d t2
      | str d =>
        obtain ⟨t2, qt2⟩ := (show ∃ t, u' = .str d t from r2)
        cases qt2
        exact EqAt.int_str c t1 d t2
      | @lst ad xsd dsd had hdd =>
        cases (show u' = .ref ad from r2)
        obtain ⟨_, itsd, md, rvd, hod⟩ := (show ObjOk X.prog X.w H s.heap ad (.lst xsd) from I.hok _ _ had)
        have itd : s.heap.IsList ad itsd.toArray := ⟨_, hod, rfl, _, rfl⟩
        exact EqAt.int_list c t1 itd hu0
      | @tup ad xsd dsd had hdd =>
        cases (show u' = .ref ad from r2)
        obtain ⟨itsd, rvd, ⟨od, hod, hcd, md, hdtd⟩, _⟩ := I.tuple (hK ▸ had)
        have itd : s.heap.IsTuple ad itsd.toArray := ⟨od, hod, hcd, md, hdtd⟩
        exact EqAt.int_tuple c t1 itd hu0
      | _ => simp [dat] at hy
    | str c =>
      obtain ⟨t1, qt1⟩ := (show ∃ t, u = .str c t from r1)
      cases qt1
      cases h2 with
      | non =>
        cases (show u' = .none from r2)
        exact EqAt.str_none c t1
      | bl d =>
        cases (show u' = .bool d from r2)
        exact EqAt.str_bool c t1 d
      | int d =>
        obtain ⟨t2, qt2⟩ := (show ∃ t, u' = .int d t from r2)
        cases qt2
        exact EqAt.str_int c t1 d t2
      | str d =>
        obtain ⟨t2, qt2⟩ := (show ∃ t, u' = .str d t from r2)
        cases qt2
        exact EqAt.str_str c t1 d t2
      | @lst ad xsd dsd had hdd =>
        cases (show u' = .ref ad from r2)
        obtain ⟨_, itsd, md, rvd, hod⟩ := (show ObjOk X.prog X.w H s.heap ad (.lst xsd) from I.hok _ _ had)
        have itd : s.heap.IsList ad itsd.toArray := ⟨_, hod, rfl, _, rfl⟩
        exact EqAt.str_list c t1 itd hu0
      | @tup ad xsd dsd had hdd =>
        cases (show u' = .ref ad from r2)
        obtain ⟨itsd, rvd, ⟨od, hod, hcd, md, hdtd⟩, _⟩ := I.tuple (hK ▸ had)
        have itd : s.heap.IsTuple ad itsd.toArray := ⟨od, hod, hcd, md, hdtd⟩
        exact EqAt.str_tuple c t1 itd hu0
      | _ => simp [dat] at hy
    | @lst ac xsc dsc hac hdc =>
      cases (show u = .ref ac from r1)
      obtain ⟨_, itsc, mc, rvc, hoc⟩ := (show ObjOk X.prog X.w H s.heap ac (.lst xsc) from I.hok _ _ hac)
      have itc : s.heap.IsList ac itsc.toArray := ⟨_, hoc, rfl, _, rfl⟩
      cases h2 with
      | non =>
        cases (show u' = .none from r2)
        exact EqAt.list_none itc hu0
      | bl d =>
        cases (show u' = .bool d from r2)
        exact EqAt.list_bool d itc hu0
      | int d =>
        obtain ⟨t2, qt2⟩ := (show ∃ t, u' = .int d t from r2)
        cases qt2
        exact EqAt.list_int d t2 itc hu0
      | str d =>
        obtain ⟨t2, qt2⟩ := (show ∃ t, u' = .str d t from r2)
        cases qt2
        exact EqAt.list_str d t2 itc hu0
      | @lst ad xsd dsd had hdd =>
        cases (show u' = .ref ad from r2)
        obtain ⟨_, itsd, md, rvd, hod⟩ := (show ObjOk X.prog X.w H s.heap ad (.lst xsd) from I.hok _ _ had)
        have itd : s.heap.IsList ad itsd.toArray := ⟨_, hod, rfl, _, rfl⟩
        have hx' : dsc.all (dat n) = true := by simpa only [dat] using hx
        have hy' : dsd.all (dat n) = true := by simpa only [dat] using hy
        have l1 : itsc.length = dsc.length := by rw [← rvc.length, hdc.length]
        have l2 : itsd.length = dsd.length := by rw [← rvd.length, hdd.length]
        simp only [deq]
        by_cases hab : ac = ad
        · subst hab
          have e := den_one I hK (n + 1) _ _ _ hx hy (.lst hac hdc) (.lst had hdd)
          cases e
          rw [show deqL dsc dsc = true from by simpa only [deq] using deq_refl (n + 1) (.lst dsc) hx]
          exact EqAt.same _
        refine EqAt.of_refs hab ?_
        by_cases hl : itsc.length = itsd.length
        · have hl' : dsc.length = dsd.length := by omega
          rw [← deqL_same hl', ← l1]
          refine SeqAt.RcAt.lists (e := fun j => deq (dsc.getD j .non) (dsd.getD j .non)) itc itd (by simpa using hl) hu0 (fun j h1 h2 => ?_)
          simp only [List.size_toArray] at h1 h2
          have e1 : xsc[j]? = some (xsc[j]'(by rw [rvc.length]; exact h1)) := List.getElem?_eq_getElem _
          have e2 : xsd[j]? = some (xsd[j]'(by rw [rvd.length]; exact h2)) := List.getElem?_eq_getElem _
          obtain ⟨d1, q1, q2⟩ := hdc.get e1
          obtain ⟨d2, q3, q4⟩ := hdd.get e2
          obtain ⟨u1, p1, p2⟩ := rvc.get e1
          obtain ⟨u2, p3, p4⟩ := rvd.get e2
          have g1 : itsc.toArray[j] = u1 := by simpa using (List.getElem?_eq_some_iff.mp p1).2
          have g2 : itsd.toArray[j] = u2 := by simpa using (List.getElem?_eq_some_iff.mp p3).2
          have k1 : dsc.getD j .non = d1 := by simp [List.getD, q1]
          have k2 : dsd.getD j .non = d2 := by simp [List.getD, q3]
          rw [k1, k2, g1, g2]
          exact ih d1 d2 _ _ _ _ A.in1 (List.all_eq_true.mp hx' _ (List.mem_of_getElem? q1)) (List.all_eq_true.mp hy' _ (List.mem_of_getElem? q3)) q2 q4 p2 p4 (by show A.units + 1 + n < cLine; omega)
        · rw [deqL_len (by omega)]
          exact SeqAt.RcAt.lists_lengths itc itd (by simpa using hl) hu0
      | @tup ad xsd dsd had hdd =>
        cases (show u' = .ref ad from r2)
        obtain ⟨itsd, rvd, ⟨od, hod, hcd, md, hdtd⟩, _⟩ := I.tuple (hK ▸ had)
        have itd : s.heap.IsTuple ad itsd.toArray := ⟨od, hod, hcd, md, hdtd⟩
        exact EqAt.list_tuple itc itd hu0
      | _ => simp [dat] at hy
    | @tup ac xsc dsc hac hdc =>
      cases (show u = .ref ac from r1)
      obtain ⟨itsc, rvc, ⟨oc, hoc, hcc, mc, hdtc⟩, _⟩ := I.tuple (hK ▸ hac)
      have itc : s.heap.IsTuple ac itsc.toArray := ⟨oc, hoc, hcc, mc, hdtc⟩
      cases h2 with
      | non =>
        cases (show u' = .none from r2)
        exact EqAt.tuple_none itc hu0
      | bl d =>
        cases (show u' = .bool d from r2)
        exact EqAt.tuple_bool d itc hu0
      | int d =>
        obtain ⟨t2, qt2⟩ := (show ∃ t, u' = .int d t from r2)
        cases qt2
        exact EqAt.tuple_int d t2 itc hu0
      | str d =>
        obtain ⟨t2, qt2⟩ := (show ∃ t, u' = .str d t from r2)
        cases qt2
        exact EqAt.tuple_str d t2 itc hu0
      | @lst ad xsd dsd had hdd =>
        cases (show u' = .ref ad from r2)
        obtain ⟨_, itsd, md, rvd, hod⟩ := (show ObjOk X.prog X.w H s.heap ad (.lst xsd) from I.hok _ _ had)
        have itd : s.heap.IsList ad itsd.toArray := ⟨_, hod, rfl, _, rfl⟩
        exact EqAt.tuple_list itc itd hu0
      | @tup ad xsd dsd had hdd =>
        cases (show u' = .ref ad from r2)
        obtain ⟨itsd, rvd, ⟨od, hod, hcd, md, hdtd⟩, _⟩ := I.tuple (hK ▸ had)
        have itd : s.heap.IsTuple ad itsd.toArray := ⟨od, hod, hcd, md, hdtd⟩
        have hx' : dsc.all (dat n) = true := by simpa only [dat] using hx
        have hy' : dsd.all (dat n) = true := by simpa only [dat] using hy
        have l1 : itsc.length = dsc.length := by rw [← rvc.length, hdc.length]
        have l2 : itsd.length = dsd.length := by rw [← rvd.length, hdd.length]
        simp only [deq]
        by_cases hab : ac = ad
        · subst hab
          have e := den_one I hK (n + 1) _ _ _ hx hy (.tup hac hdc) (.tup had hdd)
          cases e
          rw [show deqL dsc dsc = true from by simpa only [deq] using deq_refl (n + 1) (.tup dsc) hx]
          exact EqAt.same _
        refine EqAt.of_refs hab ?_
        rw [← deqL_all dsc dsd, ← l1, ← l2]
        refine SeqAt.RcAt.tuples (e := fun j => deq (dsc.getD j .non) (dsd.getD j .non)) itc itd hu0 (fun j h1 h2 => ?_)
        simp only [List.size_toArray] at h1 h2
        have e1 : xsc[j]? = some (xsc[j]'(by rw [rvc.length]; exact h1)) := List.getElem?_eq_getElem _
        have e2 : xsd[j]? = some (xsd[j]'(by rw [rvd.length]; exact h2)) := List.getElem?_eq_getElem _
        obtain ⟨d1, q1, q2⟩ := hdc.get e1
        obtain ⟨d2, q3, q4⟩ := hdd.get e2
        obtain ⟨u1, p1, p2⟩ := rvc.get e1
        obtain ⟨u2, p3, p4⟩ := rvd.get e2
        have g1 : itsc.toArray[j] = u1 := by simpa using (List.getElem?_eq_some_iff.mp p1).2
        have g2 : itsd.toArray[j] = u2 := by simpa using (List.getElem?_eq_some_iff.mp p3).2
        have k1 : dsc.getD j .non = d1 := by simp [List.getD, q1]
        have k2 : dsd.getD j .non = d2 := by simp [List.getD, q3]
        rw [k1, k2, g1, g2]
        exact ih d1 d2 _ _ _ _ A.in1 (List.all_eq_true.mp hx' _ (List.mem_of_getElem? q1)) (List.all_eq_true.mp hy' _ (List.mem_of_getElem? q3)) q2 q4 p2 p4 (by show A.units + 1 + n < cLine; omega)
      | _ => simp [dat] at hy
    | _ => simp [dat] at hx
theorem den_rc (I : Inv X pins σ H s) (hK : G.K = X.K) : ∀ (n : Nat) (x y : D) (v w : V) (u u' : Value) (A : Around), dat n x = true → dat n y = true → Den G H v x → Den G H w y → L2.RelV v u → L2.RelV w u' → A.units + n < cLine →
    SeqAt.RcAt A s u u' (deq x y) := by
  intro n
  cases n with
  | zero =>
    intro x y v w u u' A hx hy h1 h2 r1 r2 hu
    have hu0 : A.units < cLine := by omega
    cases h1 with
    | non =>
      cases (show u = .none from r1)
      cases h2 with
      | non =>
        cases (show u' = .none from r2)
        exact SeqAt.RcAt.none_none
      | bl d =>
        cases (show u' = .bool d from r2)
        exact SeqAt.RcAt.none_bool d
      | int d =>
        obtain ⟨t2, qt2⟩ := (show ∃ t, u' = .int d t from r2)
        cases qt2
        exact SeqAt.RcAt.none_int d t2
      | str d =>
        obtain ⟨t2, qt2⟩ := (show ∃ t, u' = .str d t from r2)
        cases qt2
        exact SeqAt.RcAt.none_str d t2
      | _ => simp [dat] at hy
    | bl c =>
      cases (show u = .bool c from r1)
      cases h2 with
      | non =>
        cases (show u' = .none from r2)
        exact SeqAt.RcAt.bool_none c
      | bl d =>
        cases (show u' = .bool d from r2)
        exact SeqAt.RcAt.bool_bool c d
      | int d =>
        obtain ⟨t2, qt2⟩ := (show ∃ t, u' = .int d t from r2)
        cases qt2
        exact SeqAt.RcAt.bool_int c d t2
      | str d =>
        obtain ⟨t2, qt2⟩ := (show ∃ t, u' = .str d t from r2)
        cases qt2
        exact SeqAt.RcAt.bool_str c d t2
      | _ => simp [dat] at hy
    | int c =>
      obtain ⟨t1, qt1⟩ := (show ∃ t, u = .int c t from r1)
      cases qt1
      cases h2 with
      | non =>
        cases (show u' = .none from r2)
        exact SeqAt.RcAt.int_none c t1
      | bl d =>
        cases (show u' = .bool d from r2)
        exact SeqAt.RcAt.int_bool c t1 d
      | int d =>
        obtain ⟨t2, qt2⟩ := (show ∃ t, u' = .int d t from r2)
        cases qt2
        exact SeqAt.RcAt.int_int c t1 d t2
      | str d =>
        obtain ⟨t2, qt2⟩ := (show ∃ t, u' = .str d t from r2)
        cases qt2
        exact SeqAt.RcAt.int_str c t1 d t2
      | _ => simp [dat] at hy
    | str c =>
      obtain ⟨t1, qt1⟩ := (show ∃ t, u = .str c t from r1)
      cases qt1
      cases h2 with
      | non =>
        cases (show u' = .none from r2)
        exact SeqAt.RcAt.str_none c t1
      | bl d =>
        cases (show u' = .bool d from r2)
        exact SeqAt.RcAt.str_bool c t1 d
      | int d =>
        obtain ⟨t2, qt2⟩ := (show ∃ t, u' = .int d t from r2)
        cases qt2
        exact SeqAt.RcAt.str_int c t1 d t2
      | str d =>
        obtain ⟨t2, qt2⟩ := (show ∃ t, u' = .str d t from r2)
        cases qt2
        exact SeqAt.RcAt.str_str c t1 d t2
      | _ => simp [dat] at hy
    | _ => simp [dat] at hx
  | succ n =>
    intro x y v w u u' A hx hy h1 h2 r1 r2 hu
    have hu0 : A.units < cLine := by omega
    cases h1 with
    | non =>
      cases (show u = .none from r1)
      cases h2 with
      | non =>
        cases (show u' = .none from r2)
        exact SeqAt.RcAt.none_none
      | bl d =>
        cases (show u' = .bool d from r2)
        exact SeqAt.RcAt.none_bool d
      | int d =>
        obtain ⟨t2, qt2⟩ := (show ∃ t, u' = .int d t from r2)
        cases qt2
        exact SeqAt.RcAt.none_int d t2
      | str d =>
        obtain ⟨t2, qt2⟩ := (show ∃ t, u' = .str d t from r2)
        cases qt2
        exact SeqAt.RcAt.none_str d t2
      | @lst ad xsd dsd had hdd =>
        cases (show u' = .ref ad from r2)
        obtain ⟨_, itsd, md, rvd, hod⟩ := (show ObjOk X.prog X.w H s.heap ad (.lst xsd) from I.hok _ _ had)
        have itd : s.heap.IsList ad itsd.toArray := ⟨_, hod, rfl, _, rfl⟩
        exact SeqAt.RcAt.none_list itd hu0
      | @tup ad xsd dsd had hdd =>
        cases (show u' = .ref ad from r2)
        obtain ⟨itsd, rvd, ⟨od, hod, hcd, md, hdtd⟩, _⟩ := I.tuple (hK ▸ had)
        have itd : s.heap.IsTuple ad itsd.toArray := ⟨od, hod, hcd, md, hdtd⟩
        exact SeqAt.RcAt.none_tuple itd hu0
      | _ => simp [dat] at hy
    | bl c =>
      cases (show u = .bool c from r1)
      cases h2 with
      | non =>
        cases (show u' = .none from r2)
        exact SeqAt.RcAt.bool_none c
      | bl d =>
        cases (show u' = .bool d from r2)
        exact SeqAt.RcAt.bool_bool c d
      | int d =>
        obtain ⟨t2, qt2⟩ := (show ∃ t, u' = .int d t from r2)
        cases qt2
        exact SeqAt.RcAt.bool_int c d t2
      | str d =>
        obtain ⟨t2, qt2⟩ := (show ∃ t, u' = .str d t from r2)
        cases qt2
        exact SeqAt.RcAt.bool_str c d t2
      | @lst ad xsd dsd had hdd =>
        cases (show u' = .ref ad from r2)
        obtain ⟨_, itsd, md, rvd, hod⟩ := (show ObjOk X.prog X.w H s.heap ad (.lst xsd) from I.hok _ _ had)
        have itd : s.heap.IsList ad itsd.toArray := ⟨_, hod, rfl, _, rfl⟩
        exact SeqAt.RcAt.bool_list c itd hu0
      | @tup ad xsd dsd had hdd =>
        cases (show u' = .ref ad from r2)
        obtain ⟨itsd, rvd, ⟨od, hod, hcd, md, hdtd⟩, _⟩ := I.tuple (hK ▸ had)
        have itd : s.heap.IsTuple ad itsd.toArray := ⟨od, hod, hcd, md, hdtd⟩
        exact SeqAt.RcAt.bool_tuple c itd hu0
      | _ => simp [dat] at hy
    | int c =>
      obtain ⟨t1, qt1⟩ := (show ∃ t, u = .int c t from r1)
      cases qt1
      cases h2 with
      | non =>
        cases (show u' = .none from r2)
        exact SeqAt.RcAt.int_none c t1
      | bl d =>
        cases (show u' = .bool d from r2)
        exact SeqAt.RcAt.int_bool c t1 d
      | int d =>
        obtain ⟨t2, qt2⟩ := (show ∃ t, u' = .int d t from r2)
        cases qt2
        exact SeqAt.RcAt.int_int c t1 d t2
      | str d =>
        obtain ⟨t2, qt2⟩ := (show ∃ t, u' = .str d t from r2)
        cases qt2
        exact SeqAt.RcAt.int_str c t1 d t2
      | @lst ad xsd dsd had hdd =>
        cases (show u' = .ref ad from r2)
        obtain ⟨_, itsd, md, rvd, hod⟩ := (show ObjOk X.prog X.w H s.heap ad (.lst xsd) from I.hok _ _ had)
        have itd : s.heap.IsList ad itsd.toArray := ⟨_, hod, rfl, _, rfl⟩
        exact SeqAt.RcAt.int_list c t1 itd hu0
      | @tup ad xsd dsd had hdd =>
        cases (show u' = .ref ad from r2)
        obtain ⟨itsd, rvd, ⟨od, hod, hcd, md, hdtd⟩, _⟩ := I.tuple (hK ▸ had)
        have itd : s.heap.IsTuple ad itsd.toArray := ⟨od, hod, hcd, md, hdtd⟩
        exact SeqAt.RcAt.int_tuple c t1 itd hu0
      | _ => simp [dat] at hy
    | str c =>
      obtain ⟨t1, qt1⟩ := (show ∃ t, u = .str c t from r1)
      cases qt1
      cases h2 with
      | non =>
        cases (show u' = .none from r2)
        exact SeqAt.RcAt.str_none c t1
      | bl d =>
        cases (show u' = .bool d from r2)
        exact SeqAt.RcAt.str_bool c t1 d
      | int d =>
        obtain ⟨t2, qt2⟩ := (show ∃ t, u' = .int d t from r2)
        cases qt2
        exact SeqAt.RcAt.str_int c t1 d t2
      | str d =>
        obtain ⟨t2, qt2⟩ := (show ∃ t, u' = .str d t from r2)
        cases qt2
        exact SeqAt.RcAt.str_str c t1 d t2
      | @lst ad xsd dsd had hdd =>
        cases (show u' = .ref ad from r2)
        obtain ⟨_, itsd, md, rvd, hod⟩ := (show ObjOk X.prog X.w H s.heap ad (.lst xsd) from I.hok _ _ had)
        have itd : s.heap.IsList ad itsd.toArray := ⟨_, hod, rfl, _, rfl⟩
        exact SeqAt.RcAt.str_list c t1 itd hu0
      | @tup ad xsd dsd had hdd =>
        cases (show u' = .ref ad from r2)
        obtain ⟨itsd, rvd, ⟨od, hod, hcd, md, hdtd⟩, _⟩ := I.tuple (hK ▸ had)
        have itd : s.heap.IsTuple ad itsd.toArray := ⟨od, hod, hcd, md, hdtd⟩
        exact SeqAt.RcAt.str_tuple c t1 itd hu0
      | _ => simp [dat] at hy
    | @lst ac xsc dsc hac hdc =>
      cases (show u = .ref ac from r1)
      obtain ⟨_, itsc, mc, rvc, hoc⟩ := (show ObjOk X.prog X.w H s.heap ac (.lst xsc) from I.hok _ _ hac)
      have itc : s.heap.IsList ac itsc.toArray := ⟨_, hoc, rfl, _, rfl⟩
      cases h2 with
      | non =>
        cases (show u' = .none from r2)
        exact SeqAt.RcAt.list_none itc hu0
      | bl d =>
        cases (show u' = .bool d from r2)
        exact SeqAt.RcAt.list_bool d itc hu0
      | int d =>
        obtain ⟨t2, qt2⟩ := (show ∃ t, u' = .int d t from r2)
        cases qt2
        exact SeqAt.RcAt.list_int d t2 itc hu0
      | str d =>
        obtain ⟨t2, qt2⟩ := (show ∃ t, u' = .str d t from r2)
        cases qt2
        exact SeqAt.RcAt.list_str d t2 itc hu0
      | @lst ad xsd dsd had hdd =>
        cases (show u' = .ref ad from r2)
        obtain ⟨_, itsd, md, rvd, hod⟩ := (show ObjOk X.prog X.w H s.heap ad (.lst xsd) from I.hok _ _ had)
        have itd : s.heap.IsList ad itsd.toArray := ⟨_, hod, rfl, _, rfl⟩
        have hx' : dsc.all (dat n) = true := by simpa only [dat] using hx
        have hy' : dsd.all (dat n) = true := by simpa only [dat] using hy
        have l1 : itsc.length = dsc.length := by rw [← rvc.length, hdc.length]
        have l2 : itsd.length = dsd.length := by rw [← rvd.length, hdd.length]
        simp only [deq]
        by_cases hl : itsc.length = itsd.length
        · have hl' : dsc.length = dsd.length := by omega
          rw [← deqL_same hl', ← l1]
          refine SeqAt.RcAt.lists (e := fun j => deq (dsc.getD j .non) (dsd.getD j .non)) itc itd (by simpa using hl) hu0 (fun j h1 h2 => ?_)
          simp only [List.size_toArray] at h1 h2
          have e1 : xsc[j]? = some (xsc[j]'(by rw [rvc.length]; exact h1)) := List.getElem?_eq_getElem _
          have e2 : xsd[j]? = some (xsd[j]'(by rw [rvd.length]; exact h2)) := List.getElem?_eq_getElem _
          obtain ⟨d1, q1, q2⟩ := hdc.get e1
          obtain ⟨d2, q3, q4⟩ := hdd.get e2
          obtain ⟨u1, p1, p2⟩ := rvc.get e1
          obtain ⟨u2, p3, p4⟩ := rvd.get e2
          have g1 : itsc.toArray[j] = u1 := by simpa using (List.getElem?_eq_some_iff.mp p1).2
          have g2 : itsd.toArray[j] = u2 := by simpa using (List.getElem?_eq_some_iff.mp p3).2
          have k1 : dsc.getD j .non = d1 := by simp [List.getD, q1]
          have k2 : dsd.getD j .non = d2 := by simp [List.getD, q3]
          rw [k1, k2, g1, g2]
          exact (den_eq I hK n) d1 d2 _ _ _ _ A.in1 (List.all_eq_true.mp hx' _ (List.mem_of_getElem? q1)) (List.all_eq_true.mp hy' _ (List.mem_of_getElem? q3)) q2 q4 p2 p4 (by show A.units + 1 + n < cLine; omega)
        · rw [deqL_len (by omega)]
          exact SeqAt.RcAt.lists_lengths itc itd (by simpa using hl) hu0
      | @tup ad xsd dsd had hdd =>
        cases (show u' = .ref ad from r2)
        obtain ⟨itsd, rvd, ⟨od, hod, hcd, md, hdtd⟩, _⟩ := I.tuple (hK ▸ had)
        have itd : s.heap.IsTuple ad itsd.toArray := ⟨od, hod, hcd, md, hdtd⟩
        exact SeqAt.RcAt.list_tuple itc itd hu0
      | _ => simp [dat] at hy
    | @tup ac xsc dsc hac hdc =>
      cases (show u = .ref ac from r1)
      obtain ⟨itsc, rvc, ⟨oc, hoc, hcc, mc, hdtc⟩, _⟩ := I.tuple (hK ▸ hac)
      have itc : s.heap.IsTuple ac itsc.toArray := ⟨oc, hoc, hcc, mc, hdtc⟩
      cases h2 with
      | non =>
        cases (show u' = .none from r2)
        exact SeqAt.RcAt.tuple_none itc hu0
      | bl d =>
        cases (show u' = .bool d from r2)
        exact SeqAt.RcAt.tuple_bool d itc hu0
      | int d =>
        obtain ⟨t2, qt2⟩ := (show ∃ t, u' = .int d t from r2)
        cases qt2
        exact SeqAt.RcAt.tuple_int d t2 itc hu0
      | str d =>
        obtain ⟨t2, qt2⟩ := (show ∃ t, u' = .str d t from r2)
        cases qt2
        exact SeqAt.RcAt.tuple_str d t2 itc hu0
      | @lst ad xsd dsd had hdd =>
        cases (show u' = .ref ad from r2)
        obtain ⟨_, itsd, md, rvd, hod⟩ := (show ObjOk X.prog X.w H s.heap ad (.lst xsd) from I.hok _ _ had)
        have itd : s.heap.IsList ad itsd.toArray := ⟨_, hod, rfl, _, rfl⟩
        exact SeqAt.RcAt.tuple_list itc itd hu0
      | @tup ad xsd dsd had hdd =>
        cases (show u' = .ref ad from r2)
        obtain ⟨itsd, rvd, ⟨od, hod, hcd, md, hdtd⟩, _⟩ := I.tuple (hK ▸ had)
        have itd : s.heap.IsTuple ad itsd.toArray := ⟨od, hod, hcd, md, hdtd⟩
        have hx' : dsc.all (dat n) = true := by simpa only [dat] using hx
        have hy' : dsd.all (dat n) = true := by simpa only [dat] using hy
        have l1 : itsc.length = dsc.length := by rw [← rvc.length, hdc.length]
        have l2 : itsd.length = dsd.length := by rw [← rvd.length, hdd.length]
        simp only [deq]
        rw [← deqL_all dsc dsd, ← l1, ← l2]
        refine SeqAt.RcAt.tuples (e := fun j => deq (dsc.getD j .non) (dsd.getD j .non)) itc itd hu0 (fun j h1 h2 => ?_)
        simp only [List.size_toArray] at h1 h2
        have e1 : xsc[j]? = some (xsc[j]'(by rw [rvc.length]; exact h1)) := List.getElem?_eq_getElem _
        have e2 : xsd[j]? = some (xsd[j]'(by rw [rvd.length]; exact h2)) := List.getElem?_eq_getElem _
        obtain ⟨d1, q1, q2⟩ := hdc.get e1
        obtain ⟨d2, q3, q4⟩ := hdd.get e2
        obtain ⟨u1, p1, p2⟩ := rvc.get e1
        obtain ⟨u2, p3, p4⟩ := rvd.get e2
        have g1 : itsc.toArray[j] = u1 := by simpa using (List.getElem?_eq_some_iff.mp p1).2
        have g2 : itsd.toArray[j] = u2 := by simpa using (List.getElem?_eq_some_iff.mp p3).2
        have k1 : dsc.getD j .non = d1 := by simp [List.getD, q1]
        have k2 : dsd.getD j .non = d2 := by simp [List.getD, q3]
        rw [k1, k2, g1, g2]
        exact (den_eq I hK n) d1 d2 _ _ _ _ A.in1 (List.all_eq_true.mp hx' _ (List.mem_of_getElem? q1)) (List.all_eq_true.mp hy' _ (List.mem_of_getElem? q3)) q2 q4 p2 p4 (by show A.units + 1 + n < cLine; omega)
      | _ => simp [dat] at hy
    | _ => simp [dat] at hx
theorem den_rcne (I : Inv X pins σ H s) (hK : G.K = X.K) : ∀ (n : Nat) (x y : D) (v w : V) (u u' : Value) (A : Around), dat n x = true → dat n y = true → Den G H v x → Den G H w y → L2.RelV v u → L2.RelV w u' → A.units + n < cLine →
    SeqAt.RcNeAt A s u u' (!deq x y) := by
  intro n
  cases n with
  | zero =>
    intro x y v w u u' A hx hy h1 h2 r1 r2 hu
    have hu0 : A.units < cLine := by omega
    cases h1 with
    | non =>
      cases (show u = .none from r1)
      cases h2 with
      | non =>
        cases (show u' = .none from r2)
        exact SeqAt.RcNeAt.none_none
      | bl d =>
        cases (show u' = .bool d from r2)
        exact SeqAt.RcNeAt.none_bool d
      | int d =>
        obtain ⟨t2, qt2⟩ := (show ∃ t, u' = .int d t from r2)
        cases qt2
        exact SeqAt.RcNeAt.none_int d t2
      | str d =>
        obtain ⟨t2, qt2⟩ := (show ∃ t, u' = .str d t from r2)
        cases qt2
        exact SeqAt.RcNeAt.none_str d t2
      | _ => simp [dat] at hy
    | bl c =>
      cases (show u = .bool c from r1)
      cases h2 with
      | non =>
        cases (show u' = .none from r2)
        exact SeqAt.RcNeAt.bool_none c
      | bl d =>
        cases (show u' = .bool d from r2)
        exact SeqAt.RcNeAt.bool_bool c d
      | int d =>
        obtain ⟨t2, qt2⟩ := (show ∃ t, u' = .int d t from r2)
        cases qt2
        exact SeqAt.RcNeAt.bool_int c d t2
      | str d =>
        obtain ⟨t2, qt2⟩ := (show ∃ t, u' = .str d t from r2)
        cases qt2
        exact SeqAt.RcNeAt.bool_str c d t2
      | _ => simp [dat] at hy
    | int c =>
      obtain ⟨t1, qt1⟩ := (show ∃ t, u = .int c t from r1)
      cases qt1
      cases h2 with
      | non =>
        cases (show u' = .none from r2)
        exact SeqAt.RcNeAt.int_none c t1
      | bl d =>
        cases (show u' = .bool d from r2)
        exact SeqAt.RcNeAt.int_bool c t1 d
      | int d =>
        obtain ⟨t2, qt2⟩ := (show ∃ t, u' = .int d t from r2)
        cases qt2
        exact SeqAt.RcNeAt.int_int c t1 d t2
      | str d =>
        obtain ⟨t2, qt2⟩ := (show ∃ t, u' = .str d t from r2)
        cases qt2
        exact SeqAt.RcNeAt.int_str c t1 d t2
      | _ => simp [dat] at hy
    | str c =>
      obtain ⟨t1, qt1⟩ := (show ∃ t, u = .str c t from r1)
      cases qt1
      cases h2 with
      | non =>
        cases (show u' = .none from r2)
        exact SeqAt.RcNeAt.str_none c t1
      | bl d =>
        cases (show u' = .bool d from r2)
        exact SeqAt.RcNeAt.str_bool c t1 d
      | int d =>
        obtain ⟨t2, qt2⟩ := (show ∃ t, u' = .int d t from r2)
        cases qt2
        exact SeqAt.RcNeAt.str_int c t1 d t2
      | str d =>
        obtain ⟨t2, qt2⟩ := (show ∃ t, u' = .str d t from r2)
        cases qt2
        exact SeqAt.RcNeAt.str_str c t1 d t2
      | _ => simp [dat] at hy
    | _ => simp [dat] at hx
  | succ n =>
    intro x y v w u u' A hx hy h1 h2 r1 r2 hu
    have hu0 : A.units < cLine := by omega
    cases h1 with
    | non =>
      cases (show u = .none from r1)
      cases h2 with
      | non =>
        cases (show u' = .none from r2)
        exact SeqAt.RcNeAt.none_none
      | bl d =>
        cases (show u' = .bool d from r2)
        exact SeqAt.RcNeAt.none_bool d
      | int d =>
        obtain ⟨t2, qt2⟩ := (show ∃ t, u' = .int d t from r2)
        cases qt2
        exact SeqAt.RcNeAt.none_int d t2
      | str d =>
        obtain ⟨t2, qt2⟩ := (show ∃ t, u' = .str d t from r2)
        cases qt2
        exact SeqAt.RcNeAt.none_str d t2
      | @lst ad xsd dsd had hdd =>
        cases (show u' = .ref ad from r2)
        obtain ⟨_, itsd, md, rvd, hod⟩ := (show ObjOk X.prog X.w H s.heap ad (.lst xsd) from I.hok _ _ had)
        have itd : s.heap.IsList ad itsd.toArray := ⟨_, hod, rfl, _, rfl⟩
        exact SeqAt.RcNeAt.none_list itd hu0
      | @tup ad xsd dsd had hdd =>
        cases (show u' = .ref ad from r2)
        obtain ⟨itsd, rvd, ⟨od, hod, hcd, md, hdtd⟩, _⟩ := I.tuple (hK ▸ had)
        have itd : s.heap.IsTuple ad itsd.toArray := ⟨od, hod, hcd, md, hdtd⟩
        exact SeqAt.RcNeAt.none_tuple itd hu0
      | _ => simp [dat] at hy
    | bl c =>
      cases (show u = .bool c from r1)
      cases h2 with
      | non =>
        cases (show u' = .none from r2)
        exact SeqAt.RcNeAt.bool_none c
      | bl d =>
        cases (show u' = .bool d from r2)
        exact SeqAt.RcNeAt.bool_bool c d
      | int d =>
        obtain ⟨t2, qt2⟩ := (show ∃ t, u' = .int d t from r2)
        cases qt2
        exact SeqAt.RcNeAt.bool_int c d t2
      | str d =>
        obtain ⟨t2, qt2⟩ := (show ∃ t, u' = .str d t from r2)
        cases qt2
        exact SeqAt.RcNeAt.bool_str c d t2
      | @lst ad xsd dsd had hdd =>
        cases (show u' = .ref ad from r2)
        obtain ⟨_, itsd, md, rvd, hod⟩ := (show ObjOk X.prog X.w H s.heap ad (.lst xsd) from I.hok _ _ had)
        have itd : s.heap.IsList ad itsd.toArray := ⟨_, hod, rfl, _, rfl⟩
        exact SeqAt.RcNeAt.bool_list c itd hu0
      | @tup ad xsd dsd had hdd =>
        cases (show u' = .ref ad from r2)
        obtain ⟨itsd, rvd, ⟨od, hod, hcd, md, hdtd⟩, _⟩ := I.tuple (hK ▸ had)
        have itd : s.heap.IsTuple ad itsd.toArray := ⟨od, hod, hcd, md, hdtd⟩
        exact SeqAt.RcNeAt.bool_tuple c itd hu0
      | _ => simp [dat] at hy
    | int c =>
      obtain ⟨t1, qt1⟩ := (show ∃ t, u = .int c t from r1)
      cases qt1
      cases h2 with
      | non =>
        cases (show u' = .none from r2)
        exact SeqAt.RcNeAt.int_none c t1
      | bl d =>
        cases (show u' = .bool d from r2)
        exact SeqAt.RcNeAt.int_bool c t1 d
      | int d =>
        obtain ⟨t2, qt2⟩ := (show ∃ t, u' = .int d t from r2)
        cases qt2
        exact SeqAt.RcNeAt.int_int c t1 d t2
      | str d =>
        obtain ⟨t2, qt2⟩ := (show ∃ t, u' = .str d t from r2)
        cases qt2
        exact SeqAt.RcNeAt.int_str c t1 d t2
      | @lst ad xsd dsd had hdd =>
        cases (show u' = .ref ad from r2)
        obtain ⟨_, itsd, md, rvd, hod⟩ := (show ObjOk X.prog X.w H s.heap ad (.lst xsd) from I.hok _ _ had)
        have itd : s.heap.IsList ad itsd.toArray := ⟨_, hod, rfl, _, rfl⟩
        exact SeqAt.RcNeAt.int_list c t1 itd hu0
      | @tup ad xsd dsd had hdd =>
        cases (show u' = .ref ad from r2)
        obtain ⟨itsd, rvd, ⟨od, hod, hcd, md, hdtd⟩, _⟩ := I.tuple (hK ▸ had)
        have itd : s.heap.IsTuple ad itsd.toArray := ⟨od, hod, hcd, md, hdtd⟩
        exact SeqAt.RcNeAt.int_tuple c t1 itd hu0
      | _ => simp [dat] at hy
    | str c =>
      obtain ⟨t1, qt1⟩ := (show ∃ t, u = .str c t from r1)
      cases qt1
      cases h2 with
      | non =>
        cases (show u' = .none from r2)
        exact SeqAt.RcNeAt.str_none c t1
      | bl d =>
        cases (show u' = .bool d from r2)
        exact SeqAt.RcNeAt.str_bool c t1 d
      | int d =>
        obtain ⟨t2, qt2⟩ := (show ∃ t, u' = .int d t from r2)
        cases qt2
        exact SeqAt.RcNeAt.str_int c t1 d t2
      | str d =>
        obtain ⟨t2, qt2⟩ := (show ∃ t, u' = .str d t from r2)
        cases qt2
        exact SeqAt.RcNeAt.str_str c t1 d t2
      | @lst ad xsd dsd had hdd =>
        cases (show u' = .ref ad from r2)
        obtain ⟨_, itsd, md, rvd, hod⟩ := (show ObjOk X.prog X.w H s.heap ad (.lst xsd) from I.hok _ _ had)
        have itd : s.heap.IsList ad itsd.toArray := ⟨_, hod, rfl, _, rfl⟩
        exact SeqAt.RcNeAt.str_list c t1 itd hu0
      | @tup ad xsd dsd had hdd =>
        cases (show u' = .ref ad from r2)
        obtain ⟨itsd, rvd, ⟨od, hod, hcd, md, hdtd⟩, _⟩ := I.tuple (hK ▸ had)
        have itd : s.heap.IsTuple ad itsd.toArray := ⟨od, hod, hcd, md, hdtd⟩
        exact SeqAt.RcNeAt.str_tuple c t1 itd hu0
      | _ => simp [dat] at hy
    | @lst ac xsc dsc hac hdc =>
      cases (show u = .ref ac from r1)
      obtain ⟨_, itsc, mc, rvc, hoc⟩ := (show ObjOk X.prog X.w H s.heap ac (.lst xsc) from I.hok _ _ hac)
      have itc : s.heap.IsList ac itsc.toArray := ⟨_, hoc, rfl, _, rfl⟩
      cases h2 with
      | non =>
        cases (show u' = .none from r2)
        exact SeqAt.RcNeAt.list_none itc hu0
      | bl d =>
        cases (show u' = .bool d from r2)
        exact SeqAt.RcNeAt.list_bool d itc hu0
      | int d =>
        obtain ⟨t2, qt2⟩ := (show ∃ t, u' = .int d t from r2)
        cases qt2
        exact SeqAt.RcNeAt.list_int d t2 itc hu0
      | str d =>
        obtain ⟨t2, qt2⟩ := (show ∃ t, u' = .str d t from r2)
        cases qt2
        exact SeqAt.RcNeAt.list_str d t2 itc hu0
      | @lst ad xsd dsd had hdd =>
        cases (show u' = .ref ad from r2)
        obtain ⟨_, itsd, md, rvd, hod⟩ := (show ObjOk X.prog X.w H s.heap ad (.lst xsd) from I.hok _ _ had)
        have itd : s.heap.IsList ad itsd.toArray := ⟨_, hod, rfl, _, rfl⟩
        have hx' : dsc.all (dat n) = true := by simpa only [dat] using hx
        have hy' : dsd.all (dat n) = true := by simpa only [dat] using hy
        have l1 : itsc.length = dsc.length := by rw [← rvc.length, hdc.length]
        have l2 : itsd.length = dsd.length := by rw [← rvd.length, hdd.length]
        simp only [deq]
        by_cases hl : itsc.length = itsd.length
        · have hl' : dsc.length = dsd.length := by omega
          rw [← deqL_same hl', ← l1]
          refine SeqAt.RcNeAt.lists (e := fun j => deq (dsc.getD j .non) (dsd.getD j .non)) itc itd (by simpa using hl) hu0 (fun j h1 h2 => ?_)
          simp only [List.size_toArray] at h1 h2
          have e1 : xsc[j]? = some (xsc[j]'(by rw [rvc.length]; exact h1)) := List.getElem?_eq_getElem _
          have e2 : xsd[j]? = some (xsd[j]'(by rw [rvd.length]; exact h2)) := List.getElem?_eq_getElem _
          obtain ⟨d1, q1, q2⟩ := hdc.get e1
          obtain ⟨d2, q3, q4⟩ := hdd.get e2
          obtain ⟨u1, p1, p2⟩ := rvc.get e1
          obtain ⟨u2, p3, p4⟩ := rvd.get e2
          have g1 : itsc.toArray[j] = u1 := by simpa using (List.getElem?_eq_some_iff.mp p1).2
          have g2 : itsd.toArray[j] = u2 := by simpa using (List.getElem?_eq_some_iff.mp p3).2
          have k1 : dsc.getD j .non = d1 := by simp [List.getD, q1]
          have k2 : dsd.getD j .non = d2 := by simp [List.getD, q3]
          rw [k1, k2, g1, g2]
          exact (den_eq I hK n) d1 d2 _ _ _ _ A.in1 (List.all_eq_true.mp hx' _ (List.mem_of_getElem? q1)) (List.all_eq_true.mp hy' _ (List.mem_of_getElem? q3)) q2 q4 p2 p4 (by show A.units + 1 + n < cLine; omega)
        · rw [deqL_len (by omega)]
          exact SeqAt.RcNeAt.lists_lengths itc itd (by simpa using hl) hu0
      | @tup ad xsd dsd had hdd =>
        cases (show u' = .ref ad from r2)
        obtain ⟨itsd, rvd, ⟨od, hod, hcd, md, hdtd⟩, _⟩ := I.tuple (hK ▸ had)
        have itd : s.heap.IsTuple ad itsd.toArray := ⟨od, hod, hcd, md, hdtd⟩
        exact SeqAt.RcNeAt.list_tuple itc itd hu0
      | _ => simp [dat] at hy
    | @tup ac xsc dsc hac hdc =>
      cases (show u = .ref ac from r1)
      obtain ⟨itsc, rvc, ⟨oc, hoc, hcc, mc, hdtc⟩, _⟩ := I.tuple (hK ▸ hac)
      have itc : s.heap.IsTuple ac itsc.toArray := ⟨oc, hoc, hcc, mc, hdtc⟩
      cases h2 with
      | non =>
        cases (show u' = .none from r2)
        exact SeqAt.RcNeAt.tuple_none itc hu0
      | bl d =>
        cases (show u' = .bool d from r2)
        exact SeqAt.RcNeAt.tuple_bool d itc hu0
      | int d =>
        obtain ⟨t2, qt2⟩ := (show ∃ t, u' = .int d t from r2)
        cases qt2
        exact SeqAt.RcNeAt.tuple_int d t2 itc hu0
      | str d =>
        obtain ⟨t2, qt2⟩ := (show ∃ t, u' = .str d t from r2)
        cases qt2
        exact SeqAt.RcNeAt.tuple_str d t2 itc hu0
      | @lst ad xsd dsd had hdd =>
        cases (show u' = .ref ad from r2)
        obtain ⟨_, itsd, md, rvd, hod⟩ := (show ObjOk X.prog X.w H s.heap ad (.lst xsd) from I.hok _ _ had)
        have itd : s.heap.IsList ad itsd.toArray := ⟨_, hod, rfl, _, rfl⟩
        exact SeqAt.RcNeAt.tuple_list itc itd hu0
      | @tup ad xsd dsd had hdd =>
        cases (show u' = .ref ad from r2)
        obtain ⟨itsd, rvd, ⟨od, hod, hcd, md, hdtd⟩, _⟩ := I.tuple (hK ▸ had)
        have itd : s.heap.IsTuple ad itsd.toArray := ⟨od, hod, hcd, md, hdtd⟩
        have hx' : dsc.all (dat n) = true := by simpa only [dat] using hx
        have hy' : dsd.all (dat n) = true := by simpa only [dat] using hy
        have l1 : itsc.length = dsc.length := by rw [← rvc.length, hdc.length]
        have l2 : itsd.length = dsd.length := by rw [← rvd.length, hdd.length]
        simp only [deq]
        rw [← deqL_all dsc dsd, ← l1, ← l2]
        refine SeqAt.RcNeAt.tuples (e := fun j => deq (dsc.getD j .non) (dsd.getD j .non)) itc itd hu0 (fun j h1 h2 => ?_)
        simp only [List.size_toArray] at h1 h2
        have e1 : xsc[j]? = some (xsc[j]'(by rw [rvc.length]; exact h1)) := List.getElem?_eq_getElem _
        have e2 : xsd[j]? = some (xsd[j]'(by rw [rvd.length]; exact h2)) := List.getElem?_eq_getElem _
        obtain ⟨d1, q1, q2⟩ := hdc.get e1
        obtain ⟨d2, q3, q4⟩ := hdd.get e2
        obtain ⟨u1, p1, p2⟩ := rvc.get e1
        obtain ⟨u2, p3, p4⟩ := rvd.get e2
        have g1 : itsc.toArray[j] = u1 := by simpa using (List.getElem?_eq_some_iff.mp p1).2
        have g2 : itsd.toArray[j] = u2 := by simpa using (List.getElem?_eq_some_iff.mp p3).2
        have k1 : dsc.getD j .non = d1 := by simp [List.getD, q1]
        have k2 : dsd.getD j .non = d2 := by simp [List.getD, q3]
        rw [k1, k2, g1, g2]
        exact (den_eq I hK n) d1 d2 _ _ _ _ A.in1 (List.all_eq_true.mp hx' _ (List.mem_of_getElem? q1)) (List.all_eq_true.mp hy' _ (List.mem_of_getElem? q3)) q2 q4 p2 p4 (by show A.units + 1 + n < cLine; omega)
      | _ => simp [dat] at hy
    | _ => simp [dat] at hx

end
end DL

/-! D3b: a dict against a tuple. -/
namespace DL
open PySem PySem.Spec PyProof.Rows L2
theorem dict_eq_tup (l b : Addr) (ol ob : Obj) (h1 : ol.cls = .type "dict") (h2 : ob.cls = .type "tuple") :
    Meets (Builtin.«dict.__eq__» ⟨[.ref l, .ref b], []⟩) (fun _ R s => s.heap.get? l = some ol ∧ s.heap.get? b = some ob ∧ R (.ok (.ret .notImplemented)) s) := by
  obtain ⟨c1, d1, t1, s1⟩ := ol
  obtain ⟨c2, d2, t2, s2⟩ := ob
  cases h1
  cases h2
  exact .of_wp fun prog w A R s h => by
    obtain ⟨hp, g, d, tk, os⟩ := s
    obtain ⟨hl, hb, h⟩ := h
    have f1 := F.sub_tuple_dict
    wp_walk using wpAny_loadPart' hl, wpAny_loadPart' hb
    exact ⟨_, rfl, h⟩
theorem tup_eq_dict (l b : Addr) (ol ob : Obj) (h1 : ol.cls = .type "tuple") (h2 : ob.cls = .type "dict") :
    Meets (Builtin.«tuple.__eq__» ⟨[.ref l, .ref b], []⟩) (fun _ R s => s.heap.get? l = some ol ∧ s.heap.get? b = some ob ∧ R (.ok (.ret .notImplemented)) s) := by
  obtain ⟨c1, d1, t1, s1⟩ := ol
  obtain ⟨c2, d2, t2, s2⟩ := ob
  cases h1
  cases h2
  exact .of_wp fun prog w A R s h => by
    obtain ⟨hp, g, d, tk, os⟩ := s
    obtain ⟨hl, hb, h⟩ := h
    have f1 := F.sub_dict_tuple
    wp_walk using wpAny_loadPart' hl, wpAny_loadPart' hb
    exact ⟨_, rfl, h⟩
section
variable {A : Around} {s : Shared} {l b : Addr} {ol ob : Obj}
theorem rc_dict_tup (hl : s.heap.get? l = some ol) (hb : s.heap.get? b = some ob) (h1 : ol.cls = .type "dict") (h2 : ob.cls = .type "tuple") (hu : A.units < cLine) : SeqAt.RcAt A s (.ref l) (.ref b) false := fun prog w E Q h => by
  have hne : l ≠ b := fun e => by
    subst e
    rw [hl] at hb
    cases hb
    rw [h1] at h2
    exact absurd h2 (by simp)
  refine SeqAt.rc_eq_decline_or (k := false) ⟨_, hl, h1⟩ ⟨_, hb, h2⟩ (by decide) F.sub_tuple_dict F.slot_dict_eq F.slot_tuple_eq_refl (fun _ hq => ?_) (fun _ hq => ?_) (fun _ hq => ?_) (.inr hu) h
  · exact call_meets F.slot_dict_eq ⟨_, hl, h1⟩ F.entry_dict_eq (F.args_dict_eq_2 _ _) (dict_eq_tup l b ol ob h1 h2) ⟨hl, hb, hq⟩
  · exact call_meets F.slot_tuple_eq_refl ⟨_, hb, h2⟩ F.entry_tuple_eq (F.args_tuple_eq_2 _ _) (tup_eq_dict b l ob ol h2 h1) ⟨hb, hl, hq⟩
  · exact wpAny_isSame_ref_other (fun e => hne e) hl hb (by rw [h1]; simp) hq
end
end DL

/-! D4: operators and built-ins over values. -/
namespace DL
open PySem PySem.Spec PyProof.Rows L2

section
variable {G : Ctx} {W : WX} {X : Cx} {e a b c : Expr} {t ta tb tc : TP} {al al' ala alb : List Nat} {pos : Pos}

theorem den_int {G : Ctx} {H : Hp} {v : V} {i : Int} (h : Den G H v (.int i)) : v = .int i := by cases h; rfl
theorem den_bl {G : Ctx} {H : Hp} {v : V} {i : Bool} (h : Den G H v (.bl i)) : v = .bl i := by cases h; rfl
theorem den_str {G : Ctx} {H : Hp} {v : V} {i : Str} (h : Den G H v (.str i)) : v = .str i := by cases h; rfl
theorem den_non {G : Ctx} {H : Hp} {v : V} (h : Den G H v .non) : v = .non := by cases h; rfl
theorem den_tup {G : Ctx} {H : Hp} {v : V} {ds : List D} (h : Den G H v (.tup ds)) : ∃ a xs, v = .ref a ∧ SqT G.K H a xs ∧ DenL G H xs ds := by cases h with | tup h1 h2 => exact ⟨_, _, rfl, h1, h2⟩
theorem den_lst {G : Ctx} {H : Hp} {v : V} {ds : List D} (h : Den G H v (.lst ds)) : ∃ a xs, v = .ref a ∧ H a = some (.lst xs) ∧ DenL G H xs ds := by cases h with | lst h1 h2 => exact ⟨_, _, rfl, h1, h2⟩
theorem den_dct {G : Ctx} {H : Hp} {v : V} {ds : List (D × D)} (h : Den G H v (.dct ds)) : ∃ a kvs, v = .ref a ∧ Rd H a (.dK kvs) ∧ DenK G H kvs ds := by cases h with | dct h1 h2 => exact ⟨_, _, rfl, h1, h2⟩
theorem den_scr {G : Ctx} {H : Hp} {v : V} {ns : List Int} (h : Den G H v (.scr ns)) : ∃ a, v = .ref a ∧ SqL G.K H a (ns.map V.int) := by cases h with | scr h1 => exact ⟨_, rfl, h1⟩
theorem den_ty {G : Ctx} {H : Hp} {v : V} {n : String} (h : Den G H v (.ty n)) : v = .ty n := by cases h; rfl
theorem DenL.app {G : Ctx} {H : Hp} : ∀ {xs ys : List V} {ds es : List D}, DenL G H xs ds → DenL G H ys es → DenL G H (xs ++ ys) (ds ++ es)
  | _, _, _, _, .nil, h => h
  | _, _, _, _, .cons h r, h' => .cons h (r.app h')
theorem DenL.dropL {G : Ctx} {H : Hp} : ∀ (n : Nat) {xs : List V} {ds : List D}, DenL G H xs ds → DenL G H (xs.drop n) (ds.drop n)
  | 0, _, _, h => h
  | _ + 1, _, _, .nil => .nil
  | n + 1, _, _, .cons _ r => r.dropL n
theorem DenL.takeL {G : Ctx} {H : Hp} : ∀ (n : Nat) {xs : List V} {ds : List D}, DenL G H xs ds → DenL G H (xs.take n) (ds.take n)
  | 0, _, _, h => .nil
  | _ + 1, _, _, .nil => .nil
  | n + 1, _, _, .cons h r => .cons h (r.takeL n)
theorem DenL.nil_iff {G : Ctx} {H : Hp} {xs : List V} {ds : List D} (h : DenL G H xs ds) : xs = [] ↔ ds = [] := by
  cases h with
  | nil => simp
  | cons _ _ => simp
/-- a new object, as a value -/
theorem new_den {Z : Addr → Prop} {σ : SS} {env : DEnv} {H : Hp} {T : Nat} (R : ER G T Z σ H env) {p : Addr} {o : HO} {d : D} (hp : H p = none) (r : RootO G (Vw H σ env al Z) p o d) : Grow G T H (upd H p o) ∧ Den G (Vw (upd H p o) σ env al Z) (.ref p) d := by
  have g := R.new (o := o) hp r.nf.2
  exact ⟨g, (r.sub (vw_sub R g subS)).den (vw_new R hp)⟩
theorem new_tup {Z : Addr → Prop} {σ : SS} {env : DEnv} {H : Hp} {T : Nat} (R : ER G T Z σ H env) {p : Addr} {xs : List V} {ds : List D} (hp : H p = none) (r : DenL G (Vw H σ env al Z) xs ds) : Grow G T H (upd H p (.tup xs)) ∧ Den G (Vw (upd H p (.tup xs)) σ env al Z) (.ref p) (.tup ds) := by
  have g := R.new (o := .tup xs) hp
  exact ⟨g, .tup (SqT.of (vw_new R hp)) (r.sub (vw_sub R g subS))⟩

/-! ### + -/
def fAdd : F2
  | .int i, .int j, P => P (.int (i + j))
  | .str i, .str j, P => i.length + j.length ≤ sizeLine ∧ P (.str (i ++ j))
  | .lst xs, .lst ys, P => xs.length + ys.length ≤ sizeLine ∧ P (.lst (xs ++ ys))
  | .tup xs, .tup ys, P => xs.length + ys.length ≤ sizeLine ∧ P (.tup (xs ++ ys))
  | _, _, _ => False
def rAddX (K : PySem.W.Frag) : R2 := fun x y H Q => rI0 (fun i j => .int (i + j)) x y H Q ∨ (∃ i j, x = .str i ∧ y = .str j ∧ i.length + j.length ≤ sizeLine ∧ Q (.str (i ++ j)) H) ∨ rCat x y H Q ∨ rCatA K x y H Q
theorem op_addX : OpR X (binaryOp .Add) (rAddX X.K) := op_add.or (op_add_str.or (op_cat.or op_catA))
theorem o_add (hK : G.K = X.K) : Op2 G (rAddX X.K) fAdd := by
  intro T Z σ env al H v w x y P Q R h1 h2 hf k
  unfold fAdd at hf
  split at hf
  · cases h1; cases h2
    exact .inl ⟨_, _, rfl, rfl, k _ _ H R.self (.int _) hf⟩
  · cases h1; cases h2
    exact .inr (.inl ⟨_, _, rfl, rfl, hf.1, k _ _ H R.self (.str _) hf.2⟩)
  · obtain ⟨a, vs, rfl, ha, hv⟩ := den_lst h1
    obtain ⟨b, ws, rfl, hb, hw⟩ := den_lst h2
    refine .inr (.inr (.inl ⟨a, b, vs, ws, rfl, rfl, vw_up _ _ ha, vw_up _ _ hb, by rw [hv.length, hw.length]; exact hf.1, fun p hp => ?_⟩))
    obtain ⟨g, dn⟩ := new_den (al := al) R (o := .lst (vs ++ ws)) (d := .lst _) hp ⟨_, rfl, hv.app hw⟩
    exact k _ _ _ g dn hf.2
  · obtain ⟨a, vs, rfl, ha, hv⟩ := den_tup h1
    obtain ⟨b, ws, rfl, hb, hw⟩ := den_tup h2
    refine .inr (.inr (.inr ⟨a, b, vs, ws, rfl, rfl, by rw [← hK]; exact SqT.sub vw_up ha, by rw [← hK]; exact SqT.sub vw_up hb, by rw [hv.length, hw.length]; exact hf.1, fun e => ?_, fun e e' => ?_, fun _ _ p hp => ?_⟩))
    · have e2 := hv.nil_iff.mp e
      refine k _ _ H R.self h2 ?_
      have := hf.2
      rw [e2] at this
      exact this
    · have e2 := hw.nil_iff.mp e'
      refine k _ _ H R.self h1 ?_
      have := hf.2
      rw [e2, List.append_nil] at this
      exact this
    · obtain ⟨g, dn⟩ := new_tup (al := al) R hp (hv.app hw)
      exact k _ _ _ g dn hf.2
  · exact hf.elim

/-! ### ints -/
def fI (C : Int → Int → Prop) (g : Int → Int → D) : F2
  | .int i, .int j, P => C i j ∧ P (g i j)
  | _, _, _ => False
theorem o_int {C : Int → Int → Prop} {g : Int → Int → V} {g' : Int → Int → D} (hg : ∀ i j H, Den G H (g i j) (g' i j)) : Op2 G (rI C g) (fI C g') := by
  intro T Z σ env al H v w x y P Q R h1 h2 hf k
  unfold fI at hf
  split at hf
  · cases h1; cases h2
    exact ⟨_, _, rfl, rfl, hf.1, k _ _ H R.self (hg _ _ _) hf.2⟩
  · exact hf.elim
theorem o_int0 {g : Int → Int → V} {g' : Int → Int → D} (hg : ∀ i j H, Den G H (g i j) (g' i j)) : Op2 G (rI0 g) (fI (fun _ _ => True) g') := by
  intro T Z σ env al H v w x y P Q R h1 h2 hf k
  unfold fI at hf
  split at hf
  · cases h1; cases h2
    exact ⟨_, _, rfl, rfl, k _ _ H R.self (hg _ _ _) hf.2⟩
  · exact hf.elim
abbrev T0 : Int → Int → Prop := fun _ _ => True
abbrev fSub : F2 := fI T0 fun i j => .int (i - j)
def fMul : F2
  | .int i, .int j, P => CMul i j ∧ P (.int (i * j))
  | .tup xs, .int k, P => xs ≠ [] ∧ 2 ≤ k ∧ k ≤ 1000 ∧ xs.length ≤ 1000 ∧ P (.tup (List.replicate k.toNat xs).flatten)
  | _, _, _ => False
theorem DenL.rep {h : Hp} {xs : List V} {ds : List D} (r : DenL G h xs ds) : ∀ n : Nat, DenL G h (List.replicate n xs).flatten (List.replicate n ds).flatten
  | 0 => .nil
  | n + 1 => by
    rw [List.replicate_succ, List.replicate_succ, List.flatten_cons, List.flatten_cons]
    exact r.app (DenL.rep r n)
def rMulX (K : PySem.W.Frag) : R2 := fun x y H Q => rI CMul (fun i j => .int (i * j)) x y H Q ∨ rRepT K x y H Q
theorem op_mulT {X : Cx} : OpR X (binaryOp .Mult) (rMulX X.K) := op_mul.or op_repT
theorem o_mul {X : Cx} (hK : G.K = X.K) : Op2 G (rMulX X.K) fMul := by
  intro T Z σ env al H v w x y P Q R h1 h2 hf k
  unfold fMul at hf
  split at hf
  · cases h1; cases h2
    exact .inl ⟨_, _, rfl, rfl, hf.1, k _ _ H R.self (.int _) hf.2⟩
  · cases h2
    obtain ⟨a, vs, rfl, ha, hv⟩ := den_tup h1
    refine .inr ⟨a, _, vs, rfl, rfl, by rw [← hK]; exact SqT.sub vw_up ha, fun e => hf.1 (hv.nil_iff.mp e), hf.2.1, hf.2.2.1, by rw [hv.length]; exact hf.2.2.2.1, fun p hp => ?_⟩
    obtain ⟨g, dn⟩ := new_tup (al := al) R hp (hv.rep _)
    exact k _ _ _ g dn hf.2.2.2.2
  · exact hf.elim
abbrev fDiv : F2 := fI CDivW fun i j => .int (i / j)
abbrev fMod : F2 := fI (fun _ j => 0 < j) fun i j => .int (i % j)
/-- ** of an int that may be great -/
def CPowW (i j : Int) : Prop := 0 ≤ j ∧ (Builtin.Int.intBits i : Int) * j ≤ 2 ^ 27
theorem op_powW {X : Cx} : OpR X (binaryOp .Pow) (rI CPowW fun i j => .int (i ^ j.toNat)) := opI fun _ _ _ _ _ _ _ hc q => pow_int hc.1 hc.2 q
abbrev fPow : F2 := fI CPowW fun i j => .int (i ^ j.toNat)
/-- order: ints, texts -/
def fLt : F2
  | .int i, .int j, P => P (.bl (decide (i < j)))
  | .str i, .str j, P => P (.bl (decide (i.cps.toList < j.cps.toList)))
  | _, _, _ => False
def fLe : F2
  | .int i, .int j, P => P (.bl (decide (i ≤ j)))
  | .str i, .str j, P => P (.bl (!decide (j.cps.toList < i.cps.toList)))
  | _, _, _ => False
def fGt : F2
  | .int i, .int j, P => P (.bl (decide (j < i)))
  | _, _, _ => False
def fGe : F2
  | .int i, .int j, P => P (.bl (decide (j ≤ i)))
  | _, _, _ => False
def rLtX : R2 := fun x y H Q => rI0 (fun i j => .bl (decide (i < j))) x y H Q ∨ ∃ i j, x = .str i ∧ y = .str j ∧ Q (.bl (decide (i.cps.toList < j.cps.toList))) H
theorem op_ltX : OpR X (compareOp .Lt) rLtX := op_lt.or op_lt_str
theorem o_lt : Op2 G rLtX fLt := by
  intro T Z σ env al H v w x y P Q R h1 h2 hf k
  unfold fLt at hf
  split at hf
  · cases h1; cases h2; exact .inl ⟨_, _, rfl, rfl, k _ _ H R.self (.bl _) hf⟩
  · cases h1; cases h2; exact .inr ⟨_, _, rfl, rfl, k _ _ H R.self (.bl _) hf⟩
  · exact hf.elim
def rLeX : R2 := fun x y H Q => rI0 (fun i j => .bl (decide (i ≤ j))) x y H Q ∨ ∃ i j, x = .str i ∧ y = .str j ∧ Q (.bl (!decide (j.cps.toList < i.cps.toList))) H
theorem op_leX : OpR X (compareOp .LtE) rLeX := op_le.or op_le_str
theorem o_le : Op2 G rLeX fLe := by
  intro T Z σ env al H v w x y P Q R h1 h2 hf k
  unfold fLe at hf
  split at hf
  · cases h1; cases h2; exact .inl ⟨_, _, rfl, rfl, k _ _ H R.self (.bl _) hf⟩
  · cases h1; cases h2; exact .inr ⟨_, _, rfl, rfl, k _ _ H R.self (.bl _) hf⟩
  · exact hf.elim
theorem o_gt : Op2 G (rI0 fun i j => .bl (decide (j < i))) fGt := by
  intro T Z σ env al H v w x y P Q R h1 h2 hf k
  unfold fGt at hf
  split at hf
  · cases h1; cases h2; exact ⟨_, _, rfl, rfl, k _ _ H R.self (.bl _) hf⟩
  · exact hf.elim
theorem o_ge : Op2 G (rI0 fun i j => .bl (decide (j ≤ i))) fGe := by
  intro T Z σ env al H v w x y P Q R h1 h2 hf k
  unfold fGe at hf
  split at hf
  · cases h1; cases h2; exact ⟨_, _, rfl, rfl, k _ _ H R.self (.bl _) hf⟩
  · exact hf.elim

/-! ### == -/
abbrev DD : Nat := 60
/-- what may stand at both sides of == -/
def eqk : D → D → Bool
  | .dct _, .tup _ => true
  | .lst _, .lst [] => true
  | x, y => dat DD x && dat DD y
def fEq : F2 := fun x y P => eqk x y = true ∧ P (.bl (deq x y))
/-- what may stand before != -/
def neA : D → D → Bool
  | .lst _, .lst [] => true
  | x, _ => dat DD x
def fNe : F2 := fun x y P => neA x y = true ∧ dat DD y = true ∧ P (.bl (!deq x y))
def rEqX (G : Ctx) : R2 := fun v w H Q => ∃ x y, eqk x y = true ∧ Den G H v x ∧ Den G H w y ∧ Q (.bl (deq x y)) H
def rNeX (G : Ctx) : R2 := fun v w H Q => ∃ x y, neA x y = true ∧ dat DD y = true ∧ Den G H v x ∧ Den G H w y ∧ Q (.bl (!deq x y)) H
end
end DL

/-! D5: what a def promises (no repr is under way around it); its call; its body. -/
namespace DL
open PySem PySem.Spec PyProof.Rows L2

structure FnG (P : Program) (w : World) (K : PySem.W.Frag) (mg : Str → Option Value) (base : Heap) (k : Nat) (f : Addr) (fd : FuncData) (ps : List Str) (sp : Sp) : Prop where
  len : ∀ vs H Q E, sp vs H Q E → vs.length = ps.length
  run : ∀ (A : Around) (outer : List Env) (s : Shared) (H : Hp) (args : Args) (us : List Value) (vs : List V) (Q : VK) (E : XK), A.guards = some [] → Room k A → Env0 P w K mg base A outer s H →
    BindsTo s fd args (ps.zip us) → Vals vs us → sp vs H Q E → codeAny (model P w) A (.call (.ref f) args) (CR (L2.CX P w) outer P w H s Q E) s
theorem FnG.mono {P : Program} {w : World} {K : PySem.W.Frag} {mg : Str → Option Value} {base : Heap} {j k : Nat} {f : Addr} {fd : FuncData} {ps : List Str} {sp : Sp} (F : FnG P w K mg base j f fd ps sp) (h : j ≤ k) : FnG P w K mg base k f fd ps sp :=
  ⟨F.len, fun A o s H args us vs Q E g r => F.run A o s H args us vs Q E g (r.mono h)⟩
theorem FnG.imp {P : Program} {w : World} {K : PySem.W.Frag} {mg : Str → Option Value} {base : Heap} {k : Nat} {f : Addr} {fd : FuncData} {ps : List Str} {sp sp' : Sp} (F : FnG P w K mg base k f fd ps sp)
    (h : ∀ vs H Q E, sp' vs H Q E → sp vs H Q E) : FnG P w K mg base k f fd ps sp' :=
  ⟨fun vs H Q E q => F.len vs H Q E (h _ _ _ _ q), fun A o s H args us vs Q E g r e b v q => F.run A o s H args us vs Q E g r e b v (h _ _ _ _ q)⟩
theorem FnOk.toG {P : Program} {w : World} {K : PySem.W.Frag} {mg : Str → Option Value} {base : Heap} {k : Nat} {f : Addr} {fd : FuncData} {ps : List Str} {sp : Sp} (F : FnOk P w K mg base (L2.CX P w) k f fd ps sp) : FnG P w K mg base k f fd ps sp :=
  ⟨F.len, fun A o s H args us vs Q E _ r e b v q => F.run A o s H args us vs Q E r e b v q⟩

section
variable {X : Cx} {W : WX} {k : Nat} {f C : Addr} {fd : FuncData} {ps : List Str} {sp : Sp} {x m : Str} {p pos apos : Pos} {e o : Expr} {es : List Expr} {ta : TE} {t : TA}
/-- behind a callee's end, in the caller -/
theorem g_end {pins : List (Addr × Obj)} {σ : SS} {H : Hp} {s s' : Shared} {Q : VK} {r : Result} (tk : Takes X W) (I : Inv X pins σ H s) (h : CR (L2.CX X.prog X.w) X.stack X.prog X.w H s Q (WE W σ) r s') :
    (match r with | .ok (.ret u) => EP X pins σ Q u s' | .ok _ => False | .error e => X.xe e s') := by
  cases r with
  | error e => exact passAt tk σ pins H s e s' I h
  | ok fl =>
    cases fl with
    | ret u => exact I.after h
    | next => exact h
    | brk => exact h
    | cont => exact h
theorem run_g {pins : List (Addr × Obj)} {σ : SS} {H : Hp} {s : Shared} {Q : VK} {us : List Value} {vs : List V} (F : FnG X.prog X.w X.K X.mg X.base k f fd ps sp) (hr : Room k X.A) (hg : X.A.guards = some []) (hb : Binds X.K fd ps []) (tk : Takes X W)
    (I : Inv X pins σ H s) (r : Vals vs us) (h : sp vs H Q (WE W σ)) : wpAny (model X.prog X.w) X.A (call (.ref f) us) (EP X pins σ Q) X.xe s := by
  have hl : us.length = ps.length := r.length ▸ F.len _ _ _ _ h
  have b : BindsTo s fd ⟨us, []⟩ (ps.zip us) := by
    have q := hb s us I.kIn (by simpa using hl)
    simpa using q
  refine wpAny_call (codeAny_mono (F.run X.A X.stack s H ⟨us, []⟩ us vs Q (WE W σ) hg hr I.env0 b r h) fun r s' q => ?_)
  have z := g_end tk I q
  cases r with
  | error e => exact z
  | ok fl => cases fl <;> first | exact z | exact z.elim
/-- f(..): by the promise -/
def tG (sp : Sp) (W : WX) (t : TA) : TE := fun σ H Q => t σ H fun vs H1 => sp vs H1 Q (WE W σ)
theorem plain_star : ∀ (es : List Expr) (env : Env) (pos : Pos), (∀ e ∈ es, ∀ v p, e ≠ .Starred v p) → (backTo pos (starEach es env)).any (·.1) = false := by
  intro es env pos h
  induction es with
  | nil => rfl
  | cons e r ih =>
    have hr := ih fun e he => h e (List.mem_cons_of_mem _ he)
    cases e <;> first
      | exact absurd rfl (h _ List.mem_cons_self _ _)
      | exact hr
theorem star_cons (e : Expr) (es : List Expr) (env : Env) (h : ∀ v p, e ≠ .Starred v p) : starEach (e :: es) env = (false, eval e env) :: starEach es env := by
  cases e <;> first
    | exact absurd rfl (h _ _)
    | rfl
theorem pe_g (F : FnG X.prog X.w X.K X.mg X.base k f fd ps sp) (hr : Room k X.A) (hgd : X.A.guards = some []) (hg : Gl X x) (hm : X.mg x = some (.ref f)) (hk : PySem.W.keepIn X.K (.ref f) = true) (hb : Binds X.K fd ps []) (tk : Takes X W)
    (ha : PA X (e :: es) t) (hns : ∀ a ∈ e :: es, ∀ v p, a ≠ .Starred v p) (hdb : (x == ("__debug__" : Str)) = false) : PE X (.Call (.Name x p) (e :: es) [] pos) (tG sp W t) := by
  refine ⟨fun pins s σ H Q I h => wpAny_Call_Name_kw (ld_glob I hg hm ?_ hdb)⟩
  refine PySem.W.callWith_K (h₀ := X.base) I.ok.mod.kin hk (thn (ha.run pos pins s σ H _ I h) fun us s1 ⟨vs, H1, I1, r, q⟩ => ⟨I1.kIn, ?_⟩) (star_cons e es X.env (hns e List.mem_cons_self)) (plain_star es X.env pos fun a h => hns a (List.mem_cons_of_mem _ h))
  exact run_g F hr hgd hb tk I1 r q
theorem pe_g0 (F : FnG X.prog X.w X.K X.mg X.base k f fd ps sp) (hr : Room k X.A) (hgd : X.A.guards = some []) (hg : Gl X x) (hm : X.mg x = some (.ref f)) (hk : PySem.W.keepIn X.K (.ref f) = true) (hb : Binds X.K fd ps []) (tk : Takes X W)
    (hdb : (x == ("__debug__" : Str)) = false) : PE X (.Call (.Name x p) [] [] pos) (tG sp W tNil) :=
  ⟨fun pins s σ H Q I h => wpAny_Call_Name_kw (ld_glob I hg hm (PySem.W.callWith_K0 I.kIn hk (run_g (us := []) F hr hgd hb tk I .nil h)) hdb)⟩
/-- f(k = v, ..), all by keywords -/
def tGK (n : Nat) (sp : Sp) (gV : List V → List V) (W : WX) (t : TA) : TE := fun σ H Q => t σ H fun zs H1 => zs.length = n ∧ sp (gV zs) H1 Q (WE W σ)
end

theorem guards_deeper (A : Around) (env : Env) : (A.deeper env).guards = A.guards := rfl

section
variable {P : Program} {w : World} {K : PySem.W.Frag} {mg : Str → Option Value} {base : Heap}
/-- the rule for a def's body -/
theorem fnG_of {k : Nat} {f : Addr} {name qual : Str} {params : Arguments} {body : List Stmt} {scope : Scope} {dV kV doc pm cdv ct oc : Value} {an od : Option Addr}
    {osl : Array (Option Value)} {N ps : List Str} {sp : Sp} (lk : K.lookup f = some ⟨oc, od, .func (PySem.W.fnOf name qual params body scope dV kV doc pm an cdv ct), osl⟩) (hcd : PySem.W.codeIn K cdv qual = true) (S : FnScope N ps scope)
    (len : ∀ vs H Q E, sp vs H Q E → vs.length = ps.length)
    (hbody : ∀ (A : Around) (outer : List Env) (s : Shared) (H : Hp) (vs : List V) (Q : VK) (E : XK), A.guards = some [] → Room k (A.deeper (envOfC qual scope s.heap.objs.size f cdv)) → sp vs H Q E →
      ∃ t, PSs (cxOf (L2.CX P w) P w K mg base N qual scope f cdv A outer s H E) body t ∧ t { nx := fun _ H' => Q .non H', rt := Q } (start N vs) H) :
    FnG P w K mg base (k + 1) f (PySem.W.fnOf name qual params body scope dV kV doc pm an cdv ct) ps sp := by
  refine ⟨len, fun A outer s H args us vs Q E gd hr e0 hb r hsp => ?_⟩
  have KX : K.In s.heap := e0.mod.kin.keeps fun b o q => (e0.bs b o q).1
  have lim : s.heap.NoLimit := e0.mod.nolimit.keeps fun b o q => (e0.bs b o q).1
  have kinds : ∀ y ∈ ps.zip us, scope.names.lookup y.1 = some .local ∨ (scope.names.lookup y.1 = some .cell ∧ ((cellsFrom (s.heap.objs.size + 1) scope.names []).lookup y.1).isSome = true) := by
    intro y hy
    obtain ⟨n, v⟩ := y
    exact (S.par n (List.of_mem_zip hy).1).imp id fun q => ⟨q, PySem.W.cellsFrom_some _ _ _ (.inl q)⟩
  refine codeAny_call_function hr.depth (KX _ _ lk) rfl S.co S.gen rfl (PySem.W.codeRec_of KX hcd) (hb _ _ _ _ (wpAny_newFunctionEnv_cells S.kind kinds fun env he s1 x => ?_))
  subst he
  obtain ⟨t, ht, hq⟩ := hbody A outer s H vs Q E gd (hr.deeper _) hsp
  have J0 := inv_start (CX := L2.CX P w) (K := K) (mg := mg) (f := f) (cd := cdv) (qual := qual) (E := E) S hr.hd e0 (len _ _ _ _ hsp) r x
  refine ⟨lim.keeps x.toInCall.keep, codeAny_func (wpAny_mono (ht.run [] s1 (start N vs) H _ J0 hq) (fun fl s' z => ?_) fun _ _ z => z)⟩
  cases fl with
  | ret u =>
    obtain ⟨v, σ', H', J, rv, q⟩ := z
    exact ⟨v, H', J.os, J.bare, J.base, J.hok, rv, q⟩
  | next =>
    obtain ⟨σ', H', J, q⟩ := z
    exact ⟨V.non, H', J.os, J.bare, J.base, J.hok, rfl, q⟩
  | brk =>
    obtain ⟨_, _, _, q⟩ := z
    exact False.elim q
  | cont =>
    obtain ⟨_, _, _, q⟩ := z
    exact False.elim q
theorem _root_.L2.Fun.okG {x qual : Str} {st : Stmt} {f : Addr} {fd : FuncData} {N ps : List Str} {k : Nat} {sp : Sp} (F : Fun K x qual st f fd) (S : FnScope N ps (defScope st)) (len : ∀ vs H Q E, sp vs H Q E → vs.length = ps.length)
    (hbody : ∀ (cdv : Value) (A : Around) (outer : List Env) (s : Shared) (H : Hp) (vs : List V) (Q : VK) (E : XK), A.guards = some [] → Room k (A.deeper (envOfC qual (defScope st) s.heap.objs.size f cdv)) → sp vs H Q E →
      ∃ t, PSs (cxOf (L2.CX P w) P w K mg base N qual (defScope st) f cdv A outer s H E) (defBody st) t ∧ t { nx := fun _ H' => Q .non H', rt := Q } (start N vs) H) : FnG P w K mg base (k + 1) f fd ps sp := by
  obtain ⟨oc, od, kV, doc, pm, an, cdv, ct, osl, rfl, lk, hcd⟩ := F.ex
  exact fnG_of lk hcd S len fun A outer s H vs Q E g hr hsp => hbody cdv A outer s H vs Q E g hr hsp
end
end DL

/-! D6: calls, tests, comprehensions, statements: lifted. -/
namespace DL
open PySem PySem.Spec PyProof.Rows L2

/-- a def's promise over values -/
abbrev FSp := List D → (D → Prop) → (XD → Prop) → Prop
def liftSp (G : Ctx) (c n : Nat) (sp : FSp) : Sp := fun vs H Q E => ∃ (T m : Nat) (Z : Addr → Prop) (ds : List D) (P : D → Prop) (EP : XD → Prop), (T + c ≤ m ∧ m ≤ G.top) ∧ ZOk G Z ∧ (∀ a, Z a → H a ≠ none) ∧ G.ok T H ∧ DenL G (hid H Z) vs ds ∧ ds.length = n ∧ sp ds P EP ∧
  (∀ v d H', Grow G m H H' → Den G (hid H' Z) v d → P d → Q v H') ∧ ∀ (x : XD) (cls : Value) (dd : Option Addr) (H' : Hp), Grow G m H H' → XDen G (hid H' Z) cls dd x → EP x → E cls dd H'
theorem liftSp_len {G : Ctx} {c n : Nat} {sp : FSp} {vs : List V} {H : Hp} {Q : VK} {E : XK} (h : liftSp G c n sp vs H Q E) : vs.length = n := by
  obtain ⟨_, _, Z, ds, P, EP, _, _, _, _, hd, hl, _⟩ := h
  rw [hd.length, hl]
section
variable {G : Ctx} {W : WX} {X : Cx} {e a b c : Expr} {t ta tb tc : TP} {al al' ala alb : List Nat} {u : TPL} {n : Nat} {sp : FSp} {u0 u1 u2 u3 : Nat}
def dG (sp : FSp) (n : Nat) (u : TPL) : TP := fun env P EP => u env (fun ds => ds.length = n ∧ sp ds P EP) EP
theorem lift_g (h : PE X e (tG (liftSp G u2 n sp) W (liftA G u1 W al u))) : PE X e (liftP G (u1 + u2) W al (dG sp n u)) := h.imp fun σ H Q ⟨T, m, Z, env, P, EP, ⟨hm, ht⟩, R, q, k, x⟩ =>
  ⟨T, T + u1, Z, env, _, EP, ⟨Nat.le_refl _, by omega⟩, R, q, fun vs ds H1 g1 hv ⟨hl, q1⟩ => by
    have R1 := R.growG g1
    refine ⟨T + u1, m, Hx σ env al Z, ds, P, EP, by omega, R.zok, fun a z => z.elim (fun o => own_some R1 o.own) (R1.zd a), R1.ok, hv, hl, q1, fun v d H2 g2 hd p => k v d H2 (g1.trans g2) hd p, fun y cls dd H2 g2 hx p => ?_⟩
    exact x y cls dd H2 (g1.trans g2) (hx.sub vw_base) p, x.le (by omega)⟩

/-! ### truth -/
def truth : D → Option Bool
  | .non => some false
  | .bl b => some b
  | .int i => some (i != 0)
  | .str x => if x.length ≤ sizeLine then some ((x.length : Int) != 0) else none
  | .tup xs => some (!xs.isEmpty)
  | .lst xs => some (!xs.isEmpty)
  | _ => none
theorem truV {G : Ctx} {H : Hp} {v : V} {d : D} {k : Bool} (hK : G.K = X.K) (h : Den G H v d) (e : truth d = some k) : TruV X.K v H k := by
  have em : ∀ {xs : List V} {ds : List D}, DenL G H xs ds → xs.isEmpty = ds.isEmpty := fun r => by cases r <;> rfl
  cases h with
  | non => cases e; rfl
  | bl b => cases e; rfl
  | int i => cases e; rfl
  | str x =>
    simp only [truth] at e
    split at e
    · rename_i hx
      cases e; exact ⟨hx, rfl⟩
    · cases e
  | tup h1 h2 => cases e; exact .inr (.inl ⟨_, hK ▸ h1, by rw [em h2]⟩)
  | lst h1 h2 => cases e; exact .inl ⟨_, SqL.of h1, by rw [em h2]⟩
  | _ => cases e
theorem TruV.sub {K : PySem.W.Frag} {x : V} {H H' : Hp} {k : Bool} (s : Sub H H') (h : TruV K x H k) : TruV K x H' k := by
  cases x with
  | ref p =>
    rcases h with ⟨xs, h1, h2⟩ | ⟨xs, h1, h2⟩ | ⟨kvs, h1, h2⟩
    · exact .inl ⟨xs, SqL.sub s h1, h2⟩
    · exact .inr (.inl ⟨xs, SqT.sub s h1, h2⟩)
    · exact .inr (.inr ⟨kvs, s _ _ h1, h2⟩)
  | _ => exact h
def dTru (t : TP) : TPT := fun env P EP => t env (fun d => ∃ k, truth d = some k ∧ P k) EP
theorem lift_tru (hK : G.K = X.K) (ha : PE X a (liftP G u0 W al t)) (he : ∀ whole, isTrue a X.env whole = (do let v ← whole; standAt a.pos; holding [v] (truthy v))) : PT X a (liftT G u0 W (dTru t)) :=
  (pt_truth ha he).imp fun σ H Q ⟨T, m, Z, env, P, EP, ⟨hm, ht⟩, R, q, k, x⟩ => ⟨T, m, Z, env, _, EP, ⟨hm, ht⟩, R, q, fun v d H1 g1 hd ⟨b, e, p⟩ => ⟨b, DL.TruV.sub vw_up (truV hK hd e), k b H1 g1 p⟩, x⟩
def dNotT (t : TPT) : TPT := fun env P EP => t env (fun b => P (!b)) EP
def dAndT (t u : TPT) : TPT := fun env P EP => t env (fun b => if b = true then u env P EP else P false) EP
def dOrT (t u : TPT) : TPT := fun env P EP => t env (fun b => if b = true then P true else u env P EP) EP
theorem lift_notT {t : TPT} (h : PT X e (tNot (liftT G u0 W t))) : PT X e (liftT G u0 W (dNotT t)) := h.imp fun σ H Q ⟨T, m, Z, env, P, EP, ⟨hm, ht⟩, R, q, k, x⟩ =>
  ⟨T, m, Z, env, _, EP, ⟨hm, ht⟩, R, q, fun b H1 g1 p => k _ H1 g1 p, x⟩
theorem lift_andT {t u : TPT} (h : PW X e (tAnd (liftT G u1 W t) (liftT G u2 W u))) : PW X e (liftT G (u1 + u2) W (dAndT t u)) := h.imp fun σ H Q ⟨T, m, Z, env, P, EP, ⟨hm, ht⟩, R, q, k, x⟩ =>
  ⟨T, T + u1, Z, env, _, EP, ⟨Nat.le_refl _, by omega⟩, R, q, fun b H1 g1 p => by
    cases b with
    | true => exact iteT ⟨T + u1, m, Z, env, P, EP, ⟨by omega, by omega⟩, R.growG g1, p, fun b2 H2 g2 p2 => k b2 H2 (g1.trans g2) p2, x.grow g1⟩
    | false => exact iteF (k false H1 (g1.le (by omega)) p), x.le (by omega)⟩
theorem lift_orT {t u : TPT} (h : PW X e (tOr (liftT G u1 W t) (liftT G u2 W u))) : PW X e (liftT G (u1 + u2) W (dOrT t u)) := h.imp fun σ H Q ⟨T, m, Z, env, P, EP, ⟨hm, ht⟩, R, q, k, x⟩ =>
  ⟨T, T + u1, Z, env, _, EP, ⟨Nat.le_refl _, by omega⟩, R, q, fun b H1 g1 p => by
    cases b with
    | true => exact iteT (k true H1 (g1.le (by omega)) p)
    | false => exact iteF ⟨T + u1, m, Z, env, P, EP, ⟨by omega, by omega⟩, R.growG g1, p, fun b2 H2 g2 p2 => k b2 H2 (g1.trans g2) p2, x.grow g1⟩, x.le (by omega)⟩
/-! ### .. as values -/
def dAnd (t u : TP) : TP := fun env P EP => t env (fun d => ∃ k, truth d = some k ∧ if k = true then u env P EP else P d) EP
def dOr (t u : TP) : TP := fun env P EP => t env (fun d => ∃ k, truth d = some k ∧ if k = true then P d else u env P EP) EP
def dNot (t : TP) : TP := fun env P EP => t env (fun d => ∃ k, truth d = some k ∧ P (.bl (!k))) EP
def dIf (c : TPT) (t u : TP) : TP := fun env P EP => c env (fun b => if b = true then t env P EP else u env P EP) EP
theorem lift_and (hK : G.K = X.K) (sa : ∀ i ∈ ala, i ∈ al) (sb : ∀ i ∈ alb, i ∈ al) (h : PE X e (tAndT X.K (liftP G u1 W ala ta) (liftP G u2 W alb tb))) : PE X e (liftP G (u1 + u2) W al (dAnd ta tb)) := h.imp fun σ H Q ⟨T, m, Z, env, P, EP, ⟨hm, ht⟩, R, q, k, x⟩ =>
  ⟨T, T + u1, Z, env, _, EP, ⟨Nat.le_refl _, by omega⟩, R, q, fun v d H1 g1 hd ⟨b, e, p⟩ => by
    refine ⟨b, DL.TruV.sub vw_up (truV hK hd e), ?_⟩
    cases b with
    | true => exact iteT ⟨T + u1, m, Z, env, P, EP, ⟨by omega, by omega⟩, R.growG g1, p, fun v2 d2 H2 g2 hd2 p2 => k v2 d2 H2 (g1.trans g2) (hd2.sub (vw_mono sb)) p2, x.grow g1⟩
    | false => exact iteF (k v d H1 (g1.le (by omega)) (hd.sub (vw_mono sa)) p), x.le (by omega)⟩
theorem lift_or (hK : G.K = X.K) (sa : ∀ i ∈ ala, i ∈ al) (sb : ∀ i ∈ alb, i ∈ al) (h : PE X e (tOrT X.K (liftP G u1 W ala ta) (liftP G u2 W alb tb))) : PE X e (liftP G (u1 + u2) W al (dOr ta tb)) := h.imp fun σ H Q ⟨T, m, Z, env, P, EP, ⟨hm, ht⟩, R, q, k, x⟩ =>
  ⟨T, T + u1, Z, env, _, EP, ⟨Nat.le_refl _, by omega⟩, R, q, fun v d H1 g1 hd ⟨b, e, p⟩ => by
    refine ⟨b, DL.TruV.sub vw_up (truV hK hd e), ?_⟩
    cases b with
    | true => exact iteT (k v d H1 (g1.le (by omega)) (hd.sub (vw_mono sa)) p)
    | false => exact iteF ⟨T + u1, m, Z, env, P, EP, ⟨by omega, by omega⟩, R.growG g1, p, fun v2 d2 H2 g2 hd2 p2 => k v2 d2 H2 (g1.trans g2) (hd2.sub (vw_mono sb)) p2, x.grow g1⟩, x.le (by omega)⟩
theorem lift_not (hK : G.K = X.K) (h : PE X e (tNotT X.K (liftP G u0 W ala ta))) : PE X e (liftP G u0 W [] (dNot ta)) := h.imp fun σ H Q ⟨T, m, Z, env, P, EP, ⟨hm, ht⟩, R, q, k, x⟩ =>
  ⟨T, m, Z, env, _, EP, ⟨hm, ht⟩, R, q, fun v d H1 g1 hd ⟨b, e, p⟩ => ⟨b, DL.TruV.sub vw_up (truV hK hd e), k _ _ H1 g1 (.bl _) p⟩, x⟩
theorem lift_if {c : TPT} (sa : ∀ i ∈ ala, i ∈ al) (sb : ∀ i ∈ alb, i ∈ al) (h : PE X e (tIf (liftT G u1 W c) (liftP G u2 W ala ta) (liftP G u3 W alb tb))) : PE X e (liftP G (u1 + u2 + u3) W al (dIf c ta tb)) := h.imp fun σ H Q ⟨T, m, Z, env, P, EP, ⟨hm, ht⟩, R, q, k, x⟩ =>
  ⟨T, T + u1, Z, env, _, EP, ⟨Nat.le_refl _, by omega⟩, R, q, fun b H1 g1 p => by
    cases b with
    | true => exact iteT ⟨T + u1, m, Z, env, P, EP, ⟨by omega, by omega⟩, R.growG g1, p, fun v2 d2 H2 g2 hd2 p2 => k v2 d2 H2 (g1.trans g2) (hd2.sub (vw_mono sa)) p2, x.grow g1⟩
    | false => exact iteF ⟨T + u1, m, Z, env, P, EP, ⟨by omega, by omega⟩, R.growG g1, p, fun v2 d2 H2 g2 hd2 p2 => k v2 d2 H2 (g1.trans g2) (hd2.sub (vw_mono sb)) p2, x.grow g1⟩, x.le (by omega)⟩
/-- a < b < c -/
def dChain (f g : F2) (ta tb tc : TP) : TP := fun env P EP => ta env (fun x => tb env (fun y => f x y fun z => ∃ k, z = .bl k ∧ if k = true then tc env (fun w => g y w P) EP else P (.bl false)) EP) EP
end

/-! ### statements -/
structure DEnds where
  nx : DEnv → Prop
  rt : D → Prop
  bk : DEnv → Prop := fun _ => False
  ct : DEnv → Prop := fun _ => False
  xe : XD → DEnv → Prop
abbrev TDS := DEnds → DEnv → Prop
/-- nothing is owned any more -/
def disAll (env : DEnv) : DEnv := env.map fun o => o.map fun p => (false, p.2)
def dis1 (i : Nat) (env : DEnv) : DEnv := match env[i]? with
  | some (some (true, d)) => env.set i (some (false, d))
  | _ => env
def dis : List Nat → DEnv → DEnv
  | [], env => env
  | i :: r, env => dis r (dis1 i env)
section
variable {G : Ctx} {T : Nat} {Z : Addr → Prop} {σ : SS} {H : Hp} {env : DEnv}
theorem ER.le {m : Nat} (R : ER G T Z σ H env) (h : T ≤ m) : ER G m Z σ H env := ⟨R.len, R.low, R.own, R.inj, R.zf, R.zd, G.ok_mono _ _ _ h R.ok, R.os, R.zm⟩
theorem ER.dis1 (R : ER G T Z σ H env) (i : Nat) : ER G T Z σ H (dis1 i env) ∧ Keep G σ env H σ (DL.dis1 i env) H := by
  unfold DL.dis1
  split
  · rename_i d h
    obtain ⟨a, b, _⟩ := R.disown h
    exact ⟨a, b⟩
  · exact ⟨R, Keep.refl⟩
theorem ER.dis (R : ER G T Z σ H env) : ∀ (al : List Nat), ER G T Z σ H (dis al env) ∧ Keep G σ env H σ (DL.dis al env) H := by
  intro al
  induction al generalizing env with
  | nil => exact ⟨R, Keep.refl⟩
  | cons i r ih =>
    obtain ⟨R1, K1⟩ := R.dis1 i
    obtain ⟨R2, K2⟩ := ih R1
    exact ⟨R2, K1.trans K2⟩
theorem dis1_at (i j : Nat) (env : DEnv) {d : D} (h : (DL.dis1 i env)[j]? = some (some (true, d))) : i ≠ j ∧ env[j]? = some (some (true, d)) := by
  unfold DL.dis1 at h
  split at h
  · rename_i e he
    have hl : i < env.length := (List.getElem?_eq_some_iff.mp he).1
    by_cases hj : i = j
    · subst hj
      rw [List.getElem?_set_self hl] at h
      cases h
    · rw [List.getElem?_set_ne hj] at h
      exact ⟨hj, h⟩
  · rename_i hn
    refine ⟨fun z => ?_, h⟩
    subst z
    exact hn _ h
theorem dis_at : ∀ (al : List Nat) (env : DEnv) {j : Nat} {d : D}, (DL.dis al env)[j]? = some (some (true, d)) → j ∉ al ∧ env[j]? = some (some (true, d))
  | [], env, j, d, h => ⟨List.not_mem_nil, h⟩
  | i :: r, env, j, d, h => by
    obtain ⟨h1, h2⟩ := dis_at r (DL.dis1 i env) h
    obtain ⟨h3, h4⟩ := dis1_at i j env h2
    exact ⟨fun z => by rcases List.mem_cons.mp z with z | z; exact h3 z.symm; exact h1 z, h4⟩
theorem dis_len : ∀ (al : List Nat) (env : DEnv), (DL.dis al env).length = env.length
  | [], env => rfl
  | i :: r, env => by
    rw [DL.dis, dis_len r]
    unfold DL.dis1
    split
    · rw [List.length_set]
    · rfl
/-- what al may reach is visible once al is shared -/
theorem vw_dis (al : List Nat) : Sub (Vw H σ env al Z) (hid H (Hz σ (DL.dis al env) Z)) := fun b o h => by
  obtain ⟨n, h⟩ := hid_some.mp h
  refine hid_some.mpr ⟨fun q => n ?_, h⟩
  rcases q with ⟨j, d, q1, q2⟩ | q
  · obtain ⟨h1, h2⟩ := dis_at al env q1
    exact .inl ⟨j, d, h1, h2, q2⟩
  · exact .inr q
end
/-- what the ends ask -/
structure Rest (G : Ctx) (m : Nat) (W : WX) (Z : Addr → Prop) (σ : SS) (env : DEnv) (H : Hp) (DE : DEnds) (E : Ends) : Prop where
  n : ∀ σ' H' env', ER G m Z σ' H' env' → Keep G σ env H σ' env' H' → DE.nx env' → E.nx σ' H'
  r : ∀ v d σ' H' env', ER G m Z σ' H' env' → Keep G σ env H σ' env' H' → Den G (hid H' Z) v d → DE.rt d → E.rt v H'
  b : ∀ σ' H' env', ER G m Z σ' H' env' → Keep G σ env H σ' env' H' → DE.bk env' → E.bk σ' H'
  c : ∀ σ' H' env', ER G m Z σ' H' env' → Keep G σ env H σ' env' H' → DE.ct env' → E.ct σ' H'
  x : ∀ x cls dd σ' H' env', ER G m Z σ' H' env' → Keep G σ env H σ' env' H' → XDen G (hid H' Z) cls dd x → DE.xe x env' → W cls dd σ' H'
section
variable {G : Ctx} {m n : Nat} {W : WX} {Z : Addr → Prop} {σ σ1 : SS} {env env1 : DEnv} {H H1 : Hp} {DE : DEnds} {E : Ends}
theorem Rest.le (F : Rest G m W Z σ env H DE E) (h : n ≤ m) : Rest G n W Z σ env H DE E :=
  ⟨fun σ' H' env' R' => F.n σ' H' env' (R'.le h), fun v d σ' H' env' R' => F.r v d σ' H' env' (R'.le h), fun σ' H' env' R' => F.b σ' H' env' (R'.le h), fun σ' H' env' R' => F.c σ' H' env' (R'.le h), fun y cls dd σ' H' env' R' => F.x y cls dd σ' H' env' (R'.le h)⟩
theorem Rest.on (F : Rest G m W Z σ env H DE E) (K : Keep G σ env H σ1 env1 H1) : Rest G m W Z σ1 env1 H1 DE E :=
  ⟨fun σ' H' env' R' K' => F.n σ' H' env' R' (K.trans K'), fun v d σ' H' env' R' K' => F.r v d σ' H' env' R' (K.trans K'), fun σ' H' env' R' K' => F.b σ' H' env' R' (K.trans K'), fun σ' H' env' R' K' => F.c σ' H' env' R' (K.trans K'),
    fun y cls dd σ' H' env' R' K' => F.x y cls dd σ' H' env' R' (K.trans K')⟩
end
def liftS (G : Ctx) (c : Nat) (W : WX) (t : TDS) : TS := fun E σ H => ∃ (T m : Nat) (Z : Addr → Prop) (env : DEnv) (DE : DEnds), (T + c ≤ m ∧ m ≤ G.top) ∧ ER G T Z σ H env ∧ t DE env ∧ Rest G m W Z σ env H DE E
section
variable {G : Ctx} {W : WX} {X : Cx} {st : Stmt} {sts : List Stmt} {t : TP} {al : List Nat} {i : Nat} {s1 s2 : TDS} {u0 u1 u2 u3 : Nat}
def sSkip : TDS := fun E env => E.nx env
def sSeq (s1 s2 : TDS) : TDS := fun E env => s1 { E with nx := s2 E } env
theorem lift_skip (h : PSs X sts tNext) : PSs X sts (liftS G 0 W sSkip) := h.imp fun E σ H ⟨T, m, Z, env, DE, ⟨hm, ht⟩, R, q, F⟩ => F.n σ H env (R.le hm) Keep.refl q
theorem lift_pass (h : PS X st tNext) : PS X st (liftS G 0 W sSkip) := h.imp fun E σ H ⟨T, m, Z, env, DE, ⟨hm, ht⟩, R, q, F⟩ => F.n σ H env (R.le hm) Keep.refl q
theorem lift_seq (h : PSs X sts (tSeq (liftS G u1 W s1) (liftS G u2 W s2))) : PSs X sts (liftS G (u1 + u2) W (sSeq s1 s2)) := h.imp fun E σ H ⟨T, m, Z, env, DE, ⟨hm, ht⟩, R, q, F⟩ => by
  have F1 := F.le (n := T + u1) (by omega)
  exact ⟨T, T + u1, Z, env, _, ⟨Nat.le_refl _, by omega⟩, R, q, ⟨fun σ1 H1 env1 R1 K1 q1 => ⟨T + u1, m, Z, env1, DE, ⟨by omega, by omega⟩, R1, q1, F.on K1⟩, F1.r, F1.b, F1.c, F1.x⟩⟩
/-- what an expression within wants of exceptions -/
def exe (E : DEnds) (env : DEnv) : XD → Prop := fun x => E.xe x env
theorem xw_of {T m : Nat} {Z : Addr → Prop} {σ : SS} {H : Hp} {env : DEnv} {DE : DEnds} {E : Ends} (R : ER G T Z σ H env) (F : Rest G m W Z σ env H DE E) : XW G m W Z σ H (exe DE env) :=
  fun y cls dd H' g hx p => F.x y cls dd σ H' env (R.growG g) (R.grow g.to g.ok).2 hx p
def sSet (i : Nat) (al : List Nat) (t : TP) : TDS := fun E env => i < env.length ∧ t env (fun d => E.nx ((dis al env).set i (some (false, d)))) (exe E env)
theorem lift_set (h : PS X st (tAsg (liftP G u0 W al t) (gName i))) : PS X st (liftS G u0 W (sSet i al t)) := h.imp fun E σ H ⟨T, m, Z, env, DE, ⟨hm, ht⟩, R, ⟨hl, q⟩, F⟩ =>
  ⟨T, m, Z, env, _, _, ⟨hm, ht⟩, R, q, fun v d H1 g hd p => by
    obtain ⟨R1, K1⟩ := R.grow g.to g.ok
    obtain ⟨R2, K2⟩ := R1.dis al
    obtain ⟨R3, K3⟩ := R2.set (i := i) (v := v) (d := d) (by rw [dis_len]; exact hl) (hd.sub (vw_dis al))
    exact F.n _ _ _ R3 ((K1.trans K2).trans K3) p, xw_of R F⟩
def sNew (i : Nat) (al : List Nat) (t : TP) : TDS := fun E env => i < env.length ∧ t env (fun d => E.nx ((dis al env).set i (some (true, d)))) (exe E env)
theorem lift_setNew (h : PS X st (tAsg (liftN G u0 W al t) (gName i))) : PS X st (liftS G u0 W (sNew i al t)) := h.imp fun E σ H ⟨T, m, Z, env, DE, ⟨hm, ht⟩, R, ⟨hl, q⟩, F⟩ =>
  ⟨T, m, Z, env, _, _, ⟨hm, ht⟩, R, q, fun p o d H1 g hp hd q1 => by
    obtain ⟨R1, K1⟩ := R.grow g.to g.ok
    obtain ⟨R2, K2⟩ := R1.dis al
    obtain ⟨R3, K3⟩ := R2.setNew (i := i) (o := o) (d := d) (by rw [dis_len]; exact hl) hp (hd.sub (vw_dis al))
    exact F.n _ _ _ R3 ((K1.trans K2).trans K3) q1, xw_of R F⟩
def sExpr (t : TP) : TDS := fun E env => t env (fun _ => E.nx env) (exe E env)
theorem lift_expr (h : PS X st (tDrop (liftP G u0 W al t))) : PS X st (liftS G u0 W (sExpr t)) := h.imp fun E σ H ⟨T, m, Z, env, DE, ⟨hm, ht⟩, R, q, F⟩ =>
  ⟨T, m, Z, env, _, _, ⟨hm, ht⟩, R, q, fun v d H1 g hd p => F.n _ _ _ (R.growG g) (R.grow g.to g.ok).2 p, xw_of R F⟩
def sRet (t : TP) : TDS := fun E env => t env (fun d => E.rt d) (exe E env)
theorem lift_ret (h : PS X st (tRet (liftP G u0 W al t))) : PS X st (liftS G u0 W (sRet t)) := h.imp fun E σ H ⟨T, m, Z, env, DE, ⟨hm, ht⟩, R, q, F⟩ =>
  ⟨T, m, Z, env, _, _, ⟨hm, ht⟩, R, q, fun v d H1 g hd p => F.r v d σ H1 env (R.growG g) (R.grow g.to g.ok).2 (hd.sub vw_base) p, xw_of R F⟩
def sRetN : TDS := fun E _ => E.rt .non
theorem lift_retN (h : PS X st tRetN) : PS X st (liftS G 0 W sRetN) := h.imp fun E σ H ⟨T, m, Z, env, DE, ⟨hm, ht⟩, R, q, F⟩ => F.r .non .non σ H env (R.le hm) Keep.refl .non q
def sBrk : TDS := fun E env => E.bk env
def sCont : TDS := fun E env => E.ct env
theorem lift_brk (h : PS X st tBreak) : PS X st (liftS G 0 W sBrk) := h.imp fun E σ H ⟨T, m, Z, env, DE, ⟨hm, ht⟩, R, q, F⟩ => F.b σ H env (R.le hm) Keep.refl q
theorem lift_cont (h : PS X st tCont) : PS X st (liftS G 0 W sCont) := h.imp fun E σ H ⟨T, m, Z, env, DE, ⟨hm, ht⟩, R, q, F⟩ => F.c σ H env (R.le hm) Keep.refl q
def sIf (c : TPT) (s1 s2 : TDS) : TDS := fun E env => c env (fun b => if b = true then s1 E env else s2 E env) (exe E env)
theorem lift_ifS {c : TPT} (h : PS X st (tIfS (liftT G u1 W c) (liftS G u2 W s1) (liftS G u3 W s2))) : PS X st (liftS G (u1 + u2 + u3) W (sIf c s1 s2)) := h.imp fun E σ H ⟨T, m, Z, env, DE, ⟨hm, ht⟩, R, q, F⟩ =>
  ⟨T, T + u1, Z, env, _, _, ⟨Nat.le_refl _, by omega⟩, R, q, fun k H1 g p => by
    obtain ⟨R1, K1⟩ := R.grow g.to g.ok
    cases k with
    | true => exact iteT ⟨T + u1, m, Z, env, DE, ⟨by omega, by omega⟩, R1, p, F.on K1⟩
    | false => exact iteF ⟨T + u1, m, Z, env, DE, ⟨by omega, by omega⟩, R1, p, F.on K1⟩, xw_of R (F.le (by omega))⟩
/-! ### loops -/
/-- no loop turns more often -/
def turnsMost : Nat := 2 ^ 62
def forD (i : Nat) (body : TDS) (E : DEnds) : List D → DEnv → Prop
  | [], env => E.nx env
  | d :: r, env => i < env.length ∧ body { E with nx := forD i body E r, ct := forD i body E r, bk := E.nx } (env.set i (some (false, d)))
/-- over a list, a tuple: what is walked is shared from here on -/
def sFor (i : Nat) (al : List Nat) (t : TPL) (body : TDS) : TDS := fun E env => t env (fun ds => ds.length ≤ turnsMost ∧ forD i body E ds (dis al env)) (exe E env)
def dSeq (t : TP) : TPL := fun env P EP => t env (fun d => match d with
  | .lst ds => P ds
  | .tup ds => P ds
  | .scr ns => P (ns.map D.int)
  | _ => False) EP
def sWhile (c : TPT) (body : TDS) : TDS := fun E env => ∃ I : Nat → DEnv → Prop, (∃ m, m ≤ turnsMost ∧ I m env) ∧ ∀ m env, I m env →
  c env (fun b => if b = true then body { E with nx := fun env' => ∃ m', m' < m ∧ I m' env', ct := fun env' => ∃ m', m' < m ∧ I m' env', bk := E.nx } env else E.nx env) (exe E env)
theorem lift_while {c : TPT} {body : TDS} (h : PS X st (tWhile (liftT G u1 W c) (liftS G u2 W body))) : PS X st (liftS G ((turnsMost + 1) * (u1 + u2)) W (sWhile c body)) := h.imp fun E σ H ⟨T, m, Z, env, DE, ⟨hm, ht⟩, R, ⟨I, ⟨m0, hm0, i0⟩, turn⟩, F⟩ => by
  -- with k turns left, (k + 1) turns' worth is free
  refine ⟨fun k σ' H' => ∃ S env', S + (k + 1) * (u1 + u2) ≤ m ∧ ER G S Z σ' H' env' ∧ Keep G σ env H σ' env' H' ∧ I k env', ⟨m0, T, env, ?_, R, Keep.refl, i0⟩, ?_⟩
  · have e : (m0 + 1) * (u1 + u2) ≤ (turnsMost + 1) * (u1 + u2) := Nat.mul_le_mul_right _ (by omega)
    omega
  rintro k σ1 H1 ⟨S, env1, hS, R1, K1, i1⟩
  have e1 : (k + 1) * (u1 + u2) = k * (u1 + u2) + (u1 + u2) := by rw [Nat.add_mul, Nat.one_mul]
  have F1 := F.on K1
  refine ⟨S, S + u1, Z, env1, _, _, ⟨Nat.le_refl _, by omega⟩, R1, turn k env1 i1, fun t H2 g p => ?_, xw_of R1 (F1.le (by omega))⟩
  obtain ⟨R2, K2⟩ := R1.grow g.to g.ok
  have K12 := K1.trans K2
  have F2 := F1.on K2
  cases t with
  | true =>
    refine iteT ⟨fun σ' H' => ∃ k', k' < k ∧ ∃ S env', S + (k' + 1) * (u1 + u2) ≤ m ∧ ER G S Z σ' H' env' ∧ Keep G σ env H σ' env' H' ∧ I k' env', fun σ' H' ⟨k', hk, S', e', q1, q2, q3⟩ => ⟨k', hk, S', e', q1, q2, q3⟩, ?_⟩
    have F3 := F2.le (n := S + u1 + u2) (by omega)
    have step : ∀ σ' H' env', ER G (S + u1 + u2) Z σ' H' env' → Keep G σ1 env1 H2 σ' env' H' → (∃ k', k' < k ∧ I k' env') → ∃ k', k' < k ∧ ∃ S env', S + (k' + 1) * (u1 + u2) ≤ m ∧ ER G S Z σ' H' env' ∧ Keep G σ env H σ' env' H' ∧ I k' env' := fun σ' H' env' R' K' ⟨k', hk, q⟩ => by
      refine ⟨k', hk, S + u1 + u2, env', ?_, R', K12.trans K', q⟩
      have e2 : (k' + 1) * (u1 + u2) ≤ k * (u1 + u2) := Nat.mul_le_mul_right _ (by omega)
      omega
    exact ⟨S + u1, S + u1 + u2, Z, env1, _, ⟨Nat.le_refl _, by omega⟩, R2, p, ⟨step, F3.r, F3.n, step, F3.x⟩⟩
  | false => exact iteF (F2.n σ1 H2 env1 (R2.le (by omega)) Keep.refl p)
end
end DL

/-! D7: what is walked; for; comprehensions; stores. -/
namespace DL
open PySem PySem.Spec PyProof.Rows L2
section
variable {X : Cx} {tg : Expr}
/-- a list or a tuple -/
def iSeq (K : PySem.W.Frag) (tl : TE) : TI := fun σ H R => tl σ H fun x H1 => ∃ a, x = .ref a ∧ (((∃ xs, SqL K H1 a xs) ∧ R (Itl K a) H1) ∨ ((∃ xs, SqT K H1 a xs) ∧ R (Itt K a) H1))
theorem pi_seq {l : Expr} {tl : TE} (hl : PE X l tl) : PI X tg l (iSeq X.K tl) := by
  refine ⟨fun pins s σ H R I h => thn (hl.run pins s σ H _ I h) fun v s1 z => ?_⟩
  obtain ⟨x, H1, I1, r1, a, e, q⟩ := z
  subst e
  cases r1
  have nw : ∀ (o : Obj), Inv X pins σ H1 { s1 with heap := s1.heap.push o } := fun o => I1.kept (t' := s1.toks) fun b u q => Heap.get?_push_of_some _ q
  have fr : ∀ b ∈ [s1.heap.objs.size], FpOk X pins H1 b := fun b hb => by
    rw [List.mem_singleton.mp hb]
    exact I1.fpOk (Nat.le_refl _) I1.fresh
  rcases q with ⟨⟨xs, hq⟩, q⟩ | ⟨⟨xs, hq⟩, q⟩
  · obtain ⟨its, _, pl, _⟩ := I1.list hq
    exact wpAny_pyIter_list pl.isList ⟨_, _, _, _, H1, rfl, nw _, turn_list a _, ⟨_, Heap.get?_push_size _ rfl, rfl, rfl⟩, fr, q⟩
  · obtain ⟨its, _, pt, _⟩ := I1.tuple hq
    exact wpAny_pyIter_tuple (show s1.heap.IsTuple a its.toArray from pt) ⟨_, _, _, _, H1, rfl, nw _, turn_tuple a _, ⟨_, Heap.get?_push_size _ rfl, rfl, rfl⟩, fr, q⟩
end
section
variable {G : Ctx} {W : WX} {X : Cx} {st : Stmt} {e : Expr} {t : TP} {al : List Nat} {i : Nat} {body : TDS}
/-- a walk over what stays: its items, one by one -/
structure Steady (K : PySem.W.Frag) (J : It) (xs : List V) (S : Hp → Prop) : Prop where
  go : ∀ (i : Nat) (x : V) (H : Hp), S H → xs[i]? = some x → J.go i H ∧ ∀ y H', J.yld i H y H' → H' = H ∧ y = x
  stop : ∀ (i : Nat) (H : Hp), S H → xs.length ≤ i → J.stop i H
theorem steady_list {K : PySem.W.Frag} {a : Addr} {xs : List V} : Steady K (Itl K a) xs (fun H => SqL K H a xs) :=
  ⟨fun i x H h e => ⟨⟨xs, x, h, e⟩, fun y H' ⟨h1, h2⟩ => ⟨h1, Option.some.inj ((h2 xs h).symm.trans e)⟩⟩, fun i H h l => ⟨xs, h, l⟩⟩
theorem steady_tup {K : PySem.W.Frag} {a : Addr} {xs : List V} : Steady K (Itt K a) xs (fun H => SqT K H a xs) :=
  ⟨fun i x H h e => ⟨⟨xs, x, h, e⟩, fun y H' ⟨h1, h2⟩ => ⟨h1, Option.some.inj ((h2 xs h).symm.trans e)⟩⟩, fun i H h l => ⟨xs, h, l⟩⟩
theorem steady_range {K : PySem.W.Frag} {lo : Int} {n : Nat} : Steady K (Itr lo n) ((List.range n).map fun (k : Nat) => V.int (lo + k)) (fun _ => True) :=
  ⟨fun i x H _ e => by
    rw [List.getElem?_map] at e
    have hi : i < n := by
      by_cases h : i < n
      · exact h
      · rw [List.getElem?_eq_none (by simp; omega)] at e
        cases e
    rw [List.getElem?_range hi] at e
    cases e
    exact ⟨hi, fun y H' ⟨h1, h2⟩ => ⟨h1, h2⟩⟩, fun i H _ l => by
    show n ≤ i
    simpa using l⟩
/-- the loop over a steady walk -/
theorem for_core {Z : Addr → Prop} {T m u : Nat} {σ0 : SS} {H0 : Hp} {env0 : DEnv} {DE : DEnds} {E : Ends} {J : It} {xs : List V} {ds : List D} {S : Hp → Prop} (st : Steady X.K J xs S) (R0 : ER G T Z σ0 H0 env0)
    (hS : ∀ n σ H env, G.ok n H → Keep G σ0 env0 H0 σ env H → S H) (hd : DenL G (hid H0 (Hz σ0 env0 Z)) xs ds) (hq : forD i body DE ds env0) (hu : T + ds.length * u ≤ m) (ht : m ≤ G.top) (F : Rest G m W Z σ0 env0 H0 DE E) :
    ∃ Wv : Nat → Nat → SS → Hp → Prop, (∃ m, Wv 0 m σ0 H0) ∧ ∀ k m σ H, Wv k m σ H →
      (J.stop k H ∧ E.nx σ H) ∨ (J.go k H ∧ ∃ N : SS → Hp → Prop, (∀ σ' H', N σ' H' → ∃ m', m' < m ∧ Wv (k + 1) m' σ' H') ∧ ∀ x H', J.yld k H x H' → gName i x σ H' fun σ2 H2 => liftS G u W body { E with nx := N, ct := N, bk := E.nx } σ2 H2) := by
  have hlen := hd.length
  refine ⟨fun k n σ H => n = ds.length - k ∧ k ≤ ds.length ∧ ∃ env, ER G (T + k * u) Z σ H env ∧ Keep G σ0 env0 H0 σ env H ∧ forD i body DE (ds.drop k) env, ⟨ds.length, by simp, Nat.zero_le _, env0, R0.le (by omega), Keep.refl, by simpa using hq⟩, ?_⟩
  rintro k n σ H ⟨rfl, hk, env, R, K, q⟩
  by_cases hlt : k < ds.length
  · have ex : xs[k]? = some (xs[k]'(by omega)) := List.getElem?_eq_getElem _
    obtain ⟨d, ed, hdd⟩ := hd.get ex
    obtain ⟨hgo, hy⟩ := st.go k _ H (hS _ σ H env R.ok K) ex
    have edr : ds.drop k = d :: ds.drop (k + 1) := by
      have h1 := List.drop_eq_getElem_cons hlt
      rw [List.getElem?_eq_getElem hlt] at ed
      rw [h1, Option.some.inj ed]
    rw [edr] at q
    obtain ⟨hl, q⟩ := q
    refine .inr ⟨hgo, fun σ' H' => ∃ env', ER G (T + (k + 1) * u) Z σ' H' env' ∧ Keep G σ0 env0 H0 σ' env' H' ∧ forD i body DE (ds.drop (k + 1)) env', fun σ' H' ⟨e', q1, q2, q3⟩ => ⟨ds.length - (k + 1), by omega, rfl, hlt, e', q1, q2, q3⟩, fun x H' y => ?_⟩
    obtain ⟨e1, e2⟩ := hy x H' y
    subst e1 e2
    obtain ⟨R2, K2⟩ := R.set (i := i) hl (hdd.sub (K.sub R0))
    have K12 := K.trans K2
    have eu : (k + 1) * u = k * u + u := by rw [Nat.add_mul, Nat.one_mul]
    have eu2 : (k + 1) * u ≤ ds.length * u := Nat.mul_le_mul_right _ hlt
    have F2 := (F.on K12).le (n := T + (k + 1) * u) (by omega)
    exact ⟨T + k * u, T + (k + 1) * u, Z, _, _, ⟨by omega, by omega⟩, R2, q, ⟨fun σ' H' env' R' K' p => ⟨env', R', K12.trans K', p⟩, F2.r, F2.n, fun σ' H' env' R' K' p => ⟨env', R', K12.trans K', p⟩, F2.x⟩⟩
  · have ek : ds.drop k = [] := List.drop_eq_nil_of_le (by omega)
    rw [ek] at q
    have eu2 : k * u ≤ ds.length * u := Nat.mul_le_mul_right _ hk
    exact .inl ⟨st.stop k H (hS _ σ H env R.ok K) (by omega), F.n σ H env (R.le (by omega)) K q⟩
/-- over a range -/
def rngD (lo hi : Int) : List D := (List.range (hi - lo).toNat).map fun (k : Nat) => D.int (lo + k)
theorem denL_rng {G : Ctx} {H : Hp} (lo : Int) (n : Nat) : DenL G H ((List.range n).map fun (k : Nat) => V.int (lo + k)) ((List.range n).map fun (k : Nat) => D.int (lo + k)) := by
  induction List.range n with
  | nil => exact .nil
  | cons k r ih => exact .cons (.int _) ih
def dRng1 (u : TPL) : TPL := fun env P EP => u env (fun ds => ∃ j : Int, ds = [.int j] ∧ -(2 ^ 62) ≤ j ∧ j < 2 ^ 62 ∧ P (rngD 0 j)) EP
def dRng2 (u : TPL) : TPL := fun env P EP => u env (fun ds => ∃ i j : Int, ds = [.int i, .int j] ∧ (-(2 ^ 62) ≤ i ∧ i < 2 ^ 62 ∧ -(2 ^ 62) ≤ j ∧ j < 2 ^ 62) ∧ P (rngD i j)) EP
theorem denL1 {G : Ctx} {H : Hp} {vs : List V} {d : D} (h : DenL G H vs [d]) : ∃ v, vs = [v] ∧ Den G H v d := by
  cases h with
  | cons h r => cases r; exact ⟨_, rfl, h⟩
theorem denL2 {G : Ctx} {H : Hp} {vs : List V} {d e : D} (h : DenL G H vs [d, e]) : ∃ v w, vs = [v, w] ∧ Den G H v d ∧ Den G H w e := by
  cases h with
  | cons h r => obtain ⟨w, rfl, hw⟩ := denL1 r; exact ⟨_, _, rfl, h, hw⟩
end
end DL

/-! D8: list comprehensions (one clause); stores into what a slot owns. -/
namespace DL
open PySem PySem.Spec PyProof.Rows L2
abbrev W0 : WX := fun _ _ _ _ => False
abbrev noX : XD → Prop := fun _ => False
def lcD (i : Nat) (c : TPT) (t : TP) : List D → DEnv → (List D → Prop) → Prop
  | [], _, P => P []
  | d :: r, env, P => i < env.length ∧ c (env.set i (some (false, d))) (fun b => if b = true then t (env.set i (some (false, d))) (fun y => lcD i c t r env fun ys => P (y :: ys)) noX else lcD i c t r env P) noX
/-- als: what the source may share -/
def dLc (i : Nat) (als : List Nat) (src : TPL) (c : TPT) (t : TP) : TP := fun env P EP => src env (fun ds => ds.length ≤ sizeLine ∧ lcD i c t ds (dis als env) fun ys => P (.lst ys)) EP
section
variable {G : Ctx} {W : WX} {X : Cx} {e : Expr} {t te : TP} {al ale als : List Nat} {i : Nat} {c : TPT} {K : PySem.W.Frag} {u0 u1 u2 : Nat}
theorem xw_none {m : Nat} {Z : Addr → Prop} {σ : SS} {H : Hp} : XW G m W0 Z σ H noX := fun _ _ _ _ _ _ z => z.elim
theorem len_app {α : Type} (xs : List α) (y : α) : (xs ++ [y]).length = xs.length + 1 := by simp
theorem lst_nf {H : Hp} {D b : Addr} {xs : List V} {o : HO} {S : Addr → Prop} (h : H D = some (.lst xs)) (nS : ¬ S D) (q : H b = some o) (f : Fix o ∨ S b) : b ≠ D := fun z => by
  rw [z] at q f
  rw [h] at q
  cases q
  rcases f with ⟨_, _, e⟩ | f
  · cases e
  · exact nS f
theorem lc_main {Z : Addr → Prop} {T M : Nat} {σ : SS} {H1 : Hp} {env : DEnv} {J : It} {xs : List V} {ds : List D} {S : Hp → Prop} {Q : VK} {P : List D → Prop} (st : Steady K J xs S) (R : ER G T Z σ H1 env) (hu : T + ds.length * (u1 + u2) ≤ M) (ht : M ≤ G.top)
    (hal : i ∈ al) (sal : ∀ j ∈ ale, j ∈ al) (hd : DenL G (Vw H1 σ env [] Z) xs ds) (hS : ∀ n H D, G.ok n H → H1 D = none → (∀ b o, ¬ G.F b → b ≠ D → H1 b = some o → H b = some o) → S H) (hz : ds.length ≤ sizeLine) (hq : lcD i c te ds env P)
    (k : ∀ p ys vs H', Grow G M H1 H' → H' p = none → DenL G (Vw H' σ env al Z) vs ys → P ys → Q (.ref p) (upd H' p (.lst vs))) :
    ∀ D, H1 D = none → ∃ Wv : Nat → Nat → Hp → Prop, (∃ m, Wv 0 m (upd H1 D (.lst []))) ∧ ∀ n m H, Wv n m H →
      (J.stop n H ∧ Q (.ref D) H) ∨ (J.go n H ∧ ∃ Nx : Hp → Prop, (∀ H', Nx H' → ∃ m', m' < m ∧ Wv (n + 1) m' H') ∧ ∀ x H', J.yld n H x H' → gName i x (wipe σ [i]) H' fun σ2 H2 => wipe σ2 [i] = wipe σ [i] ∧ liftT G u1 W0 c σ2 H2 fun b H3 =>
        if b = true then liftP G u2 W0 ale te σ2 H3 fun y H4 => ∃ acc, H4 D = some (.lst acc) ∧ acc.length < sizeLine ∧ Nx (upd H4 D (.lst (acc ++ [y]))) else Nx H3) := by
  intro D hD
  have hlen := hd.length
  have nFD : ¬ G.F D := fun f => G.ok_dom _ H1 D R.ok f hD
  have nSD : ¬ G.S D := fun f => G.sdom _ H1 D R.ok f hD
  -- the block runs with D hidden
  let Z' : Addr → Prop := fun a => Z a ∨ a = D
  let Inw : Nat → Hp → Prop := fun n H => ∃ acc accD, H D = some (.lst acc) ∧ ER G (T + n * (u1 + u2)) Z' σ H env ∧ DenL G (Vw H σ env al Z') acc accD ∧ (∀ b o, ¬ G.F b → b ≠ D → H1 b = some o → H b = some o) ∧ acc.length ≤ n ∧ lcD i c te (ds.drop n) env fun ys => P (accD ++ ys)
  have sub1 : ∀ {H : Hp}, (∀ b o, ¬ G.F b → b ≠ D → H1 b = some o → H b = some o) → ∀ al, Sub (Vw H1 σ env al Z) (Vw H σ env al Z') := fun {H} h al b o e => by
    obtain ⟨n, e⟩ := hid_some.mp e
    refine hid_some.mpr ⟨fun q => ?_, h b o (fun f => n (.inr (R.zf b f))) (fun z => by rw [z, hD] at e; cases e) e⟩
    rcases q with q | q | q
    · exact n (.inl q)
    · exact n (.inr q)
    · rw [q, hD] at e
      cases e
  have erD : ∀ {S : Nat} {H : Hp} {acc : List V}, ER G S Z' σ H env → H D = some (.lst acc) → ∀ acc2, ER G S Z' σ (upd H D (.lst acc2)) env ∧ (∀ al, Sub (Vw H σ env al Z') (Vw (upd H D (.lst acc2)) σ env al Z')) := fun {S H acc} R' hDa acc2 => by
    have sb : ∀ al, Sub (Vw H σ env al Z') (Vw (upd H D (.lst acc2)) σ env al Z') := fun al b o e => by
      obtain ⟨n, e⟩ := hid_some.mp e
      refine hid_some.mpr ⟨n, ?_⟩
      rw [upd_ne fun z => n (.inr (.inr z))]
      exact e
    have s0 := sb []
    rw [vw_nil, vw_nil] at s0
    refine ⟨⟨R'.len, fun j d h => ?_, fun j d h => ?_, R'.inj, R'.zf, fun a z => ?_, G.ok_ext _ H _ R'.ok (fun b f => upd_ne fun z => nFD (z ▸ f)) (fun b o q f => by
      rw [upd_ne (lst_nf hDa nSD q f)]
      exact q) (upd_tb fun _ z => nomatch z), R'.os, R'.zm⟩, sb⟩
    · obtain ⟨v, h1, h2⟩ := R'.low j d h
      exact ⟨v, h1, h2.sub s0⟩
    · obtain ⟨a, o, h1, h2, h3, h4⟩ := R'.own j d h
      exact ⟨a, o, h1, h2, by rw [upd_ne fun z => h2 (.inr z)]; exact h3, h4.sub s0⟩
    · by_cases ha : a = D
      · subst ha
        rw [upd_same]
        exact fun z => by cases z
      · rw [upd_ne ha]
        exact R'.zd a z
  have start : Inw 0 (upd H1 D (.lst [])) := by
    have h0 : ∀ b o, ¬ G.F b → b ≠ D → H1 b = some o → upd H1 D (.lst []) b = some o := fun b o _ n e => by
      rw [upd_ne n]
      exact e
    refine ⟨[], [], upd_same, ?_, .nil, h0, Nat.le_refl _, hq⟩
    have g := R.new (o := .lst []) hD
    have R2 := (R.growG g).le (m := T + 0 * (u1 + u2)) (by omega)
    refine ⟨R2.len, fun j d h => ?_, fun j d h => ?_, R2.inj, fun a f => .inl (R2.zf a f), fun a z => ?_, R2.ok, R2.os, fun a z => z.elim (R2.zm a) fun e => e ▸ G.zfresh _ H1 D R.ok hD⟩
    · obtain ⟨v, h1, h2⟩ := R.low j d h
      rw [← vw_nil] at h2 ⊢
      refine ⟨v, h1, h2.sub fun b o e => ?_⟩
      obtain ⟨n, e⟩ := hid_some.mp e
      refine hid_some.mpr ⟨fun q => ?_, by rw [upd_ne fun z => by rw [z, hD] at e; cases e]; exact e⟩
      rcases q with q | q | q
      · exact n (.inl q)
      · exact n (.inr q)
      · rw [q, hD] at e
        cases e
    · obtain ⟨a, o, h1, h2, h3, h4⟩ := R.own j d h
      have na : a ≠ D := fun z => by rw [z, hD] at h3; cases h3
      rw [← vw_nil] at h4 ⊢
      refine ⟨a, o, h1, fun q => q.elim h2 na, by rw [upd_ne na]; exact h3, h4.sub fun b o e => ?_⟩
      obtain ⟨n, e⟩ := hid_some.mp e
      refine hid_some.mpr ⟨fun q => ?_, by rw [upd_ne fun z => by rw [z, hD] at e; cases e]; exact e⟩
      rcases q with q | q | q
      · exact n (.inl q)
      · exact n (.inr q)
      · rw [q, hD] at e
        cases e
    · rcases z with z | z
      · exact R2.zd a z
      · rw [z, upd_same]
        exact fun z => by cases z
  refine ⟨fun n m H => m = ds.length - n ∧ n ≤ ds.length ∧ Inw n H, ⟨ds.length, by simp, Nat.zero_le _, start⟩, ?_⟩
  rintro n m H ⟨rfl, hn, acc, accD, hDa, R', hacc, hold, hal2, q⟩
  by_cases hlt : n < ds.length
  · have ex : xs[n]? = some (xs[n]'(by omega)) := List.getElem?_eq_getElem _
    obtain ⟨d, ed, hdd⟩ := hd.get ex
    obtain ⟨hgo, hy⟩ := st.go n _ H (hS _ H D R'.ok hD hold) ex
    have edr : ds.drop n = d :: ds.drop (n + 1) := by
      have h1 := List.drop_eq_getElem_cons hlt
      rw [List.getElem?_eq_getElem hlt] at ed
      rw [h1, Option.some.inj ed]
    rw [edr] at q
    obtain ⟨hl, q⟩ := q
    have hlσ : i < σ.length := R.len ▸ hl
    refine .inr ⟨hgo, Inw (n + 1), fun H' h' => ⟨ds.length - (n + 1), by omega, rfl, hlt, h'⟩, fun x H' y => ?_⟩
    obtain ⟨e1, e2⟩ := hy x H' y
    subst e1 e2
    have eσ : (wipe σ [i]).set i (some (xs[n]'(by omega))) = σ.set i (some (xs[n]'(by omega))) := by
      show (σ.set i none).set i _ = _
      rw [List.set_set]
    show wipe ((wipe σ [i]).set i (some _)) [i] = wipe σ [i] ∧ _
    rw [eσ]
    refine ⟨by show (σ.set i _).set i none = σ.set i none; rw [List.set_set], ?_⟩
    -- the turn's own environment: slot i holds the item
    have hdv : Den G (hid H' (Hz σ env Z')) (xs[n]'(by omega)) d := by
      rw [← vw_nil]
      exact hdd.sub (sub1 hold [])
    have eu3 : (n + 1) * (u1 + u2) ≤ ds.length * (u1 + u2) := Nat.mul_le_mul_right _ hlt
    have eu : (n + 1) * (u1 + u2) = n * (u1 + u2) + (u1 + u2) := by rw [Nat.add_mul, Nat.one_mul]
    have Rb : ER G (T + n * (u1 + u2)) Z' (σ.set i (some (xs[n]'(by omega)))) H' (env.set i (some (false, d))) := (R'.set hl hdv).1
    have subB : ∀ (H2 : Hp), Sub (Vw H2 (σ.set i (some (xs[n]'(by omega)))) (env.set i (some (false, d))) ale Z') (Vw H2 σ env al Z') := fun H2 b o e => by
      obtain ⟨nb, e⟩ := hid_some.mp e
      refine hid_some.mpr ⟨fun qq => nb ?_, e⟩
      rcases qq with ⟨j, d', j1, j2, j3⟩ | z
      · have hj : i ≠ j := fun z => j1 (z ▸ hal)
        exact .inl ⟨j, d', fun z => j1 (sal j z), by rw [List.getElem?_set_ne hj]; exact j2, by rw [List.getElem?_set_ne hj]; exact j3⟩
      · exact .inr z
    refine ⟨T + n * (u1 + u2), T + n * (u1 + u2) + u1, Z', _, _, _, ⟨Nat.le_refl _, by omega⟩, Rb, q, fun b H3 g3 p3 => ?_, xw_none⟩
    have R3 := R'.growG g3
    have hD3 : H3 D = some (.lst acc) := g3.to D _ nFD hDa
    have hold3 : ∀ b o, ¬ G.F b → b ≠ D → H1 b = some o → H3 b = some o := fun b o f n e => g3.to b o f (hold b o f n e)
    cases b with
    | true =>
      refine iteT ⟨T + n * (u1 + u2) + u1, T + (n + 1) * (u1 + u2), Z', _, _, _, ⟨by omega, by omega⟩, Rb.growG g3, p3, fun y dy H4 g4 hdy p4 => ?_, xw_none⟩
      have hD4 : H4 D = some (.lst acc) := g4.to D _ nFD hD3
      obtain ⟨R4, s4⟩ := erD (R3.growG g4) hD4 (acc ++ [y])
      refine ⟨acc, hD4, Nat.lt_of_le_of_lt hal2 (Nat.lt_of_lt_of_le hlt hz), acc ++ [y], accD ++ [dy], upd_same, R4, ?_, fun b o f n e => ?_, by rw [len_app]; omega, ?_⟩
      · have h1 : DenL G (Vw H4 σ env al Z') acc accD := hacc.sub (vw_sub R' (g3.trans g4) subS)
        exact (DenL.app h1 (.cons (hdy.sub (subB H4)) .nil)).sub (s4 al)
      · rw [upd_ne n]
        exact g4.to b o f (hold3 b o f n e)
      · simpa only [List.append_assoc, List.singleton_append] using p4
    | false => exact iteF ⟨acc, accD, hD3, R3.le (by omega), hacc.sub (vw_sub R' g3 subS), hold3, Nat.le_succ_of_le hal2, p3⟩
  · have ek : ds.drop n = [] := List.drop_eq_nil_of_le (by omega)
    rw [ek] at q
    have eu2 : n * (u1 + u2) ≤ ds.length * (u1 + u2) := Nat.mul_le_mul_right _ hn
    refine .inl ⟨st.stop n H (hS _ H D R'.ok hD hold) (by omega), ?_⟩
    let H' : Hp := fun b => if b = D then none else H b
    have eH : H = upd H' D (.lst acc) := by
      funext b
      unfold upd
      by_cases hb : b = D
      · rw [if_pos hb, hb, hDa]
      · rw [if_neg hb]
        show H b = if b = D then none else H b
        rw [if_neg hb]
    have hne : ∀ b, b ≠ D → H' b = H b := fun b hb => if_neg hb
    rw [eH]
    refine k D accD acc H' ⟨fun b o f e => ?_, G.ok_mono _ _ _ (by omega) (G.ok_ext _ H _ R'.ok (fun b f => hne b fun z => nFD (z ▸ f)) (fun b o q f => by
      rw [hne b (lst_nf hDa nSD q f)]
      exact q) fun b ps q => by
      by_cases hb : b = D
      · rw [show H' b = none from if_pos hb] at q
        cases q
      · rw [← hne b hb]
        exact q)⟩ (if_pos rfl) (hacc.sub fun b o e => ?_) (by simpa [lcD] using q)
    · have hb : b ≠ D := fun z => by rw [z, hD] at e; cases e
      rw [hne b hb]
      exact hold b o f hb e
    · obtain ⟨nb, e⟩ := hid_some.mp e
      refine hid_some.mpr ⟨fun z => nb ?_, by rw [hne b fun z => nb (.inr (.inr z))]; exact e⟩
      rcases z with z | z
      · exact .inl z
      · exact .inr (.inl z)

theorem dis_keep : ∀ (al : List Nat) (env : DEnv) {j : Nat}, j ∉ al → (DL.dis al env)[j]? = env[j]?
  | [], _, _, _ => rfl
  | i :: r, env, j, h => by
    rw [DL.dis, dis_keep r (DL.dis1 i env) fun z => h (List.mem_cons_of_mem _ z)]
    have hj : i ≠ j := fun z => h (z ▸ List.mem_cons_self)
    unfold DL.dis1
    split
    · rw [List.getElem?_set_ne hj]
    · rfl
theorem vw_undis {H : Hp} {σ : SS} {env : DEnv} {Z : Addr → Prop} (s : ∀ j ∈ als, j ∈ al) : Sub (Vw H σ (DL.dis als env) al Z) (Vw H σ env al Z) := fun b o e => by
  obtain ⟨n, e⟩ := hid_some.mp e
  refine hid_some.mpr ⟨fun q => n ?_, e⟩
  rcases q with ⟨j, d, j1, j2, j3⟩ | q
  · exact .inl ⟨j, d, j1, by rw [dis_keep als env fun z => j1 (s j z)]; exact j2, j3⟩
  · exact .inr q
/-- the reading over any walk -/
theorem imp_lcW {wi : TI} {src : TPL} (hal : i ∈ al) (sal : ∀ j ∈ ale, j ∈ al) (sals : ∀ j ∈ als, j ∈ al)
    (hw : ∀ (σ : SS) (H : Hp) (R0 : It → Hp → Prop) (T m : Nat) (Z : Addr → Prop) (env : DEnv) (P : List D → Prop) (EP : XD → Prop), T + u0 ≤ m ∧ m ≤ G.top → ER G T Z σ H env → src env P EP → XW G m W Z σ H EP →
      (∀ J xs ds S H1, Grow G m H H1 → Steady X.K J xs S → DenL G (Vw H1 σ env als Z) xs ds → (∀ n H2 D, G.ok n H2 → H1 D = none → (∀ b o, ¬ G.F b → b ≠ D → H1 b = some o → H2 b = some o) → S H2) → P ds → R0 J H1) → wi σ H R0) :
    ∀ σ H Q, liftN G (u0 + sizeLine * (u1 + u2)) W al (dLc i als src c te) σ H Q → tLc wi (gName i) (liftT G u1 W0 c) (liftP G u2 W0 ale te) [i] σ H Q := fun σ H Q ⟨T, m, Z, env, P, EP, ⟨hm, ht⟩, R, q, k, x⟩ => by
  refine hw σ H _ T (T + u0) Z env _ EP ⟨Nat.le_refl _, by omega⟩ R q (x.le (by omega)) fun J xs ds S H1 g st hd hS ⟨hz, p⟩ D hD => ?_
  have R1 := R.growG g
  obtain ⟨R2, K2⟩ := R1.dis als
  have eu : ds.length * (u1 + u2) ≤ sizeLine * (u1 + u2) := Nat.mul_le_mul_right _ hz
  refine lc_main (P := fun ys => P (.lst ys)) (al := al) (Q := Q) (M := m) st R2 (by omega) ht hal sal ?_ hS hz p (fun p ys vs H' g' hp hv py => ?_) D hD
  · rw [vw_nil]
    exact hd.sub (vw_dis als)
  · exact k p _ (.lst ys) H' (g.trans g') hp ⟨vs, rfl, hv.sub (vw_undis sals)⟩ py
theorem lift_lcW {wi : TI} {src : TPL} (hal : i ∈ al) (sal : ∀ j ∈ ale, j ∈ al) (sals : ∀ j ∈ als, j ∈ al)
    (hw : ∀ (σ : SS) (H : Hp) (R0 : It → Hp → Prop) (T m : Nat) (Z : Addr → Prop) (env : DEnv) (P : List D → Prop) (EP : XD → Prop), T + u0 ≤ m ∧ m ≤ G.top → ER G T Z σ H env → src env P EP → XW G m W Z σ H EP →
      (∀ J xs ds S H1, Grow G m H H1 → Steady X.K J xs S → DenL G (Vw H1 σ env als Z) xs ds → (∀ n H2 D, G.ok n H2 → H1 D = none → (∀ b o, ¬ G.F b → b ≠ D → H1 b = some o → H2 b = some o) → S H2) → P ds → R0 J H1) → wi σ H R0)
    (h : PE X e (tLc wi (gName i) (liftT G u1 W0 c) (liftP G u2 W0 ale te) [i])) : PE X e (liftN G (u0 + sizeLine * (u1 + u2)) W al (dLc i als src c te)) := h.imp (imp_lcW (X := X) hal sal sals hw)
end
end DL

/-! DLD: dicts by their trees: what stands at a key, what is put there; dicts whose keys are None, numbers, texts. -/
namespace DL
open PySem PySem.Spec PyProof.Rows L2
section
variable {G : Ctx}
/-- a key of a dict, by its tree -/
def dKey : D → Option Key
  | .int i => some (.inl i)
  | .str x => some (.inr x)
  | _ => none
/-- the value at a key -/
def dLook (kvs : List (D × D)) (x : D) : Option D := (kvs.find? fun p => match p.1, x with
  | .int i, .int j => decide (i = j)
  | .str i, .str j => decide (i = j)
  | .non, .non => true
  | _, _ => false).map (·.2)
def sameK (x y : D) : Bool := match x, y with
  | .int i, .int j => decide (i = j)
  | .str i, .str j => decide (i = j)
  | .non, .non => true
  | _, _ => false
theorem dLook_eq (kvs : List (D × D)) (x : D) : dLook kvs x = (kvs.find? fun p => sameK p.1 x).map (·.2) := rfl
theorem sameK_kD (a b : Key) : sameK (kD a) (kD b) = decide (a = b) := by
  cases a <;> cases b <;> simp [sameK, kD]
theorem denK_look {H : Hp} {x : Key} : ∀ {kvs : List (Key × V)} {ds : List (D × D)}, DenK G H kvs ds → (∃ v d, valV kvs x = some v ∧ dLook ds (kD x) = some d ∧ Den G H v d) ∨ (valV kvs x = none ∧ dLook ds (kD x) = none)
  | _, _, .nil => .inr ⟨rfl, rfl⟩
  | _, _, .cons (k := k) (v := v) (d := d) (ds := ds) h r => by
    by_cases e : k = x
    · subst e
      refine .inl ⟨v, d, valV_pos rfl, ?_, h⟩
      rw [dLook_eq, List.find?_cons, sameK_kD]
      simp
    · have e2 : dLook ((kD k, d) :: ds) (kD x) = dLook ds (kD x) := by
        rw [dLook_eq, dLook_eq, List.find?_cons, sameK_kD, decide_eq_false e]
      rw [valV_neg (show ¬ (k, v).1 = x from e), e2]
      exact denK_look r
theorem dKey_kD {d : D} {x : Key} (h : dKey d = some x) : kD x = d := by
  cases d <;> simp [dKey] at h <;> subst h <;> rfl
theorem den_kV {H : Hp} {v : V} {d : D} {x : Key} (h : dKey d = some x) (dv : Den G H v d) : v = kV x := by
  cases d with
  | int i =>
    simp [dKey] at h
    subst h
    exact den_int dv
  | str i =>
    simp [dKey] at h
    subst h
    exact den_str dv
  | _ => simp [dKey] at h
end
def lKey : D → Option Leaf
  | .non => some .none
  | .int i => some (.num i)
  | .str x => some (.text x)
  | _ => none
theorem lKey_lD {d : D} {x : Leaf} (h : lKey d = some x) : lD x = d := by
  cases d <;> simp [lKey] at h <;> subst h <;> rfl
theorem sameK_lD (a b : Leaf) : sameK (lD a) (lD b) = decide (a = b) := by
  cases a <;> cases b <;> simp [sameK, lD]
/-- put at a key -/
def dPut (kvs : List (D × D)) (x d : D) : List (D × D) := if (kvs.any fun p => sameK p.1 x) = true then kvs.map (fun p => if sameK p.1 x = true then (p.1, d) else p) else kvs ++ [(x, d)]
section
variable {G : Ctx} {H : Hp}
theorem den_lV {v : V} {d : D} {x : Leaf} (h : lKey d = some x) (dv : Den G H v d) : v = lV x := by
  cases d with
  | non =>
    simp [lKey] at h
    subst h
    cases dv
    rfl
  | int i =>
    simp [lKey] at h
    subst h
    cases dv
    rfl
  | str i =>
    simp [lKey] at h
    subst h
    cases dv
    rfl
  | _ => simp [lKey] at h
theorem denM_look {x : Leaf} : ∀ {kvs : List (Leaf × V)} {ds : List (D × D)}, DenM G H kvs ds → (∃ v d, valV kvs x = some v ∧ dLook ds (lD x) = some d ∧ Den G H v d) ∨ (valV kvs x = none ∧ dLook ds (lD x) = none)
  | _, _, .nil => .inr ⟨rfl, rfl⟩
  | _, _, .cons (k := k) (v := v) (d := d) (ds := ds) h r => by
    by_cases e : k = x
    · subst e
      refine .inl ⟨v, d, valV_pos rfl, ?_, h⟩
      rw [dLook_eq, List.find?_cons, sameK_lD]
      simp
    · have e2 : dLook ((lD k, d) :: ds) (lD x) = dLook ds (lD x) := by
        rw [dLook_eq, dLook_eq, List.find?_cons, sameK_lD, decide_eq_false e]
      rw [valV_neg (show ¬ (k, v).1 = x from e), e2]
      exact denM_look r
theorem DenM.length : ∀ {kvs : List (Leaf × V)} {ds : List (D × D)}, DenM G H kvs ds → kvs.length = ds.length
  | _, _, .nil => rfl
  | _, _, .cons _ r => by simp [r.length]
theorem DenM.any {x : Leaf} : ∀ {kvs : List (Leaf × V)} {ds : List (D × D)}, DenM G H kvs ds → (kvs.any fun kv => decide (kv.1 = x)) = ds.any fun p => sameK p.1 (lD x)
  | _, _, .nil => rfl
  | _, _, .cons h r => by rw [List.any_cons, List.any_cons, r.any, sameK_lD]
theorem DenM.map {x : Leaf} {v : V} {d : D} (hv : Den G H v d) : ∀ {kvs : List (Leaf × V)} {ds : List (D × D)}, DenM G H kvs ds → DenM G H (kvs.map fun kv => if kv.1 = x then (kv.1, v) else kv) (ds.map fun p => if sameK p.1 (lD x) = true then (p.1, d) else p)
  | _, _, .nil => .nil
  | _, _, .cons (k := k) h r => by
    rw [List.map_cons, List.map_cons, sameK_lD]
    by_cases e : k = x
    · rw [if_pos e, if_pos (decide_eq_true e)]
      exact .cons hv (r.map hv)
    · rw [if_neg e, if_neg (by simp [e])]
      exact .cons h (r.map hv)
theorem DenM.snoc {x : Leaf} {v : V} {d : D} (hv : Den G H v d) : ∀ {kvs : List (Leaf × V)} {ds : List (D × D)}, DenM G H kvs ds → DenM G H (kvs ++ [(x, v)]) (ds ++ [(lD x, d)])
  | _, _, .nil => .cons hv .nil
  | _, _, .cons h r => .cons h (r.snoc hv)
theorem denM_put {x : Leaf} {v : V} {d : D} {kvs : List (Leaf × V)} {ds : List (D × D)} (h : DenM G H kvs ds) (hv : Den G H v d) : DenM G H (putK kvs x v) (dPut ds (lD x) d) := by
  unfold putK dPut
  rw [← h.any]
  split
  · exact h.map hv
  · exact h.snoc hv
theorem DenK.length : ∀ {kvs : List (Key × V)} {ds : List (D × D)}, DenK G H kvs ds → kvs.length = ds.length
  | _, _, .nil => rfl
  | _, _, .cons _ r => by simp [r.length]
theorem DenK.any {x : Key} : ∀ {kvs : List (Key × V)} {ds : List (D × D)}, DenK G H kvs ds → (kvs.any fun kv => decide (kv.1 = x)) = ds.any fun p => sameK p.1 (kD x)
  | _, _, .nil => rfl
  | _, _, .cons h r => by rw [List.any_cons, List.any_cons, r.any, sameK_kD]
theorem DenK.map {x : Key} {v : V} {d : D} (hv : Den G H v d) : ∀ {kvs : List (Key × V)} {ds : List (D × D)}, DenK G H kvs ds → DenK G H (kvs.map fun kv => if kv.1 = x then (kv.1, v) else kv) (ds.map fun p => if sameK p.1 (kD x) = true then (p.1, d) else p)
  | _, _, .nil => .nil
  | _, _, .cons (k := k) h r => by
    rw [List.map_cons, List.map_cons, sameK_kD]
    by_cases e : k = x
    · rw [if_pos e, if_pos (decide_eq_true e)]
      exact .cons hv (r.map hv)
    · rw [if_neg e, if_neg (by simp [e])]
      exact .cons h (r.map hv)
theorem DenK.snoc {x : Key} {v : V} {d : D} (hv : Den G H v d) : ∀ {kvs : List (Key × V)} {ds : List (D × D)}, DenK G H kvs ds → DenK G H (kvs ++ [(x, v)]) (ds ++ [(kD x, d)])
  | _, _, .nil => .cons hv .nil
  | _, _, .cons h r => .cons h (r.snoc hv)
theorem denK_put {x : Key} {v : V} {d : D} {kvs : List (Key × V)} {ds : List (D × D)} (h : DenK G H kvs ds) (hv : Den G H v d) : DenK G H (putK kvs x v) (dPut ds (kD x) d) := by
  unfold putK dPut
  rw [← h.any]
  split
  · exact h.map hv
  · exact h.snoc hv
theorem den_ldc {v : V} {ds : List (D × D)} (h : Den G H v (.ldc ds)) : ∃ a kvs, v = .ref a ∧ H a = some (LDO G.P G.w a kvs) ∧ DenM G H kvs ds := by
  cases h with
  | ldc a b => exact ⟨_, _, rfl, a, b⟩
end
/-! ### the program's side -/
section
variable {G : Ctx} {X : Cx} {pins : List (Addr × Obj)} {σ : SS} {H : Hp} {s : Shared} {a : Addr} {kvs : List (Leaf × V)}
theorem ldo_of {P : Program} {w : World} {h : Heap} (ok : HOk P w H h) (e : H a = some (LDO P w a kvs)) : kvs.length ≤ sizeLine ∧ (a == sysModules) = false ∧ ∃ vs, KV kvs vs ∧ h.DictOf (leafKind P w) a vs := by
  have x : ObjOk P w H h a (.ext fun h => kvs.length ≤ sizeLine ∧ (a == sysModules) = false ∧ ∃ vs, KV kvs vs ∧ h.DictOf (leafKind P w) a vs) := ok a _ e
  exact x.1
theorem ldo_new {P : Program} {w : World} {h : Heap} {vs : List (Leaf × Value)} (z : kvs.length ≤ sizeLine) (hd : (a == sysModules) = false) (rel : KV kvs vs) (dd : h.DictOf (leafKind P w) a vs) : ObjOk P w H h a (LDO P w a kvs) := by
  show ObjOk P w H h a (.ext fun h => kvs.length ≤ sizeLine ∧ (a == sysModules) = false ∧ ∃ vs, KV kvs vs ∧ h.DictOf (leafKind P w) a vs)
  refine ⟨⟨z, hd, vs, rel, dd⟩, ?_, fun h1 h2 ⟨z1, d1, us, r1, ob, es, ep, e1, r⟩ k => ⟨z1, d1, us, r1, ob, es, ep, k _ e1, r⟩⟩
  obtain ⟨ob, es, ep, e1, _⟩ := dd
  exact ⟨ob, e1⟩
/-- a[k] of a dict -/
def rIxM (G : Ctx) : R2 := fun x y H Q => ∃ a kvs k v, x = .ref a ∧ y = lV k ∧ H a = some (LDO G.P G.w a kvs) ∧ valV kvs k = some v ∧ Q v H
def rIxC : R2 := fun x y H Q => ∃ a kvs k v, x = .ref a ∧ y = kV k ∧ Rd H a (.dK kvs) ∧ valV kvs k = some v ∧ Q v H
theorem ix_leaf (hP : G.P = X.prog) (hw : G.w = X.w) : IxR X (rIxM G) := by
  intro value slice pins s σ H x y v u Q I rx ry ⟨a, kvs, k, r, ex, ey, e, l, q⟩ hs
  subst ex ey
  rw [hP, hw] at e
  cases (show v = .ref a from rx)
  obtain ⟨z, hd, vs, rel, dd⟩ := ldo_of I.hok e
  obtain ⟨w', h1, h2⟩ := RelO.some_of (v := r) (o := valueAt vs k) (by rw [← l]; exact rel.val k)
  exact tail_any dd.typeIs slot_dict_getitem.lookup (wpAny_getItem_of (lV_is ry) dd.mapOf h1 ⟨r, H, I.tok _, h2, q⟩) hs
theorem ix_dk {k : Nat} (hr : Room k X.A) : IxR X rIxC := by
  intro value slice pins s σ H x y v u Q I rx ry ⟨a, kvs, k, r, ex, ey, e, l, q⟩ hs
  subst ex ey
  cases (show v = .ref a from rx)
  have g : DGet H a (kV k) (some r) := .inl ⟨kvs, k, e, rfl, l.symm⟩
  exact tail_any (dict_typeIs I g) slot_dict_getitem.lookup (d_getItem (by have := hr.un; unfold cLine at this ⊢; omega) I g ry fun w' s' I' rw' => ⟨r, H, I', rw', q⟩) hs
/-- x in a dict -/
def rInM (G : Ctx) (neg : Bool) : R2 := fun x y H Q => ∃ k a kvs, x = lV k ∧ y = .ref a ∧ H a = some (LDO G.P G.w a kvs) ∧ Q (.bl (if neg then !(valV kvs k).isSome else (valV kvs k).isSome)) H
theorem op_inM (hP : G.P = X.prog) (hw : G.w = X.w) : OpR X (compareOp .In) (rInM G false) := by
  intro pins s σ H x y v u Q I rx ry ⟨k, a, kvs, ex, ey, e, q⟩
  subst ex ey
  rw [hP, hw] at e
  cases (show u = .ref a from ry)
  obtain ⟨z, hd, vs, rel, dd⟩ := ldo_of I.hok e
  have he := (rel.val k).isSome_eq
  exact wpAny_in_of (lV_is rx) hd dd.mapOf ⟨.bl _, H, I.tok _, congrArg Value.bool he.symm, q⟩
theorem op_notInM (hP : G.P = X.prog) (hw : G.w = X.w) : OpR X (compareOp .NotIn) (rInM G true) := by
  intro pins s σ H x y v u Q I rx ry ⟨k, a, kvs, ex, ey, e, q⟩
  subst ex ey
  rw [hP, hw] at e
  cases (show u = .ref a from ry)
  obtain ⟨z, hd, vs, rel, dd⟩ := ldo_of I.hok e
  have he := (rel.val k).isSome_eq
  exact wpAny_notIn_of (lV_is rx) hd dd.mapOf ⟨.bl _, H, I.tok _, by rw [← he]; rfl, q⟩
/-- d[k] = v -/
def sMPut (G : Ctx) (td ty tv : TE) : TS := fun D σ H => tv σ H fun v H1 => td σ H1 fun x H2 => ty σ H2 fun y H3 => (∃ a kvs k, x = .ref a ∧ y = lV k ∧ H3 a = some (LDO G.P G.w a kvs) ∧ kvs.length < sizeLine ∧ D.nx σ (upd H3 a (LDO G.P G.w a (putK kvs k v)))) ∨
  ∃ a kvs k, x = .ref a ∧ y = kV k ∧ H3 a = some (.dK kvs) ∧ kvs.length < sizeLine ∧ D.nx σ (upd H3 a (.dK (putK kvs k v)))
theorem ps_mput {o i value : Expr} {td ty tv : TE} {pos pos' : Pos} {k : Nat} (hP : G.P = X.prog) (hw : G.w = X.w) (hr : Room k X.A) (ho : PE X o td) (hi : PE X i ty) (hv : PE X value tv) (hs : swapsWith value (some (.Subscript o i pos')) pos.line X.env = pure false) :
    PS X (.Assign [.Subscript o i pos'] value pos) (sMPut G td ty tv) := by
  refine ⟨fun pins s σ H D I h => ?_⟩
  refine wpAny_Assign_Subscript (thn (hv.run pins s σ H _ I h) fun r s1 ⟨v, H1, I1, rv, q1⟩ => thn (ho.run pins s1 σ H1 _ I1 q1) fun u s2 ⟨x, H2, I2, rx, q2⟩ => thn (hi.run pins s2 σ H2 _ I2 q2) fun iv s3 ⟨y, H3, I3, ry, q⟩ => ?_) hs
  rcases q with ⟨a, kvs, k, ex, ey, e, hl, q⟩ | ⟨a, kvs, k, ex, ey, e, hl, q⟩
  · subst ex ey
    rw [hP, hw] at e q
    cases (show u = .ref a from rx)
    obtain ⟨z, hd, vs, rel, dd⟩ := ldo_of I3.hok e
    have hz : vs.length ≤ sizeLine := by rw [← rel.length]; exact z
    have hl2 : (putK kvs k v).length ≤ sizeLine := by have := length_putK kvs k v; omega
    refine wpAny_setItem_pairs (hsz := hz) (lV_is ry) dd fun h' dd' hs => ⟨σ, _, ?_, q⟩
    have he : ∃ q, h'.get? a = some q := let ⟨q, _, _, hq, _⟩ := dd'; ⟨q, hq⟩
    exact d_write I3 (by rw [e]; exact True.intro) hs he (ldo_new hl2 hd (rel.put k rv) dd')
  · subst ex ey
    cases (show u = .ref a from rx)
    exact d_setItem (by have := hr.un; unfold cLine at this ⊢; omega) I3 (DPut.k e hl) ry rv fun s4 I4 => ⟨σ, _, I4, q⟩
/-- {k: v, ..}, keys None, numbers, texts -/
def tMDisp (P : Program) (w : World) (trs : List (TE × TE)) : TE := fun σ H Q => ∀ p, H p = none → tPairs trs σ (upd H p (LDO P w p [])) fun ps H2 => H2 p = some (LDO P w p []) ∧ ∃ kvs : List (Leaf × V), ps = kvs.map (fun kv => (lV kv.1, kv.2)) ∧ kvs.length ≤ 15 ∧ Q (.ref p) (upd H2 p (LDO P w p (kvs.foldl (fun acc kv => putK acc kv.1 kv.2) [])))
theorem KV.mergeM : ∀ {more : List (Leaf × V)} {rs : List (Leaf × Value)} {kvs : List (Leaf × V)} {vs : List (Leaf × Value)}, KV more rs → KV kvs vs → KV (more.foldl (fun acc kv => putK acc kv.1 kv.2) kvs) (merged vs rs) := by
  intro more rs kvs vs r
  unfold KV at r
  induction r generalizing kvs vs with
  | nil => intro q; exact q
  | @cons p q ps qs h t ih =>
    intro r0
    have e : KV (putK kvs p.1 p.2) (stored vs q.1 q.2) := by
      have := r0.put p.1 h.2
      rw [← h.1]; exact this
    exact ih e
theorem length_mergeM : ∀ (more kvs : List (Leaf × V)), (more.foldl (fun acc kv => putK acc kv.1 kv.2) kvs).length ≤ kvs.length + more.length
  | [], kvs => by show kvs.length ≤ kvs.length + 0; omega
  | p :: r, kvs => by
    have h1 := length_mergeM r (putK kvs p.1 p.2)
    have h2 := length_putK kvs p.1 p.2
    show ((r.foldl (fun acc kv => putK acc kv.1 kv.2) (putK kvs p.1 p.2))).length ≤ _
    rw [List.length_cons]; omega
theorem carriesM {P : Program} {w : World} : ∀ {kvs : List (Leaf × V)} {ws : List (Value × Value)}, VV (kvs.map fun kv => (lV kv.1, kv.2)) ws → ∃ rs, Carries (leafKind P w) ws rs ∧ KV kvs rs
  | [], _, r => by rw [List.map_nil] at r; cases r; exact ⟨[], True.intro, .nil⟩
  | p :: kvs, _, r => by
    rw [List.map_cons] at r
    cases r with
    | @cons a b as bs h t =>
      obtain ⟨rs, c, q⟩ := carriesM (P := P) (w := w) t
      obtain ⟨b1, b2⟩ := b
      exact ⟨(p.1, b2) :: rs, ⟨lV_is h.1, rfl, c⟩, .cons ⟨rfl, h.2⟩ q⟩
theorem pe_mdisp {pos : Pos} {keys : List (Option Expr)} {values : List Expr} {trs : List (TE × TE)} (h : PPs X pos keys values trs) (hall : keys.all (·.isSome) = true) (hl : keys.length = values.length) (h0 : keys ≠ [])
    (h15 : keys.length ≤ 15) : PE X (.Dict keys values pos) (tMDisp X.prog X.w trs) := by
  refine ⟨fun pins s σ H Q I q => ?_⟩
  have hn := I.hok.fresh (Nat.le_refl s.heap.objs.size)
  have sm : (s.heap.objs.size == sysModules) = false := beq_eq_false_iff_ne.mpr (Ne.symm (Nat.ne_of_lt I.big))
  have I1 := I.laid (a := s.heap.objs.size) (o := LDO X.prog X.w s.heap.objs.size []) (h' := s.heap.push { cls := .type "dict", data := .dict #[] }) (t' := s.toks) (fun _ _ q => Heap.get?_push_of_some _ q) (Nat.le_refl _) (ldo_new (Nat.zero_le _) sm .nil (Heap.DictOf.new s.heap))
  refine wpAny_Dict_walk (knd := leafKind X.prog X.w) hall hl h0 h15 (thn (h.run pins _ σ _ _ I1 (q _ hn)) fun ws s2 ⟨ps, H2, I2, rel, e, kvs, ep, lk, q2⟩ => ?_)
  subst ep
  obtain ⟨rs, c, rk⟩ := carriesM (P := X.prog) (w := X.w) rel
  obtain ⟨z, hd, vs0, r0, dd⟩ := ldo_of I2.hok e
  cases r0
  refine ⟨rs, c, dd, fun h' dd' hs => ⟨.ref s.heap.objs.size, _, ?_, rfl, q2⟩⟩
  have hz : (kvs.foldl (fun acc kv => putK acc kv.1 kv.2) []).length ≤ sizeLine := by
    have h1 := length_mergeM kvs []
    rw [List.length_nil] at h1
    rw [sizeLine_eq]; omega
  have he : ∃ q, h'.get? s.heap.objs.size = some q := let ⟨q, _, _, hq, _⟩ := dd'; ⟨q, hq⟩
  exact d_write I2 (by rw [e]; exact True.intro) hs he (ldo_new hz hd (KV.mergeM rk .nil) dd')
end
end DL

/-! D9: built-ins over values: ==, repr, len, isinstance, all, any, list, tuple, min, max, abs, places, slices. -/
namespace DL
open PySem PySem.Spec PyProof.Rows L2
section
variable {G : Ctx} {X : Cx} {k : Nat}
theorem op_eqX (hK : G.K = X.K) (hr : Room k X.A) : OpR X (compareOp .Eq) (rEqX G) := fun pins s σ H v w u u' Q I r1 r2 ⟨x, y, hx, h1, h2, q⟩ => by
  unfold eqk at hx
  split at hx
  · obtain ⟨a, kvs, rfl, ha, _⟩ := den_dct h1
    obtain ⟨b, xs, rfl, hb, _⟩ := den_tup h2
    cases (show u = .ref a from r1)
    cases (show u' = .ref b from r2)
    obtain ⟨its, _, ⟨ob, e2, c2, _, _⟩, _⟩ := I.tuple (hK ▸ hb)
    obtain ⟨oa, e1, c1⟩ := dict_typeIs I (y := kV (.inl 0)) (o := valV kvs (.inl 0 : Key)) (.inl ⟨kvs, _, ha, rfl, rfl⟩)
    exact rc_dict_tup e1 e2 c1 c2 (by have := hr.un; omega) X.prog X.w _ _ ⟨.bl _, H, I, rfl, q⟩
  · rename_i xs
    cases xs with
    | nil => exact den_rc I hK DD _ _ v w u u' X.A rfl rfl h1 h2 r1 r2 (by have := hr.un; simp only [DD]; omega) X.prog X.w _ _ ⟨.bl _, H, I, rfl, q⟩
    | cons z zs =>
      obtain ⟨a, us, rfl, ha, la⟩ := den_lst h1
      obtain ⟨b, ws, rfl, hb, lb⟩ := den_lst h2
      cases (show u = .ref a from r1)
      cases (show u' = .ref b from r2)
      obtain ⟨ia, ra, pa, _⟩ := I.list (SqL.of ha)
      obtain ⟨ib, rb, pb, _⟩ := I.list (SqL.of hb)
      have e1 := ra.length
      have e2 := rb.length
      have e3 := la.length
      have e4 := lb.length
      simp only [List.length_cons, List.length_nil] at e3 e4
      exact SeqAt.RcAt.lists_lengths pa.isList pb.isList (by simp; omega) (by have := hr.un; omega) X.prog X.w _ _ ⟨.bl _, H, I, rfl, q⟩
  · rw [Bool.and_eq_true] at hx
    exact den_rc I hK DD x y v w u u' X.A hx.1 hx.2 h1 h2 r1 r2 (by have := hr.un; simp only [DD]; omega) X.prog X.w _ _ ⟨.bl _, H, I, rfl, q⟩
theorem op_neX (hK : G.K = X.K) (hr : Room k X.A) : OpR X (compareOp .NotEq) (rNeX G) := fun pins s σ H v w u u' Q I r1 r2 ⟨x, y, hx, hy, h1, h2, q⟩ => by
  unfold neA at hx
  split at hx
  · rename_i xs
    cases xs with
    | nil => exact den_rcne I hK DD _ _ v w u u' X.A rfl rfl h1 h2 r1 r2 (by have := hr.un; simp only [DD]; omega) X.prog X.w _ _ ⟨.bl _, H, I, rfl, q⟩
    | cons z zs =>
      obtain ⟨a, us, rfl, ha, la⟩ := den_lst h1
      obtain ⟨b, ws, rfl, hb, lb⟩ := den_lst h2
      cases (show u = .ref a from r1)
      cases (show u' = .ref b from r2)
      obtain ⟨ia, ra, pa, _⟩ := I.list (SqL.of ha)
      obtain ⟨ib, rb, pb, _⟩ := I.list (SqL.of hb)
      have e1 := ra.length
      have e2 := rb.length
      have e3 := la.length
      have e4 := lb.length
      simp only [List.length_cons, List.length_nil] at e3 e4
      exact SeqAt.RcNeAt.lists_lengths pa.isList pb.isList (by simp; omega) (by have := hr.un; omega) X.prog X.w _ _ ⟨.bl _, H, I, rfl, q⟩
  · exact den_rcne I hK DD x y v w u u' X.A hx hy h1 h2 r1 r2 (by have := hr.un; simp only [DD]; omega) X.prog X.w _ _ ⟨.bl _, H, I, rfl, q⟩
theorem o_eq : Op2 G (rEqX G) fEq := fun T Z σ env al H v w x y P Q R h1 h2 ⟨f1, p⟩ k => ⟨x, y, f1, h1.sub vw_up, h2.sub vw_up, k _ _ H R.self (.bl _) p⟩
theorem o_ne : Op2 G (rNeX G) fNe := fun T Z σ env al H v w x y P Q R h1 h2 ⟨f1, f2, p⟩ k => ⟨x, y, f1, f2, h1.sub vw_up, h2.sub vw_up, k _ _ H R.self (.bl _) p⟩
/-! ### repr -/
mutual
def toPy : D → PyData
  | .non => .none | .bl b => .bool b | .int i => .int i | .str x => .str x
  | .tup xs => .tuple (toPyL xs) | .lst xs => .list (toPyL xs)
  | _ => .none
def toPyL : List D → List PyData
  | [] => []
  | x :: xs => toPy x :: toPyL xs
end
theorem den_reads {pins : List (Addr × Obj)} {σ : SS} {H : Hp} {s : Shared} (I : Inv X pins σ H s) (hK : G.K = X.K) : ∀ (n : Nat) (x : D) (v : V) (u : Value), dat n x = true → Den G H v x → L2.RelV v u → (∃ as, Reads s.heap u (toPy x) as) ∧ (toPy x).depth ≤ n ∧ (toPy x).hasDict = false := by
  intro n
  have flat0 : ∀ (n : Nat) (x : D) (v : V) (u : Value), (x = .non ∨ (∃ b, x = .bl b) ∨ (∃ i, x = .int i) ∨ ∃ z, x = .str z) → Den G H v x → L2.RelV v u → (∃ as, Reads s.heap u (toPy x) as) ∧ (toPy x).depth ≤ n ∧ (toPy x).hasDict = false := by
    rintro n x v u (rfl | ⟨b, rfl⟩ | ⟨i, rfl⟩ | ⟨z, rfl⟩) h r <;> cases h
    · cases (show u = .none from r); exact ⟨⟨_, .none⟩, by simp [toPy, PyData.depth], by simp [toPy, PyData.hasDict]⟩
    · cases (show u = .bool b from r); exact ⟨⟨_, .bool b⟩, by simp [toPy, PyData.depth], by simp [toPy, PyData.hasDict]⟩
    · obtain ⟨t, e⟩ := (show ∃ t, u = .int i t from r); cases e; exact ⟨⟨_, .int i t⟩, by simp [toPy, PyData.depth], by simp [toPy, PyData.hasDict]⟩
    · obtain ⟨t, e⟩ := (show ∃ t, u = .str z t from r); cases e; exact ⟨⟨_, .str z t⟩, by simp [toPy, PyData.depth], by simp [toPy, PyData.hasDict]⟩
  induction n with
  | zero =>
    intro x v u hx h r
    cases h with
    | non => exact flat0 0 _ _ _ (.inl rfl) .non r
    | bl b => exact flat0 0 _ _ _ (.inr (.inl ⟨b, rfl⟩)) (.bl b) r
    | int i => exact flat0 0 _ _ _ (.inr (.inr (.inl ⟨i, rfl⟩))) (.int i) r
    | str z => exact flat0 0 _ _ _ (.inr (.inr (.inr ⟨z, rfl⟩))) (.str z) r
    | _ => simp [dat] at hx
  | succ n ih =>
    have all : ∀ (ds : List D) (vs : List V) (us : List Value), ds.all (dat n) = true → DenL G H vs ds → Vals vs us → (∃ as, ReadsAll s.heap us (toPyL ds) as) ∧ PyData.depthAll (toPyL ds) ≤ n ∧ PyData.hasDictAll (toPyL ds) = false := by
      intro ds
      induction ds with
      | nil => intro vs us _ h r; cases h; cases r; exact ⟨⟨_, .nil⟩, by simp [toPyL, PyData.depthAll], by simp [toPyL, PyData.hasDictAll]⟩
      | cons d ds ihd =>
        intro vs us ha h r
        cases h with
        | cons h1 h2 =>
          cases r with
          | cons r1 r2 =>
            simp only [List.all_cons, Bool.and_eq_true] at ha
            obtain ⟨⟨as, q1⟩, q2, q3⟩ := ih d _ _ ha.1 h1 r1
            obtain ⟨⟨bs, p1⟩, p2, p3⟩ := ihd _ _ ha.2 h2 r2
            exact ⟨⟨_, .cons q1 p1⟩, by simp only [toPyL, PyData.depthAll]; omega, by simp [toPyL, PyData.hasDictAll, q3, p3]⟩
    intro x v u hx h r
    cases h with
    | non => exact flat0 _ _ _ _ (.inl rfl) .non r
    | bl b => exact flat0 _ _ _ _ (.inr (.inl ⟨b, rfl⟩)) (.bl b) r
    | int i => exact flat0 _ _ _ _ (.inr (.inr (.inl ⟨i, rfl⟩))) (.int i) r
    | str z => exact flat0 _ _ _ _ (.inr (.inr (.inr ⟨z, rfl⟩))) (.str z) r
    | @tup a xs ds ha hd =>
      cases (show u = .ref a from r)
      obtain ⟨its, rv, ⟨o, ho, hc, m, hdt⟩, _⟩ := I.tuple (hK ▸ ha)
      obtain ⟨⟨as, q1⟩, q2, q3⟩ := all ds xs its (by simpa only [dat] using hx) hd rv
      exact ⟨⟨_, .tuple ho hc hdt (by simpa using q1)⟩, by simp only [toPy, PyData.depth]; omega, by simp [toPy, PyData.hasDict, q3]⟩
    | @lst a xs ds ha hd =>
      cases (show u = .ref a from r)
      obtain ⟨_, its, m, rv, ho⟩ := (show ObjOk X.prog X.w H s.heap a (.lst xs) from I.hok _ _ ha)
      obtain ⟨⟨as, q1⟩, q2, q3⟩ := all ds xs its (by simpa only [dat] using hx) hd rv
      exact ⟨⟨_, .list ho rfl rfl (by simpa using q1)⟩, by simp only [toPy, PyData.depth]; omega, by simp [toPy, PyData.hasDict, q3]⟩
    | _ => simp [dat] at hx
def rRepr (G : Ctx) : List V → Hp → VK → Prop := fun vs H Q => ∃ v x, vs = [v] ∧ dat DD x = true ∧ Den G H v x ∧ (toPy x).showable = true ∧ (toPy x).shown.length ≤ sizeLine ∧ Q (.str (toPy x).shown) H
theorem call_reprX (hK : G.K = X.K) (hr : Room k X.A) (hg : X.A.guards = some []) : CallR X (.builtin "repr") (rRepr G) := by
  intro pins s σ H vs us Q I r h
  obtain ⟨v, x, rfl, hx, hd, hs, hz, q⟩ := h
  obtain ⟨u, rfl, ru⟩ := vals1 r
  obtain ⟨⟨as, rd⟩, dp, nd⟩ := den_reads I hK DD x v u hx hd ru
  have room : X.A.units + ((toPy x).depth + 1) < cLine := by have := hr.un; simp only [DD] at dp; omega
  cases hd with
  | non => cases (show u = .none from ru); exact PySem.P.repr_of_none ⟨.str _, H, I.tok _, ⟨_, rfl⟩, q⟩
  | bl b => cases (show u = .bool b from ru); exact PySem.P.repr_of_bool ⟨.str _, H, I.tok _, ⟨_, rfl⟩, q⟩
  | int i =>
    obtain ⟨t, e⟩ := (show ∃ t, u = .int i t from ru); cases e
    exact PySem.P.repr_of_int (by simpa [toPy, PyData.showable] using hs) ⟨.str _, H, I.tok _, ⟨_, rfl⟩, q⟩
  | str z =>
    obtain ⟨t, e⟩ := (show ∃ t, u = .str z t from ru); cases e
    exact PySem.P.repr_of_str ⟨.str _, H, I.tok _, ⟨_, rfl⟩, q⟩ hz
  | @tup a xs ds _ _ =>
    cases (show u = .ref a from ru)
    exact PySem.repr_of_reads' rd hs (fun z => by rw [nd] at z; cases z) hg room (fun _ _ e => e) (fun h' t tk hk => ⟨.str _, H, I.kept hk, ⟨_, rfl⟩, q⟩) hz
  | @lst a xs ds _ _ =>
    cases (show u = .ref a from ru)
    exact PySem.repr_of_reads' rd hs (fun z => by rw [nd] at z; cases z) hg room (fun _ _ e => e) (fun h' t tk hk => ⟨.str _, H, I.kept hk, ⟨_, rfl⟩, q⟩) hz
  | _ => simp [dat] at hx
def fRepr0 : FL
  | [x], P => dat DD x = true ∧ (toPy x).showable = true ∧ (toPy x).shown.length ≤ sizeLine ∧ P (.str (toPy x).shown)
  | _, _ => False
theorem o_repr0 : CallD G (rRepr G) fRepr0 := by
  intro T Z σ env al H vs ds P Q R hd hf kk
  unfold fRepr0 at hf
  split at hf
  · obtain ⟨v, rfl, hv⟩ := denL1 hd
    exact ⟨v, _, rfl, hf.1, hv.sub vw_up, hf.2.1, hf.2.2.1, kk _ _ H R.self (.str _) hf.2.2.2⟩
  · exact hf.elim
/-! ### len, isinstance -/
def fLen : FL
  | [.str x], P => x.length ≤ sizeLine ∧ P (.int x.length)
  | [.lst xs], P => P (.int xs.length)
  | [.tup xs], P => P (.int xs.length)
  | [.scr ns], P => P (.int ns.length)
  | [.dct kvs], P => P (.int kvs.length)
  | _, _ => False
def rLenR : List V → Hp → VK → Prop := fun xs H Q => ∃ a kvs, xs = [V.ref a] ∧ Rd H a (.dK kvs) ∧ Q (.int kvs.length) H
def rLenX (K : PySem.W.Frag) : List V → Hp → VK → Prop := fun xs H Q => (∃ x n, xs = [x] ∧ LenV K x H n ∧ Q (.int n) H) ∨ rLenR xs H Q
theorem call_lenR : CallR X (.builtin "len") rLenR := fun pins s σ H xs us Q I r h => by
  obtain ⟨a, kvs, e, ha, q⟩ := h
  subst e
  obtain ⟨u, e, ru⟩ := vals1 r
  subst e
  cases ru
  exact d_len I ha fun t s2 J => ⟨V.int kvs.length, H, J, ⟨t, rfl⟩, q⟩
theorem call_lenX : CallR X (.builtin "len") (rLenX X.K) := call_len.or call_lenR
theorem o_len (hK : G.K = X.K) : CallD G (rLenX X.K) fLen := by
  intro T Z σ env al H vs ds P Q R hd hf kk
  unfold fLen at hf
  split at hf
  · obtain ⟨v, rfl, hv⟩ := denL1 hd
    cases hv
    exact .inl ⟨_, _, rfl, ⟨hf.1, rfl⟩, kk _ _ H R.self (.int _) hf.2⟩
  · obtain ⟨v, rfl, hv⟩ := denL1 hd
    obtain ⟨a, xs, rfl, ha, hx⟩ := den_lst hv
    exact .inl ⟨_, _, rfl, .inl ⟨xs, SqL.of (vw_up _ _ ha), rfl⟩, kk _ _ H R.self (.int _) (by rw [hx.length]; exact hf)⟩
  · obtain ⟨v, rfl, hv⟩ := denL1 hd
    obtain ⟨a, xs, rfl, ha, hx⟩ := den_tup hv
    exact .inl ⟨_, _, rfl, .inr ⟨xs, hK ▸ SqT.sub vw_up ha, rfl⟩, kk _ _ H R.self (.int _) (by rw [hx.length]; exact hf)⟩
  · obtain ⟨v, rfl, hv⟩ := denL1 hd
    obtain ⟨a, rfl, ha⟩ := den_scr hv
    exact .inl ⟨_, _, rfl, .inl ⟨_, hK ▸ SqL.sub vw_up ha, rfl⟩, kk _ _ H R.self (.int _) (by rw [List.length_map]; exact hf)⟩
  · obtain ⟨v, rfl, hv⟩ := denL1 hd
    obtain ⟨a, kvs, rfl, ha, hx⟩ := den_dct hv
    exact .inr ⟨a, kvs, rfl, Rd.sub vw_up ha, kk _ _ H R.self (.int _) (by rw [hx.length]; exact hf)⟩
  · exact hf.elim
def tyNm : D → Option String
  | .non => some "NoneType" | .bl _ => some "bool" | .int _ => some "int" | .str _ => some "str"
  | .tup _ => some "tuple" | .lst _ => some "list" | .dct _ => some "dict"
  | _ => none
def isT (a b : String) : Bool := a == b || (a == "bool" && b == "int")
def tyKn : List String := ["NoneType", "bool", "int", "str", "tuple", "list", "dict"]
def tyAsk : List String := ["bool", "int", "str", "tuple", "list", "dict"]
theorem kit_tbl : (tyKn.all fun a => tyAsk.all fun b => decide (kitB a b = some (isT a b))) = true := by decide +kernel
theorem kit_at {a b : String} (ha : a ∈ tyKn) (hb : b ∈ tyAsk) (K : PySem.W.Frag) : PySem.W.kitOne K (.type a) (.type b) = some (isT a b) := by
  have h := List.all_eq_true.mp (List.all_eq_true.mp kit_tbl a ha) b hb
  exact kit_ty (of_decide_eq_true h)
theorem tyX_of {H : Hp} {v : V} {d : D} {a : String} (hK : G.K = X.K) (h : Den G H v d) (e : tyNm d = some a) : TyX X.K H v (.type a) ∧ a ∈ tyKn := by
  have hr : ∀ {p : Addr} {kvs : List (Key × V)}, Rd H p (.dK kvs) → TyX X.K H (.ref p) (.type "dict") := fun r => by
    rcases r with r | ⟨o, r⟩
    · exact .base (.dK r)
    · exact .fDict r
  cases h with
  | non => cases e; exact ⟨.base .non, by decide⟩
  | bl b => cases e; exact ⟨.base (.bl b), by decide⟩
  | int i => cases e; exact ⟨.base (.int i), by decide⟩
  | str x => cases e; exact ⟨.base (.str x), by decide⟩
  | tup h1 h2 =>
    cases e
    refine ⟨?_, by decide⟩
    rw [hK] at h1
    rcases h1 with (h1 | ⟨o, h1⟩) | ⟨o, its, n, h1, hc, _⟩
    · exact .base (.tup h1)
    · exact .fTuple h1
    · exact .kTuple h1 hc
  | lst h1 h2 => cases e; exact ⟨.base (.lst h1), by decide⟩
  | dct h1 h2 => cases e; exact ⟨hr h1, by decide⟩
  | _ => cases e
theorem TyX.sub {K : PySem.W.Frag} {H H' : Hp} {v : V} {t : Value} (s : Sub H H') (h : TyX K H v t) : TyX K H' v t := by
  cases h with
  | base h =>
    cases h with
    | non => exact .base .non
    | bl b => exact .base (.bl b)
    | int i => exact .base (.int i)
    | str x => exact .base (.str x)
    | flt x => exact .base (.flt x)
    | lst e => exact .base (.lst (s _ _ e))
    | frz e => exact .base (.frz (s _ _ e))
    | tup e => exact .base (.tup (s _ _ e))
    | dK e => exact .base (.dK (s _ _ e))
    | dT e => exact .base (.dT (s _ _ e))
    | ins e c h1 h2 h3 h4 => exact .base (.ins (s _ _ e) c h1 h2 h3 h4)
  | byt b => exact .byt b
  | set e => exact .set (s _ _ e)
  | kList e c => exact .kList e c
  | kTuple e c => exact .kTuple e c
  | kDict e c => exact .kDict e c
  | fTuple e => exact .fTuple (s _ _ e)
  | fDict e => exact .fDict (s _ _ e)
def fIsi : FL
  | [x, .ty b], P => ∃ a, tyNm x = some a ∧ b ∈ tyAsk ∧ P (.bl (isT a b))
  | _, _ => False
theorem o_isi (hK : G.K = X.K) : CallD G (rIsi X.K) fIsi := by
  intro T Z σ env al H vs ds P Q R hd hf kk
  unfold fIsi at hf
  split at hf
  · obtain ⟨v, w, rfl, hv, hw⟩ := denL2 hd
    cases hw
    obtain ⟨a, ea, hb, p⟩ := hf
    obtain ⟨t, ha⟩ := tyX_of hK hv ea
    exact ⟨v, _, _, _, _, rfl, .ty _, DL.TyX.sub vw_up t, kit_at ha hb X.K, kk _ _ H R.self (.bl _) p⟩
  · exact hf.elim
/-! ### all, any -/
def bools : List D → Option (List Bool)
  | [] => some []
  | .bl b :: r => (bools r).map (b :: ·)
  | _ => none
theorem bools_map : ∀ bs : List Bool, bools (bs.map D.bl) = some bs
  | [] => rfl
  | b :: r => by simp [bools, bools_map r]
theorem den_bools {G : Ctx} {H : Hp} : ∀ {vs : List V} {ds : List D} {bs : List Bool}, DenL G H vs ds → bools ds = some bs → vs = bs.map V.bl
  | _, _, bs, .nil, e => by cases e; rfl
  | _, _, bs, .cons (d := d) h r, e => by
    cases h with
    | bl b =>
      simp only [bools, Option.map_eq_some_iff] at e
      obtain ⟨c, e1, e2⟩ := e
      rw [← e2, den_bools r e1]
      rfl
    | _ => cases e
def fAllL : FL
  | [.lst ds], P => ∃ bs, bools ds = some bs ∧ P (.bl (bs.all id))
  | _, _ => False
def fAnyL : FL
  | [.lst ds], P => ∃ bs, bools ds = some bs ∧ P (.bl (bs.any id))
  | _, _ => False
theorem o_all : CallD G (rAll X.K) fAllL := by
  intro T Z σ env al H vs ds P Q R hd hf kk
  unfold fAllL at hf
  split at hf
  · obtain ⟨v, rfl, hv⟩ := denL1 hd
    obtain ⟨a, xs, rfl, ha, hx⟩ := den_lst hv
    obtain ⟨bs, e, p⟩ := hf
    exact ⟨a, bs, rfl, SqL.of (by rw [← den_bools hx e]; exact vw_up _ _ ha), kk _ _ H R.self (.bl _) p⟩
  · exact hf.elim
theorem o_any : CallD G (rAny X.K) fAnyL := by
  intro T Z σ env al H vs ds P Q R hd hf kk
  unfold fAnyL at hf
  split at hf
  · obtain ⟨v, rfl, hv⟩ := denL1 hd
    obtain ⟨a, xs, rfl, ha, hx⟩ := den_lst hv
    obtain ⟨bs, e, p⟩ := hf
    exact ⟨a, bs, rfl, SqL.of (by rw [← den_bools hx e]; exact vw_up _ _ ha), kk _ _ H R.self (.bl _) p⟩
  · exact hf.elim
/-! ### list, tuple of a sequence -/
def fList : FL
  | [.lst xs], P => P (.lst xs)
  | [.tup xs], P => P (.lst xs)
  | [.scr ns], P => P (.lst (ns.map D.int))
  | _, _ => False
def rListX (K : PySem.W.Frag) : List V → Hp → VK → Prop := fun xs H Q => ∃ p ys, xs = [.ref p] ∧ (SqL K H p ys ∨ SqT K H p ys) ∧ ∀ l, H l = none → Q (.ref l) (upd H l (.lst ys))
theorem denL_ints {G : Ctx} {H : Hp} : ∀ ns : List Int, DenL G H (ns.map V.int) (ns.map D.int)
  | [] => .nil
  | i :: r => .cons (.int i) (denL_ints r)
theorem o_list (hK : G.K = X.K) : CallDn G (rListX X.K) fList := by
  intro T Z σ env al H vs ds P Q R hd hf kk
  unfold fList at hf
  split at hf
  · obtain ⟨v, rfl, hv⟩ := denL1 hd
    obtain ⟨a, xs, rfl, ha, hx⟩ := den_lst hv
    exact ⟨a, xs, rfl, .inl (SqL.of (vw_up _ _ ha)), fun l hl => kk l _ (.lst _) hl ⟨xs, rfl, hx⟩ hf⟩
  · obtain ⟨v, rfl, hv⟩ := denL1 hd
    obtain ⟨a, xs, rfl, ha, hx⟩ := den_tup hv
    exact ⟨a, xs, rfl, .inr (hK ▸ SqT.sub vw_up ha), fun l hl => kk l _ (.lst _) hl ⟨xs, rfl, hx⟩ hf⟩
  · obtain ⟨v, rfl, hv⟩ := denL1 hd
    cases hv with
    | @scr a ns ha => exact ⟨a, _, rfl, .inl (hK ▸ SqL.sub vw_up ha), fun l hl => kk l _ (.lst _) hl ⟨_, rfl, denL_ints _⟩ hf⟩
  · exact hf.elim
def fTuple : FL
  | [.lst xs], P => P (.tup xs)
  | [.tup xs], P => P (.tup xs)
  | _, _ => False
def rTupleX (K : PySem.W.Frag) : List V → Hp → VK → Prop := fun xs H Q => ∃ p ys, xs = [.ref p] ∧ ((SqL K H p ys ∧ ∀ l, H l = none → Q (.ref l) (upd H l (.tup ys))) ∨ (SqT K H p ys ∧ Q (.ref p) H))
theorem o_tuple (hK : G.K = X.K) : CallD G (rTupleX X.K) fTuple := by
  intro T Z σ env al H vs ds P Q R hd hf kk
  unfold fTuple at hf
  split at hf
  · obtain ⟨v, rfl, hv⟩ := denL1 hd
    obtain ⟨a, xs, rfl, ha, hx⟩ := den_lst hv
    refine ⟨a, xs, rfl, .inl ⟨SqL.of (vw_up _ _ ha), fun l hl => ?_⟩⟩
    obtain ⟨g, dn⟩ := new_tup (al := al) R hl hx
    exact kk _ _ _ g dn hf
  · obtain ⟨v, rfl, hv⟩ := denL1 hd
    have hv0 := hv
    obtain ⟨a, xs, rfl, ha, hx⟩ := den_tup hv
    exact ⟨a, xs, rfl, .inr ⟨hK ▸ SqT.sub vw_up ha, kk _ _ H R.self hv0 hf⟩⟩
  · exact hf.elim
/-! ### ints -/
def fMin2 : FL
  | [.int i, .int j], P => P (.int (if j < i then j else i))
  | _, _ => False
def fMax2 : FL
  | [.int i, .int j], P => P (.int (if j > i then j else i))
  | _, _ => False
def fAbs : FL
  | [.int i], P => P (.int (if i < 0 then -i else i))
  | _, _ => False
def fInt : FL
  | [.int i], P => P (.int i)
  | [.bl b], P => P (.int (if b then 1 else 0))
  | _, _ => False
theorem o_min2 : CallD G (fun xs H Q => ∃ i j, xs = [.int i, .int j] ∧ Q (.int (if j < i then j else i)) H) fMin2 := by
  intro T Z σ env al H vs ds P Q R hd hf kk
  unfold fMin2 at hf
  split at hf
  · obtain ⟨v, w, rfl, hv, hw⟩ := denL2 hd
    cases hv; cases hw
    exact ⟨_, _, rfl, kk _ _ H R.self (.int _) hf⟩
  · exact hf.elim
theorem o_max2 : CallD G (fun xs H Q => ∃ i j, xs = [.int i, .int j] ∧ Q (.int (if j > i then j else i)) H) fMax2 := by
  intro T Z σ env al H vs ds P Q R hd hf kk
  unfold fMax2 at hf
  split at hf
  · obtain ⟨v, w, rfl, hv, hw⟩ := denL2 hd
    cases hv; cases hw
    exact ⟨_, _, rfl, kk _ _ H R.self (.int _) hf⟩
  · exact hf.elim
theorem o_abs : CallD G (fun xs H Q => ∃ i, xs = [.int i] ∧ Q (.int (if i < 0 then -i else i)) H) fAbs := by
  intro T Z σ env al H vs ds P Q R hd hf kk
  unfold fAbs at hf
  split at hf
  · obtain ⟨v, rfl, hv⟩ := denL1 hd
    cases hv
    exact ⟨_, rfl, kk _ _ H R.self (.int _) hf⟩
  · exact hf.elim
theorem o_int1 : CallD G (fun xs H Q => (∃ i, xs = [.int i] ∧ Q (.int i) H) ∨ ∃ k, xs = [.bl k] ∧ Q (.int (if k then 1 else 0)) H) fInt := by
  intro T Z σ env al H vs ds P Q R hd hf kk
  unfold fInt at hf
  split at hf
  · obtain ⟨v, rfl, hv⟩ := denL1 hd
    cases hv
    exact .inl ⟨_, rfl, kk _ _ H R.self (.int _) hf⟩
  · obtain ⟨v, rfl, hv⟩ := denL1 hd
    cases hv
    exact .inr ⟨_, rfl, kk _ _ H R.self (.int _) hf⟩
  · exact hf.elim
/-! ### places, slices -/
def fIdx : F2
  | .lst xs, .int i, P => ∃ d, atI xs i = some d ∧ P d
  | .tup xs, .int i, P => ∃ d, atI xs i = some d ∧ P d
  | .str z, .int i, P => z.length ≤ sizeLine ∧ ∃ c, atI z.cps.toList i = some c ∧ P (.str ⟨#[c]⟩)
  | .ldc kvs, k, P => (lKey k).isSome = true ∧ ∃ d, dLook kvs k = some d ∧ P d
  | .dct kvs, k, P => (dKey k).isSome = true ∧ ∃ d, dLook kvs k = some d ∧ P d
  | _, _, _ => False
def rIxA (G : Ctx) (K : PySem.W.Frag) : R2 := fun x y H Q => rIx K x y H Q ∨ rIxM G x y H Q ∨ rIxC x y H Q
theorem ix_all (hP : G.P = X.prog) (hw : G.w = X.w) (hr : Room k X.A) : IxR X (rIxA G X.K) := ix_seq.or ((ix_leaf hP hw).or (ix_dk hr))
theorem atI_den {G : Ctx} {H : Hp} {xs : List V} {ds : List D} {i : Int} {d : D} (h : DenL G H xs ds) (e : atI ds i = some d) : ∃ v, atI xs i = some v ∧ Den G H v d := by
  unfold atI at e ⊢
  rw [h.length]
  cases q : ixN ds.length i with
  | none => rw [q] at e; cases e
  | some j =>
    rw [q] at e
    exact h.getD e
theorem o_idx (hK : G.K = X.K) : Op2 G (rIxA G X.K) fIdx := by
  intro T Z σ env al H v w x y P Q R h1 h2 hf kk
  unfold fIdx at hf
  split at hf
  · obtain ⟨a, xs, rfl, ha, hx⟩ := den_lst h1
    cases h2
    obtain ⟨d, e, p⟩ := hf
    obtain ⟨u, e2, hu⟩ := atI_den hx e
    exact .inl (.inl ⟨a, xs, _, u, rfl, rfl, SqL.of (vw_up _ _ ha), e2, kk _ _ H R.self hu p⟩)
  · obtain ⟨a, xs, rfl, ha, hx⟩ := den_tup h1
    cases h2
    obtain ⟨d, e, p⟩ := hf
    obtain ⟨u, e2, hu⟩ := atI_den hx e
    exact .inl (.inr (.inl ⟨a, xs, _, u, rfl, rfl, hK ▸ SqT.sub vw_up ha, e2, kk _ _ H R.self hu p⟩))
  · cases h1; cases h2
    obtain ⟨hz, c, e, p⟩ := hf
    exact .inl (.inr (.inr ⟨_, _, c, rfl, rfl, hz, e, kk _ _ H R.self (.str _) p⟩))
  · obtain ⟨a, kvs, rfl, ha, hx⟩ := den_ldc h1
    obtain ⟨hk, d, e, p⟩ := hf
    obtain ⟨x, ex⟩ := Option.isSome_iff_exists.mp hk
    have ew := den_lV ex h2
    rw [← lKey_lD ex] at e
    rcases denM_look (x := x) hx with ⟨u, d2, q1, q2, hu⟩ | ⟨_, q2⟩
    · rw [q2] at e
      cases e
      exact .inr (.inl ⟨a, kvs, x, u, rfl, ew, vw_up _ _ ha, q1, kk _ _ H R.self hu p⟩)
    · rw [q2] at e
      cases e
  · obtain ⟨a, kvs, rfl, ha, hx⟩ := den_dct h1
    obtain ⟨hk, d, e, p⟩ := hf
    obtain ⟨x, ex⟩ := Option.isSome_iff_exists.mp hk
    have ew := den_kV ex h2
    rw [← dKey_kD ex] at e
    rcases denK_look (x := x) hx with ⟨u, d2, q1, q2, hu⟩ | ⟨_, q2⟩
    · rw [q2] at e
      cases e
      exact .inr (.inr ⟨a, kvs, x, u, rfl, ew, Rd.sub vw_up ha, q1, kk _ _ H R.self hu p⟩)
    · rw [q2] at e
      cases e
  · exact hf.elim
def cutD (xs : List D) (lo hi : Option Int) : List D := (xs.drop (HT.sIx xs.length 0 lo)).take (HT.sIx xs.length xs.length hi - HT.sIx xs.length 0 lo)
theorem den_cut {G : Ctx} {H : Hp} {xs : List V} {ds : List D} (h : DenL G H xs ds) (lo hi : Option Int) : DenL G H (cutV xs lo hi) (cutD ds lo hi) := by
  unfold cutV cutD
  rw [h.length]
  exact (h.dropL _).takeL _
abbrev TPO := DEnv → (Option Int → Prop) → (XD → Prop) → Prop
def dNoP : TPO := fun _ P _ => P none
def dPart (t : TP) : TPO := fun env P EP => t env (fun d => ∃ i, d = .int i ∧ P (some i)) EP
def fSl (d : D) (lo hi : Option Int) (P : D → Prop) : Prop := match d with
  | .lst xs => P (.lst (cutD xs lo hi))
  | .tup xs => P (.tup (cutD xs lo hi))
  | _ => False
def dSl (t : TP) (l h : TPO) : TP := fun env P EP => t env (fun d => l env (fun lo => h env (fun hi => fSl d lo hi P) EP) EP) EP
def rSlX (K : PySem.W.Frag) : V → Option Int → Option Int → Hp → VK → Prop := fun x lo hi H Q => rSlL K x lo hi H Q ∨ rSlA K x lo hi H Q
theorem sl_X : SlR X (rSlX X.K) := sl_list.or sl_tupA
def liftO (G : Ctx) (c : Nat) (W : WX) (t : TPO) : TO := fun σ H Q => ∃ (T m : Nat) (Z : Addr → Prop) (env : DEnv) (P : Option Int → Prop) (EP : XD → Prop), (T + c ≤ m ∧ m ≤ G.top) ∧ ER G T Z σ H env ∧ t env P EP ∧ (∀ o H', Grow G m H H' → P o → Q o H') ∧ XW G m W Z σ H EP
theorem _root_.L2.PO.imp {X : Cx} {e : Option Expr} {t t' : TO} (h : PO X e t) (s : ∀ σ H Q, t' σ H Q → t σ H Q) : PO X e t' := ⟨fun pins sh σ H Q I q => h.run pins sh σ H Q I (s σ H Q q)⟩
variable {W : WX} {e : Expr} {eo : Option Expr} {t : TP} {tl th : TPO} {al : List Nat} {u0 u1 u2 u3 : Nat}
theorem lift_nop (h : PO X eo tNoPart) : PO X eo (liftO G 0 W dNoP) := h.imp fun σ H Q ⟨T, m, Z, env, P, EP, ⟨hm, ht⟩, R, q, k, x⟩ => k none H (R.self.le hm) q
theorem lift_part (h : PO X eo (tPart (liftP G u0 W al t))) : PO X eo (liftO G u0 W (dPart t)) := h.imp fun σ H Q ⟨T, m, Z, env, P, EP, ⟨hm, ht⟩, R, q, k, x⟩ =>
  ⟨T, m, Z, env, _, EP, ⟨hm, ht⟩, R, q, fun v d H1 g1 hv ⟨i, ei, p⟩ => by
    subst ei
    cases hv
    exact ⟨i, rfl, k _ H1 g1 p⟩, x⟩
theorem cutV_whole {xs : List V} {lo hi : Option Int} (h : HT.sIx xs.length 0 lo = 0 ∧ HT.sIx xs.length xs.length hi = xs.length) : cutV xs lo hi = xs := by
  unfold cutV
  rw [h.1, h.2]
  simp
theorem lift_sl (hK : G.K = X.K) (h : PE X e (tSl (rSlX X.K) (liftP G u1 W al t) (liftO G u2 W tl) (liftO G u3 W th))) : PE X e (liftP G (u1 + u2 + u3) W al (dSl t tl th)) := h.imp fun σ H Q ⟨T, m, Z, env, P, EP, ⟨hm, ht⟩, R, q, k, x⟩ =>
  ⟨T, T + u1, Z, env, _, EP, ⟨Nat.le_refl _, by omega⟩, R, q, fun v d H1 g1 hv q1 => ⟨T + u1, T + u1 + u2, Z, env, _, EP, ⟨Nat.le_refl _, by omega⟩, R.growG g1, q1, fun lo H2 g2 q2 => ⟨T + u1 + u2, m, Z, env, _, EP, ⟨by omega, by omega⟩, R.growG (g1.trans g2), q2, fun hi H3 g3 q3 => by
    have g13 := (g1.trans g2).trans g3
    have R3 := R.growG g13
    have hv3 := hv.sub (vw_sub (R.growG g1) (g2.trans g3) subS)
    unfold fSl at q3
    split at q3
    · obtain ⟨a, xs, rfl, ha, hx⟩ := den_lst hv3
      refine .inl ⟨a, xs, rfl, SqL.of (vw_up _ _ ha), fun p hp => ?_⟩
      obtain ⟨g, dn⟩ := new_den (al := al) R3 (o := .lst (cutV xs lo hi)) (d := .lst _) hp ⟨_, rfl, den_cut hx lo hi⟩
      exact k _ _ _ (g13.trans g) dn q3
    · have hv0 := hv3
      obtain ⟨a, xs, rfl, ha, hx⟩ := den_tup hv3
      refine .inr ⟨a, xs, rfl, hK ▸ SqT.sub vw_up ha, fun w => ?_, fun _ p hp => ?_⟩
      · have e1 := cutV_whole w
        have hx2 := den_cut hx lo hi
        rw [e1] at hx2
        exact k _ _ H3 g13 (.tup ha hx2) q3
      · obtain ⟨g, dn⟩ := new_tup (al := al) R3 hp (den_cut hx lo hi)
        exact k _ _ _ (g13.trans g) dn q3
    · exact q3.elim, (x.grow g1).grow g2⟩, (x.grow g1).le (by omega)⟩, x.le (by omega)⟩
end
end DL

/-! D9b: more built-ins over values: in, max and min of a sequence, isinstance of exceptions of one's own, their fields. -/
namespace DL
open PySem PySem.Spec PyProof.Rows L2
section
variable {G : Ctx} {X : Cx} {k : Nat}
theorem relV_inj {v w : V} {u : Value} (h : L2.RelV v u) (h' : L2.RelV w u) : v = w := by
  cases v <;> cases w <;> simp only [L2.RelV] at h h' <;> first
    | rfl
    | (obtain ⟨t, e⟩ := h; obtain ⟨t', e'⟩ := h'; subst e; cases e'; done)
    | (obtain ⟨t, e⟩ := h; obtain ⟨t', e'⟩ := h'; subst e; cases e'; rfl)
    | (subst h; cases h'; rfl)
    | (subst h; cases h'; done)
    | (obtain ⟨t, e⟩ := h; subst e; cases h'; done)
    | (obtain ⟨t, e⟩ := h'; subst e; cases h; done)
/-- the data that equal x -/
def hasD (ds : List D) (x : D) : Bool := ds.any fun z => deq z x
/-- by the value: whether it equals x -/
noncomputable def eqOf (G : Ctx) (H : Hp) (x : D) (u : Value) : Bool := @decide (∃ v z, L2.RelV v u ∧ Den G H v z ∧ dat DD z = true ∧ deq z x = true) (Classical.propDecidable _)
theorem eqOf_at {pins : List (Addr × Obj)} {σ : SS} {H : Hp} {s : Shared} (I : Inv X pins σ H s) (hK : G.K = X.K) {v : V} {u : Value} {z x : D} (r : L2.RelV v u) (d : Den G H v z) (hz : dat DD z = true) : eqOf G H x u = deq z x := by
  unfold eqOf
  cases e : deq z x with
  | true => exact @decide_eq_true _ (Classical.propDecidable _) ⟨v, z, r, d, hz, e⟩
  | false =>
    refine @decide_eq_false _ (Classical.propDecidable _) fun ⟨v', z', r', d', hz', e'⟩ => ?_
    have ev := relV_inj r r'
    subst ev
    have ez := den_one I hK DD z z' v hz hz' d d'
    subst ez
    rw [e] at e'
    cases e'
theorem any_eqOf {pins : List (Addr × Obj)} {σ : SS} {H : Hp} {s : Shared} (I : Inv X pins σ H s) (hK : G.K = X.K) {x : D} : ∀ {vs : List V} {us : List Value} {ds : List D}, Vals vs us → DenL G H vs ds → ds.all (dat DD) = true → us.any (eqOf G H x) = hasD ds x
  | _, _, _, .nil, .nil, _ => rfl
  | _, _, _, .cons r rs, .cons d dr, h => by
    simp only [List.all_cons, Bool.and_eq_true] at h
    rw [List.any_cons, eqOf_at I hK r d h.1, any_eqOf I hK rs dr h.2]
    rfl
theorem mem_den {H : Hp} : ∀ {vs : List V} {us : List Value} {ds : List D}, Vals vs us → DenL G H vs ds → ∀ u ∈ us, ∃ v z, L2.RelV v u ∧ Den G H v z ∧ z ∈ ds
  | _, _, _, .nil, .nil, u, h => absurd h List.not_mem_nil
  | _, _, _, .cons r rs, .cons d dr, u, h => by
    rcases List.mem_cons.mp h with rfl | h
    · exact ⟨_, _, r, d, List.mem_cons_self⟩
    · obtain ⟨v, z, a, b, c⟩ := mem_den rs dr u h
      exact ⟨v, z, a, b, List.mem_cons_of_mem _ c⟩
/-- x in a list or tuple of data -/
def rInQ (G : Ctx) (neg : Bool) : R2 := fun x y H Q => ∃ dx ds, dat DD dx = true ∧ ds.all (dat DD) = true ∧ Den G H x dx ∧ (Den G H y (.lst ds) ∨ Den G H y (.tup ds)) ∧ Q (.bl (if neg then !hasD ds dx else hasD ds dx)) H
theorem units2 {A : Around} (hr : Room k A) : A.in1.units + DD < cLine := by
  have := hr.un
  show A.units + 1 + DD < cLine
  simp only [DD]
  omega
theorem op_inQ (hK : G.K = X.K) (hr : Room k X.A) : OpR X (compareOp .In) (rInQ G false) := by
  intro pins s σ H x y v u Q I rx ry ⟨dx, ds, hx, hs, h1, h2, q⟩
  have eqs : ∀ {vs : List V} {us : List Value}, Vals vs us → DenL G H vs ds → ∀ w ∈ us, SeqAt.EqAt X.A.in1 s w v (eqOf G H dx w) := fun rv dv w hw => by
    obtain ⟨v', z, r', d', hm⟩ := mem_den rv dv w hw
    have hz := List.all_eq_true.mp hs z hm
    rw [eqOf_at I hK r' d' hz]
    exact den_eq I hK DD z dx v' x w v X.A.in1 hz hx d' h1 r' rx (units2 hr)
  rcases h2 with h2 | h2
  · obtain ⟨a, vs, rfl, ha, hv⟩ := den_lst h2
    cases (show u = .ref a from ry)
    obtain ⟨its, r, pl, hz⟩ := I.list (SqL.of ha)
    refine SeqAt.in_listAt (eqOf G H dx) pl.isList (fun w hw => eqs r hv w (by simpa using hw)) ⟨.bl _, H, I, rfl, ?_⟩
    rw [show its.toArray.any (eqOf G H dx) = its.any (eqOf G H dx) by simp, any_eqOf I hK r hv hs]
    exact q
  · obtain ⟨a, vs, rfl, ha, hv⟩ := den_tup h2
    cases (show u = .ref a from ry)
    obtain ⟨its, r, pl, hz⟩ := I.tuple (hK ▸ ha)
    refine SeqAt.in_tupleAt (eqOf G H dx) pl (fun w hw => eqs r hv w (by simpa using hw)) ⟨.bl _, H, I, rfl, ?_⟩
    rw [show its.toArray.any (eqOf G H dx) = its.any (eqOf G H dx) by simp, any_eqOf I hK r hv hs]
    exact q
theorem op_notInQ (hK : G.K = X.K) (hr : Room k X.A) : OpR X (compareOp .NotIn) (rInQ G true) := by
  intro pins s σ H x y v u Q I rx ry ⟨dx, ds, hx, hs, h1, h2, q⟩
  have eqs : ∀ {vs : List V} {us : List Value}, Vals vs us → DenL G H vs ds → ∀ w ∈ us, SeqAt.EqAt X.A.in1 s w v (eqOf G H dx w) := fun rv dv w hw => by
    obtain ⟨v', z, r', d', hm⟩ := mem_den rv dv w hw
    have hz := List.all_eq_true.mp hs z hm
    rw [eqOf_at I hK r' d' hz]
    exact den_eq I hK DD z dx v' x w v X.A.in1 hz hx d' h1 r' rx (units2 hr)
  rcases h2 with h2 | h2
  · obtain ⟨a, vs, rfl, ha, hv⟩ := den_lst h2
    cases (show u = .ref a from ry)
    obtain ⟨its, r, pl, hz⟩ := I.list (SqL.of ha)
    refine SeqAt.notIn_listAt (eqOf G H dx) pl.isList (fun w hw => eqs r hv w (by simpa using hw)) ⟨.bl _, H, I, rfl, ?_⟩
    rw [show its.toArray.any (eqOf G H dx) = its.any (eqOf G H dx) by simp, any_eqOf I hK r hv hs]
    exact q
  · obtain ⟨a, vs, rfl, ha, hv⟩ := den_tup h2
    cases (show u = .ref a from ry)
    obtain ⟨its, r, pl, hz⟩ := I.tuple (hK ▸ ha)
    refine SeqAt.notIn_tupleAt (eqOf G H dx) pl (fun w hw => eqs r hv w (by simpa using hw)) ⟨.bl _, H, I, rfl, ?_⟩
    rw [show its.toArray.any (eqOf G H dx) = its.any (eqOf G H dx) by simp, any_eqOf I hK r hv hs]
    exact q
/-- x in a dict -/
def rInC (G : Ctx) (neg : Bool) : R2 := fun x y H Q => ∃ (kv : Key) (a : Addr) (kvs : List (Key × V)), x = kV kv ∧ y = .ref a ∧ Rd H a (.dK kvs) ∧ Q (.bl (if neg then !(valV kvs kv).isSome else (valV kvs kv).isSome)) H
theorem op_inC (hr : Room k X.A) : OpR X (compareOp .In) (rInC G false) := by
  intro pins s σ H x y v u Q I rx ry ⟨kv, a, kvs, ex, ey, hd, q⟩
  subst ex ey
  cases (show u = .ref a from ry)
  exact d_in (by have := hr.un; unfold cLine at this ⊢; omega) I (.inl ⟨kvs, kv, hd, rfl, rfl⟩) rx fun s3 I3 => ⟨.bl _, H, I3, rfl, q⟩
theorem op_notInC (hr : Room k X.A) : OpR X (compareOp .NotIn) (rInC G true) := by
  intro pins s σ H x y v u Q I rx ry ⟨kv, a, kvs, ex, ey, hd, q⟩
  subst ex ey
  cases (show u = .ref a from ry)
  exact d_notIn (by have := hr.un; unfold cLine at this ⊢; omega) I (.inl ⟨kvs, kv, hd, rfl, rfl⟩) rx fun s3 I3 => ⟨.bl _, H, I3, rfl, q⟩
/-- x in c, not in -/
def fInN (neg : Bool) : F2 := fun x c P => match c with
  | .lst ds => dat DD x = true ∧ ds.all (dat DD) = true ∧ P (.bl (if neg then !hasD ds x else hasD ds x))
  | .tup ds => dat DD x = true ∧ ds.all (dat DD) = true ∧ P (.bl (if neg then !hasD ds x else hasD ds x))
  | .dct kvs => (dKey x).isSome = true ∧ P (.bl (if neg then !(dLook kvs x).isSome else (dLook kvs x).isSome))
  | .ldc kvs => (lKey x).isSome = true ∧ P (.bl (if neg then !(dLook kvs x).isSome else (dLook kvs x).isSome))
  | _ => False
def rInX (G : Ctx) (neg : Bool) : R2 := fun x y H Q => rInQ G neg x y H Q ∨ rInC G neg x y H Q ∨ rInM G neg x y H Q
theorem op_inX (hK : G.K = X.K) (hP : G.P = X.prog) (hw : G.w = X.w) (hr : Room k X.A) : OpR X (compareOp .In) (rInX G false) := (op_inQ hK hr).or ((op_inC hr).or (op_inM hP hw))
theorem op_notInX (hK : G.K = X.K) (hP : G.P = X.prog) (hw : G.w = X.w) (hr : Room k X.A) : OpR X (compareOp .NotIn) (rInX G true) := (op_notInQ hK hr).or ((op_notInC hr).or (op_notInM hP hw))
theorem o_inX (neg : Bool) : Op2 G (rInX G neg) (fInN neg) := by
  intro T Z σ env al H v w x y P Q R h1 h2 hf kk
  unfold fInN at hf
  split at hf
  · exact .inl ⟨x, _, hf.1, hf.2.1, h1.sub vw_up, .inl (h2.sub vw_up), kk _ _ H R.self (.bl _) hf.2.2⟩
  · exact .inl ⟨x, _, hf.1, hf.2.1, h1.sub vw_up, .inr (h2.sub vw_up), kk _ _ H R.self (.bl _) hf.2.2⟩
  · obtain ⟨a, kvs, rfl, ha, hk⟩ := den_dct h2
    obtain ⟨kx, ek⟩ := Option.isSome_iff_exists.mp hf.1
    have ev := den_kV ek h1
    have ed := dKey_kD ek
    refine .inr (.inl ⟨kx, a, kvs, ev, rfl, Rd.sub vw_up ha, kk _ _ H R.self (.bl _) ?_⟩)
    have := hf.2
    rw [← ed] at this
    rcases denK_look (x := kx) hk with ⟨v', d', e1, e2, _⟩ | ⟨e1, e2⟩
    · rw [e1]; rw [e2] at this; exact this
    · rw [e1]; rw [e2] at this; exact this
  · obtain ⟨a, kvs, rfl, ha, hk⟩ := den_ldc h2
    obtain ⟨kx, ek⟩ := Option.isSome_iff_exists.mp hf.1
    have ev := den_lV ek h1
    have ed := lKey_lD ek
    refine .inr (.inr ⟨kx, a, kvs, ev, rfl, vw_up _ _ ha, kk _ _ H R.self (.bl _) ?_⟩)
    have := hf.2
    rw [← ed] at this
    rcases denM_look (x := kx) hk with ⟨v', d', e1, e2, _⟩ | ⟨e1, e2⟩
    · rw [e1]; rw [e2] at this; exact this
    · rw [e1]; rw [e2] at this; exact this
  · exact hf.elim
/-! ### max, min of a list or a tuple of ints -/
def intsD : List D → Option (List Int)
  | [] => some []
  | .int i :: r => (intsD r).map (i :: ·)
  | _ => none
theorem intsD_map : ∀ ns : List Int, intsD (ns.map D.int) = some ns
  | [] => rfl
  | n :: r => by
    show (intsD (r.map D.int)).map (n :: ·) = _
    rw [intsD_map r]
    rfl
theorem den_ints {H : Hp} : ∀ {vs : List V} {ds : List D} {ns : List Int}, DenL G H vs ds → intsD ds = some ns → vs = ns.map V.int
  | _, _, _, .nil, e => by cases e; rfl
  | _, _, ns, .cons (d := d) h r, e => by
    cases d with
    | int i =>
      simp only [intsD, Option.map_eq_some_iff] at e
      obtain ⟨ms, e1, e2⟩ := e
      subst e2
      rw [den_int h, den_ints r e1]
      rfl
    | _ => cases e
def maxI (x : Int) (xs : List Int) : Int := xs.foldl (fun a y => if a < y then y else a) x
def minI (x : Int) (xs : List Int) : Int := xs.foldl (fun a y => if y < a then y else a) x
def fMaxS : FL := fun ds P => match ds with
  | [.lst xs] => ∃ n ns, intsD xs = some (n :: ns) ∧ P (.int (maxI n ns))
  | [.tup xs] => ∃ n ns, intsD xs = some (n :: ns) ∧ P (.int (maxI n ns))
  | [.int i, .int j] => P (.int (if j > i then j else i))
  | _ => False
def fMinS : FL := fun ds P => match ds with
  | [.lst xs] => ∃ n ns, intsD xs = some (n :: ns) ∧ P (.int (minI n ns))
  | [.tup xs] => ∃ n ns, intsD xs = some (n :: ns) ∧ P (.int (minI n ns))
  | [.int i, .int j] => P (.int (if j < i then j else i))
  | _ => False
theorem maxOf_I (x : Int) (xs : List Int) : PySem.W.maxOf x xs = maxI x xs := by
  unfold PySem.W.maxOf maxI
  congr 1
  funext a y
  show (if decide (a < y) = true then y else a) = _
  by_cases h : a < y <;> simp [h]
theorem minOf_I (x : Int) (xs : List Int) : PySem.W.minOf x xs = minI x xs := by
  unfold PySem.W.minOf minI
  congr 1
  funext a y
  show (if decide (y < a) = true then y else a) = _
  by_cases h : y < a <;> simp [h]
def rMaxX (K : PySem.W.Frag) : List V → Hp → VK → Prop := fun vs H Q => ∃ (a : Addr) (n : Int) (ns : List Int), vs = [V.ref a] ∧ (SqL K H a ((n :: ns).map V.int) ∨ SqT K H a ((n :: ns).map V.int)) ∧ Q (.int (maxI n ns)) H
def rMinX (K : PySem.W.Frag) : List V → Hp → VK → Prop := fun vs H Q => ∃ (a : Addr) (n : Int) (ns : List Int), vs = [V.ref a] ∧ (SqL K H a ((n :: ns).map V.int) ∨ SqT K H a ((n :: ns).map V.int)) ∧ Q (.int (minI n ns)) H
theorem units3 {A : Around} (hr : Room k A) : A.units + 1 + 0 < cLine := by
  have := hr.un
  omega
theorem holds_intv {h : Heap} {v : Value} {n : Int} (H : PySem.W.Holds h v n) : ∃ t, v = .int n t := by
  obtain ⟨as, H⟩ := H
  cases H
  exact ⟨_, rfl⟩
theorem cr_maxX (hc : X.calm = true) (hr : Room k X.A) : CallR X (.builtin "max") (rMaxX X.K) := by
  intro pins s σ H vs us Q I r ⟨a, n, ns, ev, hs, q⟩
  subst ev
  rw [Vals.ref1 r]
  rcases hs with hs | hs
  · obtain ⟨its, rv, hl, _⟩ := I.list hs
    exact PySem.W.max_list_datum (x := n) (xs := ns) (I.ok.hd hc) hl.isList (PySem.W.HoldAll.of_ints (by simpa using rv.ints)) (units3 hr) fun i v h' tk _ hv hk => by
      obtain ⟨t, rfl⟩ := holds_intv hv
      rw [maxOf_I]
      exact ⟨.int _, H, I.kept hk, ⟨_, rfl⟩, q⟩
  · obtain ⟨its, rv, hl, _⟩ := I.tuple hs
    exact PySem.W.max_tuple_datum (x := n) (xs := ns) (I.ok.hd hc) hl (PySem.W.HoldAll.of_ints (by simpa using rv.ints)) (units3 hr) fun i v h' tk _ hv hk => by
      obtain ⟨t, rfl⟩ := holds_intv hv
      rw [maxOf_I]
      exact ⟨.int _, H, I.kept hk, ⟨_, rfl⟩, q⟩
theorem cr_minX (hc : X.calm = true) (hr : Room k X.A) : CallR X (.builtin "min") (rMinX X.K) := by
  intro pins s σ H vs us Q I r ⟨a, n, ns, ev, hs, q⟩
  subst ev
  rw [Vals.ref1 r]
  rcases hs with hs | hs
  · obtain ⟨its, rv, hl, _⟩ := I.list hs
    exact PySem.W.min_list_datum (x := n) (xs := ns) (I.ok.hd hc) hl.isList (PySem.W.HoldAll.of_ints (by simpa using rv.ints)) (units3 hr) fun i v h' tk _ hv hk => by
      obtain ⟨t, rfl⟩ := holds_intv hv
      rw [minOf_I]
      exact ⟨.int _, H, I.kept hk, ⟨_, rfl⟩, q⟩
  · obtain ⟨its, rv, hl, _⟩ := I.tuple hs
    exact PySem.W.min_tuple_datum (x := n) (xs := ns) (I.ok.hd hc) hl (PySem.W.HoldAll.of_ints (by simpa using rv.ints)) (units3 hr) fun i v h' tk _ hv hk => by
      obtain ⟨t, rfl⟩ := holds_intv hv
      rw [minOf_I]
      exact ⟨.int _, H, I.kept hk, ⟨_, rfl⟩, q⟩
def rMax2X (K : PySem.W.Frag) : List V → Hp → VK → Prop := fun xs H Q => rMaxX K xs H Q ∨ ∃ i j, xs = [.int i, .int j] ∧ Q (.int (if j > i then j else i)) H
def rMin2X (K : PySem.W.Frag) : List V → Hp → VK → Prop := fun xs H Q => rMinX K xs H Q ∨ ∃ i j, xs = [.int i, .int j] ∧ Q (.int (if j < i then j else i)) H
theorem call_maxQ (hc : X.calm = true) (hr : Room k X.A) : CallR X (.builtin "max") (rMax2X X.K) := (cr_maxX hc hr).or (call_max2 hc)
theorem call_minQ (hc : X.calm = true) (hr : Room k X.A) : CallR X (.builtin "min") (rMin2X X.K) := (cr_minX hc hr).or (call_min2 hc)
theorem o_maxS (hK : G.K = X.K) : CallD G (rMax2X X.K) fMaxS := by
  intro T Z σ env al H vs ds P Q R h hf kk
  unfold fMaxS at hf
  split at hf
  · obtain ⟨v, rfl, hv⟩ := denL1 h
    obtain ⟨n, ns, e, p⟩ := hf
    obtain ⟨a, us, rfl, ha, hu⟩ := den_lst hv
    rw [den_ints hu e] at ha
    exact .inl ⟨a, n, ns, rfl, .inl (SqL.of (vw_up _ _ ha)), kk _ _ H R.self (.int _) p⟩
  · obtain ⟨v, rfl, hv⟩ := denL1 h
    obtain ⟨n, ns, e, p⟩ := hf
    obtain ⟨a, us, rfl, ha, hu⟩ := den_tup hv
    rw [den_ints hu e] at ha
    exact .inl ⟨a, n, ns, rfl, .inr (hK ▸ SqT.sub vw_up ha), kk _ _ H R.self (.int _) p⟩
  · obtain ⟨v, w, rfl, hv, hw⟩ := denL2 h
    cases hv; cases hw
    exact .inr ⟨_, _, rfl, kk _ _ H R.self (.int _) hf⟩
  · exact hf.elim
theorem o_minS (hK : G.K = X.K) : CallD G (rMin2X X.K) fMinS := by
  intro T Z σ env al H vs ds P Q R h hf kk
  unfold fMinS at hf
  split at hf
  · obtain ⟨v, rfl, hv⟩ := denL1 h
    obtain ⟨n, ns, e, p⟩ := hf
    obtain ⟨a, us, rfl, ha, hu⟩ := den_lst hv
    rw [den_ints hu e] at ha
    exact .inl ⟨a, n, ns, rfl, .inl (SqL.of (vw_up _ _ ha)), kk _ _ H R.self (.int _) p⟩
  · obtain ⟨v, rfl, hv⟩ := denL1 h
    obtain ⟨n, ns, e, p⟩ := hf
    obtain ⟨a, us, rfl, ha, hu⟩ := den_tup hv
    rw [den_ints hu e] at ha
    exact .inl ⟨a, n, ns, rfl, .inr (hK ▸ SqT.sub vw_up ha), kk _ _ H R.self (.int _) p⟩
  · obtain ⟨v, w, rfl, hv, hw⟩ := denL2 h
    cases hv; cases hw
    exact .inr ⟨_, _, rfl, kk _ _ H R.self (.int _) hf⟩
  · exact hf.elim
end
/-! ### isinstance of an exception's object -/
section
open PySem.W PySem.Calls
variable {prog : Program} {w : World} {A : Around} {E : Value → Shared → Prop} {s : Shared} {K : Frag} {x C : Addr} {ox : Obj} {od : Option Obj}
theorem cls_of_exc {Q : Option Value → Shared → Prop} (T : L2.ExcC K C) (kin : K.In s.heap) (inst : InstAt s.heap x ox C od) (q : Q (some (.ref C)) { s with toks := s.toks + 1 }) :
    wpAny (model prog w) A (getAttr? (.ref x) "__class__") Q E s := by
  obtain ⟨cd, cls, _⟩ := any_some T.hd
  have found : findObj K C od "__class__" = some (.bind (.builtin "getset_descriptor.__get__") (.builtin "object.__class__")) := by
    unfold findObj
    have e : (clsIn K C).isSome = true := by rw [cls]; rfl
    obtain ⟨cd2, cls2⟩ := Option.isSome_iff_exists.mp e
    rw [cls2, Option.bind_some, T.ha, Option.bind_some]
    simp [T.hn, T.ht]
  obtain ⟨hp, gn, dr, tk, os⟩ := s
  have isC := inst.type (M := model prog w)
  have own1 := looks_findIn (M := model prog w) kin T.hg
  have own2 := looks_findIn (M := model prog w) kin T.hk
  have look := looks_find (M := model prog w) kin inst found
  have base : Looks (model prog w) hp (isInstance (.ref x) (.type "BaseException")) true := isC.andThen (looks_subIn kin T.hs)
  have no1 : (Value.builtin "BaseException.__getattribute__" == Value.builtin "object.__getattribute__") = false := by decide +kernel
  have no2 : (onTheHeap (Value.ref C) && Value.builtin "BaseException.__getattribute__" == Value.builtin "object.__getattribute__") = false := by rw [no1]; rfl
  have no3 : (false && onTheHeap (Value.builtin "BaseException.__getattribute__")) = false := rfl
  unfold getAttr? getAttrBy? getAttrBy
  refine wpAny_bind (wpAny_mkText (wpAny_bind (wpAny_attempt (wpAny_holding (wpAny_bind (isC.at (wpAny_bind (own1.at ?g))))))))
  case g =>
    show wpAny _ _ (if (onTheHeap (Value.ref C) && Value.builtin "BaseException.__getattribute__" == Value.builtin "object.__getattribute__") = true then _ else _) _ _ _
    rw [no2, if_neg Bool.false_ne_true]
    unfold getAttrByItsOwn hookBefore
    refine wpAny_bind ?g
    case g =>
      rw [if_pos (show onTheHeap (Value.ref C) = true from rfl)]
      refine own2.at (wpAny_bind (wpAny_attempt (wpAny_holding ?g)))
      case g =>
        unfold callGetattribute
        rw [no3, if_neg Bool.false_ne_true]
        unfold boundAndCalled
        rw [PySem.F.excAttr_ValueError.ga.bind (.ref x)]
        refine wpAny_bind (wpAny_pure ?g)
        case g =>
          show wpAny _ _ (call (.builtin "BaseException.__getattribute__") [.ref x, .str "__class__" tk]) _ _ _
          refine wpAny_call (codeAny_call_builtin PySem.F.excAttr_ValueError.ga.plain PySem.F.entry_bexc_ga ?g)
          case g =>
            refine @check_slot (model prog w) _ _ ⟨hp, gn, dr, tk + 1, os⟩ "BaseException.__getattribute__" "BaseException" "__getattribute__" (.ref x) [.str "__class__" tk] [] _ (by decide +kernel) (by decide +kernel) base (PySem.F.args_bexc_ga (.ref x) (.str "__class__" tk)) ?g
            case g =>
              unfold Builtin.«object.__getattribute__»
              refine wpAny_bind (wpAny_of_eq (a := ((Value.ref x : Value), [Value.str "__class__" tk])) (by first | rfl | (simp only [slotArgs]; rfl)) ?g)
              case g =>
                refine wpAny_bind (wpAny_pure (wpAny_bind (isC.at (wpAny_bind (look.at ?g)))))
                case g =>
                  show wpAny _ _ (holding [Value.builtin "object.__class__"] (call (.builtin "getset_descriptor.__get__") [.builtin "object.__class__", .ref x, .ref C]) >>= ret) _ _ _
                  refine wpAny_bind (wpAny_holding (wpAny_call (class_get (s := ⟨hp, gn, dr, tk + 1, os⟩) (ox := ox) (od := od) kin inst T.hm (wpAny_pure ?g))))
                  case g =>
                    show wpAny _ _ (handedOut (.ref C)) _ _ _
                    rw [handedOut_of (v := .ref C) rfl]
                    first
                      | exact wpAny_pure (wpAny_pure q)
                      | exact wpAny_pure q
                      | exact wpAny_pure (wpAny_bind (wpAny_pure (wpAny_pure q)))
theorem kit_of_exc (T : L2.ExcC K C) : KitX K (.ref x) (.ref C) (fun h => InstAt h x ox C od) where
  ty := fun _ _ _ I => I.type
  it := fun _ _ kin _ => by
    obtain ⟨cd, cls, _⟩ := any_some T.hd
    unfold clsIn at cls
    split at cls
    · rename_i c' d' cd' sl' ho
      intro A' Q' E' s' kk q
      unfold isType loadHead
      exact wpAny_bind (wpAny_loadPart (kk _ _ (kin _ _ ho)) (wpAny_pure q))
    · cases cls
  ne := fun h tp dd its n sl kin htp => by
    obtain ⟨cd, cls, _⟩ := any_some T.hd
    refine Bool.eq_false_iff.mpr fun q => ?_
    have e : C = tp := Value.ref.inj (beq_iff_eq.mp q)
    subst e
    unfold clsIn at cls
    split at cls
    · rename_i c' d' cd' sl' ho
      cases (kin _ _ ho).symm.trans htp
    · cases cls
  ca := fun kin I q => cls_of_exc T kin I q
end
end DL

/-! DLR: repr of a dict whose values are data without lists. -/
namespace DL
open PySem PySem.Spec PyProof.Rows L2
section
variable {G : Ctx} {X : Cx} {k : Nat}
/-- data of depth n at most: None, bools, ints, texts, tuples -/
def tdat : Nat → D → Bool
  | _, .non => true
  | _, .bl _ => true
  | _, .int _ => true
  | _, .str _ => true
  | n + 1, .tup xs => xs.all (tdat n)
  | _, _ => false
def pyK (kvs : List (D × D)) : List (PyData × PyData) := kvs.map fun p => (toPy p.1, toPy p.2)
theorem reads_t {pins : List (Addr × Obj)} {σ : SS} {H : Hp} {s : Shared} (I : Inv X pins σ H s) (hK : G.K = X.K) : ∀ (n : Nat) (x : D) (v : V) (u : Value), tdat n x = true → Den G H v x → L2.RelV v u → Reads s.heap u (toPy x) [] ∧ (toPy x).depth ≤ n := by
  intro n
  have flat0 : ∀ (n : Nat) (x : D) (v : V) (u : Value), (x = .non ∨ (∃ b, x = .bl b) ∨ (∃ i, x = .int i) ∨ ∃ z, x = .str z) → Den G H v x → L2.RelV v u → Reads s.heap u (toPy x) [] ∧ (toPy x).depth ≤ n := by
    rintro n x v u (rfl | ⟨b, rfl⟩ | ⟨i, rfl⟩ | ⟨z, rfl⟩) h r <;> cases h
    · cases (show u = .none from r); exact ⟨.none, by simp [toPy, PyData.depth]⟩
    · cases (show u = .bool b from r); exact ⟨.bool b, by simp [toPy, PyData.depth]⟩
    · obtain ⟨t, e⟩ := (show ∃ t, u = .int i t from r); cases e; exact ⟨.int i t, by simp [toPy, PyData.depth]⟩
    · obtain ⟨t, e⟩ := (show ∃ t, u = .str z t from r); cases e; exact ⟨.str z t, by simp [toPy, PyData.depth]⟩
  induction n with
  | zero =>
    intro x v u hx h r
    cases h with
    | non => exact flat0 0 _ _ _ (.inl rfl) .non r
    | bl b => exact flat0 0 _ _ _ (.inr (.inl ⟨b, rfl⟩)) (.bl b) r
    | int i => exact flat0 0 _ _ _ (.inr (.inr (.inl ⟨i, rfl⟩))) (.int i) r
    | str z => exact flat0 0 _ _ _ (.inr (.inr (.inr ⟨z, rfl⟩))) (.str z) r
    | _ => simp [tdat] at hx
  | succ n ih =>
    have all : ∀ (ds : List D) (vs : List V) (us : List Value), ds.all (tdat n) = true → DenL G H vs ds → Vals vs us → ReadsAll s.heap us (toPyL ds) [] ∧ PyData.depthAll (toPyL ds) ≤ n := by
      intro ds
      induction ds with
      | nil => intro vs us _ h r; cases h; cases r; exact ⟨.nil, by simp [toPyL, PyData.depthAll]⟩
      | cons d ds ihd =>
        intro vs us ha h r
        cases h with
        | cons h1 h2 =>
          cases r with
          | cons r1 r2 =>
            simp only [List.all_cons, Bool.and_eq_true] at ha
            obtain ⟨q1, q2⟩ := ih d _ _ ha.1 h1 r1
            obtain ⟨p1, p2⟩ := ihd _ _ ha.2 h2 r2
            exact ⟨.cons q1 p1, by simp only [toPyL, PyData.depthAll]; omega⟩
    intro x v u hx h r
    cases h with
    | non => exact flat0 _ _ _ _ (.inl rfl) .non r
    | bl b => exact flat0 _ _ _ _ (.inr (.inl ⟨b, rfl⟩)) (.bl b) r
    | int i => exact flat0 _ _ _ _ (.inr (.inr (.inl ⟨i, rfl⟩))) (.int i) r
    | str z => exact flat0 _ _ _ _ (.inr (.inr (.inr ⟨z, rfl⟩))) (.str z) r
    | @tup a xs ds ha hd =>
      cases (show u = .ref a from r)
      obtain ⟨its, rv, ⟨o, ho, hc, m, hdt⟩, _⟩ := I.tuple (hK ▸ ha)
      obtain ⟨q1, q2⟩ := all ds xs its (by simpa only [tdat] using hx) hd rv
      exact ⟨.tuple ho hc hdt (by simpa using q1), by simp only [toPy, PyData.depth]; omega⟩
    | _ => simp [tdat] at hx
def kOk (kvs : List (D × D)) : Bool := kvs.all fun p => tdat 58 p.2
theorem pairs_mix {pins : List (Addr × Obj)} {σ : SS} {H : Hp} {s : Shared} (I : Inv X pins σ H s) (hK : G.K = X.K) : ∀ {kvs : List (Key × V)} {ds : List (D × D)} {vs : List (Key × Value)} {es : List DictEntry}, DenK G H kvs ds → KV kvs vs → Pairs (mixKind X.prog X.w) es vs → kOk ds = true →
    ReadsAll s.heap (es.map (·.key)) ((pyK ds).map (·.1)) [] ∧ ReadsAll s.heap (es.map (·.val)) ((pyK ds).map (·.2)) [] ∧ PyData.depthKv (pyK ds) ≤ 58
  | _, _, _, _, .nil, .nil, .nil, _ => ⟨.nil, .nil, by simp [pyK, PyData.depthKv]⟩
  | _, _, _, _, .cons (k := kk) (v := v) (d := d) hd hr, .cons ⟨e1, rv⟩ rr, .cons hk hv hp, ok => by
    simp only [kOk, List.all_cons, Bool.and_eq_true] at ok
    obtain ⟨q1, q2, q3⟩ := pairs_mix I hK hr rr hp ok.2
    obtain ⟨p1, p2⟩ := reads_t I hK 58 d v _ ok.1 hd rv
    rename_i vs0 ds0 bb l2 ee es2
    obtain ⟨b1, b2⟩ := bb
    have e1 : kk = b1 := e1
    subst e1
    have hv : ee.val = b2 := hv
    have hk : keyIs kk ee.key = true := hk
    have hd0 : (toPy (kD kk)).depth = 0 := by cases kk <;> simp [kD, toPy, PyData.depth]
    refine ⟨?_, ?_, ?_⟩
    · rcases keyIs_shape hk with ⟨i, t, e, e2⟩ | ⟨x, t, e, e2⟩
      · subst e
        show ReadsAll _ (ee.key :: _) (toPy (.int i) :: _) _
        rw [e2]
        exact .cons (.int i t) q1
      · subst e
        show ReadsAll _ (ee.key :: _) (toPy (.str x) :: _) _
        rw [e2]
        exact .cons (.str x t) q1
    · show ReadsAll _ (ee.val :: _) (toPy d :: _) _
      rw [hv]
      exact .cons p1 q2
    · show PyData.depthKv ((toPy (kD kk), toPy d) :: pyK ds0) ≤ 58
      simp only [PyData.depthKv]
      omega
/-- keys: None, texts -/
def noInt : D → Bool
  | .non => true
  | .str _ => true
  | _ => false
def kOkL (kvs : List (D × D)) : Bool := kvs.all fun p => noInt p.1 && tdat 58 p.2
theorem leaf_shape {k : Leaf} {v : Value} (h : Leaf.isOf k v = true) (hn : noInt (lD k) = true) : (k = .none ∧ v = .none) ∨ ∃ x t, k = .text x ∧ v = .str x t := by
  cases k with
  | none => cases v <;> first | exact .inl ⟨rfl, rfl⟩ | cases h
  | num i => cases hn
  | text x =>
    obtain ⟨t, e⟩ := Value.isStrOf_shape (show Value.isStrOf x v = true from h)
    exact .inr ⟨x, t, rfl, e⟩
theorem pairs_leaf {pins : List (Addr × Obj)} {σ : SS} {H : Hp} {s : Shared} (I : Inv X pins σ H s) (hK : G.K = X.K) : ∀ {kvs : List (Leaf × V)} {ds : List (D × D)} {vs : List (Leaf × Value)} {es : List DictEntry}, DenM G H kvs ds → KV kvs vs → Pairs (leafKind X.prog X.w) es vs → kOkL ds = true →
    ReadsAll s.heap (es.map (·.key)) ((pyK ds).map (·.1)) [] ∧ ReadsAll s.heap (es.map (·.val)) ((pyK ds).map (·.2)) [] ∧ PyData.depthKv (pyK ds) ≤ 58
  | _, _, _, _, .nil, .nil, .nil, _ => ⟨.nil, .nil, by simp [pyK, PyData.depthKv]⟩
  | _, _, _, _, .cons (k := kk) (v := v) (d := d) hd hr, .cons ⟨e1, rv⟩ rr, .cons hk hv hp, ok => by
    simp only [kOkL, List.all_cons, Bool.and_eq_true] at ok
    obtain ⟨q1, q2, q3⟩ := pairs_leaf I hK hr rr hp ok.2
    obtain ⟨p1, p2⟩ := reads_t I hK 58 d v _ ok.1.2 hd rv
    rename_i vs0 ds0 bb l2 ee es2
    obtain ⟨b1, b2⟩ := bb
    have e1 : kk = b1 := e1
    subst e1
    have hv : ee.val = b2 := hv
    have hk : Leaf.isOf kk ee.key = true := hk
    have hd0 : (toPy (lD kk)).depth = 0 := by cases kk <;> simp [lD, toPy, PyData.depth]
    refine ⟨?_, ?_, ?_⟩
    · rcases leaf_shape hk ok.1.1 with ⟨e, e2⟩ | ⟨x, t, e, e2⟩
      · subst e
        show ReadsAll _ (ee.key :: _) (toPy .non :: _) _
        rw [e2]
        exact .cons .none q1
      · subst e
        show ReadsAll _ (ee.key :: _) (toPy (.str x) :: _) _
        rw [e2]
        exact .cons (.str x t) q1
    · show ReadsAll _ (ee.val :: _) (toPy d :: _) _
      rw [hv]
      exact .cons p1 q2
    · show PyData.depthKv ((toPy (lD kk), toPy d) :: pyK ds0) ≤ 58
      simp only [PyData.depthKv]
      omega
def rReprD (G : Ctx) : List V → Hp → VK → Prop := fun vs H Q => ∃ v kvs, vs = [v] ∧ ((Den G H v (.dct kvs) ∧ kOk kvs = true) ∨ (Den G H v (.ldc kvs) ∧ kOkL kvs = true)) ∧ (PyData.dict (pyK kvs)).showable = true ∧ (PyData.dict (pyK kvs)).shown.length ≤ sizeLine ∧ Q (.str (PyData.dict (pyK kvs)).shown) H
theorem call_reprD (hK : G.K = X.K) (hP : G.P = X.prog) (hw : G.w = X.w) (hr : Room k X.A) (hg : X.A.guards = some []) : CallR X (.builtin "repr") (rReprD G) := by
  intro pins s σ H vs us Q I r h
  obtain ⟨v, kvs, rfl, hd, hs, hz, q⟩ := h
  obtain ⟨u, rfl, ru⟩ := vals1 r
  have fin : ∀ {a : Addr} {as : List Addr}, u = .ref a → Reads s.heap (.ref a) (.dict (pyK kvs)) [a] → (a == sysModules) = false → PyData.depthKv (pyK kvs) ≤ 58 → wpAny (model X.prog X.w) X.A (call (.builtin "repr") [u]) (fun u s' => ∃ v' H', Inv X pins σ H' s' ∧ L2.RelV v' u ∧ Q v' H') X.xe s := fun {a as} eu rd ns dp => by
    subst eu
    have room : X.A.units + ((PyData.dict (pyK kvs)).depth + 1) < cLine := by have := hr.un; simp only [PyData.depth]; omega
    refine PySem.repr_of_reads' rd hs (fun _ => fun z => ?_) hg room (fun _ _ e => e) (fun h' t tk hk => ⟨.str _, H, I.kept hk, ⟨_, rfl⟩, q⟩) hz
    simp only [List.mem_cons, List.not_mem_nil, or_false] at z
    rw [← z] at ns
    simp at ns
  rcases hd with ⟨hd, ok⟩ | ⟨hd, ok⟩
  · obtain ⟨a, ks, rfl, ha, hx⟩ := den_dct hd
    cases (show u = .ref a from ru)
    have hob : ObjOk X.prog X.w H s.heap a (.dK ks) := by
      rcases ha with ha | ⟨o, ha⟩
      · exact I.hok _ _ ha
      · exact (show _ ∧ ObjOk X.prog X.w H s.heap a (.dK ks) from I.hok _ _ ha).2
    obtain ⟨_, ns, vs, kv, o, es, ep, ho, ex, hdt, _, hp, _⟩ := hob
    obtain ⟨q1, q2, q3⟩ := pairs_mix I hK hx kv hp ok
    exact fin (as := []) rfl (.dict ho ex.1 hdt q1 q2) ns q3
  · obtain ⟨a, ks, rfl, ha, hx⟩ := den_ldc hd
    cases (show u = .ref a from ru)
    have hob := I.hok a _ ha
    unfold LDO at hob
    rw [hP, hw] at hob
    obtain ⟨⟨_, ns, vs, kv, o, es, ep, ho, ex, hdt, _, hp, _⟩, _, _⟩ := hob
    obtain ⟨q1, q2, q3⟩ := pairs_leaf I hK hx kv hp ok
    exact fin (as := []) rfl (.dict ho ex.1 hdt q1 q2) ns q3
def rRepr2 (G : Ctx) : List V → Hp → VK → Prop := fun vs H Q => rRepr G vs H Q ∨ rReprD G vs H Q
def fRepr : FL
  | [.dct kvs], P => kOk kvs = true ∧ (PyData.dict (pyK kvs)).showable = true ∧ (PyData.dict (pyK kvs)).shown.length ≤ sizeLine ∧ P (.str (PyData.dict (pyK kvs)).shown)
  | [.ldc kvs], P => kOkL kvs = true ∧ (PyData.dict (pyK kvs)).showable = true ∧ (PyData.dict (pyK kvs)).shown.length ≤ sizeLine ∧ P (.str (PyData.dict (pyK kvs)).shown)
  | [x], P => fRepr0 [x] P
  | _, _ => False
theorem call_repr2 (hK : G.K = X.K) (hP : G.P = X.prog) (hw : G.w = X.w) (hr : Room k X.A) (hg : X.A.guards = some []) : CallR X (.builtin "repr") (rRepr2 G) := fun pins s σ H vs us Q I r h => h.elim (call_reprX hK hr hg pins s σ H vs us Q I r) (call_reprD hK hP hw hr hg pins s σ H vs us Q I r)
theorem o_repr : CallD G (rRepr2 G) fRepr := by
  intro T Z σ env al H vs ds P Q R hd hf kk
  unfold fRepr at hf
  split at hf
  · obtain ⟨v, rfl, hv⟩ := denL1 hd
    exact .inr ⟨v, _, rfl, .inl ⟨hv.sub vw_up, hf.1⟩, hf.2.1, hf.2.2.1, kk _ _ H R.self (.str _) hf.2.2.2⟩
  · obtain ⟨v, rfl, hv⟩ := denL1 hd
    exact .inr ⟨v, _, rfl, .inr ⟨hv.sub vw_up, hf.1⟩, hf.2.1, hf.2.2.1, kk _ _ H R.self (.str _) hf.2.2.2⟩
  · exact .inl (o_repr0 T Z σ env al H _ _ P Q R hd hf kk)
  · exact hf.elim
end
end DL

/-! DLX: try .. except C as n: suite; behind it the caught object is a tracked one. -/
namespace DL
open PySem PySem.Spec PyProof.Rows L2
section
variable {X : Cx} {pins : List (Addr × Obj)} {σ : SS} {H : Hp} {s : Shared}
/-- an object that stood at no entry is tracked from now on -/
theorem inv_track {a : Addr} {o : HO} {oe : Obj} {vs : Array Value} (I : Inv X pins σ H s) (there : s.heap.get? a = some oe) (dat : oe.data = .fields vs) (free : H a = none) (fresh : X.s_0.heap.get? a = none) (notL : a ≠ X.env.locals)
    (notP : ∀ p ∈ X.pn ++ pins, p.1 ≠ a) (new : ObjOk X.prog X.w (upd H a o) s.heap a o) : Inv X pins σ (upd H a o) s := by
  have old : ∀ b u, X.s_0.heap.get? b = some u → b ≠ a := fun b u e z => by
    rw [z, fresh] at e
    cases e
  have un := I.base
  refine ⟨I.ok, I.os, I.bare, ⟨un.keep, un.slot, fun b u e n x => ?_, un.there, fun b xs e => ?_, fun b u w e => ?_, fun b ps e => ?_⟩, I.loc, I.cell, ?_, fun x c e => ?_, fun p hp => ?_, fun b u e => ?_, I.len⟩
  · rw [upd_ne (old b u e)]
    exact un.free b u e n x
  · have z := un.tups b xs e
    rw [upd_ne (ne_of_none z free)]
    exact z
  · have z := un.frzs b u w e
    rw [upd_ne (ne_of_none z free)]
    exact z
  · obtain ⟨more, z⟩ := un.tbls b ps e
    exact ⟨more, by rw [upd_ne (ne_of_none z free)]; exact z⟩
  · rw [upd_ne (Ne.symm notL)]
    exact I.free
  · have nc : c ≠ a := fun z => by
      obtain ⟨v, ob, e1, e2⟩ := I.cell x c e
      rw [z, there] at e1
      cases e1
      rw [dat] at e2
      cases e2
    rw [upd_ne nc]
    exact I.freeC x c e
  · obtain ⟨e1, e2, e3⟩ := I.pin p hp
    exact ⟨e1, by rw [upd_ne (notP p hp)]; exact e2, e3⟩
  · by_cases hb : b = a
    · subst hb
      rw [upd_same] at e
      cases e
      exact new
    · rw [upd_ne hb] at e
      exact (I.hok b u e).stay (fun _ _ _ z => z) (fun c z => by rw [upd_ne (ne_of_none z free)]; exact z) fun c xs z => by rw [upd_ne (ne_of_none z free)]; exact z
theorem exo_obj {P : Program} {w : World} {h : Heap} {a : Addr} {cls : Value} {dd : Option Addr} {oe : Obj} {vs : Array Value} (there : h.get? a = some oe) (z : Zc cls dd oe) (dat : oe.data = .fields vs) : ObjOk P w H h a (EXO cls dd a) :=
  ⟨⟨oe, vs, there, z, dat⟩, ⟨oe, there⟩, fun _ _ ⟨ob, v, e, r⟩ kk => ⟨ob, v, kk _ e, r⟩⟩
/-- the suite is left, the pin is kept -/
theorem unsuite_pin {a : Addr} {q : Addr × Obj} {pn' : List (Addr × Obj)} (I : Inv (X.suite a (q :: (X.pn ++ pins))) pn' σ H s) (ok : X.Ok) : Inv X (q :: pins) σ H s :=
  ⟨ok, I.os, I.bare, I.base, I.loc, I.cell, I.free, I.freeC, fun p hp => by
    refine I.pin p (List.mem_append_left _ ?_)
    rcases List.mem_append.mp hp with z | z
    · exact List.mem_cons_of_mem _ (List.mem_append_left _ z)
    · rcases List.mem_cons.mp z with z | z
      · exact z ▸ List.mem_cons_self
      · exact List.mem_cons_of_mem _ (List.mem_append_right _ z), I.hok, I.len⟩
end
/-- what the clause 'except x as n' wishes of an exception of the body: slot i is n's; behind the suite the object is told -/
def wKeep (K : PySem.W.Frag) (c : Value) (i : Nat) (ts : Addr → Value → Option Addr → TS) (Wout : WX) (D : Ends) : WX := fun cls d σ H =>
  ∃ b, PySem.W.exmOne K cls c = some b ∧
    (b = true → ∀ a, H a = none → ts a cls d { nx := fun σ' H' => H' a = none → D.nx (σ'.set i none) (upd H' a (EXO cls d a)), rt := D.rt, bk := fun _ _ => False, ct := fun _ _ => False } (σ.set i (some (.ref a))) H) ∧ (b = false → Wout cls d σ H)
section
variable {X : Cx} {x n : Str} {c : Value} {i : Nat} {body suite : List Stmt} {b₀ : Stmt} {np pos pos' : Pos} {tb : WX → TS} {ts : Addr → Value → Option Addr → TS} {Wout : WX}
theorem ps_try_keep (hex : X.ex = []) (hs : X.stack = X.env :: X.outer) (hf : X.env.frame = some X.env.locals) (hN : X.N.Nodup) (hi : X.N[i]? = some n) (hln : X.env.kindOf n = some .local) (hc : Names X x c) (tk : Takes X Wout)
    (run : ∀ (W : WX) (pn : List (Addr × Obj)) (xe : Value → Shared → Prop), Takes (X.tr pn xe) W → PassesOwn (model X.prog X.w) X.A X.env xe → PSs (X.tr pn xe) body (tb W))
    (caught : ∀ (a : Addr) (oe : Obj) (cls : Value) (d : Option Addr) (pn : List (Addr × Obj)), Zc cls d oe → (∃ vs, oe.data = .fields vs) → PSs (X.suite a ((a, oe) :: pn)) (b₀ :: suite) (ts a cls d)) :
    PS X (.Try body [.ExceptHandler (some (.Name x np)) (some n) (b₀ :: suite) pos'] [] [] pos) (fun D σ H => tb (wKeep X.K c i ts Wout D) D σ H) := by
  refine ⟨fun pins s σ H D I want => ?_⟩
  have okX := I.ok
  have frames : X.A.frames = some (X.env :: X.outer) := by rw [okX.frames, hs]
  refine wpAny_Try_except ?_
  let handlers : List ExceptHandler := [.ExceptHandler (some (.Name x np)) (some n) (b₀ :: suite) pos']
  let catcher : Value → Shared → Prop := fun e s₁ => wpAny (model X.prog X.w) X.A (noteFrame e X.env) (fun _ s₂ => wpAny (model X.prog X.w) X.A (setFlight e none) (fun _ s₃ => wpAny (model X.prog X.w) X.A (handleBy e X.env handlers) (SP X pins D) X.xe s₃) X.xe s₂) X.xe s₁
  have tried := (run (wKeep X.K c i ts Wout D) (X.pn ++ pins) catcher (fun u s' air => ?air) PassesOwn.looking).run [] s σ H D (I.toTry _) want
  case air =>
    obtain ⟨a, B, sI, pn2, σ1, H1, cls, d, eu, J, ground, up, sky, na, os, ag, hit, eqb, yes, no⟩ := air
    subst eu
    have J1 : Inv X pins σ1 H1 sI := J.ofTry okX
    have sky1 : Sky B (X.env :: X.outer) a (Zc cls d) X.env.locals s'.heap := by rw [← hs]; exact sky
    show wpAny (model X.prog X.w) X.A (noteFrame (.ref a) X.env) _ _ _
    refine Sky.land Zc.steady frames hf sky1 fun h3 fly up3 => ?_
    have J3 : Inv X pins σ1 H1 { s' with heap := h3 } := J1.landed ground fly.1 (up.trans up3) os ag
    obtain ⟨oe3, vs3, at3, z3, d3⟩ := fly.there
    have outside : ∀ {h : Heap} {o : Obj} {vs : Array Value}, h.FunFrames B (X.env :: X.outer) → h.get? a = some o → o.data = .fields vs → a ∉ frs (X.env :: X.outer) := fun ff e dd hm => by
      obtain ⟨_, o', e', hnf⟩ := ff.mem hm
      rw [e] at e'
      cases e'
      exact hnf _ dd
    have notF := outside fly.2.2.1 at3 d3
    have notL : a ≠ X.env.locals := fun z => notF (List.mem_filterMap.mpr ⟨X.env, List.mem_cons_self, by rw [hf, z]⟩)
    have notS : a ∉ X.fs := fun hm => by
      obtain ⟨e, he, q⟩ := List.mem_filterMap.mp hm
      exact notF (List.mem_filterMap.mpr ⟨e, List.mem_cons_of_mem _ he, q⟩)
    have noGround : B.get? a = none := fly.2.1
    have noI : ∀ o, sI.heap.get? a ≠ some o := fun o e => by
      have g := ground a o e (by rw [hs]; exact notF)
      rw [noGround] at g
      cases g
    have fresh : X.s_0.heap.get? a = none := by
      cases q : X.s_0.heap.get? a with
      | none => rfl
      | some o =>
        obtain ⟨o', e⟩ := J1.base.there a o q (by rw [hex]; exact List.not_mem_nil)
        exact absurd e (noI o')
    have apart : ∀ p ∈ X.pn ++ pins, p.1 ≠ a := fun p hp z => noI p.2 (z ▸ (J1.pin p hp).1)
    have S3 := J3.suite at3 d3 na notL notS
    refine wpAny_handleBy_cons (codeAny_handlers_test ?_) (by intro q; cases q)
    have typ : PySem.W.Looks (model X.prog X.w) h3 (typeOf (.ref a)) cls := fun A Q E s k q => wpAny_typeOf_ref (k _ _ at3) (by rw [z3.1]; exact q)
    have asks := PySem.W.exm_one (M := model X.prog X.w) (J3.kIn) typ eqb
    have named : ∀ {Q : Value → Shared → Prop} {E : Value → Shared → Prop}, Q c { s' with heap := h3 } → wpAny (model X.prog X.w) (X.A.mark (some (.ref a))) (eval (.Name x np) X.env) Q E { s' with heap := h3 } := fun q => by
      obtain ⟨g1, g2, g3 | ⟨g3, g4, g5⟩⟩ := hc
      · exact ld_glob (X := X.suite a ((a, oe3) :: (X.pn ++ pins))) S3 g1 g3 q g2
      · exact ld_blt (X := X.suite a ((a, oe3) :: (X.pn ++ pins))) S3 g1 g3 g4 q g5 g2
    refine named (asks.here ?_)
    cases hit with
    | true =>
      refine codeAny_handlers_suite_as (HandSPX.lands_againZ fly fun h4 fly4 up4 => ?_)
      have J4 : Inv X pins σ1 H1 { s' with heap := h4 } := J1.landed ground fly4.1 ((up.trans up3).trans up4) os ag
      obtain ⟨oe4, vs4, at4, z4, d4⟩ := fly4.there
      have S4 := J4.suite at4 d4 na notL notS
      refine store_ok (X := X.suite a ((a, oe4) :: (X.pn ++ pins))) (v := .ref a) S4 hN hi (.inl hln) rfl (fun s5 S5 => ?_) (.inr hln)
      refine wpAny_mono ((caught a oe4 cls d (X.pn ++ pins) z4 ⟨_, d4⟩).run [] s5 _ H1 _ S5 (yes rfl a na)) (fun f s6 sp => ?_) (fun _ _ z => False.elim z)
      have told : ∀ {σ6 : SS} {H6 : Hp} {Q : Shared → Prop}, Inv (X.suite a ((a, oe4) :: (X.pn ++ pins))) [] σ6 H6 s6 → (∀ s7, Inv X pins (σ6.set i none) H6 s7 → Inv X pins (σ6.set i none) (upd H6 a (EXO cls d a)) s7 → H6 a = none → Q s7) →
          wpAny (model X.prog X.w) X.A (do bindName X.env n .none; unbindBehindTheSuite X.env n pos') (fun _ s7 => Q s7) X.xe s6 := fun {σ6 H6 Q} S6 hq => gone_ok (unsuite_pin S6 okX) hN hi hln fun s7 J7 => by
        obtain ⟨p1, p2, _⟩ := J7.pin (a, oe4) (List.mem_append_right _ List.mem_cons_self)
        have J8 : Inv X pins (σ6.set i none) H6 s7 := ⟨J7.ok, J7.os, J7.bare, J7.base, J7.loc, J7.cell, J7.free, J7.freeC, fun p hp => J7.pin p (by
          rcases List.mem_append.mp hp with z | z
          · exact List.mem_append_left _ z
          · exact List.mem_append_right _ (List.mem_cons_of_mem _ z)), J7.hok, J7.len⟩
        exact hq s7 J8 (inv_track J8 p1 d4 p2 fresh notL apart (exo_obj p1 z4 d4)) p2
      cases f with
      | next =>
        obtain ⟨σ6, H6, S6, q6⟩ := sp
        exact told S6 fun s7 _ J7 free6 => ⟨_, _, J7, q6 free6⟩
      | brk =>
        obtain ⟨σ6, H6, S6, q6⟩ := sp
        exact q6.elim
      | cont =>
        obtain ⟨σ6, H6, S6, q6⟩ := sp
        exact q6.elim
      | ret u =>
        obtain ⟨v6, σ6, H6, S6, r6, q6⟩ := sp
        exact told S6 fun s7 J7 _ _ => ⟨_, _, _, J7, r6, q6⟩
    | false =>
      show wpAny _ X.A (handleBy (.ref a) X.env []) _ _ _
      refine wpAny_handleBy_nil ?_
      obtain ⟨k1, k2, k3, oe, vs, T, oT, ts', he, hz, hd, h1, hr⟩ := id fly
      unfold PySem.passOn
      refine wpAny_bind (wpAny_field he hd h1 ?_)
      rw [if_neg (show ¬ ((Value.ref T == Value.none) = true) from by simp)]
      have fin : wpAny (model X.prog X.w) X.A (setFlight (.ref a) X.env.frame) (fun _ s4 => wpAny (model X.prog X.w) X.A (throw (.ref a) : Sem Flow) (SP X pins D) X.xe s4) X.xe { s' with heap := h3 } := by
        rw [hf]
        exact HandSPX.setFlight_upZ fly fun h4 held up4 => wpAny_throw (tk _ _ ⟨a, B, sI, pins, σ1, H1, cls, d, rfl, J1, ground, (up.trans up3).trans up4, .inr (.inr (by rw [hs]; exact held)), na, os, ag, no rfl⟩)
      first
        | exact wpAny_bind (wpAny_pure (wpAny_bind fin))
        | exact wpAny_bind fin
  refine wpAny_mono tried (fun f s1 sp => ?_) fun e s1 he => he
  cases f with
  | next =>
    obtain ⟨σ', H', J', q⟩ := sp
    exact wpAny_execs_nil ⟨σ', H', J'.ofTry okX, q⟩
  | brk =>
    obtain ⟨σ', H', J', q⟩ := sp
    exact ⟨σ', H', J'.ofTry okX, q⟩
  | cont =>
    obtain ⟨σ', H', J', q⟩ := sp
    exact ⟨σ', H', J'.ofTry okX, q⟩
  | ret u =>
    obtain ⟨v, σ', H', J', r, q⟩ := sp
    exact ⟨v, σ', H', J'.ofTry okX, r, q⟩
end
end DL

/-! DLV: defs with one star parameter: their promise, their calls. -/
namespace DL
open PySem PySem.Spec PyProof.Rows L2
structure FnV (P : Program) (w : World) (K : PySem.W.Frag) (mg : Str → Option Value) (base : Heap) (k : Nat) (f : Addr) (sp : Sp) : Prop where
  run : ∀ (A : Around) (outer : List Env) (s : Shared) (H : Hp) (us : List Value) (vs : List V) (Q : VK) (E : XK), A.guards = some [] → Room k A → Env0 P w K mg base A outer s H →
    Vals vs us → sp vs H Q E → codeAny (model P w) A (.call (.ref f) ⟨us, []⟩) (CR (L2.CX P w) outer P w H s Q E) s
theorem FnV.mono {P : Program} {w : World} {K : PySem.W.Frag} {mg : Str → Option Value} {base : Heap} {j k : Nat} {f : Addr} {sp : Sp} (F : FnV P w K mg base j f sp) (h : j ≤ k) : FnV P w K mg base k f sp :=
  ⟨fun A o s H us vs Q E g r => F.run A o s H us vs Q E g (r.mono h)⟩
/-- over values: all arguments in one list -/
def liftSpV (G : Ctx) (c : Nat) (sp : FSp) : Sp := fun vs H Q E => vs.length ≤ sizeLine ∧ liftSp G c vs.length sp vs H Q E
section
variable {X : Cx} {W : WX} {k : Nat} {f : Addr} {sp : Sp} {x : Str} {p p2 pos : Pos} {e : Expr} {es : List Expr} {te : TE} {t : TA}
theorem run_v {pins : List (Addr × Obj)} {σ : SS} {H : Hp} {s : Shared} {Q : VK} {us : List Value} {vs : List V} (F : FnV X.prog X.w X.K X.mg X.base k f sp) (hr : Room k X.A) (hg : X.A.guards = some []) (tk : Takes X W)
    (I : Inv X pins σ H s) (r : Vals vs us) (h : sp vs H Q (WE W σ)) : wpAny (model X.prog X.w) X.A (call (.ref f) us) (EP X pins σ Q) X.xe s := by
  refine wpAny_call (codeAny_mono (F.run X.A X.stack s H us vs Q (WE W σ) hg hr I.env0 r h) fun r s' q => ?_)
  have z := g_end tk I q
  cases r with
  | error e => exact z
  | ok fl => cases fl <;> first | exact z | exact z.elim
theorem pe_v (F : FnV X.prog X.w X.K X.mg X.base k f sp) (hr : Room k X.A) (hgd : X.A.guards = some []) (hg : Gl X x) (hm : X.mg x = some (.ref f)) (hk : PySem.W.keepIn X.K (.ref f) = true) (tk : Takes X W)
    (ha : PA X (e :: es) t) (hns : ∀ a ∈ e :: es, ∀ v p, a ≠ .Starred v p) (hdb : (x == ("__debug__" : Str)) = false) : PE X (.Call (.Name x p) (e :: es) [] pos) (tG sp W t) := by
  refine ⟨fun pins s σ H Q I h => wpAny_Call_Name_kw (ld_glob I hg hm ?_ hdb)⟩
  exact PySem.W.callWith_K (h₀ := X.base) I.ok.mod.kin hk (thn (ha.run pos pins s σ H _ I h) fun us s1 ⟨vs, H1, I1, r, q⟩ => ⟨I1.kIn, run_v F hr hgd tk I1 r q⟩) (star_cons e es X.env (hns e List.mem_cons_self)) (plain_star es X.env pos fun a h => hns a (List.mem_cons_of_mem _ h))
theorem pe_v0 (F : FnV X.prog X.w X.K X.mg X.base k f sp) (hr : Room k X.A) (hgd : X.A.guards = some []) (hg : Gl X x) (hm : X.mg x = some (.ref f)) (hk : PySem.W.keepIn X.K (.ref f) = true) (tk : Takes X W) (hdb : (x == ("__debug__" : Str)) = false) :
    PE X (.Call (.Name x p) [] [] pos) (tG sp W tNil) :=
  ⟨fun pins s σ H Q I h => wpAny_Call_Name_kw (ld_glob I hg hm (PySem.W.callWith_K0 I.kIn hk (run_v (us := []) F hr hgd tk I .nil h)) hdb)⟩
/-- f(*e) -/
def tGS (K : PySem.W.Frag) (sp : Sp) (W : WX) (te : TE) : TE := fun σ H Q => te σ H fun y H1 => ∃ a xs, y = V.ref a ∧ (SqT K H1 a xs ∨ SqL K H1 a xs) ∧ sp xs H1 Q (WE W σ)
theorem pe_vs (F : FnV X.prog X.w X.K X.mg X.base k f sp) (hr : Room k X.A) (hgd : X.A.guards = some []) (hg : Gl X x) (hm : X.mg x = some (.ref f)) (hk : PySem.W.keepIn X.K (.ref f) = true) (tk : Takes X W) (he : PE X e te) (hdb : (x == ("__debug__" : Str)) = false) :
    PE X (.Call (.Name x p) [.Starred e p2] [] pos) (tGS X.K sp W te) := by
  refine ⟨fun pins s σ H Q I h => wpAny_Call_Name_kw (ld_glob I hg hm ?_ hdb)⟩
  refine PySem.W.callWith_S (h₀ := X.base) I.ok.mod.kin hk (thn (he.run pins s σ H _ I h) fun v s1 ⟨y, H1, I1, ry, a, xs, ey, hx, q⟩ => ?_) rfl
  subst ey
  cases (show v = Value.ref a from ry)
  exact StX.star_any I1 hx fun us s2 I2 rv => ⟨I2.kIn, run_v F hr hgd tk I2 rv q⟩
end
section
variable {G : Ctx} {X : Cx} {W : WX} {e : Expr} {t : TP} {u : TPL} {al : List Nat} {sp : FSp} {u0 u1 u2 : Nat}
def dGV (sp : FSp) (u : TPL) : TP := fun env P EP => u env (fun ds => ds.length ≤ sizeLine ∧ sp ds P EP) EP
theorem lift_v (h : PE X e (tG (liftSpV G u2 sp) W (liftA G u1 W al u))) : PE X e (liftP G (u1 + u2) W al (dGV sp u)) := h.imp fun σ H Q ⟨T, m, Z, env, P, EP, ⟨hm, ht⟩, R, q, k, x⟩ =>
  ⟨T, T + u1, Z, env, _, EP, ⟨Nat.le_refl _, by omega⟩, R, q, fun vs ds H1 g1 hv ⟨hl, q1⟩ => by
    have R1 := R.growG g1
    refine ⟨by rw [hv.length]; exact hl, T + u1, m, Hx σ env al Z, ds, P, EP, by omega, R.zok, fun a z => z.elim (fun o => own_some R1 o.own) (R1.zd a), R1.ok, hv, hv.length.symm, q1, fun v d H2 g2 hd p => k v d H2 (g1.trans g2) hd p, fun y cls dd H2 g2 hx p => ?_⟩
    exact x y cls dd H2 (g1.trans g2) (hx.sub vw_base) p, x.le (by omega)⟩
def dGS (sp : FSp) (t : TP) : TP := fun env P EP => t env (fun d => match d with
  | .lst ds => ds.length ≤ sizeLine ∧ sp ds P EP
  | .tup ds => ds.length ≤ sizeLine ∧ sp ds P EP
  | _ => False) EP
theorem lift_vs (hK : G.K = X.K) (h : PE X e (tGS X.K (liftSpV G u2 sp) W (liftP G u1 W al t))) : PE X e (liftP G (u1 + u2) W al (dGS sp t)) := h.imp fun σ H Q ⟨T, m, Z, env, P, EP, ⟨hm, ht⟩, R, q, k, x⟩ => by
  have fin : ∀ {vs : List V} {ds : List D} {H1 : Hp}, Grow G (T + u1) H H1 → DenL G (Vw H1 σ env al Z) vs ds → ds.length ≤ sizeLine → sp ds P EP → liftSpV G u2 sp vs H1 Q (WE W σ) := fun {vs ds H1} g1 hv hl q1 => by
    have R1 := R.growG g1
    refine ⟨by rw [hv.length]; exact hl, T + u1, m, Hx σ env al Z, ds, P, EP, by omega, R.zok, fun a z => z.elim (fun o => own_some R1 o.own) (R1.zd a), R1.ok, hv, hv.length.symm, q1, fun v d H2 g2 hd p => k v d H2 (g1.trans g2) hd p, fun y cls dd H2 g2 hx p => ?_⟩
    exact x y cls dd H2 (g1.trans g2) (hx.sub vw_base) p
  refine ⟨T, T + u1, Z, env, _, EP, ⟨Nat.le_refl _, by omega⟩, R, q, fun v d H1 g1 hv q1 => ?_, x.le (by omega)⟩
  split at q1
  · obtain ⟨a, vs, rfl, ha, hd⟩ := den_lst hv
    exact ⟨a, vs, rfl, .inr (SqL.of (vw_up _ _ ha)), fin g1 hd q1.1 q1.2⟩
  · obtain ⟨a, vs, rfl, ha, hd⟩ := den_tup hv
    exact ⟨a, vs, rfl, .inl (hK ▸ SqT.sub vw_up ha), fin g1 hd q1.1 q1.2⟩
  · exact q1.elim
end
section
variable {P : Program} {w : World} {K : PySem.W.Frag} {mg : Str → Option Value} {base : Heap} {k : Nat}
/-- the rule for a def whose only parameter is *v -/
theorem fnV_of {f : Addr} {name qual pv : Str} {params : Arguments} {body : List Stmt} {scope : Scope} {dV kV doc pm cdv ct oc : Value} {an od : Option Addr} {osl : Array (Option Value)} {N : List Str} {sp : Sp}
    (lk : K.lookup f = some ⟨oc, od, .func (PySem.W.fnOf name qual params body scope dV kV doc pm an cdv ct), osl⟩) (hcd : PySem.W.codeIn K cdv qual = true) (S : FnScope N [pv] scope)
    (hb : ∀ us : List Value, bindArgs (PySem.W.fnOf name qual params body scope dV kV doc pm an cdv ct) ⟨us, []⟩ = (newTuple us >>= fun t => pure [(pv, t)]))
    (hbody : ∀ (A : Around) (outer : List Env) (s : Shared) (H : Hp) (vs : List V) (p : Addr) (Q : VK) (E : XK), A.guards = some [] → Room k (A.deeper (envOfC qual scope s.heap.objs.size f cdv)) → sp vs H Q E → H p = none →
      ∃ t, PSs (cxOf (L2.CX P w) P w K mg base N qual scope f cdv A outer s (upd H p (.tup vs)) E) body t ∧ t { nx := fun _ H' => Q .non H', rt := Q } (L2.start N [V.ref p]) (upd H p (.tup vs))) :
    FnV P w K mg base (k + 1) f (fun vs H Q E => vs.length ≤ sizeLine ∧ sp vs H Q E) := by
  refine ⟨fun A outer s H us vs Q E gd hr e0 r ⟨hz, hsp⟩ => ?_⟩
  have free : H s.heap.objs.size = none := e0.hok.fresh (Nat.le_refl _)
  have hl : us.length ≤ sizeLine := by rw [← r.length]; exact hz
  refine StX.run_bnd (CX := L2.CX P w) lk hcd S hr e0 (G := fun xs H2 => ∃ p, H p = none ∧ xs = [V.ref p] ∧ H2 = upd H p (.tup vs)) (fun A' Ex Q' h => ?_) fun s2 H2 xs ⟨p, hp, ex, eH⟩ hr' => ?_
  · rw [hb us]
    refine wpAny_bind (wpAny_newTuple (wpAny_pure ?_) hl)
    have new : ObjOk P w (upd H s.heap.objs.size (.tup vs)) (s.heap.push ({ cls := .type "tuple", data := .seq us.toArray } : Obj)) s.heap.objs.size (.tup vs) := ⟨hz, us, r, ⟨_, Heap.get?_push_size _ rfl, rfl, _, rfl⟩⟩
    have un := StX.un_laid (fs := frs outer) (s := s) (o := ({ cls := .type "tuple", data := .seq us.toArray } : Obj)) (u := .tup vs) free
    exact h _ _ [V.ref s.heap.objs.size] [Value.ref s.heap.objs.size] (StX.env0_laid e0 new) un rfl (fun e s' => StX.cxUp outer s H _ _ E e s' un (fun b o q => Heap.get?_push_of_some _ q) rfl) (.cons rfl .nil) rfl ⟨_, free, rfl, rfl⟩
  · subst ex eH
    exact hbody A outer s2 H vs p Q E gd hr' hsp hp
end
/-! ### a def that gets a lambda -/
abbrev lamQ (X : Cx) : Str := X.env.qual ++ "<lambda>"
/-- what is tracked behind a lambda's making -/
def LamStep (H : Hp) (P c' : Addr) (q : Str) (H1 : Hp) : Prop := H1 = H ∨ ∃ ps ps' : Array Value, H P = some (.tbl ps) ∧ H c' = none ∧ H1 = upd (upd H P (.tbl ps')) c' (LamX.CodeO c' q)
/-- what a lambda does when it is called -/
abbrev Thk := (D → Prop) → (XD → Prop) → Prop
abbrev ThSp := Thk → (D → Prop) → (XD → Prop) → Prop
/-- the same world but for what must stay -/
structure Like (G G' : Ctx) : Prop where
  P : G'.P = G.P
  w : G'.w = G.w
  K : G'.K = G.K
  mg : G'.mg = G.mg
  ha : G'.ha = G.ha
  F : G'.F = G.F
  top : G'.top = G.top
def thkP (f : Addr) (h : Thk) : TP := fun env P EP => env[0]? = some (some (false, .adr f)) ∧ h P EP
/-- what a def promises that gets a lambda fl: a is its parameter -/
def Tell (P : Program) (w : World) (K : PySem.W.Frag) (mg : Str → Option Value) (base : Heap) (G : Ctx) (k c : Nat) (x : Str) (g : Addr) (sp : ThSp) : Prop :=
  ∃ (a : Str) (Ng : List Str) (sg : Scope) (cdg : Value), Ng[0]? = some a ∧ Vis sg a ∧ (a == ("__debug__" : Str)) = false ∧ (a == ("__classdict__" : Str)) = false ∧
    ∀ (A : Around) (outer : List Env) (s : Shared) (H : Hp) (fl : Addr) (Q : VK) (E : XK) (G' : Ctx) (h : Thk) (T m : Nat) (Z : Addr → Prop) (Pd : D → Prop) (EP : XD → Prop),
      A.guards = some [] → Room (k + 2) A → Env0 P w K mg base A outer s H → Like G G' → (T + c ≤ m ∧ m ≤ G'.top) → ZOk G' Z → (∀ a, Z a → H a ≠ none) → G'.ok T H →
      (∀ (pn : List (Addr × Obj)) (xe : Value → Shared → Prop) (W : WX) (p1 p2 : Pos), Takes ((cxOf (L2.CX P w) P w K mg base Ng x sg g cdg A outer s H E).tr pn xe) W →
        PE ((cxOf (L2.CX P w) P w K mg base Ng x sg g cdg A outer s H E).tr pn xe) (.Call (.Name a p1) [] [] p2) (liftP G' 0 W [] (thkP fl h))) →
      sp h Pd EP → (∀ v d H', Grow G' m H H' → Den G' (hid H' Z) v d → Pd d → Q v H') → (∀ x cls dd H', Grow G' m H H' → XDen G' (hid H' Z) cls dd x → EP x → E cls dd H') →
      codeAny (model P w) A (.call (.ref g) ⟨[.ref fl], []⟩) (CR (L2.CX P w) outer P w H s Q E) s
theorem Tell.mono {P : Program} {w : World} {K : PySem.W.Frag} {mg : Str → Option Value} {base : Heap} {G : Ctx} {j k c : Nat} {x : Str} {g : Addr} {sp : ThSp} (t : Tell P w K mg base G j c x g sp) (h : j ≤ k) : Tell P w K mg base G k c x g sp :=
  let ⟨a, Ng, sg, cdg, h1, h2, h3, h4, r⟩ := t
  ⟨a, Ng, sg, cdg, h1, h2, h3, h4, fun A o s H fl Q E G' h' T m Z Pd EP q1 q2 => r A o s H fl Q E G' h' T m Z Pd EP q1 (q2.mono (by omega))⟩
/-- the def that is walked may make lambdas for f -/
structure LamF (P : Program) (w : World) (K : PySem.W.Frag) (mg : Str → Option Value) (base : Heap) (G : Ctx) (k c : Nat) (code : Value) (q : Str) (f : Str) (sp : ThSp) : Prop where
  ex : ∃ (cd Pt g : Addr) (ts : List (Addr × Str)), code = .ref cd ∧ LamX.TabB base mg cd Pt ∧ (Pt, q) ∈ ts ∧ (∀ p ∈ ts, p.1 = Pt → p.2 = q) ∧ mg f = some (.ref g) ∧ PySem.W.keepIn K (.ref g) = true ∧ Tell P w K mg base G k c f g sp ∧
    (∀ n H, G.ok n H → LamX.Tabs ts H) ∧ (∀ n H p c q' H1, G.ok n H → (p, q') ∈ ts → LamStep H p c q' H1 → LamX.Tabs ts H1 → G.ok n H1) ∧ (∀ n H c q', G.ok n H → H c = some (LamX.CodeO c q') → ¬ G.F c)
theorem LamF.mono {P : Program} {w : World} {K : PySem.W.Frag} {mg : Str → Option Value} {base : Heap} {G : Ctx} {j k c : Nat} {code : Value} {q f : Str} {sp : ThSp} (t : LamF P w K mg base G j c code q f sp) (h : j ≤ k) : LamF P w K mg base G k c code q f sp :=
  let ⟨cd, Pt, g, ts, h1, h2, h3, h4, h5, h6, h7, h8⟩ := t.ex
  ⟨cd, Pt, g, ts, h1, h2, h3, h4, h5, h6, h7.mono h, h8⟩
def noOwnAll (env : DEnv) : Bool := env.all fun o => match o with
  | some (true, _) => false
  | _ => true
end DL

/-! DLH: an object is made, and hidden while more is evaluated. -/
namespace DL
open PySem PySem.Spec PyProof.Rows L2
section
variable {G : Ctx} {T m : Nat} {Z : Addr → Prop} {σ : SS} {H : Hp} {env : DEnv} {W : WX} {X : Cx}
def Zp (Z : Addr → Prop) (p : Addr) : Addr → Prop := fun b => Z b ∨ b = p
theorem hidZp (p : Addr) : Sub (hid H (Zp Z p)) (hid H Z) := fun b o e => by
  obtain ⟨n, e⟩ := hid_some.mp e
  exact hid_some.mpr ⟨fun z => n (.inl z), e⟩
theorem ER.hide (R : ER G T Z σ H env) {p : Addr} {o : HO} (hp : H p = none) (ho : NT o) : ER G T (Zp Z p) σ (upd H p o) env := by
  have g := R.new (o := o) hp ho
  have up : ∀ b u, H b = some u → upd H p o b = some u := fun b u e => by rw [upd_ne (ne_of_none e hp)]; exact e
  have s : Sub (hid H (Hz σ env Z)) (hid (upd H p o) (Hz σ env (Zp Z p))) := fun b u e => by
    obtain ⟨n, e⟩ := hid_some.mp e
    refine hid_some.mpr ⟨fun z => ?_, up b u e⟩
    rcases z with z | z | z
    · exact n (.inl z)
    · exact n (.inr z)
    · exact ne_of_none e hp z
  refine ⟨R.len, fun i d h => ?_, fun i d h => ?_, R.inj, fun a f => .inl (R.zf a f), fun a z => ?_, g.ok, R.os, fun a z => ?_⟩
  · obtain ⟨v, h1, h2⟩ := R.low i d h
    exact ⟨v, h1, h2.sub s⟩
  · obtain ⟨a, u, h1, h2, h3, h4⟩ := R.own i d h
    exact ⟨a, u, h1, fun z => z.elim h2 (ne_of_none h3 hp), up _ _ h3, h4.sub s⟩
  · rcases z with z | z
    · obtain ⟨u, e⟩ := Option.ne_none_iff_exists'.mp (R.zd a z)
      rw [up a u e]
      simp
    · rw [z, upd_same]
      simp
  · rcases z with z | z
    · exact R.zm a z
    · exact G.zfresh T H a R.ok (z ▸ hp)
theorem XW.hide {EP : XD → Prop} (x : XW G m W Z σ H EP) (R : ER G T Z σ H env) {p : Addr} {o : HO} (hp : H p = none) (ho : NT o) : XW G m W (Zp Z p) σ (upd H p o) EP := fun y cls dd H' g hx => x y cls dd H' ((R.new (o := o) hp ho).trans g) (hx.sub (hidZp p))
def delH (H : Hp) (p : Addr) : Hp := fun b => if b = p then none else H b
theorem delH_ne {p b : Addr} (h : b ≠ p) : delH H p b = H b := if_neg h
theorem delH_same {p : Addr} : delH H p p = none := if_pos rfl
theorem delH_upd {p : Addr} {o : HO} : upd (delH H p) p o = upd H p o := by
  funext b
  by_cases h : b = p
  · subst h
    rw [upd_same, upd_same]
  · rw [upd_ne h, upd_ne h, delH_ne h]
/-- the hidden object taken out again -/
theorem grow_del {H2 : Hp} {p : Addr} {o : HO} (R : ER G T Z σ H env) (hp : H p = none) (ho : NT o) (nf : ¬ Fix o) (g : Grow G m (upd H p o) H2) (e : H2 p = some o) : Grow G m H (delH H2 p) := by
  have np : ∀ b u, H b = some u → b ≠ p := fun b u q => ne_of_none q hp
  refine ⟨fun b u f q => ?_, G.ok_ext m H2 _ g.ok (fun b f => delH_ne fun z => G.ok_dom T H b R.ok f (z ▸ hp)) (fun b u q fs => ?_) fun b ps q => ?_⟩
  · rw [delH_ne (np b u q)]
    exact g.to b u f (by rw [upd_ne (np b u q)]; exact q)
  · by_cases hb : b = p
    · subst hb
      rw [e] at q
      cases q
      rcases fs with fs | fs
      · exact absurd fs nf
      · exact absurd hp (G.sdom T H b R.ok fs)
    · rw [delH_ne hb]
      exact q
  · by_cases hb : b = p
    · rw [hb, delH_same] at q
      cases q
    · rw [delH_ne hb] at q
      exact q
theorem ldo_nt {P : Program} {w : World} {a : Addr} {kvs : List (Leaf × V)} : NT (LDO P w a kvs) := fun ps e => by unfold LDO at e; cases e
/-- {k: v} -/
def dLd1 (tk tv : TP) : TP := fun env P EP => tk env (fun k => tv env (fun v => (lKey k).isSome = true ∧ P (.ldc [(k, v)])) EP) EP
theorem lift_ldc1 {e : Expr} {tk tv : TP} {u1 u2 : Nat} {ala alb al : List Nat} (hP : G.P = X.prog) (hw : G.w = X.w) (sa : ∀ i ∈ ala, i ∈ al) (sb : ∀ i ∈ alb, i ∈ al) (h : PE X e (tMDisp X.prog X.w [(liftP G u1 W ala tk, liftP G u2 W alb tv)])) : PE X e (liftN G (u1 + u2) W al (dLd1 tk tv)) :=
  h.imp fun σ H Q ⟨T, m, Z, env, P, EP, ⟨hm, ht⟩, R, q, k, x⟩ => by
    intro p hp
    rw [← hP, ← hw]
    have R1 := R.hide (o := LDO G.P G.w p []) hp ldo_nt
    have x1 := x.hide (o := LDO G.P G.w p []) R hp ldo_nt
    have nfp : ¬ G.F p := fun f => G.ok_dom T H p R.ok f hp
    refine ⟨T, T + u1, Zp Z p, env, _, EP, ⟨Nat.le_refl _, by omega⟩, R1, q, fun kv kd H1 g1 hk q1 => ?_, x1.le (by omega)⟩
    have R2 := R1.growG g1
    refine ⟨T + u1, m, Zp Z p, env, _, EP, ⟨by omega, ht⟩, R2, q1, fun vv vd H2 g2 hv ⟨hs, pp⟩ => ?_, x1.grow g1⟩
    have g := g1.trans g2
    have e2 : H2 p = some (LDO G.P G.w p []) := g.to p _ nfp upd_same
    obtain ⟨kk, ek⟩ := Option.isSome_iff_exists.mp hs
    have ev := den_lV ek hk
    have el := lKey_lD ek
    refine ⟨e2, [(kk, vv)], by rw [ev]; rfl, by simp, ?_⟩
    rw [← delH_upd]
    refine k p _ (.ldc [(kd, vd)]) _ (grow_del R hp ldo_nt ldo_nf g e2) delH_same ⟨[(kk, vv)], rfl, ?_⟩ pp
    rw [← el]
    refine .cons (hv.sub fun b o z => ?_) .nil
    obtain ⟨n, z⟩ := hid_some.mp z
    have nb : b ≠ p := fun y => n (.inr (.inr y))
    refine hid_some.mpr ⟨fun y => ?_, by rw [delH_ne nb]; exact z⟩
    rcases y with ⟨i, d, q2, q3, q4⟩ | y
    · exact n (.inl ⟨i, d, fun y => q2 (sb i y), q3, q4⟩)
    · exact n (.inr (.inl y))
end
/-- the numbers that a comprehension over ds gives -/
def scD (i : Nat) (c : TPT) (t : TP) : List D → DEnv → (List Int → Prop) → Prop
  | [], _, P => P []
  | d :: r, env, P => i < env.length ∧ c (env.set i (some (false, d))) (fun b => if b = true then t (env.set i (some (false, d))) (fun y => ∃ k, y = .int k ∧ scD i c t r env fun ks => P (k :: ks)) noX else scD i c t r env P) noX
/-- sorted, each number once -/
def srtP (ks : List Int) (P : D → Prop) : Prop := ks.length < 64 ∧ ∀ ns : List Int, ns.Pairwise (· < ·) → (∀ k, k ∈ ns ↔ k ∈ ks) → P (.lst (ns.map D.int))
def dSrtL (t : TP) : TP := fun env P EP => t env (fun d => match d with
  | .lst xs => ∃ ks, intsD xs = some ks ∧ srtP ks P
  | _ => False) EP
def dSrtC (i : Nat) (als : List Nat) (src : TPL) (c : TPT) (t : TP) : TP := fun env P EP => src env (fun ds => ds.length < 64 ∧ scD i c t ds (dis als env) fun ks => srtP ks P) EP
end DL

/-! DLS: set comprehensions whose members are numbers (or texts): a walk over any kind of set. -/
namespace DL
open PySem PySem.Spec PyProof.Rows L2
/-- a kind of set: how it stands, its members as values, the empty one, the adding -/
structure SKind (X : Cx) (κ : Type) [DecidableEq κ] where
  O : Addr → (κ → Bool) → Nat → HO
  v : κ → V
  fresh : ∀ (H : Hp) (h : Heap), ObjOk X.prog X.w H (h.push { cls := .type "set", dict := none, data := .set #[] 0 (.fresh 0 0 (!X.w.params.followText "set-order")) }) h.objs.size (O h.objs.size (fun _ => false) 0)
  add : ∀ (Y : Cx) (pins : List (Addr × Obj)) (σ : SS) (H : Hp) (s : Shared) (a : Addr) (S : κ → Bool) (n : Nat) (c : κ) (u : Value) (Q : Value → Shared → Prop) (E : Value → Shared → Prop), Y.prog = X.prog → Y.w = X.w → Inv Y pins σ H s → RelV (v c) u → H a = some (O a S n) → n + 1 < scanBound →
    (∀ s', Inv Y pins σ (upd H a (O a (fun j => S j || decide (j = c)) (if S c = true then n else n + 1))) s' → Q .none s') → wpAny (model Y.prog Y.w) Y.A (call (.builtin "set.add") [.ref a, u]) Q E s
def intSets (X : Cx) : SKind X Int where
  O := SetO X.w
  v := .int
  fresh := fun H h => setO_new (setR_fresh X.w)
  add := fun Y pins σ H s a S n c u Q E hp hw I r ha room k => by
    obtain ⟨tk, rfl⟩ := r
    rw [← hw] at ha k
    refine setR_add (setO_get I ha) room fun h' sb new => k _ ?_
    have there : ∃ o, h'.get? a = some o := by
      obtain ⟨o, _, _, _, e, _⟩ := new
      exact ⟨o, e⟩
    exact I.write (e := a) (t' := s.toks + 1) (by rw [ha]; trivial) (.inl rfl) (fun b o hb e => (sb.2 b hb).trans e) there (setO_new new)
section
variable {X : Cx} {κ : Type} [DecidableEq κ]
/-- what a turn of the walk does to the set at D -/
def setTurn (kd : SKind X κ) (D : Addr) (g : TG) (tt : TT) (te : TE) (vs : List Nat) (σ : SS) (Nx : Hp → Prop) (x : V) (H : Hp) : Prop :=
  g x (wipe σ vs) H fun σ2 H2 => wipe σ2 vs = wipe σ vs ∧ tt σ2 H2 fun b H3 => if b = true then te σ2 H3 fun y H4 => ∃ (c : κ) (S : κ → Bool) (n : Nat), y = kd.v c ∧ H4 D = some (kd.O D S n) ∧ n + 1 < scanBound ∧ Nx (upd H4 D (kd.O D (fun j => S j || decide (j = c)) (if S c = true then n else n + 1))) else Nx H3
/-- {elt for target in iter if ..} -/
def tSetC (kd : SKind X κ) (wi : TI) (g : TG) (tt : TT) (te : TE) (vs : List Nat) : TE := fun σ H Q => wi σ H fun J H1 => ∀ D, H1 D = none → ∃ I : Nat → Nat → Hp → Prop, (∃ m, I 0 m (upd H1 D (kd.O D (fun _ => false) 0))) ∧
  ∀ i m H2, I i m H2 → (J.stop i H2 ∧ Q (.ref D) H2) ∨ (J.go i H2 ∧ ∃ Nx : Hp → Prop, (∀ H', Nx H' → ∃ m', m' < m ∧ I (i + 1) m' H') ∧ ∀ x H', J.yld i H2 x H' → setTurn kd D g tt te vs σ Nx x H')
theorem pe_setC (kd : SKind X κ) {elt tg iter : Expr} {ifs : List Expr} {scope : Scope} {own : List (Str × Nat)} {pos : Pos} {wi : TI} {g : TG} {tt : TT} {te : TE} (calm : X.calm = true) (nd : X.N.Nodup) (hi : PI X tg iter wi) (blk : BlkOk X.N X.env.scope scope own)
    (hg : ∀ (s : Shared) (H : Hp) (C : Addr) (cl : List (Str × Addr)) (fp : List Addr), PG (X.blk s H scope (compEnvC scope cl C X.env) fp) tg g) (ht : ∀ (s : Shared) (H : Hp) (C : Addr) (cl : List (Str × Addr)) (fp : List Addr), PTs (X.blk s H scope (compEnvC scope cl C X.env) fp) ifs tt)
    (he : ∀ (s : Shared) (H : Hp) (C : Addr) (cl : List (Str × Addr)) (fp : List Addr), PE (X.blk s H scope (compEnvC scope cl C X.env) fp) elt te) (fold : ∀ x, foldedSetIterable iter X.env x = pure x) : PE X (.SetComp elt [⟨tg, iter, ifs, 0⟩] scope pos) (tSetC kd wi g tt te (own.map (·.2))) := by
  refine ⟨fun pins s σ H Q I0 want => ?_⟩
  rw [PpSet.eval_SetComp]
  have cells : ∀ y ∈ scope.names, y.2 = .free → ∃ c, X.env.cells.lookup y.1 = some c := fun y hy e => I0.ok.has _ (blk.free y hy e)
  refine wpAny_comprehension_free (use := none) rfl fold (closure_ok cells) blk.kind (fun y hy e => by rw [blk.uniq y hy, e]) (thn (hi.run pins s σ H _ I0 want) fun xv s1 hx => thn hx fun itv s2 got => ?_)
  obtain ⟨it, fp, pl, J, H2, rfl, I2, Tn, at2, fp2, want⟩ := got
  refine PpSet.newSet_ok (newEnv_comp ?_)
  generalize eD : s2.heap.objs.size = D
  have noD : H2 D = none := I2.hok.fresh (Nat.le_of_eq eD)
  obtain ⟨Iv, ⟨m0, iv0⟩, step⟩ := want D noD
  generalize e3 : ({ s2 with heap := s2.heap.push { cls := .type "set", dict := none, data := .set #[] 0 (.fresh 0 0 (!X.w.params.followText "set-order")) } } : Shared) = s3
  have hp3 : s3.heap = s2.heap.push { cls := .type "set", dict := none, data := .set #[] 0 (.fresh 0 0 (!X.w.params.followText "set-order")) } := by rw [← e3]
  have up3 : ∀ b o, s2.heap.get? b = some o → s3.heap.get? b = some o := fun b o e => by rw [hp3]; exact Heap.get?_push_of_some _ e
  have I3 : Inv X pins σ (upd H2 D (kd.O D (fun _ => false) 0)) s3 := by
    have := I2.laid (a := D) (o := kd.O D (fun _ => false) 0) (h' := s3.heap) (t' := s2.toks) up3 (Nat.le_of_eq eD) (by rw [hp3, ← eD]; exact kd.fresh _ _)
    rw [← e3] at this ⊢
    exact this
  have small : ∀ b ∈ fp, b < s2.heap.objs.size := fun b hb => let ⟨_, e, _⟩ := Tn.obj _ _ at2 b hb; Heap.lt_size e
  generalize eH : upd H2 D (kd.O D (fun _ => false) 0) = H3 at I3 iv0
  have fp3 : ∀ b ∈ fp, FpOk X pins H3 b ∧ b < s3.heap.objs.size := fun b hb => by
    have lt := small b hb
    obtain ⟨n0, rest⟩ := fp2 b hb
    refine ⟨⟨?_, rest⟩, ?_⟩
    · rw [← eH, upd_ne (Nat.ne_of_lt (eD ▸ lt))]
      exact n0
    · rw [hp3, Heap.size_push]
      exact Nat.lt_succ_of_lt lt
  have start := block_start I3 blk nd fp3
  have G1 := hg s3 H3 s3.heap.objs.size (cellsFrom (s3.heap.objs.size + 1) scope.names (cloFrom X.env.cells scope.names [])) fp
  have G2 := ht s3 H3 s3.heap.objs.size (cellsFrom (s3.heap.objs.size + 1) scope.names (cloFrom X.env.cells scope.names [])) fp
  have G3 := he s3 H3 s3.heap.objs.size (cellsFrom (s3.heap.objs.size + 1) scope.names (cloFrom X.env.cells scope.names [])) fp
  show codeAny _ _ (.compStart (.SetComp elt [⟨tg, iter, ifs, 0⟩] scope pos) 0 (.ref it) (.ref D) (compEnvC scope (cellsFrom (s3.heap.objs.size + 1) scope.names (cloFrom X.env.cells scope.names [])) s3.heap.objs.size X.env)) (compPost (model X.prog X.w) X.A X.xe none (EP X pins σ Q) (.ref D) s3.heap.objs.size) { s3 with heap := pushCells (s3.heap.push { cls := .type "dict", data := .dict #[] }) scope.names }
  generalize eC : compEnvC scope (cellsFrom (s3.heap.objs.size + 1) scope.names (cloFrom X.env.cells scope.names [])) s3.heap.objs.size X.env = ce at start G1 G2 G3 ⊢
  have locC : ce.locals = s3.heap.objs.size := by rw [← eC]; rfl
  generalize e4 : ({ s3 with heap := pushCells (s3.heap.push { cls := .type "dict", data := .dict #[] }) scope.names } : Shared) = s4 at start ⊢
  have at4 : pl 0 s4.heap := Tn.keep _ _ _ at2 fun b _ o e => by rw [← e4]; exact pushCells_keeps _ _ _ _ (Heap.get?_push_of_some _ (up3 b o e))
  let B : Cx := X.blk s3 H3 scope ce fp
  have foot : ∀ {τ : SS} {H' : Hp} {t : Shared}, Inv B [] τ H' t → (∀ b ∈ fp, H' b = none) → ∀ b ∈ fp, FpOk B [] H' b := fun {τ H' t} J n b hb =>
    ⟨n b hb, (J.ok.exf b hb).1, J.ok.exfs b hb, .inl hb, fun x c e => (J.ok.exf b hb).2 x c e, fun p hp => absurd (show p ∈ ([] : List (Addr × Obj)) ++ [] from hp) (by simp)⟩
  have walk : codeAny (model X.prog X.w) X.A (.compLoop (.SetComp elt [⟨tg, iter, ifs, 0⟩] scope pos) 0 (.ref it) (.ref D) ce) (compPost (model X.prog X.w) X.A X.xe none (EP X pins σ Q) (.ref D) s3.heap.objs.size) s4 := by
    refine PpSet.compLoopS_any (fun n t => ∃ i H', Inv B [] (wipe σ (own.map (·.2))) H' t ∧ pl i t.heap ∧ (∀ b ∈ fp, H' b = none) ∧ Iv i n H') ?_ m0 ⟨0, H3, start, at4, fun b hb => (fp3 b hb).1.1, iv0⟩
    rintro n t5 ⟨i, H5, J5, at5, no5, iv5⟩
    rcases step i n H5 iv5 with ⟨stop, fin⟩ | ⟨go, Nx, less, turn⟩
    · refine thnF (Tn.done B rfl rfl rfl calm i [] t5 _ H5 (fun _ _ => False) J5 (foot J5 no5) at5 stop) fun r t6 ⟨er, J6⟩ => ?_
      subst er
      have back : Inv X pins σ H5 t6 := I3.call' (ch := fp) J6.os J6.base J6.hok J6.bare fun b hb => by
        obtain ⟨_, q1, _, q3, q4, q5⟩ := (fp3 b hb).1
        exact ⟨q3, q1, q4, q5⟩
      have noC : H5 s3.heap.objs.size = none := locC ▸ J6.free
      obtain ⟨mm, ns, _⟩ := J6.loc
      have ns : t6.heap.Ns ce.locals mm := ns
      rw [locC] at ns
      obtain ⟨f0, f1, f2, f3, f4, f5⟩ := I3.fpOk (Nat.le_refl _) noC
      exact ⟨mm, ns, fun h2 sb => ⟨.ref D, H5, back.turned (t' := t6.toks) (fun b o hb e => (sb.2 b hb).trans e) f0 f1 f3 f4 f5, rfl, fin⟩⟩
    · refine thnF (Tn.item B rfl rfl rfl calm i [] t5 _ H5 (fun _ _ => False) J5 (foot J5 no5) at5 go) fun r t6 ⟨u, er, more⟩ => ?_
      subst er
      refine thnF more fun _ t7 ⟨x, H7, J7, rx, yx, at7, no7⟩ => ?_
      refine thnF (G1.run _ t7 _ H7 x u _ (J7.pinned (foot J7 no7) (Tn.obj _ _ at7)) rx (turn x H7 yx)) fun _ t8 ⟨τ, H8, J8, same, q8⟩ => ?_
      refine thnF (G2.run _ t8 τ H8 _ J8 q8) fun b t9 ⟨H9, J9, q9⟩ => ?_
      have next : ∀ {t : Shared} {H' : Hp}, Inv B ([] ++ pinsAt fp t7.heap) τ H' t → Nx H' → ∃ m, m < n ∧ ∃ i H', Inv B [] (wipe σ (own.map (·.2))) H' t ∧ pl i t.heap ∧ (∀ b ∈ fp, H' b = none) ∧ Iv i m H' := fun {t H'} J nx => by
        obtain ⟨m', lt, iv'⟩ := less H' nx
        have pinned : ∀ b ∈ fp, ∀ o, t7.heap.get? b = some o → t.heap.get? b = some o ∧ H' b = none := fun b hb o e =>
          let z := J.pin (b, o) (List.mem_append_right _ (List.mem_append_right _ (mem_pinsAt hb e)))
          ⟨z.1, z.2.1⟩
        refine ⟨m', lt, i + 1, H', J.unpinned.weak (by rw [← same, wipe_length]) (fun j v e => ?_), Tn.keep _ _ _ at7 fun b hb o e => (pinned b hb o e).1, fun b hb => ?_, iv'⟩
        · rw [← same] at e
          exact (wipe_some e).1
        · obtain ⟨o, e, _⟩ := Tn.obj _ _ at7 b hb
          exact (pinned b hb o e).2
      cases b with
      | false => exact next J9 q9
      | true => exact thnF (G3.run _ t9 τ H9 _ J9 q9) fun z t10 ⟨y, H10, J10, ry, c, S0, n0, ey, hD, room, nx⟩ => kd.add B _ τ H10 t10 D S0 n0 c z _ _ rfl rfl J10 (ey ▸ ry) hD room fun t11 J11 => next J11 nx
  exact PpSet.codeAny_compStart_set walk (Tn.self X.A 0 _ _ _ at4 walk)
end
end DL

/-! DLT: a set comprehension of numbers, by values. -/
namespace DL
open PySem PySem.Spec PyProof.Rows L2
theorem set_nt {w : World} {a : Addr} {S : Int → Bool} {n : Nat} : NT (SetO w a S n) := fun ps e => by unfold SetO at e; cases e
theorem set_nf {w : World} {a : Addr} {S : Int → Bool} {n : Nat} : ¬ Fix (SetO w a S n) := fun ⟨c, q, e⟩ => by
  unfold SetO LamX.CodeO at e
  injection e with e
  let o : Obj := { cls := .none, data := .fields #[.none, .str q default] }
  let h : Heap := { objs := Array.replicate (c + 1) o }
  have look : ∀ b, h.get? b = (match (Array.replicate (c + 1) o)[b]? with | some ⟨_, _, .freed, _⟩ => none | r => r) := fun b => rfl
  have at_ : h.get? c = some o := by
    rw [look, Array.getElem?_replicate, if_pos (Nat.lt_succ_self c)]
  have only : ∀ b u, h.get? b = some u → u = o := fun b u hu => by
    rw [look, Array.getElem?_replicate] at hu
    by_cases hb : b < c + 1
    · rw [if_pos hb] at hu
      exact (Option.some.inj hu).symm
    · rw [if_neg hb] at hu
      cases hu
  have l : (fun h : Heap => ∃ (oc : Obj) (vs : Array Value) (t : Tok), h.get? c = some oc ∧ oc.data = .fields vs ∧ vs[1]? = some (.str q t)) h := ⟨o, _, default, at_, rfl, rfl⟩
  rw [← e] at l
  obtain ⟨u, es, ep, t, h1, _, h2, _⟩ := l
  rw [only _ _ h1] at h2
  cases h2
/-- among the numbers so far -/
def among (ks : List Int) : Int → Bool := fun j => decide (j ∈ ks)
theorem among_snoc {ks : List Int} {k : Int} : (fun j => among ks j || decide (j = k)) = among (ks ++ [k]) := by
  funext j
  unfold among
  rw [← Bool.decide_or]
  refine decide_eq_decide.mpr ?_
  simp [List.mem_append]
section
variable {G : Ctx} {W : WX} {X : Cx} {e : Expr} {t te : TP} {al ale als : List Nat} {i : Nat} {c : TPT} {K : PySem.W.Frag} {u0 u1 u2 : Nat}
/-- the set that is made is hidden; what it becomes -/
theorem ER.reset {T : Nat} {Z : Addr → Prop} {σ : SS} {H : Hp} {env : DEnv} {w : World} {p : Addr} {S S' : Int → Bool} {n n' : Nat} (R : ER G T (Zp Z p) σ H env) (nz : ¬ G.F p) (nS : ¬ G.S p) (e : H p = some (SetO w p S n)) : ER G T (Zp Z p) σ (upd H p (SetO w p S' n')) env := by
  have vis : Sub (hid H (Hz σ env (Zp Z p))) (hid (upd H p (SetO w p S' n')) (Hz σ env (Zp Z p))) := fun b o q => by
    obtain ⟨m, q⟩ := hid_some.mp q
    exact hid_some.mpr ⟨m, by rw [upd_ne fun z => m (.inr (.inr z))]; exact q⟩
  refine ⟨R.len, fun j d h => ?_, fun j d h => ?_, R.inj, R.zf, fun a z => ?_, G.ok_ext _ H _ R.ok (fun b f => upd_ne fun z => nz (z ▸ f)) (fun b o q f => ?_) (upd_tb set_nt), R.os, R.zm⟩
  · obtain ⟨v, h1, h2⟩ := R.low j d h
    exact ⟨v, h1, h2.sub vis⟩
  · obtain ⟨a, o, h1, h2, h3, h4⟩ := R.own j d h
    exact ⟨a, o, h1, h2, by rw [upd_ne fun z => h2 (.inr z)]; exact h3, h4.sub vis⟩
  · by_cases ha : a = p
    · rw [ha, upd_same]
      simp
    · rw [upd_ne ha]
      exact R.zd a z
  · rw [upd_ne fun z => ?_]
    · exact q
    · rw [z] at q f
      rw [e] at q
      cases q
      exact f.elim (fun f => set_nf f) nS
theorem sc_main {Z : Addr → Prop} {T M : Nat} {σ : SS} {H1 : Hp} {env : DEnv} {J : It} {xs : List V} {ds : List D} {S : Hp → Prop} {Q : VK} {P : List Int → Prop} {w : World} (st : Steady K J xs S) (R : ER G T Z σ H1 env) (hu : T + ds.length * (u1 + u2) ≤ M) (ht : M ≤ G.top)
    (hd : DenL G (Vw H1 σ env [] Z) xs ds) (hS : ∀ n H D, G.ok n H → H1 D = none → (∀ b o, ¬ G.F b → b ≠ D → H1 b = some o → H b = some o) → S H) (hz : ds.length < 64) (hq : scD i c te ds env P)
    (k : ∀ p ks n H', Grow G M H1 H' → H1 p = none → H' p = some (SetO w p (among ks) n) → n ≤ ds.length → P ks → Q (.ref p) H') :
    ∀ p, H1 p = none → ∃ Wv : Nat → Nat → Hp → Prop, (∃ m, Wv 0 m (upd H1 p (SetO w p (fun _ => false) 0))) ∧ ∀ n m H, Wv n m H →
      (J.stop n H ∧ Q (.ref p) H) ∨ (J.go n H ∧ ∃ Nx : Hp → Prop, (∀ H', Nx H' → ∃ m', m' < m ∧ Wv (n + 1) m' H') ∧ ∀ x H', J.yld n H x H' → gName i x (wipe σ [i]) H' fun σ2 H2 => wipe σ2 [i] = wipe σ [i] ∧ liftT G u1 W0 c σ2 H2 fun b H3 =>
        if b = true then liftP G u2 W0 ale te σ2 H3 fun y H4 => ∃ (j : Int) (S : Int → Bool) (m : Nat), y = .int j ∧ H4 p = some (SetO w p S m) ∧ m + 1 < scanBound ∧ Nx (upd H4 p (SetO w p (fun l => S l || decide (l = j)) (if S j = true then m else m + 1))) else Nx H3) := by
  intro p hp
  have hlen := hd.length
  have nf : ¬ G.F p := fun f => G.ok_dom _ H1 p R.ok f hp
  have ns : ¬ G.S p := fun f => G.sdom _ H1 p R.ok f hp
  let In : Nat → Hp → Prop := fun n H => ∃ ks m, H p = some (SetO w p (among ks) m) ∧ ER G (T + n * (u1 + u2)) (Zp Z p) σ H env ∧ (∀ b o, ¬ G.F b → b ≠ p → H1 b = some o → H b = some o) ∧ m ≤ n ∧ scD i c te (ds.drop n) env fun r => P (ks ++ r)
  have see : ∀ {H : Hp}, (∀ b o, ¬ G.F b → b ≠ p → H1 b = some o → H b = some o) → Sub (Vw H1 σ env [] Z) (hid H (Hz σ env (Zp Z p))) := fun {H} h b o e => by
    rw [vw_nil] at e
    obtain ⟨n, e⟩ := hid_some.mp e
    refine hid_some.mpr ⟨fun q => ?_, h b o (fun f => n (.inr (R.zf b f))) (ne_of_none e hp) e⟩
    rcases q with q | q | q
    · exact n (.inl q)
    · exact n (.inr q)
    · exact ne_of_none e hp q
  have start : In 0 (upd H1 p (SetO w p (fun _ => false) 0)) := ⟨[], 0, by rw [upd_same]; rfl, (R.hide hp set_nt).le (by omega), fun b o _ n e => by rw [upd_ne n]; exact e, Nat.le_refl _, hq⟩
  refine ⟨fun n m H => m = ds.length - n ∧ n ≤ ds.length ∧ In n H, ⟨ds.length, by simp, Nat.zero_le _, start⟩, ?_⟩
  rintro n m H ⟨rfl, hn, ks, cnt, hpa, R', hold, hcnt, q⟩
  by_cases hlt : n < ds.length
  · have ex : xs[n]? = some (xs[n]'(by omega)) := List.getElem?_eq_getElem _
    obtain ⟨d, ed, hdd⟩ := hd.get ex
    obtain ⟨hgo, hy⟩ := st.go n _ H (hS _ H p R'.ok hp hold) ex
    have edr : ds.drop n = d :: ds.drop (n + 1) := by
      have h1 := List.drop_eq_getElem_cons hlt
      rw [List.getElem?_eq_getElem hlt] at ed
      rw [h1, Option.some.inj ed]
    rw [edr] at q
    obtain ⟨hl, q⟩ := q
    refine .inr ⟨hgo, In (n + 1), fun H' h' => ⟨ds.length - (n + 1), by omega, rfl, hlt, h'⟩, fun x H' y => ?_⟩
    obtain ⟨e1, e2⟩ := hy x H' y
    subst e1 e2
    have eσ : (wipe σ [i]).set i (some (xs[n]'(by omega))) = σ.set i (some (xs[n]'(by omega))) := by
      show (σ.set i none).set i _ = _
      rw [List.set_set]
    show wipe ((wipe σ [i]).set i (some _)) [i] = wipe σ [i] ∧ _
    rw [eσ]
    refine ⟨by show (σ.set i _).set i none = σ.set i none; rw [List.set_set], ?_⟩
    have eu3 : (n + 1) * (u1 + u2) ≤ ds.length * (u1 + u2) := Nat.mul_le_mul_right _ hlt
    have eu : (n + 1) * (u1 + u2) = n * (u1 + u2) + (u1 + u2) := by rw [Nat.add_mul, Nat.one_mul]
    have Rb := (R'.set (i := i) hl (hdd.sub (see hold))).1
    refine ⟨T + n * (u1 + u2), T + n * (u1 + u2) + u1, Zp Z p, _, _, _, ⟨Nat.le_refl _, by omega⟩, Rb, q, fun b H3 g3 p3 => ?_, xw_none⟩
    have R3 := R'.growG g3
    have at3 := g3.to p _ nf hpa
    have hold3 : ∀ b o, ¬ G.F b → b ≠ p → H1 b = some o → H3 b = some o := fun b o f n e => g3.to b o f (hold b o f n e)
    cases b with
    | false => exact iteF ⟨ks, cnt, at3, R3.le (by omega), hold3, Nat.le_succ_of_le hcnt, p3⟩
    | true =>
      refine iteT ⟨T + n * (u1 + u2) + u1, T + (n + 1) * (u1 + u2), Zp Z p, _, _, _, ⟨by omega, by omega⟩, Rb.growG g3, p3, fun y dy H4 g4 hdy ⟨j, ej, p4⟩ => ?_, xw_none⟩
      subst ej
      have ey := den_int hdy
      have at4 := g4.to p _ nf at3
      have R4 := R3.growG g4
      have room : cnt + 1 < scanBound := Nat.lt_of_le_of_lt (Nat.succ_le_succ hcnt) (Nat.lt_of_lt_of_le (show n + 1 < 65 by omega) (by decide))
      refine ⟨j, among ks, cnt, ey, at4, room, ?_⟩
      rw [among_snoc]
      refine ⟨ks ++ [j], _, upd_same, R4.reset nf ns at4, fun b o f nb e => by rw [upd_ne nb]; exact g4.to b o f (hold3 b o f nb e), by split <;> omega, ?_⟩
      simpa only [List.append_assoc, List.singleton_append] using p4
  · have ek : ds.drop n = [] := List.drop_eq_nil_of_le (by omega)
    rw [ek] at q
    have eu2 : n * (u1 + u2) ≤ ds.length * (u1 + u2) := Nat.mul_le_mul_right _ hn
    refine .inl ⟨st.stop n H (hS _ H p R'.ok hp hold) (by omega), k p ks cnt H ⟨fun b o f e => hold b o f (ne_of_none e hp) e, G.ok_mono _ _ _ (by omega) R'.ok⟩ hp hpa (by omega) (by simpa [scD] using q)⟩
end
end DL

/-! DLL: set(xs) of a list of numbers. -/
namespace DL
open PySem PySem.Spec PyProof.Rows L2
/-- a new set's object -/
abbrev sob (w : World) : Obj := { cls := .type "set", dict := none, data := .set #[] 0 (.fresh 0 0 (!w.params.followText "set-order")) }
section
variable {P : Program} {w : World} {A : Around} {E : Value → Shared → Prop} {s : Shared}
theorem call_set_listI {l : Addr} {items : Array Value} (ns : List Int) {Q : Value → Shared → Prop} (calm : A.handled = none) (at_l : s.heap.IsList l items) (nums : IntsAre items.toList ns) (few : ns.length + 1 < scanBound)
    (go : ∀ (h' : Heap) (tk c : Nat), SetR w h' s.heap.objs.size (fun j => decide (j ∈ ns)) c → c ≤ ns.length → (∀ b o, s.heap.get? b = some o → h'.get? b = some o) → Q (.ref s.heap.objs.size) { s with heap := h', toks := tk }) : wpAny (model P w) A (call (.type "set") [.ref l]) Q E s := by
  have size : items.size = ns.length := (Array.length_toList (xs := items)).symm.trans (IntsAre.length nums)
  obtain ⟨mro1, mro2, mro3⟩ := F.called_set.mro
  have fact1 := F.called_set.made
  have fact2 := F.called_set.sub
  refine wpAny_call (codeAny_of_tree ?_)
  show wpAny _ _ (callAny (.type "set") _) _ _ _
  refine wpAny_pure ⟨Code.quiet_builtin _ (by decide +kernel), codeAny_builtin F.entry_type_call ?_⟩
  rw [Around.under_plain (weight_type_call_type "set" [.ref l] []) rfl]
  have fact3 := F.called_set.notType
  have fact4 := F.called_set.canCreate
  have fact5 := F.typeCall_set_1 (.ref l)
  repeat (any_goals (first | assumption | wp_step))
  let s1 : Shared := { s with heap := s.heap.push (sob w) }
  refine codeAny_mono (code_set_led1 (.ref l) (E := E) (Q₁ := fun v t => v = .ref s.heap.objs.size ∧ t = s1) ⟨rfl, rfl⟩) fun r t hr => ?_
  match r, hr with
  | .error e, hr => exact hr
  | .ok .next, hr => exact hr.elim
  | .ok .brk, hr => exact hr.elim
  | .ok .cont, hr => exact hr.elim
  | .ok (.ret v), hr =>
    obtain ⟨rfl, rfl⟩ := hr
    have new : (s.heap.push (sob w)).get? s.heap.objs.size = some (sob w) := Heap.get?_push_size _ rfl
    have typ : s1.TypeIs (.ref s.heap.objs.size) "set" := ⟨_, new, rfl⟩
    have fact6 := F.called_set.init.lookup
    have fact7 := F.called_set.init.bind (.ref s.heap.objs.size)
    repeat (any_goals (first | assumption | wp_step))
    refine codeAny_mono (codeAny_call_builtin (R := wants (fun r t2 => r = .none ∧ ∃ h' tk c, t2 = { s with heap := h', toks := tk } ∧ SetR w h' s.heap.objs.size (fun j => decide (j ∈ ns)) c ∧ c ≤ ns.length ∧ ∀ b o, s.heap.get? b = some o → h'.get? b = some o) E) F.called_set.init.plain F.entry_set_init (check_set_init_1 typ ?_)) fun r2 t2 h2 => ?_
    · obtain ⟨⟨ocls, odict, odata, oslots⟩, get_l, cls_l, nl, dat_l⟩ := at_l
      simp only at cls_l dat_l
      subst cls_l dat_l
      have get1 : (s.heap.push (sob w)).get? l = some { cls := .type "list", dict := odict, data := .seq items nl, slots := oslots } := Heap.get?_push_of_some _ get_l
      have fact8 := F.sub_list_set
      have fact9 := F.sub_list_frozenset
      have other : (Value.type "list" == Value.type "dict") = false := by decide
      have list1 : (s.heap.push (sob w)).IsList l items := ⟨_, get1, rfl, nl, rfl⟩
      unfold Builtin.«set.__init__» noKeywords Builtin.Frozenset.updateFrom
      generalize ePI : pyIter = PI
      wp_walk
      subst ePI
      refine wpAny_pyIter_list list1 (wpAny_bind (wpAny_runValue ?_))
      have lt_l : l < s.heap.objs.size := Heap.lt_size get_l
      have calm3 : A.in1.in1.in1.handled = none := by simp [calm]
      have sz1 : (s.heap.push (sob w)).objs.size = s.heap.objs.size + 1 := Heap.size_push ..
      have apart : l ≠ (s.heap.push (sob w)).objs.size := by rw [sz1]; exact Nat.ne_of_lt (Nat.lt_succ_of_lt lt_l)
      have out : s.heap.objs.size ∉ [(s.heap.push (sob w)).objs.size, l] := by
        rw [sz1]
        simp only [List.mem_cons, List.not_mem_nil, or_false, not_or]
        exact ⟨Nat.ne_of_lt (Nat.lt_succ_self _), Nat.ne_of_gt lt_l⟩
      have vals : ∀ (i : Nat) (v : Value), items[i]? = some v → ∃ k t, ns[i]? = some k ∧ v = .int k t := fun i v hv => by
        have hi : i < ns.length := size ▸ (Array.getElem?_eq_some_iff.mp hv).1
        obtain ⟨t, e⟩ := PyProof.Rows.IntsAre.int_at nums i v ((Array.getElem?_toList).trans hv)
        refine ⟨ns[i], t, List.getElem?_eq_getElem hi, e.trans ?_⟩
        rw [List.getD_eq_getElem?_getD, List.getElem?_eq_getElem hi] <;> rfl
      refine set_update_ints ((Walks.list calm3 _ l apart items).toS) s.heap.objs.size out ns size few vals (items.size - 0) 0 _ (by omega) (Nat.zero_le _) ⟨⟨_, Heap.get?_push_size _ rfl, rfl, rfl⟩, list1.push _⟩ ⟨0, Nat.le_refl 0, setR_new_at (Heap.get?_push_of_some _ new)⟩ fun t3 c moved le set3 => ?_
      obtain ⟨h3, g3, d3, tk3, os3⟩ := t3
      cases (show g3 = s.gens from moved.gens)
      cases (show d3 = s.drawn from moved.drawn)
      cases (show os3 = s.os from moved.os)
      show wpAny _ _ _ _ _ _
      refine wpAny_pure ?_
      show wpAny _ _ (ret Value.none) _ _ _
      refine wpAny_pure ⟨rfl, h3, tk3, c, rfl, set3, size ▸ le, fun b o e => ?_⟩
      have lt_b : b < s.heap.objs.size := Heap.lt_size e
      refine moved.heap b o ?_ (Heap.get?_push_of_some _ (Heap.get?_push_of_some _ e))
      rw [sz1]
      simp only [List.mem_cons, List.not_mem_nil, or_false, not_or]
      exact ⟨Nat.ne_of_lt lt_b, Nat.ne_of_lt (Nat.lt_succ_of_lt lt_b)⟩
    · match r2, h2 with
      | .error e, h2 => exact h2
      | .ok .next, h2 => exact h2.elim
      | .ok .brk, h2 => exact h2.elim
      | .ok .cont, h2 => exact h2.elim
      | .ok (.ret u), h2 =>
        obtain ⟨rfl, h3, tk, c, rfl, set3, le, keep⟩ := h2
        repeat (any_goals (first | assumption | wp_step))
        exact go _ _ _ set3 le keep
end
end DL

/-! DLZ: comprehensions and loops over tuples: for N[j], .. in zip, enumerate, pairs. -/
namespace DL
open PySem PySem.Spec PyProof.Rows L2 RZ
/-- N[j], .. = the parts -/
def setAll : List Nat → List D → DEnv → DEnv
  | i :: r, d :: ds, env => setAll r ds (env.set i (some (false, d)))
  | _, _, env => env
def gNames : List Nat → TGs
  | [] => gNil
  | j :: r => gCons (gName j) (gNames r)
def putS : List Nat → List V → SS → SS
  | j :: js, v :: vs, σ => putS js vs (σ.set j (some v))
  | _, _, σ => σ
theorem gNames_put {Q : SS → Hp → Prop} {H : Hp} : ∀ {js : List Nat} {vs : List V} {σ : SS}, vs.length = js.length → Q (putS js vs σ) H → gNames js vs σ H Q
  | [], [], σ, _, q => ⟨rfl, q⟩
  | j :: js, v :: vs, σ, hl, q => ⟨_, _, rfl, gNames_put (js := js) (vs := vs) (by simpa using hl) q⟩
  | [], _ :: _, _, hl, _ => nomatch hl
  | _ :: _, [], _, hl, _ => nomatch hl
theorem put_out : ∀ {js : List Nat} {vs : List V} {σ : SS} {k : Nat}, k ∉ js → (putS js vs σ)[k]? = σ[k]?
  | [], _, _, _, _ => by unfold putS; rfl
  | _ :: _, [], _, _, _ => by unfold putS; rfl
  | j :: js, v :: vs, σ, k, h => by
    rw [putS, put_out fun z => h (List.mem_cons_of_mem _ z), List.getElem?_set_ne fun (z : j = k) => h (by rw [z]; exact List.mem_cons_self)]
theorem put_len : ∀ {js : List Nat} {vs : List V} {σ : SS}, (putS js vs σ).length = σ.length
  | [], _, _ => by unfold putS; rfl
  | _ :: _, [], _ => by unfold putS; rfl
  | j :: js, v :: vs, σ => by rw [putS, put_len, List.length_set]
theorem set_out : ∀ {js : List Nat} {ds : List D} {env : DEnv} {k : Nat}, k ∉ js → (setAll js ds env)[k]? = env[k]?
  | [], _, _, _, _ => by unfold setAll; rfl
  | _ :: _, [], _, _, _ => by unfold setAll; rfl
  | j :: js, v :: vs, σ, k, h => by
    rw [setAll, set_out fun z => h (List.mem_cons_of_mem _ z), List.getElem?_set_ne fun (z : j = k) => h (by rw [z]; exact List.mem_cons_self)]
theorem setAll_len : ∀ {js : List Nat} {ds : List D} {env : DEnv}, (setAll js ds env).length = env.length
  | [], _, _ => by unfold setAll; rfl
  | _ :: _, [], _ => by unfold setAll; rfl
  | j :: js, v :: vs, σ => by rw [setAll, setAll_len, List.length_set]
theorem put_ext : ∀ {js : List Nat} {vs : List V} {σ σ' : SS}, vs.length = js.length → σ.length = σ'.length → (∀ k, k ∉ js → σ[k]? = σ'[k]?) → putS js vs σ = putS js vs σ'
  | [], [], _, _, _, _, h => List.ext_getElem? fun k => h k (by simp)
  | j :: js, v :: vs, σ, σ', hl, hs, h => by
    rw [putS, putS]
    refine put_ext (by simpa using hl) (by rw [List.length_set, List.length_set, hs]) fun k hk => ?_
    by_cases e : j = k
    · subst e
      rw [List.getElem?_set, List.getElem?_set, if_pos rfl, if_pos rfl, hs]
    · rw [List.getElem?_set_ne e, List.getElem?_set_ne e]
      exact h k fun z => (List.mem_cons.mp z).elim (fun z => e z.symm) hk
  | [], _ :: _, _, _, hl, _, _ => nomatch hl
  | _ :: _, [], _, _, hl, _, _ => nomatch hl
theorem wipe_in {σ : SS} {k : Nat} : ∀ {vs : List Nat}, k ∈ vs → (wipe σ vs)[k]? = if k < σ.length then some none else none
  | v :: vs, h => by
    unfold wipe
    by_cases e : v = k
    · subst e
      rw [List.getElem?_set, if_pos rfl, wipe_length]
    · rw [List.getElem?_set_ne e]
      exact wipe_in ((List.mem_cons.mp h).resolve_left fun z => e z.symm)
theorem wipe_ext {vs : List Nat} {σ σ' : SS} (hs : σ.length = σ'.length) (h : ∀ k, k ∉ vs → σ[k]? = σ'[k]?) : wipe σ vs = wipe σ' vs := List.ext_getElem? fun k => by
  by_cases hk : k ∈ vs
  · rw [wipe_in hk, wipe_in hk, hs]
  · rw [wipe_out hk, wipe_out hk, h k hk]
theorem put_wipe {js : List Nat} {vs : List V} {σ : SS} (hl : vs.length = js.length) : putS js vs (wipe σ js) = putS js vs σ := put_ext hl (wipe_length σ js) fun k hk => wipe_out hk
theorem wipe_put {js : List Nat} {vs : List V} {σ : SS} : wipe (putS js vs σ) js = wipe σ js := wipe_ext put_len fun k hk => put_out hk
section
variable {G : Ctx} {W : WX} {X : Cx} {e : Expr} {t te : TP} {al ale als : List Nat} {c : TPT} {K : PySem.W.Frag} {u0 u1 u2 : Nat} {st : Stmt} {body : TDS} {js : List Nat}
theorem ER.setAll {T : Nat} {Z : Addr → Prop} {H : Hp} : ∀ {js : List Nat} {vs : List V} {ds : List D} {σ : SS} {env : DEnv}, ER G T Z σ H env → (∀ j ∈ js, j < env.length) → DenL G (hid H (Hz σ env Z)) vs ds → ER G T Z (putS js vs σ) H (setAll js ds env) ∧ Keep G σ env H (putS js vs σ) (DL.setAll js ds env) H
  | [], _, _, σ, env, R, _, _ => by unfold putS DL.setAll; exact ⟨R, Keep.refl⟩
  | j :: js, _, _, σ, env, R, _, .nil => by unfold putS DL.setAll; exact ⟨R, Keep.refl⟩
  | j :: js, _, _, σ, env, R, hj, .cons (v := v) hd hr => by
    obtain ⟨R1, K1⟩ := R.set (i := j) (hj j List.mem_cons_self) hd
    obtain ⟨R2, K2⟩ := ER.setAll (js := js) R1 (fun i hi => by rw [List.length_set]; exact hj i (List.mem_cons_of_mem _ hi)) (hr.sub (K1.sub R))
    exact ⟨R2, K1.trans K2⟩
/-- lists of parts, pointwise -/
def DenLL (G : Ctx) (H : Hp) (xss : List (List V)) (dss : List (List D)) : Prop := xss.length = dss.length ∧ ∀ (k : Nat) (xs : List V), xss[k]? = some xs → ∃ ds, dss[k]? = some ds ∧ DenL G H xs ds
theorem DenLL.sub {H H' : Hp} {xss : List (List V)} {dss : List (List D)} (s : Sub H H') (h : DenLL G H xss dss) : DenLL G H' xss dss :=
  ⟨h.1, fun k xs e => by
    obtain ⟨ds, e2, hd⟩ := h.2 k xs e
    exact ⟨ds, e2, hd.sub s⟩⟩
/-- a walk over tuples, that are there or made for the turn -/
structure SteadyT (K : PySem.W.Frag) (J : It) (xss : List (List V)) (S : Hp → Prop) : Prop where
  go : ∀ (i : Nat) (xs : List V) (H : Hp), S H → xss[i]? = some xs → J.go i H ∧ ∀ y H', J.yld i H y H' → ∃ p, y = .ref p ∧ ((H p = none ∧ H' = upd H p (.tup xs)) ∨ (H' = H ∧ SqT K H p xs))
  stop : ∀ (i : Nat) (H : Hp), S H → xss.length ≤ i → J.stop i H
abbrev TPLL := DEnv → (List (List D) → Prop) → (XD → Prop) → Prop
def lctD (js : List Nat) (c : TPT) (t : TP) : List (List D) → DEnv → (List D → Prop) → Prop
  | [], _, P => P []
  | d :: r, env, P => (d.length = js.length ∧ ∀ j ∈ js, j < env.length) ∧ c (setAll js d env) (fun b => if b = true then t (setAll js d env) (fun y => lctD js c t r env fun ys => P (y :: ys)) noX else lctD js c t r env P) noX
def dLct (js als : List Nat) (src : TPLL) (c : TPT) (t : TP) : TP := fun env P EP => src env (fun ds => ds.length ≤ sizeLine ∧ lctD js c t ds (dis als env) fun ys => P (.lst ys)) EP
theorem lct_main {Z : Addr → Prop} {T M : Nat} {σ : SS} {H1 : Hp} {env : DEnv} {J : It} {xs : List (List V)} {ds : List (List D)} {S : Hp → Prop} {Q : VK} {P : List D → Prop} (hK : G.K = K) (st : SteadyT K J xs S) (R : ER G T Z σ H1 env) (hu : T + ds.length * (u1 + u2) ≤ M) (ht : M ≤ G.top)
    (hal : ∀ j ∈ js, j ∈ al) (sal : ∀ j ∈ ale, j ∈ al) (hd : DenLL G (Vw H1 σ env [] Z) xs ds) (hS : ∀ n H D, G.ok n H → H1 D = none → (∀ b o, ¬ G.F b → b ≠ D → H1 b = some o → H b = some o) → S H) (hz : ds.length ≤ sizeLine) (hq : lctD js c te ds env P)
    (k : ∀ p ys vs H', Grow G M H1 H' → H' p = none → DenL G (Vw H' σ env al Z) vs ys → P ys → Q (.ref p) (upd H' p (.lst vs))) :
    ∀ D, H1 D = none → ∃ Wv : Nat → Nat → Hp → Prop, (∃ m, Wv 0 m (upd H1 D (.lst []))) ∧ ∀ n m H, Wv n m H →
      (J.stop n H ∧ Q (.ref D) H) ∨ (J.go n H ∧ ∃ Nx : Hp → Prop, (∀ H', Nx H' → ∃ m', m' < m ∧ Wv (n + 1) m' H') ∧ ∀ x H', J.yld n H x H' → gTup K js.length (gNames js) x (wipe σ js) H' fun σ2 H2 => wipe σ2 js = wipe σ js ∧ liftT G u1 W0 c σ2 H2 fun b H3 =>
        if b = true then liftP G u2 W0 ale te σ2 H3 fun y H4 => ∃ acc, H4 D = some (.lst acc) ∧ acc.length < sizeLine ∧ Nx (upd H4 D (.lst (acc ++ [y]))) else Nx H3) := by
  intro D hD
  have hlen := hd.1
  have nFD : ¬ G.F D := fun f => G.ok_dom _ H1 D R.ok f hD
  have nSD : ¬ G.S D := fun f => G.sdom _ H1 D R.ok f hD
  let Z' : Addr → Prop := fun a => Z a ∨ a = D
  let Inw : Nat → Hp → Prop := fun n H => ∃ acc accD, H D = some (.lst acc) ∧ ER G (T + n * (u1 + u2)) Z' σ H env ∧ DenL G (Vw H σ env al Z') acc accD ∧ (∀ b o, ¬ G.F b → b ≠ D → H1 b = some o → H b = some o) ∧ acc.length ≤ n ∧ lctD js c te (ds.drop n) env fun ys => P (accD ++ ys)
  have sub1 : ∀ {H : Hp}, (∀ b o, ¬ G.F b → b ≠ D → H1 b = some o → H b = some o) → ∀ al, Sub (Vw H1 σ env al Z) (Vw H σ env al Z') := fun {H} h al b o e => by
    obtain ⟨n, e⟩ := hid_some.mp e
    refine hid_some.mpr ⟨fun q => ?_, h b o (fun f => n (.inr (R.zf b f))) (fun z => by rw [z, hD] at e; cases e) e⟩
    rcases q with q | q | q
    · exact n (.inl q)
    · exact n (.inr q)
    · rw [q, hD] at e
      cases e
  have erD : ∀ {S : Nat} {H : Hp} {acc : List V}, ER G S Z' σ H env → H D = some (.lst acc) → ∀ acc2, ER G S Z' σ (upd H D (.lst acc2)) env ∧ (∀ al, Sub (Vw H σ env al Z') (Vw (upd H D (.lst acc2)) σ env al Z')) := fun {S H acc} R' hDa acc2 => by
    have sb : ∀ al, Sub (Vw H σ env al Z') (Vw (upd H D (.lst acc2)) σ env al Z') := fun al b o e => by
      obtain ⟨n, e⟩ := hid_some.mp e
      refine hid_some.mpr ⟨n, ?_⟩
      rw [upd_ne fun z => n (.inr (.inr z))]
      exact e
    have s0 := sb []
    rw [vw_nil, vw_nil] at s0
    refine ⟨⟨R'.len, fun j d h => ?_, fun j d h => ?_, R'.inj, R'.zf, fun a z => ?_, G.ok_ext _ H _ R'.ok (fun b f => upd_ne fun z => nFD (z ▸ f)) (fun b o q f => by
      rw [upd_ne (lst_nf hDa nSD q f)]
      exact q) (upd_tb fun _ z => nomatch z), R'.os, R'.zm⟩, sb⟩
    · obtain ⟨v, h1, h2⟩ := R'.low j d h
      exact ⟨v, h1, h2.sub s0⟩
    · obtain ⟨a, o, h1, h2, h3, h4⟩ := R'.own j d h
      exact ⟨a, o, h1, h2, by rw [upd_ne fun z => h2 (.inr z)]; exact h3, h4.sub s0⟩
    · by_cases ha : a = D
      · subst ha
        rw [upd_same]
        exact fun z => by cases z
      · rw [upd_ne ha]
        exact R'.zd a z
  have start : Inw 0 (upd H1 D (.lst [])) := by
    have h0 : ∀ b o, ¬ G.F b → b ≠ D → H1 b = some o → upd H1 D (.lst []) b = some o := fun b o _ n e => by
      rw [upd_ne n]
      exact e
    exact ⟨[], [], upd_same, (R.hide (o := .lst []) hD (fun _ z => nomatch z)).le (by omega), .nil, h0, Nat.le_refl _, hq⟩
  refine ⟨fun n m H => m = ds.length - n ∧ n ≤ ds.length ∧ Inw n H, ⟨ds.length, by simp, Nat.zero_le _, start⟩, ?_⟩
  rintro n m H ⟨rfl, hn, acc, accD, hDa, R', hacc, hold, hal2, q⟩
  by_cases hlt : n < ds.length
  · have ex : xs[n]? = some (xs[n]'(by omega)) := List.getElem?_eq_getElem _
    obtain ⟨d, ed, hdd⟩ := hd.2 n _ ex
    obtain ⟨hgo, hy⟩ := st.go n _ H (hS _ H D R'.ok hD hold) ex
    have edr : ds.drop n = d :: ds.drop (n + 1) := by
      have h1 := List.drop_eq_getElem_cons hlt
      rw [List.getElem?_eq_getElem hlt] at ed
      rw [h1, Option.some.inj ed]
    rw [edr] at q
    obtain ⟨⟨hdl, hl⟩, q⟩ := q
    refine .inr ⟨hgo, Inw (n + 1), fun H' h' => ⟨ds.length - (n + 1), by omega, rfl, hlt, h'⟩, fun x H' y => ?_⟩
    have hvl : (xs[n]'(by omega)).length = js.length := by rw [hdd.length, hdl]
    obtain ⟨p, rfl, g0, sq⟩ : ∃ p, x = .ref p ∧ Grow G (T + n * (u1 + u2)) H H' ∧ SqT K H' p (xs[n]'(by omega)) := by
      obtain ⟨p, e1, y⟩ := hy x H' y
      rcases y with ⟨hp, rfl⟩ | ⟨rfl, sq⟩
      · exact ⟨p, e1, R'.new (o := .tup _) hp, SqT.of upd_same⟩
      · exact ⟨p, e1, R'.self, sq⟩
    refine ⟨p, _, rfl, sq, hvl, gNames_put hvl ?_⟩
    rw [put_wipe hvl]
    refine ⟨wipe_put, ?_⟩
    have R0 := R'.growG g0
    have hold0 : ∀ b o, ¬ G.F b → b ≠ D → H1 b = some o → H' b = some o := fun b o f n e => g0.to b o f (hold b o f n e)
    have hD0 : H' D = some (.lst acc) := g0.to D _ nFD hDa
    have hdv : DenL G (hid H' (Hz σ env Z')) (xs[n]'(by omega)) d := by
      rw [← vw_nil]
      exact hdd.sub (sub1 hold0 [])
    have eu3 : (n + 1) * (u1 + u2) ≤ ds.length * (u1 + u2) := Nat.mul_le_mul_right _ hlt
    have eu : (n + 1) * (u1 + u2) = n * (u1 + u2) + (u1 + u2) := by rw [Nat.add_mul, Nat.one_mul]
    have Rb : ER G (T + n * (u1 + u2)) Z' (putS js (xs[n]'(by omega)) σ) H' (setAll js d env) := (R0.setAll hl hdv).1
    have subB : ∀ (H2 : Hp), Sub (Vw H2 (putS js (xs[n]'(by omega)) σ) (setAll js d env) ale Z') (Vw H2 σ env al Z') := fun H2 b o e => by
      obtain ⟨nb, e⟩ := hid_some.mp e
      refine hid_some.mpr ⟨fun qq => nb ?_, e⟩
      rcases qq with ⟨j, d', j1, j2, j3⟩ | z
      · have hj : j ∉ js := fun z => j1 (hal j z)
        exact .inl ⟨j, d', fun z => j1 (sal j z), by rw [set_out hj]; exact j2, by rw [put_out hj]; exact j3⟩
      · exact .inr z
    refine ⟨T + n * (u1 + u2), T + n * (u1 + u2) + u1, Z', _, _, _, ⟨Nat.le_refl _, by omega⟩, Rb, q, fun b H3 g3 p3 => ?_, xw_none⟩
    have R3 := R0.growG g3
    have hD3 : H3 D = some (.lst acc) := g3.to D _ nFD hD0
    have hold3 : ∀ b o, ¬ G.F b → b ≠ D → H1 b = some o → H3 b = some o := fun b o f n e => g3.to b o f (hold0 b o f n e)
    have g03 := g0.trans g3
    cases b with
    | true =>
      refine iteT ⟨T + n * (u1 + u2) + u1, T + (n + 1) * (u1 + u2), Z', _, _, _, ⟨by omega, by omega⟩, Rb.growG g3, p3, fun y dy H4 g4 hdy p4 => ?_, xw_none⟩
      have hD4 : H4 D = some (.lst acc) := g4.to D _ nFD hD3
      obtain ⟨R4, s4⟩ := erD (R3.growG g4) hD4 (acc ++ [y])
      refine ⟨acc, hD4, Nat.lt_of_le_of_lt hal2 (Nat.lt_of_lt_of_le hlt hz), acc ++ [y], accD ++ [dy], upd_same, R4, ?_, fun b o f n e => ?_, by rw [len_app]; omega, ?_⟩
      · have h1 : DenL G (Vw H4 σ env al Z') acc accD := hacc.sub (vw_sub R' (g03.trans g4) subS)
        exact (DenL.app h1 (.cons (hdy.sub (subB H4)) .nil)).sub (s4 al)
      · rw [upd_ne n]
        exact g4.to b o f (hold3 b o f n e)
      · simpa only [List.append_assoc, List.singleton_append] using p4
    | false => exact iteF ⟨acc, accD, hD3, R3.le (by omega), hacc.sub (vw_sub R' g03 subS), hold3, Nat.le_succ_of_le hal2, p3⟩
  · have ek : ds.drop n = [] := List.drop_eq_nil_of_le (by omega)
    rw [ek] at q
    have eu2 : n * (u1 + u2) ≤ ds.length * (u1 + u2) := Nat.mul_le_mul_right _ hn
    refine .inl ⟨st.stop n H (hS _ H D R'.ok hD hold) (by omega), ?_⟩
    let H' : Hp := fun b => if b = D then none else H b
    have eH : H = upd H' D (.lst acc) := by
      funext b
      unfold upd
      by_cases hb : b = D
      · rw [if_pos hb, hb, hDa]
      · rw [if_neg hb]
        show H b = if b = D then none else H b
        rw [if_neg hb]
    have hne : ∀ b, b ≠ D → H' b = H b := fun b hb => if_neg hb
    rw [eH]
    refine k D accD acc H' ⟨fun b o f e => ?_, G.ok_mono _ _ _ (by omega) (G.ok_ext _ H _ R'.ok (fun b f => hne b fun z => nFD (z ▸ f)) (fun b o q f => by
      rw [hne b (lst_nf hDa nSD q f)]
      exact q) fun b ps q => by
      by_cases hb : b = D
      · rw [show H' b = none from if_pos hb] at q
        cases q
      · rw [← hne b hb]
        exact q)⟩ (if_pos rfl) (hacc.sub fun b o e => ?_) (by simpa [lctD] using q)
    · have hb : b ≠ D := fun z => by rw [z, hD] at e; cases e
      rw [hne b hb]
      exact hold b o f hb e
    · obtain ⟨nb, e⟩ := hid_some.mp e
      refine hid_some.mpr ⟨fun z => nb ?_, by rw [hne b fun z => nb (.inr (.inr z))]; exact e⟩
      rcases z with z | z
      · exact .inl z
      · exact .inr (.inl z)
/-- a source of tuples is a walk -/
def SrcT (G : Ctx) (u0 : Nat) (W : WX) (X : Cx) (als : List Nat) (src : TPLL) (wi : TI) : Prop :=
  ∀ (σ : SS) (H : Hp) (R0 : It → Hp → Prop) (T m : Nat) (Z : Addr → Prop) (env : DEnv) (P : List (List D) → Prop) (EP : XD → Prop), T + u0 ≤ m ∧ m ≤ G.top → ER G T Z σ H env → src env P EP → XW G m W Z σ H EP →
    (∀ J xs ds S H1, Grow G m H H1 → SteadyT X.K J xs S → DenLL G (Vw H1 σ env als Z) xs ds → (∀ n H2, G.ok n H2 → Sub (Vw H1 σ env als Z) H2 → S H2) → P ds → R0 J H1) → wi σ H R0
theorem imp_lct {wi : TI} {src : TPLL} (hK : G.K = X.K) (sw : SrcT G u0 W X als src wi) (hal : ∀ j ∈ js, j ∈ al) (sal : ∀ j ∈ ale, j ∈ al) (sals : ∀ j ∈ als, j ∈ al) : ∀ σ H Q, liftN G (u0 + sizeLine * (u1 + u2)) W al (dLct js als src c te) σ H Q → tLc wi (gTup X.K js.length (gNames js)) (liftT G u1 W0 c) (liftP G u2 W0 ale te) js σ H Q := fun σ H Q ⟨T, m, Z, env, P, EP, ⟨hm, ht⟩, R, q, k, x⟩ => by
  refine sw σ H _ T (T + u0) Z env _ EP ⟨Nat.le_refl _, by omega⟩ R q (x.le (by omega)) fun J xs ds S H1 g st hd hS ⟨hz, p⟩ D hD => ?_
  have R1 := R.growG g
  obtain ⟨R2, K2⟩ := R1.dis als
  have eu : ds.length * (u1 + u2) ≤ sizeLine * (u1 + u2) := Nat.mul_le_mul_right _ hz
  refine lct_main (P := fun ys => P (.lst ys)) (al := al) (Q := Q) (M := m) hK st R2 (by omega) ht hal sal ?_ (fun n H2 D o2 hD hk => hS n H2 o2 fun b o e => ?_) hz p (fun p ys vs H' g' hp hv py => ?_) D hD
  · rw [vw_nil]
    exact hd.sub (vw_dis als)
  · obtain ⟨n, e⟩ := hid_some.mp e
    exact hk b o (fun f => n (.inr (R.zf b f))) (fun z => by rw [z, hD] at e; cases e) e
  · exact k p _ (.lst ys) H' (g.trans g') hp ⟨vs, rfl, hv.sub (vw_undis sals)⟩ py
theorem lift_lct {wi : TI} {src : TPLL} (hK : G.K = X.K) (sw : SrcT G u0 W X als src wi) (hal : ∀ j ∈ js, j ∈ al) (sal : ∀ j ∈ ale, j ∈ al) (sals : ∀ j ∈ als, j ∈ al) (h : PE X e (tLc wi (gTup X.K js.length (gNames js)) (liftT G u1 W0 c) (liftP G u2 W0 ale te) js)) : PE X e (liftN G (u0 + sizeLine * (u1 + u2)) W al (dLct js als src c te)) :=
  h.imp (imp_lct hK sw hal sal sals)
/-! ### loops -/
def forT (js : List Nat) (body : TDS) (E : DEnds) : List (List D) → DEnv → Prop
  | [], env => E.nx env
  | d :: r, env => (d.length = js.length ∧ ∀ j ∈ js, j < env.length) ∧ body { E with nx := forT js body E r, ct := forT js body E r, bk := E.nx } (setAll js d env)
def sForT (js als : List Nat) (src : TPLL) (body : TDS) : TDS := fun E env => src env (fun ds => ds.length ≤ turnsMost ∧ forT js body E ds (dis als env)) (exe E env)
theorem forT_core {Z : Addr → Prop} {T m u : Nat} {σ0 : SS} {H0 : Hp} {env0 : DEnv} {DE : DEnds} {E : Ends} {J : It} {xs : List (List V)} {ds : List (List D)} {S : Hp → Prop} (st : SteadyT X.K J xs S) (R0 : ER G T Z σ0 H0 env0)
    (hS : ∀ n σ H env, G.ok n H → Keep G σ0 env0 H0 σ env H → S H) (hd : DenLL G (hid H0 (Hz σ0 env0 Z)) xs ds) (hq : forT js body DE ds env0) (hu : T + ds.length * u ≤ m) (ht : m ≤ G.top) (F : Rest G m W Z σ0 env0 H0 DE E) :
    ∃ Wv : Nat → Nat → SS → Hp → Prop, (∃ m, Wv 0 m σ0 H0) ∧ ∀ k m σ H, Wv k m σ H →
      (J.stop k H ∧ E.nx σ H) ∨ (J.go k H ∧ ∃ N : SS → Hp → Prop, (∀ σ' H', N σ' H' → ∃ m', m' < m ∧ Wv (k + 1) m' σ' H') ∧ ∀ x H', J.yld k H x H' → gTup X.K js.length (gNames js) x σ H' fun σ2 H2 => liftS G u W body { E with nx := N, ct := N, bk := E.nx } σ2 H2) := by
  have hlen := hd.1
  refine ⟨fun k n σ H => n = ds.length - k ∧ k ≤ ds.length ∧ ∃ env, ER G (T + k * u) Z σ H env ∧ Keep G σ0 env0 H0 σ env H ∧ forT js body DE (ds.drop k) env, ⟨ds.length, by simp, Nat.zero_le _, env0, R0.le (by omega), Keep.refl, by simpa using hq⟩, ?_⟩
  rintro k n σ H ⟨rfl, hk, env, R, K, q⟩
  by_cases hlt : k < ds.length
  · have ex : xs[k]? = some (xs[k]'(by omega)) := List.getElem?_eq_getElem _
    obtain ⟨d, ed, hdd⟩ := hd.2 k _ ex
    obtain ⟨hgo, hy⟩ := st.go k _ H (hS _ σ H env R.ok K) ex
    have edr : ds.drop k = d :: ds.drop (k + 1) := by
      have h1 := List.drop_eq_getElem_cons hlt
      rw [List.getElem?_eq_getElem hlt] at ed
      rw [h1, Option.some.inj ed]
    rw [edr] at q
    obtain ⟨⟨hdl, hl⟩, q⟩ := q
    refine .inr ⟨hgo, fun σ' H' => ∃ env', ER G (T + (k + 1) * u) Z σ' H' env' ∧ Keep G σ0 env0 H0 σ' env' H' ∧ forT js body DE (ds.drop (k + 1)) env', fun σ' H' ⟨e', q1, q2, q3⟩ => ⟨ds.length - (k + 1), by omega, rfl, hlt, e', q1, q2, q3⟩, fun x H' y => ?_⟩
    have hvl : (xs[k]'(by omega)).length = js.length := by rw [hdd.length, hdl]
    obtain ⟨p, rfl, g0, sq⟩ : ∃ p, x = .ref p ∧ Grow G (T + k * u) H H' ∧ SqT X.K H' p (xs[k]'(by omega)) := by
      obtain ⟨p, e1, y⟩ := hy x H' y
      rcases y with ⟨hp, rfl⟩ | ⟨rfl, sq⟩
      · exact ⟨p, e1, R.new (o := .tup _) hp, SqT.of upd_same⟩
      · exact ⟨p, e1, R.self, sq⟩
    refine ⟨p, _, rfl, sq, hvl, gNames_put hvl ?_⟩
    obtain ⟨R1, K1⟩ := R.grow g0.to g0.ok
    have K01 := K.trans K1
    obtain ⟨R2, K2⟩ := ER.setAll (js := js) R1 hl (hdd.sub (K01.sub R0))
    have K12 := K01.trans K2
    have eu : (k + 1) * u = k * u + u := by rw [Nat.add_mul, Nat.one_mul]
    have eu2 : (k + 1) * u ≤ ds.length * u := Nat.mul_le_mul_right _ hlt
    have F2 := (F.on K12).le (n := T + (k + 1) * u) (by omega)
    exact ⟨T + k * u, T + (k + 1) * u, Z, _, _, ⟨by omega, by omega⟩, R2, q, ⟨fun σ' H' env' R' K' p => ⟨env', R', K12.trans K', p⟩, F2.r, F2.n, fun σ' H' env' R' K' p => ⟨env', R', K12.trans K', p⟩, F2.x⟩⟩
  · have ek : ds.drop k = [] := List.drop_eq_nil_of_le (by omega)
    rw [ek] at q
    have eu2 : k * u ≤ ds.length * u := Nat.mul_le_mul_right _ hk
    exact .inl ⟨st.stop k H (hS _ σ H env R.ok K) (by omega), F.n σ H env (R.le (by omega)) K q⟩
theorem lift_forT {wi : TI} {src : TPLL} (sw : SrcT G u0 W X als src wi) (h : PS X st (tFor wi (gTup X.K js.length (gNames js)) (liftS G u1 W body))) : PS X st (liftS G (u0 + turnsMost * u1) W (sForT js als src body)) := h.imp fun E σ H ⟨T, m, Z, env, DE, ⟨hm, ht⟩, R, q, F⟩ => by
  refine sw σ H _ T (T + u0) Z env _ _ ⟨Nat.le_refl _, by omega⟩ R q (xw_of R (F.le (by omega))) fun J xs ds S H1 g stv hd hS ⟨hl, p⟩ => ?_
  obtain ⟨R1, K1⟩ := R.grow g.to g.ok
  obtain ⟨R2, K2⟩ := R1.dis als
  have K12 := K1.trans K2
  have eu : ds.length * u1 ≤ turnsMost * u1 := Nat.mul_le_mul_right _ hl
  exact forT_core (X := X) (m := m) stv R2 (fun n σ' H' env' o2 K' => hS n H' o2 fun b o e => hid_sub _ _ (K'.sub R2 _ _ (vw_dis als _ _ e))) (hd.sub (vw_dis als)) p (by omega) ht (F.on K12)
/-! ### the sources -/
def zipL {α : Type} (xs ys : List α) : List (List α) := (xs.zip ys).map fun p => [p.1, p.2]
theorem zipL_at {α : Type} {xs ys : List α} {i : Nat} {v : List α} (h : (zipL xs ys)[i]? = some v) : ∃ x y, xs[i]? = some x ∧ ys[i]? = some y ∧ v = [x, y] := by
  unfold zipL at h
  rw [List.getElem?_map] at h
  cases e : (xs.zip ys)[i]? with
  | none => rw [e] at h; cases h
  | some p =>
    rw [e] at h
    obtain ⟨a, b⟩ := List.getElem?_zip_eq_some.mp e
    exact ⟨p.1, p.2, a, b, (Option.some.inj h).symm⟩
theorem zipL_len {α : Type} (xs ys : List α) : (zipL xs ys).length = min xs.length ys.length := by simp [zipL]
theorem steady_zip {a b : Addr} {xs ys : List V} : SteadyT K (Itz K a b) (zipL xs ys) (fun H => SqL K H a xs ∧ SqL K H b ys) :=
  ⟨fun i v H h e => by
    obtain ⟨x, y, e1, e2, rfl⟩ := zipL_at e
    refine ⟨⟨xs, ys, x, y, h.1, h.2, e1, e2⟩, fun w H' ⟨T, x', y', z1, z2, z3, z4, z5⟩ => ⟨T, z1, .inl ⟨z2, ?_⟩⟩⟩
    have := (z4 xs h.1).symm.trans e1
    cases this
    have := (z5 ys h.2).symm.trans e2
    cases this
    exact z3, fun i H h l => ⟨xs, ys, h.1, h.2, by rw [zipL_len] at l; omega⟩⟩
theorem steady_zipT {a b : Addr} {xs ys : List V} : SteadyT K (ItzT K a b) (zipL xs ys) (fun H => SqT K H a xs ∧ SqT K H b ys) :=
  ⟨fun i v H h e => by
    obtain ⟨x, y, e1, e2, rfl⟩ := zipL_at e
    refine ⟨⟨xs, ys, x, y, h.1, h.2, e1, e2⟩, fun w H' ⟨T, x', y', z1, z2, z3, z4, z5⟩ => ⟨T, z1, .inl ⟨z2, ?_⟩⟩⟩
    have := (z4 xs h.1).symm.trans e1
    cases this
    have := (z5 ys h.2).symm.trans e2
    cases this
    exact z3, fun i H h l => ⟨xs, ys, h.1, h.2, by rw [zipL_len] at l; omega⟩⟩
theorem denLL_zip {H : Hp} {xs ys : List V} {ds es : List D} (h1 : DenL G H xs ds) (h2 : DenL G H ys es) : DenLL G H (zipL xs ys) (zipL ds es) :=
  ⟨by rw [zipL_len, zipL_len, h1.length, h2.length], fun k v e => by
    obtain ⟨x, y, e1, e2, rfl⟩ := zipL_at e
    obtain ⟨d, a1, a2⟩ := h1.get e1
    obtain ⟨f, b1, b2⟩ := h2.get e2
    refine ⟨[d, f], ?_, .cons a2 (.cons b2 .nil)⟩
    unfold zipL
    rw [List.getElem?_map, (List.getElem?_zip_eq_some (z := (d, f))).mpr ⟨a1, b1⟩]
    rfl⟩
/-- zip of two lists, of two tuples -/
def dZip (u : TPL) : TPLL := fun env P EP => u env (fun ds => match ds with
  | [.lst xs, .lst ys] => P (zipL xs ys)
  | [.tup xs, .tup ys] => P (zipL xs ys)
  | _ => False) EP
theorem srct_zip {u : TPL} (hK : G.K = X.K) : SrcT G u0 W X als (dZip u) (iZipA X.K (liftA G u0 W als u)) := fun σ H R0 T m Z env P EP hm R q x k =>
  ⟨T, m, Z, env, _, EP, hm, R, q, fun vs ds H1 g hd p => by
    split at p
    · obtain ⟨v, w, rfl, hv, hw⟩ := denL2 hd
      obtain ⟨a, xs, rfl, ha, hx⟩ := den_lst hv
      obtain ⟨b, ys, rfl, hb, hy⟩ := den_lst hw
      exact ⟨a, b, xs, ys, rfl, .inl ⟨SqL.of (hid_sub _ _ ha), SqL.of (hid_sub _ _ hb), k _ _ _ _ H1 g steady_zip (denLL_zip hx hy) (fun _ H2 _ s => ⟨SqL.of (s _ _ ha), SqL.of (s _ _ hb)⟩) p⟩⟩
    · obtain ⟨v, w, rfl, hv, hw⟩ := denL2 hd
      obtain ⟨a, xs, rfl, ha, hx⟩ := den_tup hv
      obtain ⟨b, ys, rfl, hb, hy⟩ := den_tup hw
      rw [hK] at ha hb
      exact ⟨a, b, xs, ys, rfl, .inr ⟨SqT.sub hid_sub ha, SqT.sub hid_sub hb, k _ _ _ _ H1 g steady_zipT (denLL_zip hx hy) (fun _ H2 _ s => ⟨SqT.sub s ha, SqT.sub s hb⟩) p⟩⟩
    · exact p.elim, x⟩
/-- enumerate of a list -/
def enuL {α : Type} (f : Nat → α) (xs : List α) : List (List α) := xs.mapIdx fun k x => [f k, x]
theorem enuL_at {α : Type} {f : Nat → α} {xs : List α} {i : Nat} {v : List α} (h : (enuL f xs)[i]? = some v) : ∃ x, xs[i]? = some x ∧ v = [f i, x] := by
  unfold enuL at h
  rw [List.getElem?_mapIdx] at h
  cases e : xs[i]? with
  | none => rw [e] at h; cases h
  | some x =>
    rw [e] at h
    exact ⟨x, rfl, (Option.some.inj h).symm⟩
theorem steady_enu {a : Addr} {xs : List V} : SteadyT K (Ite K a) (enuL (fun k => V.int (k : Nat)) xs) (fun H => SqL K H a xs) :=
  ⟨fun i v H h e => by
    obtain ⟨x, e1, rfl⟩ := enuL_at e
    refine ⟨⟨xs, x, h, e1⟩, fun w H' ⟨T, x', z1, z2, z3, z4⟩ => ⟨T, z1, .inl ⟨z2, ?_⟩⟩⟩
    have := (z4 xs h).symm.trans e1
    cases this
    exact z3, fun i H h l => ⟨xs, h, by simpa [enuL] using l⟩⟩
theorem denLL_enu {H : Hp} {xs : List V} {ds : List D} (h1 : DenL G H xs ds) : DenLL G H (enuL (fun k => V.int (k : Nat)) xs) (enuL (fun k => D.int (k : Nat)) ds) :=
  ⟨by simp [enuL, h1.length], fun k v e => by
    obtain ⟨x, e1, rfl⟩ := enuL_at e
    obtain ⟨d, a1, a2⟩ := h1.get e1
    refine ⟨[.int (k : Nat), d], ?_, .cons (.int _) (.cons a2 .nil)⟩
    unfold enuL
    rw [List.getElem?_mapIdx, a1]
    rfl⟩
def dEnu (t : TP) : TPLL := fun env P EP => t env (fun d => match d with
  | .lst xs => P (enuL (fun k => .int (k : Nat)) xs)
  | _ => False) EP
theorem srct_enu (hK : G.K = X.K) : SrcT G u0 W X als (dEnu t) (iEnum X.K (tCons (liftP G u0 W als t) tNil)) := fun σ H R0 T m Z env P EP hm R q x k =>
  ⟨T, m, Z, env, _, EP, hm, R, q, fun v d H1 g hv p => by
    split at p
    · obtain ⟨a, xs, rfl, ha, hx⟩ := den_lst hv
      exact ⟨a, xs, rfl, SqL.of (hid_sub _ _ ha), k _ _ _ _ H1 g steady_enu (denLL_enu hx) (fun _ H2 _ s => SqL.of (s _ _ ha)) p⟩
    · exact p.elim, x⟩
/-- a list or a tuple of tuples -/
def dPrs (t : TP) : TPLL := fun env P EP => t env (fun d => match d with
  | .lst xs => ∃ dss : List (List D), xs = dss.map D.tup ∧ P dss
  | .tup xs => ∃ dss : List (List D), xs = dss.map D.tup ∧ P dss
  | _ => False) EP
theorem denL_tups {H : Hp} : ∀ {dss : List (List D)} {vs : List V}, DenL G H vs (dss.map D.tup) → ∃ xss : List (List V), DenLL G H xss dss ∧ xss.length = vs.length ∧ ∀ (k : Nat) (xs : List V), xss[k]? = some xs → ∃ p, vs[k]? = some (V.ref p) ∧ SqT G.K H p xs
  | [], _, .nil => ⟨[], ⟨rfl, fun k xs e => by cases e⟩, rfl, fun k xs e => by cases e⟩
  | ds :: dss, _, .cons (v := v) h r => by
    obtain ⟨p, xs, rfl, hp, hx⟩ := den_tup h
    obtain ⟨xss, a, b, c⟩ := denL_tups r
    refine ⟨xs :: xss, ⟨by simp [a.1], fun k ys e => ?_⟩, by simp [b], fun k ys e => ?_⟩
    · cases k with
      | zero => cases e; exact ⟨ds, rfl, hx⟩
      | succ k => exact a.2 k ys (by simpa using e)
    · cases k with
      | zero => cases e; exact ⟨p, rfl, hp⟩
      | succ k => simpa using c k ys (by simpa using e)
theorem steady_prs {a : Addr} {vs : List V} {xss : List (List V)} (hl : xss.length = vs.length) : SteadyT K (Itl K a) xss (fun H => SqL K H a vs ∧ ∀ (k : Nat) (xs : List V), xss[k]? = some xs → ∃ p, vs[k]? = some (V.ref p) ∧ SqT K H p xs) :=
  ⟨fun i xs H h e => by
    obtain ⟨p, e1, hp⟩ := h.2 i xs e
    exact ⟨⟨vs, _, h.1, e1⟩, fun y H' ⟨z1, z2⟩ => ⟨p, Option.some.inj ((z2 vs h.1).symm.trans e1), .inr ⟨z1, hp⟩⟩⟩, fun i H h l => ⟨vs, h.1, by omega⟩⟩
theorem steady_prsT {a : Addr} {vs : List V} {xss : List (List V)} (hl : xss.length = vs.length) : SteadyT K (Itt K a) xss (fun H => SqT K H a vs ∧ ∀ (k : Nat) (xs : List V), xss[k]? = some xs → ∃ p, vs[k]? = some (V.ref p) ∧ SqT K H p xs) :=
  ⟨fun i xs H h e => by
    obtain ⟨p, e1, hp⟩ := h.2 i xs e
    exact ⟨⟨vs, _, h.1, e1⟩, fun y H' ⟨z1, z2⟩ => ⟨p, Option.some.inj ((z2 vs h.1).symm.trans e1), .inr ⟨z1, hp⟩⟩⟩, fun i H h l => ⟨vs, h.1, by omega⟩⟩
theorem srct_prs (hK : G.K = X.K) : SrcT G u0 W X als (dPrs t) (iSeq X.K (liftP G u0 W als t)) := fun σ H R0 T m Z env P EP hm R q x k =>
  ⟨T, m, Z, env, _, EP, hm, R, q, fun v d H1 g hv p => by
    split at p
    · obtain ⟨dss, rfl, p⟩ := p
      obtain ⟨a, vs, rfl, ha, hx⟩ := den_lst hv
      obtain ⟨xss, a1, a2, a3⟩ := denL_tups hx
      rw [hK] at a3
      exact ⟨a, rfl, .inl ⟨⟨vs, SqL.of (hid_sub _ _ ha)⟩, k _ _ _ _ H1 g (steady_prs a2) a1 (fun _ H2 _ s => ⟨SqL.of (s _ _ ha), fun k xs e => (a3 k xs e).imp fun p ⟨e1, hp⟩ => ⟨e1, SqT.sub s hp⟩⟩) p⟩⟩
    · obtain ⟨dss, rfl, p⟩ := p
      obtain ⟨a, vs, rfl, ha, hx⟩ := den_tup hv
      obtain ⟨xss, a1, a2, a3⟩ := denL_tups hx
      rw [hK] at a3 ha
      exact ⟨a, rfl, .inr ⟨⟨vs, SqT.sub hid_sub ha⟩, k _ _ _ _ H1 g (steady_prsT a2) a1 (fun _ H2 _ s => ⟨SqT.sub s ha, fun k xs e => (a3 k xs e).imp fun p ⟨e1, hp⟩ => ⟨e1, SqT.sub s hp⟩⟩) p⟩⟩
    · exact p.elim, x⟩
end
end DL

/-! DLY: further built-ins and methods, by one name each: what they mean, how they are written. -/
namespace DL
open PySem PySem.Spec PyProof.Rows L2
inductive Fx | cnt | cat
/-- what it gives -/
def fxF : Fx → FL
  | .cnt => fun ds P => match ds with
    | [.lst xs, x] => dat DD x = true ∧ xs.all (dat DD) = true ∧ P (.int (xs.countP fun z => deq z x : Nat))
    | _ => False
  | .cat => fun ds P => match ds with
    | [.lst xs, .lst ys] => xs.length + ys.length ≤ sizeLine ∧ P (.lst (xs ++ ys))
    | _ => False
def isSt : Expr → Bool
  | .Starred _ _ => true
  | _ => false
def isComp : Expr → Bool
  | .ListComp _ _ _ _ => true
  | .SetComp _ _ _ _ => true
  | .DictComp _ _ _ _ _ => true
  | _ => false
/-- what may stand ahead of a method's dot -/
def recvOk : Expr → Bool
  | .Name _ _ => true
  | .Subscript _ _ _ => true
  | .Attribute _ _ _ => true
  | .List _ _ => true
  | .Tuple _ _ _ => true
  | .Constant _ _ _ => true
  | .BinOp _ _ _ _ => true
  | _ => false
/-- x.name(args): x and the arguments -/
def methA (nm : Str) : Expr → Option (List Expr)
  | .Call (.Attribute o x p) es [] q => if decide (x = nm) && recvOk o && p.endLine == q.line && !es.any isSt then some (o :: es) else none
  | _ => none
/-- how it is written: its arguments, in the order in which they are asked -/
def fxA : Fx → Expr → Option (List Expr)
  | .cnt, e => (methA "count" e).filter fun es => es.length == 2
  | .cat, .BinOp x .Add y _ => some [x, y]
  | .cat, _ => none
/-- it gives a new object -/
def fxNew : Fx → Bool
  | .cnt => false
  | .cat => true
/-- what it gives holds no object -/
def fxFlat : Fx → Bool
  | .cnt => true
  | .cat => false
/-- what its first argument is to be -/
def fxG : Fx → D → Bool
  | .cnt, .lst _ => true
  | .cat, .lst _ => true
  | _, _ => false
/-- the first argument is looked at before the others are asked -/
def dFx (g : D → Bool) (f : FL) (t : TP) (u : TPL) : TP := fun env P EP => t env (fun d => g d = true ∧ u env (fun ds => f (d :: ds) P) EP) EP
end DL

/-! DXI: own exceptions whose __init__ stores one field: C(v), C(f=v) as values, and the field. -/
namespace PySem
namespace HandSPX
open PySem.W PySem.Calls PyProof.Rows
section
variable {M : Model} {A : Around} {E : Value → Shared → Prop} {h : Heap} {g : Array GenState} {d : Drawn} {t : Nat} {os : OsState}
variable {nm q : Str} {C N : Addr} {bs bm bmB : List Value} {hdct : Bool} {sn : List Str} {sub : List Value} {ab : Bool} {col : Option Bool} {dd : Option Addr} {k0 k1 k2 k3 k5 : Option Value} {B newId initId : String}
theorem check_new_ownK (F : ExcBaseFacts B newId initId bmB) (hT : ∀ X : String, bm.contains (.type X) = bmB.contains (.type X)) {f : Str} {v : Value} {Q : Unit → Shared → Prop}
    (hC : h.get? C = some (excClassObj nm q C N bs bm hdct sn sub ab col dd k0 k1 k2 k3 k5 newId)) (hq : Q () ⟨h, g, d, t, os⟩) : wpAny M A (checkBuiltinCall newId ⟨[.ref C], [(f, v)]⟩) Q E ⟨h, g, d, t, os⟩ := by
  have hcont : (Value.ref C :: bm).contains (.type B) = true := by rw [List.contains_cons, hT, F.hasB, Bool.or_true]
  have hstar := F.noStar
  simp only [checkBuiltinCall, F.newKind, F.newSplit, F.newRow]
  repeat (first | refine wpAny_loadPart_at hC ?_ | (refine wpAny_isSubtype_exc hC ?_; rw [hcont]) | refine wpAny_staticBase_exc hC ?_ | refine wpAny_madeBy_exc hC ?_ | simp only [bne_self_eq_false, Bool.false_eq_true, if_false] | wp_step)
  exact hq
end
section
variable {prog : Program} {w : World} {A : Around} {E : Value → Shared → Prop} {R : Result → Shared → Prop} {h : Heap} {g : Array GenState} {d : Drawn} {t : Nat} {os : OsState}
variable {nm q : Str} {C N : Addr} {bs bm bmB : List Value} {hdct : Bool} {sn : List Str} {sub : List Value} {ab : Bool} {col : Option Bool} {dd : Option Addr} {k0 k1 k2 k3 k5 : Option Value} {B newId initId : String}
theorem new_ownK (F : ExcBaseFacts B newId initId bmB) (hT : ∀ X : String, bm.contains (.type X) = bmB.contains (.type X)) {f : Str} {v : Value}
    (hC : h.get? C = some (excClassObj nm q C N bs bm hdct sn sub ab col dd k0 k1 k2 k3 k5 newId))
    (hq : R (.ok (.ret (.ref (h.objs.size + 1)))) ⟨(h.push { cls := .type "tuple", data := .seq #[] }).push
      { cls := .ref C, data := .fields #[.ref h.objs.size, .none, .none, .none, .bool false, .none] }, g, d, t, os⟩) :
    codeAny (model prog w) A (.builtin newId ⟨[.ref C], [(f, v)]⟩) R ⟨h, g, d, t, os⟩ := by
  have hends := F.ends
  have hcB : (Value.ref C :: bm).contains (.type B) = true := by rw [List.contains_cons, hT, F.hasB, Bool.or_true]
  have hcA : (Value.ref C :: bm).contains (.type "AttributeError") = false := by rw [List.contains_cons, hT, F.noAttr]; rfl
  have hcN : (Value.ref C :: bm).contains (.type "NameError") = false := by rw [List.contains_cons, hT, F.noName]; rfl
  have hrest : ([] : List Value).length ≤ sizeLine := Nat.zero_le _
  refine codeAny_builtinAt F.entry ?_
  unfold Builtin.«BaseException.__new__»
  refine wpAt_bind ?_
  show wpAt _ _ _ (stack >>= _) _ _ _
  refine wpAt_bind (wpAt_stack fun p below => wpAt_of_wpAny ?_)
  wp_walk
  refine wpAt_of_wpAny ?_
  rw [F.owner]
  repeat (first | with_reducible refine wpAny_madeHere_exc F.canon hC ?_ | with_reducible refine wpAny_loadPart_at hC ?_ | (with_reducible refine wpAny_isSubtype_exc hC ?_; first | rw [hcB] | rw [hcA] | rw [hcN]) | wp_step)
  show R _ _
  rw [Heap.size_push]
  exact hq
theorem type_call_ownK (F : ExcBaseFacts B newId initId bmB) (hT : ∀ X : String, bm.contains (.type X) = bmB.contains (.type X)) {f : Str} {v : Value} {fI : Addr} {Q : Fin → Shared → Prop}
    (hC : h.get? C = some (excClassObj nm q C N bs bm hdct sn sub ab col dd k0 k1 k2 k3 k5 newId))
    (hi : W.Looks (model prog w) h (typeLookup (.ref C) "__init__") (some (.ref fI))) (hb : ∀ self, W.Looks (model prog w) h (bindSpecial (.ref fI) self) (.ref fI, [self]))
    (hq : codeAny (model prog w) A (.call (.ref fI) ⟨[.ref (h.objs.size + 1)], [(f, v)]⟩)
      (fun r s' => match r with | .ok (.ret v) => v = .none ∧ Q (.done (.ret (.ref (h.objs.size + 1)))) s' | .ok _ => False | .error e => E e s')
      ⟨(h.push (W.kdv_tup [])).push (excO C h.objs.size), g, d, t, os⟩) :
    wpAny (model prog w) A (Builtin.«type.__call__» ⟨[.ref C], [(f, v)]⟩) Q E ⟨h, g, d, t, os⟩ := by
  repeat (first | with_reducible refine wpAny_loadPart_at hC ?_ | with_reducible refine wpAny_madeBy_exc hC ?_ | wp_step)
  refine codeAny_call_builtin_code (Code.quiet_builtin _ F.quiet) (check_new_ownK F hT hC ?_)
  refine new_ownK F hT hC ?_
  show wpAny _ _ _ _ _ _
  have k : ∀ b o, h.get? b = some o → ((h.push (W.kdv_tup [])).push (excO C h.objs.size)).get? b = some o := fun b o e => Heap.get?_push_of_some _ (Heap.get?_push_of_some _ e)
  have hC₁ := k _ _ hC
  have hget : ((h.push (W.kdv_tup [])).push (excO C h.objs.size)).get? (h.objs.size + 1) = some (excO C h.objs.size) := by heap_get
  have hcC : (Value.ref C :: bm).contains (.ref C) = true := by simp
  have i1 := hi.keeps k
  have b1 := (hb (.ref (h.objs.size + 1))).keeps k
  unfold isInstance
  repeat (first | with_reducible refine wpAny_loadPart_at hget ?_ | (with_reducible refine wpAny_isSubtype_exc hC₁ ?_; rw [hcC]) | wp_step)
  show wpAny _ _ (typeLookup (.ref C) _) _ _ _
  refine i1.at ?_
  refine wpAny_holding (wpAny_bind (b1.at ?_))
  refine wpAny_bind (wpAny_call (codeAny_mono hq fun r s' z => ?_))
  rcases r with e | (v | _ | _ | _) <;> first | exact z | exact z.elim | skip
  obtain ⟨rfl, z⟩ := z
  first
    | exact wpAny_pure (wpAny_pure z)
    | (wp_walk; exact z)
theorem call_ownK (F : ExcBaseFacts B newId initId bmB) (hT : ∀ X : String, bm.contains (.type X) = bmB.contains (.type X)) {f : Str} {v : Value} {fI : Addr}
    (hC : h.get? C = some (excClassObj nm q C N bs bm hdct sn sub ab col dd k0 k1 k2 k3 k5 newId))
    (hi : W.Looks (model prog w) h (typeLookup (.ref C) "__init__") (some (.ref fI))) (hb : ∀ self, W.Looks (model prog w) h (bindSpecial (.ref fI) self) (.ref fI, [self]))
    (hq : codeAny (model prog w) (A.under (.builtin "type.__call__" ⟨[.ref C], [(f, v)]⟩)) (.call (.ref fI) ⟨[.ref (h.objs.size + 1)], [(f, v)]⟩) (W.InitBack (h.objs.size + 1) R)
      ⟨(h.push (W.kdv_tup [])).push (excO C h.objs.size), g, d, t, os⟩) :
    codeAny (model prog w) A (.call (.ref C) ⟨[], [(f, v)]⟩) R ⟨h, g, d, t, os⟩ := by
  have f1 := tc_lookup
  have f2 := tc_bind (.ref C)
  have hTy : (⟨h, g, d, t, os⟩ : Shared).TypeIs (.ref C) "type" := ⟨_, hC, rfl⟩
  refine codeAny_of_tree ?_
  show wpAny _ _ (callAny (.ref C) _) _ _ _
  repeat (any_goals (first | assumption | with_reducible refine wpAny_loadPart_at hC ?_ | wp_step))
  refine ⟨rfl, ?_⟩
  refine codeAny_call_builtin_at (Code.quiet_builtin _ (by decide +kernel)) entry_typeCall (wpAny_check_type_call_sub hC (type_call_ownK F hT hC hi hb ?_))
  refine codeAny_mono hq fun r s' z => ?_
  rcases r with e | (v | _ | _ | _) <;> exact z
end
end HandSPX
end PySem

/-! DXJ: __init__ of own exceptions. -/
namespace PySem
namespace XI
open PySem.W PySem.Calls PyProof.Rows PySem.HandSPX
/-! ### the text of __init__ -/
def iA (f : Str) (p1 p2 : Pos) : Arguments := { posonlyargs := [], args := [{ arg := "self", annotation := none, pos := p1 }, { arg := f, annotation := none, pos := p2 }], vararg := none, kwonlyargs := [], kw_defaults := [], kwarg := none, defaults := [] }
def iB (f : Str) (q1 q2 q3 q4 : Pos) : List Stmt := [.Assign [.Attribute (.Name "self" q1) f q2] (.Name f q3) q4]
def iS (f : Str) : Scope := { kind := .function, names := [("self", .local), (f, .local)], isGenerator := false, isCoroutine := false, more := [] }
def fields : List Str := ["cycle", "name", "flaw", "at", "limit", "number", "witness", "row"]
theorem fields_all {p : Str → Prop} (h : p "cycle" ∧ p "name" ∧ p "flaw" ∧ p "at" ∧ p "limit" ∧ p "number" ∧ p "witness" ∧ p "row") {f : Str} (hf : f ∈ fields) : p f := by
  obtain ⟨h1, h2, h3, h4, h5, h6, h7, h8⟩ := h
  simp only [fields, List.mem_cons, List.not_mem_nil, or_false] at hf
  rcases hf with rfl | rfl | rfl | rfl | rfl | rfl | rfl | rfl <;> assumption
/-- what the written part says of the class at C and of its __init__ at fI: q its name, f its field -/
structure InitTxt (K : Frag) (C fI : Addr) (q f : Str) : Prop where
  cls : ∃ nm q N bs bm sn sub ab col dd k0 k1 k2 k3 k5, K.lookup C = some (excClassObj nm q C N bs bm true sn sub ab col dd k0 k1 k2 k3 k5 "ValueError.__new__") ∧ refsVE bm = true
  sa : findIn K (.ref C) "__setattr__" = some (some (.builtin "object.__setattr__"))
  noN : findIn K (.ref C) f = some none
  iC : findIn K (.ref C) "__init__" = some (some (.ref fI))
  tC : typeIn K (.ref fI) = some (.type "function")
  fd : f ∈ fields
  fn : ∃ (oc : Value) (od : Option Addr) (doc pm : Value) (an : Option Addr) (cdv ct : Value) (osl : Array (Option Value)) (p1 p2 q1 q2 q3 q4 : Pos),
    K.lookup fI = some ⟨oc, od, .func (fnOf "__init__" q (iA f p1 p2) (iB f q1 q2 q3 q4) (iS f) .none .none doc pm an cdv ct), osl⟩ ∧ codeIn K cdv q = true
theorem one_size (v : Value) : [v].length ≤ sizeLine := by
  rw [sizeLine_eq]
  exact (by decide : 1 ≤ 16777216)
theorem ldC {M : Model} {s : Shared} {name : Str} {scope : Scope} {L a : Addr} {cd : Value} {m : Str → Option Value} {x : Str} {pos : Pos} {v : Value} {Q : Value → Shared → Prop} {A : Around} {E : Value → Shared → Prop} (hn : s.heap.Ns L m) (hv : m x = some v) (h : Q v s)
    (hk : scope.kind = .function := by rfl) (hl : (envOfC name scope L a cd).kindOf x = some .local := by rfl) (hd : (x == ("__debug__" : Str)) = false := by decide) :
    wpAny M A (eval (.Name x pos) (envOfC name scope L a cd)) Q E s := wpAny_Name (wpAny_loadName_local hk hl hn hv h) hd
/-- what __init__ leaves of a fresh exception at x -/
structure InitEnd (f : Str) (h h' : Heap) (x C dx t1 : Addr) (v : Value) : Prop where
  keep : ∀ b o, b ≠ x → h.get? b = some o → h'.get? b = some o
  obj : h'.get? x = some { cls := .ref C, dict := some dx, data := .fields #[.ref t1, .none, .none, .none, .bool false, .none] }
  dbig : h.objs.size ≤ dx
  dne : dx ≠ x
  ns : h'.Ns1 dx (fun y => if y = f then some v else none)
/-- a made one -/
structure OwnMade (f : Str) (h h' : Heap) (e C d : Addr) (v : Value) : Prop where
  keep : ∀ b o, h.get? b = some o → h'.get? b = some o
  new : h.objs.size ≤ e
  obj : ∃ t1, h'.get? e = some { cls := .ref C, dict := some d, data := .fields #[.ref t1, .none, .none, .none, .bool false, .none] }
  dbig : h.objs.size ≤ d
  dne : d ≠ e
  ns : h'.Ns1 d (fun y => if y = f then some v else none)
section
variable {prog : Program} {w : World} {A : Around} {E : Value → Shared → Prop} {R : Result → Shared → Prop} {s : Shared} {K : Frag} {C fI : Addr} {q f : Str}
theorem bind_pos (hf : f ∈ fields) {q : Str} {p1 p2 q1 q2 q3 q4 : Pos} {doc pm : Value} {an : Option Addr} {cdv ct x v : Value} : bindArgs (fnOf "__init__" q (iA f p1 p2) (iB f q1 q2 q3 q4) (iS f) .none .none doc pm an cdv ct) ⟨[x, v], []⟩ = pure [(("self" : Str), x), (f, v)] :=
  fields_all (p := fun f => bindArgs (fnOf "__init__" q (iA f p1 p2) (iB f q1 q2 q3 q4) (iS f) .none .none doc pm an cdv ct) ⟨[x, v], []⟩ = pure [(("self" : Str), x), (f, v)]) ⟨rfl, rfl, rfl, rfl, rfl, rfl, rfl, rfl⟩ hf
theorem bind_kw (hf : f ∈ fields) {q : Str} {p1 p2 q1 q2 q3 q4 : Pos} {doc pm : Value} {an : Option Addr} {cdv ct x v : Value} : bindArgs (fnOf "__init__" q (iA f p1 p2) (iB f q1 q2 q3 q4) (iS f) .none .none doc pm an cdv ct) ⟨[x], [(f, v)]⟩ = pure [(("self" : Str), x), (f, v)] :=
  fields_all (p := fun f => bindArgs (fnOf "__init__" q (iA f p1 p2) (iB f q1 q2 q3 q4) (iS f) .none .none doc pm an cdv ct) ⟨[x], [(f, v)]⟩ = pure [(("self" : Str), x), (f, v)]) ⟨rfl, rfl, rfl, rfl, rfl, rfl, rfl, rfl⟩ hf
theorem loc_self (hf : f ∈ fields) {nm : Str} {L a : Addr} {cd : Value} : (envOfC nm (iS f) L a cd).kindOf "self" = some .local := rfl
theorem loc_f (hf : f ∈ fields) {nm : Str} {L a : Addr} {cd : Value} : (envOfC nm (iS f) L a cd).kindOf f = some .local :=
  fields_all (p := fun f => (envOfC nm (iS f) L a cd).kindOf f = some .local) ⟨rfl, rfl, rfl, rfl, rfl, rfl, rfl, rfl⟩ hf
theorem not_debug (hf : f ∈ fields) : (f == ("__debug__" : Str)) = false := fields_all (p := fun f => (f == ("__debug__" : Str)) = false) ⟨by decide, by decide, by decide, by decide, by decide, by decide, by decide, by decide⟩ hf
theorem not_self (hf : f ∈ fields) : (f == ("self" : Str)) = false := fields_all (p := fun f => (f == ("self" : Str)) = false) ⟨by decide, by decide, by decide, by decide, by decide, by decide, by decide, by decide⟩ hf
theorem loc_all (hf : f ∈ fields) {x v : Value} : ([(("self" : Str), x), (f, v)].all fun y => List.lookup y.1 (iS f).names == some NameKind.local || List.lookup y.1 (iS f).names == some NameKind.cell) = true :=
  fields_all (p := fun f => ([(("self" : Str), x), (f, v)].all fun y => List.lookup y.1 (iS f).names == some NameKind.local || List.lookup y.1 (iS f).names == some NameKind.cell) = true) ⟨rfl, rfl, rfl, rfl, rfl, rfl, rfl, rfl⟩ hf
theorem bl_f (hf : f ∈ fields) {q : Str} {L a : Addr} {cd x v : Value} : bindL (envOfC q (iS f) L a cd).kindOf [(("self" : Str), x), (f, v)] (fun _ => none) f = some v :=
  fields_all (p := fun f => bindL (envOfC q (iS f) L a cd).kindOf [(("self" : Str), x), (f, v)] (fun _ => none) f = some v) ⟨rfl, rfl, rfl, rfl, rfl, rfl, rfl, rfl⟩ hf
theorem bl_self (hf : f ∈ fields) {q : Str} {L a : Addr} {cd x v : Value} : bindL (envOfC q (iS f) L a cd).kindOf [(("self" : Str), x), (f, v)] (fun _ => none) "self" = some x :=
  fields_all (p := fun f => bindL (envOfC q (iS f) L a cd).kindOf [(("self" : Str), x), (f, v)] (fun _ => none) "self" = some x) ⟨rfl, rfl, rfl, rfl, rfl, rfl, rfl, rfl⟩ hf
theorem init_run (T : InitTxt K C fI q f) {x t0 : Addr} {v : Value} {args : Args} (ha : args = ⟨[.ref x, v], []⟩ ∨ args = ⟨[.ref x], [(f, v)]⟩) (X : K.In s.heap) (hlim : s.heap.NoLimit) (hx : s.heap.get? x = some (excO C t0)) (hnx : K.lookup x = none) (hroom : A.depth < recursionLimit)
    (hq : ∀ h' tk dx, InitEnd f s.heap h' x C dx t0 v → R (.ok (.ret .none)) { s with heap := h', toks := tk }) :
    codeAny (model prog w) A (.call (.ref fI) args) R s := by
  obtain ⟨oc, od, doc, pm, an, cdv, ct, osl, p1, p2, q1, q2, q3, q4, ho, hcd⟩ := T.fn
  obtain ⟨nm, qn, N, bs, bm, sn, sub, ab, col, dd, k0, k1, k2, k3, k5, hC, hbm⟩ := T.cls
  have hcl : clsIn K C = some { name := nm, bases := bs, mro := .ref C :: bm, ns := N, qualname := qn, hasDict := true, slotNames := sn, subclasses := sub, abstract := ab, collection := col, hasDel := false } := by unfold clsIn; rw [hC] <;> rfl
  have hf := T.fd
  have hbind : BindsTo s (fnOf "__init__" q (iA f p1 p2) (iB f q1 q2 q3 q4) (iS f) .none .none doc pm an cdv ct) args [("self", .ref x), (f, v)] := by
    rcases ha with rfl | rfl
    · exact BindsTo.of_eq (bind_pos hf)
    · exact BindsTo.of_eq (bind_kw hf)
  refine Att.call_fn (binds := [("self", .ref x), (f, v)]) X hlim ho hcd hroom hbind (loc_all hf) (fun s₁ IC => ?_) rfl rfl rfl
  obtain ⟨h₁, tk₁, rfl⟩ := IC.toInCall.same
  have k : ∀ b o, s.heap.get? b = some o → h₁.get? b = some o := IC.toInCall.keep
  have hn := IC.toInCall.ns
  have hxL : s.heap.objs.size ≠ x := Nat.ne_of_gt (Heap.lt_size hx)
  have X₁ : K.In h₁ := X.keeps k
  have hx₁ := k _ _ hx
  show wpAny _ _ (execs _ _) _ _ _
  refine wpAny_execs_cons (plainObj_wpAny_Assign_Attribute ?_)
  have ns := not_self hf
  refine ldC (v := v) hn ?_ (ldC (v := .ref x) hn ?_ ?_ rfl (loc_self hf)) rfl (loc_f hf) (not_debug hf)
  · exact bl_f hf
  · exact bl_self hf
  refine set_plain X₁ (ox := excO C t0) (od := none) ⟨hx₁, rfl, rfl, trivial⟩ T.sa ?_
  refine exc_osa X₁ hx₁ hcl (show refsVE (.ref C :: bm) = true from hbm) rfl T.noN (fun h₃ tk₃ dx k₃ dn dne hx₃ hn₃ => ?_)
  show wpAny _ _ (execs _ _) _ _ _
  have z : s.heap.objs.size < h₁.objs.size := hn.lt
  exact wpAny_execs_nil (hq h₃ tk₃ dx ⟨fun b o hb e => k₃ b o hb (k b o e), hx₃, Nat.le_of_lt (Nat.lt_of_lt_of_le z dn), dne, hn₃⟩)
theorem made (T : InitTxt K C fI q f) {v : Value} {args : Args} (ha : args = ⟨[v], []⟩ ∨ args = ⟨[], [(f, v)]⟩) (X : K.In s.heap) (hlim : s.heap.NoLimit) (hroom : A.depth + 1 < recursionLimit)
    (hq : ∀ h' tk e d, OwnMade f s.heap h' e C d v → R (.ok (.ret (.ref e))) { s with heap := h', toks := tk }) :
    codeAny (model prog w) A (.call (.ref C) args) R s := by
  obtain ⟨nm, qn, N, bs, bm, sn, sub, ab, col, dd, k0, k1, k2, k3, k5, hC, hbm⟩ := T.cls
  obtain ⟨hp, g, dr, tk, os⟩ := s
  have gen : ∀ us : List Value, K.lookup (hp.objs.size + 1) = none → (∀ {args : Args}, args = ⟨[.ref (hp.objs.size + 1), v], []⟩ ∨ args = ⟨[.ref (hp.objs.size + 1)], [(f, v)]⟩ → ∀ A' : Around, A'.depth < recursionLimit →
      codeAny (model prog w) A' (.call (.ref fI) args) (InitBack (hp.objs.size + 1) R) ⟨(hp.push (kdv_tup us)).push (excO C hp.objs.size), g, dr, tk, os⟩) := fun us hnx args ha A' hr => by
    have k : ∀ b o, hp.get? b = some o → ((hp.push (kdv_tup us)).push (excO C hp.objs.size)).get? b = some o := fun b o e => Heap.get?_push_of_some _ (Heap.get?_push_of_some _ e)
    have hget : ((hp.push (kdv_tup us)).push (excO C hp.objs.size)).get? (hp.objs.size + 1) = some (excO C hp.objs.size) := by heap_get
    refine init_run (s := ⟨(hp.push (kdv_tup us)).push (excO C hp.objs.size), g, dr, tk, os⟩) T ha (X.keeps k) (hlim.keeps k) hget hnx hr fun h' tk' dx ⟨k', hx, dn, dne, hns⟩ => ?_
    have old : ∀ b o, hp.get? b = some o → h'.get? b = some o := fun b o e => k' b o (Nat.ne_of_lt (Nat.lt_succ_of_lt (Heap.lt_size e))) (k b o e)
    have z : hp.objs.size + 1 + 1 ≤ dx := by
      first
        | (simpa only [Heap.size_push] using dn)
        | exact dn
        | (have q := dn; rw [Heap.size_push, Heap.size_push] at q; exact q)
    exact ⟨rfl, hq h' tk' (hp.objs.size + 1) dx ⟨old, Nat.le_succ _, ⟨_, hx⟩, Nat.le_trans (Nat.le_trans (Nat.le_succ _) (Nat.le_succ _)) z, dne, hns⟩⟩
  have hnx : K.lookup (hp.objs.size + 1) = none := by
    cases e : K.lookup (hp.objs.size + 1) with
    | none => rfl
    | some o =>
      have z : hp.get? (hp.objs.size + 1) = some o := X _ _ e
      exact absurd (Nat.lt_of_succ_lt (Heap.lt_size z)) (Nat.lt_irrefl _)
  rcases ha with rfl | rfl
  · exact call_own F.excBase_ValueError (fun X => refsVE_contains X bm hbm) (X _ _ hC) (looks_findIn X T.iC) (fun self => bind_fn X self T.tC) (one_size v) (gen _ hnx (.inl rfl) _ hroom)
  · exact call_ownK F.excBase_ValueError (fun X => refsVE_contains X bm hbm) (X _ _ hC) (looks_findIn X T.iC) (fun self => bind_fn X self T.tC) (gen _ hnx (.inr rfl) _ hroom)
end
end XI
end PySem

/-! DXK: C(v), C(f=v) as values: readings. -/
namespace DL
open PySem PySem.Spec PyProof.Rows L2
section
variable {X : Cx} {pins : List (Addr × Obj)} {σ : SS} {H1 : Hp} {C fI : Addr} {q f : Str}
theorem relO_one {v : V} {v' : Value} (r : RelV v v') (g : Str) : RelO (List.lookup g [(f, v)]) (if g = f then some v' else none) := by
  by_cases hw : g = f
  · subst hw
    rw [if_pos rfl]
    have q : List.lookup g [(g, v)] = some v := by simp [List.lookup]
    rw [q]
    exact r
  · rw [if_neg hw]
    have qw : (g == f) = false := by simpa using hw
    have q2 : List.lookup g [(f, v)] = none := by simp [List.lookup, qw]
    rw [q2]
    trivial
theorem made_inv {hp h' : Heap} {gs : Array GenState} {dr : Drawn} {tk tk' : Nat} {os : OsState} {e d : Addr} {v : V} {v' : Value} (I : Inv X pins σ H1 ⟨hp, gs, dr, tk, os⟩) (M : PySem.XI.OwnMade f hp h' e C d v') (rv : RelV v v') :
    Inv X pins σ (upd (upd H1 d (.xd [(f, v)])) e (EXO (.ref C) (some d) e)) ⟨h', gs, dr, tk', os⟩ ∧ H1 e = none ∧ H1 d = none := by
  have ne : H1 e = none := I.hok.fresh M.new
  have nd : H1 d = none := I.hok.fresh M.dbig
  have lt : ∀ {b : Addr} {o : Obj}, hp.get? b = some o → b ≠ e ∧ b ≠ d := fun {b o} q => ⟨Nat.ne_of_lt (Nat.lt_of_lt_of_le (Heap.lt_size q) M.new), Nat.ne_of_lt (Nat.lt_of_lt_of_le (Heap.lt_size q) M.dbig)⟩
  have sm : ∀ {b : Addr} {o : HO}, H1 b = some o → b ≠ e ∧ b ≠ d := fun {b o} q => ⟨fun z => (by rw [z, ne] at q; cases q), fun z => (by rw [z, nd] at q; cases q)⟩
  obtain ⟨t1, hob⟩ := M.obj
  have U : Un X.fs [] H1 (upd (upd H1 d (.xd [(f, v)])) e (EXO (.ref C) (some d) e)) hp h' := {
    keep := fun b o q n _ _ => M.keep b o q
    slot := fun b o q n _ _ => ⟨o.slots, M.keep b o q⟩
    free := fun b o q n _ => by rw [upd_ne (lt q).1, upd_ne (lt q).2]; exact n
    there := fun b o q _ => ⟨o, M.keep b o q⟩
    tups := fun b xs q => by rw [upd_ne (sm q).1, upd_ne (sm q).2]; exact q
    frzs := fun b o v q => by rw [upd_ne (sm q).1, upd_ne (sm q).2]; exact q
    tbls := fun b ps q => ⟨#[], by rw [upd_ne (sm q).1, upd_ne (sm q).2, q]; simp⟩ }
  refine ⟨I.un (t' := tk') U fun b o q => ?_, ne, nd⟩
  by_cases hb : b = e
  · subst hb
    rw [upd_same] at q
    cases q
    exact ⟨⟨_, _, hob, ⟨rfl, rfl⟩, rfl⟩, ⟨_, hob⟩, fun h1 h2 ⟨oe, vs, z1, z2, z3⟩ k => ⟨oe, vs, k _ z1, z2, z3⟩⟩
  · rw [upd_ne hb] at q
    by_cases hd : b = d
    · subst hd
      rw [upd_same] at q
      cases q
      exact ⟨_, M.ns, fun g => relO_one rv g⟩
    · rw [upd_ne hd] at q
      exact (I.hok b o q).stay (fun c v hc z => M.keep c v z) (fun c hc => by rw [upd_ne (sm hc).1, upd_ne (sm hc).2]; exact hc) (fun c xs hc => by rw [upd_ne (sm hc).1, upd_ne (sm hc).2]; exact hc)
/-- the new exception, by its value -/
def mkK (C : Addr) (f : Str) : List V → Hp → VK → Prop := fun vs H Q => ∃ v, vs = [v] ∧ ∀ e d, H e = none → H d = none → d ≠ e → Q (.ref e) (upd (upd H d (.xd [(f, v)])) e (EXO (.ref C) (some d) e))
theorem pe_mkx {k : Nat} {a : Expr} {ta : TA} {x : Str} {p pos : Pos} (T : PySem.XI.InitTxt X.K C fI q f) (hr : Room k X.A) (gC : X.mg x = some (.ref C)) (kC : PySem.W.keepIn X.K (.ref C) = true) (hg : Gl X x) (hdb : (x == ("__debug__" : Str)) = false) (ha : PA X [a] ta)
    (he : starEach (a :: []) X.env = (false, eval a X.env) :: starEach [] X.env) : PE X (.Call (.Name x p) [a] [] pos) (tCB (mkK C f) ta) := by
  refine ⟨fun pins s σ H Q I h => ?_⟩
  refine wpAny_Call_Name_kw (ld_glob I hg gC ?_ hdb)
  refine PySem.W.callWith_K (h₀ := X.base) I.ok.mod.kin kC (thn (ha.run pos pins s σ H _ I h) fun us s1 hh => ?_) he rfl
  obtain ⟨vs, H1, I1, r1, v, ev, q1⟩ := hh
  subst ev
  refine ⟨I1.kIn, ?_⟩
  cases r1 with
  | cons rv rn =>
    rename_i v' us'
    cases rn
    show wpAny _ _ (call (.ref C) [v']) _ _ _
    have hlim := I1.nolimit
    obtain ⟨hp, g, dr, tk, os⟩ := s1
    refine wpAny_call (PySem.XI.made T (.inl rfl) I1.kIn hlim (by have := hr.dp; omega) fun h' tk' e d M => ?_)
    obtain ⟨J, ne, nd⟩ := made_inv (tk' := tk') I1 M rv
    exact ⟨.ref e, _, J, rfl, q1 e d ne nd M.dne⟩
theorem pe_mkk {k : Nat} {a : Expr} {ta : TA} {x : Str} {p pos kp : Pos} (T : PySem.XI.InitTxt X.K C fI q f) (hr : Room k X.A) (gC : X.mg x = some (.ref C)) (kC : PySem.W.keepIn X.K (.ref C) = true) (hg : Gl X x) (hdb : (x == ("__debug__" : Str)) = false) (ha : PK X [⟨some f, a, kp⟩] ta) :
    PE X (.Call (.Name x p) [] [⟨some f, a, kp⟩] pos) (tCB (mkK C f) ta) := by
  refine ⟨fun pins s σ H Q I h => ?_⟩
  refine wpAny_Call_Name_kw (ld_glob I hg gC ?_ hdb)
  refine PySem.W.callWith_KW0 (h₀ := X.base) I.ok.mod.kin kC rfl (thn (ha.run pos pins s σ H _ I h) fun us s1 hh => ?_) rfl
  obtain ⟨vs, H1, I1, r1, v, ev, q1⟩ := hh
  subst ev
  refine ⟨I1.kIn, ?_⟩
  cases r1 with
  | cons rv rn =>
    rename_i v' us'
    cases rn
    have hlim := I1.nolimit
    obtain ⟨hp, g, dr, tk, os⟩ := s1
    refine wpAny_call (PySem.XI.made T (.inr rfl) I1.kIn hlim (by have := hr.dp; omega) fun h' tk' e d M => ?_)
    obtain ⟨J, ne, nd⟩ := made_inv (tk' := tk') I1 M rv
    exact ⟨.ref e, _, J, rfl, q1 e d ne nd M.dne⟩
/-- .. a class without an __init__ of its own -/
def mkN (C : Addr) : List V → Hp → VK → Prop := fun vs H Q => ∀ a, H a = none → Q (.ref a) (upd H a (EXO (.ref C) none a))
theorem pe_mkn {a : Expr} {ta : TA} {x : Str} {p pos : Pos} (q : PySem.W.excIn X.K C He.veBase "ValueError.__new__" = true) (gC : X.mg x = some (.ref C)) (kC : PySem.W.keepIn X.K (.ref C) = true) (hg : Gl X x) (hdb : (x == ("__debug__" : Str)) = false) (ha : PA X [a] ta)
    (hs : starEach [a] X.env = (false, eval a X.env) :: starEach [] X.env) : PE X (.Call (.Name x p) [a] [] pos) (tCB (fun vs H Q => ∃ v, vs = [v] ∧ mkN C vs H Q) ta) := by
  refine ⟨fun pins s σ H Q I h => ?_⟩
  refine wpAny_Call_Name_kw (ld_glob I hg gC ?_ hdb)
  refine PySem.W.callWith_K (h₀ := X.base) I.ok.mod.kin kC (thn (ha.run pos pins s σ H _ I h) fun us s1 hh => ?_) hs rfl
  obtain ⟨vs, H1, I1, r1, v, ev, q1⟩ := hh
  subst ev
  refine ⟨I1.kIn, ?_⟩
  cases r1 with
  | cons rv rn =>
    rename_i v' us'
    cases rn
    show wpAny _ _ (call (.ref C) [v']) _ _ _
    obtain ⟨bm, N, nm, qn, bs, hdct, sn, sub, ab, col, dd, k0, k1, k2, k3, k5, mN, hC, hN, hni, T⟩ := exc_obj I1.kIn q
    refine wpAny_call_exc_subT PySem.F.excBase_ValueError T hC hN hni (fun h' a hm => ?_) (by show 1 ≤ sizeLine; rw [sizeLine_eq]; omega)
    have hn : H1 a = none := I1.hok.gone hm.new
    obtain ⟨t, ht, _, _⟩ := hm.there
    exact ⟨.ref a, upd H1 a (EXO (.ref C) none a), I1.laidN hm.keeps hm.new hn ⟨⟨_, _, ht, ⟨rfl, rfl⟩, rfl⟩, ⟨_, ht⟩, fun h1 h2 ⟨oe, vs, z1, z2, z3⟩ k => ⟨oe, vs, k _ z1, z2, z3⟩⟩, rfl, q1 a hn⟩
/-- e.f, e an exception that stands in the heap -/
def tXfld (K : PySem.W.Frag) (f : Str) (te : TE) : TE := fun σ H Q => te σ H fun x H1 => ∃ (a D dd : Addr) (fs : List (Str × V)) (v : V), x = .ref a ∧ ExcC K D ∧ PySem.W.findIn K (.ref D) f = some none ∧ H1 a = some (EXO (.ref D) (some dd) a) ∧ H1 dd = some (.xd fs) ∧ fs.lookup f = some v ∧ Q v H1
theorem pe_xfld {e : Expr} {te : TE} {pos : Pos} (he : PE X e te) (hb : attributeBase e f X.env (eval e X.env) = eval e X.env) (hcl : f ≠ "__class__") : PE X (.Attribute e f pos) (tXfld X.K f te) := by
  refine ⟨fun pins s σ H Q I h => ?_⟩
  refine attr_of hb (thn (he.run pins s σ H _ I h) fun u s1 hh => ?_)
  obtain ⟨x, H1, I1, rx, a, D, dd, fs, v, ex, T, hno, ha, hd, hl, q⟩ := hh
  subst ex
  obtain rfl : u = Value.ref a := rx
  obtain ⟨⟨oe, vs, at_, z, dat⟩, _, _⟩ := I1.hok a _ ha
  obtain ⟨mA, hns, hr⟩ := (show ObjOk X.prog X.w H1 s1.heap dd (.xd fs) from I1.hok dd _ hd)
  obtain ⟨od, ho, hlk⟩ := lookIn_ns hns
  obtain ⟨u, hu, ru⟩ := RelO.some_of (v := v) (o := mA f) (by rw [← hl]; exact hr f)
  have J : PySem.W.InstAt s1.heap a oe D (some od) := ⟨at_, z.1, by unfold PySem.W.notCls; rw [dat] <;> rfl, by rw [z.2]; exact ho⟩
  exact HandSPX.exc_get I1.kIn J T.hg T.hk T.hs (PySem.W.findObj_own T.hd hno rfl (by rw [hlk, hu])) (handed_of ru) ⟨v, H1, I1.tok _, ru, q⟩
end
end DL

/-! D10: the small form of expressions, its meaning, the check that an expression of the text is it, and that this is sound. -/
namespace DL
open PySem PySem.Spec PyProof.Rows L2

inductive Bop | add | sub | mul | fdiv | mod | pow
inductive Cop | eq | ne | lt | le | gt | ge
inductive Blt | len | isi | all | any | list | tuple | min | max | abs | int | repr
mutual
inductive M
  | var (i : Nat) | non | bl (b : Bool) | int (i : Int) | str (x : Str) | con (x : Str) | ty (x : Str) (n : String)
  | bin (o : Bop) (a b : M) | cmp (o : Cop) (a b : M) | chain (o p : Cop) (a b c : M) | isN (a : M) | notN (a : M)
  | and (a b : M) | or (a b : M) | not (a : M) | ife (c a b : M)
  | tup (es : Ms) | lst (es : Ms) | call (f : Str) (es : Ms) | callk (f : Str) (ks : List Str) (es : Ms) | blt (b : Blt) (es : Ms)
  | lc (i : Nat) (x : Str) (src : Src) (c : Mo) (e : M) | idx (a b : M) | sl (a : M) (lo hi : Mo) | flat (a : M) | rget (i : Nat) (key : Str) (t : Bool) | rpop (i : Nat) (key : Str) (m : M) | dct0
  | cin (neg : Bool) (a b : M) | isE (a : M) (c : Str) | callv (f : Str) (es : Ms) | calls (f : Str) (a : M) | lam (f : Str) (m : M)
  | ldc1 (k v : M) | isT (neg : Bool) (a : M) | srtl (a : M) | srtc (i : Nat) (x : Str) (src : Src) (c : Mo) (e : M)
  | lct (js : List Nat) (src : Srt) (c : Mo) (e : M) | fx (f : Fx) (es : Ms)
  | mkx (c : Str) (a : M) | mkk (c f : Str) (a : M) | fld (a : M) (f : Str) | isV (a : M)
inductive Ms
  | nil | cons (a : M) (r : Ms)
inductive Mo
  | no | yes (a : M)
inductive Src
  | seq (a : M) | rng1 (a : M) | rng2 (a b : M) | rlst (i : Nat) (key : Str)
inductive Srt
  | zip (a b : M) | enu (a : M) | prs (a : M)
end
mutual
def al : M → List Nat
  | .var i => [i]
  | .bin _ a b => al a ++ al b
  | .and a b => al a ++ al b
  | .or a b => al a ++ al b
  | .ife _ a b => al a ++ al b
  | .tup es => alL es
  | .lst es => alL es
  | .call _ es => alL es
  | .callk _ _ es => alL es
  | .blt _ es => alL es
  | .lc i _ src _ e => i :: (alS src ++ al e)
  | .idx a b => al a ++ al b
  | .sl a _ _ => al a
  | .rpop _ _ m => al m
  | .callv _ es => alL es
  | .calls _ a => al a
  | .ldc1 k v => al k ++ al v
  | .lct js src _ e => js ++ (alR src ++ al e)
  | .fx f es => if fxFlat f = true then [] else alL es
  | .mkx _ a => al a
  | .mkk _ _ a => al a
  | .fld a _ => al a
  | _ => []
def alL : Ms → List Nat
  | .nil => []
  | .cons a r => al a ++ alL r
def alS : Src → List Nat
  | .seq a => al a
  | .rng1 a => al a
  | .rng2 a b => al a ++ al b
  | .rlst _ _ => []
def alR : Srt → List Nat
  | .zip a b => al a ++ al b
  | .enu a => al a
  | .prs a => al a
end
/-- what the names stand for: constants; defs (their parameters, their promise) -/
structure Gam where
  con : Str → Option D
  fn : Str → Option (List Str × FSp)
  kws : List (Str × List Str) := []
  cost : Str → Nat := fun _ => 0
  ik : List Str := []
  lk : List Str := []
  sk : List Str := []
  tk : List Str := []
  exc : List Str := []
  exn : List Str := []
  sub : Str → Str → Bool := fun _ _ => false
  fnv : Str → Option FSp := fun _ => none
  tfn : Str → Option ThSp := fun _ => none
  th : Option (Addr × Thk) := none
  exi : List (Str × Str) := []
  ve : Bool := false
  thn : Str := ""
def bopF : Bop → F2
  | .add => fAdd | .sub => fSub | .mul => fMul | .fdiv => fDiv | .mod => fMod | .pow => fPow
def copF : Cop → F2
  | .eq => fEq | .ne => fNe | .lt => fLt | .le => fLe | .gt => fGt | .ge => fGe
def bltF : Blt → FL
  | .len => fLen | .isi => fIsi | .all => fAllL | .any => fAnyL | .list => fList | .tuple => fTuple | .min => fMinS | .max => fMaxS | .abs => fAbs | .int => fInt | .repr => fRepr
def isNo : D → Bool
  | .non => true
  | _ => false
/-- the state's round never comes so far -/
def turnTop : Nat := 2 ^ 1000
/-- isinstance(d, c), d an exception -/
def fIsE (Γ : Gam) (c : Str) : F1 := fun d P => match d with
  | .exc e _ => e ∈ Γ.exc ∧ P (.bl (Γ.sub e c))
  | _ => False
/-- isinstance(d, ValueError), d an own exception -/
def fIsV (Γ : Gam) : F1 := fun d P => match d with
  | .exc e _ => Γ.ve = true ∧ e ∈ Γ.exc ∧ P (.bl true)
  | _ => False
/-- d.f, d an own exception -/
def fFld (Γ : Gam) (f : Str) : F1 := fun d P => match d with
  | .exc c fs => Γ.exi.lookup c = some f ∧ ∃ v, fs.lookup f = some v ∧ P v
  | _ => False
/-- C(d) -/
def fMkx (Γ : Gam) (c : Str) : F1 := fun d P => match Γ.exi.lookup c with
  | some f => P (.exc c [(f, d)])
  | none => P (.exc c [])
def mkOk (Γ : Gam) (c : Str) : Prop := (Γ.exi.lookup c).isSome = true ∨ c ∈ Γ.exn
def fMkk (Γ : Gam) (c f : Str) : F1 := fun d P => P (.exc c [(f, d)])
/-- d is True, d a bool -/
def fIsT (neg : Bool) : F2 := fun x y P => match x, y with
  | .bl a, .bl b => P (.bl (if neg = true then !decide (a = b) else decide (a = b)))
  | _, _ => False
/-- only where p -/
def dGd (p : Prop) (t : TP) : TP := fun env P EP => p ∧ t env P EP
def dNever : TP := fun _ _ _ => False
/-- the values in the parameters' order -/
def pick (ps ks : List Str) (ds : List D) : List D := ps.map fun p => ((ks.zip ds).lookup p).getD .non
/-! ### how often the state's round may go on within -/
mutual
def co (Γ : Gam) : M → Nat
  | .bin _ a b => co Γ a + co Γ b
  | .cmp _ a b => co Γ a + co Γ b
  | .chain _ _ a b c => co Γ a + co Γ b + co Γ c
  | .isN a => co Γ a
  | .notN a => co Γ a
  | .and a b => co Γ a + co Γ b
  | .or a b => co Γ a + co Γ b
  | .not a => co Γ a
  | .ife c a b => co Γ c + co Γ a + co Γ b
  | .tup es => coL Γ es
  | .lst es => coL Γ es
  | .call f es => coL Γ es + Γ.cost f
  | .callk f _ es => coL Γ es + Γ.cost f
  | .blt _ es => coL Γ es
  | .lc _ _ src c e => coS Γ src + sizeLine * (coO Γ c + co Γ e)
  | .idx a b => co Γ a + co Γ b
  | .sl a lo hi => co Γ a + coO Γ lo + coO Γ hi
  | .flat a => co Γ a
  | .rpop _ _ m => co Γ m
  | .cin _ a b => co Γ a + co Γ b
  | .isE a _ => co Γ a
  | .callv f es => coL Γ es + Γ.cost f
  | .calls f a => co Γ a + Γ.cost f
  | .lam f _ => Γ.cost f
  | .ldc1 k v => co Γ k + co Γ v
  | .isT _ a => co Γ a
  | .srtl a => co Γ a
  | .srtc _ _ src c e => coS Γ src + sizeLine * (coO Γ c + co Γ e)
  | .lct _ src c e => coR Γ src + sizeLine * (coO Γ c + co Γ e)
  | .fx _ es => coL Γ es
  | .mkx _ a => co Γ a
  | .mkk _ _ a => co Γ a
  | .fld a _ => co Γ a
  | .isV a => co Γ a
  | _ => 0
def coL (Γ : Gam) : Ms → Nat
  | .nil => 0
  | .cons a r => co Γ a + coL Γ r
def coO (Γ : Gam) : Mo → Nat
  | .no => 0
  | .yes a => co Γ a
def coS (Γ : Gam) : Src → Nat
  | .seq a => co Γ a
  | .rng1 a => co Γ a
  | .rng2 a b => co Γ a + co Γ b
  | .rlst _ _ => 0
def coR (Γ : Gam) : Srt → Nat
  | .zip a b => co Γ a + co Γ b
  | .enu a => co Γ a
  | .prs a => co Γ a
end

mutual
def den (Γ : Gam) : M → TP
  | .var i => dVar i
  | .non => dC .non
  | .bl b => dC (.bl b)
  | .int i => dC (.int i)
  | .str x => dC (.str x)
  | .con x => (match Γ.con x with
    | some d => dC d
    | none => dNever)
  | .ty _ n => dC (.ty n)
  | .bin o a b => dOp (bopF o) (den Γ a) (den Γ b)
  | .cmp o a b => dOp (copF o) (den Γ a) (den Γ b)
  | .chain o p a b c => dChain (copF o) (copF p) (den Γ a) (den Γ b) (den Γ c)
  | .isN a => dOp1 (fun d P => P (.bl (isNo d))) (den Γ a)
  | .notN a => dOp1 (fun d P => P (.bl (!isNo d))) (den Γ a)
  | .and a b => dAnd (den Γ a) (den Γ b)
  | .or a b => dOr (den Γ a) (den Γ b)
  | .not a => dNot (den Γ a)
  | .ife c a b => dIf (denT Γ c) (den Γ a) (den Γ b)
  | .tup es => dTup (denL Γ es)
  | .lst es => dLst (denL Γ es)
  | .call f es => (match Γ.fn f with
    | some (ps, sp) => dG sp ps.length (denL Γ es)
    | none => dNever)
  | .callk f ks es => (match Γ.fn f with
    | some (ps, sp) => fun env P EP => denL Γ es env (fun ds => (f, ks) ∈ Γ.kws ∧ ds.length = ks.length ∧ sp (pick ps ks ds) P EP) EP
    | none => dNever)
  | .blt b es => dCall (bltF b) (denL Γ es)
  | .lc i _ src c e => dLc i (alS src) (denS Γ src) (denC Γ c) (den Γ e)
  | .idx a b => dOp fIdx (den Γ a) (den Γ b)
  | .sl a lo hi => dSl (den Γ a) (denO Γ lo) (denO Γ hi)
  | .flat a => dFlat (den Γ a)
  | .dct0 => dC (.dct [])
  | .rget i key false => fun env P EP => dVar i env (fun d => d = .hnd 0 ∧ key ∈ Γ.ik ∧ ∀ n : Int, P (.int n)) EP
  | .rget i key true => fun env P EP => dVar i env (fun d => d = .hnd 0 ∧ key ∈ Γ.tk ∧ ∀ n : Int, 0 ≤ n → n < (turnTop : Int) → P (.int n)) EP
  | .rpop i key m => fun env P EP => dVar i env (fun d => d = .hnd 0 ∧ key ∈ Γ.lk ∧ (∀ n : Int, P (.int n)) ∧ den Γ m env P EP) EP
  | .cin neg a b => dOp (fInN neg) (den Γ a) (den Γ b)
  | .isE a c => dGd (c ∈ Γ.exc) (dOp1 (fIsE Γ c) (den Γ a))
  | .callv f es => (match Γ.fnv f with
    | some sp => dGV sp (denL Γ es)
    | none => dNever)
  | .calls f a => (match Γ.fnv f with
    | some sp => dGS sp (den Γ a)
    | none => dNever)
  | .lam f m => (match Γ.tfn f with
    | some sp => fun env P EP => noOwnAll env = true ∧ co Γ m = 0 ∧ sp (fun P' EP' => den Γ m env P' EP') P EP
    | none => dNever)
  | .ldc1 k v => dLd1 (den Γ k) (den Γ v)
  | .srtl a => dSrtL (den Γ a)
  | .srtc i _ src c e => dSrtC i (alS src) (denS Γ src) (denC Γ c) (den Γ e)
  | .isT neg a => dOp (fIsT neg) (den Γ a) (dC (.bl true))
  | .lct js src c e => dLct js (alR src) (denR Γ src) (denC Γ c) (den Γ e)
  | .fx f .nil => fun _ P _ => fxF f [] P
  | .fx f (.cons a r) => dFx (fxG f) (fxF f) (den Γ a) (denL Γ r)
  | .mkx c a => dGd (mkOk Γ c) (dOp1 (fMkx Γ c) (den Γ a))
  | .mkk c f a => dGd (Γ.exi.lookup c = some f) (dOp1 (fMkk Γ c f) (den Γ a))
  | .fld a f => dOp1 (fFld Γ f) (den Γ a)
  | .isV a => dGd (Γ.ve = true) (dOp1 (fIsV Γ) (den Γ a))
def denT (Γ : Gam) : M → TPT
  | .and a b => dAndT (denT Γ a) (denT Γ b)
  | .or a b => dOrT (denT Γ a) (denT Γ b)
  | .not a => dNotT (denT Γ a)
  | .cmp o a b => dTest (dOp (copF o) (den Γ a) (den Γ b))
  | .chain o p a b c => dTest (dChain (copF o) (copF p) (den Γ a) (den Γ b) (den Γ c))
  | .isN a => dTest (dOp1 (fun d P => P (.bl (isNo d))) (den Γ a))
  | .notN a => dTest (dOp1 (fun d P => P (.bl (!isNo d))) (den Γ a))
  | .var i => dTru (dVar i)
  | .call f es => dTru (match Γ.fn f with
    | some (ps, sp) => dG sp ps.length (denL Γ es)
    | none => dNever)
  | .callk f ks es => dTru (match Γ.fn f with
    | some (ps, sp) => fun env P EP => denL Γ es env (fun ds => (f, ks) ∈ Γ.kws ∧ ds.length = ks.length ∧ sp (pick ps ks ds) P EP) EP
    | none => dNever)
  | .blt b es => dTru (dCall (bltF b) (denL Γ es))
  | .idx a b => dTru (dOp fIdx (den Γ a) (den Γ b))
  | .bin o a b => dTru (dOp (bopF o) (den Γ a) (den Γ b))
  | .bl b => dTru (dC (.bl b))
  | .flat a => denT Γ a
  | .cin neg a b => dTest (dOp (fInN neg) (den Γ a) (den Γ b))
  | .isE a c => dTru (dGd (c ∈ Γ.exc) (dOp1 (fIsE Γ c) (den Γ a)))
  | .callv f es => dTru (match Γ.fnv f with
    | some sp => dGV sp (denL Γ es)
    | none => dNever)
  | .calls f a => dTru (match Γ.fnv f with
    | some sp => dGS sp (den Γ a)
    | none => dNever)
  | .lam f m => dTru (match Γ.tfn f with
    | some sp => fun env P EP => noOwnAll env = true ∧ co Γ m = 0 ∧ sp (fun P' EP' => den Γ m env P' EP') P EP
    | none => dNever)
  | .isT neg a => dTest (dOp (fIsT neg) (den Γ a) (dC (.bl true)))
  | .fx f .nil => dTru (fun _ P _ => fxF f [] P)
  | .fx f (.cons a r) => dTru (dFx (fxG f) (fxF f) (den Γ a) (denL Γ r))
  | .fld a f => dTru (dOp1 (fFld Γ f) (den Γ a))
  | .isV a => dTru (dGd (Γ.ve = true) (dOp1 (fIsV Γ) (den Γ a)))
  | _ => fun _ _ _ => False
def denL (Γ : Gam) : Ms → TPL
  | .nil => dNil
  | .cons a r => dCons (den Γ a) (denL Γ r)
def denC (Γ : Gam) : Mo → TPT
  | .no => fun _ P _ => P true
  | .yes a => denT Γ a
def denO (Γ : Gam) : Mo → TPO
  | .no => dNoP
  | .yes a => dPart (den Γ a)
def denS (Γ : Gam) : Src → TPL
  | .seq a => dSeq (den Γ a)
  | .rng1 a => dRng1 (dCons (den Γ a) dNil)
  | .rng2 a b => dRng2 (dCons (den Γ a) (dCons (den Γ b) dNil))
  | .rlst i key => fun env P EP => dVar i env (fun d => d = .hnd 0 ∧ key ∈ Γ.sk ∧ ∀ ns : List Int, ns.length ≤ turnsMost → P (ns.map D.int)) EP
def denR (Γ : Gam) : Srt → TPLL
  | .zip a b => dZip (dCons (den Γ a) (dCons (den Γ b) dNil))
  | .enu a => dEnu (den Γ a)
  | .prs a => dPrs (den Γ a)
end

/-! ### the check -/
def frNames : List Str := ["len", "isinstance", "all", "any", "list", "tuple", "min", "max", "abs", "int", "repr", "range", "bool", "str", "dict", "sorted", "set", "sum", "zip", "enumerate"]
def visB (sc : Scope) (x : Str) : Bool := match sc.names.lookup x with
  | some .local => true | some .cell => true | some .free => true | _ => false
def glB (sc : Scope) (x : Str) : Bool := (match sc.names.lookup x with
  | some .globalImplicit => true | _ => false) && !(x == "__debug__") && !(x == "__name__")
def bopO : Bop → Operator
  | .add => .Add | .sub => .Sub | .mul => .Mult | .fdiv => .FloorDiv | .mod => .Mod | .pow => .Pow
def copO : Cop → CmpOp
  | .eq => .Eq | .ne => .NotEq | .lt => .Lt | .le => .LtE | .gt => .Gt | .ge => .GtE
def bltN : Blt → String
  | .len => "len" | .isi => "isinstance" | .all => "all" | .any => "any" | .list => "list" | .tuple => "tuple" | .min => "min" | .max => "max" | .abs => "abs" | .int => "int" | .repr => "repr"
def isSet : Expr → Bool
  | .Set _ _ _ => true
  | _ => false
def varB (N : List Str) (sc : Scope) (i : Nat) : Expr → Bool
  | .Name x _ => decide (N[i]? = some x) && visB sc x && !(x == "__debug__") && !(x == "__classdict__")
  | _ => false
def rsB (N : List Str) (sc : Scope) (i : Nat) (key : Str) : Expr → Bool
  | .Subscript o (.Constant (.str y) _ _) _ => varB N sc i o && decide (y = key)
  | _ => false
/-- x[key] != [] -/
def neB (N : List Str) (sc : Scope) (i : Nat) (key : Str) : Expr → Bool
  | .Compare a [.NotEq] [.List [] _] _ => rsB N sc i key a
  | _ => false
/-- x[key].pop(0) -/
def popB (N : List Str) (sc : Scope) (i : Nat) (key : Str) : Expr → Bool
  | .Call (.Attribute o x p) [.Constant (.int n) _ _] [] q => rsB N sc i key o && decide (x = "pop") && decide (n = 0) && (p.endLine == q.line)
  | _ => false
def kTrue : Expr → Bool
  | .Constant (.bool b) _ _ => b
  | _ => false
/-- f is True, is not True -/
def isTB (neg : Bool) (f : Expr → Bool) : Expr → Bool
  | .Compare x [p] [y] _ => decide (p = if neg = true then CmpOp.IsNot else CmpOp.Is) && kTrue y && f x
  | _ => false
def cinB (neg : Bool) (f g : Expr → Bool) : Expr → Bool
  | .Compare x [p] [y] _ => decide (p = if neg = true then CmpOp.NotIn else CmpOp.In) && !behindInMarks p y && f x && g y
  | _ => false
def isEB (sc : Scope) (c : Str) (f : Expr → Bool) : Expr → Bool
  | .Call (.Name y _) [x, .Name z _] [] _ => decide (y = "isinstance") && glB sc y && !isSt x && decide (z = c) && glB sc c && f x
  | _ => false
def cvB (sc : Scope) (f : Str) (g : List Expr → Bool) : Expr → Bool
  | .Call (.Name x _) xs [] _ => decide (f = x) && glB sc x && g xs
  | _ => false
def csB (sc : Scope) (f : Str) (g : Expr → Bool) : Expr → Bool
  | .Call (.Name x _) [.Starred e _] [] _ => decide (f = x) && glB sc x && g e
  | _ => false
def hasCell (sc : Scope) : Bool := sc.names.any fun y => decide (y.2 = .cell)
def lamB (sc : Scope) (f : Str) (g : Scope → Expr → Bool) : Expr → Bool
  | .Call (.Name x _) [.Lambda ⟨[], [], none, [], [], none, []⟩ body scope _] [] _ => decide (f = x) && glB sc x && hasCell sc && LamX.lamSB sc scope && g scope body
  | _ => false
/-- sorted(set(e)) -/
def srtlB (sc : Scope) (f : Expr → Bool) : Expr → Bool
  | .Call (.Name x _) [.Call (.Name y _) [e] [] _] [] _ => decide (x = "sorted") && glB sc x && decide (y = "set") && glB sc y && !isSt e && f e
  | _ => false
/-- sorted({elt for x in iter if ..}) -/
def srtcB (N : List Str) (sc : Scope) (i : Nat) (x : Str) (fs : Expr → Bool) (fc : Scope → List Expr → Bool) (fe : Scope → Expr → Bool) : Expr → Bool
  | .Call (.Name f _) [.SetComp elt [⟨.Name y _, iter, ifs, 0⟩] scope _] [] _ => decide (f = "sorted") && glB sc f && decide (x = y) && decide (N[i]? = some x) && blkC N sc scope [(x, i)] && fs iter &&
    (match (relS scope sc).names.lookup x with | some .local => true | some .cell => decide (scope.names.lookup x = some .cell) | _ => false) && fc (relS scope sc) ifs && fe (relS scope sc) elt && (!hasCell scope || hasCell sc)
  | _ => false
/-- the names of a block's tuple target -/
def nameC (N : List Str) (sc scope : Scope) : List Nat → List Expr → Bool
  | [], [] => true
  | j :: js, .Name x _ :: ts => decide (N[j]? = some x) && (match (relS scope sc).names.lookup x with | some .local => true | some .cell => decide (scope.names.lookup x = some .cell) | _ => false) && nameC N sc scope js ts
  | _, _ => false
def ownC : List Nat → List Expr → List (Str × Nat)
  | j :: js, .Name x _ :: ts => (x, j) :: ownC js ts
  | _, _ => []
mutual
def chE (N : List Str) (sc : Scope) : M → Expr → Bool
  | .var i, .Name x _ => decide (N[i]? = some x) && visB sc x && !(x == "__debug__") && !(x == "__classdict__")
  | .non, .Constant .none _ _ => true
  | .bl b, .Constant (.bool c) _ _ => b == c
  | .int i, .Constant (.int j) _ _ => decide (i = j)
  | .int i, .UnaryOp .USub (.Constant (.int j) _ _) _ => decide (i = -j)
  | .str x, .Constant (.str y) _ _ => decide (x = y)
  | .con x, .Name y _ => decide (x = y) && glB sc x
  | .ty x n, .Name y _ => decide (x = y) && glB sc x && decide (bootBuiltins x = some (.type n)) && decide (x ∈ frNames)
  | .bin o a b, .BinOp x p y _ => decide (p = bopO o) && chE N sc a x && chE N sc b y
  | .cmp o a b, .Compare x [p] [y] _ => decide (p = copO o) && chE N sc a x && chE N sc b y
  | .chain o q a b c, .Compare x [p, r] [y, z] _ => decide (p = copO o) && decide (r = copO q) && chE N sc a x && chE N sc b y && chE N sc c z
  | .isN a, .Compare x [.Is] [.Constant .none _ _] _ => chE N sc a x
  | .notN a, .Compare x [.IsNot] [.Constant .none _ _] _ => chE N sc a x
  | .and a b, .BoolOp .And [x, y] _ => chE N sc a x && chE N sc b y
  | .and a b, .BoolOp .And (x :: y :: z :: r) p => chE N sc a x && chE N sc b (.BoolOp .And (y :: z :: r) p)
  | .or a b, .BoolOp .Or [x, y] _ => chE N sc a x && chE N sc b y
  | .or a b, .BoolOp .Or (x :: y :: z :: r) p => chE N sc a x && chE N sc b (.BoolOp .Or (y :: z :: r) p)
  | .not a, .UnaryOp .Not x _ => chE N sc a x
  | .ife c a b, .IfExp z x y _ => chE N sc c z && chE N sc a x && chE N sc b y
  | .tup es, .Tuple xs _ _ => chL N sc es xs
  | .lst es, .List xs _ => chL N sc es xs
  | .call f es, .Call (.Name x _) xs [] _ => decide (f = x) && glB sc x && chL N sc es xs
  | .callk f ks es, .Call (.Name x _) [] kws _ => decide (f = x) && glB sc x && chK N sc ks es kws
  | .blt b es, .Call (.Name x _) xs [] _ => decide (x = Str.ofString (bltN b)) && glB sc x && chL N sc es xs && !xs.isEmpty
  | .lc i x src c e, .ListComp elt [⟨.Name y _, iter, ifs, 0⟩] scope _ => decide (x = y) && decide (N[i]? = some x) && blkC N sc scope [(x, i)] && chS N sc src iter &&
      (match (relS scope sc).names.lookup x with | some .local => true | some .cell => decide (scope.names.lookup x = some .cell) | _ => false) && chC N (relS scope sc) c ifs && chE N (relS scope sc) e elt && (!hasCell scope || hasCell sc)
  | .idx a b, .Subscript x y _ => chE N sc a x && chE N sc b y
  | .sl a lo hi, .Subscript x (.Slice l h none _) _ => chE N sc a x && chO N sc lo l && chO N sc hi h
  | .flat a, e => chE N sc a e
  | .dct0, .Dict [] [] _ => true
  | .ldc1 k v, .Dict [some a] [b] _ => chE N sc k a && chE N sc v b
  | .isT neg a, e => isTB neg (chE N sc a) e
  | .srtl a, e => srtlB sc (chE N sc a) e
  | .srtc i x src c t, e => srtcB N sc i x (chS N sc src) (fun s => chC N s c) (fun s => chE N s t) e
  | .rget i key _, e => rsB N sc i key e
  | .rpop i key m, .IfExp c a b _ => neB N sc i key c && popB N sc i key a && chE N sc m b
  | .cin neg a b, e => cinB neg (chE N sc a) (chE N sc b) e
  | .isE a c, e => isEB sc c (chE N sc a) e
  | .callv f es, e => cvB sc f (chL N sc es) e
  | .calls f a, e => csB sc f (chE N sc a) e
  | .lam f m, e => lamB sc f (fun scope => chE N scope m) e
  | .lct js src c e, .ListComp elt [⟨.Tuple ts _ _, iter, ifs, 0⟩] scope _ => blkC N sc scope (ownC js ts) && chR N sc src iter && nameC N sc scope js ts && chC N (relS scope sc) c ifs && chE N (relS scope sc) e elt && (!hasCell scope || hasCell sc)
  | .mkx c a, .Call (.Name x _) [y] [] _ => decide (c = x) && glB sc x && !isSt y && chE N sc a y
  | .mkk c f a, .Call (.Name x _) [] [⟨some g, y, _⟩] _ => decide (c = x) && glB sc x && decide (f = g) && chE N sc a y
  | .fld a f, .Attribute o g _ => decide (f = g) && recvOk o && decide (f ≠ "__class__") && chE N sc a o
  | .isV a, e => isEB sc "ValueError" (chE N sc a) e
  | .fx f es, e => (match fxA f e with
    | some xs => chL N sc es xs
    | none => false)
  | _, _ => false
def chL (N : List Str) (sc : Scope) : Ms → List Expr → Bool
  | .nil, [] => true
  | .cons a r, x :: xs => !isSt x && chE N sc a x && chL N sc r xs
  | _, _ => false
def chK (N : List Str) (sc : Scope) : List Str → Ms → List Keyword → Bool
  | [], .nil, [] => true
  | k :: ks, .cons a r, ⟨some q, x, _⟩ :: xs => decide (k = q) && chE N sc a x && chK N sc ks r xs
  | _, _, _ => false
def chC (N : List Str) (sc : Scope) : Mo → List Expr → Bool
  | .no, [] => true
  | .yes a, [x] => chE N sc a x
  | _, _ => false
def chO (N : List Str) (sc : Scope) : Mo → Option Expr → Bool
  | .no, none => true
  | .yes a, some x => chE N sc a x
  | _, _ => false
def chS (N : List Str) (sc : Scope) : Src → Expr → Bool
  | .seq a, x => !isSet x && chE N sc a x
  | .rng1 a, .Call (.Name r _) [x] [] _ => decide (r = "range") && glB sc r && !isSt x && chE N sc a x
  | .rng2 a b, .Call (.Name r _) [x, y] [] _ => decide (r = "range") && glB sc r && !isSt x && !isSt y && chE N sc a x && chE N sc b y
  | .rlst i key, x => rsB N sc i key x && !isSet x
  | _, _ => false
def chR (N : List Str) (sc : Scope) : Srt → Expr → Bool
  | .zip a b, .Call (.Name r _) [x, y] [] _ => decide (r = "zip") && glB sc r && !isSt x && !isSt y && chE N sc a x && chE N sc b y
  | .enu a, .Call (.Name r _) [x] [] _ => decide (r = "enumerate") && glB sc r && !isSt x && chE N sc a x
  | .prs a, x => !isSet x && chE N sc a x
  | _, _ => false
end
end DL

/-! D11: the check is sound (expressions). -/
namespace DL
open PySem PySem.Spec PyProof.Rows L2

/-! ### walks -/
def SrcW (G : Ctx) (u0 : Nat) (W : WX) (X : Cx) (als : List Nat) (src : TPL) (wi : TI) : Prop :=
  ∀ (σ : SS) (H : Hp) (R0 : It → Hp → Prop) (T m : Nat) (Z : Addr → Prop) (env : DEnv) (P : List D → Prop) (EP : XD → Prop), T + u0 ≤ m ∧ m ≤ G.top → ER G T Z σ H env → src env P EP → XW G m W Z σ H EP →
    (∀ J xs ds S H1, Grow G m H H1 → Steady X.K J xs S → DenL G (Vw H1 σ env als Z) xs ds → (∀ n H2, G.ok n H2 → Sub (Vw H1 σ env als Z) H2 → S H2) → P ds → R0 J H1) → wi σ H R0
section
variable {G : Ctx} {W : WX} {X : Cx} {st : Stmt} {e : Expr} {t te : TP} {al ale als : List Nat} {i : Nat} {c : TPT} {src u : TPL} {wi : TI} {body : TDS} {u0 u1 u2 : Nat}
theorem srcw_seq (hK : G.K = X.K) : SrcW G u0 W X als (dSeq t) (iSeq X.K (liftP G u0 W als t)) := fun σ H R0 T m Z env P EP hm R q x k =>
  ⟨T, m, Z, env, _, EP, hm, R, q, fun v d H1 g hd p => by
    split at p
    · obtain ⟨a, xs, rfl, ha, hv⟩ := den_lst hd
      exact ⟨a, rfl, .inl ⟨⟨xs, SqL.of (hid_sub _ _ ha)⟩, k _ xs _ _ H1 g (steady_list (xs := xs)) hv (fun _ H2 _ s => SqL.of (s _ _ ha)) p⟩⟩
    · obtain ⟨a, xs, rfl, ha, hv⟩ := den_tup hd
      rw [hK] at ha
      exact ⟨a, rfl, .inr ⟨⟨xs, SqT.sub hid_sub ha⟩, k _ xs _ _ H1 g (steady_tup (xs := xs)) hv (fun _ H2 _ s => SqT.sub s ha) p⟩⟩
    · cases hd with
      | scr ha =>
        rw [hK] at ha
        exact ⟨_, rfl, .inl ⟨⟨_, SqL.sub hid_sub ha⟩, k _ _ _ _ H1 g steady_list (denL_ints _) (fun _ H2 _ s => SqL.sub s ha) p⟩⟩
    · exact p.elim, x⟩
theorem srcw_rng1 : SrcW G u0 W X als (dRng1 u) (iRng1 (liftA G u0 W als u)) := fun σ H R0 T m Z env P EP hm R q x k =>
  ⟨T, m, Z, env, _, EP, hm, R, q, fun vs ds H1 g hd ⟨j, ej, j1, j2, p⟩ => by
    subst ej
    obtain ⟨v, rfl, hv⟩ := denL1 hd
    cases hv
    refine ⟨j, rfl, j1, j2, ?_⟩
    have e0 : rngD 0 j = (List.range j.toNat).map fun (k : Nat) => D.int (0 + k) := by unfold rngD; rw [Int.sub_zero]
    rw [e0] at p
    exact k _ _ _ (fun _ => True) H1 g steady_range (denL_rng 0 _) (fun _ _ _ _ => True.intro) p, x⟩
theorem srcw_rng2 : SrcW G u0 W X als (dRng2 u) (iRng2 (liftA G u0 W als u)) := fun σ H R0 T m Z env P EP hm R q x k =>
  ⟨T, m, Z, env, _, EP, hm, R, q, fun vs ds H1 g hd ⟨lo, j, ej, j1, p⟩ => by
    subst ej
    obtain ⟨v, w, rfl, hv, hw⟩ := denL2 hd
    cases hv
    cases hw
    exact ⟨lo, j, rfl, j1, k _ _ _ (fun _ => True) H1 g steady_range (denL_rng lo _) (fun _ _ _ _ => True.intro) p⟩, x⟩
theorem imp_lcS (sw : SrcW G u0 W X als src wi) (hal : i ∈ al) (sal : ∀ j ∈ ale, j ∈ al) (sals : ∀ j ∈ als, j ∈ al) : ∀ σ H Q, liftN G (u0 + sizeLine * (u1 + u2)) W al (dLc i als src c te) σ H Q → tLc wi (gName i) (liftT G u1 W0 c) (liftP G u2 W0 ale te) [i] σ H Q :=
  imp_lcW (X := X) hal sal sals (fun σ H R0 T m Z env P EP hm R q x k => sw σ H R0 T m Z env P EP hm R q x fun J xs ds S H1 g stv hd hS p => k J xs ds S H1 g stv hd (fun n H2 D o2 hD hk => hS n H2 o2 fun b o e => by
    obtain ⟨n, e⟩ := hid_some.mp e
    exact hk b o (fun f => n (.inr (R.zf b f))) (fun z => by rw [z, hD] at e; cases e) e) p)
theorem lift_lcS (sw : SrcW G u0 W X als src wi) (hal : i ∈ al) (sal : ∀ j ∈ ale, j ∈ al) (sals : ∀ j ∈ als, j ∈ al) (h : PE X e (tLc wi (gName i) (liftT G u1 W0 c) (liftP G u2 W0 ale te) [i])) : PE X e (liftN G (u0 + sizeLine * (u1 + u2)) W al (dLc i als src c te)) :=
  h.imp (imp_lcS sw hal sal sals)
theorem lift_forS (sw : SrcW G u0 W X als src wi) (h : PS X st (tFor wi (gName i) (liftS G u1 W body))) : PS X st (liftS G (u0 + turnsMost * u1) W (sFor i als src body)) := h.imp fun E σ H ⟨T, m, Z, env, DE, ⟨hm, ht⟩, R, q, F⟩ => by
  refine sw σ H _ T (T + u0) Z env _ _ ⟨Nat.le_refl _, by omega⟩ R q (xw_of R (F.le (by omega))) fun J xs ds S H1 g stv hd hS ⟨hl, p⟩ => ?_
  obtain ⟨R1, K1⟩ := R.grow g.to g.ok
  obtain ⟨R2, K2⟩ := R1.dis als
  have K12 := K1.trans K2
  have eu : ds.length * u1 ≤ turnsMost * u1 := Nat.mul_le_mul_right _ hl
  exact for_core (X := X) (m := m) stv R2 (fun n σ' H' env' o2 K' => hS n H' o2 fun b o e => hid_sub _ _ (K'.sub R2 _ _ (vw_dis als _ _ e))) (hd.sub (vw_dis als)) p (by omega) ht (F.on K12)
end

/-! ### the resource: a dict of ints and lists of ints -/
structure ResOk (G : Ctx) (ik lk sk tk : List Str) : Prop where
  fa : G.F (G.ha 0)
  get : ∀ T H, G.ok T H → ∃ kvs : List (Key × V), H (G.ha 0) = some (.dK kvs) ∧ kvs.length < sizeLine ∧ (∀ x ∈ ik, ∃ n, valV kvs (.inr x : Key) = some (.int n)) ∧
    (∀ x ∈ lk, ∃ (b : Addr) (ns : List Int), valV kvs (.inr x : Key) = some (.ref b) ∧ G.F b ∧ H b = some (.lst (ns.map V.int))) ∧ (∀ x ∈ sk, ∃ b : Addr, valV kvs (.inr x : Key) = some (.ref b)) ∧ ∀ x ∈ tk, ∃ n : Int, valV kvs (.inr x : Key) = some (.int n) ∧ 0 ≤ n ∧ n ≤ T
  fix : ∀ x ∈ sk, ∃ (ns : List Int), ns.length ≤ turnsMost ∧ ∀ T H kvs b, G.ok T H → H (G.ha 0) = some (.dK kvs) → valV kvs (.inr x : Key) = some (.ref b) → ∀ T2 H2, G.ok T2 H2 → H2 b = some (.lst (ns.map V.int))
  put : ∀ T H kvs x n, G.ok T H → x ∈ ik → H (G.ha 0) = some (.dK kvs) → G.ok T (upd H (G.ha 0) (.dK (putK kvs (.inr x : Key) (.int n))))
  tick : ∀ T H kvs x n, G.ok T H → x ∈ tk → H (G.ha 0) = some (.dK kvs) → valV kvs (.inr x : Key) = some (.int n) → G.ok (T + 1) (upd H (G.ha 0) (.dK (putK kvs (.inr x : Key) (.int (n + 1)))))
  small : G.top < turnTop
  pop : ∀ T H kvs x b n ns, G.ok T H → x ∈ lk → H (G.ha 0) = some (.dK kvs) → valV kvs (.inr x : Key) = some (.ref b) → H b = some (.lst ((n :: ns).map V.int)) → G.ok T (upd H b (.lst (ns.map V.int)))
/-- an own class of exceptions -/
structure OwnExc (K : PySem.W.Frag) (mg : Str → Option Value) (x : Str) (C : Addr) : Prop where
  at_ : mg x = some (.ref C)
  keep : PySem.W.keepIn K (.ref C) = true
  sub : PySem.W.subIn K (.ref C) (.type "BaseException") = some true
  typ : PySem.W.typeIn K (.ref C) = some (.type "type")
  is : ExcC K C
/-- .. without an __init__ of its own -/
def NoInit (K : PySem.W.Frag) (C : Addr) : Prop := PySem.W.excIn K C He.veBase "ValueError.__new__" = true
/-- further facts: exceptions with one field, ValueError -/
structure More (K : PySem.W.Frag) (mg : Str → Option Value) (G : Ctx) (exi : List (Str × Str)) (exc : List Str) (ve : Bool) : Prop where
  exi : ∀ x f, exi.lookup x = some f → x ∈ exc ∧ ∃ fI q, PySem.XI.InitTxt K (G.ca x) fI q f
  ve : ve = true → mg "ValueError" = none ∧ ∀ x ∈ exc, PySem.W.kitOne K (.ref (G.ca x)) (.type "ValueError") = some true
theorem more_no {K : PySem.W.Frag} {mg : Str → Option Value} {G : Ctx} {exc : List Str} : More K mg G [] exc false := ⟨fun _ _ h => (by cases h), fun h => (by cases h)⟩
/-! ### where an expression stands -/
structure Cg (G : Ctx) (Γ : Gam) (k : Nat) (N : List Str) (sc : Scope) (X : Cx) : Prop where
  hK : G.K = X.K
  hP : G.P = X.prog
  hw : G.w = X.w
  hmg : G.mg = X.mg
  hN : X.N = N
  hsc : X.env.scope = sc
  nd : N.Nodup
  gd : X.A.guards = some []
  room : Room k X.A
  roomL : hasCell sc = true → Room (k + 2) X.A
  calm : X.calm = true
  con : ∀ x d, Γ.con x = some d → ∃ u v, X.mg x = some u ∧ L2.RelV v u ∧ ∀ H, Den G H v d
  fn : ∀ x ps sp, Γ.fn x = some (ps, sp) → ∃ f fd, X.mg x = some (.ref f) ∧ PySem.W.keepIn X.K (.ref f) = true ∧ Binds X.K fd ps [] ∧ FnG X.prog X.w X.K X.mg X.base k f fd ps (liftSp G (Γ.cost x) ps.length sp) ∧
    ∀ ks, (x, ks) ∈ Γ.kws → ∀ (s : Shared) (us : List Value), X.K.In s.heap → us.length = ks.length → BindsTo s fd ⟨[], ks.zip us⟩ (ps.zip (ps.map fun p => ((ks.zip us).lookup p).getD .none)) ∧ ∀ p ∈ ps, p ∈ ks
  free : ∀ x ∈ frNames, X.mg x = none
  exc : ∀ x ∈ Γ.exc, OwnExc X.K X.mg x (G.ca x)
  exs : ∀ x ∈ Γ.exc, ∀ y ∈ Γ.exc, PySem.W.kitOne X.K (.ref (G.ca x)) (.ref (G.ca y)) = some (Γ.sub x y) ∧ PySem.W.exmOne X.K (.ref (G.ca x)) (.ref (G.ca y)) = some (Γ.sub x y)
  exn : ∀ x ∈ Γ.exn, x ∈ Γ.exc ∧ NoInit X.K (G.ca x)
  fnv : ∀ x sp, Γ.fnv x = some sp → ∃ f, X.mg x = some (.ref f) ∧ PySem.W.keepIn X.K (.ref f) = true ∧ FnV X.prog X.w X.K X.mg X.base k f (liftSpV G (Γ.cost x) sp)
  lam : hasCell sc = true → ∀ f sp, Γ.tfn f = some sp → LamF X.prog X.w X.K X.mg X.base G k (Γ.cost f) X.env.code (lamQ X) f sp
  res : (∀ key, ¬ (key ∈ Γ.ik ∨ key ∈ Γ.lk ∨ key ∈ Γ.sk ∨ key ∈ Γ.tk)) ∨ ResOk G Γ.ik Γ.lk Γ.sk Γ.tk
  more : More X.K X.mg G Γ.exi Γ.exc Γ.ve

section
variable {G : Ctx} {Γ : Gam} {k : Nat} {N : List Str} {sc : Scope} {X : Cx} {W : WX}
theorem Cg.rs (C : Cg G Γ k N sc X) {key : Str} (h : key ∈ Γ.ik ∨ key ∈ Γ.lk ∨ key ∈ Γ.sk ∨ key ∈ Γ.tk) : ResOk G Γ.ik Γ.lk Γ.sk Γ.tk := C.res.elim (fun n => absurd h (n key)) id
theorem glB_ok (C : Cg G Γ k N sc X) {x : Str} (h : glB sc x = true) : Gl X x ∧ (x == ("__debug__" : Str)) = false ∧ x ≠ "__name__" := by
  unfold glB at h
  simp only [Bool.and_eq_true, Bool.not_eq_true'] at h
  obtain ⟨⟨h1, h2⟩, h3⟩ := h
  refine ⟨?_, h2, fun e => by subst e; simp at h3⟩
  show X.env.scope.names.lookup x = some .globalImplicit
  rw [C.hsc]
  split at h1
  · assumption
  · cases h1
theorem visB_ok (C : Cg G Γ k N sc X) {x : Str} (h : visB sc x = true) : Vis X.env.scope x := by
  unfold visB at h
  unfold Vis
  rw [C.hsc]
  split at h
  · exact .inl (by assumption)
  · exact .inr (.inl (by assumption))
  · exact .inr (.inr (by assumption))
  · cases h
theorem isSt_ok {e : Expr} (h : isSt e = false) : ∀ v p, e ≠ .Starred v p := fun v p z => by
  subst z
  cases h
theorem hasCell_rel {scope sc : Scope} (hc : hasCell scope = true → hasCell sc = true) (h : hasCell (relS scope sc) = true) : hasCell sc = true := by
  unfold hasCell at h
  obtain ⟨y, hy, e⟩ := List.any_eq_true.mp h
  have e : y.2 = .cell := of_decide_eq_true e
  unfold relS at hy
  obtain ⟨⟨n, kd⟩, hz, ez⟩ := List.mem_map.mp hy
  dsimp only at ez
  split at ez
  · rename_i q
    simp only [Bool.and_eq_true, beq_iff_eq] at q
    exact List.any_eq_true.mpr ⟨(n, .cell), PySem.mem_of_lookup q.2, decide_eq_true rfl⟩
  · refine hc (List.any_eq_true.mpr ⟨(n, kd), hz, ?_⟩)
    rw [← ez] at e
    exact decide_eq_true e
/-- a block's place -/
theorem Cg.blk (C : Cg G Γ k N sc X) {scope : Scope} (hc : hasCell scope = true → hasCell sc = true) (s : Shared) (H : Hp) (A : Addr) (cl : List (Str × Addr)) (fp : List Addr) : Cg G Γ k N (relS scope sc) (X.blk s H scope (compEnvC scope cl A X.env) fp) :=
  ⟨C.hK, C.hP, C.hw, C.hmg, C.hN, by rw [← C.hsc]; rfl, C.nd, C.gd, C.room, fun h => C.roomL (hasCell_rel hc h), C.calm, C.con, C.fn, C.free, C.exc, C.exs, C.exn, C.fnv, fun h => C.lam (hasCell_rel hc h), C.res, C.more⟩
theorem lamS_noCell {sc scope : Scope} (L : LamX.LamS sc scope) : hasCell scope = false := by
  refine Bool.eq_false_iff.mpr fun h => ?_
  obtain ⟨y, hy, e⟩ := List.any_eq_true.mp h
  exact (L.own y hy).2 (of_decide_eq_true e)
/-- a lambda's place -/
theorem Cg.lamc (C : Cg G Γ k N sc X) {A : Around} {outer : List Env} {s : Shared} {H : Hp} {E : XK} {scope : Scope} {f c' : Addr} (gd : A.guards = some []) (room : Room k (A.deeper (LamX.lamEnv X scope s.heap.objs.size f c'))) (L : LamX.LamS sc scope) :
    Cg G Γ k N scope (LamX.lamCx X A outer s H E scope f c') :=
  ⟨C.hK, C.hP, C.hw, C.hmg, C.hN, rfl, C.nd, gd, room, fun h => (by rw [lamS_noCell L] at h; cases h), rfl, C.con, C.fn, C.free, C.exc, C.exs, C.exn, C.fnv, fun h => (by rw [lamS_noCell L] at h; cases h), C.res, C.more⟩
theorem bltV : ∀ b : Blt, Str.ofString (bltN b) ∈ frNames := by intro b; cases b <;> decide +kernel

theorem bop_ok (C : Cg G Γ k N sc X) (o : Bop) : ∃ r, OpR X (binaryOp (bopO o)) r ∧ Op2 G r (bopF o) := by
  cases o with
  | add => exact ⟨_, op_addX, o_add C.hK⟩
  | sub => exact ⟨_, op_sub, o_int0 fun _ _ _ => .int _⟩
  | mul => exact ⟨_, op_mulT, o_mul C.hK⟩
  | fdiv => exact ⟨_, op_fdivW, o_int fun _ _ _ => .int _⟩
  | mod => exact ⟨_, op_mod, o_int fun _ _ _ => .int _⟩
  | pow => exact ⟨_, op_powW, o_int fun _ _ _ => .int _⟩
theorem cop_ok (C : Cg G Γ k N sc X) (o : Cop) : ∃ r, OpR X (compareOp (copO o)) r ∧ Op2 G r (copF o) := by
  cases o with
  | eq => exact ⟨_, op_eqX C.hK C.room, o_eq⟩
  | ne => exact ⟨_, op_neX C.hK C.room, o_ne⟩
  | lt => exact ⟨_, op_ltX, o_lt⟩
  | le => exact ⟨_, op_leX, o_le⟩
  | gt => exact ⟨_, op_gt, o_gt⟩
  | ge => exact ⟨_, op_ge, o_ge⟩
theorem in_ok (C : Cg G Γ k N sc X) (neg : Bool) : OpR X (compareOp (if neg = true then CmpOp.NotIn else CmpOp.In)) (rInX G neg) := by
  cases neg with
  | true => exact op_notInX C.hK C.hP C.hw C.room
  | false => exact op_inX C.hK C.hP C.hw C.room
theorem in_flat (neg : Bool) (x y : D) (P : D → Prop) (h : fInN neg x y P) : fInN neg x y (fun d => flat d = true ∧ P d) := by
  unfold fInN at h ⊢
  split at h
  · exact ⟨h.1, h.2.1, rfl, h.2.2⟩
  · exact ⟨h.1, h.2.1, rfl, h.2.2⟩
  · exact ⟨h.1, rfl, h.2⟩
  · exact ⟨h.1, rfl, h.2⟩
  · exact h.elim
theorem cop_mark (o : Cop) (b : Expr) : behindInMarks (copO o) b = false := by cases o <;> exact nomark _
theorem cop_flat (o : Cop) (x y : D) (P : D → Prop) (h : copF o x y P) : copF o x y (fun d => flat d = true ∧ P d) := by
  cases o <;> simp only [copF] at h ⊢
  · exact ⟨h.1, rfl, h.2⟩
  · exact ⟨h.1, h.2.1, rfl, h.2.2⟩
  all_goals (first | unfold fLt at h ⊢ | unfold fLe at h ⊢ | unfold fGt at h ⊢ | unfold fGe at h ⊢); split at h <;> first | exact ⟨rfl, h⟩ | exact h.elim
end
end DL

/-! DLQ: sorted(set(xs)), sorted({..}) by values. -/
namespace DL
open PySem PySem.Spec PyProof.Rows L2
theorem ints_back : ∀ {ns : List Int} {us : List Value}, Vals (ns.map V.int) us → IntsAre us ns
  | [], _, r => by
    rw [List.map_nil] at r
    cases r
    exact .nil
  | n :: ns, _, r => by
    rw [List.map_cons] at r
    cases r with
    | cons h t =>
      obtain ⟨tk, rfl⟩ := h
      exact .cons n tk (ints_back t)
def rSetOfL (K : PySem.W.Frag) (w : World) : List V → Hp → VK → Prop := fun vs H Q => ∃ (l : Addr) (ns : List Int), vs = [.ref l] ∧ SqL K H l (ns.map V.int) ∧ ns.length < 64 ∧ ∀ p c, H p = none → c ≤ ns.length → Q (.ref p) (upd H p (SetO w p (among ns) c))
theorem cr_setL {X : Cx} (calm : X.calm = true) : CallR X (.type "set") (rSetOfL X.K X.w) := by
  intro pins s σ H vs us Q I r ⟨l, ns, ev, hl, few, q⟩
  subst ev
  rw [Vals.ref1 r]
  obtain ⟨its, rv, pl, hz⟩ := I.list hl
  refine call_set_listI (items := its.toArray) ns (I.ok.hd calm) pl.isList (by simpa using ints_back rv) (Nat.lt_of_lt_of_le (show ns.length + 1 < 65 by omega) (by decide)) fun h' tk c set3 le keep => ?_
  have free := I.hok.fresh (Nat.le_refl s.heap.objs.size)
  exact ⟨.ref s.heap.objs.size, _, I.laid (t' := tk) keep (Nat.le_refl _) (setO_new set3), rfl, q _ c free le⟩
section
variable {G : Ctx} {W : WX} {X : Cx} {e : Expr} {t te : TP} {al ale als : List Nat} {i : Nat} {c : TPT} {u0 u1 u2 : Nat} {src : TPL} {wi : TI}
theorem intsD_den {H : Hp} : ∀ {xs : List D} {vs : List V} {ks : List Int}, intsD xs = some ks → DenL G H vs xs → vs = ks.map V.int
  | [], _, _, e, .nil => by cases e; rfl
  | x :: r, _, ks, e, .cons h t => by
    cases x with
    | int k =>
      have e : (intsD r).map (k :: ·) = some ks := e
      cases q : intsD r with
      | none => rw [q] at e; cases e
      | some m =>
        rw [q] at e
        cases e
        rw [intsD_den q t, den_int h]
        rfl
    | _ => cases e
/-- the sorted list of a set that stands in the heap -/
theorem srt_end {m : Nat} {Z : Addr → Prop} {σ : SS} {H0 H1 : Hp} {env : DEnv} {Q : VK} {P : D → Prop} {w : World} {p : Addr} {ks : List Int} {n : Nat} (g : Grow G m H0 H1) (at_p : H1 p = some (SetO w p (among ks) n)) (few : n < 64) (sp : srtP ks P)
    (k : ∀ p o d H', Grow G m H0 H' → H' p = none → RootO G (Vw H' σ env al Z) p o d → P d → Q (.ref p) (upd H' p o)) : rSortedSet w [.ref p] H1 Q :=
  ⟨p, among ks, n, rfl, at_p, few, fun ns r srt mem _ hr => k r _ (.lst (ns.map D.int)) H1 g hr ⟨_, rfl, denL_ints ns⟩ (sp.2 ns srt fun j => (mem j).trans (by unfold among; exact decide_eq_true_iff))⟩
theorem lift_srtL {ala : List Nat} (hK : G.K = X.K) (h : PE X e (tCB (rSortedSet X.w) (tCons (tCB (rSetOfL X.K X.w) (tCons (liftP G u0 W ala t) tNil)) tNil))) : PE X e (liftN G u0 W al (dSrtL t)) := h.imp fun σ H Q ⟨T, m, Z, env, P, EP, hm, R, q, k, x⟩ => by
  refine ⟨T, m, Z, env, _, EP, hm, R, q, fun v d H1 g hv q1 => ?_, x⟩
  split at q1
  · obtain ⟨ks, ek, sp⟩ := q1
    obtain ⟨a, vs, rfl, ha, hd⟩ := den_lst hv
    have ev := intsD_den ek hd
    subst ev
    have R1 := R.growG g
    refine ⟨a, ks, rfl, SqL.of (hid_sub _ _ ha), sp.1, fun p n hp le => ?_⟩
    exact srt_end (al := al) (Z := Z) (σ := σ) (env := env) (g.trans (R1.new (o := SetO X.w p (among ks) n) hp set_nt)) upd_same (Nat.lt_of_le_of_lt le sp.1) sp k
  · exact q1.elim
theorem lift_srtC (sw : SrcW G u0 W X als src wi) (h : PE X e (tCB (rSortedSet X.w) (tCons (tSetC (intSets X) wi (gName i) (liftT G u1 W0 c) (liftP G u2 W0 ale te) [i]) tNil))) : PE X e (liftN G (u0 + sizeLine * (u1 + u2)) W al (dSrtC i als src c te)) := h.imp fun σ H Q ⟨T, m, Z, env, P, EP, ⟨hm, ht⟩, R, q, k, x⟩ => by
  refine sw σ H _ T (T + u0) Z env _ EP ⟨Nat.le_refl _, by omega⟩ R q (x.le (by omega)) fun J xs ds S H1 g st hd hS ⟨hz, p⟩ D hD => ?_
  have R1 := R.growG g
  obtain ⟨R2, K2⟩ := R1.dis als
  have big : 64 ≤ sizeLine := by decide
  have eu : ds.length * (u1 + u2) ≤ sizeLine * (u1 + u2) := Nat.mul_le_mul_right _ (Nat.le_trans (Nat.le_of_lt hz) big)
  refine sc_main (c := c) (te := te) (ale := ale) (Q := fun v H1 => rSortedSet X.w [v] H1 Q) (u1 := u1) (u2 := u2) (M := m) (w := X.w) st R2 (by omega) ht ?_ (fun n H2 _ o2 hD2 hk => ?_) hz p (fun p ks n H' g' hp at_p le sp => ?_) D hD
  · rw [vw_nil]
    exact hd.sub (vw_dis als)
  · refine hS n H2 o2 fun b o e => ?_
    obtain ⟨out, e⟩ := hid_some.mp e
    exact hk b o (fun f => out (.inr (R.zf b f))) (ne_of_none e hD2) e
  · exact srt_end (al := al) (Z := Z) (σ := σ) (env := env) (g.trans g') at_p (by omega) sp k
end
end DL

/-! D12: the check is sound (expressions): the proof. -/
namespace DL
open PySem PySem.Spec PyProof.Rows L2
section
variable {G : Ctx} {Γ : Gam} {k : Nat} {N : List Str} {sc : Scope} {X : Cx} {W : WX} {e a b c : Expr} {es : List Expr} {pos : Pos} {u0 u1 u2 u3 : Nat}
/-! ### pieces -/
theorem mem_l {α : Type} {xs ys : List α} : ∀ i ∈ xs, i ∈ xs ++ ys := fun _ h => List.mem_append_left _ h
theorem mem_r {α : Type} {xs ys : List α} : ∀ i ∈ ys, i ∈ xs ++ ys := fun _ h => List.mem_append_right _ h
theorem imp_chain {r r' : R2} {f g : F2} {ta tb tc : TP} {ala alb alc : List Nat} (o : Op2 G r f) (o' : Op2 G r' g) (hg : ∀ x y (P : D → Prop), g x y P → g x y (fun d => flat d = true ∧ P d)) :
    ∀ σ H Q, liftP G (u1 + u2 + u3) W [] (dChain f g ta tb tc) σ H Q → tChain r r' (liftP G u1 W ala ta) (liftP G u2 W alb tb) (liftP G u3 W alc tc) σ H Q := fun σ H Q ⟨T, m, Z, env, P, EP, ⟨hm, ht⟩, R, q, kk, x⟩ => by
  refine ⟨T, T + u1, Z, env, _, EP, ⟨Nat.le_refl _, by omega⟩, R, q, fun v d H1 g1 hv q1 => ⟨T + u1, T + u1 + u2, Z, env, _, EP, ⟨by omega, by omega⟩, R.growG g1, q1, fun w d2 H2 g2 hw q2 => ?_, (x.grow g1).le (by omega)⟩, x.le (by omega)⟩
  have g12 := g1.trans g2
  have R2 := R.growG g12
  refine o _ Z σ env (ala ++ alb) H2 v w d d2 _ _ R2 (hv.sub (vw_sub (R.growG g1) g2 mem_l)) (hw.sub (vw_mono mem_r)) q2 fun u d3 H3 g3 hu ⟨kb, ek, p3⟩ => ?_
  subst ek
  cases hu
  refine ⟨kb, rfl, ?_⟩
  have g13 := g12.trans g3
  have R3 := R.growG g13
  cases kb with
  | false => exact iteF (kk _ _ H3 (g13.le (by omega)) (.bl _) (by simpa using p3))
  | true =>
    refine iteT ⟨T + u1 + u2, m, Z, env, _, EP, ⟨by omega, by omega⟩, R3, (by simpa using p3), fun z d4 H4 g4 hz q4 => ?_, (x.grow g1).grow (g2.trans g3)⟩
    have g14 := g13.trans g4
    refine o' _ Z σ env (alb ++ alc) H4 w z d2 d4 _ _ (R.growG g14) (hw.sub (vw_sub R2 (g3.trans g4) mem_l)) (hz.sub (vw_mono mem_r)) (hg _ _ _ q4) fun u d5 H5 g5 hu5 ⟨f5, p5⟩ => ?_
    exact kk _ _ H5 (g14.trans g5) (Den.unshare (R.growG (g14.trans g5)) f5 hu5) p5
theorem lift_chain {r r' : R2} {f g : F2} {ta tb tc : TP} {ala alb alc : List Nat} (o : Op2 G r f) (o' : Op2 G r' g) (h : PE X e (tChain r r' (liftP G u1 W ala ta) (liftP G u2 W alb tb) (liftP G u3 W alc tc)))
    (hf : ∀ x y (P : D → Prop), f x y P → f x y (fun d => flat d = true ∧ P d)) (hg : ∀ x y (P : D → Prop), g x y P → g x y (fun d => flat d = true ∧ P d)) : PE X e (liftP G (u1 + u2 + u3) W [] (dChain f g ta tb tc)) := h.imp (imp_chain o o' hg)
theorem imp_opF {r : R2} {f : F2} {ta tb : TP} {ala alb : List Nat} (o : Op2 G r f) (hf : ∀ x y (P : D → Prop), f x y P → f x y (fun d => flat d = true ∧ P d)) :
    ∀ σ H Q, liftP G (u1 + u2) W [] (dOp f ta tb) σ H Q → tOp r (liftP G u1 W ala ta) (liftP G u2 W alb tb) σ H Q := fun σ H Q ⟨T, m, Z, env, P, EP, ⟨hm, ht⟩, R, q, kk, x⟩ =>
  ⟨T, T + u1, Z, env, _, EP, ⟨Nat.le_refl _, by omega⟩, R, q, fun v d H1 g1 hv q1 => ⟨T + u1, m, Z, env, _, EP, ⟨by omega, by omega⟩, R.growG g1, q1, fun w d2 H2 g2 hw q2 =>
    o _ Z σ env (ala ++ alb) H2 v w d d2 _ Q (R.growG (g1.trans g2)) (hv.sub (vw_sub (R.growG g1) g2 mem_l)) (hw.sub (vw_mono mem_r)) (hf _ _ _ q2) fun u d3 H3 g3 hu ⟨f3, p⟩ =>
      kk u d3 H3 ((g1.trans g2).trans g3) (Den.unshare (R.growG ((g1.trans g2).trans g3)) f3 hu) p, x.grow g1⟩, x.le (by omega)⟩
theorem lift_opF {r : R2} {f : F2} {ta tb : TP} {ala alb : List Nat} (o : Op2 G r f) (hf : ∀ x y (P : D → Prop), f x y P → f x y (fun d => flat d = true ∧ P d)) (h : PE X e (tOp r (liftP G u1 W ala ta) (liftP G u2 W alb tb))) :
    PE X e (liftP G (u1 + u2) W [] (dOp f ta tb)) := h.imp (imp_opF o hf)
theorem o_isN : Op1f G (fun x H Q => Q (.bl (decide (x = .non))) H) (fun d P => P (.bl (isNo d))) := by
  intro T Z σ env al H v x P Q R h hf kk
  have e : decide (v = V.non) = isNo x := by cases h <;> simp [isNo]
  rw [e]
  exact kk _ _ (fun H' => .bl _) hf
theorem o_notN : Op1f G (fun x H Q => Q (.bl (!decide (x = .non))) H) (fun d P => P (.bl (!isNo d))) := by
  intro T Z σ env al H v x P Q R h hf kk
  have e : (!decide (v = V.non)) = !isNo x := by cases h <;> simp [isNo]
  rw [e]
  exact kk _ _ (fun H' => .bl _) hf
theorem cond_none (h : PTs X [] tYes) : PTs X [] (liftT G 0 W fun _ P _ => P true) := ⟨fun pins s σ H Q I ⟨T, m, Z, env, P, EP, ⟨hm, ht⟩, R, q, kk, x⟩ => h.run pins s σ H Q I (kk true H (R.self.le hm) q)⟩
/-! ### calls by keywords -/
theorem kw_names : ∀ (ks : List Str) (ms : Ms) (kws : List Keyword), chK N sc ks ms kws = true → (backToKw pos (keywordEach kws X.env)).all (·.1.isSome) = true ∧ (backToKw pos (keywordEach kws X.env)).filterMap (·.1) = ks ∧ (backToKw pos (keywordEach kws X.env)).any (·.1.isNone) = false
  | [], .nil, [], _ => ⟨rfl, rfl, rfl⟩
  | q :: ks, .cons m r, ⟨some q', x, p⟩ :: kws, h => by
    simp only [chK, Bool.and_eq_true, decide_eq_true_eq] at h
    obtain ⟨⟨h1, _⟩, h3⟩ := h
    obtain ⟨i1, i2, i3⟩ := kw_names ks r kws h3
    subst h1
    exact ⟨by show (true && _) = true; exact i1, by show q :: _ = q :: ks; exact congrArg (q :: ·) i2, by show (false || _) = false; exact i3⟩
  | [], .nil, _ :: _, h => by simp [chK] at h
  | [], .cons _ _, _, h => by simp [chK] at h
  | _ :: _, .nil, _, h => by simp [chK] at h
  | _ :: _, .cons _ _, [], h => by simp [chK] at h
  | _ :: _, .cons _ _, ⟨none, _, _⟩ :: _, h => by simp [chK] at h
theorem lookup_zip {α : Type} : ∀ {ks : List Str} {xs : List α} {p : Str}, ks.length = xs.length → p ∈ ks → ∃ x, (ks.zip xs).lookup p = some x
  | q :: ks, x :: xs, p, hl, hp => by
    rw [List.zip_cons_cons, List.lookup_cons]
    cases h : p == q with
    | true => exact ⟨x, rfl⟩
    | false =>
      rcases List.mem_cons.mp hp with e | e
      · subst e
        simp at h
      · exact lookup_zip (by simpa using hl) e
theorem denL_look {G : Ctx} {H : Hp} : ∀ {ks : List Str} {vs : List V} {ds : List D} {p : Str} {v : V}, DenL G H vs ds → (ks.zip vs).lookup p = some v → ∃ d, (ks.zip ds).lookup p = some d ∧ Den G H v d
  | [], _, _, _, _, _, e => by simp at e
  | _ :: _, _, _, _, _, .nil, e => by simp at e
  | q :: ks, _, _, p, v, .cons (v := v0) (d := d0) h r, e => by
    rw [List.zip_cons_cons, List.lookup_cons] at e ⊢
    cases hq : p == q with
    | true =>
      rw [hq] at e
      cases e
      exact ⟨_, rfl, h⟩
    | false =>
      rw [hq] at e
      exact denL_look r e
theorem vals_look : ∀ {ks : List Str} {vs : List V} {us : List Value} {p : Str} {v : V}, Vals vs us → (ks.zip vs).lookup p = some v → ∃ u, (ks.zip us).lookup p = some u ∧ L2.RelV v u
  | [], _, _, _, _, _, e => by simp at e
  | _ :: _, _, _, _, _, .nil, e => by simp at e
  | q :: ks, _, _, p, v, .cons h r, e => by
    rw [List.zip_cons_cons, List.lookup_cons] at e ⊢
    cases hq : p == q with
    | true =>
      rw [hq] at e
      cases e
      exact ⟨_, rfl, h⟩
    | false =>
      rw [hq] at e
      exact vals_look r e
def pickV (ps ks : List Str) (vs : List V) : List V := ps.map fun p => ((ks.zip vs).lookup p).getD .non
theorem pick_den {G : Ctx} {H : Hp} {ks : List Str} {vs : List V} {ds : List D} (h : DenL G H vs ds) (hl : ks.length = vs.length) : ∀ {ps : List Str}, (∀ p ∈ ps, p ∈ ks) → DenL G H (pickV ps ks vs) (pick ps ks ds)
  | [], _ => .nil
  | p :: ps, hp => by
    obtain ⟨v, ev⟩ := lookup_zip hl (hp p List.mem_cons_self)
    obtain ⟨d, ed, hd⟩ := denL_look h ev
    have r := pick_den h hl (ps := ps) fun q hq => hp q (List.mem_cons_of_mem _ hq)
    unfold pickV pick at r ⊢
    rw [List.map_cons, List.map_cons, ev, ed]
    exact .cons hd r
theorem pick_vals {ks : List Str} {vs : List V} {us : List Value} (h : Vals vs us) (hl : ks.length = vs.length) : ∀ {ps : List Str}, (∀ p ∈ ps, p ∈ ks) → Vals (pickV ps ks vs) (ps.map fun p => ((ks.zip us).lookup p).getD .none)
  | [], _ => .nil
  | p :: ps, hp => by
    obtain ⟨v, ev⟩ := lookup_zip hl (hp p List.mem_cons_self)
    obtain ⟨u, eu, hu⟩ := vals_look h ev
    have r := pick_vals h hl (ps := ps) fun q hq => hp q (List.mem_cons_of_mem _ hq)
    unfold pickV at r ⊢
    rw [List.map_cons, List.map_cons, ev, eu]
    exact .cons hu r
theorem pe_kw (C : Cg G Γ k N sc X) (tk : Takes X W) {f : Str} {ps ks : List Str} {sp : FSp} {kws : List Keyword} {al : List Nat} {u : TPL} {p : Pos} (hf : Γ.fn f = some (ps, sp)) (hgl : glB sc f = true) (hk : PK X kws (liftA G u1 W al u))
    (hn : (backToKw pos (keywordEach kws X.env)).all (·.1.isSome) = true ∧ (backToKw pos (keywordEach kws X.env)).filterMap (·.1) = ks ∧ (backToKw pos (keywordEach kws X.env)).any (·.1.isNone) = false) :
    PE X (.Call (.Name f p) [] kws pos) (liftP G (u1 + Γ.cost f) W al fun env P EP => u env (fun ds => (f, ks) ∈ Γ.kws ∧ ds.length = ks.length ∧ sp (pick ps ks ds) P EP) EP) := by
  obtain ⟨g1, g2, _⟩ := glB_ok C hgl
  obtain ⟨fa, fd, m1, m2, _, F, kb⟩ := C.fn f ps sp hf
  refine ⟨fun pins s σ H Q I ⟨T, m, Z, env, P, EP, ⟨hm, ht⟩, R, q, kk, x⟩ => wpAny_Call_Name_kw (ld_glob I g1 m1 ?_ g2)⟩
  refine PySem.W.callWith_KW0 (h₀ := X.base) I.ok.mod.kin m2 hn.1 (thn (hk.run pos pins s σ H (fun vs H1 => liftSp G (Γ.cost f) ps.length sp (pickV ps ks vs) H1 Q (WE W σ) ∧ vs.length = ks.length ∧ (f, ks) ∈ Γ.kws) I ⟨T, T + u1, Z, env, _, EP, ⟨Nat.le_refl _, by omega⟩, R, q, fun vs ds H1 gr hv ⟨hkm, hl, q1⟩ => ?_, x.le (by omega)⟩) fun ws s2 z => ?_)
    (by show (false || _) = false; exact hn.2.2)
  · have R1 := R.growG gr
    have hl' : ks.length = vs.length := by rw [hv.length, hl]
    have hps := (kb ks hkm s (vs.map fun _ => .none) I.kIn (by rw [List.length_map, hl'])).2
    refine ⟨⟨T + u1, m, Hx σ env al Z, pick ps ks ds, P, EP, ⟨by omega, by omega⟩, R.zok, fun a z => z.elim (fun o => own_some R1 o.own) (R1.zd a), R1.ok, pick_den hv hl' hps, by unfold pick; rw [List.length_map], q1, fun v d H2 g2 hd p => kk v d H2 (gr.trans g2) hd p, fun y cls dd H2 g2 hx p => ?_⟩, hl'.symm, hkm⟩
    exact x y cls dd H2 (gr.trans g2) (hx.sub vw_base) p
  · obtain ⟨zs, H2, I2, rz, q2, hl, hm⟩ := z
    refine ⟨I2.kIn, ?_⟩
    rw [hn.2.1]
    have hl' : ks.length = zs.length := hl.symm
    obtain ⟨b1, b2⟩ := kb ks hm s2 ws I2.kIn (by rw [← rz.length, hl])
    refine wpAny_call (codeAny_mono (F.run X.A X.stack s2 H2 _ _ (pickV ps ks zs) Q (WE W σ) C.gd C.room I2.env0 b1 (pick_vals rz hl' b2) q2) fun r s' q => ?_)
    have z := g_end tk I2 q
    cases r with
    | error e => exact z
    | ok fl => cases fl <;> first | exact z | exact z.elim
/-! ### the resource -/
theorem dVar_get {i : Nat} {env : DEnv} {P : D → Prop} (EP : XD → Prop) (h : dVar i env P EP) : ∃ b d, env[i]? = some (some (b, d)) ∧ P d := by
  unfold dVar at h
  split at h
  · rename_i b d e
    exact ⟨b, d, e, h⟩
  · exact h.elim
theorem hnd_at {T : Nat} {Z : Addr → Prop} {σ : SS} {H : Hp} {env : DEnv} {i : Nat} {b : Bool} (R : ER G T Z σ H env) (e : env[i]? = some (some (b, D.hnd 0))) : σ[i]? = some (some (.ref (G.ha 0))) := by
  obtain ⟨v, h1, h2⟩ := R.get e
  cases h2
  exact h1
abbrev tGetS (i : Nat) (key : Str) : TE := tDGet (tVar i) (tC (.str key))
theorem varB_ok (C : Cg G Γ k N sc X) {i : Nat} {e : Expr} (h : varB N sc i e = true) : PE X e (tVar i) := by
  cases e with
  | Name x p =>
    simp only [varB, Bool.and_eq_true, decide_eq_true_eq, Bool.not_eq_true'] at h
    obtain ⟨⟨⟨h1, h2⟩, h3⟩, h4⟩ := h
    exact pe_var (by rw [C.hN]; exact h1) (visB_ok C h2) h3 h4
  | _ => cases h
theorem rsB_ok (C : Cg G Γ k N sc X) {i : Nat} {key : Str} {e : Expr} (h : rsB N sc i key e = true) : PE X e (tGetS i key) := by
  cases e with
  | Subscript o y p =>
    cases y with
    | Constant c j p2 =>
      cases c with
      | str z =>
        simp only [rsB, Bool.and_eq_true, decide_eq_true_eq] at h
        obtain ⟨h1, h2⟩ := h
        subst h2
        exact pe_dget (by have := C.room.un; unfold cLine at this ⊢; omega) (varB_ok C h1) pe_str (fun _ _ => rfl)
      | _ => cases h
    | _ => cases h
  | _ => cases h
abbrev tNe (G : Ctx) (i : Nat) (key : Str) : TT := tTest (tOp (rNeX G) (tGetS i key) (tLst tNil))
theorem neB_ok (C : Cg G Γ k N sc X) {i : Nat} {key : Str} {e : Expr} (h : neB N sc i key e = true) : PT X e (tNe G i key) := by
  unfold neB at h
  split at h
  · exact pt_cmpR (op_neX C.hK C.room) (rsB_ok C h) (pe_lst pa_nil) rfl
  · cases h
abbrev tPop (K : PySem.W.Frag) (i : Nat) (key : Str) : TE := tBM K "list" rPopAt (tGetS i key) (tCons (tC (.int 0)) tNil)
theorem popB_ok (C : Cg G Γ k N sc X) {i : Nat} {key : Str} {e : Expr} (h : popB N sc i key e = true) : PE X e (tPop X.K i key) := by
  cases e with
  | Call f xs kws q =>
    cases f with
    | Attribute o x p =>
      unfold popB at h
      split at h
      · rename_i hq
        cases hq
        simp only [Bool.and_eq_true, decide_eq_true_eq] at h
        obtain ⟨⟨⟨h1, h2⟩, h3⟩, h4⟩ := h
        subst h2 h3
        have hb : attributeBase o "pop" X.env (eval o X.env) = eval o X.env := by
          cases o <;> first
            | rfl
            | cases h1
        exact pe_bm PySem.F.plainAttrs_list PySem.F.slot_list_pop PySem.F.type_list_pop mt_popAt (rsB_ok C h1) (pa_cons pe_int pa_nil) hb rfl h4
      · cases h
    | _ => cases h
  | _ => cases h
theorem dat_ints : ∀ (n : Nat) (ns : List Int), (ns.map D.int).all (dat n) = true
  | n, [] => rfl
  | n, i :: r => by
    rw [List.map_cons, List.all_cons, dat_ints n r]
    cases n <;> rfl
theorem ne_core {ik lk sk tk : List Str} (S : ResOk G ik lk sk tk) {T : Nat} {σ : SS} {H : Hp} {i : Nat} {key : Str} {Q : Bool → Hp → Prop} (ok : G.ok T H) (hσ : σ[i]? = some (some (.ref (G.ha 0)))) (hk : key ∈ lk)
    (ht : ∀ H1 kvs b n ns, Grow G T H H1 → H1 (G.ha 0) = some (.dK kvs) → valV kvs (.inr key : Key) = some (.ref b) → G.F b → H1 b = some (.lst ((n :: ns).map V.int)) → Q true H1) (hf : ∀ H1, Grow G T H H1 → Q false H1) : tNe G i key σ H Q := by
  obtain ⟨kvs, e1, _, _, e2, _⟩ := S.get T H ok
  obtain ⟨b, ns, e3, fb, e4⟩ := e2 key hk
  refine ⟨_, hσ, _, _, rfl, (e3 ▸ DGet.k (k := (.inr key : Key)) e1), Nat.zero_le _, fun p hp => ?_⟩
  have n1 : G.ha 0 ≠ p := ne_of_none e1 hp
  have n2 : b ≠ p := ne_of_none e4 hp
  have g : Grow G T H (upd H p (.lst [])) := by
    refine ⟨fun c u _ h => ?_, G.ok_ext _ H _ ok (fun c f => upd_ne fun z => ?_) (upd_fix hp) (upd_tb fun _ z => nomatch z)⟩
    · rw [upd_ne (ne_of_none h hp)]
      exact h
    · subst z
      exact G.ok_dom _ H c ok f hp
  have b1 : upd H p (.lst []) b = some (.lst (ns.map V.int)) := (upd_ne n2).trans e4
  refine ⟨.lst (ns.map D.int), .lst [], rfl, rfl, .lst b1 (denL_ints ns), .lst upd_same .nil, _, rfl, ?_⟩
  cases ns with
  | nil => exact hf _ g
  | cons n ns => exact ht _ kvs b n ns g ((upd_ne n1).trans e1) e3 fb b1
theorem pop_core {ik lk sk tk : List Str} (S : ResOk G ik lk sk tk) {T : Nat} {σ : SS} {H : Hp} {i : Nat} {key : Str} {Q : VK} {kvs : List (Key × V)} {b : Addr} {n : Int} {ns : List Int} (ok : G.ok T H) (hσ : σ[i]? = some (some (.ref (G.ha 0)))) (hk : key ∈ lk)
    (e1 : H (G.ha 0) = some (.dK kvs)) (e3 : valV kvs (.inr key : Key) = some (.ref b)) (fb : G.F b) (e4 : H b = some (.lst ((n :: ns).map V.int)))
    (q : ∀ H1, Grow G T H H1 → Q (.int n) H1) : tPop G.K i key σ H Q := by
  have ty : tyV G.K "list" (V.ref b) H := Or.inl ⟨rfl, _, SqL.of e4⟩
  refine ⟨_, hσ, _, V.ref b, rfl, (e3 ▸ DGet.k (k := (.inr key : Key)) e1), ty, b, _, 0, 0, .int n, rfl, rfl, e4, by omega, by omega, ?_, rfl, q _ ⟨fun c u nf h => ?_, ?_⟩⟩
  · simp [seqIndex?]
  · rw [upd_ne fun z => nf (by rw [z]; exact fb)]
    exact h
  · exact S.pop T H kvs key b n ns ok hk e1 e3 e4
theorem lift_rget (C : Cg G Γ k N sc X) {i : Nat} {key : Str} {t : Bool} {e : Expr} (h : rsB N sc i key e = true) : PE X e (liftP G 0 W [] (den Γ (.rget i key t))) := (rsB_ok C h).imp fun σ H Q ⟨T, m, Z, env, P, EP, ⟨hm, ht⟩, R, q, k, x⟩ => by
  cases t with
  | false =>
    obtain ⟨b, d, e1, rfl, hk, q⟩ := dVar_get EP q
    have hσ := hnd_at R e1
    obtain ⟨kvs, e1, _, e2, _, _, e4⟩ := (C.rs (.inl hk)).get T H R.ok
    obtain ⟨n, e3⟩ := e2 key hk
    exact ⟨_, hσ, _, _, rfl, (e3 ▸ DGet.k (k := (.inr key : Key)) e1), k _ (.int n) H (R.self.le hm) (.int n) (q n)⟩
  | true =>
    obtain ⟨b, d, e1, rfl, hk, q⟩ := dVar_get EP q
    have hσ := hnd_at R e1
    obtain ⟨kvs, e1, _, e2, _, _, e4⟩ := (C.rs (.inr (.inr (.inr hk)))).get T H R.ok
    obtain ⟨n, e3, n0, n1⟩ := e4 key hk
    have hs := (C.rs (.inr (.inr (.inr hk)))).small
    exact ⟨_, hσ, _, _, rfl, (e3 ▸ DGet.k (k := (.inr key : Key)) e1), k _ (.int n) H (R.self.le hm) (.int n) (q n n0 (by omega))⟩
theorem lift_rpop (C : Cg G Γ k N sc X) {i : Nat} {key : Str} {c a b : Expr} {p : Pos} {m : M} (h1 : neB N sc i key c = true) (h2 : popB N sc i key a = true) (hb : PE X b (liftP G u0 W (al m) (den Γ m))) :
    PE X (.IfExp c a b p) (liftP G u0 W (al m) (den Γ (.rpop i key m))) := (pe_ifExp (neB_ok C h1) (popB_ok C h2) hb).imp fun σ H Q ⟨T, m, Z, env, P, EP, ⟨hm, ht⟩, R, q, k, x⟩ => by
  obtain ⟨bb, d, e1, rfl, hk, q1, q2⟩ := dVar_get EP q
  have hσ := hnd_at R e1
  refine ne_core (C.rs (.inr (.inl hk))) R.ok hσ hk (fun H1 kvs b n ns g a1 a2 fb a3 => iteT ?_) fun H1 g => iteF ⟨T, m, Z, env, P, EP, ⟨hm, ht⟩, R.growG g, q2, fun v d H2 g2 hv p => k v d H2 (g.trans g2) hv p, x.grow g⟩
  rw [← C.hK]
  exact pop_core (C.rs (.inr (.inl hk))) g.ok hσ hk a1 a2 fb a3 fun H2 g2 => k _ (.int n) H2 ((g.trans g2).le (by omega)) (.int n) (q1 n)
theorem srcw_rlst (C : Cg G Γ k N sc X) {i : Nat} {key : Str} : SrcW G 0 W X [] (denS Γ (.rlst i key)) (iSeq X.K (tGetS i key)) := fun σ H R0 T m Z env P EP hm R q x kk => by
  obtain ⟨bb, d, e1, rfl, hk, q1⟩ := dVar_get EP q
  have hσ := hnd_at R e1
  obtain ⟨kvs, e1, _, _, _, e2, _⟩ := (C.rs (.inr (.inr (.inl hk)))).get T H R.ok
  obtain ⟨b, e3⟩ := e2 key hk
  obtain ⟨ns, hns, fx⟩ := (C.rs (.inr (.inr (.inl hk)))).fix key hk
  refine ⟨_, hσ, _, _, rfl, (e3 ▸ DGet.k (k := (.inr key : Key)) e1), b, rfl, .inl ⟨⟨_, SqL.of (fx T H kvs b R.ok e1 e3 T H R.ok)⟩, ?_⟩⟩
  exact kk _ _ _ _ H (R.self.le (by omega)) (steady_list (xs := ns.map V.int)) (denL_ints ns) (fun n H2 o2 _ => SqL.of (fx T H kvs b R.ok e1 e3 n H2 o2)) (q1 ns hns)
theorem lift_dct0 {e : Expr} (h : PE X e tDNewK) : PE X e (liftN G 0 W [] (dC (.dct []))) := h.imp fun σ H Q ⟨T, m, Z, env, P, EP, ⟨hm, ht⟩, R, q, k, x⟩ => fun p hp => k p (.dK []) (.dct []) H (R.self.le hm) hp ⟨[], rfl, .nil⟩ q
end
end DL

/-! D12b: further pieces. -/
namespace DL
open PySem PySem.Spec PyProof.Rows L2
section
variable {G : Ctx} {Γ : Gam} {k : Nat} {u0 u1 u2 : Nat}
theorem cell_imp {a b : Bool} (h : (!a || b) = true) : a = true → b = true := fun e => by
  subst e
  exact h
theorem cinB_ok {neg : Bool} {f g : Expr → Bool} {e : Expr} (h : cinB neg f g e = true) : ∃ x y p, e = .Compare x [if neg = true then CmpOp.NotIn else CmpOp.In] [y] p ∧ behindInMarks (if neg = true then CmpOp.NotIn else CmpOp.In) y = false ∧ f x = true ∧ g y = true := by
  unfold cinB at h
  split at h
  · simp only [Bool.and_eq_true, decide_eq_true_eq, Bool.not_eq_true'] at h
    obtain ⟨⟨⟨rfl, h2⟩, h3⟩, h4⟩ := h
    exact ⟨_, _, _, rfl, h2, h3, h4⟩
  · cases h
theorem isTB_ok {neg : Bool} {f : Expr → Bool} {e : Expr} (h : isTB neg f e = true) : ∃ x j p2 p, e = .Compare x [if neg = true then CmpOp.IsNot else CmpOp.Is] [.Constant (.bool true) j p2] p ∧ f x = true := by
  unfold isTB at h
  split at h
  · simp only [Bool.and_eq_true, decide_eq_true_eq] at h
    obtain ⟨⟨rfl, h2⟩, h3⟩ := h
    unfold kTrue at h2
    split at h2
    · subst h2
      exact ⟨_, _, _, _, rfl, h3⟩
    · cases h2
  · cases h
def rIsT (neg : Bool) : R2 := fun x y H Q => ∃ a b, x = .bl a ∧ y = .bl b ∧ Q (.bl (if neg = true then !decide (a = b) else decide (a = b))) H
theorem op_isT {X : Cx} (neg : Bool) : OpR X (compareOp (if neg = true then CmpOp.IsNot else CmpOp.Is)) (rIsT neg) := by
  cases neg with
  | true => exact op_isnot_bl
  | false => exact op_is_bl
theorem o_isT {G : Ctx} (neg : Bool) : Op2 G (rIsT neg) (fIsT neg) := by
  intro T Z σ env al H v w x y P Q R h1 h2 hf kk
  unfold fIsT at hf
  split at hf
  · cases h1
    cases h2
    exact ⟨_, _, rfl, rfl, kk _ _ H R.self (.bl _) hf⟩
  · exact hf.elim
theorem isT_flat (neg : Bool) (x y : D) (P : D → Prop) (h : fIsT neg x y P) : fIsT neg x y (fun d => flat d = true ∧ P d) := by
  unfold fIsT at h ⊢
  split at h
  · exact ⟨rfl, h⟩
  · exact h.elim
theorem isT_mark (neg : Bool) (b : Expr) : behindInMarks (if neg = true then CmpOp.IsNot else CmpOp.Is) b = false := by cases neg <;> exact nomark _
theorem srtlB_ok {sc : Scope} {f : Expr → Bool} {e : Expr} (h : srtlB sc f e = true) : ∃ x p q r t, e = .Call (.Name "sorted" p) [.Call (.Name "set" q) [x] [] r] [] t ∧ glB sc "sorted" = true ∧ glB sc "set" = true ∧ isSt x = false ∧ f x = true := by
  unfold srtlB at h
  split at h
  · simp only [Bool.and_eq_true, decide_eq_true_eq, Bool.not_eq_true'] at h
    obtain ⟨⟨⟨⟨⟨rfl, h2⟩, rfl⟩, h4⟩, h5⟩, h6⟩ := h
    exact ⟨_, _, _, _, _, rfl, h2, h4, h5, h6⟩
  · cases h
theorem srtcB_ok {N : List Str} {sc : Scope} {i : Nat} {x : Str} {fs : Expr → Bool} {fc : Scope → List Expr → Bool} {fe : Scope → Expr → Bool} {e : Expr} (h : srtcB N sc i x fs fc fe e = true) : ∃ elt p2 iter ifs scope p q r, e = .Call (.Name "sorted" q) [.SetComp elt [⟨.Name x p2, iter, ifs, 0⟩] scope p] [] r ∧ glB sc "sorted" = true ∧
    N[i]? = some x ∧ blkC N sc scope [(x, i)] = true ∧ fs iter = true ∧ (match (relS scope sc).names.lookup x with | some .local => true | some .cell => decide (scope.names.lookup x = some .cell) | _ => false) = true ∧ fc (relS scope sc) ifs = true ∧ fe (relS scope sc) elt = true ∧ (!hasCell scope || hasCell sc) = true := by
  unfold srtcB at h
  split at h
  · simp only [Bool.and_eq_true, decide_eq_true_eq] at h
    obtain ⟨⟨⟨⟨⟨⟨⟨⟨⟨rfl, h2⟩, rfl⟩, h4⟩, h5⟩, h6⟩, h7⟩, h8⟩, h9⟩, h10⟩ := h
    exact ⟨_, _, _, _, _, _, _, _, rfl, h2, h4, h5, h6, h7, h8, h9, h10⟩
  · cases h
theorem isEB_ok {sc : Scope} {c : Str} {f : Expr → Bool} {e : Expr} (h : isEB sc c f e = true) : ∃ x p q r, e = .Call (.Name "isinstance" p) [x, .Name c q] [] r ∧ glB sc "isinstance" = true ∧ isSt x = false ∧ glB sc c = true ∧ f x = true := by
  unfold isEB at h
  split at h
  · simp only [Bool.and_eq_true, decide_eq_true_eq, Bool.not_eq_true'] at h
    obtain ⟨⟨⟨⟨⟨rfl, h2⟩, h3⟩, rfl⟩, h4⟩, h5⟩ := h
    exact ⟨_, _, _, _, rfl, h2, h3, h4, h5⟩
  · cases h
theorem cvB_ok {sc : Scope} {f : Str} {g : List Expr → Bool} {e : Expr} (h : cvB sc f g e = true) : ∃ xs p q, e = .Call (.Name f p) xs [] q ∧ glB sc f = true ∧ g xs = true := by
  unfold cvB at h
  split at h
  · simp only [Bool.and_eq_true, decide_eq_true_eq] at h
    obtain ⟨⟨rfl, h2⟩, h3⟩ := h
    exact ⟨_, _, _, rfl, h2, h3⟩
  · cases h
theorem csB_ok {sc : Scope} {f : Str} {g : Expr → Bool} {e : Expr} (h : csB sc f g e = true) : ∃ x p q r, e = .Call (.Name f p) [.Starred x q] [] r ∧ glB sc f = true ∧ g x = true := by
  unfold csB at h
  split at h
  · simp only [Bool.and_eq_true, decide_eq_true_eq] at h
    obtain ⟨⟨rfl, h2⟩, h3⟩ := h
    exact ⟨_, _, _, _, rfl, h2, h3⟩
  · cases h
/-- isinstance(a, C) -/
theorem lift_isE {X : Cx} {N : List Str} {sc : Scope} {W : WX} {x : Expr} {c : Str} {p q r : Pos} {t : TP} {al : List Nat} (C : Cg G Γ k N sc X) (h1 : glB sc "isinstance" = true) (hs : isSt x = false) (h2 : glB sc c = true) (hx : PE X x (liftP G u0 W al t)) :
    PE X (.Call (.Name "isinstance" p) [x, .Name c q] [] r) (liftP G u0 W [] (dGd (c ∈ Γ.exc) (dOp1 (fIsE Γ c) t))) := by
  obtain ⟨g1, g2, g3⟩ := glB_ok C h1
  obtain ⟨g4, g5, g6⟩ := glB_ok C h2
  by_cases hc : c ∈ Γ.exc
  · have oc := C.exc c hc
    have s1 := star_cons x [.Name c q] X.env (isSt_ok hs)
    refine (pe_callB (id := "isinstance") (r := fun (xs : List V) (H : Hp) (Q : VK) => ∃ (a : Addr) (e : Str) (dd : Option Addr) (b : Bool), xs = [V.ref a, V.ref (G.ca c)] ∧ e ∈ Γ.exc ∧ H a = some (EXO (.ref (G.ca e)) dd a) ∧ (∀ d, dd = some d → ∃ fs, H d = some (HO.xd fs)) ∧ b = Γ.sub e c ∧ Q (.bl b) H) ?_ g1 (C.free _ (by decide)) boot_isinstance
      (pa_cons hx (pa_cons (pe_glob g4 oc.at_ (v := .ref (G.ca c)) rfl g5) pa_nil rfl) s1) g3 g2 s1 rfl).imp ?_
    · intro pins s σ H xs us Q I rr ⟨a, e, dd, b, ev, he, ha, hdd, eb, q⟩
      subst ev eb
      cases rr with
      | cons rx rt => cases rt with
        | cons ry rn =>
          cases rn
          cases (show _ = Value.ref a from rx)
          cases (show _ = Value.ref (G.ca c) from ry)
          obtain ⟨⟨oe, vs, at_, z, dat⟩, _, _⟩ := I.hok a _ ha
          have oe' := C.exc e he
          have kit := (C.exs e he c hc).1
          have inst : ∃ od, PySem.W.InstAt s.heap a oe (G.ca e) od := by
            cases dd with
            | none => exact ⟨none, at_, z.1, by unfold PySem.W.notCls; rw [dat], by rw [z.2]; trivial⟩
            | some d =>
              obtain ⟨fs, hd⟩ := hdd d rfl
              obtain ⟨mA, ⟨od, es, ep, e1, _⟩, _⟩ := I.hok d _ hd
              exact ⟨some od, at_, z.1, by unfold PySem.W.notCls; rw [dat], by rw [z.2]; exact e1⟩
          obtain ⟨od, inst⟩ := inst
          exact PySem.W.kia_one (kit_of_exc oe'.is) I.kIn inst kit (fun z => nomatch z) fun tk => ⟨.bl _, H, I.kept (t' := tk) fun _ _ z => z, rfl, q⟩
    · intro σ H Q ⟨T, m, Z, env, P, EP, hm, R, q, kk, xw⟩
      refine ⟨T, m, Z, env, _, EP, hm, R, q.2, fun v d H1 g hd p => ?_, xw⟩
      unfold fIsE at p
      split at p
      · cases hd with
        | exc ha hx hf =>
          exact ⟨_, _, _, _, rfl, p.1, hid_sub _ _ ha, fun d' e' => by
            subst e'
            exact ⟨_, hid_sub _ _ hx⟩, rfl, kk _ _ H1 g (.bl _) p.2⟩
      · exact p.elim
  · exact ⟨fun pins s σ H Q I ⟨T, m, Z, env, P, EP, hm, R, q, kk, xw⟩ => absurd q.1 hc⟩
/-! ### own exceptions: made, read, asked -/
def one1 (f : F1) : FL := fun ds P => match ds with
  | [d] => f d P
  | _ => False
theorem exo_nt {cls : Value} {dd : Option Addr} {a : Addr} : NT (EXO cls dd a) := fun ps e => by unfold EXO at e; cases e
theorem o_mkK {f c : Str} : CallD G (mkK (G.ca c) f) (one1 fun d P => P (.exc c [(f, d)])) := by
  intro T Z σ env al H vs ds P Q R hd hf kk
  unfold one1 at hf
  split at hf
  · obtain ⟨v, rfl, hv⟩ := denL1 hd
    refine ⟨v, rfl, fun e d he hdn hne => ?_⟩
    have g1 := R.new (o := .xd [(f, v)]) hdn
    have R1 := R.growG g1
    have e1 : upd H d (.xd [(f, v)]) e = none := by rw [upd_ne hne.symm]; exact he
    have g2 := R1.new (o := EXO (.ref (G.ca c)) (some d) e) e1 exo_nt
    refine kk _ (.exc c [(f, _)]) _ (g1.trans g2) (.exc (dd := some d) (vw_new R1 e1) ?_ (.cons (hv.sub fun b o q => vw_sub R1 g2 subS b o (vw_sub R g1 subS b o q)) .nil)) hf
    exact vw_sub R1 g2 subS d _ (vw_new R hdn)
  · exact hf.elim
theorem o_mkN {c : Str} : CallD G (fun vs H Q => ∃ v, vs = [v] ∧ mkN (G.ca c) vs H Q) (one1 fun d P => P (.exc c [])) := by
  intro T Z σ env al H vs ds P Q R hd hf kk
  unfold one1 at hf
  split at hf
  · obtain ⟨v, rfl, hv⟩ := denL1 hd
    refine ⟨v, rfl, fun a ha => ?_⟩
    have g1 := R.new (o := EXO (.ref (G.ca c)) none a) ha exo_nt
    exact kk _ (.exc c []) _ g1 (.exc (dd := none) (vw_new R ha) rfl .nil) hf
  · exact hf.elim
theorem lift_one1 {X : Cx} {W : WX} {e : Expr} {t : TP} {al : List Nat} {f : F1} (h : PE X e (liftP G u0 W al (dCall (one1 f) (dCons t dNil)))) : PE X e (liftP G u0 W al (dOp1 f t)) := h
theorem lift_gd {X : Cx} {W : WX} {e : Expr} {p : Prop} {t : TP} {al : List Nat} (h : p → PE X e (liftP G u0 W al t)) : PE X e (liftP G u0 W al (dGd p t)) :=
  ⟨fun pins s σ H Q I ⟨T, m, Z, env, P, EP, hm, R, q, kk, xw⟩ => (h q.1).run pins s σ H Q I ⟨T, m, Z, env, P, EP, hm, R, q.2, kk, xw⟩⟩
theorem lift_mkx {X : Cx} {N : List Str} {sc : Scope} {W : WX} {x : Expr} {c : Str} {p pos : Pos} {t : TP} {al : List Nat} (C : Cg G Γ k N sc X) (h1 : glB sc c = true) (hs : isSt x = false) (hx : PE X x (liftP G u0 W al t)) : PE X (.Call (.Name c p) [x] [] pos) (liftP G u0 W al (dGd (mkOk Γ c) (dOp1 (fMkx Γ c) t))) := by
  refine lift_gd fun ok => ?_
  obtain ⟨g1, g2, g3⟩ := glB_ok C h1
  have s1 := star_cons x [] X.env (isSt_ok hs)
  have pa : PA X [x] (liftA G (u0 + 0) W al (dCons t dNil)) := lift_cons subS sub0 (pa_cons hx (lift_nil pa_nil) s1)
  unfold fMkx
  cases e : Γ.exi.lookup c with
  | some f =>
    obtain ⟨hc, fI, q, T⟩ := C.more.exi c f e
    have oc := C.exc c hc
    exact lift_one1 (lift_call o_mkK (pe_mkx T C.room oc.at_ oc.keep g1 g2 pa s1))
  | none =>
    have hc : c ∈ Γ.exn := ok.resolve_left fun z => by rw [e] at z; cases z
    obtain ⟨h2, h3⟩ := C.exn c hc
    have oc := C.exc c h2
    exact lift_one1 (lift_call o_mkN (pe_mkn h3 oc.at_ oc.keep g1 g2 pa s1))
theorem lift_mkk {X : Cx} {N : List Str} {sc : Scope} {W : WX} {x : Expr} {c f : Str} {p pos kp : Pos} {t : TP} {al : List Nat} (C : Cg G Γ k N sc X) (h1 : glB sc c = true) (hx : PE X x (liftP G u0 W al t)) : PE X (.Call (.Name c p) [] [⟨some f, x, kp⟩] pos) (liftP G u0 W al (dGd (Γ.exi.lookup c = some f) (dOp1 (fMkk Γ c f) t))) := by
  refine lift_gd fun e => ?_
  obtain ⟨g1, g2, g3⟩ := glB_ok C h1
  obtain ⟨hc, fI, q, T⟩ := C.more.exi c f e
  have oc := C.exc c hc
  have pk : PK X [⟨some f, x, kp⟩] (liftA G (u0 + 0) W al (dCons t dNil)) := ⟨fun pos pins s σ H Q I ⟨T, m, Z, env, P, EP, ⟨hm, ht⟩, R, q, kk, xx⟩ => (pk_cons (nm := some f) (kpos := kp) hx pk_nil).run pos pins s σ H Q I
    ⟨T, T + u0, Z, env, _, EP, ⟨Nat.le_refl _, by omega⟩, R, q, fun v d H1 g1 hv q1 => kk [v] [d] H1 (g1.le (by omega)) (.cons hv .nil) q1, xx.le (by omega)⟩⟩
  exact lift_one1 (lift_call o_mkK (pe_mkk T C.room oc.at_ oc.keep g1 g2 pk))
theorem denF_look {H : Hp} {f : Str} : ∀ {fs : List (Str × V)} {ds : List (Str × D)} {v : D}, DenF G H fs ds → ds.lookup f = some v → ∃ w, fs.lookup f = some w ∧ Den G H w v
  | _, _, v, .nil, e => by cases e
  | _, _, v, .cons (f := g) (v := w) (d := d) hw hr, e => by
    rw [List.lookup_cons] at e
    rw [List.lookup_cons]
    cases q : f == g with
    | true => rw [q] at e; cases e; exact ⟨w, rfl, hw⟩
    | false => rw [q] at e; exact denF_look hr e
theorem lift_fld {X : Cx} {N : List Str} {sc : Scope} {W : WX} {x : Expr} {f : Str} {pos : Pos} {t : TP} {al : List Nat} (C : Cg G Γ k N sc X) (hb : attributeBase x f X.env (eval x X.env) = eval x X.env) (hf : f ≠ "__class__") (hx : PE X x (liftP G u0 W al t)) : PE X (.Attribute x f pos) (liftP G u0 W al (dOp1 (fFld Γ f) t)) :=
  (pe_xfld hx hb hf).imp fun σ H Q ⟨T, m, Z, env, P, EP, hm, R, q, kk, xw⟩ => ⟨T, m, Z, env, _, EP, hm, R, q, fun v d H1 g hd p => by
    unfold fFld at p
    split at p
    · obtain ⟨h1, v, h2, p⟩ := p
      obtain ⟨hc, fI, q, T⟩ := C.more.exi _ f h1
      cases hd with
      | exc ha hxf hF =>
        rename_i a dd fs
        obtain ⟨w, l1, hw⟩ := denF_look hF h2
        cases dd with
        | none =>
          have : fs = [] := hxf
          subst this
          cases l1
        | some d => exact ⟨a, _, d, fs, w, rfl, (C.exc _ hc).is, T.noN, hid_sub _ _ ha, hid_sub _ _ hxf, l1, kk w v H1 g hw p⟩
    · exact p.elim, xw⟩
theorem lift_isV {X : Cx} {N : List Str} {sc : Scope} {W : WX} {x : Expr} {p q r : Pos} {t : TP} {al : List Nat} (C : Cg G Γ k N sc X) (h1 : glB sc "isinstance" = true) (hs : isSt x = false) (h2 : glB sc "ValueError" = true) (hx : PE X x (liftP G u0 W al t)) :
    PE X (.Call (.Name "isinstance" p) [x, .Name "ValueError" q] [] r) (liftP G u0 W [] (dGd (Γ.ve = true) (dOp1 (fIsV Γ) t))) := by
  refine lift_gd fun hve => ?_
  obtain ⟨g1, g2, g3⟩ := glB_ok C h1
  obtain ⟨g4, g5, g6⟩ := glB_ok C h2
  obtain ⟨m1, m2⟩ := C.more.ve hve
  have s1 := star_cons x [.Name "ValueError" q] X.env (isSt_ok hs)
  refine (pe_callB (id := "isinstance") (r := fun (xs : List V) (H : Hp) (Q : VK) => ∃ (a : Addr) (e : Str) (dd : Option Addr), xs = [V.ref a, V.ty "ValueError"] ∧ e ∈ Γ.exc ∧ H a = some (EXO (.ref (G.ca e)) dd a) ∧ (∀ d, dd = some d → ∃ fs, H d = some (HO.xd fs)) ∧ Q (.bl true) H) ?_ g1 (C.free _ (by decide)) boot_isinstance
    (pa_cons hx (pa_cons (pe_bltn (v := .ty "ValueError") g4 m1 PyProof.Rows.Boot.«ValueError» rfl g6 g5) pa_nil rfl) s1) g3 g2 s1 rfl).imp ?_
  · intro pins s σ H xs us Q I rr ⟨a, e, dd, ev, he, ha, hdd, q⟩
    subst ev
    cases rr with
    | cons rx rt => cases rt with
      | cons ry rn =>
        cases rn
        cases (show _ = Value.ref a from rx)
        cases (show _ = Value.type "ValueError" from ry)
        obtain ⟨⟨oe, vs, at_, z, dat⟩, _, _⟩ := I.hok a _ ha
        have oe' := C.exc e he
        have kit := m2 e he
        have inst : ∃ od, PySem.W.InstAt s.heap a oe (G.ca e) od := by
          cases dd with
          | none => exact ⟨none, at_, z.1, by unfold PySem.W.notCls; rw [dat], by rw [z.2]; trivial⟩
          | some d =>
            obtain ⟨fs, hd⟩ := hdd d rfl
            obtain ⟨mA, ⟨od, es, ep, e1, _⟩, _⟩ := I.hok d _ hd
            exact ⟨some od, at_, z.1, by unfold PySem.W.notCls; rw [dat], by rw [z.2]; exact e1⟩
        obtain ⟨od, inst⟩ := inst
        exact PySem.W.kia_one (kit_of_exc oe'.is) I.kIn inst kit (fun z => nomatch z) fun tk => ⟨.bl _, H, I.kept (t' := tk) fun _ _ z => z, rfl, q⟩
  · intro σ H Q ⟨T, m, Z, env, P, EP, hm, R, q, kk, xw⟩
    refine ⟨T, m, Z, env, _, EP, hm, R, q, fun v d H1 g hd p => ?_, xw⟩
    unfold fIsV at p
    split at p
    · cases hd with
      | exc ha hx hf =>
        exact ⟨_, _, _, rfl, p.2.1, hid_sub _ _ ha, fun d' e' => by
          subst e'
          exact ⟨_, hid_sub _ _ hx⟩, kk _ _ H1 g (.bl _) p.2.2⟩
    · exact p.elim
end
end DL

/-! DLM: a lambda without parameters is made, handed to a def, called there. -/
namespace DL
open PySem PySem.Spec PyProof.Rows L2 LamX
section
variable {X : Cx} {pins : List (Addr × Obj)} {σ : SS} {H : Hp} {s : Shared}
abbrev lamObj (X : Cx) (params : Arguments) (body : Expr) (scope : Scope) (pm : Value) (c' : Addr) (ctv : Value) : Obj := PySem.W.kla_obj "<lambda>" (lamQ X) params body scope (cloFrom X.env.cells scope.names []) pm c' ctv
theorem LamStep.keep {P c' : Addr} {q : Str} {H1 : Hp} (h : LamStep H P c' q H1) {b : Addr} {o : HO} (e : H b = some o) (nb : b ≠ P) : H1 b = some o := by
  rcases h with rfl | ⟨ps, ps', _, nc, rfl⟩
  · exact e
  · rw [upd_ne (ne_of_none e nc), upd_ne nb]
    exact e
theorem LamStep.ext {P c' : Addr} {q : Str} {H1 : Hp} (h : LamStep H P c' q H1) : ExtN H H1 := fun b o e nt => by
  rcases h with rfl | ⟨ps, ps', hp, nc, rfl⟩
  · exact e
  · rw [upd_ne (ne_of_none e nc), upd_ne fun z => by
      rw [z, hp] at e
      cases e
      exact nt _ rfl]
    exact e
theorem LamStep.tbl {P c' : Addr} {q : Str} {H1 : Hp} (h : LamStep H P c' q H1) {b : Addr} {ps : Array Value} (e : H1 b = some (.tbl ps)) : ∃ ps', H b = some (.tbl ps') := by
  rcases h with rfl | ⟨ps1, ps', hp, nc, rfl⟩
  · exact ⟨_, e⟩
  · by_cases h1 : b = c'
    · rw [h1, upd_same] at e
      exact absurd (Option.some.inj e) (codeO_ne _)
    · rw [upd_ne h1] at e
      by_cases h2 : b = P
      · exact ⟨ps1, by rw [h2]; exact hp⟩
      · rw [upd_ne h2] at e
        exact ⟨_, e⟩
theorem lam_new {ts : List (Addr × Str)} {c P : Addr} {params : Arguments} {body : Expr} {scope : Scope} {pos : Pos} {E : Value → Shared → Prop} {Q : Value → Shared → Prop} (I : Inv X pins σ H s) (TB : TabB X.base X.mg c P) (code : X.env.code = .ref c)
    (mem : (P, lamQ X) ∈ ts) (one : ∀ p ∈ ts, p.1 = P → p.2 = lamQ X) (tabs : Tabs ts H) (noDef : defaultsOf params X.env = ([], [])) (free : ∀ y ∈ scope.names, y.2 = .free → ∃ c, X.env.cells.lookup y.1 = some c)
    (go : ∀ (f c' : Addr) (pm ctv : Value) (H1 : Hp) (s' : Shared), Inv X pins σ H1 s' → LamStep H P c' (lamQ X) H1 → Tabs ts H1 → s'.heap.get? f = some (lamObj X params body scope pm c' ctv) → H1 f = none → f ∉ frs X.stack → H1 c' = some (CodeO c' (lamQ X)) → Q (.ref f) s') :
    wpAny (model X.prog X.w) X.A (eval (.Lambda params body scope pos) X.env) Q E s := by
  obtain ⟨tab, atP, triples, told⟩ := tabs _ mem
  have bmP : s.heap.BuiltinsAt X.mg P := TB.bm.keeps I.bk
  have objP : s.heap.get? P = some { cls := .none, data := .fields tab } := I.hok P _ atP
  have noFrame : ∀ f, s.heap.objs.size ≤ f → f ∉ frs X.stack := fun f big z => by
    rcases List.mem_cons.mp (I.stkSub _ z) with e | e
    · have lt := I.lt
      rw [← e] at lt
      exact absurd (Nat.lt_of_lt_of_le lt big) (Nat.lt_irrefl _)
    · exact I.nofs big e
  refine PySem.W.kla_eval noDef ?_
  cases found : codeAmong pos tab.toList with
  | some cv =>
    obtain ⟨c', rfl, isCode⟩ := told pos cv found
    exact PySem.W.kla_makeFunctionHit (mg := X.mg) (c := c) (P := P) (ps := tab) (closure_ok free) I.ok.glob (I.mod.glob.keeps I.bk) code (TB.code.keeps I.bk) objP triples found bmP fun ctv h' tk keep big =>
      go h'.objs.size c' ((X.mg "__name__").getD .none) ctv H _ (I.kept fun b o e => Heap.get?_push_of_some _ (keep b o e)) (.inl rfl) tabs (Heap.get?_push_size _ rfl) (I.hok.fresh big) (noFrame _ big) isCode
  | none =>
    refine PySem.W.kla_makeFunction (mg := X.mg) (c := c) (P := P) (ps := tab) (closure_ok free) I.ok.glob (I.mod.glob.keeps I.bk) code (TB.code.keeps I.bk) objP triples found TB.gP bmP fun c' ctv h' tk but new lt record tabNew => ?_
    obtain ⟨c2, oc, vs, t, e2, objC, datC, nameC⟩ := record
    cases e2
    have big : s.heap.objs.size ≤ h'.objs.size := Nat.le_trans new (Nat.le_of_lt lt)
    have noC : H c' = none := I.hok.fresh new
    have J := inv_table (q := lamQ X) (t' := tk) (more := #[rawInt pos.line, rawInt pos.col, .ref c']) (h' := h'.push (lamObj X params body scope ((X.mg "__name__").getD .none) c' ctv)) I atP
      (fun b o ne e => Heap.get?_push_of_some _ (but b o ne e)) (Heap.get?_push_of_some _ tabNew) new ⟨oc, vs, t, Heap.get?_push_of_some _ objC, datC, nameC⟩
    have step : LamStep H P c' (lamQ X) (upd (upd H P (.tbl (tab ++ #[rawInt pos.line, rawInt pos.col, .ref c']))) c' (CodeO c' (lamQ X))) := .inr ⟨_, _, atP, noC, rfl⟩
    have asList : (tab ++ #[rawInt pos.line, rawInt pos.col, .ref c']).toList = tab.toList ++ [rawInt pos.line, rawInt pos.col, .ref c'] := by simp
    refine go h'.objs.size c' ((X.mg "__name__").getD .none) ctv _ _ J step (fun p hp => ?_) (Heap.get?_push_size _ rfl) ?_ (noFrame _ big) upd_same
    · by_cases same : p.1 = P
      · rw [one p hp same, same]
        refine ⟨_, (upd_ne (ne_of_none atP noC)).trans upd_same, by rw [asList]; exact PySem.TriplesOk_snoc _ _ _ _ triples, fun p' cv hc => ?_⟩
        rw [asList] at hc
        rcases among_app _ triples hc with z | z
        · obtain ⟨c0, e1, e2⟩ := told p' cv z
          exact ⟨c0, e1, step.ext _ _ e2 codeO_ne⟩
        · exact ⟨c', z, upd_same⟩
      · obtain ⟨tab2, a1, a2, a3⟩ := tabs p hp
        refine ⟨tab2, step.keep a1 same, a2, fun p' cv hc => ?_⟩
        obtain ⟨c0, e1, e2⟩ := a3 p' cv hc
        exact ⟨c0, e1, step.ext _ _ e2 codeO_ne⟩
    · rw [upd_ne (Nat.ne_of_gt lt), upd_ne (Nat.ne_of_gt (Nat.lt_of_lt_of_le (Heap.lt_size objP) big))]
      exact I.hok.fresh big
/-- the lambda, called by a() in the frame of the def that got it -/
theorem thunk_pe {CXg : CXT} {Eg : XK} {Ng : List Str} {qg : Str} {sg : Scope} {g f c' : Addr} {cdg pm ctv : Value} {params : Arguments} {body : Expr} {scope : Scope} {k i : Nat} {a : Str} {pn : List (Addr × Obj)} {xe : Value → Shared → Prop} {W : WX} {tb : XK → TE} {p1 p2 : Pos}
    (I : Inv X pins σ H s) (L : LamS X.env.scope scope) (at_ : s.heap.get? f = some (lamObj X params body scope pm c' ctv)) (no : H f = none) (noF : f ∉ frs X.stack)
    (bind : bindArgs (PySem.W.kla_fn "<lambda>" (lamQ X) params body scope (cloFrom X.env.cells scope.names []) pm (.ref c') ctv) ⟨[], []⟩ = pure [])
    (tk : Takes ((cxOf CXg X.prog X.w X.K X.mg X.base Ng qg sg g cdg X.A X.stack s H Eg).tr pn xe) W) (room : Room (k + 1) (X.A.deeper (envOfC qg sg s.heap.objs.size g cdg))) (gd : X.A.guards = some [])
    (does : ∀ (A : Around) (outer : List Env) (s : Shared) (H : Hp) (E : XK), A.guards = some [] → Room k (A.deeper (lamEnv X scope s.heap.objs.size f c')) → PE (lamCx X A outer s H E scope f c') body (tb E))
    (hN : Ng[i]? = some a) (hv : Vis sg a) (hd : (a == ("__debug__" : Str)) = false := by decide) (hcd : (a == ("__classdict__" : Str)) = false := by decide) :
    PE ((cxOf CXg X.prog X.w X.K X.mg X.base Ng qg sg g cdg X.A X.stack s H Eg).tr pn xe) (.Call (.Name a p1) [] [] p2) (fun σZ HZ Q => σZ[i]? = some (some (.ref f)) ∧ HZ c' = some (CodeO c' (lamQ X)) ∧ tb (WE W σZ) σ HZ Q) := by
  refine ⟨fun pinsZ sZ σZ HZ Q IZ ⟨slot, code, want⟩ => ?_⟩
  refine wpAny_Call_Name_kw (thn ((pe_var (pos := p1) (i := i) hN hv hd hcd).run pinsZ sZ σZ HZ (fun v H1 => v = .ref f ∧ H1 = HZ) IZ ⟨.ref f, slot, rfl, rfl⟩) fun u s1 ⟨v, H1, I1, r1, e1, e2⟩ => ?_)
  subst e1
  rw [e2] at I1
  cases (show u = Value.ref f from r1)
  have at1 : s1.heap.get? f = some (lamObj X params body scope pm c' ctv) := I1.base.keep f _ at_ no noF (fun z => nomatch (show f ∈ ([] : List Addr) from z))
  refine PySem.W.callWith_F0 ⟨_, _, _, _, at1⟩ ?_
  have un : Un (frs X.stack) [] H HZ s.heap s1.heap := I1.base
  obtain ⟨⟨oc, vs, t, objC, datC, nameC⟩, _, _⟩ := I1.hok c' _ code
  have run : codeAny (model X.prog X.w) (X.A.deeper (envOfC qg sg s.heap.objs.size g cdg)) (.call (.ref f) ⟨[], []⟩) (CR (L2.CX X.prog X.w) (envOfC qg sg s.heap.objs.size g cdg :: X.stack) X.prog X.w HZ s1 Q (WE W σZ)) s1 := by
    refine PySem.W.kla_callFunE room.depth at1 rfl L.co L.gen rfl ⟨c', oc, vs, t, rfl, objC, datC, nameC⟩ ?_
    rw [bind]
    refine wpAny_pure (wpAny_newFunctionEnv (fun y hy => (L.own y hy).2) (fun y hy => absurd hy (by simp)) (fun h₁ names same => ⟨I1.nolimit.fresh _ same, ?_⟩) L.kind)
    show codeAny _ _ (.expr body (lamEnv X scope s1.heap.objs.size f c')) _ _
    have keep : ∀ b o, s1.heap.get? b = some o → h₁.get? b = some o := fun b o e => same.extBut b o (Nat.ne_of_lt (Heap.lt_size e)) (Heap.get?_push_of_some _ e)
    have J : Inv (lamCx X (X.A.deeper (envOfC qg sg s.heap.objs.size g cdg)) (envOfC qg sg s.heap.objs.size g cdg :: X.stack) s1 HZ (WE W σZ) scope f c') [] σ HZ { s1 with heap := h₁, toks := s1.toks + ([] : List (Str × Value)).length } :=
      lam_start2 I L I1.env0 room.hd un names keep
    refine PySem.W.kla_codeExpr (wpAny_mono ((does (X.A.deeper (envOfC qg sg s.heap.objs.size g cdg)) _ s1 HZ (WE W σZ) gd (room.deeper _)).run [] _ _ HZ Q J want) (fun v s' q => ?_) fun e s' q => q)
    obtain ⟨w', H', J', rv, q⟩ := q
    exact ⟨w', H', J'.os, J'.bare, J'.base, J'.hok, rv, q⟩
  refine wpAny_call (codeAny_mono run fun r s' q => ?_)
  match r, q with
  | .error e, q => exact passAt tk σZ pinsZ HZ s1 e s' I1 q
  | .ok (.ret u), q => exact I1.after q
  | .ok .next, q => exact False.elim q
  | .ok .brk, q => exact False.elim q
  | .ok .cont, q => exact False.elim q
end
/-! ### told of values -/
mutual
theorem Den.like {G G' : Ctx} {H : Hp} (l : Like G G') : ∀ {v : V} {d : D}, Den G H v d → Den G' H v d
  | _, _, .non => .non
  | _, _, .bl b => .bl b
  | _, _, .int i => .int i
  | _, _, .str x => .str x
  | _, _, .tup h r => .tup (l.K ▸ h) (DenL.like l r)
  | _, _, .lst h r => .lst h (DenL.like l r)
  | _, _, .dct h r => .dct h (DenK.like l r)
  | _, _, .obj (c := c) h r => .obj (by rw [show G'.ca c = G.ca c by unfold Ctx.ca; rw [l.mg]]; exact h) (DenF.like l r)
  | _, _, .hnd n => l.ha ▸ .hnd n
  | _, _, .scr h => .scr (l.K ▸ h)
  | _, _, .ty n => .ty n
  | _, _, .gl h => .gl (l.mg ▸ h)
  | _, _, .exc (c := c) h x r => .exc (by rw [show G'.ca c = G.ca c by unfold Ctx.ca; rw [l.mg]]; exact h) x (DenF.like l r)
  | _, _, .adr a => .adr a
  | _, _, .ldc h r => .ldc (by rw [l.P, l.w]; exact h) (DenM.like l r)
theorem DenL.like {G G' : Ctx} {H : Hp} (l : Like G G') : ∀ {vs : List V} {ds : List D}, DenL G H vs ds → DenL G' H vs ds
  | _, _, .nil => .nil
  | _, _, .cons h r => .cons (Den.like l h) (DenL.like l r)
theorem DenK.like {G G' : Ctx} {H : Hp} (l : Like G G') : ∀ {vs : List (Key × V)} {ds : List (D × D)}, DenK G H vs ds → DenK G' H vs ds
  | _, _, .nil => .nil
  | _, _, .cons h r => .cons (Den.like l h) (DenK.like l r)
theorem DenM.like {G G' : Ctx} {H : Hp} (l : Like G G') : ∀ {vs : List (Leaf × V)} {ds : List (D × D)}, DenM G H vs ds → DenM G' H vs ds
  | _, _, .nil => .nil
  | _, _, .cons h r => .cons (Den.like l h) (DenM.like l r)
theorem DenF.like {G G' : Ctx} {H : Hp} (l : Like G G') : ∀ {vs : List (Str × V)} {ds : List (Str × D)}, DenF G H vs ds → DenF G' H vs ds
  | _, _, .nil => .nil
  | _, _, .cons h r => .cons (Den.like l h) (DenF.like l r)
end
theorem XDen.like {G G' : Ctx} {H : Hp} (l : Like G G') {cls : Value} {dd : Option Addr} {x : XD} (h : XDen G H cls dd x) : XDen G' H cls dd x :=
  ⟨by rw [show G'.ca x.c = G.ca x.c by unfold Ctx.ca; rw [l.mg]]; exact h.1, let ⟨fs, a, b⟩ := h.2; ⟨fs, a, b.like l⟩⟩
theorem Like.symm {G G' : Ctx} (l : Like G G') : Like G' G := ⟨l.P.symm, l.w.symm, l.K.symm, l.mg.symm, l.ha.symm, l.F.symm, l.top.symm⟩
/-- the world of the def that got the lambda: what stood at H1 stays -/
def thG (G : Ctx) (H1 : Hp) (c' : Addr) (q : Str) (V : Addr → Prop) : Ctx where
  P := G.P
  w := G.w
  K := G.K
  mg := G.mg
  F := G.F
  S := fun b => (H1 b ≠ none ∧ ¬ G.F b) ∨ G.S b
  Zm := fun b => V b ∨ H1 b = none
  top := G.top
  ok := fun n H => G.ok n H ∧ H c' = some (CodeO c' q) ∧ ∀ b o, ¬ G.F b → H1 b = some o → H b = some o
  ha := G.ha
  ok_mono := fun n m H h ⟨a, b⟩ => ⟨G.ok_mono n m H h a, b⟩
  ok_ext := fun n H H' ⟨a, b, c⟩ e1 e2 e3 => ⟨G.ok_ext n H H' a e1 (fun x o h f => e2 x o h (f.imp id .inr)) e3, e2 _ _ b (.inl ⟨_, _, rfl⟩), fun x o f h => e2 x o (c x o f h) (.inr (.inl ⟨by rw [h]; simp, f⟩))⟩
  ok_dom := fun n H b ⟨a, _⟩ f => G.ok_dom n H b a f
  zfresh := fun n H p ⟨a, b, c⟩ e => by
    right
    cases q : H1 p with
    | none => rfl
    | some o =>
      by_cases f : G.F p
      · exact absurd e (G.ok_dom n H p a f)
      · rw [c p o f q] at e
        cases e
  sdom := fun n H b ⟨a, _, c⟩ s => by
    rcases s with ⟨s1, s2⟩ | s
    · cases q : H1 b with
      | none => exact absurd q s1
      | some o =>
        rw [c b o s2 q]
        simp
    · exact G.sdom n H b a s
  tb := fun n H b ps ⟨a, _⟩ e => G.tb n H b ps a e
theorem thG_like {G : Ctx} {H1 : Hp} {c' : Addr} {q : Str} {V : Addr → Prop} : Like G (thG G H1 c' q V) := ⟨rfl, rfl, rfl, rfl, rfl, rfl, rfl⟩
theorem noOwn_all {env : DEnv} (h : noOwnAll env = true) (i : Nat) (d : D) : env[i]? ≠ some (some (true, d)) := fun e => by
  unfold noOwnAll at h
  have := List.all_eq_true.mp h _ (List.mem_of_getElem? e)
  cases this
section
variable {G : Ctx} {Γ : Gam} {k u0 : Nat} {N : List Str} {sc : Scope} {X : Cx} {W : WX} {f : Str} {sp : ThSp} {body : Expr} {scope : Scope} {t : TP} {al : List Nat} {p p2 p3 : Pos}
/-- f(lambda: body) -/
theorem lift_lam (C : Cg G Γ k N sc X) (tk : Takes X W) (hf : Γ.tfn f = some sp) (h1 : glB sc f = true) (h2 : hasCell sc = true) (h3 : lamSB sc scope = true)
    (hm : ∀ (A : Around) (outer : List Env) (s : Shared) (H : Hp) (E : XK) (fl c' : Addr), A.guards = some [] → Room k (A.deeper (lamEnv X scope s.heap.objs.size fl c')) → PE (lamCx X A outer s H E scope fl c') body (liftP G u0 (fun cls d _ H' => E cls d H') al t)) :
    PE X (.Call (.Name f p) [.Lambda ⟨[], [], none, [], [], none, []⟩ body scope p2] [] p3) (liftP G (Γ.cost f) W [] (fun env P EP => noOwnAll env = true ∧ u0 = 0 ∧ sp (fun P' EP' => t env P' EP') P EP)) := by
  obtain ⟨g1, g2, _⟩ := glB_ok C h1
  obtain ⟨cd, Pt, g, ts, e1, TB, mem, one, mg, kp, tell, tabs, okl, codeF⟩ := (C.lam h2 f sp hf).ex
  have L : LamS X.env.scope scope := by rw [C.hsc]; exact lamS_by h3
  refine ⟨fun pins s σ H Q I ⟨T, m, Z, env, Pd, EP, ⟨hm1, ht⟩, R, ⟨no, hu, q⟩, kk, xw⟩ => wpAny_Call_Name_kw (ld_glob I g1 mg ?_ g2)⟩
  subst hu
  refine PySem.W.callWith_K (h₀ := X.base) I.ok.mod.kin kp ?_ (by rfl) (by rfl)
  show wpAny _ _ (spliced ((false, eval (.Lambda ⟨[], [], none, [], [], none, []⟩ body scope p2) X.env) :: backTo p3 (starEach [] X.env))) _ _ s
  refine Calls.spliced_cons (lam_new (ts := ts) I TB e1 mem one (tabs _ _ R.ok) rfl (L.has I.ok) fun fl c' pm ctv H1 s' I1 step tabs1 at1 no1 noF1 code1 => Calls.spliced_nil ⟨I1.kIn, ?_⟩)
  have ok1 : G.ok T H1 := okl T H Pt c' _ H1 R.ok mem step tabs1
  have notOwn : ∀ a, ¬ Own σ env a := fun a ⟨i, d, h, _⟩ => noOwn_all no i d h
  have gr : Grow G T H H1 := ⟨fun b o nf e => by
    by_cases hb : b = Pt
    · rcases step with e' | ⟨ps, ps', hp, _, _⟩
      · rw [e']; exact e
      · exact absurd (hb ▸ G.tb _ _ _ _ R.ok hp) nf
    · exact step.keep e hb, ok1⟩
  have R1 := R.growG gr
  have nfc : ¬ G.F c' := codeF T H1 c' _ ok1 code1
  obtain ⟨a, Ng, sg, cdg, hN, hv, hd, hcd, run⟩ := tell
  let G' := thG G H1 c' (lamQ X) Z
  have lk : Like G G' := thG_like
  have dm : ∀ b, H1 b ≠ none → ∃ o, H1 b = some o := fun b e => Option.ne_none_iff_exists'.mp e
  refine wpAny_call (codeAny_mono (run X.A X.stack s' H1 fl Q (WE W σ) G' (fun P' EP' => t env P' EP') T m Z Pd EP C.gd (C.roomL h2) I1.env0 lk ⟨hm1, ht⟩ ⟨R.zf, fun b z => .inl z⟩ R1.zd ⟨ok1, code1, fun _ _ _ e => e⟩ ?_ q ?_ ?_) fun r s2 q2 => ?_)
  · -- the lambda's call
    intro pn xe W2 p1 p4 tk2
    have room : Room (k + 1) (X.A.deeper (envOfC f sg s'.heap.objs.size g cdg)) := (C.roomL h2).deeper _
    refine (thunk_pe (W := W2) (tb := fun E => liftP G 0 (fun cls d _ H' => E cls d H') al t) (p1 := p1) (p2 := p4) I1 L at1 no1 noF1 rfl tk2 room C.gd (fun A outer s H E gd rm => hm A outer s H E fl c' gd rm) hN hv hd hcd).imp fun σZ HZ Q2 ⟨T2, m2, Z2, env2, P2, EP2, ⟨l1, l2⟩, R2, ⟨e0, hq⟩, k2, x2⟩ => ?_
    obtain ⟨v0, s0, d0⟩ := R2.low 0 _ e0
    cases d0
    obtain ⟨okZ, codeZ, keepZ⟩ := R2.ok
    let Zl : Addr → Prop := fun b => Z b ∨ Own σZ env2 b ∨ (Z2 b ∧ H1 b = none)
    have ownS : ∀ b, Own σZ env2 b → (H1 b = none ∨ G.F b) ∧ ((Z b ∨ H1 b = none)) := fun b ⟨i, d, a1, a2⟩ => by
      obtain ⟨n1, n2⟩ := R2.os i b d a1 a2
      refine ⟨?_, n2⟩
      by_cases e : H1 b = none
      · exact .inl e
      · by_cases f : G.F b
        · exact .inr f
        · exact absurd (.inl ⟨e, f⟩) n1
    have zmG : ∀ b, (Z b ∨ H1 b = none) → G.Zm b := fun b z => z.elim (R1.zm b) (G.zfresh T H1 b ok1)
    have hidden : Sub (hid H1 (Hz σ env Z)) (hid HZ (Hz σ env Zl)) := fun b o e => by
      obtain ⟨n, e⟩ := hid_some.mp e
      have nz : ¬ Z b := fun z => n (.inr z)
      have nf : ¬ G.F b := fun f => nz (R.zf b f)
      refine hid_some.mpr ⟨fun z => ?_, keepZ b o nf e⟩
      rcases z with z | z | z | ⟨_, z⟩
      · exact notOwn b z
      · exact nz z
      · rcases (ownS b z).1 with w | w
        · rw [w] at e; cases e
        · exact nf w
      · rw [z] at e; cases e
    have RL : ER G T2 Zl σ HZ env := by
      refine ⟨R1.len, fun i d h => ?_, fun i d h => absurd h (noOwn_all no i d), R1.inj, fun b f => .inl (R.zf b f), fun b z => ?_, okZ, fun i b d h _ => absurd h (noOwn_all no i d), fun b z => ?_⟩
      · obtain ⟨v, h1, h2⟩ := R1.low i d h
        exact ⟨v, h1, h2.sub hidden⟩
      · rcases z with z | z | ⟨z, _⟩
        · by_cases f : G.F b
          · exact G.ok_dom _ _ b okZ f
          · obtain ⟨o, e⟩ := dm b (R1.zd b z)
            rw [keepZ b o f e]
            simp
        · exact own_some R2 z
        · exact R2.zd b z
      · rcases z with z | z | ⟨_, z⟩
        · exact R1.zm b z
        · exact zmG b (ownS b z).2
        · exact zmG b (.inr z)
    have grow' : ∀ {H' : Hp}, Grow G m2 HZ H' → Grow G' m2 HZ H' := fun {H'} g => ⟨g.to, g.ok, g.to _ _ nfc codeZ, fun b o f e => g.to b o f (keepZ b o f e)⟩
    have vis : ∀ (H' : Hp), Sub (Vw H' σ env al Zl) (Vw H' σZ env2 [] Z2) := fun H' b o e => by
      obtain ⟨n, e⟩ := hid_some.mp e
      refine hid_some.mpr ⟨fun z => ?_, e⟩
      rcases z with z | z
      · exact n (.inr (.inr (.inl (ownX_nil.mp z))))
      · by_cases h : H1 b = none
        · exact n (.inr (.inr (.inr ⟨z, h⟩)))
        · exact n (.inr (.inl ((R2.zm b z).resolve_right h)))
    have visX : ∀ (H' : Hp), Sub (hid H' Zl) (hid H' Z2) := fun H' b o e => by
      obtain ⟨n, e⟩ := hid_some.mp e
      refine hid_some.mpr ⟨fun z => ?_, e⟩
      by_cases h : H1 b = none
      · exact n (.inr (.inr ⟨z, h⟩))
      · exact n (.inl ((R2.zm b z).resolve_right h))
    refine ⟨s0, codeZ, T2, m2, Zl, env, P2, EP2, ⟨by omega, l2⟩, RL, hq, fun v d H' g dv pv => k2 v d H' (grow' g) ((dv.sub (vis H')).like lk) pv, fun y cls dd H' g xd pe => ?_⟩
    exact x2 y cls dd H' (grow' g) ((xd.sub (visX H')).like lk) pe
  · -- its value
    intro v d H' g dv pv
    refine kk v d H' (gr.trans ⟨g.to, g.ok.1⟩) ?_ pv
    rw [vw_nil]
    exact (dv.like lk.symm).sub fun b o e => by
      obtain ⟨n, e⟩ := hid_some.mp e
      exact hid_some.mpr ⟨fun z => z.elim (notOwn b) n, e⟩
  · intro y cls dd H' g xd pe
    exact xw y cls dd H' (gr.trans ⟨g.to, g.ok.1⟩) (xd.like lk.symm) pe
  · have z := g_end tk I1 q2
    cases r with
    | error e => exact z
    | ok fl => cases fl <;> first | exact z | exact z.elim
end
theorem lamB_ok {sc : Scope} {f : Str} {g : Scope → Expr → Bool} {e : Expr} (h : lamB sc f g e = true) :
    ∃ body scope p p2 p3, e = .Call (.Name f p) [.Lambda ⟨[], [], none, [], [], none, []⟩ body scope p2] [] p3 ∧ glB sc f = true ∧ hasCell sc = true ∧ lamSB sc scope = true ∧ g scope body = true := by
  unfold lamB at h
  split at h
  · simp only [Bool.and_eq_true, decide_eq_true_eq] at h
    obtain ⟨⟨⟨⟨rfl, h1⟩, h2⟩, h3⟩, h4⟩ := h
    exact ⟨_, _, _, _, _, rfl, h1, h2, h3, h4⟩
  · cases h
end DL

/-! DLW: the further built-ins and methods are sound. -/
namespace DL
open PySem PySem.Spec PyProof.Rows L2
section
variable {G : Ctx} {Γ : Gam} {k : Nat} {X : Cx} {W : WX}
/-- the arguments, each by itself -/
def PEz (G : Ctx) (Γ : Gam) (X : Cx) (W : WX) : Ms → List Expr → Prop
  | .nil, [] => True
  | .cons a r, x :: xs => (PE X x (liftP G (co Γ a) W (al a) (den Γ a)) ∧ isSt x = false) ∧ PEz G Γ X W r xs
  | _, _ => False
theorem base_ok {o : Expr} {nm : Str} {env : Env} (h : recvOk o = true) : attributeBase o nm env (eval o env) = eval o env := by
  cases o <;> first
    | rfl
    | (exfalso; revert h; simp [recvOk]; done)
theorem methA_ok {nm : Str} {e : Expr} {xs : List Expr} (h : methA nm e = some xs) : ∃ o p es q, e = .Call (.Attribute o nm p) es [] q ∧ xs = o :: es ∧ recvOk o = true ∧ (p.endLine == q.line) = true ∧ ∀ x ∈ es, isSt x = false := by
  unfold methA at h
  split at h
  · rename_i o x p es q
    split at h
    · rename_i c
      simp only [Bool.and_eq_true, decide_eq_true_eq, Bool.not_eq_true', beq_iff_eq] at c
      obtain ⟨⟨⟨rfl, c2⟩, c3⟩, c4⟩ := c
      cases h
      exact ⟨o, p, es, q, rfl, rfl, c2, by simpa using c3, fun y hy => by
        cases e : isSt y with
        | false => rfl
        | true => rw [List.any_eq_true.mpr ⟨y, hy, e⟩] at c4; cases c4⟩
    · cases h
  · cases h
/-! ### xs.count(x) -/
def rCntD (G : Ctx) : V → List V → Hp → VK → Prop := fun x xs H Q => ∃ (v : V) (dx : D) (ds : List D), xs = [v] ∧ dat DD dx = true ∧ ds.all (dat DD) = true ∧ Den G H x (.lst ds) ∧ Den G H v dx ∧ Q (.int (ds.countP fun z => deq z dx : Nat)) H
theorem count_eqOf {pins : List (Addr × Obj)} {σ : SS} {H : Hp} {s : Shared} (I : Inv X pins σ H s) (hK : G.K = X.K) {x : D} : ∀ {vs : List V} {us : List Value} {ds : List D}, Vals vs us → DenL G H vs ds → ds.all (dat DD) = true → us.countP (eqOf G H x) = ds.countP fun z => deq z x
  | _, _, _, .nil, .nil, _ => rfl
  | _, _, _, .cons r rs, .cons d dr, h => by
    simp only [List.all_cons, Bool.and_eq_true] at h
    rw [List.countP_cons, List.countP_cons, eqOf_at I hK r d h.1, count_eqOf I hK rs dr h.2]
theorem mt_lcountD (hK : G.K = X.K) (hr : Room k X.A) : MtR X "list.count" (rCntD G) := by
  intro pins s σ H x xs v us Q I rx rxs ⟨w, dx, ds, ew, hx, hs, h1, h2, q⟩
  subst ew
  obtain ⟨u, rfl, ru⟩ := rxs.one
  obtain ⟨a, vs, rfl, ha, hv⟩ := den_lst h1
  cases (show v = .ref a from rx)
  obtain ⟨its, r, ⟨⟨cls, dd, data, sl⟩, n, ho, hc, hdn, hd⟩, hz⟩ := I.list (SqL.of ha)
  simp only at hc hd
  subst hc hd
  refine call_meets PySem.F.slot_list_count ⟨_, ho, rfl⟩ PySem.F.entry_list_count (PySem.F.args_list_count_2 _ _)
    (SeqAt.list_countAt a its.toArray n dd sl u (eqOf G H dx)) ⟨ho, fun y hy => ?_, ?_⟩
  · obtain ⟨v', z, r', d', hm⟩ := mem_den r hv y (by simpa using hy)
    have hz := List.all_eq_true.mp hs z hm
    rw [eqOf_at I hK r' d' hz]
    exact den_eq I hK DD z dx v' w y u X.A.in1 hz hx d' h2 r' ru (units2 hr)
  · refine ⟨.int _, H, I.tok _, ⟨s.toks, ?_⟩, q⟩
    show Value.int ((its.toArray.toList.countP (eqOf G H dx) : Nat) : Int) s.toks = _
    rw [show its.toArray.toList = its from rfl, count_eqOf I hK r hv hs]
/-- a first argument, told what it is, then the others -/
def tRecv (c : V → Hp → Prop) (r : List V → Hp → VK → Prop) (to : TE) (ta : TA) : TE := fun σ H Q => to σ H fun x H1 => c x H1 ∧ ta σ H1 fun xs H2 => r (x :: xs) H2 Q
section
variable {c : V → Hp → Prop} {r : List V → Hp → VK → Prop} {f : FL} {g : D → Bool} {t : TP} {u : TPL} {u1 u2 : Nat} {ala alb al : List Nat} {e : Expr}
theorem lift_rP (o : CallD G r f) (hc : ∀ H x d, Den G H x d → g d = true → c x H) (hcs : ∀ H H' x, Sub H H' → c x H → c x H') (sa : ∀ i ∈ ala, i ∈ al) (sb : ∀ i ∈ alb, i ∈ al) (h : PE X e (tRecv c r (liftP G u1 W ala t) (liftA G u2 W alb u))) : PE X e (liftP G (u1 + u2) W al (dFx g f t u)) :=
  h.imp fun σ H Q ⟨T, m, Z, env, P, EP, ⟨hm, ht⟩, R, q, k, x⟩ => ⟨T, T + u1, Z, env, _, EP, ⟨Nat.le_refl _, by omega⟩, R, q, fun v d H1 g1 hv ⟨q0, q1⟩ => ⟨hcs _ _ _ hid_sub (hc _ _ _ hv q0), T + u1, m, Z, env, _, EP, ⟨by omega, by omega⟩, R.growG g1, q1, fun vs ds H2 g2 hw q2 =>
    o _ Z σ env al H2 _ _ P Q ((R.growG g1).growG g2) (.cons (hv.sub (vw_sub (R.growG g1) g2 sa)) (hw.sub (vw_mono sb))) q2 fun v d H3 g3 hd p => k v d H3 ((g1.trans g2).trans g3) hd p, x.grow g1⟩, x.le (by omega)⟩
theorem lift_rF (o : CallDf G r f) (hc : ∀ H x d, Den G H x d → g d = true → c x H) (hcs : ∀ H H' x, Sub H H' → c x H → c x H') (sa : ∀ i ∈ ala, i ∈ al) (sb : ∀ i ∈ alb, i ∈ al) (h : PE X e (tRecv c r (liftP G u1 W ala t) (liftA G u2 W alb u))) : PE X e (liftP G (u1 + u2) W [] (dFx g f t u)) :=
  h.imp fun σ H Q ⟨T, m, Z, env, P, EP, ⟨hm, ht⟩, R, q, k, x⟩ => ⟨T, T + u1, Z, env, _, EP, ⟨Nat.le_refl _, by omega⟩, R, q, fun v d H1 g1 hv ⟨q0, q1⟩ => ⟨hcs _ _ _ hid_sub (hc _ _ _ hv q0), T + u1, m, Z, env, _, EP, ⟨by omega, by omega⟩, R.growG g1, q1, fun vs ds H2 g2 hw q2 =>
    o _ Z σ env al H2 _ _ P Q ((R.growG g1).growG g2) (.cons (hv.sub (vw_sub (R.growG g1) g2 sa)) (hw.sub (vw_mono sb))) q2 fun v d hd p => k v d H2 (g1.trans g2) (hd _) p, x.grow g1⟩, x.le (by omega)⟩
theorem lift_rN (o : CallDn G r f) (hc : ∀ H x d, Den G H x d → g d = true → c x H) (hcs : ∀ H H' x, Sub H H' → c x H → c x H') (sa : ∀ i ∈ ala, i ∈ al) (sb : ∀ i ∈ alb, i ∈ al) (h : PE X e (tRecv c r (liftP G u1 W ala t) (liftA G u2 W alb u))) : PE X e (liftN G (u1 + u2) W al (dFx g f t u)) :=
  h.imp fun σ H Q ⟨T, m, Z, env, P, EP, ⟨hm, ht⟩, R, q, k, x⟩ => ⟨T, T + u1, Z, env, _, EP, ⟨Nat.le_refl _, by omega⟩, R, q, fun v d H1 g1 hv ⟨q0, q1⟩ => ⟨hcs _ _ _ hid_sub (hc _ _ _ hv q0), T + u1, m, Z, env, _, EP, ⟨by omega, by omega⟩, R.growG g1, q1, fun vs ds H2 g2 hw q2 =>
    o _ Z σ env al H2 _ _ P Q ((R.growG g1).growG g2) (.cons (hv.sub (vw_sub (R.growG g1) g2 sa)) (hw.sub (vw_mono sb))) q2 fun p o d hp hd pp => k p o d H2 (g1.trans g2) hp hd pp, x.grow g1⟩, x.le (by omega)⟩
end
theorem tyV_sub {K : PySem.W.Frag} {T : String} {H H' : Hp} {x : V} (s : Sub H H') (h : tyV K T x H) : tyV K T x H' := by
  cases x <;> first
    | exact h
    | skip
  rename_i p
  show _ ∨ _
  rcases (show _ ∨ _ from h) with ⟨h, xs, q⟩ | h | ⟨h, q⟩ | ⟨h, S, n, q⟩
  · exact .inl ⟨h, xs, SqL.sub s q⟩
  · exact .inr (.inl h)
  · refine .inr (.inr (.inl ⟨h, ?_⟩))
    rcases q with ⟨kvs, q⟩ | ⟨kvs, q⟩
    · exact .inl ⟨kvs, s _ _ q⟩
    · exact .inr ⟨kvs, s _ _ q⟩
  · exact .inr (.inr (.inr ⟨h, S, n, s _ _ q⟩))
def uncons (r : V → List V → Hp → VK → Prop) : List V → Hp → VK → Prop
  | x :: xs, H, Q => r x xs H Q
  | [], _, _ => False
theorem bm_recv {K : PySem.W.Frag} {T : String} {r : V → List V → Hp → VK → Prop} {to : TE} {ta : TA} {e : Expr} (h : PE X e (tBM K T r to ta)) : PE X e (tRecv (tyV K T) (uncons r) to ta) := h
theorem o_cnt : CallDf G (uncons (rCntD G)) (fxF .cnt) := by
  intro T Z σ env al H vs ds P Q R hd hf kk
  simp only [fxF] at hf
  split at hf
  · cases hd with
    | cons h1 r => cases r with
      | cons h2 r => cases r with
        | nil => exact ⟨_, _, _, rfl, hf.1, hf.2.1, h1.sub vw_up, h2.sub vw_up, kk _ _ (fun _ => .int _) hf.2.2⟩
  · exact hf.elim
theorem lst_ty {K : PySem.W.Frag} {g : D → Bool} (hg : g = fxG .cnt) : ∀ (H : Hp) (x : V) (d : D), Den G H x d → g d = true → tyV K "list" x H := fun H x d hd h => by
  subst hg
  cases d <;> first
    | (cases h; done)
    | skip
  obtain ⟨a, vs, rfl, ha, _⟩ := den_lst hd
  show _ ∨ _
  exact .inl ⟨rfl, vs, SqL.of ha⟩
theorem lift_o2N {r : R2} {f : FL} {g : D → Bool} {t1 t2 : TP} {u1 u2 : Nat} {ala alb al : List Nat} {e : Expr} (o : CallDn G (fun vs H Q => ∃ x y, vs = [x, y] ∧ r x y H Q) f) (sa : ∀ i ∈ ala, i ∈ al) (sb : ∀ i ∈ alb, i ∈ al) (h : PE X e (tOp r (liftP G u1 W ala t1) (liftP G u2 W alb t2))) : PE X e (liftN G (u1 + (u2 + 0)) W al (dFx g f t1 (dCons t2 dNil))) :=
  h.imp fun σ H Q ⟨T, m, Z, env, P, EP, ⟨hm, ht⟩, R, q, k, x⟩ => ⟨T, T + u1, Z, env, _, EP, ⟨Nat.le_refl _, by omega⟩, R, q, fun v d H1 g1 hv ⟨q0, q1⟩ => ⟨T + u1, m, Z, env, _, EP, ⟨by omega, by omega⟩, R.growG g1, q1, fun w e H2 g2 hw q2 => by
    obtain ⟨x, y, ev, q⟩ := o _ Z σ env al H2 [v, w] _ P Q ((R.growG g1).growG g2) (.cons (hv.sub (vw_sub (R.growG g1) g2 sa)) (.cons (hw.sub (vw_mono sb)) .nil)) q2 fun p o d hp hd pp => k p o d H2 (g1.trans g2) hp hd pp
    cases ev
    exact q, x.grow g1⟩, x.le (by omega)⟩
theorem o_catN : CallDn G (fun vs H Q => ∃ x y, vs = [x, y] ∧ rCat x y H Q) (fxF .cat) := by
  intro T Z σ env al H vs ds P Q R hd hf kk
  simp only [fxF] at hf
  split at hf
  · obtain ⟨v, w, rfl, hv, hw⟩ := denL2 hd
    obtain ⟨a, xs, rfl, ha, hx⟩ := den_lst hv
    obtain ⟨b, ys, rfl, hb, hy⟩ := den_lst hw
    exact ⟨_, _, rfl, a, b, xs, ys, rfl, rfl, vw_up _ _ ha, vw_up _ _ hb, by rw [hx.length, hy.length]; exact hf.1, fun p hp => kk p _ (.lst _) hp ⟨_, rfl, hx.app hy⟩ hf.2⟩
  · exact hf.elim
theorem cat_new (C : Cg G Γ k N sc X) {es : Ms} {e : Expr} {xs : List Expr} (h : fxA .cat e = some xs) (z : PEz G Γ X W es xs) : PE X e (liftN G (coL Γ es) W (alL es) (den Γ (.fx .cat es))) := by
  cases e with
  | BinOp x op y p =>
    cases op with
    | Add =>
      cases h
      match es, z with
      | .cons m1 (.cons m2 .nil), ⟨⟨z1, _⟩, ⟨z2, _⟩, _⟩ => exact lift_o2N (al := al m1 ++ (al m2 ++ [])) o_catN (fun i hi => List.mem_append_left _ hi) (fun i hi => List.mem_append_right _ (List.mem_append_left _ hi)) (pe_op op_cat z1 z2)
    | _ => cases h
  | _ => cases h
theorem fx_any (C : Cg G Γ k N sc X) (f : Fx) {es : Ms} {e : Expr} {xs : List Expr} (h : fxA f e = some xs) (z : PEz G Γ X W es xs) : PE X e (liftP G (coL Γ es) W (if fxFlat f = true then [] else alL es) (den Γ (.fx f es))) := by
  cases f with
  | cnt =>
    obtain ⟨h1, h2⟩ := Option.filter_eq_some_iff.mp h
    obtain ⟨o, p, as, q, rfl, rfl, h3, h4, h5⟩ := methA_ok h1
    match as, es, z with
    | [a], .cons m1 (.cons m2 .nil), ⟨⟨z1, _⟩, ⟨z2, n2⟩, _⟩ =>
      have s2 := star_cons a [] X.env (isSt_ok n2)
      have pe := pe_bm (cpos := q) (apos := p) PySem.F.plainAttrs_list PySem.F.slot_list_count PySem.F.type_list_count (mt_lcountD C.hK C.room) z1 (lift_cons (al := al m2) subS sub0 (pa_cons z2 (lift_nil pa_nil) s2)) (base_ok h3) (by rw [s2]; rfl) h4 s2 rfl
      exact lift_rF (al := al m1 ++ al m2) (g := fxG .cnt) o_cnt (lst_ty rfl) (fun H H' x s h => tyV_sub s h) mem_l mem_r (bm_recv pe)
  | cat => exact lift_new (cat_new C h z)
theorem fx_new (C : Cg G Γ k N sc X) (f : Fx) (hn : fxNew f = true) {es : Ms} {e : Expr} {xs : List Expr} (h : fxA f e = some xs) (z : PEz G Γ X W es xs) : PE X e (liftN G (coL Γ es) W (if fxFlat f = true then [] else alL es) (den Γ (.fx f es))) := by
  cases f with
  | cnt => cases hn
  | cat => exact cat_new C h z
theorem nameC_ok (C : Cg G Γ k N sc X) {scope : Scope} (hcl : hasCell scope = true → hasCell sc = true) (s : Shared) (H : Hp) (A : Addr) (cl : List (Str × Addr)) (fp : List Addr) : ∀ {js : List Nat} {ts : List Expr}, nameC N sc scope js ts = true →
    PGs (X.blk s H scope (compEnvC scope cl A X.env) fp) ts (gNames js) ∧ (assignEach ts (X.blk s H scope (compEnvC scope cl A X.env) fp).env).length = js.length ∧ (assignEach ts (X.blk s H scope (compEnvC scope cl A X.env) fp).env).findIdx? (·.1) = none
  | [], [], _ => ⟨pgs_nil, rfl, rfl⟩
  | [], _ :: _, h => by simp [nameC] at h
  | j :: js, [], h => by simp [nameC] at h
  | j :: js, t :: ts, h => by
    have CB := C.blk hcl s H A cl fp
    cases t with
    | Name x p =>
      simp only [nameC, Bool.and_eq_true, decide_eq_true_eq] at h
      obtain ⟨⟨h1, h5⟩, h2⟩ := h
      obtain ⟨q1, q3, q4⟩ := nameC_ok C hcl s H A cl fp h2
      have locX : L2.Loc (X.blk s H scope (compEnvC scope cl A X.env) fp).env.scope x ∧ ((X.blk s H scope (compEnvC scope cl A X.env) fp).fn x = true ∨ (X.blk s H scope (compEnvC scope cl A X.env) fp).env.scope.names.lookup x = some .local) := by
        have es : (X.blk s H scope (compEnvC scope cl A X.env) fp).env.scope = relS scope sc := CB.hsc
        rw [es]
        unfold L2.Loc
        split at h5
        · rename_i q
          exact ⟨.inl q, .inr q⟩
        · rename_i q
          simp only [decide_eq_true_eq] at h5
          refine ⟨.inr q, .inl ?_⟩
          show (scope.names.lookup x == some NameKind.cell) = true
          rw [h5]
          rfl
        · cases h5
      refine ⟨pgs_cons (pg_name (by rw [CB.hN]; exact C.nd) (by rw [CB.hN]; exact h1) locX.1 locX.2) q1, ?_, ?_⟩
      · show (_ :: assignEach ts _).length = _
        simp [q3]
      · show (_ :: assignEach ts _).findIdx? _ = none
        rw [List.findIdx?_cons]
        simp [q4]
    | _ => simp [nameC] at h
theorem ownC_ok {scope : Scope} : ∀ {js : List Nat} {ts : List Expr}, nameC N sc scope js ts = true → (ownC js ts).map (·.2) = js
  | [], [], _ => rfl
  | [], _ :: _, h => by simp [nameC] at h
  | j :: js, [], h => by simp [nameC] at h
  | j :: js, t :: ts, h => by
    cases t with
    | Name x p =>
      simp only [nameC, Bool.and_eq_true] at h
      show j :: (ownC js ts).map (·.2) = _
      rw [ownC_ok h.2]
    | _ => simp [nameC] at h
theorem nameC_pg (C : Cg G Γ k N sc X) {scope : Scope} (hcl : hasCell scope = true → hasCell sc = true) {js : List Nat} {ts : List Expr} {kd : Nat} {p : Pos} (h : nameC N sc scope js ts = true) (s : Shared) (H : Hp) (A : Addr) (cl : List (Str × Addr)) (fp : List Addr) :
    PG (X.blk s H scope (compEnvC scope cl A X.env) fp) (.Tuple ts kd p) (gTup X.K js.length (gNames js)) := by
  obtain ⟨q1, q3, q4⟩ := nameC_ok C hcl s H A cl fp h
  exact pg_tup (C.blk hcl s H A cl fp).calm q1 q3 q4
theorem fxA_bool {f : Fx} {op : BoolOp} {xs : List Expr} {p : Pos} : fxA f (.BoolOp op xs p) = none := by cases f <;> rfl
theorem fxA_comp {f : Fx} {e : Expr} {xs : List Expr} (h : fxA f e = some xs) : isComp e = false := by
  cases f with
  | cnt =>
    obtain ⟨h1, h2⟩ := Option.filter_eq_some_iff.mp h
    obtain ⟨o, p, as, q, rfl, _⟩ := methA_ok h1
    rfl
  | cat => cases e <;> first | rfl | cases h
theorem fxA_slice {f : Fx} {l u s : Option Expr} {p : Pos} : fxA f (.Slice l u s p) = none := by cases f <;> rfl
theorem fx_shape {f : Fx} {e : Expr} {xs : List Expr} {env : Env} (h : fxA f e = some xs) : ∀ whole, isTrue e env whole = (do let v ← whole; standAt e.pos; holding [v] (truthy v)) := by
  intro whole
  cases f with
  | cnt =>
    obtain ⟨h1, h2⟩ := Option.filter_eq_some_iff.mp h
    obtain ⟨o, p, as, q, rfl, _⟩ := methA_ok h1
    rfl
  | cat => cases e <;> first | rfl | cases h
end
end DL

/-! D13: the check is sound (expressions): all of it. -/
namespace DL
open PySem PySem.Spec PyProof.Rows L2
/-- gives a new object -/
def isNew : M → Bool
  | .lst _ => true
  | .dct0 => true
  | .ldc1 _ _ => true
  | .srtl _ => true
  | .srtc _ _ _ _ _ => true
  | .lc _ _ _ _ _ => true
  | .blt .list _ => true
  | .lct _ _ _ _ => true
  | .fx f _ => fxNew f
  | _ => false
section
variable {G : Ctx} {Γ : Gam} {k : Nat} {u0 u1 u2 : Nat}
theorem srt_call {X : Cx} {N : List Str} {sc : Scope} {e : Expr} {t : TA} {p pos : Pos} (C : Cg G Γ k N sc X) (h1 : glB sc "sorted" = true) (ha : PA X [e] t) (ns : isSt e = false) : PE X (.Call (.Name "sorted" p) [e] [] pos) (tCB (rSortedSet X.w) t) := by
  obtain ⟨g1, g2, g3⟩ := glB_ok C h1
  exact pe_callB (cr_sortedSet C.calm) g1 (C.free _ (by decide)) (by decide +kernel) ha g3 g2 (star_cons e [] X.env (isSt_ok ns)) rfl
theorem srtl_pe {X : Cx} {N : List Str} {sc : Scope} {W : WX} {x : Expr} {t : TP} {al ala : List Nat} {p q r pos : Pos} (C : Cg G Γ k N sc X) (hx : PE X x (liftP G u0 W ala t)) (h1 : glB sc "sorted" = true) (h2 : glB sc "set" = true) (ns : isSt x = false) : PE X (.Call (.Name "sorted" p) [.Call (.Name "set" q) [x] [] r] [] pos) (liftN G u0 W al (dSrtL t)) := by
  obtain ⟨g1, g2, g3⟩ := glB_ok C h2
  have inner := pe_callTy (p := q) (pos := r) (cr_setL C.calm) g1 (C.free _ (by decide)) PyProof.Rows.boot_set (pa_cons hx pa_nil (star_cons x [] X.env (isSt_ok ns))) g3 g2 (star_cons x [] X.env (isSt_ok ns)) rfl
  exact lift_srtL C.hK (srt_call C h1 (pa_cons inner pa_nil rfl) rfl)
theorem srtc_pe {X : Cx} {N : List Str} {sc scope : Scope} {W : WX} {x : Str} {i : Nat} {elt iter : Expr} {ifs : List Expr} {p2 p q pos : Pos} {als ale : List Nat} {src : TPL} {wi : TI} {c : TPT} {te : TP} (C : Cg G Γ k N sc X) (h1 : glB sc "sorted" = true) (h2 : N[i]? = some x) (h3 : blkC N sc scope [(x, i)] = true)
    (h5 : (match (relS scope sc).names.lookup x with | some .local => true | some .cell => decide (scope.names.lookup x = some .cell) | _ => false) = true) (hcl : hasCell scope = true → hasCell sc = true) (w2 : SrcW G u0 W X als src wi) (w1 : PI X (.Name x p2) iter wi) (w3 : ∀ x, foldedSetIterable iter X.env x = pure x)
    (hc : ∀ (s : Shared) (H : Hp) (A : Addr) (cl : List (Str × Addr)) (fp : List Addr), PTs (X.blk s H scope (compEnvC scope cl A X.env) fp) ifs (liftT G u1 W0 c)) (he : ∀ (s : Shared) (H : Hp) (A : Addr) (cl : List (Str × Addr)) (fp : List Addr), PE (X.blk s H scope (compEnvC scope cl A X.env) fp) elt (liftP G u2 W0 ale te)) {al : List Nat} :
    PE X (.Call (.Name "sorted" q) [.SetComp elt [⟨.Name x p2, iter, ifs, 0⟩] scope p] [] pos) (liftN G (u0 + sizeLine * (u1 + u2)) W al (dSrtC i als src c te)) := by
  have locX : ∀ (s : Shared) (H : Hp) (A : Addr) (cl : List (Str × Addr)) (fp : List Addr), L2.Loc (X.blk s H scope (compEnvC scope cl A X.env) fp).env.scope x ∧ ((X.blk s H scope (compEnvC scope cl A X.env) fp).fn x = true ∨ (X.blk s H scope (compEnvC scope cl A X.env) fp).env.scope.names.lookup x = some .local) := fun s H A cl fp => by
    have es : (X.blk s H scope (compEnvC scope cl A X.env) fp).env.scope = relS scope sc := (C.blk hcl s H A cl fp).hsc
    rw [es]
    unfold L2.Loc
    split at h5
    · rename_i z
      exact ⟨.inl z, .inr z⟩
    · rename_i z
      simp only [decide_eq_true_eq] at h5
      refine ⟨.inr z, .inl ?_⟩
      show (scope.names.lookup x == some NameKind.cell) = true
      rw [h5]
      rfl
    · cases h5
  have inner := pe_setC (intSets X) (own := [(x, i)]) (g := gName i) (pos := p) C.calm (by rw [C.hN]; exact C.nd) w1 (blkOk_by (by rw [C.hN, C.hsc]; exact h3)) (fun s H A cl fp => pg_name (by rw [(C.blk hcl s H A cl fp).hN]; exact C.nd) (by rw [(C.blk hcl s H A cl fp).hN]; exact h2) (locX s H A cl fp).1 (locX s H A cl fp).2) hc he w3
  exact lift_srtC w2 (srt_call C h1 (pa_cons inner pa_nil rfl) rfl)
theorem true_of {m : M} {a : Expr} {X : Cx} {W : WX} {t : TP} {al : List Nat} (hK : G.K = X.K) (h : PE X a (liftP G u0 W al t)) (he : ∀ whole, isTrue a X.env whole = (do let v ← whole; standAt a.pos; holding [v] (truthy v))) : PT X a (liftT G u0 W (dTru t)) := lift_tru hK h he
theorem blt_new {X : Cx} {N : List Str} {sc : Scope} {W : WX} {es : List Expr} {x : Str} {p pos : Pos} {al : List Nat} {u : TPL} (C : Cg G Γ k N sc X) (hx : x = Str.ofString "list") (hgl : glB sc x = true) (hne : es.isEmpty = false)
    (ha : PA X es (liftA G u0 W al u)) (hns : ∀ a ∈ es, ∀ v p, a ≠ .Starred v p) : PE X (.Call (.Name x p) es [] pos) (liftN G u0 W al (dCall fList u)) := by
  obtain ⟨g1, g2, g3⟩ := glB_ok C hgl
  subst hx
  cases es with
  | nil => cases hne
  | cons e r => exact lift_calln (o_list C.hK) (pe_callTy call_list_of g1 (C.free _ (by decide)) boot_list ha g3 g2 (star_cons e r X.env (hns e List.mem_cons_self)) (plain_star r X.env pos fun a h => hns a (List.mem_cons_of_mem _ h)))
theorem blt_any {X : Cx} {N : List Str} {sc : Scope} {W : WX} {es : List Expr} {x : Str} {p pos : Pos} {al : List Nat} {u : TPL} (C : Cg G Γ k N sc X) (b : Blt) (hx : x = Str.ofString (bltN b)) (hgl : glB sc x = true) (hne : es.isEmpty = false)
    (ha : PA X es (liftA G u0 W al u)) (hns : ∀ a ∈ es, ∀ v p, a ≠ .Starred v p) : PE X (.Call (.Name x p) es [] pos) (liftP G u0 W al (dCall (bltF b) u)) := by
  have hf := C.free x (by rw [hx]; exact bltV b)
  obtain ⟨g1, g2, g3⟩ := glB_ok C hgl
  cases es with
  | nil => cases hne
  | cons e r =>
    have s1 := star_cons e r X.env (hns e List.mem_cons_self)
    have s2 := plain_star r X.env pos fun a h => hns a (List.mem_cons_of_mem _ h)
    cases b with
    | list => exact lift_new (blt_new C hx hgl hne ha hns)
    | len => subst hx; exact lift_call (o_len C.hK) (pe_callB call_lenX g1 hf boot_len ha g3 g2 s1 s2)
    | isi => subst hx; exact lift_call (o_isi C.hK) (pe_callB call_isi g1 hf boot_isinstance ha g3 g2 s1 s2)
    | all => subst hx; exact lift_call o_all (pe_callB (cr_all C.calm) g1 hf (by decide +kernel) ha g3 g2 s1 s2)
    | any => subst hx; exact lift_call o_any (pe_callB (cr_any C.calm) g1 hf (by decide +kernel) ha g3 g2 s1 s2)
    | tuple => subst hx; exact lift_call (o_tuple C.hK) (pe_callTy call_tuple_of g1 hf boot_tuple ha g3 g2 s1 s2)
    | min => subst hx; exact lift_call (o_minS C.hK) (pe_callB (call_minQ C.calm C.room) g1 hf (by decide +kernel) ha g3 g2 s1 s2)
    | max => subst hx; exact lift_call (o_maxS C.hK) (pe_callB (call_maxQ C.calm C.room) g1 hf (by decide +kernel) ha g3 g2 s1 s2)
    | abs => subst hx; exact lift_call o_abs (pe_callB call_abs g1 hf (by decide +kernel) ha g3 g2 s1 s2)
    | int => subst hx; exact lift_call o_int1 (pe_callTy call_int1 g1 hf boot_int ha g3 g2 s1 s2)
    | repr => subst hx; exact lift_call o_repr (pe_callB (call_repr2 C.hK C.hP C.hw C.room C.gd) g1 hf boot_repr ha g3 g2 s1 s2)
theorem call_any {X : Cx} {N : List Str} {sc : Scope} {W : WX} {es : List Expr} {f : Str} {p pos : Pos} {al : List Nat} {u : TPL} {ps : List Str} {sp : FSp} (C : Cg G Γ k N sc X) (tk : Takes X W) (hf : Γ.fn f = some (ps, sp)) (hgl : glB sc f = true)
    (ha : PA X es (liftA G u1 W al u)) (hns : ∀ a ∈ es, ∀ v p, a ≠ .Starred v p) (hnil : es = [] → ∀ env P EP, u env P EP → P []) : PE X (.Call (.Name f p) es [] pos) (liftP G (u1 + Γ.cost f) W al (dG sp ps.length u)) := by
  obtain ⟨g1, g2, _⟩ := glB_ok C hgl
  obtain ⟨fa, fd, m1, m2, bd, F, _⟩ := C.fn f ps sp hf
  cases es with
  | cons e r => exact lift_g (pe_g F C.room C.gd g1 m1 m2 bd tk ha hns g2)
  | nil => exact lift_g ((pe_g0 F C.room C.gd g1 m1 m2 bd tk g2).imp fun σ H Q ⟨T, m, Z, env, P, EP, ⟨hm, ht⟩, R, q, kk, x⟩ => kk [] [] H (R.self.le (by omega)) .nil (hnil rfl _ _ _ q))
theorem plainIx {b : Expr} (h : ∀ l u s p, b ≠ .Slice l u s p) : PlainIx b := by
  intro o i
  cases b <;> first
    | rfl
    | exact absurd rfl (h _ _ _ _)
theorem ch_noSlice {N : List Str} {sc : Scope} {b : Expr} : ∀ (m : M), chE N sc m b = true → ∀ l u s p, b ≠ .Slice l u s p := by
  intro m
  match m with
  | .flat a => exact fun h => ch_noSlice a (by simpa only [chE] using h)
  | .fx f es =>
    intro h l u s p z
    subst z
    simp [chE, fxA_slice] at h
  | .var _ | .non | .bl _ | .int _ | .str _ | .con _ | .ty _ _ | .bin _ _ _ | .cmp _ _ _ | .chain _ _ _ _ _ | .isN _ | .notN _ | .and _ _ | .or _ _ | .not _ | .ife _ _ _ | .tup _ | .lst _ | .call _ _ | .callk _ _ _ | .blt _ _
  | .lc _ _ _ _ _ | .idx _ _ | .sl _ _ _ | .rget _ _ _ | .rpop _ _ _ | .dct0 | .cin _ _ _ | .isE _ _ | .callv _ _ | .calls _ _ | .lam _ _ | .ldc1 _ _ | .isT _ _ | .srtl _ | .srtc _ _ _ _ _ | .lct _ _ _ _ | .mkx _ _ | .mkk _ _ _ | .fld _ _ | .isV _ => intro h l u s p z; subst z; simp [chE, rsB, cinB, isEB, cvB, csB, lamB, isTB, srtlB, srtcB] at h
def atomM : M → Bool
  | .var _ => true
  | .call _ _ => true
  | .callk _ _ _ => true
  | .blt _ _ => true
  | .idx _ _ => true
  | .bin _ _ _ => true
  | .bl _ => true
  | .isE _ _ => true
  | .callv _ _ => true
  | .calls _ _ => true
  | .lam _ _ => true
  | .fx _ _ => true
  | .fld _ _ => true
  | .isV _ => true
  | _ => false
theorem fxC_ok {N : List Str} {sc : Scope} {f : Fx} {es : Ms} {e : Expr} (h : chE N sc (.fx f es) e = true) : ∃ xs, fxA f e = some xs ∧ chL N sc es xs = true := by
  simp only [chE] at h
  split at h
  · rename_i xs q
    exact ⟨xs, q, h⟩
  · cases h
theorem lctC_ok {N : List Str} {sc : Scope} {js : List Nat} {src : Srt} {c : Mo} {t : M} {e : Expr} (h : chE N sc (.lct js src c t) e = true) : ∃ elt ts kd p2 iter ifs scope p, e = .ListComp elt [⟨.Tuple ts kd p2, iter, ifs, 0⟩] scope p ∧ blkC N sc scope (ownC js ts) = true ∧ chR N sc src iter = true ∧ nameC N sc scope js ts = true ∧ chC N (relS scope sc) c ifs = true ∧ chE N (relS scope sc) t elt = true ∧ (!hasCell scope || hasCell sc) = true := by
  cases e with
  | ListComp elt gens scope p =>
    cases gens with
    | cons g gs => cases gs with
      | nil =>
        obtain ⟨tg, iter, ifs, asy⟩ := g
        cases tg with
        | Tuple ts kd p2 =>
          by_cases ha : asy = 0
          · subst ha
            simp only [chE, Bool.and_eq_true] at h
            obtain ⟨⟨⟨⟨⟨h1, h2⟩, h3⟩, h4⟩, h5⟩, h6⟩ := h
            exact ⟨_, _, _, _, _, _, _, _, rfl, h1, h2, h3, h4, h5, h6⟩
          · simp [chE, ha] at h
        | _ => simp [chE] at h
      | _ => simp [chE] at h
    | _ => simp [chE] at h
  | _ => simp [chE] at h
theorem tru_shape {N : List Str} {sc : Scope} {env : Env} {e : Expr} (m : M) (ha : atomM m = true) (h : chE N sc m e = true) : ∀ whole, isTrue e env whole = (do let v ← whole; standAt e.pos; holding [v] (truthy v)) := by
  intro whole
  match m with
  | .var i => cases e <;> first | rfl | simp [chE] at h
  | .call f es => cases e <;> first | rfl | simp [chE] at h
  | .callk f ks es => cases e <;> first | rfl | simp [chE] at h
  | .blt b es => cases e <;> first | rfl | simp [chE] at h
  | .idx a b => cases e <;> first | rfl | simp [chE] at h
  | .bin o a b => cases e <;> first | rfl | simp [chE] at h
  | .bl b => cases e <;> first | rfl | simp [chE] at h
  | .isE a c => cases e <;> first | rfl | simp [chE, isEB] at h
  | .callv f es => cases e <;> first | rfl | simp [chE, cvB] at h
  | .calls f a => cases e <;> first | rfl | simp [chE, csB] at h
  | .lam f a => cases e <;> first | rfl | simp [chE, lamB] at h
  | .fld a f => cases e <;> first | rfl | simp [chE] at h
  | .isV a => cases e <;> first | rfl | simp [chE, isEB] at h
  | .fx f es =>
    obtain ⟨xs, h1, _⟩ := fxC_ok h
    exact fx_shape h1 whole
mutual
theorem sound {N : List Str} {sc : Scope} {X : Cx} {W : WX} (C : Cg G Γ k N sc X) (tk : Takes X W) : ∀ (m : M) (e : Expr), chE N sc m e = true → PE X e (liftP G (co Γ m) W (al m) (den Γ m)) := by
  intro m e h
  match m with
  | .var i =>
    cases e with
    | Name x p =>
      simp only [chE, Bool.and_eq_true, decide_eq_true_eq, Bool.not_eq_true'] at h
      obtain ⟨⟨⟨h1, h2⟩, h3⟩, h4⟩ := h
      exact lift_var (pe_var (by rw [C.hN]; exact h1) (visB_ok C h2) h3 h4)
    | _ => simp [chE] at h
  | .non =>
    cases e with
    | Constant c j p =>
      cases c with
      | none => exact lift_c (fun H => .non) pe_non
      | _ => simp [chE] at h
    | _ => simp [chE] at h
  | .bl b =>
    cases e with
    | Constant c j p =>
      cases c with
      | bool b' =>
        simp only [chE, beq_iff_eq] at h
        subst h
        exact lift_c (fun H => .bl _) pe_bl
      | _ => simp [chE] at h
    | _ => simp [chE] at h
  | .int i =>
    cases e with
    | Constant c j p =>
      cases c with
      | int i' =>
        simp only [chE, decide_eq_true_eq] at h
        subst h
        exact lift_c (fun H => .int _) pe_int
      | _ => simp [chE] at h
    | UnaryOp o e1 p =>
      cases o with
      | USub =>
        cases e1 with
        | Constant c j p2 =>
          cases c with
          | int i' =>
            simp only [chE, decide_eq_true_eq] at h
            subst h
            exact lift_c (fun H => .int _) ((pe_un un_neg pe_int).imp fun σ H Q q => ⟨_, rfl, q⟩)
          | _ => simp [chE] at h
        | _ => simp [chE] at h
      | _ => simp [chE] at h
    | _ => simp [chE] at h
  | .str z =>
    cases e with
    | Constant c j p =>
      cases c with
      | str z' =>
        simp only [chE, decide_eq_true_eq] at h
        subst h
        exact lift_c (fun H => .str _) pe_str
      | _ => simp [chE] at h
    | _ => simp [chE] at h
  | .con x =>
    cases e with
    | Name y p =>
      simp only [chE, Bool.and_eq_true, decide_eq_true_eq] at h
      obtain ⟨h1, h2⟩ := h
      subst h1
      obtain ⟨g1, g2, _⟩ := glB_ok C h2
      simp only [den]
      cases hc : Γ.con x with
      | none => exact ⟨fun pins s σ H Q I ⟨T, m, Z, env, P, EP, hm, R, q, _⟩ => q.elim⟩
      | some d =>
        obtain ⟨u, v, m1, m2, m3⟩ := C.con x d hc
        exact lift_c m3 (pe_glob g1 m1 m2 g2)
    | _ => simp [chE] at h
  | .ty x n =>
    cases e with
    | Name y p =>
      simp only [chE, Bool.and_eq_true, decide_eq_true_eq] at h
      obtain ⟨⟨⟨h1, h2⟩, h3⟩, h4⟩ := h
      subst h1
      obtain ⟨g1, g2, g3⟩ := glB_ok C h2
      exact lift_c (v := .ty n) (fun H => .ty n) (pe_bltn g1 (C.free x h4) h3 rfl g3 g2)
    | _ => simp [chE] at h
  | .bin o a b =>
    cases e with
    | BinOp x p y pos =>
      simp only [chE, Bool.and_eq_true, decide_eq_true_eq] at h
      obtain ⟨⟨h1, h2⟩, h3⟩ := h
      subst h1
      obtain ⟨r, r1, r2⟩ := bop_ok C o
      exact lift_op r2 mem_l mem_r (pe_op r1 (sound C tk a x h2) (sound C tk b y h3))
    | _ => simp [chE] at h
  | .cmp o a b =>
    cases e with
    | Compare x ops ys pos =>
      cases ops with
      | cons p ps => cases ps with
        | nil => cases ys with
          | cons y ys => cases ys with
            | nil =>
              simp only [chE, Bool.and_eq_true, decide_eq_true_eq] at h
              obtain ⟨⟨h1, h2⟩, h3⟩ := h
              subst h1
              obtain ⟨r, r1, r2⟩ := cop_ok C o
              exact lift_opF r2 (cop_flat o) (pe_cmpR r1 (sound C tk a x h2) (sound C tk b y h3) (cop_mark o y))
            | _ => simp [chE] at h
          | _ => simp [chE] at h
        | _ => simp [chE] at h
      | _ => simp [chE] at h
    | _ => simp [chE] at h
  | .chain o q a b c =>
    cases e with
    | Compare x ops ys pos =>
      cases ops with
      | cons p ps => cases ps with
        | cons p2 ps => cases ps with
          | nil => cases ys with
            | cons y ys => cases ys with
              | cons z ys => cases ys with
                | nil =>
                  simp only [chE, Bool.and_eq_true, decide_eq_true_eq] at h
                  obtain ⟨⟨⟨⟨h1, h1'⟩, h2⟩, h3⟩, h4⟩ := h
                  subst h1 h1'
                  obtain ⟨r, r1, r2⟩ := cop_ok C o
                  obtain ⟨r', r1', r2'⟩ := cop_ok C q
                  exact lift_chain r2 r2' (pe_chain r1 r1' (sound C tk a x h2) (sound C tk b y h3) (sound C tk c z h4) (by simp only [lastMarks]; exact cop_mark q z)) (cop_flat o) (cop_flat q)
                | _ => simp [chE] at h
              | _ => simp [chE] at h
            | _ => simp [chE] at h
          | _ => simp [chE] at h
        | _ => simp [chE] at h
      | _ => simp [chE] at h
    | _ => simp [chE] at h
  | .isN a =>
    cases e with
    | Compare x ops ys pos =>
      cases ops with
      | cons p ps => cases p with
        | Is => cases ps with
          | nil => cases ys with
            | cons y ys => cases ys with
              | nil => cases y with
                | Constant cc j p2 => cases cc with
                  | none =>
                    have h2 : chE N sc a x = true := by simpa only [chE] using h
                    exact lift_un o_isN (pe_cmp (pc_isN (sound C tk a x h2)) rfl)
                  | _ => simp [chE] at h
                | _ => simp [chE] at h
              | _ => simp [chE] at h
            | _ => simp [chE] at h
          | _ => simp [chE] at h
        | _ => simp [chE] at h
      | _ => simp [chE] at h
    | _ => simp [chE] at h
  | .notN a =>
    cases e with
    | Compare x ops ys pos =>
      cases ops with
      | cons p ps => cases p with
        | IsNot => cases ps with
          | nil => cases ys with
            | cons y ys => cases ys with
              | nil => cases y with
                | Constant cc j p2 => cases cc with
                  | none =>
                    have h2 : chE N sc a x = true := by simpa only [chE] using h
                    exact lift_un o_notN (pe_cmp (pc_notN (sound C tk a x h2)) rfl)
                  | _ => simp [chE] at h
                | _ => simp [chE] at h
              | _ => simp [chE] at h
            | _ => simp [chE] at h
          | _ => simp [chE] at h
        | _ => simp [chE] at h
      | _ => simp [chE] at h
    | _ => simp [chE] at h
  | .and a b =>
    cases e with
    | BoolOp op xs p =>
      cases op with
      | And => cases xs with
        | cons x xs => cases xs with
          | cons y xs => cases xs with
            | nil =>
              simp only [chE, Bool.and_eq_true] at h
              exact lift_and C.hK mem_l mem_r (pe_andT (sound C tk a x h.1) (pe_one (sound C tk b y h.2)))
            | cons z r =>
              simp only [chE, Bool.and_eq_true] at h
              exact lift_and C.hK mem_l mem_r (pe_andT (sound C tk a x h.1) (sound C tk b _ h.2))
          | _ => simp [chE] at h
        | _ => simp [chE] at h
      | _ => simp [chE] at h
    | _ => simp [chE] at h
  | .or a b =>
    cases e with
    | BoolOp op xs p =>
      cases op with
      | Or => cases xs with
        | cons x xs => cases xs with
          | cons y xs => cases xs with
            | nil =>
              simp only [chE, Bool.and_eq_true] at h
              exact lift_or C.hK mem_l mem_r (pe_orT (sound C tk a x h.1) (pe_one (sound C tk b y h.2)))
            | cons z r =>
              simp only [chE, Bool.and_eq_true] at h
              exact lift_or C.hK mem_l mem_r (pe_orT (sound C tk a x h.1) (sound C tk b _ h.2))
          | _ => simp [chE] at h
        | _ => simp [chE] at h
      | _ => simp [chE] at h
    | _ => simp [chE] at h
  | .not a =>
    cases e with
    | UnaryOp op x p =>
      cases op with
      | Not =>
        have h2 : chE N sc a x = true := by simpa only [chE] using h
        exact lift_not C.hK (pe_notT (sound C tk a x h2))
      | _ => simp [chE] at h
    | _ => simp [chE] at h
  | .ife c a b =>
    cases e with
    | IfExp z x y p =>
      simp only [chE, Bool.and_eq_true] at h
      exact lift_if mem_l mem_r (pe_ifExp (soundT C tk c z h.1.1) (sound C tk a x h.1.2) (sound C tk b y h.2))
    | _ => simp [chE] at h
  | .tup es =>
    cases e with
    | Tuple xs k2 p =>
      have h2 : chL N sc es xs = true := by simpa only [chE] using h
      exact lift_tup (pe_tup (soundL C tk es xs h2).1)
    | _ => simp [chE] at h
  | .lst es =>
    cases e with
    | List xs p =>
      have h2 : chL N sc es xs = true := by simpa only [chE] using h
      exact lift_new (lift_lst (pe_lst (soundL C tk es xs h2).1))
    | _ => simp [chE] at h
  | .call f es =>
    cases e with
    | Call fn xs kws p =>
      cases fn with
      | Name x p2 => cases kws with
        | nil =>
          simp only [chE, Bool.and_eq_true, decide_eq_true_eq] at h
          obtain ⟨⟨h1, h2⟩, h3⟩ := h
          subst h1
          obtain ⟨q1, q2, q3⟩ := soundL C tk es xs h3
          simp only [den]
          cases hf : Γ.fn f with
          | none => exact ⟨fun pins s σ H Q I ⟨T, m, Z, env, P, EP, hm, R, q, _⟩ => q.elim⟩
          | some z => exact call_any C tk (ps := z.1) (sp := z.2) hf h2 q1 q2 q3
        | _ => simp [chE] at h
      | _ => simp [chE] at h
    | _ => simp [chE] at h
  | .callk f ks es =>
    cases e with
    | Call fn xs kws p =>
      cases fn with
      | Name x p2 => cases xs with
        | nil =>
          simp only [chE, Bool.and_eq_true, decide_eq_true_eq] at h
          obtain ⟨⟨h1, h2⟩, h3⟩ := h
          subst h1
          simp only [den]
          cases hf : Γ.fn f with
          | none => exact ⟨fun pins s σ H Q I ⟨T, m, Z, env, P, EP, hm, R, q, _⟩ => q.elim⟩
          | some z => exact pe_kw C tk (ps := z.1) (sp := z.2) hf h2 (soundK C tk ks es kws h3) (kw_names ks es kws h3)
        | _ => simp [chE] at h
      | _ => simp [chE] at h
    | _ => simp [chE] at h
  | .blt b es =>
    cases e with
    | Call fn xs kws p =>
      cases fn with
      | Name x p2 => cases kws with
        | nil =>
          simp only [chE, Bool.and_eq_true, decide_eq_true_eq, Bool.not_eq_true'] at h
          obtain ⟨⟨⟨h1, h2⟩, h3⟩, h4⟩ := h
          obtain ⟨q1, q2, _⟩ := soundL C tk es xs h3
          exact blt_any C b h1 h2 h4 q1 q2
        | _ => simp [chE] at h
      | _ => simp [chE] at h
    | _ => simp [chE] at h
  | .lc i x src c t =>
    cases e with
    | ListComp elt gens scope p =>
      cases gens with
      | cons g gs => cases gs with
        | nil =>
          obtain ⟨tg, iter, ifs, asy⟩ := g
          cases tg with
          | Name y p2 =>
            by_cases ha : asy = 0
            · subst ha
              simp only [chE, Bool.and_eq_true, decide_eq_true_eq] at h
              obtain ⟨⟨⟨⟨⟨⟨⟨h1, h2⟩, h3⟩, h4⟩, h5⟩, h6⟩, h7⟩, h8⟩ := h
              have hcl := cell_imp h8
              subst h1
              obtain ⟨wi, w1, w2, w3⟩ := soundS C tk src iter h4
              have locX : ∀ (s : Shared) (H : Hp) (A : Addr) (cl : List (Str × Addr)) (fp : List Addr), L2.Loc (X.blk s H scope (compEnvC scope cl A X.env) fp).env.scope x ∧ ((X.blk s H scope (compEnvC scope cl A X.env) fp).fn x = true ∨ (X.blk s H scope (compEnvC scope cl A X.env) fp).env.scope.names.lookup x = some .local) := fun s H A cl fp => by
                have es : (X.blk s H scope (compEnvC scope cl A X.env) fp).env.scope = relS scope sc := (C.blk hcl s H A cl fp).hsc
                rw [es]
                unfold L2.Loc
                split at h5
                · rename_i q
                  exact ⟨.inl q, .inr q⟩
                · rename_i q
                  simp only [decide_eq_true_eq] at h5
                  refine ⟨.inr q, .inl ?_⟩
                  show (scope.names.lookup x == some NameKind.cell) = true
                  rw [h5]
                  rfl
                · cases h5
              refine lift_new (lift_lcS (al := i :: (alS src ++ al t)) (ale := al t) (als := alS src) (c := denC Γ c) w2 List.mem_cons_self (fun j hj => List.mem_cons_of_mem _ (List.mem_append_right _ hj)) (fun j hj => List.mem_cons_of_mem _ (List.mem_append_left _ hj)) ?_)
              exact pe_lc (own := [(x, i)]) (g := gName i) C.calm (by rw [C.hN]; exact C.nd) (w1 _) (blkOk_by (by rw [C.hN, C.hsc]; exact h3))
                (fun s H A cl fp => pg_name (by rw [(C.blk hcl s H A cl fp).hN]; exact C.nd) (by rw [(C.blk hcl s H A cl fp).hN]; exact h2) (locX s H A cl fp).1 (locX s H A cl fp).2)
                (fun s H A cl fp => soundC (C.blk hcl s H A cl fp) takes0 c ifs h6) (fun s H A cl fp => sound (C.blk hcl s H A cl fp) takes0 t elt h7) w3
            · simp [chE, ha] at h
          | _ => simp [chE] at h
        | _ => simp [chE] at h
      | _ => simp [chE] at h
    | _ => simp [chE] at h
  | .idx a b =>
    cases e with
    | Subscript x y p =>
      simp only [chE, Bool.and_eq_true] at h
      exact lift_op (o_idx C.hK) mem_l mem_r (pe_ix (ix_all C.hP C.hw C.room) (sound C tk a x h.1) (sound C tk b y h.2) (plainIx (ch_noSlice b h.2)))
    | _ => simp [chE] at h
  | .sl a lo hi =>
    cases e with
    | Subscript x y p =>
      cases y with
      | Slice l u st p2 => cases st with
        | none =>
          simp only [chE, Bool.and_eq_true] at h
          exact lift_sl C.hK (pe_slice sl_X (sound C tk a x h.1.1) (soundO C tk lo l h.1.2) (soundO C tk hi u h.2))
        | _ => simp [chE] at h
      | _ => simp [chE] at h
    | _ => simp [chE] at h
  | .flat a => exact lift_flat (sound C tk a e (by simpa only [chE] using h))
  | .dct0 =>
    cases e with
    | Dict ks vs p =>
      cases ks with
      | nil => cases vs with
        | nil => exact lift_new (lift_dct0 pe_dnewK)
        | cons _ _ => simp [chE] at h
      | cons _ _ => simp [chE] at h
    | _ => simp [chE] at h
  | .rget i key t => exact lift_rget C (by simpa only [chE] using h)
  | .rpop i key m2 =>
    cases e with
    | IfExp c a b p =>
      simp only [chE, Bool.and_eq_true] at h
      exact lift_rpop C h.1.1 h.1.2 (sound C tk m2 b h.2)
    | _ => simp [chE] at h
  | .srtl a =>
    obtain ⟨x, p, q, r, t, rfl, h1, h2, h3, h4⟩ := srtlB_ok (by simpa only [chE] using h)
    exact lift_new (srtl_pe C (sound C tk a x h4) h1 h2 h3)
  | .srtc i x src c t =>
    obtain ⟨elt, p2, iter, ifs, scope, p, q, r, rfl, h1, h2, h3, h4, h5, h6, h7, h8⟩ := srtcB_ok (by simpa only [chE] using h)
    have hcl := cell_imp h8
    obtain ⟨wi, w1, w2, w3⟩ := soundS C tk src iter h4
    exact lift_new (srtc_pe C h1 h2 h3 h5 hcl w2 (w1 _) w3 (fun s H A cl fp => soundC (C.blk hcl s H A cl fp) takes0 c ifs h6) (fun s H A cl fp => sound (C.blk hcl s H A cl fp) takes0 t elt h7))
  | .ldc1 a b =>
    cases e with
    | Dict ks vs p =>
      match ks, vs with
      | [some k1], [v1] =>
        simp only [chE, Bool.and_eq_true] at h
        exact lift_new (lift_ldc1 C.hP C.hw mem_l mem_r (pe_mdisp (pps_cons (sound C tk a k1 h.1) (sound C tk b v1 h.2) pps_nil) rfl rfl (by simp) (by simp)))
      | [], _ => simp [chE] at h
      | [none], _ => simp [chE] at h
      | [some _], [] => simp [chE] at h
      | [some _], _ :: _ :: _ => simp [chE] at h
      | _ :: _ :: _, _ => simp [chE] at h
    | _ => simp [chE] at h
  | .mkx c a =>
    cases e with
    | Call fn xs kws p =>
      cases fn with
      | Name x p2 => cases xs with
        | cons y ys => cases ys with
          | nil => cases kws with
            | nil =>
              simp only [chE, Bool.and_eq_true, decide_eq_true_eq, Bool.not_eq_true'] at h
              obtain ⟨⟨⟨h1, h2⟩, h3⟩, h4⟩ := h
              subst h1
              exact lift_mkx C h2 h3 (sound C tk a y h4)
            | cons _ _ => simp [chE] at h
          | cons _ _ => simp [chE] at h
        | nil => simp [chE] at h
      | _ => simp [chE] at h
    | _ => simp [chE] at h
  | .mkk c f a =>
    cases e with
    | Call fn xs kws p =>
      cases fn with
      | Name x p2 => cases xs with
        | nil => cases kws with
          | cons kw ks => cases ks with
            | nil =>
              obtain ⟨nm, y, kp⟩ := kw
              cases nm with
              | some g =>
                simp only [chE, Bool.and_eq_true, decide_eq_true_eq] at h
                obtain ⟨⟨⟨h1, h2⟩, h3⟩, h4⟩ := h
                subst h1
                subst h3
                exact lift_mkk C h2 (sound C tk a y h4)
              | none => simp [chE] at h
            | cons _ _ => simp [chE] at h
          | nil => simp [chE] at h
        | cons _ _ => simp [chE] at h
      | _ => simp [chE] at h
    | _ => simp [chE] at h
  | .fld a f =>
    cases e with
    | Attribute o g p =>
      simp only [chE, Bool.and_eq_true, decide_eq_true_eq] at h
      obtain ⟨⟨⟨h1, h2⟩, h3⟩, h4⟩ := h
      subst h1
      exact lift_fld C (base_ok h2) h3 (sound C tk a o h4)
    | _ => simp [chE] at h
  | .isV a =>
    obtain ⟨x, p, q, r, rfl, h1, h2, h3, h4⟩ := isEB_ok (by simpa only [chE] using h)
    exact lift_isV C h1 h2 h3 (sound C tk a x h4)
  | .fx f es =>
    obtain ⟨xs, h1, h2⟩ := fxC_ok h
    exact fx_any C f h1 (soundZ C tk es xs h2)
  | .lct js src c t =>
    obtain ⟨elt, ts, kd, p2, iter, ifs, scope, p, rfl, h1, h2, h3, h4, h5, h6⟩ := lctC_ok h
    have hcl := cell_imp h6
    obtain ⟨wi, w1, w2, w3⟩ := soundR C tk src iter h2
    refine lift_new (lift_lct (js := js) C.hK w2 (fun j hj => List.mem_append_left _ hj) (fun j hj => List.mem_append_right _ (List.mem_append_right _ hj)) (fun j hj => List.mem_append_right _ (List.mem_append_left _ hj)) ?_)
    have pe := pe_lc (pos := p) (own := ownC js ts) (g := gTup X.K js.length (gNames js)) C.calm (by rw [C.hN]; exact C.nd) (w1 ts kd p2) (blkOk_by (by rw [C.hN, C.hsc]; exact h1)) (fun s H A cl fp => nameC_pg C hcl h3 s H A cl fp)
      (fun s H A cl fp => soundC (C.blk hcl s H A cl fp) takes0 c ifs h4) (fun s H A cl fp => sound (C.blk hcl s H A cl fp) takes0 t elt h5) w3
    rw [ownC_ok h3] at pe
    exact pe
  | .isT neg a =>
    obtain ⟨x, j, p2, p, rfl, h1⟩ := isTB_ok (by simpa only [chE] using h)
    exact lift_opF (u2 := 0) (o_isT neg) (isT_flat neg) (pe_cmpR (op_isT neg) (sound C tk a x h1) (lift_c (fun H => .bl true) pe_bl) (isT_mark neg _))
  | .cin neg a b =>
    obtain ⟨x, y, p, rfl, h1, h2, h3⟩ := cinB_ok (by simpa only [chE] using h)
    exact lift_opF (o_inX neg) (in_flat neg) (pe_cmpR (in_ok C neg) (sound C tk a x h2) (sound C tk b y h3) h1)
  | .isE a c =>
    obtain ⟨x, p, q, r, rfl, h1, h2, h3, h4⟩ := isEB_ok (by simpa only [chE] using h)
    exact lift_isE C h1 h2 h3 (sound C tk a x h4)
  | .callv f es =>
    obtain ⟨xs, p, q, rfl, h1, h2⟩ := cvB_ok (by simpa only [chE] using h)
    simp only [den, co, al]
    cases hf : Γ.fnv f with
    | none => exact ⟨fun pins s σ H Q I ⟨T, m, Z, env, P, EP, hm, R, q, _⟩ => q.elim⟩
    | some sp =>
      obtain ⟨q1, q2, q3⟩ := soundL C tk es xs h2
      obtain ⟨g1, g2, _⟩ := glB_ok C h1
      obtain ⟨fa, m1, m2, F⟩ := C.fnv f sp hf
      cases xs with
      | cons e r => exact lift_v (pe_v F C.room C.gd g1 m1 m2 tk q1 q2 g2)
      | nil => exact lift_v ((pe_v0 F C.room C.gd g1 m1 m2 tk g2).imp fun σ H Q ⟨T, m, Z, env, P, EP, ⟨hm, ht⟩, R, q, kk, x⟩ => kk [] [] H (R.self.le (by omega)) .nil (q3 rfl _ _ _ q))
  | .calls f a =>
    obtain ⟨x, p, q, r, rfl, h1, h2⟩ := csB_ok (by simpa only [chE] using h)
    simp only [den, co, al]
    cases hf : Γ.fnv f with
    | none => exact ⟨fun pins s σ H Q I ⟨T, m, Z, env, P, EP, hm, R, q, _⟩ => q.elim⟩
    | some sp =>
      obtain ⟨g1, g2, _⟩ := glB_ok C h1
      obtain ⟨fa, m1, m2, F⟩ := C.fnv f sp hf
      exact lift_vs C.hK (pe_vs F C.room C.gd g1 m1 m2 tk (sound C tk a x h2) g2)
  | .lam f m2 =>
    obtain ⟨body, scope, p, p2, p3, rfl, h1, h2, h3, h4⟩ := lamB_ok (by simpa only [chE] using h)
    simp only [den, co, al]
    cases hf : Γ.tfn f with
    | none => exact ⟨fun pins s σ H Q I ⟨T, m, Z, env, P, EP, hm, R, q, _⟩ => q.elim⟩
    | some sp => exact lift_lam C tk hf h1 h2 h3 fun A outer s H E fl c' gd rm => sound (C.lamc gd rm (LamX.lamS_by h3)) (takes_of rfl rfl rfl rfl) m2 body h4
termination_by m => (sizeOf m, 0)
decreasing_by all_goals (simp_wf; first | (subst_vars; omega) | omega)
theorem soundT {N : List Str} {sc : Scope} {X : Cx} {W : WX} (C : Cg G Γ k N sc X) (tk : Takes X W) : ∀ (m : M) (e : Expr), chE N sc m e = true → PT X e (liftT G (co Γ m) W (denT Γ m)) := by
  intro m e h
  match m with
  | .and a b =>
    cases e with
    | BoolOp op xs p => exact (soundW C tk (.and a b) op xs p h).pt
    | _ => simp [chE] at h
  | .or a b =>
    cases e with
    | BoolOp op xs p => exact (soundW C tk (.or a b) op xs p h).pt
    | _ => simp [chE] at h
  | .not a =>
    cases e with
    | UnaryOp op x p =>
      cases op with
      | Not => exact lift_notT (pt_not (soundT C tk a x (by simpa only [chE] using h)))
      | _ => simp [chE] at h
    | _ => simp [chE] at h
  | .cmp o a b =>
    cases e with
    | Compare x ops ys pos =>
      cases ops with
      | cons p ps => cases ps with
        | nil => cases ys with
          | cons y ys => cases ys with
            | nil =>
              simp only [chE, Bool.and_eq_true, decide_eq_true_eq] at h
              obtain ⟨⟨h1, h2⟩, h3⟩ := h
              subst h1
              obtain ⟨r, r1, r2⟩ := cop_ok C o
              exact lift_test (al := []) ((pt_cmpR r1 (sound C tk a x h2) (sound C tk b y h3) (cop_mark o y)).imp fun σ H Q q => imp_opF r2 (cop_flat o) σ H _ q)
            | _ => simp [chE] at h
          | _ => simp [chE] at h
        | _ => simp [chE] at h
      | _ => simp [chE] at h
    | _ => simp [chE] at h
  | .chain o q a b c =>
    cases e with
    | Compare x ops ys pos =>
      cases ops with
      | cons p ps => cases ps with
        | cons p2 ps => cases ps with
          | nil => cases ys with
            | cons y ys => cases ys with
              | cons z ys => cases ys with
                | nil =>
                  simp only [chE, Bool.and_eq_true, decide_eq_true_eq] at h
                  obtain ⟨⟨⟨⟨h1, h1'⟩, h2⟩, h3⟩, h4⟩ := h
                  subst h1 h1'
                  obtain ⟨r, r1, r2⟩ := cop_ok C o
                  obtain ⟨r', r1', r2'⟩ := cop_ok C q
                  exact lift_test (al := []) ((pt_chain r1 r1' (sound C tk a x h2) (sound C tk b y h3) (sound C tk c z h4) (by simp only [lastMarks]; exact cop_mark q z)).imp fun σ H Q qq => imp_chain r2 r2' (cop_flat q) σ H _ qq)
                | _ => simp [chE] at h
              | _ => simp [chE] at h
            | _ => simp [chE] at h
          | _ => simp [chE] at h
        | _ => simp [chE] at h
      | _ => simp [chE] at h
    | _ => simp [chE] at h
  | .isN a =>
    cases e with
    | Compare x ops ys pos =>
      cases ops with
      | cons p ps => cases p with
        | Is => cases ps with
          | nil => cases ys with
            | cons y ys => cases ys with
              | nil => cases y with
                | Constant cc j p2 => cases cc with
                  | none => exact lift_test (al := []) ((pt_cmp (pc_isN (sound C tk a x (by simpa only [chE] using h))) rfl).imp fun σ H Q q => imp_un o_isN σ H _ q)
                  | _ => simp [chE] at h
                | _ => simp [chE] at h
              | _ => simp [chE] at h
            | _ => simp [chE] at h
          | _ => simp [chE] at h
        | _ => simp [chE] at h
      | _ => simp [chE] at h
    | _ => simp [chE] at h
  | .notN a =>
    cases e with
    | Compare x ops ys pos =>
      cases ops with
      | cons p ps => cases p with
        | IsNot => cases ps with
          | nil => cases ys with
            | cons y ys => cases ys with
              | nil => cases y with
                | Constant cc j p2 => cases cc with
                  | none => exact lift_test (al := []) ((pt_cmp (pc_notN (sound C tk a x (by simpa only [chE] using h))) rfl).imp fun σ H Q q => imp_un o_notN σ H _ q)
                  | _ => simp [chE] at h
                | _ => simp [chE] at h
              | _ => simp [chE] at h
            | _ => simp [chE] at h
          | _ => simp [chE] at h
        | _ => simp [chE] at h
      | _ => simp [chE] at h
    | _ => simp [chE] at h
  | .var i => exact lift_tru C.hK (sound C tk (.var i) e h) (tru_shape (.var i) rfl h)
  | .call f es => exact lift_tru C.hK (sound C tk (.call f es) e h) (tru_shape (.call f es) rfl h)
  | .callk f ks es => exact lift_tru C.hK (sound C tk (.callk f ks es) e h) (tru_shape (.callk f ks es) rfl h)
  | .blt b es => exact lift_tru C.hK (sound C tk (.blt b es) e h) (tru_shape (.blt b es) rfl h)
  | .idx a b => exact lift_tru C.hK (sound C tk (.idx a b) e h) (tru_shape (.idx a b) rfl h)
  | .bin o a b => exact lift_tru C.hK (sound C tk (.bin o a b) e h) (tru_shape (.bin o a b) rfl h)
  | .bl b => exact lift_tru C.hK (sound C tk (.bl b) e h) (tru_shape (.bl b) rfl h)
  | .flat a => exact soundT C tk a e (by simpa only [chE] using h)
  | .cin neg a b =>
    obtain ⟨x, y, p, rfl, h1, h2, h3⟩ := cinB_ok (by simpa only [chE] using h)
    exact lift_test (al := []) ((pt_cmpR (in_ok C neg) (sound C tk a x h2) (sound C tk b y h3) h1).imp fun σ H Q q => imp_opF (o_inX neg) (in_flat neg) σ H _ q)
  | .isT neg a =>
    obtain ⟨x, j, p2, p, rfl, h1⟩ := isTB_ok (by simpa only [chE] using h)
    exact lift_test (al := []) ((pt_cmpR (op_isT neg) (sound C tk a x h1) (lift_c (W := W) (fun H => .bl true) pe_bl) (isT_mark neg _)).imp fun σ H Q q => imp_opF (u2 := 0) (o_isT neg) (isT_flat neg) σ H _ q)
  | .isE a c => exact lift_tru C.hK (sound C tk (.isE a c) e h) (tru_shape (.isE a c) rfl h)
  | .callv f es => exact lift_tru C.hK (sound C tk (.callv f es) e h) (tru_shape (.callv f es) rfl h)
  | .calls f a => exact lift_tru C.hK (sound C tk (.calls f a) e h) (tru_shape (.calls f a) rfl h)
  | .lam f a => exact lift_tru C.hK (sound C tk (.lam f a) e h) (tru_shape (.lam f a) rfl h)
  | .fld a f => exact lift_tru C.hK (sound C tk (.fld a f) e h) (tru_shape (.fld a f) rfl h)
  | .isV a => exact lift_tru C.hK (sound C tk (.isV a) e h) (tru_shape (.isV a) rfl h)
  | .fx f .nil => exact lift_tru C.hK (sound C tk (.fx f .nil) e h) (tru_shape (.fx f .nil) rfl h)
  | .fx f (.cons a r) => exact lift_tru C.hK (sound C tk (.fx f (.cons a r)) e h) (tru_shape (.fx f (.cons a r)) rfl h)
  | .non | .int _ | .str _ | .con _ | .ty _ _ | .ife _ _ _ | .tup _ | .lst _ | .lc _ _ _ _ _ | .sl _ _ _ | .rget _ _ _ | .rpop _ _ _ | .dct0 | .ldc1 _ _ | .srtl _ | .srtc _ _ _ _ _ | .lct _ _ _ _ | .mkx _ _ | .mkk _ _ _ => exact ⟨fun pins s σ H Q I ⟨T, m, Z, env, P, EP, hm, R, q, _⟩ => q.elim⟩
termination_by m => (sizeOf m, 1)
decreasing_by all_goals (simp_wf; first | (subst_vars; omega) | omega)
theorem soundW {N : List Str} {sc : Scope} {X : Cx} {W : WX} (C : Cg G Γ k N sc X) (tk : Takes X W) : ∀ (m : M) (op : BoolOp) (xs : List Expr) (p : Pos), chE N sc m (.BoolOp op xs p) = true → PW X (.BoolOp op xs p) (liftT G (co Γ m) W (denT Γ m)) := by
  intro m op xs p h
  match m with
  | .and a b =>
    cases op with
    | And => cases xs with
      | cons x xs => cases xs with
        | cons y xs => cases xs with
          | nil =>
            simp only [chE, Bool.and_eq_true] at h
            exact lift_andT (pw_and (soundT C tk a x h.1) (pw_and1 (soundT C tk b y h.2)))
          | cons z r =>
            simp only [chE, Bool.and_eq_true] at h
            exact lift_andT (pw_and (soundT C tk a x h.1) (soundW C tk b _ _ _ h.2))
        | _ => simp [chE] at h
      | _ => simp [chE] at h
    | _ => simp [chE] at h
  | .or a b =>
    cases op with
    | Or => cases xs with
      | cons x xs => cases xs with
        | cons y xs => cases xs with
          | nil =>
            simp only [chE, Bool.and_eq_true] at h
            exact lift_orT (pw_or (soundT C tk a x h.1) (pw_or1 (soundT C tk b y h.2)))
          | cons z r =>
            simp only [chE, Bool.and_eq_true] at h
            exact lift_orT (pw_or (soundT C tk a x h.1) (soundW C tk b _ _ _ h.2))
        | _ => simp [chE] at h
      | _ => simp [chE] at h
    | _ => simp [chE] at h
  | .flat a => exact soundW C tk a op xs p (by simpa only [chE] using h)
  | .fx f es => exact absurd h (by simp [chE, fxA_bool])
  | .var _ | .non | .bl _ | .int _ | .str _ | .con _ | .ty _ _ | .bin _ _ _ | .cmp _ _ _ | .chain _ _ _ _ _ | .isN _ | .notN _ | .not _ | .ife _ _ _ | .tup _ | .lst _ | .call _ _ | .callk _ _ _ | .blt _ _
  | .lc _ _ _ _ _ | .idx _ _ | .sl _ _ _ | .rget _ _ _ | .rpop _ _ _ | .dct0 | .cin _ _ _ | .isE _ _ | .callv _ _ | .calls _ _ | .lam _ _ | .ldc1 _ _ | .isT _ _ | .srtl _ | .srtc _ _ _ _ _ | .lct _ _ _ _ | .mkx _ _ | .mkk _ _ _ | .fld _ _ | .isV _ => simp [chE, rsB, cinB, isEB, cvB, csB, lamB, isTB, srtlB, srtcB] at h
termination_by m => (sizeOf m, 0)
decreasing_by all_goals (simp_wf; first | (subst_vars; omega) | omega)
theorem soundL {N : List Str} {sc : Scope} {X : Cx} {W : WX} (C : Cg G Γ k N sc X) (tk : Takes X W) : ∀ (es : Ms) (xs : List Expr), chL N sc es xs = true →
    PA X xs (liftA G (coL Γ es) W (alL es) (denL Γ es)) ∧ (∀ a ∈ xs, ∀ v p, a ≠ .Starred v p) ∧ (xs = [] → ∀ env P EP, denL Γ es env P EP → P []) := by
  intro es xs h
  match es with
  | .nil =>
    cases xs with
    | nil => exact ⟨lift_nil pa_nil, fun a z => absurd z List.not_mem_nil, fun _ env P EP q => q⟩
    | cons x r => simp [chL] at h
  | .cons a r =>
    cases xs with
    | nil => simp [chL] at h
    | cons x xs =>
      simp only [chL, Bool.and_eq_true, Bool.not_eq_true'] at h
      obtain ⟨⟨h1, h2⟩, h3⟩ := h
      obtain ⟨q1, q2, _⟩ := soundL C tk r xs h3
      refine ⟨lift_cons mem_l mem_r (pa_cons (sound C tk a x h2) q1 (star_cons x xs X.env (isSt_ok h1))), fun y hy => ?_, fun z => nomatch z⟩
      rcases List.mem_cons.mp hy with e | e
      · subst e
        exact isSt_ok h1
      · exact q2 y e
termination_by es => (sizeOf es, 0)
decreasing_by all_goals (simp_wf; first | (subst_vars; omega) | omega)
theorem soundZ {N : List Str} {sc : Scope} {X : Cx} {W : WX} (C : Cg G Γ k N sc X) (tk : Takes X W) : ∀ (es : Ms) (xs : List Expr), chL N sc es xs = true → PEz G Γ X W es xs := by
  intro es xs h
  match es with
  | .nil =>
    cases xs with
    | nil => exact True.intro
    | cons x r => simp [chL] at h
  | .cons a r =>
    cases xs with
    | nil => simp [chL] at h
    | cons x xs =>
      simp only [chL, Bool.and_eq_true, Bool.not_eq_true'] at h
      exact ⟨⟨sound C tk a x h.1.2, h.1.1⟩, soundZ C tk r xs h.2⟩
termination_by es => (sizeOf es, 0)
decreasing_by all_goals (simp_wf; first | (subst_vars; omega) | omega)
theorem soundR {N : List Str} {sc : Scope} {X : Cx} {W : WX} (C : Cg G Γ k N sc X) (tk : Takes X W) : ∀ (src : Srt) (iter : Expr), chR N sc src iter = true →
    ∃ wi, (∀ ts kk p, PI X (.Tuple ts kk p) iter wi) ∧ SrcT G (coR Γ src) W X (alR src) (denR Γ src) wi ∧ ∀ x, foldedSetIterable iter X.env x = pure x := by
  intro src iter h
  match src with
  | .prs a =>
    simp only [chR, Bool.and_eq_true, Bool.not_eq_true'] at h
    refine ⟨_, fun ts kk p => pi_seq (sound C tk a iter h.2), srct_prs C.hK, fun x => ?_⟩
    cases iter <;> first
      | rfl
      | exact absurd h.1 (by simp [isSet])
  | .enu a =>
    cases iter with
    | Call fn xs kws p => cases fn with
      | Name r p2 => cases xs with
        | cons x xs => cases xs with
          | nil => cases kws with
            | nil =>
              simp only [chR, Bool.and_eq_true, decide_eq_true_eq, Bool.not_eq_true'] at h
              obtain ⟨⟨⟨h1, h2⟩, h3⟩, h4⟩ := h
              subst h1
              have s1 := star_cons x [] X.env (isSt_ok h3)
              exact ⟨_, fun ts kk p => pi_enum (glB_ok C h2).1 (C.free _ (by decide)) (pa_cons (sound C tk a x h4) pa_nil s1) s1, srct_enu C.hK, fun _ => rfl⟩
            | cons _ _ => simp [chR] at h
          | cons _ _ => simp [chR] at h
        | nil => simp [chR] at h
      | _ => simp [chR] at h
    | _ => simp [chR] at h
  | .zip a b =>
    cases iter with
    | Call fn xs kws p => cases fn with
      | Name r p2 => cases xs with
        | cons x xs => cases xs with
          | cons y xs => cases xs with
            | nil => cases kws with
              | nil =>
                simp only [chR, Bool.and_eq_true, decide_eq_true_eq, Bool.not_eq_true'] at h
                obtain ⟨⟨⟨⟨⟨h1, h2⟩, h3⟩, h4⟩, h5⟩, h6⟩ := h
                subst h1
                have s1 := star_cons x [y] X.env (isSt_ok h3)
                have s2 := star_cons y [] X.env (isSt_ok h4)
                have pa : PA X [x, y] (liftA G (co Γ a + co Γ b) W (al a ++ al b) (dCons (den Γ a) (dCons (den Γ b) dNil))) :=
                  lift_cons mem_l mem_r (pa_cons (sound C tk a x h5) (lift_cons subS sub0 (pa_cons (sound C tk b y h6) (lift_nil pa_nil) s2)) s1)
                exact ⟨_, fun ts kk p => RZ.pi_zipA (glB_ok C h2).1 (C.free _ (by decide)) pa s1 (by rw [s2]; rfl), srct_zip C.hK, fun _ => rfl⟩
              | cons _ _ => simp [chR] at h
            | cons _ _ => simp [chR] at h
          | nil => simp [chR] at h
        | nil => simp [chR] at h
      | _ => simp [chR] at h
    | _ => simp [chR] at h
termination_by src => (sizeOf src, 0)
decreasing_by all_goals (simp_wf; first | (subst_vars; omega) | omega)
theorem soundK {N : List Str} {sc : Scope} {X : Cx} {W : WX} (C : Cg G Γ k N sc X) (tk : Takes X W) : ∀ (ks : List Str) (es : Ms) (kws : List Keyword), chK N sc ks es kws = true → PK X kws (liftA G (coL Γ es) W (alL es) (denL Γ es)) := by
  intro ks es kws h
  match es with
  | .nil =>
    cases ks with
    | nil => cases kws with
      | nil => exact ⟨fun pos pins s σ H Q I ⟨T, m, Z, env, P, EP, ⟨hm, ht⟩, R, q, kk, x⟩ => pk_nil.run pos pins s σ H Q I (kk [] [] H (R.self.le (by simpa [coL] using hm)) .nil q)⟩
      | cons _ _ => simp [chK] at h
    | cons _ _ => simp [chK] at h
  | .cons a r =>
    cases ks with
    | nil => simp [chK] at h
    | cons q ks => cases kws with
      | nil => simp [chK] at h
      | cons kw kws =>
        obtain ⟨nm, x, p⟩ := kw
        cases nm with
        | none => simp [chK] at h
        | some q2 =>
          simp only [chK, Bool.and_eq_true, decide_eq_true_eq] at h
          obtain ⟨⟨h1, h2⟩, h3⟩ := h
          have hh := pk_cons (nm := some q2) (kpos := p) (sound C tk a x h2) (soundK C tk ks r kws h3)
          exact ⟨fun pos pins s σ H Q I ⟨T, m, Z, env, P, EP, ⟨hm, ht⟩, R, q, kk, xx⟩ => hh.run pos pins s σ H Q I ⟨T, T + co Γ a, Z, env, _, EP, ⟨Nat.le_refl _, by simp only [coL] at hm; omega⟩, R, q, fun v d H1 g1 hv q1 => ⟨T + co Γ a, m, Z, env, _, EP, ⟨by simp only [coL] at hm; omega, ht⟩, R.growG g1, q1, fun vs ds H2 g2 hw q2 =>
            kk _ _ H2 (g1.trans g2) (.cons (hv.sub (vw_sub (R.growG g1) g2 mem_l)) (hw.sub (vw_mono mem_r))) q2, xx.grow g1⟩, xx.le (by simp only [coL] at hm; omega)⟩⟩
termination_by _ es => (sizeOf es, 0)
decreasing_by all_goals (simp_wf; first | (subst_vars; omega) | omega)
theorem soundC {N : List Str} {sc : Scope} {X : Cx} {W : WX} (C : Cg G Γ k N sc X) (tk : Takes X W) : ∀ (c : Mo) (ifs : List Expr), chC N sc c ifs = true → PTs X ifs (liftT G (coO Γ c) W (denC Γ c)) := by
  intro c ifs h
  match c with
  | .no =>
    cases ifs with
    | nil => exact cond_none pts_nil
    | cons _ _ => simp [chC] at h
  | .yes a =>
    cases ifs with
    | nil => simp [chC] at h
    | cons x r => cases r with
      | nil => exact pts_one (soundT C tk a x (by simpa only [chC] using h))
      | cons _ _ => simp [chC] at h
termination_by c => (sizeOf c, 0)
decreasing_by all_goals (simp_wf; first | (subst_vars; omega) | omega)
theorem soundO {N : List Str} {sc : Scope} {X : Cx} {W : WX} (C : Cg G Γ k N sc X) (tk : Takes X W) : ∀ (c : Mo) (o : Option Expr), chO N sc c o = true → PO X o (liftO G (coO Γ c) W (denO Γ c)) := by
  intro c o h
  match c with
  | .no =>
    cases o with
    | none => exact lift_nop po_none
    | some _ => simp [chO] at h
  | .yes a =>
    cases o with
    | none => simp [chO] at h
    | some x => exact lift_part (po_some (sound C tk a x (by simpa only [chO] using h)))
termination_by c => (sizeOf c, 0)
decreasing_by all_goals (simp_wf; first | (subst_vars; omega) | omega)
theorem soundS {N : List Str} {sc : Scope} {X : Cx} {W : WX} (C : Cg G Γ k N sc X) (tk : Takes X W) : ∀ (src : Src) (iter : Expr), chS N sc src iter = true →
    ∃ wi, (∀ tg, PI X tg iter wi) ∧ SrcW G (coS Γ src) W X (alS src) (denS Γ src) wi ∧ ∀ x, foldedSetIterable iter X.env x = pure x := by
  intro src iter h
  match src with
  | .seq a =>
    simp only [chS, Bool.and_eq_true, Bool.not_eq_true'] at h
    refine ⟨_, fun tg => pi_seq (sound C tk a iter h.2), srcw_seq C.hK, fun x => ?_⟩
    cases iter <;> first
      | rfl
      | exact absurd h.1 (by simp [isSet])
  | .rng1 a =>
    cases iter with
    | Call fn xs kws p => cases fn with
      | Name r p2 => cases xs with
        | cons x xs => cases xs with
          | nil => cases kws with
            | nil =>
              simp only [chS, Bool.and_eq_true, decide_eq_true_eq, Bool.not_eq_true'] at h
              obtain ⟨⟨⟨h1, h2⟩, h3⟩, h4⟩ := h
              subst h1
              have s1 := star_cons x [] X.env (isSt_ok h3)
              have pa : PA X [x] (liftA G (co Γ a) W (al a) (dCons (den Γ a) dNil)) := lift_cons subS sub0 (pa_cons (sound C tk a x h4) (lift_nil pa_nil) s1)
              exact ⟨_, fun tg => pi_range1 (glB_ok C h2).1 (C.free _ (by decide)) pa s1, srcw_rng1, fun _ => rfl⟩
            | cons _ _ => simp [chS] at h
          | cons _ _ => simp [chS] at h
        | nil => simp [chS] at h
      | _ => simp [chS] at h
    | _ => simp [chS] at h
  | .rng2 a b =>
    cases iter with
    | Call fn xs kws p => cases fn with
      | Name r p2 => cases xs with
        | cons x xs => cases xs with
          | cons y xs => cases xs with
            | nil => cases kws with
              | nil =>
                simp only [chS, Bool.and_eq_true, decide_eq_true_eq, Bool.not_eq_true'] at h
                obtain ⟨⟨⟨⟨⟨h1, h2⟩, h3⟩, h4⟩, h5⟩, h6⟩ := h
                subst h1
                have s1 := star_cons x [y] X.env (isSt_ok h3)
                have s2 := star_cons y [] X.env (isSt_ok h4)
                have pa : PA X [x, y] (liftA G (co Γ a + co Γ b) W (al a ++ al b) (dCons (den Γ a) (dCons (den Γ b) dNil))) :=
                  lift_cons mem_l mem_r (pa_cons (sound C tk a x h5) (lift_cons subS sub0 (pa_cons (sound C tk b y h6) (lift_nil pa_nil) s2)) s1)
                exact ⟨_, fun tg => pi_range2 (glB_ok C h2).1 (C.free _ (by decide)) pa (by rw [s1, s2]; rfl) s2, srcw_rng2, fun _ => rfl⟩
              | cons _ _ => simp [chS] at h
            | cons _ _ => simp [chS] at h
          | nil => simp [chS] at h
        | nil => simp [chS] at h
      | _ => simp [chS] at h
    | _ => simp [chS] at h
  | .rlst i key =>
    simp only [chS, Bool.and_eq_true, Bool.not_eq_true'] at h
    refine ⟨_, fun tg => pi_seq (rsB_ok C h.1), srcw_rlst C, fun x => ?_⟩
    cases iter <;> first
      | rfl
      | exact absurd h.2 (by simp [isSet])
termination_by src => (sizeOf src, 0)
decreasing_by all_goals (simp_wf; first | (subst_vars; omega) | omega)
end
end
end DL

/-! D14a: more statements, lifted: raise, try, append, places, unpacking, the lambda's call. -/
namespace DL
open PySem PySem.Spec PyProof.Rows L2
section
variable {G : Ctx} {T m : Nat} {Z : Addr → Prop} {σ : SS} {H : Hp} {env : DEnv}
/-- a slot is forgotten, whatever it holds -/
theorem ER.drop (R : ER G T Z σ H env) (i : Nat) (o : Option V) : ER G T Z (σ.set i o) H (env.set i none) ∧ Keep G σ env H (σ.set i o) (env.set i none) H := by
  have back : ∀ {j : Nat} {b : Bool} {d : D}, (env.set i none)[j]? = some (some (b, d)) → i ≠ j ∧ env[j]? = some (some (b, d)) := fun {j b d} e => by
    by_cases hj : i = j
    · subst hj
      rw [List.getElem?_set] at e
      simp at e
    · rw [List.getElem?_set_ne hj] at e
      exact ⟨hj, e⟩
  have own : ∀ a, Own (σ.set i o) (env.set i none) a → Own σ env a := fun a ⟨j, d, h1, h2⟩ => by
    obtain ⟨hj, h1⟩ := back h1
    rw [List.getElem?_set_ne hj] at h2
    exact ⟨j, d, h1, h2⟩
  have K : Keep G σ env H (σ.set i o) (env.set i none) H := fun b u f n hb => ⟨hb, fun z => n (own b z)⟩
  have s := K.sub R
  refine ⟨⟨by rw [List.length_set, List.length_set]; exact R.len, fun j d e => ?_, fun j d e => ?_, fun j k a d f e1 e2 e3 e4 => ?_, R.zf, R.zd, R.ok, fun j a d e1 e2 => ?_, R.zm⟩, K⟩
  · obtain ⟨hj, e⟩ := back e
    obtain ⟨v, g1, g2⟩ := R.low j d e
    exact ⟨v, by rw [List.getElem?_set_ne hj]; exact g1, g2.sub s⟩
  · obtain ⟨hj, e⟩ := back e
    obtain ⟨a, u, g1, g2, g3, g4⟩ := R.own j d e
    exact ⟨a, u, by rw [List.getElem?_set_ne hj]; exact g1, g2, g3, g4.sub s⟩
  · obtain ⟨hj, e1⟩ := back e1
    obtain ⟨hk, e2⟩ := back e2
    rw [List.getElem?_set_ne hj] at e3
    rw [List.getElem?_set_ne hk] at e4
    exact R.inj j k a d f e1 e2 e3 e4
  · obtain ⟨hj, e1⟩ := back e1
    rw [List.getElem?_set_ne hj] at e2
    exact R.os j a d e1 e2
theorem disAll_at {j : Nat} {b : Bool} {d : D} (e : (disAll env)[j]? = some (some (b, d))) : b = false ∧ ∃ c, env[j]? = some (some (c, d)) := by
  unfold disAll at e
  rw [List.getElem?_map] at e
  cases q : env[j]? with
  | none => rw [q] at e; cases e
  | some o =>
    rw [q] at e
    cases o with
    | none => cases e
    | some p =>
      cases e
      exact ⟨rfl, p.1, rfl⟩
/-- all slots are shared from now on -/
theorem ER.disAll (R : ER G T Z σ H env) : ER G T Z σ H (disAll env) ∧ Keep G σ env H σ (DL.disAll env) H := by
  have none_ : ∀ a, ¬ Own σ (DL.disAll env) a := fun a ⟨j, d, h1, _⟩ => by cases (disAll_at h1).1
  have K : Keep G σ env H σ (DL.disAll env) H := fun b u f n hb => ⟨hb, none_ b⟩
  have s := K.sub R
  refine ⟨⟨by unfold DL.disAll; rw [List.length_map]; exact R.len, fun j d e => ?_, fun j d e => (by cases (disAll_at e).1), fun j k a d f e1 _ _ _ => (by cases (disAll_at e1).1), R.zf, R.zd, R.ok, fun j a d e1 _ => (by cases (disAll_at e1).1), R.zm⟩, K⟩
  obtain ⟨_, c, e⟩ := disAll_at e
  cases c with
  | false =>
    obtain ⟨v, g1, g2⟩ := R.low j d e
    exact ⟨v, g1, g2.sub s⟩
  | true =>
    obtain ⟨a, u, g1, g2, g3, g4⟩ := R.own j d e
    exact ⟨.ref a, g1, (g4.sub s).den (hid_some.mpr ⟨fun q => q.elim (none_ a) g2, g3⟩)⟩
end
section
variable {G : Ctx} {W : WX} {X : Cx} {st : Stmt} {e : Expr} {t tk : TP} {u : TPL} {al ala : List Nat} {i j : Nat} {u0 u1 u2 : Nat} {c : Str}
def sRaise (c : Str) (u : TPL) : TDS := fun E env => u env (fun ds => ds.length ≤ sizeLine ∧ E.xe ⟨c, []⟩ env) (exe E env)
theorem lift_raise {C : Addr} (hC : G.ca c = C) (h : PS X st (fun _ σ H => (liftA G u0 W al u) σ H fun vs H1 => vs.length ≤ sizeLine ∧ W (.ref C) none σ H1)) : PS X st (liftS G u0 W (sRaise c u)) := h.imp fun E σ H ⟨T, m, Z, env, DE, hm, R, q, F⟩ =>
  ⟨T, m, Z, env, _, _, hm, R, q, fun vs ds H1 g hv ⟨hl, hx⟩ => ⟨by rw [hv.length]; exact hl, F.x ⟨c, []⟩ _ _ σ H1 env (R.growG g) (R.grow g.to g.ok).2 ⟨by rw [hC], [], rfl, .nil⟩ hx⟩, xw_of R F⟩
/-- N[i].append(e) -/
def sApp (i : Nat) (al : List Nat) (t : TP) : TDS := fun E env => i ∉ al ∧ ∃ ds, env[i]? = some (some (true, .lst ds)) ∧ ds.length < sizeLine ∧ t env (fun d => E.nx ((dis al env).set i (some (true, .lst (ds ++ [d]))))) (exe E env)
theorem lift_app (h : PS X st (tDrop (tBM X.K "list" rAppend (tVar i) (tCons (liftP G u0 W al t) tNil)))) : PS X st (liftS G u0 W (sApp i al t)) := h.imp fun E σ H ⟨T, m, Z, env, DE, hm, R, ⟨ni, ds, e1, hl, q⟩, F⟩ => by
  obtain ⟨a, o, s1, nz, ha, vs, rfl, hv⟩ := R.own i _ e1
  refine ⟨.ref a, s1, .inl ⟨rfl, vs, SqL.of ha⟩, T, m, Z, env, _, _, hm, R, q, fun v d H1 g hd p => ?_, xw_of R F⟩
  have nf : ¬ G.F a := fun f => nz (R.zf a f)
  have a1 : H1 a = some (.lst vs) := g.to a _ nf ha
  obtain ⟨R1, K1⟩ := R.grow g.to g.ok
  obtain ⟨R2, K2⟩ := R1.dis al
  have e2 : (dis al env)[i]? = some (some (true, .lst ds)) := by rw [dis_keep al env ni]; exact e1
  have hv1 : DenL G (hid H1 (Hz σ (dis al env) Z)) vs ds := hv.sub ((K1.trans K2).sub R)
  obtain ⟨R3, K3⟩ := R2.mut (o := .lst (vs ++ [v])) (e := .lst (ds ++ [d])) e2 s1 ⟨_, rfl, hv1.app (.cons (hd.sub (vw_dis al)) .nil)⟩
  exact ⟨a, vs, v, rfl, rfl, a1, by rw [hv.length]; exact hl, F.n _ _ _ R3 ((K1.trans K2).trans K3) p⟩
/-- N[i][k] = e, N[i] a list -/
def sSetIx (i : Nat) (al : List Nat) (t tk : TP) : TDS := fun E env => i ∉ al ∧ ∃ ds, env[i]? = some (some (true, .lst ds)) ∧ t env (fun d => tk env (fun k => ∃ n j, k = .int n ∧ ixN ds.length n = some j ∧ E.nx ((dis al env).set i (some (true, .lst (ds.set j d))))) (exe E env)) (exe E env)
theorem DenL.setL {H : Hp} : ∀ {vs : List V} {ds : List D} (j : Nat) {v : V} {d : D}, DenL G H vs ds → Den G H v d → DenL G H (vs.set j v) (ds.set j d)
  | _, _, _, _, _, .nil, _ => .nil
  | _, _, 0, _, _, .cons _ r, h => .cons h r
  | _, _, j + 1, _, _, .cons h' r, h => .cons h' (r.setL j h)
theorem lift_setix (h : PS X st (tAsg (liftP G u1 W al t) (gSub (tVar i) (liftP G u2 W ala tk) rSetL))) : PS X st (liftS G (u1 + u2) W (sSetIx i al t tk)) := h.imp fun E σ H ⟨T, m, Z, env, DE, ⟨hm, ht⟩, R, ⟨ni, ds, e1, q⟩, F⟩ => by
  obtain ⟨a, o, s1, nz, ha, vs, rfl, hv⟩ := R.own i _ e1
  have nf : ¬ G.F a := fun f => nz (R.zf a f)
  refine ⟨T, T + u1, Z, env, _, _, ⟨Nat.le_refl _, by omega⟩, R, q, fun v d H1 g1 hd q1 => ?_, xw_of R (F.le (by omega))⟩
  have R1 := R.growG g1
  refine ⟨.ref a, s1, T + u1, m, Z, env, _, _, ⟨by omega, ht⟩, R1, q1, fun kv kd H2 g2 hk ⟨n, j, ek, hj, p⟩ => ?_, xw_of R1 (F.on (R.grow g1.to g1.ok).2)⟩
  subst ek
  cases hk
  have gg := g1.trans g2
  have a2 : H2 a = some (.lst vs) := gg.to a _ nf ha
  obtain ⟨R2, K2⟩ := R.grow gg.to gg.ok
  obtain ⟨R3, K3⟩ := R2.dis al
  have e3 : (dis al env)[i]? = some (some (true, .lst ds)) := by rw [dis_keep al env ni]; exact e1
  have hv2 : DenL G (hid H2 (Hz σ (dis al env) Z)) vs ds := hv.sub ((K2.trans K3).sub R)
  have hd2 := (hd.sub (vw_sub R1 g2 subS)).sub (vw_dis al)
  obtain ⟨R4, K4⟩ := R3.mut (o := .lst (vs.set j v)) (e := .lst (ds.set j d)) e3 s1 ⟨_, rfl, hv2.setL j hd2⟩
  exact ⟨a, vs, n, j, rfl, rfl, a2, by rw [hv.length]; exact hj, F.n _ _ _ R4 ((K2.trans K3).trans K4) p⟩
/-- N[i][k] = e, N[i] a dict -/
def sSetK (i : Nat) (al : List Nat) (t tk : TP) : TDS := fun E env => i ∉ al ∧ match env[i]? with
  | some (some (true, .ldc kvs)) => t env (fun d => tk env (fun k => (lKey k).isSome = true ∧ kvs.length < sizeLine ∧ E.nx ((dis al env).set i (some (true, .ldc (dPut kvs k d))))) (exe E env)) (exe E env)
  | some (some (true, .dct kvs)) => t env (fun d => tk env (fun k => (dKey k).isSome = true ∧ kvs.length < sizeLine ∧ E.nx ((dis al env).set i (some (true, .dct (dPut kvs k d))))) (exe E env)) (exe E env)
  | _ => False
theorem lift_setk (h : PS X st (sMPut G (tVar i) (liftP G u2 W ala tk) (liftP G u1 W al t))) : PS X st (liftS G (u1 + u2) W (sSetK i al t tk)) := h.imp fun E σ H ⟨T, m, Z, env, DE, ⟨hm, ht⟩, R, ⟨ni, q⟩, F⟩ => by
  split at q
  · rename_i kvs e1
    obtain ⟨a, o, s1, nz, ha, ks, rfl, hv⟩ := R.own i _ e1
    have nf : ¬ G.F a := fun f => nz (R.zf a f)
    refine ⟨T, T + u1, Z, env, _, _, ⟨Nat.le_refl _, by omega⟩, R, q, fun v d H1 g1 hd q1 => ?_, xw_of R (F.le (by omega))⟩
    have R1 := R.growG g1
    refine ⟨.ref a, s1, T + u1, m, Z, env, _, _, ⟨by omega, ht⟩, R1, q1, fun kv kd H2 g2 hk ⟨hs, hl, p⟩ => ?_, xw_of R1 (F.on (R.grow g1.to g1.ok).2)⟩
    obtain ⟨kk, ek⟩ := Option.isSome_iff_exists.mp hs
    have ev := den_lV ek hk
    have el := lKey_lD ek
    have gg := g1.trans g2
    have a2 := gg.to a _ nf ha
    obtain ⟨R2, K2⟩ := R.grow gg.to gg.ok
    obtain ⟨R3, K3⟩ := R2.dis al
    have e3 : (dis al env)[i]? = some (some (true, .ldc kvs)) := by rw [dis_keep al env ni]; exact e1
    have hv2 := hv.sub ((K2.trans K3).sub R)
    have hd2 := (hd.sub (vw_sub R1 g2 subS)).sub (vw_dis al)
    obtain ⟨R4, K4⟩ := R3.mut (o := LDO G.P G.w a (putK ks kk v)) (e := .ldc (dPut kvs kd d)) e3 s1 ⟨_, rfl, by rw [← el]; exact denM_put hv2 hd2⟩
    exact .inl ⟨a, ks, kk, rfl, ev, a2, by rw [hv.length]; exact hl, F.n _ _ _ R4 ((K2.trans K3).trans K4) p⟩
  · rename_i kvs e1
    obtain ⟨a, o, s1, nz, ha, ks, rfl, hv⟩ := R.own i _ e1
    have nf : ¬ G.F a := fun f => nz (R.zf a f)
    refine ⟨T, T + u1, Z, env, _, _, ⟨Nat.le_refl _, by omega⟩, R, q, fun v d H1 g1 hd q1 => ?_, xw_of R (F.le (by omega))⟩
    have R1 := R.growG g1
    refine ⟨.ref a, s1, T + u1, m, Z, env, _, _, ⟨by omega, ht⟩, R1, q1, fun kv kd H2 g2 hk ⟨hs, hl, p⟩ => ?_, xw_of R1 (F.on (R.grow g1.to g1.ok).2)⟩
    obtain ⟨kk, ek⟩ := Option.isSome_iff_exists.mp hs
    have ev := den_kV ek hk
    have el := dKey_kD ek
    have gg := g1.trans g2
    have a2 := gg.to a _ nf ha
    obtain ⟨R2, K2⟩ := R.grow gg.to gg.ok
    obtain ⟨R3, K3⟩ := R2.dis al
    have e3 : (dis al env)[i]? = some (some (true, .dct kvs)) := by rw [dis_keep al env ni]; exact e1
    have hv2 := hv.sub ((K2.trans K3).sub R)
    have hd2 := (hd.sub (vw_sub R1 g2 subS)).sub (vw_dis al)
    obtain ⟨R4, K4⟩ := R3.mut (o := .dK (putK ks kk v)) (e := .dct (dPut kvs kd d)) e3 s1 ⟨_, rfl, by rw [← el]; exact denK_put hv2 hd2⟩
    exact .inr ⟨a, ks, kk, rfl, ev, a2, by rw [hv.length]; exact hl, F.n _ _ _ R4 ((K2.trans K3).trans K4) p⟩
  · exact q.elim
def sUnp (js : List Nat) (al : List Nat) (t : TP) : TDS := fun E env => (∀ j ∈ js, j < env.length) ∧ t env (fun d => ∃ ds, d = .tup ds ∧ ds.length = js.length ∧ E.nx (setAll js ds (dis al env))) (exe E env)
theorem unp_go {m : Nat} {Z : Addr → Prop} {E : Ends} {DE : DEnds} {σ0 : SS} {env0 : DEnv} {H0 : Hp} (F : Rest G m W Z σ0 env0 H0 DE E) : ∀ (js : List Nat) (ds : List D) (vs : List V) (σ : SS) (H : Hp) (env : DEnv), ER G m Z σ H env → Keep G σ0 env0 H0 σ env H → (∀ j ∈ js, j < env.length) →
    DenL G (hid H (Hz σ env Z)) vs ds → ds.length = js.length → DE.nx (setAll js ds env) → gNames js vs σ H E.nx
  | [], [], _, σ, H, env, R, K, _, .nil, _, p => ⟨rfl, F.n _ _ _ R K p⟩
  | j :: js, d :: ds, _, σ, H, env, R, K, hj, .cons (v := v) hd hr, hl, p => by
    obtain ⟨R1, K1⟩ := R.set (i := j) (hj j List.mem_cons_self) hd
    have s := K1.sub R
    exact ⟨_, _, rfl, unp_go F js ds _ _ H _ R1 (K.trans K1) (fun i hi => by rw [List.length_set]; exact hj i (List.mem_cons_of_mem _ hi)) (hr.sub s) (by simpa using hl) p⟩
theorem lift_unp {js : List Nat} (hK : G.K = X.K) (h : PS X st (tAsg (liftP G u0 W al t) (gTup X.K js.length (gNames js)))) : PS X st (liftS G u0 W (sUnp js al t)) := h.imp fun E σ H ⟨T, m, Z, env, DE, hm, R, ⟨hj, q⟩, F⟩ =>
  ⟨T, m, Z, env, _, _, hm, R, q, fun v d H1 g hd ⟨ds, e, hl, p⟩ => by
    subst e
    obtain ⟨a, vs, rfl, ha, hv⟩ := den_tup hd
    obtain ⟨R1, K1⟩ := R.grow g.to g.ok
    obtain ⟨R2, K2⟩ := R1.dis al
    exact ⟨a, vs, rfl, hK ▸ SqT.sub vw_up ha, by rw [hv.length, hl], unp_go F js ds vs σ H1 (dis al env) R2 (K1.trans K2) (fun j z => by rw [dis_len]; exact hj j z) (hv.sub (vw_dis al)) hl p⟩, xw_of R F⟩
/-! ### try -/
/-- behind a handler: nothing is owned, i is gone, j holds the error -/
def caughtAt (i j : Nat) (x : XD) (env : DEnv) : DEnv := (((disAll env).set i none).set j (some (false, .exc x.c x.v))).set i none
def sTry (known : Str → Prop) (sub : Str → Str → Bool) (c : Str) (i j : Nat) (b : TDS) : TDS := fun E env => i < env.length ∧ j < env.length ∧ i ≠ j ∧ b { E with xe := fun x env' => known x.c ∧ env'.length = env.length ∧ (if sub x.c c = true then E.nx (caughtAt i j x env') else E.xe x env') } env
theorem lift_try {known : Str → Prop} {sub : Str → Str → Bool} {C : Addr} {b : TDS} (hx : ∀ y, known y → PySem.W.exmOne X.K (.ref (G.ca y)) (.ref C) = some (sub y c))
    (h : PS X st (fun D σ H => liftS G u0 (wKeep X.K (.ref C) i (fun _ _ _ => tAsg (tVar i) (gName j)) W D) b D σ H)) : PS X st (liftS G u0 W (sTry known sub c i j b)) := h.imp fun E σ H ⟨T, m, Z, env, DE, hm, R, ⟨hi, hj, hij, q⟩, F⟩ => by
  refine ⟨T, m, Z, env, _, hm, R, q, ⟨F.n, F.r, F.b, F.c, fun y cls dd σ' H' env' R' K' hd ⟨hk, hl, p⟩ => ?_⟩⟩
  obtain ⟨ec, fs, hf, hfs⟩ := hd
  refine ⟨sub y.c c, by rw [ec]; exact hx y.c hk, fun hb a na => ?_, fun hb => ?_⟩
  · rw [hb, if_pos rfl] at p
    have li : i < σ'.length := by rw [← R'.len, hl]; exact hi
    refine ⟨.ref a, List.getElem?_set_self li, fun free => ?_⟩
    obtain ⟨R1, K1⟩ := R'.disAll
    obtain ⟨R2, K2⟩ := R1.drop i (some (.ref a))
    obtain ⟨R3, K3, new⟩ := R2.alloc (o := EXO cls dd a) na (fun ps z => nomatch z)
    have li2 : j < ((disAll env').set i none).length := by rw [List.length_set]; unfold disAll; rw [List.length_map, hl]; exact hj
    have noOwn : ∀ b, ¬ Own (σ'.set i (some (.ref a))) ((disAll env').set i none) b := fun b ⟨k, d, h1, _⟩ => by
      by_cases hk : i = k
      · subst hk
        rw [List.getElem?_set] at h1
        simp at h1
      · rw [List.getElem?_set_ne hk] at h1
        cases (disAll_at h1).1
    have vis : Sub (hid H' Z) (hid (upd H' a (EXO cls dd a)) (Hz (σ'.set i (some (.ref a))) ((disAll env').set i none) Z)) := fun b o e => by
      obtain ⟨n, e⟩ := hid_some.mp e
      exact hid_some.mpr ⟨fun z => z.elim (noOwn b) n, by rw [upd_ne (ne_of_none e na)]; exact e⟩
    subst ec
    obtain ⟨R4, K4⟩ := R3.set (i := j) (v := .ref a) (d := .exc y.c y.v) li2 (.exc new (hf.sub vis) (hfs.sub vis))
    obtain ⟨R5, K5⟩ := R4.drop i none
    exact F.n _ _ _ R5 (((((K'.trans K1).trans K2).trans K3).trans K4).trans K5) p
  · rw [hb, if_neg (by simp)] at p
    exact F.x y cls dd σ' H' env' R' K' ⟨ec, fs, hf, hfs⟩ p
/-! ### the lambda's call -/
def thkD (th : Option (Addr × Thk)) (E : DEnds) (env : DEnv) (P : D → Prop) : Prop := match th with
  | some (fl, h) => env[0]? = some (some (false, .adr fl)) ∧ h P (exe E env)
  | none => False
def sThL (th : Option (Addr × Thk)) (i : Nat) : TDS := fun E env => i < env.length ∧ thkD th E env (fun d => E.nx (env.set i (some (true, .lst [d]))))
def sThP (th : Option (Addr × Thk)) (i : Nat) : TDS := fun E env => i < env.length ∧ thkD th E env (fun d => E.nx (env.set i (some (false, d))))
def sThE (th : Option (Addr × Thk)) : TDS := fun E env => thkD th E env (fun _ => E.nx env)
theorem never_S {t : TDS} (h : ∀ E env, ¬ t E env) : PS X st (liftS G u0 W t) := ⟨fun pins s σ H D I ⟨T, m, Z, env, DE, hm, R, q, F⟩ => absurd q (h _ _)⟩
end
end DL

/-! DLU: N[j], .. = e, .. where some of the values are new objects, owned from then on. -/
namespace DL
open PySem PySem.Spec PyProof.Rows L2
/-- a value of the tuple: is it a new object; its rounds, what it may show, what it means -/
structure Itm where
  nw : Bool
  u : Nat
  al : List Nat
  t : TP
def tItm (G : Ctx) (W : WX) (i : Itm) : TE := if i.nw = true then liftN G i.u W i.al i.t else liftP G i.u W i.al i.t
def tItms (G : Ctx) (W : WX) : List Itm → TA
  | [] => tNil
  | i :: r => tCons (tItm G W i) (tItms G W r)
def dItms : List Itm → TPL
  | [] => fun _ P _ => P []
  | i :: r => fun env P EP => i.t env (fun d => dItms r env (fun ds => P (d :: ds)) EP) EP
def uItms : List Itm → Nat
  | [] => 0
  | i :: r => i.u + uItms r
def ZS (Z : Addr → Prop) (ps : List Addr) : Addr → Prop := fun b => Z b ∨ b ∈ ps
theorem zs_nil {Z : Addr → Prop} : ZS Z [] = Z := by
  funext b
  exact propext ⟨fun h => h.elim id fun h => absurd h List.not_mem_nil, .inl⟩
theorem zs_cons {Z : Addr → Prop} {p : Addr} {ps : List Addr} : Zp (ZS Z ps) p = ZS Z (p :: ps) := by
  funext b
  refine propext ⟨fun h => ?_, fun h => ?_⟩
  · rcases h with (h | h) | h
    · exact .inl h
    · exact .inr (List.mem_cons_of_mem _ h)
    · exact .inr (h ▸ List.mem_cons_self)
  · rcases h with h | h
    · exact .inl (.inl h)
    · rcases List.mem_cons.mp h with h | h
      · exact .inr h
      · exact .inl (.inr h)
theorem zs_app {Z : Addr → Prop} {p : Addr} {ps qs : List Addr} : ZS Z (ps ++ p :: qs) = ZS Z ((p :: ps) ++ qs) := by
  funext b
  unfold ZS
  simp only [List.mem_append, List.mem_cons]
  exact propext ⟨fun h => by rcases h with h | h | h | h <;> simp [h], fun h => by rcases h with h | (h | h) | h <;> simp [h]⟩
inductive Got (G : Ctx) (Hv H : Hp) : List Itm → List V → List D → List Addr → Prop
  | nil : Got G Hv H [] [] [] []
  | old {i : Itm} {r : List Itm} {v : V} {vs : List V} {d : D} {ds : List D} {ps : List Addr} : i.nw = false → Den G Hv v d → Got G Hv H r vs ds ps → Got G Hv H (i :: r) (v :: vs) (d :: ds) ps
  | new {i : Itm} {r : List Itm} {p : Addr} {o : HO} {vs : List V} {d : D} {ds : List D} {ps : List Addr} : i.nw = true → H p = some o → RootO G Hv p o d → p ∉ ps → Got G Hv H r vs ds ps → Got G Hv H (i :: r) (.ref p :: vs) (d :: ds) (p :: ps)
theorem Got.len {G : Ctx} {Hv H : Hp} {l : List Itm} {vs : List V} {ds : List D} {ps : List Addr} (g : Got G Hv H l vs ds ps) : vs.length = l.length ∧ ds.length = l.length := by
  induction g with
  | nil => exact ⟨rfl, rfl⟩
  | old _ _ _ ih => exact ⟨by simp [ih.1], by simp [ih.2]⟩
  | new _ _ _ _ _ ih => exact ⟨by simp [ih.1], by simp [ih.2]⟩
theorem Got.move {G : Ctx} {Hv Hv' H H' : Hp} {l : List Itm} {vs : List V} {ds : List D} {ps : List Addr} (g : Got G Hv H l vs ds ps) (s : Sub Hv Hv') (k : ∀ b o, H b = some o → b ∈ ps → H' b = some o) : Got G Hv' H' l vs ds ps := by
  induction g with
  | nil => exact .nil
  | old e h _ ih => exact .old e (h.sub s) (ih k)
  | new e h r n _ ih => exact .new e (k _ _ h List.mem_cons_self) (r.sub s) n (ih fun b o h m => k b o h (List.mem_cons_of_mem _ m))
section
variable {G : Ctx} {T m : Nat} {Z : Addr → Prop} {σ : SS} {H : Hp} {env : DEnv} {W : WX} {X : Cx}
/-- hidden objects are taken out -/
theorem ER.without {ps : List Addr} (R : ER G T (ZS Z ps) σ H env) (h : ∀ b ∈ ps, ¬ Z b ∧ ¬ G.F b ∧ ¬ G.S b ∧ ∀ o, H b = some o → ¬ Fix o) : ER G T Z σ (hid H (· ∈ ps)) env := by
  have s : Sub (hid H (Hz σ env (ZS Z ps))) (hid (hid H (· ∈ ps)) (Hz σ env Z)) := fun b o e => by
    obtain ⟨n, e⟩ := hid_some.mp e
    exact hid_some.mpr ⟨fun z => n (z.elim .inl fun z => .inr (.inl z)), hid_some.mpr ⟨fun z => n (.inr (.inr z)), e⟩⟩
  refine ⟨R.len, fun i d q => ?_, fun i d q => ?_, R.inj, fun a f => ?_, fun a z e => ?_, ?_, R.os, fun a z => R.zm a (.inl z)⟩
  · obtain ⟨v, h1, h2⟩ := R.low i d q
    exact ⟨v, h1, h2.sub s⟩
  · obtain ⟨a, o, h1, h2, h3, h4⟩ := R.own i d q
    exact ⟨a, o, h1, fun z => h2 (.inl z), hid_some.mpr ⟨fun z => h2 (.inr z), h3⟩, h4.sub s⟩
  · rcases R.zf a f with z | z
    · exact z
    · exact absurd f (h a z).2.1
  · obtain ⟨o, e'⟩ := Option.ne_none_iff_exists'.mp (R.zd a (.inl z))
    have := hid_some (Z := (· ∈ ps)).mpr ⟨fun q => (h a q).1 z, e'⟩
    rw [e] at this
    cases this
  · refine G.ok_ext T H _ R.ok (fun b f => ?_) (fun b o q fs => hid_some.mpr ⟨fun z => ?_, q⟩) fun b us q => (hid_some.mp q).2
    · show hid H (· ∈ ps) b = H b
      unfold hid
      rw [if_neg fun z => (h b z).2.1 f]
    · rcases fs with fs | fs
      · exact (h b z).2.2.2 o q fs
      · exact (h b z).2.2.1 fs
theorem vw_grow {H1 H' : Hp} {al al' : List Nat} {ps : List Addr} (R : ER G T (ZS Z ps) σ H1 env) (g : Grow G m H1 H') (s : ∀ i ∈ al', i ∈ al) {qs : List Addr} (fr : ∀ b ∈ qs, H1 b = none) : Sub (Vw H1 σ env al' (ZS Z ps)) (Vw H' σ env al (ZS Z (qs ++ ps))) := fun b o e => by
  obtain ⟨n, e⟩ := hid_some.mp e
  refine hid_some.mpr ⟨fun z => ?_, g.to b o (fun f => n (.inr (R.zf b f))) e⟩
  rcases z with ⟨i, d, q1, q2, q3⟩ | z | z
  · exact n (.inl ⟨i, d, fun y => q1 (s i y), q2, q3⟩)
  · exact n (.inr (.inl z))
  · rcases List.mem_append.mp z with z | z
    · rw [fr b z] at e
      cases e
    · exact n (.inr (.inr z))
theorem items_go {al : List Nat} {EP : XD → Prop} : ∀ (l : List Itm) (P : List D → Prop) (S0 : List Addr) (T : Nat) (H : Hp) (Q : List V → Hp → Prop), ER G T (ZS Z S0) σ H env → (∀ i ∈ l, ∀ j ∈ i.al, j ∈ al) → T + uItms l ≤ m ∧ m ≤ G.top → dItms l env P EP → XW G m W (ZS Z S0) σ H EP →
    (∀ vs ds ps H', ER G m (ZS Z (ps ++ S0)) σ H' env → Grow G m H H' → (∀ p ∈ ps, H p = none) → Got G (Vw H' σ env al (ZS Z (ps ++ S0))) H' l vs ds ps → P ds → Q vs H') → tItms G W l σ H Q
  | [], P, S0, T, H, Q, R, _, ⟨hm, _⟩, q, _, k => k [] [] [] H (R.le (by simpa [uItms] using hm)) (R.self.le (by simpa [uItms] using hm)) (fun _ z => absurd z List.not_mem_nil) .nil q
  | i :: r, P, S0, T, H, Q, R, sa, ⟨hm, ht⟩, q, x, k => by
    have hu : uItms (i :: r) = i.u + uItms r := rfl
    have sr : ∀ j ∈ r, ∀ n ∈ j.al, n ∈ al := fun j hj => sa j (List.mem_cons_of_mem _ hj)
    have si : ∀ n ∈ i.al, n ∈ al := sa i List.mem_cons_self
    show tItm G W i σ H fun v H1 => tItms G W r σ H1 fun vs H2 => Q (v :: vs) H2
    unfold tItm
    cases e : i.nw with
    | false =>
      rw [if_neg (by simp)]
      refine ⟨T, T + i.u, ZS Z S0, env, _, EP, ⟨Nat.le_refl _, by omega⟩, R, q, fun v d H1 g1 hv q1 => ?_, x.le (by omega)⟩
      have R1 := R.growG g1
      refine items_go r _ S0 (T + i.u) H1 _ R1 sr ⟨by omega, ht⟩ q1 (x.grow g1) fun vs ds ps H' R' g fr got p => ?_
      exact k (v :: vs) (d :: ds) ps H' R' (g1.trans g) (fun b hb => by
        cases z : H b with
        | none => rfl
        | some o =>
          by_cases f : G.F b
          · exact absurd (fr b hb) (G.ok_dom _ H1 b R1.ok f)
          · have := g1.to b o f z
            rw [fr b hb] at this
            cases this) (.old e (hv.sub (vw_grow R1 g si fr)) got) p
    | true =>
      rw [if_pos rfl]
      refine ⟨T, T + i.u, ZS Z S0, env, _, EP, ⟨Nat.le_refl _, by omega⟩, R, q, fun p o d H1 g1 hp hr q1 => ?_, x.le (by omega)⟩
      have R1 := R.growG g1
      have nt := hr.nf.2
      have R2 := R1.hide (o := o) hp nt
      have x2 := (x.grow g1).hide (o := o) R1 hp nt
      rw [zs_cons] at R2 x2
      have gn := R1.new (o := o) hp nt
      have nfp : ¬ G.F p := fun f => G.ok_dom _ H1 p R1.ok f hp
      refine items_go r _ (p :: S0) (T + i.u) _ _ R2 sr ⟨by omega, ht⟩ q1 x2 fun vs ds ps H' R' g fr got pp => ?_
      rw [zs_app] at R' got
      have hp0 : ∀ b, H1 b = none → H b = none := fun b hb => by
        cases z : H b with
        | none => rfl
        | some u =>
          by_cases f : G.F b
          · exact absurd hb (G.ok_dom _ H1 b R1.ok f)
          · have := g1.to b u f z
            rw [hb] at this
            cases this
      have fr1 : ∀ b ∈ ps, H1 b = none ∧ b ≠ p := fun b hb => by
        have z := fr b hb
        have nb : b ≠ p := fun y => by rw [y, upd_same] at z; cases z
        rw [upd_ne nb] at z
        exact ⟨z, nb⟩
      refine k (.ref p :: vs) (d :: ds) (p :: ps) H' R' (g1.trans (gn.trans g)) (fun b hb => ?_) (.new e (g.to p o nfp upd_same) (hr.sub (vw_grow R1 (gn.trans g) si fun b hb => ?_)) (fun z => (fr1 p z).2 rfl) got) pp
      · rcases List.mem_cons.mp hb with rfl | hb
        · exact hp0 _ hp
        · exact hp0 b (fr1 b hb).1
      · rcases List.mem_cons.mp hb with rfl | hb
        · exact hp
        · exact (fr1 b hb).1
/-- the slots behind -/
def setIt : List Nat → List Itm → List D → DEnv → DEnv
  | j :: js, i :: is, d :: ds, env => setIt js is ds (env.set j (some (i.nw, d)))
  | _, _, _, env => env
def sUnpN (js : List Nat) (is : List Itm) (al : List Nat) : TDS := fun E env => (∀ j ∈ js, j < env.length) ∧ js.length = is.length ∧ js.length ≤ sizeLine ∧ dItms is env (fun ds => E.nx (setIt js is ds (dis al env))) (exe E env)
theorem hid_nil {H : Hp} : hid H (· ∈ ([] : List Addr)) = H := by
  funext b
  unfold hid
  rw [if_neg List.not_mem_nil]
theorem hid_add {H : Hp} {p : Addr} {ps : List Addr} {o : HO} (e : H p = some o) (n : p ∉ ps) : upd (hid H (· ∈ p :: ps)) p o = hid H (· ∈ ps) := by
  funext b
  by_cases hb : b = p
  · subst hb
    rw [upd_same]
    unfold hid
    rw [if_neg n, e]
  · rw [upd_ne hb]
    unfold hid
    by_cases hm : b ∈ ps
    · rw [if_pos hm, if_pos (List.mem_cons_of_mem _ hm)]
    · rw [if_neg hm, if_neg fun z => (List.mem_cons.mp z).elim hb hm]
theorem setIt_go {E : Ends} {DE : DEnds} {σ0 : SS} {env0 : DEnv} {H0 H2 Hv : Hp} (F : Rest G m W Z σ0 env0 H0 DE E) : ∀ (js : List Nat) (is : List Itm) (ds : List D) (vs : List V) (ps : List Addr) (σ : SS) (env : DEnv), ER G m Z σ (hid H2 (· ∈ ps)) env → Keep G σ0 env0 H0 σ env (hid H2 (· ∈ ps)) → (∀ j ∈ js, j < env.length) → js.length = is.length →
    Got G Hv H2 is vs ds ps → Sub Hv (hid (hid H2 (· ∈ ps)) (Hz σ env Z)) → DE.nx (setIt js is ds env) → gNames js vs σ H2 E.nx
  | [], [], _, _, _, σ, env, R, K, _, _, .nil, _, p => by
    rw [hid_nil] at R K
    exact ⟨rfl, F.n _ _ _ R K p⟩
  | j :: js, i :: is, ds, vs, ps, σ, env, R, K, hj, hl, got, s, p => by
    cases got with
    | @old _ _ v vs d ds _ e hd r =>
      obtain ⟨R1, K1⟩ := R.set (i := j) (hj j List.mem_cons_self) (hd.sub s)
      have p : DE.nx (setIt js is _ (env.set j (some (i.nw, d)))) := p
      rw [e] at p
      exact ⟨_, _, rfl, setIt_go F js is _ _ ps _ _ R1 (K.trans K1) (fun n hn => by rw [List.length_set]; exact hj n (List.mem_cons_of_mem _ hn)) (by simpa using hl) r (fun b o q => K1.sub R b o (s b o q)) p⟩
    | @new _ _ a o vs d ds ps e ha hr n r =>
      have no : hid H2 (· ∈ a :: ps) a = none := by
        unfold hid
        rw [if_pos List.mem_cons_self]
      obtain ⟨R1, K1⟩ := R.setNew (i := j) (p := a) (o := o) (d := d) (hj j List.mem_cons_self) no (hr.sub s)
      have ks := K1.sub R
      rw [hid_add ha n] at R1 K1 ks
      have p : DE.nx (setIt js is _ (env.set j (some (i.nw, d)))) := p
      rw [e] at p
      exact ⟨_, _, rfl, setIt_go F js is _ _ ps _ _ R1 (K.trans K1) (fun n hn => by rw [List.length_set]; exact hj n (List.mem_cons_of_mem _ hn)) (by simpa using hl) r (fun b o q => ks b o (s b o q)) p⟩
/-- behind the values: the slots may be set, with the tuple made or without -/
theorem unpN_go {js : List Nat} {is : List Itm} {al : List Nat} {E : Ends} {DE : DEnds} (sa : ∀ i ∈ is, ∀ j ∈ i.al, j ∈ al) (hm : T + uItms is ≤ m ∧ m ≤ G.top) (R : ER G T Z σ H env) (q : sUnpN js is al DE env) (F : Rest G m W Z σ env H DE E) :
    tItms G W is σ H fun vs H1 => vs.length = js.length ∧ gNames js vs σ H1 E.nx ∧ ∀ t, H1 t = none → gNames js vs σ (upd H1 t (.tup vs)) E.nx := by
  obtain ⟨hj, hl, hz, q⟩ := q
  have R0 := R
  rw [← zs_nil (Z := Z)] at R0
  have x0 := xw_of R F
  have x1 : XW G m W (ZS Z []) σ H (exe DE env) := by rw [zs_nil]; exact x0
  refine items_go (m := m) (al := al) is _ [] T H _ R0 sa hm q x1 fun vs ds ps H1 R1 g fr got p => ?_
  rw [List.append_nil] at R1 got
  obtain ⟨l1, l2⟩ := got.len
  have nfix : ∀ {l : List Itm} {vs : List V} {ds : List D} {ps : List Addr} {Hv : Hp}, Got G Hv H1 l vs ds ps → ∀ b ∈ ps, ∀ o, H1 b = some o → ¬ Fix o := fun g => by
    induction g with
    | nil => exact fun b z => absurd z List.not_mem_nil
    | old _ _ _ ih => exact ih
    | new _ h r _ _ ih =>
      intro b hb o e
      rcases List.mem_cons.mp hb with rfl | hb
      · rw [h] at e
        cases e
        exact r.nf.1
      · exact ih b hb o e
  have dom : ∀ {l : List Itm} {vs : List V} {ds : List D} {ps : List Addr} {Hv : Hp}, Got G Hv H1 l vs ds ps → ∀ b ∈ ps, H1 b ≠ none := fun g => by
    induction g with
    | nil => exact fun b z => absurd z List.not_mem_nil
    | old _ _ _ ih => exact ih
    | new _ h r _ _ ih =>
      intro b hb
      rcases List.mem_cons.mp hb with rfl | hb
      · rw [h]; simp
      · exact ih b hb
  have core : ∀ H2 : Hp, Grow G m H1 H2 → (∀ b o, H1 b = some o → H2 b = some o) → gNames js vs σ H2 E.nx := fun H2 gt keep => by
    have R2 := R1.growG gt
    have out : ∀ b ∈ ps, ¬ Z b ∧ ¬ G.F b ∧ ¬ G.S b ∧ ∀ o, H2 b = some o → ¬ Fix o := fun b hb => by
      have n := fr b hb
      refine ⟨fun z => R.zd b z n, fun f => G.ok_dom _ H b R.ok f n, fun s => G.sdom _ H b R.ok s n, fun o e => ?_⟩
      obtain ⟨u, eu⟩ := Option.ne_none_iff_exists'.mp (dom got b hb)
      have := keep b u eu
      rw [e] at this
      cases this
      exact nfix got b hb o eu
    have R3 := R2.without out
    obtain ⟨R4, K4⟩ := R3.dis al
    have K3 : Keep G σ env H σ env (hid H2 (· ∈ ps)) := fun b o f n e => ⟨hid_some.mpr ⟨fun z => (by rw [fr b z] at e; cases e), keep b o (g.to b o f e)⟩, n⟩
    refine setIt_go F js is ds vs ps σ _ R4 (K3.trans K4) (fun j z => by rw [dis_len]; exact hj j z) hl (got.move (fun b o e => e) fun b o e _ => keep b o e) (fun b o e => ?_) p
    refine vw_dis al b o ?_
    obtain ⟨n, e⟩ := hid_some.mp e
    exact hid_some.mpr ⟨fun z => n (z.elim .inl fun z => .inr (.inl z)), hid_some.mpr ⟨fun z => n (.inr (.inr z)), keep b o e⟩⟩
  exact ⟨by omega, core H1 R1.self fun _ _ e => e, fun t ht => core _ (R1.new (o := .tup vs) ht) fun b o e => by rw [upd_ne (ne_of_none e ht)]; exact e⟩
/-- what follows from a reading of the values -/
theorem items_mono {is : List Itm} {Q Q' : List V → Hp → Prop} : (∀ vs H, Q vs H → Q' vs H) → tItms G W is σ H Q → tItms G W is σ H Q' := by
  induction is generalizing H Q Q' with
  | nil => exact fun s q => s _ _ q
  | cons i r ih =>
    intro s q
    have q : tItm G W i σ H fun v H1 => tItms G W r σ H1 fun vs H2 => Q (v :: vs) H2 := q
    show tItm G W i σ H fun v H1 => tItms G W r σ H1 fun vs H2 => Q' (v :: vs) H2
    unfold tItm at q ⊢
    split at q
    · rename_i e
      rw [if_pos e]
      obtain ⟨T, m, Z, env, P, EP, hm, R, q, k, x⟩ := q
      exact ⟨T, m, Z, env, P, EP, hm, R, q, fun p o d H' g hp hr pp => ih (fun vs H2 => s _ _) (k p o d H' g hp hr pp), x⟩
    · rename_i e
      rw [if_neg e]
      obtain ⟨T, m, Z, env, P, EP, hm, R, q, k, x⟩ := q
      exact ⟨T, m, Z, env, P, EP, hm, R, q, fun v d H' g hv pp => ih (fun vs H2 => s _ _) (k v d H' g hv pp), x⟩
theorem lift_unpN {st : Stmt} {js : List Nat} {is : List Itm} {al : List Nat} (sa : ∀ i ∈ is, ∀ j ∈ i.al, j ∈ al) (h : PS X st (tAsg (tTup (tItms G W is)) (gTup X.K js.length (gNames js)))) : PS X st (liftS G (uItms is) W (sUnpN js is al)) := h.imp fun E σ H ⟨T, m, Z, env, DE, hm, R, q, F⟩ =>
  items_mono (fun vs H1 ⟨hl, _, k⟩ => ⟨by rw [hl]; exact q.2.2.1, fun t ht => ⟨t, vs, rfl, SqT.of upd_same, hl, k t ht⟩⟩) (unpN_go sa hm R q F)
theorem lift_unp2 {st : Stmt} {i j : Nat} {is : List Itm} {al : List Nat} (sa : ∀ i ∈ is, ∀ j ∈ i.al, j ∈ al) (h : PS X st (tPar i j (tItms G W is))) : PS X st (liftS G (uItms is) W (sUnpN [i, j] is al)) := h.imp fun E σ H ⟨T, m, Z, env, DE, hm, R, q, F⟩ =>
  items_mono (fun vs H1 ⟨hl, k, _⟩ => by
    obtain ⟨v, r, rfl, v2, r2, e2, e3, k⟩ := k
    subst e2
    cases e3
    exact ⟨v, v2, rfl, k⟩) (unpN_go sa hm R q F)
end
end DL

/-! DLF: for N[i], N[j] in enumerate(xs). -/
namespace DL
open PySem PySem.Spec PyProof.Rows L2
def forE (i j : Nat) (body : TDS) (E : DEnds) : Nat → List D → DEnv → Prop
  | _, [], env => E.nx env
  | k, d :: r, env => i < env.length ∧ j < env.length ∧ body { E with nx := forE i j body E (k + 1) r, ct := forE i j body E (k + 1) r, bk := E.nx } ((env.set i (some (false, .int k))).set j (some (false, d)))
def sForE (i j : Nat) (als : List Nat) (t : TP) (body : TDS) : TDS := fun E env => t env (fun d => match d with
  | .lst ds => ds.length ≤ turnsMost ∧ forE i j body E 0 ds (dis als env)
  | _ => False) (exe E env)
section
variable {G : Ctx} {W : WX} {X : Cx} {i j : Nat} {body : TDS} {u0 u1 : Nat} {als : List Nat} {t : TP} {st : Stmt}
theorem for_enum {Z : Addr → Prop} {T m u : Nat} {σ0 : SS} {H0 : Hp} {env0 : DEnv} {DE : DEnds} {E : Ends} {a : Addr} {xs : List V} {ds : List D} (R0 : ER G T Z σ0 H0 env0)
    (hS : ∀ σ H env, Keep G σ0 env0 H0 σ env H → SqL X.K H a xs) (hd : DenL G (hid H0 (Hz σ0 env0 Z)) xs ds) (hq : forE i j body DE 0 ds env0) (hu : T + ds.length * u ≤ m) (ht : m ≤ G.top) (F : Rest G m W Z σ0 env0 H0 DE E) :
    ∃ Wv : Nat → Nat → SS → Hp → Prop, (∃ m, Wv 0 m σ0 H0) ∧ ∀ k m σ H, Wv k m σ H →
      ((Ite X.K a).stop k H ∧ E.nx σ H) ∨ ((Ite X.K a).go k H ∧ ∃ N : SS → Hp → Prop, (∀ σ' H', N σ' H' → ∃ m', m' < m ∧ Wv (k + 1) m' σ' H') ∧ ∀ x H', (Ite X.K a).yld k H x H' → gTup X.K 2 (gNames [i, j]) x σ H' fun σ2 H2 => liftS G u W body { E with nx := N, ct := N, bk := E.nx } σ2 H2) := by
  have hlen := hd.length
  refine ⟨fun k n σ H => n = ds.length - k ∧ k ≤ ds.length ∧ ∃ env, ER G (T + k * u) Z σ H env ∧ Keep G σ0 env0 H0 σ env H ∧ forE i j body DE k (ds.drop k) env, ⟨ds.length, by simp, Nat.zero_le _, env0, R0.le (by omega), Keep.refl, by simpa using hq⟩, ?_⟩
  rintro k n σ H ⟨rfl, hk, env, R, K, q⟩
  have list := hS σ H env K
  by_cases hlt : k < ds.length
  · have ex : xs[k]? = some (xs[k]'(by omega)) := List.getElem?_eq_getElem _
    obtain ⟨d, ed, hdd⟩ := hd.get ex
    have edr : ds.drop k = d :: ds.drop (k + 1) := by
      have h1 := List.drop_eq_getElem_cons hlt
      rw [List.getElem?_eq_getElem hlt] at ed
      rw [h1, Option.some.inj ed]
    rw [edr] at q
    obtain ⟨hi, hj, q⟩ := q
    refine .inr ⟨⟨xs, _, list, ex⟩, fun σ' H' => ∃ env', ER G (T + (k + 1) * u) Z σ' H' env' ∧ Keep G σ0 env0 H0 σ' env' H' ∧ forE i j body DE (k + 1) (ds.drop (k + 1)) env', fun σ' H' ⟨e', q1, q2, q3⟩ => ⟨ds.length - (k + 1), by omega, rfl, hlt, e', q1, q2, q3⟩, fun x H' y => ?_⟩
    obtain ⟨p, z, rfl, hp, rfl, at_z⟩ := y
    have ez := at_z xs list
    rw [ex] at ez
    cases ez
    refine ⟨p, _, rfl, SqT.of upd_same, rfl, _, _, rfl, _, _, rfl, rfl, ?_⟩
    have g := R.new (o := .tup [.int (k : Nat), xs[k]'(by omega)]) hp
    obtain ⟨R1, K1⟩ := R.grow g.to g.ok
    have K01 := K.trans K1
    obtain ⟨R2, K2⟩ := R1.set (i := i) (v := .int (k : Nat)) (d := .int (k : Nat)) hi (.int _)
    have K02 := K01.trans K2
    obtain ⟨R3, K3⟩ := R2.set (i := j) (by rw [List.length_set]; exact hj) (hdd.sub (K02.sub R0))
    have K03 := K02.trans K3
    have eu : (k + 1) * u = k * u + u := by rw [Nat.add_mul, Nat.one_mul]
    have eu2 : (k + 1) * u ≤ ds.length * u := Nat.mul_le_mul_right _ hlt
    have F2 := (F.on K03).le (n := T + (k + 1) * u) (by omega)
    exact ⟨T + k * u, T + (k + 1) * u, Z, _, _, ⟨by omega, by omega⟩, R3, q, ⟨fun σ' H' env' R' K' p => ⟨env', R', K03.trans K', p⟩, F2.r, F2.n, fun σ' H' env' R' K' p => ⟨env', R', K03.trans K', p⟩, F2.x⟩⟩
  · have ek : ds.drop k = [] := List.drop_eq_nil_of_le (by omega)
    rw [ek] at q
    have eu2 : k * u ≤ ds.length * u := Nat.mul_le_mul_right _ hk
    exact .inl ⟨⟨xs, list, by omega⟩, F.n σ H env (R.le (by omega)) K q⟩
theorem lift_forE (hK : G.K = X.K) (h : PS X st (tFor (iEnum X.K (tCons (liftP G u0 W als t) tNil)) (gTup X.K 2 (gNames [i, j])) (liftS G u1 W body))) : PS X st (liftS G (u0 + turnsMost * u1) W (sForE i j als t body)) := h.imp fun E σ H ⟨T, m, Z, env, DE, ⟨hm, ht⟩, R, q, F⟩ => by
  refine ⟨T, T + u0, Z, env, _, _, ⟨Nat.le_refl _, by omega⟩, R, q, fun v d H1 g hv q1 => ?_, xw_of R (F.le (by omega))⟩
  split at q1
  · obtain ⟨hl, p⟩ := q1
    obtain ⟨a, vs, rfl, ha, hd⟩ := den_lst hv
    obtain ⟨R1, K1⟩ := R.grow g.to g.ok
    obtain ⟨R2, K2⟩ := R1.dis als
    have K12 := K1.trans K2
    have eu := Nat.mul_le_mul_right u1 hl
    refine ⟨a, vs, rfl, SqL.of (hid_sub _ _ ha), ?_⟩
    exact for_enum (X := X) (m := m) R2 (fun σ' H' env' K' => SqL.of (hid_sub _ _ (K'.sub R2 _ _ (vw_dis als _ _ ha)))) (hd.sub (vw_dis als)) p (by omega) ht (F.on K12)
  · exact q1.elim
end
end DL

/-! D14: the small form of statements, its meaning, the check, its soundness. -/
namespace DL
open PySem PySem.Spec PyProof.Rows L2
mutual
inductive S
  | put (i : Nat) (m : M) | own (i : Nat) (m : M) | exp (m : M) | ret (m : M) | retN | pass | brk | cnt
  | ite (c : M) (a b : Ss) | fr (i : Nat) (src : Src) (b : Ss) | wh (c : M) (b : Ss) | frE (i j : Nat) (a : M) (b : Ss) | frt (js : List Nat) (src : Srt) (b : Ss)
  | raise (c : Str) (es : Ms) | tr (i j : Nat) (c : Str) (b : Ss) | app (i : Nat) (m : M) | setix (i : Nat) (kx m : M) | setk (i : Nat) (kx m : M) | unpN (js : List Nat) (nws : List Bool) (ms : Ms) | unp (js : List Nat) (m : M) | thL (i : Nat) | thP (i : Nat) | thE | tick1 (i : Nat) (key : Str) | rput (i : Nat) (key : Str) (m : M) | rif (i : Nat) (c : M) (key key2 : Str) (b : Ss)
inductive Ss
  | nil | cons (a : S) (r : Ss) | tick (i j : Nat) (key : Str) (r : Ss) | dis (i : Nat) (r : Ss)
end
/-- the values of a tuple, some of them new objects -/
def itms (Γ : Gam) : List Bool → Ms → List Itm
  | b :: bs, .cons m r => ⟨b && isNew m, co Γ m, al m, den Γ m⟩ :: itms Γ bs r
  | _, _ => []
def dGdS (p : Prop) (t : TDS) : TDS := fun E env => p ∧ t E env
mutual
def denSt (Γ : Gam) : S → TDS
  | .put i m => sSet i (al m) (den Γ m)
  | .own i m => sNew i (al m) (den Γ m)
  | .exp m => sExpr (den Γ m)
  | .ret m => sRet (den Γ m)
  | .retN => sRetN
  | .pass => sSkip
  | .brk => sBrk
  | .cnt => sCont
  | .ite c a b => sIf (denT Γ c) (denSs Γ a) (denSs Γ b)
  | .fr i src b => sFor i (alS src) (denS Γ src) (denSs Γ b)
  | .frE i j a b => sForE i j (al a) (den Γ a) (denSs Γ b)
  | .frt js src b => sForT js (alR src) (denR Γ src) (denSs Γ b)
  | .wh c b => sWhile (denT Γ c) (denSs Γ b)
  | .raise c es => dGdS (c ∈ Γ.exn) (sRaise c (denL Γ es))
  | .tr i j c b => dGdS (c ∈ Γ.exc) (sTry (fun y => y ∈ Γ.exc) Γ.sub c i j (denSs Γ b))
  | .app i m => sApp i (al m) (den Γ m)
  | .setix i kx m => sSetIx i (al m) (den Γ m) (den Γ kx)
  | .unp js m => sUnp js (al m) (den Γ m)
  | .setk i kx m => sSetK i (al m) (den Γ m) (den Γ kx)
  | .unpN js nws ms => sUnpN js (itms Γ nws ms) (alL ms)
  | .thL i => sThL Γ.th i
  | .thP i => sThP Γ.th i
  | .thE => sThE Γ.th
  | .tick1 i key => fun E env => dVar i env (fun d => d = .hnd 0 ∧ key ∈ Γ.tk ∧ E.nx env) (exe E env)
  | .rput i key m => fun E env => den Γ m env (fun d => ∃ n : Int, d = .int n ∧ dVar i env (fun d => d = .hnd 0 ∧ key ∈ Γ.ik ∧ E.nx env) (exe E env)) (exe E env)
  | .rif i c key key2 b => fun E env => denT Γ c env (fun t => if t = true then dVar i env (fun d => d = .hnd 0 ∧ key ∈ Γ.lk ∧ key2 ∈ Γ.ik ∧ E.nx env ∧ denSs Γ b E env) (exe E env) else denSs Γ b E env) (exe E env)
def denSs (Γ : Gam) : Ss → TDS
  | .nil => sSkip
  | .cons a r => sSeq (denSt Γ a) (denSs Γ r)
  | .tick i j key r => fun E env => dVar i env (fun d => d = .hnd 0 ∧ key ∈ Γ.tk ∧ i ≠ j ∧ j < env.length ∧ ∀ n : Int, 0 ≤ n → n < (turnTop : Int) → denSs Γ r E (env.set j (some (false, .int (n + 1))))) (exe E env)
  | .dis i r => fun E env => denSs Γ r E (dis1 i env)
end
mutual
def coSt (Γ : Gam) : S → Nat
  | .put _ m => co Γ m
  | .own _ m => co Γ m
  | .exp m => co Γ m
  | .ret m => co Γ m
  | .ite c a b => co Γ c + coSs Γ a + coSs Γ b
  | .fr _ src b => coS Γ src + turnsMost * coSs Γ b
  | .frE _ _ a b => co Γ a + turnsMost * coSs Γ b
  | .frt _ src b => coR Γ src + turnsMost * coSs Γ b
  | .wh c b => (turnsMost + 1) * (co Γ c + coSs Γ b)
  | .raise _ es => coL Γ es
  | .tr _ _ _ b => coSs Γ b
  | .app _ m => co Γ m
  | .setix _ kx m => co Γ m + co Γ kx
  | .unp _ m => co Γ m
  | .setk _ kx m => co Γ m + co Γ kx
  | .unpN _ _ ms => coL Γ ms
  | .tick1 _ _ => 1
  | .rput _ _ m => co Γ m
  | .rif _ c _ _ b => co Γ c + coSs Γ b
  | _ => 0
def coSs (Γ : Gam) : Ss → Nat
  | .nil => 0
  | .cons a r => coSt Γ a + coSs Γ r
  | .tick _ _ _ r => 1 + coSs Γ r
  | .dis _ r => coSs Γ r
end
/-! ### the check -/
def locB (sc : Scope) (x : Str) : Bool := match sc.names.lookup x with
  | some .local => true | some .cell => true | _ => false
def asgB (N : List Str) (sc : Scope) (i : Nat) : List Expr → Bool
  | [.Name x _] => decide (N[i]? = some x) && locB sc x
  | _ => false
theorem asgB_ok {N : List Str} {sc : Scope} {i : Nat} {ts : List Expr} (h : asgB N sc i ts = true) : ∃ x p, ts = [.Name x p] ∧ N[i]? = some x ∧ locB sc x = true := by
  unfold asgB at h
  split at h
  · simp only [Bool.and_eq_true, decide_eq_true_eq] at h
    exact ⟨_, _, rfl, h.1, h.2⟩
  · cases h
/-- x[key] + 1 -/
def incB (N : List Str) (sc : Scope) (i : Nat) (key : Str) : Expr → Bool
  | .BinOp a .Add (.Constant (.int n) _ _) _ => rsB N sc i key a && decide (n = 1)
  | _ => false
def tickB1 (N : List Str) (sc : Scope) (i j : Nat) (key : Str) : Stmt → Bool
  | .Assign ts e _ => asgB N sc j ts && incB N sc i key e
  | _ => false
def oneB (p : Expr → Bool) : List Expr → Bool
  | [e] => p e
  | _ => false
def raB (N : List Str) (sc : Scope) (c : Str) (f : List Expr → Bool) : Expr → Bool
  | .Call (.Name x _) (e :: es) [] _ => decide (c = x) && glB sc x && f (e :: es)
  | _ => false
def tickB2 (N : List Str) (sc : Scope) (i j : Nat) (key : Str) : Stmt → Bool
  | .Assign ts e _ => oneB (rsB N sc i key) ts && varB N sc j e
  | _ => false
def rifT (N : List Str) (sc : Scope) (i : Nat) (key : Str) (f : Expr → Bool) : Expr → Bool
  | .BoolOp .And [c, e] _ => f c && neB N sc i key e
  | _ => false
def rifB (N : List Str) (sc : Scope) (i : Nat) (key key2 : Str) : List Stmt → Bool
  | [.Assign [t] e _] => rsB N sc i key2 t && popB N sc i key e
  | _ => false
/-- try: b; except C as N[i]: N[j] = N[i] -/
def trB (N : List Str) (sc : Scope) (i j : Nat) (c : Str) (g : List Stmt → Bool) : Stmt → Bool
  | .Try body [.ExceptHandler (some (.Name x _)) (some n) [.Assign ts (.Name n2 _) _] _] [] [] _ => decide (x = c) && glB sc c && decide (N[i]? = some n) && decide (sc.names.lookup n = some .local) && asgB N sc j ts && decide (n2 = n) && !(n == "__debug__") && !(n == "__classdict__") && g body
  | _ => false
def appB (N : List Str) (sc : Scope) (i : Nat) (g : Expr → Bool) : Stmt → Bool
  | .Expr (.Call (.Attribute o y ap) [e] [] q) _ => varB N sc i o && decide (y = "append") && !isSt e && (ap.endLine == q.line) && g e
  | _ => false
def setB (N : List Str) (sc : Scope) (i : Nat) (gk g : Expr → Bool) : Stmt → Bool
  | .Assign [.Subscript o ix _] e _ => varB N sc i o && gk ix && !isComp e && g e
  | _ => false
def noSwap : Expr → Bool
  | .Tuple vs _ _ => vs.all (foldedForSure 8)
  | _ => true
def nameAt (N : List Str) (sc : Scope) : List Nat → List Expr → Bool
  | [], [] => true
  | j :: js, .Name x _ :: es => decide (N[j]? = some x) && locB sc x && nameAt N sc js es
  | _, _ => false
def unpB (N : List Str) (sc : Scope) (js : List Nat) (g : Expr → Bool) : Stmt → Bool
  | .Assign [.Tuple ts _ _] e _ => nameAt N sc js ts && noSwap e && !isComp e && g e
  | _ => false
/-- a target that is no plain local name -/
def anyCell (sc : Scope) (ts : List Expr) : Bool := ts.any fun t => match t with
  | .Name x _ => !decide (sc.names.lookup x = some .local)
  | _ => true
/-- a, b = x, y: stored from the right -/
def swap2B (N : List Str) (sc : Scope) : List Nat → List Expr → List Expr → Bool
  | [i, j], [.Name x px, .Name y py], [a, b] => decide (i ≠ j) && decide (N[i]? = some x) && decide (N[j]? = some y) && decide (sc.names.lookup x = some .local) && decide (sc.names.lookup y = some .local) && (py.line == px.line) && decide (x ≠ y) && !isSt a && !isSt b && !([a, b].all (foldedForSure 8)) && !([a, b].all (constantsAlone 8))
  | _, _, _ => false
def unpNB (N : List Str) (sc : Scope) (js : List Nat) (g : List Expr → Bool) : Stmt → Bool
  | .Assign [.Tuple ts _ _] (.Tuple es k p) _ => nameAt N sc js ts && (noSwap (.Tuple es k p) || anyCell sc ts || swap2B N sc js ts es) && decide (js.length = es.length) && g es
  | _ => false
def frTB (N : List Str) (sc : Scope) (i j : Nat) : Expr → Bool
  | .Tuple ts _ _ => nameAt N sc [i, j] ts
  | _ => false
/-- enumerate(e) -/
def tgtB (N : List Str) (sc : Scope) (js : List Nat) : Expr → Bool
  | .Tuple ts _ _ => nameAt N sc js ts
  | _ => false
def enB (sc : Scope) (g : Expr → Bool) : Expr → Bool
  | .Call (.Name f _) [e] [] _ => decide (f = "enumerate") && glB sc f && !isSt e && g e
  | _ => false
def thC (a : Str) : Expr → Bool
  | .Call (.Name y _) [] [] _ => decide (y = a)
  | _ => false
mutual
def chSt (N : List Str) (sc : Scope) : S → Stmt → Bool
  | .put i m, .Assign ts e _ => asgB N sc i ts && !isComp e && chE N sc m e
  | .own i m, .Assign ts e _ => asgB N sc i ts && isNew m && chE N sc m e
  | .exp m, .Expr e _ => !isComp e && chE N sc m e
  | .ret m, .Return (some e) _ => chE N sc m e
  | .retN, .Return none _ => true
  | .pass, .Pass _ => true
  | .brk, .Break _ => true
  | .cnt, .Continue _ => true
  | .ite c a b, .If x y z _ => chE N sc c x && chSs N sc a y && chSs N sc b z
  | .fr i src b, .For t iter y o _ => asgB N sc i [t] && o.isEmpty && chS N sc src iter && chSs N sc b y
  | .frt js src b, .For t iter y o _ => tgtB N sc js t && o.isEmpty && chR N sc src iter && chSs N sc b y
  | .frE i j a b, .For t iter y o _ => frTB N sc i j t && o.isEmpty && enB sc (chE N sc a) iter && chSs N sc b y
  | .wh c b, .While x y o _ => o.isEmpty && chE N sc c x && chSs N sc b y
  | .raise c es, .Raise (some e) none _ => raB N sc c (chL N sc es) e
  | .tr i j c b, st => trB N sc i j c (chSs N sc b) st
  | .app i m, st => appB N sc i (chE N sc m) st
  | .setix i kx m, st => setB N sc i (chE N sc kx) (chE N sc m) st
  | .unp js m, st => unpB N sc js (chE N sc m) st
  | .setk i kx m, st => setB N sc i (chE N sc kx) (chE N sc m) st
  | .unpN js nws ms, st => unpNB N sc js (fun es => decide (nws.length = es.length) && chL N sc ms es) st
  | .thL i, .Assign ts (.List [e] _) _ => asgB N sc i ts && !isSt e && thC (N.headD "") e
  | .thP i, .Assign ts e _ => asgB N sc i ts && thC (N.headD "") e
  | .thE, .Expr e _ => thC (N.headD "") e
  | .tick1 i key, .Assign ts e _ => oneB (rsB N sc i key) ts && incB N sc i key e
  | .rput i key m, .Assign ts e _ => oneB (rsB N sc i key) ts && !isComp e && chE N sc m e
  | .rif i c key key2 b, .If x y z _ => rifT N sc i key (chE N sc c) x && rifB N sc i key key2 y && chSs N sc b z
  | _, _ => false
def chSs (N : List Str) (sc : Scope) : Ss → List Stmt → Bool
  | .nil, [] => true
  | .cons a r, x :: xs => chSt N sc a x && chSs N sc r xs
  | .tick i j key r, x :: y :: xs => tickB1 N sc i j key x && tickB2 N sc i j key y && chSs N sc r xs
  | .dis _ r, xs => chSs N sc r xs
  | _, _ => false
end
section
variable {G : Ctx} {Γ : Gam} {k : Nat}
theorem swNo {e : Expr} {tg : Option Expr} {l : Nat} {env : Env} (h : isComp e = false) : swapsWith e tg l env = pure false := by
  cases e <;> first
    | rfl
    | cases h
/-- a comprehension's parts -/
theorem lc_parts {N : List Str} {sc : Scope} {X : Cx} {W : WX} (C : Cg G Γ k N sc X) (tk : Takes X W) {i : Nat} {x : Str} {src : Src} {c : Mo} {t : M} {e : Expr} (h : chE N sc (.lc i x src c t) e = true) :
    ∃ elt y p2 iter ifs scope p wi, e = .ListComp elt [⟨.Name y p2, iter, ifs, 0⟩] scope p ∧ (∀ tg, PI X tg iter wi) ∧ SrcW G (coS Γ src) W X (alS src) (denS Γ src) wi ∧ (∀ x, foldedSetIterable iter X.env x = pure x) ∧ BlkOk X.N X.env.scope scope [(x, i)] ∧
    (∀ (s : Shared) (H : Hp) (A : Addr) (cl : List (Str × Addr)) (fp : List Addr), PG (X.blk s H scope (compEnvC scope cl A X.env) fp) (.Name y p2) (gName i)) ∧
    (∀ (s : Shared) (H : Hp) (A : Addr) (cl : List (Str × Addr)) (fp : List Addr), PTs (X.blk s H scope (compEnvC scope cl A X.env) fp) ifs (liftT G (coO Γ c) (fun _ _ _ _ => False) (denC Γ c))) ∧
    (∀ (s : Shared) (H : Hp) (A : Addr) (cl : List (Str × Addr)) (fp : List Addr), PE (X.blk s H scope (compEnvC scope cl A X.env) fp) elt (liftP G (co Γ t) (fun _ _ _ _ => False) (al t) (den Γ t))) := by
  cases e with
  | ListComp elt gens scope p =>
    cases gens with
    | cons g gs => cases gs with
      | nil =>
        obtain ⟨tg, iter, ifs, asy⟩ := g
        cases tg with
        | Name y p2 =>
          by_cases ha : asy = 0
          · subst ha
            simp only [chE, Bool.and_eq_true, decide_eq_true_eq] at h
            obtain ⟨⟨⟨⟨⟨⟨⟨h1, h2⟩, h3⟩, h4⟩, h5⟩, h6⟩, h7⟩, h8⟩ := h
            have hcl := cell_imp h8
            subst h1
            obtain ⟨wi, w1, w2, w3⟩ := soundS C tk src iter h4
            have locX : ∀ (s : Shared) (H : Hp) (A : Addr) (cl : List (Str × Addr)) (fp : List Addr), L2.Loc (X.blk s H scope (compEnvC scope cl A X.env) fp).env.scope x ∧ ((X.blk s H scope (compEnvC scope cl A X.env) fp).fn x = true ∨ (X.blk s H scope (compEnvC scope cl A X.env) fp).env.scope.names.lookup x = some .local) := fun s H A cl fp => by
              have es : (X.blk s H scope (compEnvC scope cl A X.env) fp).env.scope = relS scope sc := (C.blk hcl s H A cl fp).hsc
              rw [es]
              unfold L2.Loc
              split at h5
              · rename_i q
                exact ⟨.inl q, .inr q⟩
              · rename_i q
                simp only [decide_eq_true_eq] at h5
                refine ⟨.inr q, .inl ?_⟩
                show (scope.names.lookup x == some NameKind.cell) = true
                rw [h5]
                rfl
              · cases h5
            exact ⟨elt, x, p2, iter, ifs, scope, p, wi, rfl, w1, w2, w3, blkOk_by (by rw [C.hN, C.hsc]; exact h3),
              fun s H A cl fp => pg_name (by rw [(C.blk hcl s H A cl fp).hN]; exact C.nd) (by rw [(C.blk hcl s H A cl fp).hN]; exact h2) (locX s H A cl fp).1 (locX s H A cl fp).2,
              fun s H A cl fp => soundC (C.blk hcl s H A cl fp) takes0 c ifs h6, fun s H A cl fp => sound (C.blk hcl s H A cl fp) takes0 t elt h7⟩
          · simp [chE, ha] at h
        | _ => simp [chE] at h
      | _ => simp [chE] at h
    | _ => simp [chE] at h
  | _ => simp [chE] at h
theorem imp_lc {u1 u2 : Nat} {N : List Str} {sc : Scope} {X : Cx} {W : WX} {i : Nat} {src : Src} {c : TPT} {t : M} {te : TP} {wi : TI} (w2 : SrcW G (coS Γ src) W X (alS src) (denS Γ src) wi) : ∀ σ H Q, liftN G (coS Γ src + sizeLine * (u1 + u2)) W (i :: (alS src ++ al t)) (dLc i (alS src) (denS Γ src) c te) σ H Q →
    tLc wi (gName i) (liftT G u1 (fun _ _ _ _ => False) c) (liftP G u2 (fun _ _ _ _ => False) (al t) te) [i] σ H Q :=
  imp_lcS (al := i :: (alS src ++ al t)) (ale := al t) (als := alS src) (c := c) w2 List.mem_cons_self (fun j hj => List.mem_cons_of_mem _ (List.mem_append_right _ hj)) (fun j hj => List.mem_cons_of_mem _ (List.mem_append_left _ hj))
theorem lct_parts {N : List Str} {sc : Scope} {X : Cx} {W : WX} (C : Cg G Γ k N sc X) (tk : Takes X W) {js : List Nat} {src : Srt} {c : Mo} {t : M} {e : Expr} (h : chE N sc (.lct js src c t) e = true) :
    ∃ elt ts kd p2 iter ifs scope p wi, e = .ListComp elt [⟨.Tuple ts kd p2, iter, ifs, 0⟩] scope p ∧ (∀ ts kk p, PI X (.Tuple ts kk p) iter wi) ∧ SrcT G (coR Γ src) W X (alR src) (denR Γ src) wi ∧ (∀ x, foldedSetIterable iter X.env x = pure x) ∧ BlkOk X.N X.env.scope scope (ownC js ts) ∧ (ownC js ts).map (·.2) = js ∧
    (∀ (s : Shared) (H : Hp) (A : Addr) (cl : List (Str × Addr)) (fp : List Addr), PG (X.blk s H scope (compEnvC scope cl A X.env) fp) (.Tuple ts kd p2) (gTup X.K js.length (gNames js))) ∧
    (∀ (s : Shared) (H : Hp) (A : Addr) (cl : List (Str × Addr)) (fp : List Addr), PTs (X.blk s H scope (compEnvC scope cl A X.env) fp) ifs (liftT G (coO Γ c) (fun _ _ _ _ => False) (denC Γ c))) ∧
    (∀ (s : Shared) (H : Hp) (A : Addr) (cl : List (Str × Addr)) (fp : List Addr), PE (X.blk s H scope (compEnvC scope cl A X.env) fp) elt (liftP G (co Γ t) (fun _ _ _ _ => False) (al t) (den Γ t))) := by
  obtain ⟨elt, ts, kd, p2, iter, ifs, scope, p, rfl, h1, h2, h3, h4, h5, h6⟩ := lctC_ok h
  have hcl := cell_imp h6
  obtain ⟨wi, w1, w2, w3⟩ := soundR C tk src iter h2
  exact ⟨elt, ts, kd, p2, iter, ifs, scope, p, wi, rfl, w1, w2, w3, blkOk_by (by rw [C.hN, C.hsc]; exact h1), ownC_ok h3, fun s H A cl fp => nameC_pg C hcl h3 s H A cl fp,
    fun s H A cl fp => soundC (C.blk hcl s H A cl fp) takes0 c ifs h4, fun s H A cl fp => sound (C.blk hcl s H A cl fp) takes0 t elt h5⟩
theorem imp_lct2 {u1 u2 : Nat} {X : Cx} {W : WX} {js : List Nat} {src : Srt} {c : TPT} {t : M} {te : TP} {wi : TI} (hK : G.K = X.K) (w2 : SrcT G (coR Γ src) W X (alR src) (denR Γ src) wi) : ∀ σ H Q, liftN G (coR Γ src + sizeLine * (u1 + u2)) W (js ++ (alR src ++ al t)) (dLct js (alR src) (denR Γ src) c te) σ H Q →
    tLc wi (gTup X.K js.length (gNames js)) (liftT G u1 (fun _ _ _ _ => False) c) (liftP G u2 (fun _ _ _ _ => False) (al t) te) js σ H Q :=
  imp_lct (al := js ++ (alR src ++ al t)) (ale := al t) (als := alR src) (c := c) hK w2 (fun j hj => List.mem_append_left _ hj) (fun j hj => List.mem_append_right _ (List.mem_append_right _ hj)) (fun j hj => List.mem_append_right _ (List.mem_append_left _ hj))
theorem soundN {N : List Str} {sc : Scope} {X : Cx} {W : WX} (C : Cg G Γ k N sc X) (tk : Takes X W) : ∀ (m : M) (e : Expr), isNew m = true → chE N sc m e = true → PE X e (liftN G (co Γ m) W (al m) (den Γ m)) := by
  intro m e hn h
  match m with
  | .lst es =>
    cases e with
    | List xs p =>
      have h2 : chL N sc es xs = true := by simpa only [chE] using h
      exact lift_lst (pe_lst (soundL C tk es xs h2).1)
    | _ => simp [chE] at h
  | .lc i x src c t =>
    obtain ⟨elt, y, p2, iter, ifs, scope, p, wi, rfl, w1, w2, w3, bo, hg, ht, he⟩ := lc_parts C tk h
    exact (pe_lc (own := [(x, i)]) (g := gName i) C.calm (by rw [C.hN]; exact C.nd) (w1 _) bo hg ht he w3).imp (imp_lc (N := N) (sc := sc) w2)
  | .srtl a =>
    obtain ⟨x, p, q, r, t, rfl, h1, h2, h3, h4⟩ := srtlB_ok (by simpa only [chE] using h)
    exact srtl_pe C (sound C tk a x h4) h1 h2 h3
  | .srtc i x src c t =>
    obtain ⟨elt, p2, iter, ifs, scope, p, q, r, rfl, h1, h2, h3, h4, h5, h6, h7, h8⟩ := srtcB_ok (by simpa only [chE] using h)
    have hcl := cell_imp h8
    obtain ⟨wi, w1, w2, w3⟩ := soundS C tk src iter h4
    exact srtc_pe C h1 h2 h3 h5 hcl w2 (w1 _) w3 (fun s H A cl fp => soundC (C.blk hcl s H A cl fp) takes0 c ifs h6) (fun s H A cl fp => sound (C.blk hcl s H A cl fp) takes0 t elt h7)
  | .ldc1 a b =>
    cases e with
    | Dict ks vs p =>
      match ks, vs with
      | [some k1], [v1] =>
        simp only [chE, Bool.and_eq_true] at h
        exact lift_ldc1 C.hP C.hw mem_l mem_r (pe_mdisp (pps_cons (sound C tk a k1 h.1) (sound C tk b v1 h.2) pps_nil) rfl rfl (by simp) (by simp))
      | [], _ => simp [chE] at h
      | [none], _ => simp [chE] at h
      | [some _], [] => simp [chE] at h
      | [some _], _ :: _ :: _ => simp [chE] at h
      | _ :: _ :: _, _ => simp [chE] at h
    | _ => simp [chE] at h
  | .dct0 =>
    cases e with
    | Dict ks vs p =>
      cases ks with
      | nil => cases vs with
        | nil => exact lift_dct0 pe_dnewK
        | cons _ _ => simp [chE] at h
      | cons _ _ => simp [chE] at h
    | _ => simp [chE] at h
  | .blt .list es =>
    cases e with
    | Call fn xs kws p =>
      cases fn with
      | Name x p2 => cases kws with
        | nil =>
          simp only [chE, Bool.and_eq_true, decide_eq_true_eq, Bool.not_eq_true'] at h
          obtain ⟨⟨⟨h1, h2⟩, h3⟩, h4⟩ := h
          obtain ⟨q1, q2, _⟩ := soundL C tk es xs h3
          exact blt_new C h1 h2 h4 q1 q2
        | _ => simp [chE] at h
      | _ => simp [chE] at h
    | _ => simp [chE] at h
  | .fx f es =>
    obtain ⟨xs, h1, h2⟩ := fxC_ok h
    exact fx_new C f hn h1 (soundZ C tk es xs h2)
  | .lct js src c t =>
    obtain ⟨elt, ts, kd, p2, iter, ifs, scope, p, wi, rfl, w1, w2, w3, bo, hm, hg, ht, he⟩ := lct_parts C tk h
    have pe := pe_lc (pos := p) (own := ownC js ts) (g := gTup X.K js.length (gNames js)) C.calm (by rw [C.hN]; exact C.nd) (w1 ts kd p2) bo hg ht he w3
    rw [hm] at pe
    exact pe.imp (imp_lct2 C.hK w2)

/-! ### statements -/
structure Cs (G : Ctx) (Γ : Gam) (k : Nat) (N : List Str) (sc : Scope) (X : Cx) : Prop extends Cg G Γ k N sc X where
  kind : sc.kind = .function
  fnt : ∀ x, X.fn x = true
  po : PassesOwn (model X.prog X.w) X.A X.env X.xe
  ex0 : X.ex = []
  stk : X.stack = X.env :: X.outer
  frm : X.env.frame = some X.env.locals
  th : ∀ fl h, Γ.th = some (fl, h) → ∀ (pn : List (Addr × Obj)) (xe : Value → Shared → Prop) (W : WX) (p1 p2 : Pos), Takes (X.tr pn xe) W → PE (X.tr pn xe) (.Call (.Name (N.headD "") p1) [] [] p2) (liftP G 0 W [] (thkP fl h))
theorem locB_ok {N : List Str} {sc : Scope} {X : Cx} (C : Cs G Γ k N sc X) {x : Str} (h : locB sc x = true) : L2.Loc X.env.scope x := by
  unfold locB at h
  unfold L2.Loc
  rw [C.hsc]
  split at h
  · exact .inl (by assumption)
  · exact .inr (by assumption)
  · cases h
theorem asg_any {N : List Str} {sc : Scope} {X : Cx} {W : WX} (C : Cs G Γ k N sc X) (tk : Takes X W) {i : Nat} {x : Str} {py pos : Pos} {m : M} {e : Expr} (hi : N[i]? = some x) (hl : locB sc x = true) (hn : isNew m = true) (h : chE N sc m e = true) :
    PS X (.Assign [.Name x py] e pos) (tAsg (liftN G (co Γ m) W (al m) (den Γ m)) (gName i)) := by
  have go : (hs : swapsWith e (some (.Name x py)) pos.line X.env = pure false) → PS X (.Assign [.Name x py] e pos) (tAsg (liftN G (co Γ m) W (al m) (den Γ m)) (gName i)) := fun hs =>
    ps_set (by rw [C.hN]; exact C.nd) (by rw [C.hN]; exact hi) (locB_ok C hl) (soundN C.toCg tk m e hn h) hs (.inl (C.fnt x))
  by_cases hc : isComp e = true
  · match m with
    | .lst es => cases e <;> first | (simp [chE] at h; done) | (simp [isComp] at hc; done)
    | .dct0 => cases e <;> first | (simp [chE] at h; done) | (simp [isComp] at hc; done)
    | .ldc1 _ _ => cases e <;> first | (simp [chE] at h; done) | (simp [isComp] at hc; done)
    | .srtl _ => cases e <;> first | (simp [chE, srtlB] at h; done) | (simp [isComp] at hc; done)
    | .srtc _ _ _ _ _ => cases e <;> first | (simp [chE, srtcB] at h; done) | (simp [isComp] at hc; done)
    | .blt _ es => cases e <;> first | (simp [chE] at h; done) | (simp [isComp] at hc; done)
    | .fx f es =>
      obtain ⟨xs, h1, _⟩ := fxC_ok h
      exact absurd hc (by rw [fxA_comp h1]; decide)
    | .lct js src c t =>
      obtain ⟨elt, ts, kd, p2, iter, ifs, scope, p, wi, rfl, w1, w2, w3, bo, hm, hg, ht, he⟩ := lct_parts C.toCg tk h
      have hsw : ∃ b, swapsWith (.ListComp elt [⟨.Tuple ts kd p2, iter, ifs, 0⟩] scope p) (some (.Name x py)) pos.line X.env = pure b ∧ (b = true → X.env.scope.names.lookup x = some .local) := by
        refine ⟨_, rfl, fun hb => ?_⟩
        simp only [Bool.and_eq_true, beq_iff_eq] at hb
        exact hb.1.1.2
      obtain ⟨b, hb, hy⟩ := hsw
      cases b with
      | false => exact go hb
      | true =>
        have pe := ps_setLc (own := ownC js ts) (g := gTup X.K js.length (gNames js)) C.calm (by rw [C.hN]; exact C.nd) (by rw [C.hN]; exact hi) (hy rfl) hb (w1 ts kd p2) bo hg ht he w3
        rw [hm] at pe
        exact pe.imp fun E σ H q => imp_lct2 C.hK w2 σ H _ q
    | .lc j z src c t =>
      obtain ⟨elt, y, p2, iter, ifs, scope, p, wi, rfl, w1, w2, w3, bo, hg, ht, he⟩ := lc_parts C.toCg tk h
      have hsw : ∃ b, swapsWith (.ListComp elt [⟨.Name y p2, iter, ifs, 0⟩] scope p) (some (.Name x py)) pos.line X.env = pure b ∧ (b = true → X.env.scope.names.lookup x = some .local) := by
        refine ⟨_, rfl, fun hb => ?_⟩
        simp only [Bool.and_eq_true, beq_iff_eq] at hb
        exact hb.1.1.2
      obtain ⟨b, hb, hy⟩ := hsw
      cases b with
      | false => exact go hb
      | true =>
        refine (ps_setLc (own := [(z, j)]) (g := gName j) C.calm (by rw [C.hN]; exact C.nd) (by rw [C.hN]; exact hi) (hy rfl) hb (w1 _) bo hg ht he w3).imp fun E σ H q => ?_
        exact imp_lc (N := N) (sc := sc) w2 σ H _ q
  · exact go (swNo (Bool.eq_false_iff.mpr hc))
theorem put_core {ik lk sk tk : List Str} (S : ResOk G ik lk sk tk) {T : Nat} {σ : SS} {H : Hp} {i : Nat} {key : Str} {n : Int} {q : Hp → Prop} (ok : G.ok T H) (hσ : σ[i]? = some (some (.ref (G.ha 0)))) (hk : key ∈ ik)
    (h : ∀ H1, Grow G T H H1 → q H1) : tVar i σ H fun x H2 => tC (.str key) σ H2 fun y H3 => ∃ a H4, x = .ref a ∧ DPut H3 a y (.int n) H4 ∧ q H4 := by
  obtain ⟨kvs, e1, hl, _, _⟩ := S.get T H ok
  refine ⟨_, hσ, _, _, rfl, DPut.k (k := (.inr key : Key)) e1 hl, h _ ⟨fun c u nf e => ?_, S.put T H kvs key n ok hk e1⟩⟩
  rw [upd_ne fun z => nf (by rw [z]; exact S.fa)]
  exact e
theorem tick_core {ik lk sk tk : List Str} (S : ResOk G ik lk sk tk) {T : Nat} {H : Hp} {key : Str} (ok : G.ok T H) (hk : key ∈ tk) :
    ∃ (kvs : List (Key × V)) (n : Int), H (G.ha 0) = some (.dK kvs) ∧ valV kvs (.inr key : Key) = some (.int n) ∧ 0 ≤ n ∧ n ≤ T ∧ kvs.length < sizeLine ∧ Grow G (T + 1) H (upd H (G.ha 0) (.dK (putK kvs (.inr key : Key) (.int (n + 1))))) := by
  obtain ⟨kvs, e1, hl, _, _, _, e4⟩ := S.get T H ok
  obtain ⟨n, e3, n0, n1⟩ := e4 key hk
  refine ⟨kvs, n, e1, e3, n0, n1, hl, ⟨fun c u nf e => ?_, S.tick T H kvs key n ok hk e1 e3⟩⟩
  rw [upd_ne fun z => nf (by rw [z]; exact S.fa)]
  exact e
theorem ps_rput {N : List Str} {sc : Scope} {X : Cx} (C : Cg G Γ k N sc X) {i : Nat} {key : Str} {t e : Expr} {te : TE} {p : Pos} (h : rsB N sc i key t = true) (he : PE X e te) (hc : isComp e = false) : PS X (.Assign [t] e p) (sDPut (tVar i) (tC (.str key)) te) := by
  cases t with
  | Subscript o y p =>
    cases y with
    | Constant c j p2 =>
      cases c with
      | str z =>
        simp only [rsB, Bool.and_eq_true, decide_eq_true_eq] at h
        obtain ⟨h1, h2⟩ := h
        subst h2
        exact ps_dput (by have := C.room.un; unfold cLine at this ⊢; omega) (varB_ok C h1) pe_str he (swNo hc)
      | _ => cases h
    | _ => cases h
  | _ => cases h
theorem popB_comp {N : List Str} {sc : Scope} {i : Nat} {key : Str} {e : Expr} (h : popB N sc i key e = true) : isComp e = false := by
  cases e <;> first
    | rfl
    | cases h
theorem guard_S {st : Stmt} {p : Prop} {t : TDS} {u : Nat} {W : WX} {X : Cx} (h : p → PS X st (liftS G u W t)) : PS X st (liftS G u W (dGdS p t)) :=
  ⟨fun pins s σ H D I ⟨T, m, Z, env, DE, hm, R, ⟨hp, q⟩, F⟩ => (h hp).run pins s σ H D I ⟨T, m, Z, env, DE, hm, R, q, F⟩⟩
theorem raB_ok {sc : Scope} {c : Str} {f : List Expr → Bool} {e : Expr} (h : raB N sc c f e = true) : ∃ x xs p q, e = .Call (.Name c p) (x :: xs) [] q ∧ glB sc c = true ∧ f (x :: xs) = true := by
  unfold raB at h
  split at h
  · simp only [Bool.and_eq_true, decide_eq_true_eq] at h
    obtain ⟨⟨rfl, h2⟩, h3⟩ := h
    exact ⟨_, _, _, _, rfl, h2, h3⟩
  · cases h
theorem sound_raise {N : List Str} {sc : Scope} {X : Cx} {W : WX} (C : Cg G Γ k N sc X) (tk : Takes X W) {c : Str} {es : Ms} {e : Expr} {p : Pos} (h : raB N sc c (chL N sc es) e = true) : PS X (.Raise (some e) none p) (liftS G (coL Γ es) W (denSt Γ (.raise c es))) := by
  obtain ⟨x, xs, p1, q1, rfl, h1, h2⟩ := raB_ok h
  obtain ⟨q1, q2, _⟩ := soundL C tk es _ h2
  obtain ⟨g1, g2, _⟩ := glB_ok C h1
  refine guard_S fun hc => ?_
  obtain ⟨hc1, hc2⟩ := C.exn c hc
  have oc := C.exc c hc1
  exact lift_raise rfl (ps_raise C.calm tk (pmk_ownA PySem.F.excBase_ValueError hc2 oc.at_ oc.keep (raises_own oc.sub oc.typ) g1 q1 g2 (star_cons _ _ _ (q2 _ List.mem_cons_self)) (plain_star _ _ _ fun y hy => q2 y (List.mem_cons_of_mem _ hy))))
theorem Cs.tr {N : List Str} {sc : Scope} {X : Cx} (C : Cs G Γ k N sc X) {pn : List (Addr × Obj)} {xe : Value → Shared → Prop} (po : PassesOwn (model X.prog X.w) X.A X.env xe) : Cs G Γ k N sc (X.tr pn xe) :=
  { hK := C.hK, hP := C.hP, hw := C.hw, hmg := C.hmg, hN := C.hN, hsc := C.hsc, nd := C.nd, gd := C.gd, room := C.room, roomL := C.roomL, calm := C.calm, con := C.con, fn := C.fn, free := C.free, exc := C.exc, exs := C.exs, exn := C.exn, fnv := C.fnv, lam := C.lam, res := C.res, more := C.more,
    kind := C.kind, fnt := C.fnt, po := po, ex0 := C.ex0, stk := C.stk, frm := C.frm, th := C.th }
theorem trB_ok {N : List Str} {sc : Scope} {i j : Nat} {c : Str} {g : List Stmt → Bool} {st : Stmt} (h : trB N sc i j c g st = true) : ∃ body n y p1 p2 p3 p4 p5 p6, st = .Try body [.ExceptHandler (some (.Name c p1)) (some n) [.Assign [.Name y p2] (.Name n p3) p4] p5] [] [] p6 ∧
    glB sc c = true ∧ N[i]? = some n ∧ sc.names.lookup n = some .local ∧ N[j]? = some y ∧ locB sc y = true ∧ (n == ("__debug__" : Str)) = false ∧ (n == ("__classdict__" : Str)) = false ∧ g body = true := by
  unfold trB at h
  split at h
  · simp only [Bool.and_eq_true, decide_eq_true_eq, Bool.not_eq_true'] at h
    obtain ⟨⟨⟨⟨⟨⟨⟨⟨rfl, h2⟩, h3⟩, h4⟩, h5⟩, rfl⟩, h7⟩, h8⟩, h9⟩ := h
    obtain ⟨y, py, rfl, h10, h11⟩ := asgB_ok h5
    exact ⟨_, _, _, _, _, _, _, _, _, rfl, h2, h3, h4, h10, h11, h7, h8, h9⟩
  · cases h
theorem sound_try {N : List Str} {sc : Scope} {X : Cx} {W : WX} (C : Cs G Γ k N sc X) (tk : Takes X W) {i j : Nat} {c : Str} {g : List Stmt → Bool} {st : Stmt} {b : TDS} {u : Nat} (h : trB N sc i j c g st = true)
    (hb : ∀ (W : WX) (pn : List (Addr × Obj)) (xe : Value → Shared → Prop) (body : List Stmt), Takes (X.tr pn xe) W → PassesOwn (model X.prog X.w) X.A X.env xe → g body = true → PSs (X.tr pn xe) body (liftS G u W b)) :
    PS X st (liftS G u W (dGdS (c ∈ Γ.exc) (sTry (fun y => y ∈ Γ.exc) Γ.sub c i j b))) := by
  obtain ⟨body, n, y, p1, p2, p3, p4, p5, p6, rfl, h1, h2, h3, h4, h5, h6, h7, h8⟩ := trB_ok h
  refine guard_S fun hc => ?_
  have oc := C.exc c hc
  obtain ⟨g1, g2, _⟩ := glB_ok C.toCg h1
  have kind : X.env.kindOf n = some .local := by show X.env.scope.names.lookup n = _; rw [C.hsc]; exact h3
  exact lift_try (fun y hy => (C.exs y hy c hc).2) (ps_try_keep C.ex0 C.stk C.frm (by rw [C.hN]; exact C.nd) (by rw [C.hN]; exact h2) kind ⟨g1, g2, .inl oc.at_⟩ tk (fun W2 pn xe tk2 po => hb W2 pn xe body tk2 po h8) fun a oe cls d pn _ _ =>
    pss_one (ps_set (X := X.suite a ((a, oe) :: pn)) (by show X.N.Nodup; rw [C.hN]; exact C.nd) (by show X.N[j]? = some y; rw [C.hN]; exact h4) (locB_ok C h5) (pe_var (X := X.suite a ((a, oe) :: pn)) (by show X.N[i]? = some n; rw [C.hN]; exact h2) (.inl kind) h6 h7) rfl (.inl (C.fnt y))))
theorem appB_ok {N : List Str} {sc : Scope} {i : Nat} {g : Expr → Bool} {st : Stmt} (h : appB N sc i g st = true) : ∃ o ap e q p, st = .Expr (.Call (.Attribute o "append" ap) [e] [] q) p ∧ varB N sc i o = true ∧ isSt e = false ∧ (ap.endLine == q.line) = true ∧ g e = true := by
  unfold appB at h
  split at h
  · simp only [Bool.and_eq_true, decide_eq_true_eq, Bool.not_eq_true'] at h
    obtain ⟨⟨⟨⟨h1, rfl⟩, h3⟩, h4⟩, h5⟩ := h
    exact ⟨_, _, _, _, _, rfl, h1, h3, h4, h5⟩
  · cases h
theorem sound_app {N : List Str} {sc : Scope} {X : Cx} {W : WX} (C : Cg G Γ k N sc X) {i : Nat} {g : Expr → Bool} {st : Stmt} {t : TP} {al : List Nat} {u : Nat} (h : appB N sc i g st = true) (he : ∀ e, g e = true → PE X e (liftP G u W al t)) : PS X st (liftS G u W (sApp i al t)) := by
  obtain ⟨o, ap, e, q, p, rfl, h1, h2, h3, h4⟩ := appB_ok h
  have hb : attributeBase o "append" X.env (eval o X.env) = eval o X.env := by
    cases o <;> first
      | rfl
      | cases h1
  exact lift_app (ps_expr (pe_bm PySem.F.plainAttrs_list PySem.F.slot_list_append PySem.F.type_list_append mt_append (varB_ok C h1) (pa_cons (he e h4) pa_nil (star_cons e [] X.env (isSt_ok h2))) hb (by rw [star_cons e [] X.env (isSt_ok h2)]; rfl) h3 (star_cons e [] X.env (isSt_ok h2))) rfl)
theorem setB_ok {N : List Str} {sc : Scope} {i : Nat} {gk g : Expr → Bool} {st : Stmt} (h : setB N sc i gk g st = true) : ∃ o ix p1 e p, st = .Assign [.Subscript o ix p1] e p ∧ varB N sc i o = true ∧ gk ix = true ∧ isComp e = false ∧ g e = true := by
  unfold setB at h
  split at h
  · simp only [Bool.and_eq_true, Bool.not_eq_true'] at h
    obtain ⟨⟨⟨h1, h2⟩, h3⟩, h4⟩ := h
    exact ⟨_, _, _, _, _, rfl, h1, h2, h3, h4⟩
  · cases h
theorem sole_no {e t : Expr} {l : Nat} {env : Env} (h : isComp e = false) : swapsWithSole [t] e l env = pure false := swNo h
theorem noSwap_ok {e t : Expr} {env : Env} (h : noSwap e = true) : swappedStores [t] e env = pure none := by
  cases e with
  | Tuple vs kd p =>
    have hv : vs.all (foldedForSure 8) = true := h
    unfold swappedStores
    cases t with
    | Tuple ts k2 p2 =>
      simp only [hv, if_true]
      repeat' (first | rfl | split)
    | List ts p2 =>
      simp only [hv, if_true]
      repeat' (first | rfl | split)
    | _ => rfl
  | _ => cases t <;> rfl
theorem swap_cell {ts vs : List Expr} {k1 k2 : Nat} {p1 p2 : Pos} {env : Env} (h : anyCell env.scope ts = true) : swappedStores [.Tuple ts k1 p1] (.Tuple vs k2 p2) env = pure none := by
  let line := (ts.head?.map (·.pos.line)).getD 0
  have few : ∀ us : List Expr, anyCell env.scope us = true → (us.filterMap fun t => match t with | .Name id pos => if env.kindOf id == some .local && pos.line == line then some id else none | _ => none).length < us.length := fun us => by
    induction us with
    | nil => intro h; cases h
    | cons u r ih =>
      intro h
      unfold anyCell at h ih
      rw [List.any_cons, Bool.or_eq_true] at h
      have le : (r.filterMap fun t => match t with | .Name id pos => if env.kindOf id == some .local && pos.line == line then some id else none | _ => none).length ≤ r.length := List.length_filterMap_le _ _
      rw [List.filterMap_cons]
      rcases h with h | h
      · have z : (match u with | .Name id pos => if env.kindOf id == some .local && pos.line == line then some id else none | _ => none) = none := by
          cases u with
          | Name x p =>
            have h : (!decide (env.scope.names.lookup x = some .local)) = true := h
            have n : (env.kindOf x == some .local) = false := by
              unfold Env.kindOf
              refine Bool.eq_false_iff.mpr fun e => ?_
              rw [beq_iff_eq.mp e] at h
              simp at h
            show (if env.kindOf x == some .local && p.line == line then some x else none) = none
            rw [n]
            rfl
          | _ => rfl
        rw [z]
        exact Nat.lt_succ_of_le le
      · have := ih h
        split
        · show _ < r.length + 1
          omega
        · show _ + 1 < r.length + 1
          omega
  have lt := few ts h
  have c : (!((ts.filterMap fun t => match t with | .Name id pos => if env.kindOf id == some .local && pos.line == line then some id else none | _ => none).length == ts.length)) = true := by
    rw [Bool.not_eq_true', beq_eq_false_iff_ne]
    omega
  unfold swappedStores
  dsimp only
  split
  · rfl
  · split
    · rfl
    · split
      · rfl
      · rename_i n
        exact absurd (by rw [Bool.or_eq_true]; exact .inl c) n
theorem swap2_ok {X : Cx} {x y : Str} {px py p1 p2 : Pos} {k1 k2 : Nat} {a b : Expr} (hk : X.env.scope.kind = .function) (hx : X.env.scope.names.lookup x = some .local) (hy : X.env.scope.names.lookup y = some .local) (hl : (py.line == px.line) = true) (hxy : x ≠ y) (sa : isSt a = false) (sb : isSt b = false)
    (h1 : [a, b].all (foldedForSure 8) = false) (h2 : [a, b].all (constantsAlone 8) = false) : swappedStores [.Tuple [.Name x px, .Name y py] k1 p1] (.Tuple [a, b] k2 p2) X.env = pure (some [x, y]) := by
  have e1 : (X.env.kindOf x == some .local) = true := by unfold Env.kindOf; rw [hx]; rfl
  have e2 : (X.env.kindOf y == some .local) = true := by unfold Env.kindOf; rw [hy]; rfl
  have e3 : (X.env.blockKind != .function) = false := by unfold Env.blockKind; rw [hk]; rfl
  have st : ∀ {u : Expr}, isSt u = false → (match u with | .Starred .. => true | _ => false) = false := fun {u} h => by
    cases u <;> first
      | rfl
      | exact absurd h (by simp [isSt])
  have e4 : ([a, b].any fun | .Starred .. => true | _ => false) = false := by
    rw [List.any_cons, List.any_cons, List.any_nil, Bool.or_false]
    have z1 := st sa
    have z2 := st sb
    rw [Bool.or_eq_false_iff]
    exact ⟨z1, z2⟩
  have e5 : (px.line == px.line) = true := by simp
  have e6 : (y == x) = false := beq_eq_false_iff_ne.mpr (Ne.symm hxy)
  have f1 : ([Expr.Name x px, Expr.Name y py].filterMap fun t => match t with | .Name id pos => if X.env.kindOf id == some .local && pos.line == px.line then some id else none | _ => none) = [x, y] := by
    rw [List.filterMap_cons, List.filterMap_cons, List.filterMap_nil]
    dsimp only
    simp only [e1, e5, e2, hl, Bool.and_self, if_true]
  have f2 : [x, y].eraseDups = [x, y] := by
    rw [List.eraseDups_cons, List.filter_cons, e6]
    simp only [Bool.not_false, if_true, List.filter_nil]
    rw [List.eraseDups_cons, List.filter_nil, List.eraseDups_nil]
  unfold swappedStores
  dsimp only
  rw [if_neg (by rw [e3]; simp)]
  split
  · rename_i z
    exact absurd (e4.symm.trans z) Bool.false_ne_true
  · generalize hz : List.filterMap _ [Expr.Name x px, Expr.Name y py] = z
    have ez : z = [x, y] := hz.symm.trans f1
    rw [ez, f2]
    rw [if_neg (by simp), if_neg (by rw [h1]; simp), if_neg (by rw [h2]; simp)]
theorem asgSub {o ix : Expr} {p1 : Pos} {env : Env} (h : ∀ l u s p, ix ≠ .Slice l u s p) (v : Value) : assign (.Subscript o ix p1) env v = (do
      let ov ← holding [v] (eval o env)
      let iv ← holding [v, ov] (eval ix env)
      standAt p1
      holding [v, ov, iv] (setItem ov iv v)
      release [v, ov, iv] []) := by
  cases ix <;> first
    | rfl
    | exact absurd rfl (h _ _ _ _)
theorem swapSub {o ix e : Expr} {p1 : Pos} {env : Env} : swappedStores [.Subscript o ix p1] e env = pure none := by
  cases e <;> rfl
theorem nameAt_ok {N : List Str} {sc : Scope} {X : Cx} (C : Cs G Γ k N sc X) : ∀ {js : List Nat} {ts : List Expr}, nameAt N sc js ts = true → PGs X ts (gNames js) ∧ ts.length = js.length ∧ (assignEach ts X.env).length = js.length ∧ (assignEach ts X.env).findIdx? (·.1) = none
  | [], [], _ => ⟨pgs_nil, rfl, rfl, rfl⟩
  | [], _ :: _, h => by simp [nameAt] at h
  | j :: js, [], h => by simp [nameAt] at h
  | j :: js, t :: ts, h => by
    cases t with
    | Name x p =>
      simp only [nameAt, Bool.and_eq_true, decide_eq_true_eq] at h
      obtain ⟨q1, q2, q3, q4⟩ := nameAt_ok C h.2
      refine ⟨pgs_cons (pg_name (by rw [C.hN]; exact C.nd) (by rw [C.hN]; exact h.1.1) (locB_ok C h.1.2) (.inl (C.fnt x))) q1, by simp [q2], ?_, ?_⟩
      · show (_ :: assignEach ts X.env).length = _
        simp [q3]
      · show (_ :: assignEach ts X.env).findIdx? _ = none
        rw [List.findIdx?_cons]
        simp [q4]
    | _ => simp [nameAt] at h
theorem unpB_ok {N : List Str} {sc : Scope} {js : List Nat} {g : Expr → Bool} {st : Stmt} (h : unpB N sc js g st = true) : ∃ ts kd p1 e p, st = .Assign [.Tuple ts kd p1] e p ∧ nameAt N sc js ts = true ∧ noSwap e = true ∧ isComp e = false ∧ g e = true := by
  unfold unpB at h
  split at h
  · simp only [Bool.and_eq_true, Bool.not_eq_true'] at h
    obtain ⟨⟨⟨h1, h2⟩, h3⟩, h4⟩ := h
    exact ⟨_, _, _, _, _, rfl, h1, h2, h3, h4⟩
  · cases h
theorem unpNB_ok {N : List Str} {sc : Scope} {js : List Nat} {nws : List Bool} {g : List Expr → Bool} {st : Stmt} (h : unpNB N sc js (fun es => decide (nws.length = es.length) && g es) st = true) :
    ∃ ts k1 p1 es k2 p2 p, st = .Assign [.Tuple ts k1 p1] (.Tuple es k2 p2) p ∧ nameAt N sc js ts = true ∧ (noSwap (.Tuple es k2 p2) || anyCell sc ts || swap2B N sc js ts es) = true ∧ js.length = es.length ∧ nws.length = es.length ∧ g es = true := by
  unfold unpNB at h
  split at h
  · simp only [Bool.and_eq_true, decide_eq_true_eq] at h
    obtain ⟨⟨⟨h1, h2⟩, h3⟩, h4, h5⟩ := h
    exact ⟨_, _, _, _, _, _, _, rfl, h1, h2, h3, h4, h5⟩
  · cases h
theorem swap2B_ok {N : List Str} {sc : Scope} {js : List Nat} {ts es : List Expr} (h : swap2B N sc js ts es = true) : ∃ i j x y px py a b, js = [i, j] ∧ ts = [.Name x px, .Name y py] ∧ es = [a, b] ∧ i ≠ j ∧ N[i]? = some x ∧ N[j]? = some y ∧ sc.names.lookup x = some .local ∧ sc.names.lookup y = some .local ∧ (py.line == px.line) = true ∧ x ≠ y ∧
    isSt a = false ∧ isSt b = false ∧ [a, b].all (foldedForSure 8) = false ∧ [a, b].all (constantsAlone 8) = false := by
  unfold swap2B at h
  split at h
  · simp only [Bool.and_eq_true, decide_eq_true_eq, Bool.not_eq_true'] at h
    obtain ⟨⟨⟨⟨⟨⟨⟨⟨⟨⟨z1, z2⟩, z3⟩, z4⟩, z5⟩, z6⟩, z7⟩, z8⟩, z9⟩, z10⟩, z11⟩ := h
    exact ⟨_, _, _, _, _, _, _, _, rfl, rfl, rfl, z1, z2, z3, z4, z5, z6, z7, z8, z9, z10, z11⟩
  · cases h
theorem soundI {N : List Str} {sc : Scope} {X : Cx} {W : WX} (C : Cg G Γ k N sc X) (tk : Takes X W) : ∀ (nws : List Bool) (ms : Ms) (es : List Expr), nws.length = es.length → chL N sc ms es = true → PA X es (tItms G W (itms Γ nws ms)) ∧ uItms (itms Γ nws ms) = coL Γ ms ∧ ∀ i ∈ itms Γ nws ms, ∀ j ∈ i.al, j ∈ alL ms
  | [], .nil, [], _, _ => ⟨pa_nil, rfl, fun _ z => absurd z List.not_mem_nil⟩
  | [], .cons _ _, [], _, h => by simp [chL] at h
  | _ :: _, _, [], h, _ => by simp at h
  | [], _, _ :: _, h, _ => by simp at h
  | _ :: _, .nil, _ :: _, _, h => by simp [chL] at h
  | b :: bs, .cons m r, e :: es, hl, h => by
    simp only [chL, Bool.and_eq_true, Bool.not_eq_true'] at h
    obtain ⟨q1, q2, q3⟩ := soundI C tk bs r es (by simpa using hl) h.2
    refine ⟨pa_cons ?_ q1 (star_cons e es X.env (isSt_ok h.1.1)), ?_, fun i hi j hj => ?_⟩
    · show PE X e (tItm G W ⟨b && isNew m, co Γ m, al m, den Γ m⟩)
      unfold tItm
      split
      · rename_i z
        exact soundN C tk m e ((Bool.and_eq_true _ _).mp z).2 h.1.2
      · exact sound C tk m e h.1.2
    · show co Γ m + uItms (itms Γ bs r) = co Γ m + coL Γ r
      rw [q2]
    · show j ∈ al m ++ alL r
      rcases List.mem_cons.mp hi with rfl | hi
      · exact List.mem_append_left _ hj
      · exact List.mem_append_right _ (q3 i hi j hj)
theorem tgtB_ok {N : List Str} {sc : Scope} {js : List Nat} {t : Expr} (h : tgtB N sc js t = true) : ∃ ts k p, t = .Tuple ts k p ∧ nameAt N sc js ts = true := by
  unfold tgtB at h
  split at h
  · exact ⟨_, _, _, rfl, h⟩
  · cases h
theorem frTB_ok {N : List Str} {sc : Scope} {i j : Nat} {t : Expr} (h : frTB N sc i j t = true) : ∃ ts k p, t = .Tuple ts k p ∧ nameAt N sc [i, j] ts = true := by
  unfold frTB at h
  split at h
  · exact ⟨_, _, _, rfl, h⟩
  · cases h
theorem enB_ok {sc : Scope} {g : Expr → Bool} {e : Expr} (h : enB sc g e = true) : ∃ x p q, e = .Call (.Name "enumerate" p) [x] [] q ∧ glB sc "enumerate" = true ∧ isSt x = false ∧ g x = true := by
  unfold enB at h
  split at h
  · simp only [Bool.and_eq_true, decide_eq_true_eq, Bool.not_eq_true'] at h
    obtain ⟨⟨⟨rfl, h2⟩, h3⟩, h4⟩ := h
    exact ⟨_, _, _, rfl, h2, h3, h4⟩
  · cases h
theorem thC_ok {a : Str} {e : Expr} (h : thC a e = true) : ∃ p q, e = .Call (.Name a p) [] [] q := by
  unfold thC at h
  split at h
  · rw [of_decide_eq_true h]
    exact ⟨_, _, rfl⟩
  · cases h
theorem th_pe {N : List Str} {sc : Scope} {X : Cx} {W : WX} (C : Cs G Γ k N sc X) (tk : Takes X W) {fl : Addr} {h : Thk} (e1 : Γ.th = some (fl, h)) {e : Expr} (he : thC (N.headD "") e = true) : PE X e (liftP G 0 W [] (thkP fl h)) := by
  obtain ⟨p, q, rfl⟩ := thC_ok he
  exact C.th fl h e1 X.pn X.xe W p q tk
theorem sound_thL {N : List Str} {sc : Scope} {X : Cx} {W : WX} (C : Cs G Γ k N sc X) (tk : Takes X W) {i : Nat} {x : Str} {py p2 p : Pos} {e : Expr} (hi : N[i]? = some x) (hl : locB sc x = true) (hs : isSt e = false) (he : thC (N.headD "") e = true) :
    PS X (.Assign [.Name x py] (.List [e] p2) p) (liftS G 0 W (sThL Γ.th i)) := by
  cases q : Γ.th with
  | none => exact never_S fun E env z => z.2
  | some fh =>
    obtain ⟨fl, h⟩ := fh
    have pe := th_pe C tk q he
    have s1 := star_cons e [] X.env (isSt_ok hs)
    refine (lift_setNew (i := i) (ps_set (by rw [C.hN]; exact C.nd) (by rw [C.hN]; exact hi) (locB_ok C hl) (lift_lst (pe_lst (lift_cons (u1 := 0) (u2 := 0) (al := []) sub0 sub0 (pa_cons pe (lift_nil pa_nil) s1)))) rfl (.inl (C.fnt x)))).imp fun E σ H ⟨T, m, Z, env, DE, hm, R, ⟨h1, h2, h3⟩, F⟩ => ⟨T, m, Z, env, DE, hm, R, ⟨h1, h2, ?_⟩, F⟩
    have ee : (fun d => ([d] : List D).length ≤ sizeLine ∧ DE.nx ((dis [] env).set i (some (true, .lst [d])))) = fun d => DE.nx (env.set i (some (true, .lst [d]))) := by
      funext d
      exact propext ⟨fun z => z.2, fun z => ⟨by show 1 ≤ sizeLine; decide, z⟩⟩
    show h (fun d => ([d] : List D).length ≤ sizeLine ∧ DE.nx ((dis [] env).set i (some (true, .lst [d])))) (exe DE env)
    rw [ee]
    exact h3
theorem sound_thP {N : List Str} {sc : Scope} {X : Cx} {W : WX} (C : Cs G Γ k N sc X) (tk : Takes X W) {i : Nat} {x : Str} {py p : Pos} {e : Expr} (hi : N[i]? = some x) (hl : locB sc x = true) (he : thC (N.headD "") e = true) :
    PS X (.Assign [.Name x py] e p) (liftS G 0 W (sThP Γ.th i)) := by
  cases q : Γ.th with
  | none => exact never_S fun E env z => z.2
  | some fh =>
    obtain ⟨fl, h⟩ := fh
    have pe := th_pe C tk q he
    have nc : isComp e = false := by
      obtain ⟨_, _, rfl⟩ := thC_ok he
      rfl
    exact (lift_set (i := i) (ps_set (by rw [C.hN]; exact C.nd) (by rw [C.hN]; exact hi) (locB_ok C hl) pe (swNo nc) (.inl (C.fnt x)))).imp fun E σ H ⟨T, m, Z, env, DE, hm, R, ⟨h1, h2, h3⟩, F⟩ => ⟨T, m, Z, env, DE, hm, R, ⟨h1, h2, h3⟩, F⟩
theorem sound_thE {N : List Str} {sc : Scope} {X : Cx} {W : WX} (C : Cs G Γ k N sc X) (tk : Takes X W) {p : Pos} {e : Expr} (he : thC (N.headD "") e = true) : PS X (.Expr e p) (liftS G 0 W (sThE Γ.th)) := by
  cases q : Γ.th with
  | none => exact never_S fun E env z => z
  | some fh =>
    obtain ⟨fl, h⟩ := fh
    have pe := th_pe C tk q he
    have nc : isComp e = false := by
      obtain ⟨_, _, rfl⟩ := thC_ok he
      rfl
    exact (lift_expr (ps_expr pe (swNo nc))).imp fun E σ H ⟨T, m, Z, env, DE, hm, R, ⟨h2, h3⟩, F⟩ => ⟨T, m, Z, env, DE, hm, R, ⟨h2, h3⟩, F⟩
theorem lift_dis {X : Cx} {W : WX} {sts : List Stmt} {t : TDS} {u i : Nat} (h : PSs X sts (liftS G u W t)) : PSs X sts (liftS G u W fun E env => t E (dis1 i env)) := h.imp fun E σ H ⟨T, m, Z, env, DE, hm, R, q, F⟩ =>
  ⟨T, m, Z, _, DE, hm, (R.dis1 i).1, q, F.on (R.dis1 i).2⟩
theorem sound_rput {N : List Str} {sc : Scope} {X : Cx} {W : WX} (C : Cg G Γ k N sc X) {i : Nat} {key : Str} {m : M} {t e : Expr} {p : Pos} {al : List Nat} {u0 : Nat} (h : rsB N sc i key t = true) (he : PE X e (liftP G u0 W al (den Γ m))) (hc : isComp e = false) :
    PS X (.Assign [t] e p) (liftS G u0 W (denSt Γ (.rput i key m))) := (ps_rput C h he hc).imp fun E σ H ⟨T, m, Z, env, DE, hm, R, q, F⟩ =>
  ⟨T, m, Z, env, _, _, hm, R, q, fun v d H1 g hd ⟨n', ed, p⟩ => by
    subst ed
    cases hd
    obtain ⟨b2, d2, e1, rfl, hk, q1⟩ := dVar_get _ p
    have R1 := R.growG g
    exact put_core (C.rs (.inl hk)) g.ok (hnd_at R1 e1) hk fun H2 g2 => F.n _ _ _ (R1.growG g2) (R.grow (g.trans g2).to (g.trans g2).ok).2 q1, xw_of R F⟩
theorem incB_ok {N : List Str} {sc : Scope} {X : Cx} (C : Cg G Γ k N sc X) {i : Nat} {key : Str} {e : Expr} (h : incB N sc i key e = true) : PE X e (tOp (rI0 fun i j => .int (i + j)) (tGetS i key) (tC (.int 1))) ∧ isComp e = false := by
  unfold incB at h
  split at h
  · rw [Bool.and_eq_true, decide_eq_true_eq] at h
    obtain ⟨h1, h2⟩ := h
    subst h2
    exact ⟨pe_op op_add (rsB_ok C h1) pe_int, rfl⟩
  · cases h
theorem sound_tick1 {N : List Str} {sc : Scope} {X : Cx} {W : WX} (C : Cg G Γ k N sc X) {i : Nat} {key : Str} {t e : Expr} {p : Pos} (h : rsB N sc i key t = true) (he : incB N sc i key e = true) :
    PS X (.Assign [t] e p) (liftS G 1 W (denSt Γ (.tick1 i key))) := (ps_rput C h (incB_ok C he).1 (incB_ok C he).2).imp fun E σ H ⟨T, m, Z, env, DE, hm, R, q, F⟩ => by
  obtain ⟨b2, d2, e1, rfl, hk, q1⟩ := dVar_get (exe DE env) q
  have hσ := hnd_at R e1
  obtain ⟨kvs, n, a1, a2, n0, n1, hl, g⟩ := tick_core (C.rs (.inr (.inr (.inr hk)))) R.ok hk
  have g2 := g.le hm.1
  exact ⟨_, hσ, _, _, rfl, (a2 ▸ DGet.k (k := (.inr key : Key)) a1), n, 1, rfl, rfl, _, hσ, _, _, rfl, DPut.k (k := (.inr key : Key)) a1 hl, F.n _ _ _ (R.growG g2) (R.grow g2.to g2.ok).2 q1⟩
theorem sound_tick {N : List Str} {sc : Scope} {X : Cx} {W : WX} (C : Cs G Γ k N sc X) {i j : Nat} {key : Str} {x y : Stmt} {xs : List Stmt} {r : Ss} {u0 : Nat} (h1 : tickB1 N sc i j key x = true) (h2 : tickB2 N sc i j key y = true) (hr : PSs X xs (liftS G u0 W (denSs Γ r)))
    (one : ∀ {p : Expr → Bool} {ts : List Expr}, oneB p ts = true → ∃ e, ts = [e] ∧ p e = true) : PSs X (x :: y :: xs) (liftS G (1 + u0) W (denSs Γ (.tick i j key r))) := by
  unfold tickB1 at h1
  split at h1
  · unfold tickB2 at h2
    split at h2
    · rw [Bool.and_eq_true] at h1 h2
      obtain ⟨a1, a2⟩ := h1
      obtain ⟨b1, b2⟩ := h2
      obtain ⟨z, pz, rfl, c1, c2⟩ := asgB_ok a1
      obtain ⟨t, rfl, b1⟩ := one b1
      have hv := varB_ok C.toCg b2
      have nc : ∀ {e : Expr}, varB N sc j e = true → isComp e = false := fun {e} he => by
        cases e <;> first
          | rfl
          | cases he
      refine (pss_cons (ps_set (by rw [C.hN]; exact C.nd) (by rw [C.hN]; exact c1) (locB_ok C c2) (incB_ok C.toCg a2).1 (swNo (incB_ok C.toCg a2).2) (.inl (C.fnt z))) (pss_cons (ps_rput C.toCg b1 hv (nc b2)) hr)).imp fun E σ H ⟨T, m, Z, env, DE, hm, R, q, F⟩ => ?_
      obtain ⟨bb, d2, e1, rfl, hk, hij, hl, q1⟩ := dVar_get (exe DE env) q
      have hσ := hnd_at R e1
      obtain ⟨kvs, n, a1, a2, n0, n1, hlk, g⟩ := tick_core (C.rs (.inr (.inr (.inr hk)))) R.ok hk
      have hs := (C.rs (.inr (.inr (.inr hk)))).small
      have q2 := q1 n n0 (by omega)
      have g1 := R.self
      obtain ⟨R3, K3⟩ := R.set (i := j) (v := .int (n + 1)) (d := .int (n + 1)) hl (.int _)
      have R4 := R3.growG g
      have K4 := (R3.grow g.to g.ok).2
      have hlσ : j < σ.length := R.len ▸ hl
      refine ⟨_, hσ, _, _, rfl, (a2 ▸ DGet.k (k := (.inr key : Key)) a1), n, 1, rfl, rfl, ?_⟩
      refine ⟨_, List.getElem?_set_self hlσ, _, by rw [List.getElem?_set_ne (fun z => hij z.symm)]; exact hσ, _, _, rfl, DPut.k (k := (.inr key : Key)) a1 hlk, ?_⟩
      exact ⟨T + 1, m, Z, _, DE, ⟨by omega, by omega⟩, R4, q2, F.on (K3.trans K4)⟩
    · cases h2
  · cases h1
theorem sound_rif {N : List Str} {sc : Scope} {X : Cx} {W : WX} (C : Cg G Γ k N sc X) {i : Nat} {c : M} {key key2 : Str} {b : Ss} {x : Expr} {y z : List Stmt} {p : Pos} {u1 u2 : Nat} (hT : ∀ e, chE N sc c e = true → PT X e (liftT G u1 W (denT Γ c))) (hB : PSs X z (liftS G u2 W (denSs Γ b)))
    (h1 : rifT N sc i key (chE N sc c) x = true) (h2 : rifB N sc i key key2 y = true) : PS X (.If x y z p) (liftS G (u1 + u2) W (denSt Γ (.rif i c key key2 b))) := by
  unfold rifT at h1
  split at h1
  · unfold rifB at h2
    split at h2
    · rw [Bool.and_eq_true] at h1 h2
      refine (ps_if (pw_and (hT _ h1.1) (pw_and1 (neB_ok C h1.2))).pt (pss_one (ps_rput C h2.1 (popB_ok C h2.2) (popB_comp h2.2))) hB).imp fun E σ H ⟨T, m, Z, env, DE, hm, R, q, F⟩ => ?_
      refine ⟨T, T + u1, Z, env, _, _, ⟨Nat.le_refl _, by omega⟩, R, q, fun t H1 g p => ?_, xw_of R (F.le (by omega))⟩
      have R1 := R.growG g
      have all : ∀ H2, Grow G (T + u1) H H2 → denSs Γ b DE env → liftS G u2 W (denSs Γ b) E σ H2 := fun H2 g2 q => ⟨T + u1, m, Z, env, DE, ⟨by omega, by omega⟩, R.growG g2, q, F.on (R.grow g2.to g2.ok).2⟩
      cases t with
      | false => exact iteF (iteF (all H1 g p))
      | true =>
        obtain ⟨bb, d, e1, rfl, hk, hk2, q1, q2⟩ := dVar_get (exe DE env) p
        have hσ := hnd_at R1 e1
        refine iteT (ne_core (C.rs (.inr (.inl hk))) R1.ok hσ hk (fun H2 kvs b n1 ns g2 a1 a2 fb a3 => iteT ?_) fun H2 g2 => iteF (all H2 (g.trans g2) q2))
        have pc : tPop G.K i key σ H2 fun v H3 => tVar i σ H3 fun x H4 => tC (.str key2) σ H4 fun y H5 => ∃ a H6, x = .ref a ∧ DPut H5 a y v H6 ∧ E.nx σ H6 :=
          pop_core (C.rs (.inr (.inl hk))) g2.ok hσ hk a1 a2 fb a3 fun H3 g3 => put_core (C.rs (.inr (.inl hk))) g3.ok hσ hk2 fun H4 g4 => by
            have gg := (((g.trans g2).trans g3).trans g4).le (m := m) (by omega)
            exact F.n _ _ _ (R.growG gg) (R.grow gg.to gg.ok).2 q1
        rw [C.hK] at pc
        exact pc
    · cases h2
  · cases h1
theorem oneB_ok {p : Expr → Bool} {ts : List Expr} (h : oneB p ts = true) : ∃ e, ts = [e] ∧ p e = true := by
  unfold oneB at h
  split at h
  · exact ⟨_, rfl, h⟩
  · cases h
mutual
theorem soundSt {N : List Str} {sc : Scope} {X : Cx} {W : WX} (C : Cs G Γ k N sc X) (tk : Takes X W) : ∀ (s : S) (st : Stmt), chSt N sc s st = true → PS X st (liftS G (coSt Γ s) W (denSt Γ s)) := by
  intro s st h
  match s with
  | .put i m =>
    cases st with
    | Assign ts e p =>
      simp only [chSt, Bool.and_eq_true, Bool.not_eq_true'] at h
      obtain ⟨⟨h1, h3⟩, h4⟩ := h
      obtain ⟨x, py, rfl, h1, h2⟩ := asgB_ok h1
      exact lift_set (ps_set (by rw [C.hN]; exact C.nd) (by rw [C.hN]; exact h1) (locB_ok C h2) (sound C.toCg tk m e h4) (swNo h3) (.inl (C.fnt x)))
    | _ => simp [chSt] at h
  | .own i m =>
    cases st with
    | Assign ts e p =>
      simp only [chSt, Bool.and_eq_true] at h
      obtain ⟨⟨h1, h3⟩, h4⟩ := h
      obtain ⟨x, py, rfl, h1, h2⟩ := asgB_ok h1
      exact lift_setNew (asg_any C tk h1 h2 h3 h4)
    | _ => simp [chSt] at h
  | .exp m =>
    cases st with
    | Expr e p =>
      simp only [chSt, Bool.and_eq_true, Bool.not_eq_true'] at h
      exact lift_expr (ps_expr (sound C.toCg tk m e h.2) (swNo h.1))
    | _ => simp [chSt] at h
  | .ret m =>
    cases st with
    | Return o p => cases o with
      | some e => exact lift_ret (ps_ret (sound C.toCg tk m e (by simpa only [chSt] using h)))
      | none => simp [chSt] at h
    | _ => simp [chSt] at h
  | .retN =>
    cases st with
    | Return o p => cases o with
      | some e => simp [chSt] at h
      | none => exact lift_retN ps_retN
    | _ => simp [chSt] at h
  | .pass =>
    cases st with
    | Pass p => exact lift_pass ps_pass
    | _ => simp [chSt] at h
  | .brk =>
    cases st with
    | Break p => exact lift_brk ps_break
    | _ => simp [chSt] at h
  | .cnt =>
    cases st with
    | Continue p => exact lift_cont ps_continue
    | _ => simp [chSt] at h
  | .ite c a b =>
    cases st with
    | If x y z p =>
      simp only [chSt, Bool.and_eq_true] at h
      exact lift_ifS (ps_if (soundT C.toCg tk c x h.1.1) (soundSs C tk a y h.1.2) (soundSs C tk b z h.2))
    | _ => simp [chSt] at h
  | .frt js src b =>
    cases st with
    | For t iter y o p =>
      simp only [chSt, Bool.and_eq_true] at h
      obtain ⟨⟨⟨h1, h3⟩, h4⟩, h5⟩ := h
      obtain ⟨ts, kd, p2, rfl, hn⟩ := tgtB_ok h1
      have eo : o = [] := List.isEmpty_iff.mp h3
      subst eo
      obtain ⟨q1, q2, q3, q4⟩ := nameAt_ok C hn
      obtain ⟨wi, w1, w2, w3⟩ := soundR C.toCg tk src iter h4
      exact lift_forT w2 (ps_for C.po C.calm (w1 ts kd p2) (pg_tup C.calm q1 q3 q4) (soundSs C tk b y h5) w3)
    | _ => simp [chSt] at h
  | .frE i j a b =>
    cases st with
    | For t iter y o p =>
      simp only [chSt, Bool.and_eq_true, List.isEmpty_iff] at h
      obtain ⟨⟨⟨h1, rfl⟩, h3⟩, h4⟩ := h
      obtain ⟨ts, kk, p1, rfl, h5⟩ := frTB_ok h1
      obtain ⟨x, p2, p3, rfl, h6, h7, h8⟩ := enB_ok h3
      obtain ⟨q1, q2, q3, q4⟩ := nameAt_ok C h5
      obtain ⟨g1, g2, g3⟩ := glB_ok C.toCg h6
      have sx := star_cons x [] X.env (isSt_ok h7)
      exact lift_forE C.hK (ps_for C.po C.calm (pi_enum g1 (C.free _ (by decide)) (pa_cons (sound C.toCg tk a x h8) pa_nil sx) sx) (pg_tup C.calm q1 q3 q4) (soundSs C tk b y h4))
    | _ => simp [chSt] at h
  | .fr i src b =>
    cases st with
    | For t iter y o p =>
      simp only [chSt, Bool.and_eq_true] at h
      obtain ⟨⟨⟨h1, h2⟩, h3⟩, h4⟩ := h
      obtain ⟨x, py, e, h6, h5⟩ := asgB_ok h1
      cases e
      cases o with
      | cons _ _ => cases h2
      | nil =>
        obtain ⟨wi, w1, w2, w3⟩ := soundS C.toCg tk src iter h3
        exact lift_forS w2 (ps_for C.po C.calm (w1 _) (pg_name (by rw [C.hN]; exact C.nd) (by rw [C.hN]; exact h6) (locB_ok C h5) (.inl (C.fnt x))) (soundSs C tk b y h4) w3)
    | _ => simp [chSt] at h
  | .wh c b =>
    cases st with
    | While x y o p =>
      simp only [chSt, Bool.and_eq_true] at h
      obtain ⟨⟨h1, h2⟩, h3⟩ := h
      cases o with
      | cons _ _ => cases h1
      | nil => exact lift_while (ps_while C.po (soundT C.toCg tk c x h2) (soundSs C tk b y h3))
    | _ => simp [chSt] at h
  | .raise c es =>
    cases st with
    | Raise o o2 p =>
      cases o with
      | none => simp [chSt] at h
      | some e => cases o2 with
        | some _ => simp [chSt] at h
        | none => exact sound_raise C.toCg tk (by simpa only [chSt] using h)
    | _ => simp [chSt] at h
  | .tr i j c b => exact sound_try C tk (by simpa only [chSt] using h) fun W2 pn xe body tk2 po hb => soundSs (C.tr po) tk2 b body hb
  | .app i m => exact sound_app C.toCg (by simpa only [chSt] using h) fun e he => sound C.toCg tk m e he
  | .setix i kx m =>
    obtain ⟨o, ix, p1, e, p, rfl, h1, h2, h3, h4⟩ := setB_ok (by simpa only [chSt] using h)
    exact lift_setix (ps_asg (sound C.toCg tk m e h4) (pg_sub (varB_ok C.toCg h1) (sound C.toCg tk kx ix h2) set_list (asgSub (ch_noSlice kx h2))) (sole_no h3) swapSub rfl)
  | .setk i kx m =>
    obtain ⟨o, ix, p1, e, p, rfl, h1, h2, h3, h4⟩ := setB_ok (by simpa only [chSt] using h)
    exact lift_setk (ps_mput C.hP C.hw C.room (varB_ok C.toCg h1) (sound C.toCg tk kx ix h2) (sound C.toCg tk m e h4) (swNo h3))
  | .unpN js nws ms =>
    obtain ⟨ts, k1, p1, es, k2, p2, p, rfl, h1, h2, h3, h4, h5⟩ := unpNB_ok (by simpa only [chSt] using h)
    obtain ⟨pa, eu, sa⟩ := soundI C.toCg tk nws ms es h4 h5
    show PS X _ (liftS G (coL Γ ms) W (sUnpN js (itms Γ nws ms) (alL ms)))
    rw [← eu]
    rw [Bool.or_eq_true, Bool.or_eq_true] at h2
    rcases h2 with (h2 | h2) | h2
    · obtain ⟨q1, q2, q3, q4⟩ := nameAt_ok C h1
      exact lift_unpN sa (ps_asg (pe_tup pa) (pg_tup C.calm q1 q3 q4) rfl (noSwap_ok h2) rfl)
    · obtain ⟨q1, q2, q3, q4⟩ := nameAt_ok C h1
      exact lift_unpN sa (ps_asg (pe_tup pa) (pg_tup C.calm q1 q3 q4) rfl (swap_cell (by rw [C.hsc]; exact h2)) rfl)
    · obtain ⟨i, j, x, y, px, py, a, b, rfl, rfl, rfl, z1, z2, z3, z4, z5, z6, z7, z8, z9, z10, z11⟩ := swap2B_ok h2
      exact lift_unp2 sa (ps_par C.calm (by rw [C.hN]; exact C.nd) (by rw [C.hN]; exact z2) (by rw [C.hN]; exact z3) z1 (by rw [C.hsc]; exact z4) (by rw [C.hsc]; exact z5) pa (swap2_ok (by rw [C.hsc]; exact C.kind) (by rw [C.hsc]; exact z4) (by rw [C.hsc]; exact z5) z6 z7 z8 z9 z10 z11))
  | .unp js m =>
    obtain ⟨ts, kd, p1, e, p, rfl, h1, h2, h3, h4⟩ := unpB_ok (by simpa only [chSt] using h)
    obtain ⟨q1, q2, q3, q4⟩ := nameAt_ok C h1
    exact lift_unp C.hK (ps_asg (sound C.toCg tk m e h4) (pg_tup C.calm q1 q3 q4) (sole_no h3) (noSwap_ok h2) rfl)
  | .thL i =>
    cases st with
    | Assign ts e p =>
      cases e with
      | List es p2 => cases es with
        | cons e r => cases r with
          | nil =>
            simp only [chSt, Bool.and_eq_true, Bool.not_eq_true'] at h
            obtain ⟨x, py, rfl, h1, h2⟩ := asgB_ok h.1.1
            exact sound_thL C tk h1 h2 h.1.2 h.2
          | cons _ _ => simp [chSt] at h
        | nil => simp [chSt] at h
      | _ => simp [chSt] at h
    | _ => simp [chSt] at h
  | .thP i =>
    cases st with
    | Assign ts e p =>
      simp only [chSt, Bool.and_eq_true] at h
      obtain ⟨x, py, rfl, h1, h2⟩ := asgB_ok h.1
      exact sound_thP C tk h1 h2 h.2
    | _ => simp [chSt] at h
  | .thE =>
    cases st with
    | Expr e p => exact sound_thE C tk (by simpa only [chSt] using h)
    | _ => simp [chSt] at h
  | .tick1 i key =>
    cases st with
    | Assign ts e p =>
      simp only [chSt, Bool.and_eq_true] at h
      obtain ⟨h1, h4⟩ := h
      obtain ⟨t, e0, h1⟩ := oneB_ok h1
      cases e0
      exact sound_tick1 C.toCg h1 h4
    | _ => simp [chSt] at h
  | .rput i key m =>
    cases st with
    | Assign ts e p =>
      simp only [chSt, Bool.and_eq_true, Bool.not_eq_true'] at h
      obtain ⟨⟨h1, h3⟩, h4⟩ := h
      obtain ⟨t, e0, h1⟩ := oneB_ok h1
      cases e0
      exact sound_rput C.toCg h1 (sound C.toCg tk m e h4) h3
    | _ => simp [chSt] at h
  | .rif i c key key2 b =>
    cases st with
    | If x y z p =>
      simp only [chSt, Bool.and_eq_true] at h
      exact sound_rif C.toCg (fun e he => soundT C.toCg tk c e he) (soundSs C tk b z h.2) h.1.1 h.1.2
    | _ => simp [chSt] at h
termination_by s => sizeOf s
decreasing_by all_goals (simp_wf; first | (subst_vars; omega) | omega)
theorem soundSs {N : List Str} {sc : Scope} {X : Cx} {W : WX} (C : Cs G Γ k N sc X) (tk : Takes X W) : ∀ (ss : Ss) (sts : List Stmt), chSs N sc ss sts = true → PSs X sts (liftS G (coSs Γ ss) W (denSs Γ ss)) := by
  intro ss sts h
  match ss with
  | .nil =>
    cases sts with
    | nil => exact lift_skip pss_nil
    | cons _ _ => simp [chSs] at h
  | .cons a r =>
    cases sts with
    | nil => simp [chSs] at h
    | cons x xs =>
      simp only [chSs, Bool.and_eq_true] at h
      exact lift_seq (pss_cons (soundSt C tk a x h.1) (soundSs C tk r xs h.2))
  | .tick i j key r =>
    cases sts with
    | nil => simp [chSs] at h
    | cons x xs => cases xs with
      | nil => simp [chSs] at h
      | cons y xs =>
        simp only [chSs, Bool.and_eq_true] at h
        exact sound_tick C h.1.1 h.1.2 (soundSs C tk r xs h.2) oneB_ok
  | .dis i r => exact lift_dis (soundSs C tk r sts (by simpa only [chSs] using h))
termination_by ss => sizeOf ss
decreasing_by all_goals (simp_wf; first | (subst_vars; omega) | omega)
end
end
end DL

/-! D15: the rule for a def; the world of a law (its state). -/
namespace DL
open PySem PySem.Spec PyProof.Rows L2
abbrev FD (K : PySem.W.Frag) (x : Str) (st : Stmt) (f : Addr) (fd : FuncData) : Prop := FunD K x x (defArgs st) (defBody st) (defScope st) [] [] f fd
def startD (N : List Str) (ds : List D) : DEnv := ds.map (fun d => some (false, d)) ++ List.replicate (N.length - ds.length) none
/-- a def by its name -/
def FnAt (P : Program) (w : World) (K : PySem.W.Frag) (mg : Str → Option Value) (base : Heap) (G : Ctx) (k c : Nat) (kws : List (Str × List Str)) (x : Str) (ps : List Str) (sp : FSp) : Prop :=
  ∃ f fd, mg x = some (.ref f) ∧ PySem.W.keepIn K (.ref f) = true ∧ Binds K fd ps [] ∧ FnG P w K mg base k f fd ps (liftSp G c ps.length sp) ∧
    ∀ ks, (x, ks) ∈ kws → ∀ (s : Shared) (us : List Value), K.In s.heap → us.length = ks.length → BindsTo s fd ⟨[], ks.zip us⟩ (ps.zip (ps.map fun p => ((ks.zip us).lookup p).getD .none)) ∧ ∀ p ∈ ps, p ∈ ks
theorem FnAt.mono {P : Program} {w : World} {K : PySem.W.Frag} {mg : Str → Option Value} {base : Heap} {G : Ctx} {j k c : Nat} {kws : List (Str × List Str)} {x : Str} {ps : List Str} {sp : FSp} (h : FnAt P w K mg base G j c kws x ps sp) (hk : j ≤ k) : FnAt P w K mg base G k c kws x ps sp :=
  let ⟨f, fd, h1, h2, h3, h4, h5⟩ := h
  ⟨f, fd, h1, h2, h3, h4.mono hk, h5⟩
/-- what a def's body may lean on -/
structure Wd (P : Program) (w : World) (K : PySem.W.Frag) (mg : Str → Option Value) (base : Heap) (G : Ctx) (Γ : Gam) (k : Nat) : Prop where
  hK : G.K = K
  hP : G.P = P
  hw : G.w = w
  hmg : G.mg = mg
  con : ∀ x d, Γ.con x = some d → ∃ u v, mg x = some u ∧ L2.RelV v u ∧ ∀ H, Den G H v d
  fn : ∀ x ps sp, Γ.fn x = some (ps, sp) → FnAt P w K mg base G k (Γ.cost x) Γ.kws x ps sp
  free : ∀ x ∈ frNames, mg x = none
  exc : ∀ x ∈ Γ.exc, OwnExc K mg x (G.ca x)
  exs : ∀ x ∈ Γ.exc, ∀ y ∈ Γ.exc, PySem.W.kitOne K (.ref (G.ca x)) (.ref (G.ca y)) = some (Γ.sub x y) ∧ PySem.W.exmOne K (.ref (G.ca x)) (.ref (G.ca y)) = some (Γ.sub x y)
  exn : ∀ x ∈ Γ.exn, x ∈ Γ.exc ∧ NoInit K (G.ca x)
  fnv : ∀ x sp, Γ.fnv x = some sp → ∃ f, mg x = some (.ref f) ∧ PySem.W.keepIn K (.ref f) = true ∧ FnV P w K mg base k f (liftSpV G (Γ.cost x) sp)
  res : (∀ key, ¬ (key ∈ Γ.ik ∨ key ∈ Γ.lk ∨ key ∈ Γ.sk ∨ key ∈ Γ.tk)) ∨ ResOk G Γ.ik Γ.lk Γ.sk Γ.tk
  more : More K mg G Γ.exi Γ.exc Γ.ve
theorem start_er {G : Ctx} {T : Nat} {Z : Addr → Prop} {H : Hp} {N : List Str} {vs : List V} {ds : List D} (h1 : ZOk G Z) (h2 : ∀ a, Z a → H a ≠ none) (ok : G.ok T H) (hd : DenL G (hid H Z) vs ds) : ER G T Z (L2.start N vs) H (startD N ds) := by
  have noOwn : ∀ (i : Nat) (d : D), (startD N ds)[i]? ≠ some (some (true, d)) := fun i d e => by
    unfold startD at e
    rw [List.getElem?_append] at e
    split at e
    · rw [List.getElem?_map] at e
      cases q : ds[i]? with
      | none => rw [q] at e; cases e
      | some z => rw [q] at e; cases e
    · have m := List.mem_of_getElem? e
      cases List.eq_of_mem_replicate m
  have hz : hid H (Hz (L2.start N vs) (startD N ds) Z) = hid H Z := by
    have e : Hz (L2.start N vs) (startD N ds) Z = Z := by
      funext a
      exact propext ⟨fun q => q.elim (fun ⟨i, d, q1, _⟩ => absurd q1 (noOwn i d)) id, .inr⟩
    rw [e]
  refine ⟨by simp [startD, L2.start, hd.length], fun i d e => ?_, fun i d e => absurd e (noOwn i d), fun i j a d e q1 _ _ _ => absurd q1 (noOwn i d), h1.1, h2, ok, fun i a d q1 _ => absurd q1 (noOwn i d), h1.2⟩
  rw [hz]
  unfold startD at e
  rw [List.getElem?_append] at e
  split at e
  · rename_i hi
    rw [List.length_map] at hi
    rw [List.getElem?_map] at e
    cases q : ds[i]? with
    | none => rw [q] at e; cases e
    | some z =>
      rw [q] at e
      cases e
      obtain ⟨v, e1, e2⟩ := hd.getD q
      refine ⟨v, ?_, e2⟩
      unfold L2.start
      rw [List.getElem?_append_left (by rw [List.length_map, hd.length]; exact hi), List.getElem?_map, e1]
      rfl
  · have m := List.mem_of_getElem? e
    cases List.eq_of_mem_replicate m
theorem startD_own {N : List Str} {ds : List D} {σ : SS} {a : Addr} (h : Own σ (startD N ds) a) : False := by
  obtain ⟨i, d, e, _⟩ := h
  unfold startD at e
  rw [List.getElem?_append] at e
  split at e
  · rw [List.getElem?_map] at e
    cases q : ds[i]? with
    | none => rw [q] at e; cases e
    | some z => rw [q] at e; cases e
  · have m := List.mem_of_getElem? e
    cases List.eq_of_mem_replicate m
section
variable {P : Program} {w : World} {K : PySem.W.Frag} {mg : Str → Option Value} {base : Heap}
/-- how a body ends -/
def ends (P : D → Prop) (EP : XD → Prop) : DEnds := { nx := fun _ => P .non, rt := P, xe := fun x _ => EP x }
abbrev lamQ0 (x : Str) : Str := x ++ ".<locals>." ++ "<lambda>"
theorem cs_any {x : Str} {scope : Scope} {f : Addr} {cdv : Value} {A : Around} {outer : List Env} {s : Shared} {H : Hp} {E : XK} {N ps : List Str} {k : Nat} {Γ : Gam} {G : Ctx} (S : FnScope N ps scope) (W : Wd P w K mg base G Γ k) (gd : A.guards = some [])
    (hr : Room k (A.deeper (envOfC x scope s.heap.objs.size f cdv))) (hrL : hasCell scope = true → Room (k + 2) (A.deeper (envOfC x scope s.heap.objs.size f cdv)))
    (lam : hasCell scope = true → ∀ y sp, Γ.tfn y = some sp → LamF P w K mg base G k (Γ.cost y) cdv (lamQ0 x) y sp)
    (th : ∀ fl h, Γ.th = some (fl, h) → ∀ (pn : List (Addr × Obj)) (xe : Value → Shared → Prop) (W : WX) (p1 p2 : Pos), Takes ((cxOf (L2.CX P w) P w K mg base N x scope f cdv A outer s H E).tr pn xe) W →
      PE ((cxOf (L2.CX P w) P w K mg base N x scope f cdv A outer s H E).tr pn xe) (.Call (.Name (N.headD "") p1) [] [] p2) (liftP G 0 W [] (thkP fl h))) : Cs G Γ k N scope (cxOf (L2.CX P w) P w K mg base N x scope f cdv A outer s H E) where
  hK := W.hK
  hP := W.hP
  hw := W.hw
  hmg := W.hmg
  hN := rfl
  hsc := rfl
  nd := S.nd
  gd := gd
  room := hr
  roomL := hrL
  calm := rfl
  con := W.con
  fn := W.fn
  free := W.free
  exc := W.exc
  exs := W.exs
  exn := W.exn
  fnv := W.fnv
  lam := lam
  res := W.res
  more := W.more
  kind := S.kind
  fnt := fun _ => rfl
  po := passes_of rfl
  ex0 := rfl
  stk := rfl
  frm := rfl
  th := th
/-- a def that makes no lambda or may make them -/
structure LamS0 (P : Program) (w : World) (K : PySem.W.Frag) (mg : Str → Option Value) (base : Heap) (G : Ctx) (Γ : Gam) (k j : Nat) (x : Str) (scope : Scope) (cdv : Value) : Prop where
  le : k ≤ j
  leL : hasCell scope = true → k + 2 ≤ j
  lam : hasCell scope = true → ∀ y sp, Γ.tfn y = some sp → LamF P w K mg base G k (Γ.cost y) cdv (lamQ0 x) y sp
theorem lam_no {G : Ctx} {Γ : Gam} {k j : Nat} {x : Str} {scope : Scope} {cdv : Value} (h : hasCell scope = false) (le : k ≤ j) : LamS0 P w K mg base G Γ k j x scope cdv :=
  ⟨le, fun e => absurd (h ▸ e : false = true) (by decide), fun e => absurd (h ▸ e : false = true) (by decide)⟩
theorem cs_of {x : Str} {scope : Scope} {f : Addr} {cdv : Value} {A : Around} {outer : List Env} {s : Shared} {H : Hp} {E : XK} {N ps : List Str} {k j : Nat} {Γ : Gam} {G : Ctx} (S : FnScope N ps scope) (W : Wd P w K mg base G Γ k) (gd : A.guards = some [])
    (hr : Room j (A.deeper (envOfC x scope s.heap.objs.size f cdv))) (L : LamS0 P w K mg base G Γ k j x scope cdv) (hth : Γ.th = none) : Cs G Γ k N scope (cxOf (L2.CX P w) P w K mg base N x scope f cdv A outer s H E) :=
  cs_any S W gd (hr.mono L.le) (fun e => hr.mono (L.leL e)) L.lam fun fl h e => by rw [hth] at e; cases e
theorem tk_of {x : Str} {scope : Scope} {f : Addr} {cdv : Value} {A : Around} {outer : List Env} {s : Shared} {H : Hp} {E : XK} {N : List Str} : Takes (cxOf (L2.CX P w) P w K mg base N x scope f cdv A outer s H E) (fun cls d _ H' => E cls d H') :=
  takes_of rfl rfl rfl rfl
theorem grow_of {G : Ctx} {m : Nat} {Z : Addr → Prop} {N : List Str} {ds : List D} {vs : List V} {H : Hp} {σ' : SS} {H' : Hp} {env' : DEnv} (R' : ER G m Z σ' H' env') (K' : Keep G (L2.start N vs) (startD N ds) H σ' env' H') : Grow G m H H' :=
  ⟨fun b o nf e => (K' b o nf (fun z => startD_own z) e).1, R'.ok⟩
theorem fnD {x : Str} {st : Stmt} {f : Addr} {fd : FuncData} {N ps : List Str} {k j c : Nat} {sp : FSp} {Γ : Gam} {G : Ctx} (F : FD K x st f fd) (S : FnScope N ps (defScope st)) (W : Wd P w K mg base G Γ k) (L : LamS0 P w K mg base G Γ k j x (defScope st) fd.code) (hth : Γ.th = none)
    (ss : Ss) (hc : chSs N (defScope st) ss (defBody st) = true) (hu : coSs Γ ss ≤ c)
    (law : ∀ ds Pd EP, ds.length = ps.length → sp ds Pd EP → denSs Γ ss (ends Pd EP) (startD N ds)) : FnG P w K mg base (j + 1) f fd ps (liftSp G c ps.length sp) := by
  obtain ⟨oc, od, dV, kV, doc, pm, an, cdv, ct, osl, rfl, lk, hcd, _⟩ := F.ex
  refine fnG_of lk hcd S (fun vs H Q E q => liftSp_len q) fun A outer s H vs Q E gd hr hsp => ?_
  obtain ⟨T, m, Z, ds, Pd, EP, ⟨hm, ht⟩, z1, z2, ok, hd, hl, q, kv, kx⟩ := hsp
  refine ⟨_, soundSs (cs_of S W gd hr L hth) tk_of ss _ hc, ?_⟩
  exact ⟨T, m, Z, startD N ds, ends Pd EP, ⟨by omega, ht⟩, start_er z1 z2 ok hd, law ds Pd EP hl q, ⟨fun σ' H' env' R' K' p => kv _ _ H' (grow_of R' K') .non p, fun v d σ' H' env' R' K' dv p => kv v d H' (grow_of R' K') dv p, fun _ _ _ _ _ p => p.elim, fun _ _ _ _ _ p => p.elim,
    fun y cls dd σ' H' env' R' K' dx p => kx y cls dd H' (grow_of R' K') dx p⟩⟩
/-- a def with a star parameter alone -/
theorem fnDV {x : Str} {st : Stmt} {f : Addr} {fd : FuncData} {N : List Str} {pv : Str} {k j c : Nat} {sp : FSp} {Γ : Gam} {G : Ctx} (F : FD K x st f fd) (S : FnScope N [pv] (defScope st)) (W : Wd P w K mg base G Γ k) (L : LamS0 P w K mg base G Γ k j x (defScope st) fd.code) (hth : Γ.th = none)
    (hb : ∀ (kV doc pm : Value) (an : Option Addr) (cdv ct : Value) (us : List Value), bindArgs (PySem.W.fnOf x x (defArgs st) (defBody st) (defScope st) .none kV doc pm an cdv ct) ⟨us, []⟩ = (newTuple us >>= fun t => pure [(pv, t)]))
    (ss : Ss) (hc : chSs N (defScope st) ss (defBody st) = true) (hu : coSs Γ ss ≤ c)
    (law : ∀ ds Pd EP, sp ds Pd EP → denSs Γ ss (ends Pd EP) (startD N [.tup ds])) : FnV P w K mg base (j + 1) f (liftSpV G c sp) := by
  obtain ⟨oc, od, dV, kV, doc, pm, an, cdv, ct, osl, rfl, lk, hcd, hD, _⟩ := F.ex
  have eD : dV = .none := by
    rcases hD with ⟨_, e⟩ | ⟨e, _⟩
    · exact e
    · exact absurd rfl e
  subst eD
  have R := fnV_of (P := P) (w := w) (mg := mg) (base := base) (k := j) (sp := fun vs H Q E => liftSp G c vs.length sp vs H Q E) lk hcd S (fun us => hb kV doc pm an cdv ct us) fun A outer s H vs p Q E gd hr hsp hp => ?_
  · exact R
  obtain ⟨T, m, Z, ds, Pd, EP, ⟨hm, ht⟩, z1, z2, ok, hd, hl, q, kv, kx⟩ := hsp
  have nzp : ¬ Z p := fun z => z2 p z hp
  have up : ∀ b o, H b = some o → upd H p (.tup vs) b = some o := fun b o e => by rw [upd_ne (ne_of_none e hp)]; exact e
  have sub : Sub (hid H Z) (hid (upd H p (.tup vs)) Z) := fun b o e => by
    obtain ⟨n, e⟩ := hid_some.mp e
    exact hid_some.mpr ⟨n, up b o e⟩
  have ok2 : G.ok T (upd H p (.tup vs)) := G.ok_ext _ H _ ok (fun b f => upd_ne fun z => by
    subst z
    exact G.ok_dom _ H b ok f hp) (upd_fix hp) (upd_tb fun _ z => nomatch z)
  have d2 : DenL G (hid (upd H p (.tup vs)) Z) [.ref p] [.tup ds] := .cons (.tup (.inl (.inl (hid_some.mpr ⟨nzp, upd_same⟩))) (hd.sub sub)) .nil
  have gr0 : Grow G T H (upd H p (.tup vs)) := ⟨fun b o _ e => up b o e, ok2⟩
  refine ⟨_, soundSs (cs_of S W gd hr L hth) tk_of ss _ hc, ?_⟩
  exact ⟨T, m, Z, startD N [.tup ds], ends Pd EP, ⟨by omega, ht⟩, start_er z1 (fun a z => by
    rw [upd_ne fun e => nzp (by rw [← e]; exact z)]
    exact z2 a z) ok2 d2, law ds Pd EP q, ⟨fun σ' H' env' R' K' p => kv _ _ H' (gr0.trans (grow_of R' K')) .non p, fun v d σ' H' env' R' K' dv p => kv v d H' (gr0.trans (grow_of R' K')) dv p, fun _ _ _ _ _ p => p.elim, fun _ _ _ _ _ p => p.elim,
    fun y cls dd σ' H' env' R' K' dx p => kx y cls dd H' (gr0.trans (grow_of R' K')) dx p⟩⟩
/-- what stays the same of a world in the frame that got a lambda -/
def thGam (Γ : Gam) (fl : Addr) (h : Thk) : Gam := { con := fun _ => none, fn := fun _ => none, exc := Γ.exc, sub := Γ.sub, th := some (fl, h) }
/-- a def that gets a lambda -/
theorem tell_of {x : Str} {st : Stmt} {f : Addr} {fd : FuncData} {N : List Str} {a : Str} {k c : Nat} {sp : ThSp} {Γ : Gam} {G : Ctx} (F : FD K x st f fd) (S : FnScope N [a] (defScope st)) (W : Wd P w K mg base G Γ k) (hN : N[0]? = some a) (hv : visB (defScope st) a = true) (hd1 : (a == ("__debug__" : Str)) = false) (hd2 : (a == ("__classdict__" : Str)) = false)
    (hcell : hasCell (defScope st) = false) (hb : ∀ (kV doc pm : Value) (an : Option Addr) (cdv ct : Value) (u : Value), bindArgs (PySem.W.fnOf x x (defArgs st) (defBody st) (defScope st) .none kV doc pm an cdv ct) ⟨[u], []⟩ = pure [(a, u)])
    (ss : Ss) (hc : chSs N (defScope st) ss (defBody st) = true) (hu : ∀ fl h, coSs (thGam Γ fl h) ss ≤ c)
    (law : ∀ fl h Pd EP, sp h Pd EP → denSs (thGam Γ fl h) ss (ends Pd EP) (startD N [.adr fl])) : Tell P w K mg base G k c x f sp := by
  obtain ⟨oc, od, dV, kV, doc, pm, an, cdv, ct, osl, rfl, lk, hcd, hD, _⟩ := F.ex
  have eD : dV = .none := by
    rcases hD with ⟨_, e⟩ | ⟨e, _⟩
    · exact e
    · exact absurd rfl e
  subst eD
  have vis : Vis (defScope st) a := by
    unfold visB at hv
    unfold Vis
    split at hv
    · exact .inl (by assumption)
    · exact .inr (.inl (by assumption))
    · exact .inr (.inr (by assumption))
    · cases hv
  refine ⟨a, N, defScope st, cdv, hN, vis, hd1, hd2, fun A outer s H fl Q E G' h T m Z Pd EP gd hr e0 lk' hm z1 z2 ok act q kv kx => ?_⟩
  have hca : ∀ y, G'.ca y = G.ca y := fun y => by unfold Ctx.ca; rw [lk'.mg]
  have W' : Wd P w K mg base G' (thGam Γ fl h) k :=
    { hK := lk'.K.trans W.hK, hP := lk'.P.trans W.hP, hw := lk'.w.trans W.hw, hmg := lk'.mg.trans W.hmg, con := fun _ _ z => (nomatch z), fn := fun _ _ _ z => (nomatch z), free := W.free, exc := fun y hy => (by rw [hca]; exact W.exc y hy),
      exs := fun y hy z hz => (by rw [hca, hca]; exact W.exs y hy z hz), exn := fun y hy => absurd hy List.not_mem_nil, fnv := fun _ _ z => (nomatch z), res := .inl fun key z => (by simp [thGam] at z), more := more_no }
  have hd0 : N.headD "" = a := by
    cases N with
    | nil => cases hN
    | cons y ys => simpa using hN
  refine LamX.run_ofS (N := N) (ps := [a]) (us := [.ref fl]) (vs := [.ref fl]) lk hcd S (hr.mono (by omega) : Room (k + 1) A) e0 (.of_eq (hb kV doc pm an cdv ct (.ref fl))) (.cons rfl .nil) rfl fun hr' => ?_
  refine ⟨_, soundSs (cs_any (k := k) S W' gd hr' (fun e => by rw [hcell] at e; cases e) (fun e => by rw [hcell] at e; cases e) fun fl2 h2 e => ?_) tk_of ss _ hc, ?_⟩
  · cases e
    intro pn xe W2 p1 p2 tk2
    rw [hd0]
    exact act pn xe W2 p1 p2 tk2
  · exact ⟨T, m, Z, startD N [.adr fl], ends Pd EP, ⟨Nat.le_trans (Nat.add_le_add_left (hu fl h) T) hm.1, hm.2⟩, start_er z1 z2 ok (.cons (.adr fl) .nil), law fl h Pd EP q, ⟨fun σ' H' env' R' K' p => kv _ _ H' (grow_of R' K') .non p, fun v d σ' H' env' R' K' dv p => kv v d H' (grow_of R' K') dv p, fun _ _ _ _ _ p => p.elim, fun _ _ _ _ _ p => p.elim,
      fun y cls dd σ' H' env' R' K' dx p => kx y cls dd H' (grow_of R' K') dx p⟩⟩
end

/-- a loop with an invariant -/
theorem for_inv {i : Nat} {body : TDS} {E : DEnds} (I : DEnv → Prop) : ∀ {ds : List D} {env : DEnv}, I env → (∀ d ∈ ds, ∀ env N, I env → (∀ e, I e → N e) → i < env.length ∧ body { E with nx := N, ct := N, bk := E.nx } (env.set i (some (false, d)))) →
    (∀ env, I env → E.nx env) → forD i body E ds env
  | [], env, h0, _, done => done env h0
  | d :: r, env, h0, step, done => step d List.mem_cons_self env _ h0 fun e he => for_inv I he (fun d' hd => step d' (List.mem_cons_of_mem _ hd)) done
/-! ### the state -/
def stHas (a g c : Addr) (kg kc kl kt : Str) (cells gs : List Int) (l t : Int) (H : Hp) : Prop :=
  H a = some (.dK [(.inr kg, .ref g), (.inr kc, .ref c), (.inr kl, .int l), (.inr kt, .int t)]) ∧ H g = some (.lst (gs.map V.int)) ∧ H c = some (.lst (cells.map V.int))
def stG (P : Program) (w : World) (K : PySem.W.Frag) (mg : Str → Option Value) (a g c : Addr) (kg kc kl kt : Str) (cells : List Int) (top : Nat) (ts : List (Addr × Str)) : Ctx where
  P := P
  w := w
  K := K
  mg := mg
  F := fun b => (b = a ∨ b = g ∨ b = c) ∨ ∃ p ∈ ts, p.1 = b
  S := fun _ => False
  Zm := fun _ => True
  top := top
  ok := fun T H => (∃ gs l t, stHas a g c kg kc kl kt cells gs l t H ∧ 0 ≤ t ∧ t ≤ T) ∧ LamX.Tabs ts H ∧ ∀ b ps, H b = some (.tbl ps) → ∃ p ∈ ts, p.1 = b
  ha := fun _ => a
  ok_mono := fun n m H h ⟨⟨gs, l, t, h1, h2, h3⟩, h4⟩ => ⟨⟨gs, l, t, h1, h2, by omega⟩, h4⟩
  ok_ext := fun n H H' ⟨⟨gs, l, t, ⟨h1, h2, h3⟩, h4⟩, h5, h6⟩ e1 e2 e3 => ⟨⟨gs, l, t, ⟨(e1 a (.inl (.inl rfl))).trans h1, (e1 g (.inl (.inr (.inl rfl)))).trans h2, (e1 c (.inl (.inr (.inr rfl)))).trans h3⟩, h4⟩, fun p hp => by
    obtain ⟨ps, a1, a2, a3⟩ := h5 p hp
    refine ⟨ps, (e1 p.1 (.inr ⟨p, hp, rfl⟩)).trans a1, a2, fun pos cv hc => ?_⟩
    obtain ⟨c0, b1, b2⟩ := a3 pos cv hc
    exact ⟨c0, b1, e2 _ _ b2 (.inl ⟨_, _, rfl⟩)⟩, fun b ps h => h6 b ps (e3 b ps h)⟩
  ok_dom := fun n H b ⟨⟨gs, l, t, ⟨h1, h2, h3⟩, h4⟩, h5, _⟩ f => by
    rcases f with (rfl | rfl | rfl) | ⟨p, hp, rfl⟩
    · rw [h1]; simp
    · rw [h2]; simp
    · rw [h3]; simp
    · obtain ⟨ps, a1, _⟩ := h5 p hp
      rw [a1]; simp
  zfresh := fun _ _ _ _ _ => trivial
  sdom := fun _ _ _ _ s => s.elim
  tb := fun n H b ps ⟨_, _, h6⟩ e => .inr (h6 b ps e)
theorem tabs_write {H : Hp} {b : Addr} {o o' : HO} {ts : List (Addr × Str)} (h : H b = some o) (nt : NT o) (nf : ¬ Fix o) (nt' : NT o') (t : LamX.Tabs ts H) : LamX.Tabs ts (upd H b o') := fun p hp => by
  obtain ⟨ps, a1, a2, a3⟩ := t p hp
  refine ⟨ps, by rw [upd_ne fun z => by rw [z, h] at a1; exact nt ps (Option.some.inj a1)]; exact a1, a2, fun pos cv hc => ?_⟩
  obtain ⟨c0, b1, b2⟩ := a3 pos cv hc
  exact ⟨c0, b1, by rw [upd_ne fun z => by rw [z, h] at b2; exact nf ⟨_, _, Option.some.inj b2⟩]; exact b2⟩
theorem nf_dK {kvs : List (Key × V)} : ¬ Fix (.dK kvs) := fun ⟨_, _, e⟩ => by cases e
theorem nt_dK {kvs : List (Key × V)} : NT (.dK kvs) := fun _ z => by cases z
theorem nt_lst {xs : List V} : NT (.lst xs) := fun _ z => by cases z
theorem nf_lst {xs : List V} : ¬ Fix (.lst xs) := fun ⟨_, _, e⟩ => by cases e
theorem stG_lam {P : Program} {w : World} {K : PySem.W.Frag} {mg : Str → Option Value} {a g c : Addr} {kg kc kl kt : Str} {cells : List Int} {top : Nat} {ts : List (Addr × Str)} {n : Nat} {H H1 : Hp} {p c' : Addr} {q : Str} (ok : (stG P w K mg a g c kg kc kl kt cells top ts).ok n H) (hp : (p, q) ∈ ts) (st : LamStep H p c' q H1) (t : LamX.Tabs ts H1) :
    (stG P w K mg a g c kg kc kl kt cells top ts).ok n H1 := by
  obtain ⟨⟨gs, l, t', ⟨h1, h2, h3⟩, h4⟩, h5, h6⟩ := ok
  have ex := st.ext
  exact ⟨⟨gs, l, t', ⟨ex _ _ h1 (fun _ z => nomatch z), ex _ _ h2 (fun _ z => nomatch z), ex _ _ h3 (fun _ z => nomatch z)⟩, h4⟩, t, fun b ps e => let ⟨ps', e'⟩ := st.tbl e; h6 b ps' e'⟩
theorem stG_code {P : Program} {w : World} {K : PySem.W.Frag} {mg : Str → Option Value} {a g c : Addr} {kg kc kl kt : Str} {cells : List Int} {top : Nat} {ts : List (Addr × Str)} {n : Nat} {H : Hp} {c' : Addr} {q : Str} (ok : (stG P w K mg a g c kg kc kl kt cells top ts).ok n H) (h : H c' = some (LamX.CodeO c' q)) :
    ¬ (stG P w K mg a g c kg kc kl kt cells top ts).F c' := fun f => by
  obtain ⟨⟨gs, l, t', ⟨h1, h2, h3⟩, h4⟩, h5, h6⟩ := ok
  rcases f with (rfl | rfl | rfl) | ⟨p, hp, rfl⟩
  · rw [h1] at h; cases h
  · rw [h2] at h; cases h
  · rw [h3] at h; cases h
  · obtain ⟨ps, a1, _⟩ := h5 p hp
    rw [a1] at h
    exact absurd (Option.some.inj h).symm (LamX.codeO_ne ps)
theorem stG_res {P : Program} {w : World} {K : PySem.W.Frag} {mg : Str → Option Value} {a g c : Addr} {kg kc kl kt : Str} {cells : List Int} {top : Nat} {ts : List (Addr × Str)} (htop : top < turnTop) (hcl : cells.length ≤ turnsMost) (hgc : g ≠ c) (h1 : kg ≠ kc) (h2 : kg ≠ kl) (h3 : kg ≠ kt) (h4 : kc ≠ kl) (h5 : kc ≠ kt) (h6 : kl ≠ kt) :
    ResOk (stG P w K mg a g c kg kc kl kt cells top ts) [kl] [kg] [kc] [kt] := by
  have fg : ∀ (l t : Int), valV ([(.inr kg, .ref g), (.inr kc, .ref c), (.inr kl, .int l), (.inr kt, .int t)] : List (Key × V)) (.inr kg : Key) = some (.ref g) := fun l t => by simp [valV]
  have fc : ∀ (l t : Int), valV ([(.inr kg, .ref g), (.inr kc, .ref c), (.inr kl, .int l), (.inr kt, .int t)] : List (Key × V)) (.inr kc : Key) = some (.ref c) := fun l t => by simp [valV, List.find?_cons, h1]
  have fl : ∀ (l t : Int), valV ([(.inr kg, .ref g), (.inr kc, .ref c), (.inr kl, .int l), (.inr kt, .int t)] : List (Key × V)) (.inr kl : Key) = some (.int l) := fun l t => by simp [valV, List.find?_cons, h2, h4]
  have ft : ∀ (l t : Int), valV ([(.inr kg, .ref g), (.inr kc, .ref c), (.inr kl, .int l), (.inr kt, .int t)] : List (Key × V)) (.inr kt : Key) = some (.int t) := fun l t => by simp [valV, List.find?_cons, h3, h5, h6]
  refine ⟨.inl (.inl rfl), ?_, ?_, ?_, ?_, htop, ?_⟩
  · rintro T H ⟨⟨gs, l, t, ⟨q1, q2, q3⟩, q4⟩, _⟩
    refine ⟨_, q1, by show 4 < sizeLine; decide, fun x hx => ?_, fun x hx => ?_, fun x hx => ?_, fun x hx => ?_⟩
    · cases List.mem_singleton.mp hx
      exact ⟨l, fl l t⟩
    · cases List.mem_singleton.mp hx
      exact ⟨g, gs, fg l t, .inl (.inr (.inl rfl)), q2⟩
    · cases List.mem_singleton.mp hx
      exact ⟨c, fc l t⟩
    · cases List.mem_singleton.mp hx
      exact ⟨t, ft l t, q4⟩
  · intro x hx
    cases List.mem_singleton.mp hx
    refine ⟨cells, hcl, ?_⟩
    rintro T H kvs b ⟨⟨gs, l, t, ⟨q1, q2, q3⟩, _⟩, _⟩ e1 e2 T2 H2 ⟨⟨gs2, l2, t2, ⟨r1, r2, r3⟩, _⟩, _⟩
    have e1 : H a = some (.dK kvs) := e1
    rw [q1] at e1
    cases e1
    rw [fc l t] at e2
    cases e2
    exact r3
  · rintro T H kvs x n ⟨⟨gs, l, t, ⟨q1, q2, q3⟩, q4⟩, q5, q6⟩ hx e1
    have e1 : H a = some (.dK kvs) := e1
    rw [q1] at e1
    cases e1
    have na : g ≠ a := fun z => by rw [z, q1] at q2; cases q2
    have nc : c ≠ a := fun z => by rw [z, q1] at q3; cases q3
    cases List.mem_singleton.mp hx
    refine ⟨⟨gs, n, t, ⟨?_, (upd_ne na).trans q2, (upd_ne nc).trans q3⟩, q4⟩, tabs_write q1 (fun _ z => nomatch z) nf_dK nt_dK q5, fun b ps e => q6 b ps (upd_tb (by first | exact nt_dK | exact nt_lst) b ps e)⟩
    show upd H a _ a = _
    rw [upd_same]
    simp [putK, h2, h4, Ne.symm h6]
  · rintro T H kvs x n ⟨⟨gs, l, t, ⟨q1, q2, q3⟩, q4⟩, q5, q6⟩ hx e1 e2
    have e1 : H a = some (.dK kvs) := e1
    rw [q1] at e1
    cases e1
    have na : g ≠ a := fun z => by rw [z, q1] at q2; cases q2
    have nc : c ≠ a := fun z => by rw [z, q1] at q3; cases q3
    cases List.mem_singleton.mp hx
    rw [ft l t] at e2
    cases e2
    refine ⟨⟨gs, l, n + 1, ⟨?_, (upd_ne na).trans q2, (upd_ne nc).trans q3⟩, by omega⟩, tabs_write q1 (fun _ z => nomatch z) nf_dK nt_dK q5, fun b ps e => q6 b ps (upd_tb (by first | exact nt_dK | exact nt_lst) b ps e)⟩
    show upd H a _ a = _
    rw [upd_same]
    simp [putK, h3, h5, h6]
  · rintro T H kvs x b n ns ⟨⟨gs, l, t, ⟨q1, q2, q3⟩, q4⟩, q5, q6⟩ hx e1 e2 e3
    have e1 : H a = some (.dK kvs) := e1
    rw [q1] at e1
    cases e1
    cases List.mem_singleton.mp hx
    rw [fg l t] at e2
    cases e2
    have na : a ≠ g := fun z => by rw [← z, q1] at q2; cases q2
    exact ⟨⟨ns, l, t, ⟨(upd_ne na).trans q1, upd_same, (upd_ne hgc.symm).trans q3⟩, q4⟩, tabs_write q2 (fun _ z => nomatch z) nf_lst nt_lst q5, fun b ps e => q6 b ps (upd_tb (by first | exact nt_dK | exact nt_lst) b ps e)⟩
end DL

/-! DA1: the draws of the first family: what its defs promise, over values. -/
namespace DL
open PySem PySem.Spec PyProof.Rows L2
theorem neA_nil (xs : List D) : neA (.lst xs) (.lst []) = true := rfl
theorem eqk_dat {x y : D} (h1 : dat DD x = true) (h2 : dat DD y = true) : eqk x y = true := by
  unfold eqk
  split
  · rfl
  · rfl
  · rw [h1, h2]
    rfl
theorem neA_dat {x y : D} (h : dat DD x = true) : neA x y = true := by
  unfold neA
  split
  · rfl
  · exact h
def spMixed : FSp := fun ds P _ => ds = [.hnd 0] ∧ ∀ n : Int, P (.int n)
def spTake : FSp := fun ds P _ => ∃ b : Int, ds = [.hnd 0, .int b] ∧ 0 < b ∧ b < 2 ^ 64 ∧ ∀ n : Int, 0 ≤ n → n < b → P (.int n)
def spPick : FSp := fun ds P _ => ∃ xs : List D, ds = [.hnd 0, .lst xs] ∧ xs ≠ [] ∧ xs.length < 2 ^ 60 ∧ ∀ x ∈ xs, P x
def bA_mixed : Ss := (.tick 0 1 "turn" (.cons (.put 2 (.int 0)) (.cons (.fr 3 (.seq (.lst (.cons (.int 2147483629) (.cons (.int 2147483587) (.cons (.int 2147483579) (.cons (.int 2147483563) (.cons (.int 2147483549) .nil))))))) (.cons (.put 4 (.bin .add (.bin .mul (.int 60037) (.var 1)) (.bin .fdiv (.var 3) (.int 29)))) (.cons (.fr 5 (.rlst 0 "cells") (.cons (.put 4 (.bin .mod (.blt .int (.cons (.bin .add (.bin .mul (.var 4) (.int 48271)) (.var 5)) .nil)) (.var 3))) .nil)) (.cons (.put 2 (.bin .add (.bin .mul (.var 2) (.int 2147483647)) (.bin .mod (.blt .int (.cons (.bin .pow (.var 4) (.int 5)) .nil)) (.var 3)))) .nil)))) (.cons (.ret (.var 2)) .nil))))
def bA_take : Ss := (.cons (.rif 0 (.cmp .eq (.rget 0 "left" false) (.int 0)) "great" "left" (.cons (.ite (.cmp .eq (.rget 0 "left" false) (.int 0)) (.cons (.rput 0 "left" (.call "_law_mixed" (.cons (.var 0) .nil))) .nil) .nil) .nil)) (.cons (.put 2 (.bin .mod (.blt .int (.cons (.rget 0 "left" false) .nil)) (.var 1))) (.cons (.rput 0 "left" (.bin .fdiv (.rget 0 "left" false) (.var 1))) (.cons (.ret (.var 2)) .nil))))
def bA_pick : Ss := (.cons (.ret (.idx (.var 1) (.call "_law_take" (.cons (.var 0) (.cons (.blt .len (.cons (.var 1) .nil)) .nil))))) .nil)
theorem bits_le {i : Int} {b : Nat} (h : i.natAbs < 2 ^ b) (hb : 0 < b) : Builtin.Int.intBits i ≤ b + 1 := by
  unfold Builtin.Int.intBits
  have := PySem.Flt.log2_lt_of hb h
  split <;> omega
theorem wide5 {i : Int} (h : i.natAbs < 2 ^ 1100) : CPowW i 5 := by
  have := bits_le h (by omega)
  exact ⟨by omega, by omega⟩
theorem turn_small {n c : Int} (h0 : 0 ≤ n) (h : n < (turnTop : Int)) (c0 : 0 ≤ c) (c1 : c < 2 ^ 31) : (60037 * (n + 1) + c).natAbs < 2 ^ 1100 := by
  have e : (2 : Nat) ^ 1100 = turnTop * 2 ^ 100 := Nat.pow_add 2 1000 100
  have z : 0 < turnTop := Nat.pow_pos (by decide)
  rw [e]
  generalize turnTop = t at *
  omega
local macro_rules
  | `(tactic| array_get_dec) => `(tactic| simp only [denSs, denSt, den, denT, denL, denC, denO, denS, sSeq, sSet, sNew, sExpr, sRet, sRetN, sSkip, sBrk, sCont, sIf, sFor, dSeq, dRng1, dRng2, dOp, dOp1, dC, dVar, dCons, dNil, dCall, dTup, dLst, dLc, dAnd, dOr, dNot, dIf,
    dTest, dTru, dNotT, dAndT, dOrT, dG, dSl, dPart, dNoP, dChain, al, alL, alS, dis, dis1, ends, exe, startD, List.set, List.map_cons, List.map_nil, List.length_cons, List.length_nil, List.replicate, List.cons_append, List.nil_append, List.append_nil, List.getElem?_cons_zero, List.getElem?_cons_succ,
    bopF, copF, bltF, fLe, fLt, fGt, fGe, fLen, fAbs, fMin2, fMax2, fSl, ite_true, ite_false, Bool.false_eq_true, fI, fAdd, fEq, fNe, neA_nil, eqk, dat, deq, fInt, truth, Nat.reduceAdd, Nat.reduceSub, Nat.reduceLT, Nat.reduceLeDiff, true_and, and_true, ne_eq, Nat.reduceEqDiff, not_false_eq_true, Nat.zero_ne_one, Nat.succ_ne_self, reduceCtorEq, D.bl.injEq, D.int.injEq, Option.some.injEq, exists_eq_left', exists_eq_left, Bool.and_self])
set_option pp.maxSteps 3000 in
theorem lawA_mixed {Γ : Gam} (h1 : ("turn" : Str) ∈ Γ.tk) (h2 : ("cells" : Str) ∈ Γ.sk) (ds : List D) (P : D → Prop) (EP : XD → Prop) (hs : spMixed ds P EP) : denSs Γ bA_mixed (ends P EP) (startD ["_law_state", "_law_turn", "_law_found", "_law_prime", "_law_blend", "_law_cell"] ds) := by
  obtain ⟨rfl, hP⟩ := hs
  unfold bA_mixed
  array_get_dec
  refine ⟨h1, fun n n0 n1 => ⟨by decide, by decide, ?_⟩⟩
  refine for_inv (fun env => ∃ f x3 x4 x5, env = [some (false, .hnd 0), some (false, .int (n + 1)), some (false, .int f), x3, x4, x5]) ⟨_, _, _, _, rfl⟩ ?_ ?_
  · rintro d hd _ N ⟨f, x3, x4, x5, rfl⟩ hN
    obtain ⟨p, rfl, p0, p1⟩ : ∃ p : Int, d = .int p ∧ 0 < p ∧ p < 2 ^ 31 := by
      simp only [List.mem_cons, List.not_mem_nil, or_false] at hd
      rcases hd with rfl | rfl | rfl | rfl | rfl <;> exact ⟨_, rfl, by decide, by decide⟩
    array_get_dec
    refine ⟨.inl ⟨by decide, by decide⟩, ⟨by decide, by decide +kernel⟩, h2, fun ns hns => ⟨by simpa using hns, ?_⟩⟩
    refine for_inv (fun env => ∃ b x5, env = [some (false, .hnd 0), some (false, .int (n + 1)), some (false, .int f), some (false, .int p), some (false, .int b), x5] ∧ b.natAbs < 2 ^ 1100) ⟨_, _, rfl, ?_⟩ ?_ ?_
    · exact turn_small n0 n1 (by omega) (by omega)
    · rintro d hd _ N' ⟨b, x5, rfl, hb⟩ hN'
      obtain ⟨c, hc, rfl⟩ := List.mem_map.mp hd
      array_get_dec
      refine ⟨.inr ⟨by decide, by decide⟩, p0, hN' _ ⟨_, _, rfl, ?_⟩⟩
      have h1 := Int.emod_nonneg (b * 48271 + c) (show p ≠ 0 by omega)
      have h2 := Int.emod_lt_of_pos (b * 48271 + c) p0
      have : ((b * 48271 + c) % p).natAbs < 2 ^ 31 := by omega
      exact Nat.lt_of_lt_of_le this (Nat.pow_le_pow_right (by omega) (by omega))
    · rintro _ ⟨b, x5, rfl, hb⟩
      array_get_dec
      exact ⟨.inr ⟨by decide, by decide⟩, wide5 hb, p0, hN _ ⟨_, _, _, _, rfl⟩⟩
  · rintro _ ⟨f, x3, x4, x5, rfl⟩
    array_get_dec
    exact hP _
theorem lawA_take {Γ : Gam} (h1 : ("left" : Str) ∈ Γ.ik) (h2 : ("great" : Str) ∈ Γ.lk) (hm : Γ.fn "_law_mixed" = some ((["_law_state"] : List Str), spMixed)) (ds : List D) (P : D → Prop) (EP : XD → Prop) (hs : spTake ds P EP) : denSs Γ bA_take (ends P EP) (startD ["_law_state", "_law_bound", "_law_found"] ds) := by
  obtain ⟨b, rfl, b0, b1, hP⟩ := hs
  have hd : ∀ n : Int, CDivW n b := fun n => ⟨b0, by have := PySem.Flt.log2_lt_of (n := b.natAbs) (k := 64) (by omega) (by omega); omega⟩
  unfold bA_take
  array_get_dec
  simp only [hm]
  array_get_dec
  have fin : ∀ n : Int, P (.int (n % b)) := fun n => hP _ (Int.emod_nonneg _ (by omega)) (Int.emod_lt_of_pos _ b0)
  have tail : (("left" : Str) ∈ Γ.ik ∧ ∀ (n : Int), 0 < b ∧ ("left" : Str) ∈ Γ.ik ∧ ∀ (m : Int), CDivW m b ∧ ("left" : Str) ∈ Γ.ik ∧ P (D.int (n % b))) := ⟨h1, fun n => ⟨b0, h1, fun m => ⟨hd m, h1, fin n⟩⟩⟩
  have one : ("left" : Str) ∈ Γ.ik ∧ ∀ n : Int, if (n == 0) = true then spMixed [D.hnd 0] (fun d => ∃ k, d = D.int k ∧ ("left" : Str) ∈ Γ.ik ∧ ("left" : Str) ∈ Γ.ik ∧ ∀ (n : Int), 0 < b ∧ ("left" : Str) ∈ Γ.ik ∧ ∀ (m : Int), CDivW m b ∧ ("left" : Str) ∈ Γ.ik ∧ P (D.int (n % b))) EP
      else (("left" : Str) ∈ Γ.ik ∧ ∀ (n : Int), 0 < b ∧ ("left" : Str) ∈ Γ.ik ∧ ∀ (m : Int), CDivW m b ∧ ("left" : Str) ∈ Γ.ik ∧ P (D.int (n % b))) := ⟨h1, fun n => by
    split
    · exact ⟨rfl, fun k => ⟨k, rfl, h1, tail⟩⟩
    · exact tail⟩
  refine ⟨h1, fun n => ?_⟩
  split
  · exact ⟨h2, h1, tail, one⟩
  · exact one
theorem atI_mem {α : Type} {xs : List α} {i : Int} (h0 : 0 ≤ i) (h1 : i < xs.length) : ∃ x, atI xs i = some x ∧ x ∈ xs := by
  have hl : i.toNat < xs.length := by omega
  refine ⟨xs[i.toNat], ?_, List.getElem_mem hl⟩
  unfold atI ixN
  rw [if_pos h0, if_pos h1]
  exact List.getElem?_eq_getElem hl
theorem lawA_pick {Γ : Gam} (hm : Γ.fn "_law_take" = some ((["_law_state", "_law_bound"] : List Str), spTake)) (ds : List D) (P : D → Prop) (EP : XD → Prop) (hs : spPick ds P EP) : denSs Γ bA_pick (ends P EP) (startD ["_law_state", "_law_some"] ds) := by
  obtain ⟨xs, rfl, x0, x1, hP⟩ := hs
  have hl : 0 < xs.length := List.length_pos_iff.mpr x0
  unfold bA_pick
  array_get_dec
  simp only [hm]
  array_get_dec
  refine ⟨_, rfl, by omega, by omega, fun n n0 n1 => ?_⟩
  obtain ⟨x, e, hx⟩ := atI_mem n0 n1
  exact ⟨x, e, hP x hx⟩
end DL

/-! DA2: the draws of the second family. -/
namespace DL
open PySem PySem.Spec PyProof.Rows L2
local macro_rules
  | `(tactic| array_get_dec) => `(tactic| simp only [denSs, denSt, den, denT, denL, denC, denO, denS, sSeq, sSet, sNew, sExpr, sRet, sRetN, sSkip, sBrk, sCont, sIf, sFor, dFlat, dSeq, dRng1, dRng2, dOp, dOp1, dC, dVar, dCons, dNil, dCall, dTup, dLst, dLc, dAnd, dOr, dNot, dIf,
    dTest, dTru, dNotT, dAndT, dOrT, dG, dSl, dPart, dNoP, dChain, al, alL, alS, dis, dis1, ends, exe, startD, List.set, List.map_cons, List.map_nil, List.length_cons, List.length_nil, List.replicate, List.cons_append, List.nil_append, List.append_nil, List.getElem?_cons_zero, List.getElem?_cons_succ,
    bopF, copF, bltF, fLe, fLt, fGt, fGe, fLen, fAbs, fMin2, fMax2, fSl, ite_true, ite_false, Bool.false_eq_true, fI, fAdd, fEq, fNe, neA_nil, eqk, dat, deq, fInt, truth, Nat.reduceAdd, Nat.reduceSub, Nat.reduceLT, Nat.reduceLeDiff, true_and, and_true, ne_eq, Nat.reduceEqDiff, not_false_eq_true, Nat.zero_ne_one, Nat.succ_ne_self, reduceCtorEq, D.bl.injEq, D.int.injEq, Option.some.injEq, exists_eq_left', exists_eq_left, Bool.and_self])
def bB_mixed : Ss := (.cons (.tick1 0 "turn") (.cons (.put 1 (.int 0)) (.cons (.fr 2 (.seq (.lst (.cons (.int 2147483629) (.cons (.int 2147483587) (.cons (.int 2147483579) (.cons (.int 2147483563) .nil)))))) (.cons (.put 3 (.bin .add (.bin .mul (.int 92821) (.rget 0 "turn" true)) (.bin .fdiv (.var 2) (.int 3)))) (.cons (.fr 4 (.rlst 0 "cells") (.cons (.put 3 (.bin .mod (.blt .int (.cons (.bin .add (.bin .add (.bin .mul (.var 3) (.int 69621)) (.var 4)) (.rget 0 "turn" true)) .nil)) (.var 2))) .nil)) (.cons (.put 1 (.bin .add (.bin .mul (.var 1) (.int 2147483647)) (.bin .mod (.blt .int (.cons (.bin .pow (.var 3) (.int 3)) .nil)) (.var 2)))) .nil)))) (.cons (.ret (.var 1)) .nil))))
def bB_take : Ss := (.cons (.ite (.cmp .eq (.rget 0 "rest" false) (.int 0)) (.cons (.rput 0 "rest" (.rpop 0 "large" (.call "_law_mixed" (.cons (.var 0) .nil)))) .nil) .nil) (.cons (.put 2 (.bin .mod (.blt .int (.cons (.rget 0 "rest" false) .nil)) (.var 1))) (.cons (.rput 0 "rest" (.bin .fdiv (.rget 0 "rest" false) (.var 1))) (.cons (.ret (.var 2)) .nil))))
theorem wide3 {i : Int} (h : i.natAbs < 2 ^ 1100) : CPowW i 3 := by
  have := bits_le h (by omega)
  exact ⟨by omega, by omega⟩
theorem turn_small2 {n c : Int} (h0 : 0 ≤ n) (h : n < (turnTop : Int)) (c0 : 0 ≤ c) (c1 : c < 2 ^ 31) : (92821 * n + c).natAbs < 2 ^ 1100 := by
  have e : (2 : Nat) ^ 1100 = turnTop * 2 ^ 100 := Nat.pow_add 2 1000 100
  have z : 0 < turnTop := Nat.pow_pos (by decide)
  rw [e]
  generalize turnTop = t at *
  omega
theorem lawB_mixed {Γ : Gam} (h1 : ("turn" : Str) ∈ Γ.tk) (h2 : ("cells" : Str) ∈ Γ.sk) (ds : List D) (P : D → Prop) (EP : XD → Prop) (hs : spMixed ds P EP) : denSs Γ bB_mixed (ends P EP) (startD ["_law_state", "_law_found", "_law_prime", "_law_blend", "_law_cell"] ds) := by
  obtain ⟨rfl, hP⟩ := hs
  unfold bB_mixed
  array_get_dec
  refine ⟨h1, by decide, by decide, ?_⟩
  refine for_inv (fun env => ∃ f x3 x4 x5, env = [some (false, .hnd 0), some (false, .int f), x3, x4, x5]) ⟨_, _, _, _, rfl⟩ ?_ ?_
  · rintro d hd _ N ⟨f, x3, x4, x5, rfl⟩ hN
    obtain ⟨p, rfl, p0, p1⟩ : ∃ p : Int, d = .int p ∧ 0 < p ∧ p < 2 ^ 31 := by
      simp only [List.mem_cons, List.not_mem_nil, or_false] at hd
      rcases hd with rfl | rfl | rfl | rfl <;> exact ⟨_, rfl, by decide, by decide⟩
    array_get_dec
    refine ⟨h1, fun n n0 n1 => ⟨.inl ⟨by decide, by decide⟩, ⟨by decide, by decide +kernel⟩, h2, fun ns hns => ⟨by simpa using hns, ?_⟩⟩⟩
    refine for_inv (fun env => ∃ b x5, env = [some (false, .hnd 0), some (false, .int f), some (false, .int p), some (false, .int b), x5] ∧ b.natAbs < 2 ^ 1100) ⟨_, _, rfl, ?_⟩ ?_ ?_
    · exact turn_small2 n0 n1 (by omega) (by omega)
    · rintro d hd _ N' ⟨b, x5, rfl, hb⟩ hN'
      obtain ⟨c, hc, rfl⟩ := List.mem_map.mp hd
      array_get_dec
      refine ⟨.inr ⟨by decide, by decide⟩, h1, fun m m0 m1 => ?_⟩
      array_get_dec
      refine ⟨p0, hN' _ ⟨_, _, rfl, ?_⟩⟩
      have h1 := Int.emod_nonneg (b * 69621 + c + m) (show p ≠ 0 by omega)
      have h2 := Int.emod_lt_of_pos (b * 69621 + c + m) p0
      have : ((b * 69621 + c + m) % p).natAbs < 2 ^ 31 := by omega
      exact Nat.lt_of_lt_of_le this (Nat.pow_le_pow_right (by omega) (by omega))
    · rintro _ ⟨b, x5, rfl, hb⟩
      array_get_dec
      exact ⟨.inr ⟨by decide, by decide⟩, wide3 hb, p0, hN _ ⟨_, _, _, _, rfl⟩⟩
  · rintro _ ⟨f, x3, x4, x5, rfl⟩
    array_get_dec
    exact hP _
theorem lawB_take {Γ : Gam} (h1 : ("rest" : Str) ∈ Γ.ik) (h2 : ("large" : Str) ∈ Γ.lk) (hm : Γ.fn "_law_mixed" = some ((["_law_state"] : List Str), spMixed)) (ds : List D) (P : D → Prop) (EP : XD → Prop) (hs : spTake ds P EP) : denSs Γ bB_take (ends P EP) (startD ["_law_state", "_law_size", "_law_found"] ds) := by
  obtain ⟨b, rfl, b0, b1, hP⟩ := hs
  have hd : ∀ n : Int, CDivW n b := fun n => ⟨b0, by have := PySem.Flt.log2_lt_of (n := b.natAbs) (k := 64) (by omega) (by omega); omega⟩
  unfold bB_take
  array_get_dec
  simp only [hm]
  array_get_dec
  have fin : ∀ n : Int, P (.int (n % b)) := fun n => hP _ (Int.emod_nonneg _ (by omega)) (Int.emod_lt_of_pos _ b0)
  have tail : (("rest" : Str) ∈ Γ.ik ∧ ∀ (n : Int), 0 < b ∧ ("rest" : Str) ∈ Γ.ik ∧ ∀ (m : Int), CDivW m b ∧ ("rest" : Str) ∈ Γ.ik ∧ P (D.int (n % b))) := ⟨h1, fun n => ⟨b0, h1, fun m => ⟨hd m, h1, fin n⟩⟩⟩
  refine ⟨h1, fun n => ?_⟩
  split
  · exact ⟨h2, fun n => ⟨h1, tail⟩, rfl, fun k => ⟨k, rfl, h1, tail⟩⟩
  · exact tail
end DL

/-! D16: the law's state is made. -/
namespace DL
open PySem PySem.Spec PyProof.Rows L2
/-- a world without a state: the tables of H0 -/
def noG (P : Program) (w : World) (K : PySem.W.Frag) (mg : Str → Option Value) (H0 : Hp) : Ctx where
  P := P
  w := w
  K := K
  mg := mg
  F := fun b => ∃ ps, H0 b = some (.tbl ps)
  S := fun _ => False
  Zm := fun _ => True
  top := turnTop
  ok := fun _ H => (∀ b ps, H b = some (.tbl ps) → H0 b = some (.tbl ps)) ∧ ∀ b ps, H0 b = some (.tbl ps) → H b = some (.tbl ps)
  ha := fun _ => 0
  ok_mono := fun _ _ _ _ h => h
  ok_ext := fun _ H H' ⟨h1, h2⟩ e1 _ e3 => ⟨fun b ps e => h1 b ps (e3 b ps e), fun b ps e => (e1 b ⟨ps, e⟩).trans (h2 b ps e)⟩
  ok_dom := fun _ H b ⟨_, h2⟩ ⟨ps, e⟩ => by rw [h2 b ps e]; simp
  zfresh := fun _ _ _ _ _ => trivial
  sdom := fun _ _ _ _ s => s.elim
  tb := fun _ H b ps ⟨h1, _⟩ e => ⟨ps, h1 b ps e⟩
theorem noG_all {P : Program} {w : World} {K : PySem.W.Frag} {mg : Str → Option Value} {H0 H1 : Hp} {n : Nat} (ok : (noG P w K mg H0).ok n H1) {b : Addr} {o : HO} (k : ¬ (noG P w K mg H0).F b → H1 b = some o) (e : H0 b = some o) : H1 b = some o := by
  by_cases f : (noG P w K mg H0).F b
  · obtain ⟨ps, f⟩ := f
    rw [f] at e
    cases e
    exact ok.2 b ps f
  · exact k f
theorem sql_to {K : PySem.W.Frag} {H H1 : Hp} {p : Addr} {xs : List V} (h : SqL K H p xs) (k : ∀ o, H p = some o → NT o → H1 p = some o) : SqL K H1 p xs := by
  rcases h with h | h
  · refine .inl ?_
    rcases h with h | ⟨o, h⟩
    · exact .inl (k _ h (fun _ z => by cases z))
    · exact .inr ⟨o, k _ h (fun _ z => by cases z)⟩
  · exact .inr h
def noGam : Gam := { con := fun _ => none, fn := fun _ => none }
def kStr (k : Str) : Expr → Bool
  | .Constant (.str y) _ _ => decide (y = k)
  | _ => false
def kInt (n : Int) : Expr → Bool
  | .Constant (.int y) _ _ => decide (y = n)
  | _ => false
theorem kStr_ok {X : Cx} {k : Str} {e : Expr} (h : kStr k e = true) : PE X e (tC (.str k)) := by
  unfold kStr at h
  split at h
  · simp only [decide_eq_true_eq] at h
    subst h
    exact pe_str
  · cases h
theorem kInt_ok {X : Cx} {n : Int} {e : Expr} (h : kInt n e = true) : PE X e (tC (.int n)) := by
  unfold kInt at h
  split at h
  · simp only [decide_eq_true_eq] at h
    subst h
    exact pe_int
  · cases h
/-- great = [..]; return {great, cells, left, turn} -/
def bgB (N : List Str) (sc : Scope) (kg kc kl kt : Str) (m1 m2 : M) : List Stmt → Bool
  | [s1, .Return (some (.Dict [some a1, some a2, some a3, some a4] [v1, v2, v3, v4] _)) _] => chSt N sc (.own 1 m1) s1 && kStr kg a1 && kStr kc a2 && kStr kl a3 && kStr kt a4 && varB N sc 1 v1 && chE N sc m2 v2 && kInt 0 v3 && kInt 0 v4
  | _ => false
def spBegun (K : PySem.W.Frag) (kg kc kl kt : Str) (cellsOf : List Int → List Int) : Sp := fun vs H Q _ => ∃ (p : Addr) (ns : List Int), vs = [.ref p] ∧ SqL K H p (ns.map V.int) ∧ ns.length ≤ 63 ∧
  ∀ a g c great H', (∀ b o, H b = some o → H' b = some o) → H a = none → H g = none → H c = none → g ≠ c → stHas a g c kg kc kl kt (cellsOf ns) great 0 0 H' → (∀ b ps, H' b = some (.tbl ps) → H b = some (.tbl ps)) → Q (.ref a) H'
theorem ints_of {G : Ctx} {H : Hp} : ∀ {vs : List V} {ns : List Int}, DenL G H vs (ns.map D.int) → vs = ns.map V.int
  | _, [], .nil => rfl
  | _, n :: r, .cons h t => by
    cases h
    rw [ints_of t]
    rfl
theorem merge4 {kg kc kl kt : Str} {g c : Addr} (h1 : kg ≠ kc) (h2 : kg ≠ kl) (h3 : kg ≠ kt) (h4 : kc ≠ kl) (h5 : kc ≠ kt) (h6 : kl ≠ kt) :
    mergeK [] [((.inr kg : Key), V.ref g), (.inr kc, .ref c), (.inr kl, .int 0), (.inr kt, .int 0)] = [((.inr kg : Key), V.ref g), (.inr kc, .ref c), (.inr kl, .int 0), (.inr kt, .int 0)] := by
  simp [mergeK, putK, h1, h2, h3, h4, h5, h6, Ne.symm h1, Ne.symm h2, Ne.symm h3, Ne.symm h4, Ne.symm h5, Ne.symm h6]
section
variable {P : Program} {w : World} {K : PySem.W.Frag} {mg : Str → Option Value} {base : Heap}
theorem fn_begun {x : Str} {st : Stmt} {f : Addr} {fd : FuncData} {N : List Str} {s0 s1 s2 : Str} {kg kc kl kt : Str} {m1 m2 : M} {cellsOf : List Int → List Int} (F : FD K x st f fd) (S : FnScope N [s0] (defScope st)) (hN : N = [s0, s1, s2]) (hcell : hasCell (defScope st) = false) (free : ∀ x ∈ frNames, mg x = none)
    (h1 : kg ≠ kc) (h2 : kg ≠ kl) (h3 : kg ≠ kt) (h4 : kc ≠ kl) (h5 : kc ≠ kt) (h6 : kl ≠ kt) (hn2 : isNew m2 = true) (hc : bgB N (defScope st) kg kc kl kt m1 m2 (defBody st) = true) (hu1 : co noGam m1 ≤ 1000) (hu2 : co noGam m2 ≤ 1000)
    (law1 : ∀ (ns : List Int) (DE : DEnds), ns.length ≤ 63 → (∀ great : List Int, DE.nx [some (false, .scr ns), some (true, .lst (great.map D.int)), none]) → denSt noGam (.own 1 m1) DE [some (false, .scr ns), none, none])
    (law2 : ∀ (ns great : List Int) (Pd : D → Prop) (EP : XD → Prop), ns.length ≤ 63 → Pd (.lst ((cellsOf ns).map D.int)) → den noGam m2 [some (false, .scr ns), some (true, .lst (great.map D.int)), none] Pd EP) :
    FnG P w K mg base 1 f fd [s0] (spBegun K kg kc kl kt cellsOf) := by
  obtain ⟨oc, od, dV, kV, doc, pm, an, cdv, ct, osl, rfl, lk, hcd, _⟩ := F.ex
  refine fnG_of lk hcd S (fun vs H Q E ⟨p, ns, e, _⟩ => by subst e; rfl) fun A outer s H vs Q E gd hr hsp => ?_
  obtain ⟨p, ns, rfl, hS, hl, hQ⟩ := hsp
  have W : Wd P w K mg base (noG P w K mg H) noGam 0 :=
    { hK := rfl, hP := rfl, hw := rfl, hmg := rfl, con := fun _ _ h => (nomatch h), fn := fun _ _ _ h => (nomatch h), free := free, exc := fun _ h => absurd h List.not_mem_nil, exs := fun _ h => absurd h List.not_mem_nil, exn := fun _ h => absurd h List.not_mem_nil, fnv := fun _ _ h => (nomatch h), res := .inl fun key h => (by simp [noGam] at h), more := more_no }
  have C := cs_of (E := E) (outer := outer) (H := H) (s := s) (cdv := cdv) (f := f) (x := x) (P := P) (w := w) (base := base) S W gd hr (lam_no hcell (Nat.zero_le 0)) rfl
  have tk : Takes (cxOf (L2.CX P w) P w K mg base N x (defScope st) f cdv A outer s H E) (fun cls d _ H' => E cls d H') := tk_of
  unfold bgB at hc
  split at hc
  · rename_i body st1 a1 a2 a3 a4 v1 v2 v3 v4 p1 p2 hb
    simp only [Bool.and_eq_true] at hc
    obtain ⟨⟨⟨⟨⟨⟨⟨⟨c0, k1⟩, k2⟩, k3⟩, k4⟩, w1⟩, w2⟩, w3⟩, w4⟩ := hc
    rw [hb]
    refine ⟨_, pss_cons (soundSt C tk _ _ c0) (pss_one (ps_ret (pe_disp (pps_cons (kStr_ok k1) (varB_ok C.toCg w1) (pps_cons (kStr_ok k2) (soundN C.toCg tk m2 v2 hn2 w2) (pps_cons (kStr_ok k3) (kInt_ok w3) (pps_cons (kStr_ok k4) (kInt_ok w4) pps_nil)))) rfl rfl (by simp) (by simp)))), ?_⟩
    subst hN
    have ok0 : (noG P w K mg H).ok 0 H := ⟨fun _ _ e => e, fun _ _ e => e⟩
    have R0 : ER (noG P w K mg H) 0 (noG P w K mg H).F (L2.start [s0, s1, s2] [.ref p]) H (startD [s0, s1, s2] [.scr ns]) := start_er ⟨fun a f => f, fun _ _ => trivial⟩ (fun a z => (noG P w K mg H).ok_dom 0 H a ok0 z) ok0 (.cons (.scr (sql_to hS fun o e nt => hid_some.mpr ⟨fun ⟨ps, z⟩ => nt ps (Option.some.inj (e.symm.trans z)), e⟩)) .nil)
    refine ⟨0, 1000, (noG P w K mg H).F, _, { nx := fun e => ∃ great : List Int, e = [some (false, .scr ns), some (true, .lst (great.map D.int)), none], rt := fun _ => False, xe := fun _ _ => False }, ⟨by simpa [coSt] using hu1, by show 1000 ≤ turnTop; exact Nat.le_trans (by decide : 1000 ≤ 2 ^ 10) (Nat.pow_le_pow_right (by decide) (by decide))⟩, R0, law1 ns _ hl fun great => ⟨great, rfl⟩, ⟨?_, fun _ _ _ _ _ _ _ _ z => z.elim, fun _ _ _ _ _ z => z.elim, fun _ _ _ _ _ z => z.elim, fun _ _ _ _ _ _ _ _ _ z => z.elim⟩⟩
    rintro σ1 H1 _ R1 K1 ⟨great, rfl⟩
    obtain ⟨g, o, g1, g2, g3, g4⟩ := R1.own 1 _ rfl
    obtain ⟨us, rfl, g5⟩ := g4
    have e1 := ints_of g5
    subst e1
    have keep1 : ∀ b o, H b = some o → H1 b = some o := fun b o e => noG_all R1.ok (fun nf => (K1 b o nf (fun z => startD_own z) e).1) e
    have hg : H g = none := by
      cases q : H g with
      | none => rfl
      | some o => exact absurd ⟨1, _, rfl, g1⟩ (K1 g o (fun f => g2 (R1.zf g f)) (fun z => startD_own z) q).2
    intro a ha
    refine ⟨_, g1, ?_⟩
    have R2 := R1.growG (R1.new (o := .dK []) ha)
    have na : g ≠ a := ne_of_none g3 ha
    refine ⟨1000, 2000, (noG P w K mg H).F, _, fun d => d = .lst ((cellsOf ns).map D.int), fun _ => False, ⟨by omega, by show 2000 ≤ turnTop; exact Nat.le_trans (by decide : 2000 ≤ 2 ^ 11) (Nat.pow_le_pow_right (by decide) (by decide))⟩, R2, law2 ns great _ _ hl rfl, fun c o d H2 g6 hc2 hr2 hd => ?_, fun _ _ _ _ _ _ z => z.elim⟩
    subst hd
    obtain ⟨us2, rfl, g7⟩ := hr2
    have e2 := ints_of g7
    subst e2
    have nfa : ¬ (noG P w K mg H).F a := fun f => (noG P w K mg H).ok_dom _ _ a R1.ok f ha
    have a2 : H2 a = some (.dK []) := g6.to a _ (fun f => nfa f) upd_same
    have ac : a ≠ c := ne_of_none a2 hc2
    have k2 : H2 g = some (.lst (great.map V.int)) := g6.to g _ (fun f => g2 (R1.zf g f)) ((upd_ne na).trans g3)
    have gc : g ≠ c := ne_of_none k2 hc2
    refine ⟨(upd_ne ac).trans a2, [((.inr kg : Key), V.ref g), (.inr kc, .ref c), (.inr kl, .int 0), (.inr kt, .int 0)], rfl, by simp, ?_⟩
    rw [merge4 h1 h2 h3 h4 h5 h6]
    have up1 : ∀ b o, H1 b = some o → H2 b = some o := fun b o e => by
      by_cases f : (noG P w K mg H).F b
      · obtain ⟨ps, z⟩ := f
        have z1 := R1.ok.2 b ps z
        rw [e] at z1
        cases z1
        exact g6.ok.2 b ps z
      · exact g6.to b o f ((upd_ne (ne_of_none e ha)).trans e)
    have an : H a = none := by
      cases q : H a with
      | none => rfl
      | some o => rw [keep1 a o q] at ha; cases ha
    have cn : H c = none := by
      cases q : H c with
      | none => rfl
      | some o => rw [up1 c o (keep1 c o q)] at hc2; cases hc2
    refine hQ a g c great _ (fun b o e => ?_) an hg cn gc ⟨upd_same, ?_, ?_⟩ (fun b ps e => g6.ok.1 b ps (upd_tb nt_lst b ps (upd_tb nt_dK b ps e)))
    · rw [upd_ne (ne_of_none e an), upd_ne (ne_of_none e cn)]
      exact up1 b o (keep1 b o e)
    · rw [upd_ne na, upd_ne gc]
      exact k2
    · rw [upd_ne ac.symm]
      exact upd_same
  · cases hc
end
end DL

/-! D17: a law's def; its end. -/
namespace DL
open PySem PySem.Spec PyProof.Rows L2
/-- state = _law_begun(script) -/
def lawS (N : List Str) (sc : Scope) (bg : Str) : List Stmt → Bool
  | .Assign ts (.Call (.Name f _) [a] [] _) _ :: _ => asgB N sc 1 ts && decide (f = bg) && glB sc bg && varB N sc 0 a
  | _ => false
def spLaw (K : PySem.W.Frag) (ts : List (Addr × Str)) : Sp := fun vs H Q _ => ∃ (p : Addr) (ns : List Int), vs = [.ref p] ∧ SqL K H p (ns.map V.int) ∧ ns.length ≤ 63 ∧ (∀ t ∈ ts, H t.1 = some (.tbl #[])) ∧ (∀ b ps, H b = some (.tbl ps) → ∃ t ∈ ts, t.1 = b) ∧ ∀ H', Q (.bl true) H'
section
variable {P : Program} {w : World} {K : PySem.W.Frag} {mg : Str → Option Value} {base : Heap}
theorem fn_law {x bg : Str} {st : Stmt} {f fb : Addr} {fd fdb : FuncData} {N : List Str} {s0 s1 b0 : Str} {k j : Nat} {ts : List (Addr × Str)} {kg kc kl kt : Str} {cellsOf : List Int → List Int} {Γ : Gam} {ss : Ss} (F : FD K x st f fd) (S : FnScope N [s0] (defScope st)) {rest : List Str} (hN : N = s0 :: s1 :: rest)
    (gB : mg bg = some (.ref fb)) (kB : PySem.W.keepIn K (.ref fb) = true) (bB : Binds K fdb [b0] []) (FB : FnG P w K mg base j fb fdb [b0] (spBegun K kg kc kl kt cellsOf)) (hcl : ∀ ns, (cellsOf ns).length = ns.length)
    (W : ∀ a g c cells, g ≠ c → cells.length ≤ 63 → Wd P w K mg base (stG P w K mg a g c kg kc kl kt cells (coSs Γ ss) ts) Γ k) (L : ∀ a g c cells, g ≠ c → cells.length ≤ 63 → LamS0 P w K mg base (stG P w K mg a g c kg kc kl kt cells (coSs Γ ss) ts) Γ k j x (defScope st) fd.code) (hth : Γ.th = none)
    (hc1 : lawS N (defScope st) bg (defBody st) = true) (hc2 : chSs N (defScope st) ss ((defBody st).drop 1) = true)
    (law : ∀ (ns : List Int) (Pd : D → Prop) (EP : XD → Prop), ns.length ≤ 63 → Pd (.bl true) → denSs Γ ss (ends Pd EP) (some (false, .scr ns) :: some (false, .hnd 0) :: List.replicate rest.length none)) :
    FnG P w K mg base (j + 1) f fd [s0] (spLaw K ts) := by
  obtain ⟨oc, od, dV, kV, doc, pm, an, cdv, ct, osl, rfl, lk, hcd, _⟩ := F.ex
  refine fnG_of lk hcd S (fun vs H Q E ⟨p, ns, e, _⟩ => by subst e; rfl) fun A outer s H vs Q E gd hr hsp => ?_
  obtain ⟨p, ns, rfl, hS, hl, hT, hT2, hQ⟩ := hsp
  have Cw : ∀ a g c cells, g ≠ c → cells.length ≤ 63 → Cs (stG P w K mg a g c kg kc kl kt cells (coSs Γ ss) ts) Γ k N (defScope st) (cxOf (L2.CX P w) P w K mg base N x (defScope st) f cdv A outer s H E) := fun a g c cells h1 h2 => cs_of S (W a g c cells h1 h2) gd hr (L a g c cells h1 h2) hth
  have tk : Takes (cxOf (L2.CX P w) P w K mg base N x (defScope st) f cdv A outer s H E) (fun cls d _ H' => E cls d H') := tk_of
  have C0 := Cw 0 0 1 [] (by decide) (by decide)
  unfold lawS at hc1
  split at hc1
  · rename_i body ts fn p1 a p2 p3 sts hb
    simp only [Bool.and_eq_true, decide_eq_true_eq] at hc1
    obtain ⟨⟨⟨c1, c2⟩, c3⟩, c4⟩ := hc1
    obtain ⟨y, py, rfl, c5, c6⟩ := asgB_ok c1
    subst c2
    rw [hb] at hc2 ⊢
    obtain ⟨g1, g2, _⟩ := glB_ok C0.toCg c3
    have ns0 : ∀ v q, a ≠ .Starred v q := fun v q z => by
      subst z
      cases c4
    have one := pe_g (es := []) (p := p1) (pos := p2) FB hr C0.gd g1 gB kB bB tk (pa_cons (varB_ok C0.toCg c4) pa_nil (star_cons _ _ _ ns0)) (fun z hz => by cases List.mem_singleton.mp hz; exact ns0) g2
    have rs : PSs (cxOf (L2.CX P w) P w K mg base N x (defScope st) f cdv A outer s H E) sts (fun D σ H => ∃ (a g c : Addr) (cells : List Int), g ≠ c ∧ cells.length ≤ 63 ∧ liftS (stG P w K mg a g c kg kc kl kt cells (coSs Γ ss) ts) (coSs Γ ss) (fun cls d _ H' => E cls d H') (denSs Γ ss) D σ H) :=
      ⟨fun pins s2 σ H2 D I ⟨a, g, c, cells, q1, q2, q⟩ => (soundSs (Cw a g c cells q1 q2) tk ss sts hc2).run pins s2 σ H2 D I q⟩
    refine ⟨_, pss_cons (ps_set S.nd c5 (locB_ok C0 c6) one (swNo rfl) (.inl rfl)) rs, ?_⟩
    subst hN
    refine ⟨.ref p, rfl, p, ns, rfl, hS, hl, fun a g c great H' keep ha hg hc gc st tbs => ?_⟩
    let Fz : Addr → Prop := fun b => (b = a ∨ b = g ∨ b = c) ∨ ∃ t ∈ ts, t.1 = b
    have fz0 : ∀ b, Fz b → ∀ o, H b = some o → NT o → False := fun b z o e nt => by
      rcases z with (z | z | z) | ⟨t, ht, z⟩
      · rw [z, ha] at e; cases e
      · rw [z, hg] at e; cases e
      · rw [z, hc] at e; cases e
      · rw [← z, hT t ht] at e
        cases e
        exact nt _ rfl
    refine ⟨a, g, c, cellsOf ns, gc, by rw [hcl]; exact hl, 0, coSs Γ ss, Fz, some (false, .scr ns) :: some (false, .hnd 0) :: List.replicate rest.length none, ends (fun d => d = .bl true) (fun _ => False), ⟨by omega, Nat.le_refl _⟩, ?_, law ns _ _ hl rfl, ?_⟩
    · have noOwn : ∀ (i : Nat) (d : D), (some (false, D.scr ns) :: some (false, D.hnd 0) :: List.replicate rest.length none : DEnv)[i]? ≠ some (some (true, d)) := fun i d e => by
        match i with
        | 0 => cases e
        | 1 => cases e
        | i + 2 =>
          rw [List.getElem?_cons_succ, List.getElem?_cons_succ] at e
          have m := List.mem_of_getElem? e
          cases List.eq_of_mem_replicate m
      refine ⟨by simp [L2.start], fun i d e => ?_, fun i d e => absurd e (noOwn i d), fun i j b d e q1 _ _ _ => absurd q1 (noOwn i d), fun b f => f, fun b z => ?_, ⟨⟨great, 0, 0, st, by decide, by decide⟩, fun t ht => LamX.TabS.nil (keep _ _ (hT t ht)), fun b ps e => hT2 b ps (tbs b ps e)⟩, fun i a d h _ => absurd h (noOwn i d), fun _ _ => trivial⟩
      · match i with
        | 0 =>
          cases e
          refine ⟨.ref p, rfl, .scr (sql_to hS fun o e nt => hid_some.mpr ⟨fun z => ?_, keep p o e⟩)⟩
          rcases z with ⟨j, dd, q1, _⟩ | z
          · exact noOwn j dd q1
          · exact fz0 p z o e nt
        | 1 =>
          cases e
          exact ⟨.ref a, rfl, .hnd 0⟩
        | i + 2 =>
          rw [List.getElem?_cons_succ, List.getElem?_cons_succ] at e
          have m := List.mem_of_getElem? e
          cases List.eq_of_mem_replicate m
      · obtain ⟨t1, t2, t3⟩ := st
        rcases z with (rfl | rfl | rfl) | ⟨t, ht, rfl⟩
        · rw [t1]; simp
        · rw [t2]; simp
        · rw [t3]; simp
        · rw [keep _ _ (hT t ht)]; simp
    · exact ⟨fun _ _ _ _ _ z => (by cases z), fun v d σ' H2 env' _ _ hd z => by
        have z : d = .bl true := z
        subst z
        cases hd
        exact hQ H2, fun _ _ _ _ _ z => z.elim, fun _ _ _ _ _ z => z.elim, fun _ _ _ _ _ _ _ _ _ z => z.elim⟩
  · cases hc1
end
end DL

/-! D18: a law's end, for a promise that wants no repr around it. -/
namespace DL
open PySem PySem.Spec PyProof.Rows L2
section
variable {P : Program} {w : World} {K : PySem.W.Frag} {mg mb : Str → Option Value} {k : Nat} {fa a : Addr} {fd : FuncData} {x : Str} {s1 : Shared} {vs : List Value} {ns : List Int} {cs : List (Addr × Addr)} {ts : List (Addr × Str)}
/-- the caller's reading of the law's end -/
abbrev Told (s1 : Shared) (r : Result) (s' : Shared) : Prop := r = .ok (.ret (.bool true)) ∧ OldK s1.heap s'.heap ∧ s'.os = s1.os ∧ AllBare s'.gens
/-- the tables of the code objects of the defs that make lambdas -/
structure Tbs (K : PySem.W.Frag) (mg : Str → Option Value) (h : Heap) (cs : List (Addr × Addr)) (ts : List (Addr × Str)) : Prop where
  empty : ∀ p ∈ cs, h.get? p.2 = some { cls := .none, data := .fields #[] }
  out : ∀ p ∈ cs, K.lookup p.2 = none
  hd : ∀ p ∈ cs, PySem.W.CodeHd h p.1 p.2
  bm : ∃ (bm : Addr) (ob : Obj), mg "__builtins__" = some (.ref bm) ∧ bm ≠ builtinsNs ∧ h.get? bm = some ob ∧ ob.cls = .type "module" ∧ ob.dict = some builtinsNs ∧ ob.data = .plain
  ts1 : ∀ t ∈ ts, ∃ p ∈ cs, p.2 = t.1
  ts2 : ∀ p ∈ cs, ∃ t ∈ ts, t.1 = p.2
def isTb (cs : List (Addr × Addr)) (b : Addr) : Prop := ∃ p ∈ cs, p.2 = b
theorem told_by (KX : K.In s1.heap) (hns : s1.heap.Ns mainGlobals mg) (hb : s1.heap.Ns builtinsNs mb) (hbb : ∀ y : Str, y ≠ "__name__" → mb y = bootBuiltins y) (hlim : s1.heap.NoLimit) (hg : s1.gens = #[]) (tb : Tbs K mg s1.heap cs ts)
    (ha : s1.heap.get? a = some { cls := .type "list", data := .seq vs.toArray }) (hl : ns.length ≤ 63) (hr : Room k callerA) (F : ∀ base : Heap, K.In base → base.Ns mainGlobals mg → (∀ p ∈ cs, LamX.TabB base mg p.1 p.2) → FnG P w K mg base k fa fd [x] (spLaw K ts))
    (bind : ∀ (s : Shared) (u : Value), BindsTo s fd ⟨[u], []⟩ [(x, u)]) {H : Hp} (only : ∀ b, H b = none ∨ (isTb cs b ∧ H b = some (.tbl #[])) ∨ ∃ o xs, H b = some (.frz o (.lst xs))) (isT : ∀ b, isTb cs b → H b = some (.tbl #[])) (hS : SqL K H a (ns.map V.int)) (ok : HOk P w H s1.heap) (at_a : ∀ b, H b ≠ none → b = a ∨ isTb cs b) (notK : H a ≠ none → K.lookup a = none) :
    codeAny (model P w) callerA (.call (.ref fa) ⟨[.ref a], []⟩) (Told s1) s1 := by
  have atT : ∀ b, isTb cs b → s1.heap.get? b = some { cls := .none, data := .fields #[] } := fun b ⟨p, hp, e⟩ => e ▸ tb.empty p hp
  -- what is neither the script nor a table
  have free : ∀ {b : Addr} {o : Obj}, s1.heap.get? b = some o → (∀ us n, o.data ≠ .seq us n) → o.data ≠ .fields #[] → H b = none := by
    intro b o h1 h2 h3
    by_cases q : H b = none
    · exact q
    · rcases at_a b q with z | z
      · rw [z, ha] at h1
        cases h1
        exact absurd rfl (h2 _ _)
      · rw [atT b z] at h1
        cases h1
        exact absurd rfl h3
  have dictFree : ∀ {b : Addr} {o : Obj} {es : Array DictEntry} {e : Nat}, s1.heap.get? b = some o → o.data = .dict es e → H b = none := fun {b o es e} h1 h2 => free h1 (fun us n z => by rw [h2] at z; cases z) fun z => by rw [h2] at z; cases z
  have down : ∀ {b : Addr} {m : Str → Option Value}, s1.heap.Ns b m → (hidT s1.heap H).Ns b m := by
    intro b m h
    obtain ⟨o, es, e, h1, h2, h3⟩ := h
    exact ⟨o, es, e, hidT_get h1 (dictFree h1 h2), h2, h3⟩
  have KH : K.In (hidT s1.heap H) := by
    intro b o h
    refine hidT_get (KX b o h) ?_
    by_cases q : H b = none
    · exact q
    · rcases at_a b q with z | ⟨p, hp, z⟩
      · subst z
        rw [notK q] at h
        cases h
      · rw [← z, tb.out p hp] at h
        cases h
  obtain ⟨mc, l1, l2⟩ := hlim
  have world : Mod K mg (hidT s1.heap H) := ⟨KH, down hns, ⟨mb, down hb, hbb⟩, ⟨mc, down l1, l2⟩⟩
  have tbB : ∀ p ∈ cs, LamX.TabB (hidT s1.heap H) mg p.1 p.2 := fun p hp => by
    have e0 := tb.empty p hp
    refine ⟨?_, ?_, fun z => ?_⟩
    · obtain ⟨o, us, file, tf, flags, tg, inF, text, tt, e1, r1, r2, r⟩ := tb.hd p hp
      refine ⟨o, us, file, tf, flags, tg, inF, text, tt, hidT_get e1 (free e1 (fun vs n z => ?_) fun z => ?_), r1, r2, r⟩
      · rw [r2] at z
        cases z
      · rw [r2] at z
        cases z
        have r3 := r.1
        simp at r3
    · obtain ⟨bm, ob, b1, b2, b3, b4, b5, b6⟩ := tb.bm
      refine ⟨bm, ob, b1, b2, fun q => ?_, fun q => ?_, hidT_get b3 (free b3 (fun vs n z => ?_) fun z => ?_), b4, b5, b6⟩
      · obtain ⟨o, es, ep, e, hd, _⟩ := hns
        rw [q, e] at b3
        cases b3
        rw [hd] at b6
        cases b6
      · rw [q, e0] at b3
        cases b3
        cases b6
      · rw [b6] at z
        cases z
      · rw [b6] at z
        cases z
    · obtain ⟨o, es, ep, e, hd, _⟩ := hns
      rw [z, e0] at e
      cases e
      cases hd
  have nothing : ∀ b : Addr, b ∉ ([] : List Addr) := fun b z => nomatch z
  have start : Env0 P w K mg (hidT s1.heap H) callerA [] s1 H := by
    refine ⟨rfl, world, fun b o e => of_hidT e, ?_, trivial, fun b z => ?_, ok, .of_eq hg⟩
    · rw [hidT_size]
      exact Nat.le_refl _
    · exact absurd z (nothing b)
  have run := (F _ KH (down hns) tbB).run callerA [] s1 H ⟨[.ref a], []⟩ [.ref a] [.ref a] (fun v _ => v = .bl true) (fun _ _ _ => False) rfl hr start (bind s1 (.ref a)) (.cons rfl .nil) ⟨a, ns, rfl, hS, hl, fun t ht => (by
    obtain ⟨p, hp, e⟩ := tb.ts1 t ht
    exact isT _ ⟨p, hp, e⟩), fun b ps e => (by
    rcases only b with n | ⟨⟨p, hp, n⟩, _⟩ | ⟨ob, xs, n⟩
    · rw [n] at e; cases e
    · rw [← n]
      exact tb.ts2 p hp
    · rw [n] at e; cases e), fun _ => rfl⟩
  refine codeAny_mono run fun r s' z => ?_
  match r, z with
  | .error e, z =>
    obtain ⟨_, _, _, _, _, _, _, _, _, _, _, _, z⟩ := z
    exact z.elim
  | .ok .next, z => exact False.elim z
  | .ok .brk, z => exact False.elim z
  | .ok .cont, z => exact False.elim z
  | .ok (.ret u), z =>
    obtain ⟨v, H2, os, bare, un, ok2, rv, e⟩ := z
    subst e
    cases (show u = Value.bool true from rv)
    have same : ∀ b o, ¬ isTb cs b → s1.heap.get? b = some o → s'.heap.get? b = some o := fun b o nt e => by
      by_cases q : H b = none
      · exact un.keep b o e q (nothing b) (by simp)
      · rcases only b with n | ⟨n, _⟩ | ⟨ob, xs, n⟩
        · exact absurd n q
        · exact absurd n nt
        · have n2 := un.frzs b ob _ n
          have e1 := (ok b _ n).1
          have e2 := (ok2 b _ n2).1
          rw [e] at e1
          cases e1
          exact e2
    have grew : ∀ b, isTb cs b → ∃ more : Array Value, s'.heap.get? b = some { cls := .none, data := .fields more } := fun b hb => by
      obtain ⟨more, z⟩ := un.tbls b #[] (isT b hb)
      exact ⟨_, ok2 b _ z⟩
    refine ⟨rfl, ⟨fun b o e => ?_, fun b o e => ?_⟩, os, bare⟩
    · by_cases hb : isTb cs b
      · obtain ⟨more, hm⟩ := grew b hb
        obtain ⟨p, hp, z⟩ := hb
        subst z
        have e0 := tb.empty p hp
        rw [e0] at e
        cases e
        exact .inr (.inl ⟨((tb.hd p hp).tab e0).isCodeTable, rfl, #[], more, rfl, by rw [Array.empty_append]; exact hm⟩)
      · exact .inl (same b o hb e)
    · by_cases hb : isTb cs b
      · obtain ⟨more, hm⟩ := grew b hb
        exact ⟨_, hm⟩
      · exact ⟨o, same b o hb e⟩
open Classical in
/-- whatever the script is to the module -/
theorem told (KX : K.In s1.heap) (hns : s1.heap.Ns mainGlobals mg) (hb : s1.heap.Ns builtinsNs mb) (hbb : ∀ y : Str, y ≠ "__name__" → mb y = bootBuiltins y) (hlim : s1.heap.NoLimit) (hg : s1.gens = #[]) (tb : Tbs K mg s1.heap cs ts)
    (ha : s1.heap.get? a = some { cls := .type "list", data := .seq vs.toArray }) (hi : IntsAre vs ns) (hl : ns.length ≤ 63) (hr : Room k callerA) (F : ∀ base : Heap, K.In base → base.Ns mainGlobals mg → (∀ p ∈ cs, LamX.TabB base mg p.1 p.2) → FnG P w K mg base k fa fd [x] (spLaw K ts))
    (bind : ∀ (s : Shared) (u : Value), BindsTo s fd ⟨[u], []⟩ [(x, u)]) : codeAny (model P w) callerA (.call (.ref fa) ⟨[.ref a], []⟩) (Told s1) s1 := by
  have small : ns.length ≤ sizeLine := Nat.le_trans hl (by decide)
  have rel := vals_ints hi
  have nat : ¬ isTb cs a := fun ⟨p, hp, z⟩ => by
    have e := tb.empty p hp
    rw [z, ha] at e
    have z' : Data.seq vs.toArray _ = Data.fields #[] := congrArg Obj.data (Option.some.inj e)
    cases z'
  have atT : ∀ b, isTb cs b → s1.heap.get? b = some { cls := .none, data := .fields #[] } := fun b ⟨p, hp, e⟩ => e ▸ tb.empty p hp
  by_cases q : K.lookup a = none
  · let H : Hp := fun b => if b = a then some (.frz { cls := .type "list", data := .seq vs.toArray } (.lst (ns.map V.int))) else if isTb cs b then some (.tbl #[]) else none
    have at1 : H a = some (.frz { cls := .type "list", data := .seq vs.toArray } (.lst (ns.map V.int))) := if_pos rfl
    have at2 : ∀ b, isTb cs b → H b = some (.tbl #[]) := fun b n => (if_neg (fun z : b = a => nat (z ▸ n))).trans (if_pos n)
    have at3 : ∀ b, b ≠ a → ¬ isTb cs b → H b = none := fun b n m => (if_neg n).trans (if_neg m)
    refine told_by KX hns hb hbb hlim hg tb ha hl hr F bind (H := H) (fun b => ?_) at2 (.inl (.inr ⟨_, at1⟩)) (fun b u z => ?_) (fun b z => ?_) fun _ => q
    · by_cases e : b = a
      · subst e
        exact .inr (.inr ⟨_, _, at1⟩)
      · by_cases m : isTb cs b
        · exact .inr (.inl ⟨m, at2 b m⟩)
        · exact .inl (at3 b e m)
    · by_cases e : b = a
      · subst e
        rw [at1] at z
        cases z
        exact ⟨ha, by rw [List.length_map]; exact small, vs, _, rel, ha⟩
      · by_cases m : isTb cs b
        · rw [at2 b m] at z
          cases z
          exact atT b m
        · rw [at3 b e m] at z
          cases z
    · by_cases e : b = a
      · exact .inl e
      · by_cases m : isTb cs b
        · exact .inr m
        · exact absurd (at3 b e m) z
  · obtain ⟨o, e⟩ := Option.ne_none_iff_exists'.mp q
    have e2 := KX a o e
    rw [ha] at e2
    cases e2
    let H : Hp := fun b => if isTb cs b then some (.tbl #[]) else none
    have at2 : ∀ b, isTb cs b → H b = some (.tbl #[]) := fun b n => if_pos n
    have at3 : ∀ b, ¬ isTb cs b → H b = none := fun b m => if_neg m
    refine told_by KX hns hb hbb hlim hg tb ha hl hr F bind (H := H) (fun b => ?_) at2 (.inr ⟨_, vs.toArray, _, e, rfl, rfl, rfl, ?_, by simpa using rel⟩) (fun b u z => ?_) (fun b z => ?_) fun z => absurd (at3 a nat) z
    · by_cases m : isTb cs b
      · exact .inr (.inl ⟨m, at2 b m⟩)
      · exact .inl (at3 b m)
    · rw [List.size_toArray, hi.length]
      exact small
    · by_cases m : isTb cs b
      · rw [at2 b m] at z
        cases z
        exact atT b m
      · rw [at3 b m] at z
        cases z
    · by_cases m : isTb cs b
      · exact .inr m
      · exact absurd (at3 b m) z
end
theorem walkG {l : PySem.W.OpenLaw} {k : Nat} {q : Program} {loose : List Str} {XP : (Str → Option Value) → Heap → Prop} {YP : World → Heap → Prop} {d : DefRec} {x : Str} (hn : l.most = some 63) (hdf : d.params.defaults = []) (hr : Room k callerA)
    (F : ∀ (w : World) (mg : Str → Option Value) (fa : Addr) (h : Heap), YP w h → h.Ns mainGlobals mg → mg d.name = some (.ref fa) → ∃ (K : PySem.W.Frag) (fd : FuncData) (cs : List (Addr × Addr)) (ts : List (Addr × Str)), K.In h ∧ (∀ p ∈ cs, h.get? p.2 = some { cls := .none, data := .fields #[] }) ∧ (∀ p ∈ cs, K.lookup p.2 = none) ∧ (∀ p ∈ cs, PySem.W.CodeHd h p.1 p.2) ∧
      (∀ t ∈ ts, ∃ p ∈ cs, p.2 = t.1) ∧ (∀ p ∈ cs, ∃ t ∈ ts, t.1 = p.2) ∧ (∀ (s : Shared) (u : Value), BindsTo s fd ⟨[u], []⟩ [(x, u)]) ∧
      ∀ base : Heap, K.In base → base.Ns mainGlobals mg → (∀ p ∈ cs, LamX.TabB base mg p.1 p.2) → FnG l.prog w K mg base k fa fd [x] (spLaw K ts)) : PySem.W.WalkO q loose XP YP l.row.toRowW d [] (fun f vs => PySem.call f vs) :=
  Att.attach_call hn hdf fun w s₀ s1 mg mb fa o pm cd doc a vs ns G Y ho hd hcd hmg hobj hints hlen hg => by
    obtain ⟨K, fd, cs, ts, KX, t1, t2, t3, t4, t5, hb, hF⟩ := F w mg fa _ Y G.T.g hmg
    exact told KX G.T.g G.T.b G.T.builtins G.T.nolimit hg ⟨t1, t2, t3, G.T.bmain, t4, t5⟩ hobj hints hlen hr hF hb
end DL

/-! D19: the defs of a law, one after another. -/
namespace DL
open PySem PySem.Spec PyProof.Rows L2
def Gam.add (Γ : Gam) (x : Str) (ps : List Str) (sp : FSp) : Gam := { Γ with fn := fun y => if y = x then some (ps, sp) else Γ.fn y }
theorem Wd.add {P : Program} {w : World} {K : PySem.W.Frag} {mg : Str → Option Value} {base : Heap} {G : Ctx} {Γ : Gam} {k : Nat} {x : Str} {ps : List Str} {sp : FSp} (W : Wd P w K mg base G Γ k) (h : FnAt P w K mg base G (k + 1) (Γ.cost x) Γ.kws x ps sp) : Wd P w K mg base G (Γ.add x ps sp) (k + 1) where
  hK := W.hK
  hP := W.hP
  hw := W.hw
  hmg := W.hmg
  con := W.con
  fn := fun y ps' sp' e => by
    have e : (if y = x then some (ps, sp) else Γ.fn y) = some (ps', sp') := e
    by_cases hy : y = x
    · rw [if_pos hy] at e
      cases e
      subst hy
      exact h
    · rw [if_neg hy] at e
      exact (W.fn y ps' sp' e).mono (Nat.le_succ k)
  free := W.free
  exc := W.exc
  exs := W.exs
  exn := W.exn
  fnv := fun y sp' e => let ⟨f, a, b, c⟩ := W.fnv y sp' e; ⟨f, a, b, c.mono (Nat.le_succ k)⟩
  res := W.res
  more := W.more
/-- one more def -/
theorem Wd.def_ {P : Program} {w : World} {K : PySem.W.Frag} {mg : Str → Option Value} {base : Heap} {G : Ctx} {Γ : Gam} {k : Nat} {x : Str} {st : Stmt} {f : Addr} {fd : FuncData} {N ps : List Str} {sp : FSp} (W : Wd P w K mg base G Γ k) (F : FD K x st f fd) (g : mg x = some (.ref f))
    (b : Binds K fd ps []) (kw : ∀ ks, (x, ks) ∈ Γ.kws → ∀ (s : Shared) (us : List Value), K.In s.heap → us.length = ks.length → BindsTo s fd ⟨[], ks.zip us⟩ (ps.zip (ps.map fun p => ((ks.zip us).lookup p).getD .none)) ∧ ∀ p ∈ ps, p ∈ ks)
    (S : FnScope N ps (defScope st)) (ss : Ss) (hcell : hasCell (defScope st) = false) (hth : Γ.th = none) (hc : chSs N (defScope st) ss (defBody st) = true) (hu : coSs Γ ss ≤ Γ.cost x)
    (law : ∀ ds Pd EP, ds.length = ps.length → sp ds Pd EP → denSs Γ ss (ends Pd EP) (startD N ds)) : Wd P w K mg base G (Γ.add x ps sp) (k + 1) :=
  W.add ⟨f, fd, g, F.kp, b, fnD F S W (lam_no hcell (Nat.le_refl k)) hth ss hc hu law, kw⟩
theorem Wd.mono {P : Program} {w : World} {K : PySem.W.Frag} {mg : Str → Option Value} {base : Heap} {G : Ctx} {Γ : Gam} {j k : Nat} (W : Wd P w K mg base G Γ j) (h : j ≤ k) : Wd P w K mg base G Γ k :=
  { W with fn := fun y ps sp e => (W.fn y ps sp e).mono h, fnv := fun y sp' e => let ⟨f, a, b, c⟩ := W.fnv y sp' e; ⟨f, a, b, c.mono h⟩ }
/-- one more def, that makes lambdas -/
theorem Wd.defL {P : Program} {w : World} {K : PySem.W.Frag} {mg : Str → Option Value} {base : Heap} {G : Ctx} {Γ : Gam} {k : Nat} {x : Str} {st : Stmt} {f : Addr} {fd : FuncData} {N ps : List Str} {sp : FSp} (W : Wd P w K mg base G Γ k) (F : FD K x st f fd) (g : mg x = some (.ref f))
    (b : Binds K fd ps []) (kw : ∀ ks, (x, ks) ∈ Γ.kws → ∀ (s : Shared) (us : List Value), K.In s.heap → us.length = ks.length → BindsTo s fd ⟨[], ks.zip us⟩ (ps.zip (ps.map fun p => ((ks.zip us).lookup p).getD .none)) ∧ ∀ p ∈ ps, p ∈ ks)
    (S : FnScope N ps (defScope st)) (ss : Ss) (L : ∀ y sp, Γ.tfn y = some sp → LamF P w K mg base G k (Γ.cost y) fd.code (lamQ0 x) y sp) (hth : Γ.th = none) (hc : chSs N (defScope st) ss (defBody st) = true) (hu : coSs Γ ss ≤ Γ.cost x)
    (law : ∀ ds Pd EP, ds.length = ps.length → sp ds Pd EP → denSs Γ ss (ends Pd EP) (startD N ds)) : Wd P w K mg base G (Γ.add x ps sp) (k + 3) :=
  (W.mono (Nat.le_add_right k 2)).add ⟨f, fd, g, F.kp, b, fnD F S W ⟨Nat.le_add_right k 2, fun _ => Nat.le_refl _, fun _ => L⟩ hth ss hc hu law, kw⟩
def Gam.addV (Γ : Gam) (x : Str) (sp : FSp) : Gam := { Γ with fnv := fun y => if y = x then some sp else Γ.fnv y }
theorem Wd.addV {P : Program} {w : World} {K : PySem.W.Frag} {mg : Str → Option Value} {base : Heap} {G : Ctx} {Γ : Gam} {k : Nat} {x : Str} {sp : FSp} {f : Addr} (W : Wd P w K mg base G Γ k) (g : mg x = some (.ref f)) (kp : PySem.W.keepIn K (.ref f) = true) (h : FnV P w K mg base (k + 1) f (liftSpV G (Γ.cost x) sp)) : Wd P w K mg base G (Γ.addV x sp) (k + 1) :=
  { W.mono (Nat.le_succ k) with
    fnv := fun y sp' e => by
      have e : (if y = x then some sp else Γ.fnv y) = some sp' := e
      by_cases hy : y = x
      · rw [if_pos hy] at e
        cases e
        subst hy
        exact ⟨f, g, kp, h⟩
      · rw [if_neg hy] at e
        exact (W.mono (Nat.le_succ k)).fnv y sp' e }
/-- one more def, with a star parameter -/
theorem Wd.defV {P : Program} {w : World} {K : PySem.W.Frag} {mg : Str → Option Value} {base : Heap} {G : Ctx} {Γ : Gam} {k : Nat} {x pv : Str} {st : Stmt} {f : Addr} {fd : FuncData} {N : List Str} {sp : FSp} (W : Wd P w K mg base G Γ k) (F : FD K x st f fd) (g : mg x = some (.ref f))
    (hb : ∀ (kV doc pm : Value) (an : Option Addr) (cdv ct : Value) (us : List Value), bindArgs (PySem.W.fnOf x x (defArgs st) (defBody st) (defScope st) .none kV doc pm an cdv ct) ⟨us, []⟩ = (newTuple us >>= fun t => pure [(pv, t)]))
    (S : FnScope N [pv] (defScope st)) (ss : Ss) (hcell : hasCell (defScope st) = false) (hth : Γ.th = none) (hc : chSs N (defScope st) ss (defBody st) = true) (hu : coSs Γ ss ≤ Γ.cost x)
    (law : ∀ ds Pd EP, sp ds Pd EP → denSs Γ ss (ends Pd EP) (startD N [.tup ds])) : Wd P w K mg base G (Γ.addV x sp) (k + 1) :=
  W.addV g F.kp (fnDV F S W (lam_no hcell (Nat.le_refl k)) hth hb ss hc hu law)
/-- which defs get lambdas is told apart -/
def Gam.tells (Γ : Gam) (t : Str → Option ThSp) : Gam := { Γ with tfn := t }
theorem Wd.tells {P : Program} {w : World} {K : PySem.W.Frag} {mg : Str → Option Value} {base : Heap} {G : Ctx} {Γ : Gam} {k : Nat} (t : Str → Option ThSp) (W : Wd P w K mg base G Γ k) : Wd P w K mg base G (Γ.tells t) k :=
  { W with }
/-- the law's state, and a lambda in a def -/
theorem lamF_of {P : Program} {w : World} {K : PySem.W.Frag} {mg : Str → Option Value} {base : Heap} {a g c : Addr} {kg kc kl kt : Str} {cells : List Int} {top : Nat} {ts : List (Addr × Str)} {k n : Nat} {cd Pt fa : Addr} {q f : Str} {sp : ThSp} (TB : LamX.TabB base mg cd Pt) (mem : (Pt, q) ∈ ts) (one : ∀ p ∈ ts, p.1 = Pt → p.2 = q) (hg : mg f = some (.ref fa)) (kp : PySem.W.keepIn K (.ref fa) = true)
    (t : Tell P w K mg base (stG P w K mg a g c kg kc kl kt cells top ts) k n f fa sp) : LamF P w K mg base (stG P w K mg a g c kg kc kl kt cells top ts) k n (.ref cd) q f sp :=
  ⟨cd, Pt, fa, ts, rfl, TB, mem, one, hg, kp, t, fun _ _ ok => ok.2.1, fun _ _ _ _ _ _ ok hp st t => stG_lam ok hp st t, fun _ _ _ _ ok h => stG_code ok h⟩
theorem noKw {x : Str} {kws : List (Str × List Str)} (h : (kws.all fun p => decide (p.1 ≠ x)) = true) {p : List Str → Prop} : ∀ ks, (x, ks) ∈ kws → p ks := fun ks hm => by
  have := List.all_eq_true.mp h _ hm
  simp at this
end DL

/-! K01b: the plain laws of k01's defs. -/
namespace DL
open PySem PySem.Spec PyProof.Rows L2
/-! ### comprehensions -/
theorem lcD_sel {i : Nat} {c : TPT} {t : TP} (g : D → Bool) (f : D → D) : ∀ {ds : List D} {env : DEnv} {P : List D → Prop}, i < env.length → (∀ d ∈ ds, ∀ P' : Bool → Prop, P' (g d) → c (env.set i (some (false, d))) P' noX) →
    (∀ d ∈ ds, ∀ P' : D → Prop, P' (f d) → t (env.set i (some (false, d))) P' noX) → P ((ds.filter g).map f) → lcD i c t ds env P
  | [], env, P, _, _, _, h => h
  | d :: r, env, P, hi, hc, ht, h => by
    refine ⟨hi, hc d List.mem_cons_self _ ?_⟩
    cases e : g d with
    | false =>
      rw [List.filter_cons_of_neg (by simp [e])] at h
      exact iteF (lcD_sel g f hi (fun x hx => hc x (List.mem_cons_of_mem _ hx)) (fun x hx => ht x (List.mem_cons_of_mem _ hx)) h)
    | true =>
      rw [List.filter_cons_of_pos e, List.map_cons] at h
      exact iteT (ht d List.mem_cons_self _ (lcD_sel g f hi (fun x hx => hc x (List.mem_cons_of_mem _ hx)) (fun x hx => ht x (List.mem_cons_of_mem _ hx)) h))
theorem lcD_map {i : Nat} {t : TP} (f : D → D) {ds : List D} {env : DEnv} {P : List D → Prop} (hi : i < env.length) (ht : ∀ d ∈ ds, ∀ P' : D → Prop, P' (f d) → t (env.set i (some (false, d))) P' noX) (h : P (ds.map f)) : lcD i (fun _ P _ => P true) t ds env P :=
  lcD_sel (fun _ => true) f hi (fun _ _ _ h => h) ht (by rw [List.filter_eq_self.mpr fun _ _ => rfl]; exact h)
theorem lcD_rel {i : Nat} {t : TP} (R : D → Prop) : ∀ {ds : List D} {env : DEnv} {P : List D → Prop}, i < env.length → (∀ d ∈ ds, ∀ P' : D → Prop, (∀ y, R y → P' y) → t (env.set i (some (false, d))) P' noX) →
    (∀ ys : List D, ys.length = ds.length → (∀ y ∈ ys, R y) → P ys) → lcD i (fun _ P _ => P true) t ds env P
  | [], env, P, _, _, h => h [] rfl fun _ z => absurd z List.not_mem_nil
  | d :: r, env, P, hi, ht, h => ⟨hi, iteT (ht d List.mem_cons_self _ fun y hy => lcD_rel R hi (fun x hx => ht x (List.mem_cons_of_mem _ hx)) fun ys hl hys => h (y :: ys) (by simp [hl]) fun z hz => by
    rcases List.mem_cons.mp hz with rfl | hz
    · exact hy
    · exact hys z hz)⟩
theorem bools_of {f : D → Bool} : ∀ {xs : List D}, bools (xs.map fun x => .bl (f x)) = some (xs.map f)
  | [] => rfl
  | x :: r => by rw [List.map_cons, bools, bools_of]; rfl
theorem all_id {f : D → Bool} : ∀ {xs : List D}, (xs.map f).all id = xs.all f
  | [] => rfl
  | x :: r => by rw [List.map_cons, List.all_cons, List.all_cons, all_id]; rfl
local macro_rules
  | `(tactic| array_get_dec) => `(tactic| simp only [denSs, denSt, den, denT, denL, denC, denO, denS, sSeq, sSet, sNew, sExpr, sRet, sRetN, sSkip, sBrk, sCont, sIf, sFor, dSeq, dRng1, dRng2, dOp, dOp1, dC, dVar, dCons, dNil, dCall, dTup, dLst, dLc, dAnd, dOr, dNot, dIf,
    dTest, dTru, dNotT, dAndT, dOrT, dG, dSl, dPart, dNoP, dChain, al, alL, alS, dis, dis1, ends, exe, startD, List.set, List.map_cons, List.map_nil, List.length_cons, List.length_nil, List.replicate, List.cons_append, List.nil_append, List.append_nil, List.getElem?_cons_zero, List.getElem?_cons_succ,
    bopF, copF, bltF, fLe, fLt, fGt, fGe, fLen, fAbs, fMin2, fMax2, fSl, ite_true, ite_false, Bool.false_eq_true, fI, fAdd, fEq, fNe, neA_nil, eqk, dat, deq, fInt, truth, Nat.reduceAdd, Nat.reduceSub, Nat.reduceLT, Nat.reduceLeDiff, true_and, and_true, ne_eq, Nat.reduceEqDiff, not_false_eq_true, Nat.zero_ne_one, Nat.succ_ne_self, reduceCtorEq, D.bl.injEq, D.int.injEq, Option.some.injEq, exists_eq_left', exists_eq_left, Bool.and_self])

def far : Int := 10 ^ 12
def isNum : D → Int → Int → Bool
  | .int i, lo, hi => decide (lo ≤ i) && decide (i ≤ hi)
  | _, _, _ => false
def isTm : D → Bool
  | .non => true
  | .int i => decide (-far ≤ i) && decide (i ≤ far)
  | _ => false
def isRw : D → Bool
  | .tup xs => decide (1 ≤ (xs.length : Int)) && decide ((xs.length : Int) ≤ 4) && xs.all isTm
  | _ => false
def spIsNumber : FSp := fun ds P _ => ∃ t lo hi, ds = [t, .int lo, .int hi] ∧ (tyNm t).isSome = true ∧ P (.bl (isNum t lo hi))
def spIsTime : FSp := fun ds P _ => ∃ t, ds = [t] ∧ (tyNm t).isSome = true ∧ P (.bl (isTm t))
def spIsRow : FSp := fun ds P _ => ∃ t, ds = [t] ∧ (tyNm t).isSome = true ∧ (∀ xs, t = .tup xs → xs.length ≤ 1000 ∧ ∀ x ∈ xs, (tyNm x).isSome = true) ∧ P (.bl (isRw t))
/-- a time that the law draws -/
def tmV (t : D) : Prop := t = .non ∨ ∃ i : Int, t = .int i ∧ -far ≤ i ∧ i ≤ far
def spTime : FSp := fun ds P _ => ∃ m : Int, ds = [.hnd 0, .int m] ∧ 0 < m ∧ m ≤ far ∧ ∀ t, tmV t → P t
def spRow : FSp := fun ds P _ => ∃ (c : Nat) (m : Int), ds = [.hnd 0, .int c, .int m] ∧ c < 100 ∧ 0 < m ∧ m ≤ far ∧ ∀ xs : List D, xs.length = c → (∀ x ∈ xs, tmV x) → P (.tup xs)
def b_is_number : Ss := (.cons (.ret (.and (.blt .isi (.cons (.var 0) (.cons (.ty "int" "int") .nil))) (.and (.not (.blt .isi (.cons (.var 0) (.cons (.ty "bool" "bool") .nil)))) (.chain .le .le (.var 1) (.var 0) (.var 2))))) .nil)
def b_is_time : Ss := (.cons (.ret (.or (.isN (.var 0)) (.call "is_number" (.cons (.var 0) (.cons (.bin .sub (.int 0) (.con "MOST_TIME")) (.cons (.con "MOST_TIME") .nil)))))) .nil)
def b_is_row : Ss := (.cons (.ret (.and (.blt .isi (.cons (.var 0) (.cons (.ty "tuple" "tuple") .nil))) (.and (.chain .le .le (.int 1) (.blt .len (.cons (.var 0) .nil)) (.con "MOST_INPUTS")) (.blt .all (.cons (.lc 1 "time" (.seq (.var 0)) .no (.call "is_time" (.cons (.var 1) .nil))) .nil))))) .nil)
def b_law_time : Ss := (.cons (.put 2 (.call "_law_take" (.cons (.var 0) (.cons (.int 8) .nil)))) (.cons (.ite (.cmp .eq (.var 2) (.int 0)) (.cons (.ret .non) .nil) .nil) (.cons (.ite (.cmp .eq (.var 2) (.int 1)) (.cons (.ret (.call "_law_pick" (.cons (.var 0) (.cons (.lst (.cons (.bin .pow (.int 10) (.int 12)) (.cons (.bin .sub (.int 0) (.bin .pow (.int 10) (.int 12))) (.cons (.call "_law_take" (.cons (.var 0) (.cons (.bin .pow (.int 10) (.int 12)) .nil))) (.cons (.bin .sub (.int 0) (.call "_law_take" (.cons (.var 0) (.cons (.int 1000) .nil)))) .nil))))) .nil)))) .nil) .nil) (.cons (.ret (.bin .sub (.call "_law_take" (.cons (.var 0) (.cons (.var 1) .nil))) (.bin .fdiv (.var 1) (.int 3)))) .nil))))
def b_law_row : Ss := (.cons (.ret (.blt .tuple (.cons (.lc 3 "_law_turn" (.rng1 (.var 1)) .no (.call "_law_time" (.cons (.var 0) (.cons (.var 2) .nil)))) .nil))) .nil)
def b_law_is_time : Ss := (.cons (.ite (.isN (.var 0)) (.cons (.ret (.bl true)) .nil) .nil) (.cons (.ret (.and (.blt .isi (.cons (.var 0) (.cons (.ty "int" "int") .nil))) (.and (.not (.blt .isi (.cons (.var 0) (.cons (.ty "bool" "bool") .nil)))) (.cmp .le (.blt .abs (.cons (.var 0) .nil)) (.bin .pow (.int 10) (.int 12)))))) .nil))
def t_law_1 : Ss := (.cons (.ite (.or (.cmp .ne (.blt .repr (.cons (.lst (.cons (.call "is_row" (.cons (.var 6) .nil)) (.cons (.callk "is_row" ["thing"] (.cons (.var 6) .nil)) .nil))) .nil)) (.blt .repr (.cons (.lst (.cons (.var 5) (.cons (.var 5) .nil))) .nil))) (.call "is_row" (.cons (.blt .list (.cons (.var 6) .nil)) .nil))) (.cons (.ret (.bl false)) .nil) .nil) (.cons (.ite (.cmp .ne (.call "is_row" (.cons (.var 4) .nil)) (.cmp .eq (.var 4) (.tup (.cons (.int 0) .nil)))) (.cons (.ret (.bl false)) .nil) .nil) .nil))
def t_law_2 : Ss := (.cons (.put 5 (.and (.chain .le .le (.int 1) (.blt .len (.cons (.var 6) .nil)) (.int 4)) (.cmp .eq (.lc 8 "_law_one" (.seq (.var 6)) (.yes (.not (.call "_law_is_time" (.cons (.var 8) .nil)))) (.var 8)) (.lst .nil)))) t_law_1)
def b_law : Ss := (.cons (.fr 2 (.rng1 (.bin .add (.int 6) (.blt .min (.cons (.blt .len (.cons (.var 0) .nil)) (.cons (.int 8) .nil))))) (.cons (.put 3 (.lst (.cons (.bl true) (.cons (.bl false) (.cons (.str "1") (.cons (.bin .add (.bin .pow (.int 10) (.int 12)) (.int 1)) (.cons (.bin .sub (.bin .sub (.int 0) (.bin .pow (.int 10) (.int 12))) (.int 1)) (.cons (.tup .nil) (.cons (.lst .nil) (.cons .dct0 (.cons (.tup (.cons (.int 0) .nil)) (.cons (.bin .pow (.int 10) (.int 12)) (.cons (.bin .sub (.int 0) (.bin .pow (.int 10) (.int 12))) (.cons (.int 0) (.cons .non .nil))))))))))))))) (.cons (.put 4 (.call "_law_pick" (.cons (.var 1) (.cons (.bin .add (.var 3) (.lst (.cons (.call "_law_time" (.cons (.var 1) (.cons (.int 20) .nil))) .nil))) .nil)))) (.cons (.put 5 (.blt .repr (.cons (.call "_law_is_time" (.cons (.var 4) .nil)) .nil))) (.cons (.ite (.or (.cmp .ne (.blt .repr (.cons (.call "is_time" (.cons (.var 4) .nil)) .nil)) (.var 5)) (.cmp .ne (.blt .repr (.cons (.callk "is_time" ["thing"] (.cons (.var 4) .nil)) .nil)) (.var 5))) (.cons (.ret (.bl false)) .nil) .nil) (.cons (.put 6 (.call "_law_row" (.cons (.var 1) (.cons (.call "_law_take" (.cons (.var 1) (.cons (.int 6) .nil))) (.cons (.int 20) .nil))))) (.cons (.ite (.and (.cmp .ne (.var 6) (.tup .nil)) (.cmp .eq (.call "_law_take" (.cons (.var 1) (.cons (.int 2) .nil))) (.int 0))) (.cons (.put 7 (.call "_law_take" (.cons (.var 1) (.cons (.blt .len (.cons (.var 6) .nil)) .nil)))) (.cons (.put 6 (.bin .add (.bin .add (.sl (.var 6) .no (.yes (.var 7))) (.tup (.cons (.var 4) .nil))) (.sl (.var 6) (.yes (.bin .add (.var 7) (.int 1))) .no))) .nil)) .nil) t_law_2))))))) (.cons (.ret (.bl true)) .nil))
theorem ite_by {c : Prop} {i : Decidable c} {a b : Prop} (x : c → a) (y : ¬ c → b) : @ite Prop c i a b := by
  by_cases h : c
  · rw [if_pos h]
    exact x h
  · rw [if_neg h]
    exact y h
theorem pow12 : CPowW 10 12 := ⟨by decide, by decide +kernel⟩
theorem isi_int {t : D} {P : D → Prop} (h : (tyNm t).isSome = true) (hP : P (.bl (match t with | .int _ => true | .bl _ => true | _ => false))) : fIsi [t, .ty "int"] P := by
  cases t <;> first
    | (simp [tyNm] at h; done)
    | (refine ⟨_, rfl, by decide, ?_⟩; simpa [isT] using hP)
theorem isi_bool {t : D} {P : D → Prop} (h : (tyNm t).isSome = true) (hP : P (.bl (match t with | .bl _ => true | _ => false))) : fIsi [t, .ty "bool"] P := by
  cases t <;> first
    | (simp [tyNm] at h; done)
    | (refine ⟨_, rfl, by decide, ?_⟩; simpa [isT] using hP)
theorem isi_tuple {t : D} {P : D → Prop} (h : (tyNm t).isSome = true) (hP : P (.bl (match t with | .tup _ => true | _ => false))) : fIsi [t, .ty "tuple"] P := by
  cases t <;> first
    | (simp [tyNm] at h; done)
    | (refine ⟨_, rfl, by decide, ?_⟩; simpa [isT] using hP)
theorem law_is_number {Γ : Gam} (ds : List D) (P : D → Prop) (EP : XD → Prop) (hs : spIsNumber ds P EP) : denSs Γ b_is_number (ends P EP) (startD ["thing", "low", "high"] ds) := by
  obtain ⟨t, lo, hi, rfl, h1, hP⟩ := hs
  unfold b_is_number
  array_get_dec
  refine isi_int h1 ⟨_, rfl, ?_⟩
  cases t with
  | int i =>
    refine iteT (isi_bool h1 ⟨_, rfl, iteT ⟨_, rfl, ?_⟩⟩)
    by_cases h : lo ≤ i
    · rw [if_pos (decide_eq_true h)]
      array_get_dec
      simpa [isNum, h] using hP
    · rw [if_neg (by simp [h])]
      simpa [isNum, h] using hP
  | bl b => exact iteT (isi_bool h1 ⟨_, rfl, iteF hP⟩)
  | _ => exact iteF hP
theorem law_is_time {Γ : Gam} (hc : Γ.con "MOST_TIME" = some (.int far)) (hf : Γ.fn "is_number" = some ((["thing", "low", "high"] : List Str), spIsNumber)) (ds : List D) (P : D → Prop) (EP : XD → Prop) (hs : spIsTime ds P EP) : denSs Γ b_is_time (ends P EP) (startD ["thing"] ds) := by
  obtain ⟨t, rfl, h1, hP⟩ := hs
  unfold b_is_time
  array_get_dec
  simp only [hc, hf]
  array_get_dec
  cases t with
  | non => exact hP
  | int i => 
    refine ⟨_, _, _, rfl, rfl, ?_⟩
    have e : (0 : Int) - far = -far := by omega
    rw [e]
    exact hP
  | _ => exact ⟨_, _, _, rfl, h1, hP⟩
theorem law_is_row {Γ : Gam} (hc : Γ.con "MOST_INPUTS" = some (.int 4)) (hf : Γ.fn "is_time" = some ((["thing"] : List Str), spIsTime)) (ds : List D) (P : D → Prop) (EP : XD → Prop) (hs : spIsRow ds P EP) : denSs Γ b_is_row (ends P EP) (startD ["thing", "time"] ds) := by
  obtain ⟨t, rfl, h1, h2, hP⟩ := hs
  unfold b_is_row
  array_get_dec
  simp only [hc, hf]
  array_get_dec
  refine isi_tuple h1 ⟨_, rfl, ?_⟩
  cases t with
  | tup xs =>
    obtain ⟨hl, hx⟩ := h2 xs rfl
    refine iteT ?_
    array_get_dec
    have e1 : (decide ((1 : Int) ≤ xs.length) && decide ((xs.length : Int) ≤ 4) && xs.all isTm) = isRw (.tup xs) := rfl
    by_cases a1 : (1 : Int) ≤ xs.length
    · rw [if_pos (decide_eq_true a1)]
      by_cases a2 : (xs.length : Int) ≤ 4
      · rw [if_pos (decide_eq_true a2)]
        refine ⟨Nat.le_trans hl (by decide), lcD_map (fun d => .bl (isTm d)) Nat.one_lt_two (fun d hd P' hP' => ⟨rfl, ?_⟩) ?_⟩
        · exact ⟨d, rfl, hx d hd, hP'⟩
        · refine ⟨_, bools_of, ?_⟩
          rw [all_id]
          rw [← e1] at hP
          simpa [a1, a2] using hP
      · rw [if_neg (by simp [a2])]
        rw [← e1] at hP
        simpa [a1, a2] using hP
    · rw [if_neg (by simp [a1])]
      rw [← e1] at hP
      simpa [a1] using hP
  | _ => exact iteF hP
theorem law_law_is_time {Γ : Gam} (ds : List D) (P : D → Prop) (EP : XD → Prop) (hs : spIsTime ds P EP) : denSs Γ b_law_is_time (ends P EP) (startD ["_law_item2"] ds) := by
  obtain ⟨t, rfl, h1, hP⟩ := hs
  unfold b_law_is_time
  array_get_dec
  cases t with
  | non => exact hP
  | int i =>
    refine iteF (isi_int h1 ⟨_, rfl, iteT (isi_bool h1 ⟨_, rfl, iteT ?_⟩)⟩)
    array_get_dec
    refine ⟨pow12, ?_⟩
    have e : decide ((if i < 0 then -i else i) ≤ (10 : Int) ^ Int.toNat 12) = isTm (.int i) := by
      show _ = (decide (-far ≤ i) && decide (i ≤ far))
      rw [← Bool.decide_and]
      refine decide_eq_decide.mpr ?_
      have e12 : (10 : Int) ^ Int.toNat 12 = far := rfl
      rw [e12]
      split <;> omega
    rw [e]
    exact hP
  | bl b => exact iteF (isi_int h1 ⟨_, rfl, iteT (isi_bool h1 ⟨_, rfl, iteF hP⟩)⟩)
  | _ => exact iteF (isi_int h1 ⟨_, rfl, iteF hP⟩)
theorem law_law_time {Γ : Gam} (ht : Γ.fn "_law_take" = some ((["_law_state", "_law_bound"] : List Str), spTake)) (hp : Γ.fn "_law_pick" = some ((["_law_state", "_law_some"] : List Str), spPick)) (ds : List D) (P : D → Prop) (EP : XD → Prop) (hs : spTime ds P EP) :
    denSs Γ b_law_time (ends P EP) (startD ["_law_state", "_law_most", "_law_way"] ds) := by
  obtain ⟨m, rfl, m0, m1, hP⟩ := hs
  have hi : ∀ i : Int, -far ≤ i → i ≤ far → P (.int i) := fun i a b => hP _ (.inr ⟨i, rfl, a, b⟩)
  have hfar : far = 1000000000000 := rfl
  unfold b_law_time
  array_get_dec
  simp only [ht, hp]
  array_get_dec
  refine ⟨8, rfl, by decide, by decide, fun n n0 n1 => ?_⟩
  array_get_dec
  refine ite_by (fun _ => hP _ (.inl rfl)) fun _ => ite_by (fun _ => ?_) fun _ => ?_
  · refine ⟨pow12, pow12, pow12, _, rfl, by decide, by decide, fun x x0 x1 => ?_⟩
    refine ⟨1000, rfl, by decide, by decide, fun y y0 y1 => ?_⟩
    array_get_dec
    refine ⟨by decide, _, rfl, by simp, by simp, fun z hz => ?_⟩
    have e12 : (10 : Int) ^ Int.toNat 12 = far := rfl
    rw [e12] at hz x1
    simp only [List.mem_cons, List.not_mem_nil, or_false] at hz
    rcases hz with rfl | rfl | rfl | rfl <;> exact hi _ (by omega) (by omega)
  · refine ⟨m, rfl, m0, by omega, fun x x0 x1 => ⟨⟨by decide, by decide +kernel⟩, ?_⟩⟩
    array_get_dec
    exact hi _ (by omega) (by omega)
theorem law_law_row {Γ : Gam} (ht : Γ.fn "_law_time" = some ((["_law_state", "_law_most"] : List Str), spTime)) (ds : List D) (P : D → Prop) (EP : XD → Prop) (hs : spRow ds P EP) :
    denSs Γ b_law_row (ends P EP) (startD ["_law_state", "_law_count", "_law_most", "_law_turn"] ds) := by
  obtain ⟨c, m, rfl, c1, m0, m1, hP⟩ := hs
  unfold b_law_row
  array_get_dec
  simp only [ht]
  refine ⟨c, rfl, by omega, by omega, ?_⟩
  have hl : (rngD 0 c).length = c := by simp [rngD]
  refine ⟨by rw [hl]; exact Nat.le_trans (Nat.le_of_lt c1) (by decide), lcD_rel tmV (Nat.lt_succ_self 3) (fun d hd P' hP' => ⟨rfl, m, rfl, m0, m1, hP'⟩) fun ys hys hR => ?_⟩
  exact hP ys (hys.trans hl) hR
def rb (b : Bool) : Str := (toPy (.bl b)).shown
/-- what the law tries as a time -/
def itOk (x : D) : Prop := (∃ b, x = .bl b) ∨ (∃ i, x = .int i) ∨ x = .str "1" ∨ x = .non ∨ x = .tup [] ∨ x = .tup [.int 0] ∨ x = .lst [] ∨ x = .dct []
theorem tmV.ok {x : D} (h : tmV x) : itOk x := by
  rcases h with rfl | ⟨i, rfl, _⟩
  · exact .inr (.inr (.inr (.inl rfl)))
  · exact .inr (.inl ⟨i, rfl⟩)
theorem itOk.ty {x : D} (h : itOk x) : (tyNm x).isSome = true := by
  rcases h with ⟨b, rfl⟩ | ⟨i, rfl⟩ | rfl | rfl | rfl | rfl | rfl | rfl <;> rfl
theorem itOk.items {x : D} (h : itOk x) : ∀ xs, x = .tup xs → xs.length ≤ 1000 ∧ ∀ y ∈ xs, (tyNm y).isSome = true := by
  rcases h with ⟨b, rfl⟩ | ⟨i, rfl⟩ | rfl | rfl | rfl | rfl | rfl | rfl <;> intro xs e <;> cases e <;> simp [tyNm]
theorem rep_bl {b : Bool} {P : D → Prop} (h : P (.str (rb b))) : fRepr [.bl b] P := by
  cases b <;> exact ⟨rfl, by decide +kernel, by decide +kernel, h⟩
theorem rep_two {b : Bool} {P : D → Prop} (h : P (.str (toPy (.lst [.bl b, .bl b])).shown)) : fRepr [.lst [.bl b, .bl b]] P := by
  cases b <;> exact ⟨rfl, by decide +kernel, by decide +kernel, h⟩
theorem law_law {Γ : Gam} (h1 : Γ.fn "_law_take" = some ((["_law_state", "_law_bound"] : List Str), spTake)) (h2 : Γ.fn "_law_pick" = some ((["_law_state", "_law_some"] : List Str), spPick))
    (h3 : Γ.fn "_law_time" = some ((["_law_state", "_law_most"] : List Str), spTime)) (h4 : Γ.fn "_law_row" = some ((["_law_state", "_law_count", "_law_most"] : List Str), spRow)) (h5 : Γ.fn "_law_is_time" = some ((["_law_item2"] : List Str), spIsTime))
    (h6 : Γ.fn "is_time" = some ((["thing"] : List Str), spIsTime)) (h7 : Γ.fn "is_row" = some ((["thing"] : List Str), spIsRow)) (k1 : (("is_time" : Str), (["thing"] : List Str)) ∈ Γ.kws) (k2 : (("is_row" : Str), (["thing"] : List Str)) ∈ Γ.kws)
    (ns : List Int) (hn : ns.length ≤ 63) (P : D → Prop) (EP : XD → Prop) (hP : P (.bl true)) : denSs Γ b_law (ends P EP) [some (false, .scr ns), some (false, .hnd 0), none, none, none, none, none, none, none] := by
  unfold b_law
  array_get_dec
  refine ⟨_, rfl, by split <;> omega, by split <;> omega, ?_⟩
  refine ⟨?_, for_inv (fun env => ∃ x2 x3 x4 x5 x6 x7 x8, env = [some (false, .scr ns), some (false, .hnd 0), x2, x3, x4, x5, x6, x7, x8]) ⟨_, _, _, _, _, _, _, rfl⟩ ?_ ?_⟩
  · have hr : (rngD 0 (6 + (if (8 : Int) < (ns.length : Int) then 8 else (ns.length : Int)))).length ≤ 100 := by
      simp only [rngD, List.length_map, List.length_range]
      split <;> omega
    exact Nat.le_trans hr (by decide)
  · rintro d hd _ N ⟨x2, x3, x4, x5, x6, x7, x8, rfl⟩ hN
    array_get_dec
    simp only [h1, h2, h3, h4, h5, h6, h7]
    array_get_dec
    refine ⟨pow12, pow12, by decide, by decide, by decide, pow12, pow12, by decide, _, rfl, by decide, by decide, fun t ht => ?_⟩
    refine ⟨by decide, by decide, _, rfl, by simp, by simp, fun x hx => ?_⟩
    have hx : itOk x := by
      simp only [List.mem_cons, List.not_mem_nil, or_false] at hx
      rcases hx with rfl | rfl | rfl | rfl | rfl | rfl | rfl | rfl | rfl | rfl | rfl | rfl | rfl | rfl
      · exact .inl ⟨_, rfl⟩
      · exact .inl ⟨_, rfl⟩
      · exact .inr (.inr (.inl rfl))
      · exact .inr (.inl ⟨_, rfl⟩)
      · exact .inr (.inl ⟨_, rfl⟩)
      · exact .inr (.inr (.inr (.inr (.inl rfl))))
      · exact .inr (.inr (.inr (.inr (.inr (.inr (.inl rfl))))))
      · exact .inr (.inr (.inr (.inr (.inr (.inr (.inr rfl))))))
      · exact .inr (.inr (.inr (.inr (.inr (.inl rfl)))))
      · exact .inr (.inl ⟨_, rfl⟩)
      · exact .inr (.inl ⟨_, rfl⟩)
      · exact .inr (.inl ⟨_, rfl⟩)
      · exact .inr (.inr (.inr (.inl rfl)))
      · exact ht.ok
    refine ⟨x, rfl, hx.ty, rep_bl ⟨x, rfl, hx.ty, rep_bl ?_⟩⟩
    refine ⟨rfl, rfl, ite_by (fun w => absurd w (by simp [deq])) fun _ => ⟨k1, x, rfl, hx.ty, rep_bl ⟨rfl, rfl, ite_by (fun w => absurd w (by simp [deq])) fun _ => ?_⟩⟩⟩
    refine ⟨_, rfl, by decide, by decide, fun c c0 c1 => ⟨c.toNat, 20, by rw [Int.toNat_of_nonneg c0], by omega, by decide, by decide, fun xs hl hxs => ?_⟩⟩
    have tail : ∀ (ys : List D) (x3 x7 : Option (Bool × D)) (bk : DEnv → Prop), ys.length ≤ 20 → (∀ y ∈ ys, itOk y) → denSs Γ t_law_2 { nx := N, rt := P, bk := bk, ct := N, xe := fun x _ => EP x } [some (false, .scr ns), some (false, .hnd 0), some (false, d), x3, some (false, x), some (false, .str (rb (isTm x))), some (false, .tup ys), x7, x8] := by
      intro ys x3 x7 bk hy1 hy2
      have fin : ∀ (e : Bool) (bk' : DEnv → Prop), e = isRw (.tup ys) → denSs Γ t_law_1 { nx := N, rt := P, bk := bk', ct := N, xe := fun x _ => EP x } [some (false, .scr ns), some (false, .hnd 0), some (false, d), x3, some (false, x), some (false, .bl e), some (false, .tup ys), x7, x8] := by
        intro e bk' he
        have ty : ∀ xs, D.tup ys = .tup xs → xs.length ≤ 1000 ∧ ∀ y ∈ xs, (tyNm y).isSome = true := fun xs z => by
          cases z
          exact ⟨by omega, fun y hy => (hy2 y hy).ty⟩
        unfold t_law_1
        array_get_dec
        simp only [h5, h7]
        array_get_dec
        refine ⟨_, rfl, rfl, ty, k2, .tup ys, rfl, rfl, ty, by decide, ?_⟩
        rw [← he]
        refine rep_two ?_
        refine ⟨by decide, ?_⟩
        refine rep_two ?_
        refine ⟨rfl, rfl, ite_by (fun w => absurd w (by simp [deq])) fun _ => ?_⟩
        have no : ∀ xs, D.lst ys = .tup xs → xs.length ≤ 1000 ∧ ∀ y ∈ xs, (tyNm y).isSome = true := fun xs z => nomatch z
        refine ⟨_, rfl, rfl, no, false, rfl, iteF ⟨_, rfl, hx.ty, hx.items, by decide, ?_⟩⟩
        rcases hx with ⟨b, rfl⟩ | ⟨i, rfl⟩ | rfl | rfl | rfl | rfl | rfl | rfl
        all_goals exact ⟨rfl, rfl, iteF (hN _ ⟨_, _, _, _, _, _, _, rfl⟩)⟩
      unfold t_law_2
      array_get_dec
      simp only [h5, h7]
      array_get_dec
      have e1 : (decide ((1 : Int) ≤ ys.length) && decide ((ys.length : Int) ≤ 4) && ys.all isTm) = isRw (.tup ys) := rfl
      have big : 100 ≤ sizeLine := by decide
      have e2 : ∀ zs : List D, deqL (zs.filter fun y => !isTm y) [] = zs.all isTm := fun zs => by
        induction zs with
        | nil => rfl
        | cons z r ih =>
          cases q : isTm z with
          | true => rw [List.filter_cons_of_neg (by simp [q]), List.all_cons, ih, q]; rfl
          | false => rw [List.filter_cons_of_pos (by simp [q]), List.all_cons, q]; rfl
      refine ite_by (fun w1 => ite_by (fun w2 => ⟨by omega, lcD_sel (fun y => !isTm y) id (by simp) (fun y hy Q hQ => ⟨rfl, y, rfl, (hy2 y hy).ty, _, rfl, hQ⟩) (fun y hy Q hQ => hQ) ?_⟩) fun w2 => ?_) fun w1 => ?_
      · rw [List.map_id, e2]
        exact ⟨by omega, fin _ _ (by rw [← e1, w1, w2]; rfl)⟩
      · exact fin _ _ (by rw [← e1, w1, Bool.eq_false_iff.mpr w2]; rfl)
      · exact fin _ _ (by rw [← e1, Bool.eq_false_iff.mpr w1]; rfl)
    have lx : xs.length ≤ 6 := by omega
    array_get_dec
    refine ⟨by decide, neA_dat (List.all_eq_true.mpr fun y hy => by rcases hxs y hy with rfl | ⟨i, rfl, _⟩ <;> rfl), rfl, ite_by (fun w => ?_) fun _ => tail _ _ _ _ (by omega) fun y hy => (hxs y hy).ok⟩
    have l0 : 0 < xs.length := by
      cases xs with
      | nil => exact absurd w (by simp [deqL])
      | cons _ _ => simp
    refine ⟨2, rfl, by decide, by decide, fun z z0 z1 => ⟨rfl, ite_by (fun _ => ?_) fun _ => tail _ _ _ _ (by omega) fun y hy => (hxs y hy).ok⟩⟩
    refine ⟨_, rfl, by omega, by omega, fun a a0 a1 => ⟨a, rfl, ?_⟩⟩
    array_get_dec
    have cl : ∀ lo hi, (cutD xs lo hi).length ≤ 6 := fun lo hi => by
      unfold cutD
      rw [List.length_take, List.length_drop]
      omega
    have cm : ∀ lo hi, ∀ y ∈ cutD xs lo hi, itOk y := fun lo hi y hy => (hxs y (List.mem_of_mem_drop (List.mem_of_mem_take hy))).ok
    have c1 := cl none (some a)
    have c2 := cl (some (a + 1)) none
    have big : 100 ≤ sizeLine := by decide
    refine ⟨by decide, by omega, by simp only [List.length_append, List.length_cons, List.length_nil]; omega, tail _ _ _ _ (by simp only [List.length_append, List.length_cons, List.length_nil]; omega) fun y hy => ?_⟩
    simp only [List.mem_append, List.mem_cons, List.not_mem_nil, or_false] at hy
    rcases hy with (hy | rfl) | hy
    · exact cm _ _ y hy
    · exact hx
    · exact cm _ _ y hy
  · rintro _ ⟨x2, x3, x4, x5, x6, x7, x8, rfl⟩
    array_get_dec
    exact hP
def mA1 : M := .lc 2 "_law_cell" (.seq (.var 0)) (.yes (.cmp .ge (.var 2) (.bin .pow (.int 10) (.int 18)))) (.bin .sub (.var 2) (.bin .pow (.int 10) (.int 18)))
def mA2 : M := .blt .list (.cons (.var 0) .nil)
theorem pow18 : CPowW 10 18 := ⟨by decide, by decide +kernel⟩
theorem lawA_b1 (ns : List Int) (DE : DEnds) (hn : ns.length ≤ 63) (hD : ∀ great : List Int, DE.nx [some (false, .scr ns), some (true, .lst (great.map D.int)), none]) : denSt noGam (.own 1 mA1) DE [some (false, .scr ns), none, none] := by
  unfold mA1
  array_get_dec
  let g : D → Bool := fun d => match d with | .int i => decide ((10 : Int) ^ Int.toNat 18 ≤ i) | _ => false
  let f : D → D := fun d => match d with | .int i => .int (i - 10 ^ Int.toNat 18) | d => d
  have e : ((ns.map D.int).filter g).map f = ((ns.filter fun i => decide ((10 : Int) ^ Int.toNat 18 ≤ i)).map fun i => i - 10 ^ Int.toNat 18).map D.int := by
    rw [List.filter_map, List.map_map, List.map_map]
    rfl
  refine ⟨by simp only [List.length_map]; exact Nat.le_trans hn (by decide), lcD_sel g f (by simp) (fun d hd P' h => ?_) (fun d hd P' h => ?_) ?_⟩
  · obtain ⟨i, _, rfl⟩ := List.mem_map.mp hd
    array_get_dec
    exact ⟨pow18, h⟩
  · obtain ⟨i, _, rfl⟩ := List.mem_map.mp hd
    array_get_dec
    exact ⟨pow18, h⟩
  · rw [e]
    exact hD _
theorem lawA_b2 (ns great : List Int) (Pd : D → Prop) (EP : XD → Prop) (hn : ns.length ≤ 63) (h : Pd (.lst ((id ns).map D.int))) : den noGam mA2 [some (false, .scr ns), some (true, .lst (great.map D.int)), none] Pd EP := by
  unfold mA2
  array_get_dec
  exact h
end DL

/-! DA2b: the beginning of the second family. -/
namespace DL
open PySem PySem.Spec PyProof.Rows L2
local macro_rules
  | `(tactic| array_get_dec) => `(tactic| simp only [denSs, denSt, den, denT, denL, denC, denO, denS, sSeq, sSet, sNew, sExpr, sRet, sRetN, sSkip, sBrk, sCont, sIf, sFor, dFlat, dSeq, dRng1, dRng2, dOp, dOp1, dC, dVar, dCons, dNil, dCall, dTup, dLst, dLc, dAnd, dOr, dNot, dIf,
    dTest, dTru, dNotT, dAndT, dOrT, dG, dSl, dPart, dNoP, dChain, al, alL, alS, dis, dis1, ends, exe, startD, List.set, List.map_cons, List.map_nil, List.length_cons, List.length_nil, List.replicate, List.cons_append, List.nil_append, List.append_nil, List.getElem?_cons_zero, List.getElem?_cons_succ,
    bopF, copF, bltF, fLe, fLt, fGt, fGe, fLen, fAbs, fMin2, fMax2, fSl, ite_true, ite_false, Bool.false_eq_true, fI, fAdd, fEq, fNe, neA_nil, eqk, dat, deq, fInt, truth, Nat.reduceAdd, Nat.reduceSub, Nat.reduceLT, Nat.reduceLeDiff, true_and, and_true, ne_eq, Nat.reduceEqDiff, not_false_eq_true, Nat.zero_ne_one, Nat.succ_ne_self, reduceCtorEq, D.bl.injEq, D.int.injEq, Option.some.injEq, exists_eq_left', exists_eq_left, Bool.and_self])

def mB1 : M := .lc 2 "_law_cell" (.seq (.var 0)) (.yes (.cmp .ge (.blt .abs (.cons (.var 2) .nil)) (.bin .pow (.int 10) (.int 18)))) (.bin .sub (.blt .abs (.cons (.var 2) .nil)) (.bin .pow (.int 10) (.int 18)))
def mB2 : M := .lc 2 "_law_cell" (.seq (.var 0)) .no (.blt .abs (.cons (.var 2) .nil))
def absI (i : Int) : Int := if i < 0 then -i else i
def cellsB (ns : List Int) : List Int := ns.map absI
theorem lawB_b1 (ns : List Int) (DE : DEnds) (hn : ns.length ≤ 63) (hD : ∀ great : List Int, DE.nx [some (false, .scr ns), some (true, .lst (great.map D.int)), none]) : denSt noGam (.own 1 mB1) DE [some (false, .scr ns), none, none] := by
  unfold mB1
  array_get_dec
  let g : D → Bool := fun d => match d with | .int i => decide ((10 : Int) ^ Int.toNat 18 ≤ absI i) | _ => false
  let f : D → D := fun d => match d with | .int i => .int (absI i - 10 ^ Int.toNat 18) | d => d
  have e : ((ns.map D.int).filter g).map f = ((ns.filter fun i => decide ((10 : Int) ^ Int.toNat 18 ≤ absI i)).map fun i => absI i - 10 ^ Int.toNat 18).map D.int := by
    rw [List.filter_map, List.map_map, List.map_map]
    rfl
  refine ⟨by simp only [List.length_map]; exact Nat.le_trans hn (by decide), lcD_sel g f (by simp) (fun d hd P' h => ?_) (fun d hd P' h => ?_) ?_⟩
  · obtain ⟨i, _, rfl⟩ := List.mem_map.mp hd
    array_get_dec
    exact ⟨pow18, h⟩
  · obtain ⟨i, _, rfl⟩ := List.mem_map.mp hd
    array_get_dec
    exact ⟨pow18, h⟩
  · rw [e]
    exact hD _
theorem lawB_b2 (ns great : List Int) (Pd : D → Prop) (EP : XD → Prop) (hn : ns.length ≤ 63) (h : Pd (.lst ((cellsB ns).map D.int))) : den noGam mB2 [some (false, .scr ns), some (true, .lst (great.map D.int)), none] Pd EP := by
  unfold mB2
  array_get_dec
  refine ⟨by simp only [List.length_map]; exact Nat.le_trans hn (by decide), lcD_map (fun d => match d with | .int i => .int (absI i) | d => d) (by simp) (fun d hd P' h => ?_) ?_⟩
  · obtain ⟨i, _, rfl⟩ := List.mem_map.mp hd
    array_get_dec
    exact h
  · have e : (ns.map D.int).map (fun d => match d with | .int i => D.int (absI i) | d => d) = (cellsB ns).map D.int := by
      unfold cellsB
      rw [List.map_map, List.map_map]
      rfl
    rw [e]
    exact h
theorem lawB_pick {Γ : Gam} (hm : Γ.fn "_law_take" = some ((["_law_state", "_law_size"] : List Str), spTake)) (ds : List D) (P : D → Prop) (EP : XD → Prop) (hs : spPick ds P EP) : denSs Γ bA_pick (ends P EP) (startD ["_law_state", "_law_some"] ds) := by
  obtain ⟨xs, rfl, x0, x1, hP⟩ := hs
  have hl : 0 < xs.length := List.length_pos_iff.mpr x0
  unfold bA_pick
  array_get_dec
  simp only [hm]
  array_get_dec
  refine ⟨_, rfl, by omega, by omega, fun n n0 n1 => ?_⟩
  obtain ⟨x, e, hx⟩ := atI_mem n0 n1
  exact ⟨x, e, hP x hx⟩
end DL

/-! DP1: how long a value's text is at most; small things for the plain laws. -/
namespace DL
open PySem PySem.Spec PyProof.Rows L2
mutual
/-- a bound of the text's length -/
def shw : D → Nat
  | .non => 4
  | .bl _ => 5
  | .int i => i.natAbs.log2 + 3
  | .str x => (reprText x).length
  | .tup xs => shwL xs + 4
  | .lst xs => shwL xs + 4
  | _ => 0
def shwL : List D → Nat
  | [] => 0
  | x :: r => shw x + 2 + shwL r
end
mutual
def sOk : D → Bool
  | .int i => decide (i.natAbs.log2 < 1920)
  | .tup xs => sOkL xs
  | .lst xs => sOkL xs
  | _ => true
def sOkL : List D → Bool
  | [] => true
  | x :: r => sOk x && sOkL r
end
theorem textFrom_le : ∀ (ts : List Str) (k : Nat) (acc : Str), (textFrom k acc ts).length ≤ acc.length + piled ts
  | [], k, acc => by simp [textFrom, piled]
  | t :: r, k, acc => by
    have e : (acc ++ (if k > 0 then ", " else "" : String) ++ t).length = acc.length + (if k > 0 then 2 else 0) + t.length := by
      rw [strLen_append, strLen_append]
      split <;> rfl
    have h := textFrom_le r (k + 1) (acc ++ (if k > 0 then ", " else "" : String) ++ t)
    show (textFrom (k + 1) (acc ++ (if k > 0 then ", " else "" : String) ++ t) r).length ≤ _
    rw [e] at h
    refine Nat.le_trans h ?_
    rw [piled_cons]
    split <;> omega
mutual
theorem shown_le : ∀ (n : Nat) (d : D), dat n d = true → (toPy d).shown.length ≤ shw d ∧ (sOk d = true → (toPy d).showable = true)
  | n, .non, _ => ⟨by show ("None" : Str).length ≤ 4; decide, fun _ => rfl⟩
  | n, .bl b, _ => ⟨by cases b <;> decide, fun _ => rfl⟩
  | n, .int i, _ => ⟨by
    show (Str.ofString (toString i)).length ≤ i.natAbs.log2 + 3
    rw [PySem.ofString_length]
    have := int_text_length_le (a := i) (k := i.natAbs.log2 + 1) (by omega) (by omega)
    omega, fun h => h⟩
  | n, .str x, _ => ⟨Nat.le_refl _, fun _ => rfl⟩
  | 0, .tup xs, h => by simp [dat] at h
  | 0, .lst xs, h => by simp [dat] at h
  | n, .dct _, h => by cases n <;> simp [dat] at h
  | n, .obj _ _, h => by cases n <;> simp [dat] at h
  | n, .hnd _, h => by cases n <;> simp [dat] at h
  | n, .scr _, h => by cases n <;> simp [dat] at h
  | n, .ty _, h => by cases n <;> simp [dat] at h
  | n, .gl _, h => by cases n <;> simp [dat] at h
  | n, .exc _ _, h => by cases n <;> simp [dat] at h
  | n, .adr _, h => by cases n <;> simp [dat] at h
  | n, .ldc _, h => by cases n <;> simp [dat] at h
  | n + 1, .tup xs, h => by
    have h' : xs.all (dat n) = true := by simpa only [dat] using h
    obtain ⟨a, b⟩ := shownL_le n xs h'
    refine ⟨?_, b⟩
    show (("(" : Str) ++ Str.join ", " (PyData.shownAll (toPyL xs)) ++ (if (PyData.shownAll (toPyL xs)).length == 1 then ",)" else ")" : String)).length ≤ shwL xs + 4
    have j : (Str.join ", " (PyData.shownAll (toPyL xs))).length ≤ piled (PyData.shownAll (toPyL xs)) := by
      by_cases e : PyData.shownAll (toPyL xs) = []
      · rw [e]
        decide
      · have := join_length_add _ e
        omega
    have e1 : ("(" : Str).length = 1 := rfl
    have e2 : (Str.ofString (if (PyData.shownAll (toPyL xs)).length == 1 then ",)" else ")")).length ≤ 2 := by split <;> decide
    rw [strLen_append, strLen_append]
    omega
  | n + 1, .lst xs, h => by
    have h' : xs.all (dat n) = true := by simpa only [dat] using h
    obtain ⟨a, b⟩ := shownL_le n xs h'
    refine ⟨?_, b⟩
    show (textFrom 0 "[" (PyData.shownAll (toPyL xs)) ++ "]").length ≤ shwL xs + 4
    rw [strLen_append]
    have := textFrom_le (PyData.shownAll (toPyL xs)) 0 "["
    have e1 : ("[" : Str).length = 1 := rfl
    have e2 : ("]" : Str).length = 1 := rfl
    omega
theorem shownL_le : ∀ (n : Nat) (xs : List D), xs.all (dat n) = true → piled (PyData.shownAll (toPyL xs)) ≤ shwL xs ∧ (sOkL xs = true → PyData.showableAll (toPyL xs) = true)
  | n, [], _ => ⟨Nat.le_refl _, fun _ => rfl⟩
  | n, x :: r, h => by
    simp only [List.all_cons, Bool.and_eq_true] at h
    obtain ⟨a, b⟩ := shown_le n x h.1
    obtain ⟨c, d⟩ := shownL_le n r h.2
    refine ⟨?_, fun z => ?_⟩
    · simp only [toPyL, PyData.shownAll, shwL]
      rw [piled_cons]
      omega
    · simp only [sOkL, Bool.and_eq_true] at z
      simp only [toPyL, PyData.showableAll, b z.1, d z.2, Bool.and_self]
end
theorem repr_of0 {d : D} {P : D → Prop} (h1 : dat DD d = true) (h2 : sOk d = true) (h3 : shw d ≤ sizeLine) (h : P (.str (toPy d).shown)) : fRepr0 [d] P :=
  ⟨h1, (shown_le DD d h1).2 h2, Nat.le_trans (shown_le DD d h1).1 h3, h⟩
theorem repr_of {d : D} {P : D → Prop} (h1 : dat DD d = true) (h2 : sOk d = true) (h3 : shw d ≤ sizeLine) (h : P (.str (toPy d).shown)) : fRepr [d] P := by
  cases d <;> first
    | exact repr_of0 h1 h2 h3 h
    | (simp [dat] at h1; done)
end DL

/-! DH: what a law's head tells: own exceptions, the tables of the defs that make lambdas. -/
namespace DL
open PySem PySem.Spec PyProof.Rows L2
def ownB (K : PySem.W.Frag) (x : Str) : Bool :=
  PySem.W.keepIn K (.ref (He.ga K x)) && decide (PySem.W.subIn K (.ref (He.ga K x)) (.type "BaseException") = some true) && decide (PySem.W.typeIn K (.ref (He.ga K x)) = some (.type "type")) &&
  He.eqO (PySem.W.findIn K (.ref (He.ga K x)) "__getattribute__") (some (some (.builtin "BaseException.__getattribute__"))) && He.eqO (PySem.W.findIn K (.ref (He.ga K x)) "__getattr__") (some none) && PySem.W.hasDictIn K (He.ga K x) &&
  He.eqO (PySem.W.findIn K (.ref (He.ga K x)) "__class__") (some (some (.builtin "object.__class__"))) && He.eqO (PySem.W.specialIn K (.builtin "object.__class__") "__get__") (some (some (.builtin "getset_descriptor.__get__"))) &&
  decide (PySem.W.takesIn K (.builtin "object.__class__") = some true) && decide (PySem.W.mroIn K (He.ga K x) (.type "object") = some true)
def famB (sub : Str → Str → Bool) (xs ns : List Str) (tf : List He.Defn) (K : PySem.W.Frag) : Bool :=
  xs.all (fun x => ownB K x && xs.all fun y => decide (PySem.W.kitOne K (.ref (He.ga K x)) (.ref (He.ga K y)) = some (sub x y)) && decide (PySem.W.exmOne K (.ref (He.ga K x)) (.ref (He.ga K y)) = some (sub x y))) &&
  ns.all (fun x => PySem.W.excIn K (He.ga K x) He.veBase "ValueError.__new__") && decide ((tf.map fun p => (He.cT K p).2).Nodup)
theorem own_ok {K : PySem.W.Frag} {mg : Str → Option Value} {x : Str} (h : ownB K x = true) (g : mg x = some (.ref (He.ga K x))) : OwnExc K mg x (He.ga K x) := by
  unfold ownB at h
  simp only [Bool.and_eq_true, decide_eq_true_eq] at h
  obtain ⟨⟨⟨⟨⟨⟨⟨⟨⟨h1, h2⟩, h3⟩, h4⟩, h5⟩, h6⟩, h7⟩, h8⟩, h9⟩, h10⟩ := h
  exact ⟨g, h1, h2, h3, ⟨He.eqO_ok h4, He.eqO_ok h5, h2, h6, He.eqO_ok h7, He.eqO_ok h8, h9, h10⟩⟩
theorem ca_ok {G : Ctx} {x : Str} {a : Addr} (g : G.mg x = some (.ref a)) : G.ca x = a := by
  unfold Ctx.ca
  rw [g]
structure Fam (K : PySem.W.Frag) (sub : Str → Str → Bool) (xs ns : List Str) (tf : List He.Defn) : Prop where
  own : ∀ x ∈ xs, ownB K x = true
  two : ∀ x ∈ xs, ∀ y ∈ xs, PySem.W.kitOne K (.ref (He.ga K x)) (.ref (He.ga K y)) = some (sub x y) ∧ PySem.W.exmOne K (.ref (He.ga K x)) (.ref (He.ga K y)) = some (sub x y)
  ini : ∀ x ∈ ns, NoInit K (He.ga K x)
  nd : (tf.map fun p => (He.cT K p).2).Nodup
theorem fam_ok {K : PySem.W.Frag} {sub : Str → Str → Bool} {xs ns : List Str} {tf : List He.Defn} (h : famB sub xs ns tf K = true) : Fam K sub xs ns tf := by
  unfold famB at h
  simp only [Bool.and_eq_true, decide_eq_true_eq, List.all_eq_true] at h
  exact ⟨fun x hx => (h.1.1 x hx).1, fun x hx y hy => (h.1.1 x hx).2 y hy, fun x hx => h.1.2 x hx, h.2⟩
/-- the tables, with the lambdas' names -/
def tabQ (K : PySem.W.Frag) (tf : List He.Defn) : List (Addr × Str) := tf.map fun p => ((He.cT K p).2, lamQ0 p.1)
theorem nodup_one {α β : Type} {f : α → β} {g : α → Str} : ∀ {l : List α}, (l.map f).Nodup → ∀ x ∈ l, ∀ p ∈ l.map (fun y => (f y, g y)), p.1 = f x → p.2 = g x
  | [], _, _, hx, _, _, _ => nomatch hx
  | y :: r, nd, x, hx, p, hp, e => by
    rw [List.map_cons, List.nodup_cons] at nd
    rw [List.map_cons] at hp
    rcases List.mem_cons.mp hx with rfl | hx
    · rcases List.mem_cons.mp hp with rfl | hp
      · rfl
      · obtain ⟨z, hz, rfl⟩ := List.mem_map.mp hp
        have e : f z = f x := e
        exact absurd (e ▸ List.mem_map_of_mem hz) nd.1
    · rcases List.mem_cons.mp hp with rfl | hp
      · have e : f y = f x := e
        exact absurd (e ▸ List.mem_map_of_mem hx) nd.1
      · exact nodup_one nd.2 x hx p hp e
section
variable {P : Program} {w : World} {K : PySem.W.Frag} {mg : Str → Option Value} {base : Heap}
theorem code_of {x : Str} {st : Stmt} {fd : FuncData} (F : FD K x st (He.fAd K (x, none)) fd) : fd.code = .ref (He.cT K (x, none)).1 := by
  obtain ⟨oc, od, dV, kV, doc, pm, an, cdv, ct, osl, rfl, lk, hcd, _⟩ := F.ex
  obtain ⟨c, rfl⟩ := He.codeIn_ref hcd
  have e := He.codeOf_eq lk rfl
  show Value.ref c = .ref (He.codeOf K (x, none))
  rw [e]
/-- a def's lambdas may be handed to f -/
theorem lam_ok {a g c : Addr} {kg kc kl kt : Str} {cells : List Int} {top : Nat} {k n : Nat} {fa : Addr} {x f : Str} {sp : ThSp} {st : Stmt} {fd : FuncData} {tf : List He.Defn} (F : FD K x st (He.fAd K (x, none)) fd) (mem : (x, none) ∈ tf) (nd : (tf.map fun p => (He.cT K p).2).Nodup)
    (TB : ∀ p ∈ tf.map (He.cT K), LamX.TabB base mg p.1 p.2) (hg : mg f = some (.ref fa)) (kp : PySem.W.keepIn K (.ref fa) = true) (t : Tell P w K mg base (stG P w K mg a g c kg kc kl kt cells top (tabQ K tf)) k n f fa sp) : LamF P w K mg base (stG P w K mg a g c kg kc kl kt cells top (tabQ K tf)) k n fd.code (lamQ0 x) f sp := by
  rw [code_of F]
  exact lamF_of (TB _ (List.mem_map_of_mem mem)) (List.mem_map_of_mem (f := fun p : He.Defn => ((He.cT K p).2, lamQ0 p.1)) mem) (nodup_one (f := fun p : He.Defn => (He.cT K p).2) (g := fun p : He.Defn => lamQ0 p.1) nd _ mem) hg kp t
theorem kwN {x : Str} {st : Stmt} {f : Addr} {fd : FuncData} {ps ks0 : List Str} (F : FD K x st f fd) (h : ∀ (kV doc pm : Value) (an : Option Addr) (cdv ct : Value) (us : List Value), us.length = ks0.length → bindArgs (PySem.W.fnOf x x (defArgs st) (defBody st) (defScope st) .none kV doc pm an cdv ct) ⟨[], ks0.zip us⟩ = pure (ps.zip (ps.map fun p => ((ks0.zip us).lookup p).getD .none)))
    (hp : ∀ p ∈ ps, p ∈ ks0) (ks : List Str) (hk : ks = ks0) (s : Shared) (us : List Value) (KX : K.In s.heap) (hl : us.length = ks.length) : BindsTo s fd ⟨[], ks.zip us⟩ (ps.zip (ps.map fun p => ((ks.zip us).lookup p).getD .none)) ∧ ∀ p ∈ ps, p ∈ ks := by
  subst hk
  obtain ⟨oc, od, dV, kV, doc, pm, an, cdv, ct, osl, rfl, lk, hcd, hD, hK⟩ := F.ex
  rcases hD with ⟨_, rfl⟩ | ⟨e, _⟩
  · exact ⟨.of_eq (h kV doc pm an cdv ct us hl), hp⟩
  · exact absurd rfl e
end
/-- what the head says, for walkG -/
theorem heads {fa : List He.Fa} {fn : List He.DefD} {ts : List He.Tab} {tf : List He.Defn} {ex : PySem.W.Frag → Bool} {w : World} {h : Heap} {K : PySem.W.Frag} (X : K.In h) (c : He.SaysX fa fn ts tf ex w h K) :
    (∀ p ∈ tf.map (He.cT K), h.get? p.2 = some { cls := .none, data := .fields #[] }) ∧ (∀ p ∈ tf.map (He.cT K), K.lookup p.2 = none) ∧ (∀ p ∈ tf.map (He.cT K), PySem.W.CodeHd h p.1 p.2) ∧ (∀ t ∈ tabQ K tf, ∃ p ∈ tf.map (He.cT K), p.2 = t.1) ∧ (∀ p ∈ tf.map (He.cT K), ∃ t ∈ tabQ K tf, t.1 = p.2) := by
  refine ⟨fun p hp => ?_, fun p hp => ?_, fun p hp => ?_, fun t ht => ?_, fun p hp => ?_⟩
  · obtain ⟨q, hq, rfl⟩ := List.mem_map.mp hp
    exact c.empty q hq
  · obtain ⟨q, hq, rfl⟩ := List.mem_map.mp hp
    exact c.out q hq
  · obtain ⟨q, hq, rfl⟩ := List.mem_map.mp hp
    exact PySem.W.codeHd_of_K X (c.hd q hq)
  · obtain ⟨q, hq, rfl⟩ := List.mem_map.mp ht
    exact ⟨_, List.mem_map_of_mem hq, rfl⟩
  · obtain ⟨q, hq, rfl⟩ := List.mem_map.mp hp
    exact ⟨_, List.mem_map_of_mem (f := fun p : He.Defn => ((He.cT K p).2, lamQ0 p.1)) hq, rfl⟩
end DL

/-! DHX: what a law's head tells of the own exceptions with an __init__. -/
namespace DL
open PySem PySem.Spec PyProof.Rows L2 PySem.W PySem.XI PySem.HandSPX
def clsB (K : PySem.W.Frag) (C : Addr) : Bool := match K.lookup C with
  | some ⟨.type "type", _, .cls cd, sl⟩ => (match cd.mro, sl.toList with
    | .ref C' :: bm, [_, _, _, _, some (.builtin n), _] => C' == C && n == "ValueError.__new__" && !cd.hasDel && cd.hasDict && refsVE bm
    | _, _ => false)
  | _ => false
theorem clsB_ok {K : PySem.W.Frag} {C : Addr} (q : clsB K C = true) : ∃ nm q N bs bm sn sub ab col dd k0 k1 k2 k3 k5, K.lookup C = some (excClassObj nm q C N bs bm true sn sub ab col dd k0 k1 k2 k3 k5 "ValueError.__new__") ∧ refsVE bm = true := by
  unfold clsB at q
  split at q
  · rename_i dd cd sl ho
    split at q
    · rename_i C' bm k0 k1 k2 k3 n k5 hm hs
      simp only [Bool.and_eq_true, beq_iff_eq, Bool.not_eq_true'] at q
      obtain ⟨⟨⟨⟨rfl, rfl⟩, hdel⟩, hd⟩, ht⟩ := q
      obtain ⟨nm, bs, mro, ns, qn, hd2, sn, sub, ab, col, del⟩ := cd
      dsimp only at hm hdel hd
      subst hm hdel hd
      have hsl : sl = #[k0, k1, k2, k3, some (.builtin "ValueError.__new__"), k5] := by
        obtain ⟨l⟩ := sl
        simp only at hs
        rw [hs]
      subst hsl
      exact ⟨nm, qn, ns, bs, bm, sn, sub, ab, col, dd, k0, k1, k2, k3, k5, ho, ht⟩
    · cases q
  · cases q
def kwNo (K : PySem.W.Frag) (a : Addr) : Bool := match K.lookup a with
  | some ⟨_, _, .func fd, _⟩ => (match fd.kwdefaults with
    | .none => true
    | _ => false)
  | _ => false
theorem kwNo_ok {K : PySem.W.Frag} {a : Addr} {oc : Value} {od : Option Addr} {osl : Array (Option Value)} {fd : FuncData} (h : kwNo K a = true) (lk : K.lookup a = some ⟨oc, od, .func fd, osl⟩) : fd.kwdefaults = .none := by
  unfold kwNo at h
  rw [lk] at h
  dsimp only at h
  split at h
  · assumption
  · cases h
def exiB (K : PySem.W.Frag) (x f : Str) : Bool := clsB K (He.ga K x) && (He.eqO (findIn K (.ref (He.ga K x)) "__setattr__") (some (some (.builtin "object.__setattr__"))) && (He.eqO (findIn K (.ref (He.ga K x)) f) (some none) &&
  (He.eqO (findIn K (.ref (He.ga K x)) "__init__") (some (some (.ref (He.fAd K (x, some "__init__"))))) && (decide (typeIn K (.ref (He.fAd K (x, some "__init__"))) = some (.type "function")) && kwNo K (He.fAd K (x, some "__init__"))))))
def moreB (exi : List (Str × Str)) (exc : List Str) (K : PySem.W.Frag) : Bool := exi.all (fun p => exiB K p.1 p.2) && exc.all fun x => decide (kitOne K (.ref (He.ga K x)) (.type "ValueError") = some true)
def InitFn (K : PySem.W.Frag) (x f : Str) : Prop := ∃ (q : Str) (oc : Value) (od : Option Addr) (doc pm : Value) (an : Option Addr) (cdv ct : Value) (osl : Array (Option Value)) (p1 p2 q1 q2 q3 q4 : Pos),
    K.lookup (He.fAd K (x, some "__init__")) = some ⟨oc, od, .func (fnOf "__init__" q (iA f p1 p2) (iB f q1 q2 q3 q4) (iS f) .none .none doc pm an cdv ct), osl⟩ ∧ codeIn K cdv q = true
theorem initFn_of {K : PySem.W.Frag} {x f q : Str} {p1 p2 q1 q2 q3 q4 : Pos} {fd : FuncData} (hk : kwNo K (He.fAd K (x, some "__init__")) = true) (F : FunD K "__init__" q (iA f p1 p2) (iB f q1 q2 q3 q4) (iS f) [] [] (He.fAd K (x, some "__init__")) fd) : InitFn K x f := by
  obtain ⟨oc, od, dV, kV, doc, pm, an, cdv, ct, osl, rfl, lk, hcd, hD, hK⟩ := F.ex
  have e1 : dV = .none := by
    rcases hD with ⟨_, h⟩ | ⟨e, _⟩
    · exact h
    · exact absurd rfl e
  have e2 : kV = .none := kwNo_ok hk lk
  subst e1 e2
  exact ⟨q, oc, od, doc, pm, an, cdv, ct, osl, p1, p2, q1, q2, q3, q4, lk, hcd⟩
theorem lookup_memS {x f : Str} : ∀ {l : List (Str × Str)}, l.lookup x = some f → (x, f) ∈ l
  | [], h => by cases h
  | (b, u) :: r, h => by
    have h2 : (match x == b with | true => some u | false => r.lookup x) = some f := h
    cases q : (x == b) with
    | true =>
      rw [q] at h2
      have e : u = f := Option.some.inj h2
      rw [beq_iff_eq.mp q, e]
      exact List.mem_cons_self
    | false =>
      rw [q] at h2
      exact List.mem_cons_of_mem _ (lookup_memS h2)
theorem more_of {K : PySem.W.Frag} {mg : Str → Option Value} {G : Ctx} {exi : List (Str × Str)} {exc : List Str} (h : moreB exi exc K = true) (hmg : G.mg = mg) (gx : ∀ x ∈ exc, mg x = some (.ref (He.ga K x))) (hve : mg "ValueError" = none)
    (hin : (exi.all fun p => decide (p.1 ∈ exc) && decide (p.2 ∈ fields)) = true) (hf : ∀ p ∈ exi, kwNo K (He.fAd K (p.1, some "__init__")) = true → InitFn K p.1 p.2) : More K mg G exi exc true := by
  unfold moreB at h
  rw [Bool.and_eq_true, List.all_eq_true, List.all_eq_true] at h
  have ca : ∀ x ∈ exc, G.ca x = He.ga K x := fun x hx => by
    unfold Ctx.ca
    rw [hmg, gx x hx]
  refine ⟨fun x f hl => ?_, fun _ => ⟨hve, fun x hx => ?_⟩⟩
  · have mem := lookup_memS hl
    have h1 := List.all_eq_true.mp hin _ mem
    simp only [Bool.and_eq_true, decide_eq_true_eq] at h1
    have h2 := h.1 _ mem
    unfold exiB at h2
    simp only [Bool.and_eq_true, decide_eq_true_eq] at h2
    obtain ⟨a1, a2, a3, a4, a5, a6⟩ := h2
    obtain ⟨q, oc, od, doc, pm, an, cdv, ct, osl, p1, p2, q1, q2, q3, q4, lk, hcd⟩ := hf _ mem a6
    rw [ca x h1.1]
    exact ⟨h1.1, He.fAd K (x, some "__init__"), q, clsB_ok a1, He.eqO_ok a2, He.eqO_ok a3, He.eqO_ok a4, a5, h1.2, oc, od, doc, pm, an, cdv, ct, osl, p1, p2, q1, q2, q3, q4, lk, hcd⟩
  · rw [ca x hx]
    exact of_decide_eq_true (h.2 x hx)
end DL

/-! K06b: the errors. -/
namespace K06
open PySem PySem.Spec PyProof.Rows L2 DL
local macro_rules
  | `(tactic| array_get_dec) => `(tactic| simp (config := { maxSteps := 2000000 }) only [denSs, denSt, den, denT, denL, denC, denO, denS, sSeq, sSet, sNew, sExpr, sRet, sRetN, sSkip, sBrk, sCont, sIf, sFor, Bool.false_and, Bool.true_and, isNew, dSeq, dRng1, dRng2, mkOk, fxFlat, fMkx, fMkk, fFld, fIsV, dFx, fxF, fxG, dFlat, dLct, dZip, dEnu, dPrs, sForT, denR, alR, dOp, dOp1, dC, dVar, dCons, dNil, dCall, dTup, dLst, dLc, dAnd, dOr, dNot, dIf,
    dTest, dTru, dNotT, dAndT, dOrT, dG, dSl, dPart, dNoP, dChain, al, alL, alS, dis, dis1, ends, exe, startD, List.set, List.map_cons, List.map_nil, List.length_cons, List.length_nil, List.replicate, List.cons_append, List.nil_append, List.append_nil, List.getElem?_cons_zero, List.getElem?_cons_succ,
    thGam, sRaise, sApp, sSetIx, sUnp, sTry, sThL, sThP, sThE, thkD, caughtAt, disAll, setAll, dGd, dGdS, dGV, dGS, fInN, fIsE, fMaxS, fMinS, fIdx, dSrtL, dSrtC, sForE, sSetK, sUnpN, dItms, itms, setIt, dLd1, fIsT,
    bopF, copF, bltF, fLe, fLt, fGt, fGe, fLen, fAbs, fSl, ite_true, ite_false, Bool.false_eq_true, fI, fMul, fAdd, fEq, fNe, neA_nil, DL.eqk, dat, deq, fInt, truth, Nat.reduceAdd, Nat.reduceSub, Nat.reduceLT, Nat.reduceLeDiff, true_and, and_true, ne_eq, Nat.reduceEqDiff, not_false_eq_true, Nat.zero_ne_one, Nat.succ_ne_self, reduceCtorEq, D.bl.injEq, D.int.injEq, Option.some.injEq, exists_eq_left', exists_eq_left, Bool.and_self])
def made1 : Ss := (.cons (.own 3 (.lst (.cons (.lst (.cons (.mkx "ZeroDelayCycle" (.var 1)) (.cons (.mkk "ZeroDelayCycle" "cycle" (.var 1)) .nil))) (.cons (.lst (.cons (.mkx "UnknownBell" (.var 1)) (.cons (.mkk "UnknownBell" "name" (.var 1)) .nil))) .nil)))) (.cons (.own 3 (.fx .cat (.cons (.var 3) (.cons (.lst (.cons (.lst (.cons (.mkx "FlawedTable" (.var 1)) (.cons (.mkk "FlawedTable" "flaw" (.var 1)) .nil))) (.cons (.lst (.cons (.mkx "TooMany" (.var 1)) (.cons (.mkk "TooMany" "limit" (.var 1)) .nil))) .nil))) .nil)))) (.cons (.app 3 (.lst (.cons (.mkx "InvalidConstraint" (.var 1)) (.cons (.mkk "InvalidConstraint" "at" (.var 1)) .nil)))) (.cons (.app 3 (.lst (.cons (.mkx "InvalidFault" (.var 1)) (.cons (.mkk "InvalidFault" "at" (.var 1)) .nil)))) (.cons (.ret (.idx (.var 3) (.var 0))) .nil)))))
def made2 : Ss := (.cons (.own 3 (.lst (.cons (.lst (.cons (.mkx "UnknownName" (.var 1)) (.cons (.mkk "UnknownName" "name" (.var 1)) .nil))) (.cons (.lst (.cons (.mkx "InUse" (.var 1)) (.cons (.mkk "InUse" "number" (.var 1)) .nil))) .nil)))) (.cons (.own 3 (.fx .cat (.cons (.var 3) (.cons (.lst (.cons (.lst (.cons (.mkx "NotTrue" (.var 1)) (.cons (.mkk "NotTrue" "witness" (.var 1)) .nil))) (.cons (.lst (.cons (.mkx "InvalidDeed" (.var 1)) (.cons (.mkk "InvalidDeed" "at" (.var 1)) .nil))) .nil))) .nil)))) (.cons (.own 3 (.fx .cat (.cons (.var 3) (.cons (.lst (.cons (.lst (.cons (.mkx "InvalidLog" (.var 1)) (.cons (.mkk "InvalidLog" "at" (.var 1)) .nil))) (.cons (.lst (.cons (.mkx "InvalidText" (.var 1)) (.cons (.mkk "InvalidText" "row" (.var 1)) .nil))) .nil))) .nil)))) (.cons (.ret (.idx (.var 3) (.bin .sub (.var 0) (.int 6)))) .nil))))
def made3 : Ss := (.cons (.put 2 (.bin .add (.str "message ") (.blt .repr (.cons (.var 1) .nil)))) (.cons (.own 3 (.lst (.cons (.mkx "InvalidTime" (.var 2)) (.cons (.mkx "InvalidRow" (.var 2)) (.cons (.mkx "InvalidNumber" (.var 2)) (.cons (.mkx "InvalidNet" (.var 2)) .nil)))))) (.cons (.own 3 (.fx .cat (.cons (.var 3) (.cons (.lst (.cons (.mkx "InvalidTable" (.var 2)) (.cons (.mkx "InvalidClaim" (.var 2)) (.cons (.mkx "InvalidAnswer" (.var 2)) .nil)))) .nil)))) (.cons (.ret (.lst (.cons (.idx (.var 3) (.bin .sub (.var 0) (.int 12))) .nil))) .nil))))
def b_law_made : Ss := (.cons (.ite (.cmp .lt (.var 0) (.int 6)) made1 .nil) (.cons (.ite (.cmp .lt (.var 0) (.int 12)) made2 .nil) made3))
def b_law_field : Ss := (.cons (.ite (.cin false (.var 0) (.tup (.cons (.int 1) (.cons (.int 6) .nil)))) (.cons (.ret (.fld (.var 1) "name")) .nil) .nil) (.cons (.ite (.cin false (.var 0) (.tup (.cons (.int 4) (.cons (.int 5) (.cons (.int 9) (.cons (.int 10) .nil)))))) (.cons (.ret (.fld (.var 1) "at")) .nil) .nil) (.cons (.ite (.cin false (.var 0) (.tup (.cons (.int 2) (.cons (.int 3) .nil)))) (.cons (.ret (.ife (.cmp .eq (.var 0) (.int 2)) (.fld (.var 1) "flaw") (.fld (.var 1) "limit"))) .nil) .nil) (.cons (.ite (.cin false (.var 0) (.tup (.cons (.int 7) (.cons (.int 8) .nil)))) (.cons (.ret (.ife (.cmp .eq (.var 0) (.int 7)) (.fld (.var 1) "number") (.fld (.var 1) "witness"))) .nil) .nil) (.cons (.ret (.ife (.cmp .eq (.var 0) (.int 0)) (.fld (.var 1) "cycle") (.fld (.var 1) "row"))) .nil)))))
def b_law_marks : Ss := (.cons (.put 1 (.lst (.cons (.isE (.var 0) "ZeroDelayCycle") (.cons (.isE (.var 0) "UnknownBell") (.cons (.isE (.var 0) "FlawedTable") .nil))))) (.cons (.put 1 (.bin .add (.var 1) (.lst (.cons (.isE (.var 0) "TooMany") (.cons (.isE (.var 0) "InvalidConstraint") (.cons (.isE (.var 0) "InvalidFault") .nil)))))) (.cons (.put 1 (.bin .add (.var 1) (.lst (.cons (.isE (.var 0) "UnknownName") (.cons (.isE (.var 0) "InUse") (.cons (.isE (.var 0) "NotTrue") .nil)))))) (.cons (.put 1 (.bin .add (.var 1) (.lst (.cons (.isE (.var 0) "InvalidDeed") (.cons (.isE (.var 0) "InvalidLog") (.cons (.isE (.var 0) "InvalidText") .nil)))))) (.cons (.put 1 (.bin .add (.var 1) (.lst (.cons (.isE (.var 0) "InvalidTime") (.cons (.isE (.var 0) "InvalidRow") (.cons (.isE (.var 0) "InvalidNumber") .nil)))))) (.cons (.put 1 (.bin .add (.var 1) (.lst (.cons (.isE (.var 0) "InvalidNet") (.cons (.isE (.var 0) "InvalidTable") (.cons (.isE (.var 0) "InvalidClaim") .nil)))))) (.cons (.ret (.bin .add (.var 1) (.lst (.cons (.isE (.var 0) "InvalidAnswer") .nil)))) .nil)))))))
def b_law_right : Ss := (.cons (.fr 2 (.seq (.call "_law_made" (.cons (.var 0) (.cons (.var 1) .nil)))) (.cons (.put 3 (.call "_law_marks" (.cons (.var 2) .nil))) (.cons (.ite (.or (.cmp .ne (.fx .cnt (.cons (.var 3) (.cons (.bl true) .nil))) (.int 1)) (.not (.idx (.var 3) (.var 0)))) (.cons (.ret (.bl false)) .nil) .nil) (.cons (.ite (.or (.not (.isE (.var 2) "OnceError")) (.not (.isV (.var 2)))) (.cons (.ret (.bl false)) .nil) .nil) (.cons (.ite (.and (.cmp .lt (.var 0) (.int 12)) (.cmp .ne (.blt .repr (.cons (.call "_law_field" (.cons (.var 0) (.cons (.var 2) .nil))) .nil)) (.blt .repr (.cons (.var 1) .nil)))) (.cons (.ret (.bl false)) .nil) .nil) .nil))))) (.cons (.ret (.bl true)) .nil))
def b_law : Ss := (.cons (.fr 2 (.rng1 (.bin .add (.int 2) (.blt .min (.cons (.blt .len (.cons (.var 0) .nil)) (.cons (.int 4) .nil))))) (.cons (.fr 3 (.rng1 (.int 19)) (.cons (.put 4 (.lst (.cons .non (.cons (.bl true) (.cons (.int 0) (.cons (.int 5) (.cons (.int (-1)) (.cons (.str "") (.cons (.str "a") (.cons (.tup .nil) (.cons (.tup (.cons (.int 0) (.cons .non .nil))) (.cons (.lst .nil) (.cons (.lst (.cons (.int 2) .nil)) (.cons .dct0 (.cons (.ldc1 (.str "a") (.int 1)) (.cons (.tup (.cons (.str "far") (.cons (.tup (.cons (.int 0) .nil)) .nil))) (.cons (.bin .pow (.int 10) (.int 20)) .nil))))))))))))))))) (.cons (.ite (.not (.call "_law_right" (.cons (.var 3) (.cons (.call "_law_pick" (.cons (.var 1) (.cons (.var 4) .nil))) .nil)))) (.cons (.ret (.bl false)) .nil) .nil) .nil))) .nil)) (.cons (.ret (.bl true)) .nil))
theorem iteT' {b : Bool} {p q : Prop} (e : b = true) (h : p) : if b = true then p else q := by rw [if_pos e]; exact h
theorem iteF' {b : Bool} {p q : Prop} (e : b = false) (h : q) : if b = true then p else q := by rw [if_neg (by rw [e]; decide)]; exact h
/-- the classes with a field -/
def exi6 : List (Str × Str) := [("ZeroDelayCycle", "cycle"), ("UnknownBell", "name"), ("FlawedTable", "flaw"), ("TooMany", "limit"), ("InvalidConstraint", "at"), ("InvalidFault", "at"), ("UnknownName", "name"), ("InUse", "number"), ("NotTrue", "witness"), ("InvalidDeed", "at"), ("InvalidLog", "at"), ("InvalidText", "row")]
def exn6 : List Str := ["InvalidTime", "InvalidRow", "InvalidNumber", "InvalidNet", "InvalidTable", "InvalidClaim", "InvalidAnswer"]
def cls6 : List Str := exi6.map (·.1) ++ exn6
/-- the errors of a place -/
def errs (p : Nat) (d : D) : List D := match exi6[p]? with
  | some (c, f) => [.exc c [(f, d)], .exc c [(f, d)]]
  | none => [.exc (exn6.getD (p - 12) "") []]
/-- a value with a text -/
def okW (d : D) : Prop := ∃ z : Str, z.length ≤ 1000 ∧ ∀ P : D → Prop, P (.str z) → fRepr [d] P
def spMade : FSp := fun ds P _ => ∃ (p : Nat) (d : D), ds = [.int p, d] ∧ p < 19 ∧ okW d ∧ P (.lst (errs p d))
theorem law_law_made {Γ : Gam} (he : Γ.exi = exi6) (hn : Γ.exn = exn6) (ds : List D) (P : D → Prop) (EP : XD → Prop) (hs : spMade ds P EP) : denSs Γ b_law_made (ends P EP) (startD ["_law_place", "_law_worth", "_law_message", "_law_some"] ds) := by
  obtain ⟨p, d, rfl, hp, ⟨z, hz, hd⟩, hP⟩ := hs
  have l1 : Γ.exi.lookup ("ZeroDelayCycle" : Str) = some ("cycle" : Str) := by rw [he]; rfl
  have l2 : Γ.exi.lookup ("UnknownBell" : Str) = some ("name" : Str) := by rw [he]; rfl
  have l3 : Γ.exi.lookup ("FlawedTable" : Str) = some ("flaw" : Str) := by rw [he]; rfl
  have l4 : Γ.exi.lookup ("TooMany" : Str) = some ("limit" : Str) := by rw [he]; rfl
  have l5 : Γ.exi.lookup ("InvalidConstraint" : Str) = some ("at" : Str) := by rw [he]; rfl
  have l6 : Γ.exi.lookup ("InvalidFault" : Str) = some ("at" : Str) := by rw [he]; rfl
  have l7 : Γ.exi.lookup ("UnknownName" : Str) = some ("name" : Str) := by rw [he]; rfl
  have l8 : Γ.exi.lookup ("InUse" : Str) = some ("number" : Str) := by rw [he]; rfl
  have l9 : Γ.exi.lookup ("NotTrue" : Str) = some ("witness" : Str) := by rw [he]; rfl
  have l10 : Γ.exi.lookup ("InvalidDeed" : Str) = some ("at" : Str) := by rw [he]; rfl
  have l11 : Γ.exi.lookup ("InvalidLog" : Str) = some ("at" : Str) := by rw [he]; rfl
  have l12 : Γ.exi.lookup ("InvalidText" : Str) = some ("row" : Str) := by rw [he]; rfl
  have m1 : Γ.exi.lookup ("InvalidTime" : Str) = none := by rw [he]; rfl
  have m2 : Γ.exi.lookup ("InvalidRow" : Str) = none := by rw [he]; rfl
  have m3 : Γ.exi.lookup ("InvalidNumber" : Str) = none := by rw [he]; rfl
  have m4 : Γ.exi.lookup ("InvalidNet" : Str) = none := by rw [he]; rfl
  have m5 : Γ.exi.lookup ("InvalidTable" : Str) = none := by rw [he]; rfl
  have m6 : Γ.exi.lookup ("InvalidClaim" : Str) = none := by rw [he]; rfl
  have m7 : Γ.exi.lookup ("InvalidAnswer" : Str) = none := by rw [he]; rfl
  have n1 : ∀ x ∈ exn6, x ∈ Γ.exn := fun x h => by rw [hn]; exact h
  unfold b_law_made
  array_get_dec
  by_cases h6 : p < 6
  · refine iteT' (decide_eq_true (by omega)) ?_
    unfold made1
    array_get_dec
    simp only [l1, l2, l3, l4, l5, l6]
    array_get_dec
    have sz : 1000 ≤ sizeLine := by decide
    refine ⟨.inl rfl, by omega, .inl rfl, by omega, by omega, .inl rfl, by omega, .inl rfl, by omega, by omega, by omega, by simp, _, rfl, by simp; omega, .inl rfl, by omega, by simp, _, rfl, by simp; omega, .inl rfl, by omega, ?_⟩
    have : p = 0 ∨ p = 1 ∨ p = 2 ∨ p = 3 ∨ p = 4 ∨ p = 5 := by omega
    rcases this with rfl | rfl | rfl | rfl | rfl | rfl <;> exact ⟨_, rfl, hP⟩
  · refine iteF' (decide_eq_false (by omega)) ?_
    by_cases h12 : p < 12
    · refine iteT' (decide_eq_true (by omega)) ?_
      unfold made2
      array_get_dec
      simp only [l7, l8, l9, l10, l11, l12]
      array_get_dec
      have sz : 1000 ≤ sizeLine := by decide
      refine ⟨.inl rfl, by omega, .inl rfl, by omega, by omega, .inl rfl, by omega, .inl rfl, by omega, by omega, by omega, .inl rfl, by omega, .inl rfl, by omega, by omega, by omega, ?_⟩
      have : p = 6 ∨ p = 7 ∨ p = 8 ∨ p = 9 ∨ p = 10 ∨ p = 11 := by omega
      rcases this with rfl | rfl | rfl | rfl | rfl | rfl <;> exact ⟨_, rfl, hP⟩
    · refine iteF' (decide_eq_false (by omega)) ?_
      unfold made3
      array_get_dec
      simp only [m1, m2, m3, m4, m5, m6, m7]
      have sz : 2000 ≤ sizeLine := by decide
      refine hd _ ?_
      show ("message " : Str).length + z.length ≤ sizeLine ∧ _
      have e8 : ("message " : Str).length = 8 := rfl
      refine ⟨by omega, .inr (n1 _ (by decide)), .inr (n1 _ (by decide)), .inr (n1 _ (by decide)), .inr (n1 _ (by decide)), by omega, .inr (n1 _ (by decide)), .inr (n1 _ (by decide)), .inr (n1 _ (by decide)), by omega, by omega, ?_⟩
      have : p = 12 ∨ p = 13 ∨ p = 14 ∨ p = 15 ∨ p = 16 ∨ p = 17 ∨ p = 18 := by omega
      rcases this with rfl | rfl | rfl | rfl | rfl | rfl | rfl <;> exact ⟨_, rfl, by omega, hP⟩
def spField : FSp := fun ds P _ => ∃ (p : Nat) (c f : Str) (d : D), ds = [.int p, .exc c [(f, d)]] ∧ exi6[p]? = some (c, f) ∧ P d
theorem law_law_field {Γ : Gam} (he : Γ.exi = exi6) (ds : List D) (P : D → Prop) (EP : XD → Prop) (hs : spField ds P EP) : denSs Γ b_law_field (ends P EP) (startD ["_law_place", "_law_error"] ds) := by
  obtain ⟨p, c, f, d, rfl, hp, hP⟩ := hs
  have l : ∀ c f, exi6.lookup c = some f → Γ.exi.lookup c = some f := fun c f h => by rw [he]; exact h
  have hl : p < 12 := by
    have := (List.getElem?_eq_some_iff.mp hp).1
    simpa [exi6] using this
  have : p = 0 ∨ p = 1 ∨ p = 2 ∨ p = 3 ∨ p = 4 ∨ p = 5 ∨ p = 6 ∨ p = 7 ∨ p = 8 ∨ p = 9 ∨ p = 10 ∨ p = 11 := by omega
  have sz2 : 2 ≤ sizeLine := by decide
  have sz4 : 4 ≤ sizeLine := by decide
  unfold b_law_field
  array_get_dec
  rcases this with rfl | rfl | rfl | rfl | rfl | rfl | rfl | rfl | rfl | rfl | rfl | rfl
  all_goals (cases hp)
  · exact ⟨sz2, rfl, iteF' rfl ⟨sz4, rfl, iteF' rfl ⟨sz2, rfl, iteF' rfl ⟨sz2, rfl, iteF' rfl (iteT' rfl ⟨l _ _ rfl, _, rfl, hP⟩)⟩⟩⟩⟩
  · exact ⟨sz2, rfl, iteT' rfl ⟨l _ _ rfl, _, rfl, hP⟩⟩
  · exact ⟨sz2, rfl, iteF' rfl ⟨sz4, rfl, iteF' rfl ⟨sz2, rfl, iteT' rfl (iteT' rfl ⟨l _ _ rfl, _, rfl, hP⟩)⟩⟩⟩
  · exact ⟨sz2, rfl, iteF' rfl ⟨sz4, rfl, iteF' rfl ⟨sz2, rfl, iteT' rfl (iteF' rfl ⟨l _ _ rfl, _, rfl, hP⟩)⟩⟩⟩
  · exact ⟨sz2, rfl, iteF' rfl ⟨sz4, rfl, iteT' rfl ⟨l _ _ rfl, _, rfl, hP⟩⟩⟩
  · exact ⟨sz2, rfl, iteF' rfl ⟨sz4, rfl, iteT' rfl ⟨l _ _ rfl, _, rfl, hP⟩⟩⟩
  · exact ⟨sz2, rfl, iteT' rfl ⟨l _ _ rfl, _, rfl, hP⟩⟩
  · exact ⟨sz2, rfl, iteF' rfl ⟨sz4, rfl, iteF' rfl ⟨sz2, rfl, iteF' rfl ⟨sz2, rfl, iteT' rfl (iteT' rfl ⟨l _ _ rfl, _, rfl, hP⟩)⟩⟩⟩⟩
  · exact ⟨sz2, rfl, iteF' rfl ⟨sz4, rfl, iteF' rfl ⟨sz2, rfl, iteF' rfl ⟨sz2, rfl, iteT' rfl (iteF' rfl ⟨l _ _ rfl, _, rfl, hP⟩)⟩⟩⟩⟩
  · exact ⟨sz2, rfl, iteF' rfl ⟨sz4, rfl, iteT' rfl ⟨l _ _ rfl, _, rfl, hP⟩⟩⟩
  · exact ⟨sz2, rfl, iteF' rfl ⟨sz4, rfl, iteT' rfl ⟨l _ _ rfl, _, rfl, hP⟩⟩⟩
  · exact ⟨sz2, rfl, iteF' rfl ⟨sz4, rfl, iteF' rfl ⟨sz2, rfl, iteF' rfl ⟨sz2, rfl, iteF' rfl (iteF' rfl ⟨l _ _ rfl, _, rfl, hP⟩)⟩⟩⟩⟩
def s6 : Str → Str → Bool := fun x y => decide (y = x) || decide (y = "OnceError")
def exc6 : List Str := "OnceError" :: cls6
def marks (c : Str) : List D := cls6.map fun x => .bl (s6 c x)
def spMarks : FSp := fun ds P _ => ∃ (c : Str) (fs : List (Str × D)), ds = [.exc c fs] ∧ c ∈ cls6 ∧ P (.lst (marks c))
theorem law_law_marks {Γ : Gam} (he : Γ.exc = exc6) (hs : Γ.sub = s6) (ds : List D) (P : D → Prop) (EP : XD → Prop) (hp : spMarks ds P EP) : denSs Γ b_law_marks (ends P EP) (startD ["_law_error", "_law_marks_here"] ds) := by
  obtain ⟨c, fs, rfl, hc, hP⟩ := hp
  have m : ∀ x ∈ exc6, x ∈ Γ.exc := fun x h => by rw [he]; exact h
  have mc : c ∈ Γ.exc := m _ (List.mem_cons_of_mem _ hc)
  unfold b_law_marks
  array_get_dec
  rw [hs]
  have sz : 1000 ≤ sizeLine := by decide
  repeat (first | exact hP | refine And.intro (by first | exact mc | exact m _ (by decide) | omega) ?_)
theorem marks_ok : ∀ p : Nat, p < 19 → (marks (cls6.getD p "")).countP (fun z => deq z (.bl true)) = 1 ∧ (marks (cls6.getD p ""))[p]? = some (.bl true) ∧ cls6.getD p "" ∈ cls6 := by
  intro p hp
  have : p = 0 ∨ p = 1 ∨ p = 2 ∨ p = 3 ∨ p = 4 ∨ p = 5 ∨ p = 6 ∨ p = 7 ∨ p = 8 ∨ p = 9 ∨ p = 10 ∨ p = 11 ∨ p = 12 ∨ p = 13 ∨ p = 14 ∨ p = 15 ∨ p = 16 ∨ p = 17 ∨ p = 18 := by omega
  rcases this with rfl | rfl | rfl | rfl | rfl | rfl | rfl | rfl | rfl | rfl | rfl | rfl | rfl | rfl | rfl | rfl | rfl | rfl | rfl <;> exact ⟨by decide +kernel, rfl, by decide +kernel⟩
theorem errs_at {p : Nat} (hp : p < 19) (d : D) : ∀ e ∈ errs p d, ∃ fs, e = .exc (cls6.getD p "") fs ∧ (p < 12 → ∃ c f, exi6[p]? = some (c, f) ∧ c = cls6.getD p "" ∧ fs = [(f, d)]) := by
  have : p = 0 ∨ p = 1 ∨ p = 2 ∨ p = 3 ∨ p = 4 ∨ p = 5 ∨ p = 6 ∨ p = 7 ∨ p = 8 ∨ p = 9 ∨ p = 10 ∨ p = 11 ∨ p = 12 ∨ p = 13 ∨ p = 14 ∨ p = 15 ∨ p = 16 ∨ p = 17 ∨ p = 18 := by omega
  intro e he
  rcases this with rfl | rfl | rfl | rfl | rfl | rfl | rfl | rfl | rfl | rfl | rfl | rfl | rfl | rfl | rfl | rfl | rfl | rfl | rfl
  iterate 12 (· simp only [errs, exi6, List.getElem?_cons_zero, List.getElem?_cons_succ, List.mem_cons, List.not_mem_nil, or_false, or_self] at he
                subst he
                exact ⟨_, rfl, fun _ => ⟨_, _, rfl, rfl, rfl⟩⟩)
  all_goals (have he : e ∈ [D.exc _ []] := he
             simp only [List.mem_cons, List.not_mem_nil, or_false] at he
             subst he
             exact ⟨_, rfl, fun h => absurd h (by decide)⟩)
def lo (x : Option D) : Option (Bool × D) := x.map fun d => (false, d)
def spRight : FSp := fun ds P _ => ∃ (p : Nat) (d : D), ds = [.int p, d] ∧ p < 19 ∧ okW d ∧ P (.bl true)
theorem atI_nat {α : Type} {xs : List α} {i : Nat} {x : α} (h : xs[i]? = some x) : atI xs (i : Int) = some x := by
  obtain ⟨hi, e⟩ := List.getElem?_eq_some_iff.mp h
  unfold atI ixN
  rw [if_pos (by omega), if_pos (by omega)]
  exact h
theorem law_law_right {Γ : Gam} (he : Γ.exc = exc6) (hs : Γ.sub = s6) (hve : Γ.ve = true) (h1 : Γ.fn "_law_made" = some ((["_law_place", "_law_worth"] : List Str), spMade)) (h2 : Γ.fn "_law_field" = some ((["_law_place", "_law_error"] : List Str), spField)) (h3 : Γ.fn "_law_marks" = some ((["_law_error"] : List Str), spMarks)) (ds : List D) (P : D → Prop) (EP : XD → Prop) (hp : spRight ds P EP) :
    denSs Γ b_law_right (ends P EP) (startD ["_law_place", "_law_worth", "_law_error", "_law_marks_here"] ds) := by
  obtain ⟨p, d, rfl, hp, ⟨z, hz, hd⟩, hP⟩ := hp
  have m : ∀ x ∈ exc6, x ∈ Γ.exc := fun x h => by rw [he]; exact h
  obtain ⟨k1, k2, k3⟩ := marks_ok p hp
  have mc : cls6.getD p "" ∈ Γ.exc := m _ (List.mem_cons_of_mem _ k3)
  unfold b_law_right
  array_get_dec
  simp only [h1, h2, h3]
  array_get_dec
  refine ⟨p, d, rfl, hp, ⟨z, hz, hd⟩, ?_⟩
  have ll : (errs p d).length ≤ 2 := by unfold errs; split <;> simp
  have tm : 1000 ≤ turnsMost := by decide
  show (errs p d).length ≤ turnsMost ∧ _
  refine ⟨by omega, for_inv (fun env => ∃ x2 x3 : Option D, env = [some (false, .int p), some (false, d), lo x2, lo x3]) ⟨none, none, rfl⟩ ?_ ?_⟩
  · rintro e hem _ N ⟨x2, x3, rfl⟩ hN
    obtain ⟨fs, rfl, hf⟩ := errs_at hp d e hem
    have hN' : ∀ x3 : D, N [some (false, .int p), some (false, d), some (false, .exc (cls6.getD p "") fs), some (false, x3)] := fun x3 => hN _ ⟨some _, some x3, rfl⟩
    array_get_dec
    refine ⟨_, _, rfl, k3, rfl, ?_⟩
    show dat DD (.bl true) = true ∧ _
    refine ⟨rfl, List.all_eq_true.mpr fun x hx => ?_, rfl, iteF' ?_ ⟨_, atI_nat k2, _, rfl, iteF' rfl ⟨m _ (by decide), mc, iteF' ?_ ⟨hve, hve, mc, iteF' rfl ?_⟩⟩⟩⟩
    · obtain ⟨y, _, rfl⟩ := List.mem_map.mp hx
      rfl
    · rw [k1]
      rfl
    · rw [hs]
      simp [s6]
    · refine ite_by (fun h12 => ?_) fun _ => hN' _
      obtain ⟨c, f, q1, q2, q3⟩ := hf (by have := of_decide_eq_true h12; omega)
      refine ⟨p, c, f, d, by rw [q2, q3], q1, hd _ (hd _ ⟨rfl, rfl, iteF' ?_ (hN' _)⟩)⟩
      show (!(deq (.str z) (.str z))) = false
      rw [deq_refl 0 (.str z) rfl]
      rfl
  · rintro _ ⟨x2, x3, rfl⟩
    exact hP
theorem okW_of {d : D} (h1 : dat DD d = true) (h2 : sOk d = true) (h3 : shw d ≤ 1000) : okW d :=
  ⟨(toPy d).shown, Nat.le_trans (shown_le DD d h1).1 h3, fun P h => repr_of h1 h2 (Nat.le_trans h3 (by decide)) h⟩
def worths6 : List D := [.non, .bl true, .int 0, .int 5, .int (-1), .str "", .str "a", .tup [], .tup [.int 0, .non], .lst [], .lst [.int 2], .dct [], .ldc [(.str "a", .int 1)], .tup [.str "far", .tup [.int 0]], .int (10 ^ Int.toNat 20)]
theorem okW6 : ∀ w ∈ worths6, okW w := by
  intro w hw
  unfold worths6 at hw
  simp only [List.mem_cons, List.not_mem_nil, or_false] at hw
  rcases hw with rfl | rfl | rfl | rfl | rfl | rfl | rfl | rfl | rfl | rfl | rfl | rfl | rfl | rfl | rfl
  case' inr.inr.inr.inr.inr.inr.inr.inr.inr.inr.inr.inl =>
    exact ⟨(PyData.dict (pyK _)).shown, by decide +kernel, fun P h => ⟨rfl, by decide +kernel, by decide +kernel, h⟩⟩
  case' inr.inr.inr.inr.inr.inr.inr.inr.inr.inr.inr.inr.inl =>
    exact ⟨(PyData.dict (pyK _)).shown, by decide +kernel, fun P h => ⟨rfl, by decide +kernel, by decide +kernel, h⟩⟩
  all_goals exact okW_of rfl rfl (by decide +kernel)
theorem law_law {Γ : Gam} (h1 : Γ.fn "_law_pick" = some ((["_law_state", "_law_some"] : List Str), spPick)) (h2 : Γ.fn "_law_right" = some ((["_law_place", "_law_worth"] : List Str), spRight)) (ns : List Int)
    (hn : ns.length ≤ 63) (P : D → Prop) (EP : XD → Prop) (hP : P (.bl true)) : denSs Γ b_law (ends P EP) [some (false, .scr ns), some (false, .hnd 0), none, none, none] := by
  unfold b_law
  array_get_dec
  refine ⟨_, rfl, by split <;> omega, by split <;> omega, ?_, for_inv (fun env => ∃ x2 x3 x4 : Option D, env = [some (false, .scr ns), some (false, .hnd 0), lo x2, lo x3, lo x4]) ⟨none, none, none, rfl⟩ ?_ ?_⟩
  · have hr : (rngD 0 (2 + (if (4 : Int) < (ns.length : Int) then 4 else (ns.length : Int)))).length ≤ 100 := by
      simp only [rngD, List.length_map, List.length_range]
      split <;> omega
    exact Nat.le_trans hr (by decide)
  · rintro d hd _ N ⟨x2, x3, x4, rfl⟩ hN
    array_get_dec
    refine ⟨19, rfl, by decide, by decide, by decide, for_inv (fun env => ∃ x3 x4 : Option D, env = [some (false, .scr ns), some (false, .hnd 0), some (false, d), lo x3, lo x4]) ⟨x3, x4, rfl⟩ ?_ ?_⟩
    · rintro e he _ N' ⟨x3, x4, rfl⟩ hN'
      obtain ⟨p, hp, rfl⟩ : ∃ p : Nat, p < 19 ∧ e = .int (p : Int) := by
        obtain ⟨k, hk, rfl⟩ := List.mem_map.mp he
        have hk := List.mem_range.mp hk
        exact ⟨k, by omega, by simp⟩
      array_get_dec
      simp only [h1, h2]
      array_get_dec
      have sz : 1000 ≤ sizeLine := by decide
      refine ⟨by omega, by omega, by omega, by omega, rfl, by omega, by omega, ⟨by decide, by decide +kernel⟩, by omega, ?_⟩
      refine ⟨_, rfl, by simp, by simp, fun w hw => ⟨p, w, rfl, hp, okW6 w hw, _, rfl, iteF' rfl (hN' _ ⟨some _, some _, rfl⟩)⟩⟩
    · rintro _ ⟨x3, x4, rfl⟩
      exact hN _ ⟨some d, x3, x4, rfl⟩
  · rintro _ ⟨x2, x3, x4, rfl⟩
    exact hP
end K06

/-! K06c: k06, its row. -/
namespace K06
open PySem PySem.Spec PyProof.Rows L2 DL
abbrev top (i : Nat) : Stmt := PySem.Challenge.pw_oncerung_k06_errors_by_class.main.body.getD i (.Pass ⟨0, 0, 0, 0⟩)
abbrev s_law_begun : Stmt := top 22
abbrev p_law_begun : List Str := ["_law_script"]
abbrev n_law_begun : List Str := ["_law_script", "_law_large", "_law_cell"]
theorem sc_law_begun : FnScope n_law_begun p_law_begun (defScope s_law_begun) := ⟨rfl, rfl, rfl, by decide +kernel, rfl, by decide +kernel, by decide +kernel⟩
abbrev s_law_mixed : Stmt := top 23
abbrev p_law_mixed : List Str := ["_law_state"]
abbrev n_law_mixed : List Str := ["_law_state", "_law_found", "_law_prime", "_law_blend", "_law_cell"]
theorem sc_law_mixed : FnScope n_law_mixed p_law_mixed (defScope s_law_mixed) := ⟨rfl, rfl, rfl, by decide +kernel, rfl, by decide +kernel, by decide +kernel⟩
theorem c_law_mixed : chSs n_law_mixed (defScope s_law_mixed) bB_mixed (defBody s_law_mixed) = true := by decide +kernel
abbrev s_law_take : Stmt := top 24
abbrev p_law_take : List Str := ["_law_state", "_law_size"]
abbrev n_law_take : List Str := ["_law_state", "_law_size", "_law_found"]
theorem sc_law_take : FnScope n_law_take p_law_take (defScope s_law_take) := ⟨rfl, rfl, rfl, by decide +kernel, rfl, by decide +kernel, by decide +kernel⟩
theorem c_law_take : chSs n_law_take (defScope s_law_take) bB_take (defBody s_law_take) = true := by decide +kernel
abbrev s_law_pick : Stmt := top 25
abbrev p_law_pick : List Str := ["_law_state", "_law_some"]
abbrev n_law_pick : List Str := ["_law_state", "_law_some"]
theorem sc_law_pick : FnScope n_law_pick p_law_pick (defScope s_law_pick) := ⟨rfl, rfl, rfl, by decide +kernel, rfl, by decide +kernel, by decide +kernel⟩
theorem c_law_pick : chSs n_law_pick (defScope s_law_pick) bA_pick (defBody s_law_pick) = true := by decide +kernel
abbrev s_law_made : Stmt := top 26
abbrev p_law_made : List Str := ["_law_place", "_law_worth"]
abbrev n_law_made : List Str := ["_law_place", "_law_worth", "_law_message", "_law_some"]
theorem sc_law_made : FnScope n_law_made p_law_made (defScope s_law_made) := ⟨rfl, rfl, rfl, by decide +kernel, rfl, by decide +kernel, by decide +kernel⟩
theorem c_law_made : chSs n_law_made (defScope s_law_made) b_law_made (defBody s_law_made) = true := by decide +kernel
abbrev s_law_field : Stmt := top 27
abbrev p_law_field : List Str := ["_law_place", "_law_error"]
abbrev n_law_field : List Str := ["_law_place", "_law_error"]
theorem sc_law_field : FnScope n_law_field p_law_field (defScope s_law_field) := ⟨rfl, rfl, rfl, by decide +kernel, rfl, by decide +kernel, by decide +kernel⟩
theorem c_law_field : chSs n_law_field (defScope s_law_field) b_law_field (defBody s_law_field) = true := by decide +kernel
abbrev s_law_marks : Stmt := top 28
abbrev p_law_marks : List Str := ["_law_error"]
abbrev n_law_marks : List Str := ["_law_error", "_law_marks_here"]
theorem sc_law_marks : FnScope n_law_marks p_law_marks (defScope s_law_marks) := ⟨rfl, rfl, rfl, by decide +kernel, rfl, by decide +kernel, by decide +kernel⟩
theorem c_law_marks : chSs n_law_marks (defScope s_law_marks) b_law_marks (defBody s_law_marks) = true := by decide +kernel
abbrev s_law_right : Stmt := top 29
abbrev p_law_right : List Str := ["_law_place", "_law_worth"]
abbrev n_law_right : List Str := ["_law_place", "_law_worth", "_law_error", "_law_marks_here"]
theorem sc_law_right : FnScope n_law_right p_law_right (defScope s_law_right) := ⟨rfl, rfl, rfl, by decide +kernel, rfl, by decide +kernel, by decide +kernel⟩
theorem c_law_right : chSs n_law_right (defScope s_law_right) b_law_right (defBody s_law_right) = true := by decide +kernel
abbrev s_law : Stmt := top 30
abbrev p_law : List Str := ["_law_script"]
abbrev n_law : List Str := ["_law_script", "_law_state", "_law_turn", "_law_place", "_law_odd"]
theorem sc_law : FnScope n_law p_law (defScope s_law) := ⟨rfl, rfl, rfl, by decide +kernel, rfl, by decide +kernel, by decide +kernel⟩
theorem c_law : chSs n_law (defScope s_law) b_law ((defBody s_law).drop 1) = true := by decide +kernel
def costs : List (Str × Nat) := [("_law_mixed", 1), ("_law_take", 1), ("_law_pick", 1)]
def Γ0 : Gam := { con := fun x => none, fn := fun _ => none, kws := [], cost := fun x => (costs.lookup x).getD 0, ik := ["rest"], lk := ["large"], sk := ["cells"], tk := ["turn"], exc := ["OnceError", "ZeroDelayCycle", "UnknownBell", "FlawedTable", "TooMany", "InvalidConstraint", "InvalidFault", "UnknownName", "InUse", "NotTrue", "InvalidDeed", "InvalidLog", "InvalidText", "InvalidTime", "InvalidRow", "InvalidNumber", "InvalidNet", "InvalidTable", "InvalidClaim", "InvalidAnswer"], exn := ["InvalidTime", "InvalidRow", "InvalidNumber", "InvalidNet", "InvalidTable", "InvalidClaim", "InvalidAnswer"], sub := fun x y => decide (y = x) || decide (y = "OnceError"), exi := [("ZeroDelayCycle", "cycle"), ("UnknownBell", "name"), ("FlawedTable", "flaw"), ("TooMany", "limit"), ("InvalidConstraint", "at"), ("InvalidFault", "at"), ("UnknownName", "name"), ("InUse", "number"), ("NotTrue", "witness"), ("InvalidDeed", "at"), ("InvalidLog", "at"), ("InvalidText", "row")], ve := true }
abbrev Γ1 : Gam := Γ0.add "_law_mixed" ["_law_state"] (spMixed)
abbrev Γ2 : Gam := Γ1.add "_law_take" ["_law_state", "_law_size"] (spTake)
abbrev Γ3 : Gam := Γ2.add "_law_pick" ["_law_state", "_law_some"] (spPick)
abbrev Γ4 : Gam := Γ3.add "_law_made" ["_law_place", "_law_worth"] (spMade)
abbrev Γ5 : Gam := Γ4.add "_law_field" ["_law_place", "_law_error"] (spField)
abbrev Γ6 : Gam := Γ5.add "_law_marks" ["_law_error"] (spMarks)
abbrev Γ7 : Gam := Γ6.add "_law_right" ["_law_place", "_law_worth"] (spRight)
def d_law_begun : He.DefD := ⟨("_law_begun", none), "_law_begun", "_law_begun", defArgs s_law_begun, defBody s_law_begun, defScope s_law_begun, [], []⟩
def d_law_mixed : He.DefD := ⟨("_law_mixed", none), "_law_mixed", "_law_mixed", defArgs s_law_mixed, defBody s_law_mixed, defScope s_law_mixed, [], []⟩
def d_law_take : He.DefD := ⟨("_law_take", none), "_law_take", "_law_take", defArgs s_law_take, defBody s_law_take, defScope s_law_take, [], []⟩
def d_law_pick : He.DefD := ⟨("_law_pick", none), "_law_pick", "_law_pick", defArgs s_law_pick, defBody s_law_pick, defScope s_law_pick, [], []⟩
def d_law_made : He.DefD := ⟨("_law_made", none), "_law_made", "_law_made", defArgs s_law_made, defBody s_law_made, defScope s_law_made, [], []⟩
def d_law_field : He.DefD := ⟨("_law_field", none), "_law_field", "_law_field", defArgs s_law_field, defBody s_law_field, defScope s_law_field, [], []⟩
def d_law_marks : He.DefD := ⟨("_law_marks", none), "_law_marks", "_law_marks", defArgs s_law_marks, defBody s_law_marks, defScope s_law_marks, [], []⟩
def d_law_right : He.DefD := ⟨("_law_right", none), "_law_right", "_law_right", defArgs s_law_right, defBody s_law_right, defScope s_law_right, [], []⟩
def d_law : He.DefD := ⟨("law", none), "law", "law", defArgs s_law, defBody s_law, defScope s_law, [], []⟩
abbrev sI_ZeroDelayCycle : Stmt := match top 6 with | .ClassDef _ _ _ (st :: _) _ _ _ _ _ _ _ => st | st => st
def dI_ZeroDelayCycle : He.DefD := ⟨("ZeroDelayCycle", some "__init__"), "__init__", "ZeroDelayCycle.__init__", defArgs sI_ZeroDelayCycle, defBody sI_ZeroDelayCycle, defScope sI_ZeroDelayCycle, [], []⟩
abbrev sI_UnknownBell : Stmt := match top 7 with | .ClassDef _ _ _ (st :: _) _ _ _ _ _ _ _ => st | st => st
def dI_UnknownBell : He.DefD := ⟨("UnknownBell", some "__init__"), "__init__", "UnknownBell.__init__", defArgs sI_UnknownBell, defBody sI_UnknownBell, defScope sI_UnknownBell, [], []⟩
abbrev sI_FlawedTable : Stmt := match top 9 with | .ClassDef _ _ _ (st :: _) _ _ _ _ _ _ _ => st | st => st
def dI_FlawedTable : He.DefD := ⟨("FlawedTable", some "__init__"), "__init__", "FlawedTable.__init__", defArgs sI_FlawedTable, defBody sI_FlawedTable, defScope sI_FlawedTable, [], []⟩
abbrev sI_TooMany : Stmt := match top 14 with | .ClassDef _ _ _ (st :: _) _ _ _ _ _ _ _ => st | st => st
def dI_TooMany : He.DefD := ⟨("TooMany", some "__init__"), "__init__", "TooMany.__init__", defArgs sI_TooMany, defBody sI_TooMany, defScope sI_TooMany, [], []⟩
abbrev sI_InvalidConstraint : Stmt := match top 10 with | .ClassDef _ _ _ (st :: _) _ _ _ _ _ _ _ => st | st => st
def dI_InvalidConstraint : He.DefD := ⟨("InvalidConstraint", some "__init__"), "__init__", "InvalidConstraint.__init__", defArgs sI_InvalidConstraint, defBody sI_InvalidConstraint, defScope sI_InvalidConstraint, [], []⟩
abbrev sI_InvalidFault : Stmt := match top 13 with | .ClassDef _ _ _ (st :: _) _ _ _ _ _ _ _ => st | st => st
def dI_InvalidFault : He.DefD := ⟨("InvalidFault", some "__init__"), "__init__", "InvalidFault.__init__", defArgs sI_InvalidFault, defBody sI_InvalidFault, defScope sI_InvalidFault, [], []⟩
abbrev sI_UnknownName : Stmt := match top 15 with | .ClassDef _ _ _ (st :: _) _ _ _ _ _ _ _ => st | st => st
def dI_UnknownName : He.DefD := ⟨("UnknownName", some "__init__"), "__init__", "UnknownName.__init__", defArgs sI_UnknownName, defBody sI_UnknownName, defScope sI_UnknownName, [], []⟩
abbrev sI_InUse : Stmt := match top 16 with | .ClassDef _ _ _ (st :: _) _ _ _ _ _ _ _ => st | st => st
def dI_InUse : He.DefD := ⟨("InUse", some "__init__"), "__init__", "InUse.__init__", defArgs sI_InUse, defBody sI_InUse, defScope sI_InUse, [], []⟩
abbrev sI_NotTrue : Stmt := match top 17 with | .ClassDef _ _ _ (st :: _) _ _ _ _ _ _ _ => st | st => st
def dI_NotTrue : He.DefD := ⟨("NotTrue", some "__init__"), "__init__", "NotTrue.__init__", defArgs sI_NotTrue, defBody sI_NotTrue, defScope sI_NotTrue, [], []⟩
abbrev sI_InvalidDeed : Stmt := match top 18 with | .ClassDef _ _ _ (st :: _) _ _ _ _ _ _ _ => st | st => st
def dI_InvalidDeed : He.DefD := ⟨("InvalidDeed", some "__init__"), "__init__", "InvalidDeed.__init__", defArgs sI_InvalidDeed, defBody sI_InvalidDeed, defScope sI_InvalidDeed, [], []⟩
abbrev sI_InvalidLog : Stmt := match top 19 with | .ClassDef _ _ _ (st :: _) _ _ _ _ _ _ _ => st | st => st
def dI_InvalidLog : He.DefD := ⟨("InvalidLog", some "__init__"), "__init__", "InvalidLog.__init__", defArgs sI_InvalidLog, defBody sI_InvalidLog, defScope sI_InvalidLog, [], []⟩
abbrev sI_InvalidText : Stmt := match top 20 with | .ClassDef _ _ _ (st :: _) _ _ _ _ _ _ _ => st | st => st
def dI_InvalidText : He.DefD := ⟨("InvalidText", some "__init__"), "__init__", "InvalidText.__init__", defArgs sI_InvalidText, defBody sI_InvalidText, defScope sI_InvalidText, [], []⟩
def fn : List He.DefD := [d_law_begun, d_law_mixed, d_law_take, d_law_pick, d_law_made, d_law_field, d_law_marks, d_law_right, d_law, dI_ZeroDelayCycle, dI_UnknownBell, dI_FlawedTable, dI_TooMany, dI_InvalidConstraint, dI_InvalidFault, dI_UnknownName, dI_InUse, dI_NotTrue, dI_InvalidDeed, dI_InvalidLog, dI_InvalidText]
def fa : List He.Fa := [.glo "_law_begun", .glo "_law_mixed", .glo "_law_take", .glo "_law_pick", .glo "_law_made", .glo "_law_field", .glo "_law_marks", .glo "_law_right", .glo "law", .glo "OnceError", .glo "ZeroDelayCycle", .glo "UnknownBell", .glo "FlawedTable", .glo "TooMany", .glo "InvalidConstraint", .glo "InvalidFault", .glo "UnknownName", .glo "InUse", .glo "NotTrue", .glo "InvalidDeed", .glo "InvalidLog", .glo "InvalidText", .glo "InvalidTime", .glo "InvalidRow", .glo "InvalidNumber", .glo "InvalidNet", .glo "InvalidTable", .glo "InvalidClaim", .glo "InvalidAnswer", .free "len", .free "isinstance", .free "all", .free "any", .free "list", .free "tuple", .free "min", .free "max", .free "abs", .free "int", .free "repr", .free "range", .free "bool", .free "str", .free "dict", .free "sorted", .free "set", .free "sum", .free "zip", .free "enumerate", .free "ValueError"]
def tf : List He.Defn := []
def ex (K : PySem.W.Frag) : Bool := famB Γ0.sub ["OnceError", "ZeroDelayCycle", "UnknownBell", "FlawedTable", "TooMany", "InvalidConstraint", "InvalidFault", "UnknownName", "InUse", "NotTrue", "InvalidDeed", "InvalidLog", "InvalidText", "InvalidTime", "InvalidRow", "InvalidNumber", "InvalidNet", "InvalidTable", "InvalidClaim", "InvalidAnswer"] ["InvalidTime", "InvalidRow", "InvalidNumber", "InvalidNet", "InvalidTable", "InvalidClaim", "InvalidAnswer"] tf K && moreB [("ZeroDelayCycle", "cycle"), ("UnknownBell", "name"), ("FlawedTable", "flaw"), ("TooMany", "limit"), ("InvalidConstraint", "at"), ("InvalidFault", "at"), ("UnknownName", "name"), ("InUse", "number"), ("NotTrue", "witness"), ("InvalidDeed", "at"), ("InvalidLog", "at"), ("InvalidText", "row")] ["OnceError", "ZeroDelayCycle", "UnknownBell", "FlawedTable", "TooMany", "InvalidConstraint", "InvalidFault", "UnknownName", "InUse", "NotTrue", "InvalidDeed", "InvalidLog", "InvalidText", "InvalidTime", "InvalidRow", "InvalidNumber", "InvalidNet", "InvalidTable", "InvalidClaim", "InvalidAnswer"] K
abbrev R : PySem.W.OpenRow := PySem.W.OpenLaw.row PySem.Challenge.rw_oncerung_k06_errors_by_class
abbrev hk : PySem.W.Hook := He.hookX 4 fa fn [] tf ex
def ob (s : PySem.W.SharedT) : He.AlX := He.obsX 4 fa fn [] tf ex (HandSHeadRun.getT s)
theorem ob_eq (s : PySem.W.SharedT) : ob s = hk.obs s.abs := He.obsX_eq (HandSHeadRun.getT_eq s)
def loose : List Str := ["OnceError", "InvalidTime", "InvalidRow", "InvalidNumber", "InvalidNet", "ZeroDelayCycle", "UnknownBell", "InvalidTable", "FlawedTable", "InvalidConstraint", "InvalidClaim", "InvalidAnswer", "InvalidFault", "TooMany", "UnknownName", "InUse", "NotTrue", "InvalidDeed", "InvalidLog", "InvalidText", "_law_begun", "_law_mixed", "_law_take", "_law_pick", "_law_made", "_law_field", "_law_marks", "_law_right"]
theorem run (w : World) : HandSHeadRun.RunEq R (PySem.W.view R.prog [30]) hk ob 6000 loose w := by
  intro os
  kernel_rfl
theorem kw1 {x : Str} {kws : List (Str × List Str)} {ks ks0 : List Str} (hm : (x, ks) ∈ kws) (h : (kws.all fun p => decide (p.1 ≠ x) || decide (p.2 = ks0)) = true) : ks = ks0 := by
  have := List.all_eq_true.mp h _ hm
  simpa using this
theorem chain {P : Program} {w : World} {K : PySem.W.Frag} {mg : Str → Option Value} {base : Heap} {a g c : Addr} {cells : List Int} {top : Nat} {e1 e2 e3 e4 e5 e6 e7 : FuncData} (W0 : Wd P w K mg base (stG P w K mg a g c "large" "cells" "rest" "turn" cells top (tabQ K tf)) Γ0 0) (nd : (tf.map fun p => (He.cT K p).2).Nodup) (TB : ∀ p ∈ tf.map (He.cT K), LamX.TabB base mg p.1 p.2)
    (F1 : FD K "_law_mixed" s_law_mixed (He.fAd K ("_law_mixed", none)) e1) (g1 : mg "_law_mixed" = some (.ref (He.fAd K ("_law_mixed", none))))
    (F2 : FD K "_law_take" s_law_take (He.fAd K ("_law_take", none)) e2) (g2 : mg "_law_take" = some (.ref (He.fAd K ("_law_take", none))))
    (F3 : FD K "_law_pick" s_law_pick (He.fAd K ("_law_pick", none)) e3) (g3 : mg "_law_pick" = some (.ref (He.fAd K ("_law_pick", none))))
    (F4 : FD K "_law_made" s_law_made (He.fAd K ("_law_made", none)) e4) (g4 : mg "_law_made" = some (.ref (He.fAd K ("_law_made", none))))
    (F5 : FD K "_law_field" s_law_field (He.fAd K ("_law_field", none)) e5) (g5 : mg "_law_field" = some (.ref (He.fAd K ("_law_field", none))))
    (F6 : FD K "_law_marks" s_law_marks (He.fAd K ("_law_marks", none)) e6) (g6 : mg "_law_marks" = some (.ref (He.fAd K ("_law_marks", none))))
    (F7 : FD K "_law_right" s_law_right (He.fAd K ("_law_right", none)) e7) (g7 : mg "_law_right" = some (.ref (He.fAd K ("_law_right", none)))) : Wd P w K mg base (stG P w K mg a g c "large" "cells" "rest" "turn" cells top (tabQ K tf)) Γ7 7 := by
  have W1 := W0.def_ (sp := spMixed) F1 g1 (F1.bindsN fun _ _ _ _ _ _ us hl => match us, hl with | [_], _ => rfl) (noKw (by decide +kernel)) sc_law_mixed bB_mixed rfl rfl c_law_mixed (by decide +kernel) (fun ds Pd EP _ q => lawB_mixed (by decide) (by decide) ds Pd EP q)
  have W2 := W1.def_ (sp := spTake) F2 g2 (F2.bindsN fun _ _ _ _ _ _ us hl => match us, hl with | [_, _], _ => rfl) (noKw (by decide +kernel)) sc_law_take bB_take rfl rfl c_law_take (by decide +kernel) (fun ds Pd EP _ q => lawB_take (by decide) (by decide) rfl ds Pd EP q)
  have W3 := W2.def_ (sp := spPick) F3 g3 (F3.bindsN fun _ _ _ _ _ _ us hl => match us, hl with | [_, _], _ => rfl) (noKw (by decide +kernel)) sc_law_pick bA_pick rfl rfl c_law_pick (by decide +kernel) (fun ds Pd EP _ q => lawB_pick rfl ds Pd EP q)
  have W4 := W3.def_ (sp := spMade) F4 g4 (F4.bindsN fun _ _ _ _ _ _ us hl => match us, hl with | [_, _], _ => rfl) (noKw (by decide +kernel)) sc_law_made b_law_made rfl rfl c_law_made (by decide +kernel) (fun ds Pd EP _ q => law_law_made rfl rfl ds Pd EP q)
  have W5 := W4.def_ (sp := spField) F5 g5 (F5.bindsN fun _ _ _ _ _ _ us hl => match us, hl with | [_, _], _ => rfl) (noKw (by decide +kernel)) sc_law_field b_law_field rfl rfl c_law_field (by decide +kernel) (fun ds Pd EP _ q => law_law_field rfl ds Pd EP q)
  have W6 := W5.def_ (sp := spMarks) F6 g6 (F6.bindsN fun _ _ _ _ _ _ us hl => match us, hl with | [_], _ => rfl) (noKw (by decide +kernel)) sc_law_marks b_law_marks rfl rfl c_law_marks (by decide +kernel) (fun ds Pd EP _ q => law_law_marks rfl rfl ds Pd EP q)
  have W7 := W6.def_ (sp := spRight) F7 g7 (F7.bindsN fun _ _ _ _ _ _ us hl => match us, hl with | [_, _], _ => rfl) (noKw (by decide +kernel)) sc_law_right b_law_right rfl rfl c_law_right (by decide +kernel) (fun ds Pd EP _ q => law_law_right rfl rfl rfl rfl rfl rfl ds Pd EP q)
  exact W7
theorem c_begun : bgB n_law_begun (defScope s_law_begun) "large" "cells" "rest" "turn" mB1 mB2 (defBody s_law_begun) = true := by decide +kernel
theorem c_lawS : lawS n_law (defScope s_law) "_law_begun" (defBody s_law) = true := by decide +kernel
theorem sub_mem {xs ys : List Str} (h : (xs.all fun x => decide (x ∈ ys)) = true) {x : Str} (hx : x ∈ xs) : x ∈ ys := of_decide_eq_true (List.all_eq_true.mp h x hx)
theorem facts {P : Program} {w : World} {K : PySem.W.Frag} {h : Heap} {mg : Str → Option Value} {f : Addr} (X : K.In h) (Gn : h.Ns mainGlobals mg) (hfa : mg ("law" : Str) = some (.ref f)) (c : He.SaysD fa fn K) (fam : Fam K Γ0.sub ["OnceError", "ZeroDelayCycle", "UnknownBell", "FlawedTable", "TooMany", "InvalidConstraint", "InvalidFault", "UnknownName", "InUse", "NotTrue", "InvalidDeed", "InvalidLog", "InvalidText", "InvalidTime", "InvalidRow", "InvalidNumber", "InvalidNet", "InvalidTable", "InvalidClaim", "InvalidAnswer"] ["InvalidTime", "InvalidRow", "InvalidNumber", "InvalidNet", "InvalidTable", "InvalidClaim", "InvalidAnswer"] tf) (mo : moreB [("ZeroDelayCycle", "cycle"), ("UnknownBell", "name"), ("FlawedTable", "flaw"), ("TooMany", "limit"), ("InvalidConstraint", "at"), ("InvalidFault", "at"), ("UnknownName", "name"), ("InUse", "number"), ("NotTrue", "witness"), ("InvalidDeed", "at"), ("InvalidLog", "at"), ("InvalidText", "row")] ["OnceError", "ZeroDelayCycle", "UnknownBell", "FlawedTable", "TooMany", "InvalidConstraint", "InvalidFault", "UnknownName", "InUse", "NotTrue", "InvalidDeed", "InvalidLog", "InvalidText", "InvalidTime", "InvalidRow", "InvalidNumber", "InvalidNet", "InvalidTable", "InvalidClaim", "InvalidAnswer"] K = true) :
    ∃ fd, (∀ (s : Shared) (v : Value), BindsTo s fd ⟨[v], []⟩ [("_law_script", v)]) ∧ ∀ base : Heap, K.In base → base.Ns mainGlobals mg → (∀ p ∈ tf.map (He.cT K), LamX.TabB base mg p.1 p.2) → FnG P w K mg base 8 f fd ["_law_script"] (spLaw K (tabQ K tf)) := by
  obtain ⟨eB, FB⟩ := c.def_ 0 (d := d_law_begun) rfl
  have gB := He.glo_ok X Gn (c.fact 0 (f := .glo "_law_begun") rfl)
  obtain ⟨e1, F1⟩ := c.def_ 1 (d := d_law_mixed) rfl
  have g1 := He.glo_ok X Gn (c.fact 1 (f := .glo "_law_mixed") rfl)
  obtain ⟨e2, F2⟩ := c.def_ 2 (d := d_law_take) rfl
  have g2 := He.glo_ok X Gn (c.fact 2 (f := .glo "_law_take") rfl)
  obtain ⟨e3, F3⟩ := c.def_ 3 (d := d_law_pick) rfl
  have g3 := He.glo_ok X Gn (c.fact 3 (f := .glo "_law_pick") rfl)
  obtain ⟨e4, F4⟩ := c.def_ 4 (d := d_law_made) rfl
  have g4 := He.glo_ok X Gn (c.fact 4 (f := .glo "_law_made") rfl)
  obtain ⟨e5, F5⟩ := c.def_ 5 (d := d_law_field) rfl
  have g5 := He.glo_ok X Gn (c.fact 5 (f := .glo "_law_field") rfl)
  obtain ⟨e6, F6⟩ := c.def_ 6 (d := d_law_marks) rfl
  have g6 := He.glo_ok X Gn (c.fact 6 (f := .glo "_law_marks") rfl)
  obtain ⟨e7, F7⟩ := c.def_ 7 (d := d_law_right) rfl
  have g7 := He.glo_ok X Gn (c.fact 7 (f := .glo "_law_right") rfl)
  obtain ⟨eL, FL⟩ := c.def_ 8 (d := d_law) rfl
  have eL := hfa.symm.trans (He.glo_ok X Gn (c.fact 8 (f := .glo "law") rfl))
  cases eL
  have fr : ∀ x ∈ frNames, mg x = none := by
    intro x hx
    simp only [frNames, List.mem_cons, List.not_mem_nil, or_false] at hx
    rcases hx with rfl | rfl | rfl | rfl | rfl | rfl | rfl | rfl | rfl | rfl | rfl | rfl | rfl | rfl | rfl | rfl | rfl | rfl | rfl | rfl
    · exact He.free_ok X Gn (c.fact 29 (f := .free "len") rfl)
    · exact He.free_ok X Gn (c.fact 30 (f := .free "isinstance") rfl)
    · exact He.free_ok X Gn (c.fact 31 (f := .free "all") rfl)
    · exact He.free_ok X Gn (c.fact 32 (f := .free "any") rfl)
    · exact He.free_ok X Gn (c.fact 33 (f := .free "list") rfl)
    · exact He.free_ok X Gn (c.fact 34 (f := .free "tuple") rfl)
    · exact He.free_ok X Gn (c.fact 35 (f := .free "min") rfl)
    · exact He.free_ok X Gn (c.fact 36 (f := .free "max") rfl)
    · exact He.free_ok X Gn (c.fact 37 (f := .free "abs") rfl)
    · exact He.free_ok X Gn (c.fact 38 (f := .free "int") rfl)
    · exact He.free_ok X Gn (c.fact 39 (f := .free "repr") rfl)
    · exact He.free_ok X Gn (c.fact 40 (f := .free "range") rfl)
    · exact He.free_ok X Gn (c.fact 41 (f := .free "bool") rfl)
    · exact He.free_ok X Gn (c.fact 42 (f := .free "str") rfl)
    · exact He.free_ok X Gn (c.fact 43 (f := .free "dict") rfl)
    · exact He.free_ok X Gn (c.fact 44 (f := .free "sorted") rfl)
    · exact He.free_ok X Gn (c.fact 45 (f := .free "set") rfl)
    · exact He.free_ok X Gn (c.fact 46 (f := .free "sum") rfl)
    · exact He.free_ok X Gn (c.fact 47 (f := .free "zip") rfl)
    · exact He.free_ok X Gn (c.fact 48 (f := .free "enumerate") rfl)
  have gx : ∀ x ∈ (["OnceError", "ZeroDelayCycle", "UnknownBell", "FlawedTable", "TooMany", "InvalidConstraint", "InvalidFault", "UnknownName", "InUse", "NotTrue", "InvalidDeed", "InvalidLog", "InvalidText", "InvalidTime", "InvalidRow", "InvalidNumber", "InvalidNet", "InvalidTable", "InvalidClaim", "InvalidAnswer"] : List Str), mg x = some (.ref (He.ga K x)) := by
    intro x hx
    simp only [List.mem_cons, List.not_mem_nil, or_false] at hx
    rcases hx with rfl | rfl | rfl | rfl | rfl | rfl | rfl | rfl | rfl | rfl | rfl | rfl | rfl | rfl | rfl | rfl | rfl | rfl | rfl | rfl
    · exact He.glo_ok X Gn (c.fact 9 (f := .glo "OnceError") rfl)
    · exact He.glo_ok X Gn (c.fact 10 (f := .glo "ZeroDelayCycle") rfl)
    · exact He.glo_ok X Gn (c.fact 11 (f := .glo "UnknownBell") rfl)
    · exact He.glo_ok X Gn (c.fact 12 (f := .glo "FlawedTable") rfl)
    · exact He.glo_ok X Gn (c.fact 13 (f := .glo "TooMany") rfl)
    · exact He.glo_ok X Gn (c.fact 14 (f := .glo "InvalidConstraint") rfl)
    · exact He.glo_ok X Gn (c.fact 15 (f := .glo "InvalidFault") rfl)
    · exact He.glo_ok X Gn (c.fact 16 (f := .glo "UnknownName") rfl)
    · exact He.glo_ok X Gn (c.fact 17 (f := .glo "InUse") rfl)
    · exact He.glo_ok X Gn (c.fact 18 (f := .glo "NotTrue") rfl)
    · exact He.glo_ok X Gn (c.fact 19 (f := .glo "InvalidDeed") rfl)
    · exact He.glo_ok X Gn (c.fact 20 (f := .glo "InvalidLog") rfl)
    · exact He.glo_ok X Gn (c.fact 21 (f := .glo "InvalidText") rfl)
    · exact He.glo_ok X Gn (c.fact 22 (f := .glo "InvalidTime") rfl)
    · exact He.glo_ok X Gn (c.fact 23 (f := .glo "InvalidRow") rfl)
    · exact He.glo_ok X Gn (c.fact 24 (f := .glo "InvalidNumber") rfl)
    · exact He.glo_ok X Gn (c.fact 25 (f := .glo "InvalidNet") rfl)
    · exact He.glo_ok X Gn (c.fact 26 (f := .glo "InvalidTable") rfl)
    · exact He.glo_ok X Gn (c.fact 27 (f := .glo "InvalidClaim") rfl)
    · exact He.glo_ok X Gn (c.fact 28 (f := .glo "InvalidAnswer") rfl)
  have gv := He.free_ok X Gn (c.fact 49 (f := .free "ValueError") rfl)
  obtain ⟨eI0, FI0⟩ := c.def_ 9 (d := dI_ZeroDelayCycle) rfl
  obtain ⟨eI1, FI1⟩ := c.def_ 10 (d := dI_UnknownBell) rfl
  obtain ⟨eI2, FI2⟩ := c.def_ 11 (d := dI_FlawedTable) rfl
  obtain ⟨eI3, FI3⟩ := c.def_ 12 (d := dI_TooMany) rfl
  obtain ⟨eI4, FI4⟩ := c.def_ 13 (d := dI_InvalidConstraint) rfl
  obtain ⟨eI5, FI5⟩ := c.def_ 14 (d := dI_InvalidFault) rfl
  obtain ⟨eI6, FI6⟩ := c.def_ 15 (d := dI_UnknownName) rfl
  obtain ⟨eI7, FI7⟩ := c.def_ 16 (d := dI_InUse) rfl
  obtain ⟨eI8, FI8⟩ := c.def_ 17 (d := dI_NotTrue) rfl
  obtain ⟨eI9, FI9⟩ := c.def_ 18 (d := dI_InvalidDeed) rfl
  obtain ⟨eI10, FI10⟩ := c.def_ 19 (d := dI_InvalidLog) rfl
  obtain ⟨eI11, FI11⟩ := c.def_ 20 (d := dI_InvalidText) rfl
  have fI : ∀ p ∈ ([("ZeroDelayCycle", "cycle"), ("UnknownBell", "name"), ("FlawedTable", "flaw"), ("TooMany", "limit"), ("InvalidConstraint", "at"), ("InvalidFault", "at"), ("UnknownName", "name"), ("InUse", "number"), ("NotTrue", "witness"), ("InvalidDeed", "at"), ("InvalidLog", "at"), ("InvalidText", "row")] : List (Str × Str)), kwNo K (He.fAd K (p.1, some "__init__")) = true → InitFn K p.1 p.2 := by
    intro p hp hk
    simp only [List.mem_cons, List.not_mem_nil, or_false] at hp
    rcases hp with rfl | rfl | rfl | rfl | rfl | rfl | rfl | rfl | rfl | rfl | rfl | rfl
    · exact initFn_of hk FI0
    · exact initFn_of hk FI1
    · exact initFn_of hk FI2
    · exact initFn_of hk FI3
    · exact initFn_of hk FI4
    · exact initFn_of hk FI5
    · exact initFn_of hk FI6
    · exact initFn_of hk FI7
    · exact initFn_of hk FI8
    · exact initFn_of hk FI9
    · exact initFn_of hk FI10
    · exact initFn_of hk FI11
  have b := FunD.bindsA (ps := ["_law_script"]) FL fun _ _ _ _ _ _ us hl => match us, hl with | [_], _ => rfl
  refine ⟨_, fun s v => b s [v] rfl, fun base _ _ TB => ?_⟩
  have W0 : ∀ a g c cells, g ≠ c → cells.length ≤ 63 → Wd P w K mg base (stG P w K mg a g c "large" "cells" "rest" "turn" cells (coSs Γ7 b_law) (tabQ K tf)) Γ0 0 := fun a g c cells hgc hl =>
    { hK := rfl
      hP := rfl
      hw := rfl
      hmg := rfl
      con := fun _ _ e => (nomatch e)
      fn := fun _ _ _ e => (nomatch e)
      free := fr
      exc := fun x hx => (by
        rw [ca_ok (gx x hx)]
        exact own_ok (fam.own x hx) (gx x hx))
      exs := fun x hx y hy => (by
        rw [ca_ok (gx x hx), ca_ok (gx y hy)]
        exact fam.two x hx y hy)
      exn := fun x hx => (by
        have hx2 : x ∈ (["OnceError", "ZeroDelayCycle", "UnknownBell", "FlawedTable", "TooMany", "InvalidConstraint", "InvalidFault", "UnknownName", "InUse", "NotTrue", "InvalidDeed", "InvalidLog", "InvalidText", "InvalidTime", "InvalidRow", "InvalidNumber", "InvalidNet", "InvalidTable", "InvalidClaim", "InvalidAnswer"] : List Str) := sub_mem (by decide +kernel) hx
        rw [ca_ok (gx x hx2)]
        exact ⟨hx2, fam.ini x hx⟩)
      more := more_of mo rfl gx gv (by decide +kernel) fI
      fnv := fun _ _ e => (nomatch e)
      res := .inr (stG_res (by decide +kernel) (Nat.le_trans hl (by decide)) hgc (by decide) (by decide) (by decide) (by decide) (by decide) (by decide)) }
  have CH := fun a g c cells h1 h2 => chain (W0 a g c cells h1 h2) fam.nd TB F1 g1 F2 g2 F3 g3 F4 g4 F5 g5 F6 g6 F7 g7
  have FBg : FnG P w K mg base 1 _ eB ["_law_script"] (spBegun K "large" "cells" "rest" "turn" cellsB) := fn_begun FB sc_law_begun rfl rfl fr (by decide) (by decide) (by decide) (by decide) (by decide) (by decide) rfl c_begun (by decide +kernel) (by decide +kernel) lawB_b1 lawB_b2
  exact fn_law (bg := "_law_begun") (k := 7) (j := 7) FL sc_law rfl gB FB.kp (FunD.bindsN FB fun _ _ _ _ _ _ us hl => match us, hl with | [_], _ => rfl) (FBg.mono (by decide : 1 ≤ 7)) (fun ns => by simp [cellsB])
    (fun a g c cells h1 h2 => CH a g c cells h1 h2) (fun _ _ _ _ _ _ => lam_no rfl (Nat.le_refl _)) rfl c_lawS c_law fun ns Pd EP hn hP => K06.law_law rfl rfl ns hn Pd EP hP
end K06
open PySem PySem.W PySem.Calls PyProof.Rows
theorem PySem.Challenge.cw_oncerung_k06_errors_by_class_holds : PySem.Challenge.rw_oncerung_k06_errors_by_class.Holds := by
  w_on; o_law
  refine HandSHeadRun.head_any (r := K06.R) (q := view K06.R.prog [30]) (H := K06.hk) (ob := K06.ob) (M := 6000) (loose := K06.loose) (d := HandSHeadRun.topDef K06.R.prog 30) (kwd := []) K06.ob_eq
    (by kernel_rfl) (fun s => by kernel_rfl) K06.run (by kernel_rfl) (by kernel_rfl) (by kernel_rfl) (by rfl) (by first | assumption | decide +kernel) (by decide +kernel) ⟨rfl, rfl, rfl, rfl, rfl, by decide +kernel⟩ ?hw ?hc
  case hw => w_witness2
  case hc =>
    refine DL.walkG (l := PySem.Challenge.rw_oncerung_k06_errors_by_class) (k := 8) (x := "_law_script") rfl (by kernel_rfl) ⟨rfl, by decide, by decide⟩ ?_
    intro w mg fa h Y G hmg0
    obtain ⟨K, KX, c⟩ := Y
    have hmg : mg ("law" : PySem.Str) = some (.ref fa) := by
      have e : (HandSHeadRun.topDef K06.R.prog 30).name = ("law" : PySem.Str) := by kernel_rfl
      rw [← e]
      exact hmg0
    obtain ⟨fd, hb, hF⟩ := K06.facts (P := (PySem.Challenge.rw_oncerung_k06_errors_by_class).prog) (w := w) KX G hmg c.t.d (DL.fam_ok (Bool.and_eq_true_iff.mp c.more).1) (Bool.and_eq_true_iff.mp c.more).2
    obtain ⟨t1, t2, t3, t4, t5⟩ := DL.heads KX c
    exact ⟨K, fd, _, _, KX, t1, t2, t3, t4, t5, hb, hF⟩

