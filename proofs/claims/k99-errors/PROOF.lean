import PyProof.Rows.All
import Wide.All
import OpenK.AllK
import Wide.FinOn
import HandS.ForMost
import HandS.Exc
import HandS.Evl
import HandS.Wide
import HandS.Gcd
import HandS.ExcInit
import HandS.TupAny
import HandS.TupMul
import HandS.IsInst
import HandS.WordsExc
import HandS.ExcOwn
import HandS.Defaults
import HandS.Deep
import HandS.Style
import HandS.Walk
import HandS.ExcField
import HandS.ExcIs
import HandS.MakeKwOnly
import PyProof.ExcBaseAll.LookupError
import PyProof.ExcBaseAll.OverflowError
import PyProof.ExcBaseAll.ValueError
import KE.KExcMore
import KE.KIsAll
import OpenK.KDescr
import HandS.RaiseMore
import HandS.Ends
import HandS.Words
import PyProof.NoPylong
import PySem.Challenge.RW_sumsettled_k99_errors_by_hand
set_option Elab.async false
set_option linter.all false
set_option maxRecDepth 100000
set_option maxHeartbeats 4000000
/-! Fx1: data as values. A def's body as a function over immutable data, with lists and dicts that one slot owns. -/
namespace Fx
open PySem L2 Evl

abbrev D := PyData

/-- a class's own exception while it is made: its arguments' tuple at t -/
def exi (a C t : Addr) (d : Option Addr) : HO := .ext fun h => h.get? a = some ({ cls := .ref C, dict := d, data := .fields #[.ref t, .none, .none, .none, .bool false, .none] } : Obj)
/-- an exception of the class at C, its arguments at t, its dict at d -/
def exv (a C t : Addr) (d : Option Addr) : HO := .ext fun h => ∃ (oe : Obj) (vs : Array Value), h.get? a = some oe ∧ oe.cls = .ref C ∧ oe.dict = d ∧ oe.data = .fields vs ∧ vs[0]? = some (.ref t)
/-- what is told of an exception's message -/
def MsOk (H : Hp) (t : Addr) : PyData → Prop
  | .none => True
  | .str m => H t = some (.tup [.str m])
  | _ => False

/-! ### data: lists are lists of the run, tuples may be written ones -/
mutual
inductive DR (K : PySem.W.Frag) (H : Hp) : V → PyData → Prop
  | non : DR K H .non .none
  | bl (b : Bool) : DR K H (.bl b) (.bool b)
  | int (i : Int) : DR K H (.int i) (.int i)
  | str (x : Str) : DR K H (.str x) (.str x)
  | lst {a : Addr} {xs : List V} {ds : List PyData} : H a = some (.lst xs) → DRAll K H xs ds → DR K H (.ref a) (.list ds)
  | tup {a : Addr} {xs : List V} {ds : List PyData} : SqT K H a xs → DRAll K H xs ds → DR K H (.ref a) (.tuple ds)
  | inst {a C t dx : Addr} {f : Str} {v : V} {m x : PyData} : H a = some (exv a C t (some dx)) → H dx = some (exd dx [(f, v)]) → MsOk H t m → DR K H v x → DR K H (.ref a) (.dict [(.int C, m), (.str f, x)])
  | ro {a : Addr} {xs : List V} {ds : List PyData} : SqL K H a xs → DRAll K H xs ds → DR K H (.ref a) (.dict [(.none, .list ds)])
inductive DRAll (K : PySem.W.Frag) (H : Hp) : List V → List PyData → Prop
  | nil : DRAll K H [] []
  | cons {v : V} {vs : List V} {d : PyData} {ds : List PyData} : DR K H v d → DRAll K H vs ds → DRAll K H (v :: vs) (d :: ds)
end
/-! no exception within -/
mutual
def plain : PyData → Bool
  | .list ds => plainAll ds
  | .tuple ds => plainAll ds
  | .dict _ => false
  | _ => true
def plainAll : List PyData → Bool
  | [] => true
  | d :: ds => plain d && plainAll ds
end
mutual
theorem dr_dp {K : PySem.W.Frag} {H : Hp} : ∀ (d : PyData) (v : V), plain d = true → DR K H v d → Dp K H v d
  | .none, _, _, h => by cases h; exact .non
  | .bool b, _, _, h => by cases h; exact .bl b
  | .int i, _, _, h => by cases h; exact .int i
  | .str x, _, _, h => by cases h; exact .str x
  | .list ds, _, hp, h => by
    cases h with
    | lst hs ha => exact .lst (sq_of hs) (dr_dpAll ds _ (by rw [plain] at hp; exact hp) ha)
  | .tuple ds, _, hp, h => by
    cases h with
    | tup hs ha => exact .tup hs (dr_dpAll ds _ (by rw [plain] at hp; exact hp) ha)
  | .dict _, _, hp, h => by rw [plain] at hp; cases hp
theorem dr_dpAll {K : PySem.W.Frag} {H : Hp} : ∀ (ds : List PyData) (vs : List V), plainAll ds = true → DRAll K H vs ds → DpAll K H vs ds
  | [], _, _, h => by cases h; exact .nil
  | d :: ds, _, hp, h => by
    rw [plainAll, Bool.and_eq_true] at hp
    cases h with
    | cons h1 h2 => exact .cons (dr_dp d _ hp.1 h1) (dr_dpAll ds _ hp.2 h2)
end
theorem ex_l {K : PySem.W.Frag} {H H' : Hp} {a : Addr} {xs : List V} (e : Ex H H') (h : SqL K H a xs) : SqL K H' a xs := by
  rcases h with h | h
  · exact Or.inl (ex_rd e h)
  · exact Or.inr h
theorem msOk_up {G H : Hp} (e : Ex G H) {t : Addr} {m : PyData} (h : MsOk G t m) : MsOk H t m := by
  cases m with
  | none => trivial
  | str x => exact e _ _ h
  | _ => exact h.elim
/-! ### the data relation grows with the heap -/
mutual
theorem dp_mono {K : PySem.W.Frag} {G H : Hp} (e : Ex G H) : ∀ (d : PyData) (v : V), DR K G v d → DR K H v d
  | .none, _, h => by cases h; exact .non
  | .bool b, _, h => by cases h; exact .bl b
  | .int i, _, h => by cases h; exact .int i
  | .str x, _, h => by cases h; exact .str x
  | .list ds, _, h => by
    cases h with
    | lst hs ha => exact .lst (e _ _ hs) (dp_monoAll e ds _ ha)
  | .tuple ds, _, h => by
    cases h with
    | tup hs ha => exact .tup (ex_t e hs) (dp_monoAll e ds _ ha)
  | .dict [(_, _), (_, x)], _, h => by
    cases h with
    | inst h1 h2 h3 h4 => exact .inst (e _ _ h1) (e _ _ h2) (msOk_up e h3) (dp_mono e x _ h4)
  | .dict [], _, h => by cases h
  | .dict [(_, .list ds)], _, h => by
    cases h with
    | ro h1 h2 => exact .ro (ex_l e h1) (dp_monoAll e ds _ h2)
  | .dict [(_, .none)], _, h => by cases h
  | .dict [(_, .bool _)], _, h => by cases h
  | .dict [(_, .int _)], _, h => by cases h
  | .dict [(_, .str _)], _, h => by cases h
  | .dict [(_, .tuple _)], _, h => by cases h
  | .dict [(_, .dict _)], _, h => by cases h
  | .dict (_ :: _ :: _ :: _), _, h => by cases h
theorem dp_monoAll {K : PySem.W.Frag} {G H : Hp} (e : Ex G H) : ∀ (ds : List PyData) (vs : List V), DRAll K G vs ds → DRAll K H vs ds
  | [], _, h => by cases h; exact .nil
  | d :: ds, _, h => by
    cases h with
    | cons h1 h2 => exact .cons (dp_mono e d _ h1) (dp_monoAll e ds _ h2)
end
theorem DR.up {K : PySem.W.Frag} {G H : Hp} {v : V} {d : PyData} (h : DR K G v d) (e : Ex G H) : DR K H v d := dp_mono e d v h
theorem DRAll.up {K : PySem.W.Frag} {G H : Hp} {vs : List V} {ds : List PyData} (h : DRAll K G vs ds) (e : Ex G H) : DRAll K H vs ds := dp_monoAll e ds vs h
theorem dpAll_len {K : PySem.W.Frag} {G : Hp} : ∀ {vs : List V} {ds : List PyData}, DRAll K G vs ds → vs.length = ds.length
  | _, [], h => by cases h; rfl
  | _, d :: ds, h => by
    cases h with
    | cons h1 h2 => simp [dpAll_len h2]
theorem dpAll_get {K : PySem.W.Frag} {G : Hp} : ∀ {vs : List V} {ds : List PyData} {i : Nat} {d : PyData}, DRAll K G vs ds → ds[i]? = some d → ∃ v, vs[i]? = some v ∧ DR K G v d
  | _, [], _, _, _, e => by simp at e
  | _, d :: ds, 0, _, h, e => by
    cases h with
    | cons h1 h2 => simp at e; subst e; exact ⟨_, rfl, h1⟩
  | _, d :: ds, i + 1, _, h, e => by
    cases h with
    | cons h1 h2 =>
      obtain ⟨v, a, b⟩ := dpAll_get (i := i) h2 (by simpa using e)
      exact ⟨v, by simpa using a, b⟩
theorem dpAll_getV {K : PySem.W.Frag} {G : Hp} {vs : List V} {ds : List PyData} {i : Nat} {v : V} (h : DRAll K G vs ds) (e : vs[i]? = some v) : ∃ d, ds[i]? = some d ∧ DR K G v d := by
  have hl := dpAll_len h
  have hi : i < vs.length := (List.getElem?_eq_some_iff.mp e).1
  have hi' : i < ds.length := by omega
  obtain ⟨u, a, b⟩ := dpAll_get h (List.getElem?_eq_getElem hi')
  rw [e] at a
  cases a
  exact ⟨_, List.getElem?_eq_getElem hi', b⟩
theorem dpAll_app {K : PySem.W.Frag} {G : Hp} : ∀ {vs us : List V} {ds es : List PyData}, DRAll K G vs ds → DRAll K G us es → DRAll K G (vs ++ us) (ds ++ es)
  | _, _, [], _, h, k => by cases h; exact k
  | _, _, d :: ds, _, h, k => by
    cases h with
    | cons h1 h2 => exact .cons h1 (dpAll_app h2 k)
theorem dpAll_set {K : PySem.W.Frag} {G : Hp} : ∀ {vs : List V} {ds : List PyData} (i : Nat) {v : V} {d : PyData}, DRAll K G vs ds → DR K G v d → DRAll K G (vs.set i v) (ds.set i d)
  | _, [], _, _, _, h, k => by cases h; exact .nil
  | _, d :: ds, 0, _, _, h, k => by
    cases h with
    | cons h1 h2 => exact .cons k h2
  | _, d :: ds, i + 1, _, _, h, k => by
    cases h with
    | cons h1 h2 => exact .cons h1 (dpAll_set i h2 k)
theorem dpAll_take {K : PySem.W.Frag} {G : Hp} : ∀ {vs : List V} {ds : List PyData} (n : Nat), DRAll K G vs ds → DRAll K G (vs.take n) (ds.take n)
  | _, _, 0, _ => .nil
  | _, [], n + 1, h => by cases h; exact .nil
  | _, d :: ds, n + 1, h => by
    cases h with
    | cons h1 h2 => exact .cons h1 (dpAll_take n h2)
theorem dpAll_drop {K : PySem.W.Frag} {G : Hp} : ∀ {vs : List V} {ds : List PyData} (n : Nat), DRAll K G vs ds → DRAll K G (vs.drop n) (ds.drop n)
  | _, _, 0, h => h
  | _, [], n + 1, h => by cases h; exact .nil
  | _, d :: ds, n + 1, h => by
    cases h with
    | cons h1 h2 => exact dpAll_drop n h2
theorem dpAll_rev {K : PySem.W.Frag} {G : Hp} : ∀ {vs : List V} {ds : List PyData}, DRAll K G vs ds → DRAll K G vs.reverse ds.reverse
  | _, [], h => by cases h; exact .nil
  | _, d :: ds, h => by
    cases h with
    | cons h1 h2 => rw [List.reverse_cons, List.reverse_cons]; exact dpAll_app (dpAll_rev h2) (.cons h1 .nil)

/-! ### slots, environments, results -/
/-- an object that changes: a list, a dict -/
inductive OO where
  | ol (xs : List D)
  | od (kvs : List (Str × D))
/-- what a slot holds: nothing that is known, data, an object that it owns (b: the one that the def was handed) -/
inductive SV where
  | no
  | d (x : D)
  | own (b : Bool) (o : OO)
abbrev En := List SV
/-- an exception: its class's name, its fields -/
structure Xc where
  cls : Str
  fs : List (Str × D)
inductive R (α : Type) where
  | ok (a : α) (e : En)
  | ex (x : Xc) (e : En)
  | st
abbrev M (α : Type) := En → R α
def R.bind {α β : Type} (r : R α) (f : α → M β) : R β := match r with
  | .ok a e => f a e
  | .ex x e => .ex x e
  | .st => .st
def M.ret {α : Type} (a : α) : M α := fun e => .ok a e
def M.st {α : Type} : M α := fun _ => .st
def M.bind {α β : Type} (m : M α) (f : α → M β) : M β := fun e => (m e).bind f
/-- the answer of a function that may have none -/
def M.opt {α : Type} : Option α → M α
  | some a => M.ret a
  | none => M.st

/-! ### the relation of slots, heap and environment -/
/-- where a def runs: B what stood at its entry (without what it was handed to change), G0 the data that stood there -/
structure Gd where
  B : Hp
  G0 : Hp
  P : Option Addr
def KvOk (K : PySem.W.Frag) (G : Hp) : List (Key × V) → List (Str × D) → Prop
  | [], [] => True
  | (k, v) :: r, (x, d) :: q => k = .inr x ∧ DR K G v d ∧ KvOk K G r q
  | _, _ => False
theorem kvOk_up {K : PySem.W.Frag} {G H : Hp} (e : Ex G H) : ∀ (ks : List (Key × V)) (ds : List (Str × D)), KvOk K G ks ds → KvOk K H ks ds
  | [], [], _ => True.intro
  | (k, v) :: r, (x, d) :: q, h => ⟨h.1, h.2.1.up e, kvOk_up e r q h.2.2⟩
  | [], _ :: _, h => h.elim
  | _ :: _, [], h => h.elim
/-- what the object at a holds -/
def Holds (K : PySem.W.Frag) (G H : Hp) (a : Addr) : OO → Prop
  | .ol xs => ∃ vs, H a = some (.lst vs) ∧ DRAll K G vs xs
  | .od kvs => ∃ ks, H a = some (.dK ks) ∧ KvOk K G ks kvs
/-- the slots that own -/
def isOwn : SV → Bool
  | .own _ _ => true
  | _ => false
def SlOk (K : PySem.W.Frag) (g : Gd) (G H : Hp) (o : Option (Option V)) : SV → Prop
  | .no => True
  | .d x => ∃ v, o = some (some v) ∧ DR K G v x
  | .own b u => ∃ a, o = some (some (.ref a)) ∧ Holds K G H a u ∧ G a = none ∧ g.B a = none ∧ (b = true → g.P = some a)
structure Rel (K : PySem.W.Frag) (g : Gd) (G H : Hp) (σ : L2.St) (e : En) : Prop where
  gh : Ex G H
  bh : Ex g.B H
  gg : Ex g.G0 G
  gb : ∀ a o, G a = some o → g.G0 a = some o ∨ g.B a = none
  len : σ.length = e.length
  sl : ∀ (i : Nat) (s : SV), e[i]? = some s → SlOk K g G H σ[i]? s
  ds : ∀ (i j : Nat) (s t : SV) (a : Addr), i ≠ j → e[i]? = some s → isOwn s = true → σ[i]? = some (some (.ref a)) → e[j]? = some t → isOwn t = true → σ[j]? = some (some (.ref a)) → False
end Fx
namespace Fx
open PySem L2 Evl
section
variable {K : PySem.W.Frag} {g : Gd} {G G' H H' : Hp} {σ : L2.St} {e : En}
theorem Holds.up {a : Addr} {s : OO} (h : Holds K G H a s) (eG : Ex G G') (eH : H' a = H a) : Holds K G' H' a s := by
  cases s with
  | ol xs => obtain ⟨vs, h1, h2⟩ := h; exact ⟨vs, eH.trans h1, h2.up eG⟩
  | od ks => obtain ⟨vs, h1, h2⟩ := h; exact ⟨vs, eH.trans h1, kvOk_up eG _ _ h2⟩
theorem Holds.there {a : Addr} {s : OO} (h : Holds K G H a s) : ∃ o, H a = some o := by
  cases s with
  | ol xs => obtain ⟨vs, h1, h2⟩ := h; exact ⟨_, h1⟩
  | od ks => obtain ⟨vs, h1, h2⟩ := h; exact ⟨_, h1⟩
/-- the heaps grow; owned objects stay -/
theorem Rel.grow (r : Rel K g G H σ e) (eG : Ex G G') (eH : Ex H H') (gh : Ex G' H') (gb : ∀ a o, G' a = some o → G a = some o ∨ H a = none) : Rel K g G' H' σ e where
  gh := gh
  bh := r.bh.trans eH
  gg := r.gg.trans eG
  gb := fun a o h => by
    rcases gb a o h with h1 | h1
    · exact r.gb a o h1
    · exact .inr (fresh_back r.bh h1)
  len := r.len
  sl := fun i s h => by
    have z := r.sl i s h
    have own : ∀ a, (∃ o, H a = some o) → G a = none → G' a = none := fun a ⟨o, ho⟩ hg => by
      cases h' : G' a with
      | none => rfl
      | some u =>
        rcases gb a u h' with h1 | h1
        · rw [hg] at h1; cases h1
        · rw [ho] at h1; cases h1
    cases s with
    | no => exact True.intro
    | d x => obtain ⟨v, h1, h2⟩ := z; exact ⟨v, h1, h2.up eG⟩
    | own b u =>
      obtain ⟨a, h1, h2, h3, h4⟩ := z
      obtain ⟨o, ho⟩ := h2.there
      exact ⟨a, h1, h2.up eG ((eH a o ho).trans ho.symm), own a ⟨o, ho⟩ h3, h4⟩
  ds := r.ds
/-- a new frozen object -/
theorem Rel.new (r : Rel K g G H σ e) {p : Addr} {o : HO} (hp : H p = none) : Rel K g (upd G p o) (upd H p o) σ e :=
  have gp : G p = none := fresh_back r.gh hp
  r.grow (Ex.new gp) (Ex.new hp) (fun a u h => by
    by_cases ha : a = p
    · subst ha; rw [upd_same] at h ⊢; exact h
    · rw [upd_ne ha] at h ⊢; exact r.gh a u h)
    (fun a u h => by
      by_cases ha : a = p
      · subst ha; exact .inr hp
      · rw [upd_ne ha] at h; exact .inl h)
/-- a new object that is not told of -/
theorem Rel.newH (r : Rel K g G H σ e) {p : Addr} {o : HO} (hp : H p = none) : Rel K g G (upd H p o) σ e :=
  r.grow (Ex.refl G) (Ex.new hp) (r.gh.trans (Ex.new hp)) (fun a u h => .inl h)
end

/-! ### judgements -/
/-- a wish about exceptions, by the classes' addresses -/
def FsOk (K : PySem.W.Frag) (G : Hp) : List (Str × V) → List (Str × D) → Prop
  | [], [] => True
  | (k, v) :: r, (x, d) :: q => k = x ∧ DR K G v d ∧ FsOk K G r q
  | _, _ => False
/-- what is wished of exceptions, what is known of the ground -/
structure Wi where
  W : WX
  I : Gd → Prop
def Post {α τ : Type} (K : PySem.W.Frag) (mg : Str → Option Value) (W : Wi) (rel : Hp → τ → α → Prop) (g : Gd) (G : Hp) (σ : L2.St) (Q : τ → Hp → Prop) : R α → Prop
  | .ok a e => ∀ t G' H', Ex G G' → Rel K g G' H' σ e → rel G' t a → Q t H'
  | .ex x e => ∀ C dd fs G' H', mg x.cls = some (.ref C) → Ex G G' → Rel K g G' H' σ e → H' dd = some (.xd fs) → FsOk K G' fs x.fs → W.W (.ref C) (some dd) σ H'
  | .st => False
def tG {α τ : Type} (K : PySem.W.Frag) (mg : Str → Option Value) (W : Wi) (rel : Hp → τ → α → Prop) (m : M α) : L2.St → Hp → (τ → Hp → Prop) → Prop := fun σ H Q =>
  ∃ g G e, W.I g ∧ Rel K g G H σ e ∧ Post K mg W rel g G σ Q (m e)
abbrev tM (K : PySem.W.Frag) (mg : Str → Option Value) (W : Wi) (m : M D) : TE := tG K mg W (DR K) m
abbrev tMs (K : PySem.W.Frag) (mg : Str → Option Value) (W : Wi) (m : M (List D)) : TA := tG K mg W (DRAll K) m
abbrev tMb (K : PySem.W.Frag) (mg : Str → Option Value) (W : Wi) (m : M Bool) : TT := tG K mg W (fun _ b c => b = c) m
/-- an expression | arguments | a test, by the function that it is -/
def FE (X : Cx) (W : Wi) (x : Expr) (m : M D) : Prop := PE X x (tM X.K X.mg W m)
def FA (X : Cx) (W : Wi) (xs : List Expr) (m : M (List D)) : Prop := PA X xs (tMs X.K X.mg W m)
def FT (X : Cx) (W : Wi) (x : Expr) (m : M Bool) : Prop := PT X x (tMb X.K X.mg W m)
def FW (X : Cx) (W : Wi) (x : Expr) (m : M Bool) : Prop := PW X x (tMb X.K X.mg W m)

theorem pe_mono {X : Cx} {x : Expr} {t t' : TE} (h : PE X x t) (k : ∀ σ H Q, t' σ H Q → t σ H Q) : PE X x t' := ⟨fun pins s σ H Q I q => h.run pins s σ H Q I (k σ H Q q)⟩
theorem pa_mono {X : Cx} {x : List Expr} {t t' : TA} (h : PA X x t) (k : ∀ σ H Q, t' σ H Q → t σ H Q) : PA X x t' := ⟨fun p pins s σ H Q I q => h.run p pins s σ H Q I (k σ H Q q)⟩
theorem pt_mono {X : Cx} {x : Expr} {t t' : TT} (h : PT X x t) (k : ∀ σ H Q, t' σ H Q → t σ H Q) : PT X x t' := ⟨fun pins s σ H Q I q => h.run pins s σ H Q I (k σ H Q q)⟩
theorem pw_mono {X : Cx} {x : Expr} {t t' : TT} (h : PW X x t) (k : ∀ σ H Q, t' σ H Q → t σ H Q) : PW X x t' := ⟨fun w pins s σ H Q I q => h.run w pins s σ H Q I (k σ H Q q)⟩
theorem ps_mono {X : Cx} {x : Stmt} {t t' : TS} (h : PS X x t) (k : ∀ Dd σ H, t' Dd σ H → t Dd σ H) : PS X x t' := ⟨fun pins s σ H Dd I q => h.run pins s σ H Dd I (k Dd σ H q)⟩
theorem pss_mono {X : Cx} {x : List Stmt} {t t' : TS} (h : PSs X x t) (k : ∀ Dd σ H, t' Dd σ H → t Dd σ H) : PSs X x t' := ⟨fun pins s σ H Dd I q => h.run pins s σ H Dd I (k Dd σ H q)⟩

section
variable {K : PySem.W.Frag} {mg : Str → Option Value} {W : Wi} {g : Gd} {G H : Hp} {σ : L2.St}
theorem Post.weak {α τ : Type} {rel : Hp → τ → α → Prop} {G0 : Hp} {Q : τ → Hp → Prop} {r : R α} (x : Ex G0 G) (h : Post K mg W rel g G0 σ Q r) : Post K mg W rel g G σ Q r := by
  cases r with
  | ok a e => exact fun t G' H' eg rl re => h t G' H' (x.trans eg) rl re
  | ex c e => exact fun C dd fs G' H' hm eg rl hd hf => h C dd fs G' H' hm (x.trans eg) rl hd hf
  | st => exact h
/-- the first part, then the rest -/
theorem tG_bind {α β τ υ : Type} {relA : Hp → τ → α → Prop} {relB : Hp → υ → β → Prop} {ma : M α} {f : α → M β} {Q : υ → Hp → Prop} {Q1 : τ → Hp → Prop}
    (h : tG K mg W relB (M.bind ma f) σ H Q)
    (k : ∀ g G G1 H1 e1 a t, Ex G G1 → Rel K g G1 H1 σ e1 → relA G1 t a → Post K mg W relB g G1 σ Q (f a e1) → Q1 t H1) : tG K mg W relA ma σ H Q1 := by
  obtain ⟨g, G, e, ig, r, p⟩ := h
  refine ⟨g, G, e, ig, r, ?_⟩
  unfold M.bind at p
  cases hm : ma e with
  | ok a e1 =>
    rw [hm] at p
    exact fun t G1 H1 eg rl re => k g G G1 H1 e1 a t eg rl re (p.weak eg)
  | ex c e1 =>
    rw [hm] at p
    exact p
  | st =>
    rw [hm] at p
    exact p
theorem tG_ret {α τ : Type} {rel : Hp → τ → α → Prop} {e : En} {a : α} {t : τ} {Q : τ → Hp → Prop} (r : Rel K g G H σ e) (re : rel G t a) (p : Post K mg W rel g G σ Q (M.ret a e)) : Q t H :=
  p t G H (Ex.refl G) r re
end
end Fx

set_option Elab.async false
set_option linter.all false
set_option maxRecDepth 100000
set_option maxHeartbeats 4000000
/-! Fx2: expressions. -/
namespace Fx
open PySem L2 Evl
section
variable {K : PySem.W.Frag} {mg : Str → Option Value} {W : Wi} {g : Gd} {G H : Hp} {σ : L2.St} {e : En}
theorem bindP {α β τ υ : Type} {relA : Hp → τ → α → Prop} {relB : Hp → υ → β → Prop} {ma : M α} {f : α → M β} {Q : υ → Hp → Prop} {Q1 : τ → Hp → Prop}
    (p : Post K mg W relB g G σ Q (M.bind ma f e))
    (k : ∀ G1 H1 e1 a t, Ex G G1 → Rel K g G1 H1 σ e1 → relA G1 t a → Post K mg W relB g G1 σ Q (f a e1) → Q1 t H1) : Post K mg W relA g G σ Q1 (ma e) := by
  unfold M.bind at p
  cases hm : ma e with
  | ok a e1 =>
    rw [hm] at p
    exact fun t G1 H1 eg rl re => k G1 H1 e1 a t eg rl re (p.weak eg)
  | ex c e1 =>
    rw [hm] at p
    exact p
  | st =>
    rw [hm] at p
    exact p
theorem retP {α τ : Type} {rel : Hp → τ → α → Prop} {a : α} {t : τ} {Q : τ → Hp → Prop} (r : Rel K g G H σ e) (re : rel G t a) (p : Post K mg W rel g G σ Q (M.ret a e)) : Q t H :=
  p t G H (Ex.refl G) r re
theorem Rel.slot (r : Rel K g G H σ e) {i : Nat} {x : D} (h : e[i]? = some (.d x)) : ∃ v, σ[i]? = some (some v) ∧ DR K G v x := r.sl i _ h
/-- data stands in H too -/
theorem Rel.dp (r : Rel K g G H σ e) {v : V} {d : D} (h : DR K G v d) : DR K H v d := h.up r.gh
end

/-! ### rules for values: an operation on values by a function on data that may have no answer -/
def Pr1 (K : PySem.W.Frag) (r : V → Hp → VK → Prop) (f : D → Option D) : Prop :=
  ∀ (mg : Str → Option Value) (W : Wi) (g : Gd) (G H : Hp) (σ : L2.St) (e : En) (x : V) (dx : D) (Q : VK), Rel K g G H σ e → DR K G x dx → Post K mg W (DR K) g G σ Q (M.opt (f dx) e) → r x H Q
def Pr2 (K : PySem.W.Frag) (r : R2) (f : D → D → Option D) : Prop :=
  ∀ (mg : Str → Option Value) (W : Wi) (g : Gd) (G H : Hp) (σ : L2.St) (e : En) (x y : V) (dx dy : D) (Q : VK), Rel K g G H σ e → DR K G x dx → DR K G y dy → Post K mg W (DR K) g G σ Q (M.opt (f dx dy) e) → r x y H Q
def PrN (K : PySem.W.Frag) (r : List V → Hp → VK → Prop) (f : List D → Option D) : Prop :=
  ∀ (mg : Str → Option Value) (W : Wi) (g : Gd) (G H : Hp) (σ : L2.St) (e : En) (xs : List V) (ds : List D) (Q : VK), Rel K g G H σ e → DRAll K G xs ds → Post K mg W (DR K) g G σ Q (M.opt (f ds) e) → r xs H Q
/-- by cases of the functions -/
def orF2 (f h : D → D → Option D) : D → D → Option D := fun x y => (f x y).or (h x y)
theorem Pr2.or {K : PySem.W.Frag} {r r' : R2} {f f' : D → D → Option D} (h : Pr2 K r f) (h' : Pr2 K r' f') : Pr2 K (fun x y H Q => r x y H Q ∨ r' x y H Q) (orF2 f f') := by
  intro mg W g G H σ e x y dx dy Q rl rx ry p
  unfold orF2 at p
  cases hf : f dx dy with
  | some d =>
    rw [hf] at p
    exact .inl (h mg W g G H σ e x y dx dy Q rl rx ry (by rw [hf]; exact p))
  | none =>
    rw [hf] at p
    exact .inr (h' mg W g G H σ e x y dx dy Q rl rx ry p)

section
variable {X : Cx} {W : Wi}
/-! ### names and constants -/
def vr (i : Nat) : M D := fun e => match e[i]? with
  | some (.d x) => .ok x e
  | _ => .st
theorem fe_var {i : Nat} {x : Str} {pos : Pos} (hN : X.N[i]? = some x) (hv : Vis X.env.scope x) (hd : (x == ("__debug__" : Str)) = false := by decide) (hcd : (x == ("__classdict__" : Str)) = false := by decide) : FE X W (.Name x pos) (vr i) := by
  refine pe_mono (pe_var hN hv hd hcd) fun σ H Q h => ?_
  obtain ⟨g, G, e, ig, r, p⟩ := h
  unfold vr at p
  cases he : e[i]? with
  | none => rw [he] at p; exact p.elim
  | some s =>
    rw [he] at p
    cases s with
    | d x => obtain ⟨v, h1, h2⟩ := r.slot he; exact ⟨v, h1, retP r h2 p⟩
    | no => exact p.elim
    | own b o => exact p.elim
theorem fe_c {x : Expr} {v : V} {d : D} (h : PE X x (tC v)) (hd : ∀ G, DR X.K G v d) : FE X W x (M.ret d) :=
  pe_mono h fun σ H Q ⟨g, G, e, ig, r, p⟩ => retP r (hd G) p
theorem fe_int {i : Int} {j : Nat} {pos : Pos} : FE X W (.Constant (.int i) j pos) (M.ret (.int i)) := fe_c pe_int fun _ => .int i
theorem fe_bl {b : Bool} {j : Nat} {pos : Pos} : FE X W (.Constant (.bool b) j pos) (M.ret (.bool b)) := fe_c pe_bl fun _ => .bl b
theorem fe_non {j : Nat} {pos : Pos} : FE X W (.Constant .none j pos) (M.ret .none) := fe_c pe_non fun _ => .non
theorem fe_str {x : Str} {j : Nat} {pos : Pos} : FE X W (.Constant (.str x) j pos) (M.ret (.str x)) := fe_c pe_str fun _ => .str x
/-- a constant of the module -/
theorem fe_glob {x : Str} {u : Value} {v : V} {d : D} {pos : Pos} (hg : Gl X x) (hm : X.mg x = some u) (r : RelV v u) (hD : ∀ G, DR X.K G v d) (hd : (x == ("__debug__" : Str)) = false := by decide) : FE X W (.Name x pos) (M.ret d) := fe_c (pe_glob hg hm r hd) hD

/-! ### operators -/
def m2 (ma mb : M D) (f : D → D → Option D) : M D := ma.bind fun x => mb.bind fun y => M.opt (f x y)
def m1 (ma : M D) (f : D → Option D) : M D := ma.bind fun x => M.opt (f x)
variable {a b c : Expr} {ma mb mc : M D} {pos : Pos}
theorem p2 {r : R2} {f : D → D → Option D} {ta tb : TE} (p : Pr2 X.K r f) (ha : ∀ σ H Q, tM X.K X.mg W ma σ H Q → ta σ H Q) (hb : ∀ σ H Q, tM X.K X.mg W mb σ H Q → tb σ H Q) : ∀ σ H Q, tM X.K X.mg W (m2 ma mb f) σ H Q → tOp r ta tb σ H Q :=
  fun σ H Q ⟨g, G, e, ig, rl, q⟩ => ha σ H _ ⟨g, G, e, ig, rl, bindP q fun G1 H1 e1 dx x eg r1 rx q1 => hb σ H1 _ ⟨g, G1, e1, ig, r1, bindP q1 fun G2 H2 e2 dy y eg2 r2 ry q2 => p X.mg W g G2 H2 σ e2 x y dx dy Q r2 (rx.up eg2) ry q2⟩⟩
theorem fe_op {op : Operator} {r : R2} {f : D → D → Option D} (ho : OpR X (binaryOp op) r) (p : Pr2 X.K r f) (ha : FE X W a ma) (hb : FE X W b mb) : FE X W (.BinOp a op b pos) (m2 ma mb f) :=
  pe_mono (pe_op ho ha hb) (p2 p (fun _ _ _ h => h) fun _ _ _ h => h)
theorem fe_un {op : UnaryOp} {r : V → Hp → VK → Prop} {f : D → Option D} (ho : UnR X (unaryOp op) r) (p : Pr1 X.K r f) (ha : FE X W a ma) : FE X W (.UnaryOp op a pos) (m1 ma f) :=
  pe_mono (pe_un ho ha) fun σ H Q ⟨g, G, e, ig, rl, q⟩ => ⟨g, G, e, ig, rl, bindP q fun G1 H1 e1 dx x eg r1 rx q1 => p X.mg W g G1 H1 σ e1 x dx Q r1 rx q1⟩
theorem fe_cmp {op : CmpOp} {r : R2} {f : D → D → Option D} (ho : OpR X (compareOp op) r) (p : Pr2 X.K r f) (ha : FE X W a ma) (hb : FE X W b mb) (hm : behindInMarks op b = false) : FE X W (.Compare a [op] [b] pos) (m2 ma mb f) :=
  pe_mono (pe_cmpR ho ha hb hm) (p2 p (fun _ _ _ h => h) fun _ _ _ h => h)
/-- a value as a test: only bools -/
def asB (m : M D) : M Bool := m.bind fun d => match d with | .bool b => M.ret b | _ => M.st
theorem bool_of {G : Hp} {v : V} {b : Bool} (h : DR X.K G v (.bool b)) : v = .bl b := by cases h; rfl
theorem tTest_of {te : TE} (h : ∀ σ H Q, tM X.K X.mg W ma σ H Q → te σ H Q) : ∀ σ H Q, tMb X.K X.mg W (asB ma) σ H Q → tTest te σ H Q :=
  fun σ H Q ⟨g, G, e, ig, rl, q⟩ => h σ H _ ⟨g, G, e, ig, rl, bindP q fun G1 H1 e1 d v eg r1 rv q1 => by
    cases d with
    | bool b => exact ⟨b, bool_of rv, retP r1 rfl q1⟩
    | _ => exact q1.elim⟩
theorem ft_cmp {op : CmpOp} {r : R2} {f : D → D → Option D} (ho : OpR X (compareOp op) r) (p : Pr2 X.K r f) (ha : FE X W a ma) (hb : FE X W b mb) (hm : behindInMarks op b = false) : FT X W (.Compare a [op] [b] pos) (asB (m2 ma mb f)) :=
  pt_mono (pt_cmpR ho ha hb hm) (tTest_of (p2 p (fun _ _ _ h => h) fun _ _ _ h => h))
/-- a op b op' c -/
def m3 (ma mb mc : M D) (f f' : D → D → Option D) : M D := ma.bind fun x => mb.bind fun y => (M.opt (f x y)).bind fun z => match z with
  | .bool true => mc.bind fun w => M.opt (f' y w)
  | .bool false => M.ret (.bool false)
  | _ => M.st
theorem p3 {r r' : R2} {f f' : D → D → Option D} {ta tb tc : TE} (p : Pr2 X.K r f) (p' : Pr2 X.K r' f') (ha : ∀ σ H Q, tM X.K X.mg W ma σ H Q → ta σ H Q) (hb : ∀ σ H Q, tM X.K X.mg W mb σ H Q → tb σ H Q) (hc : ∀ σ H Q, tM X.K X.mg W mc σ H Q → tc σ H Q) :
    ∀ σ H Q, tM X.K X.mg W (m3 ma mb mc f f') σ H Q → tChain r r' ta tb tc σ H Q :=
  fun σ H Q ⟨g, G, e, ig, rl, q⟩ => ha σ H _ ⟨g, G, e, ig, rl, bindP q fun G1 H1 e1 dx x eg r1 rx q1 => hb σ H1 _ ⟨g, G1, e1, ig, r1, bindP q1 fun G2 H2 e2 dy y eg2 r2 ry q2 => p X.mg W g G2 H2 σ e2 x y dx dy _ r2 (rx.up eg2) ry
    (bindP q2 fun G3 H3 e3 dz z eg3 r3 rz q3 => by
      cases dz with
      | bool k =>
        refine ⟨k, bool_of rz, ?_⟩
        cases k with
        | true => exact hc σ H3 _ ⟨g, G3, e3, ig, r3, bindP q3 fun G4 H4 e4 dw w eg4 r4 rw' q4 => p' X.mg W g G4 H4 σ e4 y w dy dw Q r4 (ry.up (eg3.trans eg4)) rw' q4⟩
        | false => exact retP r3 (.bl false) q3
      | _ => exact q3.elim)⟩⟩
theorem fe_chain {op op' : CmpOp} {r r' : R2} {f f' : D → D → Option D} (ho : OpR X (compareOp op) r) (ho' : OpR X (compareOp op') r') (p : Pr2 X.K r f) (p' : Pr2 X.K r' f') (ha : FE X W a ma) (hb : FE X W b mb) (hc : FE X W c mc)
    (hm : lastMarks [op, op'] [b, c] = false := by with_unfolding_all rfl) : FE X W (.Compare a [op, op'] [b, c] pos) (m3 ma mb mc f f') :=
  pe_mono (pe_chain ho ho' ha hb hc hm) (p3 p p' (fun _ _ _ h => h) (fun _ _ _ h => h) fun _ _ _ h => h)
theorem ft_chain {op op' : CmpOp} {r r' : R2} {f f' : D → D → Option D} (ho : OpR X (compareOp op) r) (ho' : OpR X (compareOp op') r') (p : Pr2 X.K r f) (p' : Pr2 X.K r' f') (ha : FE X W a ma) (hb : FE X W b mb) (hc : FE X W c mc)
    (hm : lastMarks [op, op'] [b, c] = false := by with_unfolding_all rfl) : FT X W (.Compare a [op, op'] [b, c] pos) (asB (m3 ma mb mc f f')) :=
  pt_mono (pt_chain ho ho' ha hb hc hm) (tTest_of (p3 p p' (fun _ _ _ h => h) (fun _ _ _ h => h) fun _ _ _ h => h))

/-! ### and, or, not; if else -/
def andV (ma mb : M D) : M D := ma.bind fun x => match x with
  | .bool true => mb
  | .bool false => M.ret (.bool false)
  | _ => M.st
def orV (ma mb : M D) : M D := ma.bind fun x => match x with
  | .bool true => M.ret (.bool true)
  | .bool false => mb
  | _ => M.st
def notV (ma : M D) : M D := ma.bind fun x => match x with
  | .bool b => M.ret (.bool !b)
  | _ => M.st
variable {rest : List Expr}
theorem fe_and (ha : FE X W a ma) (hb : FE X W (.BoolOp .And (b :: rest) pos) mb) : FE X W (.BoolOp .And (a :: b :: rest) pos) (andV ma mb) :=
  pe_mono (pe_and ha hb) fun σ H Q ⟨g, G, e, ig, rl, q⟩ => ⟨g, G, e, ig, rl, bindP q fun G1 H1 e1 d v eg r1 rv q1 => by
    cases d with
    | bool k =>
      refine ⟨k, bool_of rv, ?_⟩
      cases k with
      | true => exact ⟨g, G1, e1, ig, r1, q1⟩
      | false => exact retP r1 (.bl false) q1
    | _ => exact q1.elim⟩
theorem fe_or (ha : FE X W a ma) (hb : FE X W (.BoolOp .Or (b :: rest) pos) mb) : FE X W (.BoolOp .Or (a :: b :: rest) pos) (orV ma mb) :=
  pe_mono (pe_or ha hb) fun σ H Q ⟨g, G, e, ig, rl, q⟩ => ⟨g, G, e, ig, rl, bindP q fun G1 H1 e1 d v eg r1 rv q1 => by
    cases d with
    | bool k =>
      refine ⟨k, bool_of rv, ?_⟩
      cases k with
      | true => exact retP r1 (.bl true) q1
      | false => exact ⟨g, G1, e1, ig, r1, q1⟩
    | _ => exact q1.elim⟩
theorem fe_one {op} (ha : FE X W a ma) : FE X W (.BoolOp op [a] pos) ma := pe_one ha
theorem fe_not (ha : FE X W a ma) : FE X W (.UnaryOp .Not a pos) (notV ma) :=
  pe_mono (pe_not ha) fun σ H Q ⟨g, G, e, ig, rl, q⟩ => ⟨g, G, e, ig, rl, bindP q fun G1 H1 e1 d v eg r1 rv q1 => by
    cases d with
    | bool k => exact ⟨k, bool_of rv, retP r1 (.bl _) q1⟩
    | _ => exact q1.elim⟩
variable {ta tb : M Bool}
def andT (ma mb : M Bool) : M Bool := ma.bind fun x => if x = true then mb else M.ret false
def orT (ma mb : M Bool) : M Bool := ma.bind fun x => if x = true then M.ret true else mb
def notT (ma : M Bool) : M Bool := ma.bind fun x => M.ret (!x)
theorem fw_and1 (ha : FT X W a ta) : FW X W (.BoolOp .And [a] pos) ta := pw_and1 ha
theorem fw_or1 (ha : FT X W a ta) : FW X W (.BoolOp .Or [a] pos) ta := pw_or1 ha
theorem fw_and (ha : FT X W a ta) (hb : FW X W (.BoolOp .And (b :: rest) pos) tb) : FW X W (.BoolOp .And (a :: b :: rest) pos) (andT ta tb) :=
  pw_mono (pw_and ha hb) fun σ H Q ⟨g, G, e, ig, rl, q⟩ => ⟨g, G, e, ig, rl, bindP q fun G1 H1 e1 d v eg r1 rv q1 => by
    subst rv
    cases v with
    | true => exact (if_pos rfl).mpr ⟨g, G1, e1, ig, r1, q1⟩
    | false => exact (if_neg Bool.false_ne_true).mpr (retP r1 rfl q1)⟩
theorem fw_or (ha : FT X W a ta) (hb : FW X W (.BoolOp .Or (b :: rest) pos) tb) : FW X W (.BoolOp .Or (a :: b :: rest) pos) (orT ta tb) :=
  pw_mono (pw_or ha hb) fun σ H Q ⟨g, G, e, ig, rl, q⟩ => ⟨g, G, e, ig, rl, bindP q fun G1 H1 e1 d v eg r1 rv q1 => by
    subst rv
    cases v with
    | true => exact (if_pos rfl).mpr (retP r1 rfl q1)
    | false => exact (if_neg Bool.false_ne_true).mpr ⟨g, G1, e1, ig, r1, q1⟩⟩
theorem ft_w (h : FW X W a ta) : FT X W a ta := PW.pt h
theorem ft_not (ha : FT X W a ta) : FT X W (.UnaryOp .Not a pos) (notT ta) :=
  pt_mono (pt_not ha) fun σ H Q ⟨g, G, e, ig, rl, q⟩ => ⟨g, G, e, ig, rl, bindP q fun G1 H1 e1 d v eg r1 rv q1 => by
    subst rv
    exact retP r1 rfl q1⟩
def ifM {α : Type} (c : M Bool) (x y : M α) : M α := c.bind fun b => if b = true then x else y
theorem fe_if (hc : FT X W c ta) (ha : FE X W a ma) (hb : FE X W b mb) : FE X W (.IfExp c a b pos) (ifM ta ma mb) :=
  pe_mono (pe_ifExp hc ha hb) fun σ H Q ⟨g, G, e, ig, rl, q⟩ => ⟨g, G, e, ig, rl, bindP q fun G1 H1 e1 d v eg r1 rv q1 => by
    subst rv
    cases v with
    | true => exact (if_pos rfl).mpr ⟨g, G1, e1, ig, r1, q1⟩
    | false => exact (if_neg Bool.false_ne_true).mpr ⟨g, G1, e1, ig, r1, q1⟩⟩
/-- the truth of data -/
def truD : D → Option Bool
  | .none => some false
  | .bool b => some b
  | .int i => some (i != 0)
  | .str x => some (x.length != 0)
  | .list xs => some (!xs.isEmpty)
  | .tuple xs => some (!xs.isEmpty)
  | .dict _ => none

/-! ### arguments, displays -/
theorem fa_nil : FA X W [] (M.ret []) := pa_mono pa_nil fun σ H Q ⟨g, G, e, ig, rl, q⟩ => retP rl .nil q
def consM (m : M D) (ms : M (List D)) : M (List D) := m.bind fun d => ms.bind fun ds => M.ret (d :: ds)
theorem fa_cons {es : List Expr} {ms : M (List D)} (ha : FE X W a ma) (hr : FA X W es ms) (hs : starEach (a :: es) X.env = (false, eval a X.env) :: starEach es X.env := by rfl) : FA X W (a :: es) (consM ma ms) :=
  pa_mono (pa_cons ha hr hs) fun σ H Q ⟨g, G, e, ig, rl, q⟩ => ⟨g, G, e, ig, rl, bindP q fun G1 H1 e1 d v eg r1 rv q1 => ⟨g, G1, e1, ig, r1, bindP q1 fun G2 H2 e2 ds vs eg2 r2 rvs q2 => retP r2 (.cons (rv.up eg2) rvs) q2⟩⟩
def tupM (ms : M (List D)) : M D := ms.bind fun ds => if ds.length ≤ 100000 then M.ret (.tuple ds) else M.st
def lstM (ms : M (List D)) : M D := ms.bind fun ds => if ds.length ≤ 100000 then M.ret (.list ds) else M.st
section
variable {K : PySem.W.Frag} {mg : Str → Option Value} {g : Gd} {G H : Hp} {σ : L2.St} {e : En}
/-- the end of what makes a new tuple (list) of data -/
theorem newT {xs : List V} {ds : List D} {p : Addr} {Q : VK} (rl : Rel K g G H σ e) (h : DRAll K G xs ds) (hp : H p = none) (q : Post K mg W (DR K) g G σ Q (M.ret (.tuple ds) e)) : Q (.ref p) (upd H p (.tup xs)) :=
  have gp : G p = none := fresh_back rl.gh hp
  q (.ref p) _ _ (Ex.new gp) (rl.new hp) (.tup (st_of upd_same) (h.up (Ex.new gp)))
theorem newL {xs : List V} {ds : List D} {p : Addr} {Q : VK} (rl : Rel K g G H σ e) (h : DRAll K G xs ds) (hp : H p = none) (q : Post K mg W (DR K) g G σ Q (M.ret (.list ds) e)) : Q (.ref p) (upd H p (.lst xs)) :=
  have gp : G p = none := fresh_back rl.gh hp
  q (.ref p) _ _ (Ex.new gp) (rl.new hp) (.lst upd_same (h.up (Ex.new gp)))
end
theorem fe_tup {es : List Expr} {x1} {ms : M (List D)} (h : FA X W es ms) : FE X W (.Tuple es x1 pos) (tupM ms) :=
  pe_mono (pe_tup h) fun σ H Q ⟨g, G, e, ig, rl, q⟩ => ⟨g, G, e, ig, rl, bindP q fun G1 H1 e1 ds vs eg r1 rv q1 => by
    by_cases hl : ds.length ≤ 100000
    · rw [if_pos hl] at q1
      exact ⟨sz_of (by rw [dpAll_len rv]; exact hl), fun p hp => newT r1 rv hp q1⟩
    · rw [if_neg hl] at q1
      exact q1.elim⟩
theorem fe_lst {es : List Expr} {ms : M (List D)} (h : FA X W es ms) : FE X W (.List es pos) (lstM ms) :=
  pe_mono (pe_lst h) fun σ H Q ⟨g, G, e, ig, rl, q⟩ => ⟨g, G, e, ig, rl, bindP q fun G1 H1 e1 ds vs eg r1 rv q1 => by
    by_cases hl : ds.length ≤ 100000
    · rw [if_pos hl] at q1
      exact ⟨sz_of (by rw [dpAll_len rv]; exact hl), fun p hp => newL r1 rv hp q1⟩
    · rw [if_neg hl] at q1
      exact q1.elim⟩
end
end Fx

set_option Elab.async false
set_option linter.all false
set_option maxRecDepth 100000
set_option maxHeartbeats 4000000
/-! Fx3: defs and their calls. -/
namespace Fx
open PySem PySem.Spec PyProof.Rows L2 Evl

/-- a def's promise, where nothing is being printed (the guards are known) -/
structure FnG (P : Program) (w : World) (K : PySem.W.Frag) (mg : Str → Option Value) (base : Heap) (k : Nat) (f : Addr) (fd : FuncData) (ps : List Str) (sp : Sp) : Prop where
  len : ∀ vs H Q E, sp vs H Q E → vs.length = ps.length
  run : ∀ (A : Around) (outer : List Env) (s : Shared) (H : Hp) (args : Args) (us : List Value) (vs : List V) (Q : VK) (E : XK), Room k A → A.guards = some [] → Env0 P w K mg base A outer s H → BindsTo s fd args (ps.zip us) → Vals vs us → sp vs H Q E →
    codeAny (model P w) A (.call (.ref f) args) (CR (L2.CX P w) outer P w H s Q E) s
theorem FnG.mono {P : Program} {w : World} {K : PySem.W.Frag} {mg : Str → Option Value} {base : Heap} {j k : Nat} {f : Addr} {fd : FuncData} {ps : List Str} {sp : Sp} (F : FnG P w K mg base j f fd ps sp) (h : j ≤ k) : FnG P w K mg base k f fd ps sp :=
  ⟨F.len, fun A outer s H args us vs Q E hr => F.run A outer s H args us vs Q E (hr.mono h)⟩
theorem guards_deeper {A : Around} {env : Env} : (A.deeper env).guards = A.guards := rfl

theorem fn_ofG {P : Program} {w : World} {K : PySem.W.Frag} {mg : Str → Option Value} {base : Heap} {k : Nat} {f : Addr} {name qual : Str} {params : Arguments} {body : List Stmt} {scope : Scope} {dV kV doc pm cdv ct oc : Value} {an od : Option Addr}
    {osl : Array (Option Value)} {N ps : List Str} {sp : Sp} (lk : K.lookup f = some ⟨oc, od, .func (PySem.W.fnOf name qual params body scope dV kV doc pm an cdv ct), osl⟩) (hcd : PySem.W.codeIn K cdv qual = true) (S : FnScope N ps scope)
    (len : ∀ vs H Q E, sp vs H Q E → vs.length = ps.length)
    (hbody : ∀ (A : Around) (outer : List Env) (s : Shared) (H : Hp) (vs : List V) (Q : VK) (E : XK), Room k (A.deeper (envOfC qual scope s.heap.objs.size f cdv)) → A.guards = some [] → sp vs H Q E →
      ∃ t, PSs (cxOf (L2.CX P w) P w K mg base N qual scope f cdv A outer s H E) body t ∧ t { nx := fun _ H' => Q .non H', rt := Q } (L2.start N vs) H) :
    FnG P w K mg base (k + 1) f (PySem.W.fnOf name qual params body scope dV kV doc pm an cdv ct) ps sp := by
  refine ⟨len, fun A outer s H args us vs Q E hr hgd e0 hb r hsp => ?_⟩
  have hl := len _ _ _ _ hsp
  have KX : K.In s.heap := e0.mod.kin.keeps fun b o e => (e0.bs b o e).1
  have lim : s.heap.NoLimit := e0.mod.nolimit.keeps fun b o e => (e0.bs b o e).1
  have hkind : ∀ y ∈ ps.zip us, scope.names.lookup y.1 = some .local ∨ (scope.names.lookup y.1 = some .cell ∧ ((cellsFrom (s.heap.objs.size + 1) scope.names []).lookup y.1).isSome = true) := fun ⟨n, v⟩ hy => by
    rcases S.par n (List.of_mem_zip hy).1 with q | q
    · exact .inl q
    · exact .inr ⟨q, PySem.W.cellsFrom_some _ _ _ (.inl q)⟩
  refine codeAny_call_function hr.depth (KX _ _ lk) rfl S.co S.gen rfl (PySem.W.codeRec_of KX hcd) (hb _ _ _ _ ?_)
  refine wpAny_newFunctionEnv_cells S.kind hkind fun env he s1 x => ?_
  subst he
  refine ⟨lim.keeps x.toInCall.keep, codeAny_func ?_⟩
  obtain ⟨t, ht, hq⟩ := hbody A outer s H vs Q E (hr.deeper _) hgd hsp
  have I : Inv (cxOf (L2.CX P w) P w K mg base N qual scope f cdv A outer s H E) [] (L2.start N vs) H s1 := inv_start S hr.hd e0 hl r x
  refine wpAny_mono (ht.run [] s1 (L2.start N vs) H _ I hq) (fun fl s' hs => ?_) fun e s' hs => hs
  have fin : ∀ {σ' : L2.St} {H' : Hp} {v : V} {u : Value}, Inv (cxOf (L2.CX P w) P w K mg base N qual scope f cdv A outer s H E) [] σ' H' s' → RelV v u → Q v H' → CE outer P w H s Q u s' :=
    fun {σ' H' v u} J rv q => ⟨v, H', J.os, J.bare, J.base, J.hok, rv, q⟩
  cases fl with
  | ret u =>
    obtain ⟨v, σ', H', J, rv, q⟩ := hs
    exact fin J rv q
  | next =>
    obtain ⟨σ', H', J, q⟩ := hs
    exact fin (v := V.non) (u := Value.none) J rfl q
  | brk =>
    obtain ⟨_, _, _, q⟩ := hs
    exact False.elim q
  | cont =>
    obtain ⟨_, _, _, q⟩ := hs
    exact False.elim q

/-- a function's answer -/
inductive FR where
  | ok (d : D)
  | ex (x : Xc)
  | st
abbrev Fn := List D → FR
/-- what stands, stands; new data is new -/
def Nw (G H G' H' : Hp) : Prop := Ex G G' ∧ Ex H H' ∧ Ex G' H' ∧ ∀ a o, G' a = some o → G a = some o ∨ H a = none
/-- the promise of a def that is a function of its arguments' data -/
def spF (K : PySem.W.Frag) (mg : Str → Option Value) (n : Nat) (F : Fn) : Sp := fun vs H Q E => vs.length = n ∧ ∃ G ds, Ex G H ∧ DRAll K G vs ds ∧ match F ds with
  | .ok d => ∀ v G' H', Nw G H G' H' → DR K G' v d → Q v H'
  | .ex x => ∀ C dd fs G' H', mg x.cls = some (.ref C) → Nw G H G' H' → H' dd = some (.xd fs) → FsOk K G' fs x.fs → E (.ref C) (some dd) H'
  | .st => False
def callM (F : Fn) (ms : M (List D)) : M D := ms.bind fun ds => match F ds with
  | .ok d => M.ret d
  | .ex x => fun e => .ex x e
  | .st => M.st

section
variable {X : Cx} {W : Wi} {k : Nat} {f : Addr} {fd : FuncData} {ps : List Str} {sp : Sp} {E : L2.St → XK} {x : Str} {p pos : Pos} {e : Expr} {es : List Expr} {t : TA}
theorem run_fnG {pins : List (Addr × Obj)} {σ : L2.St} {H : Hp} {s : Shared} {Q : VK} {us : List Value} {vs : List V} {dvs : List V} {ds : List Value} (F : FnG X.prog X.w X.K X.mg X.base k f fd ps sp) (hr : Room k X.A) (hgd : X.A.guards = some []) (hb : Binds X.K fd ps ds) (hd : Vals dvs ds) (hx : PassesAt (L2.CX X.prog X.w) X σ (E σ))
    (I : Inv X pins σ H s) (r : Vals vs us) (h : sp (vs ++ dvs) H Q (E σ)) : wpAny (model X.prog X.w) X.A (call (.ref f) us) (EP X pins σ Q) X.xe s := by
  have r2 : Vals (vs ++ dvs) (us ++ ds) := r.append hd
  have hl : (us ++ ds).length = ps.length := by rw [← r2.length]; exact F.len _ _ _ _ h
  refine wpAny_call (codeAny_mono (F.run X.A X.stack s H ⟨us, []⟩ (us ++ ds) (vs ++ dvs) Q (E σ) hr hgd I.env0 (hb s us I.kIn hl) r2 h) fun r s' hq => ?_)
  cases r with
  | error e => exact hx pins H s e s' I hq
  | ok fl =>
    cases fl with
    | ret u => exact I.after hq
    | next => exact False.elim hq
    | brk => exact False.elim hq
    | cont => exact False.elim hq
def tCallG (sp : Sp) (dvs : List V) (E : L2.St → XK) (t : TA) : TE := fun σ H Q => t σ H fun vs H1 => sp (vs ++ dvs) H1 Q (E σ)
theorem pe_callG {dvs : List V} {ds : List Value} (F : FnG X.prog X.w X.K X.mg X.base k f fd ps sp) (hr : Room k X.A) (hgd : X.A.guards = some []) (hg : Gl X x) (hm : X.mg x = some (.ref f)) (hk : PySem.W.keepIn X.K (.ref f) = true) (hb : Binds X.K fd ps ds) (hd : Vals dvs ds) (hx : ∀ σ, PassesAt (L2.CX X.prog X.w) X σ (E σ))
    (ha : PA X (e :: es) t) (hdb : (x == ("__debug__" : Str)) = false := by decide) (he : starEach (e :: es) X.env = (false, eval e X.env) :: starEach es X.env := by rfl) (hpl : (backTo pos (starEach es X.env)).any (·.1) = false := by rfl) :
    PE X (.Call (.Name x p) (e :: es) [] pos) (tCallG sp dvs E t) := by
  refine ⟨fun pins s σ H Q I h => ?_⟩
  refine wpAny_Call_Name_kw (ld_glob I hg hm ?_ hdb)
  refine PySem.W.callWith_K (h₀ := X.base) I.ok.mod.kin hk (thn (ha.run pos pins s σ H _ I h) fun us s1 ⟨vs, H1, I1, r, q⟩ => ⟨I1.kIn, ?_⟩) he hpl
  exact run_fnG F hr hgd hb hd (hx σ) I1 r q
/-- f() -/
theorem pe_callG0 {dvs : List V} {ds : List Value} (F : FnG X.prog X.w X.K X.mg X.base k f fd ps sp) (hr : Room k X.A) (hgd : X.A.guards = some []) (hg : Gl X x) (hm : X.mg x = some (.ref f)) (hk : PySem.W.keepIn X.K (.ref f) = true) (hb : Binds X.K fd ps ds) (hd : Vals dvs ds) (hx : ∀ σ, PassesAt (L2.CX X.prog X.w) X σ (E σ))
    (hdb : (x == ("__debug__" : Str)) = false := by decide) : PE X (.Call (.Name x p) [] [] pos) (tCallG sp dvs E tNil) := by
  refine ⟨fun pins s σ H Q I h => ?_⟩
  refine wpAny_Call_Name_kw (ld_glob I hg hm ?_ hdb)
  exact PySem.W.callWith_K0 I.kIn hk (run_fnG (us := []) F hr hgd hb hd (hx σ) I .nil h)

/-- the promise, used -/
theorem spF_use {mg : Str → Option Value} {K : PySem.W.Frag} {n : Nat} {F : Fn} {g : Gd} {G H : Hp} {σ : L2.St} {en : En} {vs : List V} {ds : List D} {Q : VK} (rl : Rel K g G H σ en) (h : DRAll K G vs ds) (hn : vs.length = n)
    (q : Post K mg W (DR K) g G σ Q ((match F ds with | .ok d => M.ret d | .ex x => fun e => R.ex x e | .st => M.st : M D) en)) : spF K mg n F vs H Q (WE W.W σ) := by
  refine ⟨hn, G, ds, rl.gh, h, ?_⟩
  cases hF : F ds with
  | ok d =>
    rw [hF] at q
    exact fun v G' H' nw hv => q v G' H' nw.1 (rl.grow nw.1 nw.2.1 nw.2.2.1 nw.2.2.2) hv
  | ex x =>
    rw [hF] at q
    exact fun C dd fs G' H' hm nw hd hf => q C dd fs G' H' hm nw.1 (rl.grow nw.1 nw.2.1 nw.2.2.1 nw.2.2.2) hd hf
  | st =>
    rw [hF] at q
    exact q
/-- f(e, ..): dds the defaults that fill up -/
theorem fe_call {F : Fn} {ms : M (List D)} {n : Nat} (G : FnG X.prog X.w X.K X.mg X.base k f fd ps (spF X.K X.mg n F)) (hr : Room k X.A) (hgd : X.A.guards = some []) (hg : Gl X x) (hm : X.mg x = some (.ref f)) (hk : PySem.W.keepIn X.K (.ref f) = true) (hb : Binds X.K fd ps []) (hx : ∀ σ, PassesAt (L2.CX X.prog X.w) X σ (WE W.W σ))
    (ha : FA X W (e :: es) ms) (hn : ∀ env ds env', ms env = .ok ds env' → ds.length = n) (hdb : (x == ("__debug__" : Str)) = false := by decide) (he : starEach (e :: es) X.env = (false, eval e X.env) :: starEach es X.env := by rfl) (hpl : (backTo pos (starEach es X.env)).any (·.1) = false := by rfl) :
    FE X W (.Call (.Name x p) (e :: es) [] pos) (callM F ms) :=
  pe_mono (pe_callG G hr hgd hg hm hk hb .nil hx ha hdb he hpl) fun σ H Q ⟨g, G0, en, ig, rl, q⟩ => ⟨g, G0, en, ig, rl, by
    unfold callM M.bind at q
    cases hms : ms en with
    | ok ds en1 =>
      rw [hms] at q
      intro vs G1 H1 eg r1 rv
      show spF X.K X.mg n F (vs ++ []) H1 Q _
      rw [List.append_nil]
      exact spF_use r1 rv ((dpAll_len rv).trans (hn _ _ _ hms)) (q.weak eg)
    | ex c e1 =>
      rw [hms] at q
      exact q
    | st =>
      rw [hms] at q
      exact q⟩
theorem fe_call0 {F : Fn} (G : FnG X.prog X.w X.K X.mg X.base k f fd ps (spF X.K X.mg 0 F)) (hr : Room k X.A) (hgd : X.A.guards = some []) (hg : Gl X x) (hm : X.mg x = some (.ref f)) (hk : PySem.W.keepIn X.K (.ref f) = true) (hb : Binds X.K fd ps []) (hx : ∀ σ, PassesAt (L2.CX X.prog X.w) X σ (WE W.W σ))
    (hdb : (x == ("__debug__" : Str)) = false := by decide) : FE X W (.Call (.Name x p) [] [] pos) (callM F (M.ret [])) :=
  pe_mono (pe_callG0 G hr hgd hg hm hk hb .nil hx hdb) fun σ H Q ⟨g, G0, en, ig, rl, q⟩ => spF_use rl .nil rfl q
/-- what is raised is not let out of a comprehension -/
def noW : Wi := ⟨fun _ _ _ _ => False, fun _ => True⟩
theorem pass_no (σ : L2.St) : PassesAt (L2.CX X.prog X.w) X σ (WE noW.W σ) := fun _ _ _ _ _ _ ⟨_, _, _, _, _, _, _, _, _, _, _, _, q⟩ => q.elim
end
end Fx

set_option Elab.async false
set_option linter.all false
set_option maxRecDepth 100000
set_option maxHeartbeats 4000000
/-! Fx4: statements. -/
namespace Fx
open PySem PySem.Spec PyProof.Rows L2 Evl

inductive Fl where
  | nx
  | rt (d : D)
  | bk
  | ct
def PostS (K : PySem.W.Frag) (mg : Str → Option Value) (W : Wi) (g : Gd) (G : Hp) (Z : Ends) : R Fl → Prop
  | .ok .nx e => ∀ σ' G' H', Ex G G' → Rel K g G' H' σ' e → Z.nx σ' H'
  | .ok (.rt d) e => ∀ v σ' G' H', Ex G G' → Rel K g G' H' σ' e → DR K G' v d → Z.rt v H'
  | .ok .bk e => ∀ σ' G' H', Ex G G' → Rel K g G' H' σ' e → Z.bk σ' H'
  | .ok .ct e => ∀ σ' G' H', Ex G G' → Rel K g G' H' σ' e → Z.ct σ' H'
  | .ex x e => ∀ C dd fs σ' G' H', mg x.cls = some (.ref C) → Ex G G' → Rel K g G' H' σ' e → H' dd = some (.xd fs) → FsOk K G' fs x.fs → W.W (.ref C) (some dd) σ' H'
  | .st => False
def tS (K : PySem.W.Frag) (mg : Str → Option Value) (W : Wi) (m : M Fl) : TS := fun Z σ H => ∃ g G e, W.I g ∧ Rel K g G H σ e ∧ PostS K mg W g G Z (m e)
def FS (X : Cx) (W : Wi) (st : Stmt) (m : M Fl) : Prop := PS X st (tS X.K X.mg W m)
def FB (X : Cx) (W : Wi) (sts : List Stmt) (m : M Fl) : Prop := PSs X sts (tS X.K X.mg W m)

section
variable {K : PySem.W.Frag} {mg : Str → Option Value} {W : Wi} {g : Gd} {G G1 H : Hp} {σ : L2.St} {e : En} {Z : Ends}
theorem PostS.weak {r : R Fl} (x : Ex G G1) (h : PostS K mg W g G Z r) : PostS K mg W g G1 Z r := by
  cases r with
  | ok a e =>
    cases a with
    | nx => exact fun σ' G' H' eg rl => h σ' G' H' (x.trans eg) rl
    | rt d => exact fun v σ' G' H' eg rl hv => h v σ' G' H' (x.trans eg) rl hv
    | bk => exact fun σ' G' H' eg rl => h σ' G' H' (x.trans eg) rl
    | ct => exact fun σ' G' H' eg rl => h σ' G' H' (x.trans eg) rl
  | ex c e => exact fun C dd fs σ' G' H' hm eg rl hd hf => h C dd fs σ' G' H' hm (x.trans eg) rl hd hf
  | st => exact h
/-- an expression, then a statement's end -/
theorem bindS {α τ : Type} {relA : Hp → τ → α → Prop} {ma : M α} {f : α → M Fl} {Q1 : τ → Hp → Prop} (p : PostS K mg W g G Z (M.bind ma f e))
    (k : ∀ G1 H1 e1 a t, Ex G G1 → Rel K g G1 H1 σ e1 → relA G1 t a → PostS K mg W g G1 Z (f a e1) → Q1 t H1) : Post K mg W relA g G σ Q1 (ma e) := by
  unfold M.bind at p
  cases hm : ma e with
  | ok a e1 =>
    rw [hm] at p
    exact fun t G1 H1 eg rl re => k G1 H1 e1 a t eg rl re (p.weak eg)
  | ex c e1 =>
    rw [hm] at p
    exact fun C dd fs G' H' h1 h2 h3 h4 h5 => p C dd fs σ G' H' h1 h2 h3 h4 h5
  | st =>
    rw [hm] at p
    exact p
theorem nxP (r : Rel K g G H σ e) (p : PostS K mg W g G Z (M.ret Fl.nx e)) : Z.nx σ H := p σ G H (Ex.refl G) r

/-! ### slots are written -/
theorem get_set {α : Type} {l : List α} {i j : Nat} {x y : α} (h : (l.set i x)[j]? = some y) : (i = j ∧ x = y) ∨ (i ≠ j ∧ l[j]? = some y) := by
  by_cases hij : i = j
  · subst hij
    rw [List.getElem?_set] at h
    simp at h
    exact .inl ⟨rfl, h.2⟩
  · rw [List.getElem?_set_ne hij] at h
    exact .inr ⟨hij, h⟩
theorem Rel.setG (r : Rel K g G H σ e) {i : Nat} {v : V} {s : SV} (hs : i < e.length → SlOk K g G H (some (some v)) s) (ho : isOwn s = true → ∀ j t a, i ≠ j → e[j]? = some t → isOwn t = true → v = .ref a → σ[j]? = some (some (.ref a)) → False) :
    Rel K g G H (σ.set i (some v)) (e.set i s) where
  gh := r.gh
  bh := r.bh
  gg := r.gg
  gb := r.gb
  len := by rw [List.length_set, List.length_set]; exact r.len
  sl := fun j t h => by
    rcases get_set h with ⟨rfl, rfl⟩ | ⟨hij, h⟩
    · have hi : i < e.length := by
        have := (List.getElem?_eq_some_iff.mp h).1
        rwa [List.length_set] at this
      rw [List.getElem?_set_self (by rw [r.len]; exact hi)]
      exact hs hi
    · rw [List.getElem?_set_ne hij]
      exact r.sl j t h
  ds := fun j k t u a hjk h1 o1 s1 h2 o2 s2 => by
    rcases get_set h1 with ⟨rfl, rfl⟩ | ⟨n1, h1⟩
    · rcases get_set h2 with ⟨rfl, rfl⟩ | ⟨n2, h2⟩
      · exact hjk rfl
      · rw [List.getElem?_set_ne n2] at s2
        rcases get_set s1 with ⟨_, q⟩ | ⟨q, _⟩
        · exact ho o1 k u a n2 h2 o2 (Option.some.inj q) s2
        · exact q rfl
    · rw [List.getElem?_set_ne n1] at s1
      rcases get_set h2 with ⟨rfl, rfl⟩ | ⟨n2, h2⟩
      · rcases get_set s2 with ⟨_, q⟩ | ⟨q, _⟩
        · exact ho o2 j t a n1 h1 o1 (Option.some.inj q) s1
        · exact q rfl
      · rw [List.getElem?_set_ne n2] at s2
        exact r.ds j k t u a hjk h1 o1 s1 h2 o2 s2
theorem Rel.setD (r : Rel K g G H σ e) {i : Nat} {v : V} {d : D} (h : DR K G v d) : Rel K g G H (σ.set i (some v)) (e.set i (.d d)) :=
  r.setG (fun _ => ⟨v, rfl, h⟩) fun z => by cases z
/-- a new list becomes a slot's own -/
theorem Rel.setO (r : Rel K g G H σ e) {H2 : Hp} {i : Nat} {p : Addr} {xs : List V} {ds : List D} (hp : H p = none) (hb : ∀ b, b ≠ p → H2 b = H b) (h2 : H2 p = some (.lst xs)) (h : DRAll K G xs ds) : Rel K g G H2 (σ.set i (some (.ref p))) (e.set i (.own false (.ol ds))) := by
  have gp : G p = none := fresh_back r.gh hp
  have bp : g.B p = none := fresh_back r.bh hp
  have e2 : Ex H H2 := fun a o ho => by
    have : a ≠ p := ne_of_none ho hp
    rw [hb a this]; exact ho
  have r2 : Rel K g G H2 σ e := r.grow (Ex.refl G) e2 (r.gh.trans e2) fun a o h => .inl h
  refine r2.setG (fun _ => ⟨p, rfl, ⟨xs, h2, h⟩, gp, bp, fun z => by cases z⟩) fun _ j t a _ h1 o1 ev h3 => ?_
  cases ev
  have z := r.sl j t h1
  cases t with
  | no => cases o1
  | d x => cases o1
  | own w ys =>
    obtain ⟨b, s1, s2, _, _⟩ := z
    obtain ⟨o, ho⟩ := s2.there
    rw [h3] at s1
    cases s1
    rw [hp] at ho
    cases ho
/-- a slot's own object changes -/
theorem Rel.mut (r : Rel K g G H σ e) {i : Nat} {a : Addr} {w : Bool} {s s' : OO} {o : HO} (hi : e[i]? = some (.own w s)) (hs : σ[i]? = some (some (.ref a))) (h' : Holds K G (upd H a o) a s') (ga : G a = none) (ba : g.B a = none) (hP : w = true → g.P = some a) :
    Rel K g G (upd H a o) σ (e.set i (.own w s')) where
  gh := fun b u hb => by rw [upd_ne (ne_of_none hb ga)]; exact r.gh b u hb
  bh := fun b u hb => by rw [upd_ne (ne_of_none hb ba)]; exact r.bh b u hb
  gg := r.gg
  gb := r.gb
  len := by rw [List.length_set]; exact r.len
  sl := fun j t h => by
    rcases get_set h with ⟨rfl, rfl⟩ | ⟨hij, h⟩
    · exact ⟨a, hs, h', ga, ba, hP⟩
    · have z := r.sl j t h
      cases t with
      | no => exact True.intro
      | d x => exact z
      | own w' xs =>
        obtain ⟨b, s1, s2, s3, s4⟩ := z
        have nb : b ≠ a := fun q => by
          subst q
          exact r.ds i j _ _ b hij hi rfl hs h rfl s1
        exact ⟨b, s1, s2.up (Ex.refl G) (upd_ne nb), s3, s4⟩
  ds := fun j k t u b hjk h1 o1 s1 h2 o2 s2 => by
    have q1 : ∃ t', e[j]? = some t' ∧ isOwn t' = true := by
      rcases get_set h1 with ⟨rfl, rfl⟩ | ⟨_, h1⟩
      · exact ⟨_, hi, rfl⟩
      · exact ⟨t, h1, o1⟩
    have q2 : ∃ t', e[k]? = some t' ∧ isOwn t' = true := by
      rcases get_set h2 with ⟨rfl, rfl⟩ | ⟨_, h2⟩
      · exact ⟨_, hi, rfl⟩
      · exact ⟨u, h2, o2⟩
    obtain ⟨t', a1, a2⟩ := q1
    obtain ⟨u', b1, b2⟩ := q2
    exact r.ds j k t' u' b hjk a1 a2 s1 b1 b2 s2
end

section
variable {X : Cx} {W : Wi} {a b c : Expr} {ma mb mc : M D} {tc : M Bool} {pos : Pos} {st : Stmt} {sts : List Stmt} {m n : M Fl}
def seqM (m n : M Fl) : M Fl := m.bind fun f => match f with
  | .nx => n
  | f => M.ret f
theorem fb_nil : FB X W [] (M.ret .nx) := pss_mono pss_nil fun Z σ H ⟨g, G, e, ig, rl, q⟩ => nxP rl q
theorem fb_one (h : FS X W st m) : FB X W [st] m := pss_one h
theorem seqP {K : PySem.W.Frag} {mg : Str → Option Value} {g : Gd} {G : Hp} {e : En} {Z : Ends} (ig : W.I g) (q : PostS K mg W g G Z (seqM m n e)) : PostS K mg W g G { Z with nx := tS K mg W n Z } (m e) := by
  unfold seqM M.bind at q
  cases hm : m e with
  | ok f e1 =>
    rw [hm] at q
    cases f with
    | nx => exact fun σ' G' H' eg r1 => ⟨g, G', e1, ig, r1, q.weak eg⟩
    | rt d => exact q
    | bk => exact q
    | ct => exact q
  | ex x e1 =>
    rw [hm] at q
    exact q
  | st =>
    rw [hm] at q
    exact q
theorem fb_cons (h1 : FS X W st m) (h2 : FB X W sts n) : FB X W (st :: sts) (seqM m n) :=
  pss_mono (pss_cons h1 h2) fun Z σ H ⟨g, G, e, ig, rl, q⟩ => ⟨g, G, e, ig, rl, seqP ig q⟩
theorem fs_pass : FS X W (.Pass pos) (M.ret .nx) := ps_mono ps_pass fun Z σ H ⟨g, G, e, ig, rl, q⟩ => nxP rl q
theorem fs_break : FS X W (.Break pos) (M.ret .bk) := ps_mono ps_break fun Z σ H ⟨g, G, e, ig, rl, q⟩ => q σ G H (Ex.refl G) rl
theorem fs_cont : FS X W (.Continue pos) (M.ret .ct) := ps_mono ps_continue fun Z σ H ⟨g, G, e, ig, rl, q⟩ => q σ G H (Ex.refl G) rl
def dropM (m : M D) : M Fl := m.bind fun _ => M.ret .nx
theorem fs_expr (h : FE X W a ma) (hs : swapsWith a none pos.line X.env = pure false := by rfl) : FS X W (.Expr a pos) (dropM ma) :=
  ps_mono (ps_expr h hs) fun Z σ H ⟨g, G, e, ig, rl, q⟩ => ⟨g, G, e, ig, rl, bindS q fun G1 H1 e1 d v eg r1 rv q1 => nxP r1 q1⟩
def retM (m : M D) : M Fl := m.bind fun d => M.ret (.rt d)
theorem fs_ret (h : FE X W a ma) : FS X W (.Return (some a) pos) (retM ma) :=
  ps_mono (ps_ret h) fun Z σ H ⟨g, G, e, ig, rl, q⟩ => ⟨g, G, e, ig, rl, bindS q fun G1 H1 e1 d v eg r1 rv q1 => q1 v σ G1 H1 (Ex.refl G1) r1 rv⟩
theorem fs_retN : FS X W (.Return none pos) (M.ret (.rt .none)) := ps_mono ps_retN fun Z σ H ⟨g, G, e, ig, rl, q⟩ => q .non σ G H (Ex.refl G) rl .non
theorem fs_if {x y : List Stmt} (hc : FT X W c tc) (ha : FB X W x m) (hb : FB X W y n) : FS X W (.If c x y pos) (ifM tc m n) :=
  ps_mono (ps_if hc ha hb) fun Z σ H ⟨g, G, e, ig, rl, q⟩ => ⟨g, G, e, ig, rl, bindS q fun G1 H1 e1 d v eg r1 rv q1 => by
    subst rv
    cases v with
    | true => exact (if_pos rfl).mpr ⟨g, G1, e1, ig, r1, q1⟩
    | false => exact (if_neg Bool.false_ne_true).mpr ⟨g, G1, e1, ig, r1, q1⟩⟩
def setM (i : Nat) (m : M D) : M Fl := m.bind fun d => fun e => .ok .nx (e.set i (.d d))
theorem fs_set {i : Nat} {x : Str} {pos' : Pos} (hN : X.N.Nodup) (hi : X.N[i]? = some x) (hx : Loc X.env.scope x) (he : FE X W a ma) (hs : swapsWith a (some (.Name x pos')) pos.line X.env = pure false := by rfl)
    (hf : X.fn x = true ∨ X.env.scope.names.lookup x = some .local := by first | exact .inl rfl | exact .inr rfl | assumption) : FS X W (.Assign [.Name x pos'] a pos) (setM i ma) :=
  ps_mono (ps_set hN hi hx he hs hf) fun Z σ H ⟨g, G, e, ig, rl, q⟩ => ⟨g, G, e, ig, rl, bindS q fun G1 H1 e1 d v eg r1 rv q1 => q1 _ G1 H1 (Ex.refl G1) (r1.setD rv)⟩

/-! ### new lists -/
/-- an expression that makes a new list -/
def PostF (K : PySem.W.Frag) (mg : Str → Option Value) (W : Wi) (g : Gd) (G : Hp) (σ : L2.St) (Q : VK) : R (List D) → Prop
  | .ok ds e => ∀ p xs G' H' H2, Ex G G' → Rel K g G' H' σ e → H' p = none → (∀ b, b ≠ p → H2 b = H' b) → H2 p = some (.lst xs) → DRAll K G' xs ds → Q (.ref p) H2
  | .ex x e => ∀ C dd fs G' H', mg x.cls = some (.ref C) → Ex G G' → Rel K g G' H' σ e → H' dd = some (.xd fs) → FsOk K G' fs x.fs → W.W (.ref C) (some dd) σ H'
  | .st => False
def tF (K : PySem.W.Frag) (mg : Str → Option Value) (W : Wi) (m : M (List D)) : TE := fun σ H Q => ∃ g G e, W.I g ∧ Rel K g G H σ e ∧ PostF K mg W g G σ Q (m e)
def FF (X : Cx) (W : Wi) (x : Expr) (m : M (List D)) : Prop := PE X x (tF X.K X.mg W m)
theorem Rel.freeze {K : PySem.W.Frag} {g : Gd} {G H H2 : Hp} {σ : L2.St} {e : En} (r : Rel K g G H σ e) {p : Addr} {o : HO} (hp : H p = none) (hb : ∀ b, b ≠ p → H2 b = H b) (h2 : H2 p = some o) : Rel K g (upd G p o) H2 σ e := by
  have e : H2 = upd H p o := by
    funext b
    by_cases h : b = p
    · subst h; rw [upd_same]; exact h2
    · rw [upd_ne h]; exact hb b h
  rw [e]
  exact r.new hp
/-- the new list as data -/
def lsM (m : M (List D)) : M D := m.bind fun ds => M.ret (.list ds)
theorem ff_fe {ms : M (List D)} (h : FF X W a ms) : FE X W a (lsM ms) :=
  pe_mono h fun σ H Q ⟨g, G, e, ig, rl, q⟩ => ⟨g, G, e, ig, rl, by
    unfold lsM M.bind at q
    cases hm : ms e with
    | ok ds e1 =>
      rw [hm] at q
      intro p xs G' H' H2 eg r1 hp hb h2 hd
      have gp : G' p = none := fresh_back r1.gh hp
      exact q (.ref p) (upd G' p (.lst xs)) H2 (eg.trans (Ex.new gp)) (r1.freeze hp hb h2) (.lst upd_same (hd.up (Ex.new gp)))
    | ex c e1 =>
      rw [hm] at q
      exact q
    | st =>
      rw [hm] at q
      exact q⟩
/-- x = (a new list), x its owner -/
def setO (i : Nat) (m : M (List D)) : M Fl := m.bind fun ds => fun e => .ok .nx (e.set i (.own false (.ol ds)))
theorem fs_setO {i : Nat} {x : Str} {pos' : Pos} {ms : M (List D)} (hN : X.N.Nodup) (hi : X.N[i]? = some x) (hx : Loc X.env.scope x) (he : FF X W a ms) (hs : swapsWith a (some (.Name x pos')) pos.line X.env = pure false := by rfl)
    (hf : X.fn x = true ∨ X.env.scope.names.lookup x = some .local := by first | exact .inl rfl | exact .inr rfl | assumption) : FS X W (.Assign [.Name x pos'] a pos) (setO i ms) :=
  ps_mono (ps_set hN hi hx he hs hf) fun Z σ H ⟨g, G, e, ig, rl, q⟩ => ⟨g, G, e, ig, rl, by
    unfold setO M.bind at q
    cases hm : ms e with
    | ok ds e1 =>
      rw [hm] at q
      intro p xs G' H' H2 eg r1 hp hb h2 hd
      exact q _ G' H2 eg (r1.setO hp hb h2 hd)
    | ex c e1 =>
      rw [hm] at q
      exact fun C dd fs G' H' h1 h2 h3 h4 h5 => q C dd fs σ G' H' h1 h2 h3 h4 h5
    | st =>
      rw [hm] at q
      exact q⟩
def limL (ms : M (List D)) : M (List D) := ms.bind fun ds => if ds.length ≤ 100000 then M.ret ds else M.st
theorem ff_lst {es : List Expr} {ms : M (List D)} (h : FA X W es ms) : FF X W (.List es pos) (limL ms) :=
  pe_mono (pe_lst h) fun σ H Q ⟨g, G, e, ig, rl, q⟩ => ⟨g, G, e, ig, rl, by
    unfold limL M.bind at q
    cases hm : ms e with
    | ok ds e1 =>
      rw [hm] at q
      intro vs G1 H1 eg r1 rv
      by_cases hl : ds.length ≤ 100000
      · have q' : PostF X.K X.mg W g G σ Q (M.ret ds e1) := by
          have : (if ds.length ≤ 100000 then M.ret ds else M.st : M (List D)) = M.ret ds := if_pos hl
          rw [← this]; exact q
        exact ⟨sz_of (by rw [dpAll_len rv]; exact hl), fun p hp => q' p vs G1 H1 _ eg r1 hp (fun b hb => upd_ne hb) upd_same rv⟩
      · have : (if ds.length ≤ 100000 then M.ret ds else M.st : M (List D)) = M.st := if_neg hl
        have q' : PostF X.K X.mg W g G σ Q (M.st e1) := by rw [← this]; exact q
        exact q'.elim
    | ex c e1 =>
      rw [hm] at q
      exact q
    | st =>
      rw [hm] at q
      exact q⟩
end

/-! ### a def's body -/
/-- the body as a function: nl its names' number -/
def bodyF (nl : Nat) (m : M Fl) : Fn := fun ds => match m (ds.map SV.d ++ List.replicate (nl - ds.length) SV.no) with
  | .ok .nx _ => .ok .none
  | .ok (.rt d) _ => .ok d
  | .ok _ _ => .st
  | .ex x _ => .ex x
  | .st => .st
theorem rel_start {K : PySem.W.Frag} {G H : Hp} {N : List Str} {vs : List V} {ds : List D} (hg : Ex G H) (h : DRAll K G vs ds) (hl : vs.length ≤ N.length) :
    Rel K ⟨H, G, none⟩ G H (L2.start N vs) (ds.map SV.d ++ List.replicate (N.length - ds.length) SV.no) where
  gh := hg
  bh := Ex.refl H
  gg := Ex.refl G
  gb := fun a o h => .inl h
  len := by
    have := dpAll_len h
    unfold L2.start
    simp only [List.length_append, List.length_map, List.length_replicate]
    omega
  sl := fun i s hs => by
    have hl2 := dpAll_len h
    by_cases hi : i < ds.length
    · rw [List.getElem?_append_left (by simpa using hi), List.getElem?_map, List.getElem?_eq_getElem hi] at hs
      cases hs
      obtain ⟨v, h1, h2⟩ := dpAll_get h (List.getElem?_eq_getElem hi)
      refine ⟨v, ?_, h2⟩
      unfold L2.start
      rw [List.getElem?_append_left (by simpa using (by omega : i < vs.length)), List.getElem?_map, h1]
      rfl
    · rw [List.getElem?_append_right (by simpa using Nat.le_of_not_lt hi), List.getElem?_replicate] at hs
      split at hs
      · cases hs; exact True.intro
      · cases hs
  ds := fun i j s t a hij h1 o1 => by
    exfalso
    by_cases hi : i < ds.length
    · rw [List.getElem?_append_left (by simpa using hi), List.getElem?_map, List.getElem?_eq_getElem hi] at h1
      cases h1
      cases o1
    · rw [List.getElem?_append_right (by simpa using Nat.le_of_not_lt hi), List.getElem?_replicate] at h1
      split at h1
      · cases h1; cases o1
      · cases h1
/-- THE RULE: a def by its body's function -/
theorem fn_mkG {P : Program} {w : World} {K : PySem.W.Frag} {mg : Str → Option Value} {base : Heap} {x qual : Str} {st : Stmt} {f : Addr} {fd : FuncData} {N ps : List Str} {k : Nat} {m : M Fl} (F : Fun K x qual st f fd) (S : FnScope N ps (defScope st))
    (hp : ps.length ≤ N.length)
    (hbody : ∀ (X : Cx) (W : Wi), X.prog = P → X.w = w → X.K = K → X.mg = mg → X.base = base → X.N = N → X.env.scope = defScope st → X.calm = true → X.fn = (fun _ => true) → X.stack = X.env :: X.outer → X.env.frame = some X.env.locals → X.ex = [] → Room k X.A → X.A.guards = some [] → Takes X W.W → (∀ g, W.I g) →
      PassesOwn (model X.prog X.w) X.A X.env X.xe → FB X W (defBody st) m) : FnG P w K mg base (k + 1) f fd ps (spF K mg ps.length (bodyF N.length m)) := by
  obtain ⟨oc, od, kV, doc, pm, an, cdv, ct, osl, rfl, lk, hcd⟩ := F.ex
  refine fn_ofG lk hcd S (fun vs H Q E h => h.1) fun A outer s H vs Q E hr hgd h => ?_
  obtain ⟨hn, G, ds, hg, hd, q⟩ := h
  have tk : Takes (cxOf (L2.CX P w) P w K mg base N qual (defScope st) f cdv A outer s H E) (fun cls d σ H' => E cls d H') := takes_of rfl rfl rfl rfl
  have hpo : PassesOwn (model P w) (cxOf (L2.CX P w) P w K mg base N qual (defScope st) f cdv A outer s H E).A (cxOf (L2.CX P w) P w K mg base N qual (defScope st) f cdv A outer s H E).env (cxOf (L2.CX P w) P w K mg base N qual (defScope st) f cdv A outer s H E).xe := passes_of rfl
  refine ⟨_, hbody (cxOf (L2.CX P w) P w K mg base N qual (defScope st) f cdv A outer s H E) ⟨fun cls d σ H' => E cls d H', fun _ => True⟩ rfl rfl rfl rfl rfl rfl rfl rfl rfl rfl rfl rfl hr hgd tk (fun _ => True.intro) hpo, ⟨H, G, none⟩, G, _, True.intro, rel_start hg hd (by omega), ?_⟩
  have nw : ∀ {G' H' : Hp} {σ' : L2.St} {e' : En}, Rel K ⟨H, G, none⟩ G' H' σ' e' → Nw G H G' H' := fun r => ⟨r.gg, r.bh, r.gh, r.gb⟩
  unfold bodyF at q
  generalize m (ds.map SV.d ++ List.replicate (N.length - ds.length) SV.no) = r at q
  cases r with
  | ok fl e =>
    cases fl with
    | nx => exact fun σ' G' H' _ r => q .non G' H' (nw r) .non
    | rt d => exact fun v σ' G' H' _ r hv => q v G' H' (nw r) hv
    | bk => exact q.elim
    | ct => exact q.elim
  | ex c e => exact fun C dd fs σ' G' H' hm _ r hdd hf => q C dd fs G' H' hm (nw r) hdd hf
  | st => exact q.elim
end Fx

set_option Elab.async false
set_option linter.all false
set_option maxRecDepth 100000
set_option maxHeartbeats 4000000
/-! Fx5: the built-in operations on data. -/
namespace Fx
open PySem PySem.Spec PyProof.Rows L2 Evl
instance {a b : Int} : Decidable (IntMulOk a b) := by unfold IntMulOk; infer_instance
theorem sz1 {n : Nat} (h : n ≤ 100000) : n ≤ sizeLine := sz_of h

theorem optIf {α τ : Type} {K : PySem.W.Frag} {mg : Str → Option Value} {W : Wi} {rel : Hp → τ → α → Prop} {g : Gd} {G : Hp} {σ : L2.St} {e : En} {Q : τ → Hp → Prop} {c : Prop} [Decidable c] {d : α} (p : Post K mg W rel g G σ Q (M.opt (if c then some d else none) e)) : c ∧ Post K mg W rel g G σ Q (M.ret d e) := by
  by_cases h : c
  · rw [if_pos h] at p; exact ⟨h, p⟩
  · rw [if_neg h] at p; exact p.elim
section
variable {X : Cx}
/-! ### arithmetic -/
def addD : D → D → Option D
  | .int i, .int j => some (.int (i + j))
  | .str x, .str y => if x.length + y.length ≤ 100000 then some (.str (x ++ y)) else none
  | .tuple xs, .tuple ys => if xs.length + ys.length ≤ 100000 then some (.tuple (xs ++ ys)) else none
  | .list xs, .list ys => if xs.length + ys.length ≤ 100000 then some (.list (xs ++ ys)) else none
  | _, _ => none
def rAddD (K : PySem.W.Frag) : R2 := fun x y H Q => (∃ i j, x = .int i ∧ y = .int j ∧ Q (.int (i + j)) H) ∨ (∃ i j, x = .str i ∧ y = .str j ∧ i.length + j.length ≤ sizeLine ∧ Q (.str (i ++ j)) H) ∨ rCatA K x y H Q ∨ rCat x y H Q
theorem op_addD : OpR X (binaryOp .Add) (rAddD X.K) := OpR.or op_add (OpR.or op_add_str (OpR.or op_catA op_cat))
theorem pr_add {K : PySem.W.Frag} : Pr2 K (rAddD K) addD := by
  intro mg W g G H σ e x y dx dy Q rl rx ry p
  cases dx with
  | int i =>
    cases dy with
    | int j => cases rx; cases ry; exact .inl ⟨i, j, rfl, rfl, retP rl (.int _) p⟩
    | _ => exact p.elim
  | str i =>
    cases dy with
    | str j =>
      cases rx; cases ry
      obtain ⟨h, p⟩ := optIf (c := i.length + j.length ≤ 100000) (d := PyData.str (i ++ j)) p
      exact .inr (.inl ⟨i, j, rfl, rfl, sz1 h, retP rl (.str _) p⟩)
    | _ => exact p.elim
  | tuple xs =>
    cases dy with
    | tuple ys =>
      obtain ⟨h, p⟩ := optIf (c := xs.length + ys.length ≤ 100000) (d := PyData.tuple (xs ++ ys)) p
      cases rx with
      | tup hs ha =>
        rename_i a us
        cases ry with
        | tup ht hb =>
          rename_i b vs
          have l1 := dpAll_len ha
          have l2 := dpAll_len hb
          refine .inr (.inr (.inl ⟨a, b, us, vs, rfl, rfl, ex_t rl.gh hs, ex_t rl.gh ht, sz1 (by omega), fun z => ?_, fun _ z => ?_, fun _ _ q hq => newT rl (dpAll_app ha hb) hq p⟩))
          · subst z; cases ha; exact retP rl (.tup ht hb) p
          · subst z; cases hb; rw [List.append_nil] at p; exact retP rl (.tup hs ha) p
    | _ => exact p.elim
  | list xs =>
    cases dy with
    | list ys =>
      obtain ⟨h, p⟩ := optIf (c := xs.length + ys.length ≤ 100000) (d := PyData.list (xs ++ ys)) p
      cases rx with
      | lst hs ha =>
        rename_i a us
        cases ry with
        | lst ht hb =>
          rename_i b vs
          have l1 := dpAll_len ha
          have l2 := dpAll_len hb
          exact .inr (.inr (.inr ⟨a, b, us, vs, rfl, rfl, rl.gh _ _ hs, rl.gh _ _ ht, sz1 (by omega), fun q hq => newL rl (dpAll_app ha hb) hq p⟩))
    | _ => exact p.elim
  | _ => exact p.elim
def subD : D → D → Option D
  | .int i, .int j => some (.int (i - j))
  | _, _ => none
theorem pr_int {K : PySem.W.Frag} {C : Int → Int → Prop} {h : Int → Int → V} {f : D → D → Option D} (hf : ∀ dx dy d, f dx dy = some d → ∃ i j, dx = .int i ∧ dy = .int j ∧ C i j ∧ ∀ G, DR K G (h i j) d) : Pr2 K (rI C h) f := by
  intro mg W g G H σ e x y dx dy Q rl rx ry p
  cases hd : f dx dy with
  | none => rw [hd] at p; exact p.elim
  | some d =>
    obtain ⟨i, j, rfl, rfl, c, k⟩ := hf dx dy d hd
    cases rx; cases ry
    rw [hd] at p
    exact ⟨i, j, rfl, rfl, c, retP rl (k G) p⟩
theorem pr_int0 {K : PySem.W.Frag} {h : Int → Int → V} {f : D → D → Option D} (hf : ∀ dx dy d, f dx dy = some d → ∃ i j, dx = .int i ∧ dy = .int j ∧ ∀ G, DR K G (h i j) d) : Pr2 K (rI0 h) f := by
  intro mg W g G H σ e x y dx dy Q rl rx ry p
  cases hd : f dx dy with
  | none => rw [hd] at p; exact p.elim
  | some d =>
    obtain ⟨i, j, rfl, rfl, k⟩ := hf dx dy d hd
    cases rx; cases ry
    rw [hd] at p
    exact ⟨i, j, rfl, rfl, retP rl (k G) p⟩
theorem pr_sub {K : PySem.W.Frag} : Pr2 K (rI0 fun i j => .int (i - j)) subD := pr_int0 fun dx dy d h => by
  unfold subD at h
  split at h
  · cases h; exact ⟨_, _, rfl, rfl, fun G => .int _⟩
  · cases h
/-- i * j of ints; a tuple, a list, a text times an int -/
def mulI : D → D → Option D
  | .int i, .int j => if IntMulOk i j then some (.int (i * j)) else none
  | _, _ => none
theorem op_mulX : OpR X (binaryOp .Mult) (rI IntMulOk fun i j => .int (i * j)) := opI fun _ _ _ _ _ _ _ hc q => mul_int q hc
theorem pr_mulI {K : PySem.W.Frag} : Pr2 K (rI IntMulOk fun i j => .int (i * j)) mulI := pr_int fun dx dy d h => by
  unfold mulI at h
  split at h
  · rename_i i j
    by_cases c : IntMulOk i j
    · rw [if_pos c] at h; cases h; exact ⟨i, j, rfl, rfl, c, fun G => .int _⟩
    · rw [if_neg c] at h; cases h
  · cases h
def DivOk (i j : Int) : Prop := j ≠ 0 ∧ Builtin.divisionGoesByPylong i j = false
instance {i j : Int} : Decidable (DivOk i j) := by unfold DivOk; infer_instance
def fdivD : D → D → Option D
  | .int i, .int j => if DivOk i j then some (.int (i.fdiv j)) else none
  | _, _ => none
theorem op_fdivX : OpR X (binaryOp .FloorDiv) (rI DivOk fun i j => .int (i.fdiv j)) := opI fun i j _ _ _ _ _ hc q => floordiv_int hc.1 q (.inl hc.2)
theorem pr_fdiv {K : PySem.W.Frag} : Pr2 K (rI DivOk fun i j => .int (i.fdiv j)) fdivD := pr_int fun dx dy d h => by
  unfold fdivD at h
  split at h
  · rename_i i j
    by_cases c : DivOk i j
    · rw [if_pos c] at h; cases h; exact ⟨i, j, rfl, rfl, c, fun G => .int _⟩
    · rw [if_neg c] at h; cases h
  · cases h
def modD : D → D → Option D
  | .int i, .int j => if j ≠ 0 then some (.int (i.fmod j)) else none
  | _, _ => none
theorem pr_mod {K : PySem.W.Frag} : Pr2 K (rI (fun _ j => j ≠ 0) fun i j => .int (i.fmod j)) modD := pr_int fun dx dy d h => by
  unfold modD at h
  split at h
  · rename_i i j
    by_cases c : j ≠ 0
    · rw [if_pos c] at h; cases h; exact ⟨i, j, rfl, rfl, c, fun G => .int _⟩
    · rw [if_neg c] at h; cases h
  · cases h
instance {i j : Int} : Decidable (CPow i j) := by unfold CPow; infer_instance
def PowOk (i j : Int) : Prop := 0 ≤ j ∧ (Builtin.Int.intBits i : Int) * j ≤ 2 ^ 27
instance {i j : Int} : Decidable (PowOk i j) := by unfold PowOk; infer_instance
theorem op_powX : OpR X (binaryOp .Pow) (rI PowOk fun i j => .int (i ^ j.toNat)) := opI fun _ _ _ _ _ _ _ hc q => pow_int hc.1 hc.2 q
def powD : D → D → Option D
  | .int i, .int j => if PowOk i j then some (.int (i ^ j.toNat)) else none
  | _, _ => none
theorem pr_pow {K : PySem.W.Frag} : Pr2 K (rI PowOk fun i j => .int (i ^ j.toNat)) powD := pr_int fun dx dy d h => by
  unfold powD at h
  split at h
  · rename_i i j
    by_cases c : PowOk i j
    · rw [if_pos c] at h; cases h; exact ⟨i, j, rfl, rfl, c, fun G => .int _⟩
    · rw [if_neg c] at h; cases h
  · cases h
def negD : D → Option D
  | .int i => some (.int (-i))
  | _ => none
theorem pr_neg {K : PySem.W.Frag} : Pr1 K (rU fun i => .int (-i)) negD := by
  intro mg W g G H σ e x dx Q rl rx p
  cases dx with
  | int i => cases rx; exact ⟨i, rfl, retP rl (.int _) p⟩
  | _ => exact p.elim
/-! ### order of ints -/
def cmpD (f : Int → Int → Bool) : D → D → Option D
  | .int i, .int j => some (.bool (f i j))
  | _, _ => none
theorem pr_cmp {K : PySem.W.Frag} {f : Int → Int → Bool} : Pr2 K (rI0 fun i j => .bl (f i j)) (cmpD f) := pr_int0 fun dx dy d h => by
  unfold cmpD at h
  split at h
  · cases h; exact ⟨_, _, rfl, rfl, fun G => .bl _⟩
  · cases h
def ltD := cmpD fun i j => decide (i < j)
def leD := cmpD fun i j => decide (i ≤ j)
def gtD := cmpD fun i j => decide (j < i)
def geD := cmpD fun i j => decide (j ≤ i)
theorem pr_lt {K : PySem.W.Frag} : Pr2 K (rI0 fun i j => .bl (decide (i < j))) ltD := pr_cmp
theorem pr_le {K : PySem.W.Frag} : Pr2 K (rI0 fun i j => .bl (decide (i ≤ j))) leD := pr_cmp
theorem pr_gt {K : PySem.W.Frag} : Pr2 K (rI0 fun i j => .bl (decide (j < i))) gtD := pr_cmp
theorem pr_ge {K : PySem.W.Frag} : Pr2 K (rI0 fun i j => .bl (decide (j ≤ i))) geD := pr_cmp
/-! ### == and != -/
def eqD (x y : D) : Option D := if (SeqAt.shaped x = true ∧ SeqAt.shaped y = true) ∧ plain x = true ∧ plain y = true then some (.bool (PyData.eqv x y)) else none
def neD (x y : D) : Option D := if (SeqAt.shaped x = true ∧ SeqAt.shaped y = true) ∧ plain x = true ∧ plain y = true then some (.bool (!PyData.eqv x y)) else none
theorem pr_eq {K : PySem.W.Frag} : Pr2 K (rEqD K) eqD := by
  intro mg W g G H σ e x y dx dy Q rl rx ry p
  unfold eqD at p
  by_cases c : (SeqAt.shaped dx = true ∧ SeqAt.shaped dy = true) ∧ plain dx = true ∧ plain dy = true
  · rw [if_pos c] at p
    exact ⟨dx, dy, dr_dp _ _ c.2.1 (rl.dp rx), dr_dp _ _ c.2.2 (rl.dp ry), c.1.1, c.1.2, retP rl (.bl _) p⟩
  · rw [if_neg c] at p; exact p.elim
theorem pr_ne {K : PySem.W.Frag} : Pr2 K (rNeD K) neD := by
  intro mg W g G H σ e x y dx dy Q rl rx ry p
  unfold neD at p
  by_cases c : (SeqAt.shaped dx = true ∧ SeqAt.shaped dy = true) ∧ plain dx = true ∧ plain dy = true
  · rw [if_pos c] at p
    exact ⟨dx, dy, dr_dp _ _ c.2.1 (rl.dp rx), dr_dp _ _ c.2.2 (rl.dp ry), c.1.1, c.1.2, retP rl (.bl _) p⟩
  · rw [if_neg c] at p; exact p.elim
/-! ### is None -/
def isND : D → D → Option D
  | x, .none => some (.bool (match x with | .none => true | _ => false))
  | _, _ => none
def notND : D → D → Option D
  | x, .none => some (.bool (match x with | .none => false | _ => true))
  | _, _ => none
theorem pr_isN {K : PySem.W.Frag} : Pr2 K (fun x y H Q => y = .non ∧ Q (.bl (decide (x = .non))) H) isND := by
  intro mg W g G H σ e x y dx dy Q rl rx ry p
  cases dy with
  | none =>
    cases ry
    refine ⟨rfl, ?_⟩
    cases rx with
    | non => exact retP rl (.bl true) p
    | bl b => exact retP rl (.bl false) p
    | int i => exact retP rl (.bl false) p
    | str i => exact retP rl (.bl false) p
    | lst h1 h2 => exact retP rl (.bl false) p
    | tup h1 h2 => exact retP rl (.bl false) p
    | inst h1 h2 h3 h4 => exact retP rl (.bl false) p
    | ro h1 h2 => exact retP rl (.bl false) p
  | _ => cases dx <;> exact p.elim
theorem pr_notN {K : PySem.W.Frag} : Pr2 K (fun x y H Q => y = .non ∧ Q (.bl (!decide (x = .non))) H) notND := by
  intro mg W g G H σ e x y dx dy Q rl rx ry p
  cases dy with
  | none =>
    cases ry
    refine ⟨rfl, ?_⟩
    cases rx with
    | non => exact retP rl (.bl false) p
    | bl b => exact retP rl (.bl true) p
    | int i => exact retP rl (.bl true) p
    | str i => exact retP rl (.bl true) p
    | lst h1 h2 => exact retP rl (.bl true) p
    | tup h1 h2 => exact retP rl (.bl true) p
    | inst h1 h2 h3 h4 => exact retP rl (.bl true) p
    | ro h1 h2 => exact retP rl (.bl true) p
  | _ => cases dx <;> exact p.elim
/-! ### subscripts -/
/-- the place of an index -/
def ixD (x y : D) : Option D := match x, y with
  | .list xs, .int i => (ixN xs.length i).bind fun j => xs[j]?
  | .tuple xs, .int i => (ixN xs.length i).bind fun j => xs[j]?
  | .str z, .int i => if z.length ≤ 100000 then (atI z.cps.toList i).map fun c => .str ⟨#[c]⟩ else none
  | _, _ => none
theorem atI_of {K : PySem.W.Frag} {G : Hp} {vs : List V} {ds : List D} {i : Int} {d : D} (h : DRAll K G vs ds) (e : ((ixN ds.length i).bind fun j => ds[j]?) = some d) : ∃ v, atI vs i = some v ∧ DR K G v d := by
  unfold atI
  rw [dpAll_len h]
  cases hx : ixN ds.length i with
  | none => rw [hx] at e; cases e
  | some j =>
    rw [hx] at e
    exact dpAll_get h e
theorem pr_ix {K : PySem.W.Frag} : Pr2 K (rIx K) ixD := by
  intro mg W g G H σ e x y dx dy Q rl rx ry p
  cases hd : ixD dx dy with
  | none => rw [hd] at p; exact p.elim
  | some d =>
    rw [hd] at p
    unfold ixD at hd
    split at hd
    · rename_i xs i
      cases rx with
      | lst hs ha =>
        rename_i a us
        cases ry
        obtain ⟨v, h1, h2⟩ := atI_of ha hd
        exact .inl ⟨a, us, i, v, rfl, rfl, sq_of (rl.gh _ _ hs), h1, retP rl h2 p⟩
    · rename_i xs i
      cases rx with
      | tup hs ha =>
        rename_i a us
        cases ry
        obtain ⟨v, h1, h2⟩ := atI_of ha hd
        exact .inr (.inl ⟨a, us, i, v, rfl, rfl, ex_t rl.gh hs, h1, retP rl h2 p⟩)
    · rename_i z i
      cases rx; cases ry
      by_cases c : z.length ≤ 100000
      · rw [if_pos c] at hd
        cases hc : atI z.cps.toList i with
        | none => rw [hc] at hd; cases hd
        | some ch => rw [hc] at hd; cases hd; exact .inr (.inr ⟨z, i, ch, rfl, rfl, sz1 c, hc, retP rl (.str _) p⟩)
      · rw [if_neg c] at hd; cases hd
    · cases hd
theorem fe_ix {W : Wi} {a b : Expr} {ma mb : M D} {pos : Pos} (ha : FE X W a ma) (hb : FE X W b mb) (hs : PlainIx b := by exact fun _ _ => rfl) : FE X W (.Subscript a b pos) (m2 ma mb ixD) :=
  pe_mono (pe_ix ix_seq ha hb hs) (p2 pr_ix (fun _ _ _ h => h) fun _ _ _ h => h)
end
end Fx

set_option Elab.async false
set_option linter.all false
set_option maxRecDepth 100000
set_option maxHeartbeats 4000000
/-! Fx6: targets, loops. -/
namespace Fx
open PySem PySem.Spec PyProof.Rows L2 Evl

/-! ### targets -/
abbrev Tg := D → En → Option En
/-- alike but at some slots -/
def Ag (ix : List Nat) (σ σ' : L2.St) : Prop := σ.length = σ'.length ∧ ∀ (j : Nat), j ∉ ix → σ[j]? = σ'[j]?
theorem Ag.refl {ix : List Nat} {σ : L2.St} : Ag ix σ σ := ⟨rfl, fun _ _ => rfl⟩
theorem Ag.trans {ix iy : List Nat} {σ σ1 σ2 : L2.St} (a : Ag ix σ σ1) (b : Ag iy σ1 σ2) : Ag (ix ++ iy) σ σ2 :=
  ⟨a.1.trans b.1, fun j h => (a.2 j fun z => h (List.mem_append_left _ z)).trans (b.2 j fun z => h (List.mem_append_right _ z))⟩
theorem Ag.set {i : Nat} {σ : L2.St} {x : Option V} : Ag [i] (σ.set i x) σ := ⟨by rw [List.length_set], fun j h => List.getElem?_set_ne (fun z => h (by rw [z]; exact List.mem_singleton.mpr rfl))⟩
def tGt (K : PySem.W.Frag) (t : Tg) (ix : List Nat) : TG := fun v σ H Q => ∃ g G e d e', Rel K g G H σ e ∧ DR K G v d ∧ t d e = some e' ∧ ∀ σ', Rel K g G H σ' e' → Ag ix σ' σ → Q σ' H
abbrev Tgs := List D → En → Option En
def tGts (K : PySem.W.Frag) (t : Tgs) (ix : List Nat) : TGs := fun vs σ H Q => ∃ g G e ds e', Rel K g G H σ e ∧ DRAll K G vs ds ∧ t ds e = some e' ∧ ∀ σ', Rel K g G H σ' e' → Ag ix σ' σ → Q σ' H
def FG (X : Cx) (tg : Expr) (t : Tg) (ix : List Nat) : Prop := PG X tg (tGt X.K t ix)
def FGs (X : Cx) (tgs : List Expr) (t : Tgs) (ix : List Nat) : Prop := PGs X tgs (tGts X.K t ix)
theorem pg_mono {X : Cx} {x : Expr} {t t' : TG} (h : PG X x t) (k : ∀ v σ H Q, t' v σ H Q → t v σ H Q) : PG X x t' := ⟨fun pins s σ H v u Q I r q => h.run pins s σ H v u Q I r (k v σ H Q q)⟩
theorem pgs_mono {X : Cx} {x : List Expr} {t t' : TGs} (h : PGs X x t) (k : ∀ v σ H Q, t' v σ H Q → t v σ H Q) : PGs X x t' := ⟨fun pins s σ H v u Q I r q => h.run pins s σ H v u Q I r (k v σ H Q q)⟩
def tgN (i : Nat) : Tg := fun d e => some (e.set i (.d d))
def tgNil : Tgs
  | [], e => some e
  | _ :: _, _ => none
def tgCons (t : Tg) (u : Tgs) : Tgs
  | [], _ => none
  | d :: ds, e => (t d e).bind (u ds)
def tgT (u : Tgs) (n : Nat) : Tg
  | .tuple ds, e => if ds.length = n then u ds e else none
  | _, _ => none
section
variable {X : Cx}
theorem fg_name {i : Nat} {x : Str} {pos : Pos} (hN : X.N.Nodup) (hi : X.N[i]? = some x) (hx : Loc X.env.scope x) (hf : X.fn x = true ∨ X.env.scope.names.lookup x = some .local := by first | exact .inl rfl | exact .inr rfl | assumption) : FG X (.Name x pos) (tgN i) [i] :=
  pg_mono (pg_name hN hi hx hf) fun v σ H Q ⟨g, G, e, d, e', rl, rv, ht, k⟩ => by
    cases ht
    exact k _ (rl.setD rv) Ag.set
theorem fgs_nil : FGs X [] tgNil [] := pgs_mono pgs_nil fun vs σ H Q ⟨g, G, e, ds, e', rl, rv, ht, k⟩ => by
  cases ds with
  | nil => cases rv; cases ht; exact ⟨rfl, k σ rl Ag.refl⟩
  | cons d ds => cases ht
theorem fgs_cons {e : Expr} {es : List Expr} {t : Tg} {u : Tgs} {ix iy : List Nat} (h1 : FG X e t ix) (h2 : FGs X es u iy) (hs : (assignEach (e :: es) X.env).map (·.2) = assign e X.env :: (assignEach es X.env).map (·.2) := by rfl) : FGs X (e :: es) (tgCons t u) (iy ++ ix) :=
  pgs_mono (pgs_cons h1 h2 hs) fun vs σ H Q ⟨g, G, e, ds, e', rl, rv, ht, k⟩ => by
    cases ds with
    | nil => cases ht
    | cons d ds =>
      cases rv with
      | cons r1 r2 =>
        simp only [tgCons] at ht
        cases h : t d e with
        | none => rw [h] at ht; cases ht
        | some e1 =>
          rw [h] at ht
          exact ⟨_, _, rfl, g, G, e, d, e1, rl, r1, h, fun σ' rl' ag => ⟨g, G, e1, ds, e', rl', r2, ht, fun σ2 rl2 ag2 => k σ2 rl2 (ag2.trans ag)⟩⟩
theorem fg_tup {es : List Expr} {kk : Nat} {pos : Pos} {u : Tgs} {ix : List Nat} (hc : X.calm = true) (h : FGs X es u ix) (hn : (assignEach es X.env).length = es.length := by rfl) (hst : (assignEach es X.env).findIdx? (·.1) = none := by rfl) : FG X (.Tuple es kk pos) (tgT u es.length) ix :=
  pg_mono (pg_tup (n := es.length) hc h hn hst) fun v σ H Q ⟨g, G, e, d, e', rl, rv, ht, k⟩ => by
    cases d with
    | tuple ds =>
      cases rv with
      | @tup a us _ hs ha =>
        simp only [tgT] at ht
        by_cases c : ds.length = es.length
        · rw [if_pos c] at ht
          exact ⟨a, us, rfl, ex_t rl.gh hs, (dpAll_len ha).trans c, g, G, e, ds, e', rl, ha, ht, k⟩
        · rw [if_neg c] at ht; cases ht
    | _ => cases ht
end

/-! ### what is walked -/
structure WalkD (K : PySem.W.Frag) (J : It) (G : Hp) (ds : List D) : Prop where
  goes : ∀ i H, i < ds.length → Ex G H → J.go i H
  stops : ∀ H, Ex G H → J.stop ds.length H
  yields : ∀ i g G2 σ e H x H', i < ds.length → Ex G G2 → Rel K g G2 H σ e → J.yld i H x H' → ∃ G3 d, ds[i]? = some d ∧ Ex G2 G3 ∧ Rel K g G3 H' σ e ∧ DR K G3 x d
def PostI (K : PySem.W.Frag) (mg : Str → Option Value) (W : Wi) (g : Gd) (G : Hp) (σ : L2.St) (Q : It → Hp → Prop) : R (List D) → Prop
  | .ok ds e => ∀ J G' H', Ex G G' → Rel K g G' H' σ e → WalkD K J G' ds → Q J H'
  | .ex x e => ∀ C dd fs G' H', mg x.cls = some (.ref C) → Ex G G' → Rel K g G' H' σ e → H' dd = some (.xd fs) → FsOk K G' fs x.fs → W.W (.ref C) (some dd) σ H'
  | .st => False
def tI (K : PySem.W.Frag) (mg : Str → Option Value) (W : Wi) (m : M (List D)) : TI := fun σ H Q => ∃ g G e, W.I g ∧ Rel K g G H σ e ∧ PostI K mg W g G σ Q (m e)
def FI (X : Cx) (W : Wi) (tg iter : Expr) (m : M (List D)) : Prop := PI X tg iter (tI X.K X.mg W m)
theorem pi_mono {X : Cx} {tg x : Expr} {t t' : TI} (h : PI X tg x t) (k : ∀ σ H Q, t' σ H Q → t σ H Q) : PI X tg x t' := ⟨fun pins s σ H Q I q => h.run pins s σ H Q I (k σ H Q q)⟩
/-- data, its items walked -/
def itemsOf (m : M D) : M (List D) := m.bind fun d => match d with
  | .list ds => M.ret ds
  | .tuple ds => M.ret ds
  | _ => M.st
section
variable {K : PySem.W.Frag} {G : Hp} {a : Addr} {us : List V} {ds : List D}
theorem walkD_list (h : G a = some (.lst us)) (hd : DRAll K G us ds) : WalkD K (Itl K a) G ds where
  goes := fun i H hi ex => walk_list.goes i H (by rw [dpAll_len hd]; exact hi) (sq_of (ex _ _ h))
  stops := fun H ex => by
    have := (walk_list (K := K) (a := a) (xs := us)).stops H (sq_of (ex _ _ h))
    rwa [dpAll_len hd] at this
  yields := fun i g G2 σ e H x H' hi ex rl y => by
    obtain ⟨rfl, hx⟩ := (walk_list (K := K) (a := a) (xs := us)).yields i H x H' (by rw [dpAll_len hd]; exact hi) (sq_of (rl.gh _ _ (ex _ _ h))) y
    obtain ⟨d, h1, h2⟩ := dpAll_getV hd hx
    exact ⟨G2, d, h1, Ex.refl _, rl, h2.up ex⟩
theorem walkD_tup (h : SqT K G a us) (hd : DRAll K G us ds) : WalkD K (Itt K a) G ds where
  goes := fun i H hi ex => walk_tup.goes i H (by rw [dpAll_len hd]; exact hi) (ex_t ex h)
  stops := fun H ex => by
    have := (walk_tup (K := K) (a := a) (xs := us)).stops H (ex_t ex h)
    rwa [dpAll_len hd] at this
  yields := fun i g G2 σ e H x H' hi ex rl y => by
    obtain ⟨rfl, hx⟩ := (walk_tup (K := K) (a := a) (xs := us)).yields i H x H' (by rw [dpAll_len hd]; exact hi) (ex_t rl.gh (ex_t ex h)) y
    obtain ⟨d, h1, h2⟩ := dpAll_getV hd hx
    exact ⟨G2, d, h1, Ex.refl _, rl, h2.up ex⟩
theorem walkD_range {lo : Int} {n : Nat} : WalkD K (Itr lo n) G ((List.range n).map fun i => PyData.int (lo + (i : Nat))) where
  goes := fun i H hi ex => walk_range.goes i H (by simpa using hi) True.intro
  stops := fun H ex => by
    have := (walk_range (lo := lo) (n := n)).stops H True.intro
    simpa using this
  yields := fun i g G2 σ e H x H' hi ex rl y => by
    obtain ⟨rfl, rfl⟩ := (walk_range (lo := lo) (n := n)).yields i H x H' (by simpa using hi) True.intro y
    have hi' : i < n := by simpa using hi
    exact ⟨G2, .int (lo + i), by simp [hi'], Ex.refl _, rl, .int _⟩
end
section
variable {X : Cx} {W : Wi} {a b : Expr} {ma mb : M D} {tg : Expr}
/-- over a list -/
def listOf (m : M D) : M (List D) := m.bind fun d => match d with
  | .list ds => M.ret ds
  | _ => M.st
def tupOf (m : M D) : M (List D) := m.bind fun d => match d with
  | .tuple ds => M.ret ds
  | _ => M.st
/-- an expression, then a walk -/
theorem bindI {α τ : Type} {K : PySem.W.Frag} {mg : Str → Option Value} {g : Gd} {G : Hp} {σ : L2.St} {e : En} {Q : It → Hp → Prop} {relA : Hp → τ → α → Prop} {ma : M α} {f : α → M (List D)} {Q1 : τ → Hp → Prop} (p : PostI K mg W g G σ Q (M.bind ma f e))
    (k : ∀ G1 H1 e1 a t, Ex G G1 → Rel K g G1 H1 σ e1 → relA G1 t a → PostI K mg W g G1 σ Q (f a e1) → Q1 t H1) : Post K mg W relA g G σ Q1 (ma e) := by
  unfold M.bind at p
  cases hm : ma e with
  | ok a e1 =>
    rw [hm] at p
    intro t G1 H1 eg rl re
    refine k G1 H1 e1 a t eg rl re ?_
    have p' : PostI K mg W g G σ Q (f a e1) := p
    cases hf : f a e1 with
    | ok ds e2 => rw [hf] at p'; exact fun J G' H' e' r' w => p' J G' H' (eg.trans e') r' w
    | ex c e2 => rw [hf] at p'; exact fun C dd fs G' H' h1 e' h3 h4 h5 => p' C dd fs G' H' h1 (eg.trans e') h3 h4 h5
    | st => rw [hf] at p'; exact p'
  | ex c e1 =>
    rw [hm] at p
    exact p
  | st =>
    rw [hm] at p
    exact p
theorem fi_list (h : FE X W a ma) : FI X W tg a (listOf ma) :=
  pi_mono (pi_list h) fun σ H Q ⟨g, G, e, ig, rl, q⟩ => ⟨g, G, e, ig, rl, bindI q fun G1 H1 e1 d v eg r1 rv q1 => by
    cases d with
    | list ds =>
      cases rv with
      | lst hs ha =>
        rename_i p us
        exact ⟨p, rfl, ⟨us, sq_of (r1.gh _ _ hs)⟩, q1 _ G1 H1 (Ex.refl _) r1 (walkD_list hs ha)⟩
    | _ => exact q1.elim⟩
theorem fi_tup (h : FE X W a ma) : FI X W tg a (tupOf ma) :=
  pi_mono (pi_tup h) fun σ H Q ⟨g, G, e, ig, rl, q⟩ => ⟨g, G, e, ig, rl, bindI q fun G1 H1 e1 d v eg r1 rv q1 => by
    cases d with
    | tuple ds =>
      cases rv with
      | tup hs ha =>
        rename_i p us
        exact ⟨p, rfl, ⟨us, ex_t r1.gh hs⟩, q1 _ G1 H1 (Ex.refl _) r1 (walkD_tup hs ha)⟩
    | _ => exact q1.elim⟩
/-- range(a), range(a, b) -/
def rngOf (lo hi : Int) : M (List D) := if -(2 ^ 62) ≤ lo ∧ lo < 2 ^ 62 ∧ -(2 ^ 62) ≤ hi ∧ hi < 2 ^ 62 then M.ret ((List.range (hi - lo).toNat).map fun i => PyData.int (lo + (i : Nat))) else M.st
def rng1 (ms : M (List D)) : M (List D) := ms.bind fun ds => match ds with
  | [.int n] => rngOf 0 n
  | _ => M.st
def rng2 (ms : M (List D)) : M (List D) := ms.bind fun ds => match ds with
  | [.int lo, .int hi] => rngOf lo hi
  | _ => M.st
theorem rngP {K : PySem.W.Frag} {mg : Str → Option Value} {g : Gd} {G : Hp} {σ : L2.St} {e : En} {Q : It → Hp → Prop} {lo hi : Int} (q : PostI K mg W g G σ Q (rngOf lo hi e)) :
    (-(2 ^ 62) ≤ lo ∧ lo < 2 ^ 62 ∧ -(2 ^ 62) ≤ hi ∧ hi < 2 ^ 62) ∧ PostI K mg W g G σ Q (.ok ((List.range (hi - lo).toNat).map fun i => PyData.int (lo + (i : Nat))) e) := by
  unfold rngOf at q
  by_cases c : -(2 ^ 62) ≤ lo ∧ lo < 2 ^ 62 ∧ -(2 ^ 62) ≤ hi ∧ hi < 2 ^ 62
  · rw [if_pos c] at q; exact ⟨c, q⟩
  · rw [if_neg c] at q; exact q.elim
theorem ints1 {K : PySem.W.Frag} {G : Hp} {vs : List V} {n : Int} (h : DRAll K G vs [.int n]) : vs = [.int n] := by
  cases h with
  | cons h1 h2 => cases h1; cases h2; rfl
theorem ints2 {K : PySem.W.Frag} {G : Hp} {vs : List V} {n m : Int} (h : DRAll K G vs [.int n, .int m]) : vs = [.int n, .int m] := by
  cases h with
  | cons h1 h2 => cases h1; cases h2 with | cons h3 h4 => cases h3; cases h4; rfl
theorem fi_range1 {ms : M (List D)} {p pos : Pos} (hg : Gl X "range") (hm : X.mg "range" = none) (ha : FA X W [a] ms) (hs : starEach [a] X.env = [(false, eval a X.env)] := by rfl) : FI X W tg (.Call (.Name "range" p) [a] [] pos) (rng1 ms) :=
  pi_mono (pi_range1 hg hm ha hs) fun σ H Q ⟨g, G, e, ig, rl, q⟩ => ⟨g, G, e, ig, rl, bindI q fun G1 H1 e1 ds vs eg r1 rv q1 => by
    match ds, rv, q1 with
    | [.int n], rv, q1 =>
      have q2 := rngP (lo := 0) (hi := n) q1
      have e0 : (n - 0).toNat = n.toNat := by simp
      exact ⟨n, ints1 rv, q2.1.2.2.1, q2.1.2.2.2, (by have w := q2.2 (Itr 0 (n - 0).toNat) G1 H1 (Ex.refl _) r1 walkD_range; rwa [e0] at w)⟩
    | [], _, q1 => exact q1.elim
    | [.none], _, q1 => exact q1.elim
    | [.bool _], _, q1 => exact q1.elim
    | [.str _], _, q1 => exact q1.elim
    | [.list _], _, q1 => exact q1.elim
    | [.tuple _], _, q1 => exact q1.elim
    | [.dict _], _, q1 => exact q1.elim
    | .none :: _ :: _, _, q1 => exact q1.elim
    | .bool _ :: _ :: _, _, q1 => exact q1.elim
    | .int _ :: _ :: _, _, q1 => exact q1.elim
    | .str _ :: _ :: _, _, q1 => exact q1.elim
    | .list _ :: _ :: _, _, q1 => exact q1.elim
    | .tuple _ :: _ :: _, _, q1 => exact q1.elim
    | .dict _ :: _ :: _, _, q1 => exact q1.elim⟩
theorem fi_range2 {ms : M (List D)} {p pos : Pos} (hg : Gl X "range") (hm : X.mg "range" = none) (ha : FA X W [a, b] ms) (hs : starEach [a, b] X.env = [(false, eval a X.env), (false, eval b X.env)] := by rfl) (hs1 : starEach [b] X.env = [(false, eval b X.env)] := by rfl) : FI X W tg (.Call (.Name "range" p) [a, b] [] pos) (rng2 ms) :=
  pi_mono (pi_range2 hg hm ha hs hs1) fun σ H Q ⟨g, G, e, ig, rl, q⟩ => ⟨g, G, e, ig, rl, bindI q fun G1 H1 e1 ds vs eg r1 rv q1 => by
    by_cases c : ∃ lo hi, ds = [.int lo, .int hi]
    · obtain ⟨lo, hi, rfl⟩ := c
      have q2 := rngP (lo := lo) (hi := hi) q1
      exact ⟨lo, hi, ints2 rv, ⟨q2.1.1, q2.1.2.1, q2.1.2.2.1, q2.1.2.2.2⟩, q2.2 (Itr lo (hi - lo).toNat) G1 H1 (Ex.refl _) r1 walkD_range⟩
    · exfalso
      revert q1
      split
      · exact fun _ => c ⟨_, _, rfl⟩
      · exact fun h => h⟩

/-! ### for -/
def forM (t : Tg) (body : M Fl) : List D → M Fl
  | [] => M.ret .nx
  | d :: ds => fun e => match t d e with
    | none => .st
    | some e1 => match body e1 with
      | .ok .nx e2 => forM t body ds e2
      | .ok .ct e2 => forM t body ds e2
      | .ok .bk e2 => .ok .nx e2
      | .ok (.rt d) e2 => .ok (.rt d) e2
      | .ex x e2 => .ex x e2
      | .st => .st
def forL (mi : M (List D)) (t : Tg) (body : M Fl) : M Fl := mi.bind fun ds => forM t body ds
theorem fs_for {iter : Expr} {body : List Stmt} {pos : Pos} {mi : M (List D)} {t : Tg} {ix : List Nat} {mb : M Fl} (hp : PassesOwn (model X.prog X.w) X.A X.env X.xe) (hc : X.calm = true) (hi : FI X W tg iter mi) (hg : FG X tg t ix) (hb : FB X W body mb) (hs : ∀ x, foldedSetIterable iter X.env x = pure x := by intro; rfl) : FS X W (.For tg iter body [] pos) (forL mi t mb) :=
  ps_mono (ps_for hp hc hi hg hb hs) fun Z σ H ⟨g, G, e, ig, rl, q⟩ => ⟨g, G, e, ig, rl, by
    unfold forL M.bind at q
    cases hm : mi e with
    | ex c e1 =>
      rw [hm] at q
      exact fun C dd fs G' H' h1 h2 h3 h4 h5 => q C dd fs σ G' H' h1 h2 h3 h4 h5
    | st =>
      rw [hm] at q
      exact q
    | ok ds e1 =>
      rw [hm] at q
      intro J G1 H1 eg r1 w
      have q0 : PostS X.K X.mg W g G1 Z (forM t mb ds e1) := PostS.weak eg q
      refine ⟨fun i m σ' H' => m = ds.length - i ∧ i ≤ ds.length ∧ ∃ G2 e2, Ex G1 G2 ∧ Rel X.K g G2 H' σ' e2 ∧ PostS X.K X.mg W g G2 Z (forM t mb (ds.drop i) e2), ⟨_, rfl, Nat.zero_le _, G1, e1, Ex.refl _, r1, q0⟩, ?_⟩
      rintro i m σ' H' ⟨rfl, hi, G2, e2, ex2, r2, q2⟩
      by_cases hlt : i < ds.length
      · have hdrop : ds.drop i = ds[i] :: ds.drop (i + 1) := List.drop_eq_getElem_cons hlt
        rw [hdrop] at q2
        refine .inr ⟨w.goes i H' hlt (ex2.trans r2.gh), fun σ3 H3 => ∃ G3 e3, Ex G1 G3 ∧ Rel X.K g G3 H3 σ3 e3 ∧ PostS X.K X.mg W g G3 Z (forM t mb (ds.drop (i + 1)) e3), fun σ3 H3 ⟨G3, e3, a1, a2, a3⟩ => ⟨ds.length - (i + 1), by omega, rfl, hlt, G3, e3, a1, a2, a3⟩, fun x H3 y => ?_⟩
        obtain ⟨G3, d, hd, ex3, r3, rx⟩ := w.yields i g G2 σ' e2 H' x H3 hlt ex2 r2 y
        rw [List.getElem?_eq_getElem hlt] at hd
        cases hd
        unfold forM at q2
        cases ht : t ds[i] e2 with
        | none => simp only [ht] at q2; exact q2.elim
        | some e4 =>
          simp only [ht] at q2
          refine ⟨g, G3, e2, ds[i], e4, r3, rx, ht, fun σ4 r4 _ => ⟨g, G3, e4, ig, r4, ?_⟩⟩
          have ex13 : Ex G1 G3 := ex2.trans ex3
          cases hbd : mb e4 with
          | ok f e5 =>
            simp only [hbd] at q2
            cases f with
            | nx => exact fun σ5 G5 H5 eg5 r5 => ⟨G5, e5, ex13.trans eg5, r5, q2.weak (ex3.trans eg5)⟩
            | ct => exact fun σ5 G5 H5 eg5 r5 => ⟨G5, e5, ex13.trans eg5, r5, q2.weak (ex3.trans eg5)⟩
            | bk => exact fun σ5 G5 H5 eg5 r5 => q2 σ5 G5 H5 (ex3.trans eg5) r5
            | rt d => exact fun v σ5 G5 H5 eg5 r5 hv => q2 v σ5 G5 H5 (ex3.trans eg5) r5 hv
          | ex c e5 =>
            simp only [hbd] at q2
            exact fun C dd fs σ' G' H' h1 h2 h3 h4 h5 => q2 C dd fs σ' G' H' h1 (ex3.trans h2) h3 h4 h5
          | st =>
            simp only [hbd] at q2
            exact q2
      · have e0 : i = ds.length := by omega
        subst e0
        rw [List.drop_length] at q2
        exact .inl ⟨w.stops H' (ex2.trans r2.gh), nxP r2 q2⟩⟩

/-! ### while -/
def whileM (c : M Bool) (body : M Fl) : Nat → M Fl
  | 0 => M.st
  | n + 1 => c.bind fun b => if b = true then (fun e => match body e with
      | .ok .nx e2 => whileM c body n e2
      | .ok .ct e2 => whileM c body n e2
      | .ok .bk e2 => .ok .nx e2
      | .ok (.rt d) e2 => .ok (.rt d) e2
      | .ex x e2 => .ex x e2
      | .st => .st) else M.ret .nx
theorem fs_while {c : Expr} {body : List Stmt} {pos : Pos} {mc : M Bool} {mb : M Fl} (fuel : Nat) (hp : PassesOwn (model X.prog X.w) X.A X.env X.xe) (hc : FT X W c mc) (hb : FB X W body mb) : FS X W (.While c body [] pos) (whileM mc mb fuel) :=
  ps_mono (ps_while hp hc hb) fun Z σ H ⟨g, G, e, ig, rl, q⟩ => by
    refine ⟨fun m σ' H' => ∃ G2 e2, Ex G G2 ∧ Rel X.K g G2 H' σ' e2 ∧ PostS X.K X.mg W g G2 Z (whileM mc mb m e2), ⟨fuel, G, e, Ex.refl _, rl, q⟩, ?_⟩
    rintro m σ' H' ⟨G2, e2, ex2, r2, q2⟩
    cases m with
    | zero => exact q2.elim
    | succ n =>
      unfold whileM at q2
      refine ⟨g, G2, e2, ig, r2, bindS q2 fun G3 H3 e3 b v eg3 r3 rv q3 => ?_⟩
      subst rv
      cases v with
      | false =>
        rw [if_neg Bool.false_ne_true] at q3 ⊢
        exact nxP r3 q3
      | true =>
        rw [if_pos rfl] at q3 ⊢
        have ex3 : Ex G G3 := ex2.trans eg3
        refine ⟨fun σ4 H4 => ∃ G4 e4, Ex G G4 ∧ Rel X.K g G4 H4 σ4 e4 ∧ PostS X.K X.mg W g G4 Z (whileM mc mb n e4), fun σ4 H4 h4 => ⟨n, Nat.lt_succ_self _, h4⟩, g, G3, e3, ig, r3, ?_⟩
        cases hbd : mb e3 with
        | ok f e5 =>
          simp only [hbd] at q3
          cases f with
          | nx => exact fun σ5 G5 H5 eg5 r5 => ⟨G5, e5, ex3.trans eg5, r5, q3.weak eg5⟩
          | ct => exact fun σ5 G5 H5 eg5 r5 => ⟨G5, e5, ex3.trans eg5, r5, q3.weak eg5⟩
          | bk => exact fun σ5 G5 H5 eg5 r5 => q3 σ5 G5 H5 eg5 r5
          | rt d => exact fun v σ5 G5 H5 eg5 r5 hv => q3 v σ5 G5 H5 eg5 r5 hv
        | ex c e5 =>
          simp only [hbd] at q3
          exact q3
        | st =>
          simp only [hbd] at q3
          exact q3
end
end Fx

set_option Elab.async false
set_option linter.all false
set_option maxRecDepth 100000
set_option maxHeartbeats 4000000
/-! Fx7: list comprehensions. -/
namespace Fx
open PySem PySem.Spec PyProof.Rows L2 Evl

def wipeE (e : En) : List Nat → En
  | [] => e
  | v :: vs => (wipeE e vs).set v .no
def keepD : Option SV → SV
  | some (.d x) => .d x
  | _ => .no
/-- the slots vs as they stood in e0 -/
def restE (e0 : En) (e : En) : List Nat → En
  | [] => e
  | v :: vs => (restE e0 e vs).set v (keepD e0[v]?)
theorem ag_wipe {σ : L2.St} : ∀ {vs : List Nat}, Ag vs (wipe σ vs) σ
  | [] => Ag.refl
  | v :: vs => by
    have a : Ag [v] ((wipe σ vs).set v none) (wipe σ vs) := Ag.set
    exact a.trans ag_wipe
theorem wipe_get {σ : L2.St} : ∀ {vs : List Nat} {j : Nat}, j ∈ vs → j < σ.length → (wipe σ vs)[j]? = some none
  | v :: vs, j, h, hl => by
    show ((wipe σ vs).set v none)[j]? = some none
    by_cases e : v = j
    · subst e
      rw [List.getElem?_set_self (by rw [wipe_length]; exact hl)]
    · rw [List.getElem?_set_ne e]
      rcases List.mem_cons.mp h with z | z
      · exact absurd z.symm e
      · exact wipe_get z hl
theorem wipe_ag {vs ix : List Nat} {σ σ' : L2.St} (a : Ag ix σ σ') (h : ∀ i ∈ ix, i ∈ vs) : wipe σ vs = wipe σ' vs := by
  apply List.ext_getElem?
  intro j
  by_cases hj : j ∈ vs
  · by_cases hl : j < σ.length
    · rw [wipe_get hj hl, wipe_get hj (by rw [← a.1]; exact hl)]
    · rw [List.getElem?_eq_none (by rw [wipe_length]; omega), List.getElem?_eq_none (by rw [wipe_length, ← a.1]; omega)]
  · rw [ag_wipe.2 j hj, ag_wipe.2 j hj]
    exact a.2 j fun z => hj (h j z)
section
variable {K : PySem.W.Frag} {g : Gd} {G H : Hp} {σ : L2.St} {e : En}
theorem Rel.wipe1 (r : Rel K g G H σ e) (v : Nat) : Rel K g G H (σ.set v none) (e.set v .no) where
  gh := r.gh
  bh := r.bh
  gg := r.gg
  gb := r.gb
  len := by rw [List.length_set, List.length_set]; exact r.len
  sl := fun j t h => by
    rcases get_set h with ⟨rfl, rfl⟩ | ⟨hij, h⟩
    · exact True.intro
    · rw [List.getElem?_set_ne hij]
      exact r.sl j t h
  ds := fun j k t u a hjk h1 o1 s1 h2 o2 s2 => by
    rcases get_set h1 with ⟨_, rfl⟩ | ⟨n1, h1⟩
    · cases o1
    · rcases get_set h2 with ⟨_, rfl⟩ | ⟨n2, h2⟩
      · cases o2
      · rw [List.getElem?_set_ne n1] at s1
        rw [List.getElem?_set_ne n2] at s2
        exact r.ds j k t u a hjk h1 o1 s1 h2 o2 s2
theorem Rel.wipe (r : Rel K g G H σ e) : ∀ vs : List Nat, Rel K g G H (wipe σ vs) (wipeE e vs)
  | [] => r
  | v :: vs => (Rel.wipe r vs).wipe1 v
/-- one slot as it stood -/
theorem Rel.back1 {σ0 : L2.St} {e0 : En} {G0 H0 : Hp} (r : Rel K g G H σ e) (r0 : Rel K g G0 H0 σ0 e0) (x : Ex G0 G) (v : Nat) (o : Option V) (ho : σ0[v]? = some o) : Rel K g G H (σ.set v o) (e.set v (keepD e0[v]?)) where
  gh := r.gh
  bh := r.bh
  gg := r.gg
  gb := r.gb
  len := by rw [List.length_set, List.length_set]; exact r.len
  sl := fun j t h => by
    rcases get_set h with ⟨rfl, rfl⟩ | ⟨hij, h⟩
    · have hi : v < e.length := by
        have := (List.getElem?_eq_some_iff.mp h).1
        rwa [List.length_set] at this
      rw [List.getElem?_set_self (by rw [r.len]; exact hi)]
      cases h0 : e0[v]? with
      | none => exact True.intro
      | some s =>
        cases s with
        | no => exact True.intro
        | own _ _ => exact True.intro
        | d y =>
          obtain ⟨u, h1, h2⟩ := r0.slot h0
          rw [ho] at h1
          exact ⟨u, h1, h2.up x⟩
    · rw [List.getElem?_set_ne hij]
      exact r.sl j t h
  ds := fun j k t u a hjk h1 o1 s1 h2 o2 s2 => by
    have no : ∀ z : Option SV, isOwn (keepD z) = true → False := fun z hz => by
      cases z with
      | none => cases hz
      | some s => cases s <;> cases hz
    rcases get_set h1 with ⟨_, rfl⟩ | ⟨n1, h1⟩
    · exact no _ o1
    · rcases get_set h2 with ⟨_, rfl⟩ | ⟨n2, h2⟩
      · exact no _ o2
      · rw [List.getElem?_set_ne n1] at s1
        rw [List.getElem?_set_ne n2] at s2
        exact r.ds j k t u a hjk h1 o1 s1 h2 o2 s2
def restS (σ0 σ : L2.St) : List Nat → L2.St
  | [] => σ
  | v :: vs => match σ0[v]? with
    | some o => (restS σ0 σ vs).set v o
    | none => restS σ0 σ vs
theorem restS_len (σ0 σ : L2.St) : ∀ vs, (restS σ0 σ vs).length = σ.length
  | [] => rfl
  | v :: vs => by
    unfold restS
    split
    · rw [List.length_set]; exact restS_len σ0 σ vs
    · exact restS_len σ0 σ vs
theorem set_oob {α : Type} {l : List α} {i : Nat} {x : α} (h : l.length ≤ i) : l.set i x = l := List.set_eq_of_length_le h
theorem Rel.back {σ0 : L2.St} {e0 : En} {G0 H0 : Hp} (r : Rel K g G H σ e) (r0 : Rel K g G0 H0 σ0 e0) (x : Ex G0 G) (hl : σ.length = σ0.length) : ∀ vs : List Nat, Rel K g G H (restS σ0 σ vs) (restE e0 e vs)
  | [] => r
  | v :: vs => by
    have q := Rel.back r r0 x hl vs
    unfold restS restE
    cases h : σ0[v]? with
    | some o => exact q.back1 r0 x v o h
    | none =>
      have hv : σ0.length ≤ v := List.getElem?_eq_none_iff.mp h
      rw [set_oob (by rw [← q.len, restS_len, hl]; exact hv)]
      exact q
theorem restS_get (σ0 σ : L2.St) (hl : σ.length = σ0.length) : ∀ (vs : List Nat) (j : Nat), (restS σ0 σ vs)[j]? = if j ∈ vs then σ0[j]? else σ[j]?
  | [], j => by simp [restS]
  | v :: vs, j => by
    have q := restS_get σ0 σ hl vs j
    unfold restS
    by_cases e : v = j
    · subst e
      cases h : σ0[v]? with
      | some o =>
        have hv : v < σ0.length := (List.getElem?_eq_some_iff.mp h).1
        simp only [List.mem_cons, true_or, if_true]
        rw [List.getElem?_set_self (by rw [restS_len, hl]; exact hv)]
      | none =>
        have hv : σ0.length ≤ v := List.getElem?_eq_none_iff.mp h
        simp only [List.mem_cons, true_or, if_true]
        exact List.getElem?_eq_none (by rw [restS_len, hl]; exact hv)
    · have e' : ¬ j = v := fun z => e z.symm
      cases h : σ0[v]? with
      | some o =>
        simp only [List.getElem?_set_ne e, q, List.mem_cons, e', false_or]
      | none =>
        simp only [q, List.mem_cons, e', false_or]
theorem restS_wipe (σ : L2.St) (vs : List Nat) : restS σ (L2.wipe σ vs) vs = σ := by
  apply List.ext_getElem?
  intro j
  rw [restS_get σ _ (wipe_length σ vs)]
  by_cases h : j ∈ vs
  · rw [if_pos h]
  · rw [if_neg h]; exact ag_wipe.2 j h

/-! ### a list that is being made, at p -/
def delH' (H : Hp) (p : Addr) : Hp := fun b => if b = p then none else H b
theorem delH'_same {H : Hp} {p : Addr} : delH' H p p = none := if_pos rfl
theorem delH'_ne {H : Hp} {p b : Addr} (h : b ≠ p) : delH' H p b = H b := if_neg h
theorem delH'_upd {H : Hp} {p : Addr} {o : HO} : delH' (upd H p o) p = delH' H p := by
  funext b
  by_cases h : b = p
  · subst h; rw [delH'_same, delH'_same]
  · rw [delH'_ne h, delH'_ne h, upd_ne h]
theorem delH'_none {H : Hp} {p : Addr} (h : H p = none) : delH' H p = H := by
  funext b
  by_cases hb : b = p
  · subst hb; rw [delH'_same, h]
  · rw [delH'_ne hb]
def gIn (g : Gd) (p : Addr) (o : HO) : Gd := ⟨upd g.B p o, g.G0, g.P⟩
theorem Rel.inP {p : Addr} {o : HO} (r : Rel K g G (delH' H p) σ e) (hp : H p = some o) : Rel K (gIn g p o) G H σ e :=
  have gp : ∀ a u, G a = some u → a ≠ p := fun a u h z => by
    subst z
    have := r.gh _ _ h
    rw [delH'_same] at this
    cases this
  have up : ∀ a u, delH' H p a = some u → a ≠ p ∧ H a = some u := fun a u h => by
    by_cases z : a = p
    · subst z; rw [delH'_same] at h; cases h
    · rw [delH'_ne z] at h; exact ⟨z, h⟩
  { gh := fun a u h => (up a u (r.gh a u h)).2
    bh := fun a u h => by
      by_cases z : a = p
      · subst z
        have h' : upd g.B a o a = some u := h
        rw [upd_same] at h'
        rw [hp]; exact h'
      · have h' : upd g.B p o a = some u := h
        rw [upd_ne z] at h'
        exact (up a u (r.bh a u h')).2
    gg := r.gg
    gb := fun a u h => by
      rcases r.gb a u h with q | q
      · exact .inl q
      · refine .inr ?_
        show upd g.B p o a = none
        rw [upd_ne (gp a u h)]; exact q
    len := r.len
    sl := fun i s h => by
      have z := r.sl i s h
      cases s with
      | no => exact True.intro
      | d x => exact z
      | own w xs =>
        obtain ⟨a, h1, h2, h3, h4, h5⟩ := z
        obtain ⟨u, hu⟩ := h2.there
        have na := up a u hu
        exact ⟨a, h1, h2.up (Ex.refl G) (delH'_ne na.1).symm, h3, (by show upd g.B p o a = none; rw [upd_ne na.1]; exact h4), h5⟩
    ds := r.ds }
theorem Rel.outP {p : Addr} {o : HO} (r : Rel K (gIn g p o) G H σ e) (hg0 : g.G0 p = none) (hb0 : g.B p = none) : H p = some o ∧ Rel K g G (delH' H p) σ e := by
  have hH : H p = some o := r.bh p o (by show upd g.B p o p = some o; exact upd_same)
  have gp : ∀ a u, G a = some u → a ≠ p := fun a u h z => by
    subst z
    rcases r.gb a u h with q | q
    · have q' : g.G0 a = some u := q
      rw [hg0] at q'; cases q'
    · have q' : upd g.B a o a = none := q
      rw [upd_same] at q'; cases q'
  have bne : ∀ a, (gIn g p o).B a = none → a ≠ p ∧ g.B a = none := fun a h => by
    have h' : upd g.B p o a = none := h
    by_cases z : a = p
    · subst z; rw [upd_same] at h'; cases h'
    · rw [upd_ne z] at h'; exact ⟨z, h'⟩
  refine ⟨hH, { gh := fun a u h => by rw [delH'_ne (gp a u h)]; exact r.gh a u h, bh := fun a u h => ?_, gg := r.gg, gb := fun a u h => ?_, len := r.len, sl := fun i s h => ?_, ds := r.ds }⟩
  · have na : a ≠ p := ne_of_none h hb0
    rw [delH'_ne na]
    exact r.bh a u (by show upd g.B p o a = some u; rw [upd_ne na]; exact h)
  · rcases r.gb a u h with q | q
    · exact .inl q
    · exact .inr (bne a q).2
  · have z := r.sl i s h
    cases s with
    | no => exact True.intro
    | d x => exact z
    | own w xs =>
      obtain ⟨a, h1, h2, h3, h4, h5⟩ := z
      have na := bne a h4
      exact ⟨a, h1, h2.up (Ex.refl G) (delH'_ne na.1), h3, na.2, h5⟩
end

/-! ### the comprehension -/
def compM (t : Tg) (c : M Bool) (el : M D) (vs : List Nat) : List D → M (List D)
  | [] => M.ret []
  | d :: ds => fun e => match t d e with
    | none => .st
    | some e1 => (c e1).bind fun b => if b = true then el.bind fun y => fun e3 => (compM t c el vs ds (wipeE e3 vs)).bind fun ys => M.ret (y :: ys) else fun e3 => compM t c el vs ds (wipeE e3 vs)
def lcM (mi : M (List D)) (t : Tg) (c : M Bool) (el : M D) (vs : List Nat) : M (List D) := mi.bind fun ds => fun e => match compM t c el vs ds (wipeE e vs) with
  | .ok ys e2 => if ys.length ≤ 100000 then .ok ys (restE e e2 vs) else .st
  | _ => .st
section
variable {X : Cx} {W : Wi} {tg iter elt : Expr} {ifs : List Expr} {scope : Scope} {own : List (Str × Nat)} {pos : Pos} {mi : M (List D)} {t : Tg} {ix : List Nat} {mc : M Bool} {me : M D}
def FC (X : Cx) (ifs : List Expr) (m : M Bool) : Prop := PTs X ifs (tMb X.K X.mg noW m)
theorem fc_nil : FC X [] (M.ret true) := ⟨fun pins s σ H Q I ⟨g, G, e, ig, rl, q⟩ => pts_nil.run pins s σ H Q I (retP rl rfl q)⟩
theorem fc_one {c : Expr} (h : FT X noW c mc) : FC X [c] mc := pts_one h
theorem noP {α τ : Type} {K : PySem.W.Frag} {mg : Str → Option Value} {rel : Hp → τ → α → Prop} {g : Gd} {G : Hp} {σ : L2.St} {Q : τ → Hp → Prop} {r : R α} {e : En} {a : α} (h : r = .ok a e) (p : ∀ t G' H', Ex G G' → Rel K g G' H' σ e → rel G' t a → Q t H') : Post K mg noW rel g G σ Q r := by
  subst h; exact p
theorem lc_read {g : Gd} {G1 H1 : Hp} {σ : L2.St} {e1 : En} {J : It} {ds ys : List D} {ef : En} {Q : VK} (hix : ∀ i ∈ ix, i ∈ own.map (·.2)) (r1 : Rel X.K g G1 H1 σ e1) (w : WalkD X.K J G1 ds) (hf : compM t mc me (own.map (·.2)) ds (wipeE e1 (own.map (·.2))) = .ok ys ef) (hl : ys.length ≤ 100000)
    (q : ∀ p xs G' H' H2, Ex G1 G' → Rel X.K g G' H' σ (restE e1 ef (own.map (·.2))) → H' p = none → (∀ b, b ≠ p → H2 b = H' b) → H2 p = some (.lst xs) → DRAll X.K G' xs ys → Q (.ref p) H2) :
    ∀ Da, H1 Da = none → ∃ Wv : Nat → Nat → Hp → Prop, (∃ m, Wv 0 m (upd H1 Da (.lst []))) ∧ ∀ i m H, Wv i m H →
      (J.stop i H ∧ Q (.ref Da) H) ∨ (J.go i H ∧ ∃ Nx : Hp → Prop, (∀ H', Nx H' → ∃ m', m' < m ∧ Wv (i + 1) m' H') ∧ ∀ x H', J.yld i H x H' → tGt X.K t ix x (wipe σ (own.map (·.2))) H' fun σ2 H2 => wipe σ2 (own.map (·.2)) = wipe σ (own.map (·.2)) ∧ tMb X.K X.mg noW mc σ2 H2 fun b H3 =>
        if b = true then tM X.K X.mg noW me σ2 H3 fun y H4 => ∃ acc, H4 Da = some (.lst acc) ∧ acc.length < sizeLine ∧ Nx (upd H4 Da (.lst (acc ++ [y]))) else Nx H3) := by
  intro Da hD
  have gD : g.G0 Da = none := fresh_back (r1.gg.trans r1.gh) hD
  have bD : g.B Da = none := fresh_back r1.bh hD
  let P : Nat → Hp → Prop := fun i H => ∃ G2 e2 accV accD rest, Ex G1 G2 ∧ Rel X.K g G2 (delH' H Da) (wipe σ (own.map (·.2))) e2 ∧ H Da = some (.lst accV) ∧ DRAll X.K G2 accV accD ∧ compM t mc me (own.map (·.2)) (ds.drop i) e2 = .ok rest ef ∧ accD ++ rest = ys
  refine ⟨fun i m H => m = ds.length - i ∧ i ≤ ds.length ∧ P i H, ⟨_, rfl, Nat.zero_le _, G1, _, [], [], ys, Ex.refl _, ?_, upd_same, .nil, hf, rfl⟩, ?_⟩
  · rw [delH'_upd, delH'_none hD]; exact r1.wipe _
  rintro i m H ⟨rfl, hi, G2, e2, accV, accD, rest, ex2, r2, hDa, hacc, hcm, hys⟩
  have eG2 : Ex G2 H := fun a u h => by
    have h' := r2.gh a u h
    by_cases z : a = Da
    · subst z; rw [delH'_same] at h'; cases h'
    · rwa [delH'_ne z] at h'
  by_cases hlt : i < ds.length
  · have hdrop : ds.drop i = ds[i] :: ds.drop (i + 1) := List.drop_eq_getElem_cons hlt
    rw [hdrop] at hcm
    refine .inr ⟨w.goes i H hlt (ex2.trans eG2), P (i + 1), fun H' h' => ⟨ds.length - (i + 1), by omega, rfl, hlt, h'⟩, fun x H' y => ?_⟩
    obtain ⟨G3, d, hd, ex3, r3, rx⟩ := w.yields i _ G2 _ e2 H x H' hlt ex2 (r2.inP hDa) y
    rw [List.getElem?_eq_getElem hlt] at hd
    cases hd
    unfold compM at hcm
    cases ht : t ds[i] e2 with
    | none => simp only [ht] at hcm; cases hcm
    | some e3 =>
      simp only [ht] at hcm
      refine ⟨_, G3, e2, ds[i], e3, r3, rx, ht, fun σ4 r4 ag => ⟨?_, ?_⟩⟩
      · rw [wipe_ag ag hix]
        exact wipe_ag (ag_wipe (vs := own.map (·.2))) fun _ h => h
      · have hw : wipe σ4 (own.map (·.2)) = wipe σ (own.map (·.2)) := by
          rw [wipe_ag ag hix]
          exact wipe_ag (ag_wipe (vs := own.map (·.2))) fun _ h => h
        cases hb : mc e3 with
        | ex c e4 => rw [hb] at hcm; cases hcm
        | st => rw [hb] at hcm; cases hcm
        | ok b e4 =>
          rw [hb] at hcm
          refine ⟨_, G3, e3, True.intro, r4, noP hb fun b' G5 H5 ex5 r5 eb => ?_⟩
          subst eb
          cases b' with
          | false =>
            have hcm' : compM t mc me (own.map (·.2)) (ds.drop (i + 1)) (wipeE e4 (own.map (·.2))) = .ok rest ef := hcm
            have o := r5.outP gD bD
            exact (if_neg Bool.false_ne_true).mpr ⟨G5, _, accV, accD, rest, ex2.trans (ex3.trans ex5), by have := o.2.wipe (own.map (·.2)); rwa [hw] at this, o.1, hacc.up (ex3.trans ex5), hcm', hys⟩
          | true =>
            have hcm' : (me e4).bind (fun y => fun e3 => (compM t mc me (own.map (·.2)) (ds.drop (i + 1)) (wipeE e3 (own.map (·.2)))).bind fun zs => M.ret (y :: zs)) = .ok rest ef := hcm
            cases hm : me e4 with
            | ex c e5 => rw [hm] at hcm'; cases hcm'
            | st => rw [hm] at hcm'; cases hcm'
            | ok yd e5 =>
              rw [hm] at hcm'
              have hcm2 : (compM t mc me (own.map (·.2)) (ds.drop (i + 1)) (wipeE e5 (own.map (·.2)))).bind (fun zs => M.ret (yd :: zs)) = .ok rest ef := hcm'
              refine (if_pos rfl).mpr ⟨_, G5, e4, True.intro, r5, noP hm fun v G6 H6 ex6 r6 rv => ?_⟩
              have o := r6.outP gD bD
              cases hr : compM t mc me (own.map (·.2)) (ds.drop (i + 1)) (wipeE e5 (own.map (·.2))) with
              | ex c e6 => rw [hr] at hcm2; cases hcm2
              | st => rw [hr] at hcm2; cases hcm2
              | ok zs e6 =>
                rw [hr] at hcm2
                have z2 : R.ok (yd :: zs) e6 = R.ok rest ef := hcm2
                cases z2
                have hal := dpAll_len hacc
                have hyl : accD.length ≤ 100000 := by
                  have := congrArg List.length hys
                  rw [List.length_append] at this
                  simp at this
                  omega
                refine ⟨accV, o.1, ?_, G6, _, accV ++ [v], accD ++ [yd], zs, ex2.trans (ex3.trans (ex5.trans ex6)), ?_, upd_same, dpAll_app (hacc.up (ex3.trans (ex5.trans ex6))) (.cons rv .nil), hr, ?_⟩
                · refine sz_lt ?_
                  have := congrArg List.length hys
                  rw [List.length_append] at this
                  simp at this
                  omega
                · rw [delH'_upd]
                  have := o.2.wipe (own.map (·.2)); rwa [hw] at this
                · rw [List.append_assoc]; exact hys
  · have e0 : i = ds.length := by omega
    subst e0
    rw [List.drop_length] at hcm
    have z : R.ok ([] : List D) e2 = R.ok rest ef := hcm
    cases z
    rw [List.append_nil] at hys
    subst hys
    refine .inl ⟨w.stops H (ex2.trans eG2), q Da accV G2 (delH' H Da) H ex2 ?_ delH'_same (fun b hb => (delH'_ne hb).symm) hDa hacc⟩
    have := r2.back r1 ex2 (wipe_length σ _) (own.map (·.2))
    rwa [restS_wipe] at this
theorem lc_of {σ : L2.St} {H : Hp} {Q : VK} (hix : ∀ i ∈ ix, i ∈ own.map (·.2)) (h : tF X.K X.mg W (lcM mi t mc me (own.map (·.2))) σ H Q) : tLc (tI X.K X.mg W mi) (tGt X.K t ix) (tMb X.K X.mg noW mc) (tM X.K X.mg noW me) (own.map (·.2)) σ H Q := by
  obtain ⟨g, G, e, ig, rl, q⟩ := h
  refine ⟨g, G, e, ig, rl, ?_⟩
  unfold lcM M.bind at q
  cases hm : mi e with
  | ex c e1 =>
    rw [hm] at q
    exact q
  | st =>
    rw [hm] at q
    exact q
  | ok ds e1 =>
    rw [hm] at q
    intro J G1 H1 eg r1 w
    have q' : PostF X.K X.mg W g G σ Q (match compM t mc me (own.map (·.2)) ds (wipeE e1 (own.map (·.2))) with
      | .ok ys e2 => if ys.length ≤ 100000 then .ok ys (restE e1 e2 (own.map (·.2))) else .st
      | _ => .st) := q
    cases hf : compM t mc me (own.map (·.2)) ds (wipeE e1 (own.map (·.2))) with
    | ex c e2 => rw [hf] at q'; exact q'.elim
    | st => rw [hf] at q'; exact q'.elim
    | ok ys ef =>
      rw [hf] at q'
      by_cases c : ys.length ≤ 100000
      · simp only [if_pos c] at q'
        exact lc_read hix r1 w hf c fun p xs G' H' H2 ex r hp hb h2 hd => q' p xs G' H' H2 (eg.trans ex) r hp hb h2 hd
      · simp only [if_neg c] at q'
        exact q'.elim
/-- [elt for tg in iter if ..] -/
theorem ff_lc (hc : X.calm = true) (hN : X.N.Nodup) (hi : FI X W tg iter mi) (ok : BlkOk X.N X.env.scope scope own)
    (hg : ∀ (s : Shared) (H : Hp) (C : Addr) (cl : List (Str × Addr)) (fp : List Addr), FG (X.blk s H scope (compEnvC scope cl C X.env) fp) tg t ix)
    (ht : ∀ (s : Shared) (H : Hp) (C : Addr) (cl : List (Str × Addr)) (fp : List Addr), FC (X.blk s H scope (compEnvC scope cl C X.env) fp) ifs mc)
    (he : ∀ (s : Shared) (H : Hp) (C : Addr) (cl : List (Str × Addr)) (fp : List Addr), FE (X.blk s H scope (compEnvC scope cl C X.env) fp) noW elt me)
    (hix : ∀ i ∈ ix, i ∈ own.map (·.2)) (hs : ∀ x, foldedSetIterable iter X.env x = pure x := by intro _; rfl) : FF X W (.ListComp elt [⟨tg, iter, ifs, 0⟩] scope pos) (lcM mi t mc me (own.map (·.2))) :=
  pe_mono (pe_lc (g := tGt X.K t ix) (tt := tMb X.K X.mg noW mc) (te := tM X.K X.mg noW me) hc hN hi ok hg ht he hs) fun σ H Q h => lc_of hix h
end
end Fx

set_option Elab.async false
set_option linter.all false
set_option maxRecDepth 100000
set_option maxHeartbeats 4000000
/-! Fx8: owned lists and dicts; slices; calls of built-ins. -/
namespace Fx
open PySem PySem.Spec PyProof.Rows L2 Evl

section
variable {K : PySem.W.Frag} {mg : Str → Option Value} {W : Wi} {g : Gd} {G G' H H' : Hp} {σ : L2.St} {e : En}
theorem Rel.own (r : Rel K g G H σ e) {i : Nat} {w : Bool} {o : OO} (h : e[i]? = some (.own w o)) : ∃ a, σ[i]? = some (some (.ref a)) ∧ Holds K G H a o ∧ G a = none ∧ g.B a = none ∧ (w = true → g.P = some a) := r.sl i _ h
end
section
variable {X : Cx} {W : Wi} {a b c : Expr} {ma mb : M D} {pos p q : Pos} {x : Str} {i : Nat}
/-! ### lists of one's own -/
def lenO (i : Nat) : M D := fun e => match e[i]? with
  | some (.own _ (.ol xs)) => .ok (.int xs.length) e
  | _ => .st
theorem fe_lenO (hN : X.N[i]? = some x) (hv : Vis X.env.scope x) (hg : Gl X "len") (hm : X.mg "len" = none) (hd : (x == ("__debug__" : Str)) = false := by decide) (hcd : (x == ("__classdict__" : Str)) = false := by decide)
    (he : starEach (.Name x q :: []) X.env = (false, eval (.Name x q) X.env) :: starEach [] X.env := by rfl) (hpl : (backTo pos (starEach [] X.env)).any (·.1) = false := by rfl) : FE X W (.Call (.Name "len" p) [.Name x q] [] pos) (lenO i) :=
  pe_mono (pe_callB call_len_seq hg hm PySem.boot_len (pa_cons (pe_var hN hv hd hcd) pa_nil he) (by decide) (by decide) he hpl) fun σ H Q ⟨g, G, e, ig, rl, pq⟩ => by
    unfold lenO at pq
    cases h : e[i]? with
    | none => rw [h] at pq; exact pq.elim
    | some s =>
      rw [h] at pq
      cases s with
      | no => exact pq.elim
      | d y => exact pq.elim
      | own w o =>
        cases o with
        | od ks => exact pq.elim
        | ol xs =>
          obtain ⟨a, h1, ⟨vs, h2, h3⟩, _⟩ := rl.own h
          refine ⟨.ref a, h1, a, vs, rfl, .inl (sq_of h2), ?_⟩
          rw [dpAll_len h3]
          exact retP rl (.int _) pq
/-- x[j] -/
def ixO (i : Nat) (mj : M D) : M D := fun e0 => match e0[i]? with
  | some (.own _ _) => (mj.bind fun j => fun e => match e[i]?, j with
    | some (.own _ (.ol xs)), .int k => match (ixN xs.length k).bind fun n => xs[n]? with
      | some d => .ok d e
      | none => .st
    | _, _ => .st) e0
  | _ => .st
theorem fe_ixO (hN : X.N[i]? = some x) (hv : Vis X.env.scope x) (hb : FE X W b mb) (hs : PlainIx b := by exact fun _ _ => rfl) (hd : (x == ("__debug__" : Str)) = false := by decide) (hcd : (x == ("__classdict__" : Str)) = false := by decide) :
    FE X W (.Subscript (.Name x q) b pos) (ixO i mb) :=
  pe_mono (pe_ix ix_list (pe_var hN hv hd hcd) hb hs) fun σ H Q ⟨g, G, e, ig, rl, pq⟩ => by
    unfold ixO at pq
    cases h : e[i]? with
    | none => rw [h] at pq; exact pq.elim
    | some s =>
      rw [h] at pq
      cases s with
      | no => exact pq.elim
      | d y => exact pq.elim
      | own w o =>
        obtain ⟨a, h1, _⟩ := rl.own h
        refine ⟨.ref a, h1, g, G, e, ig, rl, bindP (ma := mb) pq fun G1 H1 e1 j v eg r1 rv q1 => ?_⟩
        cases h' : e1[i]? with
        | none => rw [h'] at q1; cases j <;> exact q1.elim
        | some s' =>
          rw [h'] at q1
          cases s' with
          | no => cases j <;> exact q1.elim
          | d y => cases j <;> exact q1.elim
          | own w' o' =>
            cases o' with
            | od ks => cases j <;> exact q1.elim
            | ol xs =>
              cases j with
              | int k =>
                obtain ⟨a', h1', ⟨vs, h2, h3⟩, _⟩ := r1.own h'
                rw [h1] at h1'
                cases h1'
                cases rv
                simp only at q1
                cases hx : (ixN xs.length k).bind fun n => xs[n]? with
                | none => rw [hx] at q1; exact q1.elim
                | some d =>
                  rw [hx] at q1
                  obtain ⟨v, z1, z2⟩ := atI_of h3 hx
                  exact ⟨a, vs, k, v, rfl, rfl, sq_of h2, z1, retP r1 z2 q1⟩
              | _ => exact q1.elim
/-- x.append(e) -/
def appM (i : Nat) (m : M D) : M Fl := fun e => match e[i]? with
  | some (.own _ (.ol _)) => (m.bind fun d => fun e1 => match e1[i]? with
    | some (.own w (.ol xs)) => if xs.length < 100000 then .ok .nx (e1.set i (.own w (.ol (xs ++ [d])))) else .st
    | _ => .st) e
  | _ => .st
theorem fs_app {apos cpos : Pos} (hN : X.N[i]? = some x) (hv : Vis X.env.scope x) (ha : FE X W a ma) (hd : (x == ("__debug__" : Str)) = false := by decide) (hcd : (x == ("__classdict__" : Str)) = false := by decide)
    (hbase : attributeBase (.Name x q) "append" X.env (eval (.Name x q) X.env) = eval (.Name x q) X.env := by rfl)
    (hfew : ((backTo cpos (starEach (a :: []) X.env)).all (fun x => !x.1) && (backToKw cpos (keywordEach [] X.env)).all (fun x => x.1.isSome)
      && decide ((a :: []).length + ([] : List Keyword).length + (if ([] : List Keyword).isEmpty then 0 else 1) < 30)) = true := by rfl)
    (hline : (apos.endLine == cpos.line) = true := by rfl) (hs : starEach (a :: []) X.env = (false, eval a X.env) :: starEach [] X.env := by rfl) (hplain : (backTo cpos (starEach [] X.env)).any (·.1) = false := by rfl)
    (hsw : swapsWith (.Call (.Attribute (.Name x q) "append" apos) [a] [] cpos) none pos.line X.env = pure false := by rfl) :
    FS X W (.Expr (.Call (.Attribute (.Name x q) "append" apos) [a] [] cpos) pos) (appM i ma) :=
  ps_mono (ps_expr (pe_bm PySem.F.plainAttrs_list PySem.F.slot_list_append PySem.F.type_list_append mt_append (pe_var hN hv hd hcd) (pa_cons ha pa_nil hs) hbase hfew hline hs hplain) hsw) fun Z σ H ⟨g, G, e, ig, rl, pq⟩ => by
    unfold appM at pq
    cases h : e[i]? with
    | none => simp only [h] at pq; exact pq.elim
    | some s =>
      simp only [h] at pq
      cases s with
      | no => exact pq.elim
      | d y => exact pq.elim
      | own w o =>
        cases o with
        | od ks => exact pq.elim
        | ol ys =>
          obtain ⟨a, h1, ⟨us, h2, _⟩, _⟩ := rl.own h
          refine ⟨.ref a, h1, .inl ⟨rfl, us, sq_of h2⟩, g, G, e, ig, rl, bindS pq fun G1 H1 e1 d v eg r1 rv q1 => ?_⟩
          cases h' : e1[i]? with
          | none => rw [h'] at q1; exact q1.elim
          | some s' =>
            rw [h'] at q1
            cases s' with
            | no => exact q1.elim
            | d y => exact q1.elim
            | own w' o' =>
              cases o' with
              | od ks => exact q1.elim
              | ol xs =>
                obtain ⟨a', h1', ⟨vs, k2, k3⟩, k4, k5, k6⟩ := r1.own h'
                rw [h1] at h1'
                cases h1'
                by_cases hl : xs.length < 100000
                · simp only [if_pos hl] at q1
                  refine ⟨a, vs, v, rfl, rfl, k2, sz_lt (by rw [dpAll_len k3]; exact hl), ?_⟩
                  exact q1 σ G1 _ (Ex.refl _) (r1.mut h' h1 ⟨_, upd_same, dpAll_app k3 (.cons rv .nil)⟩ k4 k5 k6)
                · simp only [if_neg hl] at q1
                  exact q1.elim
/-- x[j] = v -/
def setIx (i : Nat) (mj mv : M D) : M Fl := mv.bind fun d => fun e0 => match e0[i]? with
  | some (.own _ _) => (mj.bind fun j => fun e => match e[i]?, j with
    | some (.own w (.ol xs)), .int k => match ixN xs.length k with
      | some n => .ok .nx (e.set i (.own w (.ol (xs.set n d))))
      | none => .st
    | _, _ => .st) e0
  | _ => .st
theorem fs_setIx {tpos : Pos} (hN : X.N[i]? = some x) (hv : Vis X.env.scope x) (ha : FE X W a ma) (hb : FE X W b mb) (hd : (x == ("__debug__" : Str)) = false := by decide) (hcd : (x == ("__classdict__" : Str)) = false := by decide)
    (hs1 : ∀ k : Unit, True := by exact fun _ => True.intro) (hps : PS X (.Assign [.Subscript (.Name x q) b tpos] a pos) (tAsg (tM X.K X.mg W ma) (gSub (tVar i) (tM X.K X.mg W mb) rSetL))) :
    FS X W (.Assign [.Subscript (.Name x q) b tpos] a pos) (setIx i mb ma) :=
  ps_mono hps fun Z σ H ⟨g, G, e, ig, rl, pq⟩ => ⟨g, G, e, ig, rl, bindS pq fun G1 H1 e1 d v eg r1 rv q1 => by
    cases h : e1[i]? with
    | none => rw [h] at q1; exact q1.elim
    | some s =>
      rw [h] at q1
      cases s with
      | no => exact q1.elim
      | d y => exact q1.elim
      | own w o =>
        obtain ⟨a, h1, _⟩ := r1.own h
        refine ⟨.ref a, h1, g, G1, e1, ig, r1, bindS (ma := mb) q1 fun G2 H2 e2 j u eg2 r2 ru q2 => ?_⟩
        cases h' : e2[i]? with
        | none => rw [h'] at q2; cases j <;> exact q2.elim
        | some s' =>
          rw [h'] at q2
          cases s' with
          | no => cases j <;> exact q2.elim
          | d y => cases j <;> exact q2.elim
          | own w' o' =>
            cases o' with
            | od ks => cases j <;> exact q2.elim
            | ol xs =>
              cases j with
              | int k =>
                obtain ⟨a', h1', ⟨vs, k2, k3⟩, k4, k5, k6⟩ := r2.own h'
                rw [h1] at h1'
                cases h1'
                cases ru
                simp only at q2
                cases hx : ixN xs.length k with
                | none => rw [hx] at q2; exact q2.elim
                | some n =>
                  rw [hx] at q2
                  refine ⟨a, vs, k, n, rfl, rfl, k2, by rw [dpAll_len k3]; exact hx, ?_⟩
                  exact q2 σ G2 _ (Ex.refl _) (r2.mut h' h1 ⟨_, upd_same, dpAll_set n k3 (rv.up eg2)⟩ k4 k5 k6)
              | _ => exact q2.elim⟩
/-- an owned list, from here on as data -/
def frz (i : Nat) : M D := fun e => match e[i]? with
  | some (.own false (.ol xs)) => .ok (.list xs) (e.set i (.d (.list xs)))
  | _ => .st
theorem Rel.frz {K : PySem.W.Frag} {g : Gd} {G H : Hp} {σ : L2.St} {e : En} (r : Rel K g G H σ e) {i : Nat} {xs : List D} (h : e[i]? = some (.own false (.ol xs))) : ∃ a vs, σ[i]? = some (some (.ref a)) ∧ Ex G (upd G a (.lst vs)) ∧ Rel K g (upd G a (.lst vs)) H σ (e.set i (.d (.list xs))) ∧ DR K (upd G a (.lst vs)) (.ref a) (.list xs) := by
  obtain ⟨a, h1, ⟨vs, k2, k3⟩, k4, k5, k6⟩ := r.own h
  have ex : Ex G (upd G a (.lst vs)) := Ex.new k4
  have dd : DR K (upd G a (.lst vs)) (.ref a) (.list xs) := .lst upd_same (k3.up ex)
  refine ⟨a, vs, h1, ex, { gh := fun b u hb => ?_, bh := r.bh, gg := r.gg.trans ex, gb := fun b u hb => ?_, len := by rw [List.length_set]; exact r.len, sl := fun j t ht => ?_, ds := fun j k t u b hjk g1 o1 s1 g2 o2 s2 => ?_ }, dd⟩
  · by_cases z : b = a
    · subst z; rw [upd_same] at hb; rw [k2]; exact hb
    · rw [upd_ne z] at hb; exact r.gh b u hb
  · by_cases z : b = a
    · subst z; exact .inr k5
    · rw [upd_ne z] at hb; exact r.gb b u hb
  · rcases get_set ht with ⟨rfl, rfl⟩ | ⟨hij, ht⟩
    · exact ⟨_, h1, dd⟩
    · have z := r.sl j t ht
      cases t with
      | no => exact True.intro
      | d x => obtain ⟨v, q1, q2⟩ := z; exact ⟨v, q1, q2.up ex⟩
      | own w' ys =>
        obtain ⟨b, s1, s2, s3, s4⟩ := z
        have nb : b ≠ a := fun q => by
          subst q
          exact r.ds i j _ _ b hij h rfl h1 ht rfl s1
        exact ⟨b, s1, s2.up ex rfl, by rw [upd_ne nb]; exact s3, s4⟩
  · rcases get_set g1 with ⟨_, rfl⟩ | ⟨n1, g1⟩
    · cases o1
    · rcases get_set g2 with ⟨_, rfl⟩ | ⟨n2, g2⟩
      · cases o2
      · exact r.ds j k t u b hjk g1 o1 s1 g2 o2 s2
theorem fe_frz (hN : X.N[i]? = some x) (hv : Vis X.env.scope x) (hd : (x == ("__debug__" : Str)) = false := by decide) (hcd : (x == ("__classdict__" : Str)) = false := by decide) : FE X W (.Name x pos) (frz i) :=
  pe_mono (pe_var hN hv hd hcd) fun σ H Q ⟨g, G, e, ig, rl, pq⟩ => by
    unfold Fx.frz at pq
    cases h : e[i]? with
    | none => rw [h] at pq; exact pq.elim
    | some s =>
      rw [h] at pq
      cases s with
      | no => exact pq.elim
      | d y => exact pq.elim
      | own w o =>
        cases o with
        | od ks => cases w <;> exact pq.elim
        | ol xs =>
          cases w with
          | true => exact pq.elim
          | false =>
            obtain ⟨a, vs, h1, ex, r2, dd⟩ := rl.frz h
            exact ⟨.ref a, h1, pq (.ref a) _ H ex r2 dd⟩
end

/-! ### a def that is handed an object to change -/
inductive FRO where
  | ok (d : D) (o : OO)
  | ex (x : Xc) (o : OO)
  | st
abbrev FnO := OO → List D → FRO
/-- what stands, stands, but at a -/
def NwO (a : Addr) (G H G' H' : Hp) : Prop := Ex G G' ∧ (∀ b o, H b = some o → b ≠ a → H' b = some o) ∧ Ex G' H' ∧ ∀ b o, G' b = some o → G b = some o ∨ H b = none
def spO (K : PySem.W.Frag) (mg : Str → Option Value) (n : Nat) (F : FnO) : Sp := fun vs H Q E => vs.length = n + 1 ∧ ∃ G a us o ds, vs = .ref a :: us ∧ Ex G H ∧ Holds K G H a o ∧ G a = none ∧ DRAll K G us ds ∧ match F o ds with
  | .ok d o' => ∀ v G' H', NwO a G H G' H' → Holds K G' H' a o' → DR K G' v d → Q v H'
  | .ex x o' => ∀ C dd fs G' H', mg x.cls = some (.ref C) → NwO a G H G' H' → Holds K G' H' a o' → H' dd = some (.xd fs) → FsOk K G' fs x.fs → E (.ref C) (some dd) H'
  | .st => False
theorem Rel.callO {K : PySem.W.Frag} {g : Gd} {G H G' H' : Hp} {σ : L2.St} {e : En} (r : Rel K g G H σ e) {i : Nat} {w : Bool} {o o' : OO} {a : Addr} (h : e[i]? = some (.own w o)) (hs : σ[i]? = some (some (.ref a))) (ga : G a = none) (ba : g.B a = none) (hP : w = true → g.P = some a) (nw : NwO a G H G' H') (hh : Holds K G' H' a o') (ha : ∃ u, H a = some u) :
    Rel K g G' H' σ (e.set i (.own w o')) := by
  obtain ⟨n1, n2, n3, n4⟩ := nw
  have gnone : ∀ b, (∃ u, H b = some u) → G b = none → G' b = none := fun b ⟨u, hu⟩ hg => by
    cases z : G' b with
    | none => rfl
    | some y =>
      rcases n4 b y z with q | q
      · rw [hg] at q; cases q
      · rw [hu] at q; cases q
  refine { gh := n3, bh := fun b u hb => n2 b u (r.bh b u hb) (ne_of_none hb ba), gg := r.gg.trans n1, gb := fun b u hb => ?_, len := by rw [List.length_set]; exact r.len, sl := fun j t ht => ?_, ds := fun j k t u b hjk g1 o1 s1 g2 o2 s2 => ?_ }
  · rcases n4 b u hb with q | q
    · exact r.gb b u q
    · exact .inr (fresh_back r.bh q)
  · rcases get_set ht with ⟨rfl, rfl⟩ | ⟨hij, ht⟩
    · exact ⟨a, hs, hh, gnone a ha ga, ba, hP⟩
    · have z := r.sl j t ht
      cases t with
      | no => exact True.intro
      | d x => obtain ⟨v, q1, q2⟩ := z; exact ⟨v, q1, q2.up n1⟩
      | own w' ys =>
        obtain ⟨b, s1, s2, s3, s4⟩ := z
        have nb : b ≠ a := fun q => by
          subst q
          exact r.ds i j _ _ b hij h rfl hs ht rfl s1
        obtain ⟨u, hu⟩ := s2.there
        exact ⟨b, s1, s2.up n1 ((n2 b u hu nb).trans hu.symm), gnone b ⟨u, hu⟩ s3, s4⟩
  · have q1 : ∃ t', e[j]? = some t' ∧ isOwn t' = true := by
      rcases get_set g1 with ⟨rfl, rfl⟩ | ⟨_, g1⟩
      · exact ⟨_, h, rfl⟩
      · exact ⟨t, g1, o1⟩
    have q2 : ∃ t', e[k]? = some t' ∧ isOwn t' = true := by
      rcases get_set g2 with ⟨rfl, rfl⟩ | ⟨_, g2⟩
      · exact ⟨_, h, rfl⟩
      · exact ⟨u, g2, o2⟩
    obtain ⟨t', a1, a2⟩ := q1
    obtain ⟨u', b1, b2⟩ := q2
    exact r.ds j k t' u' b hjk a1 a2 s1 b1 b2 s2
def callO (i : Nat) (F : FnO) (ms : M (List D)) : M D := fun e0 => match e0[i]? with
  | some (.own _ _) => (ms.bind fun ds => fun e => match e[i]? with
    | some (.own w o) => match F o ds with
      | .ok d o' => .ok d (e.set i (.own w o'))
      | .ex x o' => .ex x (e.set i (.own w o'))
      | .st => .st
    | _ => .st) e0
  | _ => .st
section
variable {X : Cx} {W : Wi} {k i : Nat} {f : Addr} {fd : FuncData} {ps : List Str} {x y : Str} {p q pos : Pos} {es : List Expr}
theorem fe_callO {F : FnO} {ms : M (List D)} {n : Nat} (G : FnG X.prog X.w X.K X.mg X.base k f fd ps (spO X.K X.mg n F)) (hr : Room k X.A) (hgd : X.A.guards = some []) (hg : Gl X x) (hm : X.mg x = some (.ref f)) (hk : PySem.W.keepIn X.K (.ref f) = true) (hb : Binds X.K fd ps []) (hx : ∀ σ, PassesAt (L2.CX X.prog X.w) X σ (WE W.W σ))
    (hN : X.N[i]? = some y) (hv : Vis X.env.scope y) (ha : FA X W es ms) (hn : ∀ env ds env', ms env = .ok ds env' → ds.length = n) (hd : (y == ("__debug__" : Str)) = false := by decide) (hcd : (y == ("__classdict__" : Str)) = false := by decide) (hdb : (x == ("__debug__" : Str)) = false := by decide)
    (he : starEach (.Name y q :: es) X.env = (false, eval (.Name y q) X.env) :: starEach es X.env := by rfl) (hpl : (backTo pos (starEach es X.env)).any (·.1) = false := by rfl) :
    FE X W (.Call (.Name x p) (.Name y q :: es) [] pos) (callO i F ms) :=
  pe_mono (pe_callG G hr hgd hg hm hk hb .nil hx (pa_cons (pe_var hN hv hd hcd) ha he) hdb he hpl) fun σ H Q ⟨g, G0, en, ig, rl, pq⟩ => by
    unfold callO at pq
    cases h : en[i]? with
    | none => simp only [h] at pq; exact pq.elim
    | some s =>
      simp only [h] at pq
      cases s with
      | no => exact pq.elim
      | d y => exact pq.elim
      | own w o =>
        obtain ⟨a, h1, _⟩ := rl.own h
        refine ⟨.ref a, h1, g, G0, en, ig, rl, ?_⟩
        unfold M.bind at pq
        cases hms : ms en with
        | ex c e1 => rw [hms] at pq; exact pq
        | st => rw [hms] at pq; exact pq
        | ok ds e1 =>
          rw [hms] at pq
          intro vs G1 H1 eg r1 rv
          show spO X.K X.mg n F (.ref a :: vs ++ []) H1 Q _
          rw [List.append_nil]
          have pq' : Post X.K X.mg W (DR X.K) g G0 σ Q (match e1[i]? with
            | some (.own w o) => match F o ds with
              | .ok d o' => .ok d (e1.set i (.own w o'))
              | .ex x o' => .ex x (e1.set i (.own w o'))
              | .st => .st
            | _ => .st) := pq
          cases h' : e1[i]? with
          | none => rw [h'] at pq'; exact pq'.elim
          | some s' =>
            rw [h'] at pq'
            cases s' with
            | no => exact pq'.elim
            | d y => exact pq'.elim
            | own w' o' =>
              obtain ⟨a', h1', k2, k4, k5, k6⟩ := r1.own h'
              rw [h1] at h1'
              cases h1'
              refine ⟨by rw [List.length_cons, dpAll_len rv, hn _ _ _ hms], G1, a, vs, o', ds, rfl, r1.gh, k2, k4, rv, ?_⟩
              simp only at pq'
              cases hF : F o' ds with
              | st => rw [hF] at pq'; exact pq'
              | ok d o2 =>
                rw [hF] at pq'
                exact fun v G' H' nw hh hv => pq' v G' H' (eg.trans nw.1) (r1.callO h' h1 k4 k5 k6 nw hh k2.there) hv
              | ex c o2 =>
                rw [hF] at pq'
                exact fun C dd fs G' H' hm nw hh hd hf => pq' C dd fs G' H' hm (eg.trans nw.1) (r1.callO h' h1 k4 k5 k6 nw hh k2.there) hd hf
end
/-- the object that the def was handed, as it stands -/
def pOwn (e : En) : Option OO := match (e : List SV)[0]? with
  | some (SV.own true o) => some o
  | _ => none
theorem pOwn_some {e : En} {o : OO} (h : pOwn e = some o) : e[0]? = some (SV.own true o) := by
  unfold pOwn at h
  split at h
  · rename_i h'; cases h; exact h'
  · cases h
/-- the body of such a def -/
def endO (r : R Fl) : FRO := match r with
  | .ok .nx e => (pOwn e).elim .st fun o => .ok .none o
  | .ok (.rt d) e => (pOwn e).elim .st fun o => .ok d o
  | .ok _ _ => .st
  | .ex x e => (pOwn e).elim .st fun o => .ex x o
  | .st => .st
def bodyO (nl : Nat) (m : M Fl) : FnO := fun o ds => endO (m (SV.own true o :: (ds.map SV.d ++ List.replicate (nl - 1 - ds.length) SV.no)))
theorem rel_startO {K : PySem.W.Frag} {G H : Hp} {N : List Str} {a : Addr} {o : OO} {us : List V} {ds : List D} (hg : Ex G H) (ho : Holds K G H a o) (ga : G a = none) (h : DRAll K G us ds) (hl : us.length + 1 ≤ N.length) :
    Rel K ⟨delH' H a, G, some a⟩ G H (L2.start N (.ref a :: us)) (SV.own true o :: (ds.map SV.d ++ List.replicate (N.length - 1 - ds.length) SV.no)) := by
  have hl2 := dpAll_len h
  have one : ∀ (j : Nat) (s : SV), (ds.map SV.d ++ List.replicate (N.length - 1 - ds.length) SV.no)[j]? = some s → (∃ d, s = .d d ∧ ds[j]? = some d) ∨ s = .no := fun j s hs => by
    by_cases hi : j < ds.length
    · rw [List.getElem?_append_left (by simpa using hi), List.getElem?_map, List.getElem?_eq_getElem hi] at hs
      cases hs
      exact .inl ⟨_, rfl, List.getElem?_eq_getElem hi⟩
    · rw [List.getElem?_append_right (by simpa using Nat.le_of_not_lt hi), List.getElem?_replicate] at hs
      split at hs
      · cases hs; exact .inr rfl
      · cases hs
  refine { gh := hg, bh := fun b u hb => ?_, gg := Ex.refl G, gb := fun b u hb => .inl hb, len := ?_, sl := fun j s hs => ?_, ds := fun j k t u b hjk g1 o1 s1 g2 o2 s2 => ?_ }
  · by_cases z : b = a
    · subst z
      have hb' : delH' H b b = some u := hb
      rw [delH'_same] at hb'; cases hb'
    · have hb' : delH' H a b = some u := hb
      rw [delH'_ne z] at hb'; exact hb'
  · unfold L2.start
    simp only [List.length_append, List.length_map, List.length_replicate, List.length_cons]
    omega
  · cases j with
    | zero =>
      cases hs
      exact ⟨a, rfl, ho, ga, delH'_same, fun _ => rfl⟩
    | succ j =>
      rcases one j s hs with ⟨d, rfl, hd⟩ | rfl
      · obtain ⟨v, h1, h2⟩ := dpAll_get h hd
        refine ⟨v, ?_, h2⟩
        have hj : j < us.length := (List.getElem?_eq_some_iff.mp h1).1
        unfold L2.start
        rw [List.getElem?_append_left (by simp; omega)]
        simp [h1]
      · exact True.intro
  · cases j with
    | zero =>
      cases k with
      | zero => exact hjk rfl
      | succ k =>
        rcases one k u g2 with ⟨d, rfl, _⟩ | rfl
        · cases o2
        · cases o2
    | succ j =>
      rcases one j t g1 with ⟨d, rfl, _⟩ | rfl
      · cases o1
      · cases o1
theorem fn_mkO {P : Program} {w : World} {K : PySem.W.Frag} {mg : Str → Option Value} {base : Heap} {x qual : Str} {st : Stmt} {f : Addr} {fd : FuncData} {N ps : List Str} {k n : Nat} {m : M Fl} (F : Fun K x qual st f fd) (S : FnScope N ps (defScope st))
    (hn : ps.length = n + 1) (hp : ps.length ≤ N.length)
    (hbody : ∀ (X : Cx) (W : Wi), X.prog = P → X.w = w → X.K = K → X.mg = mg → X.base = base → X.N = N → X.env.scope = defScope st → X.calm = true → X.fn = (fun _ => true) → X.stack = X.env :: X.outer → X.env.frame = some X.env.locals → X.ex = [] → Room k X.A → X.A.guards = some [] → Takes X W.W → (∀ g, W.I g) →
      PassesOwn (model X.prog X.w) X.A X.env X.xe → FB X W (defBody st) m) : FnG P w K mg base (k + 1) f fd ps (spO K mg n (bodyO N.length m)) := by
  obtain ⟨oc, od, kV, doc, pm, an, cdv, ct, osl, rfl, lk, hcd⟩ := F.ex
  refine fn_ofG lk hcd S (fun vs H Q E h => h.1.trans hn.symm) fun A outer s H vs Q E hr hgd h => ?_
  obtain ⟨hl, G, a, us, o, ds, rfl, hg, ho, ga, hd, q⟩ := h
  have tk : Takes (cxOf (L2.CX P w) P w K mg base N qual (defScope st) f cdv A outer s H E) (fun cls d σ H' => E cls d H') := takes_of rfl rfl rfl rfl
  have hpo : PassesOwn (model P w) (cxOf (L2.CX P w) P w K mg base N qual (defScope st) f cdv A outer s H E).A (cxOf (L2.CX P w) P w K mg base N qual (defScope st) f cdv A outer s H E).env (cxOf (L2.CX P w) P w K mg base N qual (defScope st) f cdv A outer s H E).xe := passes_of rfl
  have hlu : us.length + 1 ≤ N.length := by rw [List.length_cons] at hl; omega
  refine ⟨_, hbody (cxOf (L2.CX P w) P w K mg base N qual (defScope st) f cdv A outer s H E) ⟨fun cls d σ H' => E cls d H', fun _ => True⟩ rfl rfl rfl rfl rfl rfl rfl rfl rfl rfl rfl rfl hr hgd tk (fun _ => True.intro) hpo, ⟨delH' H a, G, some a⟩, G, _, True.intro, rel_startO hg ho ga hd hlu, ?_⟩
  have fin : ∀ {G' H' : Hp} {σ' : L2.St} {e' : En} {o' : OO}, Rel K ⟨delH' H a, G, some a⟩ G' H' σ' e' → e'[0]? = some (.own true o') → NwO a G H G' H' ∧ Holds K G' H' a o' := fun {G' H' σ' e' o'} r h => by
    obtain ⟨a', h1, h2, h3, h4, h5⟩ := r.own h
    have ea : some a = some a' := h5 rfl
    cases ea
    refine ⟨⟨r.gg, fun b u hb nb => r.bh b u (by show delH' H a b = some u; rw [delH'_ne nb]; exact hb), r.gh, fun b u hb => ?_⟩, h2⟩
    rcases r.gb b u hb with z | z
    · exact .inl z
    · have nb : b ≠ a := ne_of_none hb h3
      have z' : delH' H a b = none := z
      rw [delH'_ne nb] at z'
      exact .inr z'
  unfold bodyO at q
  generalize m (SV.own true o :: (ds.map SV.d ++ List.replicate (N.length - 1 - ds.length) SV.no)) = r at q
  cases r with
  | st => exact q.elim
  | ex c e =>
    cases h' : pOwn e with
    | none => simp only [endO, h'] at q; exact q.elim
    | some o' =>
      simp only [endO, h'] at q
      exact fun C dd fs σ' G' H' hm _ r hdd hf => q C dd fs G' H' hm (fin r (pOwn_some h')).1 (fin r (pOwn_some h')).2 hdd hf
  | ok fl e =>
    cases fl with
    | bk => exact q.elim
    | ct => exact q.elim
    | nx =>
      cases h' : pOwn e with
      | none => simp only [endO, h'] at q; exact q.elim
      | some o' =>
        simp only [endO, h'] at q
        exact fun σ' G' H' _ r => q .non G' H' (fin r (pOwn_some h')).1 (fin r (pOwn_some h')).2 .non
    | rt d =>
      cases h' : pOwn e with
      | none => simp only [endO, h'] at q; exact q.elim
      | some o' =>
        simp only [endO, h'] at q
        exact fun v σ' G' H' _ r hv => q v G' H' (fin r (pOwn_some h')).1 (fin r (pOwn_some h')).2 hv
end Fx

set_option Elab.async false
set_option linter.all false
set_option maxRecDepth 100000
set_option maxHeartbeats 4000000
/-! Fx9: exceptions of own classes, each with one field that its __init__ keeps. -/
namespace PySem
namespace FxE
open Builtin Builtin.ObjectAttr PySem.W PySem.Calls PyProof.Rows PySem.HandSPX
/-- own classes, then a built-in class's mro -/
def refsT (tail : List Value) : List Value → Bool
  | .ref _ :: r => refsT tail r
  | l => l == tail
theorem refsT_cases {tail : List Value} : ∀ l : List Value, refsT tail l = true → (∃ c r, l = .ref c :: r ∧ refsT tail r = true) ∨ l = tail
  | [], e => .inr (beq_iff_eq.mp e)
  | .ref c :: r, e => .inl ⟨c, r, rfl, e⟩
  | .none :: _, e => .inr (beq_iff_eq.mp e)
  | .ellipsis :: _, e => .inr (beq_iff_eq.mp e)
  | .notImplemented :: _, e => .inr (beq_iff_eq.mp e)
  | .bool _ :: _, e => .inr (beq_iff_eq.mp e)
  | .int _ _ :: _, e => .inr (beq_iff_eq.mp e)
  | .float _ _ :: _, e => .inr (beq_iff_eq.mp e)
  | .str _ _ :: _, e => .inr (beq_iff_eq.mp e)
  | .bytes _ _ :: _, e => .inr (beq_iff_eq.mp e)
  | .type _ :: _, e => .inr (beq_iff_eq.mp e)
  | .builtin _ :: _, e => .inr (beq_iff_eq.mp e)
structure Fam (B newId initId : String) (tail : List Value) : Prop where
  base : ExcBaseFacts B newId initId tail
  pass : ∀ self, refuseLoop self "__setattr__" tail = pure ()
  obj : tail.contains (.type "object") = true
  ne : tail ≠ []
  hand : PySem.W.handedIn (.builtin initId) = true
variable {B newId initId : String} {tail : List Value}
theorem refsT_pass (M : Fam B newId initId tail) (self : Value) : ∀ l : List Value, refsT tail l = true → refuseLoop self "__setattr__" l = pure () := by
  intro l
  induction l with
  | nil => intro e; exact absurd (beq_iff_eq.mp e).symm M.ne
  | cons a r ih =>
    intro e
    rcases refsT_cases (a :: r) e with ⟨c, r', q, h⟩ | q
    · obtain ⟨rfl, rfl⟩ := List.cons.inj q
      rw [refuseLoop_ref]; exact ih h
    · rw [q]; exact M.pass self
theorem refsT_contains (X : String) : ∀ l : List Value, refsT tail l = true → l.contains (.type X) = tail.contains (.type X) := by
  intro l
  induction l with
  | nil => intro e; rw [(beq_iff_eq.mp e : ([] : List Value) = tail)]
  | cons a r ih =>
    intro e
    rcases refsT_cases (a :: r) e with ⟨c, r', q, h⟩ | q
    · obtain ⟨rfl, rfl⟩ := List.cons.inj q
      rw [List.contains_cons, ih h]; rfl
    · rw [q]
theorem refsT_ne (M : Fam B newId initId tail) {l : List Value} (e : refsT tail l = true) : l.isEmpty = false := by
  cases l with
  | nil => exact absurd (beq_iff_eq.mp e).symm M.ne
  | cons _ _ => rfl
theorem fam_VE : Fam "ValueError" "ValueError.__new__" "ValueError.__init__" [.type "ValueError", .type "Exception", .type "BaseException", .type "object"] :=
  ⟨F.excBase_ValueError, F.store_ValueError.passes, by decide +kernel, by simp, rfl⟩
theorem fam_LE : Fam "LookupError" "LookupError.__new__" "LookupError.__init__" [.type "LookupError", .type "Exception", .type "BaseException", .type "object"] :=
  ⟨F.excBase_LookupError, fun self => by kernel_rfl, by decide +kernel, by simp, rfl⟩
theorem fam_OE : Fam "OverflowError" "OverflowError.__new__" "OverflowError.__init__" [.type "OverflowError", .type "ArithmeticError", .type "Exception", .type "BaseException", .type "object"] :=
  ⟨F.excBase_OverflowError, fun self => by kernel_rfl, by decide +kernel, by simp, rfl⟩
section
variable {prog : Program} {w : World} {A : Around} {E : Value → Shared → Prop} {R : Result → Shared → Prop} {hp : Heap} {g : Array GenState} {d : Drawn} {t : Nat} {os : OsState}
theorem exc_osaT (M : Fam B newId initId tail) {K : W.Frag} {name : Str} {tk : Tok} {v : Value} {x C : Addr} {fv : Array Value} {cd : ClassData}
    (X : K.In hp) (hx : hp.get? x = some { cls := .ref C, data := .fields fv }) (hcd : W.clsIn K C = some cd) (hm : refsT tail cd.mro = true) (hh : cd.hasDict = true) (ha : W.findIn K (.ref C) name = some none)
    (hq : ∀ h' tk' dx, (∀ b o, b ≠ x → hp.get? b = some o → h'.get? b = some o) → hp.objs.size ≤ dx → dx ≠ x → h'.get? x = some { cls := .ref C, dict := some dx, data := .fields fv } →
      h'.Ns1 dx (fun y => if y = name then some v else none) → R (.ok (.ret .none)) ⟨h', g, d, tk', os⟩) :
    codeAny (model prog w) A (.call (.builtin "object.__setattr__") ⟨[.ref x, .str name tk, v], []⟩) R ⟨hp, g, d, t, os⟩ := by
  have I : W.InstAt hp x { cls := .ref C, data := .fields fv } C none := ⟨hx, rfl, rfl, trivial⟩
  have SF := F.store_object
  have ne := refsT_ne M hm
  have hob : cd.mro.contains (.type "object") = true := (refsT_contains "object" _ hm).trans M.obj
  have hxs : x ≠ hp.objs.size := Nat.ne_of_lt (Heap.lt_size hx)
  have sub : W.Looks (model prog w) hp (isInstance (.ref x) (.type "object")) true := I.type.andThen (W.looks_mroIn X (by unfold W.mroIn; rw [hcd, Option.bind_some, if_neg (by rw [ne]; decide), hob]))
  refine codeAny_call_builtin SF.slot.plain SF.entry (@W.check_slot (model prog w) _ _ ⟨hp, g, d, t, os⟩ "object.__setattr__" "object" "__setattr__" (.ref x) [.str name tk, v] [] _ SF.kind SF.split sub (SF.args (.ref x) (.str name tk) v) ?_)
  have hmr : W.Looks (model prog w) hp (mroOf (.ref C)) cd.mro := (W.looks_clsIn X hcd).andThen .now
  have L3 : W.Looks (model prog w) hp (storeTaker? none) none := .now
  have hcls : W.Looks (model prog w) hp (classData C) cd := W.looks_clsIn X hcd
  rw [W.osa_eq, refuse_eq]
  refine wpAny_bind (wpAny_bind (I.type.at (wpAny_bind (hmr.at ?_))))
  rw [refsT_pass M _ _ hm]
  refine wpAny_pure (wpAny_bind (I.type.at (wpAny_bind ((W.looks_findIn X ha).at (wpAny_bind (L3.at ?_))))))
  show wpAny _ _ (storeInOwnDict (.ref x) (.ref C) (.str name tk) name v false) _ _ _
  obtain ⟨nm, bs, mro, ns, qn, hd, sn, sb, ab, col, del⟩ := cd
  dsimp only at hh
  subst hh
  unfold storeInOwnDict ownDictForStores
  repeat (first | with_reducible refine store_in_new ?_ ?_ | with_reducible refine wpAny_loadPart_at hx ?_ | with_reducible refine hcls.at ?_ | wp_step)
  · exact ⟨_, #[], _, (Heap.get?_update_ne _ _ _ _ hxs.symm).trans (Heap.get?_push_at rfl rfl), rfl, fun e he => absurd he (by simp), fun _ => rfl⟩
  · intro h' tk' hn' hs
    have hx₁ : (hp.push { cls := .type "dict", data := .dict #[] }).get? x = some { cls := .ref C, data := .fields fv } := Heap.get?_push_of_some _ hx
    refine hq h' tk' hp.objs.size (fun b o hb ho => ?_) (Nat.le_refl _) hxs.symm ?_ hn'
    · exact (hs.2 b (Nat.ne_of_lt (Heap.lt_size ho))).trans ((Heap.get?_update_ne _ _ _ _ hb).trans (Heap.get?_push_of_some _ ho))
    · exact (hs.2 x hxs).trans (Heap.get?_update_self _ hx₁ rfl)
variable {nm q : Str} {C N : Addr} {bs bm : List Value} {hdct : Bool} {sn : List Str} {sub : List Value} {ab : Bool} {col : Option Bool} {dd : Option Addr} {k0 k1 k2 k3 k5 : Option Value}
/-- the base's __init__: the arguments' new tuple is told -/
theorem init_baseM (F : ExcBaseFacts B newId initId tail) (hT : ∀ X : String, bm.contains (.type X) = tail.contains (.type X)) {e t0 : Addr} {rest : List Value} (hC : hp.get? C = some (excClassObj nm q C N bs bm hdct sn sub ab col dd k0 k1 k2 k3 k5 newId)) (he : hp.get? e = some (excO C t0)) (hrest : rest.length ≤ sizeLine)
    (hq : ∀ h' t1, (∀ b o, b ≠ e → hp.get? b = some o → h'.get? b = some o) → hp.objs.size ≤ t1 → t1 ≠ e → IsTup h' t1 rest.toArray → h'.get? e = some (excO C t1) → R (.ok (.ret .none)) ⟨h', g, d, t, os⟩) :
    codeAny (model prog w) A (.call (.builtin initId) ⟨.ref e :: rest, []⟩) R ⟨hp, g, d, t, os⟩ := by
  have ne : hp.objs.size ≠ e := Ne.symm (Nat.ne_of_lt (Heap.lt_size he))
  refine codeAny_call_builtin F.init.plain F.initEntry (check_init_own F hT hC he rfl ?_)
  wp_walk
  refine hq _ hp.objs.size (fun b o hb ho => ?_) (Nat.le_refl _) ne ?_ ?_
  · exact (Heap.get?_update_other _ _ (Ne.symm hb)).trans (Heap.get?_push_of_some _ ho)
  · exact ⟨_, (Heap.get?_update_other _ _ (Ne.symm ne)).trans (Heap.get?_push_at rfl rfl), rfl, _, rfl⟩
  · exact (Heap.get?_update_self _ (Heap.get?_push_of_some _ he) rfl)
/-- C(.., k = v, ..): __new__ lets the names by -/
theorem check_newK (F : ExcBaseFacts B newId initId tail) (hT : ∀ X : String, bm.contains (.type X) = tail.contains (.type X)) {rest : List Value} {kw : List (Str × Value)} {Q : Unit → Shared → Prop}
    (hC : hp.get? C = some (excClassObj nm q C N bs bm hdct sn sub ab col dd k0 k1 k2 k3 k5 newId)) (hq : Q () ⟨hp, g, d, t, os⟩) : wpAny (model prog w) A (checkBuiltinCall newId ⟨.ref C :: rest, kw⟩) Q E ⟨hp, g, d, t, os⟩ := by
  have hcont : (Value.ref C :: bm).contains (.type B) = true := by rw [List.contains_cons, hT, F.hasB, Bool.or_true]
  have hstar := F.noStar
  simp only [checkBuiltinCall, F.newKind, F.newSplit, F.newRow]
  repeat (first | refine wpAny_loadPart_at hC ?_ | (refine wpAny_isSubtype_exc hC ?_; rw [hcont]) | refine wpAny_staticBase_exc hC ?_ | refine wpAny_madeBy_exc hC ?_ | simp only [bne_self_eq_false, Bool.false_eq_true, if_false] | wp_step)
  exact hq
theorem newK (F : ExcBaseFacts B newId initId tail) (hT : ∀ X : String, bm.contains (.type X) = tail.contains (.type X)) {rest : List Value} {kw : List (Str × Value)} (hC : hp.get? C = some (excClassObj nm q C N bs bm hdct sn sub ab col dd k0 k1 k2 k3 k5 newId))
    (hq : R (.ok (.ret (.ref (hp.objs.size + 1)))) ⟨(hp.push (W.kdv_tup rest)).push (excO C hp.objs.size), g, d, t, os⟩) (hrest : rest.length ≤ sizeLine) : codeAny (model prog w) A (.builtin newId ⟨.ref C :: rest, kw⟩) R ⟨hp, g, d, t, os⟩ := by
  have hends := F.ends
  have hcB : (Value.ref C :: bm).contains (.type B) = true := by rw [List.contains_cons, hT, F.hasB, Bool.or_true]
  have hcA : (Value.ref C :: bm).contains (.type "AttributeError") = false := by rw [List.contains_cons, hT, F.noAttr] <;> rfl
  have hcN : (Value.ref C :: bm).contains (.type "NameError") = false := by rw [List.contains_cons, hT, F.noName] <;> rfl
  refine codeAny_builtinAt F.entry ?_
  unfold Builtin.«BaseException.__new__»
  refine wpAt_bind ?_
  show wpAt _ _ _ (stack >>= _) _ _ _
  refine wpAt_bind (wpAt_stack fun p below => wpAt_of_wpAny ?_)
  wp_walk
  refine wpAt_of_wpAny ?_
  rw [F.owner]
  repeat (first | with_reducible refine wpAny_madeHere_exc F.canon hC ?_ | with_reducible refine wpAny_loadPart_at hC ?_ | (with_reducible refine wpAny_isSubtype_exc hC ?_; first | rw [hcB] | rw [hcA] | rw [hcN]) | wp_step)
  show R _ _
  rw [Heap.size_push]
  exact hq
theorem type_callK (F : ExcBaseFacts B newId initId tail) (hT : ∀ X : String, bm.contains (.type X) = tail.contains (.type X)) {rest : List Value} {kw : List (Str × Value)} {fI : Addr} {Q : Fin → Shared → Prop} (hC : hp.get? C = some (excClassObj nm q C N bs bm hdct sn sub ab col dd k0 k1 k2 k3 k5 newId))
    (hi : W.Looks (model prog w) hp (typeLookup (.ref C) "__init__") (some (.ref fI))) (hb : ∀ self, W.Looks (model prog w) hp (bindSpecial (.ref fI) self) (.ref fI, [self])) (hrest : rest.length ≤ sizeLine)
    (hq : codeAny (model prog w) A (.call (.ref fI) ⟨.ref (hp.objs.size + 1) :: rest, kw⟩) (fun r s' => match r with | .ok (.ret v) => v = .none ∧ Q (.done (.ret (.ref (hp.objs.size + 1)))) s' | .ok _ => False | .error e => E e s') ⟨(hp.push (W.kdv_tup rest)).push (excO C hp.objs.size), g, d, t, os⟩) :
    wpAny (model prog w) A (Builtin.«type.__call__» ⟨.ref C :: rest, kw⟩) Q E ⟨hp, g, d, t, os⟩ := by
  repeat (first | with_reducible refine wpAny_loadPart_at hC ?_ | with_reducible refine wpAny_madeBy_exc hC ?_ | wp_step)
  refine codeAny_call_builtin_code (Code.quiet_builtin _ F.quiet) (check_newK F hT hC ?_)
  refine newK F hT hC ?_ hrest
  show wpAny _ _ _ _ _ _
  have k : ∀ b o, hp.get? b = some o → ((hp.push (W.kdv_tup rest)).push (excO C hp.objs.size)).get? b = some o := fun b o e => Heap.get?_push_of_some _ (Heap.get?_push_of_some _ e)
  have hC₁ := k _ _ hC
  have hget : ((hp.push (W.kdv_tup rest)).push (excO C hp.objs.size)).get? (hp.objs.size + 1) = some (excO C hp.objs.size) := by heap_get
  have hcC : (Value.ref C :: bm).contains (.ref C) = true := by simp
  have i1 := hi.keeps k
  have b1 := (hb (.ref (hp.objs.size + 1))).keeps k
  unfold isInstance
  repeat (first | with_reducible refine wpAny_loadPart_at hget ?_ | (with_reducible refine wpAny_isSubtype_exc hC₁ ?_; rw [hcC]) | wp_step)
  show wpAny _ _ (typeLookup (.ref C) _) _ _ _
  refine i1.at (wpAny_holding (wpAny_bind (b1.at (wpAny_bind (wpAny_call (codeAny_mono hq fun r s' z => ?_))))))
  cases r with
  | error e => exact z
  | ok fl =>
    cases fl with
    | ret v =>
      obtain ⟨rfl, z⟩ := z
      first
        | exact wpAny_pure (wpAny_pure z)
        | (wp_walk; exact z)
    | next => exact z.elim
    | brk => exact z.elim
    | cont => exact z.elim
theorem call_ownK (F : ExcBaseFacts B newId initId tail) (hT : ∀ X : String, bm.contains (.type X) = tail.contains (.type X)) {rest : List Value} {kw : List (Str × Value)} {fI : Addr} (hC : hp.get? C = some (excClassObj nm q C N bs bm hdct sn sub ab col dd k0 k1 k2 k3 k5 newId))
    (hi : W.Looks (model prog w) hp (typeLookup (.ref C) "__init__") (some (.ref fI))) (hb : ∀ self, W.Looks (model prog w) hp (bindSpecial (.ref fI) self) (.ref fI, [self])) (hrest : rest.length ≤ sizeLine)
    (hq : codeAny (model prog w) (A.under (.builtin "type.__call__" ⟨.ref C :: rest, kw⟩)) (.call (.ref fI) ⟨.ref (hp.objs.size + 1) :: rest, kw⟩) (W.InitBack (hp.objs.size + 1) R) ⟨(hp.push (W.kdv_tup rest)).push (excO C hp.objs.size), g, d, t, os⟩) :
    codeAny (model prog w) A (.call (.ref C) ⟨rest, kw⟩) R ⟨hp, g, d, t, os⟩ := by
  have f1 := tc_lookup
  have f2 := tc_bind (.ref C)
  have hTy : (⟨hp, g, d, t, os⟩ : Shared).TypeIs (.ref C) "type" := ⟨_, hC, rfl⟩
  refine codeAny_of_tree ?_
  show wpAny _ _ (callAny (.ref C) _) _ _ _
  repeat (any_goals (first | assumption | with_reducible refine wpAny_loadPart_at hC ?_ | wp_step))
  refine ⟨rfl, ?_⟩
  refine codeAny_call_builtin_at (Code.quiet_builtin _ (by decide +kernel)) entry_typeCall (wpAny_check_type_call_sub hC (type_callK F hT hC hi hb hrest ?_))
  exact codeAny_mono hq fun r s' z => by
    cases r with
    | error e => exact z
    | ok fl => cases fl <;> exact z
end
end FxE
end PySem


set_option Elab.async false
set_option linter.all false
set_option maxRecDepth 100000
set_option maxHeartbeats 4000000
/-! Fx10: an exception of an own class is made, with one field that its __init__ keeps; it is data. -/
namespace Fx
open PySem PySem.Spec PyProof.Rows L2 Evl
/-- what the written part says of an exception's class -/
structure ExC (K : PySem.W.Frag) (C : Addr) (tail : List Value) (newId : String) : Prop where
  cls : ∃ nm q N bs bm sn sub ab col dd k0 k1 k2 k3 k5, K.lookup C = some (excClassObj nm q C N bs bm true sn sub ab col dd k0 k1 k2 k3 k5 newId) ∧ PySem.FxE.refsT tail bm = true
  sa : PySem.W.findIn K (.ref C) "__setattr__" = some (some (.builtin "object.__setattr__"))
  exC : PySem.W.subIn K (.ref C) (.type "BaseException") = some true
  tyC : PySem.W.typeIn K (.ref C) = some (.type "type")
  kC : PySem.W.keepIn K (.ref C) = true
theorem ext_own {φ : Heap → Prop} {x : Addr} : HO.ext φ ≠ .own x := nofun
theorem ext_tup {φ : Heap → Prop} {xs : List V} : HO.ext φ ≠ .tup xs := nofun
theorem ext_frz {φ : Heap → Prop} {o : Obj} {u : HO} : HO.ext φ ≠ .frz o u := nofun
theorem ext_tbl {φ : Heap → Prop} {ps : Array Value} : HO.ext φ ≠ .tbl ps := nofun
section
variable {P : Program} {w : World} {H : Hp} {h : Heap} {a C t : Addr} {d : Option Addr}
theorem exi_ok (he : h.get? a = some ({ cls := .ref C, dict := d, data := .fields #[.ref t, .none, .none, .none, .bool false, .none] } : Obj)) : ObjOk P w H h a (exi a C t d) := ⟨he, ⟨_, he⟩, fun h1 h2 z k => k _ z⟩
theorem exi_at (hok : HOk P w H h) (he : H a = some (exi a C t d)) : h.get? a = some ({ cls := .ref C, dict := d, data := .fields #[.ref t, .none, .none, .none, .bool false, .none] } : Obj) := by
  have x : ObjOk P w H h a (.ext fun h => h.get? a = some ({ cls := .ref C, dict := d, data := .fields #[.ref t, .none, .none, .none, .bool false, .none] } : Obj)) := hok a _ he
  exact x.1
theorem exv_ok {vs : Array Value} {oe : Obj} (he : h.get? a = some oe) (h1 : oe.cls = .ref C) (h2 : oe.dict = d) (h3 : oe.data = .fields vs) (h4 : vs[0]? = some (.ref t)) : ObjOk P w H h a (exv a C t d) :=
  ⟨⟨oe, vs, he, h1, h2, h3, h4⟩, ⟨_, he⟩, fun _ _ ⟨o, us, z, z1, z2, z3, z4⟩ k => ⟨o, us, k _ z, z1, z2, z3, z4⟩⟩
theorem exv_at (hok : HOk P w H h) (he : H a = some (exv a C t d)) : ∃ (oe : Obj) (vs : Array Value), h.get? a = some oe ∧ oe.cls = .ref C ∧ oe.dict = d ∧ oe.data = .fields vs ∧ vs[0]? = some (.ref t) := by
  have x : ObjOk P w H h a (.ext fun h => ∃ (oe : Obj) (vs : Array Value), h.get? a = some oe ∧ oe.cls = .ref C ∧ oe.dict = d ∧ oe.data = .fields vs ∧ vs[0]? = some (.ref t)) := hok a _ he
  exact x.1
end
section
variable {B newId initId : String} {tail : List Value} {X : Cx} {pins : List (Addr × Obj)} {σ : L2.St} {H : Hp} {s : Shared} {a C t1 : Addr} {f : Str} {y : V} {u : Value} {A : Around} {E : Value → Shared → Prop}
/-- the exception at a changes, one new object stands at b -/
theorem inv_two {h' : Heap} {t' : Nat} {b : Addr} {oa ob : HO} (I : Inv X pins σ H s) {φ : Heap → Prop} (e : H a = some (.ext φ)) (nb : s.heap.objs.size ≤ b) (ne : b ≠ a) (k : ∀ c o, c ≠ a → s.heap.get? c = some o → h'.get? c = some o) (hx : ∃ o, h'.get? a = some o)
    (na : ObjOk X.prog X.w (upd (upd H b ob) a oa) h' a oa) (nob : ObjOk X.prog X.w (upd (upd H b ob) a oa) h' b ob) : Inv X pins σ (upd (upd H b ob) a oa) { s with heap := h', toks := t' } := by
  obtain ⟨hp, g, d, t, os⟩ := s
  have hnd : H b = none := I.hok.fresh nb
  have nd : ∀ {c : Addr} {o : Obj}, hp.get? c = some o → c ≠ b := fun {c o} q => Nat.ne_of_lt (Nat.lt_of_lt_of_le (Heap.lt_size q) nb)
  have nn : ∀ {c : Addr}, H c = none → c ≠ a := fun {c} n z => by
    rw [z, e] at n
    cases n
  have U : Un X.fs [] H (upd (upd H b ob) a oa) hp h' := {
    keep := fun c o q n _ _ => k c o (nn n) q
    slot := fun c o q n _ _ => ⟨o.slots, k c o (nn n) q⟩
    free := fun c o q n _ => by rw [upd_ne (nn n), upd_ne (nd q)]; exact n
    there := fun c o q _ => by
      by_cases hb : c = a
      · rw [hb]; exact hx
      · exact ⟨o, k c o hb q⟩
    tups := fun c xs q => by rw [upd_ne (at_ne e q ext_tup), upd_ne (ne_of_none q hnd)]; exact q
    frzs := fun c o v q => by rw [upd_ne (at_ne e q ext_frz), upd_ne (ne_of_none q hnd)]; exact q
    tbls := fun c ps q => ⟨#[], by rw [upd_ne (at_ne e q ext_tbl), upd_ne (ne_of_none q hnd), q]; simp⟩ }
  refine I.un (t' := t') U fun c o q => ?_
  by_cases hb : c = a
  · subst hb
    rw [upd_same] at q
    cases q
    exact na
  · rw [upd_ne hb] at q
    by_cases hd : c = b
    · subst hd
      rw [upd_same] at q
      cases q
      exact nob
    · rw [upd_ne hd] at q
      refine (I.hok c o q).stay (fun i v hc z => k i v ?_ z) (fun i hc => ?_) fun i xs hc => ?_
      · rcases hc with hc | hc
        · rw [hc]
          exact hb
        · exact at_ne e hc ext_own
      · rw [upd_ne (at_ne e hc ext_own), upd_ne (ne_of_none hc hnd)]
        exact hc
      · rw [upd_ne (at_ne e hc ext_tup), upd_ne (ne_of_none hc hnd)]
        exact hc
theorem ost_newT {Q : Unit → Shared → Prop} (M : PySem.FxE.Fam B newId initId tail) (T : ExC X.K C tail newId) (I : Inv X pins σ H s) (e : H a = some (exi a C t1 none)) (hno : PySem.W.findIn X.K (.ref C) f = some none) (ry : RelV y u)
    (h : ∀ dx s', H dx = none → dx ≠ a → Inv X pins σ (upd (upd H dx (exd dx [(f, y)])) a (exv a C t1 (some dx))) s' → Q () s') : wpAny (model X.prog X.w) A (setAttr (.ref a) f u) Q E s := by
  obtain ⟨nm, q, N, bs, bm, sn, sub, ab, col, dd, k0, k1, k2, k3, k5, hC, hbm⟩ := T.cls
  have hcl : PySem.W.clsIn X.K C = some { name := nm, bases := bs, mro := .ref C :: bm, ns := N, qualname := q, hasDict := true, slotNames := sn, subclasses := sub, abstract := ab, collection := col, hasDel := false } := by unfold PySem.W.clsIn; rw [hC] <;> rfl
  have ho := exi_at I.hok e
  obtain ⟨hp, g, d, t, os⟩ := s
  refine PySem.W.set_plain I.kIn (ox := { cls := .ref C, dict := none, data := .fields #[.ref t1, .none, .none, .none, .bool false, .none] }) (od := none) ⟨ho, rfl, rfl, trivial⟩ T.sa ?_
  refine PySem.FxE.exc_osaT M I.kIn ho hcl (show PySem.FxE.refsT tail (.ref C :: bm) = true from hbm) rfl hno (fun h' tk' dx k dn dne hx hn => ?_)
  exact h dx _ (I.hok.fresh dn) dne (inv_two I e dn dne k ⟨_, hx⟩ (exv_ok hx rfl rfl rfl rfl) (exd_ok hn (relO_put (fs := []) ry fun g => True.intro)))
theorem oinit_okT {us : List Value} {vs : List V} {Q : Value → Shared → Prop} (M : PySem.FxE.Fam B newId initId tail) (T : ExC X.K C tail newId) (I : Inv X pins σ H s) (e : H a = some (exi a C t1 none)) (r : Vals vs us) (hl : us.length ≤ sizeLine)
    (h : ∀ t s', H t = none → t ≠ a → Inv X pins σ (upd (upd H t (.tup vs)) a (exi a C t none)) s' → Q .none s') :
    wpAny (model X.prog X.w) A (call (.builtin initId) (.ref a :: us)) Q E s := by
  obtain ⟨nm, q, N, bs, bm, sn, sub, ab, col, dd, k0, k1, k2, k3, k5, hC, hbm⟩ := T.cls
  have ho := exi_at I.hok e
  obtain ⟨hp, g, d, t, os⟩ := s
  refine wpAny_call (PySem.FxE.init_baseM M.base (fun Y => PySem.FxE.refsT_contains Y bm hbm) (I.kIn _ _ hC) ho hl fun h' t2 k hn ne ht hx => ?_)
  exact h t2 _ (I.hok.fresh hn) ne (inv_two (t' := t) I e hn ne k ⟨_, hx⟩ (exi_ok hx) ⟨by rw [r.length]; exact hl, us, r, ht⟩)
end

/-- Base.__init__(self, ..) -/
def tIni (K : PySem.W.Frag) (tail : List Value) (newId : String) (ta : TA) : TE := fun σ H Q => ta σ H fun vs H1 => ∃ (a C t0 : Addr) (ws : List V), vs = .ref a :: ws ∧ ws.length ≤ 1000 ∧ ExC K C tail newId ∧ H1 a = some (exi a C t0 none) ∧
  ∀ t, H1 t = none → t ≠ a → Q .non (upd (upd H1 t (.tup ws)) a (exi a C t none))
/-- self.f = e, the first field -/
def tOstT (K : PySem.W.Frag) (tail : List Value) (newId : String) (f : Str) (to te : TE) : TS := fun D σ H => te σ H fun y H1 => to σ H1 fun x H2 => ∃ a C t : Addr, x = .ref a ∧ ExC K C tail newId ∧ PySem.W.findIn K (.ref C) f = some none ∧
  H2 a = some (exi a C t none) ∧ ∀ dx, H2 dx = none → dx ≠ a → D.nx σ (upd (upd H2 dx (exd dx [(f, y)])) a (exv a C t (some dx)))
section
variable {B newId initId : String} {tail : List Value} {X : Cx} {o e : Expr} {es : List Expr} {to te : TE} {ta : TA} {f x : Str} {p p' p1 p2 pos : Pos}
theorem ini_args {pins : List (Addr × Obj)} {σ : L2.St} {H : Hp} {s1 : Shared} {Q : VK} (M : PySem.FxE.Fam B newId initId tail) {vs : List V} {us : List Value} (I1 : Inv X pins σ H s1) (r1 : Vals vs us)
    (h : ∃ (a C t0 : Addr) (ws : List V), vs = .ref a :: ws ∧ ws.length ≤ 1000 ∧ ExC X.K C tail newId ∧ H a = some (exi a C t0 none) ∧ ∀ t, H t = none → t ≠ a → Q .non (upd (upd H t (.tup ws)) a (exi a C t none))) :
    wpAny (model X.prog X.w) X.A (call (.builtin initId) us) (EP X pins σ Q) X.xe s1 := by
  obtain ⟨a, C, t0, ws, ev, hl, T, ea, q⟩ := h
  subst ev
  cases r1 with
  | @cons _ u0 _ ur ra rw' =>
    obtain rfl : u0 = Value.ref a := ra
    have hlen : ur.length ≤ sizeLine := by
      rw [← Paired.length rw', sizeLine_eq]
      omega
    exact oinit_okT M T I1 ea rw' hlen fun t s' hn ne J => ⟨.non, _, J, rfl, q t hn ne⟩
/-- Own.__init__(self, ..), Own a class of the text that has a built-in class's __init__ -/
theorem pe_initO {S : Addr} {pl : Sem Bool} (M : PySem.FxE.Fam B newId initId tail) (hg : Gl X x) (hm : X.mg x = some (.ref S)) (sg : PySem.W.specialIn X.K (.ref S) "__getattribute__" = some (some (.builtin "type.__getattribute__"))) {mc : Value} (tm : PySem.W.typeIn X.K (.ref S) = some mc) (hr : PySem.W.readsIn X.K S mc = true)
    (vV : PySem.W.findCls X.K (.ref S) mc "__init__" = some (.val (.builtin initId))) (ha : PA X (e :: es) ta) (hdb : (x == ("__debug__" : Str)) = false := by decide)
    (hc : eval (.Call (.Attribute (.Name x p1) "__init__" p2) (e :: es) [] pos) X.env = (do
      let ov ← eval (.Name x p1) X.env
      standAt p2.atName
      let (f, first) ← holding [ov] (getMethod ov "__init__" pl)
      callWith pos f first (backTo pos (starEach (e :: es) X.env)) (backToKw pos (keywordEach [] X.env))) := by rfl)
    (he : starEach (e :: es) X.env = (false, eval e X.env) :: starEach es X.env := by rfl) (hpl : (backTo pos (starEach es X.env)).any (·.1) = false := by rfl) :
    PE X (.Call (.Attribute (.Name x p1) "__init__" p2) (e :: es) [] pos) (tIni X.K tail newId ta) := by
  refine ⟨fun pins s σ H Q I h => ?_⟩
  refine PySem.W.methodCall_KW (ld_glob I hg hm ?_ hdb) hc
  refine PySem.W.method_cls I.kIn sg (PySem.W.cls_value I.kIn hr vV M.hand ?_)
  show wpAny _ _ (callWith pos (Value.builtin initId) [] (backTo pos (starEach (e :: es) X.env)) []) _ _ _
  exact PyProof.Rows.callWith_method1 (thn (ha.run pos pins _ σ H _ (I.tok _) h) fun us s1 ⟨vs, H1, I1, r1, q⟩ => ini_args M I1 r1 q) he hpl
/-- B.__init__(self, ..), B the built-in class -/
theorem pe_initB {T : String} {pl : Sem Bool} (M : PySem.FxE.Fam B newId initId tail) (hg : Gl X x) (hm : X.mg x = none) (hv : bootBuiltins x = some (.type T)) (ht : typeOf (.type T) = pure (.type "type")) (hst : Manifest.isStub T = false)
    (vV : PySem.W.findCls X.K (.type T) (.type "type") "__init__" = some (.val (.builtin initId))) (ha : PA X (e :: es) ta) (hn : x ≠ "__name__" := by decide) (hdb : (x == ("__debug__" : Str)) = false := by decide)
    (hc : eval (.Call (.Attribute (.Name x p1) "__init__" p2) (e :: es) [] pos) X.env = (do
      let ov ← eval (.Name x p1) X.env
      standAt p2.atName
      let (f, first) ← holding [ov] (getMethod ov "__init__" pl)
      callWith pos f first (backTo pos (starEach (e :: es) X.env)) (backToKw pos (keywordEach [] X.env))) := by rfl)
    (he : starEach (e :: es) X.env = (false, eval e X.env) :: starEach es X.env := by rfl) (hpl : (backTo pos (starEach es X.env)).any (·.1) = false := by rfl) :
    PE X (.Call (.Attribute (.Name x p1) "__init__" p2) (e :: es) [] pos) (tIni X.K tail newId ta) := by
  refine ⟨fun pins s σ H Q I h => ?_⟩
  refine PySem.W.methodCall_KW (ld_blt I hg hm hv ?_ hn hdb) hc
  obtain ⟨m, fr⟩ := I.fr
  refine PySem.W.method_type fr I.ok.mod.kin ht hst vV M.hand ?_
  show wpAny _ _ (callWith pos (Value.builtin initId) [] (backTo pos (starEach (e :: es) X.env)) []) _ _ _
  exact PyProof.Rows.callWith_method1 (thn (ha.run pos pins _ σ H _ (I.tok _) h) fun us s1 ⟨vs, H1, I1, r1, q⟩ => ini_args M I1 r1 q) he hpl
theorem ps_ostT (M : PySem.FxE.Fam B newId initId tail) (ho : PE X o to) (he : PE X e te) (hs : swapsWith e (some (.Attribute o f p')) pos.line X.env = pure false := by rfl) : PS X (.Assign [.Attribute o f p'] e pos) (tOstT X.K tail newId f to te) := by
  refine ⟨fun pins s σ H D I h => ?_⟩
  refine plainObj_wpAny_Assign_Attribute (thn (he.run pins s σ H _ I h) fun v s1 ⟨y, H1, I1, r1, q1⟩ => thn (ho.run pins s1 σ H1 _ I1 q1) fun u s2 ⟨x, H2, I2, r2, a, C, t, ex, T, hno, ea, q⟩ => ?_) hs
  subst ex
  obtain rfl : u = Value.ref a := r2
  exact ost_newT M T I2 ea hno r1 fun dx s' n ne J => ⟨σ, _, J, q dx n ne⟩
end
/-! ### the promise of such an __init__ -/
def spInit (C : Addr) (f m : Str) : Sp := fun vs H Q _ => ∃ a v t0, vs = [.ref a, v] ∧ H a = some (exi a C t0 none) ∧
  ∀ t dx, H t = none → H dx = none → t ≠ a → dx ≠ a → dx ≠ t → Q .non (upd (upd (upd H t (.tup [.str m])) dx (exd dx [(f, v)])) a (exv a C t (some dx)))
/-- Base.__init__(self, m); self.f = value -/
theorem ini_body {X : Cx} {B newId initId : String} {tail : List Value} {C : Addr} {f m vn : Str} {j : Nat} {c1 : Expr} {ps1 ps2 ps3 ps4 ps5 ps6 ps7 : Pos} {Q : VK} {vs : List V} {H : Hp} {E : XK} (M : PySem.FxE.Fam B newId initId tail) (T : ExC X.K C tail newId) (hno : PySem.W.findIn X.K (.ref C) f = some none)
    (hN : X.N = [("self" : Str), vn]) (hv : Vis X.env.scope "self") (hv2 : Vis X.env.scope vn) (hd2 : (vn == ("__debug__" : Str)) = false) (hcd2 : (vn == ("__classdict__" : Str)) = false)
    (hc : ∀ ta, PA X [.Name "self" ps1, .Constant (.str m) j ps2] ta → PE X c1 (tIni X.K tail newId ta)) (hs : swapsWith c1 none ps3.line X.env = pure false)
    (hs2 : swapsWith (.Name vn ps4) (some (.Attribute (.Name "self" ps5) f ps6)) ps7.line X.env = pure false)
    (hst : starEach [.Name "self" ps1, .Constant (.str m) j ps2] X.env = (false, eval (.Name "self" ps1) X.env) :: starEach [.Constant (.str m) j ps2] X.env) (hst2 : starEach [.Constant (.str m) j ps2] X.env = (false, eval (.Constant (.str m) j ps2) X.env) :: starEach [] X.env)
    (h : spInit C f m vs H Q E) : ∃ t, PSs X [.Expr c1 ps3, .Assign [.Attribute (.Name "self" ps5) f ps6] (.Name vn ps4) ps7] t ∧ t { nx := fun _ H' => Q .non H', rt := Q } (L2.start X.N vs) H := by
  have v0 : PE X (.Name "self" ps1) _ := pe_var (i := 0) (by rw [hN]; rfl) hv
  have v0' : PE X (.Name "self" ps5) _ := pe_var (i := 0) (by rw [hN]; rfl) hv
  have v1 : PE X (.Name vn ps4) _ := pe_var (i := 1) (by rw [hN]; rfl) hv2 hd2 hcd2
  refine ⟨_, pss_cons (ps_expr (hc _ (pa_cons v0 (pa_cons pe_str pa_nil hst2) hst)) hs) (pss_one (ps_ostT (X := X) M v0' v1 hs2)), ?_⟩
  obtain ⟨a, v, t0, rfl, ha, k⟩ := h
  rw [hN]
  refine ⟨_, rfl, a, C, t0, _, rfl, (by show 1 ≤ 1000; decide), T, ha, fun t ht nt => ?_⟩
  refine ⟨_, rfl, _, rfl, a, C, t, rfl, T, hno, upd_same, fun dx hdx nd => ?_⟩
  have ndt : dx ≠ t := fun z => by
    subst z
    rw [upd_ne nt, upd_same] at hdx
    cases hdx
  have hdx0 : H dx = none := by
    rw [upd_ne nd, upd_ne ndt] at hdx
    exact hdx
  have eH : upd (upd (upd (upd H t (.tup [.str m])) a (exi a C t none)) dx (exd dx [(f, v)])) a (exv a C t (some dx)) = upd (upd (upd H t (.tup [.str m])) dx (exd dx [(f, v)])) a (exv a C t (some dx)) := by
    funext b
    by_cases hb : b = a
    · subst hb; rw [upd_same, upd_same]
    · rw [upd_ne hb, upd_ne hb]
      by_cases hd : b = dx
      · subst hd; rw [upd_same, upd_same]
      · rw [upd_ne hd, upd_ne hd, upd_ne hb]
  show Q .non _
  rw [eH]
  exact k t dx ht hdx0 nt nd ndt
end Fx

set_option Elab.async false
set_option linter.all false
set_option maxRecDepth 100000
set_option maxHeartbeats 4000000
/-! Fx11: C(..) of an own exception as data; its field, its class, its text. -/
namespace Fx
open PySem PySem.Spec PyProof.Rows L2 Evl
/-- the data of an exception -/
def instD (C : Addr) (m : PyData) (f : Str) (x : D) : D := .dict [(.int C, m), (.str f, x)]
/-- what stands behind C(..) -/
def Made (C : Addr) (f m : Str) (v : V) (H : Hp) (Q : VK) : Prop := ∀ a t dx, H a = none → H t = none → H dx = none → t ≠ a → dx ≠ a → dx ≠ t → Q (.ref a) (upd (upd (upd H t (.tup [.str m])) dx (exd dx [(f, v)])) a (exv a C t (some dx)))
section
variable {B newId initId : String} {tail : List Value} {X : Cx} {C fI : Addr} {f m : Str} {k : Nat} {fd : FuncData} {ps : List Str} {Q : VK}
theorem run_mk {pins : List (Addr × Obj)} {σ : L2.St} {H : Hp} {s : Shared} {us : List Value} {kw : List (Str × Value)} {v : V} {u : Value} (M : PySem.FxE.Fam B newId initId tail) (T : ExC X.K C tail newId) (iC : PySem.W.findIn X.K (.ref C) "__init__" = some (some (.ref fI))) (tI : PySem.W.typeIn X.K (.ref fI) = some (.type "function"))
    (F1 : FnG X.prog X.w X.K X.mg X.base k fI fd ps (spInit C f m)) (hr : Room (k + 1) X.A) (hgd : X.A.guards = some []) (I : Inv X pins σ H s) (hl : us.length ≤ sizeLine) (hb : ∀ (s' : Shared) (self : Value), X.K.In s'.heap → BindsTo s' fd ⟨self :: us, kw⟩ (ps.zip [self, u])) (ru : RelV v u) (q : Made C f m v H Q) :
    wpAny (model X.prog X.w) X.A (call (.ref C) us kw) (EP X pins σ Q) X.xe s := by
  obtain ⟨nm, qn, N, bs, bm, sn, sub, ab, col, dd, k0, k1, k2, k3, k5, hC, hbm⟩ := T.cls
  obtain ⟨hp, g, dr, tk, os⟩ := s
  have hsz : hp.objs.size ≤ hp.objs.size + 1 := Nat.le_succ _
  have hn : H (hp.objs.size + 1) = none := I.hok.fresh hsz
  have kk : ∀ b o, hp.get? b = some o → ((hp.push (PySem.W.kdv_tup us)).push (PySem.HandSPX.excO C hp.objs.size)).get? b = some o := fun b o e => Heap.get?_push_of_some _ (Heap.get?_push_of_some _ e)
  have hget : ((hp.push (PySem.W.kdv_tup us)).push (PySem.HandSPX.excO C hp.objs.size)).get? (hp.objs.size + 1) = some (PySem.HandSPX.excO C hp.objs.size) := by heap_get
  have I2 : Inv X pins σ (upd H (hp.objs.size + 1) (exi (hp.objs.size + 1) C hp.objs.size none)) ⟨(hp.push (PySem.W.kdv_tup us)).push (PySem.HandSPX.excO C hp.objs.size), g, dr, tk, os⟩ :=
    I.laid (t' := tk) (a := hp.objs.size + 1) (o := exi (hp.objs.size + 1) C hp.objs.size none) (h' := (hp.push (PySem.W.kdv_tup us)).push (PySem.HandSPX.excO C hp.objs.size)) kk hsz (exi_ok hget)
  have r2 : Vals [V.ref (hp.objs.size + 1), v] [Value.ref (hp.objs.size + 1), u] := .cons rfl (.cons ru .nil)
  have hq : spInit C f m [V.ref (hp.objs.size + 1), v] (upd H (hp.objs.size + 1) (exi (hp.objs.size + 1) C hp.objs.size none)) (fun v' H2 => v' = .non ∧ Q (.ref (hp.objs.size + 1)) H2) (fun _ _ _ => False) := by
    refine ⟨_, v, _, rfl, upd_same, fun t dx ht hdx nt nd ndt => ⟨rfl, ?_⟩⟩
    rw [upd_ne nt] at ht
    rw [upd_ne nd] at hdx
    have eH : upd (upd (upd (upd H (hp.objs.size + 1) (exi (hp.objs.size + 1) C hp.objs.size none)) t (.tup [.str m])) dx (exd dx [(f, v)])) (hp.objs.size + 1) (exv (hp.objs.size + 1) C t (some dx)) = upd (upd (upd H t (.tup [.str m])) dx (exd dx [(f, v)])) (hp.objs.size + 1) (exv (hp.objs.size + 1) C t (some dx)) := by
      funext b
      by_cases hb : b = hp.objs.size + 1
      · subst hb; rw [upd_same, upd_same]
      · rw [upd_ne hb, upd_ne hb]
        by_cases hd : b = dx
        · subst hd; rw [upd_same, upd_same]
        · rw [upd_ne hd, upd_ne hd]
          by_cases ht : b = t
          · subst ht; rw [upd_same, upd_same]
          · rw [upd_ne ht, upd_ne ht, upd_ne hb]
    rw [eH]
    exact q _ t dx hn ht hdx nt nd ndt
  refine wpAny_call (PySem.FxE.call_ownK M.base (fun Y => PySem.FxE.refsT_contains Y bm hbm) (I.kIn _ _ hC) (PySem.W.looks_findIn I.kIn iC) (fun self => PySem.W.bind_fn I.kIn self tI) hl
    (codeAny_mono (F1.run _ X.stack _ _ ⟨Value.ref (hp.objs.size + 1) :: us, kw⟩ [Value.ref (hp.objs.size + 1), u] _ _ (fun _ _ _ => False) (hr.make C us kw) (by first | exact hgd | rfl | (rw [← hgd]; rfl)) (I2.env0.make C us kw) (hb _ _ I2.kIn) r2 hq) fun r s' hq' => ?_))
  cases r with
  | error er =>
    obtain ⟨_, _, _, _, _, _, _, _, _, _, _, _, z⟩ := hq'
    exact z.elim
  | ok fl =>
    cases fl with
    | ret u =>
      obtain ⟨v', H', I3, rv, ev, q3⟩ := I2.after hq'
      subst ev
      exact ⟨rv, ⟨V.ref (hp.objs.size + 1), H', I3, rfl, q3⟩⟩
    | next => exact False.elim hq'
    | brk => exact False.elim hq'
    | cont => exact False.elim hq'
end
section
variable {B newId initId : String} {tail : List Value} {X : Cx} {W : Wi} {C fI : Addr} {f m x : Str} {k : Nat} {fd : FuncData} {ps : List Str} {p pos kpos : Pos} {a : Expr} {ma : M D}
theorem inst_new {K : PySem.W.Frag} {mg : Str → Option Value} {g : Gd} {G H : Hp} {σ : L2.St} {e : En} {v : V} {d : D} {Q : VK} (rl : Rel K g G H σ e) (h : DR K G v d) (q : Post K mg W (DR K) g G σ Q (M.ret (instD C (.str m) f d) e)) : Made C f m v H Q := by
  intro a t dx na nt nd ht hd hdt
  have gt : G t = none := fresh_back rl.gh nt
  have gd : G dx = none := fresh_back rl.gh nd
  have ga : G a = none := fresh_back rl.gh na
  have r1 := rl.new (o := .tup [.str m]) nt
  have r2 := r1.new (p := dx) (o := exd dx [(f, v)]) (by rw [upd_ne hdt]; exact nd)
  have r3 := r2.new (p := a) (o := exv a C t (some dx)) (by rw [upd_ne hd.symm, upd_ne ht.symm]; exact na)
  have e3 : Ex G (upd (upd (upd G t (.tup [.str m])) dx (exd dx [(f, v)])) a (exv a C t (some dx))) :=
    ((Ex.new gt).trans (Ex.new (by rw [upd_ne hdt]; exact gd))).trans (Ex.new (by rw [upd_ne hd.symm, upd_ne ht.symm]; exact ga))
  exact q _ _ _ e3 r3 (.inst upd_same (by rw [upd_ne hd, upd_same]) (show _ = _ by rw [upd_ne ht, upd_ne hdt.symm, upd_same]) (h.up e3))
/-- C(e) -/
theorem fe_mk {vn : Str} (M : PySem.FxE.Fam B newId initId tail) (T : ExC X.K C tail newId) (iC : PySem.W.findIn X.K (.ref C) "__init__" = some (some (.ref fI))) (tI : PySem.W.typeIn X.K (.ref fI) = some (.type "function"))
    (F1 : FnG X.prog X.w X.K X.mg X.base k fI fd ["self", vn] (spInit C f m)) (hr : Room (k + 1) X.A) (hgd : X.A.guards = some []) (hb : Binds X.K fd ["self", vn] []) (hg : Gl X x) (hm : X.mg x = some (.ref C)) (ha : FE X W a ma)
    (hdb : (x == ("__debug__" : Str)) = false := by decide) (he : starEach (a :: []) X.env = (false, eval a X.env) :: starEach [] X.env := by rfl) (hpl : (backTo pos (starEach [] X.env)).any (·.1) = false := by rfl) :
    FE X W (.Call (.Name x p) [a] [] pos) (m1 ma fun d => some (instD C (.str m) f d)) := by
  refine ⟨fun pins s σ H Q I h => ?_⟩
  obtain ⟨g, G, e, ig, rl, q⟩ := h
  refine wpAny_Call_Name_kw (ld_glob I hg hm ?_ hdb)
  refine PySem.W.callWith_K (h₀ := X.base) I.ok.mod.kin T.kC (thn ((pa_cons ha pa_nil he).run pos pins s σ H (fun vs H1 => ∃ v, vs = [v] ∧ Made C f m v H1 Q) I ?_) fun us s1 ⟨vs, H1, I1, r1, v, ev, q1⟩ => ⟨I1.kIn, ?_⟩) he hpl
  · exact ⟨g, G, e, ig, rl, bindP q fun G1 H1 e1 d v eg r1 rv q1 => ⟨v, rfl, inst_new r1 rv q1⟩⟩
  · subst ev
    cases r1 with
    | @cons _ u0 _ ur ra rw' =>
      cases rw'
      exact run_mk M T iC tI F1 hr hgd I1 (by rw [sizeLine_eq]; simp) (fun s' self hk => by simpa using hb s' [self, u0] hk rfl) ra q1
/-- C(k = e) -/
theorem fe_mkK {vn : Str} {kn : Str} (M : PySem.FxE.Fam B newId initId tail) (T : ExC X.K C tail newId) (iC : PySem.W.findIn X.K (.ref C) "__init__" = some (some (.ref fI))) (tI : PySem.W.typeIn X.K (.ref fI) = some (.type "function"))
    (F1 : FnG X.prog X.w X.K X.mg X.base k fI fd ["self", vn] (spInit C f m)) (hr : Room (k + 1) X.A) (hgd : X.A.guards = some []) (hb : ∀ (s' : Shared) (self u : Value), X.K.In s'.heap → BindsTo s' fd ⟨[self], [(kn, u)]⟩ [("self", self), (vn, u)]) (hg : Gl X x) (hm : X.mg x = some (.ref C)) (ha : FE X W a ma)
    (hall : (backToKw pos (keywordEach [⟨some kn, a, kpos⟩] X.env)).all (·.1.isSome) = true := by rfl) (hks : (backToKw pos (keywordEach [⟨some kn, a, kpos⟩] X.env)).filterMap (·.1) = [kn] := by rfl) (hdb : (x == ("__debug__" : Str)) = false := by decide)
    (hpl : ((backTo pos (starEach [] X.env)).any (·.1) || (backToKw pos (keywordEach [⟨some kn, a, kpos⟩] X.env)).any (·.1.isNone)) = false := by rfl) :
    FE X W (.Call (.Name x p) [] [⟨some kn, a, kpos⟩] pos) (m1 ma fun d => some (instD C (.str m) f d)) := by
  refine ⟨fun pins s σ H Q I h => ?_⟩
  obtain ⟨g, G, e, ig, rl, q⟩ := h
  refine wpAny_Call_Name_kw (ld_glob I hg hm ?_ hdb)
  refine PySem.W.callWith_KW0 (h₀ := X.base) I.ok.mod.kin T.kC hall ?_ hpl
  refine thn ((pk_cons (nm := some kn) (kpos := kpos) ha pk_nil).run pos pins s σ H (fun vs H1 => ∃ v, vs = [v] ∧ Made C f m v H1 Q) I ⟨g, G, e, ig, rl, bindP q fun G1 H1 e1 d v eg r1 rv q1 => ⟨v, rfl, inst_new r1 rv q1⟩⟩) fun ws s2 ⟨zs, H2, I2, rz, v, ev, q2⟩ => ⟨I2.kIn, ?_⟩
  rw [hks]
  subst ev
  cases rz with
  | @cons _ u0 _ ur ra rw' =>
    cases rw'
    exact run_mk (us := []) M T iC tI F1 hr hgd I2 (by rw [sizeLine_eq]; simp) (fun s' self hk => hb s' self u0 hk) ra q2
/-- C(), the field by its default -/
theorem fe_mk0 {vn : Str} {dv : V} {dd : D} {u : Value} (M : PySem.FxE.Fam B newId initId tail) (T : ExC X.K C tail newId) (iC : PySem.W.findIn X.K (.ref C) "__init__" = some (some (.ref fI))) (tI : PySem.W.typeIn X.K (.ref fI) = some (.type "function"))
    (F1 : FnG X.prog X.w X.K X.mg X.base k fI fd ["self", vn] (spInit C f m)) (hr : Room (k + 1) X.A) (hgd : X.A.guards = some []) (hb : Binds X.K fd ["self", vn] [u]) (hdv : RelV dv u) (hD : ∀ G, DR X.K G dv dd) (hg : Gl X x) (hm : X.mg x = some (.ref C)) (hdb : (x == ("__debug__" : Str)) = false := by decide) :
    FE X W (.Call (.Name x p) [] [] pos) (Fx.M.ret (instD C (.str m) f dd)) := by
  refine ⟨fun pins s σ H Q I h => ?_⟩
  obtain ⟨g, G, e, ig, rl, q⟩ := h
  refine wpAny_Call_Name_kw (ld_glob I hg hm ?_ hdb)
  refine PySem.W.callWith_K0 I.kIn T.kC ?_
  exact run_mk (us := []) M T iC tI F1 hr hgd I (by rw [sizeLine_eq]; simp) (fun s' self hk => hb s' [self] hk rfl) hdv (inst_new rl (hD G) q)
end
end Fx

set_option Elab.async false
set_option linter.all false
set_option maxRecDepth 100000
set_option maxHeartbeats 4000000
/-! Fx12: an exception's field, its class, its text. -/
namespace PySem.FxE
open PySem PySem.W PySem.Spec PySem.Calls PyProof.Rows Builtin Builtin.Str
section
variable {prog : Program} {w : World} {A : Around} {E : Value → Shared → Prop} {s : Shared} {K : Frag} {x D : Addr} {ox : Obj} {od : Option Obj}
/-- what a class must be, so that its exceptions are asked for their class -/
structure IsC (K : Frag) (D : Addr) : Prop where
  ga : findIn K (.ref D) "__getattribute__" = some (some (.builtin "BaseException.__getattribute__"))
  gg : findIn K (.ref D) "__getattr__" = some none
  sub : subIn K (.ref D) (.type "BaseException") = some true
  dct : hasDictIn K D = true
  cl : findIn K (.ref D) "__class__" = some (some (.builtin "object.__class__"))
  gt : specialIn K (.builtin "object.__class__") "__get__" = some (some (.builtin "getset_descriptor.__get__"))
  tk : takesIn K (.builtin "object.__class__") = some true
  ob : mroIn K D (.type "object") = some true
theorem find_data {C : Addr} {name : Str} {a g : Value} (hc : (clsIn K C).isSome = true) (ha : findIn K (.ref C) name = some (some a)) (hg : specialIn K a "__get__" = some (some g)) (ht : takesIn K a = some true) : findObj K C od name = some (.bind g a) := by
  obtain ⟨cd, hc⟩ := Option.isSome_iff_exists.mp hc
  unfold findObj
  rw [hc, Option.bind_some, ha, Option.bind_some]
  simp [hg, ht]
/-- e.__class__ of an exception with fields -/
theorem class_of {Q : Option Value → Shared → Prop} (T : IsC K D) (X : K.In s.heap) (I : InstAt s.heap x ox D od) (h : Q (some (.ref D)) { s with toks := s.toks + 1 }) : wpAny (model prog w) A (getAttr? (.ref x) "__class__") Q E s := by
  have hf : findObj K D od "__class__" = some (.bind (.builtin "getset_descriptor.__get__") (.builtin "object.__class__")) := find_data (by obtain ⟨cd, hc, _⟩ := any_some T.dct; rw [hc]; rfl) T.cl T.gt T.tk
  obtain ⟨hp, g, d, t, os⟩ := s
  have L0 := I.type (M := model prog w)
  have L1 := looks_findIn (M := model prog w) X T.ga
  have L2 := looks_findIn (M := model prog w) X T.gg
  have L3 := looks_find (M := model prog w) X I hf
  have sub : Looks (model prog w) hp (isInstance (.ref x) (.type "BaseException")) true := L0.andThen (looks_subIn X T.sub)
  have no : (Value.builtin "BaseException.__getattribute__" == Value.builtin "object.__getattribute__") = false := by decide +kernel
  have no1 : (onTheHeap (Value.ref D) && Value.builtin "BaseException.__getattribute__" == Value.builtin "object.__getattribute__") = false := by rw [no]; rfl
  have no0 : (false && onTheHeap (Value.builtin "BaseException.__getattribute__")) = false := rfl
  unfold getAttr? getAttrBy? getAttrBy
  refine wpAny_bind (wpAny_mkText (wpAny_bind (wpAny_attempt (wpAny_holding (wpAny_bind (L0.at (wpAny_bind (L1.at ?_))))))))
  show wpAny _ _ (if (onTheHeap (Value.ref D) && Value.builtin "BaseException.__getattribute__" == Value.builtin "object.__getattribute__") = true then _ else _) _ _ _
  rw [no1, if_neg Bool.false_ne_true]
  unfold getAttrByItsOwn hookBefore
  refine wpAny_bind ?_
  rw [if_pos (show onTheHeap (Value.ref D) = true from rfl)]
  refine L2.at (wpAny_bind (wpAny_attempt (wpAny_holding ?_)))
  unfold callGetattribute
  rw [no0, if_neg Bool.false_ne_true]
  unfold boundAndCalled
  rw [PySem.F.excAttr_ValueError.ga.bind (.ref x)]
  refine wpAny_bind (wpAny_pure ?_)
  show wpAny _ _ (call (.builtin "BaseException.__getattribute__") [.ref x, .str "__class__" t]) _ _ _
  refine wpAny_call (codeAny_call_builtin PySem.F.excAttr_ValueError.ga.plain PySem.F.entry_bexc_ga ?_)
  refine @check_slot (model prog w) _ _ ⟨hp, g, d, t + 1, os⟩ "BaseException.__getattribute__" "BaseException" "__getattribute__" (.ref x) [.str "__class__" t] [] _ (by decide +kernel) (by decide +kernel) sub (PySem.F.args_bexc_ga (.ref x) (.str "__class__" t)) ?_
  unfold Builtin.«object.__getattribute__»
  refine wpAny_bind (wpAny_of_eq (a := ((Value.ref x : Value), [Value.str "__class__" t])) (by first | rfl | (simp only [slotArgs]; rfl)) ?_)
  refine wpAny_bind (wpAny_pure (wpAny_bind (L0.at (wpAny_bind (L3.at ?_)))))
  show wpAny _ _ (holding [Value.builtin "object.__class__"] (call (.builtin "getset_descriptor.__get__") [.builtin "object.__class__", .ref x, .ref D]) >>= ret) _ _ _
  refine wpAny_bind (wpAny_holding (wpAny_call (class_get (s := ⟨hp, g, d, t + 1, os⟩) (ox := ox) (od := od) X I T.ob (wpAny_pure ?_))))
  show wpAny _ _ (handedOut (.ref D)) _ _ _
  rw [handedOut_of (v := .ref D) rfl]
  first
    | exact wpAny_pure (wpAny_pure h)
    | exact wpAny_pure h
    | exact wpAny_pure (wpAny_bind (wpAny_pure (wpAny_pure h)))
theorem kitX_of (T : IsC K D) : KitX K (.ref x) (.ref D) (fun h => ∃ ox od, InstAt h x ox D od) where
  ty := fun _ _ _ ⟨_, _, I⟩ => I.type
  it := fun _ _ X _ => by
    obtain ⟨cdD, hcD, _⟩ := any_some T.dct
    unfold clsIn at hcD
    split at hcD
    · rename_i c' d' cd' sl' ho
      intro A' Q' E' s' k q
      unfold isType loadHead
      exact wpAny_bind (wpAny_loadPart (k _ _ (X _ _ ho)) (wpAny_pure q))
    · cases hcD
  ne := fun h tp dd its n sl X htp => by
    obtain ⟨cdD, hcD, _⟩ := any_some T.dct
    refine Bool.eq_false_iff.mpr fun q => ?_
    obtain rfl : D = tp := Value.ref.inj (beq_iff_eq.mp q)
    unfold clsIn at hcD
    split at hcD
    · rename_i c' d' cd' sl' ho
      exact nomatch (X _ _ ho).symm.trans htp
    · cases hcD
  ca := fun X ⟨_, _, I⟩ k => class_of T X I k
/-- str(e) of an exception with one text -/
theorem str_exc {C e t0 : Addr} {m : Str} {tk : Tok} {Q : Value → Shared → Prop} (hu : A.units + 8 < cLine) (x : ExcC K C e t0 s.heap) (ht : s.heap.TupAt t0 [.str m tk]) (hs : findIn K (.ref C) "__str__" = some (some (.builtin "BaseException.__str__"))) (hB : subIn K (.ref C) (.type "BaseException") = some true)
    (hq : Q (.str m tk) s) : wpAny (model prog w) A (call (.type "str") [.ref e]) Q E s := by
  refine callType_new F.called_str (by decide) (F.typeCall_str_1 _) (F.newCall_str_1 _) (fun obj => F.args_object_init_2 obj _) F.entry_str_new
    (meets_str_new (S := fun A' R s' => (A'.units + 4 < cLine ∧ ExcC K C e t0 s'.heap ∧ s'.heap.TupAt t0 [.str m tk]) ∧ R (.ok (.ret (.str m tk))) s') fun prog' w' A' R s' hh => ?_) ⟨⟨?_, x, ht⟩, typeIs_str _ _ _, hq⟩
  · obtain ⟨⟨hu', x', ht'⟩, hq'⟩ := hh
    have hf : Looks (model prog' w') s'.heap (typeLookup (.ref C) "__str__") (some (.builtin "BaseException.__str__")) := looks_findIn x'.1 hs
    have le1 : A'.in1.units ≤ A'.units + 1 := by first | exact Nat.le_refl _ | simp [Around.in1]
    have hu1 : A'.in1.units < cLine := by omega
    unfold Builtin.Str.strOf
    repeat (first | with_reducible refine wpAny_cRoomFor hu1 ?_ | with_reducible refine callSpecial_C x'.LT hf (PySem.F.excStr_Exception.str.bind _) (call_bexcStr_C x' hB (bexcStr_C_one x' ht' ⟨_, rfl, ?_⟩)) | wp_step)
    exact hq'
  · have : A.in1.units ≤ A.units + 1 := by first | exact Nat.le_refl _ | simp [Around.in1]
    omega
end
end PySem.FxE

set_option Elab.async false
set_option linter.all false
set_option maxRecDepth 100000
set_option maxHeartbeats 4000000
/-! Fx13: slices, sums, enumerate, repetition, built-ins by name. -/
namespace Fx
open PySem PySem.Spec PyProof.Rows L2 Evl
/-! ### slices -/
def cutD (xs : List D) (lo hi : Option Int) : List D := (xs.drop (HT.sIx xs.length 0 lo)).take (HT.sIx xs.length xs.length hi - HT.sIx xs.length 0 lo)
theorem cut_rel {K : PySem.W.Frag} {G : Hp} {vs : List V} {ds : List D} {lo hi : Option Int} (h : DRAll K G vs ds) : DRAll K G (cutV vs lo hi) (cutD ds lo hi) := by
  unfold cutV cutD
  rw [dpAll_len h]
  exact dpAll_take _ (dpAll_drop _ h)
def optM : Option (M D) → M (Option Int)
  | none => M.ret none
  | some m => m.bind fun d => match d with | .int i => M.ret (some i) | _ => M.st
def FO (X : Cx) (W : Wi) (x : Option Expr) (m : M (Option Int)) : Prop := PO X x (tG X.K X.mg W (fun _ o b => o = b) m)
def slcD : D → Option Int → Option Int → Option D
  | .list xs, lo, hi => some (.list (cutD xs lo hi))
  | .dict [(.none, .list xs)], lo, hi => some (.list (cutD xs lo hi))
  | .tuple xs, lo, hi => some (.tuple (if HT.sIx xs.length 0 lo = 0 ∧ HT.sIx xs.length xs.length hi = xs.length then xs else cutD xs lo hi))
  | _, _, _ => none
def sliceM (ma : M D) (ml mu : M (Option Int)) : M D := ma.bind fun x => ml.bind fun l => mu.bind fun u => M.opt (slcD x l u)
section
variable {X : Cx} {W : Wi} {a b c : Expr} {ma mb : M D} {pos p q p2 : Pos} {lo hi : Option Expr} {ml mu : M (Option Int)} {x : Str} {es : List Expr} {ms : M (List D)}
theorem fo_none : FO X W none (M.ret none) := ⟨fun pins s σ H Q I ⟨g, G, e, ig, rl, q⟩ => po_none.run pins s σ H Q I (show Q none H from retP rl rfl q)⟩
theorem fo_some (h : FE X W a ma) : FO X W (some a) (optM (some ma)) := ⟨fun pins s σ H Q I ⟨g, G, e, ig, rl, q⟩ => (po_some h).run pins s σ H Q I ⟨g, G, e, ig, rl, bindP q fun G1 H1 e1 d v eg r1 rv q1 => by
  cases d with
  | int i => cases rv; exact ⟨i, rfl, retP r1 rfl q1⟩
  | _ => exact q1.elim⟩⟩
theorem fe_slice (ha : FE X W a ma) (hl : FO X W lo ml) (hu : FO X W hi mu) : FE X W (.Subscript a (.Slice lo hi none p2) pos) (sliceM ma ml mu) :=
  pe_mono (pe_slice (sl_list.or sl_tupA) ha hl hu) fun σ H Q ⟨g, G, e, ig, rl, q⟩ => ⟨g, G, e, ig, rl, bindP q fun G1 H1 e1 d v eg r1 rv q1 => ⟨g, G1, e1, ig, r1, bindP q1 fun G2 H2 e2 l l' eg2 r2 rl2 q2 => by
    subst rl2
    exact ⟨g, G2, e2, ig, r2, bindP q2 fun G3 H3 e3 u u' eg3 r3 rl3 q3 => by
      subst rl3
      have rv3 := rv.up (eg2.trans eg3)
      cases hs : slcD d l' u' with
      | none => rw [hs] at q3; exact q3.elim
      | some y =>
        rw [hs] at q3
        unfold slcD at hs
        split at hs
        · cases hs
          cases rv3 with
          | lst h1 h2 => exact .inl ⟨_, _, rfl, sq_of (r3.gh _ _ h1), fun p hp => newL r3 (cut_rel h2) hp q3⟩
        · cases hs
          cases rv3 with
          | ro h1 h2 => exact .inl ⟨_, _, rfl, ex_l r3.gh h1, fun p hp => newL r3 (cut_rel h2) hp q3⟩
        · cases hs
          cases rv3 with
          | tup h1 h2 =>
            refine .inr ⟨_, _, rfl, ex_t r3.gh h1, fun z => ?_, fun z p hp => ?_⟩
            · rw [dpAll_len h2] at z
              rw [if_pos z] at q3
              exact retP r3 (.tup h1 h2) q3
            · rw [dpAll_len h2] at z
              rw [if_neg z] at q3
              exact newT r3 (cut_rel h2) hp q3
        · cases hs⟩⟩⟩
/-! ### built-ins by name -/
def bltM (ms : M (List D)) (f : List D → Option D) : M D := ms.bind fun ds => M.opt (f ds)
theorem fe_callB {id : String} {r : List V → Hp → VK → Prop} {f : List D → Option D} (hc : CallR X (.builtin id) r) (p' : PrN X.K r f) (hg : Gl X x) (hm : X.mg x = none) (hv : bootBuiltins x = some (.builtin id)) (ha : FA X W (a :: es) ms) (hn : x ≠ "__name__" := by decide) (hdb : (x == ("__debug__" : Str)) = false := by decide)
    (he : starEach (a :: es) X.env = (false, eval a X.env) :: starEach es X.env := by rfl) (hpl : (backTo pos (starEach es X.env)).any (·.1) = false := by rfl) : FE X W (.Call (.Name x p) (a :: es) [] pos) (bltM ms f) :=
  pe_mono (pe_callB hc hg hm hv ha hn hdb he hpl) fun σ H Q ⟨g, G, e, ig, rl, q⟩ => ⟨g, G, e, ig, rl, bindP q fun G1 H1 e1 ds vs eg r1 rv q1 => p' X.mg W g G1 H1 σ e1 vs ds Q r1 rv q1⟩
theorem fe_callTy {T : String} {r : List V → Hp → VK → Prop} {f : List D → Option D} (hc : CallR X (.type T) r) (p' : PrN X.K r f) (hg : Gl X x) (hm : X.mg x = none) (hv : bootBuiltins x = some (.type T)) (ha : FA X W (a :: es) ms) (hn : x ≠ "__name__" := by decide) (hdb : (x == ("__debug__" : Str)) = false := by decide)
    (he : starEach (a :: es) X.env = (false, eval a X.env) :: starEach es X.env := by rfl) (hpl : (backTo pos (starEach es X.env)).any (·.1) = false := by rfl) : FE X W (.Call (.Name x p) (a :: es) [] pos) (bltM ms f) :=
  pe_mono (pe_callTy hc hg hm hv ha hn hdb he hpl) fun σ H Q ⟨g, G, e, ig, rl, q⟩ => ⟨g, G, e, ig, rl, bindP q fun G1 H1 e1 ds vs eg r1 rv q1 => p' X.mg W g G1 H1 σ e1 vs ds Q r1 rv q1⟩
/-! ### sum of ints -/
def intsOf : List D → Option (List Int)
  | [] => some []
  | .int i :: r => (intsOf r).map (i :: ·)
  | _ :: _ => none
theorem ints_rel {K : PySem.W.Frag} {G : Hp} : ∀ {vs : List V} {ds : List D} {ns : List Int}, DRAll K G vs ds → intsOf ds = some ns → vs = ns.map V.int
  | _, [], _, h, e => by cases h; cases e; rfl
  | _, .int i :: r, _, h, e => by
    cases h with
    | cons h1 h2 =>
      cases h1
      simp only [intsOf] at e
      cases hr : intsOf r with
      | none => rw [hr] at e; cases e
      | some ns => rw [hr] at e; cases e; rw [ints_rel h2 hr]; rfl
  | _, .none :: _, _, _, e => by cases e
  | _, .bool _ :: _, _, _, e => by cases e
  | _, .str _ :: _, _, _, e => by cases e
  | _, .list _ :: _, _, _, e => by cases e
  | _, .tuple _ :: _, _, _, e => by cases e
  | _, .dict _ :: _, _, _, e => by cases e
def sumD : List D → Option D
  | [.list ds] => (intsOf ds).map fun ns => .int ns.sum
  | [.dict [(.none, .list ds)]] => (intsOf ds).map fun ns => .int ns.sum
  | _ => none
theorem pr_sum {K : PySem.W.Frag} : PrN K (rSum K) sumD := by
  intro mg W g G H σ e xs ds Q rl rx p
  cases hs : sumD ds with
  | none => rw [hs] at p; exact p.elim
  | some y =>
    rw [hs] at p
    unfold sumD at hs
    split at hs
    · obtain ⟨ns, hi, rfl⟩ := Option.map_eq_some_iff.mp hs
      cases rx with
      | cons h1 h2 =>
        cases h2
        cases h1 with
        | lst k1 k2 =>
          rw [ints_rel k2 hi] at k1
          exact ⟨_, ns, rfl, sq_of (rl.gh _ _ k1), retP rl (.int _) p⟩
    · obtain ⟨ns, hi, rfl⟩ := Option.map_eq_some_iff.mp hs
      cases rx with
      | cons h1 h2 =>
        cases h2
        cases h1 with
        | ro k1 k2 =>
          rw [ints_rel k2 hi] at k1
          exact ⟨_, ns, rfl, ex_l rl.gh k1, retP rl (.int _) p⟩
    · cases hs
theorem fe_sum (hc : X.calm = true) (hg : Gl X "sum") (hm : X.mg "sum" = none) (ha : FA X W (a :: es) ms)
    (he : starEach (a :: es) X.env = (false, eval a X.env) :: starEach es X.env := by rfl) (hpl : (backTo pos (starEach es X.env)).any (·.1) = false := by rfl) : FE X W (.Call (.Name "sum" p) (a :: es) [] pos) (bltM ms sumD) :=
  fe_callB (cr_sum hc) pr_sum hg hm (by decide +kernel) ha (by decide) (by decide) he hpl
/-! ### enumerate -/
def enumD (i : Nat) : List D → List D
  | [] => []
  | d :: ds => .tuple [.int (i : Nat), d] :: enumD (i + 1) ds
theorem enum_len : ∀ (ds : List D) (i : Nat), (enumD i ds).length = ds.length
  | [], _ => rfl
  | d :: ds, i => by simp [enumD, enum_len ds]
theorem enum_get : ∀ (ds : List D) (i j : Nat), (enumD i ds)[j]? = ds[j]?.map fun d => .tuple [.int ((i + j : Nat) : Int), d]
  | [], _, _ => by simp [enumD]
  | d :: ds, i, 0 => by simp [enumD]
  | d :: ds, i, j + 1 => by
    simp only [enumD, List.getElem?_cons_succ, enum_get ds]
    have : i + 1 + j = i + (j + 1) := by omega
    rw [this]
def enumM (m : M D) : M (List D) := m.bind fun d => match d with
  | .list ds => M.ret (enumD 0 ds)
  | _ => M.st
theorem walkD_enum {K : PySem.W.Frag} {G : Hp} {a : Addr} {us : List V} {ds : List D} (h : G a = some (.lst us)) (hd : DRAll K G us ds) : WalkD K (Ite K a) G (enumD 0 ds) where
  goes := fun i H hi ex => by
    rw [enum_len] at hi
    obtain ⟨v, hv, _⟩ := dpAll_get hd (List.getElem?_eq_getElem hi)
    exact ⟨us, v, sq_of (ex _ _ h), hv⟩
  stops := fun H ex => ⟨us, sq_of (ex _ _ h), by rw [enum_len, dpAll_len hd]; exact Nat.le_refl _⟩
  yields := fun i g G2 σ e H x H' hi ex rl y => by
    obtain ⟨T, v, rfl, hT, rfl, hx⟩ := y
    have hv := hx us (sq_of (rl.gh _ _ (ex _ _ h)))
    obtain ⟨d, h1, h2⟩ := dpAll_getV hd hv
    have gT : G2 T = none := fresh_back rl.gh hT
    refine ⟨upd G2 T (.tup [.int (i : Nat), v]), .tuple [.int (i : Nat), d], ?_, Ex.new gT, rl.new hT, .tup (st_of upd_same) (.cons (.int _) (.cons ((h2.up ex).up (Ex.new gT)) .nil))⟩
    rw [enum_get, h1]
    simp
theorem fi_enum {elts : List Expr} {kk : Nat} {tpos : Pos} (hg : Gl X "enumerate") (hm : X.mg "enumerate" = none) (ha : FE X W a ma) (hs : starEach [a] X.env = [(false, eval a X.env)] := by rfl) : FI X W (.Tuple elts kk tpos) (.Call (.Name "enumerate" p) [a] [] pos) (enumM ma) :=
  pi_mono (pi_enum hg hm (pa_cons ha pa_nil hs) hs) fun σ H Q ⟨g, G, e, ig, rl, q⟩ => ⟨g, G, e, ig, rl, bindI q fun G1 H1 e1 d v eg r1 rv q1 => by
    cases d with
    | list ds =>
      cases rv with
      | lst h1 h2 => exact ⟨_, _, rfl, sq_of (r1.gh _ _ h1), q1 (Ite X.K _) G1 H1 (Ex.refl _) r1 (walkD_enum h1 h2)⟩
    | _ => exact q1.elim⟩
/-! ### repetition -/
def repS (x : Str) (n : Int) : Str := if n < 1 then Str.empty else if (n == 1 || x.length == 0) = true then x else ⟨(List.replicate n.toNat x.cps).foldl (· ++ ·) #[]⟩
theorem size_fold_rep (a : Array Nat) : ∀ (m : Nat) (acc : Array Nat), (List.foldl (· ++ ·) acc (List.replicate m a)).size = acc.size + m * a.size
  | 0, acc => by simp
  | m + 1, acc => by
    rw [List.replicate_succ, List.foldl_cons, size_fold_rep a m, Array.size_append, Nat.succ_mul]
    omega
def rRepS : R2 := fun x y H Q => ∃ z n, x = .str z ∧ y = .int n ∧ 0 ≤ n ∧ n ≤ 1000 ∧ z.length ≤ 1000 ∧ Q (.str (repS z n)) H
theorem op_repS : OpR X (binaryOp .Mult) rRepS := by
  intro pins s σ H x y v u Q I rx ry h
  obtain ⟨z, n, rfl, rfl, h0, h1, hz, q⟩ := h
  obtain ⟨t, rfl⟩ := rx
  obtain ⟨t', rfl⟩ := ry
  refine PySem.P.mul_str ?_ (fun k1 _ => ?_) (fun k1 _ => ?_) ?_
  · rw [decide_eq_false (by omega), decide_eq_false (by omega)] <;> rfl
  · have h2 : (2 ^ 63 - 1 : Int) / n ≥ (2 ^ 63 - 1) / 1000 := by
      have e : (2 ^ 63 - 1 : Int) / 1000 * n ≤ 2 ^ 63 - 1 := Int.le_trans (Int.mul_le_mul_of_nonneg_left h1 (by decide)) (by decide)
      exact (Int.le_ediv_iff_mul_le (by omega)).mpr e
    have h3 : ((2 ^ 63 - 1 : Int) / 1000) ≥ 1000 := by decide
    omega
  · have : z.length * n.toNat ≤ 1000 * 1000 := Nat.mul_le_mul hz (by omega)
    unfold Builtin.Str.tooLong
    rw [sizeLine_eq]
    exact decide_eq_false (by omega)
  · unfold repS at q
    by_cases c1 : n < 1
    · rw [if_pos c1] at q ⊢
      exact ⟨by rw [sizeLine_eq]; simp [Str.empty, Str.length], ⟨.str _, H, I.tok _, ⟨_, rfl⟩, q⟩⟩
    · rw [if_neg c1] at q ⊢
      by_cases c2 : (n == 1 || z.length == 0) = true
      · rw [if_pos c2] at q ⊢
        exact ⟨.str z, H, I, ⟨_, rfl⟩, q⟩
      · rw [if_neg c2] at q ⊢
        refine ⟨?_, ⟨.str _, H, I.tok _, ⟨_, rfl⟩, q⟩⟩
        have : n.toNat * z.length ≤ 1000 * 1000 := Nat.mul_le_mul (by omega) hz
        have e := size_fold_rep z.cps n.toNat #[]
        show (List.foldl (· ++ ·) #[] (List.replicate n.toNat z.cps)).size ≤ sizeLine
        rw [e, sizeLine_eq]
        have e2 : z.cps.size = z.length := rfl
        rw [e2]
        simp only [List.size_toArray, List.length_nil]
        omega
def repSD : D → D → Option D
  | .str z, .int n => if 0 ≤ n ∧ n ≤ 1000 ∧ z.length ≤ 1000 then some (.str (repS z n)) else none
  | _, _ => none
theorem pr_repS {K : PySem.W.Frag} : Pr2 K rRepS repSD := by
  intro mg W g G H σ e x y dx dy Q rl rx ry p
  unfold repSD at p
  split at p
  · rename_i z n
    by_cases c : 0 ≤ n ∧ n ≤ 1000 ∧ z.length ≤ 1000
    · rw [if_pos c] at p
      cases rx; cases ry
      exact ⟨z, n, rfl, rfl, c.1, c.2.1, c.2.2, retP rl (.str _) p⟩
    · rw [if_neg c] at p; exact p.elim
  · exact p.elim
theorem rep_rel {K : PySem.W.Frag} {G : Hp} {vs : List V} {ds : List D} (h : DRAll K G vs ds) : ∀ n : Nat, DRAll K G (List.replicate n vs).flatten (List.replicate n ds).flatten
  | 0 => .nil
  | n + 1 => by rw [List.replicate_succ, List.flatten_cons, List.replicate_succ, List.flatten_cons]; exact dpAll_app h (rep_rel h n)
def repTD : D → D → Option D
  | .tuple xs, .int n => if xs ≠ [] ∧ 2 ≤ n ∧ n ≤ 1000 ∧ xs.length ≤ 1000 then some (.tuple (List.replicate n.toNat xs).flatten) else none
  | _, _ => none
theorem pr_repT {K : PySem.W.Frag} : Pr2 K (rRepT K) repTD := by
  intro mg W g G H σ e x y dx dy Q rl rx ry p
  unfold repTD at p
  split at p
  · rename_i xs n
    by_cases c : xs ≠ [] ∧ 2 ≤ n ∧ n ≤ 1000 ∧ xs.length ≤ 1000
    · rw [if_pos c] at p
      cases ry
      cases rx with
      | tup h1 h2 =>
        have hl := dpAll_len h2
        exact ⟨_, n, _, rfl, rfl, ex_t rl.gh h1, fun z => c.1 (by subst z; cases h2; rfl), c.2.1, c.2.2.1, by rw [hl]; exact c.2.2.2, fun p' hp => newT rl (rep_rel h2 _) hp p⟩
    · rw [if_neg c] at p; exact p.elim
  · exact p.elim
def repLD : D → D → Option D
  | .list xs, .int n => if 0 ≤ n ∧ n ≤ 1000 ∧ xs.length ≤ 1000 then some (.list (List.replicate n.toNat xs).flatten) else none
  | _, _ => none
theorem pr_repL {K : PySem.W.Frag} : Pr2 K rRep repLD := by
  intro mg W g G H σ e x y dx dy Q rl rx ry p
  unfold repLD at p
  split at p
  · rename_i xs n
    by_cases c : 0 ≤ n ∧ n ≤ 1000 ∧ xs.length ≤ 1000
    · rw [if_pos c] at p
      cases ry
      cases rx with
      | lst h1 h2 =>
        have hl := dpAll_len h2
        refine ⟨_, n, _, rfl, rfl, rl.gh _ _ h1, by omega, by omega, ?_, fun p' hp => newL rl (rep_rel h2 _) hp p⟩
        have : n.toNat * xs.length ≤ 1000 * 1000 := Nat.mul_le_mul (by omega) c.2.2
        rw [hl, sizeLine_eq, Nat.mul_comm]
        omega
    · rw [if_neg c] at p; exact p.elim
  · exact p.elim
/-- a * b -/
def mulD : D → D → Option D := orF2 mulI (orF2 repSD (orF2 repTD repLD))
theorem op_mulD : OpR X (binaryOp .Mult) (fun x y H Q => rI IntMulOk (fun i j => .int (i * j)) x y H Q ∨ rRepS x y H Q ∨ rRepT X.K x y H Q ∨ rRep x y H Q) :=
  OpR.or op_mulX (OpR.or op_repS (OpR.or op_repT op_rep))
theorem pr_mul {K : PySem.W.Frag} : Pr2 K (fun x y H Q => rI IntMulOk (fun i j => .int (i * j)) x y H Q ∨ rRepS x y H Q ∨ rRepT K x y H Q ∨ rRep x y H Q) mulD :=
  Pr2.or pr_mulI (Pr2.or pr_repS (Pr2.or pr_repT pr_repL))
end
end Fx

set_option Elab.async false
set_option linter.all false
set_option maxRecDepth 100000
set_option maxHeartbeats 4000000
/-! Fx14: exceptions as data: their field, their class, their text; one text in another. -/
namespace Fx
open PySem PySem.Spec PyProof.Rows L2 Evl
section
variable {X : Cx} {W : Wi} {a b c : Expr} {ma mb : M D} {pos p q p2 : Pos} {x n : Str} {es : List Expr} {ms : M (List D)}
/-- where an exception stands, it stands in the run -/
theorem inst_at {pins : List (Addr × Obj)} {σ : L2.St} {H : Hp} {s : Shared} {a C t dx : Addr} {f : Str} {v : V} (I : Inv X pins σ H s) (h1 : H a = some (exv a C t (some dx))) (h2 : H dx = some (exd dx [(f, v)])) :
    ∃ oe od mA, PySem.W.InstAt s.heap a oe C (some od) ∧ s.heap.get? dx = some od ∧ s.heap.Ns1 dx mA ∧ ∀ g, RelO ([(f, v)].lookup g) (mA g) := by
  obtain ⟨oe, vs, k1, k2, k3, k4, k5⟩ := exv_at I.hok h1
  obtain ⟨mA, hns, hr⟩ := exd_at I.hok h2
  obtain ⟨od, ho, hl⟩ := lookIn_ns hns
  exact ⟨oe, od, mA, ⟨k1, k2, by unfold PySem.W.notCls; rw [k4] <;> rfl, by rw [k3]; exact ho⟩, ho, hns, hr⟩
/-! ### e.f -/
def attrD (cs : List Nat) (n : Str) : D → Option D
  | .dict [(.int C, _), (.str f, x)] => if f = n ∧ (cs.any fun k => decide ((k : Int) = C)) = true then some x else none
  | _ => none
theorem any_mem {cs : List Nat} {C : Nat} (h : (cs.any fun k => decide ((k : Int) = (C : Int))) = true) : C ∈ cs := by
  obtain ⟨k, h1, h2⟩ := List.any_eq_true.mp h
  have : (k : Int) = C := of_decide_eq_true h2
  have : k = C := by omega
  rw [← this]; exact h1
theorem fe_attr {cs : List Nat} (T : ∀ C ∈ cs, XfC X.K C ∧ PySem.W.findIn X.K (.ref C) n = some none) (ha : FE X W a ma) (hb : attributeBase a n X.env (eval a X.env) = eval a X.env := by rfl) : FE X W (.Attribute a n pos) (m1 ma (attrD cs n)) := by
  refine ⟨fun pins s σ H Q I ⟨g, G, e, ig, rl, q⟩ => ?_⟩
  refine attr_of hb (thn (ha.run pins s σ H (fun x H1 => ∃ a C t dx f v, x = .ref a ∧ C ∈ cs ∧ H1 a = some (exv a C t (some dx)) ∧ H1 dx = some (exd dx [(f, v)]) ∧ f = n ∧ Q v H1) I ⟨g, G, e, ig, rl, bindP q fun G1 H1 e1 d x eg r1 rv q1 => ?_⟩) fun u s1 ⟨y, H1, I1, ry, a, C, t, dx, f, v, ey, hC, h1, h2, hf, hq⟩ => ?_)
  · cases hd : attrD cs n d with
    | none => rw [hd] at q1; exact q1.elim
    | some y =>
      rw [hd] at q1
      unfold attrD at hd
      split at hd
      · rename_i C m f z
        by_cases c : f = n ∧ (cs.any fun k => decide ((k : Int) = C)) = true
        · rw [if_pos c] at hd
          cases hd
          cases rv with
          | inst k1 k2 k3 k4 => exact ⟨_, _, _, _, _, _, rfl, any_mem c.2, r1.gh _ _ k1, r1.gh _ _ k2, c.1, retP r1 k4 q1⟩
        · rw [if_neg c] at hd; cases hd
      · cases hd
  · subst ey
    subst hf
    obtain rfl : u = Value.ref a := ry
    obtain ⟨oe, od, mA, J, ho, hns, hr⟩ := inst_at I1 h1 h2
    obtain ⟨od', ho', hl⟩ := lookIn_ns hns
    rw [ho] at ho'
    cases ho'
    obtain ⟨u, hu, ru⟩ := RelO.some_of (v := v) (o := mA f) (by have := hr f; rw [lookup_put, if_pos rfl] at this; exact this)
    obtain ⟨T1, T2⟩ := T C hC
    exact HandSPX.exc_get I1.kIn J T1.ga T1.gg T1.exC (PySem.W.findObj_own T1.hdC T2 rfl (by rw [hl, hu])) (handed_of ru) ⟨v, H1, I1.tok _, ru, hq⟩
/-! ### isinstance(e, C) -/
def isXD (tbl : List (Nat × Bool)) : D → Option D
  | .dict [(.int C, _), _] => (tbl.find? fun p => decide ((p.1 : Int) = C)).map fun p => .bool p.2
  | _ => none
theorem fe_isX {cv : V} {c0 : Value} {tbl : List (Nat × Bool)} (hcv : ∀ u, RelV cv u → u = c0) (T : ∀ p ∈ tbl, PySem.FxE.IsC X.K p.1 ∧ PySem.W.kitOne X.K (.ref p.1) c0 = some p.2) (hg : Gl X "isinstance") (hm : X.mg "isinstance" = none) (ha : FE X W a ma) (hc : PE X c (tC cv))
    (he : starEach [a, c] X.env = (false, eval a X.env) :: starEach [c] X.env := by rfl) (he2 : starEach [c] X.env = (false, eval c X.env) :: starEach [] X.env := by rfl) (hpl : (backTo pos (starEach [c] X.env)).any (·.1) = false := by rfl) : FE X W (.Call (.Name "isinstance" p) [a, c] [] pos) (m1 ma (isXD tbl)) := by
  have R : CallR X (.builtin "isinstance") (fun xs H Q => ∃ a C t dx f v b, xs = [.ref a, cv] ∧ (C, b) ∈ tbl ∧ H a = some (exv a C t (some dx)) ∧ H dx = some (exd dx [(f, v)]) ∧ Q (.bl b) H) := by
    intro pins s σ H xs us Q I r ⟨a, C, t, dx, f, v, b, ex, hC, h1, h2, hq⟩
    subst ex
    cases r with
    | cons rx rr =>
      cases rr with
      | cons rt rr =>
        cases rr
        cases rx
        have ec := hcv _ rt
        subst ec
        obtain ⟨oe, od, mA, J, _⟩ := inst_at I h1 h2
        obtain ⟨T1, T2⟩ := T _ hC
        exact PySem.W.kia_one (PySem.FxE.kitX_of T1) I.kIn ⟨_, _, J⟩ T2 (fun z => nomatch z) fun tk => ⟨.bl b, H, I.kept (t' := tk) fun _ _ z => z, rfl, hq⟩
  refine pe_mono (pe_callB R hg hm (by decide +kernel) (pa_cons ha (pa_cons hc pa_nil he2) he) (by decide) (by decide) he hpl) fun σ H Q ⟨g, G, e, ig, rl, q⟩ => ⟨g, G, e, ig, rl, bindP q fun G1 H1 e1 d x eg r1 rv q1 => ?_⟩
  cases hd : isXD tbl d with
  | none => rw [hd] at q1; exact q1.elim
  | some y =>
    rw [hd] at q1
    unfold isXD at hd
    split at hd
    · rename_i C m z
      obtain ⟨pr, h1, rfl⟩ := Option.map_eq_some_iff.mp hd
      have hm' := List.mem_of_find?_eq_some h1
      have hc' := List.find?_some h1
      cases rv with
      | @inst _ C' t dx f v _ x k1 k2 k3 k4 =>
        have e1 : (pr.1 : Int) = (C' : Int) := of_decide_eq_true hc'
        have e2 : pr.1 = C' := by omega
        refine ⟨_, C', t, dx, f, v, pr.2, rfl, by rw [← e2]; exact hm', r1.gh _ _ k1, r1.gh _ _ k2, retP r1 (.bl _) q1⟩
    · cases hd
/-! ### str(x) -/
structure StC (K : PySem.W.Frag) (C : Addr) : Prop where
  st : PySem.W.findIn K (.ref C) "__str__" = some (some (.builtin "BaseException.__str__"))
  sub : PySem.W.subIn K (.ref C) (.type "BaseException") = some true
def strD (cs : List Nat) : List D → Option D
  | [.str x] => some (.str x)
  | [.int i] => if i.natAbs.log2 < 1920 then some (.str (toString i)) else none
  | [.dict [(.int C, .str m), _]] => if (cs.any fun k => decide ((k : Int) = C)) = true then some (.str m) else none
  | _ => none
theorem fe_str1 {cs : List Nat} {k : Nat} (hr : Room k X.A) (T : ∀ C ∈ cs, StC X.K C) (hg : Gl X "str") (hm : X.mg "str" = none) (ha : FE X W a ma)
    (he : starEach [a] X.env = (false, eval a X.env) :: starEach [] X.env := by rfl) (hpl : (backTo pos (starEach [] X.env)).any (·.1) = false := by rfl) : FE X W (.Call (.Name "str" p) [a] [] pos) (bltM (consM ma (M.ret [])) (strD cs)) := by
  have R : CallR X (.type "str") (fun xs H Q => (∃ z, xs = [.str z] ∧ Q (.str z) H) ∨ (∃ i : Int, xs = [.int i] ∧ i.natAbs.log2 < 1920 ∧ Q (.str (toString i)) H) ∨ ∃ a C t dx m, xs = [.ref a] ∧ C ∈ cs ∧ H a = some (exv a C t (some dx)) ∧ H t = some (.tup [.str m]) ∧ Q (.str m) H) := by
    intro pins s σ H xs us Q I r h
    rcases h with ⟨z, rfl, q⟩ | ⟨i, rfl, hz, q⟩ | ⟨a, C, t, dx, m, rfl, hC, h1, h2, q⟩
    · exact SkE.call_str_str pins s σ H _ us Q I r ⟨z, rfl, q⟩
    · obtain ⟨u, rfl, t, rfl⟩ := vals1 r
      exact PySem.P.str_of_int hz ⟨.str _, H, I.tok _, ⟨_, rfl⟩, q⟩
    · obtain ⟨u, rfl, ru⟩ := vals1 r
      obtain rfl : u = Value.ref a := ru
      obtain ⟨oe, vs, k1, k2, k3, k4, k5⟩ := exv_at I.hok h1
      obtain ⟨its, rv, ⟨o, ho, hc, nn, hd⟩, _⟩ := I.tuple (st_of h2)
      cases rv with
      | cons r1 r2 =>
        cases r2
        obtain ⟨tk, rfl⟩ := r1
        have T1 := T C hC
        exact PySem.FxE.str_exc (by have := hr.units; omega) ⟨I.kIn, oe, vs, k1, k2, k4, k5⟩ ⟨o, nn, ho, hc, hd⟩ T1.st T1.sub ⟨.str m, H, I, ⟨tk, rfl⟩, q⟩
  refine fe_callTy R ?_ hg hm (by decide +kernel) (fa_cons ha fa_nil he) (by decide) (by decide) he hpl
  intro mg W g G H σ e xs ds Q rl rx p
  cases hs : strD cs ds with
  | none => rw [hs] at p; exact p.elim
  | some y =>
    rw [hs] at p
    unfold strD at hs
    split at hs
    · cases hs
      cases rx with
      | cons h1 h2 => cases h2; cases h1; exact .inl ⟨_, rfl, retP rl (.str _) p⟩
    · rename_i i
      by_cases c : i.natAbs.log2 < 1920
      · rw [if_pos c] at hs; cases hs
        cases rx with
        | cons h1 h2 => cases h2; cases h1; exact .inr (.inl ⟨i, rfl, c, retP rl (.str _) p⟩)
      · rw [if_neg c] at hs; cases hs
    · rename_i C m z
      by_cases c : (cs.any fun k => decide ((k : Int) = C)) = true
      · rw [if_pos c] at hs; cases hs
        cases rx with
        | cons h1 h2 =>
          cases h2
          cases h1 with
          | inst k1 k2 k3 k4 => exact .inr (.inr ⟨_, _, _, _, m, rfl, any_mem c, rl.gh _ _ k1, rl.gh _ _ k3, retP rl (.str _) p⟩)
      · rw [if_neg c] at hs; cases hs
    · cases hs
/-! ### x in y of texts -/
def inSD : D → D → Option D
  | .str i, .str j => some (.bool (!(Builtin.Str.occurrences j i 0 j.length 1).isEmpty))
  | _, _ => none
theorem pr_inS {K : PySem.W.Frag} : Pr2 K (fun x y H Q => ∃ i j, x = .str i ∧ y = .str j ∧ Q (.bl (!(Builtin.Str.occurrences j i 0 j.length 1).isEmpty)) H) inSD := by
  intro mg W g G H σ e x y dx dy Q rl rx ry p
  unfold inSD at p
  split at p
  · cases rx; cases ry
    exact ⟨_, _, rfl, rfl, retP rl (.bl _) p⟩
  · exact p.elim
end
end Fx

set_option Elab.async false
set_option linter.all false
set_option maxRecDepth 100000
set_option maxHeartbeats 4000000
/-! Fx15: dicts with text keys that a slot owns; names of a comprehension's scope. -/
namespace Fx
open PySem PySem.Spec PyProof.Rows L2 Evl
def getS (kvs : List (Str × D)) (k : Str) : Option D := (kvs.find? fun kv => decide (kv.1 = k)).map (·.2)
def putS (kvs : List (Str × D)) (k : Str) (d : D) : List (Str × D) := if (kvs.any fun kv => decide (kv.1 = k)) = true then kvs.map (fun kv => if kv.1 = k then (kv.1, d) else kv) else kvs ++ [(k, d)]
section
variable {K : PySem.W.Frag} {G : Hp}
theorem kv_len : ∀ {ks : List (Key × V)} {kvs : List (Str × D)}, KvOk K G ks kvs → ks.length = kvs.length
  | [], [], _ => rfl
  | (k, v) :: r, (x, d) :: q, h => by simp [kv_len h.2.2]
  | [], _ :: _, h => h.elim
  | _ :: _, [], h => h.elim
theorem kv_get {k : Str} : ∀ {ks : List (Key × V)} {kvs : List (Str × D)} {d : D}, KvOk K G ks kvs → getS kvs k = some d → ∃ v, valV ks (Sum.inr k : Key) = some v ∧ DR K G v d
  | [], [], _, _, e => by cases e
  | (k0, v) :: r, (x, d0) :: q, d, h, e => by
    obtain ⟨h1, h2, h3⟩ := h
    subst h1
    by_cases hx : x = k
    · subst hx
      have : getS ((x, d0) :: q) x = some d0 := by simp [getS, List.find?_cons]
      rw [this] at e; cases e
      exact ⟨v, valV_pos rfl, h2⟩
    · have : getS ((x, d0) :: q) k = getS q k := by simp [getS, List.find?_cons, hx]
      rw [this] at e
      obtain ⟨v', a, b⟩ := kv_get h3 e
      exact ⟨v', by rw [valV_neg (fun z => hx (Sum.inr.inj z))]; exact a, b⟩
  | [], _ :: _, _, h, _ => h.elim
  | _ :: _, [], _, h, _ => h.elim
theorem kv_any {k : Str} : ∀ {ks : List (Key × V)} {kvs : List (Str × D)}, KvOk K G ks kvs → (ks.any fun kv => decide (kv.1 = (Sum.inr k : Key))) = (kvs.any fun kv => decide (kv.1 = k))
  | [], [], _ => rfl
  | (k0, v) :: r, (x, d0) :: q, h => by
    obtain ⟨h1, h2, h3⟩ := h
    subst h1
    have : decide ((Sum.inr x : Key) = Sum.inr k) = decide (x = k) := by
      by_cases hx : x = k
      · subst hx; simp
      · simp [hx]
    rw [List.any_cons, List.any_cons, kv_any h3]
    exact congrArg (· || _) this
  | [], _ :: _, h => h.elim
  | _ :: _, [], h => h.elim
theorem kv_map {k : Str} {v : V} {d : D} (hv : DR K G v d) : ∀ {ks : List (Key × V)} {kvs : List (Str × D)}, KvOk K G ks kvs → KvOk K G (ks.map fun kv => if kv.1 = (Sum.inr k : Key) then (kv.1, v) else kv) (kvs.map fun kv => if kv.1 = k then (kv.1, d) else kv)
  | [], [], _ => True.intro
  | (k0, v0) :: r, (x, d0) :: q, h => by
    obtain ⟨h1, h2, h3⟩ := h
    subst h1
    simp only [List.map_cons]
    by_cases hx : x = k
    · subst hx
      rw [if_pos rfl, if_pos rfl]
      exact ⟨rfl, hv, kv_map hv h3⟩
    · rw [if_neg (fun z => hx (Sum.inr.inj z)), if_neg hx]
      exact ⟨rfl, h2, kv_map hv h3⟩
  | [], _ :: _, h => h.elim
  | _ :: _, [], h => h.elim
theorem kv_app {k : Str} {v : V} {d : D} (hv : DR K G v d) : ∀ {ks : List (Key × V)} {kvs : List (Str × D)}, KvOk K G ks kvs → KvOk K G (ks ++ [((Sum.inr k : Key), v)]) (kvs ++ [(k, d)])
  | [], [], _ => ⟨rfl, hv, True.intro⟩
  | (k0, v0) :: r, (x, d0) :: q, h => ⟨h.1, h.2.1, kv_app hv h.2.2⟩
  | [], _ :: _, h => h.elim
  | _ :: _, [], h => h.elim
theorem kv_put {k : Str} {v : V} {d : D} {ks : List (Key × V)} {kvs : List (Str × D)} (h : KvOk K G ks kvs) (hv : DR K G v d) : KvOk K G (putK ks (Sum.inr k : Key) v) (putS kvs k d) := by
  unfold putK putS
  rw [kv_any h]
  by_cases c : (kvs.any fun kv => decide (kv.1 = k)) = true
  · rw [if_pos c, if_pos c]; exact kv_map hv h
  · rw [if_neg c, if_neg c]; exact kv_app hv h
end
def ixK (i : Nat) (key : Str) : M D := fun e => match e[i]? with
  | some (.own _ (.od kvs)) => match getS kvs key with
    | some d => .ok d e
    | none => .st
  | _ => .st
def setK (i : Nat) (key : Str) (mv : M D) : M Fl := mv.bind fun d => fun e => match e[i]? with
  | some (.own w (.od kvs)) => if kvs.length ≤ 1000 then .ok .nx (e.set i (.own w (.od (putS kvs key d)))) else .st
  | _ => .st
section
variable {X : Cx} {W : Wi} {a b c : Expr} {ma mb : M D} {pos p q p2 tpos : Pos} {x key : Str} {i j k : Nat}
theorem fe_ixK (hr : Room k X.A) (hN : X.N[i]? = some x) (hv : Vis X.env.scope x) (hs : NoSl (.Constant (.str key) j p2) := by exact fun _ _ => rfl) (hd : (x == ("__debug__" : Str)) = false := by decide) (hcd : (x == ("__classdict__" : Str)) = false := by decide) :
    FE X W (.Subscript (.Name x q) (.Constant (.str key) j p2) pos) (ixK i key) :=
  pe_mono (pe_dget (hu_of hr) (pe_var hN hv hd hcd) pe_str hs) fun σ H Q ⟨g, G, e, ig, rl, pq⟩ => by
    unfold ixK at pq
    cases h : e[i]? with
    | none => rw [h] at pq; exact pq.elim
    | some s =>
      rw [h] at pq
      cases s with
      | no => exact pq.elim
      | d y => exact pq.elim
      | own w o =>
        cases o with
        | ol xs => exact pq.elim
        | od kvs =>
          simp only at pq
          cases hg : getS kvs key with
          | none => rw [hg] at pq; exact pq.elim
          | some d =>
            rw [hg] at pq
            obtain ⟨a, h1, ⟨ks, h2, h3⟩, _⟩ := rl.own h
            obtain ⟨v, e1, e2⟩ := kv_get h3 hg
            refine ⟨.ref a, h1, a, v, rfl, ?_, retP rl e2 pq⟩
            rw [← e1]
            exact DGet.k (k := Sum.inr key) h2
theorem fs_setK (hr : Room k X.A) (hN : X.N[i]? = some x) (hv : Vis X.env.scope x) (ha : FE X W a ma) (hs : swapsWith a (some (.Subscript (.Name x q) (.Constant (.str key) j p2) tpos)) pos.line X.env = pure false := by rfl) (hd : (x == ("__debug__" : Str)) = false := by decide) (hcd : (x == ("__classdict__" : Str)) = false := by decide) :
    FS X W (.Assign [.Subscript (.Name x q) (.Constant (.str key) j p2) tpos] a pos) (setK i key ma) :=
  ps_mono (ps_dput (hu_of hr) (pe_var hN hv hd hcd) pe_str ha hs) fun Z σ H ⟨g, G, e, ig, rl, pq⟩ => ⟨g, G, e, ig, rl, bindS pq fun G1 H1 e1 d v eg r1 rv q1 => by
    cases h : e1[i]? with
    | none => rw [h] at q1; exact q1.elim
    | some s =>
      rw [h] at q1
      cases s with
      | no => exact q1.elim
      | d y => exact q1.elim
      | own w o =>
        cases o with
        | ol xs => exact q1.elim
        | od kvs =>
          simp only at q1
          by_cases c : kvs.length ≤ 1000
          · rw [if_pos c] at q1
            obtain ⟨a, h1, ⟨ks, h2, h3⟩, k4, k5, k6⟩ := r1.own h
            have hl := kv_len h3
            refine ⟨.ref a, h1, a, _, rfl, DPut.k (k := Sum.inr key) h2 (by rw [hl, sizeLine_eq]; omega), ?_⟩
            exact q1 σ G1 _ (Ex.refl _) (r1.mut h h1 ⟨_, upd_same, kv_put h3 rv⟩ k4 k5 k6)
          · rw [if_neg c] at q1; exact q1.elim⟩
/-- a new object becomes a slot's own -/
theorem Rel.setOO {K : PySem.W.Frag} {g : Gd} {G H H2 : Hp} {σ : L2.St} {e : En} (r : Rel K g G H σ e) {i : Nat} {p : Addr} {o : OO} (hp : H p = none) (hb : ∀ b, b ≠ p → H2 b = H b) (h2 : Holds K G H2 p o) : Rel K g G H2 (σ.set i (some (.ref p))) (e.set i (.own false o)) := by
  have gp : G p = none := fresh_back r.gh hp
  have bp : g.B p = none := fresh_back r.bh hp
  have e2 : Ex H H2 := fun a o ho => by
    have : a ≠ p := ne_of_none ho hp
    rw [hb a this]; exact ho
  have r2 : Rel K g G H2 σ e := r.grow (Ex.refl G) e2 (r.gh.trans e2) fun a o h => .inl h
  refine r2.setG (fun _ => ⟨p, rfl, h2, gp, bp, fun z => by cases z⟩) fun _ j t a _ h1 o1 ev h3 => ?_
  cases ev
  have z := r.sl j t h1
  cases t with
  | no => cases o1
  | d x => cases o1
  | own w ys =>
    obtain ⟨b, s1, s2, _, _⟩ := z
    obtain ⟨o, ho⟩ := s2.there
    rw [h3] at s1
    cases s1
    rw [hp] at ho
    cases ho
/-! ### a def that returns a new dict -/
def spD (n : Nat) (F : List D → Option (List (Str × D))) (K : PySem.W.Frag) : Sp := fun vs H Q _ => vs.length = n ∧ ∃ G ds kvs, Ex G H ∧ DRAll K G vs ds ∧ F ds = some kvs ∧ ∀ p ks, H p = none → KvOk K G ks kvs → Q (.ref p) (upd H p (.dK ks))
def setD (i : Nat) (ms : M (List D)) (F : List D → Option (List (Str × D))) : M Fl := ms.bind fun ds => match F ds with
  | some kvs => fun e => .ok .nx (e.set i (.own false (.od kvs)))
  | none => M.st
theorem fs_setD {n k : Nat} {f : Addr} {fd : FuncData} {ps : List Str} {y : Str} {pos' : Pos} {es : List Expr} {ms : M (List D)} {F : List D → Option (List (Str × D))} (G : FnG X.prog X.w X.K X.mg X.base k f fd ps (spD n F X.K)) (hr : Room k X.A) (hgd : X.A.guards = some []) (hg : Gl X x) (hm : X.mg x = some (.ref f)) (hk : PySem.W.keepIn X.K (.ref f) = true) (hb : Binds X.K fd ps []) (hx : ∀ σ, PassesAt (L2.CX X.prog X.w) X σ (WE W.W σ))
    (ha : FA X W (a :: es) ms) (hn : ∀ env ds env', ms env = .ok ds env' → ds.length = n) (hN : X.N.Nodup) (hi : X.N[i]? = some y) (hy : Loc X.env.scope y) (hdb : (x == ("__debug__" : Str)) = false := by decide) (he : starEach (a :: es) X.env = (false, eval a X.env) :: starEach es X.env := by rfl) (hpl : (backTo pos (starEach es X.env)).any (·.1) = false := by rfl)
    (hs : swapsWith (.Call (.Name x p) (a :: es) [] pos) (some (.Name y pos')) tpos.line X.env = pure false := by rfl)
    (hf : X.fn y = true ∨ X.env.scope.names.lookup y = some .local := by first | exact .inl rfl | exact .inr rfl | assumption) : FS X W (.Assign [.Name y pos'] (.Call (.Name x p) (a :: es) [] pos) tpos) (setD i ms F) :=
  ps_mono (ps_set hN hi hy (pe_callG G hr hgd hg hm hk hb .nil hx ha hdb he hpl) hs hf) fun Z σ H ⟨g, G0, en, ig, rl, q⟩ => ⟨g, G0, en, ig, rl, by
    unfold setD M.bind at q
    cases hms : ms en with
    | ex c e1 => rw [hms] at q; exact fun C dd fs G' H' h1 h2 h3 h4 h5 => q C dd fs σ G' H' h1 h2 h3 h4 h5
    | st => rw [hms] at q; exact q
    | ok ds e1 =>
      rw [hms] at q
      intro vs G1 H1 eg r1 rv
      show spD n F X.K (vs ++ []) H1 _ _
      rw [List.append_nil]
      have q : PostS X.K X.mg W g G0 Z ((match F ds with | some kvs => fun e => .ok .nx (e.set i (.own false (.od kvs))) | none => M.st : M Fl) e1) := q
      cases hF : F ds with
      | none => rw [hF] at q; exact q.elim
      | some kvs =>
        rw [hF] at q
        exact ⟨(dpAll_len rv).trans (hn _ _ _ hms), G1, ds, kvs, r1.gh, rv, hF, fun p ks hp hk => q _ G1 _ eg (r1.setOO hp (fun b hb => upd_ne hb) ⟨ks, upd_same, hk⟩)⟩⟩
/-! ### names -/
theorem vis_of {sc : Scope} (h : X.env.scope = sc) (v : Vis sc x) : Vis X.env.scope x := by rw [h]; exact v
theorem loc_of {sc : Scope} (h : X.env.scope = sc) (v : Loc sc x) : Loc X.env.scope x := by rw [h]; exact v
theorem nm_of {N : List Str} (h : X.N = N) (v : N[i]? = some x) : X.N[i]? = some x := by rw [h]; exact v
theorem gl_of {sc : Scope} (h : X.env.scope = sc) (v : sc.names.lookup x = some .globalImplicit) : Gl X x := by
  show X.env.scope.names.lookup x = _
  rw [h]; exact v
theorem rel_other {env : Env} {nk : NameKind} (hk : nk ≠ .free) : ∀ {names : List (Str × NameKind)}, names.lookup x = some nk → (names.map fun (n, k) => if (k == NameKind.free && env.scope.kind == .function && env.kindOf n == some .cell) then (n, NameKind.cell) else (n, k)).lookup x = some nk
  | [], h => by simp at h
  | (n, k) :: r, h => by
    simp only [List.lookup_cons, List.map_cons] at h ⊢
    by_cases hx : x = n
    · subst hx
      simp only [beq_self_eq_true] at h
      cases h
      have : (nk == NameKind.free) = false := by simpa using hk
      simp [this]
    · have hx' : (x == n) = false := by simpa using hx
      rw [hx'] at h
      simp only at h
      have ih := rel_other (env := env) hk h
      by_cases c : (k == NameKind.free && env.scope.kind == .function && env.kindOf n == some .cell) = true
      · rw [if_pos c]; simp only [List.lookup_cons, hx']; exact ih
      · rw [if_neg c]; simp only [List.lookup_cons, hx']; exact ih
theorem rel_free {env : Env} : ∀ {names : List (Str × NameKind)}, names.lookup x = some .free → (names.map fun (n, k) => if (k == NameKind.free && env.scope.kind == .function && env.kindOf n == some .cell) then (n, NameKind.cell) else (n, k)).lookup x = some .cell ∨ (names.map fun (n, k) => if (k == NameKind.free && env.scope.kind == .function && env.kindOf n == some .cell) then (n, NameKind.cell) else (n, k)).lookup x = some .free
  | [], h => by simp at h
  | (n, k) :: r, h => by
    simp only [List.lookup_cons, List.map_cons] at h ⊢
    by_cases hx : x = n
    · subst hx
      simp only [beq_self_eq_true] at h
      cases h
      by_cases c : (NameKind.free == NameKind.free && env.scope.kind == .function && env.kindOf x == some .cell) = true
      · rw [if_pos c]; left; simp
      · rw [if_neg c]; right; simp
    · have hx' : (x == n) = false := by simpa using hx
      rw [hx'] at h
      simp only at h
      have ih := rel_free (env := env) h
      by_cases c : (k == NameKind.free && env.scope.kind == .function && env.kindOf n == some .cell) = true
      · rw [if_pos c]; simp only [List.lookup_cons, hx']; exact ih
      · rw [if_neg c]; simp only [List.lookup_cons, hx']; exact ih
/-- a name of a comprehension's own -/
theorem visL {scope : Scope} {env : Env} (h : scope.names.lookup x = some .local) : Vis (relabel scope env) x := .inl (rel_other (by decide) h)
theorem locL {scope : Scope} {env : Env} (h : scope.names.lookup x = some .local) : Loc (relabel scope env) x := .inl (rel_other (by decide) h)
theorem visC {scope : Scope} {env : Env} (h : scope.names.lookup x = some .cell) : Vis (relabel scope env) x := .inr (.inl (rel_other (by decide) h))
/-- a name of the def around it -/
theorem visF {scope : Scope} {env : Env} (h : scope.names.lookup x = some .free) : Vis (relabel scope env) x := by
  rcases rel_free (env := env) h with z | z
  · exact .inr (.inl z)
  · exact .inr (.inr z)
theorem glB {s : Shared} {H : Hp} {scope : Scope} {cl : List (Str × Addr)} {C : Addr} {fp : List Addr} (h : scope.names.lookup x = some .globalImplicit) : Gl (X.blk s H scope (compEnvC scope cl C X.env) fp) x := rel_other (env := X.env) (by decide) h
theorem cons_len {ma : M D} {ms : M (List D)} {n : Nat} (h : ∀ env ds env', ms env = .ok ds env' → ds.length = n) : ∀ env ds env', consM ma ms env = .ok ds env' → ds.length = n + 1 := by
  intro env ds env' he
  unfold consM M.bind at he
  cases h1 : ma env with
  | ok d e1 =>
    rw [h1] at he
    simp only [R.bind] at he
    cases h2 : ms e1 with
    | ok r e2 =>
      rw [h2] at he
      simp only [M.ret] at he
      cases he
      rw [List.length_cons, h _ _ _ h2]
    | ex c e2 => rw [h2] at he; cases he
    | st => rw [h2] at he; cases he
  | ex c e1 => rw [h1] at he; cases he
  | st => rw [h1] at he; cases he
theorem nil_len : ∀ env ds env', (M.ret [] : M (List D)) env = .ok ds env' → ds.length = 0 := fun env ds env' h => by cases h; rfl
end
end Fx

set_option Elab.async false
set_option linter.all false
set_option maxRecDepth 100000
set_option maxHeartbeats 4000000
/-! Fx16: a call by a promise that knows its def; tests by truth; the law's own call. -/
namespace Fx
open PySem PySem.Spec PyProof.Rows L2 Evl
/-- a def of the text with its promise -/
structure Cal (P : Program) (w : World) (K : PySem.W.Frag) (mg : Str → Option Value) (base : Heap) (k : Nat) (x : Str) (n : Nat) (sp : Sp) : Prop where
  ex : ∃ (f : Addr) (fd : FuncData) (ps : List Str), ps.length = n ∧ FnG P w K mg base k f fd ps sp ∧ mg x = some (.ref f) ∧ PySem.W.keepIn K (.ref f) = true ∧ Binds K fd ps []
section
variable {X : Cx} {W : Wi} {a b c : Expr} {ma mb : M D} {pos p q p2 : Pos} {x y : Str} {es : List Expr} {ms : M (List D)} {i k j n : Nat}
theorem fe_cal {F : Fn} (c : Cal X.prog X.w X.K X.mg X.base k x n (spF X.K X.mg n F)) (hr : Room j X.A) (hk : k ≤ j) (hgd : X.A.guards = some []) (hg : Gl X x) (hx : ∀ σ, PassesAt (L2.CX X.prog X.w) X σ (WE W.W σ))
    (ha : FA X W (a :: es) ms) (hn : ∀ env ds env', ms env = .ok ds env' → ds.length = n) (hdb : (x == ("__debug__" : Str)) = false := by decide) (he : starEach (a :: es) X.env = (false, eval a X.env) :: starEach es X.env := by rfl) (hpl : (backTo pos (starEach es X.env)).any (·.1) = false := by rfl) : FE X W (.Call (.Name x p) (a :: es) [] pos) (callM F ms) := by
  obtain ⟨f, fd, ps, _, G, hm, hkp, hb⟩ := c.ex
  exact fe_call G (hr.mono hk) hgd hg hm hkp hb hx ha hn hdb he hpl
theorem fe_calO {F : FnO} (c : Cal X.prog X.w X.K X.mg X.base k x (n + 1) (spO X.K X.mg n F)) (hr : Room j X.A) (hk : k ≤ j) (hgd : X.A.guards = some []) (hg : Gl X x) (hx : ∀ σ, PassesAt (L2.CX X.prog X.w) X σ (WE W.W σ))
    (hN : X.N[i]? = some y) (hv : Vis X.env.scope y) (ha : FA X W es ms) (hn : ∀ env ds env', ms env = .ok ds env' → ds.length = n) (hd : (y == ("__debug__" : Str)) = false := by decide) (hcd : (y == ("__classdict__" : Str)) = false := by decide) (hdb : (x == ("__debug__" : Str)) = false := by decide)
    (he : starEach (.Name y q :: es) X.env = (false, eval (.Name y q) X.env) :: starEach es X.env := by rfl) (hpl : (backTo pos (starEach es X.env)).any (·.1) = false := by rfl) : FE X W (.Call (.Name x p) (.Name y q :: es) [] pos) (callO i F ms) := by
  obtain ⟨f, fd, ps, _, G, hm, hkp, hb⟩ := c.ex
  exact fe_callO G (hr.mono hk) hgd hg hm hkp hb hx hN hv ha hn hd hcd hdb he hpl
theorem fs_calD {tpos pos' : Pos} {F : List D → Option (List (Str × D))} (c : Cal X.prog X.w X.K X.mg X.base k x n (spD n F X.K)) (hr : Room j X.A) (hk : k ≤ j) (hgd : X.A.guards = some []) (hg : Gl X x) (hx : ∀ σ, PassesAt (L2.CX X.prog X.w) X σ (WE W.W σ))
    (ha : FA X W (a :: es) ms) (hn : ∀ env ds env', ms env = .ok ds env' → ds.length = n) (hN : X.N.Nodup) (hi : X.N[i]? = some y) (hy : Loc X.env.scope y) (hf : X.fn y = true ∨ X.env.scope.names.lookup y = some .local) (hdb : (x == ("__debug__" : Str)) = false := by decide) (he : starEach (a :: es) X.env = (false, eval a X.env) :: starEach es X.env := by rfl) (hpl : (backTo pos (starEach es X.env)).any (·.1) = false := by rfl)
    (hs : swapsWith (.Call (.Name x p) (a :: es) [] pos) (some (.Name y pos')) tpos.line X.env = pure false := by rfl) : FS X W (.Assign [.Name y pos'] (.Call (.Name x p) (a :: es) [] pos) tpos) (setD i ms F) := by
  obtain ⟨f, fd, ps, _, G, hm, hkp, hb⟩ := c.ex
  exact fs_setD G (hr.mono hk) hgd hg hm hkp hb hx ha hn hN hi hy hdb he hpl hs hf
/-! ### a value as a test -/
def truM (m : M D) : M Bool := m.bind fun d => match d with
  | .bool b => M.ret b
  | .int i => M.ret (i != 0)
  | .none => M.ret false
  | .list xs => M.ret (!xs.isEmpty)
  | .tuple xs => M.ret (!xs.isEmpty)
  | _ => M.st
theorem empty_rel {K : PySem.W.Frag} {G : Hp} {vs : List V} {ds : List D} (h : DRAll K G vs ds) : vs.isEmpty = ds.isEmpty := by cases h <;> rfl
theorem ft_tru (ha : FE X W a ma) (he : ∀ whole, isTrue a X.env whole = (do let v ← whole; standAt a.pos; holding [v] (truthy v)) := by intro _; rfl) : FT X W a (truM ma) :=
  pt_mono (pt_truth ha he) fun σ H Q ⟨g, G, e, ig, rl, q⟩ => ⟨g, G, e, ig, rl, bindP q fun G1 H1 e1 d v eg r1 rv q1 => by
    cases rv with
    | bl b => exact ⟨b, rfl, retP r1 rfl q1⟩
    | int i => exact ⟨_, rfl, retP r1 rfl q1⟩
    | non => exact ⟨_, rfl, retP r1 rfl q1⟩
    | lst h1 h2 => exact ⟨_, .inl ⟨_, sq_of (r1.gh _ _ h1), rfl⟩, retP r1 (by rw [empty_rel h2]) q1⟩
    | tup h1 h2 => exact ⟨_, .inr (.inl ⟨_, ex_t r1.gh h1, rfl⟩), retP r1 (by rw [empty_rel h2]) q1⟩
    | str x => exact q1.elim
    | inst h1 h2 h3 h4 => exact q1.elim
    | ro h1 h2 => exact q1.elim⟩
end
/-! ### the law's call -/
/-- the law's promise, by its def's function: True at each script -/
theorem law_callG {P : Program} {w : World} {K : PySem.W.Frag} {mg mb : Str → Option Value} {k : Nat} {fa a : Addr} {fd : FuncData} {x : Str} {F0 : Fn} {s : Shared} {vs : List Value} {ns : List Int}
    (KX : K.In s.heap) (hns : s.heap.Ns mainGlobals mg) (hb : s.heap.Ns builtinsNs mb) (hbb : ∀ x : Str, x ≠ "__name__" → mb x = bootBuiltins x) (hlim : s.heap.NoLimit) (hg : s.gens = #[])
    (ha : s.heap.get? a = some { cls := .type "list", data := .seq vs.toArray }) (hi : IntsAre vs ns) (hl : ns.length ≤ sizeLine) (hr : Room k callerA)
    (F : ∀ base : Heap, K.In base → base.Ns mainGlobals mg → FnG P w K mg base k fa fd [x] (spF K mg 1 F0)) (hbind : ∀ (s : Shared) (u : Value), BindsTo s fd ⟨[u], []⟩ [(x, u)])
    (hF : F0 [.dict [(.none, .list (ns.map PyData.int))]] = .ok (.bool true)) :
    codeAny (model P w) callerA (.call (.ref fa) ⟨[.ref a], []⟩) (fun r s' => r = .ok (.ret (.bool true)) ∧ OldK s.heap s'.heap ∧ s'.os = s.os ∧ AllBare s'.gens) s := by
  have rv := vals_ints hi
  have lenV := hi.length
  have main : ∀ H : Hp, Only H → SqL K H a (ns.map V.int) → HOk P w H s.heap → (∀ b, H b ≠ none → b = a) → (H a ≠ none → K.lookup a = none) →
      codeAny (model P w) callerA (.call (.ref fa) ⟨[.ref a], []⟩) (fun r s' => r = .ok (.ret (.bool true)) ∧ OldK s.heap s'.heap ∧ s'.os = s.os ∧ AllBare s'.gens) s := by
    intro H hO hS hok hA hK
    have free : ∀ {b : Addr} {o : Obj}, s.heap.get? b = some o → (∀ xs n, o.data ≠ .seq xs n) → H b = none := fun {b o} e d => by
      cases q : H b with
      | none => rfl
      | some u =>
        have e' : b = a := hA b (by rw [q]; simp)
        subst e'
        rw [ha] at e
        cases e
        exact absurd rfl (d _ _)
    have nsK : ∀ {b : Addr} {m : Str → Option Value}, s.heap.Ns b m → (hidT s.heap H).Ns b m := fun {b m} ⟨o, es, ep, e, d, r⟩ => ⟨o, es, ep, hidT_get e (free e fun xs n z => by rw [d] at z; cases z), d, r⟩
    have hKb : K.In (hidT s.heap H) := fun b o e => hidT_get (KX b o e) (by
      cases q : H b with
      | none => rfl
      | some u =>
        have e' : b = a := hA b (by rw [q]; simp)
        subst e'
        rw [hK (by rw [q]; simp)] at e
        cases e)
    have hM : Mod K mg (hidT s.heap H) := ⟨hKb, nsK hns, ⟨mb, nsK hb, hbb⟩, let ⟨mc, h1, h2⟩ := hlim; ⟨mc, nsK h1, h2⟩⟩
    have e0 : Env0 P w K mg (hidT s.heap H) callerA [] s H := ⟨rfl, hM, fun b o e => of_hidT e, Nat.le_of_eq (hidT_size _ _), trivial, fun b hb => absurd (show b ∈ ([] : List Addr) from hb) (by simp), hok, .of_eq hg⟩
    have dr : DRAll K H (ns.map V.int) (ns.map PyData.int) := by
      clear hS hi hl rv lenV ha hF
      induction ns with
      | nil => exact .nil
      | cons n r ih => exact .cons (.int n) ih
    have sp1 : spF K mg 1 F0 [.ref a] H (fun v _ => v = .bl true) (fun _ _ _ => False) := by
      refine ⟨rfl, H, _, Ex.refl H, .cons (.ro hS dr) .nil, ?_⟩
      rw [hF]
      exact fun v G' H' _ h => by cases h; rfl
    refine codeAny_mono ((F _ hKb (nsK hns)).run callerA [] s H ⟨[.ref a], []⟩ [.ref a] [.ref a] _ _ hr rfl e0 (hbind s (.ref a)) (.cons rfl .nil) sp1) fun r s' h => ?_
    cases r with
    | error e =>
      obtain ⟨_, _, _, _, _, _, _, _, _, _, _, _, z⟩ := h
      exact z.elim
    | ok fl =>
      cases fl with
      | next => exact False.elim h
      | brk => exact False.elim h
      | cont => exact False.elim h
      | ret u =>
        obtain ⟨v, H', os, bare, un, hok', r', q⟩ := h
        have q' : v = .bl true := q
        subst q'
        obtain rfl : u = Value.bool true := r'
        refine ⟨rfl, OldK.of_keep fun b o e => ?_, os, bare⟩
        cases q : H b with
        | none => exact un.keep b o e q (by intro z; exact absurd (show b ∈ ([] : List Addr) from z) (by simp)) (by simp)
        | some u =>
          rcases hO b with z | ⟨ob, xs, z⟩
          · rw [q] at z
            cases z
          · have z2 := un.frzs b ob _ z
            obtain ⟨e1, _⟩ := hok b _ z
            obtain ⟨e2, _⟩ := hok' b _ z2
            rw [e] at e1
            cases e1
            exact e2
  cases hk : K.lookup a with
  | some o =>
    have e := KX a o hk
    rw [ha] at e
    cases e
    exact main (fun _ => none) (fun _ => .inl rfl) (.inr ⟨_, vs.toArray, _, hk, rfl, rfl, rfl, by rw [List.size_toArray, lenV]; exact hl, by simpa using rv⟩) (fun b u z => nomatch (show (none : Option HO) = some u from z)) (fun b z => absurd rfl z) fun z => absurd rfl z
  | none =>
    let H1 : Hp := fun b => if b = a then some (.frz { cls := .type "list", data := .seq vs.toArray } (.lst (ns.map V.int))) else none
    have h1 : H1 a = some (.frz { cls := .type "list", data := .seq vs.toArray } (.lst (ns.map V.int))) := if_pos rfl
    have h2 : ∀ b, b ≠ a → H1 b = none := fun b hb => if_neg hb
    refine main H1 (fun b => ?_) (.inl (.inr ⟨_, h1⟩)) (fun b u z => ?_) (fun b z => ?_) fun _ => hk
    · by_cases hb : b = a
      · subst hb; exact .inr ⟨_, _, h1⟩
      · exact .inl (h2 b hb)
    · by_cases hb : b = a
      · subst hb
        rw [h1] at z
        cases z
        exact ⟨ha, by rw [List.length_map]; exact hl, vs, _, rv, ha⟩
      · rw [h2 b hb] at z
        cases z
    · exact Classical.byContradiction fun hb => z (h2 b hb)
theorem walkG {l : PySem.W.OpenLaw} {n k : Nat} {q : Program} {loose : List Str} {XP : (Str → Option Value) → Heap → Prop} {YP : World → Heap → Prop} {d : DefRec} {K : Params → PySem.W.Frag} {x : Str} {F0 : Params → Fn}
    (hn : l.most = some n) (hn2 : n ≤ sizeLine) (hdf : d.params.defaults = []) (hr : Room k callerA) (hY : ∀ (w : World) (h : Heap), YP w h → (K w.params).In h)
    (F : ∀ (w : World) (mg : Str → Option Value) (fa : Addr) (h : Heap), (K w.params).In h → h.Ns mainGlobals mg → mg d.name = some (.ref fa) →
      ∃ fd : FuncData, (∀ (s : Shared) (u : Value), BindsTo s fd ⟨[u], []⟩ [(x, u)]) ∧ ∀ base : Heap, (K w.params).In base → base.Ns mainGlobals mg → FnG l.prog w (K w.params) mg base k fa fd [x] (spF (K w.params) mg 1 (F0 w.params)))
    (hF : ∀ (p : Params) (ns : List Int), ns.length ≤ n → F0 p [.dict [(.none, .list (ns.map PyData.int))]] = .ok (.bool true)) :
    PySem.W.WalkO q loose XP YP l.row.toRowW d [] (fun f vs => PySem.call f vs) := by
  refine Att.attach_call hn hdf fun w s₀ s₁ mg mb fa o pm cd doc a vs ns G Y ho hd hcd hmg hobj hints hlen hg => ?_
  have KX := hY w _ Y
  obtain ⟨fd, hb, hFn⟩ := F w mg fa _ KX G.T.g hmg
  exact law_callG KX G.T.g G.T.b G.T.builtins G.T.nolimit hg hobj hints (Nat.le_trans hlen hn2) hr hFn hb (hF w.params ns hlen)
end Fx

set_option Elab.async false
set_option linter.all false
set_option maxRecDepth 100000
set_option maxHeartbeats 4000000
/-! Fx17: the rules, short, as a program prints them. -/
namespace Fx
open PySem PySem.Spec PyProof.Rows L2 Evl
/-- where a body runs: N its names, sc its scope, b: a def's (else a comprehension's) -/
structure Run (X : Cx) (W : Wi) (N : List Str) (sc : Scope) (b : Bool) (k : Nat) : Prop where
  nm : X.N = N
  nd : N.Nodup
  vis : ∀ x, Vis sc x → Vis X.env.scope x
  gl : ∀ x, sc.names.lookup x = some .globalImplicit → Gl X x
  asg : ∀ x, sc.names.lookup x = some .local → Loc X.env.scope x ∧ (X.fn x = true ∨ X.env.scope.names.lookup x = some .local)
  asc : b = true → ∀ x, Loc sc x → Loc X.env.scope x ∧ (X.fn x = true ∨ X.env.scope.names.lookup x = some .local)
  sce : b = true → X.env.scope = sc
  calm : X.calm = true
  room : Room k X.A
  gd : X.A.guards = some []
  ps : ∀ σ, PassesAt (L2.CX X.prog X.w) X σ (WE W.W σ)
theorem run_def {X : Cx} {W : Wi} {N : List Str} {sc : Scope} {k : Nat} (hN : X.N = N) (hnd : N.Nodup) (hsc : X.env.scope = sc) (hc : X.calm = true) (hfn : X.fn = fun _ => true) (hr : Room k X.A) (hg : X.A.guards = some []) (tk : Takes X W.W) : Run X W N sc true k where
  nm := hN
  nd := hnd
  vis := fun x v => by rw [hsc]; exact v
  gl := fun x h => gl_of hsc h
  asg := fun x h => ⟨by rw [hsc]; exact .inl h, .inl (by rw [hfn])⟩
  asc := fun _ x h => ⟨by rw [hsc]; exact h, .inl (by rw [hfn])⟩
  sce := fun _ => hsc
  calm := hc
  room := hr
  gd := hg
  ps := fun σ => passAt tk σ
theorem run_blk {X : Cx} {W : Wi} {N : List Str} {sc scope : Scope} {b : Bool} {k : Nat} (R : Run X W N sc b k) {s : Shared} {H : Hp} {cl : List (Str × Addr)} {C : Addr} {fp : List Addr} : Run (X.blk s H scope (compEnvC scope cl C X.env) fp) noW N scope false k where
  nm := R.nm
  nd := R.nd
  vis := fun x v => by
    rcases v with v | v | v
    · exact visL v
    · exact visC v
    · exact visF v
  gl := fun x h => glB h
  asg := fun x h => ⟨locL h, .inr (rel_other (by decide) h)⟩
  asc := fun z => by cases z
  sce := fun z => by cases z
  calm := R.calm
  room := R.room
  gd := R.gd
  ps := fun σ => pass_no σ
section
variable {X : Cx} {W : Wi} {N : List Str} {sc : Scope} {bb : Bool} {k kk j i n : Nat} {a b c e : Expr} {ma mb mc : M D} {ta tb : M Bool} {pos p q p2 pos' tpos : Pos} {x y key : Str} {es : List Expr} {ms : M (List D)}
theorem r_var (R : Run X W N sc bb k) (i : Nat) (h : N[i]? = some x := by rfl) (v : Vis sc x := by first | exact .inl rfl | exact .inr (.inl rfl) | exact .inr (.inr rfl)) (hd : (x == ("__debug__" : Str)) = false := by decide) (hcd : (x == ("__classdict__" : Str)) = false := by decide) : FE X W (.Name x pos) (vr i) :=
  fe_var (by rw [R.nm]; exact h) (R.vis x v) hd hcd
theorem r_frz (R : Run X W N sc bb k) (i : Nat) (h : N[i]? = some x := by rfl) (v : Vis sc x := by first | exact .inl rfl | exact .inr (.inl rfl) | exact .inr (.inr rfl)) (hd : (x == ("__debug__" : Str)) = false := by decide) (hcd : (x == ("__classdict__" : Str)) = false := by decide) : FE X W (.Name x pos) (frz i) :=
  fe_frz (by rw [R.nm]; exact h) (R.vis x v) hd hcd
theorem r_add (ha : FE X W a ma) (hb : FE X W b mb) : FE X W (.BinOp a .Add b pos) (m2 ma mb addD) := fe_op op_addD pr_add ha hb
theorem r_sub (ha : FE X W a ma) (hb : FE X W b mb) : FE X W (.BinOp a .Sub b pos) (m2 ma mb subD) := fe_op op_sub pr_sub ha hb
theorem r_mul (ha : FE X W a ma) (hb : FE X W b mb) : FE X W (.BinOp a .Mult b pos) (m2 ma mb mulD) := fe_op op_mulD pr_mul ha hb
theorem r_div (ha : FE X W a ma) (hb : FE X W b mb) : FE X W (.BinOp a .FloorDiv b pos) (m2 ma mb fdivD) := fe_op op_fdivX pr_fdiv ha hb
theorem r_mod (ha : FE X W a ma) (hb : FE X W b mb) : FE X W (.BinOp a .Mod b pos) (m2 ma mb modD) := fe_op op_modN pr_mod ha hb
theorem r_pow (ha : FE X W a ma) (hb : FE X W b mb) : FE X W (.BinOp a .Pow b pos) (m2 ma mb powD) := fe_op op_powX pr_pow ha hb
theorem r_neg (ha : FE X W a ma) : FE X W (.UnaryOp .USub a pos) (m1 ma negD) := fe_un un_neg pr_neg ha
theorem t_eq (R : Run X W N sc bb k) (ha : FE X W a ma) (hb : FE X W b mb) : FT X W (.Compare a [.Eq] [b] pos) (asB (m2 ma mb eqD)) := ft_cmp (op_eqD R.room.units) pr_eq ha hb (nomark _)
theorem t_ne (R : Run X W N sc bb k) (ha : FE X W a ma) (hb : FE X W b mb) : FT X W (.Compare a [.NotEq] [b] pos) (asB (m2 ma mb neD)) := ft_cmp (op_neD R.room.units) pr_ne ha hb (nomark _)
theorem t_lt (ha : FE X W a ma) (hb : FE X W b mb) : FT X W (.Compare a [.Lt] [b] pos) (asB (m2 ma mb ltD)) := ft_cmp op_lt pr_lt ha hb (nomark _)
theorem t_le (ha : FE X W a ma) (hb : FE X W b mb) : FT X W (.Compare a [.LtE] [b] pos) (asB (m2 ma mb leD)) := ft_cmp op_le pr_le ha hb (nomark _)
theorem t_gt (ha : FE X W a ma) (hb : FE X W b mb) : FT X W (.Compare a [.Gt] [b] pos) (asB (m2 ma mb gtD)) := ft_cmp op_gt pr_gt ha hb (nomark _)
theorem t_ge (ha : FE X W a ma) (hb : FE X W b mb) : FT X W (.Compare a [.GtE] [b] pos) (asB (m2 ma mb geD)) := ft_cmp op_ge pr_ge ha hb (nomark _)
theorem t_in (ha : FE X W a ma) (hb : FE X W b mb) (hm : behindInMarks .In b = false := by rfl) : FT X W (.Compare a [.In] [b] pos) (asB (m2 ma mb inSD)) := ft_cmp op_in_str pr_inS ha hb hm
theorem t_isN (ha : FE X W a ma) (hb : FE X W b mb) : FT X W (.Compare a [.Is] [b] pos) (asB (m2 ma mb isND)) := ft_cmp op_isN pr_isN ha hb (nomark _)
theorem t_notN (ha : FE X W a ma) (hb : FE X W b mb) : FT X W (.Compare a [.IsNot] [b] pos) (asB (m2 ma mb notND)) := ft_cmp op_notN pr_notN ha hb (nomark _)
/-- f(e, ..) of a def of the text -/
theorem r_call {F : Fn} (R : Run X W N sc bb k) (c : Cal X.prog X.w X.K X.mg X.base j x n (spF X.K X.mg n F)) (ha : FA X W (a :: es) ms) (hn : ∀ env ds env', ms env = .ok ds env' → ds.length = n) (hk : j ≤ k := by decide) (hg : sc.names.lookup x = some .globalImplicit := by rfl) (hdb : (x == ("__debug__" : Str)) = false := by decide)
    (he : starEach (a :: es) X.env = (false, eval a X.env) :: starEach es X.env := by rfl) (hpl : (backTo pos (starEach es X.env)).any (·.1) = false := by rfl) : FE X W (.Call (.Name x p) (a :: es) [] pos) (callM F ms) :=
  fe_cal c R.room hk R.gd (R.gl x hg) R.ps ha hn hdb he hpl
theorem r_callO {F : FnO} (R : Run X W N sc bb k) (i : Nat) (c : Cal X.prog X.w X.K X.mg X.base j x (n + 1) (spO X.K X.mg n F)) (ha : FA X W es ms) (hn : ∀ env ds env', ms env = .ok ds env' → ds.length = n) (h : N[i]? = some y := by rfl) (v : Vis sc y := by first | exact .inl rfl | exact .inr (.inl rfl) | exact .inr (.inr rfl))
    (hk : j ≤ k := by decide) (hg : sc.names.lookup x = some .globalImplicit := by rfl) (hd : (y == ("__debug__" : Str)) = false := by decide) (hcd : (y == ("__classdict__" : Str)) = false := by decide) (hdb : (x == ("__debug__" : Str)) = false := by decide)
    (he : starEach (.Name y q :: es) X.env = (false, eval (.Name y q) X.env) :: starEach es X.env := by rfl) (hpl : (backTo pos (starEach es X.env)).any (·.1) = false := by rfl) : FE X W (.Call (.Name x p) (.Name y q :: es) [] pos) (callO i F ms) :=
  fe_calO c R.room hk R.gd (R.gl x hg) R.ps (by rw [R.nm]; exact h) (R.vis y v) ha hn hd hcd hdb he hpl
theorem s_callD {F : List D → Option (List (Str × D))} (R : Run X W N sc bb k) (i : Nat) (c : Cal X.prog X.w X.K X.mg X.base j x n (spD n F X.K)) (ha : FA X W (a :: es) ms) (hn : ∀ env ds env', ms env = .ok ds env' → ds.length = n) (h : N[i]? = some y := by rfl) (v : sc.names.lookup y = some .local := by rfl)
    (hk : j ≤ k := by decide) (hg : sc.names.lookup x = some .globalImplicit := by rfl) (hdb : (x == ("__debug__" : Str)) = false := by decide) (he : starEach (a :: es) X.env = (false, eval a X.env) :: starEach es X.env := by rfl) (hpl : (backTo pos (starEach es X.env)).any (·.1) = false := by rfl)
    (hs : swapsWith (.Call (.Name x p) (a :: es) [] pos) (some (.Name y pos')) tpos.line X.env = pure false := by rfl) : FS X W (.Assign [.Name y pos'] (.Call (.Name x p) (a :: es) [] pos) tpos) (setD i ms F) :=
  fs_calD c R.room hk R.gd (R.gl x hg) R.ps ha hn (by rw [R.nm]; exact R.nd) (by rw [R.nm]; exact h) (R.asg y v).1 (R.asg y v).2 hdb he hpl hs
theorem s_set (R : Run X W N sc bb k) (i : Nat) (he : FE X W a ma) (h : N[i]? = some x := by rfl) (v : sc.names.lookup x = some .local := by rfl) (hs : swapsWith a (some (.Name x pos')) pos.line X.env = pure false := by rfl) : FS X W (.Assign [.Name x pos'] a pos) (setM i ma) :=
  fs_set (by rw [R.nm]; exact R.nd) (by rw [R.nm]; exact h) (R.asg x v).1 he hs (R.asg x v).2
/-- the same for a name that a comprehension reads -/
theorem s_setC (R : Run X W N sc true k) (i : Nat) (he : FE X W a ma) (h : N[i]? = some x := by rfl) (v : sc.names.lookup x = some .cell := by rfl) (hs : swapsWith a (some (.Name x pos')) pos.line X.env = pure false := by rfl) : FS X W (.Assign [.Name x pos'] a pos) (setM i ma) :=
  fs_set (by rw [R.nm]; exact R.nd) (by rw [R.nm]; exact h) (R.asc rfl x (.inr v)).1 he hs (R.asc rfl x (.inr v)).2
theorem s_setO (R : Run X W N sc bb k) (i : Nat) (he : FF X W a ms) (h : N[i]? = some x := by rfl) (v : sc.names.lookup x = some .local := by rfl) (hs : swapsWith a (some (.Name x pos')) pos.line X.env = pure false := by rfl) : FS X W (.Assign [.Name x pos'] a pos) (setO i ms) :=
  fs_setO (by rw [R.nm]; exact R.nd) (by rw [R.nm]; exact h) (R.asg x v).1 he hs (R.asg x v).2
theorem g_name (R : Run X W N sc bb k) (i : Nat) (h : N[i]? = some x := by rfl) (v : sc.names.lookup x = some .local := by rfl) : FG X (.Name x pos) (tgN i) [i] :=
  fg_name (by rw [R.nm]; exact R.nd) (by rw [R.nm]; exact h) (R.asg x v).1 (R.asg x v).2
theorem g_nameC (R : Run X W N sc true k) (i : Nat) (h : N[i]? = some x := by rfl) (v : sc.names.lookup x = some .cell := by rfl) : FG X (.Name x pos) (tgN i) [i] :=
  fg_name (by rw [R.nm]; exact R.nd) (by rw [R.nm]; exact h) (R.asc rfl x (.inr v)).1 (R.asc rfl x (.inr v)).2
theorem g_tup {u : Tgs} {ix : List Nat} {kt : Nat} (R : Run X W N sc bb k) (h : FGs X es u ix) (hn : (assignEach es X.env).length = es.length := by rfl) (hst : (assignEach es X.env).findIdx? (·.1) = none := by rfl) : FG X (.Tuple es kt pos) (tgT u es.length) ix := fg_tup R.calm h hn hst
theorem s_for {iter tg : Expr} {body : List Stmt} {mi : M (List D)} {t : Tg} {ix : List Nat} {mbd : M Fl} (R : Run X W N sc bb k) (hp : PassesOwn (model X.prog X.w) X.A X.env X.xe) (hi : FI X W tg iter mi) (hg : FG X tg t ix) (hb : FB X W body mbd) (hs : ∀ x, foldedSetIterable iter X.env x = pure x := by intro; rfl) : FS X W (.For tg iter body [] pos) (forL mi t mbd) :=
  fs_for hp R.calm hi hg hb hs
theorem i_enum {elts : List Expr} {kt : Nat} (R : Run X W N sc bb k) (hm : X.mg "enumerate" = none) (ha : FE X W a ma) (hg : sc.names.lookup ("enumerate" : Str) = some .globalImplicit := by rfl) (hs : starEach [a] X.env = [(false, eval a X.env)] := by rfl) : FI X W (.Tuple elts kt tpos) (.Call (.Name "enumerate" p) [a] [] pos) (enumM ma) := fi_enum (R.gl _ hg) hm ha hs
theorem i_range1 {tg : Expr} (R : Run X W N sc bb k) (hm : X.mg "range" = none) (ha : FA X W [a] ms) (hg : sc.names.lookup ("range" : Str) = some .globalImplicit := by rfl) (hs : starEach [a] X.env = [(false, eval a X.env)] := by rfl) : FI X W tg (.Call (.Name "range" p) [a] [] pos) (rng1 ms) := fi_range1 (R.gl _ hg) hm ha hs
theorem r_sum (R : Run X W N sc bb k) (hm : X.mg "sum" = none) (ha : FA X W (a :: es) ms) (hg : sc.names.lookup ("sum" : Str) = some .globalImplicit := by rfl) (he : starEach (a :: es) X.env = (false, eval a X.env) :: starEach es X.env := by rfl) (hpl : (backTo pos (starEach es X.env)).any (·.1) = false := by rfl) : FE X W (.Call (.Name "sum" p) (a :: es) [] pos) (bltM ms sumD) :=
  fe_sum R.calm (R.gl _ hg) hm ha he hpl
theorem r_str {cs : List Nat} (R : Run X W N sc bb k) (T : ∀ C ∈ cs, StC X.K C) (hm : X.mg "str" = none) (ha : FE X W a ma) (hg : sc.names.lookup ("str" : Str) = some .globalImplicit := by rfl) (he : starEach [a] X.env = (false, eval a X.env) :: starEach [] X.env := by rfl) (hpl : (backTo pos (starEach [] X.env)).any (·.1) = false := by rfl) : FE X W (.Call (.Name "str" p) [a] [] pos) (bltM (consM ma (M.ret [])) (strD cs)) :=
  fe_str1 R.room T (R.gl _ hg) hm ha he hpl
/-- isinstance(e, C), C a class of the text -/
theorem r_isO {cA : Addr} {tbl : List (Nat × Bool)} (R : Run X W N sc bb k) (T : ∀ p ∈ tbl, PySem.FxE.IsC X.K p.1 ∧ PySem.W.kitOne X.K (.ref p.1) (.ref cA) = some p.2) (hm : X.mg "isinstance" = none) (hC : X.mg x = some (.ref cA)) (ha : FE X W a ma) (hg : sc.names.lookup ("isinstance" : Str) = some .globalImplicit := by rfl) (hg2 : sc.names.lookup x = some .globalImplicit := by rfl) (hdb : (x == ("__debug__" : Str)) = false := by decide)
    (he : starEach [a, .Name x p2] X.env = (false, eval a X.env) :: starEach [.Name x p2] X.env := by rfl) (he2 : starEach [.Name x p2] X.env = (false, eval (.Name x p2) X.env) :: starEach [] X.env := by rfl) (hpl : (backTo pos (starEach [.Name x p2] X.env)).any (·.1) = false := by rfl) : FE X W (.Call (.Name "isinstance" p) [a, .Name x p2] [] pos) (m1 ma (isXD tbl)) :=
  fe_isX (cv := .ref cA) (fun u h => h) T (R.gl _ hg) hm ha (pe_glob (R.gl x hg2) hC rfl hdb) he he2 hpl
/-- isinstance(e, T), T a built-in class -/
theorem r_isB {T0 : String} {tbl : List (Nat × Bool)} (R : Run X W N sc bb k) (T : ∀ p ∈ tbl, PySem.FxE.IsC X.K p.1 ∧ PySem.W.kitOne X.K (.ref p.1) (.type T0) = some p.2) (hm : X.mg "isinstance" = none) (hC : X.mg x = none) (hv : bootBuiltins x = some (.type T0)) (ha : FE X W a ma) (hg : sc.names.lookup ("isinstance" : Str) = some .globalImplicit := by rfl) (hg2 : sc.names.lookup x = some .globalImplicit := by rfl) (hn : x ≠ "__name__" := by decide) (hdb : (x == ("__debug__" : Str)) = false := by decide)
    (he : starEach [a, .Name x p2] X.env = (false, eval a X.env) :: starEach [.Name x p2] X.env := by rfl) (he2 : starEach [.Name x p2] X.env = (false, eval (.Name x p2) X.env) :: starEach [] X.env := by rfl) (hpl : (backTo pos (starEach [.Name x p2] X.env)).any (·.1) = false := by rfl) : FE X W (.Call (.Name "isinstance" p) [a, .Name x p2] [] pos) (m1 ma (isXD tbl)) :=
  fe_isX (cv := .ty T0) (fun u h => h) T (R.gl _ hg) hm ha (pe_bltn (R.gl x hg2) hC hv rfl hn hdb) he he2 hpl
/-- a list comprehension -/
theorem r_lc {tg iter elt : Expr} {ifs : List Expr} {scope : Scope} {mi : M (List D)} {t : Tg} {ix : List Nat} {mcd : M Bool} {me : M D} (own : List (Str × Nat)) (R : Run X W N sc true k) (ok : BlkOk N sc scope own) (hi : FI X W tg iter mi)
    (h : ∀ (s : Shared) (H : Hp) (C : Addr) (cl : List (Str × Addr)) (fp : List Addr), Run (X.blk s H scope (compEnvC scope cl C X.env) fp) noW N scope false k → FG (X.blk s H scope (compEnvC scope cl C X.env) fp) tg t ix ∧ FC (X.blk s H scope (compEnvC scope cl C X.env) fp) ifs mcd ∧ FE (X.blk s H scope (compEnvC scope cl C X.env) fp) noW elt me)
    (hix : ∀ i ∈ ix, i ∈ own.map (·.2) := by decide) (hs : ∀ x, foldedSetIterable iter X.env x = pure x := by intro _; rfl) : FF X W (.ListComp elt [⟨tg, iter, ifs, 0⟩] scope pos) (lcM mi t mcd me (own.map (·.2))) :=
  ff_lc R.calm (by rw [R.nm]; exact R.nd) hi (by rw [R.nm, R.sce rfl]; exact ok) (fun s H C cl fp => (h s H C cl fp (run_blk R)).1) (fun s H C cl fp => (h s H C cl fp (run_blk R)).2.1) (fun s H C cl fp => (h s H C cl fp (run_blk R)).2.2) hix hs
theorem r_ixK (R : Run X W N sc bb k) (i : Nat) (h : N[i]? = some x := by rfl) (v : Vis sc x := by first | exact .inl rfl | exact .inr (.inl rfl) | exact .inr (.inr rfl)) (hs : NoSl (.Constant (.str key) j p2) := by exact fun _ _ => rfl) (hd : (x == ("__debug__" : Str)) = false := by decide) (hcd : (x == ("__classdict__" : Str)) = false := by decide) :
    FE X W (.Subscript (.Name x q) (.Constant (.str key) j p2) pos) (ixK i key) := fe_ixK R.room (by rw [R.nm]; exact h) (R.vis x v) hs hd hcd
theorem s_setK (R : Run X W N sc bb k) (i : Nat) (ha : FE X W a ma) (h : N[i]? = some x := by rfl) (v : Vis sc x := by first | exact .inl rfl | exact .inr (.inl rfl) | exact .inr (.inr rfl)) (hs : swapsWith a (some (.Subscript (.Name x q) (.Constant (.str key) j p2) tpos)) pos.line X.env = pure false := by rfl) (hd : (x == ("__debug__" : Str)) = false := by decide) (hcd : (x == ("__classdict__" : Str)) = false := by decide) :
    FS X W (.Assign [.Subscript (.Name x q) (.Constant (.str key) j p2) tpos] a pos) (setK i key ma) := fs_setK R.room (by rw [R.nm]; exact h) (R.vis x v) ha hs hd hcd
end
/-! ### classes of exceptions -/
/-- a class of exceptions that the text can make -/
structure Exk (P : Program) (w : World) (K : PySem.W.Frag) (mg : Str → Option Value) (base : Heap) (k : Nat) (x : Str) (C : Addr) (f m vn : Str) : Prop where
  ex : ∃ (B newId initId : String) (tail : List Value) (fI : Addr) (fd : FuncData), PySem.FxE.Fam B newId initId tail ∧ ExC K C tail newId ∧ PySem.W.findIn K (.ref C) "__init__" = some (some (.ref fI)) ∧ PySem.W.typeIn K (.ref fI) = some (.type "function") ∧
    FnG P w K mg base k fI fd ["self", vn] (spInit C f m) ∧ Binds K fd ["self", vn] [] ∧ (∀ (s' : Shared) (self u : Value), K.In s'.heap → BindsTo s' fd ⟨[self], [(vn, u)]⟩ [("self", self), (vn, u)])
  mgC : mg x = some (.ref C)
section
variable {X : Cx} {W : Wi} {N : List Str} {sc : Scope} {bb : Bool} {k j : Nat} {a : Expr} {ma : M D} {pos p kpos : Pos} {x f m vn : Str} {C : Addr}
theorem r_mk (R : Run X W N sc bb k) (c : Exk X.prog X.w X.K X.mg X.base j x C f m vn) (ha : FE X W a ma) (hk : j + 1 ≤ k := by decide) (hg : sc.names.lookup x = some .globalImplicit := by rfl) (hdb : (x == ("__debug__" : Str)) = false := by decide) (he : starEach (a :: []) X.env = (false, eval a X.env) :: starEach [] X.env := by rfl) (hpl : (backTo pos (starEach [] X.env)).any (·.1) = false := by rfl) :
    FE X W (.Call (.Name x p) [a] [] pos) (m1 ma fun d => some (instD C (.str m) f d)) := by
  obtain ⟨B, newId, initId, tail, fI, fd, M, T, iC, tI, F1, hb, _⟩ := c.ex
  exact fe_mk M T iC tI F1 (R.room.mono hk) R.gd hb (R.gl x hg) c.mgC ha hdb he hpl
theorem r_mkK (R : Run X W N sc bb k) (c : Exk X.prog X.w X.K X.mg X.base j x C f m vn) (ha : FE X W a ma) (hk : j + 1 ≤ k := by decide) (hg : sc.names.lookup x = some .globalImplicit := by rfl) (hdb : (x == ("__debug__" : Str)) = false := by decide) (hall : (backToKw pos (keywordEach [⟨some vn, a, kpos⟩] X.env)).all (·.1.isSome) = true := by rfl) (hks : (backToKw pos (keywordEach [⟨some vn, a, kpos⟩] X.env)).filterMap (·.1) = [vn] := by rfl)
    (hpl : ((backTo pos (starEach [] X.env)).any (·.1) || (backToKw pos (keywordEach [⟨some vn, a, kpos⟩] X.env)).any (·.1.isNone)) = false := by rfl) : FE X W (.Call (.Name x p) [] [⟨some vn, a, kpos⟩] pos) (m1 ma fun d => some (instD C (.str m) f d)) := by
  obtain ⟨B, newId, initId, tail, fI, fd, M, T, iC, tI, F1, _, hb⟩ := c.ex
  exact fe_mkK M T iC tI F1 (R.room.mono hk) R.gd hb (R.gl x hg) c.mgC ha hall hks hdb hpl
end
/-- the same with a default None -/
structure Exk0 (P : Program) (w : World) (K : PySem.W.Frag) (mg : Str → Option Value) (base : Heap) (k : Nat) (x : Str) (C : Addr) (f m vn : Str) : Prop where
  ex : ∃ (B newId initId : String) (tail : List Value) (fI : Addr) (fd : FuncData), PySem.FxE.Fam B newId initId tail ∧ ExC K C tail newId ∧ PySem.W.findIn K (.ref C) "__init__" = some (some (.ref fI)) ∧ PySem.W.typeIn K (.ref fI) = some (.type "function") ∧
    FnG P w K mg base k fI fd ["self", vn] (spInit C f m) ∧ Binds K fd ["self", vn] [.none]
  mgC : mg x = some (.ref C)
theorem r_mk0 {X : Cx} {W : Wi} {N : List Str} {sc : Scope} {bb : Bool} {k j : Nat} {pos p : Pos} {x f m vn : Str} {C : Addr} (R : Run X W N sc bb k) (c : Exk0 X.prog X.w X.K X.mg X.base j x C f m vn) (hk : j + 1 ≤ k := by decide) (hg : sc.names.lookup x = some .globalImplicit := by rfl) (hdb : (x == ("__debug__" : Str)) = false := by decide) :
    FE X W (.Call (.Name x p) [] [] pos) (M.ret (instD C (.str m) f .none)) := by
  obtain ⟨B, newId, initId, tail, fI, fd, M, T, iC, tI, F1, hb⟩ := c.ex
  exact fe_mk0 (dv := .non) M T iC tI F1 (R.room.mono hk) R.gd hb rfl (fun _ => .non) (R.gl x hg) c.mgC hdb
end Fx

set_option Elab.async false
set_option linter.all false
set_option maxRecDepth 100000
set_option maxHeartbeats 4000000
/-! Fx18: the laws' drawing: a state is made. -/
namespace Fx
open PySem PySem.Spec PyProof.Rows L2 Evl
/-- the state of a drawing -/
def stD (l c t : Int) : List (Str × D) := [("left", .int l), ("cell", .int c), ("turns", .int t)]
def drawF : List D → Option (List (Str × D))
  | [.int c, .int k] => if IntMulOk 1000 k then some (stD (if (10 : Int) ^ 18 ≤ c then c else 0) c (1000 * k)) else none
  | _ => none
theorem nlc : ¬ (("left" : Str) = "cell") := by decide +kernel
theorem nlt : ¬ (("left" : Str) = "turns") := by decide +kernel
theorem nct : ¬ (("cell" : Str) = "turns") := by decide +kernel
theorem merge3 (a b c : V) : mergeK [] [((Sum.inr "left" : Key), a), (Sum.inr "cell", b), (Sum.inr "turns", c)] = [((Sum.inr "left" : Key), a), (Sum.inr "cell", b), (Sum.inr "turns", c)] := by
  have n1 : ¬ ((Sum.inr "left" : Key) = (Sum.inr "cell" : Key)) := fun z => nlc (by injection z)
  have n2 : ¬ ((Sum.inr "left" : Key) = (Sum.inr "turns" : Key)) := fun z => nlt (by injection z)
  have n3 : ¬ ((Sum.inr "cell" : Key) = (Sum.inr "turns" : Key)) := fun z => nct (by injection z)
  have e1 : putK [] (Sum.inr "left" : Key) a = [((Sum.inr "left" : Key), a)] := rfl
  have e2 : putK [((Sum.inr "left" : Key), a)] (Sum.inr "cell" : Key) b = [((Sum.inr "left" : Key), a), (Sum.inr "cell", b)] := by
    unfold putK
    rw [if_neg (by simp [n1])]
    rfl
  have e3 : putK [((Sum.inr "left" : Key), a), (Sum.inr "cell", b)] (Sum.inr "turns" : Key) c = [((Sum.inr "left" : Key), a), (Sum.inr "cell", b), (Sum.inr "turns", c)] := by
    unfold putK
    rw [if_neg (by simp [n2, n3])]
    rfl
  show putK (putK (putK [] (Sum.inr "left" : Key) a) (Sum.inr "cell") b) (Sum.inr "turns") c = _
  rw [e1, e2, e3]
theorem draw_ok {P : Program} {w : World} {K : PySem.W.Frag} {mg : Str → Option Value} {base : Heap} {fA : Addr} {fd : FuncData} {st : Stmt} {j1 j2 j3 j4 j5 j6 j7 : Nat} {p1 p2 p3 p4 p5 p6 p7 p8 p9 p10 p11 p12 p13 p14 p15 p16 p17 : Pos} (F : Fun K "_law_draw" "_law_draw" st fA fd) (S : FnScope ["cell", "k"] ["cell", "k"] (defScope st))
    (hb : defBody st = [.Return (some (.Dict [some (.Constant (.str "left") j1 p1), some (.Constant (.str "cell") j2 p2), some (.Constant (.str "turns") j3 p3)]
      [.IfExp (.Compare (.Name "cell" p4) [.GtE] [.BinOp (.Constant (.int 10) j4 p5) .Pow (.Constant (.int 18) j5 p6) p7] p8) (.Name "cell" p9) (.Constant (.int 0) j6 p10) p11, .Name "cell" p12, .BinOp (.Constant (.int 1000) j7 p13) .Mult (.Name "k" p14) p15] p16)) p17])
    (v0 : Vis (defScope st) "cell") (v1 : Vis (defScope st) "k") : FnG P w K mg base 1 fA fd ["cell", "k"] (spD 2 drawF K) := by
  obtain ⟨oc, od, kV, doc, pm, an, cdv, ct, osl, rfl, lk, hcd⟩ := F.ex
  refine fn_ofG lk hcd S (fun vs H Q E h => h.1) fun A outer s H vs Q E hr hgd h => ?_
  obtain ⟨hl, G, ds, kvs, hg, hd, hF, q⟩ := h
  rw [hb]
  unfold drawF at hF
  split at hF
  · rename_i c k
    by_cases hk : IntMulOk 1000 k
    · rw [if_pos hk] at hF
      cases hF
      cases hd with
      | cons h1 h2 =>
        cases h2 with
        | cons h2 h3 =>
          cases h1
          cases h2
          cases h3
          refine ⟨_, pss_one (ps_ret (pe_disp (pps_cons pe_str (pe_ifExp (pt_cmpR op_ge (pe_var (i := 0) rfl v0) (pe_op op_pow pe_int pe_int) (nomark _)) (pe_var (i := 0) rfl v0) pe_int)
            (pps_cons pe_str (pe_var (i := 0) rfl v0) (pps_cons pe_str (pe_op op_mulX pe_int (pe_var (i := 1) rfl v1)) pps_nil))) rfl rfl (by simp) (by simp))), ?_⟩
          intro p hp
          have fin : ∀ l : Int, l = (if (10 : Int) ^ 18 ≤ c then c else 0) → ∃ v, (L2.start ["cell", "k"] [V.int c, V.int k])[0]? = some (some v) ∧ ∃ v1, (L2.start ["cell", "k"] [V.int c, V.int k])[1]? = some (some v1) ∧ rI IntMulOk (fun i j => V.int (i * j)) (V.int 1000) v1 (upd H p (.dK [])) fun y1 H2 => H2 p = some (.dK []) ∧
              ∃ kvs : List (Key × V), [(V.str "left", V.int l), (V.str "cell", v), (V.str "turns", y1)] = List.map (fun kv => (L2.kV kv.1, kv.2)) kvs ∧ kvs.length ≤ 15 ∧ Q (V.ref p) (upd H2 p (.dK (mergeK [] kvs))) := by
            intro l hl
            refine ⟨_, rfl, _, rfl, 1000, k, rfl, rfl, hk, upd_same, [((Sum.inr "left" : Key), .int l), (Sum.inr "cell", .int c), (Sum.inr "turns", .int (1000 * k))], rfl, by simp, ?_⟩
            rw [merge3, upd_upd, hl]
            exact q p _ hp ⟨rfl, .int _, rfl, .int _, rfl, .int _, True.intro⟩
          simp only [tPairs, tC, tVar, tTest, tOp]
          refine ⟨_, rfl, 10, 18, rfl, rfl, by decide, c, _, rfl, rfl, _, rfl, ?_⟩
          by_cases hc : (10 : Int) ^ 18 ≤ c
          · have e : decide ((10 : Int) ^ (18 : Int).toNat ≤ c) = true := decide_eq_true hc
            exact (if_pos e).mpr ⟨_, rfl, fin c (if_pos hc).symm⟩
          · have e : ¬ decide ((10 : Int) ^ (18 : Int).toNat ≤ c) = true := fun z => hc (of_decide_eq_true z)
            exact (if_neg e).mpr (fin 0 (if_neg hc).symm)
    · rw [if_neg hk] at hF; cases hF
  · cases hF
end Fx

set_option Elab.async false
set_option linter.all false
set_option maxRecDepth 100000
set_option maxHeartbeats 4000000
/-! Fx19: the __init__ of a class of exceptions keeps its promise. -/
namespace Fx
open PySem PySem.Spec PyProof.Rows L2 Evl
section
variable {P : Program} {w : World} {K : PySem.W.Frag} {mg : Str → Option Value} {base : Heap} {st : Stmt} {fI C S : Addr} {qual f m vn x : Str} {oc dV kV doc pm cdv ct mc : Value} {od an : Option Addr} {osl : Array (Option Value)} {B newId initId : String} {tail : List Value} {j : Nat} {p1 p2 p3 p4 p5 p6 p7 p8 p9 p10 : Pos}
theorem ini_own (M : PySem.FxE.Fam B newId initId tail) (lk : K.lookup fI = some ⟨oc, od, .func (PySem.W.fnOf "__init__" qual (defArgs st) (defBody st) (defScope st) dV kV doc pm an cdv ct), osl⟩) (cd : PySem.W.codeIn K cdv qual = true) (Sc : FnScope [("self" : Str), vn] [("self" : Str), vn] (defScope st))
    (hb : defBody st = [.Expr (.Call (.Attribute (.Name x p1) "__init__" p2) [.Name "self" p3, .Constant (.str m) j p4] [] p5) p6, .Assign [.Attribute (.Name "self" p7) f p8] (.Name vn p9) p10])
    (hc : ∀ env : Env, ∃ pl : Sem Bool, eval (.Call (.Attribute (.Name x p1) "__init__" p2) [.Name "self" p3, .Constant (.str m) j p4] [] p5) env = (do
      let ov ← eval (.Name x p1) env
      standAt p2.atName
      let (f, first) ← holding [ov] (getMethod ov "__init__" pl)
      callWith p5 f first (backTo p5 (starEach [.Name "self" p3, .Constant (.str m) j p4] env)) (backToKw p5 (keywordEach [] env))))
    (v0 : Vis (defScope st) "self") (v1 : Vis (defScope st) vn) (gx : (defScope st).names.lookup x = some .globalImplicit) (hd : (vn == ("__debug__" : Str)) = false) (hcd : (vn == ("__classdict__" : Str)) = false) (hdx : (x == ("__debug__" : Str)) = false)
    (T : ExC K C tail newId) (hno : PySem.W.findIn K (.ref C) f = some none) (hm : mg x = some (.ref S)) (sg : PySem.W.specialIn K (.ref S) "__getattribute__" = some (some (.builtin "type.__getattribute__"))) (tm : PySem.W.typeIn K (.ref S) = some mc) (hr : PySem.W.readsIn K S mc = true) (vV : PySem.W.findCls K (.ref S) mc "__init__" = some (.val (.builtin initId))) :
    FnG P w K mg base 1 fI (PySem.W.fnOf "__init__" qual (defArgs st) (defBody st) (defScope st) dV kV doc pm an cdv ct) ["self", vn] (spInit C f m) := by
  refine fn_ofG lk cd Sc (fun vs H Q E h => by obtain ⟨a, v, t0, rfl, _⟩ := h; rfl) fun A outer s H vs Q E hr' hgd h => ?_
  rw [hb]
  exact ini_body (X := cxOf (L2.CX P w) P w K mg base [("self" : Str), vn] qual (defScope st) fI cdv A outer s H E) (vn := vn) M T hno rfl v0 v1 hd hcd (fun ta hta => let ⟨_, e⟩ := hc _; pe_initO M gx hm sg tm hr vV hta hdx e) rfl rfl rfl rfl h
theorem ini_blt {T0 : String} (M : PySem.FxE.Fam B newId initId tail) (lk : K.lookup fI = some ⟨oc, od, .func (PySem.W.fnOf "__init__" qual (defArgs st) (defBody st) (defScope st) dV kV doc pm an cdv ct), osl⟩) (cd : PySem.W.codeIn K cdv qual = true) (Sc : FnScope [("self" : Str), vn] [("self" : Str), vn] (defScope st))
    (hb : defBody st = [.Expr (.Call (.Attribute (.Name x p1) "__init__" p2) [.Name "self" p3, .Constant (.str m) j p4] [] p5) p6, .Assign [.Attribute (.Name "self" p7) f p8] (.Name vn p9) p10])
    (hc : ∀ env : Env, ∃ pl : Sem Bool, eval (.Call (.Attribute (.Name x p1) "__init__" p2) [.Name "self" p3, .Constant (.str m) j p4] [] p5) env = (do
      let ov ← eval (.Name x p1) env
      standAt p2.atName
      let (f, first) ← holding [ov] (getMethod ov "__init__" pl)
      callWith p5 f first (backTo p5 (starEach [.Name "self" p3, .Constant (.str m) j p4] env)) (backToKw p5 (keywordEach [] env))))
    (v0 : Vis (defScope st) "self") (v1 : Vis (defScope st) vn) (gx : (defScope st).names.lookup x = some .globalImplicit) (hd : (vn == ("__debug__" : Str)) = false) (hcd : (vn == ("__classdict__" : Str)) = false) (hdx : (x == ("__debug__" : Str)) = false) (hnx : x ≠ "__name__")
    (T : ExC K C tail newId) (hno : PySem.W.findIn K (.ref C) f = some none) (hm : mg x = none) (hv : bootBuiltins x = some (.type T0)) (ht : typeOf (.type T0) = pure (.type "type")) (hst : Manifest.isStub T0 = false) (vV : PySem.W.findCls K (.type T0) (.type "type") "__init__" = some (.val (.builtin initId))) :
    FnG P w K mg base 1 fI (PySem.W.fnOf "__init__" qual (defArgs st) (defBody st) (defScope st) dV kV doc pm an cdv ct) ["self", vn] (spInit C f m) := by
  refine fn_ofG lk cd Sc (fun vs H Q E h => by obtain ⟨a, v, t0, rfl, _⟩ := h; rfl) fun A outer s H vs Q E hr' hgd h => ?_
  rw [hb]
  exact ini_body (X := cxOf (L2.CX P w) P w K mg base [("self" : Str), vn] qual (defScope st) fI cdv A outer s H E) (vn := vn) M T hno rfl v0 v1 hd hcd (fun ta hta => let ⟨_, e⟩ := hc _; pe_initB M gx hm hv ht hst vV hta hnx hdx e) rfl rfl rfl rfl h
/-! ### what is given to it -/
/-- every parameter is written; a default stands and is not needed -/
theorem bindD {fd : FuncData} {T : Addr} {o : Obj} {n : Nat} (lT : K.lookup T = some o) (oT : o.data = .seq #[.none] n) (h : ∀ u v : Value, ∃ k, bindArgs fd ⟨[u, v], []⟩ = seqItems? (.ref T) >>= k ∧ k (some #[.none]) = pure [(("self" : Str), u), (vn, v)]) : Binds K fd ["self", vn] [] := by
  intro s us X hl
  rw [List.append_nil] at hl ⊢
  match us, hl with
  | [u, v], _ =>
    obtain ⟨k, e1, e2⟩ := h u v
    refine BindsTo.of_looks fun M => ?_
    rw [e1]
    exact looks_items X lT oT (.of_pure e2)
theorem bindK {fd : FuncData} {T : Addr} {o : Obj} {n : Nat} (lT : K.lookup T = some o) (oT : o.data = .seq #[.none] n) (h : ∀ u v : Value, ∃ k, bindArgs fd ⟨[u], [(vn, v)]⟩ = seqItems? (.ref T) >>= k ∧ k (some #[.none]) = pure [(("self" : Str), u), (vn, v)]) (s : Shared) (u v : Value) (X : K.In s.heap) : BindsTo s fd ⟨[u], [(vn, v)]⟩ [(("self" : Str), u), (vn, v)] := by
  obtain ⟨k, e1, e2⟩ := h u v
  refine BindsTo.of_looks fun M => ?_
  rw [e1]
  exact looks_items X lT oT (.of_pure e2)
theorem bind0 {fd : FuncData} {T : Addr} {o : Obj} {n : Nat} (lT : K.lookup T = some o) (oT : o.data = .seq #[.none] n) (h : ∀ u : Value, ∃ k, bindArgs fd ⟨[u], []⟩ = seqItems? (.ref T) >>= k ∧ k (some #[.none]) = pure [(("self" : Str), u), (vn, .none)]) : Binds K fd ["self", vn] [.none] := by
  intro s us X hl
  have hl : us.length = 1 := by simpa using hl
  match us, hl with
  | [u], _ =>
    obtain ⟨k, e1, e2⟩ := h u
    refine BindsTo.of_looks fun M => ?_
    rw [e1]
    exact looks_items X lT oT (.of_pure e2)
/-- without a default -/
theorem bindN {fd : FuncData} (h : ∀ u v : Value, bindArgs fd ⟨[u, v], []⟩ = pure [(("self" : Str), u), (vn, v)]) : Binds K fd ["self", vn] [] := .all fun us hl => match us, hl with | [u, v], _ => h u v
theorem bindNK {fd : FuncData} (h : ∀ u v : Value, bindArgs fd ⟨[u], [(vn, v)]⟩ = pure [(("self" : Str), u), (vn, v)]) (s : Shared) (u v : Value) (X : K.In s.heap) : BindsTo s fd ⟨[u], [(vn, v)]⟩ [(("self" : Str), u), (vn, v)] := .of_eq (h u v)
end
end Fx

set_option Elab.async false
set_option linter.all false
set_option maxRecDepth 100000
set_option maxHeartbeats 4000000
/-! Fx20: what the top has written, as the walk wants it. -/
namespace Fx
open PySem PySem.Spec PyProof.Rows L2 Evl
/-- a def behind the top -/
structure DF (K : PySem.W.Frag) (x : Str) (st : Stmt) : Prop where
  ex : ∃ (fA : Addr) (fd : FuncData), Fun K x x st fA fd ∧ PySem.W.nsIn K mainGlobals x = some (some (.ref fA)) ∧ ∃ (kV doc pm : Value) (an : Option Addr) (cdv ct : Value), fd = PySem.W.fnOf x x (defArgs st) (defBody st) (defScope st) .none kV doc pm an cdv ct
theorem df_mk {K : PySem.W.Frag} {x : Str} {st : Stmt} {f : Addr} {oc : Value} {od an : Option Addr} {osl : Array (Option Value)} {kV doc pm cdv ct : Value} (a : PySem.W.nsIn K mainGlobals x = some (some (.ref f))) (l : K.lookup f = some ⟨oc, od, .func (PySem.W.fnOf x x (defArgs st) (defBody st) (defScope st) .none kV doc pm an cdv ct), osl⟩)
    (c : PySem.W.codeIn K cdv x = true) (k : PySem.W.keepIn K (.ref f) = true) : DF K x st := ⟨f, _, fun_mk l c k, a, kV, doc, pm, an, cdv, ct, rfl⟩
theorem cal_of {P : Program} {w : World} {K : PySem.W.Frag} {mg : Str → Option Value} {base h : Heap} {k n : Nat} {x : Str} {st : Stmt} {ps : List Str} {sp : Sp} (X : K.In h) (G : h.Ns mainGlobals mg) (D : DF K x st) (hn : ps.length = n)
    (hb : ∀ (kV doc pm : Value) (an : Option Addr) (cdv ct : Value) (us : List Value), us.length = ps.length → bindArgs (PySem.W.fnOf x x (defArgs st) (defBody st) (defScope st) .none kV doc pm an cdv ct) ⟨us, []⟩ = pure (ps.zip us))
    (ok : ∀ (fA : Addr) (fd : FuncData), Fun K x x st fA fd → FnG P w K mg base k fA fd ps sp) : Cal P w K mg base k x n sp := by
  obtain ⟨fA, fd, F, a, kV, doc, pm, an, cdv, ct, e⟩ := D.ex
  exact ⟨fA, fd, ps, hn, ok fA fd F, PySem.W.mg_of X G a, F.kp, F.binds hb⟩
/-- a class of exceptions behind the top, its __init__ with a default None -/
structure CF (K : PySem.W.Frag) (st : Stmt) (qual : Str) (C I : Addr) (newId : String) (tail : List Value) (b : Bool) : Prop where
  cls : ∃ nm q N bs bm sn sub ab col dd k0 k1 k2 k3 k5, K.lookup C = some (excClassObj nm q C N bs bm true sn sub ab col dd k0 k1 k2 k3 k5 newId) ∧ PySem.FxE.refsT tail bm = true
  ini : ∃ (oc : Value) (od : Option Addr) (dV kV doc pm : Value) (an : Option Addr) (cdv ct : Value) (osl : Array (Option Value)), K.lookup I = some ⟨oc, od, .func (PySem.W.fnOf "__init__" qual (defArgs st) (defBody st) (defScope st) dV kV doc pm an cdv ct), osl⟩ ∧ PySem.W.codeIn K cdv qual = true ∧
    ((b = false ∧ dV = .none) ∨ (b = true ∧ ∃ (T : Addr) (o : Obj) (n : Nat), dV = .ref T ∧ K.lookup T = some o ∧ o.data = .seq #[.none] n))
theorem cf_mk {K : PySem.W.Frag} {st : Stmt} {qual : Str} {C I T : Addr} {newId : String} {tail : List Value} {nm q N bs bm sn sub ab col dd k0 k1 k2 k3 k5} {oc kV doc pm cdv ct : Value} {od an : Option Addr} {osl : Array (Option Value)} {o : Obj} {n : Nat}
    (l : K.lookup C = some (excClassObj nm q C N bs bm true sn sub ab col dd k0 k1 k2 k3 k5 newId)) (r : PySem.FxE.refsT tail bm = true) (li : K.lookup I = some ⟨oc, od, .func (PySem.W.fnOf "__init__" qual (defArgs st) (defBody st) (defScope st) (.ref T) kV doc pm an cdv ct), osl⟩) (c : PySem.W.codeIn K cdv qual = true)
    (lt : K.lookup T = some o) (ot : o.data = .seq #[.none] n) : CF K st qual C I newId tail true :=
  ⟨⟨nm, q, N, bs, bm, sn, sub, ab, col, dd, k0, k1, k2, k3, k5, l, r⟩, ⟨oc, od, _, kV, doc, pm, an, cdv, ct, osl, li, c, .inr ⟨rfl, T, o, n, rfl, lt, ot⟩⟩⟩
theorem cf_mkN {K : PySem.W.Frag} {st : Stmt} {qual : Str} {C I : Addr} {newId : String} {tail : List Value} {nm q N bs bm sn sub ab col dd k0 k1 k2 k3 k5} {oc kV doc pm cdv ct : Value} {od an : Option Addr} {osl : Array (Option Value)}
    (l : K.lookup C = some (excClassObj nm q C N bs bm true sn sub ab col dd k0 k1 k2 k3 k5 newId)) (r : PySem.FxE.refsT tail bm = true) (li : K.lookup I = some ⟨oc, od, .func (PySem.W.fnOf "__init__" qual (defArgs st) (defBody st) (defScope st) .none kV doc pm an cdv ct), osl⟩) (c : PySem.W.codeIn K cdv qual = true) : CF K st qual C I newId tail false :=
  ⟨⟨nm, q, N, bs, bm, sn, sub, ab, col, dd, k0, k1, k2, k3, k5, l, r⟩, ⟨oc, od, _, kV, doc, pm, an, cdv, ct, osl, li, c, .inl ⟨rfl, rfl⟩⟩⟩
/-- what is looked at, all at once -/
def chkC (K : PySem.W.Frag) (C I : Addr) (f : Str) : Bool :=
  decide (PySem.W.findIn K (.ref C) "__setattr__" = some (some (.builtin "object.__setattr__"))) && (decide (PySem.W.subIn K (.ref C) (.type "BaseException") = some true) && (decide (PySem.W.typeIn K (.ref C) = some (.type "type")) && (PySem.W.keepIn K (.ref C) && (decide (PySem.W.findIn K (.ref C) "__init__" = some (some (.ref I))) &&
  (decide (PySem.W.typeIn K (.ref I) = some (.type "function")) && (decide (PySem.W.findIn K (.ref C) f = some none) && (decide (PySem.W.findIn K (.ref C) "__getattribute__" = some (some (.builtin "BaseException.__getattribute__"))) && (decide (PySem.W.findIn K (.ref C) "__getattr__" = some none) && (PySem.W.hasDictIn K C &&
  (decide (PySem.W.findIn K (.ref C) "__class__" = some (some (.builtin "object.__class__"))) && (decide (PySem.W.specialIn K (.builtin "object.__class__") "__get__" = some (some (.builtin "getset_descriptor.__get__"))) && (decide (PySem.W.takesIn K (.builtin "object.__class__") = some true) && (decide (PySem.W.mroIn K C (.type "object") = some true) &&
  decide (PySem.W.findIn K (.ref C) "__str__" = some (some (.builtin "BaseException.__str__"))))))))))))))))
structure CC (K : PySem.W.Frag) (C I : Addr) (f : Str) : Prop where
  sa : PySem.W.findIn K (.ref C) "__setattr__" = some (some (.builtin "object.__setattr__"))
  exC : PySem.W.subIn K (.ref C) (.type "BaseException") = some true
  tyC : PySem.W.typeIn K (.ref C) = some (.type "type")
  kC : PySem.W.keepIn K (.ref C) = true
  iC : PySem.W.findIn K (.ref C) "__init__" = some (some (.ref I))
  tI : PySem.W.typeIn K (.ref I) = some (.type "function")
  hno : PySem.W.findIn K (.ref C) f = some none
  xf : XfC K C
  is : PySem.FxE.IsC K C
  st : StC K C
theorem chk_ok {K : PySem.W.Frag} {C I : Addr} {f : Str} (h : chkC K C I f = true) : CC K C I f := by
  unfold chkC at h
  simp only [Bool.and_eq_true, decide_eq_true_eq] at h
  obtain ⟨h1, h2, h3, h4, h5, h6, h7, h8, h9, h10, h11, h12, h13, h14, h15⟩ := h
  exact ⟨h1, h2, h3, h4, h5, h6, h7, ⟨h8, h9, h2, h10⟩, ⟨h8, h9, h2, h10, h11, h12, h13, h14⟩, ⟨h15, h2⟩⟩
def chkAll (K : PySem.W.Frag) (l : List (Nat × Nat × Str)) : Bool := l.all fun p => chkC K p.1 p.2.1 p.2.2
theorem chk_mem {K : PySem.W.Frag} {l : List (Nat × Nat × Str)} (h : chkAll K l = true) {C I : Nat} {f : Str} (m : (C, I, f) ∈ l) : CC K C I f := chk_ok (List.all_eq_true.mp h _ m)
/-- a table of a class -/
def chkT (K : PySem.W.Frag) (tbl : List (Nat × Bool)) (c : Value) : Bool := tbl.all fun p => decide (PySem.W.kitOne K (.ref p.1) c = some p.2)
theorem tbl_ok {K : PySem.W.Frag} {l : List (Nat × Nat × Str)} {tbl : List (Nat × Bool)} {c : Value} (h : chkAll K l = true) (ht : chkT K tbl c = true) (hs : (tbl.all fun p => l.any fun q => decide (q.1 = p.1)) = true) : ∀ p ∈ tbl, PySem.FxE.IsC K p.1 ∧ PySem.W.kitOne K (.ref p.1) c = some p.2 := fun p hp => by
  have h1 := List.all_eq_true.mp hs p hp
  obtain ⟨q, hq, e⟩ := List.any_eq_true.mp h1
  have e' : q.1 = p.1 := of_decide_eq_true e
  have := chk_ok (List.all_eq_true.mp h q hq)
  rw [e'] at this
  exact ⟨this.is, of_decide_eq_true (List.all_eq_true.mp ht p hp)⟩
end Fx

set_option Elab.async false
set_option linter.all false
set_option maxRecDepth 100000
set_option maxHeartbeats 4000000
/-! Fy1: how the functions over data go, step by step. -/
namespace Fx
open PySem PySem.Spec PyProof.Rows L2 Evl
section
variable {e e1 e2 e3 : En} {a b c : M Bool} {x y m n : M Fl} {ma mb : M D} {t u : D}
theorem bind_ok {α β : Type} {m : M α} {f : α → M β} {v : α} (h : m e = .ok v e1) : M.bind m f e = f v e1 := by
  show R.bind (m e) f = _
  rw [h]
  rfl
theorem or_no (h1 : a e = .ok false e1) (h2 : b e1 = .ok false e2) : orT a b e = .ok false e2 := by
  unfold orT
  rw [bind_ok h1]
  exact h2
theorem not_yes (h1 : a e = .ok true e1) : notT a e = .ok false e1 := by
  unfold notT
  rw [bind_ok h1]
  rfl
theorem not_no (h1 : a e = .ok false e1) : notT a e = .ok true e1 := by
  unfold notT
  rw [bind_ok h1]
  rfl
theorem if_no {α : Type} {x y : M α} (h : c e = .ok false e1) : ifM c x y e = y e1 := by
  unfold ifM
  rw [bind_ok h]
  exact congrFun (if_neg Bool.false_ne_true) e1
theorem if_yes {α : Type} {x y : M α} (h : c e = .ok true e1) : ifM c x y e = x e1 := by
  unfold ifM
  rw [bind_ok h]
  exact congrFun (if_pos rfl) e1
theorem if_nx (h : c e = .ok false e1) : ifM c x (M.ret .nx) e = .ok .nx e1 := by
  rw [if_no h]
  rfl
theorem seq_nx (h : m e = .ok .nx e1) : seqM m n e = n e1 := by
  unfold seqM
  rw [bind_ok h]
theorem m2_of {f : D → D → Option D} {v w r : D} (h1 : ma e = .ok v e1) (h2 : mb e1 = .ok w e2) (h3 : f v w = some r) : m2 ma mb f e = .ok r e2 := by
  unfold m2
  rw [bind_ok h1, bind_ok h2, h3]
  rfl
theorem m1_of {f : D → Option D} {v r : D} (h1 : ma e = .ok v e1) (h3 : f v = some r) : m1 ma f e = .ok r e1 := by
  unfold m1
  rw [bind_ok h1, h3]
  rfl
theorem asB_of {k : Bool} (h : ma e = .ok (.bool k) e1) : asB ma e = .ok k e1 := by
  unfold asB
  rw [bind_ok h]
  rfl
theorem ne_no (h : neD t t = some (.bool false)) (h1 : ma e = .ok t e1) (h2 : mb e1 = .ok t e2) : asB (m2 ma mb neD) e = .ok false e2 := asB_of (m2_of h1 h2 h)
theorem tru_of {k : Bool} (h : ma e = .ok (.bool k) e1) : truM ma e = .ok k e1 := by
  unfold truM
  rw [bind_ok h]
  rfl
theorem cons_of {ms : M (List D)} {v : D} {vs : List D} (h1 : ma e = .ok v e1) (h2 : ms e1 = .ok vs e2) : consM ma ms e = .ok (v :: vs) e2 := by
  unfold consM
  rw [bind_ok h1, bind_ok h2]
  rfl
theorem call_of {F : Fn} {ms : M (List D)} {vs : List D} {r : D} (h : ms e = .ok vs e1) (h2 : F vs = .ok r) : callM F ms e = .ok r e1 := by
  unfold callM
  rw [bind_ok h, h2]
  rfl
theorem set_of {i : Nat} {v : D} (h : ma e = .ok v e1) : setM i ma e = .ok .nx (e1.set i (.d v)) := by
  unfold setM
  rw [bind_ok h]
theorem ret_of {v : D} (h : ma e = .ok v e1) : retM ma e = .ok (.rt v) e1 := by
  unfold retM
  rw [bind_ok h]
  rfl
theorem lst_of {ms : M (List D)} {vs : List D} (h : ms e = .ok vs e1) (hl : vs.length ≤ 100000) : lstM ms e = .ok (.list vs) e1 := by
  unfold lstM
  rw [bind_ok h]
  exact congrFun (if_pos hl) e1
theorem tup_of {ms : M (List D)} {vs : List D} (h : ms e = .ok vs e1) (hl : vs.length ≤ 100000) : tupM ms e = .ok (.tuple vs) e1 := by
  unfold tupM
  rw [bind_ok h]
  exact congrFun (if_pos hl) e1
theorem vr_of {i : Nat} {v : D} (h : e[i]? = some (.d v)) : vr i e = .ok v e := by
  unfold vr
  rw [h]
theorem or_no0 (h1 : a e = .ok false e) (h2 : b e = .ok false e) : orT a b e = .ok false e := or_no h1 h2
theorem if_nx0 (h : c e = .ok false e) : ifM c x (M.ret .nx) e = .ok .nx e := if_nx h
theorem ne_no0 (h : neD t t = some (.bool false)) (h1 : ma e = .ok t e) (h2 : mb e = .ok t e) : asB (m2 ma mb neD) e = .ok false e := ne_no h h1 h2
theorem seq_nx0 (h : m e = .ok .nx e) : seqM m n e = n e := seq_nx h
variable {tg : Tg} {body : M Fl} {mi : M (List D)} {d : D} {ds : List D} {r : R Fl}
theorem for_nil : forM tg body [] e = .ok .nx e := rfl
theorem for_cons (h1 : tg d e = some e1) (h2 : body e1 = .ok .nx e2) (h3 : forM tg body ds e2 = r) : forM tg body (d :: ds) e = r := by
  unfold forM
  rw [h1]
  simp only
  rw [h2]
  exact h3
theorem forL_of (h : mi e = .ok ds e1) (h2 : forM tg body ds e1 = r) : forL mi tg body e = r := by
  unfold forL
  rw [bind_ok h]
  exact h2
/-- each turn keeps I -/
theorem for_all {I : En → Prop} (h : ∀ d, d ∈ ds → ∀ e, I e → ∃ e1 e2, tg d e = some e1 ∧ body e1 = .ok .nx e2 ∧ I e2) : ∀ {e : En}, I e → ∃ e', forM tg body ds e = .ok .nx e' ∧ I e' := by
  induction ds with
  | nil => exact fun {e} hI => ⟨e, rfl, hI⟩
  | cons d ds ih =>
    intro e hI
    obtain ⟨e1, e2, h1, h2, h3⟩ := h d List.mem_cons_self e hI
    obtain ⟨e', h4, h5⟩ := ih (fun d' hd => h d' (List.mem_cons_of_mem _ hd)) h3
    exact ⟨e', for_cons h1 h2 h4, h5⟩
/-- a body that returns -/
theorem body_rt {k : Nat} {vs : List D} {v : D} (h : m (vs.map SV.d ++ List.replicate (k - vs.length) SV.no) = .ok (.rt v) e1) : bodyF k m vs = .ok v := by
  unfold bodyF
  rw [h]
/-- what a def gives, whatever its slots -/
def endF : R Fl → FR
  | .ok .nx _ => .ok .none
  | .ok (.rt d) _ => .ok d
  | .ok _ _ => .st
  | .ex x _ => .ex x
  | .st => .st
theorem body_end {k : Nat} {vs : List D} {v : D} (h : endF (m (vs.map SV.d ++ List.replicate (k - vs.length) SV.no)) = .ok v) : bodyF k m vs = .ok v := by
  unfold bodyF
  unfold endF at h
  split at h <;> simp_all
end
end Fx

set_option Elab.async false
set_option linter.all false
set_option maxRecDepth 100000
set_option maxHeartbeats 4000000
/-! Fy2: what the laws' drawing gives. -/
namespace Fx
open PySem PySem.Spec PyProof.Rows L2 Evl
theorem mod_i {a b : Int} (h : b ≠ 0) : modD (.int a) (.int b) = some (.int (a.fmod b)) := if_pos h
theorem mul_i {a b : Int} (h : IntMulOk a b) : mulD (.int a) (.int b) = some (.int (a * b)) := by
  have e : mulI (.int a) (.int b) = some (.int (a * b)) := if_pos h
  unfold mulD orF2
  rw [e]
  rfl
theorem div_i {a b : Int} (h : DivOk a b) : fdivD (.int a) (.int b) = some (.int (a.fdiv b)) := if_pos h
theorem add_i {a b : Int} : addD (.int a) (.int b) = some (.int (a + b)) := rfl
theorem sub_i {a b : Int} : subD (.int a) (.int b) = some (.int (a - b)) := rfl
theorem eq_i {a b : Int} : eqD (.int a) (.int b) = some (.bool (a == b)) := by
  unfold eqD
  rw [if_pos ⟨⟨rfl, rfl⟩, rfl, rfl⟩]
  rfl
theorem fmod_r {a b : Int} (h : 0 < b) : 0 ≤ a.fmod b ∧ a.fmod b < b := ⟨Int.fmod_nonneg_of_pos a h, Int.fmod_lt_of_pos a h⟩
theorem fdiv_r {a b : Int} (h : 0 < b) (ha : 0 ≤ a) : 0 ≤ a.fdiv b := by
  rw [Int.fdiv_eq_ediv_of_nonneg _ (Int.le_of_lt h)]
  exact Int.ediv_nonneg ha (Int.le_of_lt h)
def mMixed : M Fl := (seqM (setM 2 (m2 (m2 (m2 (vr 0) (m2 (lstM (consM (M.ret (.int 1000000007)) (consM (M.ret (.int 998244353)) (consM (M.ret (.int 2147483629)) (consM (M.ret (.int 1000000009)) (M.ret [])))))) (m2 (vr 1) (M.ret (.int 4)) modD) ixD) modD) (m2 (M.ret (.int 7919)) (vr 1) mulD) addD) (M.ret (.int 13)) addD)) (retM (m2 (m2 (m2 (m2 (vr 2) (vr 2) mulD) (M.ret (.int 2147483647)) modD) (M.ret (.int 48271)) mulD) (M.ret (.int 2147483647)) modD)))
def fMixed : Fn := bodyF 3 mMixed
theorem prime_at {j : Int} (h0 : 0 ≤ j) (h1 : j < 4) : ∃ p : Int, ixD (.list [.int 1000000007, .int 998244353, .int 2147483629, .int 1000000009]) (.int j) = some (.int p) ∧ 0 < p ∧ p ≤ 2147483647 := by
  have : j = 0 ∨ j = 1 ∨ j = 2 ∨ j = 3 := by omega
  rcases this with rfl | rfl | rfl | rfl
  · exact ⟨1000000007, rfl, by decide, by decide⟩
  · exact ⟨998244353, rfl, by decide, by decide⟩
  · exact ⟨2147483629, rfl, by decide, by decide⟩
  · exact ⟨1000000009, rfl, by decide, by decide⟩
theorem mixed_ev (c k : Int) (h0 : 0 ≤ k) (h1 : k ≤ 1000000000) : ∃ m, fMixed [.int c, .int k] = .ok (.int m) ∧ 0 ≤ m ∧ m < 2147483647 := by
  have hk := fmod_r (a := k) (b := 4) (by decide)
  obtain ⟨p, hp, p0, p1⟩ := prime_at hk.1 hk.2
  have hc := fmod_r (a := c) p0
  have e1 : IntMulOk 7919 k := CMul.ok (.inl ⟨by decide, by decide⟩)
  let N : Int := c.fmod p + 7919 * k + 13
  have hN : 0 ≤ N ∧ N < 2 ^ 60 := by
    show 0 ≤ c.fmod p + 7919 * k + 13 ∧ c.fmod p + 7919 * k + 13 < 2 ^ 60
    omega
  have e2 : IntMulOk N N := CMul.ok (.inl ⟨by omega, by omega⟩)
  have hx := fmod_r (a := N * N) (b := 2147483647) (by decide)
  have e3 : IntMulOk ((N * N).fmod 2147483647) 48271 := CMul.ok (.inr ⟨by decide, by decide⟩)
  have hy := fmod_r (a := (N * N).fmod 2147483647 * 48271) (b := 2147483647) (by decide)
  refine ⟨((N * N).fmod 2147483647 * 48271).fmod 2147483647, ?_, hy⟩
  refine body_rt (e1 := [.d (.int c), .d (.int k), .d (.int N)]) ?_
  refine (seq_nx (set_of (e1 := [.d (.int c), .d (.int k), .no]) (v := .int N) ?_)).trans (ret_of ?_)
  · exact m2_of (m2_of (m2_of (vr_of rfl) (m2_of (lst_of (cons_of rfl (cons_of rfl (cons_of rfl (cons_of rfl rfl)))) (by decide)) (m2_of (vr_of rfl) rfl (mod_i (by decide))) hp) (mod_i (by omega))) (m2_of rfl (vr_of rfl) (mul_i e1)) add_i) rfl add_i
  · exact m2_of (m2_of (m2_of (m2_of (vr_of rfl) (vr_of rfl) (mul_i e2)) rfl (mod_i (by decide))) rfl (mul_i e3)) rfl (mod_i (by decide))
def bDigit : M Fl := (seqM (setK 0 "turns" (m2 (ixK 0 "turns") (M.ret (.int 1)) addD)) (setK 0 "left" (m2 (m2 (ixK 0 "left") (M.ret (.int 2147483647)) mulD) (callM fMixed (consM (ixK 0 "cell") (consM (ixK 0 "turns") (M.ret [])))) addD)))
def mDigit : M Fl := (seqM (ifM (asB (m2 (ixK 0 "left") (M.ret (.int 0)) eqD)) (forL (rng1 (consM (M.ret (.int 4)) (M.ret []))) (tgN 2) bDigit) (M.ret .nx)) (seqM (setM 3 (m2 (ixK 0 "left") (vr 1) modD)) (seqM (setK 0 "left" (m2 (ixK 0 "left") (vr 1) fdivD)) (retM (vr 3)))))
def fDigit : FnO := bodyO 4 mDigit
section
variable {l c t b d : Int} {x y : SV} {r : List SV} {w : Bool}
theorem get_left : ixK 0 "left" (.own w (.od (stD l c t)) :: r) = .ok (.int l) (.own w (.od (stD l c t)) :: r) := by kernel_rfl
theorem get_cell : ixK 0 "cell" (.own w (.od (stD l c t)) :: r) = .ok (.int c) (.own w (.od (stD l c t)) :: r) := by kernel_rfl
theorem get_turns : ixK 0 "turns" (.own w (.od (stD l c t)) :: r) = .ok (.int t) (.own w (.od (stD l c t)) :: r) := by kernel_rfl
theorem setK_of {i : Nat} {key : Str} {ma : M D} {e e1 : En} {v : D} {kvs : List (Str × D)} (h : ma e = .ok v e1) (h2 : e1[i]? = some (.own w (.od kvs))) (hl : kvs.length ≤ 1000) : setK i key ma e = .ok .nx (e1.set i (.own w (.od (putS kvs key v)))) := by
  unfold setK
  rw [bind_ok h]
  simp only [h2]
  exact if_pos hl
theorem put_left : putS (stD l c t) "left" (.int d) = stD d c t := by kernel_rfl
theorem put_turns : putS (stD l c t) "turns" (.int d) = stD l c d := by kernel_rfl
theorem turn_ev (hl : 0 ≤ l) (ht : 0 ≤ t) (ht2 : t ≤ 900000000) : ∃ l', 0 ≤ l' ∧ bDigit [.own true (.od (stD l c t)), .d (.int b), x, y] = .ok .nx [.own true (.od (stD l' c (t + 1))), .d (.int b), x, y] := by
  obtain ⟨m, hm, m0, m1⟩ := mixed_ev c (t + 1) (by omega) (by omega)
  refine ⟨l * 2147483647 + m, by omega, ?_⟩
  refine (seq_nx (e1 := [.own true (.od (stD l c (t + 1))), .d (.int b), x, y]) ?_).trans ?_
  · have := setK_of (i := 0) (key := "turns") (m2_of (get_turns (l := l) (c := c) (t := t) (w := true) (r := [.d (.int b), x, y])) (mb := M.ret (.int 1)) rfl add_i) rfl (by show 3 ≤ 1000; decide)
    rw [put_turns] at this
    exact this
  · have := setK_of (i := 0) (key := "left") (m2_of (m2_of (get_left (l := l) (c := c) (t := t + 1) (w := true) (r := [.d (.int b), x, y])) (mb := M.ret (.int 2147483647)) rfl (mul_i (CMul.ok (.inr ⟨by decide, by decide⟩)))) (call_of (cons_of get_cell (cons_of get_turns (ms := M.ret []) rfl)) hm) add_i) rfl (by show 3 ≤ 1000; decide)
    rw [put_left] at this
    exact this
theorem digit_ev (hl : 0 ≤ l) (ht : 0 ≤ t) (ht2 : t ≤ 800000000) (hb : 0 < b) (hb2 : b.natAbs.log2 < 9000) : ∃ n l' t', fDigit (.od (stD l c t)) [.int b] = .ok (.int n) (.od (stD l' c t')) ∧ 0 ≤ n ∧ n < b ∧ 0 ≤ l' ∧ 0 ≤ t' ∧ t' ≤ t + 4 := by
  have hif : ∃ l1 t1 z, 0 ≤ l1 ∧ 0 ≤ t1 ∧ t1 ≤ t + 4 ∧ ifM (asB (m2 (ixK 0 "left") (M.ret (.int 0)) eqD)) (forL (rng1 (consM (M.ret (.int 4)) (M.ret []))) (tgN 2) bDigit) (M.ret .nx) [.own true (.od (stD l c t)), .d (.int b), .no, .no] = .ok .nx [.own true (.od (stD l1 c t1)), .d (.int b), z, .no] := by
    by_cases h : l = 0
    · obtain ⟨l1, p1, q1⟩ := turn_ev (b := b) (c := c) (x := .d (.int 0)) (y := .no) hl ht (by omega)
      obtain ⟨l2, p2, q2⟩ := turn_ev (b := b) (c := c) (x := .d (.int 1)) (y := .no) p1 (t := t + 1) (by omega) (by omega)
      obtain ⟨l3, p3, q3⟩ := turn_ev (b := b) (c := c) (x := .d (.int 2)) (y := .no) p2 (t := t + 1 + 1) (by omega) (by omega)
      obtain ⟨l4, p4, q4⟩ := turn_ev (b := b) (c := c) (x := .d (.int 3)) (y := .no) p3 (t := t + 1 + 1 + 1) (by omega) (by omega)
      refine ⟨l4, t + 1 + 1 + 1 + 1, .d (.int 3), p4, by omega, by omega, ?_⟩
      refine (if_yes (asB_of (m2_of get_left rfl (by rw [eq_i, h]; rfl)))).trans (forL_of (ds := [.int 0, .int 1, .int 2, .int 3]) (e1 := [.own true (.od (stD l c t)), .d (.int b), .no, .no]) (by kernel_rfl) ?_)
      exact for_cons rfl q1 (for_cons rfl q2 (for_cons rfl q3 (for_cons rfl q4 for_nil)))
    · refine ⟨l, t, .no, hl, ht, by omega, if_nx (asB_of (m2_of get_left rfl ?_))⟩
      rw [eq_i, beq_eq_false_iff_ne.mpr h]
  obtain ⟨l1, t1, z, p1, p2, p3, hif⟩ := hif
  refine ⟨l1.fmod b, l1.fdiv b, t1, ?_, (fmod_r hb).1, (fmod_r hb).2, fdiv_r hb p1, p2, p3⟩
  have run : mDigit [.own true (.od (stD l c t)), .d (.int b), .no, .no] = .ok (.rt (.int (l1.fmod b))) [.own true (.od (stD (l1.fdiv b) c t1)), .d (.int b), z, .d (.int (l1.fmod b))] := by
    refine (seq_nx hif).trans ?_
    refine (seq_nx (set_of (e1 := [.own true (.od (stD l1 c t1)), .d (.int b), z, .no]) (v := .int (l1.fmod b)) (m2_of get_left (vr_of rfl) (mod_i (by omega))))).trans ?_
    refine (seq_nx (e1 := [.own true (.od (stD (l1.fdiv b) c t1)), .d (.int b), z, .d (.int (l1.fmod b))]) ?_).trans (ret_of (vr_of rfl))
    have := setK_of (i := 0) (key := "left") (m2_of (get_left (l := l1) (c := c) (t := t1) (w := true) (r := [.d (.int b), z, .d (.int (l1.fmod b))])) (mb := vr 1) (vr_of rfl) (div_i ⟨by omega, PyProof.noPylong_of_log2 hb2⟩)) rfl (by show 3 ≤ 1000; decide)
    rw [put_left] at this
    exact this
  unfold fDigit bodyO
  show endO (mDigit [.own true (.od (stD l c t)), .d (.int b), .no, .no]) = _
  rw [run]
  rfl
end
end Fx

set_option Elab.async false
set_option linter.all false
set_option maxRecDepth 100000
set_option maxHeartbeats 4000000
namespace K99
open PySem PySem.Spec PyProof.Rows L2 Evl Fx
def top (i : Nat) : Stmt := PySem.Challenge.pw_sumsettled_k99_errors_by_hand.main.body.getD i (.Pass ⟨0, 0, 0, 0⟩)
def tbl_BadNumber : List (Nat × Bool) := [(45, true), (65, false), (85, false), (105, false), (125, false), (145, false), (165, false), (185, false), (205, false), (225, false), (245, false), (265, false), (285, false), (305, false), (325, false), (344, false), (365, false)]
def tbl_BadPolynomial : List (Nat × Bool) := [(45, false), (65, true), (85, false), (105, false), (125, false), (145, false), (165, false), (185, false), (205, false), (225, false), (245, false), (265, false), (285, false), (305, false), (325, false), (344, false), (365, false)]
def tbl_BadRational : List (Nat × Bool) := [(45, false), (65, false), (85, true), (105, false), (125, false), (145, false), (165, false), (185, false), (205, false), (225, false), (245, false), (265, false), (285, false), (305, false), (325, false), (344, false), (365, false)]
def tbl_BadTerm : List (Nat × Bool) := [(45, false), (65, false), (85, false), (105, true), (125, false), (145, false), (165, false), (185, false), (205, false), (225, false), (245, false), (265, false), (285, false), (305, false), (325, false), (344, false), (365, false)]
def tbl_BadProper : List (Nat × Bool) := [(45, false), (65, false), (85, false), (105, false), (125, true), (145, false), (165, false), (185, false), (205, false), (225, false), (245, false), (265, false), (285, false), (305, false), (325, false), (344, false), (365, false)]
def tbl_BadRow : List (Nat × Bool) := [(45, false), (65, false), (85, false), (105, false), (125, false), (145, true), (165, false), (185, false), (205, false), (225, false), (245, false), (265, false), (285, false), (305, false), (325, false), (344, false), (365, false)]
def tbl_BadEquation : List (Nat × Bool) := [(45, false), (65, false), (85, false), (105, false), (125, false), (145, false), (165, true), (185, false), (205, false), (225, false), (245, false), (265, false), (285, false), (305, false), (325, false), (344, false), (365, false)]
def tbl_BadSystem : List (Nat × Bool) := [(45, false), (65, false), (85, false), (105, false), (125, false), (145, false), (165, false), (185, true), (205, false), (225, false), (245, false), (265, false), (285, false), (305, false), (325, false), (344, false), (365, false)]
def tbl_BadSeries : List (Nat × Bool) := [(45, false), (65, false), (85, false), (105, false), (125, false), (145, false), (165, false), (185, false), (205, true), (225, false), (245, false), (265, false), (285, false), (305, false), (325, false), (344, false), (365, false)]
def tbl_BadClaim : List (Nat × Bool) := [(45, false), (65, false), (85, false), (105, false), (125, false), (145, false), (165, false), (185, false), (205, false), (225, true), (245, false), (265, false), (285, false), (305, false), (325, false), (344, false), (365, false)]
def tbl_BadFactorials : List (Nat × Bool) := [(45, false), (65, false), (85, false), (105, false), (125, false), (145, false), (165, false), (185, false), (205, false), (225, false), (245, true), (265, false), (285, false), (305, false), (325, false), (344, false), (365, false)]
def tbl_BadValues : List (Nat × Bool) := [(45, false), (65, false), (85, false), (105, false), (125, false), (145, false), (165, false), (185, false), (205, false), (225, false), (245, false), (265, true), (285, false), (305, false), (325, false), (344, false), (365, false)]
def tbl_BadText : List (Nat × Bool) := [(45, false), (65, false), (85, false), (105, false), (125, false), (145, false), (165, false), (185, false), (205, false), (225, false), (245, false), (265, false), (285, true), (305, false), (325, false), (344, false), (365, false)]
def tbl_BadPaper : List (Nat × Bool) := [(45, false), (65, false), (85, false), (105, false), (125, false), (145, false), (165, false), (185, false), (205, false), (225, false), (245, false), (265, false), (285, false), (305, true), (325, false), (344, false), (365, false)]
def tbl_BadDeed : List (Nat × Bool) := [(45, false), (65, false), (85, false), (105, false), (125, false), (145, false), (165, false), (185, false), (205, false), (225, false), (245, false), (265, false), (285, false), (305, false), (325, true), (344, false), (365, false)]
def tbl_TooMany : List (Nat × Bool) := [(45, false), (65, false), (85, false), (105, false), (125, false), (145, false), (165, false), (185, false), (205, false), (225, false), (245, false), (265, false), (285, false), (305, false), (325, false), (344, true), (365, false)]
def tbl_NoSuch : List (Nat × Bool) := [(45, false), (65, false), (85, false), (105, false), (125, false), (145, false), (165, false), (185, false), (205, false), (225, false), (245, false), (265, false), (285, false), (305, false), (325, false), (344, false), (365, true)]
def tbl_SumError : List (Nat × Bool) := [(45, true), (65, true), (85, true), (105, true), (125, true), (145, true), (165, true), (185, true), (205, true), (225, true), (245, true), (265, true), (285, true), (305, true), (325, true), (344, false), (365, false)]
def tbl_ValueError : List (Nat × Bool) := [(45, true), (65, true), (85, true), (105, true), (125, true), (145, true), (165, true), (185, true), (205, true), (225, true), (245, true), (265, true), (285, true), (305, true), (325, true), (344, false), (365, false)]
def tbl_LookupError : List (Nat × Bool) := [(45, false), (65, false), (85, false), (105, false), (125, false), (145, false), (165, false), (185, false), (205, false), (225, false), (245, false), (265, false), (285, false), (305, false), (325, false), (344, false), (365, true)]
def tbl_OverflowError : List (Nat × Bool) := [(45, false), (65, false), (85, false), (105, false), (125, false), (145, false), (165, false), (185, false), (205, false), (225, false), (245, false), (265, false), (285, false), (305, false), (325, false), (344, true), (365, false)]
def f__law_draw : List D → Option (List (Str × D)) := drawF
/-! ### _law_mixed -/
abbrev s__law_mixed : Stmt := top 20
theorem sc__law_mixed : FnScope ["cell", "k", "number"] ["cell", "k"] (defScope s__law_mixed) := ⟨rfl, rfl, rfl, by decide +kernel, rfl, by decide +kernel, by decide +kernel⟩
def m__law_mixed : M Fl := (seqM (setM 2 (m2 (m2 (m2 (vr 0) (m2 (lstM (consM (M.ret (.int 1000000007)) (consM (M.ret (.int 998244353)) (consM (M.ret (.int 2147483629)) (consM (M.ret (.int 1000000009)) (M.ret [])))))) (m2 (vr 1) (M.ret (.int 4)) modD) ixD) modD) (m2 (M.ret (.int 7919)) (vr 1) mulD) addD) (M.ret (.int 13)) addD)) (retM (m2 (m2 (m2 (m2 (vr 2) (vr 2) mulD) (M.ret (.int 2147483647)) modD) (M.ret (.int 48271)) mulD) (M.ret (.int 2147483647)) modD)))
def f__law_mixed : Fn := bodyF 3 m__law_mixed
theorem ok__law_mixed {P : Program} {w : World} {K : PySem.W.Frag} {mg : Str → Option Value} {base : Heap} {fA : Addr} {fd : FuncData} (F : Fun K "_law_mixed" "_law_mixed" s__law_mixed fA fd)  : FnG P w K mg base 1 fA fd ["cell", "k"] (spF K mg 2 f__law_mixed) := by
  refine fn_mkG F sc__law_mixed (by decide) fun X W hp hw hK hmg hbs hN hsc hc hfn hst hfr hex hr hg tk hI hpo => ?_
  subst hp hw hK hmg hbs
  have R : Run X W _ (defScope s__law_mixed) true 0 := run_def hN sc__law_mixed.nd hsc hc hfn hr hg tk
  exact (fb_cons (s_set R 2 (r_add (r_add (r_mod (r_var R 0) (fe_ix (fe_lst (fa_cons fe_int (fa_cons fe_int (fa_cons fe_int (fa_cons fe_int fa_nil))))) (r_mod (r_var R 1) fe_int))) (r_mul fe_int (r_var R 1))) fe_int))
    (fb_one (fs_ret (r_mod (r_mul (r_mod (r_mul (r_var R 2) (r_var R 2)) fe_int) fe_int) fe_int))))
/-! ### _law_digit -/
def b1__law_digit : M Fl := (seqM (setK 0 "turns" (m2 (ixK 0 "turns") (M.ret (.int 1)) addD)) (setK 0 "left" (m2 (m2 (ixK 0 "left") (M.ret (.int 2147483647)) mulD) (callM f__law_mixed (consM (ixK 0 "cell") (consM (ixK 0 "turns") (M.ret [])))) addD)))
def t2__law_digit : M Bool := (asB (m2 (ixK 0 "left") (M.ret (.int 0)) eqD))
abbrev s__law_digit : Stmt := top 22
theorem sc__law_digit : FnScope ["state", "below", "j", "found"] ["state", "below"] (defScope s__law_digit) := ⟨rfl, rfl, rfl, by decide +kernel, rfl, by decide +kernel, by decide +kernel⟩
def m__law_digit : M Fl := (seqM (ifM t2__law_digit (forL (rng1 (consM (M.ret (.int 4)) (M.ret []))) (tgN 2) b1__law_digit) (M.ret .nx)) (seqM (setM 3 (m2 (ixK 0 "left") (vr 1) modD)) (seqM (setK 0 "left" (m2 (ixK 0 "left") (vr 1) fdivD)) (retM (vr 3)))))
def f__law_digit : FnO := bodyO 4 m__law_digit
theorem ok__law_digit {P : Program} {w : World} {K : PySem.W.Frag} {mg : Str → Option Value} {base : Heap} {fA : Addr} {fd : FuncData} (F : Fun K "_law_digit" "_law_digit" s__law_digit fA fd) (c__law_mixed : Cal P w K mg base 1 "_law_mixed" 2 (spF K mg 2 f__law_mixed)) (z_range : mg "range" = none) : FnG P w K mg base 2 fA fd ["state", "below"] (spO K mg 1 f__law_digit) := by
  refine fn_mkO (n := 1) F sc__law_digit rfl (by decide) fun X W hp hw hK hmg hbs hN hsc hc hfn hst hfr hex hr hg tk hI hpo => ?_
  subst hp hw hK hmg hbs
  have R : Run X W _ (defScope s__law_digit) true 1 := run_def hN sc__law_digit.nd hsc hc hfn hr hg tk
  exact (fb_cons (fs_if (t_eq R (r_ixK R 0) fe_int) (fb_one (s_for R hpo (i_range1 R z_range (fa_cons fe_int fa_nil)) (g_name R 2) (fb_cons (s_setK R 0 (r_add (r_ixK R 0) fe_int))
    (fb_one (s_setK R 0 (r_add (r_mul (r_ixK R 0) fe_int) (r_call R c__law_mixed (fa_cons (r_ixK R 0) (fa_cons (r_ixK R 0) fa_nil)) (cons_len (cons_len nil_len))))))))) fb_nil)
    (fb_cons (s_set R 3 (r_mod (r_ixK R 0) (r_var R 1)))
    (fb_cons (s_setK R 0 (r_div (r_ixK R 0) (r_var R 1)))
    (fb_one (fs_ret (r_var R 3))))))
/-! ### _law_kinds -/
abbrev s__law_kinds : Stmt := top 23
theorem sc__law_kinds : FnScope ["e", "some", "word", "is_so"] ["e"] (defScope s__law_kinds) := ⟨rfl, rfl, rfl, by decide +kernel, rfl, by decide +kernel, by decide +kernel⟩
def m__law_kinds : M Fl := (seqM (setM 1 (lstM (consM (tupM (consM (M.ret (.str "BadClaim")) (consM (m1 (vr 0) (isXD tbl_BadClaim)) (M.ret [])))) (consM (tupM (consM (M.ret (.str "BadDeed")) (consM (m1 (vr 0) (isXD tbl_BadDeed)) (M.ret [])))) (M.ret []))))) (seqM (setM 1 (m2 (vr 1) (lstM (consM (tupM (consM (M.ret (.str "BadEquation")) (consM (m1 (vr 0) (isXD tbl_BadEquation)) (M.ret [])))) (consM (tupM (consM (M.ret (.str "BadFactorials")) (consM (m1 (vr 0) (isXD tbl_BadFactorials)) (M.ret [])))) (M.ret [])))) addD)) (seqM (setM 1 (m2 (vr 1) (lstM (consM (tupM (consM (M.ret (.str "BadNumber")) (consM (m1 (vr 0) (isXD tbl_BadNumber)) (M.ret [])))) (consM (tupM (consM (M.ret (.str "BadPaper")) (consM (m1 (vr 0) (isXD tbl_BadPaper)) (M.ret [])))) (M.ret [])))) addD)) (seqM (setM 1 (m2 (vr 1) (lstM (consM (tupM (consM (M.ret (.str "BadPolynomial")) (consM (m1 (vr 0) (isXD tbl_BadPolynomial)) (M.ret [])))) (consM (tupM (consM (M.ret (.str "BadProper")) (consM (m1 (vr 0) (isXD tbl_BadProper)) (M.ret [])))) (M.ret [])))) addD)) (seqM (setM 1 (m2 (vr 1) (lstM (consM (tupM (consM (M.ret (.str "BadRational")) (consM (m1 (vr 0) (isXD tbl_BadRational)) (M.ret [])))) (consM (tupM (consM (M.ret (.str "BadRow")) (consM (m1 (vr 0) (isXD tbl_BadRow)) (M.ret [])))) (M.ret [])))) addD)) (seqM (setM 1 (m2 (vr 1) (lstM (consM (tupM (consM (M.ret (.str "BadSeries")) (consM (m1 (vr 0) (isXD tbl_BadSeries)) (M.ret [])))) (consM (tupM (consM (M.ret (.str "BadSystem")) (consM (m1 (vr 0) (isXD tbl_BadSystem)) (M.ret [])))) (M.ret [])))) addD)) (seqM (setM 1 (m2 (vr 1) (lstM (consM (tupM (consM (M.ret (.str "BadTerm")) (consM (m1 (vr 0) (isXD tbl_BadTerm)) (M.ret [])))) (consM (tupM (consM (M.ret (.str "BadText")) (consM (m1 (vr 0) (isXD tbl_BadText)) (M.ret [])))) (M.ret [])))) addD)) (seqM (setM 1 (m2 (vr 1) (lstM (consM (tupM (consM (M.ret (.str "BadValues")) (consM (m1 (vr 0) (isXD tbl_BadValues)) (M.ret [])))) (consM (tupM (consM (M.ret (.str "NoSuch")) (consM (m1 (vr 0) (isXD tbl_NoSuch)) (M.ret [])))) (M.ret [])))) addD)) (seqM (setM 1 (m2 (vr 1) (lstM (consM (tupM (consM (M.ret (.str "TooMany")) (consM (m1 (vr 0) (isXD tbl_TooMany)) (M.ret [])))) (M.ret []))) addD)) (seqM (setM 1 (m2 (vr 1) (lstM (consM (tupM (consM (M.ret (.str "base")) (consM (m1 (vr 0) (isXD tbl_SumError)) (M.ret [])))) (consM (tupM (consM (M.ret (.str "value")) (consM (m1 (vr 0) (isXD tbl_ValueError)) (M.ret [])))) (M.ret [])))) addD)) (seqM (setM 1 (m2 (vr 1) (lstM (consM (tupM (consM (M.ret (.str "lookup")) (consM (m1 (vr 0) (isXD tbl_LookupError)) (M.ret [])))) (consM (tupM (consM (M.ret (.str "overflow")) (consM (m1 (vr 0) (isXD tbl_OverflowError)) (M.ret [])))) (M.ret [])))) addD)) (retM (lsM (lcM (listOf (vr 1)) (tgT (tgCons (tgN 2) (tgCons (tgN 3) tgNil)) 2) (truM (vr 3)) (vr 2) [2, 3]))))))))))))))
def f__law_kinds : Fn := bodyF 4 m__law_kinds
theorem ok__law_kinds {P : Program} {w : World} {K : PySem.W.Frag} {mg : Str → Option Value} {base : Heap} {fA : Addr} {fd : FuncData} (F : Fun K "_law_kinds" "_law_kinds" s__law_kinds fA fd) (T_is_BadClaim : ∀ p ∈ tbl_BadClaim, PySem.FxE.IsC K p.1 ∧ PySem.W.kitOne K (.ref p.1) (.ref 225) = some p.2) (T_is_BadDeed : ∀ p ∈ tbl_BadDeed, PySem.FxE.IsC K p.1 ∧ PySem.W.kitOne K (.ref p.1) (.ref 325) = some p.2) (T_is_BadEquation : ∀ p ∈ tbl_BadEquation, PySem.FxE.IsC K p.1 ∧ PySem.W.kitOne K (.ref p.1) (.ref 165) = some p.2) (T_is_BadFactorials : ∀ p ∈ tbl_BadFactorials, PySem.FxE.IsC K p.1 ∧ PySem.W.kitOne K (.ref p.1) (.ref 245) = some p.2) (T_is_BadNumber : ∀ p ∈ tbl_BadNumber, PySem.FxE.IsC K p.1 ∧ PySem.W.kitOne K (.ref p.1) (.ref 45) = some p.2) (T_is_BadPaper : ∀ p ∈ tbl_BadPaper, PySem.FxE.IsC K p.1 ∧ PySem.W.kitOne K (.ref p.1) (.ref 305) = some p.2) (T_is_BadPolynomial : ∀ p ∈ tbl_BadPolynomial, PySem.FxE.IsC K p.1 ∧ PySem.W.kitOne K (.ref p.1) (.ref 65) = some p.2) (T_is_BadProper : ∀ p ∈ tbl_BadProper, PySem.FxE.IsC K p.1 ∧ PySem.W.kitOne K (.ref p.1) (.ref 125) = some p.2) (T_is_BadRational : ∀ p ∈ tbl_BadRational, PySem.FxE.IsC K p.1 ∧ PySem.W.kitOne K (.ref p.1) (.ref 85) = some p.2) (T_is_BadRow : ∀ p ∈ tbl_BadRow, PySem.FxE.IsC K p.1 ∧ PySem.W.kitOne K (.ref p.1) (.ref 145) = some p.2) (T_is_BadSeries : ∀ p ∈ tbl_BadSeries, PySem.FxE.IsC K p.1 ∧ PySem.W.kitOne K (.ref p.1) (.ref 205) = some p.2) (T_is_BadSystem : ∀ p ∈ tbl_BadSystem, PySem.FxE.IsC K p.1 ∧ PySem.W.kitOne K (.ref p.1) (.ref 185) = some p.2) (T_is_BadTerm : ∀ p ∈ tbl_BadTerm, PySem.FxE.IsC K p.1 ∧ PySem.W.kitOne K (.ref p.1) (.ref 105) = some p.2) (T_is_BadText : ∀ p ∈ tbl_BadText, PySem.FxE.IsC K p.1 ∧ PySem.W.kitOne K (.ref p.1) (.ref 285) = some p.2) (T_is_BadValues : ∀ p ∈ tbl_BadValues, PySem.FxE.IsC K p.1 ∧ PySem.W.kitOne K (.ref p.1) (.ref 265) = some p.2) (T_is_LookupError : ∀ p ∈ tbl_LookupError, PySem.FxE.IsC K p.1 ∧ PySem.W.kitOne K (.ref p.1) (.type "LookupError") = some p.2) (T_is_NoSuch : ∀ p ∈ tbl_NoSuch, PySem.FxE.IsC K p.1 ∧ PySem.W.kitOne K (.ref p.1) (.ref 365) = some p.2) (T_is_OverflowError : ∀ p ∈ tbl_OverflowError, PySem.FxE.IsC K p.1 ∧ PySem.W.kitOne K (.ref p.1) (.type "OverflowError") = some p.2) (T_is_SumError : ∀ p ∈ tbl_SumError, PySem.FxE.IsC K p.1 ∧ PySem.W.kitOne K (.ref p.1) (.ref 24) = some p.2) (T_is_TooMany : ∀ p ∈ tbl_TooMany, PySem.FxE.IsC K p.1 ∧ PySem.W.kitOne K (.ref p.1) (.ref 344) = some p.2) (T_is_ValueError : ∀ p ∈ tbl_ValueError, PySem.FxE.IsC K p.1 ∧ PySem.W.kitOne K (.ref p.1) (.type "ValueError") = some p.2) (g_BadClaim : mg "BadClaim" = some (.ref 225)) (g_BadDeed : mg "BadDeed" = some (.ref 325)) (g_BadEquation : mg "BadEquation" = some (.ref 165)) (g_BadFactorials : mg "BadFactorials" = some (.ref 245)) (g_BadNumber : mg "BadNumber" = some (.ref 45)) (g_BadPaper : mg "BadPaper" = some (.ref 305)) (g_BadPolynomial : mg "BadPolynomial" = some (.ref 65)) (g_BadProper : mg "BadProper" = some (.ref 125)) (g_BadRational : mg "BadRational" = some (.ref 85)) (g_BadRow : mg "BadRow" = some (.ref 145)) (g_BadSeries : mg "BadSeries" = some (.ref 205)) (g_BadSystem : mg "BadSystem" = some (.ref 185)) (g_BadTerm : mg "BadTerm" = some (.ref 105)) (g_BadText : mg "BadText" = some (.ref 285)) (g_BadValues : mg "BadValues" = some (.ref 265)) (g_NoSuch : mg "NoSuch" = some (.ref 365)) (g_SumError : mg "SumError" = some (.ref 24)) (g_TooMany : mg "TooMany" = some (.ref 344)) (z_LookupError : mg "LookupError" = none) (z_OverflowError : mg "OverflowError" = none) (z_ValueError : mg "ValueError" = none) (z_isinstance : mg "isinstance" = none) : FnG P w K mg base 1 fA fd ["e"] (spF K mg 1 f__law_kinds) := by
  refine fn_mkG F sc__law_kinds (by decide) fun X W hp hw hK hmg hbs hN hsc hc hfn hst hfr hex hr hg tk hI hpo => ?_
  subst hp hw hK hmg hbs
  have R : Run X W _ (defScope s__law_kinds) true 0 := run_def hN sc__law_kinds.nd hsc hc hfn hr hg tk
  exact (fb_cons (s_set R 1 (fe_lst (fa_cons (fe_tup (fa_cons fe_str (fa_cons (r_isO R T_is_BadClaim z_isinstance g_BadClaim (r_var R 0)) fa_nil))) (fa_cons (fe_tup (fa_cons fe_str (fa_cons (r_isO R T_is_BadDeed z_isinstance g_BadDeed (r_var R 0)) fa_nil))) fa_nil))))
    (fb_cons (s_set R 1 (r_add (r_var R 1) (fe_lst (fa_cons (fe_tup (fa_cons fe_str (fa_cons (r_isO R T_is_BadEquation z_isinstance g_BadEquation (r_var R 0)) fa_nil))) (fa_cons (fe_tup (fa_cons fe_str (fa_cons (r_isO R T_is_BadFactorials z_isinstance g_BadFactorials (r_var R 0)) fa_nil))) fa_nil)))))
    (fb_cons (s_set R 1 (r_add (r_var R 1) (fe_lst (fa_cons (fe_tup (fa_cons fe_str (fa_cons (r_isO R T_is_BadNumber z_isinstance g_BadNumber (r_var R 0)) fa_nil))) (fa_cons (fe_tup (fa_cons fe_str (fa_cons (r_isO R T_is_BadPaper z_isinstance g_BadPaper (r_var R 0)) fa_nil))) fa_nil)))))
    (fb_cons (s_set R 1 (r_add (r_var R 1) (fe_lst (fa_cons (fe_tup (fa_cons fe_str (fa_cons (r_isO R T_is_BadPolynomial z_isinstance g_BadPolynomial (r_var R 0)) fa_nil))) (fa_cons (fe_tup (fa_cons fe_str (fa_cons (r_isO R T_is_BadProper z_isinstance g_BadProper (r_var R 0)) fa_nil))) fa_nil)))))
    (fb_cons (s_set R 1 (r_add (r_var R 1) (fe_lst (fa_cons (fe_tup (fa_cons fe_str (fa_cons (r_isO R T_is_BadRational z_isinstance g_BadRational (r_var R 0)) fa_nil))) (fa_cons (fe_tup (fa_cons fe_str (fa_cons (r_isO R T_is_BadRow z_isinstance g_BadRow (r_var R 0)) fa_nil))) fa_nil)))))
    (fb_cons (s_set R 1 (r_add (r_var R 1) (fe_lst (fa_cons (fe_tup (fa_cons fe_str (fa_cons (r_isO R T_is_BadSeries z_isinstance g_BadSeries (r_var R 0)) fa_nil))) (fa_cons (fe_tup (fa_cons fe_str (fa_cons (r_isO R T_is_BadSystem z_isinstance g_BadSystem (r_var R 0)) fa_nil))) fa_nil)))))
    (fb_cons (s_set R 1 (r_add (r_var R 1) (fe_lst (fa_cons (fe_tup (fa_cons fe_str (fa_cons (r_isO R T_is_BadTerm z_isinstance g_BadTerm (r_var R 0)) fa_nil))) (fa_cons (fe_tup (fa_cons fe_str (fa_cons (r_isO R T_is_BadText z_isinstance g_BadText (r_var R 0)) fa_nil))) fa_nil)))))
    (fb_cons (s_set R 1 (r_add (r_var R 1) (fe_lst (fa_cons (fe_tup (fa_cons fe_str (fa_cons (r_isO R T_is_BadValues z_isinstance g_BadValues (r_var R 0)) fa_nil))) (fa_cons (fe_tup (fa_cons fe_str (fa_cons (r_isO R T_is_NoSuch z_isinstance g_NoSuch (r_var R 0)) fa_nil))) fa_nil)))))
    (fb_cons (s_set R 1 (r_add (r_var R 1) (fe_lst (fa_cons (fe_tup (fa_cons fe_str (fa_cons (r_isO R T_is_TooMany z_isinstance g_TooMany (r_var R 0)) fa_nil))) fa_nil))))
    (fb_cons (s_set R 1 (r_add (r_var R 1) (fe_lst (fa_cons (fe_tup (fa_cons fe_str (fa_cons (r_isO R T_is_SumError z_isinstance g_SumError (r_var R 0)) fa_nil))) (fa_cons (fe_tup (fa_cons fe_str (fa_cons (r_isB (T0 := "ValueError") R T_is_ValueError z_isinstance z_ValueError (by decide +kernel) (r_var R 0)) fa_nil))) fa_nil)))))
    (fb_cons (s_set R 1 (r_add (r_var R 1) (fe_lst (fa_cons (fe_tup (fa_cons fe_str (fa_cons (r_isB (T0 := "LookupError") R T_is_LookupError z_isinstance z_LookupError (by decide +kernel) (r_var R 0)) fa_nil))) (fa_cons (fe_tup (fa_cons fe_str (fa_cons (r_isB (T0 := "OverflowError") R T_is_OverflowError z_isinstance z_OverflowError (by decide +kernel) (r_var R 0)) fa_nil))) fa_nil)))))
    (fb_one (fs_ret (ff_fe (r_lc [("word", 2), ("is_so", 3)] R ⟨rfl, by decide +kernel, by decide +kernel, by decide +kernel, by decide +kernel⟩ (fi_list (r_var R 1)) fun _ _ _ _ _ Rc => ⟨(g_tup Rc (fgs_cons (g_name Rc 2) (fgs_cons (g_name Rc 3) fgs_nil))), (fc_one (ft_tru (r_var Rc 3))), (r_var Rc 2)⟩)))))))))))))))
/-! ### _law_valued -/
abbrev s__law_valued : Stmt := top 24
theorem sc__law_valued : FnScope ["thing"] ["thing"] (defScope s__law_valued) := ⟨rfl, rfl, rfl, by decide +kernel, rfl, by decide +kernel, by decide +kernel⟩
def m__law_valued : M Fl := (retM (lstM (consM (tupM (consM (m1 (vr 0) fun d => some (instD 45 (.str "no such number") "value" d)) (consM (m1 (vr 0) fun d => some (instD 45 (.str "no such number") "value" d)) (consM (M.ret (.str "BadNumber")) (M.ret []))))) (M.ret []))))
def f__law_valued : Fn := bodyF 1 m__law_valued
theorem ok__law_valued {P : Program} {w : World} {K : PySem.W.Frag} {mg : Str → Option Value} {base : Heap} {fA : Addr} {fd : FuncData} (F : Fun K "_law_valued" "_law_valued" s__law_valued fA fd) (e_BadNumber : Exk P w K mg base 1 "BadNumber" 45 "value" "no such number" "value") : FnG P w K mg base 3 fA fd ["thing"] (spF K mg 1 f__law_valued) := by
  refine fn_mkG F sc__law_valued (by decide) fun X W hp hw hK hmg hbs hN hsc hc hfn hst hfr hex hr hg tk hI hpo => ?_
  subst hp hw hK hmg hbs
  have R : Run X W _ (defScope s__law_valued) true 2 := run_def hN sc__law_valued.nd hsc hc hfn hr hg tk
  exact (fb_one (fs_ret (fe_lst (fa_cons (fe_tup (fa_cons (r_mk R e_BadNumber (r_var R 0)) (fa_cons (r_mkK R e_BadNumber (r_var R 0)) (fa_cons fe_str fa_nil)))) fa_nil))))
/-! ### _law_placed -/
abbrev s__law_placed : Stmt := top 25
theorem sc__law_placed : FnScope ["thing", "found"] ["thing"] (defScope s__law_placed) := ⟨rfl, rfl, rfl, by decide +kernel, rfl, by decide +kernel, by decide +kernel⟩
def m__law_placed : M Fl := (seqM (setM 1 (lstM (consM (tupM (consM (m1 (vr 0) fun d => some (instD 65 (.str "no such polynomial") "place" d)) (consM (m1 (vr 0) fun d => some (instD 65 (.str "no such polynomial") "place" d)) (consM (M.ret (.str "BadPolynomial")) (M.ret []))))) (M.ret [])))) (seqM (setM 1 (m2 (vr 1) (lstM (consM (tupM (consM (m1 (vr 0) fun d => some (instD 85 (.str "no such rational") "place" d)) (consM (m1 (vr 0) fun d => some (instD 85 (.str "no such rational") "place" d)) (consM (M.ret (.str "BadRational")) (M.ret []))))) (M.ret []))) addD)) (seqM (setM 1 (m2 (vr 1) (lstM (consM (tupM (consM (m1 (vr 0) fun d => some (instD 105 (.str "no such term") "place" d)) (consM (m1 (vr 0) fun d => some (instD 105 (.str "no such term") "place" d)) (consM (M.ret (.str "BadTerm")) (M.ret []))))) (M.ret []))) addD)) (seqM (setM 1 (m2 (vr 1) (lstM (consM (tupM (consM (m1 (vr 0) fun d => some (instD 125 (.str "no such proper term") "place" d)) (consM (m1 (vr 0) fun d => some (instD 125 (.str "no such proper term") "place" d)) (consM (M.ret (.str "BadProper")) (M.ret []))))) (M.ret []))) addD)) (seqM (setM 1 (m2 (vr 1) (lstM (consM (tupM (consM (m1 (vr 0) fun d => some (instD 145 (.str "no such row") "place" d)) (consM (m1 (vr 0) fun d => some (instD 145 (.str "no such row") "place" d)) (consM (M.ret (.str "BadRow")) (M.ret []))))) (M.ret []))) addD)) (seqM (setM 1 (m2 (vr 1) (lstM (consM (tupM (consM (m1 (vr 0) fun d => some (instD 165 (.str "no such equation") "place" d)) (consM (m1 (vr 0) fun d => some (instD 165 (.str "no such equation") "place" d)) (consM (M.ret (.str "BadEquation")) (M.ret []))))) (M.ret []))) addD)) (seqM (setM 1 (m2 (vr 1) (lstM (consM (tupM (consM (m1 (vr 0) fun d => some (instD 185 (.str "no such system") "place" d)) (consM (m1 (vr 0) fun d => some (instD 185 (.str "no such system") "place" d)) (consM (M.ret (.str "BadSystem")) (M.ret []))))) (M.ret []))) addD)) (seqM (setM 1 (m2 (vr 1) (lstM (consM (tupM (consM (m1 (vr 0) fun d => some (instD 205 (.str "no such series") "place" d)) (consM (m1 (vr 0) fun d => some (instD 205 (.str "no such series") "place" d)) (consM (M.ret (.str "BadSeries")) (M.ret []))))) (M.ret []))) addD)) (seqM (setM 1 (m2 (vr 1) (lstM (consM (tupM (consM (m1 (vr 0) fun d => some (instD 225 (.str "no such claim") "place" d)) (consM (m1 (vr 0) fun d => some (instD 225 (.str "no such claim") "place" d)) (consM (M.ret (.str "BadClaim")) (M.ret []))))) (M.ret []))) addD)) (seqM (setM 1 (m2 (vr 1) (lstM (consM (tupM (consM (m1 (vr 0) fun d => some (instD 245 (.str "no such factorials") "place" d)) (consM (m1 (vr 0) fun d => some (instD 245 (.str "no such factorials") "place" d)) (consM (M.ret (.str "BadFactorials")) (M.ret []))))) (M.ret []))) addD)) (seqM (setM 1 (m2 (vr 1) (lstM (consM (tupM (consM (m1 (vr 0) fun d => some (instD 265 (.str "no such values") "place" d)) (consM (m1 (vr 0) fun d => some (instD 265 (.str "no such values") "place" d)) (consM (M.ret (.str "BadValues")) (M.ret []))))) (M.ret []))) addD)) (seqM (setM 1 (m2 (vr 1) (lstM (consM (tupM (consM (m1 (vr 0) fun d => some (instD 285 (.str "no such text") "place" d)) (consM (m1 (vr 0) fun d => some (instD 285 (.str "no such text") "place" d)) (consM (M.ret (.str "BadText")) (M.ret []))))) (M.ret []))) addD)) (seqM (setM 1 (m2 (vr 1) (lstM (consM (tupM (consM (m1 (vr 0) fun d => some (instD 305 (.str "no such paper") "place" d)) (consM (m1 (vr 0) fun d => some (instD 305 (.str "no such paper") "place" d)) (consM (M.ret (.str "BadPaper")) (M.ret []))))) (M.ret []))) addD)) (retM (m2 (vr 1) (lstM (consM (tupM (consM (m1 (vr 0) fun d => some (instD 325 (.str "no such deed") "place" d)) (consM (m1 (vr 0) fun d => some (instD 325 (.str "no such deed") "place" d)) (consM (M.ret (.str "BadDeed")) (M.ret []))))) (M.ret []))) addD)))))))))))))))
def f__law_placed : Fn := bodyF 2 m__law_placed
theorem ok__law_placed {P : Program} {w : World} {K : PySem.W.Frag} {mg : Str → Option Value} {base : Heap} {fA : Addr} {fd : FuncData} (F : Fun K "_law_placed" "_law_placed" s__law_placed fA fd) (e_BadClaim : Exk P w K mg base 1 "BadClaim" 225 "place" "no such claim" "place") (e_BadDeed : Exk P w K mg base 1 "BadDeed" 325 "place" "no such deed" "place") (e_BadEquation : Exk P w K mg base 1 "BadEquation" 165 "place" "no such equation" "place") (e_BadFactorials : Exk P w K mg base 1 "BadFactorials" 245 "place" "no such factorials" "place") (e_BadPaper : Exk P w K mg base 1 "BadPaper" 305 "place" "no such paper" "place") (e_BadPolynomial : Exk P w K mg base 1 "BadPolynomial" 65 "place" "no such polynomial" "place") (e_BadProper : Exk P w K mg base 1 "BadProper" 125 "place" "no such proper term" "place") (e_BadRational : Exk P w K mg base 1 "BadRational" 85 "place" "no such rational" "place") (e_BadRow : Exk P w K mg base 1 "BadRow" 145 "place" "no such row" "place") (e_BadSeries : Exk P w K mg base 1 "BadSeries" 205 "place" "no such series" "place") (e_BadSystem : Exk P w K mg base 1 "BadSystem" 185 "place" "no such system" "place") (e_BadTerm : Exk P w K mg base 1 "BadTerm" 105 "place" "no such term" "place") (e_BadText : Exk P w K mg base 1 "BadText" 285 "place" "no such text" "place") (e_BadValues : Exk P w K mg base 1 "BadValues" 265 "place" "no such values" "place") : FnG P w K mg base 3 fA fd ["thing"] (spF K mg 1 f__law_placed) := by
  refine fn_mkG F sc__law_placed (by decide) fun X W hp hw hK hmg hbs hN hsc hc hfn hst hfr hex hr hg tk hI hpo => ?_
  subst hp hw hK hmg hbs
  have R : Run X W _ (defScope s__law_placed) true 2 := run_def hN sc__law_placed.nd hsc hc hfn hr hg tk
  exact (fb_cons (s_set R 1 (fe_lst (fa_cons (fe_tup (fa_cons (r_mk R e_BadPolynomial (r_var R 0)) (fa_cons (r_mkK R e_BadPolynomial (r_var R 0)) (fa_cons fe_str fa_nil)))) fa_nil)))
    (fb_cons (s_set R 1 (r_add (r_var R 1) (fe_lst (fa_cons (fe_tup (fa_cons (r_mk R e_BadRational (r_var R 0)) (fa_cons (r_mkK R e_BadRational (r_var R 0)) (fa_cons fe_str fa_nil)))) fa_nil))))
    (fb_cons (s_set R 1 (r_add (r_var R 1) (fe_lst (fa_cons (fe_tup (fa_cons (r_mk R e_BadTerm (r_var R 0)) (fa_cons (r_mkK R e_BadTerm (r_var R 0)) (fa_cons fe_str fa_nil)))) fa_nil))))
    (fb_cons (s_set R 1 (r_add (r_var R 1) (fe_lst (fa_cons (fe_tup (fa_cons (r_mk R e_BadProper (r_var R 0)) (fa_cons (r_mkK R e_BadProper (r_var R 0)) (fa_cons fe_str fa_nil)))) fa_nil))))
    (fb_cons (s_set R 1 (r_add (r_var R 1) (fe_lst (fa_cons (fe_tup (fa_cons (r_mk R e_BadRow (r_var R 0)) (fa_cons (r_mkK R e_BadRow (r_var R 0)) (fa_cons fe_str fa_nil)))) fa_nil))))
    (fb_cons (s_set R 1 (r_add (r_var R 1) (fe_lst (fa_cons (fe_tup (fa_cons (r_mk R e_BadEquation (r_var R 0)) (fa_cons (r_mkK R e_BadEquation (r_var R 0)) (fa_cons fe_str fa_nil)))) fa_nil))))
    (fb_cons (s_set R 1 (r_add (r_var R 1) (fe_lst (fa_cons (fe_tup (fa_cons (r_mk R e_BadSystem (r_var R 0)) (fa_cons (r_mkK R e_BadSystem (r_var R 0)) (fa_cons fe_str fa_nil)))) fa_nil))))
    (fb_cons (s_set R 1 (r_add (r_var R 1) (fe_lst (fa_cons (fe_tup (fa_cons (r_mk R e_BadSeries (r_var R 0)) (fa_cons (r_mkK R e_BadSeries (r_var R 0)) (fa_cons fe_str fa_nil)))) fa_nil))))
    (fb_cons (s_set R 1 (r_add (r_var R 1) (fe_lst (fa_cons (fe_tup (fa_cons (r_mk R e_BadClaim (r_var R 0)) (fa_cons (r_mkK R e_BadClaim (r_var R 0)) (fa_cons fe_str fa_nil)))) fa_nil))))
    (fb_cons (s_set R 1 (r_add (r_var R 1) (fe_lst (fa_cons (fe_tup (fa_cons (r_mk R e_BadFactorials (r_var R 0)) (fa_cons (r_mkK R e_BadFactorials (r_var R 0)) (fa_cons fe_str fa_nil)))) fa_nil))))
    (fb_cons (s_set R 1 (r_add (r_var R 1) (fe_lst (fa_cons (fe_tup (fa_cons (r_mk R e_BadValues (r_var R 0)) (fa_cons (r_mkK R e_BadValues (r_var R 0)) (fa_cons fe_str fa_nil)))) fa_nil))))
    (fb_cons (s_set R 1 (r_add (r_var R 1) (fe_lst (fa_cons (fe_tup (fa_cons (r_mk R e_BadText (r_var R 0)) (fa_cons (r_mkK R e_BadText (r_var R 0)) (fa_cons fe_str fa_nil)))) fa_nil))))
    (fb_cons (s_set R 1 (r_add (r_var R 1) (fe_lst (fa_cons (fe_tup (fa_cons (r_mk R e_BadPaper (r_var R 0)) (fa_cons (r_mkK R e_BadPaper (r_var R 0)) (fa_cons fe_str fa_nil)))) fa_nil))))
    (fb_one (fs_ret (r_add (r_var R 1) (fe_lst (fa_cons (fe_tup (fa_cons (r_mk R e_BadDeed (r_var R 0)) (fa_cons (r_mkK R e_BadDeed (r_var R 0)) (fa_cons fe_str fa_nil)))) fa_nil))))))))))))))))))
/-! ### _law_right -/
def t1__law_right : M Bool := (orT (asB (m2 (callM f__law_kinds (consM (vr 1) (M.ret []))) (lstM (consM (vr 3) (consM (M.ret (.str "base")) (consM (M.ret (.str "value")) (M.ret []))))) neD)) (asB (m2 (callM f__law_kinds (consM (vr 2) (M.ret []))) (lstM (consM (vr 3) (consM (M.ret (.str "base")) (consM (M.ret (.str "value")) (M.ret []))))) neD)))
def t2__law_right : M Bool := (orT (asB (m2 (m1 (vr 1) (attrD [45, 365] "value")) (vr 0) neD)) (asB (m2 (m1 (vr 2) (attrD [45, 365] "value")) (vr 0) neD)))
def b3__law_right : M Fl := (seqM (ifM t1__law_right (retM (M.ret (.bool false))) (M.ret .nx)) (ifM t2__law_right (retM (M.ret (.bool false))) (M.ret .nx)))
def t4__law_right : M Bool := (orT (asB (m2 (callM f__law_kinds (consM (vr 1) (M.ret []))) (lstM (consM (vr 3) (consM (M.ret (.str "base")) (consM (M.ret (.str "value")) (M.ret []))))) neD)) (asB (m2 (callM f__law_kinds (consM (vr 2) (M.ret []))) (lstM (consM (vr 3) (consM (M.ret (.str "base")) (consM (M.ret (.str "value")) (M.ret []))))) neD)))
def t5__law_right : M Bool := (orT (asB (m2 (m1 (vr 1) (attrD [65, 85, 105, 125, 145, 165, 185, 205, 225, 245, 265, 285, 305, 325] "place")) (vr 0) neD)) (asB (m2 (m1 (vr 2) (attrD [65, 85, 105, 125, 145, 165, 185, 205, 225, 245, 265, 285, 305, 325] "place")) (vr 0) neD)))
def b6__law_right : M Fl := (seqM (ifM t4__law_right (retM (M.ret (.bool false))) (M.ret .nx)) (ifM t5__law_right (retM (M.ret (.bool false))) (M.ret .nx)))
def t7__law_right : M Bool := (orT (asB (m2 (callM f__law_kinds (consM (vr 1) (M.ret []))) (lstM (consM (M.ret (.str "NoSuch")) (consM (M.ret (.str "lookup")) (M.ret [])))) neD)) (asB (m2 (m1 (vr 1) (attrD [45, 365] "value")) (vr 0) neD)))
def b8__law_right : M Fl := (ifM t7__law_right (retM (M.ret (.bool false))) (M.ret .nx))
def t9__law_right : M Bool := (orT (asB (m2 (callM f__law_kinds (consM (vr 1) (M.ret []))) (lstM (consM (M.ret (.str "TooMany")) (consM (M.ret (.str "overflow")) (M.ret [])))) neD)) (asB (m2 (m1 (vr 1) (attrD [344] "most")) (vr 0) neD)))
def b10__law_right : M Fl := (ifM t9__law_right (retM (M.ret (.bool false))) (M.ret .nx))
abbrev s__law_right : Stmt := top 26
theorem sc__law_right : FnScope ["thing", "one", "other", "name"] ["thing"] (defScope s__law_right) := ⟨rfl, rfl, rfl, by decide +kernel, rfl, by decide +kernel, by decide +kernel⟩
def m__law_right : M Fl := (seqM (forL (listOf (callM f__law_valued (consM (vr 0) (M.ret [])))) (tgT (tgCons (tgN 1) (tgCons (tgN 2) (tgCons (tgN 3) tgNil))) 3) b3__law_right) (seqM (forL (listOf (callM f__law_placed (consM (vr 0) (M.ret [])))) (tgT (tgCons (tgN 1) (tgCons (tgN 2) (tgCons (tgN 3) tgNil))) 3) b6__law_right) (seqM (forL (tupOf (tupM (consM (m1 (vr 0) fun d => some (instD 365 (.str "nothing so called") "value" d)) (consM (m1 (vr 0) fun d => some (instD 365 (.str "nothing so called") "value" d)) (M.ret []))))) (tgN 1) b8__law_right) (seqM (forL (tupOf (tupM (consM (m1 (vr 0) fun d => some (instD 344 (.str "too many") "most" d)) (consM (m1 (vr 0) fun d => some (instD 344 (.str "too many") "most" d)) (M.ret []))))) (tgN 1) b10__law_right) (retM (M.ret (.bool true)))))))
def f__law_right : Fn := bodyF 4 m__law_right
theorem ok__law_right {P : Program} {w : World} {K : PySem.W.Frag} {mg : Str → Option Value} {base : Heap} {fA : Addr} {fd : FuncData} (F : Fun K "_law_right" "_law_right" s__law_right fA fd) (T_most : ∀ C ∈ ([344] : List Nat), XfC K C ∧ PySem.W.findIn K (.ref C) "most" = some none) (T_place : ∀ C ∈ ([65, 85, 105, 125, 145, 165, 185, 205, 225, 245, 265, 285, 305, 325] : List Nat), XfC K C ∧ PySem.W.findIn K (.ref C) "place" = some none) (T_value : ∀ C ∈ ([45, 365] : List Nat), XfC K C ∧ PySem.W.findIn K (.ref C) "value" = some none) (c__law_kinds : Cal P w K mg base 1 "_law_kinds" 1 (spF K mg 1 f__law_kinds)) (c__law_placed : Cal P w K mg base 3 "_law_placed" 1 (spF K mg 1 f__law_placed)) (c__law_valued : Cal P w K mg base 3 "_law_valued" 1 (spF K mg 1 f__law_valued)) (e_NoSuch : Exk P w K mg base 1 "NoSuch" 365 "value" "nothing so called" "value") (e_TooMany : Exk P w K mg base 1 "TooMany" 344 "most" "too many" "most") : FnG P w K mg base 4 fA fd ["thing"] (spF K mg 1 f__law_right) := by
  refine fn_mkG F sc__law_right (by decide) fun X W hp hw hK hmg hbs hN hsc hc hfn hst hfr hex hr hg tk hI hpo => ?_
  subst hp hw hK hmg hbs
  have R : Run X W _ (defScope s__law_right) true 3 := run_def hN sc__law_right.nd hsc hc hfn hr hg tk
  exact (fb_cons (s_for R hpo (fi_list (r_call R c__law_valued (fa_cons (r_var R 0) fa_nil) (cons_len nil_len))) (g_tup R (fgs_cons (g_name R 1) (fgs_cons (g_name R 2) (fgs_cons (g_name R 3) fgs_nil)))) (fb_cons (fs_if (ft_w (fw_or (t_ne R (r_call R c__law_kinds (fa_cons (r_var R 1) fa_nil) (cons_len nil_len)) (fe_lst (fa_cons (r_var R 3) (fa_cons fe_str (fa_cons fe_str fa_nil))))) (fw_or1 (t_ne R (r_call R c__law_kinds (fa_cons (r_var R 2) fa_nil) (cons_len nil_len)) (fe_lst (fa_cons (r_var R 3) (fa_cons fe_str (fa_cons fe_str fa_nil)))))))) (fb_one (fs_ret fe_bl)) fb_nil)
    (fb_one (fs_if (ft_w (fw_or (t_ne R (fe_attr T_value (r_var R 1)) (r_var R 0)) (fw_or1 (t_ne R (fe_attr T_value (r_var R 2)) (r_var R 0))))) (fb_one (fs_ret fe_bl)) fb_nil))))
    (fb_cons (s_for R hpo (fi_list (r_call R c__law_placed (fa_cons (r_var R 0) fa_nil) (cons_len nil_len))) (g_tup R (fgs_cons (g_name R 1) (fgs_cons (g_name R 2) (fgs_cons (g_name R 3) fgs_nil)))) (fb_cons (fs_if (ft_w (fw_or (t_ne R (r_call R c__law_kinds (fa_cons (r_var R 1) fa_nil) (cons_len nil_len)) (fe_lst (fa_cons (r_var R 3) (fa_cons fe_str (fa_cons fe_str fa_nil))))) (fw_or1 (t_ne R (r_call R c__law_kinds (fa_cons (r_var R 2) fa_nil) (cons_len nil_len)) (fe_lst (fa_cons (r_var R 3) (fa_cons fe_str (fa_cons fe_str fa_nil)))))))) (fb_one (fs_ret fe_bl)) fb_nil)
    (fb_one (fs_if (ft_w (fw_or (t_ne R (fe_attr T_place (r_var R 1)) (r_var R 0)) (fw_or1 (t_ne R (fe_attr T_place (r_var R 2)) (r_var R 0))))) (fb_one (fs_ret fe_bl)) fb_nil))))
    (fb_cons (s_for R hpo (fi_tup (fe_tup (fa_cons (r_mk R e_NoSuch (r_var R 0)) (fa_cons (r_mkK R e_NoSuch (r_var R 0)) fa_nil)))) (g_name R 1) (fb_one (fs_if (ft_w (fw_or (t_ne R (r_call R c__law_kinds (fa_cons (r_var R 1) fa_nil) (cons_len nil_len)) (fe_lst (fa_cons fe_str (fa_cons fe_str fa_nil)))) (fw_or1 (t_ne R (fe_attr T_value (r_var R 1)) (r_var R 0))))) (fb_one (fs_ret fe_bl)) fb_nil)))
    (fb_cons (s_for R hpo (fi_tup (fe_tup (fa_cons (r_mk R e_TooMany (r_var R 0)) (fa_cons (r_mkK R e_TooMany (r_var R 0)) fa_nil)))) (g_name R 1) (fb_one (fs_if (ft_w (fw_or (t_ne R (r_call R c__law_kinds (fa_cons (r_var R 1) fa_nil) (cons_len nil_len)) (fe_lst (fa_cons fe_str (fa_cons fe_str fa_nil)))) (fw_or1 (t_ne R (fe_attr T_most (r_var R 1)) (r_var R 0))))) (fb_one (fs_ret fe_bl)) fb_nil)))
    (fb_one (fs_ret fe_bl))))))
/-! ### law -/
def t1_law : M Bool := (orT (notT (truM (callM f__law_right (consM (m2 (vr 5) (callO 3 f__law_digit (consM (M.ret (.int 7)) (M.ret []))) ixD) (M.ret []))))) (notT (truM (callM f__law_right (consM (m2 (m2 (m2 (M.ret (.int 10)) (M.ret (.int 50)) powD) (M.ret (.int 50)) powD) (M.ret (.int 2)) powD) (M.ret []))))))
def b2_law : M Fl := (seqM (setD 3 (consM (vr 2) (consM (vr 1) (M.ret []))) f__law_draw) (seqM (setM 4 (callO 3 f__law_digit (consM (M.ret (.int 100000)) (M.ret [])))) (seqM (setM 5 (lstM (consM (vr 4) (consM (m2 (M.ret (.int 0)) (vr 4) subD) (consM (m2 (M.ret (.str "ab")) (m2 (vr 4) (M.ret (.int 50)) modD) mulD) (consM (tupM (consM (M.ret (.str "atom")) (consM (tupM (consM (M.ret (.int 0)) (consM (vr 4) (M.ret [])))) (M.ret [])))) (consM (M.ret .none) (consM (tupM (consM (m2 (M.ret (.int 10)) (M.ret (.int 30)) powD) (consM (tupM (M.ret [])) (M.ret [])))) (consM (m2 (tupM (consM (vr 4) (M.ret []))) (M.ret (.int 9)) mulD) (M.ret [])))))))))) (ifM t1_law (retM (M.ret (.bool false))) (M.ret .nx)))))
def t3_law : M Bool := (orT (asB (m2 (lsM (lcM (listOf (vr 5)) (tgN 9) (M.ret true) (m1 (vr 9) (attrD [45, 365] "value")) [9])) (m2 (lstM (consM (M.ret .none) (M.ret []))) (M.ret (.int 2)) mulD) neD)) (asB (m2 (lsM (lcM (listOf (vr 6)) (tgN 9) (M.ret true) (m1 (vr 9) (attrD [65, 85, 105, 125, 145, 165, 185, 205, 225, 245, 265, 285, 305, 325] "place")) [9])) (m2 (lstM (consM (M.ret .none) (M.ret []))) (M.ret (.int 14)) mulD) neD)))
def t4_law : M Bool := (asB (m2 (lsM (lcM (listOf (vr 8)) (tgN 9) (asB (m2 (bltM (consM (vr 7) (M.ret [])) (strD [45, 65, 85, 105, 125, 145, 165, 185, 205, 225, 245, 265, 285, 305, 325, 344, 365])) (bltM (consM (vr 9) (M.ret [])) (strD [45, 65, 85, 105, 125, 145, 165, 185, 205, 225, 245, 265, 285, 305, 325, 344, 365])) inSD)) (vr 9) [9])) (lstM (M.ret [])) neD))
def b5_law : M Fl := (seqM (setM 8 (m2 (lsM (lcM (listOf (m2 (callM f__law_valued (consM (vr 7) (M.ret []))) (callM f__law_placed (consM (vr 7) (M.ret []))) addD)) (tgT (tgCons (tgN 10) (tgCons (tgN 11) (tgCons (tgN 12) tgNil))) 3) (M.ret true) (vr 10) [10, 11, 12])) (lstM (consM (m1 (vr 7) fun d => some (instD 365 (.str "nothing so called") "value" d)) (consM (m1 (vr 7) fun d => some (instD 344 (.str "too many") "most" d)) (M.ret [])))) addD)) (ifM t4_law (retM (M.ret (.bool false))) (M.ret .nx)))
abbrev s_law : Stmt := top 27
theorem sc_law : FnScope ["script", "k", "cell", "state", "number", "some", "others", "thing", "made", "e", "one", "other", "name"] ["script"] (defScope s_law) := ⟨rfl, rfl, rfl, by decide +kernel, rfl, by decide +kernel, by decide +kernel⟩
def m_law : M Fl := (seqM (forL (enumM (m2 (sliceM (vr 0) (M.ret none) (optM (some (M.ret (.int 4))))) (lstM (consM (bltM (consM (vr 0) (M.ret [])) sumD) (M.ret []))) addD)) (tgT (tgCons (tgN 1) (tgCons (tgN 2) tgNil)) 2) b2_law) (seqM (setM 5 (lstM (consM (M.ret (instD 45 (.str "no such number") "value" .none)) (consM (M.ret (instD 365 (.str "nothing so called") "value" .none)) (M.ret []))))) (seqM (setM 6 (lstM (consM (M.ret (instD 65 (.str "no such polynomial") "place" .none)) (consM (M.ret (instD 85 (.str "no such rational") "place" .none)) (consM (M.ret (instD 105 (.str "no such term") "place" .none)) (consM (M.ret (instD 125 (.str "no such proper term") "place" .none)) (consM (M.ret (instD 145 (.str "no such row") "place" .none)) (consM (M.ret (instD 165 (.str "no such equation") "place" .none)) (consM (M.ret (instD 185 (.str "no such system") "place" .none)) (M.ret [])))))))))) (seqM (setM 6 (m2 (vr 6) (lstM (consM (M.ret (instD 205 (.str "no such series") "place" .none)) (consM (M.ret (instD 225 (.str "no such claim") "place" .none)) (consM (M.ret (instD 245 (.str "no such factorials") "place" .none)) (consM (M.ret (instD 265 (.str "no such values") "place" .none)) (consM (M.ret (instD 285 (.str "no such text") "place" .none)) (consM (M.ret (instD 305 (.str "no such paper") "place" .none)) (consM (M.ret (instD 325 (.str "no such deed") "place" .none)) (M.ret []))))))))) addD)) (seqM (ifM t3_law (retM (M.ret (.bool false))) (M.ret .nx)) (seqM (forL (tupOf (tupM (consM (M.ret (.str "zqzq")) (consM (m2 (M.ret (.int 10)) (M.ret (.int 30)) powD) (consM (M.ret (.int 70707)) (M.ret [])))))) (tgN 7) b5_law) (retM (M.ret (.bool true)))))))))
def f_law : Fn := bodyF 13 m_law
theorem ok_law {P : Program} {w : World} {K : PySem.W.Frag} {mg : Str → Option Value} {base : Heap} {fA : Addr} {fd : FuncData} (F : Fun K "law" "law" s_law fA fd) (T_place : ∀ C ∈ ([65, 85, 105, 125, 145, 165, 185, 205, 225, 245, 265, 285, 305, 325] : List Nat), XfC K C ∧ PySem.W.findIn K (.ref C) "place" = some none) (T_str : ∀ C ∈ ([45, 65, 85, 105, 125, 145, 165, 185, 205, 225, 245, 265, 285, 305, 325, 344, 365] : List Nat), StC K C) (T_value : ∀ C ∈ ([45, 365] : List Nat), XfC K C ∧ PySem.W.findIn K (.ref C) "value" = some none) (c__law_digit : Cal P w K mg base 2 "_law_digit" 2 (spO K mg 1 f__law_digit)) (c__law_draw : Cal P w K mg base 1 "_law_draw" 2 (spD 2 f__law_draw K)) (c__law_placed : Cal P w K mg base 3 "_law_placed" 1 (spF K mg 1 f__law_placed)) (c__law_right : Cal P w K mg base 4 "_law_right" 1 (spF K mg 1 f__law_right)) (c__law_valued : Cal P w K mg base 3 "_law_valued" 1 (spF K mg 1 f__law_valued)) (e_NoSuch : Exk P w K mg base 1 "NoSuch" 365 "value" "nothing so called" "value") (e_TooMany : Exk P w K mg base 1 "TooMany" 344 "most" "too many" "most") (e0_BadClaim : Exk0 P w K mg base 1 "BadClaim" 225 "place" "no such claim" "place") (e0_BadDeed : Exk0 P w K mg base 1 "BadDeed" 325 "place" "no such deed" "place") (e0_BadEquation : Exk0 P w K mg base 1 "BadEquation" 165 "place" "no such equation" "place") (e0_BadFactorials : Exk0 P w K mg base 1 "BadFactorials" 245 "place" "no such factorials" "place") (e0_BadNumber : Exk0 P w K mg base 1 "BadNumber" 45 "value" "no such number" "value") (e0_BadPaper : Exk0 P w K mg base 1 "BadPaper" 305 "place" "no such paper" "place") (e0_BadPolynomial : Exk0 P w K mg base 1 "BadPolynomial" 65 "place" "no such polynomial" "place") (e0_BadProper : Exk0 P w K mg base 1 "BadProper" 125 "place" "no such proper term" "place") (e0_BadRational : Exk0 P w K mg base 1 "BadRational" 85 "place" "no such rational" "place") (e0_BadRow : Exk0 P w K mg base 1 "BadRow" 145 "place" "no such row" "place") (e0_BadSeries : Exk0 P w K mg base 1 "BadSeries" 205 "place" "no such series" "place") (e0_BadSystem : Exk0 P w K mg base 1 "BadSystem" 185 "place" "no such system" "place") (e0_BadTerm : Exk0 P w K mg base 1 "BadTerm" 105 "place" "no such term" "place") (e0_BadText : Exk0 P w K mg base 1 "BadText" 285 "place" "no such text" "place") (e0_BadValues : Exk0 P w K mg base 1 "BadValues" 265 "place" "no such values" "place") (e0_NoSuch : Exk0 P w K mg base 1 "NoSuch" 365 "value" "nothing so called" "value") (z_enumerate : mg "enumerate" = none) (z_str : mg "str" = none) (z_sum : mg "sum" = none) : FnG P w K mg base 5 fA fd ["script"] (spF K mg 1 f_law) := by
  refine fn_mkG F sc_law (by decide) fun X W hp hw hK hmg hbs hN hsc hc hfn hst hfr hex hr hg tk hI hpo => ?_
  subst hp hw hK hmg hbs
  have R : Run X W _ (defScope s_law) true 4 := run_def hN sc_law.nd hsc hc hfn hr hg tk
  exact (fb_cons (s_for R hpo (i_enum R z_enumerate (r_add (fe_slice (r_var R 0) fo_none (fo_some fe_int)) (fe_lst (fa_cons (r_sum R z_sum (fa_cons (r_var R 0) fa_nil)) fa_nil)))) (g_tup R (fgs_cons (g_name R 1) (fgs_cons (g_name R 2) fgs_nil))) (fb_cons (s_callD R 3 c__law_draw (fa_cons (r_var R 2) (fa_cons (r_var R 1) fa_nil)) (cons_len (cons_len nil_len)))
    (fb_cons (s_set R 4 (r_callO R 3 c__law_digit (fa_cons fe_int fa_nil) (cons_len nil_len)))
    (fb_cons (s_set R 5 (fe_lst (fa_cons (r_var R 4) (fa_cons (r_sub fe_int (r_var R 4)) (fa_cons (r_mul fe_str (r_mod (r_var R 4) fe_int)) (fa_cons (fe_tup (fa_cons fe_str (fa_cons (fe_tup (fa_cons fe_int (fa_cons (r_var R 4) fa_nil))) fa_nil))) (fa_cons fe_non (fa_cons (fe_tup (fa_cons (r_pow fe_int fe_int) (fa_cons (fe_tup fa_nil) fa_nil))) (fa_cons (r_mul (fe_tup (fa_cons (r_var R 4) fa_nil)) fe_int) fa_nil)))))))))
    (fb_one (fs_if (ft_w (fw_or (ft_not (ft_tru (r_call R c__law_right (fa_cons (fe_ix (r_var R 5) (r_callO R 3 c__law_digit (fa_cons fe_int fa_nil) (cons_len nil_len))) fa_nil) (cons_len nil_len)))) (fw_or1 (ft_not (ft_tru (r_call R c__law_right (fa_cons (r_pow (r_pow (r_pow fe_int fe_int) fe_int) fe_int) fa_nil) (cons_len nil_len))))))) (fb_one (fs_ret fe_bl)) fb_nil))))))
    (fb_cons (s_set R 5 (fe_lst (fa_cons (r_mk0 R e0_BadNumber) (fa_cons (r_mk0 R e0_NoSuch) fa_nil))))
    (fb_cons (s_set R 6 (fe_lst (fa_cons (r_mk0 R e0_BadPolynomial) (fa_cons (r_mk0 R e0_BadRational) (fa_cons (r_mk0 R e0_BadTerm) (fa_cons (r_mk0 R e0_BadProper) (fa_cons (r_mk0 R e0_BadRow) (fa_cons (r_mk0 R e0_BadEquation) (fa_cons (r_mk0 R e0_BadSystem) fa_nil)))))))))
    (fb_cons (s_set R 6 (r_add (r_var R 6) (fe_lst (fa_cons (r_mk0 R e0_BadSeries) (fa_cons (r_mk0 R e0_BadClaim) (fa_cons (r_mk0 R e0_BadFactorials) (fa_cons (r_mk0 R e0_BadValues) (fa_cons (r_mk0 R e0_BadText) (fa_cons (r_mk0 R e0_BadPaper) (fa_cons (r_mk0 R e0_BadDeed) fa_nil))))))))))
    (fb_cons (fs_if (ft_w (fw_or (t_ne R (ff_fe (r_lc [("e", 9)] R ⟨rfl, by decide +kernel, by decide +kernel, by decide +kernel, by decide +kernel⟩ (fi_list (r_var R 5)) fun _ _ _ _ _ Rc => ⟨(g_name Rc 9), fc_nil, (fe_attr T_value (r_var Rc 9))⟩)) (r_mul (fe_lst (fa_cons fe_non fa_nil)) fe_int)) (fw_or1 (t_ne R (ff_fe (r_lc [("e", 9)] R ⟨rfl, by decide +kernel, by decide +kernel, by decide +kernel, by decide +kernel⟩ (fi_list (r_var R 6)) fun _ _ _ _ _ Rc => ⟨(g_name Rc 9), fc_nil, (fe_attr T_place (r_var Rc 9))⟩)) (r_mul (fe_lst (fa_cons fe_non fa_nil)) fe_int))))) (fb_one (fs_ret fe_bl)) fb_nil)
    (fb_cons (s_for R hpo (fi_tup (fe_tup (fa_cons fe_str (fa_cons (r_pow fe_int fe_int) (fa_cons fe_int fa_nil))))) (g_nameC R 7) (fb_cons (s_set R 8 (r_add (ff_fe (r_lc [("one", 10), ("other", 11), ("name", 12)] R ⟨rfl, by decide +kernel, by decide +kernel, by decide +kernel, by decide +kernel⟩ (fi_list (r_add (r_call R c__law_valued (fa_cons (r_var R 7) fa_nil) (cons_len nil_len)) (r_call R c__law_placed (fa_cons (r_var R 7) fa_nil) (cons_len nil_len)))) fun _ _ _ _ _ Rc => ⟨(g_tup Rc (fgs_cons (g_name Rc 10) (fgs_cons (g_name Rc 11) (fgs_cons (g_name Rc 12) fgs_nil)))), fc_nil, (r_var Rc 10)⟩)) (fe_lst (fa_cons (r_mk R e_NoSuch (r_var R 7)) (fa_cons (r_mk R e_TooMany (r_var R 7)) fa_nil)))))
    (fb_one (fs_if (t_ne R (ff_fe (r_lc [("e", 9)] R ⟨rfl, by decide +kernel, by decide +kernel, by decide +kernel, by decide +kernel⟩ (fi_list (r_var R 8)) fun _ _ _ _ _ Rc => ⟨(g_name Rc 9), (fc_one (t_in (r_str Rc T_str z_str (r_var Rc 7)) (r_str Rc T_str z_str (r_var Rc 9)))), (r_var Rc 9)⟩)) (fe_lst fa_nil)) (fb_one (fs_ret fe_bl)) fb_nil))))
    (fb_one (fs_ret fe_bl))))))))
end K99

set_option Elab.async false
set_option linter.all false
set_option maxRecDepth 100000
set_option maxHeartbeats 4000000
namespace K99
open PySem PySem.Spec PyProof.Rows L2 Evl Fx
variable {t : D} {x y z : SV}
def iV (C : Nat) (m : Str) (t : D) : D := instD C (.str m) "value" t
def iP (C : Nat) (m : Str) (t : D) : D := instD C (.str m) "place" t
theorem itemV (ht : neD t t = some (.bool false)) : b3__law_right [.d t, .d (iV 45 "no such number" t), .d (iV 45 "no such number" t), .d (.str "BadNumber")] = .ok .nx [.d t, .d (iV 45 "no such number" t), .d (iV 45 "no such number" t), .d (.str "BadNumber")] :=
  (seq_nx0 (if_nx0 (or_no0 (by kernel_rfl) (by kernel_rfl)))).trans (if_nx0 (or_no0 (ne_no0 ht (by kernel_rfl) (by kernel_rfl)) (ne_no0 ht (by kernel_rfl) (by kernel_rfl))))
theorem item_BadPolynomial (ht : neD t t = some (.bool false)) : b6__law_right [.d t, .d (iP 65 "no such polynomial" t), .d (iP 65 "no such polynomial" t), .d (.str "BadPolynomial")] = .ok .nx [.d t, .d (iP 65 "no such polynomial" t), .d (iP 65 "no such polynomial" t), .d (.str "BadPolynomial")] :=
  (seq_nx0 (if_nx0 (or_no0 (by kernel_rfl) (by kernel_rfl)))).trans (if_nx0 (or_no0 (ne_no0 ht (by kernel_rfl) (by kernel_rfl)) (ne_no0 ht (by kernel_rfl) (by kernel_rfl))))
theorem item_BadRational (ht : neD t t = some (.bool false)) : b6__law_right [.d t, .d (iP 85 "no such rational" t), .d (iP 85 "no such rational" t), .d (.str "BadRational")] = .ok .nx [.d t, .d (iP 85 "no such rational" t), .d (iP 85 "no such rational" t), .d (.str "BadRational")] :=
  (seq_nx0 (if_nx0 (or_no0 (by kernel_rfl) (by kernel_rfl)))).trans (if_nx0 (or_no0 (ne_no0 ht (by kernel_rfl) (by kernel_rfl)) (ne_no0 ht (by kernel_rfl) (by kernel_rfl))))
theorem item_BadTerm (ht : neD t t = some (.bool false)) : b6__law_right [.d t, .d (iP 105 "no such term" t), .d (iP 105 "no such term" t), .d (.str "BadTerm")] = .ok .nx [.d t, .d (iP 105 "no such term" t), .d (iP 105 "no such term" t), .d (.str "BadTerm")] :=
  (seq_nx0 (if_nx0 (or_no0 (by kernel_rfl) (by kernel_rfl)))).trans (if_nx0 (or_no0 (ne_no0 ht (by kernel_rfl) (by kernel_rfl)) (ne_no0 ht (by kernel_rfl) (by kernel_rfl))))
theorem item_BadProper (ht : neD t t = some (.bool false)) : b6__law_right [.d t, .d (iP 125 "no such proper term" t), .d (iP 125 "no such proper term" t), .d (.str "BadProper")] = .ok .nx [.d t, .d (iP 125 "no such proper term" t), .d (iP 125 "no such proper term" t), .d (.str "BadProper")] :=
  (seq_nx0 (if_nx0 (or_no0 (by kernel_rfl) (by kernel_rfl)))).trans (if_nx0 (or_no0 (ne_no0 ht (by kernel_rfl) (by kernel_rfl)) (ne_no0 ht (by kernel_rfl) (by kernel_rfl))))
theorem item_BadRow (ht : neD t t = some (.bool false)) : b6__law_right [.d t, .d (iP 145 "no such row" t), .d (iP 145 "no such row" t), .d (.str "BadRow")] = .ok .nx [.d t, .d (iP 145 "no such row" t), .d (iP 145 "no such row" t), .d (.str "BadRow")] :=
  (seq_nx0 (if_nx0 (or_no0 (by kernel_rfl) (by kernel_rfl)))).trans (if_nx0 (or_no0 (ne_no0 ht (by kernel_rfl) (by kernel_rfl)) (ne_no0 ht (by kernel_rfl) (by kernel_rfl))))
theorem item_BadEquation (ht : neD t t = some (.bool false)) : b6__law_right [.d t, .d (iP 165 "no such equation" t), .d (iP 165 "no such equation" t), .d (.str "BadEquation")] = .ok .nx [.d t, .d (iP 165 "no such equation" t), .d (iP 165 "no such equation" t), .d (.str "BadEquation")] :=
  (seq_nx0 (if_nx0 (or_no0 (by kernel_rfl) (by kernel_rfl)))).trans (if_nx0 (or_no0 (ne_no0 ht (by kernel_rfl) (by kernel_rfl)) (ne_no0 ht (by kernel_rfl) (by kernel_rfl))))
theorem item_BadSystem (ht : neD t t = some (.bool false)) : b6__law_right [.d t, .d (iP 185 "no such system" t), .d (iP 185 "no such system" t), .d (.str "BadSystem")] = .ok .nx [.d t, .d (iP 185 "no such system" t), .d (iP 185 "no such system" t), .d (.str "BadSystem")] :=
  (seq_nx0 (if_nx0 (or_no0 (by kernel_rfl) (by kernel_rfl)))).trans (if_nx0 (or_no0 (ne_no0 ht (by kernel_rfl) (by kernel_rfl)) (ne_no0 ht (by kernel_rfl) (by kernel_rfl))))
theorem item_BadSeries (ht : neD t t = some (.bool false)) : b6__law_right [.d t, .d (iP 205 "no such series" t), .d (iP 205 "no such series" t), .d (.str "BadSeries")] = .ok .nx [.d t, .d (iP 205 "no such series" t), .d (iP 205 "no such series" t), .d (.str "BadSeries")] :=
  (seq_nx0 (if_nx0 (or_no0 (by kernel_rfl) (by kernel_rfl)))).trans (if_nx0 (or_no0 (ne_no0 ht (by kernel_rfl) (by kernel_rfl)) (ne_no0 ht (by kernel_rfl) (by kernel_rfl))))
theorem item_BadClaim (ht : neD t t = some (.bool false)) : b6__law_right [.d t, .d (iP 225 "no such claim" t), .d (iP 225 "no such claim" t), .d (.str "BadClaim")] = .ok .nx [.d t, .d (iP 225 "no such claim" t), .d (iP 225 "no such claim" t), .d (.str "BadClaim")] :=
  (seq_nx0 (if_nx0 (or_no0 (by kernel_rfl) (by kernel_rfl)))).trans (if_nx0 (or_no0 (ne_no0 ht (by kernel_rfl) (by kernel_rfl)) (ne_no0 ht (by kernel_rfl) (by kernel_rfl))))
theorem item_BadFactorials (ht : neD t t = some (.bool false)) : b6__law_right [.d t, .d (iP 245 "no such factorials" t), .d (iP 245 "no such factorials" t), .d (.str "BadFactorials")] = .ok .nx [.d t, .d (iP 245 "no such factorials" t), .d (iP 245 "no such factorials" t), .d (.str "BadFactorials")] :=
  (seq_nx0 (if_nx0 (or_no0 (by kernel_rfl) (by kernel_rfl)))).trans (if_nx0 (or_no0 (ne_no0 ht (by kernel_rfl) (by kernel_rfl)) (ne_no0 ht (by kernel_rfl) (by kernel_rfl))))
theorem item_BadValues (ht : neD t t = some (.bool false)) : b6__law_right [.d t, .d (iP 265 "no such values" t), .d (iP 265 "no such values" t), .d (.str "BadValues")] = .ok .nx [.d t, .d (iP 265 "no such values" t), .d (iP 265 "no such values" t), .d (.str "BadValues")] :=
  (seq_nx0 (if_nx0 (or_no0 (by kernel_rfl) (by kernel_rfl)))).trans (if_nx0 (or_no0 (ne_no0 ht (by kernel_rfl) (by kernel_rfl)) (ne_no0 ht (by kernel_rfl) (by kernel_rfl))))
theorem item_BadText (ht : neD t t = some (.bool false)) : b6__law_right [.d t, .d (iP 285 "no such text" t), .d (iP 285 "no such text" t), .d (.str "BadText")] = .ok .nx [.d t, .d (iP 285 "no such text" t), .d (iP 285 "no such text" t), .d (.str "BadText")] :=
  (seq_nx0 (if_nx0 (or_no0 (by kernel_rfl) (by kernel_rfl)))).trans (if_nx0 (or_no0 (ne_no0 ht (by kernel_rfl) (by kernel_rfl)) (ne_no0 ht (by kernel_rfl) (by kernel_rfl))))
theorem item_BadPaper (ht : neD t t = some (.bool false)) : b6__law_right [.d t, .d (iP 305 "no such paper" t), .d (iP 305 "no such paper" t), .d (.str "BadPaper")] = .ok .nx [.d t, .d (iP 305 "no such paper" t), .d (iP 305 "no such paper" t), .d (.str "BadPaper")] :=
  (seq_nx0 (if_nx0 (or_no0 (by kernel_rfl) (by kernel_rfl)))).trans (if_nx0 (or_no0 (ne_no0 ht (by kernel_rfl) (by kernel_rfl)) (ne_no0 ht (by kernel_rfl) (by kernel_rfl))))
theorem item_BadDeed (ht : neD t t = some (.bool false)) : b6__law_right [.d t, .d (iP 325 "no such deed" t), .d (iP 325 "no such deed" t), .d (.str "BadDeed")] = .ok .nx [.d t, .d (iP 325 "no such deed" t), .d (iP 325 "no such deed" t), .d (.str "BadDeed")] :=
  (seq_nx0 (if_nx0 (or_no0 (by kernel_rfl) (by kernel_rfl)))).trans (if_nx0 (or_no0 (ne_no0 ht (by kernel_rfl) (by kernel_rfl)) (ne_no0 ht (by kernel_rfl) (by kernel_rfl))))
theorem itemN (ht : neD t t = some (.bool false)) : b8__law_right [.d t, .d (iV 365 "nothing so called" t), y, z] = .ok .nx [.d t, .d (iV 365 "nothing so called" t), y, z] :=
  if_nx0 (or_no0 (by kernel_rfl) (ne_no0 ht (by kernel_rfl) (by kernel_rfl)))
def iM (C : Nat) (m : Str) (t : D) : D := instD C (.str m) "most" t
theorem itemT (ht : neD t t = some (.bool false)) : b10__law_right [.d t, .d (iM 344 "too many" t), y, z] = .ok .nx [.d t, .d (iM 344 "too many" t), y, z] :=
  if_nx0 (or_no0 (by kernel_rfl) (ne_no0 ht (by kernel_rfl) (by kernel_rfl)))
theorem right_ev (ht : neD t t = some (.bool false)) : f__law_right [t] = .ok (.bool true) := by
  refine body_rt (e1 := [.d t, .d (iM 344 "too many" t), .d (iP 325 "no such deed" t), .d (.str "BadDeed")]) ?_
  refine (seq_nx (forL_of (ds := [.tuple [iV 45 "no such number" t, iV 45 "no such number" t, .str "BadNumber"]]) (e1 := [.d t, .no, .no, .no]) (by kernel_rfl) (for_cons rfl (itemV ht) for_nil))).trans ?_
  refine (seq_nx (forL_of (ds := [.tuple [iP 65 "no such polynomial" t, iP 65 "no such polynomial" t, .str "BadPolynomial"], .tuple [iP 85 "no such rational" t, iP 85 "no such rational" t, .str "BadRational"], .tuple [iP 105 "no such term" t, iP 105 "no such term" t, .str "BadTerm"], .tuple [iP 125 "no such proper term" t, iP 125 "no such proper term" t, .str "BadProper"], .tuple [iP 145 "no such row" t, iP 145 "no such row" t, .str "BadRow"], .tuple [iP 165 "no such equation" t, iP 165 "no such equation" t, .str "BadEquation"], .tuple [iP 185 "no such system" t, iP 185 "no such system" t, .str "BadSystem"], .tuple [iP 205 "no such series" t, iP 205 "no such series" t, .str "BadSeries"], .tuple [iP 225 "no such claim" t, iP 225 "no such claim" t, .str "BadClaim"], .tuple [iP 245 "no such factorials" t, iP 245 "no such factorials" t, .str "BadFactorials"], .tuple [iP 265 "no such values" t, iP 265 "no such values" t, .str "BadValues"], .tuple [iP 285 "no such text" t, iP 285 "no such text" t, .str "BadText"], .tuple [iP 305 "no such paper" t, iP 305 "no such paper" t, .str "BadPaper"], .tuple [iP 325 "no such deed" t, iP 325 "no such deed" t, .str "BadDeed"]]) (e1 := [.d t, .d (iV 45 "no such number" t), .d (iV 45 "no such number" t), .d (.str "BadNumber")]) (by kernel_rfl) (for_cons rfl (item_BadPolynomial ht) (for_cons rfl (item_BadRational ht) (for_cons rfl (item_BadTerm ht) (for_cons rfl (item_BadProper ht) (for_cons rfl (item_BadRow ht) (for_cons rfl (item_BadEquation ht) (for_cons rfl (item_BadSystem ht) (for_cons rfl (item_BadSeries ht) (for_cons rfl (item_BadClaim ht) (for_cons rfl (item_BadFactorials ht) (for_cons rfl (item_BadValues ht) (for_cons rfl (item_BadText ht) (for_cons rfl (item_BadPaper ht) (for_cons rfl (item_BadDeed ht) for_nil)))))))))))))))).trans ?_
  refine (seq_nx (forL_of (ds := [iV 365 "nothing so called" t, iV 365 "nothing so called" t]) (e1 := [.d t, .d (iP 325 "no such deed" t), .d (iP 325 "no such deed" t), .d (.str "BadDeed")]) (by kernel_rfl) (for_cons rfl (itemN ht) (for_cons rfl (itemN ht) for_nil)))).trans ?_
  refine (seq_nx (forL_of (ds := [iM 344 "too many" t, iM 344 "too many" t]) (e1 := [.d t, .d (iV 365 "nothing so called" t), .d (iP 325 "no such deed" t), .d (.str "BadDeed")]) (by kernel_rfl) (for_cons rfl (itemT ht) (for_cons rfl (itemT ht) for_nil)))).trans ?_
  rfl
end K99

set_option Elab.async false
set_option linter.all false
set_option maxRecDepth 100000
set_option maxHeartbeats 4000000
namespace K99
open PySem PySem.Spec PyProof.Rows L2 Evl Fx
theorem draw_ev {c k : Int} (h : IntMulOk 1000 k) : drawF [.int c, .int k] = some (stD (if (10 : Int) ^ 18 ≤ c then c else 0) c (1000 * k)) := by
  unfold drawF
  exact if_pos h
theorem cons_of0 {ma : M D} {e : En} {ms : M (List D)} {v : D} {vs : List D} (h1 : ma e = .ok v e) (h2 : ms e = .ok vs e) : consM ma ms e = .ok (v :: vs) e := cons_of h1 h2
theorem dig_eq : f__law_digit = fDigit := rfl
def rest : M Fl := (seqM (setM 5 (lstM (consM (M.ret (instD 45 (.str "no such number") "value" .none)) (consM (M.ret (instD 365 (.str "nothing so called") "value" .none)) (M.ret []))))) (seqM (setM 6 (lstM (consM (M.ret (instD 65 (.str "no such polynomial") "place" .none)) (consM (M.ret (instD 85 (.str "no such rational") "place" .none)) (consM (M.ret (instD 105 (.str "no such term") "place" .none)) (consM (M.ret (instD 125 (.str "no such proper term") "place" .none)) (consM (M.ret (instD 145 (.str "no such row") "place" .none)) (consM (M.ret (instD 165 (.str "no such equation") "place" .none)) (consM (M.ret (instD 185 (.str "no such system") "place" .none)) (M.ret [])))))))))) (seqM (setM 6 (m2 (vr 6) (lstM (consM (M.ret (instD 205 (.str "no such series") "place" .none)) (consM (M.ret (instD 225 (.str "no such claim") "place" .none)) (consM (M.ret (instD 245 (.str "no such factorials") "place" .none)) (consM (M.ret (instD 265 (.str "no such values") "place" .none)) (consM (M.ret (instD 285 (.str "no such text") "place" .none)) (consM (M.ret (instD 305 (.str "no such paper") "place" .none)) (consM (M.ret (instD 325 (.str "no such deed") "place" .none)) (M.ret []))))))))) addD)) (seqM (ifM t3_law (retM (M.ret (.bool false))) (M.ret .nx)) (seqM (forL (tupOf (tupM (consM (M.ret (.str "zqzq")) (consM (m2 (M.ret (.int 10)) (M.ret (.int 30)) powD) (consM (M.ret (.int 70707)) (M.ret [])))))) (tgN 7) b5_law) (retM (M.ret (.bool true))))))))
theorem rest_ok (s0 x1 x2 x3 x4 x5 x6 x7 x8 x9 x10 x11 x12 : SV) : endF (rest [s0, x1, x2, x3, x4, x5, x6, x7, x8, x9, x10, x11, x12]) = .ok (.bool true) := by kernel_rfl
theorem setD_of {i : Nat} {ms : M (List D)} {F : List D → Option (List (Str × D))} {e e1 : En} {vs : List D} {kvs : List (Str × D)} (h : ms e = .ok vs e1) (h2 : F vs = some kvs) : setD i ms F e = .ok .nx (e1.set i (.own false (.od kvs))) := by
  unfold setD
  rw [bind_ok h, h2]
theorem callO_of {i : Nat} {F : FnO} {ms : M (List D)} {e e1 : En} {vs : List D} {w w0 : Bool} {o o' o0 : OO} {d : D} (h0 : e[i]? = some (.own w0 o0)) (h : ms e = .ok vs e1) (h1 : e1[i]? = some (.own w o)) (h2 : F o vs = .ok d o') : callO i F ms e = .ok d (e1.set i (.own w o')) := by
  unfold callO
  simp only [h0]
  rw [bind_ok h]
  simp only [h1, h2]
theorem ne_same {d : D} (h1 : SeqAt.shaped d = true) (h2 : plain d = true) (h3 : PyData.eqv d d = true) : neD d d = some (.bool false) := by
  unfold neD
  rw [if_pos ⟨⟨h1, h1⟩, h2, h2⟩, h3]
  rfl
theorem ne_int (a : Int) : neD (.int a) (.int a) = some (.bool false) := ne_same rfl rfl (by simp [PyData.eqv])
theorem rep_ok : ∀ m : Fin 50, SeqAt.shaped (.str (repS "ab" ((m.val : Nat) : Int))) = true := by decide +kernel
theorem ne_rep {q : Int} (h0 : 0 ≤ q) (h1 : q < 50) : neD (.str (repS "ab" q)) (.str (repS "ab" q)) = some (.bool false) := by
  have h := rep_ok ⟨q.toNat, by omega⟩
  have e : ((q.toNat : Nat) : Int) = q := Int.toNat_of_nonneg h0
  rw [show (((⟨q.toNat, by omega⟩ : Fin 50).val : Nat) : Int) = q from e] at h
  exact ne_same h rfl (by simp [PyData.eqv])
def things (n : Int) : List D := [.int n, .int (0 - n), .str (repS "ab" (n.fmod 50)), .tuple [.str "atom", .tuple [.int 0, .int n]], .none, .tuple [.int (10 ^ (30 : Int).toNat), .tuple []], .tuple [.int n, .int n, .int n, .int n, .int n, .int n, .int n, .int n, .int n]]
theorem thing_at (n : Int) {r : Int} (h0 : 0 ≤ r) (h1 : r < 7) : ∃ t, ixD (.list (things n)) (.int r) = some t ∧ neD t t = some (.bool false) := by
  have : r = 0 ∨ r = 1 ∨ r = 2 ∨ r = 3 ∨ r = 4 ∨ r = 5 ∨ r = 6 := by omega
  rcases this with rfl | rfl | rfl | rfl | rfl | rfl | rfl
  · exact ⟨_, rfl, ne_int n⟩
  · exact ⟨_, rfl, ne_int _⟩
  · exact ⟨_, rfl, ne_rep (fmod_r (by decide)).1 (fmod_r (by decide)).2⟩
  · exact ⟨_, rfl, ne_same (by kernel_rfl) rfl (by simp [PyData.eqv, PyData.eqvAll])⟩
  · exact ⟨_, rfl, ne_same rfl rfl rfl⟩
  · exact ⟨_, rfl, ne_same rfl rfl (by simp [PyData.eqv, PyData.eqvAll])⟩
  · exact ⟨_, rfl, ne_same rfl rfl (by simp [PyData.eqv, PyData.eqvAll])⟩
theorem mul_s {x : Str} {q : Int} (h : 0 ≤ q ∧ q ≤ 1000 ∧ x.length ≤ 1000) : mulD (.str x) (.int q) = some (.str (repS x q)) := by
  have e : repSD (.str x) (.int q) = some (.str (repS x q)) := if_pos h
  unfold mulD orF2
  rw [e]
  rfl
theorem pow_i {a b : Int} (h : PowOk a b) : powD (.int a) (.int b) = some (.int (a ^ b.toNat)) := if_pos h
theorem body_ok (s0 x3 x4 x5 x6 x7 x8 x9 x10 x11 x12 : SV) {k c : Int} (h0 : 0 ≤ k) (h1 : k ≤ 100) : ∃ y3 y4 y5 : SV, b2_law [s0, .d (.int k), .d (.int c), x3, x4, x5, x6, x7, x8, x9, x10, x11, x12] = .ok .nx [s0, .d (.int k), .d (.int c), y3, y4, y5, x6, x7, x8, x9, x10, x11, x12] := by
  have l0 : 0 ≤ (if (10 : Int) ^ 18 ≤ c then c else 0) := by
    split
    · have : (0 : Int) ≤ 10 ^ 18 := by decide
      omega
    · exact Int.le_refl _
  obtain ⟨n, l1, t1, d1, n0, n1, p1, p2, p3⟩ := digit_ev (l := if (10 : Int) ^ 18 ≤ c then c else 0) (c := c) (t := 1000 * k) (b := 100000) l0 (by omega) (by omega) (by decide) (by decide +kernel)
  obtain ⟨r, l2, t2, d2, r0, r1, _, _, _⟩ := digit_ev (l := l1) (c := c) (t := t1) (b := 7) p1 p2 (by omega) (by decide) (by decide +kernel)
  obtain ⟨th, e1, e2⟩ := thing_at n r0 r1
  have hm := fmod_r (a := n) (b := 50) (by decide)
  have hdr : f__law_draw [.int c, .int k] = some (stD (if (10 : Int) ^ 18 ≤ c then c else 0) c (1000 * k)) := draw_ev (CMul.ok (i := 1000) (j := k) (.inl ⟨by decide, by decide⟩))
  refine ⟨.own false (.od (stD l2 c t2)), .d (.int n), .d (.list (things n)), ?_⟩
  refine (seq_nx (setD_of (i := 3) (e1 := [s0, .d (.int k), .d (.int c), x3, x4, x5, x6, x7, x8, x9, x10, x11, x12]) (vs := [.int c, .int k]) (kvs := stD (if (10 : Int) ^ 18 ≤ c then c else 0) c (1000 * k)) rfl hdr)).trans ?_
  refine (seq_nx (set_of (i := 4) (v := .int n) (callO_of (i := 3) (vs := [.int 100000]) rfl rfl rfl d1))).trans ?_
  refine (seq_nx (set_of (i := 5) (v := .list (things n)) (e1 := [s0, .d (.int k), .d (.int c), .own false (.od (stD l1 c t1)), .d (.int n), x5, x6, x7, x8, x9, x10, x11, x12]) ?_)).trans ?_
  · show lstM _ [s0, .d (.int k), .d (.int c), .own false (.od (stD l1 c t1)), .d (.int n), x5, x6, x7, x8, x9, x10, x11, x12] = _
    exact lst_of (vs := things n) (cons_of0 (vr_of rfl) (cons_of0 (m2_of rfl (vr_of rfl) sub_i) (cons_of0 (m2_of rfl (m2_of (vr_of rfl) rfl (mod_i (by decide))) (mul_s ⟨hm.1, by omega, by decide⟩)) (cons_of0 (by kernel_rfl) (cons_of0 rfl (cons_of0 (by kernel_rfl) (cons_of0 (by kernel_rfl) rfl))))))) (by show 7 ≤ 100000; decide)
  · refine if_nx (or_no (e1 := [s0, .d (.int k), .d (.int c), .own false (.od (stD l2 c t2)), .d (.int n), .d (.list (things n)), x6, x7, x8, x9, x10, x11, x12]) ?_ ?_)
    · exact not_yes (tru_of (call_of (cons_of (m2_of (vr_of rfl) (callO_of (i := 3) (vs := [.int 7]) rfl rfl rfl d2) e1) rfl) (right_ev e2)))
    · exact not_yes (tru_of (call_of (cons_of (m2_of (m2_of (m2_of rfl rfl (pow_i (by decide +kernel))) rfl (pow_i (by decide +kernel))) rfl (pow_i (by decide +kernel))) rfl) (right_ev (ne_int _))))
theorem intsOf_map : ∀ ns : List Int, intsOf (ns.map PyData.int) = some ns
  | [] => rfl
  | n :: r => by
    show (intsOf (r.map PyData.int)).map (n :: ·) = _
    rw [intsOf_map r]
    rfl
theorem law_true (ns : List Int) (hn : ns.length ≤ 63) : f_law [.dict [(.none, .list (ns.map PyData.int))]] = .ok (.bool true) := by
  refine body_end ?_
  let s0 : SV := .d (.dict [(.none, .list (ns.map PyData.int))])
  let cells : List Int := ((ns.drop (HT.sIx ns.length 0 none)).take (HT.sIx ns.length ns.length (some 4) - HT.sIx ns.length 0 none)) ++ [ns.sum]
  have hcut : Fx.cutD (ns.map PyData.int) none (some 4) ++ [.int ns.sum] = cells.map PyData.int := by
    show Fx.cutD (ns.map PyData.int) none (some 4) ++ [.int ns.sum] = (((ns.drop _).take _) ++ [ns.sum]).map PyData.int
    unfold Fx.cutD
    rw [List.length_map, List.map_append, List.map_take, List.map_drop]
    rfl
  have hlen : cells.length ≤ 64 := by
    show (((ns.drop _).take _) ++ [ns.sum]).length ≤ 64
    rw [List.length_append, List.length_take, List.length_drop]
    simp only [List.length_cons, List.length_nil]
    omega
  have hit : enumM (m2 (sliceM (vr 0) (M.ret none) (optM (some (M.ret (.int 4))))) (lstM (consM (bltM (consM (vr 0) (M.ret [])) sumD) (M.ret []))) addD) [s0, .no, .no, .no, .no, .no, .no, .no, .no, .no, .no, .no, .no] = .ok (enumD 0 (cells.map PyData.int)) [s0, .no, .no, .no, .no, .no, .no, .no, .no, .no, .no, .no, .no] := by
    have e1 : sliceM (vr 0) (M.ret none) (optM (some (M.ret (.int 4)))) [s0, .no, .no, .no, .no, .no, .no, .no, .no, .no, .no, .no, .no] = .ok (.list (Fx.cutD (ns.map PyData.int) none (some 4))) [s0, .no, .no, .no, .no, .no, .no, .no, .no, .no, .no, .no, .no] := rfl
    have e2 : bltM (consM (vr 0) (M.ret [])) sumD [s0, .no, .no, .no, .no, .no, .no, .no, .no, .no, .no, .no, .no] = .ok (.int ns.sum) [s0, .no, .no, .no, .no, .no, .no, .no, .no, .no, .no, .no, .no] := by
      unfold bltM
      have h0 : consM (vr 0) (M.ret []) [s0, .no, .no, .no, .no, .no, .no, .no, .no, .no, .no, .no, .no] = .ok [.dict [(.none, .list (ns.map PyData.int))]] [s0, .no, .no, .no, .no, .no, .no, .no, .no, .no, .no, .no, .no] := rfl
      rw [bind_ok h0]
      show M.opt ((intsOf (ns.map PyData.int)).map fun ns => PyData.int ns.sum) _ = _
      rw [intsOf_map]
      rfl
    have e3 : addD (.list (Fx.cutD (ns.map PyData.int) none (some 4))) (.list [.int ns.sum]) = some (.list (cells.map PyData.int)) := by
      rw [← hcut]
      refine if_pos ?_
      have : (Fx.cutD (ns.map PyData.int) none (some 4) ++ [PyData.int ns.sum]).length ≤ 64 := by rw [hcut, List.length_map]; exact hlen
      rw [List.length_append] at this
      omega
    have e4 : m2 (sliceM (vr 0) (M.ret none) (optM (some (M.ret (.int 4))))) (lstM (consM (bltM (consM (vr 0) (M.ret [])) sumD) (M.ret []))) addD [s0, .no, .no, .no, .no, .no, .no, .no, .no, .no, .no, .no, .no] = .ok (.list (cells.map PyData.int)) [s0, .no, .no, .no, .no, .no, .no, .no, .no, .no, .no, .no, .no] := m2_of e1 (lst_of (vs := [.int ns.sum]) (cons_of e2 rfl) (by show 1 ≤ 100000; decide)) e3
    unfold enumM
    rw [bind_ok e4]
    rfl
  have hloop : ∃ e', forM (tgT (tgCons (tgN 1) (tgCons (tgN 2) tgNil)) 2) b2_law (enumD 0 (cells.map PyData.int)) [s0, .no, .no, .no, .no, .no, .no, .no, .no, .no, .no, .no, .no] = .ok .nx e' ∧ ∃ x1 x2 x3 x4 x5 x6 x7 x8 x9 x10 x11 x12, e' = [s0, x1, x2, x3, x4, x5, x6, x7, x8, x9, x10, x11, x12] := by
    refine for_all (I := fun e' => ∃ x1 x2 x3 x4 x5 x6 x7 x8 x9 x10 x11 x12, e' = [s0, x1, x2, x3, x4, x5, x6, x7, x8, x9, x10, x11, x12]) (fun d hd e ⟨x1, x2, x3, x4, x5, x6, x7, x8, x9, x10, x11, x12, he⟩ => ?_) ⟨_, _, _, _, _, _, _, _, _, _, _, _, rfl⟩
    subst he
    obtain ⟨j, hj⟩ := List.mem_iff_getElem?.mp hd
    rw [enum_get, List.getElem?_map] at hj
    cases hc : cells[j]? with
    | none => rw [hc] at hj; cases hj
    | some c =>
      rw [hc] at hj
      cases hj
      have hjl : j < cells.length := (List.getElem?_eq_some_iff.mp hc).1
      obtain ⟨y3, y4, y5, hb⟩ := body_ok s0 x3 x4 x5 x6 x7 x8 x9 x10 x11 x12 (k := ((0 + j : Nat) : Int)) (c := c) (by omega) (by omega)
      exact ⟨_, _, rfl, hb, _, _, _, _, _, _, _, _, _, _, _, _, rfl⟩
  obtain ⟨e', hl, x1, x2, x3, x4, x5, x6, x7, x8, x9, x10, x11, x12, rfl⟩ := hloop
  have run : m_law [s0, .no, .no, .no, .no, .no, .no, .no, .no, .no, .no, .no, .no] = rest [s0, x1, x2, x3, x4, x5, x6, x7, x8, x9, x10, x11, x12] := seq_nx (forL_of hit hl)
  show endF (m_law [s0, .no, .no, .no, .no, .no, .no, .no, .no, .no, .no, .no, .no]) = _
  rw [run]
  exact rest_ok _ _ _ _ _ _ _ _ _ _ _ _ _
end K99

set_option Elab.async false
set_option linter.all false
set_option maxRecDepth 100000
set_option maxHeartbeats 4000000
namespace K99
open PySem PySem.Spec PyProof.Rows L2 Evl Fx
abbrev VT : List Value := [.type "ValueError", .type "Exception", .type "BaseException", .type "object"]
abbrev LT : List Value := [.type "LookupError", .type "Exception", .type "BaseException", .type "object"]
abbrev OT : List Value := [.type "OverflowError", .type "ArithmeticError", .type "Exception", .type "BaseException", .type "object"]
structure Bs (K : PySem.W.Frag) (mg : Str → Option Value) : Prop where
  m : mg "SumError" = some (.ref 24)
  sg : PySem.W.specialIn K (.ref 24) "__getattribute__" = some (some (.builtin "type.__getattribute__"))
  tm : PySem.W.typeIn K (.ref 24) = some (.type "type")
  hr : PySem.W.readsIn K 24 (.type "type") = true
  vV : PySem.W.findCls K (.ref 24) (.type "type") "__init__" = some (.val (.builtin "ValueError.__init__"))
theorem si_BadNumber : FnScope ["self", "value"] ["self", "value"] (defScope (inClass (top 2) 0)) := ⟨rfl, rfl, rfl, by decide +kernel, rfl, by decide +kernel, by decide +kernel⟩
theorem x_BadNumber {P : Program} {w : World} {K : PySem.W.Frag} {mg : Str → Option Value} {base : Heap} (F : CF K (inClass (top 2) 0) "BadNumber.__init__" 45 42 "ValueError.__new__" VT true) (c : CC K 45 42 "value") (B : Bs K mg) (hm : mg "BadNumber" = some (.ref 45)) : Exk P w K mg base 1 "BadNumber" 45 "value" "no such number" "value" ∧ Exk0 P w K mg base 1 "BadNumber" 45 "value" "no such number" "value" := by
  obtain ⟨oc, od, dV, kV, doc, pm, an, cdv, ct, osl, li, cd, hd⟩ := F.ini
  have T : ExC K 45 VT "ValueError.__new__" := ⟨F.cls, c.sa, c.exC, c.tyC, c.kC⟩
  have G : FnG P w K mg base 1 42 _ ["self", "value"] (spInit 45 "value" "no such number") := ini_own (x := "SumError") PySem.FxE.fam_VE li cd si_BadNumber rfl (fun env => ⟨_, rfl⟩) (.inl rfl) (.inl rfl) rfl (by decide) (by decide) (by decide) T c.hno B.m B.sg B.tm B.hr B.vV
  rcases hd with ⟨z, _⟩ | ⟨_, To, ob, n, rfl, lt, ot⟩
  · cases z
  · exact ⟨⟨⟨_, _, _, _, 42, _, PySem.FxE.fam_VE, T, c.iC, c.tI, G, bindD lt ot (fun u v => ⟨_, rfl, rfl⟩), bindK lt ot (fun u v => ⟨_, rfl, rfl⟩)⟩, hm⟩, ⟨⟨_, _, _, _, 42, _, PySem.FxE.fam_VE, T, c.iC, c.tI, G, bind0 lt ot (fun u => ⟨_, rfl, rfl⟩)⟩, hm⟩⟩
theorem si_BadPolynomial : FnScope ["self", "place"] ["self", "place"] (defScope (inClass (top 3) 0)) := ⟨rfl, rfl, rfl, by decide +kernel, rfl, by decide +kernel, by decide +kernel⟩
theorem x_BadPolynomial {P : Program} {w : World} {K : PySem.W.Frag} {mg : Str → Option Value} {base : Heap} (F : CF K (inClass (top 3) 0) "BadPolynomial.__init__" 65 62 "ValueError.__new__" VT true) (c : CC K 65 62 "place") (B : Bs K mg) (hm : mg "BadPolynomial" = some (.ref 65)) : Exk P w K mg base 1 "BadPolynomial" 65 "place" "no such polynomial" "place" ∧ Exk0 P w K mg base 1 "BadPolynomial" 65 "place" "no such polynomial" "place" := by
  obtain ⟨oc, od, dV, kV, doc, pm, an, cdv, ct, osl, li, cd, hd⟩ := F.ini
  have T : ExC K 65 VT "ValueError.__new__" := ⟨F.cls, c.sa, c.exC, c.tyC, c.kC⟩
  have G : FnG P w K mg base 1 62 _ ["self", "place"] (spInit 65 "place" "no such polynomial") := ini_own (x := "SumError") PySem.FxE.fam_VE li cd si_BadPolynomial rfl (fun env => ⟨_, rfl⟩) (.inl rfl) (.inl rfl) rfl (by decide) (by decide) (by decide) T c.hno B.m B.sg B.tm B.hr B.vV
  rcases hd with ⟨z, _⟩ | ⟨_, To, ob, n, rfl, lt, ot⟩
  · cases z
  · exact ⟨⟨⟨_, _, _, _, 62, _, PySem.FxE.fam_VE, T, c.iC, c.tI, G, bindD lt ot (fun u v => ⟨_, rfl, rfl⟩), bindK lt ot (fun u v => ⟨_, rfl, rfl⟩)⟩, hm⟩, ⟨⟨_, _, _, _, 62, _, PySem.FxE.fam_VE, T, c.iC, c.tI, G, bind0 lt ot (fun u => ⟨_, rfl, rfl⟩)⟩, hm⟩⟩
theorem si_BadRational : FnScope ["self", "place"] ["self", "place"] (defScope (inClass (top 4) 0)) := ⟨rfl, rfl, rfl, by decide +kernel, rfl, by decide +kernel, by decide +kernel⟩
theorem x_BadRational {P : Program} {w : World} {K : PySem.W.Frag} {mg : Str → Option Value} {base : Heap} (F : CF K (inClass (top 4) 0) "BadRational.__init__" 85 82 "ValueError.__new__" VT true) (c : CC K 85 82 "place") (B : Bs K mg) (hm : mg "BadRational" = some (.ref 85)) : Exk P w K mg base 1 "BadRational" 85 "place" "no such rational" "place" ∧ Exk0 P w K mg base 1 "BadRational" 85 "place" "no such rational" "place" := by
  obtain ⟨oc, od, dV, kV, doc, pm, an, cdv, ct, osl, li, cd, hd⟩ := F.ini
  have T : ExC K 85 VT "ValueError.__new__" := ⟨F.cls, c.sa, c.exC, c.tyC, c.kC⟩
  have G : FnG P w K mg base 1 82 _ ["self", "place"] (spInit 85 "place" "no such rational") := ini_own (x := "SumError") PySem.FxE.fam_VE li cd si_BadRational rfl (fun env => ⟨_, rfl⟩) (.inl rfl) (.inl rfl) rfl (by decide) (by decide) (by decide) T c.hno B.m B.sg B.tm B.hr B.vV
  rcases hd with ⟨z, _⟩ | ⟨_, To, ob, n, rfl, lt, ot⟩
  · cases z
  · exact ⟨⟨⟨_, _, _, _, 82, _, PySem.FxE.fam_VE, T, c.iC, c.tI, G, bindD lt ot (fun u v => ⟨_, rfl, rfl⟩), bindK lt ot (fun u v => ⟨_, rfl, rfl⟩)⟩, hm⟩, ⟨⟨_, _, _, _, 82, _, PySem.FxE.fam_VE, T, c.iC, c.tI, G, bind0 lt ot (fun u => ⟨_, rfl, rfl⟩)⟩, hm⟩⟩
theorem si_BadTerm : FnScope ["self", "place"] ["self", "place"] (defScope (inClass (top 5) 0)) := ⟨rfl, rfl, rfl, by decide +kernel, rfl, by decide +kernel, by decide +kernel⟩
theorem x_BadTerm {P : Program} {w : World} {K : PySem.W.Frag} {mg : Str → Option Value} {base : Heap} (F : CF K (inClass (top 5) 0) "BadTerm.__init__" 105 102 "ValueError.__new__" VT true) (c : CC K 105 102 "place") (B : Bs K mg) (hm : mg "BadTerm" = some (.ref 105)) : Exk P w K mg base 1 "BadTerm" 105 "place" "no such term" "place" ∧ Exk0 P w K mg base 1 "BadTerm" 105 "place" "no such term" "place" := by
  obtain ⟨oc, od, dV, kV, doc, pm, an, cdv, ct, osl, li, cd, hd⟩ := F.ini
  have T : ExC K 105 VT "ValueError.__new__" := ⟨F.cls, c.sa, c.exC, c.tyC, c.kC⟩
  have G : FnG P w K mg base 1 102 _ ["self", "place"] (spInit 105 "place" "no such term") := ini_own (x := "SumError") PySem.FxE.fam_VE li cd si_BadTerm rfl (fun env => ⟨_, rfl⟩) (.inl rfl) (.inl rfl) rfl (by decide) (by decide) (by decide) T c.hno B.m B.sg B.tm B.hr B.vV
  rcases hd with ⟨z, _⟩ | ⟨_, To, ob, n, rfl, lt, ot⟩
  · cases z
  · exact ⟨⟨⟨_, _, _, _, 102, _, PySem.FxE.fam_VE, T, c.iC, c.tI, G, bindD lt ot (fun u v => ⟨_, rfl, rfl⟩), bindK lt ot (fun u v => ⟨_, rfl, rfl⟩)⟩, hm⟩, ⟨⟨_, _, _, _, 102, _, PySem.FxE.fam_VE, T, c.iC, c.tI, G, bind0 lt ot (fun u => ⟨_, rfl, rfl⟩)⟩, hm⟩⟩
theorem si_BadProper : FnScope ["self", "place"] ["self", "place"] (defScope (inClass (top 6) 0)) := ⟨rfl, rfl, rfl, by decide +kernel, rfl, by decide +kernel, by decide +kernel⟩
theorem x_BadProper {P : Program} {w : World} {K : PySem.W.Frag} {mg : Str → Option Value} {base : Heap} (F : CF K (inClass (top 6) 0) "BadProper.__init__" 125 122 "ValueError.__new__" VT true) (c : CC K 125 122 "place") (B : Bs K mg) (hm : mg "BadProper" = some (.ref 125)) : Exk P w K mg base 1 "BadProper" 125 "place" "no such proper term" "place" ∧ Exk0 P w K mg base 1 "BadProper" 125 "place" "no such proper term" "place" := by
  obtain ⟨oc, od, dV, kV, doc, pm, an, cdv, ct, osl, li, cd, hd⟩ := F.ini
  have T : ExC K 125 VT "ValueError.__new__" := ⟨F.cls, c.sa, c.exC, c.tyC, c.kC⟩
  have G : FnG P w K mg base 1 122 _ ["self", "place"] (spInit 125 "place" "no such proper term") := ini_own (x := "SumError") PySem.FxE.fam_VE li cd si_BadProper rfl (fun env => ⟨_, rfl⟩) (.inl rfl) (.inl rfl) rfl (by decide) (by decide) (by decide) T c.hno B.m B.sg B.tm B.hr B.vV
  rcases hd with ⟨z, _⟩ | ⟨_, To, ob, n, rfl, lt, ot⟩
  · cases z
  · exact ⟨⟨⟨_, _, _, _, 122, _, PySem.FxE.fam_VE, T, c.iC, c.tI, G, bindD lt ot (fun u v => ⟨_, rfl, rfl⟩), bindK lt ot (fun u v => ⟨_, rfl, rfl⟩)⟩, hm⟩, ⟨⟨_, _, _, _, 122, _, PySem.FxE.fam_VE, T, c.iC, c.tI, G, bind0 lt ot (fun u => ⟨_, rfl, rfl⟩)⟩, hm⟩⟩
theorem si_BadRow : FnScope ["self", "place"] ["self", "place"] (defScope (inClass (top 7) 0)) := ⟨rfl, rfl, rfl, by decide +kernel, rfl, by decide +kernel, by decide +kernel⟩
theorem x_BadRow {P : Program} {w : World} {K : PySem.W.Frag} {mg : Str → Option Value} {base : Heap} (F : CF K (inClass (top 7) 0) "BadRow.__init__" 145 142 "ValueError.__new__" VT true) (c : CC K 145 142 "place") (B : Bs K mg) (hm : mg "BadRow" = some (.ref 145)) : Exk P w K mg base 1 "BadRow" 145 "place" "no such row" "place" ∧ Exk0 P w K mg base 1 "BadRow" 145 "place" "no such row" "place" := by
  obtain ⟨oc, od, dV, kV, doc, pm, an, cdv, ct, osl, li, cd, hd⟩ := F.ini
  have T : ExC K 145 VT "ValueError.__new__" := ⟨F.cls, c.sa, c.exC, c.tyC, c.kC⟩
  have G : FnG P w K mg base 1 142 _ ["self", "place"] (spInit 145 "place" "no such row") := ini_own (x := "SumError") PySem.FxE.fam_VE li cd si_BadRow rfl (fun env => ⟨_, rfl⟩) (.inl rfl) (.inl rfl) rfl (by decide) (by decide) (by decide) T c.hno B.m B.sg B.tm B.hr B.vV
  rcases hd with ⟨z, _⟩ | ⟨_, To, ob, n, rfl, lt, ot⟩
  · cases z
  · exact ⟨⟨⟨_, _, _, _, 142, _, PySem.FxE.fam_VE, T, c.iC, c.tI, G, bindD lt ot (fun u v => ⟨_, rfl, rfl⟩), bindK lt ot (fun u v => ⟨_, rfl, rfl⟩)⟩, hm⟩, ⟨⟨_, _, _, _, 142, _, PySem.FxE.fam_VE, T, c.iC, c.tI, G, bind0 lt ot (fun u => ⟨_, rfl, rfl⟩)⟩, hm⟩⟩
theorem si_BadEquation : FnScope ["self", "place"] ["self", "place"] (defScope (inClass (top 8) 0)) := ⟨rfl, rfl, rfl, by decide +kernel, rfl, by decide +kernel, by decide +kernel⟩
theorem x_BadEquation {P : Program} {w : World} {K : PySem.W.Frag} {mg : Str → Option Value} {base : Heap} (F : CF K (inClass (top 8) 0) "BadEquation.__init__" 165 162 "ValueError.__new__" VT true) (c : CC K 165 162 "place") (B : Bs K mg) (hm : mg "BadEquation" = some (.ref 165)) : Exk P w K mg base 1 "BadEquation" 165 "place" "no such equation" "place" ∧ Exk0 P w K mg base 1 "BadEquation" 165 "place" "no such equation" "place" := by
  obtain ⟨oc, od, dV, kV, doc, pm, an, cdv, ct, osl, li, cd, hd⟩ := F.ini
  have T : ExC K 165 VT "ValueError.__new__" := ⟨F.cls, c.sa, c.exC, c.tyC, c.kC⟩
  have G : FnG P w K mg base 1 162 _ ["self", "place"] (spInit 165 "place" "no such equation") := ini_own (x := "SumError") PySem.FxE.fam_VE li cd si_BadEquation rfl (fun env => ⟨_, rfl⟩) (.inl rfl) (.inl rfl) rfl (by decide) (by decide) (by decide) T c.hno B.m B.sg B.tm B.hr B.vV
  rcases hd with ⟨z, _⟩ | ⟨_, To, ob, n, rfl, lt, ot⟩
  · cases z
  · exact ⟨⟨⟨_, _, _, _, 162, _, PySem.FxE.fam_VE, T, c.iC, c.tI, G, bindD lt ot (fun u v => ⟨_, rfl, rfl⟩), bindK lt ot (fun u v => ⟨_, rfl, rfl⟩)⟩, hm⟩, ⟨⟨_, _, _, _, 162, _, PySem.FxE.fam_VE, T, c.iC, c.tI, G, bind0 lt ot (fun u => ⟨_, rfl, rfl⟩)⟩, hm⟩⟩
theorem si_BadSystem : FnScope ["self", "place"] ["self", "place"] (defScope (inClass (top 9) 0)) := ⟨rfl, rfl, rfl, by decide +kernel, rfl, by decide +kernel, by decide +kernel⟩
theorem x_BadSystem {P : Program} {w : World} {K : PySem.W.Frag} {mg : Str → Option Value} {base : Heap} (F : CF K (inClass (top 9) 0) "BadSystem.__init__" 185 182 "ValueError.__new__" VT true) (c : CC K 185 182 "place") (B : Bs K mg) (hm : mg "BadSystem" = some (.ref 185)) : Exk P w K mg base 1 "BadSystem" 185 "place" "no such system" "place" ∧ Exk0 P w K mg base 1 "BadSystem" 185 "place" "no such system" "place" := by
  obtain ⟨oc, od, dV, kV, doc, pm, an, cdv, ct, osl, li, cd, hd⟩ := F.ini
  have T : ExC K 185 VT "ValueError.__new__" := ⟨F.cls, c.sa, c.exC, c.tyC, c.kC⟩
  have G : FnG P w K mg base 1 182 _ ["self", "place"] (spInit 185 "place" "no such system") := ini_own (x := "SumError") PySem.FxE.fam_VE li cd si_BadSystem rfl (fun env => ⟨_, rfl⟩) (.inl rfl) (.inl rfl) rfl (by decide) (by decide) (by decide) T c.hno B.m B.sg B.tm B.hr B.vV
  rcases hd with ⟨z, _⟩ | ⟨_, To, ob, n, rfl, lt, ot⟩
  · cases z
  · exact ⟨⟨⟨_, _, _, _, 182, _, PySem.FxE.fam_VE, T, c.iC, c.tI, G, bindD lt ot (fun u v => ⟨_, rfl, rfl⟩), bindK lt ot (fun u v => ⟨_, rfl, rfl⟩)⟩, hm⟩, ⟨⟨_, _, _, _, 182, _, PySem.FxE.fam_VE, T, c.iC, c.tI, G, bind0 lt ot (fun u => ⟨_, rfl, rfl⟩)⟩, hm⟩⟩
theorem si_BadSeries : FnScope ["self", "place"] ["self", "place"] (defScope (inClass (top 10) 0)) := ⟨rfl, rfl, rfl, by decide +kernel, rfl, by decide +kernel, by decide +kernel⟩
theorem x_BadSeries {P : Program} {w : World} {K : PySem.W.Frag} {mg : Str → Option Value} {base : Heap} (F : CF K (inClass (top 10) 0) "BadSeries.__init__" 205 202 "ValueError.__new__" VT true) (c : CC K 205 202 "place") (B : Bs K mg) (hm : mg "BadSeries" = some (.ref 205)) : Exk P w K mg base 1 "BadSeries" 205 "place" "no such series" "place" ∧ Exk0 P w K mg base 1 "BadSeries" 205 "place" "no such series" "place" := by
  obtain ⟨oc, od, dV, kV, doc, pm, an, cdv, ct, osl, li, cd, hd⟩ := F.ini
  have T : ExC K 205 VT "ValueError.__new__" := ⟨F.cls, c.sa, c.exC, c.tyC, c.kC⟩
  have G : FnG P w K mg base 1 202 _ ["self", "place"] (spInit 205 "place" "no such series") := ini_own (x := "SumError") PySem.FxE.fam_VE li cd si_BadSeries rfl (fun env => ⟨_, rfl⟩) (.inl rfl) (.inl rfl) rfl (by decide) (by decide) (by decide) T c.hno B.m B.sg B.tm B.hr B.vV
  rcases hd with ⟨z, _⟩ | ⟨_, To, ob, n, rfl, lt, ot⟩
  · cases z
  · exact ⟨⟨⟨_, _, _, _, 202, _, PySem.FxE.fam_VE, T, c.iC, c.tI, G, bindD lt ot (fun u v => ⟨_, rfl, rfl⟩), bindK lt ot (fun u v => ⟨_, rfl, rfl⟩)⟩, hm⟩, ⟨⟨_, _, _, _, 202, _, PySem.FxE.fam_VE, T, c.iC, c.tI, G, bind0 lt ot (fun u => ⟨_, rfl, rfl⟩)⟩, hm⟩⟩
theorem si_BadClaim : FnScope ["self", "place"] ["self", "place"] (defScope (inClass (top 11) 0)) := ⟨rfl, rfl, rfl, by decide +kernel, rfl, by decide +kernel, by decide +kernel⟩
theorem x_BadClaim {P : Program} {w : World} {K : PySem.W.Frag} {mg : Str → Option Value} {base : Heap} (F : CF K (inClass (top 11) 0) "BadClaim.__init__" 225 222 "ValueError.__new__" VT true) (c : CC K 225 222 "place") (B : Bs K mg) (hm : mg "BadClaim" = some (.ref 225)) : Exk P w K mg base 1 "BadClaim" 225 "place" "no such claim" "place" ∧ Exk0 P w K mg base 1 "BadClaim" 225 "place" "no such claim" "place" := by
  obtain ⟨oc, od, dV, kV, doc, pm, an, cdv, ct, osl, li, cd, hd⟩ := F.ini
  have T : ExC K 225 VT "ValueError.__new__" := ⟨F.cls, c.sa, c.exC, c.tyC, c.kC⟩
  have G : FnG P w K mg base 1 222 _ ["self", "place"] (spInit 225 "place" "no such claim") := ini_own (x := "SumError") PySem.FxE.fam_VE li cd si_BadClaim rfl (fun env => ⟨_, rfl⟩) (.inl rfl) (.inl rfl) rfl (by decide) (by decide) (by decide) T c.hno B.m B.sg B.tm B.hr B.vV
  rcases hd with ⟨z, _⟩ | ⟨_, To, ob, n, rfl, lt, ot⟩
  · cases z
  · exact ⟨⟨⟨_, _, _, _, 222, _, PySem.FxE.fam_VE, T, c.iC, c.tI, G, bindD lt ot (fun u v => ⟨_, rfl, rfl⟩), bindK lt ot (fun u v => ⟨_, rfl, rfl⟩)⟩, hm⟩, ⟨⟨_, _, _, _, 222, _, PySem.FxE.fam_VE, T, c.iC, c.tI, G, bind0 lt ot (fun u => ⟨_, rfl, rfl⟩)⟩, hm⟩⟩
theorem si_BadFactorials : FnScope ["self", "place"] ["self", "place"] (defScope (inClass (top 12) 0)) := ⟨rfl, rfl, rfl, by decide +kernel, rfl, by decide +kernel, by decide +kernel⟩
theorem x_BadFactorials {P : Program} {w : World} {K : PySem.W.Frag} {mg : Str → Option Value} {base : Heap} (F : CF K (inClass (top 12) 0) "BadFactorials.__init__" 245 242 "ValueError.__new__" VT true) (c : CC K 245 242 "place") (B : Bs K mg) (hm : mg "BadFactorials" = some (.ref 245)) : Exk P w K mg base 1 "BadFactorials" 245 "place" "no such factorials" "place" ∧ Exk0 P w K mg base 1 "BadFactorials" 245 "place" "no such factorials" "place" := by
  obtain ⟨oc, od, dV, kV, doc, pm, an, cdv, ct, osl, li, cd, hd⟩ := F.ini
  have T : ExC K 245 VT "ValueError.__new__" := ⟨F.cls, c.sa, c.exC, c.tyC, c.kC⟩
  have G : FnG P w K mg base 1 242 _ ["self", "place"] (spInit 245 "place" "no such factorials") := ini_own (x := "SumError") PySem.FxE.fam_VE li cd si_BadFactorials rfl (fun env => ⟨_, rfl⟩) (.inl rfl) (.inl rfl) rfl (by decide) (by decide) (by decide) T c.hno B.m B.sg B.tm B.hr B.vV
  rcases hd with ⟨z, _⟩ | ⟨_, To, ob, n, rfl, lt, ot⟩
  · cases z
  · exact ⟨⟨⟨_, _, _, _, 242, _, PySem.FxE.fam_VE, T, c.iC, c.tI, G, bindD lt ot (fun u v => ⟨_, rfl, rfl⟩), bindK lt ot (fun u v => ⟨_, rfl, rfl⟩)⟩, hm⟩, ⟨⟨_, _, _, _, 242, _, PySem.FxE.fam_VE, T, c.iC, c.tI, G, bind0 lt ot (fun u => ⟨_, rfl, rfl⟩)⟩, hm⟩⟩
theorem si_BadValues : FnScope ["self", "place"] ["self", "place"] (defScope (inClass (top 13) 0)) := ⟨rfl, rfl, rfl, by decide +kernel, rfl, by decide +kernel, by decide +kernel⟩
theorem x_BadValues {P : Program} {w : World} {K : PySem.W.Frag} {mg : Str → Option Value} {base : Heap} (F : CF K (inClass (top 13) 0) "BadValues.__init__" 265 262 "ValueError.__new__" VT true) (c : CC K 265 262 "place") (B : Bs K mg) (hm : mg "BadValues" = some (.ref 265)) : Exk P w K mg base 1 "BadValues" 265 "place" "no such values" "place" ∧ Exk0 P w K mg base 1 "BadValues" 265 "place" "no such values" "place" := by
  obtain ⟨oc, od, dV, kV, doc, pm, an, cdv, ct, osl, li, cd, hd⟩ := F.ini
  have T : ExC K 265 VT "ValueError.__new__" := ⟨F.cls, c.sa, c.exC, c.tyC, c.kC⟩
  have G : FnG P w K mg base 1 262 _ ["self", "place"] (spInit 265 "place" "no such values") := ini_own (x := "SumError") PySem.FxE.fam_VE li cd si_BadValues rfl (fun env => ⟨_, rfl⟩) (.inl rfl) (.inl rfl) rfl (by decide) (by decide) (by decide) T c.hno B.m B.sg B.tm B.hr B.vV
  rcases hd with ⟨z, _⟩ | ⟨_, To, ob, n, rfl, lt, ot⟩
  · cases z
  · exact ⟨⟨⟨_, _, _, _, 262, _, PySem.FxE.fam_VE, T, c.iC, c.tI, G, bindD lt ot (fun u v => ⟨_, rfl, rfl⟩), bindK lt ot (fun u v => ⟨_, rfl, rfl⟩)⟩, hm⟩, ⟨⟨_, _, _, _, 262, _, PySem.FxE.fam_VE, T, c.iC, c.tI, G, bind0 lt ot (fun u => ⟨_, rfl, rfl⟩)⟩, hm⟩⟩
theorem si_BadText : FnScope ["self", "place"] ["self", "place"] (defScope (inClass (top 14) 0)) := ⟨rfl, rfl, rfl, by decide +kernel, rfl, by decide +kernel, by decide +kernel⟩
theorem x_BadText {P : Program} {w : World} {K : PySem.W.Frag} {mg : Str → Option Value} {base : Heap} (F : CF K (inClass (top 14) 0) "BadText.__init__" 285 282 "ValueError.__new__" VT true) (c : CC K 285 282 "place") (B : Bs K mg) (hm : mg "BadText" = some (.ref 285)) : Exk P w K mg base 1 "BadText" 285 "place" "no such text" "place" ∧ Exk0 P w K mg base 1 "BadText" 285 "place" "no such text" "place" := by
  obtain ⟨oc, od, dV, kV, doc, pm, an, cdv, ct, osl, li, cd, hd⟩ := F.ini
  have T : ExC K 285 VT "ValueError.__new__" := ⟨F.cls, c.sa, c.exC, c.tyC, c.kC⟩
  have G : FnG P w K mg base 1 282 _ ["self", "place"] (spInit 285 "place" "no such text") := ini_own (x := "SumError") PySem.FxE.fam_VE li cd si_BadText rfl (fun env => ⟨_, rfl⟩) (.inl rfl) (.inl rfl) rfl (by decide) (by decide) (by decide) T c.hno B.m B.sg B.tm B.hr B.vV
  rcases hd with ⟨z, _⟩ | ⟨_, To, ob, n, rfl, lt, ot⟩
  · cases z
  · exact ⟨⟨⟨_, _, _, _, 282, _, PySem.FxE.fam_VE, T, c.iC, c.tI, G, bindD lt ot (fun u v => ⟨_, rfl, rfl⟩), bindK lt ot (fun u v => ⟨_, rfl, rfl⟩)⟩, hm⟩, ⟨⟨_, _, _, _, 282, _, PySem.FxE.fam_VE, T, c.iC, c.tI, G, bind0 lt ot (fun u => ⟨_, rfl, rfl⟩)⟩, hm⟩⟩
theorem si_BadPaper : FnScope ["self", "place"] ["self", "place"] (defScope (inClass (top 15) 0)) := ⟨rfl, rfl, rfl, by decide +kernel, rfl, by decide +kernel, by decide +kernel⟩
theorem x_BadPaper {P : Program} {w : World} {K : PySem.W.Frag} {mg : Str → Option Value} {base : Heap} (F : CF K (inClass (top 15) 0) "BadPaper.__init__" 305 302 "ValueError.__new__" VT true) (c : CC K 305 302 "place") (B : Bs K mg) (hm : mg "BadPaper" = some (.ref 305)) : Exk P w K mg base 1 "BadPaper" 305 "place" "no such paper" "place" ∧ Exk0 P w K mg base 1 "BadPaper" 305 "place" "no such paper" "place" := by
  obtain ⟨oc, od, dV, kV, doc, pm, an, cdv, ct, osl, li, cd, hd⟩ := F.ini
  have T : ExC K 305 VT "ValueError.__new__" := ⟨F.cls, c.sa, c.exC, c.tyC, c.kC⟩
  have G : FnG P w K mg base 1 302 _ ["self", "place"] (spInit 305 "place" "no such paper") := ini_own (x := "SumError") PySem.FxE.fam_VE li cd si_BadPaper rfl (fun env => ⟨_, rfl⟩) (.inl rfl) (.inl rfl) rfl (by decide) (by decide) (by decide) T c.hno B.m B.sg B.tm B.hr B.vV
  rcases hd with ⟨z, _⟩ | ⟨_, To, ob, n, rfl, lt, ot⟩
  · cases z
  · exact ⟨⟨⟨_, _, _, _, 302, _, PySem.FxE.fam_VE, T, c.iC, c.tI, G, bindD lt ot (fun u v => ⟨_, rfl, rfl⟩), bindK lt ot (fun u v => ⟨_, rfl, rfl⟩)⟩, hm⟩, ⟨⟨_, _, _, _, 302, _, PySem.FxE.fam_VE, T, c.iC, c.tI, G, bind0 lt ot (fun u => ⟨_, rfl, rfl⟩)⟩, hm⟩⟩
theorem si_BadDeed : FnScope ["self", "place"] ["self", "place"] (defScope (inClass (top 16) 0)) := ⟨rfl, rfl, rfl, by decide +kernel, rfl, by decide +kernel, by decide +kernel⟩
theorem x_BadDeed {P : Program} {w : World} {K : PySem.W.Frag} {mg : Str → Option Value} {base : Heap} (F : CF K (inClass (top 16) 0) "BadDeed.__init__" 325 322 "ValueError.__new__" VT true) (c : CC K 325 322 "place") (B : Bs K mg) (hm : mg "BadDeed" = some (.ref 325)) : Exk P w K mg base 1 "BadDeed" 325 "place" "no such deed" "place" ∧ Exk0 P w K mg base 1 "BadDeed" 325 "place" "no such deed" "place" := by
  obtain ⟨oc, od, dV, kV, doc, pm, an, cdv, ct, osl, li, cd, hd⟩ := F.ini
  have T : ExC K 325 VT "ValueError.__new__" := ⟨F.cls, c.sa, c.exC, c.tyC, c.kC⟩
  have G : FnG P w K mg base 1 322 _ ["self", "place"] (spInit 325 "place" "no such deed") := ini_own (x := "SumError") PySem.FxE.fam_VE li cd si_BadDeed rfl (fun env => ⟨_, rfl⟩) (.inl rfl) (.inl rfl) rfl (by decide) (by decide) (by decide) T c.hno B.m B.sg B.tm B.hr B.vV
  rcases hd with ⟨z, _⟩ | ⟨_, To, ob, n, rfl, lt, ot⟩
  · cases z
  · exact ⟨⟨⟨_, _, _, _, 322, _, PySem.FxE.fam_VE, T, c.iC, c.tI, G, bindD lt ot (fun u v => ⟨_, rfl, rfl⟩), bindK lt ot (fun u v => ⟨_, rfl, rfl⟩)⟩, hm⟩, ⟨⟨_, _, _, _, 322, _, PySem.FxE.fam_VE, T, c.iC, c.tI, G, bind0 lt ot (fun u => ⟨_, rfl, rfl⟩)⟩, hm⟩⟩
theorem si_TooMany : FnScope ["self", "most"] ["self", "most"] (defScope (inClass (top 17) 0)) := ⟨rfl, rfl, rfl, by decide +kernel, rfl, by decide +kernel, by decide +kernel⟩
theorem x_TooMany {P : Program} {w : World} {K : PySem.W.Frag} {mg : Str → Option Value} {base : Heap} (F : CF K (inClass (top 17) 0) "TooMany.__init__" 344 341 "OverflowError.__new__" OT false) (c : CC K 344 341 "most") (zb : mg "OverflowError" = none) (vV : PySem.W.findCls K (.type "OverflowError") (.type "type") "__init__" = some (.val (.builtin "OverflowError.__init__"))) (hm : mg "TooMany" = some (.ref 344)) : Exk P w K mg base 1 "TooMany" 344 "most" "too many" "most" := by
  obtain ⟨oc, od, dV, kV, doc, pm, an, cdv, ct, osl, li, cd, hd⟩ := F.ini
  have T : ExC K 344 OT "OverflowError.__new__" := ⟨F.cls, c.sa, c.exC, c.tyC, c.kC⟩
  have G : FnG P w K mg base 1 341 _ ["self", "most"] (spInit 344 "most" "too many") := ini_blt (x := "OverflowError") (T0 := "OverflowError") PySem.FxE.fam_OE li cd si_TooMany rfl (fun env => ⟨_, rfl⟩) (.inl rfl) (.inl rfl) rfl (by decide) (by decide) (by decide) (by decide) T c.hno zb (by decide +kernel) (by kernel_rfl) (by decide +kernel) vV
  rcases hd with ⟨_, rfl⟩ | ⟨z, _⟩
  · exact ⟨⟨_, _, _, _, 341, _, PySem.FxE.fam_OE, T, c.iC, c.tI, G, bindN (fun u v => rfl), bindNK (fun u v => rfl)⟩, hm⟩
  · cases z
theorem si_NoSuch : FnScope ["self", "value"] ["self", "value"] (defScope (inClass (top 18) 0)) := ⟨rfl, rfl, rfl, by decide +kernel, rfl, by decide +kernel, by decide +kernel⟩
theorem x_NoSuch {P : Program} {w : World} {K : PySem.W.Frag} {mg : Str → Option Value} {base : Heap} (F : CF K (inClass (top 18) 0) "NoSuch.__init__" 365 362 "LookupError.__new__" LT true) (c : CC K 365 362 "value") (zb : mg "LookupError" = none) (vV : PySem.W.findCls K (.type "LookupError") (.type "type") "__init__" = some (.val (.builtin "LookupError.__init__"))) (hm : mg "NoSuch" = some (.ref 365)) : Exk P w K mg base 1 "NoSuch" 365 "value" "nothing so called" "value" ∧ Exk0 P w K mg base 1 "NoSuch" 365 "value" "nothing so called" "value" := by
  obtain ⟨oc, od, dV, kV, doc, pm, an, cdv, ct, osl, li, cd, hd⟩ := F.ini
  have T : ExC K 365 LT "LookupError.__new__" := ⟨F.cls, c.sa, c.exC, c.tyC, c.kC⟩
  have G : FnG P w K mg base 1 362 _ ["self", "value"] (spInit 365 "value" "nothing so called") := ini_blt (x := "LookupError") (T0 := "LookupError") PySem.FxE.fam_LE li cd si_NoSuch rfl (fun env => ⟨_, rfl⟩) (.inl rfl) (.inl rfl) rfl (by decide) (by decide) (by decide) (by decide) T c.hno zb (by decide +kernel) (by kernel_rfl) (by decide +kernel) vV
  rcases hd with ⟨z, _⟩ | ⟨_, To, ob, n, rfl, lt, ot⟩
  · cases z
  · exact ⟨⟨⟨_, _, _, _, 362, _, PySem.FxE.fam_LE, T, c.iC, c.tI, G, bindD lt ot (fun u v => ⟨_, rfl, rfl⟩), bindK lt ot (fun u v => ⟨_, rfl, rfl⟩)⟩, hm⟩, ⟨⟨_, _, _, _, 362, _, PySem.FxE.fam_LE, T, c.iC, c.tI, G, bind0 lt ot (fun u => ⟨_, rfl, rfl⟩)⟩, hm⟩⟩
theorem sc__law_draw : FnScope ["cell", "k"] ["cell", "k"] (defScope (top 21)) := ⟨rfl, rfl, rfl, by decide +kernel, rfl, by decide +kernel, by decide +kernel⟩
def lst : List (Nat × Nat × Str) := [(45, 42, "value"), (65, 62, "place"), (85, 82, "place"), (105, 102, "place"), (125, 122, "place"), (145, 142, "place"), (165, 162, "place"), (185, 182, "place"), (205, 202, "place"), (225, 222, "place"), (245, 242, "place"), (265, 262, "place"), (285, 282, "place"), (305, 302, "place"), (325, 322, "place"), (344, 341, "most"), (365, 362, "value")]
theorem all99 {l : PySem.W.OpenLaw} {w : World} {K : PySem.W.Frag} {h : Heap} {mg : Str → Option Value} {fa : Addr} (X : K.In h) (G : h.Ns mainGlobals mg) (hmg : mg "law" = some (.ref fa))
    (z_LookupError : PySem.W.nsIn K mainGlobals "LookupError" = some none)
    (z_OverflowError : PySem.W.nsIn K mainGlobals "OverflowError" = some none)
    (z_ValueError : PySem.W.nsIn K mainGlobals "ValueError" = some none)
    (z_enumerate : PySem.W.nsIn K mainGlobals "enumerate" = some none)
    (z_isinstance : PySem.W.nsIn K mainGlobals "isinstance" = some none)
    (z_range : PySem.W.nsIn K mainGlobals "range" = some none)
    (z_str : PySem.W.nsIn K mainGlobals "str" = some none)
    (z_sum : PySem.W.nsIn K mainGlobals "sum" = some none)
    (a_SumError : PySem.W.nsIn K mainGlobals "SumError" = some (some (.ref 24)))
    (a_BadNumber : PySem.W.nsIn K mainGlobals "BadNumber" = some (some (.ref 45)))
    (a_BadPolynomial : PySem.W.nsIn K mainGlobals "BadPolynomial" = some (some (.ref 65)))
    (a_BadRational : PySem.W.nsIn K mainGlobals "BadRational" = some (some (.ref 85)))
    (a_BadTerm : PySem.W.nsIn K mainGlobals "BadTerm" = some (some (.ref 105)))
    (a_BadProper : PySem.W.nsIn K mainGlobals "BadProper" = some (some (.ref 125)))
    (a_BadRow : PySem.W.nsIn K mainGlobals "BadRow" = some (some (.ref 145)))
    (a_BadEquation : PySem.W.nsIn K mainGlobals "BadEquation" = some (some (.ref 165)))
    (a_BadSystem : PySem.W.nsIn K mainGlobals "BadSystem" = some (some (.ref 185)))
    (a_BadSeries : PySem.W.nsIn K mainGlobals "BadSeries" = some (some (.ref 205)))
    (a_BadClaim : PySem.W.nsIn K mainGlobals "BadClaim" = some (some (.ref 225)))
    (a_BadFactorials : PySem.W.nsIn K mainGlobals "BadFactorials" = some (some (.ref 245)))
    (a_BadValues : PySem.W.nsIn K mainGlobals "BadValues" = some (some (.ref 265)))
    (a_BadText : PySem.W.nsIn K mainGlobals "BadText" = some (some (.ref 285)))
    (a_BadPaper : PySem.W.nsIn K mainGlobals "BadPaper" = some (some (.ref 305)))
    (a_BadDeed : PySem.W.nsIn K mainGlobals "BadDeed" = some (some (.ref 325)))
    (a_TooMany : PySem.W.nsIn K mainGlobals "TooMany" = some (some (.ref 344)))
    (a_NoSuch : PySem.W.nsIn K mainGlobals "NoSuch" = some (some (.ref 365)))
    (F_BadNumber : CF K (inClass (top 2) 0) "BadNumber.__init__" 45 42 "ValueError.__new__" VT true)
    (F_BadPolynomial : CF K (inClass (top 3) 0) "BadPolynomial.__init__" 65 62 "ValueError.__new__" VT true)
    (F_BadRational : CF K (inClass (top 4) 0) "BadRational.__init__" 85 82 "ValueError.__new__" VT true)
    (F_BadTerm : CF K (inClass (top 5) 0) "BadTerm.__init__" 105 102 "ValueError.__new__" VT true)
    (F_BadProper : CF K (inClass (top 6) 0) "BadProper.__init__" 125 122 "ValueError.__new__" VT true)
    (F_BadRow : CF K (inClass (top 7) 0) "BadRow.__init__" 145 142 "ValueError.__new__" VT true)
    (F_BadEquation : CF K (inClass (top 8) 0) "BadEquation.__init__" 165 162 "ValueError.__new__" VT true)
    (F_BadSystem : CF K (inClass (top 9) 0) "BadSystem.__init__" 185 182 "ValueError.__new__" VT true)
    (F_BadSeries : CF K (inClass (top 10) 0) "BadSeries.__init__" 205 202 "ValueError.__new__" VT true)
    (F_BadClaim : CF K (inClass (top 11) 0) "BadClaim.__init__" 225 222 "ValueError.__new__" VT true)
    (F_BadFactorials : CF K (inClass (top 12) 0) "BadFactorials.__init__" 245 242 "ValueError.__new__" VT true)
    (F_BadValues : CF K (inClass (top 13) 0) "BadValues.__init__" 265 262 "ValueError.__new__" VT true)
    (F_BadText : CF K (inClass (top 14) 0) "BadText.__init__" 285 282 "ValueError.__new__" VT true)
    (F_BadPaper : CF K (inClass (top 15) 0) "BadPaper.__init__" 305 302 "ValueError.__new__" VT true)
    (F_BadDeed : CF K (inClass (top 16) 0) "BadDeed.__init__" 325 322 "ValueError.__new__" VT true)
    (F_TooMany : CF K (inClass (top 17) 0) "TooMany.__init__" 344 341 "OverflowError.__new__" OT false)
    (F_NoSuch : CF K (inClass (top 18) 0) "NoSuch.__init__" 365 362 "LookupError.__new__" LT true)
    (D__law_draw : DF K "_law_draw" (top 21))
    (D__law_mixed : DF K "_law_mixed" (top 20))
    (D__law_digit : DF K "_law_digit" (top 22))
    (D__law_kinds : DF K "_law_kinds" (top 23))
    (D__law_valued : DF K "_law_valued" (top 24))
    (D__law_placed : DF K "_law_placed" (top 25))
    (D__law_right : DF K "_law_right" (top 26))
    (D_law : DF K "law" (top 27))
    (hA : chkAll K lst = true)
    (t_BadNumber : chkT K tbl_BadNumber (.ref 45) = true)
    (t_BadPolynomial : chkT K tbl_BadPolynomial (.ref 65) = true)
    (t_BadRational : chkT K tbl_BadRational (.ref 85) = true)
    (t_BadTerm : chkT K tbl_BadTerm (.ref 105) = true)
    (t_BadProper : chkT K tbl_BadProper (.ref 125) = true)
    (t_BadRow : chkT K tbl_BadRow (.ref 145) = true)
    (t_BadEquation : chkT K tbl_BadEquation (.ref 165) = true)
    (t_BadSystem : chkT K tbl_BadSystem (.ref 185) = true)
    (t_BadSeries : chkT K tbl_BadSeries (.ref 205) = true)
    (t_BadClaim : chkT K tbl_BadClaim (.ref 225) = true)
    (t_BadFactorials : chkT K tbl_BadFactorials (.ref 245) = true)
    (t_BadValues : chkT K tbl_BadValues (.ref 265) = true)
    (t_BadText : chkT K tbl_BadText (.ref 285) = true)
    (t_BadPaper : chkT K tbl_BadPaper (.ref 305) = true)
    (t_BadDeed : chkT K tbl_BadDeed (.ref 325) = true)
    (t_TooMany : chkT K tbl_TooMany (.ref 344) = true)
    (t_NoSuch : chkT K tbl_NoSuch (.ref 365) = true)
    (t_SumError : chkT K tbl_SumError (.ref 24) = true)
    (t_ValueError : chkT K tbl_ValueError (.type "ValueError") = true)
    (t_LookupError : chkT K tbl_LookupError (.type "LookupError") = true)
    (t_OverflowError : chkT K tbl_OverflowError (.type "OverflowError") = true)
    (b1 : PySem.W.specialIn K (.ref 24) "__getattribute__" = some (some (.builtin "type.__getattribute__")))
    (b2 : PySem.W.typeIn K (.ref 24) = some (.type "type"))
    (b3 : PySem.W.readsIn K 24 (.type "type") = true)
    (b4 : PySem.W.findCls K (.ref 24) (.type "type") "__init__" = some (.val (.builtin "ValueError.__init__")))
    (b5 : PySem.W.findCls K (.type "LookupError") (.type "type") "__init__" = some (.val (.builtin "LookupError.__init__")))
    (b6 : PySem.W.findCls K (.type "OverflowError") (.type "type") "__init__" = some (.val (.builtin "OverflowError.__init__")))
    : ∃ fd : FuncData, (∀ (s : Shared) (u : Value), BindsTo s fd ⟨[u], []⟩ [("script", u)]) ∧ ∀ base : Heap, K.In base → base.Ns mainGlobals mg → FnG l.prog w K mg base 5 fa fd ["script"] (spF K mg 1 f_law) := by
  have z_LookupError := PySem.W.mg_none_of X G z_LookupError
  have z_OverflowError := PySem.W.mg_none_of X G z_OverflowError
  have z_ValueError := PySem.W.mg_none_of X G z_ValueError
  have z_enumerate := PySem.W.mg_none_of X G z_enumerate
  have z_isinstance := PySem.W.mg_none_of X G z_isinstance
  have z_range := PySem.W.mg_none_of X G z_range
  have z_str := PySem.W.mg_none_of X G z_str
  have z_sum := PySem.W.mg_none_of X G z_sum
  have g_SumError := PySem.W.mg_of X G a_SumError
  have g_BadNumber := PySem.W.mg_of X G a_BadNumber
  have g_BadPolynomial := PySem.W.mg_of X G a_BadPolynomial
  have g_BadRational := PySem.W.mg_of X G a_BadRational
  have g_BadTerm := PySem.W.mg_of X G a_BadTerm
  have g_BadProper := PySem.W.mg_of X G a_BadProper
  have g_BadRow := PySem.W.mg_of X G a_BadRow
  have g_BadEquation := PySem.W.mg_of X G a_BadEquation
  have g_BadSystem := PySem.W.mg_of X G a_BadSystem
  have g_BadSeries := PySem.W.mg_of X G a_BadSeries
  have g_BadClaim := PySem.W.mg_of X G a_BadClaim
  have g_BadFactorials := PySem.W.mg_of X G a_BadFactorials
  have g_BadValues := PySem.W.mg_of X G a_BadValues
  have g_BadText := PySem.W.mg_of X G a_BadText
  have g_BadPaper := PySem.W.mg_of X G a_BadPaper
  have g_BadDeed := PySem.W.mg_of X G a_BadDeed
  have g_TooMany := PySem.W.mg_of X G a_TooMany
  have g_NoSuch := PySem.W.mg_of X G a_NoSuch
  have B : Bs K mg := ⟨g_SumError, b1, b2, b3, b4⟩
  have c_BadNumber : CC K 45 42 "value" := chk_mem hA (by decide +kernel)
  have c_BadPolynomial : CC K 65 62 "place" := chk_mem hA (by decide +kernel)
  have c_BadRational : CC K 85 82 "place" := chk_mem hA (by decide +kernel)
  have c_BadTerm : CC K 105 102 "place" := chk_mem hA (by decide +kernel)
  have c_BadProper : CC K 125 122 "place" := chk_mem hA (by decide +kernel)
  have c_BadRow : CC K 145 142 "place" := chk_mem hA (by decide +kernel)
  have c_BadEquation : CC K 165 162 "place" := chk_mem hA (by decide +kernel)
  have c_BadSystem : CC K 185 182 "place" := chk_mem hA (by decide +kernel)
  have c_BadSeries : CC K 205 202 "place" := chk_mem hA (by decide +kernel)
  have c_BadClaim : CC K 225 222 "place" := chk_mem hA (by decide +kernel)
  have c_BadFactorials : CC K 245 242 "place" := chk_mem hA (by decide +kernel)
  have c_BadValues : CC K 265 262 "place" := chk_mem hA (by decide +kernel)
  have c_BadText : CC K 285 282 "place" := chk_mem hA (by decide +kernel)
  have c_BadPaper : CC K 305 302 "place" := chk_mem hA (by decide +kernel)
  have c_BadDeed : CC K 325 322 "place" := chk_mem hA (by decide +kernel)
  have c_TooMany : CC K 344 341 "most" := chk_mem hA (by decide +kernel)
  have c_NoSuch : CC K 365 362 "value" := chk_mem hA (by decide +kernel)
  have T_is_BadNumber := tbl_ok hA t_BadNumber (by decide +kernel)
  have T_is_BadPolynomial := tbl_ok hA t_BadPolynomial (by decide +kernel)
  have T_is_BadRational := tbl_ok hA t_BadRational (by decide +kernel)
  have T_is_BadTerm := tbl_ok hA t_BadTerm (by decide +kernel)
  have T_is_BadProper := tbl_ok hA t_BadProper (by decide +kernel)
  have T_is_BadRow := tbl_ok hA t_BadRow (by decide +kernel)
  have T_is_BadEquation := tbl_ok hA t_BadEquation (by decide +kernel)
  have T_is_BadSystem := tbl_ok hA t_BadSystem (by decide +kernel)
  have T_is_BadSeries := tbl_ok hA t_BadSeries (by decide +kernel)
  have T_is_BadClaim := tbl_ok hA t_BadClaim (by decide +kernel)
  have T_is_BadFactorials := tbl_ok hA t_BadFactorials (by decide +kernel)
  have T_is_BadValues := tbl_ok hA t_BadValues (by decide +kernel)
  have T_is_BadText := tbl_ok hA t_BadText (by decide +kernel)
  have T_is_BadPaper := tbl_ok hA t_BadPaper (by decide +kernel)
  have T_is_BadDeed := tbl_ok hA t_BadDeed (by decide +kernel)
  have T_is_TooMany := tbl_ok hA t_TooMany (by decide +kernel)
  have T_is_NoSuch := tbl_ok hA t_NoSuch (by decide +kernel)
  have T_is_SumError := tbl_ok hA t_SumError (by decide +kernel)
  have T_is_ValueError := tbl_ok hA t_ValueError (by decide +kernel)
  have T_is_LookupError := tbl_ok hA t_LookupError (by decide +kernel)
  have T_is_OverflowError := tbl_ok hA t_OverflowError (by decide +kernel)
  have T_value : ∀ C ∈ ([45, 365] : List Nat), XfC K C ∧ PySem.W.findIn K (.ref C) "value" = some none := by
    intro C hC
    simp only [List.mem_cons, List.not_mem_nil, or_false] at hC
    rcases hC with rfl | rfl
    · exact ⟨c_BadNumber.xf, c_BadNumber.hno⟩
    · exact ⟨c_NoSuch.xf, c_NoSuch.hno⟩
  have T_place : ∀ C ∈ ([65, 85, 105, 125, 145, 165, 185, 205, 225, 245, 265, 285, 305, 325] : List Nat), XfC K C ∧ PySem.W.findIn K (.ref C) "place" = some none := by
    intro C hC
    simp only [List.mem_cons, List.not_mem_nil, or_false] at hC
    rcases hC with rfl | rfl | rfl | rfl | rfl | rfl | rfl | rfl | rfl | rfl | rfl | rfl | rfl | rfl
    · exact ⟨c_BadPolynomial.xf, c_BadPolynomial.hno⟩
    · exact ⟨c_BadRational.xf, c_BadRational.hno⟩
    · exact ⟨c_BadTerm.xf, c_BadTerm.hno⟩
    · exact ⟨c_BadProper.xf, c_BadProper.hno⟩
    · exact ⟨c_BadRow.xf, c_BadRow.hno⟩
    · exact ⟨c_BadEquation.xf, c_BadEquation.hno⟩
    · exact ⟨c_BadSystem.xf, c_BadSystem.hno⟩
    · exact ⟨c_BadSeries.xf, c_BadSeries.hno⟩
    · exact ⟨c_BadClaim.xf, c_BadClaim.hno⟩
    · exact ⟨c_BadFactorials.xf, c_BadFactorials.hno⟩
    · exact ⟨c_BadValues.xf, c_BadValues.hno⟩
    · exact ⟨c_BadText.xf, c_BadText.hno⟩
    · exact ⟨c_BadPaper.xf, c_BadPaper.hno⟩
    · exact ⟨c_BadDeed.xf, c_BadDeed.hno⟩
  have T_most : ∀ C ∈ ([344] : List Nat), XfC K C ∧ PySem.W.findIn K (.ref C) "most" = some none := by
    intro C hC
    simp only [List.mem_cons, List.not_mem_nil, or_false] at hC
    subst hC
    · exact ⟨c_TooMany.xf, c_TooMany.hno⟩
  have T_str : ∀ C ∈ ([45, 65, 85, 105, 125, 145, 165, 185, 205, 225, 245, 265, 285, 305, 325, 344, 365] : List Nat), StC K C := by
    intro C hC
    simp only [List.mem_cons, List.not_mem_nil, or_false] at hC
    rcases hC with rfl | rfl | rfl | rfl | rfl | rfl | rfl | rfl | rfl | rfl | rfl | rfl | rfl | rfl | rfl | rfl | rfl
    · exact c_BadNumber.st
    · exact c_BadPolynomial.st
    · exact c_BadRational.st
    · exact c_BadTerm.st
    · exact c_BadProper.st
    · exact c_BadRow.st
    · exact c_BadEquation.st
    · exact c_BadSystem.st
    · exact c_BadSeries.st
    · exact c_BadClaim.st
    · exact c_BadFactorials.st
    · exact c_BadValues.st
    · exact c_BadText.st
    · exact c_BadPaper.st
    · exact c_BadDeed.st
    · exact c_TooMany.st
    · exact c_NoSuch.st
  have core : ∀ base : Heap, ∀ (fA : Addr) (fd : FuncData), Fun K "law" "law" (top 27) fA fd → FnG l.prog w K mg base 5 fA fd ["script"] (spF K mg 1 f_law) := by
    intro base
    obtain ⟨e_BadNumber, e0_BadNumber⟩ := x_BadNumber (P := l.prog) (w := w) (base := base) F_BadNumber c_BadNumber B g_BadNumber
    obtain ⟨e_BadPolynomial, e0_BadPolynomial⟩ := x_BadPolynomial (P := l.prog) (w := w) (base := base) F_BadPolynomial c_BadPolynomial B g_BadPolynomial
    obtain ⟨e_BadRational, e0_BadRational⟩ := x_BadRational (P := l.prog) (w := w) (base := base) F_BadRational c_BadRational B g_BadRational
    obtain ⟨e_BadTerm, e0_BadTerm⟩ := x_BadTerm (P := l.prog) (w := w) (base := base) F_BadTerm c_BadTerm B g_BadTerm
    obtain ⟨e_BadProper, e0_BadProper⟩ := x_BadProper (P := l.prog) (w := w) (base := base) F_BadProper c_BadProper B g_BadProper
    obtain ⟨e_BadRow, e0_BadRow⟩ := x_BadRow (P := l.prog) (w := w) (base := base) F_BadRow c_BadRow B g_BadRow
    obtain ⟨e_BadEquation, e0_BadEquation⟩ := x_BadEquation (P := l.prog) (w := w) (base := base) F_BadEquation c_BadEquation B g_BadEquation
    obtain ⟨e_BadSystem, e0_BadSystem⟩ := x_BadSystem (P := l.prog) (w := w) (base := base) F_BadSystem c_BadSystem B g_BadSystem
    obtain ⟨e_BadSeries, e0_BadSeries⟩ := x_BadSeries (P := l.prog) (w := w) (base := base) F_BadSeries c_BadSeries B g_BadSeries
    obtain ⟨e_BadClaim, e0_BadClaim⟩ := x_BadClaim (P := l.prog) (w := w) (base := base) F_BadClaim c_BadClaim B g_BadClaim
    obtain ⟨e_BadFactorials, e0_BadFactorials⟩ := x_BadFactorials (P := l.prog) (w := w) (base := base) F_BadFactorials c_BadFactorials B g_BadFactorials
    obtain ⟨e_BadValues, e0_BadValues⟩ := x_BadValues (P := l.prog) (w := w) (base := base) F_BadValues c_BadValues B g_BadValues
    obtain ⟨e_BadText, e0_BadText⟩ := x_BadText (P := l.prog) (w := w) (base := base) F_BadText c_BadText B g_BadText
    obtain ⟨e_BadPaper, e0_BadPaper⟩ := x_BadPaper (P := l.prog) (w := w) (base := base) F_BadPaper c_BadPaper B g_BadPaper
    obtain ⟨e_BadDeed, e0_BadDeed⟩ := x_BadDeed (P := l.prog) (w := w) (base := base) F_BadDeed c_BadDeed B g_BadDeed
    have e_TooMany := x_TooMany (P := l.prog) (w := w) (base := base) F_TooMany c_TooMany z_OverflowError b6 g_TooMany
    obtain ⟨e_NoSuch, e0_NoSuch⟩ := x_NoSuch (P := l.prog) (w := w) (base := base) F_NoSuch c_NoSuch z_LookupError b5 g_NoSuch
    have l__law_draw : Cal l.prog w K mg base 1 "_law_draw" 2 (spD 2 f__law_draw K) := cal_of (ps := ["cell", "k"]) X G D__law_draw rfl (fun _ _ _ _ _ _ us hl => match us, hl with | [_, _], _ => rfl) (fun fA fd F => draw_ok F sc__law_draw rfl (.inl rfl) (.inl rfl))
    have l__law_mixed : Cal l.prog w K mg base 1 "_law_mixed" 2 (spF K mg 2 f__law_mixed) := cal_of (ps := ["cell", "k"]) X G D__law_mixed rfl (fun _ _ _ _ _ _ us hl => match us, hl with | [_, _], _ => rfl) (fun fA fd F => ok__law_mixed F )
    have l__law_digit : Cal l.prog w K mg base 2 "_law_digit" 2 (spO K mg 1 f__law_digit) := cal_of (ps := ["state", "below"]) X G D__law_digit rfl (fun _ _ _ _ _ _ us hl => match us, hl with | [_, _], _ => rfl) (fun fA fd F => ok__law_digit F (c__law_mixed := l__law_mixed) (z_range := z_range))
    have l__law_kinds : Cal l.prog w K mg base 1 "_law_kinds" 1 (spF K mg 1 f__law_kinds) := cal_of (ps := ["e"]) X G D__law_kinds rfl (fun _ _ _ _ _ _ us hl => match us, hl with | [_], _ => rfl) (fun fA fd F => ok__law_kinds F (T_is_BadClaim := T_is_BadClaim) (T_is_BadDeed := T_is_BadDeed) (T_is_BadEquation := T_is_BadEquation) (T_is_BadFactorials := T_is_BadFactorials) (T_is_BadNumber := T_is_BadNumber) (T_is_BadPaper := T_is_BadPaper) (T_is_BadPolynomial := T_is_BadPolynomial) (T_is_BadProper := T_is_BadProper) (T_is_BadRational := T_is_BadRational) (T_is_BadRow := T_is_BadRow) (T_is_BadSeries := T_is_BadSeries) (T_is_BadSystem := T_is_BadSystem) (T_is_BadTerm := T_is_BadTerm) (T_is_BadText := T_is_BadText) (T_is_BadValues := T_is_BadValues) (T_is_LookupError := T_is_LookupError) (T_is_NoSuch := T_is_NoSuch) (T_is_OverflowError := T_is_OverflowError) (T_is_SumError := T_is_SumError) (T_is_TooMany := T_is_TooMany) (T_is_ValueError := T_is_ValueError) (g_BadClaim := g_BadClaim) (g_BadDeed := g_BadDeed) (g_BadEquation := g_BadEquation) (g_BadFactorials := g_BadFactorials) (g_BadNumber := g_BadNumber) (g_BadPaper := g_BadPaper) (g_BadPolynomial := g_BadPolynomial) (g_BadProper := g_BadProper) (g_BadRational := g_BadRational) (g_BadRow := g_BadRow) (g_BadSeries := g_BadSeries) (g_BadSystem := g_BadSystem) (g_BadTerm := g_BadTerm) (g_BadText := g_BadText) (g_BadValues := g_BadValues) (g_NoSuch := g_NoSuch) (g_SumError := g_SumError) (g_TooMany := g_TooMany) (z_LookupError := z_LookupError) (z_OverflowError := z_OverflowError) (z_ValueError := z_ValueError) (z_isinstance := z_isinstance))
    have l__law_valued : Cal l.prog w K mg base 3 "_law_valued" 1 (spF K mg 1 f__law_valued) := cal_of (ps := ["thing"]) X G D__law_valued rfl (fun _ _ _ _ _ _ us hl => match us, hl with | [_], _ => rfl) (fun fA fd F => ok__law_valued F (e_BadNumber := e_BadNumber))
    have l__law_placed : Cal l.prog w K mg base 3 "_law_placed" 1 (spF K mg 1 f__law_placed) := cal_of (ps := ["thing"]) X G D__law_placed rfl (fun _ _ _ _ _ _ us hl => match us, hl with | [_], _ => rfl) (fun fA fd F => ok__law_placed F (e_BadClaim := e_BadClaim) (e_BadDeed := e_BadDeed) (e_BadEquation := e_BadEquation) (e_BadFactorials := e_BadFactorials) (e_BadPaper := e_BadPaper) (e_BadPolynomial := e_BadPolynomial) (e_BadProper := e_BadProper) (e_BadRational := e_BadRational) (e_BadRow := e_BadRow) (e_BadSeries := e_BadSeries) (e_BadSystem := e_BadSystem) (e_BadTerm := e_BadTerm) (e_BadText := e_BadText) (e_BadValues := e_BadValues))
    have l__law_right : Cal l.prog w K mg base 4 "_law_right" 1 (spF K mg 1 f__law_right) := cal_of (ps := ["thing"]) X G D__law_right rfl (fun _ _ _ _ _ _ us hl => match us, hl with | [_], _ => rfl) (fun fA fd F => ok__law_right F (T_most := T_most) (T_place := T_place) (T_value := T_value) (c__law_kinds := l__law_kinds) (c__law_placed := l__law_placed) (c__law_valued := l__law_valued) (e_NoSuch := e_NoSuch) (e_TooMany := e_TooMany))
    exact fun fA fd F => ok_law F (T_place := T_place) (T_str := T_str) (T_value := T_value) (c__law_digit := l__law_digit) (c__law_draw := l__law_draw) (c__law_placed := l__law_placed) (c__law_right := l__law_right) (c__law_valued := l__law_valued) (e_NoSuch := e_NoSuch) (e_TooMany := e_TooMany) (e0_BadClaim := e0_BadClaim) (e0_BadDeed := e0_BadDeed) (e0_BadEquation := e0_BadEquation) (e0_BadFactorials := e0_BadFactorials) (e0_BadNumber := e0_BadNumber) (e0_BadPaper := e0_BadPaper) (e0_BadPolynomial := e0_BadPolynomial) (e0_BadProper := e0_BadProper) (e0_BadRational := e0_BadRational) (e0_BadRow := e0_BadRow) (e0_BadSeries := e0_BadSeries) (e0_BadSystem := e0_BadSystem) (e0_BadTerm := e0_BadTerm) (e0_BadText := e0_BadText) (e0_BadValues := e0_BadValues) (e0_NoSuch := e0_NoSuch) (z_enumerate := z_enumerate) (z_str := z_str) (z_sum := z_sum)
  obtain ⟨fA, fd, F, a, kV, doc, pm, an, cdv, ct, e⟩ := D_law.ex
  have e2 := hmg.symm.trans (PySem.W.mg_of X G a)
  cases e2
  refine ⟨fd, fun s v => ?_, fun base _ _ => core base _ _ F⟩
  subst e
  exact .of_eq rfl
end K99

open PySem PySem.W PyProof.Rows
set_option maxRecDepth 100000 in
set_option maxHeartbeats 0 in
theorem PySem.Challenge.cw_sumsettled_k99_errors_by_hand_holds : PySem.Challenge.rw_sumsettled_k99_errors_by_hand.Holds := by
  w_on; o_law; k_head; (case hw => w_witness2)
  k_fill
  refine Fx.walkG (k := 5) (x := "script") (F0 := fun _ => K99.f_law) (l := PySem.Challenge.rw_sumsettled_k99_errors_by_hand) rfl (by decide) rfl ⟨rfl, by decide, by decide⟩ (fun w h Y => PySem.W.kIn_of Y) ?F fun _ ns h => K99.law_true ns h
  case F =>
    intro w mg fa h KX G hmg
    refine' K99.all99 KX G hmg ?z_LookupError ?z_OverflowError ?z_ValueError ?z_enumerate ?z_isinstance ?z_range ?z_str ?z_sum ?a_SumError ?a_BadNumber ?a_BadPolynomial ?a_BadRational ?a_BadTerm ?a_BadProper ?a_BadRow ?a_BadEquation ?a_BadSystem ?a_BadSeries ?a_BadClaim ?a_BadFactorials ?a_BadValues ?a_BadText ?a_BadPaper ?a_BadDeed ?a_TooMany ?a_NoSuch ?F_BadNumber ?F_BadPolynomial ?F_BadRational ?F_BadTerm ?F_BadProper ?F_BadRow ?F_BadEquation ?F_BadSystem ?F_BadSeries ?F_BadClaim ?F_BadFactorials ?F_BadValues ?F_BadText ?F_BadPaper ?F_BadDeed ?F_TooMany ?F_NoSuch ?D__law_draw ?D__law_mixed ?D__law_digit ?D__law_kinds ?D__law_valued ?D__law_placed ?D__law_right ?D_law ?hA ?t_BadNumber ?t_BadPolynomial ?t_BadRational ?t_BadTerm ?t_BadProper ?t_BadRow ?t_BadEquation ?t_BadSystem ?t_BadSeries ?t_BadClaim ?t_BadFactorials ?t_BadValues ?t_BadText ?t_BadPaper ?t_BadDeed ?t_TooMany ?t_NoSuch ?t_SumError ?t_ValueError ?t_LookupError ?t_OverflowError ?b1 ?b2 ?b3 ?b4 ?b5 ?b6
    (case z_LookupError => k_is)
    (case z_OverflowError => k_is)
    (case z_ValueError => k_is)
    (case z_enumerate => k_is)
    (case z_isinstance => k_is)
    (case z_range => k_is)
    (case z_str => k_is)
    (case z_sum => k_is)
    (case a_SumError => k_is)
    (case a_BadNumber => k_is)
    (case a_BadPolynomial => k_is)
    (case a_BadRational => k_is)
    (case a_BadTerm => k_is)
    (case a_BadProper => k_is)
    (case a_BadRow => k_is)
    (case a_BadEquation => k_is)
    (case a_BadSystem => k_is)
    (case a_BadSeries => k_is)
    (case a_BadClaim => k_is)
    (case a_BadFactorials => k_is)
    (case a_BadValues => k_is)
    (case a_BadText => k_is)
    (case a_BadPaper => k_is)
    (case a_BadDeed => k_is)
    (case a_TooMany => k_is)
    (case a_NoSuch => k_is)
    (case F_BadNumber => (refine' Fx.cf_mk ?a ?r ?b ?c ?d ?e; (case a => k_is); (case r => rfl); (case b => k_is); (case c => k_is); (case d => k_is); (case e => rfl)))
    (case F_BadPolynomial => (refine' Fx.cf_mk ?a ?r ?b ?c ?d ?e; (case a => k_is); (case r => rfl); (case b => k_is); (case c => k_is); (case d => k_is); (case e => rfl)))
    (case F_BadRational => (refine' Fx.cf_mk ?a ?r ?b ?c ?d ?e; (case a => k_is); (case r => rfl); (case b => k_is); (case c => k_is); (case d => k_is); (case e => rfl)))
    (case F_BadTerm => (refine' Fx.cf_mk ?a ?r ?b ?c ?d ?e; (case a => k_is); (case r => rfl); (case b => k_is); (case c => k_is); (case d => k_is); (case e => rfl)))
    (case F_BadProper => (refine' Fx.cf_mk ?a ?r ?b ?c ?d ?e; (case a => k_is); (case r => rfl); (case b => k_is); (case c => k_is); (case d => k_is); (case e => rfl)))
    (case F_BadRow => (refine' Fx.cf_mk ?a ?r ?b ?c ?d ?e; (case a => k_is); (case r => rfl); (case b => k_is); (case c => k_is); (case d => k_is); (case e => rfl)))
    (case F_BadEquation => (refine' Fx.cf_mk ?a ?r ?b ?c ?d ?e; (case a => k_is); (case r => rfl); (case b => k_is); (case c => k_is); (case d => k_is); (case e => rfl)))
    (case F_BadSystem => (refine' Fx.cf_mk ?a ?r ?b ?c ?d ?e; (case a => k_is); (case r => rfl); (case b => k_is); (case c => k_is); (case d => k_is); (case e => rfl)))
    (case F_BadSeries => (refine' Fx.cf_mk ?a ?r ?b ?c ?d ?e; (case a => k_is); (case r => rfl); (case b => k_is); (case c => k_is); (case d => k_is); (case e => rfl)))
    (case F_BadClaim => (refine' Fx.cf_mk ?a ?r ?b ?c ?d ?e; (case a => k_is); (case r => rfl); (case b => k_is); (case c => k_is); (case d => k_is); (case e => rfl)))
    (case F_BadFactorials => (refine' Fx.cf_mk ?a ?r ?b ?c ?d ?e; (case a => k_is); (case r => rfl); (case b => k_is); (case c => k_is); (case d => k_is); (case e => rfl)))
    (case F_BadValues => (refine' Fx.cf_mk ?a ?r ?b ?c ?d ?e; (case a => k_is); (case r => rfl); (case b => k_is); (case c => k_is); (case d => k_is); (case e => rfl)))
    (case F_BadText => (refine' Fx.cf_mk ?a ?r ?b ?c ?d ?e; (case a => k_is); (case r => rfl); (case b => k_is); (case c => k_is); (case d => k_is); (case e => rfl)))
    (case F_BadPaper => (refine' Fx.cf_mk ?a ?r ?b ?c ?d ?e; (case a => k_is); (case r => rfl); (case b => k_is); (case c => k_is); (case d => k_is); (case e => rfl)))
    (case F_BadDeed => (refine' Fx.cf_mk ?a ?r ?b ?c ?d ?e; (case a => k_is); (case r => rfl); (case b => k_is); (case c => k_is); (case d => k_is); (case e => rfl)))
    (case F_TooMany => (refine' Fx.cf_mkN ?a ?r ?b ?c; (case a => k_is); (case r => rfl); (case b => k_is); (case c => k_is)))
    (case F_NoSuch => (refine' Fx.cf_mk ?a ?r ?b ?c ?d ?e; (case a => k_is); (case r => rfl); (case b => k_is); (case c => k_is); (case d => k_is); (case e => rfl)))
    (case D__law_draw => (refine' Fx.df_mk ?a ?b ?c ?d; (case a => k_is); (case b => k_is); (case c => k_is); (case d => k_is)))
    (case D__law_mixed => (refine' Fx.df_mk ?a ?b ?c ?d; (case a => k_is); (case b => k_is); (case c => k_is); (case d => k_is)))
    (case D__law_digit => (refine' Fx.df_mk ?a ?b ?c ?d; (case a => k_is); (case b => k_is); (case c => k_is); (case d => k_is)))
    (case D__law_kinds => (refine' Fx.df_mk ?a ?b ?c ?d; (case a => k_is); (case b => k_is); (case c => k_is); (case d => k_is)))
    (case D__law_valued => (refine' Fx.df_mk ?a ?b ?c ?d; (case a => k_is); (case b => k_is); (case c => k_is); (case d => k_is)))
    (case D__law_placed => (refine' Fx.df_mk ?a ?b ?c ?d; (case a => k_is); (case b => k_is); (case c => k_is); (case d => k_is)))
    (case D__law_right => (refine' Fx.df_mk ?a ?b ?c ?d; (case a => k_is); (case b => k_is); (case c => k_is); (case d => k_is)))
    (case D_law => (refine' Fx.df_mk ?a ?b ?c ?d; (case a => k_is); (case b => k_is); (case c => k_is); (case d => k_is)))
    (case hA => kernel_rfl)
    (case t_BadNumber => kernel_rfl)
    (case t_BadPolynomial => kernel_rfl)
    (case t_BadRational => kernel_rfl)
    (case t_BadTerm => kernel_rfl)
    (case t_BadProper => kernel_rfl)
    (case t_BadRow => kernel_rfl)
    (case t_BadEquation => kernel_rfl)
    (case t_BadSystem => kernel_rfl)
    (case t_BadSeries => kernel_rfl)
    (case t_BadClaim => kernel_rfl)
    (case t_BadFactorials => kernel_rfl)
    (case t_BadValues => kernel_rfl)
    (case t_BadText => kernel_rfl)
    (case t_BadPaper => kernel_rfl)
    (case t_BadDeed => kernel_rfl)
    (case t_TooMany => kernel_rfl)
    (case t_NoSuch => kernel_rfl)
    (case t_SumError => kernel_rfl)
    (case t_ValueError => kernel_rfl)
    (case t_LookupError => kernel_rfl)
    (case t_OverflowError => kernel_rfl)
    (case b1 => k_is)
    (case b2 => k_is)
    (case b3 => k_is)
    (case b4 => k_is)
    (case b5 => k_is)
    (case b6 => k_is)

