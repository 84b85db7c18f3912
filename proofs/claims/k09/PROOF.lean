import PyProof.Rows.All
import Wide.All
import OpenK.AllK
import Wide.FinOn
import HandS.ForMost
import HandS.ForExc
import HandS.Nested
import HandS.EndTab
import HandS.TupMul
import HandS.IsInst
import HandS.TupAny
import HandS.Wide
import HandS.ExcInit
import HandS.Zip
import HandS.WordsExc
import HandS.Deep
import HandS.Defaults
import PyProof.InstNe
import HandS.SlotsOwn
import HandS.OwnEq
import HandS.Style
import KE.GoesMore
import KE.GoesEnum
import HandS.Iter
import KE.KEqSeq
import HandS.SortInts
import HandS.Star
import HandS.Strs
import KE.KIndexOf
import KE.SortData
import KE.DataMinMax
import HandS.Dict
import HandS.Conv
import HandS.HeadHook4
import HandS.Head0
import HandS.Head1
import HandS.Head2
import HandS.HeadEnd
import HandS.NestedK
import KE.KStateDown
import HandS.TryMany
import HandS.RaiseMore
import HandS.ExcIs
import HandS.SuiteRaise
import KE.DataFind
import HandS.SetFor
import PySem.Challenge.RW_bringsless_k09_whole_least_lots_and_thei
section
set_option Elab.async false
set_option linter.all false
set_option maxRecDepth 100000
set_option maxHeartbeats 1000000
set_option autoImplicit false
/-! DA: data trees, predicate transformers, what a frame's slots denote, the lifting of readings. -/
namespace DL
open PySem PySem.Spec L2

/-- data: trees; c, i: numbers of classes, of lambdas -/
inductive D where
  | non | bl (b : Bool) | int (i : Int) | str (x : Str)
  | tup (xs : List D) | lst (xs : List D) | dic (ks vs : List D)
  | ins (c : Nat) (fs : List D)
  | clo (i : Nat) (cs : List D)
  | hnd
  | scr (ns : List Int)
structure DX where
  c : Nat
  fs : List D

/-! ### predicate transformers with two ends -/
abbrev W (α : Type) := (α → Prop) → (DX → Prop) → Prop
section
variable {α β γ : Type}
def ret (a : α) : W α := fun Q _ => Q a
def bnd (m : W α) (f : α → W β) : W β := fun Q E => m (fun a => f a Q E) E
def stk : W α := fun _ _ => False
def thr (x : DX) : W α := fun _ E => E x
def anyW (P : α → Prop) : W α := fun Q _ => ∀ a, P a → Q a
def nox (m : W α) : W α := fun Q _ => m Q (fun _ => False)
def tryW (m : W α) (h : DX → W α) : W α := fun Q E => m Q (fun x => h x Q E)
theorem ret_bnd (a : α) (f : α → W β) : bnd (ret a) f = f a := rfl
theorem bnd_ret (m : W α) : bnd m ret = m := rfl
theorem bnd_assoc (m : W α) (f : α → W β) (g : β → W γ) : bnd (bnd m f) g = bnd m fun a => bnd (f a) g := rfl
theorem nox_ret (a : α) : nox (ret a) = ret a := rfl
end

/-! ### global facts -/
/-- a lambda of the text: who makes it (its qualified name's beginning), its parameters' names, the names that it captures -/
structure LF where
  qual : Str
  params : Arguments
  body : Expr
  scope : Scope
  ps : List Str
  fr : List Str
structure Gx where
  K : PySem.W.Frag
  cls : Nat → Addr
  flds : Nat → List Str
  xcls : Nat → Addr
  xfld : Nat → Option Str
  lam : Nat → LF
  cloW : Nat → List D → List D → W D
  T : List NdefX.NTab

def LamO (f : Addr) (L : LF) (cl : List (Str × Addr)) (c : Addr) : HO := .ext fun h => ∃ pm ctv : Value, h.get? f = some (PySem.W.kla_obj "<lambda>" L.qual L.params L.body L.scope cl pm c ctv)
def PinO (a : Addr) (o : Obj) : HO := .ext fun h => h.get? a = some o
/-- the cells that a function captured, pinned: cell i holds the value i -/
def CellsP (H : Hp) (cl : List (Str × Addr)) : List Str → List V → Prop
  | [], [] => True
  | y :: ys, v :: vs => (∃ c o u, cl.lookup y = some c ∧ H c = some (PinO c o) ∧ o.data = .cell (some u) ∧ RelV v u) ∧ CellsP H cl ys vs
  | _, _ => False
/-- at a: a function made of the lambda i, its captured names hold vs -/
def CloAt (G : Gx) (H : Hp) (i : Nat) (vs : List V) (a : Addr) : Prop :=
  ∃ (cl : List (Str × Addr)) (c : Addr), H a = some (LamO a (G.lam i) cl c) ∧ H c = some (LamX.CodeO c (G.lam i).qual) ∧ CellsP H cl (G.lam i).fr vs ∧
    (∀ y d, cl.lookup y = some d → y ∈ (G.lam i).fr) ∧ (∀ x y d, cl.lookup x = some d → cl.lookup y = some d → x = y)
/-- the hand: a list whose first item is a list of ints from 0 on, then the next place, what is left, the mix, how many -/
def HndO (a c : Addr) (n : Nat) : HO := .ext fun h => ∃ (i : Nat) (g m k : Int) (t1 t2 t3 t4 : Tok) (q : Nat), h.get? a = some { cls := .type "list", data := .seq #[.ref c, .int i t1, .int g t2, .int m t3, .int k t4] q } ∧ i ≤ n ∧ 0 ≤ g ∧ 0 ≤ m ∧ 0 ≤ k ∧ m < 2147483648
def HndAt (H : Hp) (a : Addr) : Prop := ∃ (c : Addr) (ns : List Int), H a = some (HndO a c ns.length) ∧ H c = some (.lst (ns.map V.int)) ∧ ∀ n ∈ ns, 0 ≤ n
/-! ### what a value denotes -/
def dKey : D → Option Key
  | .int i => some (.inl i)
  | .str x => some (.inr x)
  | _ => none
def dKeys : List D → Option (List Key)
  | [] => some []
  | d :: ds => match dKey d, dKeys ds with
    | some k, some ks => some (k :: ks)
    | _, _ => none
def dKeyT : D → Option (List Key)
  | .tup ds => dKeys ds
  | _ => none
def mapO {α β : Type} (f : α → Option β) : List α → Option (List β)
  | [] => some []
  | d :: ds => match f d, mapO f ds with
    | some k, some ks => some (k :: ks)
    | _, _ => none
mutual
def Den (G : Gx) (H : Hp) : D → V → Prop
  | .non, v => v = .non
  | .bl b, v => v = .bl b
  | .int i, v => v = .int i
  | .str x, v => v = .str x
  | .tup xs, v => ∃ a vs, v = .ref a ∧ SqT G.K H a vs ∧ Dens G H xs vs
  | .lst xs, v => ∃ a vs, v = .ref a ∧ H a = some (.lst vs) ∧ Dens G H xs vs
  | .dic ks us, v => ∃ a vs, v = .ref a ∧ Dens G H us vs ∧ ((∃ kk o, mapO dKey ks = some kk ∧ H a = some (.frz o (.dK (kk.zip vs))) ∧ kk.length = vs.length) ∨ (∃ kk o, mapO dKeyT ks = some kk ∧ H a = some (.frz o (.dT (kk.zip vs))) ∧ kk.length = vs.length ∧ ks ≠ []))
  | .ins c fs, v => ∃ a dx vs, v = .ref a ∧ H a = some (.ins (G.cls c) dx ((G.flds c).zip vs)) ∧ (G.flds c).length = vs.length ∧ Dens G H fs vs
  | .clo i cs, v => ∃ a vs, v = .ref a ∧ CloAt G H i vs a ∧ Dens G H cs vs
  | .hnd, v => ∃ a, v = .ref a ∧ HndAt H a
  | .scr ns, v => ∃ a, v = .ref a ∧ SqL G.K H a (ns.map V.int)
def Dens (G : Gx) (H : Hp) : List D → List V → Prop
  | [], vs => vs = []
  | d :: ds, vs => ∃ v ws, vs = v :: ws ∧ Den G H d v ∧ Dens G H ds ws
end
section
variable {G : Gx} {H H' : Hp}
theorem SqT.same {K : PySem.W.Frag} {a : Addr} {xs : List V} (e : Same H H') (h : SqT K H a xs) : SqT K H' a xs := by
  rcases h with (h | ⟨o, h⟩) | h
  · exact .inl (.inl (e _ _ h))
  · exact .inl (.inr ⟨o, e _ _ h⟩)
  · exact .inr h
theorem SqL.same {K : PySem.W.Frag} {a : Addr} {xs : List V} (e : Same H H') (h : SqL K H a xs) : SqL K H' a xs := by
  rcases h with (h | ⟨o, h⟩) | h
  · exact .inl (.inl (e _ _ h))
  · exact .inl (.inr ⟨o, e _ _ h⟩)
  · exact .inr h
theorem CellsP.same (e : Same H H') {cl : List (Str × Addr)} : ∀ {ys : List Str} {vs : List V}, CellsP H cl ys vs → CellsP H' cl ys vs
  | [], [], _ => trivial
  | [], _ :: _, h => h.elim
  | _ :: _, [], h => h.elim
  | y :: ys, v :: vs, ⟨⟨c, o, u, h1, h2, h3, h4⟩, h⟩ => ⟨⟨c, o, u, h1, e _ _ h2, h3, h4⟩, CellsP.same e h⟩
mutual
theorem Den.same (e : Same H H') : ∀ {d : D} {v : V}, Den G H d v → Den G H' d v
  | .non, _, h => by simpa only [Den] using h
  | .bl _, _, h => by simpa only [Den] using h
  | .int _, _, h => by simpa only [Den] using h
  | .str _, _, h => by simpa only [Den] using h
  | .tup xs, v, h => by
    simp only [Den] at h ⊢
    obtain ⟨a, vs, h1, h2, h3⟩ := h
    exact ⟨a, vs, h1, SqT.same e h2, Dens.same e h3⟩
  | .lst xs, v, h => by
    simp only [Den] at h ⊢
    obtain ⟨a, vs, h1, h2, h3⟩ := h
    exact ⟨a, vs, h1, e _ _ h2, Dens.same e h3⟩
  | .dic ks us, v, h => by
    simp only [Den] at h ⊢
    obtain ⟨a, vs, h1, h2, h3⟩ := h
    refine ⟨a, vs, h1, Dens.same e h2, ?_⟩
    rcases h3 with ⟨kk, o, k1, k2, k3⟩ | ⟨kk, o, k1, k2, k3⟩
    · exact .inl ⟨kk, o, k1, e _ _ k2, k3⟩
    · exact .inr ⟨kk, o, k1, e _ _ k2, k3⟩
  | .ins c fs, v, h => by
    simp only [Den] at h ⊢
    obtain ⟨a, dx, vs, h1, h2, h3, h4⟩ := h
    exact ⟨a, dx, vs, h1, e _ _ h2, h3, Dens.same e h4⟩
  | .clo i cs, v, h => by
    simp only [Den] at h ⊢
    obtain ⟨a, vs, h1, ⟨cl, c, k1, k2, k3, k4, k5⟩, h3⟩ := h
    exact ⟨a, vs, h1, ⟨cl, c, e _ _ k1, e _ _ k2, k3.same e, k4, k5⟩, Dens.same e h3⟩
  | .hnd, v, h => by
    simp only [Den] at h ⊢
    obtain ⟨a, h1, c, ns, k1, k2, k3⟩ := h
    exact ⟨a, h1, c, ns, e _ _ k1, e _ _ k2, k3⟩
  | .scr ns, v, h => by
    simp only [Den] at h ⊢
    obtain ⟨a, h1, h2⟩ := h
    exact ⟨a, h1, SqL.same e h2⟩
theorem Dens.same (e : Same H H') : ∀ {ds : List D} {vs : List V}, Dens G H ds vs → Dens G H' ds vs
  | [], _, h => by simpa only [Dens] using h
  | d :: ds, vs, h => by
    simp only [Dens] at h ⊢
    obtain ⟨v, ws, h1, h2, h3⟩ := h
    exact ⟨v, ws, h1, Den.same e h2, Dens.same e h3⟩
end
theorem Dens.length : ∀ {ds : List D} {vs : List V}, Dens G H ds vs → ds.length = vs.length
  | [], _, h => by simp only [Dens] at h; subst h; rfl
  | d :: ds, vs, h => by
    simp only [Dens] at h
    obtain ⟨v, ws, h1, h2, h3⟩ := h
    subst h1
    simp [Dens.length h3]
theorem Dens.get : ∀ {ds : List D} {vs : List V} {i : Nat} {d : D}, Dens G H ds vs → ds[i]? = some d → ∃ v, vs[i]? = some v ∧ Den G H d v
  | [], _, _, _, h, e => by simp at e
  | x :: ds, vs, 0, d, h, e => by
    simp only [Dens] at h
    obtain ⟨v, ws, h1, h2, h3⟩ := h
    subst h1
    simp at e
    subst e
    exact ⟨v, rfl, h2⟩
  | x :: ds, vs, i + 1, d, h, e => by
    simp only [Dens] at h
    obtain ⟨v, ws, h1, h2, h3⟩ := h
    subst h1
    obtain ⟨u, h4, h5⟩ := Dens.get h3 (by simpa using e)
    exact ⟨u, by simpa using h4, h5⟩
theorem Dens.cons {d : D} {ds : List D} {v : V} {vs : List V} (h : Den G H d v) (t : Dens G H ds vs) : Dens G H (d :: ds) (v :: vs) := by
  simp only [Dens]
  exact ⟨v, vs, rfl, h, t⟩
theorem Dens.nil : Dens G H [] [] := by simp only [Dens]
theorem Dens.uncons {d : D} {ds : List D} {vs : List V} (h : Dens G H (d :: ds) vs) : ∃ v ws, vs = v :: ws ∧ Den G H d v ∧ Dens G H ds ws := by simpa only [Dens] using h
theorem Dens.unnil {vs : List V} (h : Dens G H [] vs) : vs = [] := by simpa only [Dens] using h
theorem Dens.append : ∀ {ds es : List D} {vs us : List V}, Dens G H ds vs → Dens G H es us → Dens G H (ds ++ es) (vs ++ us)
  | [], es, vs, us, h, t => by rw [h.unnil]; exact t
  | d :: ds, es, vs, us, h, t => by
    obtain ⟨v, ws, h1, h2, h3⟩ := h.uncons
    subst h1
    exact .cons h2 (Dens.append h3 t)
theorem Dens.take : ∀ {ds : List D} {vs : List V} (n : Nat), Dens G H ds vs → Dens G H (ds.take n) (vs.take n)
  | _, _, 0, _ => by simpa using Dens.nil
  | [], vs, n + 1, h => by rw [h.unnil]; simpa using Dens.nil
  | d :: ds, vs, n + 1, h => by
    obtain ⟨v, ws, h1, h2, h3⟩ := h.uncons
    subst h1
    exact .cons h2 (Dens.take n h3)
theorem Dens.drop : ∀ {ds : List D} {vs : List V} (n : Nat), Dens G H ds vs → Dens G H (ds.drop n) (vs.drop n)
  | _, _, 0, h => by simpa using h
  | [], vs, n + 1, h => by rw [h.unnil]; simpa using Dens.nil
  | d :: ds, vs, n + 1, h => by
    obtain ⟨v, ws, h1, h2, h3⟩ := h.uncons
    subst h1
    exact Dens.drop n h3
theorem Dens.set {d : D} {v : V} (hd : Den G H d v) : ∀ {ds : List D} {vs : List V} (n : Nat), Dens G H ds vs → Dens G H (ds.set n d) (vs.set n v)
  | [], vs, n, h => by rw [h.unnil]; simpa using Dens.nil
  | x :: ds, vs, 0, h => by
    obtain ⟨u, ws, h1, h2, h3⟩ := h.uncons
    subst h1
    exact .cons hd h3
  | x :: ds, vs, n + 1, h => by
    obtain ⟨u, ws, h1, h2, h3⟩ := h.uncons
    subst h1
    exact .cons h2 (Dens.set hd n h3)
theorem Dens.ints : ∀ {ns : List Int} {vs : List V}, Dens G H (ns.map D.int) vs → vs = ns.map V.int
  | [], _, h => h.unnil
  | n :: ns, vs, h => by
    obtain ⟨v, ws, h1, h2, h3⟩ := Dens.uncons (ds := ns.map D.int) h
    rw [h1, Dens.ints h3]
    have e : v = .int n := by simpa only [Den] using h2
    rw [e]
    rfl
theorem Dens.of_ints : ∀ (ns : List Int), Dens G H (ns.map D.int) (ns.map V.int)
  | [] => .nil
  | n :: ns => .cons (by simp only [Den]) (Dens.of_ints ns)
end

/-! ### from one state to a later one -/
def NoT (H : Hp) : Prop := ∀ b ps, H b ≠ some (.tbl ps)
theorem NoT.upd {H : Hp} (h : NoT H) {a : Addr} {o : HO} (n : ∀ ps, o ≠ .tbl ps) : NoT (upd H a o) := fun b ps e => by
  by_cases z : b = a
  · subst z; rw [upd_same] at e; cases e; exact n ps rfl
  · rw [upd_ne z] at e; exact h b ps e
structure Ext (T : List NdefX.NTab) (H0 H H0' H' : Hp) : Prop where
  n : LamX.ExtN H H'
  nn : ∀ b, H' b = none → H b = none
  z : Same H0 H0'
  zz : Same H0' H'
  fr : ∀ a o, H0' a = some o → H0 a = some o ∨ H a = none
  tabs : NdefX.TabsN T H'
  nt : NoT H0'
theorem Ext.trans {T : List NdefX.NTab} {H0 H H1 H2 H3 H4 : Hp} (a : Ext T H0 H H1 H2) (b : Ext T H1 H2 H3 H4) : Ext T H0 H H3 H4 := by
  refine ⟨a.n.trans b.n, fun c e => a.nn c (b.nn c e), a.z.trans b.z, b.zz, fun c o e => ?_, b.tabs, b.nt⟩
  rcases b.fr c o e with h | h
  · exact a.fr c o h
  · exact .inr (a.nn c h)
theorem Ext.refl {T : List NdefX.NTab} {H0 H : Hp} (z : Same H0 H) (t : NdefX.TabsN T H) (n : NoT H0) : Ext T H0 H H0 H := ⟨.refl H, fun _ h => h, .refl _, z, fun _ _ h => .inl h, t, n⟩

/-! ### slots -/
inductive OD where
  | lst (oa : Option Addr) (ds : List D) | dic (ks vs : List D) | dicT (ks vs : List D) | dicF (ks vs : List D) | ins (a : Addr) (c : Nat) (fs : List D) | hnd (a c : Addr) (ns xs : List Int)
inductive Sl where
  | un | d (x : D) | own (o : OD) | exc (x : DX) (a : Addr)
abbrev Env := List Sl
def OwnAt (G : Gx) (H0 H : Hp) (a : Addr) : OD → Prop
  | .lst oa ds => (∀ b, oa = some b → b = a) ∧ ∃ vs, H a = some (.lst vs) ∧ Dens G H0 ds vs
  | .dic ks us => ∃ vs, Dens G H0 us vs ∧ ∃ kk, mapO dKey ks = some kk ∧ H a = some (.dK (kk.zip vs)) ∧ kk.length = vs.length
  | .dicT ks us => ∃ vs, Dens G H0 us vs ∧ ∃ kk, mapO dKeyT ks = some kk ∧ H a = some (.dT (kk.zip vs)) ∧ kk.length = vs.length
  | .dicF ks us => ∃ vs, Dens G H0 us vs ∧ ((∃ kk o, mapO dKey ks = some kk ∧ H a = some (.frz o (.dK (kk.zip vs))) ∧ kk.length = vs.length) ∨ (∃ kk o, mapO dKeyT ks = some kk ∧ H a = some (.frz o (.dT (kk.zip vs))) ∧ kk.length = vs.length ∧ ks ≠ []))
  | .ins a' c fs => a' = a ∧ ∃ dx vs, H a = some (.ins (G.cls c) dx (((G.flds c).take vs.length).zip vs)) ∧ vs.length ≤ (G.flds c).length ∧ Dens G H0 fs vs
  | .hnd a' c ns xs => a' = a ∧ H a = some (.lst (.ref c :: xs.map V.int)) ∧ H0 c = some (.lst (ns.map V.int))
def SlotOk (G : Gx) (He H0 H : Hp) : Sl → Option V → Prop
  | .un, _ => True
  | .d x, v => ∃ u, v = some u ∧ Den G H0 x u
  | .own o, v => ∃ a, v = some (.ref a) ∧ He a = none ∧ H0 a = none ∧ OwnAt G H0 H a o
  | .exc _ a, v => v = some (.ref a)
/-- an exception of the data x: its class, its own dict -/
def DenX (G : Gx) (H : Hp) (x : DX) (cls : Value) (d : Option Addr) : Prop :=
  cls = .ref (G.xcls x.c) ∧ match G.xfld x.c with
    | none => d = none ∧ x.fs = []
    | some f => ∃ (dd : Addr) (v : V) (y : D), d = some dd ∧ H dd = some (.xd [(f, v)]) ∧ x.fs = [y] ∧ Den G H y v
structure Bx where
  G : Gx
  He : Hp
  Z : Hp
  E : DX → Prop
  xk : XK
/-- what leaves as an exception is what is wanted -/
def BxOk (B : Bx) : Prop := ∀ x cls d H0' H', Ext B.G.T B.Z B.He H0' H' → DenX B.G H0' x cls d → B.E x → B.xk cls d H'
abbrev Bx.no (B : Bx) : Bx := { B with E := fun _ => False, xk := fun _ _ _ => False }
theorem Bx.no_ok (B : Bx) : BxOk B.no := fun _ _ _ _ _ _ _ z => z.elim
structure Ok (B : Bx) (ρ : Env) (σ : St) (H0 H : Hp) : Prop where
  ext : Ext B.G.T B.Z B.He H0 H
  len : σ.length = ρ.length
  env : ∀ (i : Nat) (s : Sl), ρ[i]? = some s → ∃ v, σ[i]? = some v ∧ SlotOk B.G B.He H0 H s v
  apart : ∀ (i j : Nat) (o p : OD) (a : Addr), ρ[i]? = some (.own o) → ρ[j]? = some (.own p) → σ[i]? = some (some (.ref a)) → σ[j]? = some (some (.ref a)) → i = j
section
variable {B : Bx} {ρ : Env} {σ : St} {H0 H H0' H' : Hp}
theorem notTbl {o : HO} (h : ∀ ps, o ≠ .tbl ps) {H H' : Hp} {a : Addr} (e : LamX.ExtN H H') (q : H a = some o) : H' a = some o := e a o q h
theorem OwnAt.ext {T : List NdefX.NTab} {G : Gx} {a : Addr} (x : Ext T H0 H H0' H') : ∀ {o : OD}, OwnAt G H0 H a o → OwnAt G H0' H' a o
  | .lst oa ds, ⟨h0, vs, h1, h2⟩ => ⟨h0, vs, x.n a _ h1 (fun _ z => by cases z), h2.same x.z⟩
  | .dic ks us, ⟨vs, h1, kk, k1, k2, k3⟩ => ⟨vs, h1.same x.z, kk, k1, x.n a _ k2 (fun _ z => by cases z), k3⟩
  | .dicT ks us, ⟨vs, h1, kk, k1, k2, k3⟩ => ⟨vs, h1.same x.z, kk, k1, x.n a _ k2 (fun _ z => by cases z), k3⟩
  | .dicF ks us, ⟨vs, h1, h2⟩ => ⟨vs, h1.same x.z, h2.elim (fun ⟨kk, o, k1, k2, k3⟩ => .inl ⟨kk, o, k1, x.n a _ k2 (fun _ z => by cases z), k3⟩) fun ⟨kk, o, k1, k2, k3⟩ => .inr ⟨kk, o, k1, x.n a _ k2 (fun _ z => by cases z), k3⟩⟩
  | .ins a' c fs, ⟨h0, dx, vs, h1, h2, h3⟩ => ⟨h0, dx, vs, x.n a _ h1 (fun _ z => by cases z), h2, h3.same x.z⟩
  | .hnd a' c ns xs, ⟨h0, h1, h2⟩ => ⟨h0, x.n a _ h1 (fun _ z => by cases z), x.z _ _ h2⟩
theorem OwnAt.there {G : Gx} {a : Addr} : ∀ {o : OD}, OwnAt G H0 H a o → ∃ u, H a = some u
  | .lst oa ds, ⟨h0, vs, h1, h2⟩ => ⟨_, h1⟩
  | .dic ks us, ⟨vs, h1, kk, k1, k2, k3⟩ => ⟨_, k2⟩
  | .dicT ks us, ⟨vs, h1, kk, k1, k2, k3⟩ => ⟨_, k2⟩
  | .dicF ks us, ⟨vs, h1, h2⟩ => h2.elim (fun ⟨kk, o, k1, k2, k3⟩ => ⟨_, k2⟩) fun ⟨kk, o, k1, k2, k3⟩ => ⟨_, k2⟩
  | .ins a' c fs, ⟨h0, dx, vs, h1, h2⟩ => ⟨_, h1⟩
  | .hnd a' c ns xs, ⟨h0, h1, h2⟩ => ⟨_, h1⟩
theorem SlotOk.ext {T : List NdefX.NTab} {G : Gx} {He : Hp} (x : Ext T H0 H H0' H') : ∀ {s : Sl} {v : Option V}, SlotOk G He H0 H s v → SlotOk G He H0' H' s v
  | .un, _, _ => trivial
  | .d d, v, ⟨u, h1, h2⟩ => ⟨u, h1, h2.same x.z⟩
  | .own o, v, ⟨a, h1, h2, h3, h4⟩ => by
    refine ⟨a, h1, h2, ?_, h4.ext x⟩
    cases q : H0' a with
    | none => rfl
    | some u =>
      rcases x.fr a u q with r | r
      · rw [h3] at r; cases r
      · obtain ⟨u', e⟩ := h4.there
        rw [e] at r; cases r
  | .exc _ _, _, h => h
theorem Ok.later (k : Ok B ρ σ H0 H) (x : Ext B.G.T H0 H H0' H') : Ok B ρ σ H0' H' :=
  ⟨k.ext.trans x, k.len, fun i s e => let ⟨v, h1, h2⟩ := k.env i s e; ⟨v, h1, h2.ext x⟩, k.apart⟩
theorem Ok.refl (k : Ok B ρ σ H0 H) : Ext B.G.T H0 H H0 H := .refl k.ext.zz k.ext.tabs k.ext.nt
theorem Ok.at_ (k : Ok B ρ σ H0 H) {i : Nat} {x : D} (e : ρ[i]? = some (.d x)) : ∃ v, σ[i]? = some (some v) ∧ Den B.G H0 x v := by
  obtain ⟨v, h1, u, h2, h3⟩ := k.env i _ e
  rw [h2] at h1
  exact ⟨u, h1, h3⟩
end

/-! ### lifted readings -/
def lift (B : Bx) (w : Env → W D) : TE := fun σ H Q => ∃ (ρ : Env) (H0 : Hp) (QD : D → Prop), Ok B ρ σ H0 H ∧ w ρ QD B.E ∧
  ∀ d v H0' H', Ext B.G.T H0 H H0' H' → Den B.G H0' d v → QD d → Q v H'
def liftT (B : Bx) (w : Env → W Bool) : TT := fun σ H Q => ∃ (ρ : Env) (H0 : Hp) (QD : Bool → Prop), Ok B ρ σ H0 H ∧ w ρ QD B.E ∧
  ∀ b H0' H', Ext B.G.T H0 H H0' H' → QD b → Q b H'
def liftA (B : Bx) (n : Nat) (w : Env → W (List D)) : TA := fun σ H Q => ∃ (ρ : Env) (H0 : Hp) (QD : List D → Prop), Ok B ρ σ H0 H ∧ w ρ QD B.E ∧
  ∀ ds vs H0' H', Ext B.G.T H0 H H0' H' → Dens B.G H0' ds vs → vs.length = n → QD ds → Q vs H'
abbrev DE (X : Cx) (B : Bx) (e : Expr) (w : Env → W D) : Prop := PE X e (lift B w)
abbrev DT (X : Cx) (B : Bx) (e : Expr) (w : Env → W Bool) : Prop := PT X e (liftT B w)
abbrev DA (X : Cx) (B : Bx) (n : Nat) (es : List Expr) (w : Env → W (List D)) : Prop := PA X es (liftA B n w)
theorem PE.imp {X : Cx} {e : Expr} {t t' : TE} (h : PE X e t) (i : ∀ σ H Q, t' σ H Q → t σ H Q) : PE X e t' := ⟨fun pins s σ H Q I q => h.run pins s σ H Q I (i σ H Q q)⟩
theorem PT.imp {X : Cx} {e : Expr} {t t' : TT} (h : PT X e t) (i : ∀ σ H Q, t' σ H Q → t σ H Q) : PT X e t' := ⟨fun pins s σ H Q I q => h.run pins s σ H Q I (i σ H Q q)⟩
theorem PA.imp {X : Cx} {es : List Expr} {t t' : TA} (h : PA X es t) (i : ∀ σ H Q, t' σ H Q → t σ H Q) : PA X es t' := ⟨fun pos pins s σ H Q I q => h.run pos pins s σ H Q I (i σ H Q q)⟩
theorem PS.imp {X : Cx} {e : Stmt} {t t' : TS} (h : PS X e t) (i : ∀ D σ H, t' D σ H → t D σ H) : PS X e t' := ⟨fun pins s σ H D I q => h.run pins s σ H D I (i D σ H q)⟩
theorem PSs.imp {X : Cx} {e : List Stmt} {t t' : TS} (h : PSs X e t) (i : ∀ D σ H, t' D σ H → t D σ H) : PSs X e t' := ⟨fun pins s σ H D I q => h.run pins s σ H D I (i D σ H q)⟩

section
variable {X : Cx} {B : Bx} {a b c e : Expr} {es : List Expr} {wa wb wc : Env → W D} {pos : Pos}
/-! ### names, constants -/
def rd (ρ : Env) (i : Nat) : W D := match ρ[i]? with
  | some (.d x) => ret x
  | _ => stk
theorem rd_of {ρ : Env} {i : Nat} {Q : D → Prop} {E : DX → Prop} (h : rd ρ i Q E) : ∃ d, ρ[i]? = some (.d d) ∧ Q d := by
  unfold rd at h
  cases e : ρ[i]? with
  | none => rw [e] at h; exact h.elim
  | some s =>
    rw [e] at h
    cases s with
    | d x => exact ⟨x, rfl, h⟩
    | un => exact (show False from h).elim
    | own o => exact (show False from h).elim
    | exc x a => exact (show False from h).elim
theorem de_var (i : Nat) {x : Str} {pos : Pos} (hN : X.N[i]? = some x := by rfl) (hv : Vis X.env.scope x := by first | exact Or.inl rfl | exact Or.inr (Or.inl rfl) | exact Or.inr (Or.inr rfl)) (hd : (x == ("__debug__" : Str)) = false := by decide)
    (hcd : (x == ("__classdict__" : Str)) = false := by decide) : DE X B (.Name x pos) (fun ρ => rd ρ i) := by
  refine PE.imp (pe_var hN hv hd hcd) fun σ H Q ⟨ρ, H0, QD, k, q, h⟩ => ?_
  obtain ⟨d, e, q⟩ := rd_of q
  obtain ⟨v, h1, h2⟩ := k.at_ e
  exact ⟨v, h1, h d v H0 H k.refl h2 q⟩
theorem de_lit {d : D} {v : V} (h : PE X e (tC v)) (hd : ∀ H0, Den B.G H0 d v) : DE X B e (fun _ => ret d) :=
  PE.imp h fun σ H Q ⟨ρ, H0, QD, k, q, h⟩ => h d v H0 H k.refl (hd H0) q
end
end DL
end
section
set_option Elab.async false
set_option linter.all false
set_option maxRecDepth 100000
set_option maxHeartbeats 1000000
set_option autoImplicit false
/-! DA0: what a def promises where no repr is under way (guards known), and how it is called and made. -/
namespace DL
open PySem PySem.Spec L2 PyProof.Rows
/-- room for calls, and nothing under way -/
structure Room (k : Nat) (A : Around) : Prop where
  r : L2.Room k A
  gd : A.guards = some []
section
variable {k : Nat} {A : Around}
theorem Room.hd (x : Room k A) : A.handled = none := x.r.hd
theorem Room.un (x : Room k A) : A.units + 16 * k + 200 < cLine := x.r.un
theorem Room.u65 (x : Room k A) : A.units + 65 < cLine := by have := x.r.un; omega
theorem Room.u1 (x : Room k A) : A.units + 1 < cLine := by have := x.r.un; omega
theorem Room.units0 (x : Room k A) : A.units < cLine := x.r.units0
theorem Room.depth (x : Room k A) : A.depth < recursionLimit := x.r.depth
theorem Room.mono {j : Nat} (x : Room k A) (h : j ≤ k) : Room j A := ⟨x.r.mono h, x.gd⟩
theorem Room.deeper (x : Room (k + 1) A) (e : PySem.Env) : Room k (A.deeper e) := ⟨x.r.deeper e, x.gd⟩
theorem Room.in1 (x : Room (k + 1) A) : Room k A.in1 := ⟨x.r.in1, x.gd⟩
theorem Room.make (x : Room (k + 1) A) (C : Addr) (us : List Value) (kw : List (Str × Value)) : Room k (A.under (.builtin "type.__call__" ⟨.ref C :: us, kw⟩)) := by
  refine ⟨x.r.make C us kw, ?_⟩
  have g0 : (Code.builtin "type.__call__" ⟨.ref C :: us, kw⟩).isGuard = false := by first | rfl | decide +kernel | simp [Code.isGuard, guardIds]
  simp only [Around.under, Code.guards, g0, x.gd]
  rfl
end
/-- the promise of a def -/
structure FnOk (P : Program) (w : World) (K : PySem.W.Frag) (mg : Str → Option Value) (base : Heap) (CX : CXT) (k : Nat) (f : Addr) (fd : FuncData) (ps : List Str) (sp : Sp) : Prop where
  len : ∀ vs H Q E, sp vs H Q E → vs.length = ps.length
  run : ∀ (A : Around) (outer : List PySem.Env) (s : Shared) (H : Hp) (args : Args) (us : List Value) (vs : List V) (Q : VK) (E : XK), Room k A → Env0 P w K mg base A outer s H → BindsTo s fd args (ps.zip us) → Vals vs us → sp vs H Q E → codeAny (model P w) A (.call (.ref f) args) (CR CX outer P w H s Q E) s
theorem FnOk.mono {P : Program} {w : World} {K : PySem.W.Frag} {mg : Str → Option Value} {base : Heap} {CX : CXT} {j k : Nat} {f : Addr} {fd : FuncData} {ps : List Str} {sp : Sp} (F : FnOk P w K mg base CX j f fd ps sp) (h : j ≤ k) : FnOk P w K mg base CX k f fd ps sp where
  len := F.len
  run := fun A o s H a us vs Q E r => F.run A o s H a us vs Q E (r.mono h)
/-- promised less -/
theorem FnOk.imp {P : Program} {w : World} {K : PySem.W.Frag} {mg : Str → Option Value} {base : Heap} {CX : CXT} {k : Nat} {f : Addr} {fd : FuncData} {ps : List Str} {sp sp' : Sp} (F : FnOk P w K mg base CX k f fd ps sp) (h : ∀ vs H Q E, sp' vs H Q E → sp vs H Q E) : FnOk P w K mg base CX k f fd ps sp' where
  len := fun vs H Q E q => F.len vs H Q E (h _ _ _ _ q)
  run := fun A o s H a us vs Q E r e b v q => F.run A o s H a us vs Q E r e b v (h _ _ _ _ q)
/-- how a call's end is taken up by the body that called -/
theorem ends_of {X : Cx} {CX : CXT} {E : XK} {pins : List (Addr × Obj)} {σ : L2.St} {H : Hp} {s : Shared} {Q : VK} {A : Around} {c : Code} (hx : Passes CX X E) (I : Inv X pins σ H s) (h : codeAny (model X.prog X.w) A c (CR CX X.stack X.prog X.w H s Q E) s) :
    codeAny (model X.prog X.w) A c (fun r s' => match r with
      | .ok (.ret u) => EP X pins σ Q u s'
      | .ok _ => False
      | .error e => X.xe e s') s := codeAny_mono h fun r s' z => by
  rcases r with e | (u | _ | _ | _)
  · exact hx pins σ H s e s' I z
  all_goals first | exact I.after z | exact z
section
variable {X : Cx} {CX : CXT} {k : Nat} {f C : Addr} {fd : FuncData} {ps : List Str} {sp : Sp} {dvs : List V} {ds : List Value} {E : XK} {x m : Str} {p pos apos : Pos} {e o : Expr} {es : List Expr} {ta : TE} {t : TA}
theorem run_fn {pins : List (Addr × Obj)} {σ : L2.St} {H : Hp} {s : Shared} {Q : VK} {us : List Value} {vs : List V} (F : FnOk X.prog X.w X.K X.mg X.base CX k f fd ps sp) (hr : Room k X.A) (hb : Binds X.K fd ps ds) (hd : Vals dvs ds) (hx : Passes CX X E)
    (I : Inv X pins σ H s) (r : Vals vs us) (h : sp (vs ++ dvs) H Q E) : wpAny (model X.prog X.w) X.A (call (.ref f) us) (EP X pins σ Q) X.xe s := by
  have rr := r.append hd
  have bb := hb s us I.kIn (rr.length.symm.trans (F.len _ _ _ _ h))
  refine wpAny_call (codeAny_mono (ends_of hx I (F.run X.A X.stack s H ⟨us, []⟩ _ _ Q E hr I.env0 bb rr h)) fun r s' z => ?_)
  rcases r with e | (u | _ | _ | _) <;> exact z
theorem pe_call (F : FnOk X.prog X.w X.K X.mg X.base CX k f fd ps sp) (hr : Room k X.A) (hg : Gl X x) (hm : X.mg x = some (.ref f)) (hk : PySem.W.keepIn X.K (.ref f) = true) (hb : Binds X.K fd ps ds) (hd : Vals dvs ds) (hx : Passes CX X E)
    (ha : PA X (e :: es) t) (hdb : (x == ("__debug__" : Str)) = false := by decide) (he : starEach (e :: es) X.env = (false, eval e X.env) :: starEach es X.env := by rfl) (hpl : (backTo pos (starEach es X.env)).any (·.1) = false := by rfl) :
    PE X (.Call (.Name x p) (e :: es) [] pos) (tCall sp dvs E t) where
  run := fun pins s σ H Q I h => wpAny_Call_Name_kw (ld_glob I hg hm (PySem.W.callWith_K (h₀ := X.base) I.ok.mod.kin hk (thn (ha.run pos pins s σ H _ I h) fun us s1 ⟨_, _, I1, r, q⟩ => ⟨I1.kIn, run_fn F hr hb hd hx I1 r q⟩) he hpl) hdb)
theorem pe_call0 (F : FnOk X.prog X.w X.K X.mg X.base CX k f fd ps sp) (hr : Room k X.A) (hg : Gl X x) (hm : X.mg x = some (.ref f)) (hk : PySem.W.keepIn X.K (.ref f) = true) (hb : Binds X.K fd ps ds) (hd : Vals dvs ds) (hx : Passes CX X E)
    (hdb : (x == ("__debug__" : Str)) = false := by decide) : PE X (.Call (.Name x p) [] [] pos) (tCall sp dvs E tNil) where
  run := fun pins s σ H Q I h => wpAny_Call_Name_kw (ld_glob I hg hm (PySem.W.callWith_K0 I.kIn hk (run_fn (us := []) F hr hb hd hx I .nil h)) hdb)
theorem run_make {pins : List (Addr × Obj)} {σ : L2.St} {H : Hp} {s : Shared} {Q : VK} {us : List Value} {vs : List V} (M : Mk X.K C f) (F : FnOk X.prog X.w X.K X.mg X.base CX k f fd ps sp) (hr : Room (k + 1) X.A) (hb : Binds X.K fd ps ds) (hd : Vals dvs ds)
    (hx : Passes CX X E) (I : Inv X pins σ H s) (r : Vals vs us)
    (h : ∀ x dx, H x = none → H dx = none → dx ≠ x → sp (.ref x :: (vs ++ dvs)) (upd (upd H dx (.own x)) x (.ins C dx [])) (fun v H2 => v = .non ∧ Q (.ref x) H2) E) : wpAny (model X.prog X.w) X.A (call (.ref C) us) (EP X pins σ Q) X.xe s := by
  let z := s.heap.objs.size
  have q0 := h (z + 1) z (I.hok.fresh (Nat.le_succ z)) (I.hok.fresh (Nat.le_refl z)) (Nat.ne_of_lt (Nat.lt_succ_self z))
  have J : Inv X pins σ _ _ := Inv.made (C := C) I
  have rr : Vals (V.ref (z + 1) :: (vs ++ dvs)) (Value.ref (z + 1) :: (us ++ ds)) := .cons rfl (r.append hd)
  have bb := hb _ (Value.ref (z + 1) :: us) J.kIn (rr.length.symm.trans (F.len _ _ _ _ q0))
  have run := ends_of hx J (F.run _ X.stack _ _ ⟨Value.ref (z + 1) :: us, []⟩ _ _ _ E (hr.make C us []) (J.env0.make C us []) bb rr q0)
  refine wpAny_call (make_map (f := f) I.kIn M.makes M.init (beq_iff_eq.mp M.fn) (codeAny_mono run fun r s' y => ?_))
  match r, y with
  | .error _, y => exact y
  | .ok (.ret _), ⟨_, H', I3, rv, ev, q3⟩ =>
    subst ev
    exact ⟨rv, V.ref (z + 1), H', I3, rfl, q3⟩
  | .ok .next, y => exact y.elim
  | .ok .brk, y => exact y.elim
  | .ok .cont, y => exact y.elim
theorem pe_make (M : Mk X.K C f) (F : FnOk X.prog X.w X.K X.mg X.base CX k f fd ps sp) (hr : Room (k + 1) X.A) (hg : Gl X x) (hm : X.mg x = some (.ref C)) (hb : Binds X.K fd ps ds) (hd : Vals dvs ds) (hx : Passes CX X E)
    (ha : PA X (e :: es) t) (hdb : (x == ("__debug__" : Str)) = false := by decide) (he : starEach (e :: es) X.env = (false, eval e X.env) :: starEach es X.env := by rfl) (hpl : (backTo pos (starEach es X.env)).any (·.1) = false := by rfl) :
    PE X (.Call (.Name x p) (e :: es) [] pos) (tMake C sp dvs E t) where
  run := fun pins s σ H Q I h => wpAny_Call_Name_kw (ld_glob I hg hm (PySem.W.callWith_K (h₀ := X.base) I.ok.mod.kin M.kp (thn (ha.run pos pins s σ H _ I h) fun us s1 ⟨_, _, I1, r, q⟩ => ⟨I1.kIn, run_make M F hr hb hd hx I1 r q⟩) he hpl) hdb)
end
/-- a def of the text by its body -/
theorem fn_of {CX : CXT} {P : Program} {w : World} {K : PySem.W.Frag} {mg : Str → Option Value} {base : Heap} {k : Nat} {f : Addr} {name qual : Str} {params : Arguments} {body : List Stmt} {scope : Scope} {dV kV doc pm cdv ct oc : Value} {an od : Option Addr}
    {osl : Array (Option Value)} {N ps : List Str} {sp : Sp} (lk : K.lookup f = some ⟨oc, od, .func (PySem.W.fnOf name qual params body scope dV kV doc pm an cdv ct), osl⟩) (hcd : PySem.W.codeIn K cdv qual = true) (S : FnScope N ps scope)
    (len : ∀ vs H Q E, sp vs H Q E → vs.length = ps.length)
    (hbody : ∀ (A : Around) (outer : List PySem.Env) (s : Shared) (H : Hp) (vs : List V) (Q : VK) (E : XK), Room k (A.deeper (envOfC qual scope s.heap.objs.size f cdv)) → sp vs H Q E →
      ∃ t, PSs (cxOf CX P w K mg base N qual scope f cdv A outer s H E) body t ∧ t { nx := fun _ H' => Q .non H', rt := Q } (start N vs) H) :
    FnOk P w K mg base CX (k + 1) f (PySem.W.fnOf name qual params body scope dV kV doc pm an cdv ct) ps sp where
  len := len
  run := fun A outer s H args us vs Q E hr e0 hb r hsp => by
    let env0 := envOfC qual scope s.heap.objs.size f cdv
    have inh : ∀ {m : Heap}, (∀ b o, base.get? b = some o → m.get? b = some o) → K.In m ∧ m.NoLimit := fun g => ⟨e0.mod.kin.keeps g, e0.mod.nolimit.keeps g⟩
    obtain ⟨KX, lim⟩ := inh fun b o e => (e0.bs b o e).1
    refine codeAny_call_function hr.depth (KX _ _ lk) rfl S.co S.gen rfl (PySem.W.codeRec_of KX hcd) (hb _ _ _ _ ?_)
    refine wpAny_newFunctionEnv_cells S.kind (fun y hy => ?_) fun env he s1 x => ?_
    · rcases S.par y.1 (List.of_mem_zip hy).1 with q | q
      · exact Or.inl q
      · exact Or.inr ⟨q, PySem.W.cellsFrom_some _ _ _ (Or.inl q)⟩
    subst he
    refine ⟨lim.keeps x.toInCall.keep, codeAny_func ?_⟩
    obtain ⟨t, ht, hq⟩ := hbody A outer s H vs Q E (hr.deeper env0) hsp
    refine wpAny_mono (ht.run [] s1 (start N vs) H _ (inv_start S hr.hd e0 (len _ _ _ _ hsp) r x) hq) (fun fl s' z => ?_) fun _ _ z => z
    have done : ∀ {τ : L2.St} {G : Hp} {v : V} {u : Value}, Inv (cxOf CX P w K mg base N qual scope f cdv A outer s H E) [] τ G s' → RelV v u → Q v G → CE outer P w H s Q u s' := fun J a b => ⟨_, _, J.os, J.bare, J.base, J.hok, a, b⟩
    match fl, z with
    | .ret u, ⟨v, _, _, J, a, b⟩ => exact done J a b
    | .next, ⟨_, _, J, b⟩ => exact done (v := V.non) (u := Value.none) J rfl b
    | .brk, ⟨_, _, _, b⟩ => exact b.elim
    | .cont, ⟨_, _, _, b⟩ => exact b.elim
end DL
end
section
set_option Elab.async false
set_option linter.all false
set_option maxRecDepth 100000
set_option maxHeartbeats 1000000
set_option autoImplicit false
/-! DA1: the law's call, where the law's def promises what DA0 says. -/
namespace DL
open PySem PySem.Spec L2 PyProof.Rows
open LamX (TabB)
section
variable {P : Program} {w : World} {K : PySem.W.Frag} {mg mb : Str → Option Value} {CX : CXT} {k : Nat} {fa a : Addr} {cs : List (Addr × Addr)} {fd : FuncData} {x : Str} {sp : Sp} {s₁ : Shared} {vs : List Value} {ns : List Int}
/-- the heap at the call: the script at a, the tables of code objects -/
structure AtCall (K : PySem.W.Frag) (mg mb : Str → Option Value) (cs : List (Addr × Addr)) (s₁ : Shared) (a : Addr) (vs : List Value) (ns : List Int) : Prop where
  KX : K.In s₁.heap
  hns : s₁.heap.Ns mainGlobals mg
  hb : s₁.heap.Ns builtinsNs mb
  hbb : ∀ x : Str, x ≠ "__name__" → mb x = bootBuiltins x
  hlim : s₁.heap.NoLimit
  hg : s₁.gens = #[]
  hT : ∀ p ∈ cs, s₁.heap.get? p.2 = some { cls := .none, data := .fields #[] }
  nT : ∀ p ∈ cs, K.lookup p.2 = none
  C : ∀ p ∈ cs, PySem.W.CodeHd s₁.heap p.1 p.2
  hbm : ∃ (bm : Addr) (ob : Obj), mg "__builtins__" = some (.ref bm) ∧ bm ≠ builtinsNs ∧ s₁.heap.get? bm = some ob ∧ ob.cls = .type "module" ∧ ob.dict = some builtinsNs ∧ ob.data = .plain
  ha : s₁.heap.get? a = some { cls := .type "list", data := .seq vs.toArray }
  hi : IntsAre vs ns
  hl : ns.length ≤ sizeLine
/-- what is tracked at the call -/
structure Trk (K : PySem.W.Frag) (P : Program) (w : World) (cs : List (Addr × Addr)) (s₁ : Shared) (a : Addr) (ns : List Int) (H : Hp) : Prop where
  tb : ∀ p ∈ cs, H p.2 = some (.tbl #[])
  on : ∀ b, H b = none ∨ b ∈ cs.map (·.2) ∨ ∃ o xs, H b = some (.frz o (.lst xs))
  sq : SqL K H a (ns.map V.int)
  ok : HOk P w H s₁.heap
  at_ : ∀ b, H b ≠ none → b = a ∨ b ∈ cs.map (·.2)
  no : H a ≠ none → K.lookup a = none
theorem AtCall.tab (c : AtCall K mg mb cs s₁ a vs ns) {b : Addr} (hb : b ∈ cs.map (·.2)) : s₁.heap.get? b = some { cls := .none, data := .fields #[] } := by
  obtain ⟨p, hp, rfl⟩ := List.mem_map.mp hb
  exact c.hT p hp
theorem AtCall.apart (c : AtCall K mg mb cs s₁ a vs ns) : a ∉ cs.map (·.2) := fun z => by
  have q := (c.tab z).symm.trans c.ha
  simp at q
/-- an object that is neither a list nor an empty record is hidden by nothing -/
theorem AtCall.free (c : AtCall K mg mb cs s₁ a vs ns) {H : Hp} (t : Trk K P w cs s₁ a ns H) {b : Addr} {o : Obj} (e : s₁.heap.get? b = some o) (h1 : ∀ vs n, o.data ≠ .seq vs n) (h2 : o.data ≠ .fields #[]) : H b = none := by
  by_cases q : H b = none
  · exact q
  · rcases t.at_ b q with rfl | z
    · rw [c.ha] at e
      exact (h1 _ _ (by cases e; rfl)).elim
    · rw [c.tab z] at e
      exact (h2 (by cases e; rfl)).elim
theorem AtCall.seen (c : AtCall K mg mb cs s₁ a vs ns) {H : Hp} (t : Trk K P w cs s₁ a ns H) {b : Addr} {o : Obj} (e : s₁.heap.get? b = some o) (h1 : ∀ vs n, o.data ≠ .seq vs n) (h2 : o.data ≠ .fields #[]) : (hidT s₁.heap H).get? b = some o := hidT_get e (c.free t e h1 h2)
theorem AtCall.nsp (c : AtCall K mg mb cs s₁ a vs ns) {H : Hp} (t : Trk K P w cs s₁ a ns H) {b : Addr} {m : Str → Option Value} : s₁.heap.Ns b m → (hidT s₁.heap H).Ns b m
  | ⟨o, es, ep, e, d, r⟩ => ⟨o, es, ep, c.seen t e (by rw [d]; intro _ _ z; cases z) (by rw [d]; intro z; cases z), d, r⟩
theorem AtCall.frag (c : AtCall K mg mb cs s₁ a vs ns) {H : Hp} (t : Trk K P w cs s₁ a ns H) : K.In (hidT s₁.heap H) := fun b o e => hidT_get (c.KX b o e) (by
  by_cases q : H b = none
  · exact q
  · rcases t.at_ b q with rfl | z
    · rw [t.no q] at e; cases e
    · obtain ⟨p, hp, rfl⟩ := List.mem_map.mp z
      rw [c.nT p hp] at e; cases e)
theorem AtCall.tabB (c : AtCall K mg mb cs s₁ a vs ns) {H : Hp} (t : Trk K P w cs s₁ a ns H) (p : Addr × Addr) (hp : p ∈ cs) : TabB (hidT s₁.heap H) mg p.1 p.2 := by
  have hTp := c.hT p hp
  obtain ⟨bm, ob, b1, b2, b3, b4, b5, b6⟩ := c.hbm
  obtain ⟨go, ges, gep, ge, gd, gr⟩ := c.hns
  refine ⟨?_, ⟨bm, ob, b1, b2, ?_, ?_, c.seen t b3 (by rw [b6]; intro _ _ z; cases z) (by rw [b6]; intro z; cases z), b4, b5, b6⟩, ?_⟩
  · obtain ⟨o, us, file, tf, flags, tg, inF, text, tt, e1, r1, r2, r3, rest⟩ := c.C p hp
    exact ⟨o, us, file, tf, flags, tg, inF, text, tt, c.seen t e1 (by rw [r2]; intro _ _ z; cases z) (by rw [r2]; intro z; cases z; simp at r3), r1, r2, r3, rest⟩
  · rintro rfl
    rw [ge] at b3
    cases b3
    rw [gd] at b6
    cases b6
  · rintro rfl
    rw [hTp] at b3
    cases b3
    cases b6
  · intro z
    rw [z, hTp] at ge
    cases ge
    cases gd
theorem call_core (c : AtCall K mg mb cs s₁ a vs ns) (hr : Room k callerA) (F : ∀ base : Heap, K.In base → base.Ns mainGlobals mg → (∀ p ∈ cs, TabB base mg p.1 p.2) → FnOk P w K mg base CX k fa fd [x] sp)
    (hbind : ∀ (s : Shared) (u : Value), BindsTo s fd ⟨[u], []⟩ [(x, u)]) (hsp : ∀ H : Hp, (∀ p ∈ cs, H p.2 = some (.tbl #[])) → SqL K H a (ns.map V.int) → sp [.ref a] H (fun v _ => v = .bl true) fun _ _ _ => False)
    (hCX : ∀ H e s', CX [] H s₁ (fun _ _ _ => False) e s' → False) {H : Hp} (t : Trk K P w cs s₁ a ns H) :
    codeAny (model P w) callerA (.call (.ref fa) ⟨[.ref a], []⟩) (fun r s' => r = .ok (.ret (.bool true)) ∧ OldK s₁.heap s'.heap ∧ s'.os = s₁.os ∧ AllBare s'.gens) s₁ := by
  have KB := c.frag t
  have md : L2.Mod K mg (hidT s₁.heap H) := ⟨KB, c.nsp t c.hns, ⟨mb, c.nsp t c.hb, c.hbb⟩, c.hlim.elim fun mc h => ⟨mc, c.nsp t h.1, h.2⟩⟩
  have nob : ∀ b ∈ frs ([] : List PySem.Env), H b = none := fun b hb => by cases hb
  have E0' : Env0 P w K mg (hidT s₁.heap H) callerA [] s₁ H := ⟨rfl, md, fun b o e => of_hidT e, Nat.le_of_eq (hidT_size _ _), trivial, nob, t.ok, .of_eq c.hg⟩
  refine codeAny_mono ((F _ KB (c.nsp t c.hns) (c.tabB t)).run callerA [] s₁ H ⟨[.ref a], []⟩ [.ref a] [.ref a] _ _ hr E0' (hbind s₁ (.ref a)) (.cons rfl .nil) (hsp H t.tb t.sq)) fun r s' h => ?_
  match r, h with
  | .error e, h => exact (hCX H e s' h).elim
  | .ok .next, h => exact h.elim
  | .ok .brk, h => exact h.elim
  | .ok .cont, h => exact h.elim
  | .ok (.ret u), ⟨v, H', os, bare, un, ok', rv, q⟩ =>
    obtain rfl : v = .bl true := q
    obtain rfl : u = Value.bool true := rv
    have old : ∀ b o, b ∉ cs.map (·.2) → s₁.heap.get? b = some o → s'.heap.get? b = some o := fun b o nb e => by
      rcases t.on b with z | z | ⟨ob, xs, z⟩
      · exact un.keep b o e z (by intro y; cases y) (by simp)
      · exact (nb z).elim
      · have e1 := (t.ok b _ z).1
        rw [e] at e1
        cases e1
        exact (ok' b _ (un.frzs b _ _ z)).1
    have grew : ∀ b ∈ cs.map (·.2), ∃ more : Array Value, s'.heap.get? b = some { cls := .none, data := .fields more } := fun b hb => by
      obtain ⟨p, hp, rfl⟩ := List.mem_map.mp hb
      obtain ⟨more, z⟩ := un.tbls p.2 #[] (t.tb p hp)
      exact ⟨_, ok' p.2 _ z⟩
    refine ⟨rfl, ⟨fun b o e => ?_, fun b o e => ?_⟩, os, bare⟩
    · by_cases hb : b ∈ cs.map (·.2)
      · obtain ⟨more, hm⟩ := grew b hb
        have e' := e
        rw [c.tab hb] at e
        cases e
        obtain ⟨p, hp, rfl⟩ := List.mem_map.mp hb
        exact .inr (.inl ⟨((c.C p hp).tab (c.hT p hp)).isCodeTable, rfl, #[], more, rfl, by rw [Array.empty_append]; exact hm⟩)
      · exact .inl (old b o hb e)
    · by_cases hb : b ∈ cs.map (·.2)
      · exact (grew b hb).elim fun more hm => ⟨_, hm⟩
      · exact ⟨o, old b o hb e⟩
open Classical in
theorem law_callG (c : AtCall K mg mb cs s₁ a vs ns) (hr : Room k callerA) (F : ∀ base : Heap, K.In base → base.Ns mainGlobals mg → (∀ p ∈ cs, TabB base mg p.1 p.2) → FnOk P w K mg base CX k fa fd [x] sp)
    (hbind : ∀ (s : Shared) (u : Value), BindsTo s fd ⟨[u], []⟩ [(x, u)]) (hsp : ∀ H : Hp, (∀ p ∈ cs, H p.2 = some (.tbl #[])) → SqL K H a (ns.map V.int) → sp [.ref a] H (fun v _ => v = .bl true) fun _ _ _ => False)
    (hCX : ∀ H e s', CX [] H s₁ (fun _ _ _ => False) e s' → False) :
    codeAny (model P w) callerA (.call (.ref fa) ⟨[.ref a], []⟩) (fun r s' => r = .ok (.ret (.bool true)) ∧ OldK s₁.heap s'.heap ∧ s'.os = s₁.os ∧ AllBare s'.gens) s₁ := by
  have rv := vals_ints c.hi
  have lenV := c.hi.length
  have mem : ∀ p ∈ cs, p.2 ∈ cs.map (·.2) := fun p hp => List.mem_map_of_mem hp
  have neA : ∀ b ∈ cs.map (·.2), ¬ b = a := fun b hb z => c.apart (z ▸ hb)
  let T : Hp := fun b => if b ∈ cs.map (·.2) then some (.tbl #[]) else none
  have tT : ∀ b ∈ cs.map (·.2), T b = some (.tbl #[]) := fun b hb => if_pos hb
  have tN : ∀ b, b ∉ cs.map (·.2) → T b = none := fun b hb => if_neg hb
  by_cases hk : ∃ o, K.lookup a = some o
  · obtain ⟨o, hk⟩ := hk
    obtain rfl : o = { cls := .type "list", data := .seq vs.toArray } := Option.some.inj ((c.KX a o hk).symm.trans c.ha)
    refine call_core c hr F hbind hsp hCX (H := T) ⟨fun p hp => tT _ (mem p hp), fun b => ?_, .inr ⟨_, vs.toArray, _, hk, rfl, rfl, rfl, by rw [List.size_toArray, lenV]; exact c.hl, by simpa using rv⟩, fun b u z => ?_, fun b z => ?_, fun z => (z (tN a c.apart)).elim⟩
    · by_cases hb : b ∈ cs.map (·.2)
      · exact .inr (.inl hb)
      · exact .inl (tN b hb)
    · by_cases hb : b ∈ cs.map (·.2)
      · rw [tT b hb] at z; cases z; exact c.tab hb
      · rw [tN b hb] at z; cases z
    · by_cases hb : b ∈ cs.map (·.2)
      · exact .inr hb
      · exact (z (tN b hb)).elim
  · have hn : K.lookup a = none := by
      cases q : K.lookup a with
      | none => rfl
      | some o => exact (hk ⟨o, q⟩).elim
    let U : Hp := fun b => if b = a then some (.frz { cls := .type "list", data := .seq vs.toArray } (.lst (ns.map V.int))) else T b
    have uA : U a = some (.frz { cls := .type "list", data := .seq vs.toArray } (.lst (ns.map V.int))) := if_pos rfl
    have uO : ∀ b, ¬ b = a → U b = T b := fun b hb => if_neg hb
    refine call_core c hr F hbind hsp hCX (H := U) ⟨fun p hp => (uO _ (neA _ (mem p hp))).trans (tT _ (mem p hp)), fun b => ?_, .inl (.inr ⟨_, uA⟩), fun b u z => ?_, fun b z => ?_, fun _ => hn⟩
    · by_cases hb : b = a
      · subst hb; exact .inr (.inr ⟨_, _, uA⟩)
      · by_cases h2 : b ∈ cs.map (·.2)
        · exact .inr (.inl h2)
        · exact .inl ((uO b hb).trans (tN b h2))
    · by_cases hb : b = a
      · subst hb
        rw [uA] at z
        cases z
        exact ⟨c.ha, by rw [List.length_map]; exact c.hl, vs, _, rv, c.ha⟩
      · rw [uO b hb] at z
        by_cases h2 : b ∈ cs.map (·.2)
        · rw [tT b h2] at z; cases z; exact c.tab h2
        · rw [tN b h2] at z; cases z
    · by_cases hb : b = a
      · exact .inl hb
      · by_cases h2 : b ∈ cs.map (·.2)
        · exact .inr h2
        · exact (z ((uO b hb).trans (tN b h2))).elim
end
end DL
end
section
set_option Elab.async false
set_option linter.all false
set_option maxRecDepth 100000
set_option maxHeartbeats 1000000
set_option autoImplicit false
/-! DB: operators, comparisons, tests, displays, subscripts, at the level of data. -/
namespace DL
open PySem PySem.Spec L2

/-- what a rule by values may lean on -/
structure St0 (G : Gx) (H0 H : Hp) : Prop where
  z : Same H0 H
  tabs : NdefX.TabsN G.T H
  nt : NoT H0
theorem St0.refl {G : Gx} {H0 H : Hp} (s : St0 G H0 H) : Ext G.T H0 H H0 H := .refl s.z s.tabs s.nt
theorem Ok.st {B : Bx} {ρ : Env} {σ : L2.St} {H0 H : Hp} (k : Ok B ρ σ H0 H) : St0 B.G H0 H := ⟨k.ext.zz, k.ext.tabs, k.ext.nt⟩
theorem Ext.st {G : Gx} {H0 H H1 H2 : Hp} (k : Ext G.T H0 H H1 H2) : St0 G H1 H2 := ⟨k.zz, k.tabs, k.nt⟩
/-- a new thing at p -/
theorem Ext.put {G : Gx} {H0 H : Hp} (s : St0 G H0 H) {p : Addr} (hp : H p = none) (o : HO) (ho : ∀ ps, o ≠ .tbl ps := by intro _ z; cases z) : Ext G.T H0 H (upd H0 p o) (upd H p o) := by
  have hp0 : H0 p = none := s.z.free hp
  refine ⟨fun b u e _ => ?_, fun b e => ?_, fun b u e => ?_, fun b u e => ?_, fun b u e => ?_, s.tabs.ext fun b u e => ?_, s.nt.upd ho⟩
  · rw [upd_ne (ne_of_none e hp)]; exact e
  · exact NdefX.upd_none e
  · rw [upd_ne (ne_of_none e hp0)]; exact e
  · by_cases h : b = p
    · subst h; rw [upd_same] at e ⊢; exact e
    · rw [upd_ne h] at e ⊢; exact s.z b u e
  · by_cases h : b = p
    · subst h; exact .inr hp
    · rw [upd_ne h] at e; exact .inl e
  · rw [upd_ne (ne_of_none e hp)]; exact e
/-- .. and in the heap alone -/
theorem Ext.putH {G : Gx} {H0 H : Hp} (s : St0 G H0 H) {p : Addr} (hp : H p = none) (o : HO) : Ext G.T H0 H H0 (upd H p o) := by
  refine ⟨fun b u e _ => ?_, fun b e => ?_, fun b u e => e, fun b u e => ?_, fun b u e => .inl e, s.tabs.ext fun b u e => ?_, s.nt⟩
  · rw [upd_ne (ne_of_none e hp)]; exact e
  · exact NdefX.upd_none e
  · have := s.z b u e
    rw [upd_ne (ne_of_none this hp)]; exact this
  · rw [upd_ne (ne_of_none e hp)]; exact e
abbrev End1 (G : Gx) (H0 H : Hp) (QD : D → Prop) (Q : VK) : Prop := ∀ d v H0' H', Ext G.T H0 H H0' H' → Den G H0' d v → QD d → Q v H'
def DOp1 (G : Gx) (r : V → Hp → VK → Prop) (f : D → W D) : Prop := ∀ (H0 H : Hp) (x : D) (vx : V) (QD : D → Prop) (ED : DX → Prop) (Q : VK), St0 G H0 H → Den G H0 x vx → f x QD ED → End1 G H0 H QD Q → r vx H Q
def DOp2 (G : Gx) (r : V → V → Hp → VK → Prop) (f : D → D → W D) : Prop := ∀ (H0 H : Hp) (x y : D) (vx vy : V) (QD : D → Prop) (ED : DX → Prop) (Q : VK), St0 G H0 H → Den G H0 x vx → Den G H0 y vy → f x y QD ED → End1 G H0 H QD Q → r vx vy H Q
def DOpL (G : Gx) (r : List V → Hp → VK → Prop) (f : List D → W D) : Prop := ∀ (H0 H : Hp) (xs : List D) (vs : List V) (QD : D → Prop) (ED : DX → Prop) (Q : VK), St0 G H0 H → Dens G H0 xs vs → f xs QD ED → End1 G H0 H QD Q → r vs H Q
def grd {α : Type} (c : Prop) (m : W α) : W α := fun Q E => c ∧ m Q E

section
variable {X : Cx} {B : Bx} {a b c e : Expr} {es rest : List Expr} {wa wb wc : Env → W D} {pos : Pos} {G : Gx}
theorem lift2 {r : V → V → Hp → VK → Prop} {f : D → D → W D} (hr : DOp2 B.G r f) {σ : L2.St} {H : Hp} {Q : VK}
    (h : lift B (fun ρ => bnd (wa ρ) fun x => bnd (wb ρ) fun y => f x y) σ H Q) : tOp r (lift B wa) (lift B wb) σ H Q := by
  obtain ⟨ρ, H0, QD, k, q, h⟩ := h
  refine ⟨ρ, H0, _, k, q, fun x vx H1 H2 x1 d1 q1 => ⟨ρ, H1, _, k.later x1, q1, fun y vy H3 H4 x2 d2 q2 => ?_⟩⟩
  exact hr H3 H4 x y vx vy QD B.E Q x2.st (d1.same x2.z) d2 q2 fun d v H5 H6 x3 d3 q3 => h d v H5 H6 ((x1.trans x2).trans x3) d3 q3
theorem lift1 {r : V → Hp → VK → Prop} {f : D → W D} (hr : DOp1 B.G r f) {σ : L2.St} {H : Hp} {Q : VK}
    (h : lift B (fun ρ => bnd (wa ρ) fun x => f x) σ H Q) : tUn r (lift B wa) σ H Q := by
  obtain ⟨ρ, H0, QD, k, q, h⟩ := h
  refine ⟨ρ, H0, _, k, q, fun x vx H1 H2 x1 d1 q1 => ?_⟩
  exact hr H1 H2 x vx QD B.E Q x1.st d1 q1 fun d v H5 H6 x3 d3 q3 => h d v H5 H6 (x1.trans x3) d3 q3
theorem de_op {op : Operator} {r : R2} {f : D → D → W D} (ho : OpR X (binaryOp op) r) (hr : DOp2 B.G r f) (ha : DE X B a wa) (hb : DE X B b wb) :
    DE X B (.BinOp a op b pos) (fun ρ => bnd (wa ρ) fun x => bnd (wb ρ) fun y => f x y) := PE.imp (pe_op ho ha hb) fun _ _ _ h => lift2 hr h
theorem de_un {op : UnaryOp} {r : V → Hp → VK → Prop} {f : D → W D} (ho : UnR X (unaryOp op) r) (hr : DOp1 B.G r f) (ha : DE X B a wa) :
    DE X B (.UnaryOp op a pos) (fun ρ => bnd (wa ρ) fun x => f x) := PE.imp (pe_un ho ha) fun _ _ _ h => lift1 hr h
theorem de_cmp {op : CmpOp} {r : R2} {f : D → D → W D} (ho : OpR X (compareOp op) r) (hr : DOp2 B.G r f) (hm : behindInMarks op b = false) (ha : DE X B a wa) (hb : DE X B b wb) :
    DE X B (.Compare a [op] [b] pos) (fun ρ => bnd (wa ρ) fun x => bnd (wb ρ) fun y => f x y) := PE.imp (pe_cmpR ho ha hb hm) fun _ _ _ h => lift2 hr h
/-- a bool's -/
def asB : D → W Bool
  | .bl b => ret b
  | _ => stk
theorem lift_asB {w : Env → W D} {σ : L2.St} {H : Hp} {Q : Bool → Hp → Prop} (h : liftT B (fun ρ => bnd (w ρ) asB) σ H Q) : tTest (lift B w) σ H Q := by
  obtain ⟨ρ, H0, QD, k, q, h⟩ := h
  refine ⟨ρ, H0, _, k, q, fun x vx H1 H2 x1 d1 q1 => ?_⟩
  cases x with
  | bl b =>
    have e : vx = .bl b := by simpa only [Den] using d1
    exact ⟨b, e, h b H1 H2 x1 q1⟩
  | _ => exact (show False from q1).elim
theorem PT.imp2 {e : Expr} {t t' : TT} (h : PT X e t) (i : ∀ σ H Q, t' σ H Q → t σ H Q) : PT X e t' := PT.imp h i
theorem tTest_imp {t t' : TE} (i : ∀ σ H Q, t' σ H Q → t σ H Q) {σ : L2.St} {H : Hp} {Q : Bool → Hp → Prop} (h : tTest t' σ H Q) : tTest t σ H Q := i _ _ _ h
theorem dt_cmp {op : CmpOp} {r : R2} {f : D → D → W D} (ho : OpR X (compareOp op) r) (hr : DOp2 B.G r f) (hm : behindInMarks op b = false) (ha : DE X B a wa) (hb : DE X B b wb) :
    DT X B (.Compare a [op] [b] pos) (fun ρ => bnd (bnd (wa ρ) fun x => bnd (wb ρ) fun y => f x y) asB) :=
  PT.imp (pt_cmpR ho ha hb hm) fun _ _ _ h => tTest_imp (fun _ _ _ h => lift2 hr h) (lift_asB h)
theorem lift3 {r r' : R2} {f f' : D → D → W D} (hr : DOp2 B.G r f) (hr' : DOp2 B.G r' f') {σ : L2.St} {H : Hp} {Q : VK}
    (h : lift B (fun ρ => bnd (wa ρ) fun x => bnd (wb ρ) fun y => bnd (bnd (f x y) asB) fun k => if k = true then bnd (wc ρ) fun z => f' y z else ret (.bl false)) σ H Q) : tChain r r' (lift B wa) (lift B wb) (lift B wc) σ H Q := by
  obtain ⟨ρ, H0, QD, k, q, h⟩ := h
  refine ⟨ρ, H0, _, k, q, fun x vx H1 H2 x1 d1 q1 => ⟨ρ, H1, _, k.later x1, q1, fun y vy H3 H4 x2 d2 q2 => ?_⟩⟩
  refine hr H3 H4 x y vx vy _ B.E _ x2.st (d1.same x2.z) d2 q2 fun d v H5 H6 x3 d3 q3 => ?_
  cases d with
  | bl t =>
    have e : v = .bl t := by simpa only [Den] using d3
    refine ⟨t, e, ?_⟩
    have q3 : (if t = true then bnd (wc ρ) fun z => f' y z else ret (.bl false)) QD B.E := q3
    cases t with
    | true =>
      rw [if_pos rfl] at q3 ⊢
      refine ⟨ρ, H5, _, k.later ((x1.trans x2).trans x3), q3, fun z vz H7 H8 x4 d4 q4 => ?_⟩
      exact hr' H7 H8 y z vy vz QD B.E Q x4.st ((d2.same x3.z).same x4.z) d4 q4 fun d v H9 H10 x5 d5 q5 => h d v H9 H10 ((((x1.trans x2).trans x3).trans x4).trans x5) d5 q5
    | false =>
      rw [if_neg Bool.false_ne_true] at q3 ⊢
      exact h (.bl false) (.bl false) H5 H6 ((x1.trans x2).trans x3) (by simp only [Den]) q3
  | _ => exact (show False from q3).elim
theorem de_chain {op op' : CmpOp} {r r' : R2} {f f' : D → D → W D} (ho : OpR X (compareOp op) r) (ho' : OpR X (compareOp op') r') (hr : DOp2 B.G r f) (hr' : DOp2 B.G r' f') (ha : DE X B a wa) (hb : DE X B b wb) (hc : DE X B c wc)
    (hm : lastMarks [op, op'] [b, c] = false := by with_unfolding_all rfl) : DE X B (.Compare a [op, op'] [b, c] pos)
      (fun ρ => bnd (wa ρ) fun x => bnd (wb ρ) fun y => bnd (bnd (f x y) asB) fun k => if k = true then bnd (wc ρ) fun z => f' y z else ret (.bl false)) :=
  PE.imp (pe_chain ho ho' ha hb hc hm) fun _ _ _ h => lift3 hr hr' h
theorem dt_chain {op op' : CmpOp} {r r' : R2} {f f' : D → D → W D} (ho : OpR X (compareOp op) r) (ho' : OpR X (compareOp op') r') (hr : DOp2 B.G r f) (hr' : DOp2 B.G r' f') (ha : DE X B a wa) (hb : DE X B b wb) (hc : DE X B c wc)
    (hm : lastMarks [op, op'] [b, c] = false := by with_unfolding_all rfl) : DT X B (.Compare a [op, op'] [b, c] pos)
      (fun ρ => bnd (bnd (wa ρ) fun x => bnd (wb ρ) fun y => bnd (bnd (f x y) asB) fun k => if k = true then bnd (wc ρ) fun z => f' y z else ret (.bl false)) asB) :=
  PT.imp (pt_chain ho ho' ha hb hc hm) fun _ _ _ h => tTest_imp (fun _ _ _ h => lift3 hr hr' h) (lift_asB h)

/-! ### ints -/
def onI2 (g : Int → Int → W D) : D → D → W D
  | .int i, .int j => g i j
  | _, _ => stk
theorem dop_I {C : Int → Int → Prop} {g : Int → Int → Int} : DOp2 G (rI C fun i j => .int (g i j)) (onI2 fun i j => grd (C i j) (ret (.int (g i j)))) := by
  intro H0 H x y vx vy QD ED Q st dx dy q h
  cases x <;> first | exact (show False from q).elim | skip
  cases y <;> first | exact (show False from q).elim | skip
  rename_i i j
  have e1 : vx = .int i := by simpa only [Den] using dx
  have e2 : vy = .int j := by simpa only [Den] using dy
  exact ⟨i, j, e1, e2, q.1, h _ _ H0 H st.refl (by simp only [Den]) q.2⟩
theorem dop_I0 {g : Int → Int → Int} : DOp2 G (rI0 fun i j => .int (g i j)) (onI2 fun i j => ret (.int (g i j))) := by
  intro H0 H x y vx vy QD ED Q st dx dy q h
  cases x <;> first | exact (show False from q).elim | skip
  cases y <;> first | exact (show False from q).elim | skip
  rename_i i j
  have e1 : vx = .int i := by simpa only [Den] using dx
  have e2 : vy = .int j := by simpa only [Den] using dy
  exact ⟨i, j, e1, e2, h _ _ H0 H st.refl (by simp only [Den]) q⟩
theorem dop_B0 {g : Int → Int → Bool} : DOp2 G (rI0 fun i j => .bl (g i j)) (onI2 fun i j => ret (.bl (g i j))) := by
  intro H0 H x y vx vy QD ED Q st dx dy q h
  cases x <;> first | exact (show False from q).elim | skip
  cases y <;> first | exact (show False from q).elim | skip
  rename_i i j
  have e1 : vx = .int i := by simpa only [Den] using dx
  have e2 : vy = .int j := by simpa only [Den] using dy
  exact ⟨i, j, e1, e2, h _ _ H0 H st.refl (by simp only [Den]) q⟩
end
end DL
end
section
set_option Elab.async false
set_option linter.all false
set_option maxRecDepth 100000
set_option maxHeartbeats 2000000
set_option autoImplicit false
/-! DC0: a tuple repeated not at all, once. -/
namespace DL
open PySem PySem.Spec L2 PyProof.Rows
section
variable {X : Cx}
theorem tuple_mulS (l : Addr) (items : Array Value) (n : Nat) (dd : Option Addr) (sl : Array (Option Value)) (x : Int) (u : Tok) (c0 : (decide (x < -(2 ^ 63)) || decide (x ≥ 2 ^ 63)) = false) (c1 : (items.isEmpty || x == 1) = true) :
    Meets (Builtin.«tuple.__mul__» ⟨[.ref l, .int x u], []⟩) (fun _ R s => s.heap.get? l = some { cls := .type "tuple", dict := dd, data := .seq items n, slots := sl } ∧ R (.ok (.ret (Value.ref l))) s) :=
  .of_wp fun prog w A R s h => by
    obtain ⟨hp, g, d, tk, os⟩ := s
    obtain ⟨hl, h⟩ := h
    have f1 := AutoSeq1.idx_int
    wp_walk using wpAny_loadPart' hl
    repeat (first
      | (refine wpAny_ite_false (decide_eq_false (by rw [c0]; exact Bool.false_ne_true)) ?_; wp_walk using wpAny_loadPart' hl)
      | (refine wpAny_ite_true (decide_eq_true c1) ?_; wp_walk using wpAny_loadPart' hl)
      | (refine wpAny_ite_true (by simp) ?_; wp_walk using wpAny_loadPart' hl))
    exact ⟨_, rfl, h⟩
theorem tuple_mul0 (l : Addr) (items : Array Value) (n : Nat) (dd : Option Addr) (sl : Array (Option Value)) (x : Int) (u : Tok) (c0 : (decide (x < -(2 ^ 63)) || decide (x ≥ 2 ^ 63)) = false) (c1 : (items.isEmpty || x == 1) = false) (c2 : (decide (x ≤ 0) || items.isEmpty) = true) :
    Meets (Builtin.«tuple.__mul__» ⟨[.ref l, .int x u], []⟩) (fun _ R s => s.heap.get? l = some { cls := .type "tuple", dict := dd, data := .seq items n, slots := sl } ∧
      R (.ok (.ret (Value.ref s.heap.objs.size))) { s with heap := s.heap.push { cls := Value.type "tuple", data := Data.seq #[] }, toks := s.toks }) :=
  .of_wp fun prog w A R s h => by
    obtain ⟨hp, g, d, tk, os⟩ := s
    obtain ⟨hl, h⟩ := h
    have f1 := AutoSeq1.idx_int
    wp_walk using wpAny_loadPart' hl
    repeat (first
      | (refine wpAny_ite_false (decide_eq_false (by rw [c0]; exact Bool.false_ne_true)) ?_; wp_walk using wpAny_loadPart' hl)
      | (refine wpAny_ite_false (decide_eq_false (by rw [c1]; exact Bool.false_ne_true)) ?_; wp_walk using wpAny_loadPart' hl)
      | (refine wpAny_ite_true (decide_eq_true c2) ?_; wp_walk using wpAny_loadPart' hl))
    exact ⟨_, rfl, h⟩
def rRepS (K : PySem.W.Frag) : R2 := fun x y H Q => ∃ l k xs, x = .ref l ∧ y = .int k ∧ SqT K H l xs ∧ -(2 ^ 63) ≤ k ∧ k < 2 ^ 63 ∧ (((xs = [] ∨ k = 1) ∧ Q (.ref l) H) ∨ (xs ≠ [] ∧ k ≤ 0 ∧ ∀ p, H p = none → Q (.ref p) (upd H p (.tup []))))
theorem op_repS : OpR X (binaryOp .Mult) (rRepS X.K) := by
  intro pins s σ H x y v u Q I rx ry h
  obtain ⟨l, k, xs, rfl, rfl, hT, h1, h2, q⟩ := h
  cases rx
  obtain ⟨t, rfl⟩ := ry
  obtain ⟨its, r, ⟨⟨cls, dd, data, sl⟩, ho, hc, n, hd⟩, hs⟩ := I.tuple hT
  simp only at hc hd
  subst hc hd
  have hle : its.length = xs.length := r.length.symm
  have c0 : (decide (k < -(2 ^ 63)) || decide (k ≥ 2 ^ 63)) = false := by
    rw [decide_eq_false (by omega), decide_eq_false (by omega)] <;> rfl
  rcases q with ⟨hq, q⟩ | ⟨hne, hk, q⟩
  · have c1 : (its.toArray.isEmpty || k == 1) = true := by
      rcases hq with e | e
      · have : its = [] := List.eq_nil_of_length_eq_zero (by rw [hle, e]; rfl)
        subst this
        rfl
      · subst e
        simp
    refine wpAny_binaryOp_repeat_ref (T := "tuple") (U := "int") (by decide) ⟨_, ho, rfl⟩ (fun s' => typeIs_int s' k t) noFill_tuple_mul F.fills_int_mul F.slot_int_rmul repeat_tuple F.slot_int_index.lookup
      (call_meets F.slot_int_rmul (typeIs_int s k t) F.entry_int_rmul (F.args_int_rmul_2 _ _) (int_rmul_tuple k t l its.toArray n dd sl)
        ⟨ho, rfl, ⟨_, ho, rfl⟩, call_meets F.slot_tuple_mul ⟨_, ho, rfl⟩ F.entry_tuple_mul (F.args_tuple_mul_2 _ _) (tuple_mulS l its.toArray n dd sl k t c0 c1) ⟨ho, ?_⟩⟩)
    exact ⟨.ref l, H, I, rfl, q⟩
  · have hn : its ≠ [] := fun e => hne (by
      rw [e] at hle
      exact List.eq_nil_of_length_eq_zero hle.symm)
    have hi : its.toArray.isEmpty = false := by
      cases its with
      | nil => exact absurd rfl hn
      | cons a b => rfl
    have c1 : (its.toArray.isEmpty || k == 1) = false := by
      rw [hi, Bool.false_or]
      exact beq_eq_false_iff_ne.mpr (by omega)
    have c2 : (decide (k ≤ 0) || its.toArray.isEmpty) = true := by
      rw [decide_eq_true hk]; rfl
    refine wpAny_binaryOp_repeat_ref (T := "tuple") (U := "int") (by decide) ⟨_, ho, rfl⟩ (fun s' => typeIs_int s' k t) noFill_tuple_mul F.fills_int_mul F.slot_int_rmul repeat_tuple F.slot_int_index.lookup
      (call_meets F.slot_int_rmul (typeIs_int s k t) F.entry_int_rmul (F.args_int_rmul_2 _ _) (int_rmul_tuple k t l its.toArray n dd sl)
        ⟨ho, rfl, ⟨_, ho, rfl⟩, call_meets F.slot_tuple_mul ⟨_, ho, rfl⟩ F.entry_tuple_mul (F.args_tuple_mul_2 _ _) (tuple_mul0 l its.toArray n dd sl k t c0 c1 c2) ⟨ho, ?_⟩⟩)
    refine ⟨.ref s.heap.objs.size, _, I.laid (t' := s.toks) (o := .tup []) (fun b ob q => Heap.get?_push_of_some _ q) (Nat.le_refl _) ?_, rfl, q _ (I.hok.fresh (Nat.le_refl _))⟩
    exact ⟨by rw [sizeLine_eq]; simp, [], .nil, IsTup.new _ _⟩
end
end DL
end
section
set_option Elab.async false
set_option linter.all false
set_option maxRecDepth 100000
set_option maxHeartbeats 1000000
set_option autoImplicit false
/-! DC: literals, sums, tests, displays, subscripts, attributes, calls of defs and of built-ins, at the level of data. -/
namespace DL
open PySem PySem.Spec L2
section
variable {X : Cx} {B : Bx} {a b c e : Expr} {es rest : List Expr} {wa wb wc : Env → W D} {ta tb tc : Env → W Bool} {pos : Pos} {G : Gx}
/-! ### literals -/
theorem de_int {i : Int} {j : Nat} {pos : Pos} : DE X B (.Constant (.int i) j pos) (fun _ => ret (.int i)) := de_lit pe_int fun _ => by simp only [Den]
theorem de_bl {b : Bool} {j : Nat} {pos : Pos} : DE X B (.Constant (.bool b) j pos) (fun _ => ret (.bl b)) := de_lit pe_bl fun _ => by simp only [Den]
theorem de_non {j : Nat} {pos : Pos} : DE X B (.Constant .none j pos) (fun _ => ret .non) := de_lit pe_non fun _ => by simp only [Den]
theorem de_str {x : Str} {j : Nat} {pos : Pos} : DE X B (.Constant (.str x) j pos) (fun _ => ret (.str x)) := de_lit pe_str fun _ => by simp only [Den]
/-- a module's name: d is what it holds -/
theorem de_glob {x : Str} {v : V} {u : Value} {d : D} {pos : Pos} (hd : ∀ H0, Den B.G H0 d v) (hg : Gl X x) (hm : X.mg x = some u) (r : RelV v u) (hdb : (x == ("__debug__" : Str)) = false := by decide) : DE X B (.Name x pos) (fun _ => ret d) :=
  de_lit (pe_glob hg hm r hdb) hd
/-! ### sums, products -/
def addD : D → D → W D
  | .int i, .int j => ret (.int (i + j))
  | .lst xs, .lst ys => grd (xs.length + ys.length ≤ sizeLine) (ret (.lst (xs ++ ys)))
  | .tup xs, .tup ys => grd (xs.length + ys.length ≤ sizeLine) (ret (.tup (xs ++ ys)))
  | .str x, .str y => grd (x.length + y.length ≤ sizeLine) (ret (.str (x ++ y)))
  | _, _ => stk
theorem den_int {H : Hp} {i : Int} {v : V} (h : Den G H (.int i) v) : v = .int i := by simpa only [Den] using h
theorem den_bl {H : Hp} {i : Bool} {v : V} (h : Den G H (.bl i) v) : v = .bl i := by simpa only [Den] using h
theorem den_str {H : Hp} {i : Str} {v : V} (h : Den G H (.str i) v) : v = .str i := by simpa only [Den] using h
theorem den_non {H : Hp} {v : V} (h : Den G H .non v) : v = .non := by simpa only [Den] using h
theorem den_tup {H : Hp} {xs : List D} {v : V} (h : Den G H (.tup xs) v) : ∃ a vs, v = .ref a ∧ SqT G.K H a vs ∧ Dens G H xs vs := by simpa only [Den] using h
theorem den_lst {H : Hp} {xs : List D} {v : V} (h : Den G H (.lst xs) v) : ∃ a vs, v = .ref a ∧ H a = some (.lst vs) ∧ Dens G H xs vs := by simpa only [Den] using h
theorem of_int {H : Hp} {i : Int} : Den G H (.int i) (.int i) := by simp only [Den]
theorem of_bl {H : Hp} {i : Bool} : Den G H (.bl i) (.bl i) := by simp only [Den]
theorem of_str {H : Hp} {i : Str} : Den G H (.str i) (.str i) := by simp only [Den]
theorem of_non {H : Hp} : Den G H .non .non := by simp only [Den]
theorem of_tup {H : Hp} {xs : List D} {a : Addr} {vs : List V} (h : H a = some (.tup vs)) (d : Dens G H xs vs) : Den G H (.tup xs) (.ref a) := by simp only [Den]; exact ⟨a, vs, rfl, .of h, d⟩
theorem of_lst {H : Hp} {xs : List D} {a : Addr} {vs : List V} (h : H a = some (.lst vs)) (d : Dens G H xs vs) : Den G H (.lst xs) (.ref a) := by simp only [Den]; exact ⟨a, vs, rfl, h, d⟩
theorem SqT.up {K : PySem.W.Frag} {H0 H : Hp} (z : Same H0 H) {a : Addr} {xs : List V} (h : SqT K H0 a xs) : SqT K H a xs := SqT.same z h
theorem Dens.nil_iff {H : Hp} {xs : List D} {vs : List V} (h : Dens G H xs vs) : vs = [] ↔ xs = [] := by
  have := h.length
  constructor
  · intro e; subst e; exact List.length_eq_zero_iff.mp this
  · intro e; subst e; exact h.unnil
theorem op_addAll : OpR X (binaryOp .Add) (fun x y H Q => rI0 (fun i j => .int (i + j)) x y H Q ∨ rCatA X.K x y H Q ∨ rCat x y H Q ∨ (∃ i j, x = .str i ∧ y = .str j ∧ i.length + j.length ≤ sizeLine ∧ Q (.str (i ++ j)) H)) :=
  op_add.or (op_catA.or (op_cat.or op_add_str))
theorem dop_add (hK : X.K = G.K) : DOp2 G (fun x y H Q => rI0 (fun i j => .int (i + j)) x y H Q ∨ rCatA X.K x y H Q ∨ rCat x y H Q ∨ (∃ i j, x = .str i ∧ y = .str j ∧ i.length + j.length ≤ sizeLine ∧ Q (.str (i ++ j)) H)) addD := by
  intro H0 H x y vx vy QD ED Q st dx dy q h
  cases x <;> cases y <;> first | exact (show False from q).elim | skip
  · exact .inl ⟨_, _, den_int dx, den_int dy, h _ _ H0 H st.refl of_int q⟩
  · exact .inr (.inr (.inr ⟨_, _, den_str dx, den_str dy, q.1, h _ _ H0 H st.refl of_str q.2⟩))
  · rename_i xs ys
    obtain ⟨a, us, e1, s1, d1⟩ := den_tup dx
    obtain ⟨b, ws, e2, s2, d2⟩ := den_tup dy
    refine .inr (.inl ⟨a, b, us, ws, e1, e2, by rw [hK]; exact SqT.up st.z s1, by rw [hK]; exact SqT.up st.z s2, by rw [← d1.length, ← d2.length]; exact q.1, fun e => ?_, fun _ e => ?_, fun _ _ p hp => ?_⟩)
    · have ex := d1.nil_iff.mp e
      refine h _ _ H0 H st.refl ?_ q.2
      rw [ex, List.nil_append, ← e2]
      exact dy
    · have ey := d2.nil_iff.mp e
      refine h _ _ H0 H st.refl ?_ q.2
      rw [ey, List.append_nil, ← e1]
      exact dx
    · have x := Ext.put st hp (.tup (us ++ ws))
      exact h _ _ _ _ x (of_tup upd_same ((d1.same x.z).append (d2.same x.z))) q.2
  · rename_i xs ys
    obtain ⟨a, us, e1, s1, d1⟩ := den_lst dx
    obtain ⟨b, ws, e2, s2, d2⟩ := den_lst dy
    refine .inr (.inr (.inl ⟨a, b, us, ws, e1, e2, st.z _ _ s1, st.z _ _ s2, by rw [← d1.length, ← d2.length]; exact q.1, fun p hp => ?_⟩))
    have x := Ext.put st hp (.lst (us ++ ws))
    exact h _ _ _ _ x (of_lst upd_same ((d1.same x.z).append (d2.same x.z))) q.2
theorem de_add (hK : X.K = B.G.K) (ha : DE X B a wa) (hb : DE X B b wb) : DE X B (.BinOp a .Add b pos) (fun ρ => bnd (wa ρ) fun x => bnd (wb ρ) fun y => addD x y) := de_op op_addAll (dop_add hK) ha hb
def subD : D → D → W D := onI2 fun i j => ret (.int (i - j))
theorem de_sub (ha : DE X B a wa) (hb : DE X B b wb) : DE X B (.BinOp a .Sub b pos) (fun ρ => bnd (wa ρ) fun x => bnd (wb ρ) fun y => subD x y) := de_op op_sub dop_I0 ha hb
def MulOk (i j : Int) : Prop := CMul i j ∨ CMulW i j
theorem op_mulA : OpR X (binaryOp .Mult) (rI MulOk fun i j => .int (i * j)) := opI fun _ _ _ _ _ _ _ hc q => PyProof.Rows.mul_int q (hc.elim CMul.ok CMulW.ok)
def mulD : D → D → W D
  | .int i, .int j => grd (MulOk i j) (ret (.int (i * j)))
  | .lst xs, .int k => grd (xs.length * k.toNat ≤ sizeLine ∧ k < 2 ^ 63 ∧ -(2 ^ 63) ≤ k) (ret (.lst (List.replicate k.toNat xs).flatten))
  | .tup xs, .int k => grd (-1000 ≤ k ∧ k ≤ 1000 ∧ xs.length ≤ 1000) (ret (.tup (List.replicate k.toNat xs).flatten))
  | _, _ => stk
theorem Dens.rep {H : Hp} {xs : List D} {vs : List V} (h : Dens G H xs vs) : ∀ n : Nat, Dens G H (List.replicate n xs).flatten (List.replicate n vs).flatten
  | 0 => .nil
  | n + 1 => by
    rw [List.replicate_succ, List.replicate_succ, List.flatten_cons, List.flatten_cons]
    exact h.append (Dens.rep h n)
theorem dop_mul (hK : X.K = G.K) : DOp2 G (fun x y H Q => rI MulOk (fun i j => .int (i * j)) x y H Q ∨ rRep x y H Q ∨ rRepT X.K x y H Q ∨ rRepS X.K x y H Q) mulD := by
  intro H0 H x y vx vy QD ED Q st dx dy q h
  cases x <;> cases y <;> first | exact (show False from q).elim | skip
  · exact .inl ⟨_, _, den_int dx, den_int dy, q.1, h _ _ H0 H st.refl of_int q.2⟩
  · rename_i xs k
    obtain ⟨a, us, e1, s1, d1⟩ := den_tup dx
    obtain ⟨⟨q2, q3, q4⟩, q5⟩ := q
    have sT : SqT X.K H a us := by rw [hK]; exact SqT.up st.z s1
    subst e1
    have e1 : V.ref a = V.ref a := rfl
    by_cases z0 : us = []
    · have e0 := d1.nil_iff.mp z0
      refine .inr (.inr (.inr ⟨a, k, us, e1, den_int dy, sT, by omega, by omega, .inl ⟨.inl z0, h _ _ H0 H st.refl ?_ q5⟩⟩))
      rw [e0]
      have : (List.replicate k.toNat ([] : List D)).flatten = [] := by simp
      rw [this]
      exact e0 ▸ dx
    · by_cases z1 : k = 1
      · subst z1
        refine .inr (.inr (.inr ⟨a, 1, us, e1, den_int dy, sT, by omega, by omega, .inl ⟨.inr rfl, h _ _ H0 H st.refl ?_ q5⟩⟩))
        have : (List.replicate (1 : Int).toNat xs).flatten = xs := by simp
        rw [this]
        exact dx
      · by_cases z2 : k ≤ 0
        · refine .inr (.inr (.inr ⟨a, k, us, e1, den_int dy, sT, by omega, by omega, .inr ⟨z0, z2, fun p hp => ?_⟩⟩))
          have x := Ext.put st hp (.tup [])
          have e : k.toNat = 0 := by omega
          rw [e] at q5
          exact h _ _ _ _ x (of_tup upd_same (by simp; exact .nil)) q5
        · refine .inr (.inr (.inl ⟨a, k, us, e1, den_int dy, sT, z0, by omega, q3, by rw [← d1.length]; exact q4, fun p hp => ?_⟩))
          have x := Ext.put st hp (.tup (List.replicate k.toNat us).flatten)
          exact h _ _ _ _ x (of_tup upd_same ((d1.same x.z).rep _)) q5
  · rename_i xs k
    obtain ⟨a, us, e1, s1, d1⟩ := den_lst dx
    obtain ⟨⟨q3, q1, q2⟩, q5⟩ := q
    refine .inr (.inl ⟨a, k, us, e1, den_int dy, st.z _ _ s1, q2, q1, by rw [← d1.length]; exact q3, fun p hp => ?_⟩)
    have x := Ext.put st hp (.lst (List.replicate k.toNat us).flatten)
    exact h _ _ _ _ x (of_lst upd_same ((d1.same x.z).rep _)) q5
theorem de_mul (hK : X.K = B.G.K) (ha : DE X B a wa) (hb : DE X B b wb) : DE X B (.BinOp a .Mult b pos) (fun ρ => bnd (wa ρ) fun x => bnd (wb ρ) fun y => mulD x y) := de_op (op_mulA.or (op_rep.or (op_repT.or op_repS))) (dop_mul hK) ha hb
def modD : D → D → W D := onI2 fun i j => grd (0 < j) (ret (.int (i % j)))
theorem de_mod (ha : DE X B a wa) (hb : DE X B b wb) : DE X B (.BinOp a .Mod b pos) (fun ρ => bnd (wa ρ) fun x => bnd (wb ρ) fun y => modD x y) := de_op op_mod dop_I ha hb
def divD : D → D → W D := onI2 fun i j => grd (CDivW i j) (ret (.int (i / j)))
theorem de_div (ha : DE X B a wa) (hb : DE X B b wb) : DE X B (.BinOp a .FloorDiv b pos) (fun ρ => bnd (wa ρ) fun x => bnd (wb ρ) fun y => divD x y) := de_op op_fdivW dop_I ha hb
def powD : D → D → W D := onI2 fun i j => grd (CPow i j) (ret (.int (i ^ j.toNat)))
theorem de_pow (ha : DE X B a wa) (hb : DE X B b wb) : DE X B (.BinOp a .Pow b pos) (fun ρ => bnd (wa ρ) fun x => bnd (wb ρ) fun y => powD x y) := de_op op_pow dop_I ha hb
def shlD : D → D → W D := onI2 fun i j => grd (CPow i j) (ret (.int (i * 2 ^ j.toNat)))
theorem de_shl (ha : DE X B a wa) (hb : DE X B b wb) : DE X B (.BinOp a .LShift b pos) (fun ρ => bnd (wa ρ) fun x => bnd (wb ρ) fun y => shlD x y) := de_op op_shl dop_I ha hb
def andD : D → D → W D := onI2 fun i j => ret (.int (Builtin.bitAnd i j))
theorem de_band (ha : DE X B a wa) (hb : DE X B b wb) : DE X B (.BinOp a .BitAnd b pos) (fun ρ => bnd (wa ρ) fun x => bnd (wb ρ) fun y => andD x y) := de_op op_and dop_I0 ha hb
def orD : D → D → W D := onI2 fun i j => ret (.int (Builtin.bitOr i j))
theorem de_bor (ha : DE X B a wa) (hb : DE X B b wb) : DE X B (.BinOp a .BitOr b pos) (fun ρ => bnd (wa ρ) fun x => bnd (wb ρ) fun y => orD x y) := de_op op_or dop_I0 ha hb
def negD : D → W D
  | .int i => ret (.int (-i))
  | _ => stk
theorem de_neg (ha : DE X B a wa) : DE X B (.UnaryOp .USub a pos) (fun ρ => bnd (wa ρ) fun x => negD x) := de_un un_neg (by
  intro H0 H x vx QD ED Q st dx q h
  cases x <;> first | exact (show False from q).elim | skip
  exact ⟨_, den_int dx, h _ _ H0 H st.refl of_int q⟩) ha
/-! ### order of ints -/
abbrev cmpI (g : Int → Int → Bool) : D → D → W D := onI2 fun i j => ret (.bl (g i j))
abbrev ltD : D → D → W D := cmpI fun i j => decide (i < j)
abbrev leD : D → D → W D := cmpI fun i j => decide (i ≤ j)
abbrev gtD : D → D → W D := cmpI fun i j => decide (j < i)
abbrev geD : D → D → W D := cmpI fun i j => decide (j ≤ i)
theorem d_lt : DOp2 G (rI0 fun i j => .bl (decide (i < j))) ltD := dop_B0
theorem d_le : DOp2 G (rI0 fun i j => .bl (decide (i ≤ j))) leD := dop_B0
theorem d_gt : DOp2 G (rI0 fun i j => .bl (decide (j < i))) gtD := dop_B0
theorem d_ge : DOp2 G (rI0 fun i j => .bl (decide (j ≤ i))) geD := dop_B0
/-! ### is None -/
def isNon : D → Bool
  | .non => true
  | _ => false
theorem Den.non_iff {H : Hp} {x : D} {v : V} (h : Den G H x v) : decide (v = .non) = isNon x := by
  cases x with
  | non => rw [den_non h]; rfl
  | bl b => rw [den_bl h]; rfl
  | int b => rw [den_int h]; rfl
  | str b => rw [den_str h]; rfl
  | tup xs => obtain ⟨a, vs, e, _⟩ := den_tup h; rw [e]; rfl
  | lst xs => obtain ⟨a, vs, e, _⟩ := den_lst h; rw [e]; rfl
  | dic ks us => simp only [Den] at h; obtain ⟨a, vs, e, _⟩ := h; rw [e]; rfl
  | ins c fs => simp only [Den] at h; obtain ⟨a, dx, vs, e, _⟩ := h; rw [e]; rfl
  | clo i cs => simp only [Den] at h; obtain ⟨a, vs, e, _⟩ := h; rw [e]; rfl
  | hnd => simp only [Den] at h; obtain ⟨a, e, _⟩ := h; rw [e]; rfl
  | scr ns => simp only [Den] at h; obtain ⟨a, e, _⟩ := h; rw [e]; rfl
def isD : D → D → W D := fun x y => match y with
  | .non => ret (.bl (isNon x))
  | _ => stk
def isnotD : D → D → W D := fun x y => match y with
  | .non => ret (.bl (!isNon x))
  | _ => stk
theorem d_is : DOp2 G (fun x y H Q => y = .non ∧ Q (.bl (decide (x = .non))) H) isD := by
  intro H0 H x y vx vy QD ED Q st dx dy q h
  cases y <;> first | exact (show False from q).elim | skip
  exact ⟨den_non dy, h _ _ H0 H st.refl (by rw [dx.non_iff]; exact of_bl) q⟩
theorem d_isnot : DOp2 G (fun x y H Q => y = .non ∧ Q (.bl (!decide (x = .non))) H) isnotD := by
  intro H0 H x y vx vy QD ED Q st dx dy q h
  cases y <;> first | exact (show False from q).elim | skip
  exact ⟨den_non dy, h _ _ H0 H st.refl (by rw [dx.non_iff]; exact of_bl) q⟩
end
end DL
end
section
set_option Elab.async false
set_option linter.all false
set_option maxRecDepth 100000
set_option maxHeartbeats 1000000
set_option autoImplicit false
/-! DD: tests, argument lists, displays, subscripts, attributes, calls. -/
namespace DL
open PySem PySem.Spec L2
section
variable {X : Cx} {B : Bx} {a b c e : Expr} {es rest : List Expr} {wa wb wc : Env → W D} {ta tb tc : Env → W Bool} {pos : Pos} {G : Gx}
/-! ### tests -/
theorem liftT_imp {w : Env → W Bool} {σ : L2.St} {H : Hp} {Q Q' : Bool → Hp → Prop} (h : liftT B w σ H Q) (i : ∀ b H', Q b H' → Q' b H') : liftT B w σ H Q' :=
  let ⟨ρ, H0, QD, k, q, h⟩ := h
  ⟨ρ, H0, QD, k, q, fun b H1 H2 x q => i b H2 (h b H1 H2 x q)⟩
def andT (x y : W Bool) : W Bool := bnd x fun c => if c = true then y else ret false
def orT (x y : W Bool) : W Bool := bnd x fun c => if c = true then ret true else y
def notT (x : W Bool) : W Bool := bnd x fun c => ret (!c)
theorem dt_and1 (ha : DT X B a ta) : PW X (.BoolOp .And [a] pos) (liftT B ta) := pw_and1 ha
theorem dt_or1 (ha : DT X B a ta) : PW X (.BoolOp .Or [a] pos) (liftT B ta) := pw_or1 ha
theorem PW.imp {e : Expr} {t t' : TT} (h : PW X e t) (i : ∀ σ H Q, t' σ H Q → t σ H Q) : PW X e t' := ⟨fun w pins s σ H Q I q => h.run w pins s σ H Q I (i σ H Q q)⟩
theorem dt_and (ha : DT X B a ta) (hb : PW X (.BoolOp .And (b :: rest) pos) (liftT B tb)) : PW X (.BoolOp .And (a :: b :: rest) pos) (liftT B fun ρ => andT (ta ρ) (tb ρ)) := by
  refine PW.imp (pw_and ha hb) fun σ H Q ⟨ρ, H0, QD, k, q, h⟩ => ⟨ρ, H0, _, k, q, fun b H1 H2 x q1 => ?_⟩
  cases b with
  | true => exact iteT ⟨ρ, H1, QD, k.later x, q1, fun b H3 H4 x2 q2 => h b H3 H4 (x.trans x2) q2⟩
  | false => exact iteF (h false H1 H2 x q1)
theorem dt_or (ha : DT X B a ta) (hb : PW X (.BoolOp .Or (b :: rest) pos) (liftT B tb)) : PW X (.BoolOp .Or (a :: b :: rest) pos) (liftT B fun ρ => orT (ta ρ) (tb ρ)) := by
  refine PW.imp (pw_or ha hb) fun σ H Q ⟨ρ, H0, QD, k, q, h⟩ => ⟨ρ, H0, _, k, q, fun b H1 H2 x q1 => ?_⟩
  cases b with
  | false => exact iteF ⟨ρ, H1, QD, k.later x, q1, fun b H3 H4 x2 q2 => h b H3 H4 (x.trans x2) q2⟩
  | true => exact iteT (h true H1 H2 x q1)
theorem dt_not (ha : DT X B a ta) : DT X B (.UnaryOp .Not a pos) (fun ρ => notT (ta ρ)) :=
  PT.imp (pt_not ha) fun σ H Q ⟨ρ, H0, QD, k, q, h⟩ => ⟨ρ, H0, _, k, q, fun b H1 H2 x q1 => h (!b) H1 H2 x q1⟩
/-- a value's truth -/
def truD : D → W Bool
  | .non => ret false
  | .bl b => ret b
  | .int i => ret (i != 0)
  | .str x => grd (x.length ≤ sizeLine) (ret ((x.length : Int) != 0))
  | .tup xs => ret (!xs.isEmpty)
  | .lst xs => ret (!xs.isEmpty)
  | _ => stk
theorem Dens.isEmpty {H : Hp} {xs : List D} {vs : List V} (h : Dens G H xs vs) : vs.isEmpty = xs.isEmpty := by
  have := h.length
  cases xs <;> cases vs <;> simp_all
theorem dt_truth (hK : X.K = B.G.K) (ha : DE X B a wa) (he : ∀ whole, isTrue a X.env whole = (do let v ← whole; standAt a.pos; holding [v] (truthy v)) := by intro _; rfl) : DT X B a (fun ρ => bnd (wa ρ) truD) := by
  refine PT.imp (pt_truth ha he) fun σ H Q ⟨ρ, H0, QD, k, q, h⟩ => ⟨ρ, H0, _, k, q, fun d v H1 H2 x dd q1 => ?_⟩
  have st := x.st
  cases d <;> first | exact (show False from q1).elim | skip
  · rw [den_non dd]; exact ⟨false, rfl, h _ H1 H2 x q1⟩
  · rw [den_bl dd]; exact ⟨_, rfl, h _ H1 H2 x q1⟩
  · rw [den_int dd]; exact ⟨_, rfl, h _ H1 H2 x q1⟩
  · rw [den_str dd]; exact ⟨_, ⟨q1.1, rfl⟩, h _ H1 H2 x q1.2⟩
  · obtain ⟨p, vs, e, s, ds⟩ := den_tup dd
    rw [e]
    exact ⟨_, .inr (.inl ⟨vs, by rw [hK]; exact SqT.up st.z s, rfl⟩), h _ H1 H2 x (by rw [ds.isEmpty]; exact q1)⟩
  · obtain ⟨p, vs, e, s, ds⟩ := den_lst dd
    rw [e]
    exact ⟨_, .inl ⟨vs, .of (st.z _ _ s), rfl⟩, h _ H1 H2 x (by rw [ds.isEmpty]; exact q1)⟩
/-- and, or, not as values: bools -/
theorem de_one {op : BoolOp} (ha : DE X B a wa) : DE X B (.BoolOp op [a] pos) wa := pe_one ha
theorem de_and (ha : DE X B a wa) (hb : DE X B (.BoolOp .And (b :: rest) pos) wb) : DE X B (.BoolOp .And (a :: b :: rest) pos) (fun ρ => bnd (bnd (wa ρ) asB) fun k => if k = true then wb ρ else ret (.bl false)) := by
  refine PE.imp (pe_and ha hb) fun σ H Q ⟨ρ, H0, QD, k, q, h⟩ => ⟨ρ, H0, _, k, q, fun d v H1 H2 x dd q1 => ?_⟩
  cases d <;> first | exact (show False from q1).elim | skip
  rename_i t
  refine ⟨t, den_bl dd, ?_⟩
  cases t with
  | true => exact iteT ⟨ρ, H1, QD, k.later x, q1, fun d v H3 H4 x2 d2 q2 => h d v H3 H4 (x.trans x2) d2 q2⟩
  | false => exact iteF (h _ _ H1 H2 x of_bl q1)
theorem de_or (ha : DE X B a wa) (hb : DE X B (.BoolOp .Or (b :: rest) pos) wb) : DE X B (.BoolOp .Or (a :: b :: rest) pos) (fun ρ => bnd (bnd (wa ρ) asB) fun k => if k = true then ret (.bl true) else wb ρ) := by
  refine PE.imp (pe_or ha hb) fun σ H Q ⟨ρ, H0, QD, k, q, h⟩ => ⟨ρ, H0, _, k, q, fun d v H1 H2 x dd q1 => ?_⟩
  cases d <;> first | exact (show False from q1).elim | skip
  rename_i t
  refine ⟨t, den_bl dd, ?_⟩
  cases t with
  | false => exact iteF ⟨ρ, H1, QD, k.later x, q1, fun d v H3 H4 x2 d2 q2 => h d v H3 H4 (x.trans x2) d2 q2⟩
  | true => exact iteT (h _ _ H1 H2 x of_bl q1)
theorem de_not (ha : DE X B a wa) : DE X B (.UnaryOp .Not a pos) (fun ρ => bnd (bnd (wa ρ) asB) fun k => ret (.bl (!k))) := by
  refine PE.imp (pe_not ha) fun σ H Q ⟨ρ, H0, QD, k, q, h⟩ => ⟨ρ, H0, _, k, q, fun d v H1 H2 x dd q1 => ?_⟩
  cases d <;> first | exact (show False from q1).elim | skip
  exact ⟨_, den_bl dd, h _ _ H1 H2 x of_bl q1⟩
theorem de_if {c : Expr} (hc : DT X B c tc) (ha : DE X B a wa) (hb : DE X B b wb) : DE X B (.IfExp c a b pos) (fun ρ => bnd (tc ρ) fun k => if k = true then wa ρ else wb ρ) := by
  refine PE.imp (pe_ifExp hc ha hb) fun σ H Q ⟨ρ, H0, QD, k, q, h⟩ => ⟨ρ, H0, _, k, q, fun t H1 H2 x q1 => ?_⟩
  cases t with
  | true => exact iteT ⟨ρ, H1, QD, k.later x, q1, fun d v H3 H4 x2 d2 q2 => h d v H3 H4 (x.trans x2) d2 q2⟩
  | false => exact iteF ⟨ρ, H1, QD, k.later x, q1, fun d v H3 H4 x2 d2 q2 => h d v H3 H4 (x.trans x2) d2 q2⟩
/-! ### argument lists, displays -/
theorem da_nil : DA X B 0 [] (fun _ => ret []) := PA.imp pa_nil fun σ H Q ⟨ρ, H0, QD, k, q, h⟩ => h [] [] H0 H k.refl .nil rfl q
theorem da_cons {n : Nat} {wr : Env → W (List D)} (ha : DE X B e wa) (hr : DA X B n es wr) (hs : starEach (e :: es) X.env = (false, eval e X.env) :: starEach es X.env := by rfl) :
    DA X B (n + 1) (e :: es) (fun ρ => bnd (wa ρ) fun x => bnd (wr ρ) fun xs => ret (x :: xs)) := by
  refine PA.imp (pa_cons ha hr hs) fun σ H Q ⟨ρ, H0, QD, k, q, h⟩ => ⟨ρ, H0, _, k, q, fun d v H1 H2 x dd q1 => ⟨ρ, H1, _, k.later x, q1, fun ds vs H3 H4 x2 d2 l q2 => ?_⟩⟩
  exact h _ _ H3 H4 (x.trans x2) (.cons (dd.same x2.z) d2) (by rw [List.length_cons, l]) q2
theorem de_tup {n : Nat} {k0 : Nat} {w : Env → W (List D)} (h : DA X B n es w) (hn : n ≤ 1000 := by decide) : DE X B (.Tuple es k0 pos) (fun ρ => bnd (w ρ) fun xs => ret (.tup xs)) := by
  refine PE.imp (pe_tup h) fun σ H Q ⟨ρ, H0, QD, k, q, h⟩ => ⟨ρ, H0, _, k, q, fun ds vs H1 H2 x dd l q1 => ⟨by rw [l, sizeLine_eq]; omega, fun p hp => ?_⟩⟩
  have x2 := Ext.put x.st hp (.tup vs)
  exact h _ _ _ _ (x.trans x2) (of_tup upd_same (dd.same x2.z)) q1
theorem de_lst {n : Nat} {w : Env → W (List D)} (h : DA X B n es w) (hn : n ≤ 1000 := by decide) : DE X B (.List es pos) (fun ρ => bnd (w ρ) fun xs => ret (.lst xs)) := by
  refine PE.imp (pe_lst h) fun σ H Q ⟨ρ, H0, QD, k, q, h⟩ => ⟨ρ, H0, _, k, q, fun ds vs H1 H2 x dd l q1 => ⟨by rw [l, sizeLine_eq]; omega, fun p hp => ?_⟩⟩
  have x2 := Ext.put x.st hp (.lst vs)
  exact h _ _ _ _ (x.trans x2) (of_lst upd_same (dd.same x2.z)) q1
/-! ### subscripts -/
def optW {α : Type} : Option α → W α
  | some a => ret a
  | none => stk
def ixD : D → D → W D
  | .lst xs, .int i => optW (atI xs i)
  | .tup xs, .int i => optW (atI xs i)
  | _, _ => stk
theorem Dens.atI {H : Hp} {xs : List D} {vs : List V} {i : Int} {d : D} (h : Dens G H xs vs) (e : L2.atI xs i = some d) : ∃ v, L2.atI vs i = some v ∧ Den G H d v := by
  unfold L2.atI at e ⊢
  rw [← h.length]
  cases q : ixN xs.length i with
  | none => rw [q] at e; cases e
  | some j =>
    rw [q] at e
    obtain ⟨v, h1, h2⟩ := h.get (show xs[j]? = some d from e)
    exact ⟨v, h1, h2⟩
theorem optW_of {α : Type} {o : Option α} {Q : α → Prop} {E : DX → Prop} (h : optW o Q E) : ∃ a, o = some a ∧ Q a := by
  cases o with
  | none => exact (show False from h).elim
  | some a => exact ⟨a, rfl, h⟩
theorem dop_ix (hK : X.K = G.K) : DOp2 G (fun x y H Q => rIxL X.K x y H Q ∨ rIxT X.K x y H Q) ixD := by
  intro H0 H x y vx vy QD ED Q st dx dy q h
  cases x <;> cases y <;> first | exact (show False from q).elim | skip
  · obtain ⟨a, us, e1, s1, d1⟩ := den_tup dx
    obtain ⟨d, e, q⟩ := optW_of q
    obtain ⟨v, h1, h2⟩ := d1.atI e
    exact .inr ⟨a, us, _, v, e1, den_int dy, by rw [hK]; exact SqT.up st.z s1, h1, h _ _ H0 H st.refl h2 q⟩
  · obtain ⟨a, us, e1, s1, d1⟩ := den_lst dx
    obtain ⟨d, e, q⟩ := optW_of q
    obtain ⟨v, h1, h2⟩ := d1.atI e
    exact .inl ⟨a, us, _, v, e1, den_int dy, .of (st.z _ _ s1), h1, h _ _ H0 H st.refl h2 q⟩
theorem de_ix (hK : X.K = B.G.K) (ha : DE X B a wa) (hb : DE X B b wb) (hs : PlainIx b := by exact fun _ _ => rfl) : DE X B (.Subscript a b pos) (fun ρ => bnd (wa ρ) fun x => bnd (wb ρ) fun y => ixD x y) :=
  PE.imp (pe_ix (ix_list.or ix_tup) ha hb hs) fun _ _ _ h => lift2 (dop_ix hK) h
end
end DL
end
section
set_option Elab.async false
set_option linter.all false
set_option maxRecDepth 100000
set_option maxHeartbeats 1000000
set_option autoImplicit false
/-! DF: attributes, calls of defs, built-ins, isinstance. -/
namespace DL
open PySem PySem.Spec L2
/-! ### what of the text the data layer leans on -/
def tyAs : List String := ["NoneType", "bool", "int", "str", "tuple", "list", "dict"]
def tyBs : List String := ["bool", "int", "str", "tuple", "list", "dict"]
/-- what isinstance asks of an own class -/
structure ClsI (G : Gx) (c : Nat) : Prop where
  cl : Cls G.K (G.cls c)
  ha : PySem.W.findIn G.K (.ref (G.cls c)) "__class__" = some (some (.builtin "object.__class__"))
  hn : PySem.W.specialIn G.K (.builtin "object.__class__") "__get__" = some (some (.builtin "getset_descriptor.__get__"))
  htk : PySem.W.takesIn G.K (.builtin "object.__class__") = some true
  hm : PySem.W.mroIn G.K (G.cls c) (.type "object") = some true
  no : ∀ b ∈ tyBs, PySem.W.kitOne G.K (.ref (G.cls c)) (.type b) = some false
  hno : PySem.W.findIn G.K (.ref (G.cls c)) "__ne__" = some (some (.builtin "object.__ne__"))
  on : ∀ a ∈ tyAs, PySem.W.kitOne G.K (.type a) (.ref (G.cls c)) = some false
/-- of the classes: numbers below n -/
structure GOk (G : Gx) : Prop where
  cls : ∀ c, G.flds c ≠ [] → Cls G.K (G.cls c)
  noat : ∀ c f, f ∈ G.flds c → NoAttr G.K (G.cls c) f
  nd : ∀ c, (G.flds c).Nodup
  small : ∀ c, (G.flds c).length ≤ 100
  ty : ∀ c, G.flds c ≠ [] → ClsI G c
  ne : ∀ c c', G.flds c ≠ [] → G.flds c' ≠ [] → c ≠ c' → PySem.W.kitOne G.K (.ref (G.cls c)) (.ref (G.cls c')) = some false
section
variable {X : Cx} {B : Bx} {a b c e : Expr} {es rest : List Expr} {wa wb wc : Env → W D} {pos : Pos} {G : Gx} {x : Str} {p : Pos}
def lookD (f : Str) : List Str → List D → Option D
  | n :: ns, d :: ds => if f = n then some d else lookD f ns ds
  | _, _ => none
def fldD (G : Gx) (f : Str) : D → W D
  | .ins c fs => optW (lookD f (G.flds c) fs)
  | _ => stk
theorem lookD_look {H : Hp} {f : Str} : ∀ {ns : List Str} {ds : List D} {vs : List V} {d : D}, Dens G H ds vs → lookD f ns ds = some d → f ∈ ns ∧ ∃ v, (ns.zip vs).lookup f = some v ∧ Den G H d v
  | [], _, _, _, _, e => by cases e
  | n :: ns, [], _, _, _, e => by cases e
  | n :: ns, d :: ds, vs, d', h, e => by
    obtain ⟨v, ws, h1, h2, h3⟩ := h.uncons
    subst h1
    unfold lookD at e
    by_cases q : f = n
    · rw [if_pos q] at e
      cases e
      subst q
      exact ⟨List.mem_cons_self, v, by simp [List.lookup], h2⟩
    · rw [if_neg q] at e
      obtain ⟨m, v', l, dd⟩ := lookD_look h3 e
      have hb : (f == n) = false := beq_eq_false_iff_ne.mpr q
      exact ⟨List.mem_cons_of_mem _ m, v', by simp only [List.zip_cons_cons, List.lookup, hb]; exact l, dd⟩
theorem de_fld {f : Str} (hK : X.K = B.G.K) (g : GOk B.G) (ha : DE X B e wa) (hb : attributeBase e f X.env (eval e X.env) = eval e X.env := by rfl) : DE X B (.Attribute e f pos) (fun ρ => bnd (wa ρ) fun x => fldD B.G f x) := by
  refine PE.imp (pe_fld ha hb) fun σ H Q ⟨ρ, H0, QD, k, q, h⟩ => ⟨ρ, H0, _, k, q, fun d v H1 H2 x dd q1 => ?_⟩
  cases d <;> first | exact (show False from q1).elim | skip
  rename_i c fs
  obtain ⟨y, e, q1⟩ := optW_of q1
  simp only [Den] at dd
  obtain ⟨a, dx, vs, ev, s, hl, ds⟩ := dd
  obtain ⟨m, v', l, d'⟩ := lookD_look ds e
  exact ⟨a, _, dx, _, v', ev, x.zz _ _ s, by rw [hK]; exact g.cls c (List.ne_nil_of_mem m), by rw [hK]; exact g.noat c f m, l, h _ _ H1 H2 x d' q1⟩
/-! ### a def's promise at the level of data -/
def EndX (G : Gx) (H0 H : Hp) (ED : DX → Prop) (E : XK) : Prop := ∀ x cls d H0' H', Ext G.T H0 H H0' H' → DenX G H0' x cls d → ED x → E cls d H'
def liftSp (G : Gx) (n : Nat) (s : List D → W D) : Sp := fun vs H Q E => ∃ (H0 : Hp) (ds : List D) (QD : D → Prop) (ED : DX → Prop), vs.length = n ∧ St0 G H0 H ∧ Dens G H0 ds vs ∧ s ds QD ED ∧ End1 G H0 H QD Q ∧ EndX G H0 H ED E
/-- the module's name x is a def of n parameters that does s, in k rooms -/
structure FnH (P : Program) (w : World) (G : Gx) (mg : Str → Option Value) (base : Heap) (x : Str) (n k : Nat) (s : List D → W D) : Prop where
  ex : ∃ (f : Addr) (fd : FuncData) (ps : List Str), ps.length = n ∧ mg x = some (.ref f) ∧ PySem.W.keepIn G.K (.ref f) = true ∧ L2.Binds G.K fd ps [] ∧ FnOk P w G.K mg base (L2.CX P w) k f fd ps (liftSp G n s)
theorem FnH.mono {P : Program} {w : World} {G : Gx} {mg : Str → Option Value} {base : Heap} {x : Str} {n k j : Nat} {s : List D → W D} (F : FnH P w G mg base x n j s) (h : j ≤ k) : FnH P w G mg base x n k s :=
  let ⟨f, fd, ps, h1, h2, h3, h4, h5⟩ := F.ex
  ⟨f, fd, ps, h1, h2, h3, h4, h5.mono h⟩
theorem FnH.imp {P : Program} {w : World} {G : Gx} {mg : Str → Option Value} {base : Heap} {x : Str} {n k : Nat} {s s' : List D → W D} (F : FnH P w G mg base x n k s) (h : ∀ ds Q E, s' ds Q E → s ds Q E) : FnH P w G mg base x n k s' :=
  let ⟨f, fd, ps, h1, h2, h3, h4, h5⟩ := F.ex
  ⟨f, fd, ps, h1, h2, h3, h4, h5.imp fun vs H Q E ⟨H0, ds, QD, ED, l, st, dd, q, e1, e2⟩ => ⟨H0, ds, QD, ED, l, st, dd, h _ _ _ q, e1, e2⟩⟩
theorem Ok.endX {ρ : DL.Env} {σ : L2.St} {H0 H : Hp} (bok : BxOk B) (k : Ok B ρ σ H0 H) : EndX B.G H0 H B.E B.xk := fun x cls d H1 H2 e dx q => bok x cls d H1 H2 (k.ext.trans e) dx q
/-- f(e, ..) -/
theorem de_call {n k : Nat} {s : List D → W D} {w : Env → W (List D)} (F : FnH X.prog X.w B.G X.mg X.base x (n + 1) k s) (hK : X.K = B.G.K) (hr : Room k X.A) (hp : Passes (L2.CX X.prog X.w) X B.xk) (bok : BxOk B) (hg : Gl X x) (ha : DA X B (n + 1) (e :: es) w)
    (hdb : (x == ("__debug__" : Str)) = false := by decide) (he : starEach (e :: es) X.env = (false, eval e X.env) :: starEach es X.env := by rfl) (hpl : (backTo pos (starEach es X.env)).any (·.1) = false := by rfl) :
    DE X B (.Call (.Name x p) (e :: es) [] pos) (fun ρ => bnd (w ρ) s) := by
  obtain ⟨f, fd, ps, h1, h2, h3, h4, h5⟩ := F.ex
  rw [← hK] at h3 h4 h5
  refine PE.imp (pe_call h5 hr hg h2 h3 h4 .nil hp ha hdb he hpl) fun σ H Q ⟨ρ, H0, QD, k, q, h⟩ => ⟨ρ, H0, _, k, q, fun ds vs H1 H2 x dd l q1 => ?_⟩
  show liftSp B.G (n + 1) s (vs ++ []) H2 Q B.xk
  rw [List.append_nil]
  exact ⟨H1, ds, QD, B.E, l, x.st, dd, q1, fun d v H3 H4 x2 d2 q2 => h d v H3 H4 (x.trans x2) d2 q2, (k.later x).endX bok⟩
theorem de_call0 {k : Nat} {s : List D → W D} (F : FnH X.prog X.w B.G X.mg X.base x 0 k s) (hK : X.K = B.G.K) (hr : Room k X.A) (hp : Passes (L2.CX X.prog X.w) X B.xk) (bok : BxOk B) (hg : Gl X x)
    (hdb : (x == ("__debug__" : Str)) = false := by decide) : DE X B (.Call (.Name x p) [] [] pos) (fun _ => s []) := by
  obtain ⟨f, fd, ps, h1, h2, h3, h4, h5⟩ := F.ex
  rw [← hK] at h3 h4 h5
  refine PE.imp (pe_call0 h5 hr hg h2 h3 h4 .nil hp hdb) fun σ H Q ⟨ρ, H0, QD, k, q, h⟩ => ?_
  exact ⟨H0, [], QD, B.E, rfl, k.st, .nil, q, fun d v H3 H4 x2 d2 q2 => h d v H3 H4 x2 d2 q2, k.endX bok⟩
/-! ### built-ins -/
theorem lift_cb {n : Nat} {r : List V → Hp → VK → Prop} {f : List D → W D} {w : Env → W (List D)} (hr : DOpL B.G r f) {σ : L2.St} {H : Hp} {Q : VK} (h : lift B (fun ρ => bnd (w ρ) f) σ H Q) : tCB r (liftA B n w) σ H Q := by
  obtain ⟨ρ, H0, QD, k, q, h⟩ := h
  refine ⟨ρ, H0, _, k, q, fun ds vs H1 H2 x dd l q1 => ?_⟩
  exact hr H1 H2 ds vs QD B.E Q x.st dd q1 fun d v H3 H4 x3 d3 q3 => h d v H3 H4 (x.trans x3) d3 q3
theorem de_callB {n : Nat} {id : String} {r : List V → Hp → VK → Prop} {f : List D → W D} {w : Env → W (List D)} (hc : CallR X (.builtin id) r) (hr : DOpL B.G r f) (hg : Gl X x) (hm : X.mg x = none) (hv : bootBuiltins x = some (.builtin id)) (ha : DA X B n (e :: es) w)
    (hn : x ≠ "__name__" := by decide) (hdb : (x == ("__debug__" : Str)) = false := by decide)
    (he : starEach (e :: es) X.env = (false, eval e X.env) :: starEach es X.env := by rfl) (hpl : (backTo pos (starEach es X.env)).any (·.1) = false := by rfl) :
    DE X B (.Call (.Name x p) (e :: es) [] pos) (fun ρ => bnd (w ρ) f) := PE.imp (pe_callB hc hg hm hv ha hn hdb he hpl) fun _ _ _ h => lift_cb hr h
theorem de_callTy {n : Nat} {T : String} {r : List V → Hp → VK → Prop} {f : List D → W D} {w : Env → W (List D)} (hc : CallR X (.type T) r) (hr : DOpL B.G r f) (hg : Gl X x) (hm : X.mg x = none) (hv : bootBuiltins x = some (.type T)) (ha : DA X B n (e :: es) w)
    (hn : x ≠ "__name__" := by decide) (hdb : (x == ("__debug__" : Str)) = false := by decide)
    (he : starEach (e :: es) X.env = (false, eval e X.env) :: starEach es X.env := by rfl) (hpl : (backTo pos (starEach es X.env)).any (·.1) = false := by rfl) :
    DE X B (.Call (.Name x p) (e :: es) [] pos) (fun ρ => bnd (w ρ) f) := PE.imp (pe_callTy hc hg hm hv ha hn hdb he hpl) fun _ _ _ h => lift_cb hr h
theorem dens1 {H : Hp} {d : D} {vs : List V} (h : Dens G H [d] vs) : ∃ v, vs = [v] ∧ Den G H d v := by
  obtain ⟨v, ws, h1, h2, h3⟩ := h.uncons
  rw [h3.unnil] at h1
  exact ⟨v, h1, h2⟩
theorem dens2 {H : Hp} {d d' : D} {vs : List V} (h : Dens G H [d, d'] vs) : ∃ v v', vs = [v, v'] ∧ Den G H d v ∧ Den G H d' v' := by
  obtain ⟨v, ws, h1, h2, h3⟩ := h.uncons
  obtain ⟨v', h4, h5⟩ := dens1 h3
  subst h4
  exact ⟨v, v', h1, h2, h5⟩
def lenD : List D → W D
  | [.lst xs] => ret (.int xs.length)
  | [.tup xs] => ret (.int xs.length)
  | [.str z] => grd (z.length ≤ sizeLine) (ret (.int z.length))
  | _ => stk
theorem d_len (hK : X.K = G.K) : DOpL G (fun xs H Q => ∃ x n, xs = [x] ∧ LenV X.K x H n ∧ Q (.int n) H) lenD := by
  intro H0 H xs vs QD ED Q st dd q h
  match xs, q with
  | [.lst xs], q =>
    obtain ⟨v, e, d1⟩ := dens1 dd
    obtain ⟨a, us, e1, s1, d2⟩ := den_lst d1
    exact ⟨.ref a, us.length, by rw [e, e1], Or.inl ⟨us, .of (st.z _ _ s1), rfl⟩, h _ _ H0 H st.refl (by rw [← d2.length]; exact of_int) q⟩
  | [.tup xs], q =>
    obtain ⟨v, e, d1⟩ := dens1 dd
    obtain ⟨a, us, e1, s1, d2⟩ := den_tup d1
    exact ⟨.ref a, us.length, by rw [e, e1], Or.inr ⟨us, by rw [hK]; exact SqT.up st.z s1, rfl⟩, h _ _ H0 H st.refl (by rw [← d2.length]; exact of_int) q⟩
  | [.str z], q =>
    obtain ⟨v, e, d1⟩ := dens1 dd
    exact ⟨.str z, z.length, by rw [e, den_str d1], And.intro q.1 rfl, h _ _ H0 H st.refl of_int q.2⟩
theorem de_len {w : Env → W (List D)} (hK : X.K = B.G.K) (hg : Gl X "len") (hm : X.mg "len" = none) (ha : DA X B 1 [e] w) (he : starEach [e] X.env = (false, eval e X.env) :: starEach [] X.env := by rfl) :
    DE X B (.Call (.Name "len" p) [e] [] pos) (fun ρ => bnd (w ρ) lenD) := de_callB call_len (d_len hK) hg hm boot_len ha (by decide) (by decide) he rfl
/-- lists of ints, of bools -/
def intsD : List D → Option (List Int)
  | [] => some []
  | .int i :: r => (intsD r).map (i :: ·)
  | _ :: _ => none
def boolsD : List D → Option (List Bool)
  | [] => some []
  | .bl i :: r => (boolsD r).map (i :: ·)
  | _ :: _ => none
theorem intsD_eq : ∀ {xs : List D} {ns : List Int}, intsD xs = some ns → xs = ns.map D.int
  | [], ns, h => by cases h; rfl
  | x :: xs, ns, h => by
    cases x <;> first | (cases h; done) | skip
    rename_i i
    have h' : (intsD xs).map (i :: ·) = some ns := h
    obtain ⟨ms, e1, e2⟩ := Option.map_eq_some_iff.mp h'
    rw [intsD_eq e1, ← e2]
    rfl
theorem boolsD_eq : ∀ {xs : List D} {ns : List Bool}, boolsD xs = some ns → xs = ns.map D.bl
  | [], ns, h => by cases h; rfl
  | x :: xs, ns, h => by
    cases x <;> first | (cases h; done) | skip
    rename_i i
    have h' : (boolsD xs).map (i :: ·) = some ns := h
    obtain ⟨ms, e1, e2⟩ := Option.map_eq_some_iff.mp h'
    rw [boolsD_eq e1, ← e2]
    rfl
theorem intsD_map (ns : List Int) : intsD (ns.map D.int) = some ns := by
  induction ns with
  | nil => rfl
  | cons n ns ih => show (intsD (ns.map D.int)).map (n :: ·) = _; rw [ih]; rfl
theorem boolsD_map (ns : List Bool) : boolsD (ns.map D.bl) = some ns := by
  induction ns with
  | nil => rfl
  | cons n ns ih => show (boolsD (ns.map D.bl)).map (n :: ·) = _; rw [ih]; rfl
theorem Dens.bools {H : Hp} : ∀ {ns : List Bool} {vs : List V}, Dens G H (ns.map D.bl) vs → vs = ns.map V.bl
  | [], _, h => h.unnil
  | n :: ns, vs, h => by
    obtain ⟨v, ws, h1, h2, h3⟩ := Dens.uncons (ds := ns.map D.bl) h
    rw [h1, Dens.bools h3, den_bl h2]
    rfl
def sumD : List D → W D
  | [.lst xs] => bnd (optW (intsD xs)) fun ns => ret (.int ns.sum)
  | _ => stk
def anyD : List D → W D
  | [.lst xs] => bnd (optW (boolsD xs)) fun ns => ret (.bl (ns.any id))
  | _ => stk
def allD : List D → W D
  | [.lst xs] => bnd (optW (boolsD xs)) fun ns => ret (.bl (ns.all id))
  | _ => stk
theorem d_sum : DOpL G (rSum X.K) sumD := by
  intro H0 H xs vs QD ED Q st dd q h
  match xs, q with
  | [.lst xs], q =>
    obtain ⟨v, e, d1⟩ := dens1 dd
    obtain ⟨a, us, e1, s1, d2⟩ := den_lst d1
    obtain ⟨ns, en, q⟩ := optW_of q
    rw [intsD_eq en] at d2
    rw [d2.ints] at s1
    exact ⟨a, ns, by rw [e, e1], .of (st.z _ _ s1), h _ _ H0 H st.refl of_int q⟩
theorem d_any : DOpL G (rAny X.K) anyD := by
  intro H0 H xs vs QD ED Q st dd q h
  match xs, q with
  | [.lst xs], q =>
    obtain ⟨v, e, d1⟩ := dens1 dd
    obtain ⟨a, us, e1, s1, d2⟩ := den_lst d1
    obtain ⟨ns, en, q⟩ := optW_of q
    rw [boolsD_eq en] at d2
    rw [d2.bools] at s1
    exact ⟨a, ns, by rw [e, e1], .of (st.z _ _ s1), h _ _ H0 H st.refl of_bl q⟩
theorem d_all : DOpL G (rAll X.K) allD := by
  intro H0 H xs vs QD ED Q st dd q h
  match xs, q with
  | [.lst xs], q =>
    obtain ⟨v, e, d1⟩ := dens1 dd
    obtain ⟨a, us, e1, s1, d2⟩ := den_lst d1
    obtain ⟨ns, en, q⟩ := optW_of q
    rw [boolsD_eq en] at d2
    rw [d2.bools] at s1
    exact ⟨a, ns, by rw [e, e1], .of (st.z _ _ s1), h _ _ H0 H st.refl of_bl q⟩
/-- tuple(x), list(x) of a list, a tuple -/
def tupleD : List D → W D
  | [.lst xs] => ret (.tup xs)
  | [.tup xs] => ret (.tup xs)
  | _ => stk
def listD : List D → W D
  | [.lst xs] => ret (.lst xs)
  | [.tup xs] => ret (.lst xs)
  | _ => stk
theorem d_tuple (hK : X.K = G.K) : DOpL G (fun xs H Q => ∃ p ys, xs = [.ref p] ∧ ((SqL X.K H p ys ∧ ∀ l, H l = none → Q (.ref l) (upd H l (.tup ys))) ∨ (SqT X.K H p ys ∧ Q (.ref p) H))) tupleD := by
  intro H0 H xs vs QD ED Q st dd q h
  match xs, q with
  | [.lst xs], q =>
    obtain ⟨v, e, d1⟩ := dens1 dd
    obtain ⟨a, us, e1, s1, d2⟩ := den_lst d1
    exact ⟨a, us, by rw [e, e1], .inl ⟨.of (st.z _ _ s1), fun l hl => h _ _ _ _ (Ext.put st hl _) (of_tup upd_same (d2.same (Ext.put st hl _).z)) q⟩⟩
  | [.tup xs], q =>
    obtain ⟨v, e, d1⟩ := dens1 dd
    obtain ⟨a, us, e1, s1, d2⟩ := den_tup d1
    refine ⟨a, us, by rw [e, e1], .inr ⟨by rw [hK]; exact SqT.up st.z s1, h _ _ H0 H st.refl ?_ q⟩⟩
    rw [← e1]
    exact d1
theorem d_list (hK : X.K = G.K) : DOpL G (fun xs H Q => ∃ p ys, xs = [.ref p] ∧ (SqL X.K H p ys ∨ SqT X.K H p ys) ∧ ∀ l, H l = none → Q (.ref l) (upd H l (.lst ys))) listD := by
  intro H0 H xs vs QD ED Q st dd q h
  match xs, q with
  | [.lst xs], q =>
    obtain ⟨v, e, d1⟩ := dens1 dd
    obtain ⟨a, us, e1, s1, d2⟩ := den_lst d1
    exact ⟨a, us, by rw [e, e1], .inl (.of (st.z _ _ s1)), fun l hl => h _ _ _ _ (Ext.put st hl _) (of_lst upd_same (d2.same (Ext.put st hl _).z)) q⟩
  | [.tup xs], q =>
    obtain ⟨v, e, d1⟩ := dens1 dd
    obtain ⟨a, us, e1, s1, d2⟩ := den_tup d1
    exact ⟨a, us, by rw [e, e1], .inr (by rw [hK]; exact SqT.up st.z s1), fun l hl => h _ _ _ _ (Ext.put st hl _) (of_lst upd_same (d2.same (Ext.put st hl _).z)) q⟩
def intD : List D → W D
  | [.int i] => ret (.int i)
  | [.bl k] => ret (.int (if k then 1 else 0))
  | _ => stk
theorem d_int : DOpL G (fun xs H Q => (∃ i, xs = [.int i] ∧ Q (.int i) H) ∨ ∃ k, xs = [.bl k] ∧ Q (.int (if k then 1 else 0)) H) intD := by
  intro H0 H xs vs QD ED Q st dd q h
  match xs, q with
  | [.int i], q =>
    obtain ⟨v, e, d1⟩ := dens1 dd
    exact .inl ⟨i, by rw [e, den_int d1], h _ _ H0 H st.refl of_int q⟩
  | [.bl i], q =>
    obtain ⟨v, e, d1⟩ := dens1 dd
    exact .inr ⟨i, by rw [e, den_bl d1], h _ _ H0 H st.refl of_int q⟩
def absD : List D → W D
  | [.int i] => ret (.int (if i < 0 then -i else i))
  | _ => stk
theorem d_abs : DOpL G (fun xs H Q => ∃ i, xs = [.int i] ∧ Q (.int (if i < 0 then -i else i)) H) absD := by
  intro H0 H xs vs QD ED Q st dd q h
  match xs, q with
  | [.int i], q =>
    obtain ⟨v, e, d1⟩ := dens1 dd
    exact ⟨i, by rw [e, den_int d1], h _ _ H0 H st.refl of_int q⟩
end
end DL
end
section
set_option Elab.async false
set_option linter.all false
set_option maxRecDepth 100000
set_option maxHeartbeats 1000000
set_option autoImplicit false
/-! DG: statements, what is walked, list comprehensions, for, a def by its body. -/
namespace DL
open PySem PySem.Spec L2
inductive Out where
  | nx (ρ : DL.Env) | rt (d : D) (ρ : DL.Env) | bk (ρ : DL.Env) | ct (ρ : DL.Env)
def liftS (B : Bx) (w : DL.Env → W Out) : TS := fun D σ H => ∃ (ρ : DL.Env) (H0 : Hp) (QO : Out → Prop), Ok B ρ σ H0 H ∧ w ρ QO B.E ∧
  (∀ ρ' σ' H0' H', Ok B ρ' σ' H0' H' → Same H0 H0' → QO (.nx ρ') → D.nx σ' H') ∧
  (∀ d v ρ' σ' H0' H', Ok B ρ' σ' H0' H' → Den B.G H0' d v → QO (.rt d ρ') → D.rt v H') ∧
  (∀ ρ' σ' H0' H', Ok B ρ' σ' H0' H' → Same H0 H0' → QO (.bk ρ') → D.bk σ' H') ∧
  (∀ ρ' σ' H0' H', Ok B ρ' σ' H0' H' → Same H0 H0' → QO (.ct ρ') → D.ct σ' H')
abbrev DS (X : Cx) (B : Bx) (st : Stmt) (w : DL.Env → W Out) : Prop := PS X st (liftS B w)
abbrev DSs (X : Cx) (B : Bx) (st : List Stmt) (w : DL.Env → W Out) : Prop := PSs X st (liftS B w)
def seqW (m : W Out) (f : DL.Env → W Out) : W Out := bnd m fun o => match o with
  | .nx ρ => f ρ
  | .rt d ρ => ret (.rt d ρ)
  | .bk ρ => ret (.bk ρ)
  | .ct ρ => ret (.ct ρ)
section
variable {X : Cx} {B : Bx} {st : Stmt} {rest : List Stmt} {e : Expr} {we : DL.Env → W D} {w w' : DL.Env → W Out} {pos : Pos}
theorem dss_nil : DSs X B [] (fun ρ => ret (.nx ρ)) := PSs.imp pss_nil fun D σ H ⟨ρ, H0, QO, k, q, h, _⟩ => h ρ σ H0 H k (.refl _) q
theorem dss_cons (h1 : DS X B st w) (h2 : DSs X B rest w') : DSs X B (st :: rest) (fun ρ => seqW (w ρ) w') := by
  refine PSs.imp (pss_cons h1 h2) fun D σ H ⟨ρ, H0, QO, k, q, h, hr, hb, hc⟩ => ⟨ρ, H0, _, k, q, fun ρ1 σ1 H1 H2 k1 s1 q1 => ?_, fun d v ρ1 σ1 H1 H2 x dd q1 => hr d v ρ1 σ1 H1 H2 x dd q1, fun ρ1 σ1 H1 H2 k1 s1 q1 => hb ρ1 σ1 H1 H2 k1 s1 q1, fun ρ1 σ1 H1 H2 k1 s1 q1 => hc ρ1 σ1 H1 H2 k1 s1 q1⟩
  exact ⟨ρ1, H1, QO, k1, q1, fun ρ2 σ2 H3 H4 k2 s2 q2 => h ρ2 σ2 H3 H4 k2 (s1.trans s2) q2, hr, fun ρ2 σ2 H3 H4 k2 s2 q2 => hb ρ2 σ2 H3 H4 k2 (s1.trans s2) q2, fun ρ2 σ2 H3 H4 k2 s2 q2 => hc ρ2 σ2 H3 H4 k2 (s1.trans s2) q2⟩
theorem dss_one (h1 : DS X B st w) : DSs X B [st] w := pss_one h1
theorem ds_pass : DS X B (.Pass pos) (fun ρ => ret (.nx ρ)) := PS.imp ps_pass fun D σ H ⟨ρ, H0, QO, k, q, h, _⟩ => h ρ σ H0 H k (.refl _) q
theorem ds_break : DS X B (.Break pos) (fun ρ => ret (.bk ρ)) := PS.imp ps_break fun D σ H ⟨ρ, H0, QO, k, q, _, _, h, _⟩ => h ρ σ H0 H k (.refl _) q
theorem ds_continue : DS X B (.Continue pos) (fun ρ => ret (.ct ρ)) := PS.imp ps_continue fun D σ H ⟨ρ, H0, QO, k, q, _, _, _, h⟩ => h ρ σ H0 H k (.refl _) q
theorem ds_ret (he : DE X B e we) : DS X B (.Return (some e) pos) (fun ρ => bnd (we ρ) fun d => ret (.rt d ρ)) :=
  PS.imp (ps_ret he) fun D σ H ⟨ρ, H0, QO, k, q, _, h, _⟩ => ⟨ρ, H0, _, k, q, fun d v H1 H2 x dd q1 => h d v ρ σ H1 H2 (k.later x) dd q1⟩
theorem ds_retN : DS X B (.Return none pos) (fun ρ => ret (.rt .non ρ)) :=
  PS.imp ps_retN fun D σ H ⟨ρ, H0, QO, k, q, _, h, _⟩ => h .non .non ρ σ H0 H k of_non q
theorem ds_expr (he : DE X B e we) (hs : swapsWith e none pos.line X.env = pure false := by rfl) : DS X B (.Expr e pos) (fun ρ => bnd (we ρ) fun _ => ret (.nx ρ)) :=
  PS.imp (ps_expr he hs) fun D σ H ⟨ρ, H0, QO, k, q, h, _⟩ => ⟨ρ, H0, _, k, q, fun d v H1 H2 x dd q1 => h ρ σ H1 H2 (k.later x) x.z q1⟩
theorem ds_if {c : Expr} {a b : List Stmt} {tc : DL.Env → W Bool} (hc : DT X B c tc) (ha : DSs X B a w) (hb : DSs X B b w') : DS X B (.If c a b pos) (fun ρ => bnd (tc ρ) fun t => if t = true then w ρ else w' ρ) := by
  refine PS.imp (ps_if hc ha hb) fun D σ H ⟨ρ, H0, QO, k, q, h, hr, hb, hc⟩ => ⟨ρ, H0, _, k, q, fun t H1 H2 x q1 => ?_⟩
  cases t with
  | true => exact iteT ⟨ρ, H1, QO, k.later x, q1, fun ρ2 σ2 H3 H4 k2 s2 q2 => h ρ2 σ2 H3 H4 k2 (x.z.trans s2) q2, hr, fun ρ2 σ2 H3 H4 k2 s2 q2 => hb ρ2 σ2 H3 H4 k2 (x.z.trans s2) q2, fun ρ2 σ2 H3 H4 k2 s2 q2 => hc ρ2 σ2 H3 H4 k2 (x.z.trans s2) q2⟩
  | false => exact iteF ⟨ρ, H1, QO, k.later x, q1, fun ρ2 σ2 H3 H4 k2 s2 q2 => h ρ2 σ2 H3 H4 k2 (x.z.trans s2) q2, hr, fun ρ2 σ2 H3 H4 k2 s2 q2 => hb ρ2 σ2 H3 H4 k2 (x.z.trans s2) q2, fun ρ2 σ2 H3 H4 k2 s2 q2 => hc ρ2 σ2 H3 H4 k2 (x.z.trans s2) q2⟩
end
/-! ### stores -/
section
variable {B : Bx} {ρ : DL.Env} {σ : L2.St} {H0 H : Hp}
theorem Ok.put (k : Ok B ρ σ H0 H) {i : Nat} {s : Sl} {v : V} (hs : SlotOk B.G B.He H0 H s (some v)) (ha : ∀ o, s = .own o → ∀ (j : Nat) p a, v = .ref a → ρ[j]? = some (.own p) → σ[j]? = some (some (.ref a)) → i = j) : Ok B (ρ.set i s) (σ.set i (some v)) H0 H := by
  refine ⟨k.ext, by rw [List.length_set, List.length_set]; exact k.len, fun j t e => ?_, fun j l o p a e1 e2 e3 e4 => ?_⟩
  · by_cases h : i = j
    · subst h
      have hl : i < ρ.length := by
        have := (List.getElem?_eq_some_iff.mp e).1
        simpa using this
      rw [List.getElem?_set_self hl] at e
      cases e
      exact ⟨some v, List.getElem?_set_self (by rw [k.len]; exact hl), hs⟩
    · rw [List.getElem?_set_ne h] at e ⊢
      exact k.env j t e
  · by_cases h : i = j
    · by_cases h' : i = l
      · exact h.symm.trans h'
      · subst h
        rw [List.getElem?_set_ne h'] at e2 e4
        have hl : i < ρ.length := by simpa using (List.getElem?_eq_some_iff.mp e1).1
        rw [List.getElem?_set_self hl] at e1
        rw [List.getElem?_set_self (by rw [k.len]; exact hl)] at e3
        cases e1
        exact ha _ rfl l p a (Option.some.inj (Option.some.inj e3)) e2 e4
    · by_cases h' : i = l
      · subst h'
        rw [List.getElem?_set_ne h] at e1 e3
        have hl : i < ρ.length := by simpa using (List.getElem?_eq_some_iff.mp e2).1
        rw [List.getElem?_set_self hl] at e2
        rw [List.getElem?_set_self (by rw [k.len]; exact hl)] at e4
        cases e2
        exact (ha _ rfl j o a (Option.some.inj (Option.some.inj e4)) e1 e3).symm
      · rw [List.getElem?_set_ne h] at e1 e3
        rw [List.getElem?_set_ne h'] at e2 e4
        exact k.apart j l o p a e1 e2 e3 e4
theorem Ok.putD (k : Ok B ρ σ H0 H) {i : Nat} {d : D} {v : V} (hd : Den B.G H0 d v) : Ok B (ρ.set i (.d d)) (σ.set i (some v)) H0 H :=
  k.put (s := .d d) ⟨v, rfl, hd⟩ fun o z => by cases z
end
/-! ### targets -/
/-- is: the slots that it may write -/
def liftG (B : Bx) (is : List Nat) (g : D → DL.Env → W DL.Env) : TG := fun v σ H Q => ∃ (ρ : DL.Env) (H0 : Hp) (d : D) (QE : DL.Env → Prop), Ok B ρ σ H0 H ∧ Den B.G H0 d v ∧ g d ρ QE (fun _ => False) ∧
  ∀ ρ' σ', Ok B ρ' σ' H0 H → (∀ j, j ∉ is → σ'[j]? = σ[j]?) → σ'.length = σ.length → QE ρ' → Q σ' H
def liftGs (B : Bx) (is : List Nat) (g : List D → DL.Env → W DL.Env) : TGs := fun vs σ H Q => ∃ (ρ : DL.Env) (H0 : Hp) (ds : List D) (QE : DL.Env → Prop), Ok B ρ σ H0 H ∧ Dens B.G H0 ds vs ∧ g ds ρ QE (fun _ => False) ∧
  ∀ ρ' σ', Ok B ρ' σ' H0 H → (∀ j, j ∉ is → σ'[j]? = σ[j]?) → σ'.length = σ.length → QE ρ' → Q σ' H
def nilG : List D → DL.Env → W DL.Env := fun ds ρ => match ds with | [] => ret ρ | _ => stk
def consG (g : D → DL.Env → W DL.Env) (gs : List D → DL.Env → W DL.Env) : List D → DL.Env → W DL.Env := fun ds ρ => match ds with | d :: r => bnd (g d ρ) fun ρ1 => gs r ρ1 | [] => stk
def tupG (n : Nat) (gs : List D → DL.Env → W DL.Env) : D → DL.Env → W DL.Env := fun d ρ => match d with | .tup ds => grd (ds.length = n) (gs ds ρ) | _ => stk
abbrev DTg (X : Cx) (B : Bx) (tg : Expr) (is : List Nat) (g : D → DL.Env → W DL.Env) : Prop := PG X tg (liftG B is g)
abbrev DTgs (X : Cx) (B : Bx) (tg : List Expr) (is : List Nat) (g : List D → DL.Env → W DL.Env) : Prop := PGs X tg (liftGs B is g)
theorem PG.imp {X : Cx} {e : Expr} {t t' : TG} (h : PG X e t) (i : ∀ v σ H Q, t' v σ H Q → t v σ H Q) : PG X e t' := ⟨fun pins s σ H v u Q I r q => h.run pins s σ H v u Q I r (i v σ H Q q)⟩
theorem PGs.imp {X : Cx} {e : List Expr} {t t' : TGs} (h : PGs X e t) (i : ∀ v σ H Q, t' v σ H Q → t v σ H Q) : PGs X e t' := ⟨fun pins s σ H v u Q I r q => h.run pins s σ H v u Q I r (i v σ H Q q)⟩
section
variable {X : Cx} {B : Bx} {pos : Pos}
theorem dg_name (i : Nat) {x : Str} (hN : X.N.Nodup) (hi : X.N[i]? = some x := by rfl) (hx : Loc X.env.scope x := by first | exact Or.inl rfl | exact Or.inr rfl) (hf : X.fn x = true ∨ X.env.scope.names.lookup x = some .local := by first | exact .inl rfl | exact .inr rfl | assumption) :
    DTg X B (.Name x pos) [i] (fun d ρ => ret (ρ.set i (.d d))) := by
  refine PG.imp (pg_name hN hi hx hf) fun v σ H Q ⟨ρ, H0, d, QE, k, dd, q, h⟩ => ?_
  exact h _ _ (k.putD dd) (fun j hj => List.getElem?_set_ne (fun e => hj (by simp [e]))) (by simp) q
theorem dgs_nil : DTgs X B [] [] nilG := by
  refine PGs.imp pgs_nil fun v σ H Q ⟨ρ, H0, ds, QE, k, dd, q, h⟩ => ?_
  cases ds with
  | nil => exact ⟨dd.unnil, h ρ σ k (fun _ _ => rfl) rfl q⟩
  | cons d r => exact (show False from q).elim
theorem dgs_cons {e : Expr} {es : List Expr} {is js : List Nat} {g : D → DL.Env → W DL.Env} {gs : List D → DL.Env → W DL.Env} (h1 : DTg X B e is g) (h2 : DTgs X B es js gs)
    (hs : (assignEach (e :: es) X.env).map (·.2) = assign e X.env :: (assignEach es X.env).map (·.2) := by rfl) :
    DTgs X B (e :: es) (is ++ js) (consG g gs) := by
  refine PGs.imp (pgs_cons h1 h2 hs) fun v σ H Q ⟨ρ, H0, ds, QE, k, dd, q, h⟩ => ?_
  cases ds with
  | nil => exact (show False from q).elim
  | cons d r =>
    obtain ⟨v1, ws, e1, d1, dr⟩ := dd.uncons
    refine ⟨v1, ws, e1, ρ, H0, d, _, k, d1, q, fun ρ1 σ1 k1 s1 l1 q1 => ⟨ρ1, H0, r, QE, k1, dr, q1, fun ρ2 σ2 k2 s2 l2 q2 => h ρ2 σ2 k2 (fun j hj => ?_) (l2.trans l1) q2⟩⟩
    rw [s2 j (fun z => hj (List.mem_append_right _ z)), s1 j (fun z => hj (List.mem_append_left _ z))]
theorem dg_tup {es : List Expr} {k0 n : Nat} {is : List Nat} {gs : List D → DL.Env → W DL.Env} (hK : X.K = B.G.K) (hc : X.calm = true) (h : DTgs X B es is gs)
    (hn : (assignEach es X.env).length = n := by rfl) (hst : (assignEach es X.env).findIdx? (·.1) = none := by rfl) :
    DTg X B (.Tuple es k0 pos) is (tupG n gs) := by
  refine PG.imp (pg_tup hc h hn hst) fun v σ H Q ⟨ρ, H0, d, QE, k, dd, q, h⟩ => ?_
  cases d <;> first | exact (show False from q).elim | skip
  obtain ⟨a, vs, e, s, ds⟩ := den_tup dd
  exact ⟨a, vs, e, by rw [hK]; exact SqT.up k.st.z s, by rw [← ds.length]; exact q.1, ρ, H0, _, QE, k, ds, q.2, h⟩
/-- target = value -/
theorem ds_asg {tg e : Expr} {we : DL.Env → W D} {is : List Nat} {g : D → DL.Env → W DL.Env} (he : DE X B e we) (hg : DTg X B tg is g) (hs : swapsWithSole [tg] e pos.line X.env = pure false := by rfl) (hw : swappedStores [tg] e X.env = pure none := by rfl)
    (h1 : (assignEach [tg] X.env).map (·.2) = [assign tg X.env] := by rfl) : DS X B (.Assign [tg] e pos) (fun ρ => bnd (we ρ) fun d => bnd (nox (g d ρ)) fun ρ' => ret (.nx ρ')) :=
  PS.imp (ps_asg he hg hs hw h1) fun D σ H ⟨ρ, H0, QO, k, q, h, _⟩ => ⟨ρ, H0, _, k, q, fun d v H1 H2 x dd q1 => ⟨ρ, H1, d, _, k.later x, dd, q1, fun ρ2 σ2 k2 _ _ q2 => h ρ2 σ2 H1 H2 k2 x.z q2⟩⟩
/-- name = value -/
theorem ds_set (i : Nat) {x : Str} {e : Expr} {we : DL.Env → W D} {pos' : Pos} (hN : X.N.Nodup) (he : DE X B e we) (hi : X.N[i]? = some x := by rfl) (hx : Loc X.env.scope x := by first | exact Or.inl rfl | exact Or.inr rfl) (hs : swapsWith e (some (.Name x pos')) pos.line X.env = pure false := by rfl)
    (hf : X.fn x = true ∨ X.env.scope.names.lookup x = some .local := by first | exact .inl rfl | exact .inr rfl | assumption) : DS X B (.Assign [.Name x pos'] e pos) (fun ρ => bnd (we ρ) fun d => ret (.nx (ρ.set i (.d d)))) :=
  PS.imp (ps_set hN hi hx he hs hf) fun D σ H ⟨ρ, H0, QO, k, q, h, _⟩ => ⟨ρ, H0, _, k, q, fun d v H1 H2 x dd q1 => h _ _ H1 H2 ((k.later x).putD dd) x.z q1⟩
/-- a, b = x, y -/
theorem ds_par (i j : Nat) {x y : Str} {a b : Expr} {w : DL.Env → W (List D)} {px py pt : Pos} {kt k2 : Nat} {pt2 : Pos} (hc : X.calm = true) (hN : X.N.Nodup) (ha : DA X B 2 [a, b] w) (hi : X.N[i]? = some x := by rfl) (hj : X.N[j]? = some y := by rfl) (hij : i ≠ j := by decide)
    (hx : X.env.scope.names.lookup x = some .local := by rfl) (hy : X.env.scope.names.lookup y = some .local := by rfl)
    (hw : swappedStores [.Tuple [.Name x px, .Name y py] kt pt] (.Tuple [a, b] k2 pt2) X.env = pure (some [x, y]) := by rfl)
    (hs : swapsWithSole [.Tuple [.Name x px, .Name y py] kt pt] (.Tuple [a, b] k2 pt2) pos.line X.env = pure false := by rfl) :
    DS X B (.Assign [.Tuple [.Name x px, .Name y py] kt pt] (.Tuple [a, b] k2 pt2) pos) (fun ρ => bnd (w ρ) fun ds => match ds with | [d, d'] => ret (.nx ((ρ.set i (.d d)).set j (.d d'))) | _ => stk) := by
  refine PS.imp (ps_par hc hN hi hj hij hx hy ha hw hs) fun D σ H ⟨ρ, H0, QO, k, q, h, _⟩ => ⟨ρ, H0, _, k, q, fun ds vs H1 H2 x dd l q1 => ?_⟩
  match ds, q1 with
  | [d, d'], q1 =>
    obtain ⟨v, v', e, d1, d2⟩ := dens2 dd
    exact ⟨v, v', e, h _ _ H1 H2 (((k.later x).putD d1).putD d2) x.z q1⟩
end
end DL
end
section
set_option Elab.async false
set_option linter.all false
set_option maxRecDepth 100000
set_option maxHeartbeats 1000000
set_option autoImplicit false
/-! DH: what is walked; list comprehensions; for. -/
namespace DL
open PySem PySem.Spec L2
/-- the iterator J yields what ds denote, one by one, wherever what is frozen now stays -/
structure ItOk (G : Gx) (H0 : Hp) (J : It) (ds : List D) : Prop where
  go : ∀ (i : Nat) (H : Hp), i < ds.length → Same H0 H → J.go i H
  stop : ∀ H, Same H0 H → J.stop ds.length H
  yld : ∀ (i : Nat) (H0' H : Hp) (x : V) (H' : Hp) (d : D), Same H0 H0' → St0 G H0' H → ds[i]? = some d → J.yld i H x H' → ∃ H0'', Ext G.T H0' H H0'' H' ∧ Den G H0'' d x
def liftI (B : Bx) (w : DL.Env → W (List D)) : TI := fun σ H R => ∃ (ρ : DL.Env) (H0 : Hp) (QL : List D → Prop), Ok B ρ σ H0 H ∧ w ρ QL B.E ∧
  ∀ ds J H0' H', Ext B.G.T H0 H H0' H' → ItOk B.G H0' J ds → QL ds → R J H'
abbrev DI (X : Cx) (B : Bx) (tg iter : Expr) (w : DL.Env → W (List D)) : Prop := PI X tg iter (liftI B w)
theorem PI.imp {X : Cx} {tg e : Expr} {t t' : TI} (h : PI X tg e t) (i : ∀ σ H Q, t' σ H Q → t σ H Q) : PI X tg e t' := ⟨fun pins s σ H R I q => h.run pins s σ H R I (i σ H R q)⟩
section
variable {G : Gx} {H0 : Hp}
theorem itOk_list {a : Addr} {vs : List V} {ds : List D} (h : H0 a = some (.lst vs)) (dd : Dens G H0 ds vs) : ItOk G H0 (Itl G.K a) ds where
  go := fun i H hi s => ⟨vs, vs[i]'(by rw [← dd.length]; exact hi), .of (s _ _ h), by simp⟩
  stop := fun H s => ⟨vs, .of (s _ _ h), by rw [dd.length]; exact Nat.le_refl _⟩
  yld := fun i H1 H x H' d s st e ⟨e1, y⟩ => by
    subst e1
    obtain ⟨v, h1, h2⟩ := dd.get e
    have h3 := y vs (.of (st.z _ _ (s _ _ h)))
    rw [h1] at h3
    cases h3
    exact ⟨H1, st.refl, h2.same s⟩
theorem itOk_tup {a : Addr} {vs : List V} {ds : List D} (h : SqT G.K H0 a vs) (dd : Dens G H0 ds vs) : ItOk G H0 (Itt G.K a) ds where
  go := fun i H hi s => ⟨vs, vs[i]'(by rw [← dd.length]; exact hi), SqT.same s h, by simp⟩
  stop := fun H s => ⟨vs, SqT.same s h, by rw [dd.length]; exact Nat.le_refl _⟩
  yld := fun i H1 H x H' d s st e ⟨e1, y⟩ => by
    subst e1
    obtain ⟨v, h1, h2⟩ := dd.get e
    have h3 := y vs (SqT.same (s.trans st.z) h)
    rw [h1] at h3
    cases h3
    exact ⟨H1, st.refl, h2.same s⟩
def rangeD (lo : Int) (n : Nat) : List D := (List.range n).map fun i : Nat => D.int (lo + (i : Int))
theorem itOk_range {lo : Int} {n : Nat} : ItOk G H0 (Itr lo n) (rangeD lo n) where
  go := fun i H hi s => by
    have hi : i < n := by simpa [rangeD] using hi
    exact hi
  stop := fun H s => by show n ≤ _; simp [rangeD]
  yld := fun i H1 H x H' d s st e ⟨e1, y⟩ => by
    subst e1 y
    have hd : d = .int (lo + (i : Int)) := by
      unfold rangeD at e
      rw [List.getElem?_map] at e
      obtain ⟨hi, e2⟩ : ∃ hi : i < n, (List.range n)[i]? = some i := by
        cases q : (List.range n)[i]? with
        | none => rw [q] at e; cases e
        | some j =>
          obtain ⟨h1, h2⟩ := List.getElem?_eq_some_iff.mp q
          have : i < n := by simpa using h1
          have hj : i = j := by simpa using h2
          exact ⟨this, by rw [hj]⟩
      rw [e2] at e
      exact (Option.some.inj e).symm
    rw [hd]
    exact ⟨H1, st.refl, of_int⟩
/-- new pairs -/
theorem pair_new {H1 H H' : Hp} {T : Addr} {x y : V} {d d' : D} (st : St0 G H1 H) (hT : H T = none) (e : H' = upd H T (.tup [x, y])) (h1 : Den G H1 d x) (h2 : Den G H1 d' y) : ∃ H2, Ext G.T H1 H H2 H' ∧ Den G H2 (.tup [d, d']) (.ref T) := by
  subst e
  have x := Ext.put st hT (.tup [x, y])
  exact ⟨_, x, of_tup upd_same (.cons (h1.same x.z) (.cons (h2.same x.z) .nil))⟩
def enumD (ds : List D) : List D := ds.zipIdx.map fun p => D.tup [.int (p.2 : Int), p.1]
theorem enumD_get {ds : List D} {i : Nat} {d : D} (e : (enumD ds)[i]? = some d) : ∃ x, ds[i]? = some x ∧ d = .tup [.int (i : Int), x] := by
  unfold enumD at e
  rw [List.getElem?_map, List.getElem?_zipIdx] at e
  cases q : ds[i]? with
  | none => rw [q] at e; cases e
  | some x =>
    rw [q] at e
    exact ⟨x, rfl, by have := (Option.some.inj e).symm; simpa using this⟩
theorem itOk_enum {a : Addr} {vs : List V} {ds : List D} (h : H0 a = some (.lst vs)) (dd : Dens G H0 ds vs) : ItOk G H0 (Ite G.K a) (enumD ds) where
  go := fun i H hi s => by
    have hi : i < ds.length := by simpa [enumD] using hi
    exact ⟨vs, vs[i]'(by rw [← dd.length]; exact hi), .of (s _ _ h), by simp⟩
  stop := fun H s => ⟨vs, .of (s _ _ h), by rw [← dd.length]; simp [enumD]⟩
  yld := fun i H1 H x H' d s st e ⟨T, x', e1, hT, e2, y⟩ => by
    obtain ⟨d', q1, q2⟩ := enumD_get e
    obtain ⟨v, h1, h2⟩ := dd.get q1
    have h3 := y vs (.of (st.z _ _ (s _ _ h)))
    rw [h1] at h3
    cases h3
    rw [e1, q2]
    exact pair_new st hT e2 of_int (h2.same s)
def zipD (ds es : List D) : List D := (ds.zip es).map fun p => D.tup [p.1, p.2]
theorem zipD_get {ds es : List D} {i : Nat} {d : D} (e : (zipD ds es)[i]? = some d) : ∃ x y, ds[i]? = some x ∧ es[i]? = some y ∧ d = .tup [x, y] := by
  unfold zipD at e
  rw [List.getElem?_map] at e
  cases q : (ds.zip es)[i]? with
  | none => rw [q] at e; cases e
  | some x =>
    rw [q] at e
    rw [List.getElem?_zip_eq_some] at q
    exact ⟨x.1, x.2, q.1, q.2, (Option.some.inj e).symm⟩
theorem zipD_length (ds es : List D) : (zipD ds es).length = min ds.length es.length := by simp [zipD]
theorem itOk_zip {a b : Addr} {vs ws : List V} {ds es : List D} (h : H0 a = some (.lst vs)) (dd : Dens G H0 ds vs) (h' : H0 b = some (.lst ws)) (ee : Dens G H0 es ws) : ItOk G H0 (Itz G.K a b) (zipD ds es) where
  go := fun i H hi s => by
    rw [zipD_length, dd.length, ee.length] at hi
    exact ⟨vs, ws, vs[i]'(by omega), ws[i]'(by omega), .of (s _ _ h), .of (s _ _ h'), by simp, by simp⟩
  stop := fun H s => ⟨vs, ws, .of (s _ _ h), .of (s _ _ h'), by rw [zipD_length, dd.length, ee.length]; omega⟩
  yld := fun i H1 H x H' d s st e ⟨T, x', y', e1, hT, e2, y1, y2⟩ => by
    obtain ⟨d1, d2, q1, q2, q3⟩ := zipD_get e
    obtain ⟨v, h1, h2⟩ := dd.get q1
    obtain ⟨w, k1, k2⟩ := ee.get q2
    have h3 := y1 vs (.of (st.z _ _ (s _ _ h)))
    have k3 := y2 ws (.of (st.z _ _ (s _ _ h')))
    rw [h1] at h3
    rw [k1] at k3
    cases h3
    cases k3
    rw [e1, q3]
    exact pair_new st hT e2 (h2.same s) (k2.same s)
theorem itOk_zipT {a b : Addr} {vs ws : List V} {ds es : List D} (h : SqT G.K H0 a vs) (dd : Dens G H0 ds vs) (h' : SqT G.K H0 b ws) (ee : Dens G H0 es ws) : ItOk G H0 (RZ.ItzT G.K a b) (zipD ds es) where
  go := fun i H hi s => by
    rw [zipD_length, dd.length, ee.length] at hi
    exact ⟨vs, ws, vs[i]'(by omega), ws[i]'(by omega), SqT.same s h, SqT.same s h', by simp, by simp⟩
  stop := fun H s => ⟨vs, ws, SqT.same s h, SqT.same s h', by rw [zipD_length, dd.length, ee.length]; omega⟩
  yld := fun i H1 H x H' d s st e ⟨T, x', y', e1, hT, e2, y1, y2⟩ => by
    obtain ⟨d1, d2, q1, q2, q3⟩ := zipD_get e
    obtain ⟨v, h1, h2⟩ := dd.get q1
    obtain ⟨w, k1, k2⟩ := ee.get q2
    have h3 := y1 vs (SqT.same (s.trans st.z) h)
    have k3 := y2 ws (SqT.same (s.trans st.z) h')
    rw [h1] at h3
    rw [k1] at k3
    cases h3
    cases k3
    rw [e1, q3]
    exact pair_new st hT e2 (h2.same s) (k2.same s)
end
/-! ### rules for what is walked -/
section
variable {X : Cx} {B : Bx} {tg e e2 : Expr} {we : DL.Env → W D} {p pos : Pos}
/-- a list or a tuple -/
def iSeq (K : PySem.W.Frag) (tl : TE) : TI := fun σ H R => tl σ H fun x H1 => ∃ a, x = .ref a ∧ (((∃ xs, SqL K H1 a xs) ∧ R (Itl K a) H1) ∨ ((∃ xs, SqT K H1 a xs) ∧ R (Itt K a) H1))
theorem pi_seq {l : Expr} {tl : TE} (hl : PE X l tl) : PI X tg l (iSeq X.K tl) := by
  refine ⟨fun pins s σ H R I h => ?_⟩
  refine thn (hl.run pins s σ H _ I h) fun v s1 ⟨x, H1, I1, r1, q1⟩ => ?_
  obtain ⟨a, e, q⟩ := q1
  subst e
  cases r1
  have fin : ∀ b ∈ [s1.heap.objs.size], FpOk X pins H1 b := fun b hb => by
    have e : b = s1.heap.objs.size := by simpa using hb
    subst e
    exact I1.fpOk (Nat.le_refl _) (I1.hok.fresh (Nat.le_refl _))
  rcases q with ⟨⟨xs, hq⟩, q⟩ | ⟨⟨xs, hq⟩, q⟩
  · obtain ⟨its, rv, p, hz⟩ := I1.list hq
    refine wpAny_pyIter_list p.isList ?_
    exact ⟨s1.heap.objs.size, [s1.heap.objs.size], _, _, H1, rfl, I1.kept (t' := s1.toks) fun b o e => Heap.get?_push_of_some _ e, turn_list a _, ⟨_, Heap.get?_push_size _ rfl, rfl, rfl⟩, fin, q⟩
  · obtain ⟨its, rv, p, hz⟩ := I1.tuple hq
    refine wpAny_pyIter_tuple (show s1.heap.IsTuple a its.toArray from p) ?_
    exact ⟨s1.heap.objs.size, [s1.heap.objs.size], _, _, H1, rfl, I1.kept (t' := s1.toks) fun b o e => Heap.get?_push_of_some _ e, turn_tuple a _, ⟨_, Heap.get?_push_size _ rfl, rfl, rfl⟩, fin, q⟩
def seqD : D → W (List D)
  | .lst xs => ret xs
  | .tup xs => ret xs
  | _ => stk
theorem di_seq (hK : X.K = B.G.K) (he : DE X B e we) : DI X B tg e (fun ρ => bnd (we ρ) seqD) := by
  refine PI.imp (pi_seq he) fun σ H R ⟨ρ, H0, QL, k, q, h⟩ => ⟨ρ, H0, _, k, q, fun d v H1 H2 x dd q1 => ?_⟩
  cases d <;> first | exact (show False from q1).elim | skip
  · obtain ⟨a, vs, ev, s, ds⟩ := den_tup dd
    refine ⟨a, ev, .inr ⟨⟨vs, by rw [hK]; exact SqT.up x.zz s⟩, ?_⟩⟩
    rw [hK]
    exact h _ _ H1 H2 x (itOk_tup s ds) q1
  · obtain ⟨a, vs, ev, s, ds⟩ := den_lst dd
    refine ⟨a, ev, .inl ⟨⟨vs, .of (x.zz _ _ s)⟩, ?_⟩⟩
    rw [hK]
    exact h _ _ H1 H2 x (itOk_list s ds) q1
def rng1D : List D → W (List D)
  | [.int n] => grd (n ≤ 16777216) (ret (rangeD 0 n.toNat))
  | _ => stk
def rng2D : List D → W (List D)
  | [.int a, .int b] => grd (-1000000000 ≤ a ∧ a ≤ 1000000000 ∧ b ≤ 16777216 ∧ -1000000000 ≤ b) (ret (rangeD a (b - a).toNat))
  | _ => stk
def rng1W : List D → W (List D) := fun ds => match ds with | [.int n] => grd (-1000000000 ≤ n ∧ n ≤ 16777216) (ret (rangeD 0 n.toNat)) | _ => stk
theorem di_range1 {w : DL.Env → W (List D)} (hg : Gl X "range") (hm : X.mg "range" = none) (ha : DA X B 1 [e] w) (hs : starEach [e] X.env = [(false, eval e X.env)] := by rfl) :
    DI X B tg (.Call (.Name "range" p) [e] [] pos) (fun ρ => bnd (w ρ) rng1W) := by
  refine PI.imp (pi_range1 hg hm ha hs) fun σ H R ⟨ρ, H0, QL, k, q, h⟩ => ⟨ρ, H0, _, k, q, fun ds vs H1 H2 x dd l q1 => ?_⟩
  match ds, q1 with
  | [.int n], q1 =>
    obtain ⟨v, e, d1⟩ := dens1 dd
    exact ⟨n, by rw [e, den_int d1], by have := q1.1.1; omega, by have := q1.1.2; omega, h _ _ H1 H2 x itOk_range q1.2⟩
theorem di_range2 {w : DL.Env → W (List D)} (hg : Gl X "range") (hm : X.mg "range" = none) (ha : DA X B 2 [e, e2] w) (hs : starEach [e, e2] X.env = [(false, eval e X.env), (false, eval e2 X.env)] := by rfl) (hs2 : starEach [e2] X.env = [(false, eval e2 X.env)] := by rfl) :
    DI X B tg (.Call (.Name "range" p) [e, e2] [] pos) (fun ρ => bnd (w ρ) rng2D) := by
  refine PI.imp (pi_range2 hg hm ha hs hs2) fun σ H R ⟨ρ, H0, QL, k, q, h⟩ => ⟨ρ, H0, _, k, q, fun ds vs H1 H2 x dd l q1 => ?_⟩
  match ds, q1 with
  | [.int a, .int b], q1 =>
    obtain ⟨v, v', e, d1, d2⟩ := dens2 dd
    obtain ⟨⟨c1, c2, c3, c4⟩, q1⟩ := q1
    exact ⟨a, b, by rw [e, den_int d1, den_int d2], ⟨by omega, by omega, by omega, by omega⟩, h _ _ H1 H2 x itOk_range q1⟩
theorem di_enumL {w : DL.Env → W (List D)} {elts : List Expr} {kk : Nat} {tpos : Pos} (hK : X.K = B.G.K) (hg : Gl X "enumerate") (hm : X.mg "enumerate" = none) (ha : DA X B 1 [e] w) (hs : starEach [e] X.env = [(false, eval e X.env)] := by rfl) :
    DI X B (.Tuple elts kk tpos) (.Call (.Name "enumerate" p) [e] [] pos) (fun ρ => bnd (w ρ) fun ds => match ds with | [.lst xs] => ret (enumD xs) | _ => stk) := by
  refine PI.imp (pi_enum hg hm ha hs) fun σ H R ⟨ρ, H0, QL, k, q, h⟩ => ⟨ρ, H0, _, k, q, fun ds vs H1 H2 x dd l q1 => ?_⟩
  match ds, q1 with
  | [.lst xs], q1 =>
    obtain ⟨v, e, d1⟩ := dens1 dd
    obtain ⟨a, us, e1, s, d2⟩ := den_lst d1
    refine ⟨a, us, by rw [e, e1], .of (x.zz _ _ s), ?_⟩
    rw [hK]
    exact h _ _ H1 H2 x (itOk_enum s d2) q1
def zipS : List D → W (List D) := fun ds => match ds with | [.lst xs, .lst ys] => ret (zipD xs ys) | [.tup xs, .tup ys] => ret (zipD xs ys) | _ => stk
theorem di_zip {w : DL.Env → W (List D)} {elts : List Expr} {kk : Nat} {tpos : Pos} (hK : X.K = B.G.K) (hg : Gl X "zip") (hm : X.mg "zip" = none) (ha : DA X B 2 [e, e2] w)
    (hs : starEach [e, e2] X.env = (false, eval e X.env) :: starEach [e2] X.env := by rfl) (hpl : (backTo pos (starEach [e2] X.env)).any (·.1) = false := by rfl) :
    DI X B (.Tuple elts kk tpos) (.Call (.Name "zip" p) [e, e2] [] pos) (fun ρ => bnd (w ρ) zipS) := by
  refine PI.imp (RZ.pi_zipA hg hm ha hs hpl) fun σ H R ⟨ρ, H0, QL, k, q, h⟩ => ⟨ρ, H0, _, k, q, fun ds vs H1 H2 x dd l q1 => ?_⟩
  match ds, q1 with
  | [.lst xs, .lst ys], q1 =>
    obtain ⟨v, v', e, d1, d2⟩ := dens2 dd
    obtain ⟨a, us, e1, s1, k1⟩ := den_lst d1
    obtain ⟨b, ws, e2, s2, k2⟩ := den_lst d2
    refine ⟨a, b, us, ws, by rw [e, e1, e2], .inl ⟨.of (x.zz _ _ s1), .of (x.zz _ _ s2), ?_⟩⟩
    rw [hK]
    exact h _ _ H1 H2 x (itOk_zip s1 k1 s2 k2) q1
  | [.tup xs, .tup ys], q1 =>
    obtain ⟨v, v', e, d1, d2⟩ := dens2 dd
    obtain ⟨a, us, e1, s1, k1⟩ := den_tup d1
    obtain ⟨b, ws, e2, s2, k2⟩ := den_tup d2
    refine ⟨a, b, us, ws, by rw [e, e1, e2], .inr ⟨by rw [hK]; exact SqT.up x.zz s1, by rw [hK]; exact SqT.up x.zz s2, ?_⟩⟩
    rw [hK]
    exact h _ _ H1 H2 x (itOk_zipT s1 k1 s2 k2) q1
end
end DL
end
section
set_option Elab.async false
set_option linter.all false
set_option maxRecDepth 100000
set_option maxHeartbeats 1000000
set_option autoImplicit false
/-! DJ: list comprehensions, for, new lists, a def by its body. -/
namespace DL
open PySem PySem.Spec L2
/-! ### new lists -/
def liftN (B : Bx) (w : DL.Env → W (List D)) : TE := fun σ H Q => ∃ (ρ : DL.Env) (H0 : Hp) (QL : List D → Prop), Ok B ρ σ H0 H ∧ w ρ QL B.E ∧
  ∀ ds vs p H0' H1 H2, Ext B.G.T H0 H H0' H1 → H1 p = none → H2 p = some (.lst vs) → Dens B.G H0' ds vs → Ext B.G.T H0' H1 H0' H2 → H0' p = none → QL ds → Q (.ref p) H2
abbrev DN (X : Cx) (B : Bx) (e : Expr) (w : DL.Env → W (List D)) : Prop := PE X e (liftN B w)
section
variable {X : Cx} {B : Bx} {e : Expr} {es : List Expr} {pos : Pos} {w : DL.Env → W (List D)}
theorem Same.put0 {H0 H : Hp} (z : Same H0 H) {p : Addr} {o : HO} (hp : H p = some o) (h0 : H0 p = none) : Same (upd H0 p o) H := fun b u e => by
  by_cases h : b = p
  · subst h; rw [upd_same] at e; cases e; exact hp
  · rw [upd_ne h] at e; exact z b u e
theorem de_new (h : DN X B e w) : DE X B e (fun ρ => bnd (w ρ) fun ds => ret (.lst ds)) := by
  refine PE.imp h fun σ H Q ⟨ρ, H0, QD, k, q, h⟩ => ⟨ρ, H0, _, k, q, fun ds vs p H1 H2 H3 x hn hp dd x2 h0 q1 => ?_⟩
  have s : Same H1 (upd H1 p (.lst vs)) := fun b u e => by rw [upd_ne (ne_of_none e h0)]; exact e
  have x3 : Ext B.G.T H1 H2 (upd H1 p (.lst vs)) H3 := ⟨x2.n, x2.nn, s, Same.put0 x2.zz hp h0, fun b u e => by
    by_cases h : b = p
    · subst h; exact .inr hn
    · rw [upd_ne h] at e; exact .inl e, x2.tabs, x2.nt.upd (by intro _ z; cases z)⟩
  exact h _ _ _ _ (x.trans x3) (of_lst upd_same (dd.same s)) q1
theorem dn_lst {n : Nat} (h : DA X B n es w) (hn : n ≤ 1000 := by decide) : DN X B (.List es pos) w := by
  refine PE.imp (pe_lst h) fun σ H Q ⟨ρ, H0, QD, k, q, h⟩ => ⟨ρ, H0, _, k, q, fun ds vs H1 H2 x dd l q1 => ⟨by rw [l, sizeLine_eq]; omega, fun p hp => ?_⟩⟩
  exact h ds vs p H1 H2 _ x hp upd_same dd (Ext.putH x.st hp _) (x.zz.free hp) q1
/-- name = a new list, the name's own from now on -/
theorem ds_own (i : Nat) {x : Str} {pos' : Pos} (hN : X.N.Nodup) (he : DN X B e w) (hi : X.N[i]? = some x := by rfl) (hx : Loc X.env.scope x := by first | exact Or.inl rfl | exact Or.inr rfl) (hs : swapsWith e (some (.Name x pos')) pos.line X.env = pure false := by rfl)
    (hf : X.fn x = true ∨ X.env.scope.names.lookup x = some .local := by first | exact .inl rfl | exact .inr rfl | assumption) : DS X B (.Assign [.Name x pos'] e pos) (fun ρ => bnd (w ρ) fun ds => ret (.nx (ρ.set i (.own (.lst none ds))))) := by
  refine PS.imp (ps_set hN hi hx he hs hf) fun D σ H ⟨ρ, H0, QO, k, q, h, _⟩ => ⟨ρ, H0, _, k, q, fun ds vs p H1 H2 H3 x hn hp dd x2 h0 q1 => ?_⟩
  have k2 := k.later (x.trans x2)
  refine h _ _ H1 H3 (k2.put (s := .own (.lst none ds)) ⟨p, rfl, (k.later x).ext.nn p hn, h0, (by intro _ z; cases z), vs, hp, dd⟩ fun o _ j o' a ea e1 e2 => ?_) x.z q1
  cases ea
  obtain ⟨v, e3, a, e4, _, _, hh⟩ := (k.later x).env j _ e1
  rw [e2] at e3
  cases e3
  cases e4
  obtain ⟨u, e5⟩ := hh.there
  rw [hn] at e5
  cases e5
end
/-! ### comprehensions -/
def wipeE (ρ : DL.Env) : List Nat → DL.Env
  | [] => ρ
  | v :: vs => (wipeE ρ vs).set v .un
theorem wipeE_length (ρ : DL.Env) : ∀ vs : List Nat, (wipeE ρ vs).length = ρ.length
  | [] => rfl
  | v :: vs => by unfold wipeE; rw [List.length_set, wipeE_length ρ vs]
theorem wipeE_some {ρ : DL.Env} {i : Nat} {s : Sl} (hs : s ≠ .un) : ∀ {vs : List Nat}, (wipeE ρ vs)[i]? = some s → ρ[i]? = some s ∧ i ∉ vs
  | [], h => ⟨h, by simp⟩
  | v :: vs, h => by
    unfold wipeE at h
    by_cases hi : v = i
    · subst hi
      by_cases hv : v < (wipeE ρ vs).length
      · rw [List.getElem?_set_self hv] at h; cases h; exact absurd rfl hs
      · rw [List.getElem?_eq_none (by simpa using hv)] at h; cases h
    · rw [List.getElem?_set_ne hi] at h
      obtain ⟨h1, h2⟩ := wipeE_some hs h
      exact ⟨h1, fun z => (List.mem_cons.mp z).elim (fun e => hi e.symm) h2⟩
theorem wipe_get {σ : L2.St} {i : Nat} : ∀ {vs : List Nat}, i ∉ vs → (wipe σ vs)[i]? = σ[i]?
  | [], _ => rfl
  | v :: vs, h => by
    unfold wipe
    rw [List.getElem?_set_ne (fun e => h (by simp [e])), wipe_get fun z => h (List.mem_cons_of_mem _ z)]
theorem Ok.wiped {B : Bx} {ρ : DL.Env} {σ : L2.St} {H0 H : Hp} (k : Ok B ρ σ H0 H) (vs : List Nat) : Ok B (wipeE ρ vs) (wipe σ vs) H0 H := by
  refine ⟨k.ext, by rw [wipe_length, wipeE_length]; exact k.len, fun i s e => ?_, fun i j o p a e1 e2 e3 e4 => ?_⟩
  · by_cases hs : s = .un
    · subst hs
      have hi : i < (wipe σ vs).length := by
        rw [wipe_length, k.len, ← wipeE_length ρ vs]
        exact (List.getElem?_eq_some_iff.mp e).1
      exact ⟨_, List.getElem?_eq_getElem hi, trivial⟩
    · obtain ⟨h1, h2⟩ := wipeE_some hs e
      obtain ⟨v, h3, h4⟩ := k.env i s h1
      exact ⟨v, by rw [wipe_get h2]; exact h3, h4⟩
  · obtain ⟨h1, n1⟩ := wipeE_some (by intro z; cases z) e1
    obtain ⟨h2, n2⟩ := wipeE_some (by intro z; cases z) e2
    rw [wipe_get n1] at e3
    rw [wipe_get n2] at e4
    exact k.apart i j o p a h1 h2 e3 e4
theorem wipe_congr {σ σ' : L2.St} {vs : List Nat} (hl : σ'.length = σ.length) (h : ∀ j, j ∉ vs → σ'[j]? = σ[j]?) : wipe σ' vs = wipe σ vs := by
  refine List.ext_getElem? fun i => ?_
  by_cases hi : i ∈ vs
  · have aux : ∀ (τ : L2.St) (us : List Nat), i ∈ us → (wipe τ us)[i]? = if i < τ.length then some none else none := by
      intro τ us
      induction us with
      | nil => intro h; cases h
      | cons u us ih =>
        intro hm
        unfold wipe
        by_cases e : u = i
        · subst e
          by_cases hlt : u < τ.length
          · rw [if_pos hlt, List.getElem?_set_self (by rw [wipe_length]; exact hlt)]
          · rw [if_neg hlt, List.getElem?_eq_none (by rw [List.length_set, wipe_length]; omega)]
        · rw [List.getElem?_set_ne e]
          exact ih ((List.mem_cons.mp hm).resolve_left fun z => e z.symm)
    rw [aux σ' vs hi, aux σ vs hi, hl]
  · rw [wipe_get hi, wipe_get hi, h i hi]
theorem Ok.no {B : Bx} {ρ : DL.Env} {σ : L2.St} {H0 H : Hp} (k : Ok B ρ σ H0 H) : Ok B.no ρ σ H0 H := ⟨k.ext, k.len, k.env, k.apart⟩
theorem Ok.ofNo {B : Bx} {ρ : DL.Env} {σ : L2.St} {H0 H : Hp} (k : Ok B.no ρ σ H0 H) : Ok B ρ σ H0 H := ⟨k.ext, k.len, k.env, k.apart⟩
/-- item by item -/
def lcGo (f : D → W (Option D)) : List D → W (List D)
  | [] => ret []
  | x :: xs => bnd (f x) fun o => bnd (lcGo f xs) fun ys => ret (match o with
    | some y => y :: ys
    | none => ys)
def lcF (own : List Nat) (g : D → DL.Env → W DL.Env) (wt : DL.Env → W Bool) (we : DL.Env → W D) (ρ : DL.Env) : D → W (Option D) := fun x =>
  bnd (g x (wipeE ρ own)) fun ρ1 => bnd (wt ρ1) fun t => if t = true then bnd (we ρ1) fun y => ret (some y) else ret none
abbrev DTs (X : Cx) (B : Bx) (ifs : List Expr) (w : DL.Env → W Bool) : Prop := PTs X ifs (liftT B w)
theorem dts_nil {X : Cx} {B : Bx} : DTs X B [] (fun _ => ret true) := ⟨fun pins s σ H Q I ⟨ρ, H0, QD, k, q, h⟩ => pts_nil.run pins s σ H Q I (h true H0 H k.refl q)⟩
theorem dts_one {X : Cx} {B : Bx} {c : Expr} {w : DL.Env → W Bool} (h : DT X B c w) : DTs X B [c] w := pts_one h
theorem ExtBx {B : Bx} {H0 H H1 H2 : Hp} (x : Ext B.no.G.T H0 H H1 H2) : Ext B.G.T H0 H H1 H2 := x
section
variable {X : Cx} {B : Bx} {elt tg iter : Expr} {ifs : List Expr} {scope : Scope} {own : List (Str × Nat)} {pos : Pos} {wi : DL.Env → W (List D)} {is : List Nat} {g : D → DL.Env → W DL.Env} {wt : DL.Env → W Bool} {we : DL.Env → W D}
theorem lift_lc (his : ∀ i ∈ is, i ∈ own.map (·.2)) {σ : L2.St} {H : Hp} {Q : VK} (h : liftN B (fun ρ => bnd (wi ρ) fun xs => grd (xs.length ≤ sizeLine) (nox (lcGo (lcF (own.map (·.2)) g wt we ρ) xs))) σ H Q) :
    tLc (liftI B wi) (liftG B.no is g) (liftT B.no wt) (lift B.no we) (own.map (·.2)) σ H Q := by
  obtain ⟨ρ, H0, QL, k, q, h⟩ := h
  refine ⟨ρ, H0, _, k, q, fun ds J H1 H2 x jt q1 => ?_⟩
  obtain ⟨hsz, q1⟩ := q1
  intro Dd hD
  refine ⟨fun i m H => m = ds.length - i ∧ i ≤ ds.length ∧ ∃ (H3 : Hp) (accd : List D) (acc : List V), Ext B.G.T H1 H2 H3 H ∧ H3 Dd = none ∧ H Dd = some (.lst acc) ∧ Dens B.G H3 accd acc ∧ acc.length ≤ i ∧
      lcGo (lcF (own.map (·.2)) g wt we ρ) (ds.drop i) (fun ys => QL (accd ++ ys)) (fun _ => False), ⟨ds.length, by simp, Nat.zero_le _, H1, [], [], Ext.putH x.st hD _, x.zz.free hD, upd_same, .nil, Nat.le_refl _, q1⟩, ?_⟩
  rintro i m H ⟨rfl, hi, H3, accd, acc, x3, n3, hd, dd, hl, qq⟩
  by_cases hlt : i < ds.length
  · refine .inr ⟨jt.go i H hlt (x3.z.trans x3.zz), _, fun H' p => ⟨ds.length - (i + 1), by omega, rfl, hlt, p⟩, fun v H4 y => ?_⟩
    have e1 : ds[i]? = some ds[i] := by simp [hlt]
    obtain ⟨H5, x5, dv⟩ := jt.yld i H3 H v H4 ds[i] x3.z x3.st e1 y
    have hD4 : H4 Dd = some (.lst acc) := x5.n Dd _ hd fun _ z => by cases z
    have hD5 : H5 Dd = none := by
      cases z : H5 Dd with
      | none => rfl
      | some u =>
        rcases x5.fr Dd u z with r | r
        · rw [n3] at r; cases r
        · rw [hd] at r; cases r
    rw [List.drop_eq_getElem_cons hlt] at qq
    have k5 : Ok B.no (wipeE ρ (own.map (·.2))) (wipe σ (own.map (·.2))) H5 H4 := (((k.later x).later (x3.trans x5)).wiped _).no
    refine ⟨_, H5, ds[i], _, k5, dv, qq, fun ρ1 σ1 k6 s6 l6 q6 => ⟨wipe_congr (σ := wipe σ (own.map (·.2))) l6 (fun j hj => s6 j fun z => hj (his j z)) |>.trans ?_, ρ1, H5, _, k6, q6, fun t H7 H8 x8 q8 => ?_⟩⟩
    · exact wipe_congr (wipe_length _ _) fun j hj => wipe_get hj
    · have hD8 : H8 Dd = some (.lst acc) := x8.n Dd _ hD4 fun _ z => by cases z
      have hD7 : H7 Dd = none := by
        cases z : H7 Dd with
        | none => rfl
        | some u =>
          rcases x8.fr Dd u z with r | r
          · rw [hD5] at r; cases r
          · rw [hD4] at r; cases r
      have x38 : Ext B.G.T H1 H2 H7 H8 := (x3.trans x5).trans x8
      cases t with
      | true =>
        rw [if_pos rfl] at q8
        refine iteT ⟨ρ1, H7, _, k6.later x8, q8, fun d v' H9 H10 x10 d10 q10 => ?_⟩
        have hD10 : H10 Dd = some (.lst acc) := x10.n Dd _ hD8 fun _ z => by cases z
        have hD9 : H9 Dd = none := by
          cases z : H9 Dd with
          | none => rfl
          | some u =>
            rcases x10.fr Dd u z with r | r
            · rw [hD7] at r; cases r
            · rw [hD8] at r; cases r
        have xx : Ext B.G.T H1 H2 H9 H10 := x38.trans x10
        refine ⟨acc, hD10, by rw [sizeLine_eq] at hsz ⊢; omega, H9, accd ++ [d], acc ++ [v'], ?_, hD9, upd_same, ((((dd.same x5.z).same x8.z).same x10.z).append (.cons d10 .nil)), by rw [List.length_append, List.length_singleton]; omega, ?_⟩
        · refine ⟨fun b u e n => ?_, fun b e => xx.nn b (NdefX.upd_none e), xx.z, fun b u e => ?_, xx.fr, ?_, xx.nt⟩
          · rw [upd_ne (ne_of_none e hD)]; exact xx.n b u e n
          · rw [upd_ne (ne_of_none e hD9)]; exact xx.zz b u e
          · intro p hp
            obtain ⟨ps, t1, t2, t3⟩ := xx.tabs p hp
            refine ⟨ps, ?_, t2, fun pos cv hc => ?_⟩
            · rw [upd_ne (fun z => by rw [z, hD10] at t1; cases t1)]; exact t1
            · obtain ⟨c, e1, e2⟩ := t3 pos cv hc
              exact ⟨c, e1, by rw [upd_ne (fun z => by rw [z, hD10] at e2; cases e2)]; exact e2⟩
        · have e : (fun ys => QL (accd ++ [d] ++ ys)) = fun ys => QL (accd ++ d :: ys) := by funext ys; rw [List.append_assoc]; rfl
          rw [e]
          exact q10
      | false =>
        rw [if_neg Bool.false_ne_true] at q8
        exact iteF ⟨H7, accd, acc, x38, hD7, hD8, (dd.same x5.z).same x8.z, by omega, q8⟩
  · have e : i = ds.length := by omega
    subst e
    rw [List.drop_length] at qq
    have qq : QL (accd ++ []) := qq
    rw [List.append_nil] at qq
    exact .inl ⟨jt.stop H (x3.z.trans x3.zz), h accd acc Dd H3 (fun b => if b = Dd then none else H b) H (x.trans ⟨fun b u e n => by
        have nb : b ≠ Dd := fun z => by rw [z, hD] at e; cases e
        rw [if_neg nb]; exact x3.n b u e n, fun b e => by
        by_cases z : b = Dd
        · rw [z]; exact hD
        · rw [if_neg z] at e; exact x3.nn b e, x3.z, fun b u e => by
        rw [if_neg (fun z => by rw [z, n3] at e; cases e)]; exact x3.zz b u e, x3.fr, fun p hp => by
        obtain ⟨ps, t1, t2, t3⟩ := x3.tabs p hp
        refine ⟨ps, ?_, t2, fun pos cv hc => ?_⟩
        · exact (if_neg (fun z => by rw [z, hd] at t1; cases t1)).trans t1
        · obtain ⟨c, e1, e2⟩ := t3 pos cv hc
          exact ⟨c, e1, (if_neg (fun z => by rw [z, hd] at e2; cases e2)).trans e2⟩, x3.nt⟩) (if_pos rfl) hd dd ⟨fun b u e n => by
        by_cases z : b = Dd
        · rw [z, if_pos rfl] at e; cases e
        · rw [if_neg z] at e; exact e, fun b e => by
        by_cases z : b = Dd
        · rw [if_pos z]
        · rw [if_neg z]; exact e, .refl _, x3.zz, fun b u e => .inl e, x3.tabs, x3.nt⟩ n3 qq⟩
theorem dn_lc (hc : X.calm = true) (hN : X.N.Nodup) (hi : DI X B tg iter wi) (ok : BlkOk X.N X.env.scope scope own)
    (hg : ∀ (s : Shared) (H : Hp) (C : Addr) (cl : List (Str × Addr)) (fp : List Addr), DTg (X.blk s H scope (compEnvC scope cl C X.env) fp) B.no tg is g)
    (ht : ∀ (s : Shared) (H : Hp) (C : Addr) (cl : List (Str × Addr)) (fp : List Addr), DTs (X.blk s H scope (compEnvC scope cl C X.env) fp) B.no ifs wt)
    (he : ∀ (s : Shared) (H : Hp) (C : Addr) (cl : List (Str × Addr)) (fp : List Addr), DE (X.blk s H scope (compEnvC scope cl C X.env) fp) B.no elt we)
    (his : ∀ i ∈ is, i ∈ own.map (·.2) := by decide) (hs : ∀ x, foldedSetIterable iter X.env x = pure x := by intro _; rfl) :
    DN X B (.ListComp elt [⟨tg, iter, ifs, 0⟩] scope pos) (fun ρ => bnd (wi ρ) fun xs => grd (xs.length ≤ sizeLine) (nox (lcGo (lcF (own.map (·.2)) g wt we ρ) xs))) :=
  PE.imp (pe_lc hc hN hi ok hg ht he hs) fun _ _ _ h => lift_lc his h
/-- name = [..] on one line: the name a local; its list is frozen -/
theorem ds_setLc (i : Nat) {y : Str} {py spos : Pos} (hc : X.calm = true) (hN : X.N.Nodup) (hi : DI X B tg iter wi) (ok : BlkOk X.N X.env.scope scope own)
    (hg : ∀ (s : Shared) (H : Hp) (C : Addr) (cl : List (Str × Addr)) (fp : List Addr), DTg (X.blk s H scope (compEnvC scope cl C X.env) fp) B.no tg is g)
    (ht : ∀ (s : Shared) (H : Hp) (C : Addr) (cl : List (Str × Addr)) (fp : List Addr), DTs (X.blk s H scope (compEnvC scope cl C X.env) fp) B.no ifs wt)
    (he : ∀ (s : Shared) (H : Hp) (C : Addr) (cl : List (Str × Addr)) (fp : List Addr), DE (X.blk s H scope (compEnvC scope cl C X.env) fp) B.no elt we)
    (hy : X.N[i]? = some y := by rfl) (hyl : X.env.scope.names.lookup y = some .local := by rfl)
    (hsw : swapsWith (.ListComp elt [⟨tg, iter, ifs, 0⟩] scope pos) (some (.Name y py)) spos.line X.env = pure true := by exact sw_true rfl rfl rfl (by decide +kernel))
    (his : ∀ i ∈ is, i ∈ own.map (·.2) := by decide) (hs : ∀ x, foldedSetIterable iter X.env x = pure x := by intro _; rfl) :
    DS X B (.Assign [.Name y py] (.ListComp elt [⟨tg, iter, ifs, 0⟩] scope pos) spos) (fun ρ => bnd (bnd (wi ρ) fun xs => grd (xs.length ≤ sizeLine) (nox (lcGo (lcF (own.map (·.2)) g wt we ρ) xs))) fun ds => ret (.nx (ρ.set i (.d (.lst ds))))) := by
  refine PS.imp (ps_setLc hc hN hy hyl hsw hi ok hg ht he hs) fun D σ H ⟨ρ, H0, QO, k, q, h, _⟩ => ?_
  refine lift_lc his ⟨ρ, H0, _, k, q, fun ds vs p H1 H2 H3 x hn hp dd x2 h0 q1 => ?_⟩
  have s : Same H1 (upd H1 p (.lst vs)) := fun b u e => by rw [upd_ne (ne_of_none e h0)]; exact e
  have x3 : Ext B.G.T H1 H2 (upd H1 p (.lst vs)) H3 := ⟨x2.n, x2.nn, s, Same.put0 x2.zz hp h0, fun b u e => by
    by_cases h : b = p
    · subst h; exact .inr hn
    · rw [upd_ne h] at e; exact .inl e, x2.tabs, x2.nt.upd (by intro _ z; cases z)⟩
  exact h _ _ _ _ ((k.later (x.trans x3)).putD (of_lst upd_same (dd.same s))) (x.trans x3).z q1
/-- .. its list the name's own -/
theorem ds_ownLc (i : Nat) {y : Str} {py spos : Pos} (hc : X.calm = true) (hN : X.N.Nodup) (hi : DI X B tg iter wi) (ok : BlkOk X.N X.env.scope scope own)
    (hg : ∀ (s : Shared) (H : Hp) (C : Addr) (cl : List (Str × Addr)) (fp : List Addr), DTg (X.blk s H scope (compEnvC scope cl C X.env) fp) B.no tg is g)
    (ht : ∀ (s : Shared) (H : Hp) (C : Addr) (cl : List (Str × Addr)) (fp : List Addr), DTs (X.blk s H scope (compEnvC scope cl C X.env) fp) B.no ifs wt)
    (he : ∀ (s : Shared) (H : Hp) (C : Addr) (cl : List (Str × Addr)) (fp : List Addr), DE (X.blk s H scope (compEnvC scope cl C X.env) fp) B.no elt we)
    (hy : X.N[i]? = some y := by rfl) (hyl : X.env.scope.names.lookup y = some .local := by rfl)
    (hsw : swapsWith (.ListComp elt [⟨tg, iter, ifs, 0⟩] scope pos) (some (.Name y py)) spos.line X.env = pure true := by exact sw_true rfl rfl rfl (by decide +kernel))
    (his : ∀ i ∈ is, i ∈ own.map (·.2) := by decide) (hs : ∀ x, foldedSetIterable iter X.env x = pure x := by intro _; rfl) :
    DS X B (.Assign [.Name y py] (.ListComp elt [⟨tg, iter, ifs, 0⟩] scope pos) spos) (fun ρ => bnd (bnd (wi ρ) fun xs => grd (xs.length ≤ sizeLine) (nox (lcGo (lcF (own.map (·.2)) g wt we ρ) xs))) fun ds => ret (.nx (ρ.set i (.own (.lst none ds))))) := by
  refine PS.imp (ps_setLc hc hN hy hyl hsw hi ok hg ht he hs) fun D σ H ⟨ρ, H0, QO, k, q, h, _⟩ => ?_
  refine lift_lc his ⟨ρ, H0, _, k, q, fun ds vs p H1 H2 H3 x hn hp dd x2 h0 q1 => ?_⟩
  have k2 := k.later (x.trans x2)
  refine h _ _ H1 H3 (k2.put (s := .own (.lst none ds)) ⟨p, rfl, (k.later x).ext.nn p hn, h0, (by intro _ z; cases z), vs, hp, dd⟩ fun o _ j o' a ea e1 e2 => ?_) x.z q1
  cases ea
  obtain ⟨v, e3, a, e4, _, _, hh⟩ := (k.later x).env j _ e1
  rw [e2] at e3
  cases e3
  cases e4
  obtain ⟨u, e5⟩ := hh.there
  rw [hn] at e5
  cases e5
end
/-! ### for -/
def forGo (f : D → DL.Env → W Out) : List D → DL.Env → W Out
  | [], ρ => ret (.nx ρ)
  | x :: xs, ρ => bnd (f x ρ) fun o => match o with
    | .nx ρ' => forGo f xs ρ'
    | .ct ρ' => forGo f xs ρ'
    | .bk ρ' => ret (.nx ρ')
    | .rt d ρ => ret (.rt d ρ)
section
variable {X : Cx} {B : Bx} {tg iter : Expr} {body : List Stmt} {pos : Pos} {wi : DL.Env → W (List D)} {is : List Nat} {g : D → DL.Env → W DL.Env} {wb : DL.Env → W Out}
theorem ds_for (hp : PassesOwn (model X.prog X.w) X.A X.env X.xe) (hc : X.calm = true) (hi : DI X B tg iter wi) (hg : DTg X B tg is g) (hb : DSs X B body wb) (hs : ∀ x, foldedSetIterable iter X.env x = pure x := by intro _; rfl) :
    DS X B (.For tg iter body [] pos) (fun ρ => bnd (wi ρ) fun xs => forGo (fun x ρ => bnd (nox (g x ρ)) wb) xs ρ) := by
  refine PS.imp (ps_for hp hc hi hg hb hs) fun D σ H ⟨ρ, H0, QO, k, q, h, hr, hbk, hct⟩ => ⟨ρ, H0, _, k, q, fun ds J H1 H2 x jt q1 => ?_⟩
  refine ⟨fun i m σ H => m = ds.length - i ∧ i ≤ ds.length ∧ ∃ (ρ : DL.Env) (H3 : Hp), Ok B ρ σ H3 H ∧ Same H1 H3 ∧ forGo (fun x ρ => bnd (nox (g x ρ)) wb) (ds.drop i) ρ QO B.E, ⟨ds.length, by simp, Nat.zero_le _, ρ, H1, k.later x, .refl _, q1⟩, ?_⟩
  rintro i m σ3 H ⟨rfl, hi, ρ3, H3, k3, s3, qq⟩
  by_cases hlt : i < ds.length
  · refine .inr ⟨jt.go i H hlt (s3.trans k3.ext.zz), _, fun σ' H' p => ⟨ds.length - (i + 1), by omega, rfl, hlt, p⟩, fun v H4 y => ?_⟩
    have e1 : ds[i]? = some ds[i] := by simp [hlt]
    obtain ⟨H5, x5, dv⟩ := jt.yld i H3 H v H4 ds[i] s3 k3.st e1 y
    rw [List.drop_eq_getElem_cons hlt] at qq
    refine ⟨ρ3, H5, ds[i], _, k3.later x5, dv, qq, fun ρ1 σ1 k6 _ _ q6 => ⟨ρ1, H5, _, k6, q6, fun ρ7 σ7 H7 H8 k8 s8 q8 => ?_, fun d v ρ7 σ7 H7 H8 x8 d8 q8 => hr d v ρ7 σ7 H7 H8 x8 d8 q8, fun ρ7 σ7 H7 H8 k8 s8 q8 => ?_, fun ρ7 σ7 H7 H8 k8 s8 q8 => ?_⟩⟩
    · exact ⟨ρ7, H7, k8, (s3.trans x5.z).trans s8, q8⟩
    · exact h ρ7 σ7 H7 H8 k8 (((x.z.trans s3).trans x5.z).trans s8) q8
    · exact ⟨ρ7, H7, k8, (s3.trans x5.z).trans s8, q8⟩
  · have e : i = ds.length := by omega
    subst e
    rw [List.drop_length] at qq
    exact .inl ⟨jt.stop H (s3.trans k3.ext.zz), h ρ3 σ3 H3 H k3 (x.z.trans s3) qq⟩
/-! ### while -/
def whN (c : DL.Env → W Bool) (b : DL.Env → W Out) : Nat → DL.Env → W Out
  | 0, _ => stk
  | n + 1, ρ => bnd (c ρ) fun t => if t = true then bnd (b ρ) (fun o => match o with
    | .nx ρ' => whN c b n ρ'
    | .ct ρ' => whN c b n ρ'
    | .bk ρ' => ret (.nx ρ')
    | .rt d ρ => ret (.rt d ρ)) else ret (.nx ρ)
def whW (c : DL.Env → W Bool) (b : DL.Env → W Out) (ρ : DL.Env) : W Out := fun Q E => ∃ n, whN c b n ρ Q E
theorem ds_while {c : Expr} {wc : DL.Env → W Bool} (hp : PassesOwn (model X.prog X.w) X.A X.env X.xe) (hc : DT X B c wc) (hb : DSs X B body wb) : DS X B (.While c body [] pos) (fun ρ => whW wc wb ρ) := by
  refine PS.imp (ps_while hp hc hb) fun D σ H ⟨ρ, H0, QO, k, ⟨n, q⟩, h, hr, hbk, hct⟩ => ?_
  refine ⟨fun m σ H => ∃ (ρ : DL.Env) (H3 : Hp), Ok B ρ σ H3 H ∧ Same H0 H3 ∧ whN wc wb m ρ QO B.E, ⟨n, ρ, H0, k, .refl _, q⟩, ?_⟩
  rintro m σ3 H ⟨ρ3, H3, k3, s3, qq⟩
  cases m with
  | zero => exact (show False from qq).elim
  | succ m =>
    refine ⟨ρ3, H3, _, k3, qq, fun t H4 H5 x5 q5 => ?_⟩
    cases t with
    | true =>
      have q5 := q5
      rw [if_pos rfl] at q5
      refine iteT ⟨_, fun σ' H' p => ⟨m, Nat.lt_succ_self m, p⟩, ρ3, H4, _, k3.later x5, q5, fun ρ7 σ7 H7 H8 k8 s8 q8 => ?_, fun d v ρ7 σ7 H7 H8 x8 d8 q8 => hr d v ρ7 σ7 H7 H8 x8 d8 q8, fun ρ7 σ7 H7 H8 k8 s8 q8 => ?_, fun ρ7 σ7 H7 H8 k8 s8 q8 => ?_⟩
      · exact ⟨ρ7, H7, k8, (s3.trans x5.z).trans s8, q8⟩
      · exact h ρ7 σ7 H7 H8 k8 ((s3.trans x5.z).trans s8) q8
      · exact ⟨ρ7, H7, k8, (s3.trans x5.z).trans s8, q8⟩
    | false =>
      rw [if_neg Bool.false_ne_true] at q5
      exact iteF (h ρ3 σ3 H4 H5 (k3.later x5) (s3.trans x5.z) q5)
end
end DL
end
section
set_option Elab.async false
set_option linter.all false
set_option maxRecDepth 100000
set_option maxHeartbeats 1000000
set_option autoImplicit false
/-! DK: a def by its body; what is never reached; isinstance; == and in of data. -/
namespace DL
open PySem PySem.Spec L2 PyProof.Rows
/-- what a body's walk gives as the call's answer -/
def endW (m : W Out) : W D := bnd m fun o => match o with
  | .nx _ => ret .non
  | .rt d _ => ret d
  | _ => stk
abbrev env0 (n : Nat) (ds : List D) : DL.Env := ds.map Sl.d ++ List.replicate (n - ds.length) .un
theorem Ok.start {G : Gx} {H0 H : Hp} {E : DX → Prop} {xk : XK} {N : List Str} {ds : List D} {vs : List V} (st : St0 G H0 H) (dd : Dens G H0 ds vs) (h : vs.length ≤ N.length) : Ok ⟨G, H, H0, E, xk⟩ (env0 N.length ds) (start N vs) H0 H := by
  have hl := dd.length
  refine ⟨st.refl, by simp [L2.start, hl], fun i s e => ?_, fun i j o p a e1 _ _ _ => ?_⟩
  · by_cases hi : i < ds.length
    · have e' : (ds.map Sl.d)[i]? = some s := by
        rw [List.getElem?_append_left (by simpa using hi)] at e
        exact e
      rw [List.getElem?_map] at e'
      cases q : ds[i]? with
      | none => rw [q] at e'; cases e'
      | some d =>
        rw [q] at e'
        cases e'
        obtain ⟨v, h1, h2⟩ := dd.get q
        refine ⟨some v, ?_, v, rfl, h2⟩
        show (vs.map some ++ _)[i]? = _
        rw [List.getElem?_append_left (by simpa [← hl] using hi), List.getElem?_map, h1]
        rfl
    · have hi' : ds.length ≤ i := Nat.le_of_not_lt hi
      rw [List.getElem?_append_right (by simpa using hi')] at e
      have q := List.getElem?_eq_some_iff.mp e
      obtain ⟨q1, q2⟩ := q
      rw [List.getElem_replicate] at q2
      subst q2
      refine ⟨none, ?_, trivial⟩
      show (vs.map some ++ _)[i]? = _
      rw [List.length_map, List.length_replicate] at q1
      rw [List.getElem?_append_right (by simpa [← hl] using hi'), List.getElem?_replicate, List.length_map, ← hl, if_pos q1]
  · exfalso
    by_cases hi : i < ds.length
    · rw [List.getElem?_append_left (by simpa using hi), List.getElem?_map] at e1
      cases q : ds[i]? with
      | none => rw [q] at e1; cases e1
      | some d => rw [q] at e1; cases e1
    · rw [List.getElem?_append_right (by simpa using Nat.le_of_not_lt hi)] at e1
      obtain ⟨_, q2⟩ := List.getElem?_eq_some_iff.mp e1
      rw [List.getElem_replicate] at q2
      cases q2
/-- how the arguments bind: h is «fun _ _ _ _ _ _ us hl => match us, hl with | [_, _], _ => rfl», one _ a parameter -/
abbrev BindsBy (x qual : Str) (pr : Arguments) (body : List Stmt) (sc : Scope) (ps : List Str) : Prop := ∀ (kV doc pm : Value) (an : Option Addr) (cdv ct : Value) (us : List Value), us.length = ps.length → bindArgs (PySem.W.fnOf x qual pr body sc .none kV doc pm an cdv ct) ⟨us, []⟩ = pure (ps.zip us)
theorem funD_ok {CX : CXT} {P : Program} {w : World} {K : PySem.W.Frag} {mg : Str → Option Value} {base : Heap} {x qual : Str} {params : Arguments} {body : List Stmt} {scope : Scope} {dvs : List V} {kws : List (Str × V)} {f : Addr} {fd : FuncData} {N ps : List Str} {k : Nat} {sp : Sp}
    (F : FunD K x qual params body scope dvs kws f fd) (S : FnScope N ps scope) (len : ∀ vs H Q E, sp vs H Q E → vs.length = ps.length)
    (hb : ∀ (cdv : Value) (A : Around) (outer : List PySem.Env) (s : Shared) (H : Hp) (vs : List V) (Q : VK) (E : XK), Room k (A.deeper (PyProof.Rows.envOfC qual scope s.heap.objs.size f cdv)) → sp vs H Q E →
      ∃ t, PSs (cxOf CX P w K mg base N qual scope f cdv A outer s H E) body t ∧ t { nx := fun _ H' => Q .non H', rt := Q } (start N vs) H) : FnOk P w K mg base CX (k + 1) f fd ps sp := by
  obtain ⟨_, _, _, _, _, _, _, cdv, _, _, rfl, lk, hcd, _⟩ := F.ex
  exact fn_of lk hcd S len (hb cdv)
/-- THE RULE for a def: its body's walk -/
theorem fnOk_of {P : Program} {w : World} {G : Gx} {mg : Str → Option Value} {base : Heap} {x qual : Str} {pr : Arguments} {body : List Stmt} {sc : Scope} {f : Addr} {fd : FuncData} {N ps : List Str} {k : Nat} {s : List D → W D}
    (F : FunD G.K x qual pr body sc [] [] f fd) (S : FnScope N ps sc) (hn : ps.length ≤ N.length)
    (hbody : ∀ (cdv : Value) (A : Around) (outer : List PySem.Env) (s0 : Shared) (H : Hp) (E : XK) (H0 : Hp) (ED : DX → Prop), fd.code = cdv → Room k (A.deeper (PyProof.Rows.envOfC qual sc s0.heap.objs.size f cdv)) →
      Passes (L2.CX P w) (cxOf (L2.CX P w) P w G.K mg base N qual sc f cdv A outer s0 H E) E → BxOk ⟨G, H, H0, ED, E⟩ →
      ∃ wb, DSs (cxOf (L2.CX P w) P w G.K mg base N qual sc f cdv A outer s0 H E) ⟨G, H, H0, ED, E⟩ body wb ∧ ∀ ds Q, ds.length = ps.length → s ds Q ED → endW (wb (env0 N.length ds)) Q ED) :
    FnOk P w G.K mg base (L2.CX P w) (k + 1) f fd ps (liftSp G ps.length s) := by
  obtain ⟨oc, od, dV, kV, doc, pm, an, cdv, ct, osl, rfl, lk, hcd, _, _⟩ := F.ex
  refine fn_of lk hcd S (fun vs H Q E ⟨_, _, _, _, h, _⟩ => h) fun A outer s0 H vs Q E hr ⟨H0, ds, QD, ED, l, st0, dd, q, he, hx⟩ => ?_
  obtain ⟨wb, h1, h2⟩ := hbody cdv A outer s0 H E H0 ED rfl hr (passes_call (takes_of rfl rfl rfl rfl) fun _ _ _ _ h => h) fun x cls d H1 H2 e dx q => hx x cls d H1 H2 e dx q
  refine ⟨_, h1, ?_⟩
  refine ⟨_, H0, _, Ok.start st0 dd (by rw [l]; exact hn), h2 ds QD (dd.length.trans l) q, ?_, ?_, ?_, ?_⟩
  · intro ρ' σ' H0' H' k' _ q'
    exact he .non .non H0' H' k'.ext (by simp only [Den]) q'
  · intro d v ρ' σ' H0' H' k' d' q'
    exact he d v H0' H' k'.ext d' q'
  · intro ρ' σ' H0' H' k' _ q'
    exact (show False from q').elim
  · intro ρ' σ' H0' H' k' _ q'
    exact (show False from q').elim
theorem fnH_of {P : Program} {w : World} {G : Gx} {mg : Str → Option Value} {base : Heap} {x qual : Str} {pr : Arguments} {body : List Stmt} {sc : Scope} {f : Addr} {fd : FuncData} {N ps : List Str} {k : Nat} {s : List D → W D}
    (F : FunD G.K x qual pr body sc [] [] f fd) (S : FnScope N ps sc) (hm : mg x = some (.ref f)) (hb : BindsBy x qual pr body sc ps) (hn : ps.length ≤ N.length)
    (hbody : ∀ (cdv : Value) (A : Around) (outer : List PySem.Env) (s0 : Shared) (H : Hp) (E : XK) (H0 : Hp) (ED : DX → Prop), fd.code = cdv → Room k (A.deeper (PyProof.Rows.envOfC qual sc s0.heap.objs.size f cdv)) →
      Passes (L2.CX P w) (cxOf (L2.CX P w) P w G.K mg base N qual sc f cdv A outer s0 H E) E → BxOk ⟨G, H, H0, ED, E⟩ →
      ∃ wb, DSs (cxOf (L2.CX P w) P w G.K mg base N qual sc f cdv A outer s0 H E) ⟨G, H, H0, ED, E⟩ body wb ∧ ∀ ds Q, ds.length = ps.length → s ds Q ED → endW (wb (env0 N.length ds)) Q ED) :
    FnH P w G mg base x ps.length (k + 1) s := ⟨f, fd, ps, rfl, hm, F.kp, F.bindsN hb, fnOk_of F S hn hbody⟩
/-! ### isinstance -/
inductive CV where
  | ty (n : String) | own (c : Nat)
def CV.v (G : Gx) : CV → V
  | .ty n => .ty n
  | .own c => .ref (G.cls c)
def CV.u (G : Gx) : CV → Value
  | .ty n => .type n
  | .own c => .ref (G.cls c)
theorem CV.ok {G : Gx} : ∀ c : CV, ClsV (c.v G) (c.u G)
  | .ty n => .ty n
  | .own c => .own _
def tyN : D → Option String
  | .non => some "NoneType"
  | .bl _ => some "bool"
  | .int _ => some "int"
  | .str _ => some "str"
  | .tup _ => some "tuple"
  | .lst _ => some "list"
  | .dic ks _ => if (mapO dKey ks).isSome = true then some "dict" else none
  | _ => none
def tyB (a b : String) : Bool := a == b || (a == "bool" && b == "int")
theorem tyB_all : ∀ a ∈ tyAs, ∀ b ∈ tyBs, kitB a b = some (tyB a b) := by decide +kernel
def isiD (G : Gx) : CV → D → Option Bool
  | .ty T, .ins c _ => if G.flds c ≠ [] ∧ T ∈ tyBs then some false else none
  | .ty T, d => (tyN d).bind fun a => if T ∈ tyBs then some (tyB a T) else none
  | .own c, .ins c' _ => if G.flds c ≠ [] ∧ G.flds c' ≠ [] then some (c' == c) else none
  | .own c, d => (tyN d).bind fun _ => if G.flds c ≠ [] then some false else none
theorem SqT.tyx {K : PySem.W.Frag} {H : Hp} {a : Addr} {xs : List V} (h : SqT K H a xs) : TyX K H (.ref a) (.type "tuple") := by
  rcases h with (h | ⟨o, h⟩) | h
  · exact .base (.tup h)
  · exact .fTuple h
  · obtain ⟨o, _, _, h1, h2, h3⟩ := h
    exact .kTuple h1 h2
theorem tyN_ok {G : Gx} {H : Hp} {d : D} {v : V} {a : String} (h : Den G H d v) (e : tyN d = some a) : a ∈ tyAs ∧ TyX G.K H v (.type a) := by
  cases d <;> first | (cases e) | skip
  · simp only [Den] at h; subst h; exact ⟨by decide, .base .non⟩
  · simp only [Den] at h; subst h; exact ⟨by decide, .base (.bl _)⟩
  · simp only [Den] at h; subst h; exact ⟨by decide, .base (.int _)⟩
  · simp only [Den] at h; subst h; exact ⟨by decide, .base (.str _)⟩
  · obtain ⟨p, us, rfl, s, _⟩ := den_tup h; exact ⟨by decide, SqT.tyx s⟩
  · obtain ⟨p, us, rfl, s, _⟩ := den_lst h; exact ⟨by decide, .base (.lst s)⟩
  · rename_i ks us
    simp only [tyN] at e
    by_cases c : (mapO dKey ks).isSome = true
    · rw [if_pos c] at e
      cases e
      refine ⟨by decide, ?_⟩
      simp only [Den] at h
      obtain ⟨p, vs, rfl, _, h | h⟩ := h
      · obtain ⟨kk, o, _, h2, _⟩ := h
        exact .fDict h2
      · obtain ⟨kk, o, h1, _, _, hn⟩ := h
        exfalso
        cases ks with
        | nil => exact hn rfl
        | cons k r =>
          cases k <;> first | (simp [mapO, dKeyT] at h1; done) | (simp [mapO, dKey] at c; done)
    · rw [if_neg c] at e
      cases e
def tyD (G : Gx) : D → Value
  | .ins c _ => .ref (G.cls c)
  | d => .type ((tyN d).getD "")
theorem tyD_of {G : Gx} {d : D} {a : String} (e : tyN d = some a) : tyD G d = .type a := by
  have h : tyD G d = .type ((tyN d).getD "") := by
    cases d <;> first | rfl | (cases e; done)
  rw [h, e]
  rfl
theorem isiD_ok {G : Gx} {H : Hp} {d : D} {v : V} {c : CV} {b : Bool} (g : GOk G) (h : Den G H d v) (e : isiD G c d = some b) : TyX G.K H v (tyD G d) ∧ PySem.W.kitOne G.K (tyD G d) (c.u G) = some b := by
  have base : ∀ a, tyN d = some a → ∀ T, T ∈ tyBs → tyB a T = b → c = .ty T → TyX G.K H v (tyD G d) ∧ PySem.W.kitOne G.K (tyD G d) (c.u G) = some b := fun a e2 T hT hb hc => by
    obtain ⟨h1, h2⟩ := tyN_ok h e2
    subst hc
    rw [tyD_of e2]
    refine ⟨h2, ?_⟩
    rw [← hb]
    exact kit_ty (tyB_all a h1 T hT)
  have basc : ∀ a, tyN d = some a → ∀ c', G.flds c' ≠ [] → false = b → c = .own c' → TyX G.K H v (tyD G d) ∧ PySem.W.kitOne G.K (tyD G d) (c.u G) = some b := fun a e2 c' hT hb hc => by
    obtain ⟨h1, h2⟩ := tyN_ok h e2
    subst hc
    rw [tyD_of e2]
    refine ⟨h2, ?_⟩
    rw [← hb]
    exact (g.ty c' hT).on a h1
  cases c with
  | ty T =>
    by_cases q : ∃ c' fs, d = .ins c' fs
    · obtain ⟨c', fs, rfl⟩ := q
      simp only [isiD] at e
      split at e
      · rename_i hh
        cases e
        simp only [Den] at h
        obtain ⟨a, dx, vs, rfl, s, _, _⟩ := h
        have k := g.ty c' hh.1
        exact ⟨.base (.ins s k.cl k.ha k.hn k.htk k.hm), k.no T hh.2⟩
      · cases e
    · have e' : (tyN d).bind (fun a => if T ∈ tyBs then some (tyB a T) else none) = some b := by
        cases d <;> first | exact e | exact (q ⟨_, _, rfl⟩).elim
      cases w : tyN d with
      | none => rw [w] at e'; cases e'
      | some a =>
        rw [w] at e'
        simp only [Option.bind] at e'
        split at e'
        · rename_i hh
          cases e'
          exact base a w T hh rfl rfl
        · cases e'
  | own c' =>
    by_cases q : ∃ c' fs, d = .ins c' fs
    · obtain ⟨c2, fs, rfl⟩ := q
      simp only [isiD] at e
      split at e
      · rename_i hh
        cases e
        simp only [Den] at h
        obtain ⟨a, dx, vs, rfl, s, _, _⟩ := h
        have k := g.ty c2 hh.2
        refine ⟨.base (.ins s k.cl k.ha k.hn k.htk k.hm), ?_⟩
        by_cases z : c2 = c'
        · subst z
          show PySem.W.kitOne G.K (.ref (G.cls c2)) (.ref (G.cls c2)) = _
          unfold PySem.W.kitOne
          simp
        · rw [beq_eq_false_iff_ne.mpr z]
          exact g.ne c2 c' hh.2 hh.1 z
      · cases e
    · have e' : (tyN d).bind (fun a => if G.flds c' ≠ [] then some false else none) = some b := by
        cases d <;> first | exact e | exact (q ⟨_, _, rfl⟩).elim
      cases w : tyN d with
      | none => rw [w] at e'; cases e'
      | some a =>
        rw [w] at e'
        simp only [Option.bind] at e'
        split at e'
        · rename_i hh
          cases e'
          exact basc a w c' hh rfl rfl
        · cases e'
section
variable {X : Cx} {B : Bx} {e f : Expr} {we : DL.Env → W D} {pos p : Pos}
/-- a class by its name -/
inductive ClsE (X : Cx) (G : Gx) : Expr → CV → Prop where
  | ty {x : Str} {n : String} {p : Pos} (hg : Gl X x) (hm : X.mg x = none) (hv : bootBuiltins x = some (.type n)) (hn : x ≠ "__name__") (hd : (x == ("__debug__" : Str)) = false) : ClsE X G (.Name x p) (.ty n)
  | own {x : Str} {c : Nat} {p : Pos} (hg : Gl X x) (hm : X.mg x = some (.ref (G.cls c))) (hd : (x == ("__debug__" : Str)) = false) : ClsE X G (.Name x p) (.own c)
theorem ClsE.pe {c : CV} (h : ClsE X B.G f c) : PE X f (tC (c.v B.G)) := by
  cases h with
  | ty hg hm hv hn hd => exact pe_bltn hg hm hv rfl hn hd
  | own hg hm hd => exact pe_glob hg hm rfl hd
theorem de_isi {c : CV} (hK : X.K = B.G.K) (g : GOk B.G) (hg : Gl X "isinstance") (hm : X.mg "isinstance" = none) (he : DE X B e we) (hc : ClsE X B.G f c)
    (hs1 : starEach [e, f] X.env = (false, eval e X.env) :: starEach [f] X.env := by rfl) (hs2 : starEach [f] X.env = (false, eval f X.env) :: starEach [] X.env := by rfl) (hpl : (backTo pos (starEach [f] X.env)).any (·.1) = false := by rfl) :
    DE X B (.Call (.Name "isinstance" p) [e, f] [] pos) (fun ρ => bnd (we ρ) fun d => optW ((isiD B.G c d).map D.bl)) := by
  refine PE.imp (pe_callB call_isi hg hm PyProof.Rows.boot_isinstance (pa_cons he (pa_cons hc.pe pa_nil hs2) hs1) (by decide) (by decide) hs1 hpl) fun σ H Q ⟨ρ, H0, QD, k, q, h⟩ => ⟨ρ, H0, _, k, q, fun d v H1 H2 x dd q1 => ?_⟩
  obtain ⟨y, e, q1⟩ := optW_of q1
  cases w : isiD B.G c d with
  | none => rw [w] at e; cases e
  | some b =>
    rw [w] at e
    cases e
    obtain ⟨ty, kt⟩ := isiD_ok g (dd.same x.zz) w
    exact ⟨v, c.v B.G, _, c.u B.G, b, rfl, c.ok, by rw [hK]; exact ty, by rw [hK]; exact kt, h _ _ H1 H2 x of_bl q1⟩
def tCs (G : Gx) : List CV → TA
  | [] => tNil
  | c :: cs => tCons (tC (c.v G)) (tCs G cs)
theorem tCs_of {G : Gx} : ∀ (cs : List CV) {σ : L2.St} {H : Hp} {Q : List V → Hp → Prop}, Q (cs.map (·.v G)) H → tCs G cs σ H Q
  | [], _, _, _, h => h
  | c :: cs, _, _, _, h => tCs_of cs h
def isiA (G : Gx) : List CV → D → Option Bool
  | [], _ => none
  | [c], d => isiD G c d
  | c :: cs, d => match isiD G c d with
    | some true => some true
    | some false => isiA G cs d
    | none => none
theorem isiA_ok {G : Gx} {H : Hp} {d : D} {v : V} (g : GOk G) (h : Den G H d v) : ∀ {cs : List CV} {b : Bool}, isiA G cs d = some b → TyX G.K H v (tyD G d) ∧ PySem.W.kitAny G.K (tyD G d) (cs.map (·.u G)) = some b
  | [], b, e => by cases e
  | [c], b, e => by
    obtain ⟨h1, h2⟩ := isiD_ok g h (show isiD G c d = some b from e)
    refine ⟨h1, ?_⟩
    show (match PySem.W.kitOne G.K (tyD G d) (c.u G) with | some true => some true | some false => some false | none => none) = some b
    rw [h2]
    cases b <;> rfl
  | c :: c' :: cs, b, e => by
    have e' : (match isiD G c d with | some true => some true | some false => isiA G (c' :: cs) d | none => none) = some b := e
    show _ ∧ (match PySem.W.kitOne G.K (tyD G d) (c.u G) with | some true => some true | some false => PySem.W.kitAny G.K (tyD G d) ((c' :: cs).map (·.u G)) | none => none) = some b
    cases w : isiD G c d with
    | none => rw [w] at e'; cases e'
    | some t =>
      obtain ⟨h1, h2⟩ := isiD_ok g h w
      rw [h2]
      rw [w] at e'
      cases t with
      | true => exact ⟨h1, e'⟩
      | false => exact isiA_ok g h (cs := c' :: cs) e'
theorem ClsV.alls {G : Gx} : ∀ cs : List CV, Paired ClsV (cs.map (·.v G)) (cs.map (·.u G))
  | [] => .nil
  | c :: cs => .cons c.ok (ClsV.alls cs)
theorem de_isiA {cs : List CV} {es : List Expr} {k : Nat} {tp : Pos} (hK : X.K = B.G.K) (g : GOk B.G) (hg : Gl X "isinstance") (hm : X.mg "isinstance" = none) (he : DE X B e we) (hes : PA X es (tCs B.G cs)) (hz : cs.length ≤ sizeLine := by decide)
    (hs1 : starEach [e, .Tuple es k tp] X.env = (false, eval e X.env) :: starEach [.Tuple es k tp] X.env := by rfl) (hs2 : starEach [.Tuple es k tp] X.env = (false, eval (.Tuple es k tp) X.env) :: starEach [] X.env := by rfl) (hpl : (backTo pos (starEach [.Tuple es k tp] X.env)).any (·.1) = false := by rfl) :
    DE X B (.Call (.Name "isinstance" p) [e, .Tuple es k tp] [] pos) (fun ρ => bnd (we ρ) fun d => optW ((isiA B.G cs d).map D.bl)) := by
  refine PE.imp (pe_callB call_isiT hg hm PyProof.Rows.boot_isinstance (pa_cons he (pa_cons (pe_tup hes) pa_nil hs2) hs1) (by decide) (by decide) hs1 hpl) fun σ H Q ⟨ρ, H0, QD, k, q, h⟩ => ⟨ρ, H0, _, k, q, fun d v H1 H2 x dd q1 => tCs_of cs ⟨by rw [List.length_map]; exact hz, fun tp htp => ?_⟩⟩
  obtain ⟨y, e, q1⟩ := optW_of q1
  cases w : isiA B.G cs d with
  | none => rw [w] at e; cases e
  | some b =>
    rw [w] at e
    cases e
    have x2 := Ext.put x.st htp (.tup (cs.map (·.v B.G)))
    have x3 := x.trans x2
    obtain ⟨ty, kt⟩ := isiA_ok g ((dd.same x2.z).same x2.zz) w
    exact ⟨v, tp, cs.map (·.v B.G), _, cs.map (·.u B.G), b, rfl, upd_same, ClsV.alls cs, by rw [hK]; exact ty, by rw [hK]; exact kt, h _ _ _ _ x3 of_bl q1⟩
end
end DL
end
section
set_option Elab.async false
set_option linter.all false
set_option maxRecDepth 100000
set_option maxHeartbeats 1000000
set_option autoImplicit false
/-! DNe: == and != of instances by an own __eq__ (no own __ne__). -/
namespace DL
open PySem PySem.Spec PySem.W PyProof.Rows L2
section
variable {prog : Program} {w : World} {A : Around} {E : Value → Shared → Prop} {s : Shared} {K : Frag} {x C L f : Addr} {h₀ : Heap} {m : Str → Option Value} {ox : Obj} {od : Option Obj} {b : Value}
theorem ne_builtin {Q : Fin → Shared → Prop} (hu : A.units < cLine) (X : K.In s.heap) (I : InstAt s.heap x ox C od) (hs : findIn K (.ref C) "__eq__" = some (some (.ref f))) (hf : isFn K (.ref f) = true)
    (hcall : wpAny (model prog w) A (call (.ref f) [.ref x, b]) (fun v s' => ∃ t, v = .bool t ∧ Q (.done (.ret (.bool (!t)))) s') E s) :
    wpAny (model prog w) A (Builtin.«object.__ne__» ⟨[.ref x, b], []⟩) Q E s := by
  unfold Builtin.«object.__ne__»
  repeat (first
    | with_reducible refine wpAny_cRoomFor hu ?_
    | (refine wpAny_bind (m := callSpecialIfBound? (.ref x) (Str.ofString "__eq__") [b])
        (ifBound_K X I hs hf (wpAny_mono hcall (fun r s' hr => by
          obtain ⟨t, rfl, hq⟩ := hr
          repeat (first | exact hq | exact wpAny_pure hq | exact wpAny_truthy_bool hq | (refine wpAny_bind (m := truthy (.bool _)) (wpAny_truthy_bool ?_)) | wp_step)) fun _ _ e => e)))
    | wp_step)
theorem ne_check {Q : Unit → Shared → Prop} (X : K.In s.heap) (I : InstAt s.heap x ox C od) (hm : mroIn K C (.type "object") = some true) (hq : Q () s) :
    wpAny (model prog w) A (checkBuiltinCall "object.__ne__" ⟨[.ref x, b], []⟩) Q E s := by
  simp only [checkBuiltinCall, F.cmpKind_ne, F.cmpSplit_ne]
  refine wpAny_bind ?_
  unfold isInstance
  refine wpAny_bind (I.type.here ((looks_mroIn X hm).here ?_))
  simp only [Bool.not_true, Bool.false_eq_true, if_false]
  have ha := F.cmpArgs_ne (.ref x) b
  cases hsig : Manifest.signature? "object.__ne__" with
  | none => exact wpAny_pure hq
  | some sig =>
    simp only [argsOk, hsig] at ha
    have h2 : Bind.checkArgs "object.__ne__" sig ⟨[.ref x, b], []⟩ = pure () := ha
    show wpAny _ A (Bind.checkArgs "object.__ne__" sig ⟨[.ref x, b], []⟩) Q E _
    rw [h2]; exact wpAny_pure hq
theorem ne_K {Q : Value → Shared → Prop} {tb : Value} {m : Str → Option Value} {L : Addr} (hu : A.units + 1 < cLine) (F : Fr h₀ L s.heap m) (X₀ : K.In h₀) (I : InstAt s.heap x ox C od) (hb : Looks (model prog w) s.heap (typeOf b) tb) (hn : notFirst K C tb = true)
    (hno : findIn K (.ref C) "__ne__" = some (some (.builtin "object.__ne__"))) (hm : mroIn K C (.type "object") = some true) (hs : findIn K (.ref C) "__eq__" = some (some (.ref f))) (hf : isFn K (.ref f) = true)
    (h : wpAny (model prog w) A.in1 (call (.ref f) [.ref x, b]) (fun v s' => ∃ t, v = .bool t ∧ Q (.bool (!t)) s') E s) : wpAny (model prog w) A (compareOp .NotEq (.ref x) b) Q E s := by
  unfold compareOp
  have X := X₀.keeps F.keep
  have one : wpAny (model prog w) A (tryCompare (.ref x) "__ne__" b) (fun r s' => ∃ v, r = some v ∧ Q v s') E s := by
    have S := PySem.F.cmp_object.ne
    have hcall : wpAny (model prog w) A (call (.builtin "object.__ne__") (.ref x :: [b])) (fun v s' => ∃ t, v = .bool t ∧ Q v s') E s := by
      refine wpAny_call (codeAny_call_builtin S.plain PySem.F.cmpEntry_ne (ne_check X I hm (ne_builtin (A := A.in1) hu X I hs hf (wpAny_mono h (fun v s' hv => ?_) fun _ _ e => e))))
      obtain ⟨t, rfl, hq⟩ := hv
      exact ⟨t, rfl, _, rfl, hq⟩
    unfold tryCompare
    have two : wpAny (model prog w) A (callSpecialIfBound? (.ref x) "__ne__" [b]) (fun r s' => ∃ t, r = some (.bool t) ∧ Q (.bool t) s') E s := by
      simp only [callSpecialIfBound?, bindSpecialIfBound?]
      refine wpAny_holding (wpAny_bind (wpAny_bind (wpAny_bind (I.type.here ((looks_findIn X hno).here ?_)))))
      simp only [S.bind]
      refine wpAny_bind (wpAny_askSetting (wpAny_ite ?_))
      have fin : wpAny (model prog w) A (call (.builtin "object.__ne__") ([.ref x] ++ [b]) >>= fun v => pure (some v)) (fun r s' => ∃ t, r = some (.bool t) ∧ Q (.bool t) s') E s :=
        wpAny_bind (wpAny_mono hcall (fun v s' h' => wpAny_pure (by obtain ⟨t, rfl, q⟩ := h'; exact ⟨t, rfl, q⟩)) fun _ _ h' => h')
      split
      · exact wpAny_bind (wpAny_pure (wpAny_pure fin))
      · exact wpAny_tryCatch (wpAny_bind (wpAny_pure (wpAny_pure fin)))
    refine wpAny_bind (wpAny_mono two (fun r s' z => ?_) fun _ _ e => e)
    obtain ⟨t, rfl, q⟩ := z
    exact wpAny_pure ⟨_, rfl, q⟩
  unfold richCompare
  simp only [oneThing_ref]
  refine wpAny_holding (wpAny_bind (wpAny_cRoomFor (Nat.lt_of_succ_lt hu) ?_))
  refine wpAny_bind (I.type.here (wpAny_bind (hb.here ?_)))
  split
  · rename_i q
    have e : subIn K tb (.ref C) = some false := by
      rcases Bool.or_eq_true_iff.mp hn with e | e
      · rw [beq_iff_eq.mp e] at q; simp at q
      · exact beq_iff_eq.mp e
    refine wpAny_bind ((looks_subIn X e).here ?_)
    simp only [Bool.false_eq_true, if_false]
    refine wpAny_bind (wpAny_mono one (fun r s' z => ?_) fun _ _ e => e)
    obtain ⟨v, rfl, hq⟩ := z
    exact wpAny_pure hq
  · refine wpAny_bind (wpAny_pure ?_)
    simp only [Bool.false_eq_true, if_false]
    refine wpAny_bind (wpAny_mono one (fun r s' z => ?_) fun _ _ e => e)
    obtain ⟨v, rfl, hq⟩ := z
    exact wpAny_pure hq
end
/-- x == y, x != y, x an instance of the class at C with an own == at g; y any instance of C -/
def rOwnEq (C : Addr) (neg : Bool) (sp : Sp) (E : XK) : R2 := fun x y H Q => ∃ a dx fs b dy gs, x = .ref a ∧ y = .ref b ∧ H a = some (.ins C dx fs) ∧ H b = some (.ins C dy gs) ∧ sp [x, y] H (fun v H' => ∃ t, v = .bl t ∧ Q (.bl (t != neg)) H') E
section
variable {X : Cx} {CX : CXT} {C f : Addr} {fd : FuncData} {ps : List Str} {sp : Sp} {E : XK} {k : Nat}
theorem run_own {A : Around} {pins : List (Addr × Obj)} {σ : L2.St} {H : Hp} {s : Shared} {us : List Value} {vs : List V} {Q : VK} (F : FnOk X.prog X.w X.K X.mg X.base CX k f fd ps sp) (hb : Binds X.K fd ps []) (hx : Passes CX X E)
    (hr : Room k A) (e0 : Env0 X.prog X.w X.K X.mg X.base A X.stack s H) (I : Inv X pins σ H s) (r : Vals vs us) (h : sp vs H Q E) : wpAny (model X.prog X.w) A (call (.ref f) us) (EP X pins σ Q) X.xe s := by
  have hl := F.len _ _ _ _ h
  have hu : us.length = ps.length := by rw [← hl]; exact r.length.symm
  refine wpAny_call (codeAny_mono (F.run A X.stack s H ⟨us, []⟩ us vs Q E hr e0 (by
    have := hb s us I.kIn (by simpa using hu)
    simpa using this) r h) fun r s' hq => ?_)
  cases r with
  | error e => exact hx pins σ H s e s' I hq
  | ok fl =>
    cases fl with
    | ret u => exact I.after hq
    | next => exact False.elim hq
    | brk => exact False.elim hq
    | cont => exact False.elim hq
theorem op_ownEq (F : FnOk X.prog X.w X.K X.mg X.base CX k f fd ps sp) (hb : Binds X.K fd ps []) (hx : Passes CX X E) (hr : Room (k + 1) X.A) (hs : PySem.W.findIn X.K (.ref C) "__eq__" = some (some (.ref f))) (hf : PySem.W.isFn X.K (.ref f) = true) :
    OpR X (compareOp .Eq) (rOwnEq C false sp E) := by
  intro pins s σ H x y v u Q I rx ry h
  obtain ⟨a, dx, fs, b, dy, gs, rfl, rfl, ha, hb', q⟩ := h
  cases rx
  cases ry
  obtain ⟨mA, J, _⟩ := ins_get I.hok ha
  obtain ⟨mB, J', _⟩ := ins_get I.hok hb'
  obtain ⟨od, J, _⟩ := J.look
  obtain ⟨od', J', _⟩ := J'.look
  obtain ⟨m, hF⟩ := I.fr
  refine PySem.W.cmp_K (op := .Eq) (tb := .ref C) hr.units0 hF I.ok.mod.kin J J'.type (by simp [PySem.W.notFirst]) hs hf ?_
  refine wpAny_mono (run_own (vs := [.ref a, .ref b]) F hb hx (hr.mono (Nat.le_succ k)) I.env0 I (.cons (show L2.RelV (.ref a) (.ref a) from rfl) (.cons (show L2.RelV (.ref b) (.ref b) from rfl) .nil)) q) (fun w s' z => ?_) fun _ _ x => x
  obtain ⟨z', H', I', rz, t, ez, qz⟩ := z
  subst ez
  cases rz
  refine ⟨.bl t, H', I', rfl, ?_⟩
  simpa using qz
theorem op_ownNe (F : FnOk X.prog X.w X.K X.mg X.base CX k f fd ps sp) (hb : Binds X.K fd ps []) (hx : Passes CX X E) (hr : Room (k + 1) X.A) (hs : PySem.W.findIn X.K (.ref C) "__eq__" = some (some (.ref f))) (hf : PySem.W.isFn X.K (.ref f) = true)
    (hno : PySem.W.findIn X.K (.ref C) "__ne__" = some (some (.builtin "object.__ne__"))) (hm : PySem.W.mroIn X.K C (.type "object") = some true) :
    OpR X (compareOp .NotEq) (rOwnEq C true sp E) := by
  intro pins s σ H x y v u Q I rx ry h
  obtain ⟨a, dx, fs, b, dy, gs, rfl, rfl, ha, hb', q⟩ := h
  cases rx
  cases ry
  obtain ⟨mA, J, _⟩ := ins_get I.hok ha
  obtain ⟨mB, J', _⟩ := ins_get I.hok hb'
  obtain ⟨od, J, _⟩ := J.look
  obtain ⟨od', J', _⟩ := J'.look
  obtain ⟨m, hF⟩ := I.fr
  refine ne_K (tb := .ref C) (by have := hr.un; omega) hF I.ok.mod.kin J J'.type (by simp [PySem.W.notFirst]) hno hm hs hf ?_
  refine wpAny_mono (run_own (vs := [.ref a, .ref b]) F hb hx hr.in1 I.env0.in1 I (.cons (show L2.RelV (.ref a) (.ref a) from rfl) (.cons (show L2.RelV (.ref b) (.ref b) from rfl) .nil)) q) (fun w s' z => ?_) fun _ _ x => x
  obtain ⟨z', H', I', rz, t, ez, qz⟩ := z
  subst ez
  cases rz
  refine ⟨t, rfl, .bl (!t), H', I', rfl, ?_⟩
  cases t <;> exact qz
end
end DL
end
section
set_option Elab.async false
set_option linter.all false
set_option maxRecDepth 100000
set_option maxHeartbeats 1000000
set_option autoImplicit false
/-! DL1: == != in, of data and of instances; methods. -/
namespace DL
open PySem PySem.Spec L2 PyProof.Rows
mutual
def pyD : D → Option PyData
  | .non => some .none
  | .bl b => some (.bool b)
  | .int i => some (.int i)
  | .str x => some (.str x)
  | .tup xs => (pyDs xs).map .tuple
  | .lst xs => (pyDs xs).map .list
  | _ => none
def pyDs : List D → Option (List PyData)
  | [] => some []
  | d :: ds => match pyD d, pyDs ds with
    | some p, some ps => some (p :: ps)
    | _, _ => none
end
section
variable {G : Gx} {H : Hp}
mutual
theorem pyD_ok : ∀ {d : D} {v : V} {p : PyData}, Den G H d v → pyD d = some p → Dp G.K H v p
  | .non, v, p, h, e => by
    simp only [Den] at h
    simp only [pyD] at e
    cases e
    subst h
    exact .non
  | .bl b, v, p, h, e => by
    simp only [Den] at h
    simp only [pyD] at e
    cases e
    subst h
    exact .bl _
  | .int b, v, p, h, e => by
    simp only [Den] at h
    simp only [pyD] at e
    cases e
    subst h
    exact .int _
  | .str b, v, p, h, e => by
    simp only [Den] at h
    simp only [pyD] at e
    cases e
    subst h
    exact .str _
  | .tup xs, v, p, h, e => by
    obtain ⟨a, us, rfl, s, dd⟩ := den_tup h
    simp only [pyD] at e
    cases w : pyDs xs with
    | none => rw [w] at e; cases e
    | some ps =>
      rw [w] at e
      cases e
      exact .tup s (pyDs_ok dd w)
  | .lst xs, v, p, h, e => by
    obtain ⟨a, us, rfl, s, dd⟩ := den_lst h
    simp only [pyD] at e
    cases w : pyDs xs with
    | none => rw [w] at e; cases e
    | some ps =>
      rw [w] at e
      cases e
      exact .lst (.of s) (pyDs_ok dd w)
  | .dic _ _, v, p, h, e => by simp only [pyD] at e; cases e
  | .ins _ _, v, p, h, e => by simp only [pyD] at e; cases e
  | .clo _ _, v, p, h, e => by simp only [pyD] at e; cases e
  | .hnd, v, p, h, e => by simp only [pyD] at e; cases e
  | .scr _, v, p, h, e => by simp only [pyD] at e; cases e
theorem pyDs_ok : ∀ {ds : List D} {vs : List V} {ps : List PyData}, Dens G H ds vs → pyDs ds = some ps → DpAll G.K H vs ps
  | [], vs, ps, h, e => by
    rw [h.unnil]
    simp only [pyDs] at e
    cases e
    exact .nil
  | d :: ds, vs, ps, h, e => by
    obtain ⟨v, ws, rfl, h1, h2⟩ := h.uncons
    simp only [pyDs] at e
    cases w1 : pyD d with
    | none => rw [w1] at e; cases e
    | some q =>
      cases w2 : pyDs ds with
      | none => rw [w1, w2] at e; cases e
      | some qs =>
        rw [w1, w2] at e
        cases e
        exact .cons (pyD_ok h1 w1) (pyDs_ok h2 w2)
end
end
/-! ### methods -/
structure MtH (P : Program) (w : World) (G : Gx) (mg : Str → Option Value) (base : Heap) (c : Nat) (m : Str) (n k : Nat) (s : List D → W D) : Prop where
  ex : ∃ (f : Addr) (fd : FuncData) (ps : List Str), ps.length = n ∧ PySem.W.findIn G.K (.ref (G.cls c)) m = some (some (.ref f)) ∧ PySem.W.isFn G.K (.ref f) = true ∧ PySem.W.keepIn G.K (.ref f) = true ∧ L2.Binds G.K fd ps [] ∧ FnOk P w G.K mg base (L2.CX P w) k f fd ps (liftSp G n s)
def valD (x y : D) : Option (PyData × PyData) := match pyD x, pyD y with
  | some p, some q => if SeqAt.shaped p = true ∧ SeqAt.shaped q = true then some (p, q) else none
  | _, _ => none
/-- x == y, x != y -/
def eqD (S : Nat → List D → W D) (neg : Bool) : D → D → W D
  | .ins c xs, .ins c' ys => grd (c = c') (bnd (bnd (nox (S c [.ins c xs, .ins c' ys])) asB) fun t => ret (.bl (t != neg)))
  | x, y => optW ((valD x y).map fun pq => D.bl (PyData.eqv pq.1 pq.2 != neg))
section
variable {X : Cx} {B : Bx} {a b : Expr} {wa wb : DL.Env → W D} {pos : Pos}
/-- every class with an own == keeps S -/
def EqsH (P : Program) (w : World) (G : Gx) (mg : Str → Option Value) (base : Heap) (k : Nat) (S : Nat → List D → W D) : Prop := ∀ c Q E x y, S c [x, y] Q E → MtH P w G mg base c "__eq__" 2 k (S c) ∧ ClsI G c
theorem optD_of {neg : Bool} {G : Gx} {H : Hp} {x y : D} {vx vy : V} {QD : D → Prop} {E : DX → Prop} (dx : Den G H x vx) (dy : Den G H y vy) (q : optW ((valD x y).map fun pq => D.bl (PyData.eqv pq.1 pq.2 != neg)) QD E) :
    ∃ p r, Dp G.K H vx p ∧ Dp G.K H vy r ∧ SeqAt.shaped p = true ∧ SeqAt.shaped r = true ∧ QD (.bl (PyData.eqv p r != neg)) := by
  obtain ⟨z, e, q⟩ := optW_of q
  unfold valD at e
  cases w1 : pyD x with
  | none => rw [w1] at e; cases e
  | some p =>
    cases w2 : pyD y with
    | none => rw [w1, w2] at e; cases e
    | some r =>
      rw [w1, w2] at e
      simp only at e
      split at e
      · rename_i h
        cases e
        exact ⟨p, r, pyD_ok dx w1, pyD_ok dy w2, h.1, h.2, q⟩
      · cases e
theorem ins_of {G : Gx} {H : Hp} {c : Nat} {xs : List D} {v : V} (h : Den G H (.ins c xs) v) : ∃ a dx vs, v = .ref a ∧ H a = some (.ins (G.cls c) dx ((G.flds c).zip vs)) ∧ (G.flds c).length = vs.length ∧ Dens G H xs vs := by simpa only [Den] using h
/-- both ways -/
def rEqA (P : Program) (w : World) (G : Gx) (mg : Str → Option Value) (base : Heap) (k : Nat) (S : Nat → List D → W D) (neg : Bool) : R2 := fun x y H Q =>
  (∃ p r, Dp G.K H x p ∧ Dp G.K H y r ∧ SeqAt.shaped p = true ∧ SeqAt.shaped r = true ∧ Q (.bl (PyData.eqv p r != neg)) H) ∨
  ∃ c, MtH P w G mg base c "__eq__" 2 k (S c) ∧ ClsI G c ∧ rOwnEq (G.cls c) neg (liftSp G 2 (S c)) E0 x y H Q
theorem op_eqA {k : Nat} {S : Nat → List D → W D} (hK : X.K = B.G.K) (hr : Room (k + 1) X.A) : OpR X (compareOp .Eq) (rEqA X.prog X.w B.G X.mg X.base k S false) := by
  intro pins s σ H x y v u Q I rx ry h
  rcases h with ⟨p, r, h1, h2, h3, h4, q⟩ | ⟨c, M, ci, h⟩
  · refine op_eqD (by have := hr.un; omega) pins s σ H x y v u Q I rx ry ⟨p, r, by rw [hK]; exact h1, by rw [hK]; exact h2, h3, h4, ?_⟩
    simpa using q
  · obtain ⟨f, fd, ps, m1, m2, m3, m4, m5, m6⟩ := M.ex
    exact op_ownEq (by rw [hK]; exact m6) (by rw [hK]; exact m5) passL hr (by rw [hK]; exact m2) (by rw [hK]; exact m3) pins s σ H x y v u Q I rx ry h
theorem op_neA {k : Nat} {S : Nat → List D → W D} (hK : X.K = B.G.K) (hr : Room (k + 1) X.A) : OpR X (compareOp .NotEq) (rEqA X.prog X.w B.G X.mg X.base k S true) := by
  intro pins s σ H x y v u Q I rx ry h
  rcases h with ⟨p, r, h1, h2, h3, h4, q⟩ | ⟨c, M, ci, h⟩
  · refine op_neD (by have := hr.un; omega) pins s σ H x y v u Q I rx ry ⟨p, r, by rw [hK]; exact h1, by rw [hK]; exact h2, h3, h4, ?_⟩
    have e : (PyData.eqv p r != true) = !PyData.eqv p r := by cases PyData.eqv p r <;> rfl
    rw [← e]
    exact q
  · obtain ⟨f, fd, ps, m1, m2, m3, m4, m5, m6⟩ := M.ex
    exact op_ownNe (by rw [hK]; exact m6) (by rw [hK]; exact m5) passL hr (by rw [hK]; exact m2) (by rw [hK]; exact m3) (by rw [hK]; exact ci.hno) (by rw [hK]; exact ci.hm) pins s σ H x y v u Q I rx ry h
theorem dop_eqA {P : Program} {w : World} {G : Gx} {mg : Str → Option Value} {base : Heap} {k : Nat} {S : Nat → List D → W D} {neg : Bool} (hS : EqsH P w G mg base k S) : DOp2 G (rEqA P w G mg base k S neg) (eqD S neg) := by
  intro H0 H x y vx vy QD ED Q st dx dy q h
  have dat : optW ((valD x y).map fun pq => D.bl (PyData.eqv pq.1 pq.2 != neg)) QD ED → rEqA P w G mg base k S neg vx vy H Q := fun q => by
    obtain ⟨p, r, h1, h2, h3, h4, q⟩ := optD_of (dx.same st.z) (dy.same st.z) q
    exact .inl ⟨p, r, h1, h2, h3, h4, h _ _ H0 H st.refl of_bl q⟩
  by_cases z : ∃ c xs c' ys, x = .ins c xs ∧ y = .ins c' ys
  · obtain ⟨c, xs, c', ys, rfl, rfl⟩ := z
    simp only [eqD] at q
    obtain ⟨e, q⟩ := q
    subst e
    obtain ⟨M, ci⟩ := hS c _ _ _ _ q
    refine .inr ⟨c, M, ci, ?_⟩
    obtain ⟨a, da, va, rfl, ha, _, _⟩ := ins_of (dx.same st.z)
    obtain ⟨b, db, vb, rfl, hb, _, _⟩ := ins_of (dy.same st.z)
    refine ⟨a, da, _, b, db, _, rfl, rfl, ha, hb, H0, [.ins c xs, .ins c ys], _, (fun _ => False), rfl, st, .cons dx (.cons dy .nil), q, fun d v H1 H2 x d2 q2 => ?_, fun _ _ _ _ _ _ _ z => z.elim⟩
    cases d <;> first | exact (show False from q2).elim | skip
    rename_i t
    have ev : v = .bl t := by simpa only [Den] using d2
    exact ⟨t, ev, h _ _ H1 H2 x of_bl q2⟩
  · have e : eqD S neg x y = optW ((valD x y).map fun pq => D.bl (PyData.eqv pq.1 pq.2 != neg)) := by
      cases x <;> first | rfl | skip
      cases y <;> first | rfl | exact (z ⟨_, _, _, _, rfl, rfl⟩).elim
    rw [e] at q
    exact dat q
theorem de_eq {k : Nat} {S : Nat → List D → W D} (hK : X.K = B.G.K) (hr : Room (k + 1) X.A) (hS : EqsH X.prog X.w B.G X.mg X.base k S) (hm : behindInMarks .Eq b = false) (ha : DE X B a wa) (hb : DE X B b wb) :
    DE X B (.Compare a [.Eq] [b] pos) (fun ρ => bnd (wa ρ) fun x => bnd (wb ρ) fun y => eqD S false x y) := de_cmp (op_eqA hK hr) (dop_eqA hS) hm ha hb
theorem de_ne {k : Nat} {S : Nat → List D → W D} (hK : X.K = B.G.K) (hr : Room (k + 1) X.A) (hS : EqsH X.prog X.w B.G X.mg X.base k S) (hm : behindInMarks .NotEq b = false) (ha : DE X B a wa) (hb : DE X B b wb) :
    DE X B (.Compare a [.NotEq] [b] pos) (fun ρ => bnd (wa ρ) fun x => bnd (wb ρ) fun y => eqD S true x y) := de_cmp (op_neA hK hr) (dop_eqA hS) hm ha hb
theorem dt_eq {k : Nat} {S : Nat → List D → W D} (hK : X.K = B.G.K) (hr : Room (k + 1) X.A) (hS : EqsH X.prog X.w B.G X.mg X.base k S) (hm : behindInMarks .Eq b = false) (ha : DE X B a wa) (hb : DE X B b wb) :
    DT X B (.Compare a [.Eq] [b] pos) (fun ρ => bnd (bnd (wa ρ) fun x => bnd (wb ρ) fun y => eqD S false x y) asB) := dt_cmp (op_eqA hK hr) (dop_eqA hS) hm ha hb
theorem dt_ne {k : Nat} {S : Nat → List D → W D} (hK : X.K = B.G.K) (hr : Room (k + 1) X.A) (hS : EqsH X.prog X.w B.G X.mg X.base k S) (hm : behindInMarks .NotEq b = false) (ha : DE X B a wa) (hb : DE X B b wb) :
    DT X B (.Compare a [.NotEq] [b] pos) (fun ρ => bnd (bnd (wa ρ) fun x => bnd (wb ρ) fun y => eqD S true x y) asB) := dt_cmp (op_neA hK hr) (dop_eqA hS) hm ha hb
/-- x in xs, x not in xs: a list or tuple of data -/
def inItems : D → Option (List D)
  | .lst ys => some ys
  | .tup ys => some ys
  | _ => none
def inV (x y : D) : Option Bool := (inItems y).bind fun ys => match pyD x, pyDs ys with
  | some p, some ps => if SeqAt.shaped p = true ∧ SeqAt.shaped (.list ps) = true then some (ps.any fun z => PyData.eqv z p) else none
  | _, _ => none
def inD (neg : Bool) (x y : D) : W D := optW ((inV x y).map fun b => D.bl (b != neg))
def rInA (K : PySem.W.Frag) (neg : Bool) : R2 := fun x y H Q => ∃ d ds, Dp K H x d ∧ (Dp K H y (.list ds) ∨ Dp K H y (.tuple ds)) ∧ SeqAt.shaped d = true ∧ SeqAt.shaped (.list ds) = true ∧ Q (.bl ((ds.any fun z => PyData.eqv z d) != neg)) H
theorem op_inA (hu : X.A.units + 65 < cLine) : OpR X (compareOp .In) (rInA X.K false) := by
  intro pins s σ H x y v u Q I rx ry h
  obtain ⟨d, ds, hd, he, sd, se, q⟩ := h
  have q' : Q (.bl (ds.any fun z => PyData.eqv z d)) H := by simpa using q
  obtain ⟨as, r1⟩ := Dp.reads I d x v hd rx
  rcases he with he | he
  · obtain ⟨bs, r2⟩ := Dp.reads I (.list ds) y u he ry
    exact SeqAt.in_list_reads r2 r1 (SeqAt.canLay_of_shaped se) (SeqAt.canLay_of_shaped sd) (room_in_shaped sd hu) ⟨.bl _, H, I, rfl, q'⟩
  · obtain ⟨bs, r2⟩ := Dp.reads I (.tuple ds) y u he ry
    exact SeqAt.in_tuple_reads r2 r1 (SeqAt.canLay_of_shaped se) (SeqAt.canLay_of_shaped sd) (room_in_shaped sd hu) ⟨.bl _, H, I, rfl, q'⟩
theorem op_notInA (hu : X.A.units + 65 < cLine) : OpR X (compareOp .NotIn) (rInA X.K true) := by
  intro pins s σ H x y v u Q I rx ry h
  obtain ⟨d, ds, hd, he, sd, se, q⟩ := h
  have q' : Q (.bl (!ds.any fun z => PyData.eqv z d)) H := by
    have e : ((ds.any fun z => PyData.eqv z d) != true) = !(ds.any fun z => PyData.eqv z d) := by cases (ds.any fun z => PyData.eqv z d) <;> rfl
    rw [← e]
    exact q
  obtain ⟨as, r1⟩ := Dp.reads I d x v hd rx
  rcases he with he | he
  · obtain ⟨bs, r2⟩ := Dp.reads I (.list ds) y u he ry
    exact SeqAt.notIn_list_reads r2 r1 (SeqAt.canLay_of_shaped se) (SeqAt.canLay_of_shaped sd) (room_in_shaped sd hu) ⟨.bl _, H, I, rfl, q'⟩
  · obtain ⟨bs, r2⟩ := Dp.reads I (.tuple ds) y u he ry
    exact SeqAt.notIn_tuple_reads r2 r1 (SeqAt.canLay_of_shaped se) (SeqAt.canLay_of_shaped sd) (room_in_shaped sd hu) ⟨.bl _, H, I, rfl, q'⟩
theorem dop_inA {G : Gx} {neg : Bool} (hK : X.K = G.K) : DOp2 G (rInA X.K neg) (inD neg) := by
  intro H0 H x y vx vy QD ED Q st dx dy q h
  obtain ⟨z, e, q⟩ := optW_of q
  unfold inV at e
  have fin : ∀ ys, inItems y = some ys → (∀ ps, pyDs ys = some ps → Dp X.K H vy (.list ps) ∨ Dp X.K H vy (.tuple ps)) → rInA X.K neg vx vy H Q := fun ys w hy => by
    rw [w] at e
    simp only [Option.bind] at e
    cases w1 : pyD x with
    | none => rw [w1] at e; cases e
    | some p =>
      cases w2 : pyDs ys with
      | none => rw [w1, w2] at e; cases e
      | some ps =>
        rw [w1, w2] at e
        simp only at e
        split at e
        · rename_i hh
          cases e
          exact ⟨p, ps, by rw [hK]; exact pyD_ok (dx.same st.z) w1, hy ps w2, hh.1, hh.2, h _ _ H0 H st.refl of_bl q⟩
        · cases e
  cases y <;> first | (cases e) | skip
  · rename_i ys
    obtain ⟨a, us, rfl, s, dd⟩ := den_tup (dy.same st.z)
    exact fin ys rfl fun ps w => .inr (by rw [hK]; exact .tup s (pyDs_ok dd w))
  · rename_i ys
    obtain ⟨a, us, rfl, s, dd⟩ := den_lst (dy.same st.z)
    exact fin ys rfl fun ps w => .inl (by rw [hK]; exact .lst (.of s) (pyDs_ok dd w))
theorem de_in {k : Nat} (hK : X.K = B.G.K) (hr : Room k X.A) (hm : behindInMarks .In b = false) (ha : DE X B a wa) (hb : DE X B b wb) :
    DE X B (.Compare a [.In] [b] pos) (fun ρ => bnd (wa ρ) fun x => bnd (wb ρ) fun y => inD false x y) := de_cmp (op_inA (by have := hr.un; omega)) (dop_inA hK) hm ha hb
theorem de_notIn {k : Nat} (hK : X.K = B.G.K) (hr : Room k X.A) (hm : behindInMarks .NotIn b = false) (ha : DE X B a wa) (hb : DE X B b wb) :
    DE X B (.Compare a [.NotIn] [b] pos) (fun ρ => bnd (wa ρ) fun x => bnd (wb ρ) fun y => inD true x y) := de_cmp (op_notInA (by have := hr.un; omega)) (dop_inA hK) hm ha hb
theorem dt_in {k : Nat} (hK : X.K = B.G.K) (hr : Room k X.A) (hm : behindInMarks .In b = false) (ha : DE X B a wa) (hb : DE X B b wb) :
    DT X B (.Compare a [.In] [b] pos) (fun ρ => bnd (bnd (wa ρ) fun x => bnd (wb ρ) fun y => inD false x y) asB) := dt_cmp (op_inA (by have := hr.un; omega)) (dop_inA hK) hm ha hb
theorem dt_notIn {k : Nat} (hK : X.K = B.G.K) (hr : Room k X.A) (hm : behindInMarks .NotIn b = false) (ha : DE X B a wa) (hb : DE X B b wb) :
    DT X B (.Compare a [.NotIn] [b] pos) (fun ρ => bnd (bnd (wa ρ) fun x => bnd (wb ρ) fun y => inD true x y) asB) := dt_cmp (op_notInA (by have := hr.un; omega)) (dop_inA hK) hm ha hb
/-! ### what is never reached -/
theorem de_stuck {e : Expr} : DE X B e (fun _ => stk) := ⟨fun _ _ _ _ _ _ ⟨_, _, _, _, q, _⟩ => (show False from q).elim⟩
theorem dt_stuck {e : Expr} : DT X B e (fun _ => stk) := ⟨fun _ _ _ _ _ _ ⟨_, _, _, _, q, _⟩ => (show False from q).elim⟩
theorem ds_stuck {st : Stmt} : DS X B st (fun _ => stk) := ⟨fun _ _ _ _ _ _ ⟨_, _, _, _, q, _⟩ => (show False from q).elim⟩
end
end DL
end
section
set_option Elab.async false
set_option linter.all false
set_option maxRecDepth 100000
set_option maxHeartbeats 1000000
set_option autoImplicit false
/-! DM: what a name owns changes: append, pop, item, field; freezing, peeking. -/
namespace DL
open PySem PySem.Spec L2 PyProof.Rows
section
variable {B : Bx} {ρ : DL.Env} {σ : L2.St} {H0 H Z He : Hp} {T : List NdefX.NTab}
theorem Ext.own (x : Ext T Z He H0 H) {a : Addr} {u o : HO} (h1 : He a = none) (h2 : H0 a = none) (h3 : H a = some u) (n1 : ∀ ps, u ≠ .tbl ps) (n2 : ∀ φ, u ≠ .ext φ) : Ext T Z He H0 (upd H a o) := by
  refine ⟨fun b v e n => ?_, fun b e => ?_, x.z, fun b v e => ?_, x.fr, fun p hp => ?_, x.nt⟩
  · rw [upd_ne (ne_of_none e h1)]; exact x.n b v e n
  · exact x.nn b (NdefX.upd_none e)
  · rw [upd_ne (ne_of_none e h2)]; exact x.zz b v e
  · obtain ⟨ps, t1, t2, t3⟩ := x.tabs p hp
    refine ⟨ps, ?_, t2, fun pos cv hc => ?_⟩
    · rw [upd_ne (fun z => by rw [z, h3] at t1; cases t1; exact n1 _ rfl)]; exact t1
    · obtain ⟨c, e1, e2⟩ := t3 pos cv hc
      exact ⟨c, e1, by rw [upd_ne (fun z => by rw [z, h3] at e2; cases e2; exact n2 _ rfl)]; exact e2⟩
theorem OwnAt.kind {G : Gx} {a : Addr} : ∀ {o : OD}, OwnAt G H0 H a o → ∃ u, H a = some u ∧ (∀ ps, u ≠ .tbl ps) ∧ ∀ φ, u ≠ .ext φ
  | .lst oa ds, ⟨h0, vs, h1, h2⟩ => ⟨_, h1, (by intro _ z; cases z), (by intro _ z; cases z)⟩
  | .dic ks us, ⟨vs, h1, kk, k1, k2, k3⟩ => ⟨_, k2, (by intro _ z; cases z), (by intro _ z; cases z)⟩
  | .dicT ks us, ⟨vs, h1, kk, k1, k2, k3⟩ => ⟨_, k2, (by intro _ z; cases z), (by intro _ z; cases z)⟩
  | .dicF ks us, ⟨vs, h1, h2⟩ => h2.elim (fun ⟨kk, o, k1, k2, k3⟩ => ⟨_, k2, (by intro _ z; cases z), (by intro _ z; cases z)⟩) fun ⟨kk, o, k1, k2, k3⟩ => ⟨_, k2, (by intro _ z; cases z), (by intro _ z; cases z)⟩
  | .ins a' c fs, ⟨h0, dx, vs, h1, h2⟩ => ⟨_, h1, (by intro _ z; cases z), (by intro _ z; cases z)⟩
  | .hnd a' c ns xs, ⟨h0, h1, h2⟩ => ⟨_, h1, (by intro _ z; cases z), (by intro _ z; cases z)⟩
theorem OwnAt.far {G : Gx} {a b : Addr} {u : HO} (n : b ≠ a) : ∀ {o : OD}, OwnAt G H0 H b o → OwnAt G H0 (upd H a u) b o
  | .lst oa ds, ⟨h0, vs, h1, h2⟩ => ⟨h0, vs, by rw [upd_ne n]; exact h1, h2⟩
  | .dic ks us, ⟨vs, h1, kk, k1, k2, k3⟩ => ⟨vs, h1, kk, k1, by rw [upd_ne n]; exact k2, k3⟩
  | .dicT ks us, ⟨vs, h1, kk, k1, k2, k3⟩ => ⟨vs, h1, kk, k1, by rw [upd_ne n]; exact k2, k3⟩
  | .dicF ks us, ⟨vs, h1, h2⟩ => ⟨vs, h1, h2.elim (fun ⟨kk, o, k1, k2, k3⟩ => .inl ⟨kk, o, k1, by rw [upd_ne n]; exact k2, k3⟩) fun ⟨kk, o, k1, k2, k3⟩ => .inr ⟨kk, o, k1, by rw [upd_ne n]; exact k2, k3⟩⟩
  | .ins a' c fs, ⟨h0, dx, vs, h1, h2⟩ => ⟨h0, dx, vs, by rw [upd_ne n]; exact h1, h2⟩
  | .hnd a' c ns xs, ⟨h0, h1, h2⟩ => ⟨h0, by rw [upd_ne n]; exact h1, h2⟩
theorem Ok.own_at (k : Ok B ρ σ H0 H) {i : Nat} {o : OD} (e : ρ[i]? = some (.own o)) : ∃ a, σ[i]? = some (some (.ref a)) ∧ B.He a = none ∧ H0 a = none ∧ OwnAt B.G H0 H a o := by
  obtain ⟨v, h1, a, h2, h3, h4, h5⟩ := k.env i _ e
  exact ⟨a, by rw [h1, h2], h3, h4, h5⟩
theorem Ok.own (k : Ok B ρ σ H0 H) {i : Nat} {o o' : OD} {a : Addr} {u : HO} (e : ρ[i]? = some (.own o)) (ea : σ[i]? = some (some (.ref a))) (h : OwnAt B.G H0 (upd H a u) a o') : Ok B (ρ.set i (.own o')) σ H0 (upd H a u) := by
  obtain ⟨a', e1, h1, h2, h3⟩ := k.own_at e
  rw [ea] at e1
  cases e1
  obtain ⟨w, k1, k2, k3⟩ := h3.kind
  refine ⟨k.ext.own h1 h2 k1 k2 k3, by rw [List.length_set]; exact k.len, fun j s es => ?_, fun j l p q b e1 e2 e3 e4 => ?_⟩
  · by_cases hj : i = j
    · subst hj
      have hl : i < ρ.length := (List.getElem?_eq_some_iff.mp e).1
      rw [List.getElem?_set_self hl] at es
      cases es
      exact ⟨_, ea, a, rfl, h1, h2, h⟩
    · rw [List.getElem?_set_ne hj] at es
      obtain ⟨v, q1, q2⟩ := k.env j s es
      refine ⟨v, q1, ?_⟩
      cases s with
      | un => trivial
      | exc x a => exact q2
      | d x => exact q2
      | own p =>
        obtain ⟨b, r1, r2, r3, r4⟩ := q2
        refine ⟨b, r1, r2, r3, r4.far fun z => ?_⟩
        subst z
        exact hj (k.apart i j o p b e es ea (by rw [q1, r1]))
  · have f : ∀ (j : Nat) (p : OD), (ρ.set i (Sl.own o'))[j]? = some (Sl.own p) → ∃ p', ρ[j]? = some (Sl.own p') := fun j p ej => by
      by_cases hj : i = j
      · subst hj; exact ⟨o, e⟩
      · rw [List.getElem?_set_ne hj] at ej; exact ⟨p, ej⟩
    obtain ⟨p', f1⟩ := f j p e1
    obtain ⟨q', f2⟩ := f l q e2
    exact k.apart j l p' q' b f1 f2 e3 e4
/-! ### freezing -/
def frzD : OD → Option D
  | .lst _ ds => some (.lst ds)
  | .dic _ _ => none
  | .dicT _ _ => none
  | .dicF ks vs => some (.dic ks vs)
  | .ins _ _ _ => none
  | .hnd _ _ _ _ => none
def frzW (i : Nat) (ρ : DL.Env) : W DL.Env := match ρ[i]? with
  | some (.own o) => optW ((frzD o).map fun d => ρ.set i (.d d))
  | some (.d _) => ret ρ
  | _ => stk
theorem OwnAt.frz {G : Gx} {a : Addr} {u : HO} (hu : H a = some u) (h0 : H0 a = none) : ∀ {o : OD} {d : D}, OwnAt G H0 H a o → frzD o = some d → Den G (upd H0 a u) d (.ref a)
  | .lst oa ds, d, ⟨_, vs, h1, h2⟩, e => by
    cases e
    rw [h1] at hu
    cases hu
    exact of_lst upd_same (h2.same fun b v e => by rw [upd_ne (ne_of_none e h0)]; exact e)
  | .dic _ _, d, _, e => by cases e
  | .dicT _ _, d, _, e => by cases e
  | .dicF ks us, d, ⟨vs, h1, h2⟩, e => by
    cases e
    have sm : Same H0 (upd H0 a u) := fun b v e => by rw [upd_ne (ne_of_none e h0)]; exact e
    simp only [Den]
    refine ⟨a, vs, rfl, h1.same sm, ?_⟩
    rcases h2 with ⟨kk, o, k1, k2, k3⟩ | ⟨kk, o, k1, k2, k3⟩
    · rw [k2] at hu
      cases hu
      exact .inl ⟨kk, o, k1, upd_same, k3⟩
    · rw [k2] at hu
      cases hu
      exact .inr ⟨kk, o, k1, upd_same, k3⟩
  | .ins _ _ _, d, _, e => by cases e
  | .hnd _ _ _ _, d, _, e => by cases e
theorem Ok.frz (k : Ok B ρ σ H0 H) {i : Nat} {o : OD} {d : D} {a : Addr} {u : HO} (e : ρ[i]? = some (.own o)) (ea : σ[i]? = some (some (.ref a))) (hu : H a = some u) (ed : Den B.G (upd H0 a u) d (.ref a)) (nu : ∀ ps, u ≠ .tbl ps) : Ok B (ρ.set i (.d d)) σ (upd H0 a u) H := by
  obtain ⟨a', e1, h1, h2, h3⟩ := k.own_at e
  rw [ea] at e1
  cases e1
  have sm : Same H0 (upd H0 a u) := fun b v e => by rw [upd_ne (ne_of_none e h2)]; exact e
  refine ⟨⟨k.ext.n, k.ext.nn, k.ext.z.trans sm, fun b v e => ?_, fun b v e => ?_, k.ext.tabs, k.ext.nt.upd nu⟩, by rw [List.length_set]; exact k.len, fun j s es => ?_, fun j l p q b e1 e2 e3 e4 => ?_⟩
  · by_cases z : b = a
    · subst z; rw [upd_same] at e; cases e; exact hu
    · rw [upd_ne z] at e; exact k.ext.zz b v e
  · by_cases z : b = a
    · subst z; exact .inr h1
    · rw [upd_ne z] at e; exact k.ext.fr b v e
  · by_cases hj : i = j
    · subst hj
      have hl : i < ρ.length := (List.getElem?_eq_some_iff.mp e).1
      rw [List.getElem?_set_self hl] at es
      cases es
      exact ⟨_, ea, _, rfl, ed⟩
    · rw [List.getElem?_set_ne hj] at es
      obtain ⟨v, q1, q2⟩ := k.env j s es
      refine ⟨v, q1, ?_⟩
      cases s with
      | un => trivial
      | exc x a => exact q2
      | d x => obtain ⟨y, r1, r2⟩ := q2; exact ⟨y, r1, r2.same sm⟩
      | own p =>
        obtain ⟨b, r1, r2, r3, r4⟩ := q2
        have nb : b ≠ a := fun z => by
          subst z
          exact hj (k.apart i j o p b e es ea (by rw [q1, r1]))
        refine ⟨b, r1, r2, by rw [upd_ne nb]; exact r3, ?_⟩
        cases p with
        | lst oa ds => obtain ⟨t0, vs, t1, t2⟩ := r4; exact ⟨t0, vs, t1, t2.same sm⟩
        | dic ks us => obtain ⟨vs, t1, t2⟩ := r4; exact ⟨vs, t1.same sm, t2⟩
        | dicT ks us => obtain ⟨vs, t1, t2⟩ := r4; exact ⟨vs, t1.same sm, t2⟩
        | dicF ks us => obtain ⟨vs, t1, t2⟩ := r4; exact ⟨vs, t1.same sm, t2⟩
        | ins a' c fs => obtain ⟨t0, dx, vs, t1, t2, t3⟩ := r4; exact ⟨t0, dx, vs, t1, t2, t3.same sm⟩
        | hnd a' c ns xs => obtain ⟨t0, t1, t2⟩ := r4; exact ⟨t0, t1, sm _ _ t2⟩
  · have f : ∀ (j : Nat) (p : OD), (ρ.set i (Sl.d d))[j]? = some (Sl.own p) → ρ[j]? = some (Sl.own p) := fun j p ej => by
      by_cases hj : i = j
      · subst hj
        have hl : i < ρ.length := (List.getElem?_eq_some_iff.mp e).1
        rw [List.getElem?_set_self hl] at ej
        cases ej
      · rw [List.getElem?_set_ne hj] at ej; exact ej
    exact k.apart j l p q b (f j p e1) (f l q e2) e3 e4
theorem frz_of {i : Nat} {Q : DL.Env → Prop} {E : DX → Prop} (h : frzW i ρ Q E) : (∃ o d, ρ[i]? = some (.own o) ∧ frzD o = some d ∧ Q (ρ.set i (.d d))) ∨ Q ρ := by
  unfold frzW at h
  cases e : ρ[i]? with
  | none => rw [e] at h; exact (show False from h).elim
  | some s =>
    rw [e] at h
    cases s with
    | own o =>
      obtain ⟨y, e2, q⟩ := optW_of h
      cases w : frzD o with
      | none => rw [w] at e2; cases e2
      | some d => rw [w] at e2; cases e2; exact .inl ⟨o, d, rfl, w, q⟩
    | d x => exact .inr h
    | un => exact (show False from h).elim
    | exc x a => exact (show False from h).elim
end
section
variable {X : Cx} {B : Bx} {st : Stmt} {sts : List Stmt} {e : Expr} {we : DL.Env → W D} {w : DL.Env → W Out} {pos : Pos}
theorem lift_frz (i : Nat) {D : Ends} {σ : L2.St} {H : Hp} (h : liftS B (fun ρ => bnd (frzW i ρ) w) D σ H) : liftS B w D σ H := by
  obtain ⟨ρ, H0, QO, k, q, h, hr, hb, hc⟩ := h
  rcases frz_of q with ⟨o, d, e, ed, q⟩ | q
  · obtain ⟨a, e1, h1, h2, h3⟩ := k.own_at e
    obtain ⟨u, hu, nu, _⟩ := h3.kind
    have sm : Same H0 (upd H0 a u) := fun b v e => by rw [upd_ne (ne_of_none e h2)]; exact e
    exact ⟨_, _, QO, k.frz e e1 hu (h3.frz hu h2 ed) nu, q, fun ρ' σ' H1 H2 k1 s1 q1 => h ρ' σ' H1 H2 k1 (sm.trans s1) q1, hr, fun ρ' σ' H1 H2 k1 s1 q1 => hb ρ' σ' H1 H2 k1 (sm.trans s1) q1, fun ρ' σ' H1 H2 k1 s1 q1 => hc ρ' σ' H1 H2 k1 (sm.trans s1) q1⟩
  · exact ⟨ρ, H0, QO, k, q, h, hr, hb, hc⟩
theorem ds_frz (i : Nat) (h : DS X B st w) : DS X B st (fun ρ => bnd (frzW i ρ) w) := PS.imp h fun _ _ _ h => lift_frz i h
theorem dss_frz (i : Nat) (h : DSs X B sts w) : DSs X B sts (fun ρ => bnd (frzW i ρ) w) := PSs.imp h fun _ _ _ h => lift_frz i h
/-! ### peeking: an own list read in passing, the answer is no object -/
def atomD : D → Bool
  | .non => true
  | .bl _ => true
  | .int _ => true
  | .str _ => true
  | _ => false
def atomW (d : D) : W D := grd (atomD d = true) (ret d)
theorem Ext.back {T : List NdefX.NTab} {H0 H H1 H2 : Hp} {a : Addr} {u : HO} (h0 : H0 a = none) (zz : Same H0 H) (x : Ext T (upd H0 a u) H H1 H2) : Ext T H0 H (fun b => if b = a then none else H1 b) H2 := by
  refine ⟨x.n, x.nn, fun b v e => ?_, fun b v e => ?_, fun b v e => ?_, x.tabs, fun b ps e => ?_⟩
  · rw [if_neg (ne_of_none e h0)]
    exact x.z b v (by rw [upd_ne (ne_of_none e h0)]; exact e)
  · by_cases z : b = a
    · rw [if_pos z] at e; cases e
    · rw [if_neg z] at e; exact x.zz b v e
  · by_cases z : b = a
    · rw [if_pos z] at e; cases e
    · rw [if_neg z] at e
      rcases x.fr b v e with r | r
      · rw [upd_ne z] at r; exact .inl r
      · exact .inr r
  · by_cases z : b = a
    · rw [if_pos z] at e; cases e
    · rw [if_neg z] at e; exact x.nt b ps e
theorem atom_den {G : Gx} {H H' : Hp} {d : D} {v : V} (h : atomD d = true) (dd : Den G H d v) : Den G H' d v := by
  cases d <;> first | (simp only [Den] at dd ⊢; exact dd) | (exact absurd h (by decide)) | cases h
theorem de_peek (i : Nat) (h : DE X B e we) : DE X B e (fun ρ => bnd (frzW i ρ) fun ρ' => bnd (we ρ') atomW) := by
  refine PE.imp h fun σ H Q ⟨ρ, H0, QD, k, q, h⟩ => ?_
  rcases frz_of q with ⟨o, d, e, ed, q⟩ | q
  · obtain ⟨a, e1, h1, h2, h3⟩ := k.own_at e
    obtain ⟨u, hu, nu, _⟩ := h3.kind
    refine ⟨_, _, _, k.frz e e1 hu (h3.frz hu h2 ed) nu, q, fun d' v H1 H2 x dd q1 => ?_⟩
    exact h d' v _ H2 (x.back h2 k.ext.zz) (atom_den q1.1 dd) q1.2
  · exact ⟨ρ, H0, _, k, q, fun d' v H1 H2 x dd q1 => h d' v H1 H2 x dd q1.2⟩
theorem dt_peek {wt : DL.Env → W Bool} (i : Nat) (h : DT X B e wt) : DT X B e (fun ρ => bnd (frzW i ρ) wt) := by
  refine PT.imp h fun σ H Q ⟨ρ, H0, QD, k, q, h⟩ => ?_
  rcases frz_of q with ⟨o, d, e, ed, q⟩ | q
  · obtain ⟨a, e1, h1, h2, h3⟩ := k.own_at e
    obtain ⟨u, hu, nu, _⟩ := h3.kind
    refine ⟨_, _, _, k.frz e e1 hu (h3.frz hu h2 ed) nu, q, fun d' H1 H2 x q1 => ?_⟩
    exact h d' _ H2 (x.back h2 k.ext.zz) q1
  · exact ⟨ρ, H0, _, k, q, h⟩
/-! ### an own list changed -/
def ownL (i : Nat) (ρ : DL.Env) : W (Option Addr × List D) := match ρ[i]? with
  | some (.own (.lst oa ds)) => ret (oa, ds)
  | _ => stk
theorem ownL_of {i : Nat} {ρ : DL.Env} {Q : Option Addr × List D → Prop} {E : DX → Prop} (h : ownL i ρ Q E) : ∃ oa ds, ρ[i]? = some (.own (.lst oa ds)) ∧ Q (oa, ds) := by
  unfold ownL at h
  cases e : ρ[i]? with
  | none => rw [e] at h; exact (show False from h).elim
  | some s =>
    rw [e] at h
    cases s with
    | own o =>
      cases o with
      | lst oa ds => exact ⟨_, _, rfl, h⟩
      | dic _ _ => exact (show False from h).elim
      | dicT _ _ => exact (show False from h).elim
      | dicF _ _ => exact (show False from h).elim
      | ins _ _ _ => exact (show False from h).elim
      | hnd _ _ _ _ => exact (show False from h).elim
    | d x => exact (show False from h).elim
    | un => exact (show False from h).elim
    | exc x a => exact (show False from h).elim
section
variable {x : Str} {apos cpos p1 : Pos}
/-- x.append(e) -/
theorem ds_append (i : Nat) (he : DE X B e we) (hN : X.N[i]? = some x := by rfl) (hv : Vis X.env.scope x := by first | exact Or.inl rfl | exact Or.inr (Or.inl rfl) | exact Or.inr (Or.inr rfl)) (hd : (x == ("__debug__" : Str)) = false := by decide)
    (hcd : (x == ("__classdict__" : Str)) = false := by decide)
    (hbase : attributeBase (.Name x p1) "append" X.env (eval (.Name x p1) X.env) = eval (.Name x p1) X.env := by rfl)
    (hfew : ((backTo cpos (starEach [e] X.env)).all (fun x => !x.1) && (backToKw cpos (keywordEach [] X.env)).all (fun x => x.1.isSome)
      && decide (([e] : List Expr).length + ([] : List Keyword).length + (if ([] : List Keyword).isEmpty then 0 else 1) < 30)) = true := by rfl)
    (hline : (apos.endLine == cpos.line) = true := by rfl) (hs : starEach [e] X.env = (false, eval e X.env) :: starEach [] X.env := by rfl) (hplain : (backTo cpos (starEach [] X.env)).any (·.1) = false := by rfl)
    (hsw : swapsWith (.Call (.Attribute (.Name x p1) "append" apos) [e] [] cpos) none pos.line X.env = pure false := by rfl) :
    DS X B (.Expr (.Call (.Attribute (.Name x p1) "append" apos) [e] [] cpos) pos) (fun ρ => bnd (ownL i ρ) fun z => bnd (we ρ) fun d => grd (z.2.length < sizeLine) (ret (.nx (ρ.set i (.own (.lst z.1 (z.2 ++ [d]))))))) := by
  refine PS.imp (ps_expr (pe_bm PySem.F.plainAttrs_list PySem.F.slot_list_append PySem.F.type_list_append mt_append (pe_var hN hv hd hcd) (pa_cons he pa_nil hs) hbase hfew hline hs hplain) hsw) fun D σ H ⟨ρ, H0, QO, k, q, h, _⟩ => ?_
  obtain ⟨oa, ds, z, q⟩ := ownL_of q
  obtain ⟨a, e1, h1, h2, ha, vs, h3, h4⟩ := k.own_at z
  refine ⟨.ref a, e1, .inl ⟨rfl, _, .of h3⟩, ρ, H0, _, k, q, fun d v H1 H2 x dd q1 => ?_⟩
  have k2 := k.later x
  have h3' : H2 a = some (.lst vs) := x.n _ _ h3 fun _ z => by cases z
  have d4 := h4.same x.z
  refine ⟨a, vs, v, rfl, rfl, h3', by rw [← h4.length]; exact q1.1, ?_⟩
  exact h _ σ H1 _ (k2.own (o' := .lst oa (ds ++ [d])) z e1 ⟨ha, _, upd_same, d4.append (.cons dd .nil)⟩) x.z q1.2
end
end
end DL
end
section
set_option Elab.async false
set_option linter.all false
set_option maxRecDepth 100000
set_option maxHeartbeats 1000000
set_option autoImplicit false
/-! DO: instances: fields, making, methods. -/
namespace DL
open PySem PySem.Spec L2 PyProof.Rows
section
variable {X : Cx} {B : Bx} {e : Expr} {es : List Expr} {we : DL.Env → W D} {pos : Pos}
def ownI (i : Nat) (ρ : DL.Env) : W (Addr × Nat × List D) := match ρ[i]? with
  | some (.own (.ins a c fs)) => ret (a, c, fs)
  | _ => stk
theorem ownI_of {i : Nat} {ρ : DL.Env} {Q : Addr × Nat × List D → Prop} {E : DX → Prop} (h : ownI i ρ Q E) : ∃ a c fs, ρ[i]? = some (.own (.ins a c fs)) ∧ Q (a, c, fs) := by
  unfold ownI at h
  cases e : ρ[i]? with
  | none => rw [e] at h; exact (show False from h).elim
  | some s =>
    rw [e] at h
    cases s with
    | own o =>
      cases o with
      | ins a c fs => exact ⟨a, c, fs, rfl, h⟩
      | dic _ _ => exact (show False from h).elim
      | dicT _ _ => exact (show False from h).elim
      | dicF _ _ => exact (show False from h).elim
      | lst _ _ => exact (show False from h).elim
      | hnd _ _ _ _ => exact (show False from h).elim
    | d x => exact (show False from h).elim
    | un => exact (show False from h).elim
    | exc x a => exact (show False from h).elim
theorem putF_new {f : Str} {v : V} : ∀ {fs : List (Str × V)}, f ∉ fs.map (·.1) → putF f v fs = fs ++ [(f, v)]
  | [], _ => rfl
  | (g, x) :: r, h => by
    have h1 : g ≠ f := fun z => h (by rw [z]; exact List.mem_cons_self)
    have h2 : f ∉ r.map (·.1) := fun z => h (List.mem_cons_of_mem _ z)
    show (if g = f then (g, v) :: r else (g, x) :: putF f v r) = _
    rw [if_neg h1, putF_new h2]
    rfl
theorem put_next {f : Str} {y : V} {ns : List Str} {vs : List V} (nd : ns.Nodup) (h : ns[vs.length]? = some f) : putF f y ((ns.take vs.length).zip vs) = (ns.take (vs ++ [y]).length).zip (vs ++ [y]) := by
  have hl : vs.length < ns.length := (List.getElem?_eq_some_iff.mp h).1
  have hf : ns[vs.length] = f := (List.getElem?_eq_some_iff.mp h).2
  have hmap : ((ns.take vs.length).zip vs).map (·.1) = ns.take vs.length := by
    rw [List.map_fst_zip]
    rw [List.length_take]
    omega
  rw [putF_new]
  · rw [List.length_append, List.length_singleton, List.take_succ, h, List.zip_append (by rw [List.length_take]; omega)]
    rfl
  · rw [hmap]
    intro m
    have e : ns = ns.take vs.length ++ ns.drop vs.length := (List.take_append_drop _ _).symm
    rw [e] at nd
    have hd : f ∈ ns.drop vs.length := by
      rw [List.drop_eq_getElem_cons hl, hf]
      exact List.mem_cons_self
    exact (List.nodup_append.mp nd).2.2 f m f hd rfl
/-- self.f = e -/
theorem ds_fld {f x : Str} {p1 p2 : Pos} (i : Nat) (hK : X.K = B.G.K) (g : GOk B.G) (he : DE X B e we) (hN : X.N[i]? = some x := by rfl) (hv : Vis X.env.scope x := by first | exact Or.inl rfl | exact Or.inr (Or.inl rfl) | exact Or.inr (Or.inr rfl)) (hd : (x == ("__debug__" : Str)) = false := by decide)
    (hcd : (x == ("__classdict__" : Str)) = false := by decide) (hs : swapsWith e (some (.Attribute (.Name x p1) f p2)) pos.line X.env = pure false := by rfl) :
    DS X B (.Assign [.Attribute (.Name x p1) f p2] e pos) (fun ρ => bnd (we ρ) fun d => bnd (ownI i ρ) fun z => grd ((B.G.flds z.2.1)[z.2.2.length]? = some f) (ret (.nx (ρ.set i (.own (.ins z.1 z.2.1 (z.2.2 ++ [d]))))))) := by
  refine PS.imp (ps_fld (pe_var hN hv hd hcd) he hs) fun D σ H ⟨ρ, H0, QO, k, q, h, _⟩ => ⟨ρ, H0, _, k, q, fun d v H1 H2 x dd q1 => ?_⟩
  obtain ⟨a, c, fs, z, q2, q3⟩ := ownI_of q1
  have k2 := k.later x
  obtain ⟨a', e1, h1, h2, h0, dx, vs, h3, h4, h5⟩ := k2.own_at z
  subst h0
  have hm : f ∈ B.G.flds c := List.mem_of_getElem? q2
  have hz : vs.length < (B.G.flds c).length := by rw [← h5.length]; exact (List.getElem?_eq_some_iff.mp q2).1
  refine ⟨.ref a, e1, a, _, dx, _, rfl, h3, by rw [hK]; exact g.cls c (List.ne_nil_of_mem hm), by rw [hK]; exact g.noat c f hm, ?_, ?_⟩
  · rw [List.length_zip, List.length_take]
    have := g.small c
    omega
  · rw [put_next (g.nd c) (by rw [← h5.length]; exact q2)]
    exact h _ σ H1 _ (k2.own (o' := .ins a c (fs ++ [d])) z e1 ⟨rfl, dx, vs ++ [v], upd_same, by rw [List.length_append, List.length_singleton]; omega, h5.append (.cons dd .nil)⟩) x.z q3
end
/-! ### making -/
def initSp (G : Gx) (n c : Nat) (s : List D → W D) : Sp := fun vs H Q E => ∃ (a dx : Addr) (us : List V) (Hm H0 : Hp) (ds : List D) (QD : D → Prop) (ED : DX → Prop), vs = .ref a :: us ∧ us.length = n ∧ H = upd Hm a (.ins (G.cls c) dx []) ∧ Hm a = none ∧ St0 G H0 Hm ∧ Dens G H0 ds us ∧ s ds QD ED ∧
  (∀ fs H0' H', Ext G.T H0 Hm H0' H' → Den G H0' (.ins c fs) (.ref a) → QD (.ins c fs) → Q .non H') ∧ EndX G H0 Hm ED E
/-- the module's name x is the class c, its __init__ has n parameters but self; C(..) does s -/
structure MkH (P : Program) (w : World) (G : Gx) (mg : Str → Option Value) (base : Heap) (x : Str) (c n k : Nat) (s : List D → W D) : Prop where
  ex : ∃ (f : Addr) (fd : FuncData) (ps : List Str), ps.length = n + 1 ∧ mg x = some (.ref (G.cls c)) ∧ Mk G.K (G.cls c) f ∧ L2.Binds G.K fd ps [] ∧ FnOk P w G.K mg base (L2.CX P w) k f fd ps (initSp G n c s)
theorem MkH.imp {P : Program} {w : World} {G : Gx} {mg : Str → Option Value} {base : Heap} {x : Str} {c n k : Nat} {s s' : List D → W D} (F : MkH P w G mg base x c n k s) (h : ∀ ds Q E, s' ds Q E → s ds Q E) : MkH P w G mg base x c n k s' :=
  let ⟨f, fd, ps, h1, h2, h3, h4, h5⟩ := F.ex
  ⟨f, fd, ps, h1, h2, h3, h4, h5.imp fun vs H Q E ⟨a, dx, us, Hm, H0, ds, QD, ED, e1, e2, e3, e4, e5, e6, q, r⟩ => ⟨a, dx, us, Hm, H0, ds, QD, ED, e1, e2, e3, e4, e5, e6, h _ _ _ q, r⟩⟩
theorem MkH.mono {P : Program} {w : World} {G : Gx} {mg : Str → Option Value} {base : Heap} {x : Str} {c n k j : Nat} {s : List D → W D} (F : MkH P w G mg base x c n j s) (h : j ≤ k) : MkH P w G mg base x c n k s :=
  let ⟨f, fd, ps, h1, h2, h3, h4, h5⟩ := F.ex
  ⟨f, fd, ps, h1, h2, h3, h4, h5.mono h⟩
section
variable {X : Cx} {B : Bx} {e : Expr} {es : List Expr} {we : DL.Env → W D} {pos p : Pos} {x : Str}
theorem de_make {c n k : Nat} {s : List D → W D} {w : DL.Env → W (List D)} (F : MkH X.prog X.w B.G X.mg X.base x c (n + 1) k s) (hK : X.K = B.G.K) (hr : Room (k + 1) X.A) (hp : Passes (L2.CX X.prog X.w) X B.xk) (bok : BxOk B) (hg : Gl X x) (ha : DA X B (n + 1) (e :: es) w)
    (hdb : (x == ("__debug__" : Str)) = false := by decide) (he : starEach (e :: es) X.env = (false, eval e X.env) :: starEach es X.env := by rfl) (hpl : (backTo pos (starEach es X.env)).any (·.1) = false := by rfl) :
    DE X B (.Call (.Name x p) (e :: es) [] pos) (fun ρ => bnd (w ρ) s) := by
  obtain ⟨f, fd, ps, h1, h2, h3, h4, h5⟩ := F.ex
  rw [← hK] at h3 h4 h5
  refine PE.imp (pe_make h3 h5 hr hg h2 h4 .nil hp ha hdb he hpl) fun σ H Q ⟨ρ, H0, QD, k, q, h⟩ => ⟨ρ, H0, _, k, q, fun ds vs H1 H2 x dd l q1 => ?_⟩
  intro a dx ha hdx hne
  rw [List.append_nil]
  have xm : Ext B.G.T H1 H2 H1 (upd H2 dx (.own a)) := Ext.putH x.st hdx _
  refine ⟨a, dx, vs, upd H2 dx (.own a), H1, ds, QD, B.E, rfl, l, rfl, by rw [upd_ne (fun z => hne z.symm)]; exact ha, xm.st, dd, q1, fun fs H3 H4 x2 d2 q2 => ⟨rfl, h _ _ H3 H4 ((x.trans xm).trans x2) d2 q2⟩, (k.later (x.trans xm)).endX bok⟩
/-- what the walk of an __init__ gives -/
def endI (G : Gx) (a : Addr) (c : Nat) (m : W Out) : W D := bnd m fun o => match o with
  | .nx ρ => bnd (ownI 0 ρ) fun z => grd (z.1 = a ∧ z.2.1 = c ∧ z.2.2.length = (G.flds c).length) (ret (.ins c z.2.2))
  | _ => stk
abbrev env1 (n : Nat) (a : Addr) (c : Nat) (ds : List D) : DL.Env := .own (.ins a c []) :: env0 n ds
theorem mkH_of {P : Program} {w : World} {G : Gx} {mg : Str → Option Value} {base : Heap} {x y qual : Str} {pr : Arguments} {body : List Stmt} {sc : Scope} {f : Addr} {fd : FuncData} {N ps : List Str} {self : Str} {c k : Nat} {s : List D → W D}
    (F : FunD G.K y qual pr body sc [] [] f fd) (S : FnScope (self :: N) (self :: ps) sc) (hm : mg x = some (.ref (G.cls c))) (M : Mk G.K (G.cls c) f) (hb : BindsBy y qual pr body sc (self :: ps)) (hn : ps.length ≤ N.length)
    (hbody : ∀ (cdv : Value) (A : Around) (outer : List PySem.Env) (s0 : Shared) (H : Hp) (E : XK) (Hm H0 : Hp) (ED : DX → Prop), Room k (A.deeper (PyProof.Rows.envOfC qual sc s0.heap.objs.size f cdv)) →
      Passes (L2.CX P w) (cxOf (L2.CX P w) P w G.K mg base (self :: N) qual sc f cdv A outer s0 H E) E → BxOk ⟨G, Hm, H0, ED, E⟩ →
      ∃ wb, DSs (cxOf (L2.CX P w) P w G.K mg base (self :: N) qual sc f cdv A outer s0 H E) ⟨G, Hm, H0, ED, E⟩ body wb ∧ ∀ a ds Q, ds.length = ps.length → s ds Q ED → endI G a c (wb (env1 N.length a c ds)) Q ED) :
    MkH P w G mg base x c ps.length (k + 1) s := by
  refine ⟨f, fd, self :: ps, rfl, hm, M, F.bindsN hb, ?_⟩
  refine funD_ok F S (fun vs H Q E ⟨a, dx, us, _, _, _, _, _, h, l, _⟩ => by rw [h, List.length_cons, l, List.length_cons]) fun cdv A outer s0 H vs Q E hr ⟨a, dx, us, Hm, H0, ds, QD, ED, e1, l, eH, ha, st, dd, q, he, hx⟩ => ?_
  obtain ⟨wb, h1, h2⟩ := hbody cdv A outer s0 H E Hm H0 ED hr (passes_call (takes_of rfl rfl rfl rfl) fun _ _ _ _ h => h) fun x cls d H1 H2 e dx q => hx x cls d H1 H2 e dx q
  refine ⟨_, h1, ?_⟩
  have h0a : H0 a = none := st.z.free ha
  have o1 := Ok.start (E := ED) (xk := E) (N := N) st dd (by rw [l]; exact hn)
  have xx : Ext G.T H0 Hm H0 H := by rw [eH]; exact Ext.putH st ha _
  have o2 : Ok ⟨G, Hm, H0, ED, E⟩ (env1 N.length a c ds) (start (self :: N) vs) H0 H := by
    have k2 := o1.later xx
    have es : start (self :: N) vs = some (.ref a) :: start N us := by
      rw [e1]
      show _ :: (us.map some ++ List.replicate ((self :: N).length - (V.ref a :: us).length) none) = _ :: (us.map some ++ List.replicate (N.length - us.length) none)
      rw [List.length_cons, List.length_cons, Nat.add_sub_add_right]
    rw [es]
    refine ⟨k2.ext, by rw [List.length_cons, List.length_cons, k2.len], fun i s e => ?_, fun i j o p b e1 e2 e3 e4 => ?_⟩
    · cases i with
      | zero =>
        cases e
        exact ⟨_, rfl, a, rfl, ha, h0a, rfl, dx, [], by rw [eH]; exact upd_same, Nat.zero_le _, .nil⟩
      | succ i => exact k2.env i s e
    · have no : ∀ (j : Nat) (p : OD), (env0 N.length ds)[j]? = some (.own p) → False := fun j p e => by
        unfold env0 at e
        by_cases hi : j < ds.length
        · rw [List.getElem?_append_left (by simpa using hi), List.getElem?_map] at e
          cases q : ds[j]? with
          | none => rw [q] at e; cases e
          | some d => rw [q] at e; cases e
        · rw [List.getElem?_append_right (by simpa using Nat.le_of_not_lt hi)] at e
          obtain ⟨_, q2⟩ := List.getElem?_eq_some_iff.mp e
          rw [List.getElem_replicate] at q2
          cases q2
      cases i with
      | zero =>
        cases j with
        | zero => rfl
        | succ j => exact (no j p e2).elim
      | succ i => exact (no i o e1).elim
  refine ⟨_, H0, _, o2, h2 a ds QD (dd.length.trans l) q, ?_, ?_, ?_, ?_⟩
  · intro ρ' σ' H0' H' k' _ q'
    obtain ⟨a', c', fs, z, ⟨g1, g2, g3⟩, q2⟩ := ownI_of q'
    simp only at g1 g2 g3 q2
    subst g1
    subst g2
    obtain ⟨b, e1, r1, r2, h0, dx', vs', r3, r4, r5⟩ := k'.own_at z
    subst h0
    have hl : vs'.length = (G.flds c').length := by rw [← r5.length]; exact g3
    have hu := r3
    have sm : Same H0' (upd H0' a' (.ins (G.cls c') dx' (((G.flds c').take vs'.length).zip vs'))) := fun b v e => by rw [upd_ne (ne_of_none e r2)]; exact e
    have kx := k'.ext
    refine he fs (upd H0' a' (.ins (G.cls c') dx' (((G.flds c').take vs'.length).zip vs'))) H' ⟨kx.n, kx.nn, kx.z.trans sm, fun b v e => ?_, fun b v e => ?_, kx.tabs, kx.nt.upd (by intro _ z; cases z)⟩ ?_ q2
    · by_cases z : b = a'
      · subst z; rw [upd_same] at e; cases e; exact hu
      · rw [upd_ne z] at e; exact kx.zz b v e
    · by_cases z : b = a'
      · subst z; exact .inr r1
      · rw [upd_ne z] at e; exact kx.fr b v e
    · simp only [Den]
      refine ⟨a', dx', vs', rfl, ?_, hl.symm, r5.same sm⟩
      rw [upd_same, hl, List.take_length]
  · intro d v ρ' σ' H0' H' k' d' q'
    exact (show False from q').elim
  · intro ρ' σ' H0' H' k' _ q'
    exact (show False from q').elim
  · intro ρ' σ' H0' H' k' _ q'
    exact (show False from q').elim
end
end DL
end
section
set_option Elab.async false
set_option linter.all false
set_option maxRecDepth 100000
set_option maxHeartbeats 1000000
set_option autoImplicit false
/-! DP: lambdas: what they promise, by their bodies; calls of closures. -/
namespace DL
open PySem PySem.Spec L2 PyProof.Rows
open Classical in
noncomputable def less (p : Addr → Prop) (H : Hp) : Hp := fun b => if p b then none else H b
open Classical in
noncomputable def more (p : Addr → Prop) (H H' : Hp) : Hp := fun b => if p b then H b else H' b
section
variable {p : Addr → Prop} {H H' H0 : Hp} {b : Addr} {o : HO}
theorem less_in (h : p b) : less p H b = none := if_pos h
theorem less_out (h : ¬ p b) : less p H b = H b := if_neg h
theorem more_in (h : p b) : more p H H' b = H b := if_pos h
theorem more_out (h : ¬ p b) : more p H H' b = H' b := if_neg h
theorem less_some (h : less p H b = some o) : ¬ p b ∧ H b = some o := by
  by_cases q : p b
  · rw [less_in q] at h; cases h
  · rw [less_out q] at h; exact ⟨q, h⟩
def isX (o : HO) : Prop := ∃ φ, o = .ext φ
/-! what holds no closure, no hand -/
mutual
def noClo : D → Bool
  | .tup xs => noClos xs
  | .lst xs => noClos xs
  | .dic _ vs => noClos vs
  | .ins _ fs => noClos fs
  | .clo _ _ => false
  | .hnd => false
  | .scr _ => false
  | _ => true
def noClos : List D → Bool
  | [] => true
  | d :: ds => noClo d && noClos ds
end
/-- all but the things known by a predicate stay -/
def SameX (H H' : Hp) : Prop := ∀ b o, H b = some o → ¬ isX o → H' b = some o
theorem SqT.sameX {K : PySem.W.Frag} {a : Addr} {xs : List V} (e : SameX H H') (h : SqT K H a xs) : SqT K H' a xs := by
  rcases h with (h | ⟨o, h⟩) | h
  · exact .inl (.inl (e _ _ h fun ⟨_, z⟩ => by cases z))
  · exact .inl (.inr ⟨o, e _ _ h fun ⟨_, z⟩ => by cases z⟩)
  · exact .inr h
mutual
theorem Den.sameX {G : Gx} (e : SameX H H') : ∀ {d : D} {v : V}, noClo d = true → Den G H d v → Den G H' d v
  | .non, _, _, h => by simpa only [Den] using h
  | .bl _, _, _, h => by simpa only [Den] using h
  | .int _, _, _, h => by simpa only [Den] using h
  | .str _, _, _, h => by simpa only [Den] using h
  | .tup xs, v, n, h => by
    simp only [Den] at h ⊢
    obtain ⟨a, vs, h1, h2, h3⟩ := h
    exact ⟨a, vs, h1, SqT.sameX e h2, Dens.sameX e (by simpa only [noClo] using n) h3⟩
  | .lst xs, v, n, h => by
    simp only [Den] at h ⊢
    obtain ⟨a, vs, h1, h2, h3⟩ := h
    exact ⟨a, vs, h1, e _ _ h2 (fun ⟨_, z⟩ => by cases z), Dens.sameX e (by simpa only [noClo] using n) h3⟩
  | .dic ks us, v, n, h => by
    simp only [Den] at h ⊢
    obtain ⟨a, vs, h1, h2, h3⟩ := h
    refine ⟨a, vs, h1, Dens.sameX e (by simpa only [noClo] using n) h2, ?_⟩
    rcases h3 with ⟨kk, o, k1, k2, k3⟩ | ⟨kk, o, k1, k2, k3⟩
    · exact .inl ⟨kk, o, k1, e _ _ k2 (fun ⟨_, z⟩ => by cases z), k3⟩
    · exact .inr ⟨kk, o, k1, e _ _ k2 (fun ⟨_, z⟩ => by cases z), k3⟩
  | .ins c fs, v, n, h => by
    simp only [Den] at h ⊢
    obtain ⟨a, dx, vs, h1, h2, h3, h4⟩ := h
    exact ⟨a, dx, vs, h1, e _ _ h2 (fun ⟨_, z⟩ => by cases z), h3, Dens.sameX e (by simpa only [noClo] using n) h4⟩
  | .clo i cs, v, n, h => by cases n
  | .hnd, v, n, h => by cases n
  | .scr _, v, n, h => by cases n
theorem Dens.sameX {G : Gx} (e : SameX H H') : ∀ {ds : List D} {vs : List V}, noClos ds = true → Dens G H ds vs → Dens G H' ds vs
  | [], _, _, h => by simpa only [Dens] using h
  | d :: ds, vs, n, h => by
    simp only [noClos, Bool.and_eq_true] at n
    simp only [Dens] at h ⊢
    obtain ⟨v, ws, h1, h2, h3⟩ := h
    exact ⟨v, ws, h1, Den.sameX e n.1 h2, Dens.sameX e n.2 h3⟩
end
end
section
variable {P : Program} {w : World} {p : Addr → Prop} {H H' : Hp} {h h' : Heap}
theorem HOk.lessX (x : HOk P w H h) (hx : ∀ b o, p b → H b = some o → isX o) : HOk P w (less p H) h := fun a o e => by
  obtain ⟨n, e⟩ := less_some e
  refine (x a o e).stay (fun _ _ _ q => q) (fun b q => ?_) (fun b xs q => ?_)
  · exact (less_out fun z => by obtain ⟨_, z⟩ := hx b _ z q; cases z).trans q
  · exact (less_out fun z => by obtain ⟨_, z⟩ := hx b _ z q; cases z).trans q
theorem HOk.moreX (x : HOk P w H' h) (hn : ∀ b, p b → H' b = none) (hx : ∀ b o, p b → H b = some o → isX o ∧ ObjOk P w (more p H H') h b o) : HOk P w (more p H H') h := fun a o e => by
  by_cases q : p a
  · rw [more_in q] at e
    exact (hx a o q e).2
  · rw [more_out q] at e
    refine (x a o e).stay (fun _ _ _ q => q) (fun b z => ?_) (fun b xs z => ?_)
    · exact (more_out fun y => by rw [hn b y] at z; cases z).trans z
    · exact (more_out fun y => by rw [hn b y] at z; cases z).trans z
theorem Un.moreX {fs : List Addr} (u : Un fs [] (less p H) H' h h') (hn : ∀ b, p b → H' b = none) (hx : ∀ b o, p b → H b = some o → isX o) (hs : ∀ b, p b → ∃ o, H b = some o) : Un fs [] H (more p H H') h h' := by
  have np : ∀ b, H b = none → ¬ p b := fun b e z => by obtain ⟨o, e2⟩ := hs b z; rw [e] at e2; cases e2
  have nx : ∀ b o, H b = some o → (∀ φ, o ≠ .ext φ) → ¬ p b := fun b o e n z => by obtain ⟨φ, z⟩ := hx b o z e; exact n φ z
  refine ⟨fun b o q e => u.keep b o q ((less_out (np b e)).trans e), fun b o q e => u.slot b o q ((less_out (np b e)).trans e), fun b o q e f => (more_out (np b e)).trans (u.free b o q ((less_out (np b e)).trans e) f), u.there, fun b xs e => ?_, fun b o v e => ?_, fun b ps e => ?_⟩
  · have n := nx b _ e (by intro _ z; cases z)
    exact (more_out n).trans (u.tups b xs ((less_out n).trans e))
  · have n := nx b _ e (by intro _ z; cases z)
    exact (more_out n).trans (u.frzs b o v ((less_out n).trans e))
  · have n := nx b _ e (by intro _ z; cases z)
    obtain ⟨m, q⟩ := u.tbls b ps ((less_out n).trans e)
    exact ⟨m, (more_out n).trans q⟩
end
theorem UB.moreX {p : Addr → Prop} {fs : List Addr} {H H' : Hp} {h B h' : Heap} (u : UB fs (less p H) H' h B h') (hn : ∀ b, p b → H' b = none) (hx : ∀ b o, p b → H b = some o → isX o) (hs : ∀ b, p b → ∃ o, H b = some o) : UB fs H (more p H H') h B h' := by
  have np : ∀ b, H b = none → ¬ p b := fun b e z => by obtain ⟨o, e2⟩ := hs b z; rw [e] at e2; cases e2
  have nx : ∀ b o, H b = some o → (∀ φ, o ≠ .ext φ) → ¬ p b := fun b o e n z => by obtain ⟨φ, z⟩ := hx b o z e; exact n φ z
  refine ⟨fun b o q e => u.keep b o q ((less_out (np b e)).trans e), u.slot, fun b o q e => (more_out (np b e)).trans (u.free b o q ((less_out (np b e)).trans e)), u.there, fun b xs e => ?_, fun b o v e => ?_, fun b ps e => ?_⟩
  · have n := nx b _ e (by intro _ z; cases z)
    exact (more_out n).trans (u.tups b xs ((less_out n).trans e))
  · have n := nx b _ e (by intro _ z; cases z)
    exact (more_out n).trans (u.frzs b o v ((less_out n).trans e))
  · have n := nx b _ e (by intro _ z; cases z)
    obtain ⟨m, q⟩ := u.tbls b ps ((less_out n).trans e)
    exact ⟨m, (more_out n).trans q⟩
/-- the captured cells -/
def InCl (cl : List (Str × Addr)) (b : Addr) : Prop := ∃ y, cl.lookup y = some b
def gNo (d : D) : W D := grd (noClo d = true) (ret d)
/-- exceptions without fields alone -/
def xpl {α : Type} (G : Gx) (m : W α) : W α := fun Q E => m Q fun x => G.xfld x.c = none ∧ E x
/-- a closure's call -/
def cloCall (G : Gx) (n : Nat) : D → List D → W D
  | .clo j cs, ds => grd (noClos cs = true ∧ noClos ds = true ∧ (G.lam j).ps.length = n) (bnd (xpl G (G.cloW j cs ds)) gNo)
  | _, _ => stk
/-- the lambda j keeps what G says of it -/
def LamOk (P : Program) (w : World) (G : Gx) (mg : Str → Option Value) (base : Heap) (k j : Nat) : Prop :=
  ∀ (A : Around) (outer : List PySem.Env) (s : Shared) (H : Hp) (us : List Value) (vs : List V) (Q : VK) (f : Addr) (ws : List V) (H0 : Hp) (cs ds : List D) (QD : D → Prop) (ED : DX → Prop) (E : XK), Room k A → Env0 P w G.K mg base A outer s H → CloAt G H0 j ws f → St0 G H0 H → Dens G H0 cs ws → Dens G H0 ds vs →
    noClos cs = true → noClos ds = true → Vals vs us → ds.length = (G.lam j).ps.length → bnd (xpl G (G.cloW j cs ds)) gNo QD ED → End1 G H0 H QD Q → (∀ x cls d H0' H', G.xfld x.c = none → Ext G.T H0 H H0' H' → DenX G H0' x cls d → ED x → E cls d H') → codeAny (model P w) A (.call (.ref f) ⟨us, []⟩) (CR (L2.CX P w) outer P w H s Q E) s
theorem CellsP.get {H : Hp} {cl : List (Str × Addr)} : ∀ {fr : List Str} {ws : List V} {i : Nat} {y : Str}, CellsP H cl fr ws → fr[i]? = some y → ∃ c o u v, cl.lookup y = some c ∧ H c = some (PinO c o) ∧ o.data = .cell (some u) ∧ ws[i]? = some v ∧ L2.RelV v u
  | [], _, _, _, _, e => by simp at e
  | _ :: _, [], _, _, h, _ => h.elim
  | z :: ys, v :: vs, 0, y, ⟨⟨c, o, u, h1, h2, h3, h4⟩, _⟩, e => by
    simp at e
    subst e
    exact ⟨c, o, u, v, h1, h2, h3, rfl, h4⟩
  | z :: ys, v :: vs, i + 1, y, ⟨_, h⟩, e => by
    obtain ⟨c, o, u, v', h1, h2, h3, h4, h5⟩ := CellsP.get (i := i) h (by simpa using e)
    exact ⟨c, o, u, v', h1, h2, h3, by simpa using h4, h5⟩
theorem CellsP.len {H : Hp} {cl : List (Str × Addr)} : ∀ {fr : List Str} {ws : List V}, CellsP H cl fr ws → ws.length = fr.length
  | [], [], _ => rfl
  | [], _ :: _, h => h.elim
  | _ :: _, [], h => h.elim
  | _ :: ys, _ :: vs, ⟨_, h⟩ => by rw [List.length_cons, List.length_cons, CellsP.len h]
/-- every captured cell is among the pinned ones -/
theorem CellsP.all {H : Hp} {cl : List (Str × Addr)} {fr : List Str} {ws : List V} (h : CellsP H cl fr ws) (sub : ∀ y d, cl.lookup y = some d → y ∈ fr) {b : Addr} (hb : InCl cl b) : ∃ o u, H b = some (PinO b o) ∧ o.data = .cell (some u) := by
  obtain ⟨y, e⟩ := hb
  obtain ⟨i, hi⟩ := List.mem_iff_getElem?.mp (sub y b e)
  obtain ⟨c, o, u, v, h1, h2, h3, _, _⟩ := h.get hi
  rw [e] at h1
  cases h1
  exact ⟨o, u, h2, h3⟩
theorem pin_at {P : Program} {w : World} {H : Hp} {h : Heap} {b : Addr} {o : Obj} (x : HOk P w H h) (e : H b = some (PinO b o)) : h.get? b = some o := by
  obtain ⟨z, _, _⟩ := x b _ e
  exact z
theorem pin_ok {P : Program} {w : World} {H : Hp} {h : Heap} {b : Addr} {o : Obj} (e : h.get? b = some o) : ObjOk P w H h b (PinO b o) := ⟨e, ⟨o, e⟩, fun _ _ q k => k _ q⟩
/-! ### a lambda by its body -/
abbrev lamNF (L : LF) (cl : List (Str × Addr)) (c : Addr) : NdefX.NF := ⟨"<lambda>", L.qual, L.params, [], L.scope, cl, c⟩
abbrev envL (n : Nat) (ds cs : List D) : DL.Env := ds.map Sl.d ++ (cs.map Sl.d ++ List.replicate (n - ds.length - cs.length) .un)
theorem Ok.startL {G : Gx} {H0 H : Hp} {E : DX → Prop} {xk : XK} {N : List Str} {ds cs : List D} {vs ws : List V} (st : St0 G H0 H) (dd : Dens G H0 ds vs) (dc : Dens G H0 cs ws) (h : vs.length + ws.length ≤ N.length) : Ok ⟨G, H, H0, E, xk⟩ (envL N.length ds cs) (NdefX.startF N vs (ws.map some)) H0 H := by
  have e1 : envL N.length ds cs = env0 N.length (ds ++ cs) := by
    unfold envL env0
    rw [List.map_append, List.append_assoc, List.length_append, Nat.sub_sub]
  have e2 : NdefX.startF N vs (ws.map some) = L2.start N (vs ++ ws) := by
    unfold NdefX.startF L2.start
    rw [List.map_append, List.append_assoc, List.length_append, List.length_map, Nat.sub_sub]
  rw [e1, e2]
  exact Ok.start st (dd.append dc) (by rw [List.length_append]; exact h)
theorem lam_of {P : Program} {w : World} {G : Gx} {mg : Str → Option Value} {base : Heap} {N : List Str} {k j : Nat} (S : NdefX.NScope N (G.lam j).ps (G.lam j).fr (G.lam j).scope)
    (hb : ∀ (cl : List (Str × Addr)) (pm cv ctv : Value) (us : List Value), us.length = (G.lam j).ps.length → bindArgs (PySem.W.kla_fn "<lambda>" (G.lam j).qual (G.lam j).params (G.lam j).body (G.lam j).scope cl pm cv ctv) ⟨us, []⟩ = pure ((G.lam j).ps.zip us))
    (hbody : ∀ (A : Around) (outer : List PySem.Env) (s : Shared) (H H0 : Hp) (f : Addr) (cl : List (Str × Addr)) (c : Addr) (ED : DX → Prop) (E : XK), Room k (A.deeper (NdefX.envF (lamNF (G.lam j) cl c) f s.heap.objs.size)) → BxOk ⟨G, H, H0, ED, E⟩ →
      ∃ we, DE (NdefX.ncx (L2.CX P w) P w G.K mg base N (lamNF (G.lam j) cl c) f A outer s H E) ⟨G, H, H0, ED, E⟩ (G.lam j).body we ∧ ∀ cs ds Q, cs.length = (G.lam j).fr.length → ds.length = (G.lam j).ps.length → G.cloW j cs ds Q ED → we (envL N.length ds cs) Q ED) :
    LamOk P w G mg base (k + 1) j := by
  intro A outer s H us vs Q f ws H0 cs ds QD ED E hr e0 hf st dc dd nc nd r hl hq fin hE2
  have hf0 := hf
  obtain ⟨cl, c, h1, h2, h3, h4, h5⟩ := hf
  have zz := st.z
  have k1 := zz _ _ h1
  have k2 := zz _ _ h2
  have k3 := h3.same zz
  have pinned : ∀ b, InCl cl b → ∃ o u, H b = some (PinO b o) ∧ o.data = .cell (some u) := fun b hb => k3.all h4 hb
  have pinned0 : ∀ b, InCl cl b → ∃ o u, H0 b = some (PinO b o) ∧ o.data = .cell (some u) := fun b hb => h3.all h4 hb
  have isx : ∀ b o, InCl cl b → H b = some o → isX o := fun b o hb e => by
    obtain ⟨o', u, e2, _⟩ := pinned b hb
    rw [e] at e2
    cases e2
    exact ⟨_, rfl⟩
  obtain ⟨Hc, eHc⟩ : ∃ Hc, Hc = less (InCl cl) H := ⟨_, rfl⟩
  obtain ⟨Hz, eHz⟩ : ∃ Hz, Hz = less (InCl cl) H0 := ⟨_, rfl⟩
  have okc : HOk P w Hc s.heap := by rw [eHc]; exact HOk.lessX e0.hok isx
  have e0c : Env0 P w G.K mg base A outer s Hc := ⟨e0.frames, e0.mod, fun b o e => by
      obtain ⟨q1, q2⟩ := e0.bs b o e
      refine ⟨q1, ?_⟩
      rw [eHc]
      by_cases z : InCl cl b
      · exact less_in z
      · exact (less_out z).trans q2, e0.bsz, e0.funs, fun b hb => by
      rw [eHc]
      by_cases z : InCl cl b
      · exact less_in z
      · exact (less_out z).trans (e0.frf b hb), okc, e0.bare⟩
  have lim : s.heap.NoLimit := e0.mod.nolimit.keeps fun b o e => (e0.bs b o e).1
  have lenw := k3.len
  have lenc : cs.length = (G.lam j).fr.length := dc.length.trans lenw
  have CA : NdefX.CellsAt cl (G.lam j).fr (ws.map some) s.heap Hc := by
    refine ⟨by rw [List.length_map]; exact lenw, fun y d e => ?_, h5, fun i y e => ?_⟩
    · obtain ⟨o, u, e1, e2⟩ := pinned d ⟨y, e⟩
      exact ⟨by rw [eHc]; exact less_in ⟨y, e⟩, some u, o, pin_at e0.hok e1, e2⟩
    · obtain ⟨d, o, u, v, q1, q2, q3, q4, q5⟩ := k3.get e
      refine ⟨d, q1, fun v' ev => ?_⟩
      rw [List.getElem?_map, q4] at ev
      cases ev
      exact ⟨u, q5, o, pin_at e0.hok q2, q3⟩
  obtain ⟨pm, ctv, ho⟩ := (e0.hok f _ k1).1
  obtain ⟨oc, cvs, ct, hoc, hd, hv⟩ := (e0.hok c _ k2).1
  obtain ⟨ED', eED⟩ : ∃ ED' : DX → Prop, ED' = fun x => G.xfld x.c = none ∧ ED x := ⟨_, rfl⟩
  obtain ⟨xk', exk⟩ : ∃ xk' : XK, xk' = fun cls d H' => ∃ (x : DX) (H0' : Hp), Ext G.T Hz Hc H0' H' ∧ cls = .ref (G.xcls x.c) ∧ d = none ∧ x.fs = [] ∧ G.xfld x.c = none ∧ ED x := ⟨_, rfl⟩
  have bok : BxOk ⟨G, Hc, Hz, ED', xk'⟩ := fun x cls d H0' H' xx dx he => by
    subst eED exk
    obtain ⟨d1, d2⟩ := dx
    obtain ⟨he1, he2⟩ := he
    dsimp only at d1 d2 he1
    rw [he1] at d2
    exact ⟨x, H0', xx, d1, d2.1, d2.2, he1, he2⟩
  obtain ⟨we, hE, hW⟩ := hbody A outer s Hc Hz f cl c ED' xk' (hr.deeper _) bok
  have hq : G.cloW j cs ds (fun d => gNo d QD ED) ED' := by subst eED; exact hq
  refine PySem.W.kla_callFunE hr.depth ho rfl S.co S.gen rfl ⟨c, oc, cvs, ct, rfl, hoc, hd, hv⟩ ?_
  rw [hb cl pm (.ref c) ctv us (by rw [← r.length, ← dd.length]; exact hl)]
  refine wpAny_pure (wpAny_newFunctionEnv S.nocell (fun ⟨n, _⟩ hy => S.par n (List.of_mem_zip hy).1) (fun h₁ hns hsb => ⟨lim.fresh _ hsb, ?_⟩) S.kind)
  show codeAny _ _ (.expr (G.lam j).body (NdefX.envF (lamNF (G.lam j) cl c) f s.heap.objs.size)) _ _
  have kp : ∀ b o, s.heap.get? b = some o → h₁.get? b = some o := fun b o e => hsb.extBut b o (Nat.ne_of_lt (Heap.lt_size e)) (Heap.get?_push_of_some _ e)
  have hpl : (G.lam j).ps.length + (G.lam j).fr.length ≤ N.length := by
    have q := congrArg List.length S.pre
    rw [List.length_take, List.length_append] at q
    omega
  have I := NdefX.inv_startN (CX := L2.CX P w) (F := lamNF (G.lam j) cl c) (f := f) (E := xk') (tk := s.toks + ((G.lam j).ps.zip us).length) S hr.hd e0c (by rw [← dd.length]; exact hl) r CA hns kp
  have smx0 : SameX H0 Hz := fun b o e n => by
    rw [eHz]
    refine (less_out fun z => n ?_).trans e
    obtain ⟨o', u, e2, _⟩ := pinned0 b z
    rw [e] at e2
    cases e2
    exact ⟨_, rfl⟩
  have ntz : NoT Hz := fun b ps e => by
    rw [eHz] at e
    exact st.nt b ps (less_some e).2
  have stc : St0 G Hz Hc := (fun (a : Same Hz Hc) (b : NdefX.TabsN G.T Hc) => (⟨a, b, ntz⟩ : St0 G Hz Hc)) (fun b o e => by
      rw [eHz] at e
      obtain ⟨n, e⟩ := less_some e
      rw [eHc]
      exact (less_out n).trans (zz b o e)) (fun q hq => by
      obtain ⟨ps, t1, t2, t3⟩ := st.tabs q hq
      rw [eHc]
      refine ⟨ps, (less_out fun z => by obtain ⟨φ, z⟩ := isx _ _ z t1; cases z).trans t1, t2, fun pos cv hc => ?_⟩
      obtain ⟨c0, e1, e2⟩ := t3 pos cv hc
      refine ⟨c0, e1, (less_out fun z => ?_).trans e2⟩
      obtain ⟨o', u, e3, e4⟩ := pinned c0 z
      have g1 := pin_at e0.hok e3
      obtain ⟨oc', vs', t', g2, g3, _⟩ := (e0.hok c0 _ e2).1
      rw [g1] at g2
      cases g2
      rw [e4] at g3
      cases g3)
  have okk := Ok.startL (E := ED') (xk := xk') (N := N) stc (dd.sameX smx0 nd) (dc.sameX smx0 nc) (by rw [← dd.length, ← dc.length, hl, lenc]; exact hpl)
  have mkExt : ∀ (H0' H' : Hp), Ext G.T Hz Hc H0' H' → (∀ b, InCl cl b → H' b = none) → (∀ b, InCl cl b → H0' b = none) → Ext G.T H0 H (more (InCl cl) H0 H0') (more (InCl cl) H H') := fun H0' H' x hn hn0 => by
    refine ⟨fun b o e nt => ?_, fun b e => ?_, fun b o e => ?_, fun b o e => ?_, fun b o e => ?_, fun q hq => ?_, fun b ps e => ?_⟩
    · by_cases z : InCl cl b
      · exact (more_in z).trans e
      · exact (more_out z).trans (x.n b o (by rw [eHc]; exact (less_out z).trans e) nt)
    · by_cases z : InCl cl b
      · rw [more_in z] at e; exact e
      · rw [more_out z] at e
        have e2 := x.nn b e
        rw [eHc, less_out z] at e2
        exact e2
    · by_cases z : InCl cl b
      · exact (more_in z).trans e
      · exact (more_out z).trans (x.z b o (by rw [eHz]; exact (less_out z).trans e))
    · by_cases z : InCl cl b
      · rw [more_in z] at e; exact (more_in z).trans (zz b o e)
      · rw [more_out z] at e; exact (more_out z).trans (x.zz b o e)
    · by_cases z : InCl cl b
      · rw [more_in z] at e; exact .inl e
      · rw [more_out z] at e
        rcases x.fr b o e with q | q
        · rw [eHz] at q; exact .inl (less_some q).2
        · rw [eHc, less_out z] at q; exact .inr q
    · obtain ⟨ps, t1, t2, t3⟩ := x.tabs q hq
      refine ⟨ps, (more_out fun z => by rw [hn _ z] at t1; cases t1).trans t1, t2, fun pos cv hc => ?_⟩
      obtain ⟨c0, e1, e2⟩ := t3 pos cv hc
      exact ⟨c0, e1, (more_out fun z => by rw [hn _ z] at e2; cases e2).trans e2⟩
    · by_cases z : InCl cl b
      · rw [more_in z] at e; exact st.nt b ps e
      · rw [more_out z] at e; exact x.nt b ps e
  have hrun : lift ⟨G, Hc, Hz, ED', xk'⟩ we (NdefX.startF N vs (ws.map some)) Hc fun v H' => ∃ d H0', Ext G.T Hz Hc H0' H' ∧ Den G H0' d v ∧ noClo d = true ∧ QD d :=
    ⟨_, Hz, _, okk, hW cs ds _ lenc hl hq, fun d v H0' H' x d' q' => ⟨d, H0', x, d', q'.1, q'.2⟩⟩
  refine PySem.W.kla_codeExpr (wpAny_mono (hE.run [] _ _ Hc _ I hrun) (fun v' s' hs => ?_) fun e s' hs => ?_)
  · obtain ⟨v, H', J, rv, d, H0', x, d', n', q'⟩ := hs
    have hn : ∀ b, InCl cl b → H' b = none := fun b hb => by
      obtain ⟨o, u, e1, _⟩ := pinned b hb
      have g := pin_at e0.hok e1
      exact J.base.free b o g (by show Hc b = none; rw [eHc]; exact less_in hb) (fun z => absurd (show b ∈ ([] : List Addr) from z) (by simp))
    have hn0 : ∀ b, InCl cl b → H0' b = none := fun b hb => x.zz.free (hn b hb)
    have kept : ∀ b o, InCl cl b → s.heap.get? b = some o → s'.heap.get? b = some o := fun b o hb g => by
      refine J.base.keep b o g (by show Hc b = none; rw [eHc]; exact less_in hb) (fun z => ?_) (fun z => absurd (show b ∈ ([] : List Addr) from z) (by simp))
      obtain ⟨o', u, e1, _⟩ := pinned b hb
      have := e0.frf b z
      rw [e1] at this
      cases this
    have un : Un (frs outer) [] Hc H' s.heap s'.heap := J.base
    rw [eHc] at un
    have okm : HOk P w (more (InCl cl) H H') s'.heap := HOk.moreX J.hok hn fun b o hb e => by
      obtain ⟨o', u, e1, _⟩ := pinned b hb
      rw [e] at e1
      cases e1
      exact ⟨⟨_, rfl⟩, pin_ok (kept b o' hb (pin_at e0.hok e))⟩
    have smm : Same H0' (more (InCl cl) H0 H0') := fun b o e => (more_out fun z => by rw [hn0 b z] at e; cases e).trans e
    refine ⟨v, more (InCl cl) H H', J.os, J.bare, Un.moreX un hn isx (fun b hb => let ⟨o, u, e1, _⟩ := pinned b hb; ⟨_, e1⟩), okm, rv, ?_⟩
    exact fin d v (more (InCl cl) H0 H0') _ (mkExt H0' H' x hn hn0) (d'.same smm) q'
  · have ht : (NdefX.ncx (L2.CX P w) P w G.K mg base N (lamNF (G.lam j) cl c) f A outer s Hc xk').xe e s' := hs
    have fin2 : ∀ e s'', L2.CX P w outer Hc s xk' e s'' → L2.CX P w outer H s E e s'' := fun e s'' q => by
      obtain ⟨a, B, H', cls, d, eu, fl, hok, ub, na, os, ag, hx⟩ := q
      rw [exk] at hx
      obtain ⟨x, H0', xx, x1, x2, x3, x4, x5⟩ := hx
      have hf : ∀ b, InCl cl b → b ∉ frs outer := fun b hb z => by
        obtain ⟨o', u, e1, _⟩ := pinned b hb
        have := e0.frf b z
        rw [e1] at this
        cases this
      have hc : ∀ b, InCl cl b → Hc b = none := fun b hb => by rw [eHc]; exact less_in hb
      have hn : ∀ b, InCl cl b → H' b = none := fun b hb => by
        obtain ⟨o, u, e1, _⟩ := pinned b hb
        exact ub.free b o (pin_at e0.hok e1) (hc b hb)
      have hn0 : ∀ b, InCl cl b → H0' b = none := fun b hb => xx.zz.free (hn b hb)
      have kB : ∀ b o, InCl cl b → s.heap.get? b = some o → B.get? b = some o := fun b o hb g => ub.keep b o g (hc b hb) (hf b hb)
      have okm : HOk P w (more (InCl cl) H H') B := HOk.moreX hok hn fun b o hb e => by
        obtain ⟨o', u, e1, _⟩ := pinned b hb
        rw [e] at e1
        cases e1
        exact ⟨⟨_, rfl⟩, pin_ok (kB b o' hb (pin_at e0.hok e))⟩
      rw [eHc] at ub
      have ea : more (InCl cl) H H' a = none := by
        by_cases z : InCl cl a
        · exfalso
          obtain ⟨o, u, e1, _⟩ := pinned a z
          have g := kB a o z (pin_at e0.hok e1)
          have := fl.2.1
          rw [g] at this
          cases this
        · exact (more_out z).trans na
      refine ⟨a, B, more (InCl cl) H H', cls, d, eu, fl, okm, UB.moreX ub hn isx (fun b hb => let ⟨o, u, e1, _⟩ := pinned b hb; ⟨_, e1⟩), ea, os, ag, hE2 x cls d _ _ x4 (mkExt H0' H' xx hn hn0) ⟨x1, ?_⟩ x5⟩
      rw [x4]
      exact ⟨x2, x3⟩
    exact wpAny_mono ht (fun _ s'' q => fin2 _ s'' q) fun _ s'' q => fin2 _ s'' q
end DL
end
section
set_option Elab.async false
set_option linter.all false
set_option maxRecDepth 100000
set_option maxHeartbeats 1000000
set_option autoImplicit false
/-! DQ: closures called; lambdas made and handed to defs. -/
namespace DL
open PySem PySem.Spec L2 PyProof.Rows
def isClo : D → Bool
  | .clo _ _ => true
  | _ => false
section
variable {X : Cx} {B : Bx} {e : Expr} {es : List Expr} {pos p : Pos} {x : Str} {k n : Nat}
theorem lam_fnAt {G : Gx} {P : Program} {w : World} {H : Hp} {h : Heap} {i : Nat} {ws : List V} {a : Addr} (x : HOk P w H h) (c : CloAt G H i ws a) : PySem.W.FnAt a h := by
  obtain ⟨cl, c, h1, _⟩ := c
  obtain ⟨pm, ctv, ho⟩ := (x a _ h1).1
  exact ⟨_, _, _, _, ho⟩
theorem CloAt.same {G : Gx} {H H' : Hp} {i : Nat} {ws : List V} {a : Addr} (e : Same H H') (c : CloAt G H i ws a) : CloAt G H' i ws a := by
  obtain ⟨cl, c, h1, h2, h3, h4, h5⟩ := c
  exact ⟨cl, c, e _ _ h1, e _ _ h2, h3.same e, h4, h5⟩
/-- f(..), f a name that stands for a closure -/
theorem de_callC (i : Nat) {wa : DL.Env → W (List D)} (hC : ∀ j cs ds Q E, B.G.cloW j cs ds Q E → LamOk X.prog X.w B.G X.mg X.base k j) (hK : X.K = B.G.K) (hr : Room k X.A) (hp : Passes (L2.CX X.prog X.w) X B.xk) (bok : BxOk B) (ha : DA X B n (e :: es) wa) (hN : X.N[i]? = some x := by rfl) (hv : Vis X.env.scope x := by first | exact Or.inl rfl | exact Or.inr (Or.inl rfl) | exact Or.inr (Or.inr rfl)) (hd : (x == ("__debug__" : Str)) = false := by decide)
    (hcd : (x == ("__classdict__" : Str)) = false := by decide) (he : starEach (e :: es) X.env = (false, eval e X.env) :: starEach es X.env := by rfl) (hpl : (backTo pos (starEach es X.env)).any (·.1) = false := by rfl) :
    DE X B (.Call (.Name x p) (e :: es) [] pos) (fun ρ => bnd (rd ρ i) fun f => grd (isClo f = true) (bnd (wa ρ) fun ds => cloCall B.G n f ds)) := by
  refine ⟨fun pins s σ H Q I h => ?_⟩
  obtain ⟨ρ, H0, QD, k', q, fin⟩ := h
  obtain ⟨f, ef, hc, q⟩ := rd_of q
  obtain ⟨v, e1, d1⟩ := k'.at_ ef
  cases f <;> first | (cases hc) | skip
  rename_i j cs
  simp only [Den] at d1
  obtain ⟨a, ws, ev, hclo, dcs⟩ := d1
  subst ev
  refine wpAny_Call_Name_kw (thn ((pe_var (pos := p) hN hv hd hcd).run pins s σ H (fun v H1 => v = .ref a ∧ H1 = H) I ⟨.ref a, e1, rfl, rfl⟩) fun u s1 ⟨v, H1, I1, r1, q1⟩ => ?_)
  obtain ⟨ev, eH⟩ := q1
  subst ev
  rw [eH] at I1
  obtain rfl : u = Value.ref a := r1
  refine PySem.W.callWith_F (first := []) (lam_fnAt I1.hok (hclo.same k'.ext.zz)) (thn (ha.run pos pins s1 σ H (fun vs H2 => ∃ (ds : List D) (H1 : Hp), Ext B.G.T H0 H H1 H2 ∧ Dens B.G H1 ds vs ∧ vs.length = n ∧ cloCall B.G n (.clo j cs) ds QD B.E) I1
    ⟨ρ, H0, _, k', q, fun ds vs H1 H2 x dd l q1 => ⟨ds, H1, x, dd, l, q1⟩⟩) fun us s2 ⟨vs, H2, I2, r, q⟩ => ⟨?_, ?_⟩) he hpl
  · obtain ⟨ds, H3, x, dd, l, q1⟩ := q
    exact lam_fnAt I2.hok ((hclo.same x.z).same x.zz)
  · obtain ⟨ds, H3, x, dd, l, ⟨g1, g2, g3⟩, q1⟩ := q
    show wpAny _ _ (call (.ref a) us) _ _ _
    have q0 : B.G.cloW j cs ds (fun d => gNo d QD B.E) (fun x => B.G.xfld x.c = none ∧ B.E x) := q1
    refine wpAny_call (codeAny_mono (hC j cs ds _ _ q0 X.A X.stack s2 H2 us vs Q a ws H3 cs ds QD B.E B.xk hr (by rw [← hK]; exact I2.env0) (hclo.same x.z) x.st (dcs.same x.z) dd g1 g2 r (by rw [dd.length, l, g3]) q1 (fun d v H4 H5 x2 d2 q2 => fin d v H4 H5 (x.trans x2) d2 q2) (fun y cls d H4 H5 _ => (k'.later x).endX bok y cls d H4 H5)) fun r s' hq => ?_)
    cases r with
    | error e => exact hp pins σ H2 s2 e s' I2 hq
    | ok fl =>
      cases fl with
      | ret u => exact I2.after hq
      | next => exact False.elim hq
      | brk => exact False.elim hq
      | cont => exact False.elim hq
/-! ### a lambda is made -/
theorem inv_lam {pins : List (Addr × Obj)} {σ : L2.St} {H : Hp} {s : Shared} {L : LF} {cl : List (Str × Addr)} {c' : Addr} {t' : Nat} {pm ctv : Value} (I : Inv X pins σ H s) :
    Inv X pins σ (upd H s.heap.objs.size (LamO s.heap.objs.size L cl c')) { s with heap := s.heap.push (PySem.W.kla_obj "<lambda>" L.qual L.params L.body L.scope cl pm c' ctv), toks := t' } := by
  refine I.laid (a := s.heap.objs.size) (fun b u e => Heap.get?_push_of_some _ e) (Nat.le_refl _) ?_
  have e : (s.heap.push (PySem.W.kla_obj "<lambda>" L.qual L.params L.body L.scope cl pm c' ctv)).get? s.heap.objs.size = some (PySem.W.kla_obj "<lambda>" L.qual L.params L.body L.scope cl pm c' ctv) := Heap.get?_push_size _ rfl
  exact ⟨⟨pm, ctv, e⟩, ⟨_, e⟩, fun h1 h2 ⟨pm, ctv, z⟩ st => ⟨pm, ctv, st _ z⟩⟩
theorem lam_make3 {pins : List (Addr × Obj)} {σ : L2.St} {H : Hp} {s : Shared} {T : List NdefX.NTab} {nm : Nat → Nat → Str} {c P : Addr} {L : LF} {lpos : Pos} {E : Value → Shared → Prop} {Q : Value → Shared → Prop} (I : Inv X pins σ H s) (TB : LamX.TabB X.base X.mg c P) (hcode : X.env.code = .ref c)
    (hm : (P, nm) ∈ T) (hn : nm lpos.line lpos.col = L.qual) (hq : X.env.qual ++ "<lambda>" = L.qual) (hu : ∀ p ∈ T, p.1 = P → p.2 = nm) (hT : NdefX.TabsN T H) (hdef : defaultsOf L.params X.env = ([], [])) (hfree : ∀ y ∈ L.scope.names, y.2 = .free → ∃ c, X.env.cells.lookup y.1 = some c)
    (h : ∀ (f c' : Addr) (H1 : Hp) (s' : Shared), Inv X pins σ H1 s' → LamX.ExtN H H1 → (∀ b, H1 b = Option.none → H b = Option.none) → NdefX.TabsN T H1 → H f = none → H1 f = some (LamO f L (cloFrom X.env.cells L.scope.names []) c') → (H c' = none ∨ H c' = some (LamX.CodeO c' L.qual)) → H1 c' = some (LamX.CodeO c' L.qual) → Q (.ref f) s') :
    wpAny (model X.prog X.w) X.A (eval (.Lambda L.params L.body L.scope lpos) X.env) Q E s := by
  obtain ⟨ps, hP, ht, ha⟩ := (show NdefX.TabN H P nm from hT _ hm)
  refine PySem.W.kla_eval hdef ?_
  rw [hq]
  have bP : s.heap.BuiltinsAt X.mg P := TB.bm.keeps I.bk
  have hP' : s.heap.get? P = some { cls := .none, data := .fields ps } := I.hok P _ hP
  have coN : ∀ (c : Addr) (q : Str) (ps : Array Value), LamX.CodeO c q ≠ .tbl ps := fun c q ps z => by unfold LamX.CodeO at z; cases z
  cases hc : codeAmong lpos ps.toList with
  | none =>
    refine PySem.W.kla_makeFunction (mg := X.mg) (c := c) (P := P) (ps := ps) (closure_ok hfree) I.ok.glob (I.mod.glob.keeps I.bk) hcode (TB.code.keeps I.bk) hP' ht hc TB.gP bP fun c' ctv h' tk hx hge hlt hrec htb => ?_
    obtain ⟨c2, oc, vs, t, e2, hoc, hd, hv⟩ := hrec
    cases e2
    have nC : H c' = none := I.hok.fresh hge
    have I1 := LamX.inv_table (t' := tk) (more := #[rawInt lpos.line, rawInt lpos.col, .ref c']) (h' := h') I hP (fun b o hb e => hx b o hb e) htb hge ⟨oc, vs, t, hoc, hd, hv⟩
    have hE : LamX.ExtN H (upd (upd H P (.tbl (ps ++ #[rawInt lpos.line, rawInt lpos.col, .ref c']))) c' (LamX.CodeO c' L.qual)) := fun b o e n => by
      rw [upd_ne (ne_of_none e nC), upd_ne (fun z => n ps (Option.some.inj (e.symm.trans (by rw [z]; exact hP))))]
      exact e
    have eL : (ps ++ #[rawInt lpos.line, rawInt lpos.col, .ref c']).toList = ps.toList ++ [rawInt lpos.line, rawInt lpos.col, .ref c'] := by simp
    have T1 : NdefX.TabsN T (upd (upd H P (.tbl (ps ++ #[rawInt lpos.line, rawInt lpos.col, .ref c']))) c' (LamX.CodeO c' L.qual)) := fun p hp => by
      by_cases hb : p.1 = P
      · rw [hu p hp hb, hb]
        refine ⟨_, by rw [upd_ne (ne_of_none hP nC), upd_same], by rw [eL]; exact PySem.TriplesOk_snoc _ _ _ _ ht, fun p' cv hcv => ?_⟩
        rw [eL] at hcv
        rcases NdefX.among_app2 _ ht hcv with z | ⟨z, z1, z2⟩
        · obtain ⟨c0, e1, e2⟩ := ha p' cv z
          exact ⟨c0, e1, hE _ _ e2 (coN _ _)⟩
        · refine ⟨c', z, ?_⟩
          rw [← z1, ← z2, hn]
          exact upd_same
      · obtain ⟨ps', a1, a2, a3⟩ := hT p hp
        refine ⟨ps', by rw [upd_ne (ne_of_none a1 nC), upd_ne hb]; exact a1, a2, fun p' cv hcv => ?_⟩
        obtain ⟨c0, e1, e2⟩ := a3 p' cv hcv
        exact ⟨c0, e1, hE _ _ e2 (coN _ _)⟩
    have nF := I1.hok.fresh (Nat.le_refl _)
    have I2 := inv_lam (L := L) (cl := cloFrom X.env.cells L.scope.names []) (c' := c') (t' := tk) (pm := (X.mg "__name__").getD .none) (ctv := ctv) I1
    refine h h'.objs.size c' _ _ I2 (fun b o e n => ?_) (fun b e => NdefX.upd_none (NdefX.upd_none (NdefX.upd_none e))) (T1.ext fun b o e => ?_) (I.hok.fresh (Nat.le_trans hge (Nat.le_of_lt hlt))) upd_same (.inl nC) ?_
    · have e1 := hE b o e n
      exact (upd_ne (ne_of_none e1 nF)).trans e1
    · exact (upd_ne (ne_of_none e nF)).trans e
    · exact (upd_ne (Nat.ne_of_lt hlt)).trans upd_same
  | some cv =>
    obtain ⟨c', e, hco⟩ := ha lpos cv hc
    subst e
    rw [hn] at hco
    refine PySem.W.kla_makeFunctionHit (mg := X.mg) (c := c) (P := P) (ps := ps) (closure_ok hfree) I.ok.glob (I.mod.glob.keeps I.bk) hcode (TB.code.keeps I.bk) hP' ht hc bP fun ctv h' tk hx hsz => ?_
    have I1 : Inv X pins σ H { s with heap := h', toks := tk } := I.kept hx
    have nF : H h'.objs.size = none := I1.hok.fresh (Nat.le_refl _)
    have I2 := inv_lam (L := L) (cl := cloFrom X.env.cells L.scope.names []) (c' := c') (t' := tk) (pm := (X.mg "__name__").getD .none) (ctv := ctv) I1
    refine h h'.objs.size c' _ _ I2 (fun b o e n => ?_) (fun b e => NdefX.upd_none e) (hT.ext fun b o e => ?_) nF upd_same (.inr hco) ?_
    · exact (upd_ne (ne_of_none e nF)).trans e
    · exact (upd_ne (ne_of_none e nF)).trans e
    · exact (upd_ne (ne_of_none hco nF)).trans hco
end
end DL
end
section
set_option Elab.async false
set_option linter.all false
set_option maxRecDepth 100000
set_option maxHeartbeats 2000000
set_option autoImplicit false
/-! DR: a lambda made and handed to a def, as its last argument. -/
namespace DL
open PySem PySem.Spec L2 PyProof.Rows
/-- from H1 to H2: the lambda L is made, at f -/
structure LamNew (T : List NdefX.NTab) (L : LF) (cl : List (Str × Addr)) (H1 H2 : Hp) (f c' : Addr) : Prop where
  n : LamX.ExtN H1 H2
  nn : ∀ b, H2 b = none → H1 b = none
  tabs : NdefX.TabsN T H2
  f1 : H1 f = none
  f2 : H2 f = some (LamO f L cl c')
  c1 : H1 c' = none ∨ H1 c' = some (LamX.CodeO c' L.qual)
  c2 : H2 c' = some (LamX.CodeO c' L.qual)
section
variable {X : Cx} {B : Bx} {e : Expr} {es : List Expr} {pos p lpos : Pos} {x : Str} {k n : Nat} {L : LF}
theorem pe_lamT {T : List NdefX.NTab} {nm : Nat → Nat → Str} {c P : Addr} (TB : LamX.TabB X.base X.mg c P) (hcode : X.env.code = .ref c) (hm : (P, nm) ∈ T) (hn : nm lpos.line lpos.col = L.qual) (hq : X.env.qual ++ "<lambda>" = L.qual) (hu : ∀ p ∈ T, p.1 = P → p.2 = nm)
    (hdef : defaultsOf L.params X.env = ([], [])) (hfree : ∀ y ∈ L.scope.names, y.2 = .free → X.env.scope.names.lookup y.1 = some .cell ∨ X.env.scope.names.lookup y.1 = some .free) :
    PE X (.Lambda L.params L.body L.scope lpos) (fun σ H Q => NdefX.TabsN T H ∧ ∀ f c' H1, LamNew T L (cloFrom X.env.cells L.scope.names []) H H1 f c' → Q (.ref f) H1) := by
  refine ⟨fun pins s σ H Q I h => ?_⟩
  obtain ⟨hT, h⟩ := h
  have hfr : ∀ y ∈ L.scope.names, y.2 = .free → ∃ c, X.env.cells.lookup y.1 = some c := fun y hy e => (hfree y hy e).elim (fun z => I.ok.has _ (.inl z)) fun z => I.ok.has _ (.inr z)
  have key := lam_make3 (E := X.xe) (Q := EP X pins σ Q) I TB hcode hm hn hq hu hT hdef hfr
  refine key fun f c' H1 s' I1 eN nn T1 f0 f1 c0 c1 => ⟨.ref f, H1, I1, rfl, h f c' H1 ⟨eN, nn, T1, f0, f1, c0, c1⟩⟩
/-- written arguments, the last a lambda -/
def liftAL (B : Bx) (L : LF) (cl : List (Str × Addr)) (n : Nat) (w : DL.Env → W (List D)) : TA := fun σ H Q => ∃ (ρ : DL.Env) (H0 : Hp) (QD : List D → Prop), Ok B ρ σ H0 H ∧ w ρ QD B.E ∧
  ∀ ds vs H0' H1 H2 f c', Ext B.G.T H0 H H0' H1 → Dens B.G H0' ds vs → vs.length = n → QD ds → LamNew B.G.T L cl H1 H2 f c' → Q (vs ++ [.ref f]) H2
theorem dal_lam {nm : Nat → Nat → Str} {c P : Addr} (TB : LamX.TabB X.base X.mg c P) (hcode : X.env.code = .ref c) (hm : (P, nm) ∈ B.G.T) (hn : nm lpos.line lpos.col = L.qual) (hq : X.env.qual ++ "<lambda>" = L.qual) (hu : ∀ p ∈ B.G.T, p.1 = P → p.2 = nm)
    (hdef : defaultsOf L.params X.env = ([], [])) (hfree : ∀ y ∈ L.scope.names, y.2 = .free → X.env.scope.names.lookup y.1 = some .cell ∨ X.env.scope.names.lookup y.1 = some .free)
    (hs : starEach [.Lambda L.params L.body L.scope lpos] X.env = (false, eval (.Lambda L.params L.body L.scope lpos) X.env) :: starEach [] X.env := by rfl) :
    PA X [.Lambda L.params L.body L.scope lpos] (liftAL B L (cloFrom X.env.cells L.scope.names []) 0 (fun _ => ret [])) :=
  PA.imp (pa_cons (pe_lamT TB hcode hm hn hq hu hdef hfree) pa_nil hs) fun σ H Q ⟨ρ, H0, QD, k, q, h⟩ => ⟨k.ext.tabs, fun f c' H1 l => h [] [] H0 H H1 f c' k.refl .nil rfl q l⟩
theorem dal_cons {cl : List (Str × Addr)} {we : DL.Env → W D} {w : DL.Env → W (List D)} (he : DE X B e we) (ha : PA X es (liftAL B L cl n w)) (hs : starEach (e :: es) X.env = (false, eval e X.env) :: starEach es X.env := by rfl) :
    PA X (e :: es) (liftAL B L cl (n + 1) (fun ρ => bnd (we ρ) fun d => bnd (w ρ) fun ds => ret (d :: ds))) := by
  refine PA.imp (pa_cons he ha hs) fun σ H Q ⟨ρ, H0, QD, k, q, h⟩ => ⟨ρ, H0, _, k, q, fun d v H1 H2 x dd q1 => ⟨ρ, H1, _, k.later x, q1, fun ds vs H3 H4 H5 f c' x2 d2 l q2 ln => ?_⟩⟩
  exact h (d :: ds) (v :: vs) H3 H4 H5 f c' (x.trans x2) (.cons (dd.same x2.z) d2) (by rw [List.length_cons, l]) q2 ln
/-- the captured slots -/
def rds : List Nat → DL.Env → W (List D)
  | [], _ => ret []
  | j :: js, ρ => bnd (rd ρ j) fun d => bnd (rds js ρ) fun ds => ret (d :: ds)
theorem rds_of {G : Gx} {B : Bx} {ρ : DL.Env} {σ : L2.St} {H0 H : Hp} (k : Ok B ρ σ H0 H) : ∀ {js : List Nat} {Q : List D → Prop} {E : DX → Prop}, rds js ρ Q E → ∃ ds vs, Q ds ∧ Dens B.G H0 ds vs ∧ js.map (NdefX.slotAt σ) = vs.map some
  | [], Q, E, h => ⟨[], [], h, .nil, rfl⟩
  | j :: js, Q, E, h => by
    obtain ⟨d, e, q⟩ := rd_of h
    obtain ⟨ds, vs, q, dd, es⟩ := rds_of (G := G) k q
    obtain ⟨v, e1, d1⟩ := k.at_ e
    exact ⟨d :: ds, v :: vs, q, .cons d1 dd, by rw [List.map_cons, List.map_cons, es, NdefX.slotAt_of e1]⟩
/-- f(.., lambda ..): js: where the captured names stand -/
theorem de_callL {j : Nat} {cl : List (Str × Addr)} {s : List D → W D} {w : DL.Env → W (List D)} {js : List Nat} (F : FnH X.prog X.w B.G X.mg X.base x (n + 1) k s) (hK : X.K = B.G.K) (hr : Room k X.A) (hg : Gl X x) (hfn : X.fn = fun _ => true)
    (hcl : cl = cloFrom X.env.cells L.scope.names []) (hL : B.G.lam j = L) (hfree : ∀ y ∈ L.scope.names, y.2 = .free → X.env.scope.names.lookup y.1 = some .cell ∨ X.env.scope.names.lookup y.1 = some .free) (hfr : ∀ y ∈ L.fr, (y, NameKind.free) ∈ L.scope.names) (hsub : ∀ y ∈ L.scope.names, y.2 = .free → y.1 ∈ L.fr)
    (hjs : js.map (fun j => X.N[j]?) = L.fr.map some) (ha : PA X (e :: es) (liftAL B L cl n w))
    (hdb : (x == ("__debug__" : Str)) = false := by decide) (he : starEach (e :: es) X.env = (false, eval e X.env) :: starEach es X.env := by rfl) (hpl : (backTo pos (starEach es X.env)).any (·.1) = false := by rfl) :
    DE X B (.Call (.Name x p) (e :: es) [] pos) (fun ρ => bnd (rds js ρ) fun cs => bnd (w ρ) fun ds => bnd (nox (s (ds ++ [.clo j cs]))) gNo) := by
  obtain ⟨g, fd, ps, h1, h2, h3, h4, h5⟩ := F.ex
  rw [← hK] at h3 h4
  refine ⟨fun pins s0 σ H Q I h => ?_⟩
  obtain ⟨ρ, H0, QD, kk, q, fin⟩ := h
  obtain ⟨cs, ws, q, dc, ejs⟩ := rds_of (G := B.G) kk q
  refine wpAny_Call_Name_kw (ld_glob I hg h2 ?_ hdb)
  refine PySem.W.callWith_K (h₀ := X.base) I.ok.mod.kin h3 (thn (ha.run pos pins s0 σ H (fun us H2 => ∃ (ds : List D) (vs : List V) (H0' H1 : Hp) (f c' : Addr), us = vs ++ [.ref f] ∧ Ext B.G.T H0 H H0' H1 ∧ Dens B.G H0' ds vs ∧ vs.length = n ∧ bnd (nox (s (ds ++ [.clo j cs]))) gNo QD B.E ∧ LamNew B.G.T L cl H1 H2 f c') I
    ⟨ρ, H0, _, kk, q, fun ds vs H0' H1 H2 f c' x dd l q1 ln => ⟨ds, vs, H0', H1, f, c', rfl, x, dd, l, q1, ln⟩⟩) fun us s1 ⟨vs', H2, I2, r, hq⟩ => ⟨I2.kIn, ?_⟩) he hpl
  obtain ⟨ds, vs, H0', H1, f, c', evs, x, dd, l, q1, ln⟩ := hq
  subst evs
  have CA := NdefX.cells_of I2 (NdefX.Caps.made (fr := L.fr) I2.ok hfree hfr hjs)
  rw [← hcl] at CA
  rw [ejs] at CA
  have hok2 : HOk X.prog X.w H2 s1.heap := I2.hok
  obtain ⟨Hp0, eHp⟩ : ∃ Hp0 : Hp, Hp0 = fun b => (s1.heap.get? b).map (PinO b) := ⟨_, rfl⟩
  have cel : ∀ b, InCl cl b → H2 b = none ∧ ∃ o v, s1.heap.get? b = some o ∧ o.data = .cell v := fun b ⟨y, hy⟩ => by
    obtain ⟨z1, v, o, z2, z3⟩ := CA.all y b hy
    exact ⟨z1, o, v, z2, z3⟩
  have pinAt : ∀ b, InCl cl b → ∃ o v, Hp0 b = some (PinO b o) ∧ s1.heap.get? b = some o ∧ o.data = .cell v := fun b hb => by
    obtain ⟨_, o, v, z2, z3⟩ := cel b hb
    exact ⟨o, v, by rw [eHp]; show (s1.heap.get? b).map (PinO b) = _; rw [z2]; rfl, z2, z3⟩
  have isx : ∀ b o, InCl cl b → Hp0 b = some o → isX o := fun b o hb e => by
    obtain ⟨o', v, e2, _⟩ := pinAt b hb
    rw [e] at e2
    cases e2
    exact ⟨_, rfl⟩
  have nocl1 : ∀ b o, H2 b = some o → ¬ InCl cl b := fun b o e z => by rw [(cel b z).1] at e; cases e
  -- the heap with the cells pinned
  obtain ⟨H3, eH3⟩ : ∃ H3, H3 = more (InCl cl) Hp0 H2 := ⟨_, rfl⟩
  have ok3 : HOk X.prog X.w H3 s1.heap := by
    rw [eH3]
    refine HOk.moreX hok2 (fun b hb => (cel b hb).1) fun b o hb e => ⟨isx b o hb e, ?_⟩
    obtain ⟨o', v, e2, e3, _⟩ := pinAt b hb
    rw [e] at e2
    cases e2
    exact pin_ok e3
  have fresh : ∀ b, InCl cl b → X.s_0.heap.objs.size ≤ b := fun b ⟨y, hy⟩ => by
    have hc : X.env.cells.lookup y = some b := by
      have := (NdefX.Caps.made (fr := L.fr) I2.ok hfree hfr hjs).sub y b
      rw [← hcl] at this
      exact this hy
    exact I2.ok.cab y b (by rw [hfn]) hc
  have nofr : ∀ b ∈ frs X.stack, ¬ InCl cl b := fun b hb z => by
    obtain ⟨_, o, v, z2, z3⟩ := cel b z
    rcases List.mem_cons.mp (I2.stkSub _ hb) with e | e
    · obtain ⟨m, ⟨ol, es', ep, e1, e2, _⟩, _⟩ := I2.loc
      rw [← e, z2] at e1
      cases e1
      rw [z3] at e2
      cases e2
    · obtain ⟨_, o', e1, _⟩ := I2.ok.funs.mem e
      exact absurd (Heap.lt_size e1) (Nat.not_lt.mpr (fresh b z))
  have e0 := I2.env0
  have e03 : Env0 X.prog X.w X.K X.mg X.base X.A X.stack s1 H3 := ⟨e0.frames, e0.mod, fun b o e => by
      obtain ⟨g1, g2⟩ := e0.bs b o e
      refine ⟨g1, ?_⟩
      rw [eH3]
      refine (more_out fun z => ?_).trans g2
      have lt1 : b < X.base.objs.size := Heap.lt_size e
      exact absurd (Nat.lt_of_lt_of_le lt1 I2.ok.bsz) (Nat.not_lt.mpr (fresh b z)), e0.bsz, e0.funs, fun b hb => by
      rw [eH3]
      exact (more_out (nofr b hb)).trans (e0.frf b hb), ok3, e0.bare⟩
  -- the data's heap, with the closure in it
  have hc'2 : ¬ InCl cl c' := nocl1 _ _ ln.c2
  have hf2 : ¬ InCl cl f := nocl1 _ _ ln.f2
  have z1n : ∀ b o, H0' b = some o → H2 b = some o := fun b o e => ln.n b o (x.zz b o e) fun ps z => x.nt b ps (by rw [e, z])
  have nocl0 : ∀ b o, H0' b = some o → ¬ InCl cl b := fun b o e => nocl1 b o (z1n b o e)
  have f0 : H0' f = none := x.zz.free ln.f1
  obtain ⟨Z3, eZ3⟩ : ∃ Z3 : Hp, Z3 = more (fun b => InCl cl b ∨ b = f ∨ b = c') H3 H0' := ⟨_, rfl⟩
  have smZ : Same H0' Z3 := fun b o e => by
    rw [eZ3]
    by_cases z : InCl cl b ∨ b = f ∨ b = c'
    · rw [more_in z, eH3]
      exact (more_out (nocl0 b o e)).trans (z1n b o e)
    · exact (more_out z).trans e
  have H3f : H3 f = some (LamO f L cl c') := by rw [eH3]; exact (more_out hf2).trans ln.f2
  have H3c : H3 c' = some (LamX.CodeO c' L.qual) := by rw [eH3]; exact (more_out hc'2).trans ln.c2
  have st3 : St0 B.G Z3 H3 := ⟨fun b o e => by
      rw [eZ3] at e
      by_cases z : InCl cl b ∨ b = f ∨ b = c'
      · rw [more_in z] at e; exact e
      · rw [more_out z] at e
        rw [eH3]
        exact (more_out fun y => z (.inl y)).trans (z1n b o e), ln.tabs.ext fun b o e => by
      rw [eH3]
      exact (more_out (nocl1 b o e)).trans e, fun b ps e => by
      rw [eZ3] at e
      by_cases z : InCl cl b ∨ b = f ∨ b = c'
      · rw [more_in z] at e
        rcases z with z | z | z
        · rw [eH3, more_in z] at e
          obtain ⟨_, y⟩ := isx b _ z e
          cases y
        · rw [z, H3f] at e; cases e
        · rw [z, H3c] at e; cases e
      · rw [more_out z] at e; exact x.nt b ps e⟩
  have hws : ws.length = L.fr.length := by
    have q := CA.len
    rw [List.length_map] at q
    exact q
  have clo : Den B.G Z3 (.clo j cs) (.ref f) := by
    simp only [Den]
    refine ⟨f, ws, rfl, ⟨cl, c', by rw [hL, eZ3, more_in (.inr (.inl rfl))]; exact H3f, by rw [hL, eZ3, more_in (.inr (.inr rfl))]; exact H3c, ?_, fun y d e => ?_, CA.inj⟩, (dc.same x.z).same smZ⟩
    · rw [hL]
      have go : ∀ (ys : List Str) (us : List V), us.length = ys.length → (∀ (i : Nat) (y : Str), ys[i]? = some y → ∃ c, cl.lookup y = some c ∧ ∀ v, us[i]? = some v → ∃ u, L2.RelV v u ∧ s1.heap.IsCell c (some u)) → CellsP Z3 cl ys us := by
        intro ys
        induction ys with
        | nil => intro us hl _; cases us with
          | nil => trivial
          | cons _ _ => cases hl
        | cons y ys ih => intro us hl hh; cases us with
          | nil => cases hl
          | cons v us =>
            refine ⟨?_, ih us (by simpa using hl) fun i y e => hh (i + 1) y (by simpa using e)⟩
            obtain ⟨c, e1, e2⟩ := hh 0 y rfl
            obtain ⟨u, ru, o, g1, g2⟩ := e2 v rfl
            refine ⟨c, o, u, e1, ?_, g2, ru⟩
            have hi : InCl cl c := ⟨y, e1⟩
            rw [eZ3, more_in (.inl hi), eH3, more_in hi, eHp]
            show (s1.heap.get? c).map (PinO c) = _
            rw [g1]
            rfl
      refine go _ _ hws fun i y e => ?_
      obtain ⟨c, g1, g2⟩ := CA.has i y e
      refine ⟨c, g1, fun v ev => g2 v ?_⟩
      rw [List.getElem?_map, ev]
      rfl
    · rw [hL]
      rw [hcl] at e
      rcases cloFrom_mem (PySem.mem_of_lookup e) with hm | ⟨hm, _⟩
      · cases hm
      · exact hsub _ hm rfl
  have dds : Dens B.G Z3 (ds ++ [.clo j cs]) (vs ++ [.ref f]) := (dd.same smZ).append (.cons clo .nil)
  have lps : (vs ++ [V.ref f]).length = n + 1 := by rw [List.length_append, l]; rfl
  have run := h5.run X.A X.stack s1 H3 ⟨us, []⟩ us (vs ++ [.ref f]) (fun v H4 => ∃ d H4z, Ext B.G.T Z3 H3 H4z H4 ∧ Den B.G H4z d v ∧ noClo d = true ∧ QD d) E0 hr (by rw [← hK]; exact e03) (by
      have hl2 : us.length = ps.length := by rw [h1, ← lps]; exact r.length.symm
      have := h4 s1 us I2.kIn (by simpa using hl2)
      simpa using this) r ⟨Z3, ds ++ [.clo j cs], (fun d => noClo d = true ∧ QD d), (fun _ => False), lps, st3, dds, (show s (ds ++ [.clo j cs]) (fun d => gNo d QD B.E) (fun _ => False) from q1), fun d v H4z H4 x4 d4 q4 => ⟨d, H4z, x4, d4, q4.1, q4.2⟩, fun _ _ _ _ _ _ _ z => z.elim⟩
  refine wpAny_call (codeAny_mono run fun r' s' hq => ?_)
  cases r' with
  | error e =>
    obtain ⟨_, _, _, _, _, _, _, _, _, _, _, _, z⟩ := hq
    exact z.elim
  | ok fl =>
    cases fl with
    | next => exact False.elim hq
    | brk => exact False.elim hq
    | cont => exact False.elim hq
    | ret u =>
      obtain ⟨v, H4, os, bare, un, ok4, rv, d, H4z, x4, d4, n4, q4⟩ := hq
      have pin4 : ∀ b, InCl cl b → ∃ o v, H4 b = some (PinO b o) ∧ s1.heap.get? b = some o ∧ o.data = .cell v := fun b hb => by
        obtain ⟨o, v, e1, e2, e3⟩ := pinAt b hb
        exact ⟨o, v, x4.n b _ (by rw [eH3]; exact (more_in hb).trans e1) (by intro _ z; cases z), e2, e3⟩
      have isx4 : ∀ b o, InCl cl b → H4 b = some o → isX o := fun b o hb e => by
        obtain ⟨o', v, e2, _⟩ := pin4 b hb
        rw [e] at e2
        cases e2
        exact ⟨_, rfl⟩
      have ok5 : HOk X.prog X.w (less (InCl cl) H4) s'.heap := HOk.lessX ok4 isx4
      have un5 : Un (frs X.stack) [] H2 (less (InCl cl) H4) s1.heap s'.heap := by
        have n23 : ∀ b, H2 b = none → ¬ InCl cl b → H3 b = none := fun b e z => by rw [eH3]; exact (more_out z).trans e
        have s23 : ∀ b o, H2 b = some o → H3 b = some o := fun b o e => by rw [eH3]; exact (more_out (nocl1 b o e)).trans e
        refine ⟨fun b o g e hb hx => ?_, fun b o g e hb hx => un.slot b o g (n23 b e (nofr b hb)) hb hx, fun b o g e hx => ?_, un.there, fun b xs e => ?_, fun b o v e => ?_, fun b ps e => ?_⟩
        · by_cases z : InCl cl b
          · obtain ⟨o', v, e1, e2, _⟩ := pin4 b z
            rw [g] at e2
            cases e2
            exact pin_at ok4 e1
          · exact un.keep b o g (n23 b e z) hb hx
        · by_cases z : InCl cl b
          · exact less_in z
          · exact (less_out z).trans (un.free b o g (n23 b e z) hx)
        · exact (less_out (nocl1 b _ e)).trans (un.tups b xs (s23 b _ e))
        · exact (less_out (nocl1 b _ e)).trans (un.frzs b o v (s23 b _ e))
        · obtain ⟨m, z⟩ := un.tbls b ps (s23 b _ e)
          exact ⟨m, (less_out (nocl1 b _ e)).trans z⟩
      refine I2.after (Q := Q) ⟨v, less (InCl cl) H4, os, bare, un5, ok5, rv, ?_⟩
      have h2n : ∀ b, H2 b = none → H b = none := fun b e => x.nn b (ln.nn b e)
      have smx : SameX H4z (more (fun b => InCl cl b ∨ b = f ∨ b = c') H0' H4z) := fun b o e hn => by
        by_cases z : InCl cl b ∨ b = f ∨ b = c'
        · exfalso
          apply hn
          have e3 : ∃ u, H3 b = some u ∧ isX u ∧ ∀ ps, u ≠ .tbl ps := by
            rcases z with z | z | z
            · obtain ⟨o', v, e1, _⟩ := pinAt b z
              exact ⟨_, by rw [eH3]; exact (more_in z).trans e1, ⟨_, rfl⟩, by intro _ z; cases z⟩
            · exact ⟨_, by rw [z]; exact H3f, ⟨_, rfl⟩, by intro _ z; cases z⟩
            · exact ⟨_, by rw [z]; exact H3c, ⟨_, rfl⟩, by intro _ z; cases z⟩
          obtain ⟨u, e3, e5, e6⟩ := e3
          have e4 := x4.n b u e3 e6
          have e7 := x4.zz b o e
          rw [e4] at e7
          cases e7
          exact e5
        · exact (more_out z).trans e
      refine fin d v (more (fun b => InCl cl b ∨ b = f ∨ b = c') H0' H4z) _ ⟨fun b o e nt => ?_, fun b e => ?_, fun b o e => ?_, fun b o e => ?_, fun b o e => ?_, fun p hp => ?_, fun b ps e => ?_⟩ (d4.sameX smx n4) q4
      · have e2 := ln.n b o (x.n b o e nt) nt
        have n2 := nocl1 b o e2
        exact (less_out n2).trans (x4.n b o (by rw [eH3]; exact (more_out n2).trans e2) nt)
      · by_cases z : InCl cl b
        · exact h2n b (cel b z).1
        · rw [less_out z] at e
          have e3 := x4.nn b e
          rw [eH3, more_out z] at e3
          exact h2n b e3
      · by_cases z : InCl cl b ∨ b = f ∨ b = c'
        · exact (more_in z).trans (x.z b o e)
        · exact (more_out z).trans (x4.z b o (by rw [eZ3]; exact (more_out z).trans (x.z b o e)))
      · by_cases z : InCl cl b ∨ b = f ∨ b = c'
        · rw [more_in z] at e
          have e2 := z1n b o e
          have n2 := nocl1 b o e2
          exact (less_out n2).trans (x4.n b o (by rw [eH3]; exact (more_out n2).trans e2) fun ps y => x.nt b ps (by rw [e, y]))
        · rw [more_out z] at e
          exact (less_out fun y => z (.inl y)).trans (x4.zz b o e)
      · by_cases z : InCl cl b ∨ b = f ∨ b = c'
        · rw [more_in z] at e
          exact x.fr b o e
        · rw [more_out z] at e
          rcases x4.fr b o e with y | y
          · rw [eZ3, more_out z] at y
            exact x.fr b o y
          · rw [eH3, more_out fun y => z (.inl y)] at y
            exact .inr (h2n b y)
      · obtain ⟨ps, t1, t2, t3⟩ := x4.tabs p hp
        refine ⟨ps, (less_out fun z => by obtain ⟨φ, y⟩ := isx4 _ _ z t1; cases y).trans t1, t2, fun pos cv hc => ?_⟩
        obtain ⟨c0, e1, e2⟩ := t3 pos cv hc
        refine ⟨c0, e1, (less_out fun z => ?_).trans e2⟩
        obtain ⟨o', v', e3, e4, e5⟩ := pin4 c0 z
        have g1 := pin_at ok4 e3
        obtain ⟨oc', vs', t', g2, g3, _⟩ := (ok4 c0 _ e2).1
        rw [g1] at g2
        cases g2
        rw [e5] at g3
        cases g3
      · by_cases z : InCl cl b ∨ b = f ∨ b = c'
        · rw [more_in z] at e; exact x.nt b ps e
        · rw [more_out z] at e; exact x4.nt b ps e
end
end DL
end
section
set_option Elab.async false
set_option linter.all false
set_option maxRecDepth 100000
set_option maxHeartbeats 2000000
set_option autoImplicit false
/-! DS1: slices, three names at once, aug, tuples repeated. -/
namespace DL
open PySem PySem.Spec L2 PyProof.Rows
/-! ### slices -/
def cutD (xs : List D) (lo hi : Option Int) : List D := (xs.drop (HT.sIx xs.length 0 lo)).take (HT.sIx xs.length xs.length hi - HT.sIx xs.length 0 lo)
theorem Dens.cut {G : Gx} {H : Hp} {xs : List D} {vs : List V} (h : Dens G H xs vs) (lo hi : Option Int) : Dens G H (cutD xs lo hi) (cutV vs lo hi) := by
  unfold cutD cutV
  rw [h.length]
  exact (h.drop _).take _
def sliceD (lo hi : Option Int) : D → W D
  | .lst xs => ret (.lst (cutD xs lo hi))
  | .tup xs => ret (.tup (cutD xs lo hi))
  | .scr ns => ret (.lst (cutD (ns.map D.int) lo hi))
  | _ => stk
section
variable {X : Cx} {B : Bx} {e : Expr} {we : DL.Env → W D} {pos p2 : Pos} {lo hi : Option Expr}
/-- a slice's bound -/
def liftO (B : Bx) (w : DL.Env → W (Option Int)) : TO := fun σ H Q => ∃ (ρ : DL.Env) (H0 : Hp) (QD : Option Int → Prop), Ok B ρ σ H0 H ∧ w ρ QD B.E ∧ ∀ o H0' H', Ext B.G.T H0 H H0' H' → QD o → Q o H'
abbrev DO (X : Cx) (B : Bx) (e : Option Expr) (w : DL.Env → W (Option Int)) : Prop := PO X e (liftO B w)
theorem PO.imp {e : Option Expr} {t t' : TO} (h : PO X e t) (i : ∀ σ H Q, t' σ H Q → t σ H Q) : PO X e t' := ⟨fun pins s σ H Q I q => h.run pins s σ H Q I (i σ H Q q)⟩
theorem do_none : DO X B none (fun _ => ret none) := PO.imp po_none fun σ H Q ⟨ρ, H0, QD, k, q, h⟩ => h none H0 H k.refl q
def intO : D → W (Option Int)
  | .int i => ret (some i)
  | _ => stk
theorem do_some (he : DE X B e we) : DO X B (some e) (fun ρ => bnd (we ρ) intO) := by
  refine PO.imp (po_some he) fun σ H Q ⟨ρ, H0, QD, k, q, h⟩ => ⟨ρ, H0, _, k, q, fun d v H1 H2 x dd q1 => ?_⟩
  cases d <;> first | exact (show False from q1).elim | skip
  exact ⟨_, den_int dd, h _ H1 H2 x q1⟩
theorem de_slice {wl wh : DL.Env → W (Option Int)} (hK : X.K = B.G.K) (he : DE X B e we) (hl : DO X B lo wl) (hh : DO X B hi wh) :
    DE X B (.Subscript e (.Slice lo hi none p2) pos) (fun ρ => bnd (we ρ) fun x => bnd (wl ρ) fun l => bnd (wh ρ) fun u => sliceD l u x) := by
  refine PE.imp (pe_slice (sl_list.or sl_tupA) he hl hh) fun σ H Q ⟨ρ, H0, QD, k, q, h⟩ => ⟨ρ, H0, _, k, q, fun d v H1 H2 x dd q1 => ⟨ρ, H1, _, k.later x, q1, fun l H3 H4 x2 q2 => ⟨ρ, H3, _, (k.later x).later x2, q2, fun u H5 H6 x3 q3 => ?_⟩⟩⟩
  have d3 := (dd.same x2.z).same x3.z
  cases d <;> first | exact (show False from q3).elim | skip
  · rename_i xs
    obtain ⟨a, us, e1, s1, d1⟩ := den_tup d3
    refine .inr ⟨a, us, e1, by rw [hK]; exact SqT.up x3.zz s1, fun hw => ?_, fun _ p hp => ?_⟩
    · refine h _ _ H5 H6 ((x.trans x2).trans x3) ?_ q3
      have e : cutD xs l u = xs := by
        unfold cutD
        rw [d1.length, hw.1, hw.2, ← d1.length]
        simp
      rw [e, ← e1]
      exact d3
    · have x4 := Ext.put x3.st hp (.tup (cutV us l u))
      exact h _ _ _ _ (((x.trans x2).trans x3).trans x4) (of_tup upd_same ((d1.same x4.z).cut l u)) q3
  · rename_i xs
    obtain ⟨a, us, e1, s1, d1⟩ := den_lst d3
    refine .inl ⟨a, us, e1, by rw [hK]; exact .of (x3.zz _ _ s1), fun p hp => ?_⟩
    have x4 := Ext.put x3.st hp (.lst (cutV us l u))
    exact h _ _ _ _ (((x.trans x2).trans x3).trans x4) (of_lst upd_same ((d1.same x4.z).cut l u)) q3
  · rename_i ns
    simp only [Den] at d3
    obtain ⟨a, e1, s1⟩ := d3
    refine .inl ⟨a, ns.map V.int, e1, by rw [hK]; exact SqL.same x3.zz s1, fun p hp => ?_⟩
    have x4 := Ext.put x3.st hp (.lst (cutV (ns.map V.int) l u))
    exact h _ _ _ _ (((x.trans x2).trans x3).trans x4) (of_lst upd_same ((Dens.of_ints ns).cut l u)) q3
/-! ### stores -/
theorem ds_par3 (i j l : Nat) {x y z : Str} {a b c : Expr} {w : DL.Env → W (List D)} {px py pz pt : Pos} {kt k2 : Nat} {pt2 : Pos} (hc : X.calm = true) (hN : X.N.Nodup) (ha : DA X B 3 [a, b, c] w) (hi : X.N[i]? = some x := by rfl) (hj : X.N[j]? = some y := by rfl) (hl : X.N[l]? = some z := by rfl)
    (hij : i ≠ j := by decide) (hil : i ≠ l := by decide) (hjl : j ≠ l := by decide)
    (hx : X.env.scope.names.lookup x = some .local := by rfl) (hy : X.env.scope.names.lookup y = some .local := by rfl) (hz : X.env.scope.names.lookup z = some .local := by rfl)
    (hw : swappedStores [.Tuple [.Name x px, .Name y py, .Name z pz] kt pt] (.Tuple [a, b, c] k2 pt2) X.env = pure (some [x, y, z]) := by rfl)
    (hs : swapsWithSole [.Tuple [.Name x px, .Name y py, .Name z pz] kt pt] (.Tuple [a, b, c] k2 pt2) pos.line X.env = pure false := by rfl) :
    DS X B (.Assign [.Tuple [.Name x px, .Name y py, .Name z pz] kt pt] (.Tuple [a, b, c] k2 pt2) pos) (fun ρ => bnd (w ρ) fun ds => match ds with | [d, d', d2] => ret (.nx (((ρ.set i (.d d)).set j (.d d')).set l (.d d2))) | _ => stk) := by
  refine PS.imp (ps_par3 hc hN hi hj hl hij hil hjl hx hy hz ha hw hs) fun D σ H ⟨ρ, H0, QO, k, q, h, _⟩ => ⟨ρ, H0, _, k, q, fun ds vs H1 H2 x dd l q1 => ?_⟩
  match ds, q1 with
  | [d, d', d2], q1 =>
    obtain ⟨v, ws, e1, d1, t1⟩ := dd.uncons
    obtain ⟨v', ws', e2, d2', t2⟩ := t1.uncons
    obtain ⟨v2, ws2, e3, d3, t3⟩ := t2.uncons
    rw [t3.unnil] at e3
    subst e3
    subst e2
    exact ⟨v, v', v2, e1, h _ _ H1 H2 ((((k.later x).putD d1).putD d2').putD d3) x.z q1⟩
  | [], q1 => exact (show False from q1).elim
  | [_], q1 => exact (show False from q1).elim
  | [_, _], q1 => exact (show False from q1).elim
  | _ :: _ :: _ :: _ :: _, q1 => exact (show False from q1).elim
/-- name op= e of ints -/
def augT (g : Int → Int → Int) : D → D → W D := onI2 fun i j => ret (.int (g i j))
end
end DL
end
section
set_option Elab.async false
set_option linter.all false
set_option maxRecDepth 100000
set_option maxHeartbeats 2000000
set_option autoImplicit false
/-! DT1: an own list's item set; the hand. -/
namespace DL
open PySem PySem.Spec L2 PyProof.Rows
section
variable {X : Cx} {B : Bx} {e ei : Expr} {es : List Expr} {we wi : DL.Env → W D} {pos p1 p2 : Pos} {x : Str}
def setAt (i : Nat) (ρ : DL.Env) (z : Option Addr × List D) (d : D) : D → W Out
  | .int k => bnd (optW (ixN z.2.length k)) fun j => ret (.nx (ρ.set i (.own (.lst z.1 (z.2.set j d)))))
  | _ => stk
/-- x[ei] = e -/
theorem ds_setItem (i : Nat) (he : DE X B e we) (hi : DE X B ei wi) (hN : X.N[i]? = some x := by rfl) (hv : Vis X.env.scope x := by first | exact Or.inl rfl | exact Or.inr (Or.inl rfl) | exact Or.inr (Or.inr rfl)) (hd : (x == ("__debug__" : Str)) = false := by decide)
    (hcd : (x == ("__classdict__" : Str)) = false := by decide)
    (ha : ∀ v, assign (.Subscript (.Name x p1) ei p2) X.env v = (do
      let ov ← holding [v] (eval (.Name x p1) X.env)
      let iv ← holding [v, ov] (eval ei X.env)
      standAt p2
      holding [v, ov, iv] (setItem ov iv v)
      release [v, ov, iv] []) := by intro _; rfl)
    (hs : swapsWithSole [.Subscript (.Name x p1) ei p2] e pos.line X.env = pure false := by rfl) (hw : swappedStores [.Subscript (.Name x p1) ei p2] e X.env = pure none := by rfl)
    (h1 : (assignEach [.Subscript (.Name x p1) ei p2] X.env).map (·.2) = [assign (.Subscript (.Name x p1) ei p2) X.env] := by rfl) :
    DS X B (.Assign [.Subscript (.Name x p1) ei p2] e pos) (fun ρ => bnd (we ρ) fun d => bnd (ownL i ρ) fun z => bnd (wi ρ) fun k => setAt i ρ z d k) := by
  refine PS.imp (ps_asg he (pg_sub (pe_var hN hv hd hcd) hi set_list ha) hs hw h1) fun D σ H ⟨ρ, H0, QO, k, q, h, _⟩ => ⟨ρ, H0, _, k, q, fun d v H1 H2 x dd q1 => ?_⟩
  obtain ⟨oa, ds, z, q⟩ := ownL_of q1
  have k2 := k.later x
  obtain ⟨a, e1, h1, h2, ha, vs, h3, h4⟩ := k2.own_at z
  refine ⟨.ref a, e1, ρ, H1, _, k2, q, fun dk vk H3 H4 x2 dk' q2 => ?_⟩
  cases dk <;> first | exact (show False from q2).elim | skip
  rename_i kk
  obtain ⟨j, ej, q3⟩ := optW_of q2
  have k3 := k2.later x2
  have h3' : H4 a = some (.lst vs) := x2.n _ _ h3 fun _ z => by cases z
  have d4 := h4.same x2.z
  refine ⟨a, vs, kk, j, rfl, den_int dk', h3', by rw [← h4.length]; exact ej, ?_⟩
  exact h _ σ H3 _ (k3.own (o' := .lst oa (ds.set j d)) z e1 ⟨ha, _, upd_same, d4.set (dd.same x2.z) j⟩) (x.z.trans x2.z) q3
/-! ### retracking -/
theorem HOk_re {P : Program} {w : World} {H : Hp} {h : Heap} {a : Addr} {xs : List V} {o : HO} (x : HOk P w H h) (e : H a = some (.lst xs)) (n : ObjOk P w (upd H a o) h a o) : HOk P w (upd H a o) h := fun b u eb => by
  by_cases z : b = a
  · subst z; rw [upd_same] at eb; cases eb; exact n
  · rw [upd_ne z] at eb
    exact (x b u eb).stay (fun _ _ _ q => q) (fun d q => by rw [upd_ne (fun z => by rw [z, e] at q; cases q)]; exact q) fun d ys q => by rw [upd_ne (fun z => by rw [z, e] at q; cases q)]; exact q
theorem Un_re {fs ex : List Addr} {H : Hp} {h : Heap} {a : Addr} {xs : List V} {o : HO} (e : H a = some (.lst xs)) : Un fs ex H (upd H a o) h h := by
  have n : ∀ b u, H b = some u → (∀ xs, u ≠ .lst xs) → b ≠ a := fun b u eb hu z => by rw [z, e] at eb; cases eb; exact hu _ rfl
  exact ⟨fun b o q _ _ _ => q, fun b o q _ _ _ => ⟨o.slots, q⟩, fun b o q eb _ => by rw [upd_ne (fun z => by rw [z, e] at eb; cases eb)]; exact eb, fun b o q _ => ⟨o, q⟩, fun b xs q => by rw [upd_ne (n b _ q (by intro _ z; cases z))]; exact q,
    fun b o u q => by rw [upd_ne (n b _ q (by intro _ z; cases z))]; exact q, fun b ps q => ⟨#[], by rw [upd_ne (n b _ q (by intro _ z; cases z)), q]; simp⟩⟩
theorem vals5 {v1 v2 v3 v4 v5 : V} {us : List Value} (h : Vals [v1, v2, v3, v4, v5] us) : ∃ u1 u2 u3 u4 u5, us = [u1, u2, u3, u4, u5] ∧ L2.RelV v1 u1 ∧ L2.RelV v2 u2 ∧ L2.RelV v3 u3 ∧ L2.RelV v4 u4 ∧ L2.RelV v5 u5 := by
  cases h with
  | cons a h => cases h with
    | cons b h => cases h with
      | cons c h => cases h with
        | cons d h => cases h with
          | cons e h => cases h; exact ⟨_, _, _, _, _, rfl, a, b, c, d, e⟩
theorem hnd_ok {P : Program} {w : World} {H H' : Hp} {h : Heap} {a c : Addr} {i : Nat} {g m k : Int} {n : Nat} (x : HOk P w H h) (e : H a = some (.lst [.ref c, .int i, .int g, .int m, .int k])) (h1 : i ≤ n) (h2 : 0 ≤ g) (h3 : 0 ≤ m) (h4 : 0 ≤ k) (h5 : m < 2147483648) : ObjOk P w H' h a (HndO a c n) := by
  obtain ⟨_, its, q, r, ho⟩ := x a _ e
  obtain ⟨u1, u2, u3, u4, u5, rfl, r1, r2, r3, r4, r5⟩ := vals5 r
  cases r1
  obtain ⟨t2, rfl⟩ := r2
  obtain ⟨t3, rfl⟩ := r3
  obtain ⟨t4, rfl⟩ := r4
  obtain ⟨t5, rfl⟩ := r5
  exact ⟨⟨i, g, m, k, t2, t3, t4, t5, q, ho, h1, h2, h3, h4, h5⟩, ⟨_, ho⟩, fun h1 h2 ⟨i, g, m, k, t1, t2, t3, t4, q, z, r⟩ st => ⟨i, g, m, k, t1, t2, t3, t4, q, st _ z, r⟩⟩
/-- the hand as it is made -/
def handD : List D → W D
  | [.lst xs, .int i, .int g, .int m, .int k] => match intsD xs with
    | some ns => grd ((∀ n ∈ ns, 0 ≤ n) ∧ 0 ≤ i ∧ i ≤ ns.length ∧ 0 ≤ g ∧ 0 ≤ m ∧ 0 ≤ k ∧ m < 2147483648) (ret .hnd)
    | none => stk
  | _ => stk
theorem de_hand {n : Nat} {w : DL.Env → W (List D)} (h : DA X B n es w) (hn : n ≤ 1000 := by decide) : DE X B (.List es pos) (fun ρ => bnd (w ρ) handD) := by
  refine ⟨fun pins s σ H Q I hq => ?_⟩
  obtain ⟨ρ, H0, QD, k, q, fin⟩ := hq
  have run := (dn_lst (pos := pos) h hn).run pins s σ H (fun v H3 => ∃ (ds : List D) (vs : List V) (p : Addr) (H1 H2 : Hp), v = .ref p ∧ Ext B.G.T H0 H H1 H2 ∧ H2 p = none ∧ H3 p = some (.lst vs) ∧ Dens B.G H1 ds vs ∧ Ext B.G.T H1 H2 H1 H3 ∧ H1 p = none ∧ handD ds QD B.E) I
    ⟨ρ, H0, _, k, q, fun ds vs p H1 H2 H3 x hn hp dd x2 h0 q1 => ⟨ds, vs, p, H1, H2, rfl, x, hn, hp, dd, x2, h0, q1⟩⟩
  refine wpAny_mono run (fun u s' z => ?_) fun _ _ z => z
  obtain ⟨v, H3, I3, rv, ds, vs, p, H1, H2, rfl, x, hn', hp, dd, x2, h0, q1⟩ := z
  match ds, q1, dd with
  | [.lst xs, .int i, .int g, .int m, .int kk], q1, dd =>
    obtain ⟨v1, w1, e1, d1, t1⟩ := dd.uncons
    obtain ⟨v2, w2, e2, d2, t2⟩ := t1.uncons
    obtain ⟨v3, w3, e3, d3, t3⟩ := t2.uncons
    obtain ⟨v4, w4, e4, d4, t4⟩ := t3.uncons
    obtain ⟨v5, w5, e5, d5, t5⟩ := t4.uncons
    rw [t5.unnil] at e5
    rw [den_int d2] at e2
    rw [den_int d3] at e3
    rw [den_int d4] at e4
    rw [den_int d5] at e5
    subst e5 e4 e3 e2 e1
    obtain ⟨c, us, ev, s1, dxs⟩ := den_lst d1
    subst ev
    have q2 : (match intsD xs with | some ns => grd ((∀ n ∈ ns, 0 ≤ n) ∧ 0 ≤ i ∧ i ≤ ns.length ∧ 0 ≤ g ∧ 0 ≤ m ∧ 0 ≤ kk ∧ m < 2147483648) (ret D.hnd) | none => stk) QD B.E := q1
    cases ei : intsD xs with
    | none => rw [ei] at q2; exact (show False from q2).elim
    | some ns =>
      rw [ei] at q2
      obtain ⟨⟨b0, b1, b2, b3, b4, b5, b6⟩, q3⟩ := q2
      have exs : xs = ns.map D.int := intsD_eq ei
      rw [exs] at dxs
      have eus := dxs.ints
      obtain ⟨j, rfl⟩ : ∃ j : Nat, i = (j : Int) := ⟨i.toNat, by omega⟩
      have ob : ObjOk X.prog X.w (upd H3 p (HndO p c ns.length)) s'.heap p (HndO p c ns.length) := hnd_ok I3.hok hp (by omega) b3 b4 b5 b6
      have I4 := I3.un (h' := s'.heap) (t' := s'.toks) (Un_re (o := HndO p c ns.length) hp) (HOk_re I3.hok hp ob)
      refine ⟨.ref p, _, I4, rv, ?_⟩
      have sm : Same H1 (upd H1 p (HndO p c ns.length)) := fun b u e => by rw [upd_ne (ne_of_none e h0)]; exact e
      have nl : ∀ b o, H3 b = some o → (∀ xs, o ≠ .lst xs) → b ≠ p := fun b o e hu z => by rw [z, hp] at e; cases e; exact hu _ rfl
      refine fin .hnd _ (upd H1 p (HndO p c ns.length)) _ (x.trans ⟨fun b o e nt => ?_, fun b e => x2.nn b (NdefX.upd_none e), sm, fun b o e => ?_, fun b o e => ?_, fun q hq => ?_, x2.nt.upd (by intro _ z; cases z)⟩) ?_ q3
      · rw [upd_ne (ne_of_none e hn')]; exact x2.n b o e nt
      · by_cases z : b = p
        · rw [z, upd_same] at e ⊢; exact e
        · rw [upd_ne z] at e ⊢; exact x2.zz b o e
      · by_cases z : b = p
        · rw [z]; exact .inr hn'
        · rw [upd_ne z] at e; exact .inl e
      · obtain ⟨ps, t1, t2, t3⟩ := x2.tabs q hq
        refine ⟨ps, by rw [upd_ne (nl _ _ t1 (by intro _ z; cases z))]; exact t1, t2, fun pos cv hc => ?_⟩
        obtain ⟨c0, g1, g2⟩ := t3 pos cv hc
        exact ⟨c0, g1, by rw [upd_ne (nl _ _ g2 (by intro _ z; cases z))]; exact g2⟩
      · simp only [Den]
        refine ⟨p, rfl, c, ns, upd_same, ?_, b0⟩
        rw [← eus]
        exact sm _ _ s1
end
end DL
end
section
set_option Elab.async false
set_option linter.all false
set_option maxRecDepth 100000
set_option maxHeartbeats 2000000
set_option autoImplicit false
/-! DT2: the draw from a hand. -/
namespace DL
open PySem PySem.Spec L2 PyProof.Rows
section
variable {X : Cx} {B : Bx} {e ei : Expr} {we wi : DL.Env → W D} {pos p1 p2 p3 : Pos} {x : Str}
structure HndS where
  a : Addr
  c : Addr
  ns : List Int
  xs : List Int
def ownH (i : Nat) (ρ : DL.Env) : W HndS := match ρ[i]? with
  | some (.own (.hnd a c ns xs)) => ret ⟨a, c, ns, xs⟩
  | _ => stk
theorem ownH_of {i : Nat} {ρ : DL.Env} {Q : HndS → Prop} {E : DX → Prop} (h : ownH i ρ Q E) : ∃ a c ns xs, ρ[i]? = some (.own (.hnd a c ns xs)) ∧ Q ⟨a, c, ns, xs⟩ := by
  unfold ownH at h
  cases e : ρ[i]? with
  | none => rw [e] at h; exact (show False from h).elim
  | some s =>
    rw [e] at h
    cases s with
    | own o =>
      cases o with
      | hnd a c ns xs => exact ⟨a, c, ns, xs, rfl, h⟩
      | dic _ _ => exact (show False from h).elim
      | dicT _ _ => exact (show False from h).elim
      | dicF _ _ => exact (show False from h).elim
      | lst _ _ => exact (show False from h).elim
      | ins _ _ _ => exact (show False from h).elim
    | d x => exact (show False from h).elim
    | un => exact (show False from h).elim
    | exc x a => exact (show False from h).elim
def hixD (z : HndS) : Nat → W D
  | 0 => ret (.lst (z.ns.map D.int))
  | k + 1 => optW (z.xs[k]?.map D.int)
theorem atI_nat {α : Type} {xs : List α} {k : Nat} {x : α} (h : xs[k]? = some x) : L2.atI xs (k : Int) = some x := by
  have hl : k < xs.length := (List.getElem?_eq_some_iff.mp h).1
  unfold L2.atI ixN
  rw [if_pos (by omega), if_pos (by omega)]
  exact h
/-- hand[k], k written -/
theorem de_hix (i : Nat) {k j : Nat} (hK : X.K = B.G.K) (hN : X.N[i]? = some x := by rfl) (hv : Vis X.env.scope x := by first | exact Or.inl rfl | exact Or.inr (Or.inl rfl) | exact Or.inr (Or.inr rfl)) (hd : (x == ("__debug__" : Str)) = false := by decide)
    (hcd : (x == ("__classdict__" : Str)) = false := by decide) (hs : PlainIx (.Constant (.int (k : Int)) j p2) := by exact fun _ _ => rfl) : DE X B (.Subscript (.Name x p1) (.Constant (.int (k : Int)) j p2) pos) (fun ρ => bnd (ownH i ρ) fun z => hixD z k) := by
  refine PE.imp (pe_ix ix_list (pe_var hN hv hd hcd) pe_int hs) fun σ H Q ⟨ρ, H0, QD, kk, q, h⟩ => ?_
  obtain ⟨a, c, ns, xs, z, q⟩ := ownH_of q
  obtain ⟨a', e1, h1, h2, h0, h3, h4⟩ := kk.own_at z
  subst h0
  cases k with
  | zero => exact ⟨.ref a, e1, a, _, 0, .ref c, rfl, rfl, .of h3, atI_nat (k := 0) rfl, h _ _ H0 H kk.refl (of_lst h4 (Dens.of_ints ns)) q⟩
  | succ k =>
    obtain ⟨d, ed, q⟩ := optW_of q
    cases w : xs[k]? with
    | none => rw [w] at ed; cases ed
    | some m =>
      rw [w] at ed
      cases ed
      refine ⟨.ref a, e1, a, _, _, .int m, rfl, rfl, .of h3, atI_nat (k := k + 1) (by rw [List.getElem?_cons_succ, List.getElem?_map, w]; rfl), h _ _ H0 H kk.refl of_int q⟩
def hsetD (i : Nat) (ρ : DL.Env) (z : HndS) (k : Nat) : D → W Out
  | .int m => grd (k < z.xs.length) (ret (.nx (ρ.set i (.own (.hnd z.a z.c z.ns (z.xs.set k m))))))
  | _ => stk
/-- hand[k+1] = e -/
theorem ds_hset (i : Nat) {k j : Nat} (he : DE X B e we) (hN : X.N[i]? = some x := by rfl) (hv : Vis X.env.scope x := by first | exact Or.inl rfl | exact Or.inr (Or.inl rfl) | exact Or.inr (Or.inr rfl)) (hd : (x == ("__debug__" : Str)) = false := by decide)
    (hcd : (x == ("__classdict__" : Str)) = false := by decide)
    (ha : ∀ v, assign (.Subscript (.Name x p1) (.Constant (.int ((k + 1 : Nat) : Int)) j p3) p2) X.env v = (do
      let ov ← holding [v] (eval (.Name x p1) X.env)
      let iv ← holding [v, ov] (eval (.Constant (.int ((k + 1 : Nat) : Int)) j p3) X.env)
      standAt p2
      holding [v, ov, iv] (setItem ov iv v)
      release [v, ov, iv] []) := by intro _; rfl)
    (hs : swapsWithSole [.Subscript (.Name x p1) (.Constant (.int ((k + 1 : Nat) : Int)) j p3) p2] e pos.line X.env = pure false := by rfl) (hw : swappedStores [.Subscript (.Name x p1) (.Constant (.int ((k + 1 : Nat) : Int)) j p3) p2] e X.env = pure none := by rfl)
    (h1 : (assignEach [.Subscript (.Name x p1) (.Constant (.int ((k + 1 : Nat) : Int)) j p3) p2] X.env).map (·.2) = [assign (.Subscript (.Name x p1) (.Constant (.int ((k + 1 : Nat) : Int)) j p3) p2) X.env] := by rfl) :
    DS X B (.Assign [.Subscript (.Name x p1) (.Constant (.int ((k + 1 : Nat) : Int)) j p3) p2] e pos) (fun ρ => bnd (we ρ) fun d => bnd (ownH i ρ) fun z => hsetD i ρ z k d) := by
  refine PS.imp (ps_asg he (pg_sub (pe_var hN hv hd hcd) pe_int set_list ha) hs hw h1) fun D σ H ⟨ρ, H0, QO, kk, q, h, _⟩ => ⟨ρ, H0, _, kk, q, fun d v H1 H2 x dd q1 => ?_⟩
  obtain ⟨a, c, ns, xs, z, q⟩ := ownH_of q1
  cases d <;> first | exact (show False from q).elim | skip
  rename_i m
  obtain ⟨hl, q⟩ := q
  have k2 := kk.later x
  obtain ⟨a', e1, h1, h2, h0, h3, h4⟩ := k2.own_at z
  subst h0
  simp only at hl q
  have hix : ixN (V.ref c :: xs.map V.int).length ((k + 1 : Nat) : Int) = some (k + 1) := by
    unfold ixN
    rw [if_pos (by omega), if_pos (by rw [List.length_cons, List.length_map]; omega)]
    rfl
  refine ⟨.ref a, e1, a, _, _, k + 1, rfl, rfl, h3, hix, ?_⟩
  refine h _ σ H1 _ (k2.own (o' := .hnd a c ns (xs.set k m)) z e1 ⟨rfl, ?_, h4⟩) x.z q
  rw [upd_same, List.set_cons_succ, den_int dd, List.map_set]
end
/-! ### the def -/
def drawS : List D → W D
  | [.hnd, .int m] => grd (0 < m ∧ m < 2 ^ 200) (anyW fun d => ∃ r, d = .int r ∧ 0 ≤ r ∧ r < m)
  | _ => stk
theorem draw_of {P : Program} {w : World} {G : Gx} {mg : Str → Option Value} {base : Heap} {x qual : Str} {pr : Arguments} {body : List Stmt} {sc : Scope} {f : Addr} {fd : FuncData} {N : List Str} {p1 p2 : Str} {k : Nat}
    (F : FunD G.K x qual pr body sc [] [] f fd) (S : FnScope N [p1, p2] sc) (hm : mg x = some (.ref f)) (hb : BindsBy x qual pr body sc [p1, p2]) (hn : 2 ≤ N.length)
    (hbody : ∀ (cdv : Value) (A : Around) (outer : List PySem.Env) (s0 : Shared) (H He Z : Hp), Room k (A.deeper (PyProof.Rows.envOfC qual sc s0.heap.objs.size f cdv)) →
      ∃ wb, DSs (cxOf (L2.CX P w) P w G.K mg base N qual sc f cdv A outer s0 H E0) ⟨G, He, Z, fun _ => False, E0⟩ body wb ∧ ∀ (a c : Addr) (ns : List Int) (i : Nat) (g m kk many : Int) (Q : Out → Prop), (∀ n ∈ ns, 0 ≤ n) → i ≤ ns.length → 0 ≤ g → 0 ≤ m → 0 ≤ kk → m < 2147483648 → 0 < many → many < 2 ^ 200 →
        (∀ (r : Int) (i' : Nat) (g' m' kk' : Int) (ρ : DL.Env), 0 ≤ r → r < many → i' ≤ ns.length → 0 ≤ g' → 0 ≤ m' → 0 ≤ kk' → m' < 2147483648 → ρ[0]? = some (.own (.hnd a c ns [(i' : Int), g', m', kk'])) → Q (.rt (.int r) ρ)) →
        wb (.own (.hnd a c ns [(i : Int), g, m, kk]) :: .d (.int many) :: List.replicate (N.length - 2) .un) Q (fun _ => False)) :
    FnH P w G mg base x 2 (k + 1) drawS := by
  -- the body's own promise
  obtain ⟨spB, eB⟩ : ∃ spB : Sp, spB = fun vs H Q E => E = E0 ∧ ∃ (a c : Addr) (ns : List Int) (i : Nat) (g m kk many : Int) (He Z : Hp), vs = [.ref a, .int many] ∧ (∀ n ∈ ns, 0 ≤ n) ∧ i ≤ ns.length ∧ 0 ≤ g ∧ 0 ≤ m ∧ 0 ≤ kk ∧ m < 2147483648 ∧ 0 < many ∧ many < 2 ^ 200 ∧
      He a = none ∧ Z a = none ∧ H a = some (.lst (.ref c :: [(i : Int), g, m, kk].map V.int)) ∧ Z c = some (.lst (ns.map V.int)) ∧ Ext G.T Z He Z H ∧
      (∀ (r : Int) (i' : Nat) (g' m' kk' : Int) (H0' H' : Hp), 0 ≤ r → r < many → i' ≤ ns.length → 0 ≤ g' → 0 ≤ m' → 0 ≤ kk' → m' < 2147483648 → H' a = some (.lst (.ref c :: [(i' : Int), g', m', kk'].map V.int)) → H0' a = none → Ext G.T Z He H0' H' → Q (.int r) H') := ⟨_, rfl⟩
  have FB : FnOk P w G.K mg base (L2.CX P w) (k + 1) f fd [p1, p2] spB := by
    refine funD_ok F S (fun vs H Q E h => ?_) fun cdv A outer s0 H vs Q E hr h => ?_
    · rw [eB] at h
      obtain ⟨_, a, c, ns, i, g, m, kk, many, He, Z, e, _⟩ := h
      rw [e]
      rfl
    · rw [eB] at h
      obtain ⟨eE, a, c, ns, i, g, m, kk, many, He, Z, e, b1, b2, b3, b4, b5, b6, b7, b7', hHe, hZ, hH, hc, hx, fin⟩ := h
      subst eE
      obtain ⟨wb, h1, h2⟩ := hbody cdv A outer s0 H He Z hr
      refine ⟨_, h1, _, Z, _, (?_ : Ok ⟨G, He, Z, fun _ => False, E0⟩ (.own (.hnd a c ns [(i : Int), g, m, kk]) :: .d (.int many) :: List.replicate (N.length - 2) .un) (start N vs) Z H), h2 a c ns i g m kk many (fun o => ∃ (r : Int) (i' : Nat) (g' m' kk' : Int) (ρ : DL.Env), o = .rt (.int r) ρ ∧ 0 ≤ r ∧ r < many ∧ i' ≤ ns.length ∧ 0 ≤ g' ∧ 0 ≤ m' ∧ 0 ≤ kk' ∧ m' < 2147483648 ∧ ρ[0]? = some (.own (.hnd a c ns [(i' : Int), g', m', kk']))) b1 b2 b3 b4 b5 b6 b7 b7'
        (fun r i' g' m' kk' ρ c1 c2 c3 c4 c5 c6 c7 c8 => ⟨r, i', g', m', kk', ρ, rfl, c1, c2, c3, c4, c5, c6, c7, c8⟩), ?_, ?_, ?_, ?_⟩
      · have es : start N vs = some (.ref a) :: some (.int many) :: List.replicate (N.length - 2) none := by rw [e]; rfl
        rw [es]
        refine ⟨hx, by simp, fun j s ej => ?_, fun j l o p b e1 e2 e3 e4 => ?_⟩
        · match j, ej with
          | 0, ej =>
            cases ej
            exact ⟨_, rfl, a, rfl, hHe, hZ, rfl, hH, hc⟩
          | 1, ej =>
            cases ej
            exact ⟨_, rfl, _, rfl, of_int⟩
          | j + 2, ej =>
            have ej' : (List.replicate (N.length - 2) Sl.un)[j]? = some s := by simpa using ej
            have hl := (List.getElem?_eq_some_iff.mp ej').1
            have he := (List.getElem?_eq_some_iff.mp ej').2
            rw [List.getElem_replicate] at he
            subst he
            refine ⟨none, ?_, trivial⟩
            show (List.replicate (N.length - 2) (none : Option V))[j]? = _
            rw [List.getElem?_replicate, if_pos (by simpa using hl)]
        · have no : ∀ (j : Nat) (p : OD), (Sl.own (.hnd a c ns [(i : Int), g, m, kk]) :: Sl.d (.int many) :: List.replicate (N.length - 2) Sl.un)[j]? = some (.own p) → j = 0 := fun j p ej => by
            match j, ej with
            | 0, _ => rfl
            | 1, ej => cases ej
            | j + 2, ej =>
              have ej' : (List.replicate (N.length - 2) Sl.un)[j]? = some (.own p) := by simpa using ej
              have he := (List.getElem?_eq_some_iff.mp ej').2
              rw [List.getElem_replicate] at he
              cases he
          rw [no j o e1, no l p e2]
      · intro ρ' σ' H0' H' k' _ q'
        obtain ⟨_, _, _, _, _, _, z, _⟩ := q'
        cases z
      · intro d v ρ' σ' H0' H' k' d' q'
        obtain ⟨r, i', g', m', kk', ρ, z, c1, c2, c3, c4, c5, c6, c7, c8⟩ := q'
        cases z
        rw [den_int d']
        obtain ⟨a', e1, r1, r2, r3, r4, r5⟩ := k'.own_at c8
        subst r3
        exact fin r i' g' m' kk' H0' H' c1 c2 c3 c4 c5 c6 c7 r4 r2 k'.ext
      · intro ρ' σ' H0' H' k' _ q'
        obtain ⟨_, _, _, _, _, _, z, _⟩ := q'
        cases z
      · intro ρ' σ' H0' H' k' _ q'
        obtain ⟨_, _, _, _, _, _, z, _⟩ := q'
        cases z
  refine ⟨f, fd, [p1, p2], rfl, hm, F.kp, F.bindsN hb, fun vs H Q E ⟨_, _, _, _, h, _⟩ => h, fun A outer s H args us vs Q E hr e0 hbd rv hsp => ?_⟩
  obtain ⟨H0, ds, QD, ED, l, st, dd, q, fin, _⟩ := hsp
  match ds, q, dd with
  | [.hnd, .int many], q, dd =>
    obtain ⟨⟨b7, b7'⟩, q⟩ := q
    obtain ⟨v1, w1, e1, d1, t1⟩ := dd.uncons
    obtain ⟨v2, w2, e2, d2, t2⟩ := t1.uncons
    rw [t2.unnil, den_int d2] at e2
    subst e2
    simp only [Den] at d1
    obtain ⟨a, ev, c, ns, g1, g2, b1⟩ := d1
    subst ev
    have hA : H a = some (HndO a c ns.length) := st.z _ _ g1
    obtain ⟨⟨i, g, m, kk, t2', t3', t4', t5', qq, ho, b2, b3, b4, b5, b6⟩, _, _⟩ := e0.hok a _ hA
    have nca : c ≠ a := fun z => by rw [z, g1] at g2; cases g2
    -- the heap with the hand as a list
    obtain ⟨H1, eH1⟩ : ∃ H1, H1 = upd H a (.lst (.ref c :: [(i : Int), g, m, kk].map V.int)) := ⟨_, rfl⟩
    have at1 : H1 a = some (.lst (.ref c :: [(i : Int), g, m, kk].map V.int)) := by rw [eH1]; exact upd_same
    have ne1 : ∀ b, b ≠ a → H1 b = H b := fun b z => by rw [eH1]; exact upd_ne z
    have na : ∀ b o, H b = some o → (∀ φ, o ≠ .ext φ) → b ≠ a := fun b o e n z => by rw [z, hA] at e; cases e; exact n _ rfl
    have ok1 : HOk P w H1 s.heap := fun b u eb => by
      by_cases z : b = a
      · subst z
        rw [at1] at eb
        cases eb
        exact ⟨by rw [sizeLine_eq]; simp, [.ref c, .int i t2', .int g t3', .int m t4', .int kk t5'], qq, .cons rfl (.cons ⟨_, rfl⟩ (.cons ⟨_, rfl⟩ (.cons ⟨_, rfl⟩ (.cons ⟨_, rfl⟩ .nil)))), ho⟩
      · rw [ne1 b z] at eb
        exact (e0.hok b u eb).stay (fun _ _ _ q => q) (fun d q => by rw [ne1 d (na d _ q (by intro _ z; cases z))]; exact q) fun d ys q => by rw [ne1 d (na d _ q (by intro _ z; cases z))]; exact q
    have nn1 : ∀ b, H b = none → H1 b = none := fun b e => (ne1 b fun z => by rw [z, hA] at e; cases e).trans e
    have e01 : Env0 P w G.K mg base A outer s H1 := ⟨e0.frames, e0.mod, fun b o e => ⟨(e0.bs b o e).1, nn1 b (e0.bs b o e).2⟩, e0.bsz, e0.funs, fun b hb => nn1 b (e0.frf b hb), ok1, e0.bare⟩
    obtain ⟨Z, eZ⟩ : ∃ Z : Hp, Z = less (fun b => b = a) H0 := ⟨_, rfl⟩
    obtain ⟨He, eHe⟩ : ∃ He : Hp, He = less (fun b => b = a) H := ⟨_, rfl⟩
    have Za : Z a = none := by rw [eZ]; exact less_in rfl
    have Hea : He a = none := by rw [eHe]; exact less_in rfl
    have Zs : ∀ b o, Z b = some o → b ≠ a ∧ H0 b = some o := fun b o e => by rw [eZ] at e; exact less_some e
    have Hes : ∀ b, b ≠ a → He b = H b := fun b z => by rw [eHe]; exact less_out z
    have x1 : Ext G.T Z He Z H1 := ⟨fun b o e _ => by
        rw [eHe] at e
        obtain ⟨z, e⟩ := less_some e
        rw [ne1 b z]; exact e, fun b e => by
        by_cases z : b = a
        · rw [z]; exact Hea
        · rw [Hes b z, ← ne1 b z]; exact e, .refl _, fun b o e => by
        obtain ⟨z, e⟩ := Zs b o e
        rw [ne1 b z]; exact st.z b o e, fun b o e => .inl e, fun p hp => by
        obtain ⟨ps, t1, t2, t3⟩ := st.tabs p hp
        refine ⟨ps, by rw [ne1 _ (na _ _ t1 (by intro _ z; cases z))]; exact t1, t2, fun pos cv hc => ?_⟩
        obtain ⟨c0, f1, f2⟩ := t3 pos cv hc
        refine ⟨c0, f1, ?_⟩
        by_cases z : c0 = a
        · exfalso
          obtain ⟨oc, cvs, ct, y1, y2, _⟩ := (e0.hok c0 _ f2).1
          rw [z, ho] at y1
          cases y1
          cases y2
        · rw [ne1 _ z]; exact f2, fun b ps e => st.nt b ps (Zs b _ e).2⟩
    have Zc : Z c = some (.lst (ns.map V.int)) := by rw [eZ]; exact (less_out (p := fun b => b = a) nca).trans g2
    have run := FB.run A outer s H1 args us _ (fun v H' => ∃ (r : Int) (i' : Nat) (g' m' kk' : Int) (H0' : Hp), v = .int r ∧ 0 ≤ r ∧ r < many ∧ i' ≤ ns.length ∧ 0 ≤ g' ∧ 0 ≤ m' ∧ 0 ≤ kk' ∧ m' < 2147483648 ∧ H' a = some (.lst (.ref c :: [(i' : Int), g', m', kk'].map V.int)) ∧ H0' a = none ∧ Ext G.T Z He H0' H') E0 hr e01 hbd rv (by
      rw [eB, e1]
      exact ⟨rfl, a, c, ns, i, g, m, kk, many, He, Z, rfl, b1, b2, b3, b4, b5, b6, b7, b7', Hea, Za, at1, Zc, x1, fun r i' g' m' kk' H0' H' c1 c2 c3 c4 c5 c6 c7 c8 c9 c10 => ⟨r, i', g', m', kk', H0', rfl, c1, c2, c3, c4, c5, c6, c7, c8, c9, c10⟩⟩)
    refine codeAny_mono run fun r' s' hq => ?_
    cases r' with
    | error e =>
      obtain ⟨_, _, _, _, _, _, _, _, _, _, _, _, z⟩ := hq
      exact z.elim
    | ok fl =>
      cases fl with
      | next => exact False.elim hq
      | brk => exact False.elim hq
      | cont => exact False.elim hq
      | ret u =>
        obtain ⟨v, H', os, bare, un, ok', rv', r, i', g', m', kk', H0', rfl, c1, c2, c3, c4, c5, c6, c7, c8, c9, x'⟩ := hq
        have ob : ObjOk P w (upd H' a (HndO a c ns.length)) s'.heap a (HndO a c ns.length) := hnd_ok ok' c8 c3 c4 c5 c6 c7
        have nl : ∀ b o, H' b = some o → (∀ xs, o ≠ .lst xs) → b ≠ a := fun b o e hu z => by rw [z, c8] at e; cases e; exact hu _ rfl
        refine ⟨.int r, upd H' a (HndO a c ns.length), os, bare, ?_, HOk_re ok' c8 ob, rv', ?_⟩
        · refine ⟨fun b o g e hb hx => un.keep b o g (nn1 b e) hb hx, fun b o g e hb hx => un.slot b o g (nn1 b e) hb hx, fun b o g e hx => ?_, un.there, fun b xs e => ?_, fun b o u e => ?_, fun b ps e => ?_⟩
          · rw [upd_ne (fun z => by rw [z, hA] at e; cases e)]
            exact un.free b o g (nn1 b e) hx
          · have n := na b _ e (by intro _ z; cases z)
            rw [upd_ne n]
            exact un.tups b xs (by rw [ne1 b n]; exact e)
          · have n := na b _ e (by intro _ z; cases z)
            rw [upd_ne n]
            exact un.frzs b o u (by rw [ne1 b n]; exact e)
          · have n := na b _ e (by intro _ z; cases z)
            obtain ⟨mo, z⟩ := un.tbls b ps (by rw [ne1 b n]; exact e)
            exact ⟨mo, by rw [upd_ne n]; exact z⟩
        · refine fin (.int r) _ (upd H0' a (HndO a c ns.length)) _ ⟨fun b o e nt => ?_, fun b e => ?_, fun b o e => ?_, fun b o e => ?_, fun b o e => ?_, fun p hp => ?_, x'.nt.upd (by intro _ z; cases z)⟩ of_int (q (.int r) ⟨r, rfl, c1, c2⟩)
          · by_cases z : b = a
            · rw [z, hA] at e; cases e; rw [z]; exact upd_same
            · rw [upd_ne z]; exact x'.n b o (by rw [Hes b z]; exact e) nt
          · by_cases z : b = a
            · rw [z, upd_same] at e; cases e
            · rw [upd_ne z] at e
              have := x'.nn b e
              rw [Hes b z] at this
              exact this
          · by_cases z : b = a
            · rw [z, g1] at e; cases e; rw [z]; exact upd_same
            · rw [upd_ne z]; exact x'.z b o (by rw [eZ]; exact (less_out (p := fun b => b = a) z).trans e)
          · by_cases z : b = a
            · rw [z, upd_same] at e ⊢; exact e
            · rw [upd_ne z] at e ⊢; exact x'.zz b o e
          · by_cases z : b = a
            · rw [z, upd_same] at e; cases e; rw [z]; exact .inl g1
            · rw [upd_ne z] at e
              rcases x'.fr b o e with y | y
              · exact .inl (Zs b o y).2
              · rw [Hes b z] at y; exact .inr y
          · obtain ⟨ps, t1, t2, t3⟩ := x'.tabs p hp
            refine ⟨ps, by rw [upd_ne (nl _ _ t1 (by intro _ z; cases z))]; exact t1, t2, fun pos cv hc => ?_⟩
            obtain ⟨c0, f1, f2⟩ := t3 pos cv hc
            exact ⟨c0, f1, by rw [upd_ne (nl _ _ f2 (by intro _ z; cases z))]; exact f2⟩
end DL
end
section
set_option Elab.async false
set_option linter.all false
set_option maxRecDepth 100000
set_option maxHeartbeats 2000000
set_option autoImplicit false
/-! DE1: enumerate of a tuple. -/
namespace DL
open PySem PySem.Spec L2 PyProof.Rows
open AutoSeq1 (wpAny_loadPart')
theorem meets_enumerate_newT (l : Addr) (items : Array Value) (n : Nat) (dct : Option Addr) (sl : Array (Option Value)) :
    Meets (Builtin.«enumerate.__new__» ⟨[.type "enumerate", .ref l], []⟩) (fun _ R s => s.heap.get? l = some { cls := .type "tuple", dict := dct, data := .seq items n, slots := sl } ∧
      R (.ok (.ret (.ref (s.heap.push { cls := .type "tuple_iterator", data := .fields #[.ref l, .int 0 0] }).objs.size)))
        { s with heap := (s.heap.push { cls := .type "tuple_iterator", data := .fields #[.ref l, .int 0 0] }).push { cls := .type "enumerate", data := .fields #[.none, .bool false, .ref s.heap.objs.size, rawInt 0, .none, .none] } }) :=
  .of_wp fun prog w A R s h => by
    obtain ⟨hp, g, d, tk, os⟩ := s; obtain ⟨hl, h⟩ := h
    have hsub := sub_enumerate
    have hL : Heap.IsTuple (Shared.heap ⟨hp, g, d, tk, os⟩) l items := ⟨_, hl, rfl, n, rfl⟩
    wp_walk using wpAny_loadPart' hl
    refine wpAny_stack_any fun st => wpAny_pure ?_
    split
    · rename_i c _ _ _ _ _
      cases (c == Value.type "enumerate")
      · wp_walk using wpAny_loadPart' hl, wpAny_pyIter_tuple hL
        exact ⟨_, rfl, h⟩
      · wp_walk using wpAny_loadPart' hl, wpAny_pyIter_tuple hL
        exact ⟨_, rfl, h⟩
    · wp_walk using wpAny_loadPart' hl, wpAny_pyIter_tuple hL
      exact ⟨_, rfl, h⟩
section
variable {prog : Program} {w : World} {A : Around} {E : Value → Shared → Prop} {s : Shared}
theorem call_enumerate_tuple {l : Addr} {items : Array Value} {Q : Value → Shared → Prop} (hL : s.heap.IsTuple l items)
    (h : ∀ h', IsEnum h' (s.heap.objs.size + 1) s.heap.objs.size 0 .none → h'.IsTupleIter s.heap.objs.size l 0 → h'.objs.size = s.heap.objs.size + 2 →
      (∀ b o, s.heap.get? b = some o → h'.get? b = some o) → Q (.ref (s.heap.objs.size + 1)) { s with heap := h' }) :
    wpAny (model prog w) A (call (.type "enumerate") [.ref l]) Q E s := by
  obtain ⟨⟨c, dct, dt, sl⟩, hl, hc, n, hd⟩ := hL
  replace hc : c = .type "tuple" := hc
  replace hd : dt = .seq items n := hd
  subst hc hd
  refine callType_new F.called_enumerate (by decide) (F.typeCall_enumerate_1 _) (F.newCall_enumerate_1 _) (fun obj => F.args_object_init_2 obj _) F.entry_enumerate_new
    (meets_enumerate_newT l items n dct sl) ⟨hl, ?_⟩
  have hz : (s.heap.push { cls := .type "tuple_iterator", data := .fields #[.ref l, .int 0 0] }).objs.size = s.heap.objs.size + 1 := Heap.size_push ..
  show _ ∧ _
  rw [hz]
  have he : IsEnum ((s.heap.push { cls := .type "tuple_iterator", data := .fields #[.ref l, .int 0 0] }).push
      { cls := .type "enumerate", data := .fields #[.none, .bool false, .ref s.heap.objs.size, rawInt 0, .none, .none] }) (s.heap.objs.size + 1) s.heap.objs.size 0 .none := by
    have := Heap.get?_push_size (s.heap.push { cls := .type "tuple_iterator", data := .fields #[.ref l, .int 0 0] })
      (o := { cls := .type "enumerate", data := .fields #[.none, .bool false, .ref s.heap.objs.size, rawInt 0, .none, .none] }) rfl
    rw [hz] at this; exact this
  refine ⟨⟨_, he, rfl⟩, h _ he ⟨_, Heap.get?_push_of_some _ (Heap.get?_push_size _ rfl), rfl, rfl⟩ (by rw [Heap.size_push, hz]) fun b o x => Heap.get?_push_of_some _ (Heap.get?_push_of_some _ x)⟩
end
/-- the tuple at a, each item in a new pair -/
def ItT (K : PySem.W.Frag) (a : Addr) : It :=
  ⟨fun i H => ∃ (xs : List V) (x : V), SqT K H a xs ∧ xs[i]? = some x, fun i H v H' => ∃ T x, v = .ref T ∧ H T = none ∧ H' = upd H T (.tup [.int (i : Nat), x]) ∧ ∀ xs, SqT K H a xs → xs[i]? = some x, fun i H => ∃ xs : List V, SqT K H a xs ∧ xs.length ≤ i⟩
theorem turn_enumT {P : Program} {w : World} {K : PySem.W.Frag} {elts : List Expr} {kk : Nat} {tpos : Pos} (a e it : Addr) :
    Turn P w K (.Tuple elts kk tpos) (ItT K a) [e, it] e (fun i h => (∃ old, IsEnum h e it ((i : Nat) : Int) old) ∧ h.IsTupleIter it a i ∧ e ≠ it ∧ a ≠ it ∧ a ≠ e) where
  mem := by simp
  obj := fun i h st b hb => by
    obtain ⟨⟨old, he⟩, ⟨o, ho, hc, hd⟩, _⟩ := st
    have e' : b = e ∨ b = it := by simpa using hb
    rcases e' with z | z
    · rw [z]; exact ⟨_, he, fun v q => nomatch q⟩
    · rw [z]; exact ⟨o, ho, fun v q => by rw [hd] at q; cases q⟩
  keep := fun i h h' st k => let ⟨⟨old, he⟩, hi, hne⟩ := st; ⟨⟨old, k e (by simp) _ he⟩, hi.at fun o q => k it (by simp) o q, hne⟩
  item := by
    intro X hP hw hK hc i pins s σ H E I hf st hg
    subst hP hw hK
    obtain ⟨⟨old, he⟩, hit, hne, hai, hae⟩ := st
    obtain ⟨xs, x, hq, hx⟩ := hg
    obtain ⟨its, rv, p, hz⟩ := I.tuple hq
    obtain ⟨u, hu, ru⟩ := rv.get hx
    have hel : e < s.heap.objs.size := Heap.lt_size he
    have hil : it < s.heap.objs.size := by obtain ⟨_, q, _⟩ := hit; exact Heap.lt_size q
    have hlt : i < its.toArray.size := by
      have := (List.getElem?_eq_some_iff.mp hu).1
      simpa using this
    refine wpAny_pyNext_enum_itemD (Draws.tuple (A := X.A.in1) (I.ok.hd hc) it a hai its.toArray) he ⟨hit, p⟩ hlt hne (by simp; exact ⟨hne, fun z => hae z.symm⟩) fun x' h' tk hx' ho st' hT hsz hk => ?_
    have ex : x' = u := by
      have : its.toArray[i]? = some u := by simpa using hu
      rw [this] at hx'
      exact (Option.some.inj hx').symm
    subst ex
    refine ⟨_, rfl, wpAny_letOwnedTupleGo_enum (s := { s with heap := h', toks := tk + 1 }) ho fun h'' he' sb => ?_⟩
    have hT2 : h''.get? s.heap.objs.size = some { cls := .type "tuple", data := .seq #[.int i tk, x'] } := (sb.2 _ (Nat.ne_of_gt hel)).trans hT
    have new : ObjOk X.prog X.w (upd H s.heap.objs.size (.tup [.int (i : Nat), x])) h'' s.heap.objs.size (.tup [.int (i : Nat), x]) :=
      ⟨by show 2 ≤ sizeLine; decide, [.int i tk, x'], .cons ⟨_, rfl⟩ (.cons ru .nil), ⟨_, hT2, rfl, _, rfl⟩⟩
    have I1 : Inv X pins σ (upd H s.heap.objs.size (.tup [.int (i : Nat), x])) { s with heap := h'', toks := tk + 1 } :=
      I.turnedNew (ch := [e, it]) (fun b ob hb q => (sb.2 b (fun z => hb (by simp [z]))).trans (hk b ob (fun z => hb (by simp [z])) (fun z => hb (by simp [z])) q)) hf (Nat.le_refl _) new
    refine ⟨.ref s.heap.objs.size, _, I1, rfl, ⟨_, x, rfl, I.hok.fresh (Nat.le_refl _), rfl, fun ys hy => by rw [I.tuple_inj hy hq]; exact hx⟩, ⟨⟨x', ?_⟩, st'.1.at fun o q => (sb.2 it (Ne.symm hne)).trans q, hne, hai, hae⟩, fun b hb => ?_⟩
    · have e1 : ((i + 1 : Nat) : Int) = (i : Int) + 1 := by omega
      rw [e1]; exact he'
    · have hb' : b < s.heap.objs.size := by
        have e' : b = e ∨ b = it := by simpa using hb
        rcases e' with z | z
        · rw [z]; exact hel
        · rw [z]; exact hil
      rw [upd_ne (Nat.ne_of_lt hb')]
      exact (hf b hb).1
  done := by
    intro X hP hw hK hc i pins s σ H E I hf st hg
    subst hP hw hK
    obtain ⟨⟨old, he⟩, hit, hne, hai, hae⟩ := st
    obtain ⟨xs, hq, hx⟩ := hg
    obtain ⟨its, rv, p, hz⟩ := I.tuple hq
    obtain ⟨f0, f1, f2, f3, f4, f5⟩ := hf it (by simp)
    have hl := rv.length
    have D : Draws X.prog X.w X.A.in1 it [it, a] i (fun i v => its.toArray[i]? = some v) (fun j h => j = i ∧ h.IsTupleIter it a j ∧ h.IsTuple a its.toArray) := {
      live := fun _ _ st => let ⟨o, ho, _⟩ := st.2.1; ⟨o, ho⟩
      frame := fun _ _ _ st hk => ⟨st.1, st.2.1.at fun o e => hk it (by simp) o e, st.2.2.at fun o e => hk a (by simp) o e⟩
      item := fun j s Q E hj st hQ => absurd st.1 (Nat.ne_of_lt hj)
      done := fun s Q E st hE => wpAny_nextOf_tuple_end (show X.A.in1.handled = none from I.ok.hd hc) st.2.1 st.2.2 (by simp; omega) hE }
    exact wpAny_pyNext_enum_endD D he ⟨rfl, hit, p⟩ fun h' eb => ⟨rfl, I.turned (t' := s.toks) (fun b o hb q => eb b o hb q) f0 f1 f3 f4 f5⟩
  self := fun A i s Q E st h => let ⟨⟨_, he⟩, _⟩ := st; wpAny_pyIter_enum he h
def iEnumT (K : PySem.W.Frag) (ta : TA) : TI := fun σ H R => ta σ H fun vs H1 => ∃ a xs, vs = [.ref a] ∧ ((SqL K H1 a xs ∧ R (Ite K a) H1) ∨ (SqT K H1 a xs ∧ R (ItT K a) H1))
theorem pi_enumT {X : Cx} {e : Expr} {ta : TA} {p pos tpos : Pos} {elts : List Expr} {kk : Nat} (hg : Gl X "enumerate") (hm : X.mg "enumerate" = none) (ha : PA X [e] ta) (hs : starEach [e] X.env = [(false, eval e X.env)] := by rfl) :
    PI X (.Tuple elts kk tpos) (.Call (.Name "enumerate" p) [e] [] pos) (iEnumT X.K ta) := by
  refine ⟨fun pins s σ H R I h => ?_⟩
  refine Call_ (ld_blt I hg hm boot_enumerate (PyProof.Rows.callWith_type1 (thn (ha.run pos pins s σ H _ I h) fun us s1 ⟨vs, H1, I1, r1, q1⟩ => ?_) hs rfl))
  obtain ⟨a, xs, ex, q⟩ := q1
  subst ex
  cases r1 with
  | cons r rr =>
    cases rr
    cases r
    rcases q with ⟨hq, q⟩ | ⟨hq, q⟩
    · obtain ⟨its, rv, p', hz⟩ := I1.list hq
      refine call_enumerate_list p'.isList fun h' he hit hsz hk => wpAny_pyIter_enum he ?_
      have I2 : Inv X pins σ H1 { s1 with heap := h' } := I1.kept (t' := s1.toks) hk
      refine ⟨s1.heap.objs.size + 1, [s1.heap.objs.size + 1, s1.heap.objs.size], _, _, H1, rfl, I2, turn_enum a (s1.heap.objs.size + 1) s1.heap.objs.size, ⟨⟨.none, he⟩, hit, Nat.succ_ne_self _⟩, fun b hb => ?_, q⟩
      have e' : b = s1.heap.objs.size + 1 ∨ b = s1.heap.objs.size := by simpa using hb
      have hle : s1.heap.objs.size ≤ b := by
        rcases e' with z | z
        · rw [z]; exact Nat.le_add_right _ _
        · rw [z]; exact Nat.le_refl _
      exact I1.fpOk hle (I1.hok.fresh hle)
    · obtain ⟨its, rv, p', hz⟩ := I1.tuple hq
      have la : a < s1.heap.objs.size := p'.lt
      refine call_enumerate_tuple p' fun h' he hit hsz hk => wpAny_pyIter_enum he ?_
      have I2 : Inv X pins σ H1 { s1 with heap := h' } := I1.kept (t' := s1.toks) hk
      refine ⟨s1.heap.objs.size + 1, [s1.heap.objs.size + 1, s1.heap.objs.size], _, _, H1, rfl, I2, turn_enumT a (s1.heap.objs.size + 1) s1.heap.objs.size, ⟨⟨.none, he⟩, hit, Nat.succ_ne_self _, Nat.ne_of_lt la, Nat.ne_of_lt (Nat.lt_succ_of_lt la)⟩, fun b hb => ?_, q⟩
      have e' : b = s1.heap.objs.size + 1 ∨ b = s1.heap.objs.size := by simpa using hb
      have hle : s1.heap.objs.size ≤ b := by
        rcases e' with z | z
        · rw [z]; exact Nat.le_add_right _ _
        · rw [z]; exact Nat.le_refl _
      exact I1.fpOk hle (I1.hok.fresh hle)
section
variable {G : Gx} {H0 : Hp}
theorem itOk_enumT {a : Addr} {vs : List V} {ds : List D} (h : SqT G.K H0 a vs) (dd : Dens G H0 ds vs) : ItOk G H0 (ItT G.K a) (enumD ds) where
  go := fun i H hi s => by
    have hi : i < ds.length := by simpa [enumD] using hi
    exact ⟨vs, vs[i]'(by rw [← dd.length]; exact hi), SqT.same s h, by simp⟩
  stop := fun H s => ⟨vs, SqT.same s h, by rw [← dd.length]; simp [enumD]⟩
  yld := fun i H1 H x H' d s st e ⟨T, x', e1, hT, e2, y⟩ => by
    obtain ⟨d', q1, q2⟩ := enumD_get e
    obtain ⟨v, h1, h2⟩ := dd.get q1
    have h3 := y vs (SqT.same (s.trans st.z) h)
    rw [h1] at h3
    cases h3
    rw [e1, q2]
    exact pair_new st hT e2 of_int (h2.same s)
def enumS : List D → W (List D)
  | [.lst xs] => ret (enumD xs)
  | [.tup xs] => ret (enumD xs)
  | _ => stk
end
section
variable {X : Cx} {B : Bx} {e : Expr} {p pos : Pos}
theorem di_enum {w : DL.Env → W (List D)} {elts : List Expr} {kk : Nat} {tpos : Pos} (hK : X.K = B.G.K) (hg : Gl X "enumerate") (hm : X.mg "enumerate" = none) (ha : DA X B 1 [e] w) (hs : starEach [e] X.env = [(false, eval e X.env)] := by rfl) :
    DI X B (.Tuple elts kk tpos) (.Call (.Name "enumerate" p) [e] [] pos) (fun ρ => bnd (w ρ) enumS) := by
  refine PI.imp (pi_enumT hg hm ha hs) fun σ H R ⟨ρ, H0, QL, k, q, h⟩ => ⟨ρ, H0, _, k, q, fun ds vs H1 H2 x dd l q1 => ?_⟩
  match ds, q1 with
  | [.lst xs], q1 =>
    obtain ⟨v, e, d1⟩ := dens1 dd
    obtain ⟨a, us, e1, s, d2⟩ := den_lst d1
    refine ⟨a, us, by rw [e, e1], .inl ⟨.of (x.zz _ _ s), ?_⟩⟩
    rw [hK]
    exact h _ _ H1 H2 x (itOk_enum s d2) q1
  | [.tup xs], q1 =>
    obtain ⟨v, e, d1⟩ := dens1 dd
    obtain ⟨a, us, e1, s, d2⟩ := den_tup d1
    refine ⟨a, us, by rw [e, e1], .inr ⟨by rw [hK]; exact SqT.same x.zz s, ?_⟩⟩
    rw [hK]
    exact h _ _ H1 H2 x (itOk_enumT s d2) q1
end
end DL
end
section
set_option Elab.async false
set_option linter.all false
set_option maxRecDepth 100000
set_option maxHeartbeats 2000000
set_option autoImplicit false
/-! DX: plain laws of the predicate transformers. -/
namespace DL
open PySem PySem.Spec L2
theorem ite_app {α β : Type} (c : Prop) [Decidable c] (f g : (α → Prop) → β → Prop) (Q : α → Prop) (E : β) : (if c then f else g) Q E = if c then f Q E else g Q E := by
  by_cases h : c <;> simp [h]
/-! ### loops -/
theorem lcGo_rel {f : D → W (Option D)} {P : D → Option D → Prop} {E : DX → Prop} : ∀ {xs : List D} {Q : List D → Prop}, (∀ x ∈ xs, ∀ Q : Option D → Prop, (∀ o, P x o → Q o) → f x Q E) →
    (∀ os : List (Option D), os.length = xs.length → (∀ (i : Nat) x o, xs[i]? = some x → os[i]? = some o → P x o) → Q (os.filterMap id)) → lcGo f xs Q E
  | [], Q, _, h => h [] rfl (fun i x o e _ => by simp at e)
  | x :: xs, Q, hf, h => by
    refine hf x List.mem_cons_self _ fun o po => ?_
    refine lcGo_rel (fun y hy => hf y (List.mem_cons_of_mem _ hy)) fun os hl hP => ?_
    have := h (o :: os) (by simp [hl]) fun i y p e1 e2 => by
      cases i with
      | zero => simp at e1 e2; subst e1 e2; exact po
      | succ i => exact hP i y p (by simpa using e1) (by simpa using e2)
    cases o <;> exact this
theorem lcGo_map {f : D → W (Option D)} {g : D → Option D} {E : DX → Prop} : ∀ {xs : List D} {Q : List D → Prop}, (∀ x ∈ xs, ∀ Q : Option D → Prop, Q (g x) → f x Q E) → Q (xs.filterMap g) → lcGo f xs Q E
  | [], Q, _, h => h
  | x :: xs, Q, hf, h => by
    refine hf x List.mem_cons_self _ ?_
    refine lcGo_map (fun y hy => hf y (List.mem_cons_of_mem _ hy)) ?_
    cases e : g x with
    | none => rw [List.filterMap_cons_none e] at h; exact h
    | some y => rw [List.filterMap_cons_some e] at h; exact h
theorem forGo_nx {f : D → DL.Env → W Out} {E : DX → Prop} (I : Nat → DL.Env → Prop) : ∀ {xs : List D} (n : Nat) {ρ : DL.Env} {Q : Out → Prop}, I n ρ →
    (∀ (i : Nat) x ρ, xs[i]? = some x → I (n + i) ρ → ∀ Q : Out → Prop, (∀ ρ', I (n + i + 1) ρ' → Q (.nx ρ')) → f x ρ Q E) → (∀ ρ', I (n + xs.length) ρ' → Q (.nx ρ')) → forGo f xs ρ Q E
  | [], n, ρ, Q, h0, _, h => h ρ h0
  | x :: xs, n, ρ, Q, h0, hf, h => by
    refine hf 0 x ρ rfl h0 _ fun ρ' h1 => ?_
    refine forGo_nx I (n + 1) (by simpa using h1) (fun i y ρ e hi Q hq => hf (i + 1) y ρ (by simpa using e) (by rw [show n + (i + 1) = n + 1 + i by omega]; exact hi) Q fun ρ' hh => hq ρ' (by rw [show n + 1 + i + 1 = n + (i + 1) + 1 by omega]; exact hh)) fun ρ' hh => h ρ' (by rw [List.length_cons, show n + (xs.length + 1) = n + 1 + xs.length by omega]; exact hh)
/-! ### ints in lists and tuples -/
theorem ixT_int {ns : List Int} {i x : Int} (h : 0 ≤ i) (e : ns[i.toNat]? = some x) : ixD (.tup (ns.map D.int)) (.int i) = ret (.int x) := by
  have hl : i.toNat < ns.length := (List.getElem?_eq_some_iff.mp e).1
  have : L2.atI (ns.map D.int) i = some (.int x) := by
    unfold L2.atI ixN
    rw [if_pos h, if_pos (by simp; omega)]
    simp [e]
  simp only [ixD, this, optW]
theorem ixL_int {ns : List Int} {i x : Int} (h : 0 ≤ i) (e : ns[i.toNat]? = some x) : ixD (.lst (ns.map D.int)) (.int i) = ret (.int x) := by
  have := ixT_int h e
  exact this
theorem ixL {ds : List D} {i : Int} {x : D} (h : 0 ≤ i) (e : ds[i.toNat]? = some x) : ixD (.lst ds) (.int i) = ret x := by
  have hl : i.toNat < ds.length := (List.getElem?_eq_some_iff.mp e).1
  have : L2.atI ds i = some x := by
    unfold L2.atI ixN
    rw [if_pos h, if_pos (by omega)]
    exact e
  simp only [ixD, this, optW]
theorem ixT {ds : List D} {i : Int} {x : D} (h : 0 ≤ i) (e : ds[i.toNat]? = some x) : ixD (.tup ds) (.int i) = ret x := ixL h e
theorem shp_int (i : Int) : SeqAt.shaped (.int i) = true := by simp [SeqAt.shaped, PyData.canLay0, PyData.depth]
theorem shp_bool (i : Bool) : SeqAt.shaped (.bool i) = true := by simp [SeqAt.shaped, PyData.canLay0, PyData.depth]
theorem eq_int (S : Nat → List D → W D) (b : Bool) (i j : Int) : eqD S b (.int i) (.int j) = ret (.bl ((i == j) != b)) := by
  simp [eqD, valD, pyD, shp_int, optW, PyData.eqv]
theorem eq_bl (S : Nat → List D → W D) (b : Bool) (i j : Bool) : eqD S b (.bl i) (.bl j) = ret (.bl ((i == j) != b)) := by
  simp [eqD, valD, pyD, shp_bool, optW, PyData.eqv]
theorem pyDs_ints : ∀ ns : List Int, pyDs (ns.map D.int) = some (ns.map PyData.int)
  | [] => by simp [pyDs]
  | n :: ns => by simp [pyDs, pyD, pyDs_ints ns]
theorem eqvAll_ints : ∀ ns ms : List Int, PyData.eqvAll (ns.map PyData.int) (ms.map PyData.int) = decide (ns = ms)
  | [], [] => by simp [PyData.eqvAll]
  | [], _ :: _ => by simp [PyData.eqvAll]
  | _ :: _, [] => by simp [PyData.eqvAll]
  | n :: ns, m :: ms => by
    simp only [List.map_cons, PyData.eqvAll, PyData.eqv, eqvAll_ints ns ms]
    by_cases h : n = m <;> simp [h]
theorem shp_tup (ns : List Int) : SeqAt.shaped (.tuple (ns.map PyData.int)) = true := PySem.W.ke_shaped_ints ns
theorem shp_lst (ns : List Int) : SeqAt.shaped (.list (ns.map PyData.int)) = true := PySem.W.ke_shaped_ints ns
theorem eq_tup (S : Nat → List D → W D) (b : Bool) (ns ms : List Int) : eqD S b (.tup (ns.map D.int)) (.tup (ms.map D.int)) = ret (.bl (decide (ns = ms) != b)) := by
  simp [eqD, valD, pyD, pyDs_ints, shp_tup, optW, PyData.eqv, eqvAll_ints]
theorem any_eqv (i : Int) : ∀ ns : List Int, ((ns.map PyData.int).any fun z => PyData.eqv z (.int i)) = ns.contains i
  | [] => rfl
  | n :: ns => by
    rw [List.map_cons, List.any_cons, any_eqv i ns, List.contains_cons]
    have : PyData.eqv (.int n) (.int i) = (i == n) := by
      show (n == i) = (i == n)
      by_cases h : n = i
      · subst h; rfl
      · rw [beq_eq_false_iff_ne.mpr h, beq_eq_false_iff_ne.mpr (fun z => h z.symm)]
    rw [this]
theorem in_lst (b : Bool) (i : Int) (ns : List Int) : inD b (.int i) (.lst (ns.map D.int)) = ret (.bl (ns.contains i != b)) := by
  simp only [inD, inV, inItems, Option.bind, pyD, pyDs_ints, shp_int, shp_lst, and_self, if_true, Option.map, any_eqv, optW]
theorem sum_lst (ns : List Int) : sumD [.lst (ns.map D.int)] = ret (.int ns.sum) := by
  simp only [sumD, intsD_map, optW]
  rfl
theorem all_lst (bs : List Bool) : allD [.lst (bs.map D.bl)] = ret (.bl (bs.all id)) := by
  simp only [allD, boolsD_map, optW]
  rfl
theorem any_lst (bs : List Bool) : anyD [.lst (bs.map D.bl)] = ret (.bl (bs.any id)) := by
  simp only [anyD, boolsD_map, optW]
  rfl
theorem rangeD0 (n : Nat) : rangeD 0 n = (List.range n).map fun i : Nat => D.int (i : Int) := by
  unfold rangeD
  congr 1
  funext i
  simp
theorem ints_of {xs : List D} {n : Nat} (hl : xs.length = n) (h : ∀ (i : Nat) x, xs[i]? = some x → ∃ k : Int, x = .int k) : ∃ ns : List Int, xs = ns.map D.int ∧ ns.length = n := by
  subst hl
  induction xs with
  | nil => exact ⟨[], rfl, rfl⟩
  | cons x xs ih =>
    obtain ⟨k, e⟩ := h 0 x rfl
    obtain ⟨ns, e2, l⟩ := ih fun i y hy => h (i + 1) y (by simpa using hy)
    exact ⟨k :: ns, by rw [e, e2]; rfl, by simp [l]⟩
end DL
end
section
set_option Elab.async false
set_option linter.all false
set_option maxRecDepth 100000
set_option maxHeartbeats 2000000
set_option autoImplicit false
/-! DY: sorted, an own list's item popped into another. -/
namespace DL
open PySem PySem.Spec L2 PyProof.Rows
section
variable {X : Cx} {G : Gx}
/-- sorted of ints (all answers that are sorted: there is but one) -/
def sortedD : List D → W D
  | [.lst xs] => bnd (optW (intsD xs)) fun ns => fun Q _ => ∀ ms : List Int, ms.Perm ns → ms.Pairwise (· ≤ ·) → Q (.lst (ms.map D.int))
  | _ => stk
theorem d_sorted (hK : X.K = G.K) : DOpL G (rSortedI X.K) sortedD := by
  intro H0 H xs vs QD ED Q st dd q h
  match xs, q with
  | [.lst xs], q =>
    obtain ⟨v, e, d1⟩ := dens1 dd
    obtain ⟨a, us, e1, s1, d2⟩ := den_lst d1
    obtain ⟨ns, en, q⟩ := optW_of q
    rw [intsD_eq en] at d2
    rw [d2.ints] at s1
    refine ⟨a, ns, by rw [e, e1], .of (st.z _ _ s1), fun ms p hp hs hn => ?_⟩
    have x := Ext.put st hn (.lst (ms.map V.int))
    exact h _ _ _ _ x (of_lst upd_same (Dens.of_ints ms)) (q ms hp hs)
end
theorem Dens.erase {G : Gx} {H : Hp} : ∀ {ds : List D} {vs : List V} (n : Nat), Dens G H ds vs → Dens G H (ds.eraseIdx n) (vs.eraseIdx n)
  | [], vs, n, h => by rw [h.unnil]; exact .nil
  | d :: ds, vs, n, h => by
    obtain ⟨v, ws, rfl, h1, h2⟩ := h.uncons
    cases n with
    | zero => exact h2
    | succ n => exact .cons h1 (Dens.erase n h2)
section
variable {X : Cx} {B : Bx} {e : Expr} {we : DL.Env → W D} {pos : Pos} {x y : Str} {apos cpos p1 apos2 cpos2 p2 : Pos}
def popAt (i j : Nat) (ρ : DL.Env) (z u : Option Addr × List D) : D → W Out
  | .int k => bnd (optW (if 0 ≤ k ∧ k < 1000000 ∧ z.2.length < sizeLine then u.2[k.toNat]? else none)) fun d => ret (.nx ((ρ.set j (.own (.lst u.1 (u.2.eraseIdx k.toNat)))).set i (.own (.lst z.1 (z.2 ++ [d])))))
  | _ => stk
/-- x.append(y.pop(e)) -/
theorem ds_appPop (i j : Nat) (he : DE X B e we) (hij : i ≠ j := by decide) (hN : X.N[i]? = some x := by rfl) (hv : Vis X.env.scope x := by first | exact Or.inl rfl | exact Or.inr (Or.inl rfl) | exact Or.inr (Or.inr rfl)) (hd : (x == ("__debug__" : Str)) = false := by decide)
    (hcd : (x == ("__classdict__" : Str)) = false := by decide) (hN2 : X.N[j]? = some y := by rfl) (hv2 : Vis X.env.scope y := by first | exact Or.inl rfl | exact Or.inr (Or.inl rfl) | exact Or.inr (Or.inr rfl)) (hd2 : (y == ("__debug__" : Str)) = false := by decide)
    (hcd2 : (y == ("__classdict__" : Str)) = false := by decide)
    (hbase : attributeBase (.Name x p1) "append" X.env (eval (.Name x p1) X.env) = eval (.Name x p1) X.env := by rfl)
    (hfew : ((backTo cpos (starEach [.Call (.Attribute (.Name y p2) "pop" apos2) [e] [] cpos2] X.env)).all (fun x => !x.1) && (backToKw cpos (keywordEach [] X.env)).all (fun x => x.1.isSome)
      && decide (([.Call (.Attribute (.Name y p2) "pop" apos2) [e] [] cpos2] : List Expr).length + ([] : List Keyword).length + (if ([] : List Keyword).isEmpty then 0 else 1) < 30)) = true := by rfl)
    (hline : (apos.endLine == cpos.line) = true := by rfl) (hs : starEach [.Call (.Attribute (.Name y p2) "pop" apos2) [e] [] cpos2] X.env = (false, eval (.Call (.Attribute (.Name y p2) "pop" apos2) [e] [] cpos2) X.env) :: starEach [] X.env := by rfl) (hplain : (backTo cpos (starEach [] X.env)).any (·.1) = false := by rfl)
    (hbase2 : attributeBase (.Name y p2) "pop" X.env (eval (.Name y p2) X.env) = eval (.Name y p2) X.env := by rfl)
    (hfew2 : ((backTo cpos2 (starEach [e] X.env)).all (fun x => !x.1) && (backToKw cpos2 (keywordEach [] X.env)).all (fun x => x.1.isSome)
      && decide (([e] : List Expr).length + ([] : List Keyword).length + (if ([] : List Keyword).isEmpty then 0 else 1) < 30)) = true := by rfl)
    (hline2 : (apos2.endLine == cpos2.line) = true := by rfl) (hs2 : starEach [e] X.env = (false, eval e X.env) :: starEach [] X.env := by rfl) (hplain2 : (backTo cpos2 (starEach [] X.env)).any (·.1) = false := by rfl)
    (hsw : swapsWith (.Call (.Attribute (.Name x p1) "append" apos) [.Call (.Attribute (.Name y p2) "pop" apos2) [e] [] cpos2] [] cpos) none pos.line X.env = pure false := by rfl) :
    DS X B (.Expr (.Call (.Attribute (.Name x p1) "append" apos) [.Call (.Attribute (.Name y p2) "pop" apos2) [e] [] cpos2] [] cpos) pos) (fun ρ => bnd (ownL i ρ) fun z => bnd (ownL j ρ) fun u => bnd (we ρ) fun d => popAt i j ρ z u d) := by
  refine PS.imp (ps_expr (pe_bm PySem.F.plainAttrs_list PySem.F.slot_list_append PySem.F.type_list_append mt_append (pe_var hN hv hd hcd) (pa_cons (pe_bm PySem.F.plainAttrs_list PySem.F.slot_list_pop PySem.F.type_list_pop mt_popAt (pe_var hN2 hv2 hd2 hcd2) (pa_cons he pa_nil hs2) hbase2 hfew2 hline2 hs2 hplain2) pa_nil hs) hbase hfew hline hs hplain) hsw) fun D σ H ⟨ρ, H0, QO, k, q, h, _⟩ => ?_
  obtain ⟨oa, ds, z, q⟩ := ownL_of q
  obtain ⟨ob, es, zz, q⟩ := ownL_of q
  obtain ⟨a, e1, h1, h2, ha, vs, h3, h4⟩ := k.own_at z
  obtain ⟨b, f1, g1, g2, hb, us, g3, g4⟩ := k.own_at zz
  have nab : a ≠ b := fun w => by subst w; exact hij (k.apart i j _ _ a z zz e1 f1)
  refine ⟨.ref a, e1, .inl ⟨rfl, _, .of h3⟩, ?_⟩
  refine ⟨.ref b, f1, .inl ⟨rfl, _, .of g3⟩, ρ, H0, _, k, q, fun d v H1 H2 x dd q1 => ?_⟩
  cases d <;> first | exact (show False from q1).elim | skip
  rename_i kk
  obtain ⟨dk, ed, q2⟩ := optW_of q1
  split at ed
  · rename_i hc
    obtain ⟨c1, c2, c3⟩ := hc
    have k2 := k.later x
    have h3' : H2 a = some (.lst vs) := x.n _ _ h3 fun _ z => by cases z
    have g3' : H2 b = some (.lst us) := x.n _ _ g3 fun _ z => by cases z
    have d4 := h4.same x.z
    have g5 := g4.same x.z
    obtain ⟨vk, ev, dv⟩ := g5.get ed
    have hlt : kk.toNat < us.length := (List.getElem?_eq_some_iff.mp ev).1
    have hsi : seqIndex? kk us.length = some kk.toNat := by
      unfold seqIndex?
      rw [if_neg (Int.not_lt.mpr c1)]
      simp [c1, (Int.toNat_lt c1).mp hlt]
    refine ⟨b, us, kk, kk.toNat, vk, rfl, by rw [den_int dd], g3', by omega, by omega, hsi, ev, ?_⟩
    have k3 := k2.own (o' := .lst ob (es.eraseIdx kk.toNat)) zz f1 (u := .lst (us.eraseIdx kk.toNat)) ⟨hb, _, upd_same, g5.erase kk.toNat⟩
    have h3'' : upd H2 b (.lst (us.eraseIdx kk.toNat)) a = some (.lst vs) := by rw [upd_ne nab]; exact h3'
    refine ⟨a, vs, vk, rfl, rfl, h3'', by rw [← h4.length]; exact c3, ?_⟩
    have zi : (ρ.set j (.own (.lst ob (es.eraseIdx kk.toNat))))[i]? = some (.own (.lst oa ds)) := by rw [List.getElem?_set_ne (Ne.symm hij)]; exact z
    exact h _ σ H1 _ (k3.own (o' := .lst oa (ds ++ [dk])) zi e1 ⟨ha, _, upd_same, d4.append (.cons dv .nil)⟩) x.z q2
  · cases ed
end
end DL
end
section
set_option Elab.async false
set_option linter.all false
set_option maxRecDepth 100000
set_option maxHeartbeats 2000000
set_option autoImplicit false
/-! DZ: an instance called; t.index(x) of ints. -/
namespace DL
open PySem PySem.Spec L2 PyProof.Rows
/-- class c's own __call__ is a def of n parameters that does s, in k rooms -/
structure MtC (P : Program) (w : World) (G : Gx) (mg : Str → Option Value) (base : Heap) (c : Nat) (n k : Nat) (s : List D → W D) : Prop where
  ex : ∃ (f : Addr) (fd : FuncData) (ps : List Str), ps.length = n ∧ StX.CallO G.K (G.cls c) f ∧ L2.Binds G.K fd ps [] ∧ FnOk P w G.K mg base (L2.CX P w) k f fd ps (liftSp G n s)
theorem MtC.mono {P : Program} {w : World} {G : Gx} {mg : Str → Option Value} {base : Heap} {c n k j : Nat} {s : List D → W D} (F : MtC P w G mg base c n j s) (h : j ≤ k) : MtC P w G mg base c n k s :=
  let ⟨f, fd, ps, h1, h2, h3, h4⟩ := F.ex
  ⟨f, fd, ps, h1, h2, h3, h4.mono h⟩
def isIns (c : Nat) : D → Bool
  | .ins c' _ => c == c'
  | _ => false
/-! ### t.index(x) -/
section
variable {X : Cx}
def rTIx (K : PySem.W.Frag) : V → List V → Hp → VK → Prop := fun x xs H Q => ∃ (p : Addr) (ns : List Int) (i : Int), x = .ref p ∧ xs = [.int i] ∧ SqT K H p (ns.map V.int) ∧ i ∈ ns ∧ Q (.int (ns.idxOf i : Nat)) H
theorem mt_tix : MtR X "tuple.index" (rTIx X.K) := by
  intro pins s σ H x xs v us Q I rx rs h
  obtain ⟨p, ns, i, rfl, rfl, hq, hi, q⟩ := h
  cases rx
  obtain ⟨u, rfl, t, rfl⟩ := vals1 rs
  obtain ⟨its, r, pl, hz⟩ := I.tuple hq
  have it : s.heap.IsTuple p its.toArray := by
    obtain ⟨o, h1, h2, n, h3⟩ := pl
    exact ⟨o, h1, h2, n, h3⟩
  exact PySem.SeqAt.tuple_index_ints it r.ints hi ⟨.int _, H, I.tok _, ⟨_, rfl⟩, q⟩
end
end DL
end
section
set_option Elab.async false
set_option linter.all false
set_option maxRecDepth 100000
set_option maxHeartbeats 2000000
set_option autoImplicit false
/-! DS2: sorted of a list of data of any kind that is alike. -/
namespace DL
open PySem PySem.Spec L2 PyProof.Rows
open PySem.W (EachIs AllAlike Sortable dataLe)
def encB (b : D × V) : PyData := (pyD b.1).getD .none
def encD (d : D) : PyData := (pyD d).getD .none
theorem each_vals : ∀ {bs : List (D × V)} {us : List Value}, Vals (bs.map (·.2)) us → EachIs (fun u (b : D × V) => RelV b.2 u) us bs
  | [], us, h => by cases h; exact .nil
  | b :: bs, us, h => by
    cases h with
    | cons r t => exact .cons r (each_vals t)
theorem vals_each : ∀ {bs : List (D × V)} {us : List Value}, EachIs (fun u (b : D × V) => RelV b.2 u) us bs → Vals (bs.map (·.2)) us
  | _, _, .nil => .nil
  | _, _, .cons r t => .cons r (vals_each t)
theorem each_and {α β : Type} {R S : α → β → Prop} : ∀ {as : List α} {bs : List β}, EachIs R as bs → (∀ a b, b ∈ bs → R a b → S a b) → EachIs S as bs
  | _, _, .nil, _ => .nil
  | _, _, .cons r t, h => .cons (h _ _ List.mem_cons_self r) (each_and t fun a b m => h a b (List.mem_cons_of_mem _ m))
def rSortAny (K : PySem.W.Frag) : List V → Hp → VK → Prop := fun vs H Q => ∃ (a : Addr) (bs : List (D × V)), vs = [V.ref a] ∧ SqL K H a (bs.map (·.2)) ∧ (∀ b ∈ bs, Dp K H b.2 (encB b)) ∧ AllAlike (bs.map encB) ∧ Sortable (bs.map encB) ∧ (∀ b ∈ bs, (encB b).depth ≤ 60) ∧
  ∀ p, H p = none → Q (.ref p) (upd H p (.lst ((bs.mergeSort (dataLe false encB)).map (·.2))))
section
variable {X : Cx} {G : Gx}
theorem cr_sortAny (hu : X.A.units + 65 < cLine) : CallR X (.builtin "sorted") (rSortAny X.K) := by
  intro pins s σ H vs us Q I r h
  obtain ⟨a, bs, rfl, hs, hd, hal, hk, hdep, q⟩ := h
  obtain ⟨its, rv, hl, hz⟩ := I.list hs
  rw [Vals.ref1 r]
  rw [List.length_map] at hz
  have e0 := each_vals rv
  refine PySem.W.sorted_data hl.isList e0 (each_and e0 fun u b hb rb => Dp.reads I _ _ u (hd b hb) rb) hal hk hz (fun b hb => by have := hdep b hb; omega) fun out h1 h2 => ?_
  obtain ⟨n0, at_⟩ := PyProof.Rows.sortedAll_at s.heap its out.toArray
  have hlen : ((bs.mergeSort (dataLe false encB)).map (·.2)).length ≤ sizeLine := by
    rw [List.length_map, List.length_mergeSort]
    exact hz
  refine ⟨.ref _, upd H (s.heap.objs.size + 1) (.lst ((bs.mergeSort (dataLe false encB)).map (·.2))), ?_, rfl, q _ (I.hok.fresh (Nat.le_succ _))⟩
  exact I.laid (t' := s.toks) (fun _ _ => PyProof.Rows.sortedAll_old) (Nat.le_succ _) ⟨hlen, out, n0, vals_each h2, at_⟩
/-- sorted(xs), xs alike data -/
def sortAnyD : List D → W D
  | [.lst xs] => grd ((∀ d ∈ xs, (pyD d).isSome = true ∧ (encD d).depth ≤ 60) ∧ AllAlike (xs.map encD) ∧ Sortable (xs.map encD)) (ret (.lst (xs.mergeSort (dataLe false encD))))
  | _ => stk
theorem Dens.zipped {G : Gx} {H : Hp} : ∀ {ds : List D} {vs : List V}, Dens G H ds vs → (ds.zip vs).map (·.1) = ds ∧ (ds.zip vs).map (·.2) = vs ∧ ∀ b ∈ ds.zip vs, Den G H b.1 b.2
  | [], vs, h => by rw [h.unnil]; exact ⟨rfl, rfl, fun _ hb => by cases hb⟩
  | d :: ds, vs, h => by
    obtain ⟨v, ws, rfl, h1, h2⟩ := h.uncons
    obtain ⟨a, b, c⟩ := Dens.zipped h2
    refine ⟨by rw [List.zip_cons_cons, List.map_cons, a], by rw [List.zip_cons_cons, List.map_cons, b], fun x hx => ?_⟩
    rcases List.mem_cons.mp hx with rfl | hx
    · exact h1
    · exact c x hx
theorem dens_map {G : Gx} {H : Hp} : ∀ {bs : List (D × V)}, (∀ b ∈ bs, Den G H b.1 b.2) → Dens G H (bs.map (·.1)) (bs.map (·.2))
  | [], _ => .nil
  | b :: bs, h => .cons (h b List.mem_cons_self) (dens_map fun x hx => h x (List.mem_cons_of_mem _ hx))
theorem d_sortAny (hK : X.K = G.K) : DOpL G (rSortAny X.K) sortAnyD := by
  intro H0 H xs vs QD ED Q st dd q h
  match xs, q with
  | [.lst xs], q =>
    obtain ⟨v, e, d1⟩ := dens1 dd
    obtain ⟨a, us, e1, s1, d2⟩ := den_lst d1
    obtain ⟨⟨g1, g2, g3⟩, q⟩ := q
    obtain ⟨z1, z2, z3⟩ := d2.zipped
    have em : (xs.zip us).map encB = xs.map encD := by
      have : (xs.zip us).map encB = ((xs.zip us).map (·.1)).map encD := by rw [List.map_map]; rfl
      rw [this, z1]
    have mem : ∀ b ∈ xs.zip us, b.1 ∈ xs := fun b hb => by rw [← z1]; exact List.mem_map_of_mem hb
    refine ⟨a, xs.zip us, by rw [e, e1], by rw [z2]; exact .of (st.z _ _ s1), fun b hb => ?_, by rw [em]; exact g2, by rw [em]; exact g3, fun b hb => (g1 _ (mem b hb)).2, fun p hn => ?_⟩
    · have hs := (g1 _ (mem b hb)).1
      obtain ⟨w, ew⟩ := Option.isSome_iff_exists.mp hs
      have : encB b = w := by unfold encB; rw [ew]; rfl
      rw [this, hK]
      exact pyD_ok ((z3 b hb).same st.z) ew
    · have x := Ext.put st hn (.lst (((xs.zip us).mergeSort (dataLe false encB)).map (·.2)))
      have es : ((xs.zip us).mergeSort (dataLe false encB)).map (·.1) = xs.mergeSort (dataLe false encD) := by
        rw [List.map_mergeSort (r := dataLe false encB) (s := dataLe false encD) (fun a _ b _ => rfl), z1]
      have dm : Dens G H0 (((xs.zip us).mergeSort (dataLe false encB)).map (·.1)) (((xs.zip us).mergeSort (dataLe false encB)).map (·.2)) := dens_map fun b hb => z3 b (List.mem_mergeSort.mp hb)
      rw [es] at dm
      exact h _ _ _ _ x (of_lst upd_same (dm.same x.z)) q
end
end DL
end
section
set_option Elab.async false
set_option linter.all false
set_option maxRecDepth 100000
set_option maxHeartbeats 2000000
set_option autoImplicit false
/-! DS3: min of a list of alike data; a < b of alike data. -/
namespace DL
open PySem PySem.Spec L2 PyProof.Rows
def rMinAny (K : PySem.W.Frag) : List V → Hp → VK → Prop := fun vs H Q => ∃ (a : Addr) (ys : List V) (x : PyData) (xs : List PyData), vs = [V.ref a] ∧ SqL K H a ys ∧ DpAll K H ys (x :: xs) ∧ PySem.W.AlikeAll (x :: xs) ∧ PyData.depthAll (x :: xs) ≤ 60 ∧
  ∀ (i : Nat) (v : V) (d : PyData), ys[i]? = some v → (x :: xs)[i]? = some d → d = PySem.W.minD x xs → Q v H
theorem minD_mem : ∀ (x : PyData) (xs : List PyData), PySem.W.minD x xs ∈ x :: xs
  | x, [] => List.mem_cons_self
  | x, y :: ys => by
    have := minD_mem (if PySem.W.dataLt y x then y else x) ys
    have e : PySem.W.minD x (y :: ys) = PySem.W.minD (if PySem.W.dataLt y x then y else x) ys := rfl
    rw [e]
    rcases List.mem_cons.mp this with h | h
    · rw [h]
      split
      · exact List.mem_cons_of_mem _ List.mem_cons_self
      · exact List.mem_cons_self
    · exact List.mem_cons_of_mem _ (List.mem_cons_of_mem _ h)
section
variable {X : Cx} {G : Gx}
theorem dpAll_at {K : PySem.W.Frag} {H : Hp} : ∀ {ys : List V} {ds : List PyData} {i : Nat} {v : V}, DpAll K H ys ds → ys[i]? = some v → ∃ d, ds[i]? = some d ∧ Dp K H v d
  | [], ds, i, v, h, e => by simp at e
  | y :: ys, ds, i, v, h, e => by
    cases h with
    | cons h1 h2 =>
      cases i with
      | zero => simp at e; subst e; exact ⟨_, rfl, h1⟩
      | succ i =>
        obtain ⟨d', e1, e2⟩ := dpAll_at (i := i) (v := v) h2 (by simpa using e)
        exact ⟨d', e1, e2⟩
theorem cr_minAny (hc : X.calm = true) (hu : X.A.units + 65 < cLine) : CallR X (.builtin "min") (rMinAny X.K) := by
  intro pins s σ H vs us Q I r h
  obtain ⟨a, ys, x, xs, rfl, hs, hd, ha, hdep, q⟩ := h
  obtain ⟨its, rv, hl, _⟩ := I.list hs
  rw [Vals.ref1 r]
  obtain ⟨as, hr⟩ := Dp.readsAll I _ _ _ hd rv
  refine PySem.W.min_list_data (I.ok.hd hc) hl.isList hr ha (by omega) fun i v h' tk bs hv rd hk => ?_
  have hil : i < ys.length := by
    have := (Array.getElem?_eq_some_iff.mp hv).1
    rw [rv.length]
    simpa using this
  obtain ⟨u, hu1, hu2⟩ := rv.get (List.getElem?_eq_getElem hil)
  have hvu : v = u := by
    have e : its[i]? = some v := by simpa using hv
    rw [hu1] at e
    exact (Option.some.inj e).symm
  subst hvu
  obtain ⟨d, e1, dp⟩ := dpAll_at hd (List.getElem?_eq_getElem hil)
  obtain ⟨as2, rd2⟩ := Dp.reads I _ _ _ dp hu2
  have eq := PySem.W.alike_unique d (PySem.W.minD x xs) v as2 bs (ha.1 _ (List.mem_of_getElem? e1) _ (minD_mem x xs)) (PySem.W.reads_keeps hk rd2) rd
  exact ⟨_, H, I.kept hk, hu2, q i _ d (List.getElem?_eq_getElem hil) e1 eq⟩
/-- min(xs), xs alike data -/
def minAnyD : List D → W D
  | [.lst xs] => fun Q _ => ∃ (p : PyData) (ps : List PyData), pyDs xs = some (p :: ps) ∧ PySem.W.AlikeAll (p :: ps) ∧ PyData.depthAll (p :: ps) ≤ 60 ∧ ∀ (i : Nat) d, xs[i]? = some d → (p :: ps)[i]? = some (PySem.W.minD p ps) → Q d
  | _ => stk
theorem d_minAny (hK : X.K = G.K) : DOpL G (rMinAny X.K) minAnyD := by
  intro H0 H xs vs QD ED Q st dd q h
  match xs, q with
  | [.lst xs], q =>
    obtain ⟨v, e, d1⟩ := dens1 dd
    obtain ⟨a, us, e1, s1, d2⟩ := den_lst d1
    obtain ⟨p, ps, ep, ha, hdep, q⟩ := q
    have d3 := d2.same st.z
    refine ⟨a, us, p, ps, by rw [e, e1], .of (st.z _ _ s1), by rw [hK]; exact pyDs_ok d3 ep, ha, hdep, fun i u dp hu hd he => ?_⟩
    subst he
    have hl := d2.length
    have hi : i < us.length := (List.getElem?_eq_some_iff.mp hu).1
    obtain ⟨w, hw, dw⟩ := d2.get (List.getElem?_eq_getElem (l := xs) (i := i) (by omega))
    rw [hu] at hw
    cases hw
    exact h _ _ H0 H st.refl dw (q i _ (List.getElem?_eq_getElem (by omega)) hd)
/-! ### a < b, a <= b, a > b, a >= b of alike data -/
def rOrd (K : PySem.W.Frag) (g : PyData → PyData → Bool) : R2 := fun x y H Q => ∃ p r, Dp K H x p ∧ Dp K H y r ∧ PySem.W.alike p r = true ∧ p ≠ .none ∧ p.depth ≤ 60 ∧ Q (.bl (g p r)) H
theorem room_ord {p r : PyData} {u : Nat} (hu : u + 65 < cLine) (h : p.depth ≤ 60) : u + min p.depth r.depth < cLine := by
  have := Nat.min_le_left p.depth r.depth
  omega
theorem op_ltA (hu : X.A.units + 65 < cLine) : OpR X (compareOp .Lt) (rOrd X.K PySem.W.dataLt) := by
  intro pins s σ H x y v u Q I rx ry ⟨p, r, h1, h2, h3, h4, h5, q⟩
  obtain ⟨as, ra⟩ := Dp.reads I _ _ _ h1 rx
  obtain ⟨bs, rb⟩ := Dp.reads I _ _ _ h2 ry
  exact PySem.W.lt_data ra rb h3 h4 (room_ord hu h5) ⟨.bl _, H, I, rfl, q⟩
theorem op_gtA (hu : X.A.units + 65 < cLine) : OpR X (compareOp .Gt) (rOrd X.K fun p r => PySem.W.dataLt r p) := by
  intro pins s σ H x y v u Q I rx ry ⟨p, r, h1, h2, h3, h4, h5, q⟩
  obtain ⟨as, ra⟩ := Dp.reads I _ _ _ h1 rx
  obtain ⟨bs, rb⟩ := Dp.reads I _ _ _ h2 ry
  exact PySem.W.gt_data ra rb h3 h4 (room_ord hu h5) ⟨.bl _, H, I, rfl, q⟩
theorem op_leA (hu : X.A.units + 65 < cLine) : OpR X (compareOp .LtE) (rOrd X.K fun p r => !PySem.W.dataLt r p) := by
  intro pins s σ H x y v u Q I rx ry ⟨p, r, h1, h2, h3, h4, h5, q⟩
  obtain ⟨as, ra⟩ := Dp.reads I _ _ _ h1 rx
  obtain ⟨bs, rb⟩ := Dp.reads I _ _ _ h2 ry
  exact PySem.W.le_data ra rb h3 h4 (room_ord hu h5) ⟨.bl _, H, I, rfl, q⟩
theorem op_geA (hu : X.A.units + 65 < cLine) : OpR X (compareOp .GtE) (rOrd X.K fun p r => !PySem.W.dataLt p r) := by
  intro pins s σ H x y v u Q I rx ry ⟨p, r, h1, h2, h3, h4, h5, q⟩
  obtain ⟨as, ra⟩ := Dp.reads I _ _ _ h1 rx
  obtain ⟨bs, rb⟩ := Dp.reads I _ _ _ h2 ry
  exact PySem.W.ge_data ra rb h3 h4 (room_ord hu h5) ⟨.bl _, H, I, rfl, q⟩
def ordD (g : PyData → PyData → Bool) (x y : D) : W D := bnd (optW (pyD x)) fun p => bnd (optW (pyD y)) fun r => grd (PySem.W.alike p r = true ∧ p ≠ .none ∧ p.depth ≤ 60) (ret (.bl (g p r)))
theorem dop_ord (hK : X.K = G.K) (g : PyData → PyData → Bool) : DOp2 G (rOrd X.K g) (ordD g) := by
  intro H0 H x y vx vy QD ED Q st dx dy q h
  obtain ⟨p, e1, q⟩ := optW_of q
  obtain ⟨r, e2, q⟩ := optW_of q
  obtain ⟨⟨c1, c2, c3⟩, q⟩ := q
  refine ⟨p, r, by rw [hK]; exact pyD_ok (dx.same st.z) e1, by rw [hK]; exact pyD_ok (dy.same st.z) e2, c1, c2, c3, ?_⟩
  exact h _ _ H0 H st.refl of_bl q
end
end DL
end
section
set_option Elab.async false
set_option linter.all false
set_option maxRecDepth 100000
set_option maxHeartbeats 2000000
set_option autoImplicit false
/-! DS4: an own list extended. -/
namespace DL
open PySem PySem.Spec L2 PyProof.Rows
section
variable {X : Cx} {B : Bx} {e : Expr} {we : DL.Env → W D} {pos : Pos} {x : Str} {apos cpos p1 : Pos}
def extAt (i : Nat) (ρ : DL.Env) (z : Option Addr × List D) : D → W Out
  | .lst xs => grd (z.2.length + xs.length ≤ sizeLine) (ret (.nx (ρ.set i (.own (.lst z.1 (z.2 ++ xs))))))
  | _ => stk
/-- x.extend(e) -/
theorem ds_extend (i : Nat) (he : DE X B e we) (hN : X.N[i]? = some x := by rfl) (hv : Vis X.env.scope x := by first | exact Or.inl rfl | exact Or.inr (Or.inl rfl) | exact Or.inr (Or.inr rfl)) (hd : (x == ("__debug__" : Str)) = false := by decide)
    (hcd : (x == ("__classdict__" : Str)) = false := by decide)
    (hbase : attributeBase (.Name x p1) "extend" X.env (eval (.Name x p1) X.env) = eval (.Name x p1) X.env := by rfl)
    (hfew : ((backTo cpos (starEach [e] X.env)).all (fun x => !x.1) && (backToKw cpos (keywordEach [] X.env)).all (fun x => x.1.isSome)
      && decide (([e] : List Expr).length + ([] : List Keyword).length + (if ([] : List Keyword).isEmpty then 0 else 1) < 30)) = true := by rfl)
    (hline : (apos.endLine == cpos.line) = true := by rfl) (hs : starEach [e] X.env = (false, eval e X.env) :: starEach [] X.env := by rfl) (hplain : (backTo cpos (starEach [] X.env)).any (·.1) = false := by rfl)
    (hsw : swapsWith (.Call (.Attribute (.Name x p1) "extend" apos) [e] [] cpos) none pos.line X.env = pure false := by rfl) :
    DS X B (.Expr (.Call (.Attribute (.Name x p1) "extend" apos) [e] [] cpos) pos) (fun ρ => bnd (ownL i ρ) fun z => bnd (we ρ) fun d => extAt i ρ z d) := by
  refine PS.imp (ps_expr (pe_bm PySem.F.plainAttrs_list PySem.F.slot_list_extend PySem.F.type_list_extend mt_extend (pe_var hN hv hd hcd) (pa_cons he pa_nil hs) hbase hfew hline hs hplain) hsw) fun D σ H ⟨ρ, H0, QO, k, q, h, _⟩ => ?_
  obtain ⟨oa, ds, z, q⟩ := ownL_of q
  obtain ⟨a, e1, h1, h2, ha, vs, h3, h4⟩ := k.own_at z
  refine ⟨.ref a, e1, .inl ⟨rfl, _, .of h3⟩, ρ, H0, _, k, q, fun d v H1 H2 x dd q1 => ?_⟩
  cases d <;> first | exact (show False from q1).elim | skip
  rename_i xs
  have k2 := k.later x
  have h3' : H2 a = some (.lst vs) := x.n _ _ h3 fun _ z => by cases z
  have d4 := h4.same x.z
  obtain ⟨b, us, f1, s1, d1⟩ := den_lst dd
  have s2 : H2 b = some (.lst us) := x.zz _ _ s1
  refine ⟨a, b, vs, us, rfl, by rw [f1], h3', s2, by rw [← h4.length, ← d1.length]; exact q1.1, ?_⟩
  exact h _ σ H1 _ (k2.own (o' := .lst oa (ds ++ xs)) z e1 ⟨ha, _, upd_same, d4.append d1⟩) x.z q1.2
end
end DL
end
section
set_option Elab.async false
set_option linter.all false
set_option maxRecDepth 100000
set_option maxHeartbeats 2000000
set_option autoImplicit false
/-! DS5: dicts with keys that are ints or texts: plain relations. -/
namespace DL
open PySem PySem.Spec L2 PyProof.Rows
def getKD (kk : List Key) (us : List D) (k : Key) : Option D := ((kk.zip us).find? fun kv => decide (kv.1 = k)).map (·.2)
def repKD (kk : List Key) (us : List D) (k : Key) (d : D) : List D := (kk.zip us).map fun kv => if kv.1 = k then d else kv.2
theorem getKD_rel {G : Gx} {H : Hp} (k : Key) : ∀ {kk : List Key} {us : List D} {vs : List V}, kk.length = us.length → Dens G H us vs →
    (getKD kk us k = none ∧ valV (kk.zip vs) k = none) ∨ ∃ d v, getKD kk us k = some d ∧ valV (kk.zip vs) k = some v ∧ Den G H d v
  | [], us, vs, _, _ => .inl ⟨rfl, rfl⟩
  | q :: kk, [], vs, hl, _ => by simp at hl
  | q :: kk, u :: us, vs, hl, h => by
    obtain ⟨v, ws, rfl, h1, h2⟩ := h.uncons
    by_cases e : q = k
    · exact .inr ⟨u, v, by simp [getKD, e], by rw [List.zip_cons_cons, valV_pos e], h1⟩
    · have e1 : getKD (q :: kk) (u :: us) k = getKD kk us k := by simp [getKD, e]
      have e2 : valV ((q :: kk).zip (v :: ws)) k = valV (kk.zip ws) k := by rw [List.zip_cons_cons, valV_neg e]
      rw [e1, e2]
      exact getKD_rel k (by simpa using hl) h2
theorem repKD_rel {G : Gx} {H : Hp} (k : Key) {d : D} {v : V} (dv : Den G H d v) : ∀ {kk : List Key} {us : List D} {vs : List V}, kk.length = us.length → Dens G H us vs →
    ∃ ws, (kk.zip vs).map (fun kv => if kv.1 = k then (kv.1, v) else kv) = kk.zip ws ∧ Dens G H (repKD kk us k d) ws ∧ ws.length = vs.length
  | [], [], vs, _, h => ⟨[], by simp, .nil, by rw [h.unnil]⟩
  | [], u :: us, vs, hl, _ => by simp at hl
  | q :: kk, [], vs, hl, _ => by simp at hl
  | q :: kk, u :: us, vs, hl, h => by
    obtain ⟨w, ws, rfl, h1, h2⟩ := h.uncons
    obtain ⟨ws', e1, e2, e3⟩ := repKD_rel k dv (kk := kk) (by simpa using hl) h2
    by_cases e : q = k
    · refine ⟨v :: ws', by simp only [List.zip_cons_cons, List.map_cons, e1, e, if_true], ?_, by simp [e3]⟩
      have : repKD (q :: kk) (u :: us) k d = d :: repKD kk us k d := by simp [repKD, e]
      rw [this]
      exact .cons dv e2
    · refine ⟨w :: ws', by simp only [List.zip_cons_cons, List.map_cons, e1, if_neg e], ?_, by simp [e3]⟩
      have : repKD (q :: kk) (u :: us) k d = u :: repKD kk us k d := by simp [repKD, e]
      rw [this]
      exact .cons h1 e2
end DL
end
section
set_option Elab.async false
set_option linter.all false
set_option maxRecDepth 100000
set_option maxHeartbeats 2000000
set_option autoImplicit false
/-! DS6: an own dict (keys ints or texts): made, an item set, read, asked for. -/
namespace DL
open PySem PySem.Spec L2 PyProof.Rows
def ownK (i : Nat) (ρ : DL.Env) : W (List Key × List D × List D) := match ρ[i]? with
  | some (.own (.dic ks us)) => bnd (optW (mapO dKey ks)) fun kk => ret (kk, ks, us)
  | _ => stk
theorem ownK_of {i : Nat} {ρ : DL.Env} {Q : List Key × List D × List D → Prop} {E : DX → Prop} (h : ownK i ρ Q E) : ∃ ks us kk, ρ[i]? = some (.own (.dic ks us)) ∧ mapO dKey ks = some kk ∧ Q (kk, ks, us) := by
  unfold ownK at h
  cases e : ρ[i]? with
  | none => rw [e] at h; exact (show False from h).elim
  | some s =>
    rw [e] at h
    cases s with
    | own o =>
      cases o with
      | dic ks us =>
        obtain ⟨kk, ek, q⟩ := optW_of h
        exact ⟨_, _, kk, rfl, ek, q⟩
      | dicT _ _ => exact (show False from h).elim
      | dicF _ _ => exact (show False from h).elim
      | lst _ _ => exact (show False from h).elim
      | ins _ _ _ => exact (show False from h).elim
      | hnd _ _ _ _ => exact (show False from h).elim
    | d x => exact (show False from h).elim
    | un => exact (show False from h).elim
    | exc x a => exact (show False from h).elim
theorem mapO_len {α β : Type} {f : α → Option β} : ∀ {l : List α} {bs : List β}, mapO f l = some bs → bs.length = l.length
  | [], bs, h => by simp only [mapO] at h; cases h; rfl
  | x :: l, bs, h => by
    simp only [mapO] at h
    cases e1 : f x with
    | none => rw [e1] at h; cases h
    | some y =>
      cases e2 : mapO f l with
      | none => rw [e1, e2] at h; cases h
      | some ys => rw [e1, e2] at h; cases h; simp [mapO_len e2]
theorem mapO_app {α β : Type} {f : α → Option β} {x : α} {y : β} (hx : f x = some y) : ∀ {l : List α} {bs : List β}, mapO f l = some bs → mapO f (l ++ [x]) = some (bs ++ [y])
  | [], bs, h => by simp only [mapO] at h; cases h; simp [mapO, hx]
  | z :: l, bs, h => by
    simp only [mapO] at h
    cases e1 : f z with
    | none => rw [e1] at h; cases h
    | some w =>
      cases e2 : mapO f l with
      | none => rw [e1, e2] at h; cases h
      | some ys =>
        rw [e1, e2] at h
        cases h
        simp [mapO, e1, mapO_app hx e2]
theorem dKey_den {G : Gx} {H : Hp} {d : D} {v : V} {k : Key} (h : Den G H d v) (e : dKey d = some k) : v = kV k := by
  cases d <;> first | (simp [dKey] at e; done) | skip
  · rename_i i
    cases e
    exact den_int h
  · rename_i x
    cases e
    exact den_str h
def putAt (i : Nat) (ρ : DL.Env) (z : List Key × List D × List D) (k d : D) : W Out := bnd (optW (dKey k)) fun q =>
  if (getKD z.1 z.2.2 q).isSome = true then grd (z.1.length < sizeLine) (ret (.nx (ρ.set i (.own (.dic z.2.1 (repKD z.1 z.2.2 q d))))))
  else grd (z.1.length < sizeLine) (ret (.nx (ρ.set i (.own (.dic (z.2.1 ++ [k]) (z.2.2 ++ [d]))))))
end DL
end
section
set_option Elab.async false
set_option linter.all false
set_option maxRecDepth 100000
set_option maxHeartbeats 2000000
set_option autoImplicit false
/-! DV: what a generated walk leans on. -/
namespace DL
open PySem PySem.Spec L2 PyProof.Rows
/-! ### parts of the text -/
def xdef : Expr := .Constant .none 0 ⟨0, 0, 0, 0⟩
def clsBody : Stmt → List Stmt
  | .ClassDef _ _ _ b _ _ _ _ _ _ _ => b
  | _ => []
def xAt (i : Nat) (ss : List Stmt) : Stmt := ss.getD i (.Pass ⟨0, 0, 0, 0⟩)
def xRet : Stmt → Expr
  | .Return (some e) _ => e
  | _ => xdef
def xExp : Stmt → Expr
  | .Expr e _ => e
  | _ => xdef
def xAsg : Stmt → Expr
  | .Assign _ e _ => e
  | _ => xdef
def xBody : Stmt → List Stmt
  | .If _ b _ _ => b
  | .While _ b _ _ => b
  | .For _ _ b _ _ => b
  | _ => []
def xElse : Stmt → List Stmt
  | .If _ _ b _ => b
  | _ => []
def xArg (i : Nat) : Expr → Expr
  | .Call _ es _ _ => es.getD i xdef
  | _ => xdef
def lamA : Expr → Arguments
  | .Lambda a _ _ _ => a
  | _ => { posonlyargs := [], args := [], vararg := none, kwonlyargs := [], kw_defaults := [], kwarg := none, defaults := [] }
def lamB : Expr → Expr
  | .Lambda _ b _ _ => b
  | _ => xdef
def lamS : Expr → Scope
  | .Lambda _ _ s _ => s
  | _ => { kind := .function, names := [], isGenerator := false, isCoroutine := false }
def nmOf (l : List ((Nat × Nat) × Str)) (a b : Nat) : Str := (l.lookup (a, b)).getD ""
/-! ### rooms -/
theorem LamOk.mono {P : Program} {w : World} {G : Gx} {mg : Str → Option Value} {base : Heap} {j k n : Nat} (h : LamOk P w G mg base j n) (hk : j ≤ k) : LamOk P w G mg base k n :=
  fun A outer s H us vs Q f ws H0 cs ds QD ED E hr => h A outer s H us vs Q f ws H0 cs ds QD ED E (hr.mono hk)
def CloH (P : Program) (w : World) (G : Gx) (mg : Str → Option Value) (base : Heap) (k : Nat) : Prop := ∀ j cs ds Q E, G.cloW j cs ds Q E → LamOk P w G mg base k j
theorem CloH.mono {P : Program} {w : World} {G : Gx} {mg : Str → Option Value} {base : Heap} {j k : Nat} (h : CloH P w G mg base j) (hk : j ≤ k) : CloH P w G mg base k := fun i cs ds Q E q => (h i cs ds Q E q).mono hk
theorem MtH.mono {P : Program} {w : World} {G : Gx} {mg : Str → Option Value} {base : Heap} {c n j k : Nat} {m : Str} {s : List D → W D} (h : MtH P w G mg base c m n j s) (hk : j ≤ k) : MtH P w G mg base c m n k s :=
  let ⟨f, fd, ps, h1, h2, h3, h4, h5, h6⟩ := h.ex
  ⟨f, fd, ps, h1, h2, h3, h4, h5, h6.mono hk⟩
theorem MtH.imp {P : Program} {w : World} {G : Gx} {mg : Str → Option Value} {base : Heap} {c n k : Nat} {m : Str} {s s' : List D → W D} (F : MtH P w G mg base c m n k s) (h : ∀ ds Q E, s' ds Q E → s ds Q E) : MtH P w G mg base c m n k s' :=
  let ⟨f, fd, ps, h1, h2, h3, h4, h5, h6⟩ := F.ex
  ⟨f, fd, ps, h1, h2, h3, h4, h5, h6.imp fun vs H Q E ⟨H0, ds, QD, ED, l, st, dd, q, e1, e2⟩ => ⟨H0, ds, QD, ED, l, st, dd, h _ _ _ q, e1, e2⟩⟩
theorem EqsH.mono {P : Program} {w : World} {G : Gx} {mg : Str → Option Value} {base : Heap} {j k : Nat} {S : Nat → List D → W D} (h : EqsH P w G mg base j S) (hk : j ≤ k) : EqsH P w G mg base k S :=
  fun c Q E x y q => ⟨(h c Q E x y q).1.mono hk, (h c Q E x y q).2⟩
def eqS0 : Nat → List D → W D := fun _ _ => stk
theorem EQ0 {P : Program} {w : World} {G : Gx} {mg : Str → Option Value} {base : Heap} {k : Nat} : EqsH P w G mg base k eqS0 := fun _ _ _ _ _ q => (show False from q).elim
theorem code_of {K : PySem.W.Frag} {x q : Str} {a : Arguments} {b : List Stmt} {sc : Scope} {dv : List V} {kw : List (Str × V)} {p : Str × Option Str} {fd : FuncData} (F : FunD K x q a b sc dv kw (He.fAd K p) fd) : fd.code = .ref (He.cT K p).1 := by
  obtain ⟨oc, od, dV, kV, doc, pm, an, cdv, ct, osl, rfl, lk, hcd, _, _⟩ := F.ex
  obtain ⟨c, e⟩ := He.codeIn_ref hcd
  have := He.codeOf_eq lk (c := c) (by rw [← e])
  show cdv = .ref (He.codeOf K p)
  rw [this, e]
/-! ### never reached -/
section
variable {X : Cx} {B : Bx} {e : Expr} {we : DL.Env → W D} {p pos : Pos}
theorem dss_stuck {ss : List Stmt} : DSs X B ss (fun _ => stk) := ⟨fun _ _ _ _ _ _ ⟨_, _, _, _, q, _⟩ => (show False from q).elim⟩
/-! ### list(range(..)), tuple(range(..)) -/
def rgW : D → W (List D)
  | .int n => grd (-1000000000 ≤ n ∧ n ≤ 16777216) (ret (rangeD 0 n.toNat))
  | _ => stk
theorem rangeV {G : Gx} {H : Hp} (lo : Int) : ∀ n : Nat, Dens G H (rangeD lo n) ((List.range n).map fun i => V.int (lo + (i : Nat))) := fun n => by
  unfold rangeD
  have : (List.range n).map (fun i : Nat => D.int (lo + (i : Int))) = ((List.range n).map fun i : Nat => lo + (i : Int)).map D.int := by rw [List.map_map]; rfl
  rw [this]
  have : (List.range n).map (fun i : Nat => V.int (lo + (i : Int))) = ((List.range n).map fun i : Nat => lo + (i : Int)).map V.int := by rw [List.map_map]; rfl
  rw [this]
  exact Dens.of_ints _
theorem de_listRg {q qos : Pos} (hc : X.calm = true) (hg : Gl X "list") (hm : X.mg "list" = none) (hg2 : Gl X "range") (hm2 : X.mg "range" = none) (he : DE X B e we)
    (na : starEach [e] X.env = (false, eval e X.env) :: starEach [] X.env := by rfl) (na2 : starEach [.Call (.Name "range" q) [e] [] qos] X.env = (false, eval (.Call (.Name "range" q) [e] [] qos) X.env) :: starEach [] X.env := by rfl) :
    DE X B (.Call (.Name "list" p) [.Call (.Name "range" q) [e] [] qos] [] pos) (fun ρ => bnd (we ρ) fun d => bnd (rgW d) fun xs => ret (.lst xs)) := by
  refine PE.imp (pe_listRg hc hg hm (prg_1 hg2 hm2 he na) na2) fun σ H Q ⟨ρ, H0, QD, k, q, h⟩ => ⟨ρ, H0, _, k, q, fun d v H1 H2 x dd q1 => ?_⟩
  cases d <;> first | exact (show False from q1).elim | skip
  obtain ⟨⟨b1, b2⟩, q1⟩ := q1
  refine ⟨_, den_int dd, ⟨by omega, by omega, by omega, by omega, by omega⟩, fun l hl => ?_⟩
  have x2 := Ext.put x.st hl (.lst (rgV 0 ‹Int›))
  refine h _ _ _ _ (x.trans x2) (of_lst upd_same ?_) q1
  have := rangeV (G := B.G) (H := upd H1 l (.lst (rgV 0 ‹Int›))) 0 (‹Int›).toNat
  have e : rgV 0 ‹Int› = (List.range (‹Int›).toNat).map fun i => V.int (0 + (i : Nat)) := by unfold rgV; rw [Int.sub_zero]
  rw [← e] at this
  exact this
theorem de_tupRg {q qos : Pos} (hc : X.calm = true) (hg : Gl X "tuple") (hm : X.mg "tuple" = none) (hg2 : Gl X "range") (hm2 : X.mg "range" = none) (he : DE X B e we)
    (na : starEach [e] X.env = (false, eval e X.env) :: starEach [] X.env := by rfl) (na2 : starEach [.Call (.Name "range" q) [e] [] qos] X.env = (false, eval (.Call (.Name "range" q) [e] [] qos) X.env) :: starEach [] X.env := by rfl) :
    DE X B (.Call (.Name "tuple" p) [.Call (.Name "range" q) [e] [] qos] [] pos) (fun ρ => bnd (we ρ) fun d => bnd (rgW d) fun xs => ret (.tup xs)) := by
  refine PE.imp (pe_tupRg hc hg hm (prg_1 hg2 hm2 he na) na2) fun σ H Q ⟨ρ, H0, QD, k, q, h⟩ => ⟨ρ, H0, _, k, q, fun d v H1 H2 x dd q1 => ?_⟩
  cases d <;> first | exact (show False from q1).elim | skip
  obtain ⟨⟨b1, b2⟩, q1⟩ := q1
  refine ⟨_, den_int dd, ⟨by omega, by omega, by omega, by omega, by omega⟩, fun l hl => ?_⟩
  have x2 := Ext.put x.st hl (.tup (rgV 0 ‹Int›))
  refine h _ _ _ _ (x.trans x2) (of_tup upd_same ?_) q1
  have := rangeV (G := B.G) (H := upd H1 l (.tup (rgV 0 ‹Int›))) 0 (‹Int›).toNat
  have e : rgV 0 ‹Int› = (List.range (‹Int›).toNat).map fun i => V.int (0 + (i : Nat)) := by unfold rgV; rw [Int.sub_zero]
  rw [← e] at this
  exact this
end
end DL
end
section
set_option Elab.async false
set_option linter.all false
set_option maxRecDepth 100000
set_option maxHeartbeats 2000000
set_option autoImplicit false
/-! O1: transformers without draws as plain functions (stuck, an answer, an exception). -/
namespace DL
open PySem PySem.Spec L2 PyProof.Rows
inductive O (α : Type) where
  | st | ok (a : α) | ex (x : DX)
section
variable {α β γ : Type}
def O.w : O α → W α
  | .st => stk
  | .ok a => ret a
  | .ex x => thr x
def ob (m : O α) (f : α → O β) : O β := match m with
  | .st => .st
  | .ok a => f a
  | .ex x => .ex x
def og (c : Prop) [Decidable c] (m : O α) : O α := if c then m else .st
def oo : Option α → O α
  | some a => .ok a
  | none => .st
def ono : O α → O α
  | .ex _ => .st
  | .ok a => .ok a
  | .st => .st
theorem ob_ok (a : α) (f : α → O β) : ob (.ok a) f = f a := rfl
theorem ob_st (f : α → O β) : ob .st f = .st := rfl
theorem ob_ex (x : DX) (f : α → O β) : ob (.ex x) f = .ex x := rfl
theorem ob_as (m : O α) (f : α → O β) (g : β → O γ) : ob (ob m f) g = ob m fun a => ob (f a) g := by cases m <;> rfl
theorem og_t {c : Prop} [Decidable c] (h : c) (m : O α) : og c m = m := if_pos h
theorem oo_some (a : α) : oo (some a) = .ok a := rfl
theorem ono_ok (a : α) : ono (.ok a) = .ok a := rfl
theorem ob_ite (c : Prop) [Decidable c] (a b : O α) (f : α → O β) : ob (if c then a else b) f = if c then ob a f else ob b f := by split <;> rfl
theorem w_ok (a : α) : (O.ok a).w = ret a := rfl
theorem w_st : (O.st : O α).w = stk := rfl
theorem w_ex (x : DX) : (O.ex x : O α).w = thr x := rfl
theorem w_ob (m : O α) (f : α → O β) : (ob m f).w = bnd m.w fun a => (f a).w := by cases m <;> rfl
theorem w_og (c : Prop) [Decidable c] (m : O α) : (og c m).w = grd c m.w := by
  funext Q E
  by_cases h : c
  · show (if c then m else O.st).w Q E = (c ∧ m.w Q E)
    simp [h]
  · show (if c then m else O.st).w Q E = (c ∧ m.w Q E)
    simp [h, O.w, stk]
theorem w_oo (o : Option α) : (oo o).w = optW o := by cases o <;> rfl
theorem w_ono (m : O α) : (ono m).w = nox m.w := by cases m <;> rfl
theorem w_ite (c : Prop) [Decidable c] (a b : O α) : (if c then a else b).w = if c then a.w else b.w := by split <;> rfl
/-! ### names -/
def rdO (ρ : DL.Env) (i : Nat) : O D := match ρ[i]? with
  | some (.d x) => .ok x
  | _ => .st
theorem w_rd (ρ : DL.Env) (i : Nat) : (rdO ρ i).w = rd ρ i := by
  unfold rdO rd
  rcases ρ[i]? with _ | s
  · rfl
  · cases s <;> rfl
def rdsO : List Nat → DL.Env → O (List D)
  | [], _ => .ok []
  | j :: js, ρ => ob (rdO ρ j) fun d => ob (rdsO js ρ) fun ds => .ok (d :: ds)
theorem w_rds : ∀ (js : List Nat) (ρ : DL.Env), (rdsO js ρ).w = rds js ρ
  | [], _ => rfl
  | j :: js, ρ => by simp only [rdsO, rds, w_ob, w_rd, w_rds js ρ, w_ok]
/-! ### truth -/
def asBO : D → O Bool
  | .bl b => .ok b
  | _ => .st
theorem w_asB (d : D) : (asBO d).w = asB d := by cases d <;> rfl
def truO : D → O Bool
  | .non => .ok false
  | .bl b => .ok b
  | .int i => .ok (i != 0)
  | .str x => og (x.length ≤ sizeLine) (.ok ((x.length : Int) != 0))
  | .tup xs => .ok (!xs.isEmpty)
  | .lst xs => .ok (!xs.isEmpty)
  | _ => .st
theorem w_tru (d : D) : (truO d).w = truD d := by cases d <;> first | rfl | exact w_og _ _
def andO (x y : O Bool) : O Bool := ob x fun c => if c = true then y else .ok false
def orO' (x y : O Bool) : O Bool := ob x fun c => if c = true then .ok true else y
def notO (x : O Bool) : O Bool := ob x fun c => .ok (!c)
theorem w_andT (x y : O Bool) : (andO x y).w = andT x.w y.w := by simp only [andO, andT, w_ob, w_ite, w_ok]
theorem w_orT (x y : O Bool) : (orO' x y).w = orT x.w y.w := by simp only [orO', orT, w_ob, w_ite, w_ok]
theorem w_notT (x : O Bool) : (notO x).w = notT x.w := by simp only [notO, notT, w_ob, w_ok]
/-! ### operators -/
def onI2O (g : Int → Int → O D) : D → D → O D
  | .int i, .int j => g i j
  | _, _ => .st
theorem w_onI2 {g : Int → Int → O D} {f : Int → Int → W D} (h : ∀ i j, (g i j).w = f i j) (x y : D) : (onI2O g x y).w = onI2 f x y := by
  cases x <;> first | rfl | (cases y <;> first | rfl | exact h _ _)
instance (i j : Int) : Decidable (MulOk i j) := by unfold MulOk CMul CMulW; infer_instance
instance (i j : Int) : Decidable (CDivW i j) := by unfold CDivW; infer_instance
instance (i j : Int) : Decidable (CPow i j) := by unfold CPow; infer_instance
def addO : D → D → O D
  | .int i, .int j => .ok (.int (i + j))
  | .lst xs, .lst ys => og (xs.length + ys.length ≤ sizeLine) (.ok (.lst (xs ++ ys)))
  | .tup xs, .tup ys => og (xs.length + ys.length ≤ sizeLine) (.ok (.tup (xs ++ ys)))
  | .str x, .str y => og (x.length + y.length ≤ sizeLine) (.ok (.str (x ++ y)))
  | _, _ => .st
theorem w_add (x y : D) : (addO x y).w = addD x y := by
  cases x <;> first | rfl | (cases y <;> first | rfl | exact w_og _ _)
def subO : D → D → O D := onI2O fun i j => .ok (.int (i - j))
theorem w_sub (x y : D) : (subO x y).w = subD x y := w_onI2 (fun _ _ => rfl) x y
def mulO : D → D → O D
  | .int i, .int j => og (MulOk i j) (.ok (.int (i * j)))
  | .lst xs, .int k => og (xs.length * k.toNat ≤ sizeLine ∧ k < 2 ^ 63 ∧ -(2 ^ 63) ≤ k) (.ok (.lst (List.replicate k.toNat xs).flatten))
  | .tup xs, .int k => og (-1000 ≤ k ∧ k ≤ 1000 ∧ xs.length ≤ 1000) (.ok (.tup (List.replicate k.toNat xs).flatten))
  | _, _ => .st
theorem w_mul (x y : D) : (mulO x y).w = mulD x y := by
  cases x <;> first | rfl | (cases y <;> first | rfl | exact w_og _ _)
def modO : D → D → O D := onI2O fun i j => og (0 < j) (.ok (.int (i % j)))
theorem w_mod (x y : D) : (modO x y).w = modD x y := w_onI2 (fun _ _ => w_og _ _) x y
def divO : D → D → O D := onI2O fun i j => og (CDivW i j) (.ok (.int (i / j)))
theorem w_div (x y : D) : (divO x y).w = divD x y := w_onI2 (fun _ _ => w_og _ _) x y
def powO : D → D → O D := onI2O fun i j => og (CPow i j) (.ok (.int (i ^ j.toNat)))
theorem w_pow (x y : D) : (powO x y).w = powD x y := w_onI2 (fun _ _ => w_og _ _) x y
def shlO : D → D → O D := onI2O fun i j => og (CPow i j) (.ok (.int (i * 2 ^ j.toNat)))
theorem w_shl (x y : D) : (shlO x y).w = shlD x y := w_onI2 (fun _ _ => w_og _ _) x y
def bandO : D → D → O D := onI2O fun i j => .ok (.int (Builtin.bitAnd i j))
theorem w_band (x y : D) : (bandO x y).w = andD x y := w_onI2 (fun _ _ => rfl) x y
def borO : D → D → O D := onI2O fun i j => .ok (.int (Builtin.bitOr i j))
theorem w_bor (x y : D) : (borO x y).w = orD x y := w_onI2 (fun _ _ => rfl) x y
def negO : D → O D
  | .int i => .ok (.int (-i))
  | _ => .st
theorem w_neg (x : D) : (negO x).w = negD x := by cases x <;> rfl
def ltO : D → D → O D := onI2O fun i j => .ok (.bl (decide (i < j)))
def leO : D → D → O D := onI2O fun i j => .ok (.bl (decide (i ≤ j)))
def gtO : D → D → O D := onI2O fun i j => .ok (.bl (decide (j < i)))
def geO : D → D → O D := onI2O fun i j => .ok (.bl (decide (j ≤ i)))
theorem w_lt (x y : D) : (ltO x y).w = ltD x y := w_onI2 (fun _ _ => rfl) x y
theorem w_le (x y : D) : (leO x y).w = leD x y := w_onI2 (fun _ _ => rfl) x y
theorem w_gt (x y : D) : (gtO x y).w = gtD x y := w_onI2 (fun _ _ => rfl) x y
theorem w_ge (x y : D) : (geO x y).w = geD x y := w_onI2 (fun _ _ => rfl) x y
def isO (x y : D) : O D := match y with
  | .non => .ok (.bl (isNon x))
  | _ => .st
theorem w_is (x y : D) : (isO x y).w = isD x y := by cases y <;> rfl
def isnotO (x y : D) : O D := match y with
  | .non => .ok (.bl (!isNon x))
  | _ => .st
theorem w_isnot (x y : D) : (isnotO x y).w = isnotD x y := by cases y <;> rfl
def ixO : D → D → O D
  | .lst xs, .int i => oo (atI xs i)
  | .tup xs, .int i => oo (atI xs i)
  | _, _ => .st
theorem w_ix (x y : D) : (ixO x y).w = ixD x y := by
  cases x <;> first | rfl | (cases y <;> first | rfl | exact w_oo _)
def fldO (fl : Nat → List Str) (f : Str) : D → O D
  | .ins c fs => oo (lookD f (fl c) fs)
  | _ => .st
theorem w_fld {G : Gx} {fl : Nat → List Str} (h : G.flds = fl) (f : Str) (x : D) : (fldO fl f x).w = fldD G f x := by
  subst h
  cases x <;> first | rfl | exact w_oo _
/-! ### built-ins -/
def lenO : List D → O D
  | [.lst xs] => .ok (.int xs.length)
  | [.tup xs] => .ok (.int xs.length)
  | [.str z] => og (z.length ≤ sizeLine) (.ok (.int z.length))
  | _ => .st
theorem w_len (ds : List D) : (lenO ds).w = lenD ds := by
  rcases ds with _ | ⟨d, _ | ⟨e, r⟩⟩
  · rfl
  · cases d <;> first | rfl | exact w_og _ _
  · cases d <;> rfl
def sumO : List D → O D
  | [.lst xs] => ob (oo (intsD xs)) fun ns => .ok (.int ns.sum)
  | _ => .st
theorem w_sum (ds : List D) : (sumO ds).w = sumD ds := by
  rcases ds with _ | ⟨d, _ | ⟨e, r⟩⟩
  · rfl
  · cases d <;> first | rfl | (simp only [sumO, sumD, w_ob, w_oo, w_ok])
  · cases d <;> rfl
def anyO : List D → O D
  | [.lst xs] => ob (oo (boolsD xs)) fun ns => .ok (.bl (ns.any id))
  | _ => .st
theorem w_any (ds : List D) : (anyO ds).w = anyD ds := by
  rcases ds with _ | ⟨d, _ | ⟨e, r⟩⟩
  · rfl
  · cases d <;> first | rfl | (simp only [anyO, anyD, w_ob, w_oo, w_ok])
  · cases d <;> rfl
def allO : List D → O D
  | [.lst xs] => ob (oo (boolsD xs)) fun ns => .ok (.bl (ns.all id))
  | _ => .st
theorem w_all (ds : List D) : (allO ds).w = allD ds := by
  rcases ds with _ | ⟨d, _ | ⟨e, r⟩⟩
  · rfl
  · cases d <;> first | rfl | (simp only [allO, allD, w_ob, w_oo, w_ok])
  · cases d <;> rfl
def tupleO : List D → O D
  | [.lst xs] => .ok (.tup xs)
  | [.tup xs] => .ok (.tup xs)
  | _ => .st
theorem w_tuple (ds : List D) : (tupleO ds).w = tupleD ds := by
  rcases ds with _ | ⟨d, _ | ⟨e, r⟩⟩
  · rfl
  · cases d <;> rfl
  · cases d <;> rfl
def listO : List D → O D
  | [.lst xs] => .ok (.lst xs)
  | [.tup xs] => .ok (.lst xs)
  | _ => .st
theorem w_list (ds : List D) : (listO ds).w = listD ds := by
  rcases ds with _ | ⟨d, _ | ⟨e, r⟩⟩
  · rfl
  · cases d <;> rfl
  · cases d <;> rfl
def intO' : List D → O D
  | [.int i] => .ok (.int i)
  | [.bl k] => .ok (.int (if k then 1 else 0))
  | _ => .st
theorem w_int (ds : List D) : (intO' ds).w = intD ds := by
  rcases ds with _ | ⟨d, _ | ⟨e, r⟩⟩
  · rfl
  · cases d <;> rfl
  · cases d <;> rfl
def absO : List D → O D
  | [.int i] => .ok (.int (if i < 0 then -i else i))
  | _ => .st
theorem w_abs (ds : List D) : (absO ds).w = absD ds := by
  rcases ds with _ | ⟨d, _ | ⟨e, r⟩⟩
  · rfl
  · cases d <;> rfl
  · cases d <;> rfl
/-! ### statements -/
def seqO (m : O Out) (f : DL.Env → O Out) : O Out := ob m fun o => match o with
  | .nx ρ => f ρ
  | .rt d ρ => .ok (.rt d ρ)
  | .bk ρ => .ok (.bk ρ)
  | .ct ρ => .ok (.ct ρ)
theorem w_seq (m : O Out) (f : DL.Env → O Out) : (seqO m f).w = seqW m.w fun ρ => (f ρ).w := by
  cases m with
  | st => rfl
  | ex x => rfl
  | ok o => cases o <;> rfl
def endO (m : O Out) : O D := ob m fun o => match o with
  | .nx _ => .ok .non
  | .rt d _ => .ok d
  | _ => .st
theorem w_end (m : O Out) : (endO m).w = endW m.w := by
  cases m with
  | st => rfl
  | ex x => rfl
  | ok o => cases o <;> rfl
def nilO : List D → DL.Env → O DL.Env := fun ds ρ => match ds with | [] => .ok ρ | _ => .st
def consO (g : D → DL.Env → O DL.Env) (gs : List D → DL.Env → O DL.Env) : List D → DL.Env → O DL.Env := fun ds ρ => match ds with | d :: r => ob (g d ρ) fun ρ1 => gs r ρ1 | [] => .st
def tupO (n : Nat) (gs : List D → DL.Env → O DL.Env) : D → DL.Env → O DL.Env := fun d ρ => match d with | .tup ds => og (ds.length = n) (gs ds ρ) | _ => .st
theorem w_nil (ds : List D) (ρ : DL.Env) : (nilO ds ρ).w = nilG ds ρ := by cases ds <;> rfl
theorem w_cons (g : D → DL.Env → O DL.Env) (gs : List D → DL.Env → O DL.Env) (ds : List D) (ρ : DL.Env) : (consO g gs ds ρ).w = consG (fun d ρ => (g d ρ).w) (fun ds ρ => (gs ds ρ).w) ds ρ := by
  cases ds with
  | nil => rfl
  | cons d r => simp only [consO, consG, w_ob]
theorem w_tup (n : Nat) (gs : List D → DL.Env → O DL.Env) (d : D) (ρ : DL.Env) : (tupO n gs d ρ).w = tupG n (fun ds ρ => (gs ds ρ).w) d ρ := by
  cases d <;> first | rfl | exact w_og _ _
/-! ### loops -/
def enumO : List D → O (List D)
  | [.lst xs] => .ok (enumD xs)
  | [.tup xs] => .ok (enumD xs)
  | _ => .st
theorem w_enum (ds : List D) : (enumO ds).w = enumS ds := by
  rcases ds with _ | ⟨d, _ | ⟨e, r⟩⟩
  · rfl
  · cases d <;> rfl
  · cases d <;> rfl
def seqDO : D → O (List D)
  | .lst xs => .ok xs
  | .tup xs => .ok xs
  | _ => .st
theorem w_seqD (d : D) : (seqDO d).w = seqD d := by cases d <;> rfl
def rng1O : List D → O (List D)
  | [.int n] => og (-1000000000 ≤ n ∧ n ≤ 16777216) (.ok (rangeD 0 n.toNat))
  | _ => .st
theorem w_rng1 (ds : List D) : (rng1O ds).w = rng1W ds := by
  rcases ds with _ | ⟨d, _ | ⟨e, r⟩⟩
  · rfl
  · cases d <;> first | rfl | exact w_og _ _
  · cases d <;> rfl
def rng2O : List D → O (List D)
  | [.int a, .int b] => og (-1000000000 ≤ a ∧ a ≤ 1000000000 ∧ b ≤ 16777216 ∧ -1000000000 ≤ b) (.ok (rangeD a (b - a).toNat))
  | _ => .st
theorem w_rng2 (ds : List D) : (rng2O ds).w = rng2D ds := by
  rcases ds with _ | ⟨d, _ | ⟨e, _ | ⟨f, r⟩⟩⟩
  · rfl
  · cases d <;> rfl
  · cases d <;> first | rfl | (cases e <;> first | rfl | exact w_og _ _)
  · cases d <;> first | rfl | (cases e <;> rfl)
def rgO : D → O (List D)
  | .int n => og (-1000000000 ≤ n ∧ n ≤ 16777216) (.ok (rangeD 0 n.toNat))
  | _ => .st
theorem w_rg (d : D) : (rgO d).w = rgW d := by cases d <;> first | rfl | exact w_og _ _
def zipO : List D → O (List D)
  | [.lst xs, .lst ys] => .ok (zipD xs ys)
  | [.tup xs, .tup ys] => .ok (zipD xs ys)
  | _ => .st
theorem w_zip (ds : List D) : (zipO ds).w = zipS ds := by
  rcases ds with _ | ⟨d, _ | ⟨e, _ | ⟨f, r⟩⟩⟩
  · rfl
  · cases d <;> rfl
  · cases d <;> first | rfl | (cases e <;> rfl)
  · cases d <;> first | rfl | (cases e <;> rfl)
def lcO (f : D → O (Option D)) : List D → O (List D)
  | [] => .ok []
  | x :: xs => ob (f x) fun o => ob (lcO f xs) fun ys => .ok (match o with
    | some y => y :: ys
    | none => ys)
theorem w_lcGo (f : D → O (Option D)) : ∀ xs : List D, (lcO f xs).w = lcGo (fun x => (f x).w) xs
  | [] => rfl
  | x :: xs => by
    simp only [lcO, lcGo, w_ob, w_ok, w_lcGo f xs]
    try rfl
def lcFO (own : List Nat) (g : D → DL.Env → O DL.Env) (wt : DL.Env → O Bool) (we : DL.Env → O D) (ρ : DL.Env) : D → O (Option D) := fun x =>
  ob (g x (wipeE ρ own)) fun ρ1 => ob (wt ρ1) fun t => if t = true then ob (we ρ1) fun y => .ok (some y) else .ok none
theorem w_lcF (own : List Nat) (g : D → DL.Env → O DL.Env) (wt : DL.Env → O Bool) (we : DL.Env → O D) (ρ : DL.Env) (x : D) :
    (lcFO own g wt we ρ x).w = lcF own (fun d ρ => (g d ρ).w) (fun ρ => (wt ρ).w) (fun ρ => (we ρ).w) ρ x := by
  simp only [lcFO, lcF, w_ob, w_ite, w_ok]
def forO (f : D → DL.Env → O Out) : List D → DL.Env → O Out
  | [], ρ => .ok (.nx ρ)
  | x :: xs, ρ => ob (f x ρ) fun o => match o with
    | .nx ρ' => forO f xs ρ'
    | .ct ρ' => forO f xs ρ'
    | .bk ρ' => .ok (.nx ρ')
    | .rt d ρ => .ok (.rt d ρ)
theorem w_for (f : D → DL.Env → O Out) : ∀ (xs : List D) (ρ : DL.Env), (forO f xs ρ).w = forGo (fun x ρ => (f x ρ).w) xs ρ
  | [], ρ => rfl
  | x :: xs, ρ => by
    simp only [forO, forGo]
    cases e : f x ρ with
    | st => rfl
    | ex x => rfl
    | ok o => cases o <;> first | rfl | exact w_for f xs _
/-! ### slices, lists of one's own -/
def sliceO (lo hi : Option Int) : D → O D
  | .lst xs => .ok (.lst (cutD xs lo hi))
  | .tup xs => .ok (.tup (cutD xs lo hi))
  | .scr ns => .ok (.lst (cutD (ns.map D.int) lo hi))
  | _ => .st
theorem w_slice (lo hi : Option Int) (d : D) : (sliceO lo hi d).w = sliceD lo hi d := by cases d <;> rfl
def intOO : D → O (Option Int)
  | .int i => .ok (some i)
  | _ => .st
theorem w_intO (d : D) : (intOO d).w = intO d := by cases d <;> rfl
def frzO (i : Nat) (ρ : DL.Env) : O DL.Env := match ρ[i]? with
  | some (.own o) => oo ((frzD o).map fun d => ρ.set i (.d d))
  | some (.d _) => .ok ρ
  | _ => .st
theorem w_frz (i : Nat) (ρ : DL.Env) : (frzO i ρ).w = frzW i ρ := by
  unfold frzO frzW
  rcases ρ[i]? with _ | s
  · rfl
  · cases s <;> first | rfl | exact w_oo _
def ownLO (i : Nat) (ρ : DL.Env) : O (Option Addr × List D) := match ρ[i]? with
  | some (.own (.lst oa ds)) => .ok (oa, ds)
  | _ => .st
theorem w_ownL (i : Nat) (ρ : DL.Env) : (ownLO i ρ).w = ownL i ρ := by
  unfold ownLO ownL
  rcases ρ[i]? with _ | s
  · rfl
  · cases s with
    | own o => cases o <;> rfl
    | _ => rfl
def extO (i : Nat) (ρ : DL.Env) (z : Option Addr × List D) : D → O Out
  | .lst xs => og (z.2.length + xs.length ≤ sizeLine) (.ok (.nx (ρ.set i (.own (.lst z.1 (z.2 ++ xs))))))
  | _ => .st
theorem w_ext (i : Nat) (ρ : DL.Env) (z : Option Addr × List D) (d : D) : (extO i ρ z d).w = extAt i ρ z d := by cases d <;> first | rfl | exact w_og _ _
def setO (i : Nat) (ρ : DL.Env) (z : Option Addr × List D) (d : D) : D → O Out
  | .int k => ob (oo (ixN z.2.length k)) fun j => .ok (.nx (ρ.set i (.own (.lst z.1 (z.2.set j d)))))
  | _ => .st
theorem w_setAt (i : Nat) (ρ : DL.Env) (z : Option Addr × List D) (d k : D) : (setO i ρ z d k).w = setAt i ρ z d k := by
  cases k <;> first | rfl | simp only [setO, setAt, w_ob, w_oo, w_ok]
def popO (i j : Nat) (ρ : DL.Env) (z u : Option Addr × List D) : D → O Out
  | .int k => ob (oo (if 0 ≤ k ∧ k < 1000000 ∧ z.2.length < sizeLine then u.2[k.toNat]? else none)) fun d => .ok (.nx ((ρ.set j (.own (.lst u.1 (u.2.eraseIdx k.toNat)))).set i (.own (.lst z.1 (z.2 ++ [d])))))
  | _ => .st
theorem w_popAt (i j : Nat) (ρ : DL.Env) (z u : Option Addr × List D) (d : D) : (popO i j ρ z u d).w = popAt i j ρ z u d := by
  cases d <;> first | rfl | simp only [popO, popAt, w_ob, w_oo, w_ok]
/-! ### isinstance, ==, in -/
def isiF (fl : Nat → List Str) : CV → D → Option Bool
  | .ty T, .ins c _ => if fl c ≠ [] ∧ T ∈ tyBs then some false else none
  | .ty T, d => (tyN d).bind fun a => if T ∈ tyBs then some (tyB a T) else none
  | .own c, .ins c' _ => if fl c ≠ [] ∧ fl c' ≠ [] then some (c' == c) else none
  | .own c, d => (tyN d).bind fun _ => if fl c ≠ [] then some false else none
theorem isiF_eq {G : Gx} {fl : Nat → List Str} (h : G.flds = fl) (c : CV) (d : D) : isiF fl c d = isiD G c d := by
  subst h
  cases c <;> cases d <;> rfl
def isiAF (fl : Nat → List Str) : List CV → D → Option Bool
  | [], _ => none
  | [c], d => isiF fl c d
  | c :: cs, d => match isiF fl c d with
    | some true => some true
    | some false => isiAF fl cs d
    | none => none
theorem isiAF_eq {G : Gx} {fl : Nat → List Str} (h : G.flds = fl) : ∀ (cs : List CV) (d : D), isiAF fl cs d = isiA G cs d
  | [], _ => rfl
  | [c], d => isiF_eq h c d
  | c :: c' :: cs, d => by
    simp only [isiAF, isiA, isiF_eq h c d, isiAF_eq h (c' :: cs) d]
    try rfl
theorem w_isi {G : Gx} {fl : Nat → List Str} (h : G.flds = fl) (c : CV) (d : D) : (oo ((isiF fl c d).map D.bl)).w = optW ((isiD G c d).map D.bl) := by rw [isiF_eq h, w_oo]
theorem w_isiA {G : Gx} {fl : Nat → List Str} (h : G.flds = fl) (cs : List CV) (d : D) : (oo ((isiAF fl cs d).map D.bl)).w = optW ((isiA G cs d).map D.bl) := by rw [isiAF_eq h, w_oo]
def eqO (S : Nat → List D → O D) (neg : Bool) : D → D → O D
  | .ins c xs, .ins c' ys => og (c = c') (ob (ob (ono (S c [.ins c xs, .ins c' ys])) asBO) fun t => .ok (.bl (t != neg)))
  | x, y => oo ((valD x y).map fun pq => D.bl (PyData.eqv pq.1 pq.2 != neg))
theorem w_eq {S : Nat → List D → O D} {T : Nat → List D → W D} (h : ∀ c ds, (S c ds).w = T c ds) (neg : Bool) (x y : D) : (eqO S neg x y).w = eqD T neg x y := by
  by_cases z : ∃ c xs c' ys, x = .ins c xs ∧ y = .ins c' ys
  · obtain ⟨c, xs, c', ys, rfl, rfl⟩ := z
    simp only [eqO, eqD, w_og, w_ob, w_ono, w_ok, w_asB, h]
  · have e1 : eqO S neg x y = oo ((valD x y).map fun pq => D.bl (PyData.eqv pq.1 pq.2 != neg)) := by
      cases x <;> first | rfl | skip
      cases y <;> first | rfl | exact (z ⟨_, _, _, _, rfl, rfl⟩).elim
    have e2 : eqD T neg x y = optW ((valD x y).map fun pq => D.bl (PyData.eqv pq.1 pq.2 != neg)) := by
      cases x <;> first | rfl | skip
      cases y <;> first | rfl | exact (z ⟨_, _, _, _, rfl, rfl⟩).elim
    rw [e1, e2, w_oo]
def eqO0 : Nat → List D → O D := fun _ _ => .st
theorem w_eq0 (neg : Bool) (x y : D) : (eqO eqO0 neg x y).w = eqD eqS0 neg x y := w_eq (fun _ _ => rfl) neg x y
def inO (neg : Bool) (x y : D) : O D := oo ((inV x y).map fun b => D.bl (b != neg))
theorem w_in (neg : Bool) (x y : D) : (inO neg x y).w = inD neg x y := w_oo _
/-! ### closures -/
def gNoO (d : D) : O D := og (noClo d = true) (.ok d)
/-- exceptions without fields alone -/
def xplO {α : Type} (xf : Nat → Option Str) (m : O α) : O α := match m with
  | .ex x => if (xf x.c).isNone = true then .ex x else .st
  | .ok a => .ok a
  | .st => .st
theorem w_xpl {α : Type} {G : Gx} (m : O α) : (xplO G.xfld m).w = xpl G m.w := by
  cases m with
  | st => rfl
  | ok a => rfl
  | ex x =>
    funext Q E
    show (if (G.xfld x.c).isNone = true then (O.ex x : O α) else .st).w Q E = (G.xfld x.c = none ∧ E x)
    cases e : G.xfld x.c with
    | none => simp [w_ex, thr]
    | some f => simp [w_st, stk]
def cloO (cP : Nat → List D → List D → O D) (np : Nat → Nat) (xf : Nat → Option Str) (n : Nat) : D → List D → O D
  | .clo j cs, ds => og (noClos cs = true ∧ noClos ds = true ∧ np j = n) (ob (xplO xf (cP j cs ds)) gNoO)
  | _, _ => .st
theorem w_gNo (d : D) : (gNoO d).w = gNo d := w_og _ _
theorem w_clo {G : Gx} {cP : Nat → List D → List D → O D} {np : Nat → Nat} {xf : Nat → Option Str} (h : ∀ j cs ds, (cP j cs ds).w = G.cloW j cs ds) (hn : ∀ j, (G.lam j).ps.length = np j) (hx : G.xfld = xf) (n : Nat) (f : D) (ds : List D) : (cloO cP np xf n f ds).w = cloCall G n f ds := by
  subst hx
  cases f <;> first | rfl | skip
  simp only [cloO, cloCall, w_og, w_ob, w_xpl, w_gNo, h, hn]
end
end DL
end
section
set_option Elab.async false
set_option linter.all false
set_option maxRecDepth 100000
set_option maxHeartbeats 2000000
set_option autoImplicit false
/-! R1: repr of data; own dicts (keys ints or texts): made, put, read, asked for, frozen, walked. -/
namespace DL
open PySem PySem.Spec L2 PyProof.Rows
/-! ### repr -/
section
variable {X : Cx} {B : Bx} {G : Gx}
def rReprD (K : PySem.W.Frag) : List V → Hp → VK → Prop := fun vs H Q => ∃ (v : V) (d : PyData), vs = [v] ∧ Dp K H v d ∧ (d.showable = true ∧ d.hasDict = false ∧ d.shown.length ≤ sizeLine ∧ d.depth ≤ 60) ∧ Q (.str d.shown) H
theorem cr_repr {k : Nat} (hr : Room k X.A) : CallR X (.builtin "repr") (rReprD X.K) := by
  intro pins s σ H vs us Q I r h
  obtain ⟨v, d, rfl, dp, ⟨h1, h2, h3, h4⟩, q⟩ := h
  obtain ⟨u, rfl, ru⟩ := vals1 r
  obtain ⟨as, rd⟩ := Dp.reads I d v u dp ru
  have un := hr.un
  have out : ∀ (h' : Heap) (w : Tok) (tk : Nat), (∀ b o, s.heap.get? b = some o → h'.get? b = some o) → EP X pins σ Q (.str d.shown w) { s with heap := h', toks := tk } := fun h' w tk hk => ⟨.str d.shown, H, I.kept hk, ⟨w, rfl⟩, q⟩
  cases rd with
  | none => exact PySem.P.repr_of_none (by have := out s.heap s.toks (s.toks + 1) fun _ _ e => e; simpa only [PyData.shown] using this)
  | bool b => exact PySem.P.repr_of_bool (by have := out s.heap s.toks (s.toks + 1) fun _ _ e => e; simpa only [PyData.shown] using this)
  | int i t => exact PySem.P.repr_of_int (by simpa [PyData.showable] using h1) (by have := out s.heap s.toks (s.toks + 1) fun _ _ e => e; simpa only [PyData.shown] using this)
  | str x t => exact PySem.P.repr_of_str (by have := out s.heap s.toks (s.toks + 1) fun _ _ e => e; simpa only [PyData.shown] using this) (by simpa only [PyData.shown] using h3)
  | list h1' h2' h3' h4' => exact repr_of_reads' (.list h1' h2' h3' h4') h1 (PyData.noDict_hsm h2) hr.gd (by omega) (fun _ _ e => e) (fun h' w tk hk => out h' w tk hk) h3
  | tuple h1' h2' h3' h4' => exact repr_of_reads' (.tuple h1' h2' h3' h4') h1 (PyData.noDict_hsm h2) hr.gd (by omega) (fun _ _ e => e) (fun h' w tk hk => out h' w tk hk) h3
  | dict _ _ _ _ _ => simp [PyData.hasDict] at h2
end
/-- repr(x) -/
def reprO : List D → O D
  | [d] => ob (oo (pyD d)) fun p => og (p.showable = true ∧ p.hasDict = false ∧ p.shown.length ≤ sizeLine ∧ p.depth ≤ 60) (.ok (.str p.shown))
  | _ => .st
def reprD : List D → W D
  | [d] => bnd (optW (pyD d)) fun p => grd (p.showable = true ∧ p.hasDict = false ∧ p.shown.length ≤ sizeLine ∧ p.depth ≤ 60) (ret (.str p.shown))
  | _ => stk
theorem w_repr (ds : List D) : (reprO ds).w = reprD ds := by
  rcases ds with _ | ⟨d, _ | ⟨e, r⟩⟩
  · rfl
  · simp only [reprO, reprD, w_ob, w_oo, w_og, w_ok]
  · rfl
theorem d_repr {X : Cx} {G : Gx} (hK : X.K = G.K) : DOpL G (rReprD X.K) reprD := by
  intro H0 H xs vs QD ED Q st dd q h
  match xs, q with
  | [d], q =>
    obtain ⟨v, e, d1⟩ := dens1 dd
    obtain ⟨p, ep, q⟩ := optW_of q
    exact ⟨v, p, e, by rw [hK]; exact pyD_ok (d1.same st.z) ep, q.1, h _ _ H0 H st.refl (of_str) q.2⟩
/-! ### own dicts -/
section
variable {X : Cx} {B : Bx} {e ei eo : Expr} {we wi wo : DL.Env → W D} {w : DL.Env → W Out} {st : Stmt} {pos pos' p1 p2 : Pos} {x : Str}
/-- x = {} -/
theorem ds_ownDic (i : Nat) (hN : X.N.Nodup) (hi : X.N[i]? = some x := by rfl) (hx : Loc X.env.scope x := by first | exact Or.inl rfl | exact Or.inr rfl) (hs : swapsWith (.Dict [] [] p1) (some (.Name x pos')) pos.line X.env = pure false := by rfl)
    (hf : X.fn x = true ∨ X.env.scope.names.lookup x = some .local := by first | exact .inl rfl | exact .inr rfl | assumption) : DS X B (.Assign [.Name x pos'] (.Dict [] [] p1) pos) (fun ρ => ret (.nx (ρ.set i (.own (.dic [] []))))) := by
  refine PS.imp (ps_set hN hi hx pe_dnewK hs hf) fun D σ H ⟨ρ, H0, QO, k, q, h, _⟩ p hp => ?_
  have x2 := Ext.putH k.st hp (.dK [])
  have h0 : H0 p = none := k.st.z.free hp
  refine h _ _ H0 _ ((k.later x2).put (s := .own (.dic [] [])) ⟨p, rfl, k.ext.nn p hp, h0, [], .nil, [], rfl, upd_same, rfl⟩ fun o _ j o' a ea e1 e2 => ?_) (.refl _) q
  cases ea
  obtain ⟨v, e3, a, e4, _, _, hh⟩ := k.env j _ e1
  rw [e2] at e3
  cases e3
  cases e4
  obtain ⟨u, e5⟩ := hh.there
  rw [hp] at e5
  cases e5
/-- x[ei] = e -/
theorem ds_dput (i : Nat) (hu : X.A.units + 1 < cLine) (he : DE X B e we) (hi : DE X B ei wi) (hN : X.N[i]? = some x := by rfl) (hv : Vis X.env.scope x := by first | exact Or.inl rfl | exact Or.inr (Or.inl rfl) | exact Or.inr (Or.inr rfl)) (hd : (x == ("__debug__" : Str)) = false := by decide)
    (hcd : (x == ("__classdict__" : Str)) = false := by decide) (hs : swapsWith e (some (.Subscript (.Name x p1) ei p2)) pos.line X.env = pure false := by rfl) :
    DS X B (.Assign [.Subscript (.Name x p1) ei p2] e pos) (fun ρ => bnd (we ρ) fun d => bnd (ownK i ρ) fun z => bnd (wi ρ) fun k => putAt i ρ z k d) := by
  refine PS.imp (ps_dput hu (pe_var hN hv hd hcd) hi he hs) fun D σ H ⟨ρ, H0, QO, k, q, h, _⟩ => ⟨ρ, H0, _, k, q, fun d v H1 H2 x dd q1 => ?_⟩
  obtain ⟨ks, us, kk, z, ek, q⟩ := ownK_of q1
  have k2 := k.later x
  obtain ⟨a, e1, h1, h2, vs, h4, kk', ek', h3, hl⟩ := k2.own_at z
  rw [ek] at ek'
  cases ek'
  refine ⟨.ref a, e1, ρ, H1, _, k2, q, fun dk vk H3 H4 x2 dk' q2 => ?_⟩
  obtain ⟨qk, eq, q3⟩ := optW_of q2
  have k3 := k2.later x2
  have h3' : H4 a = some (.dK (kk.zip vs)) := x2.n _ _ h3 fun _ z => by cases z
  have d4 := h4.same x2.z
  have ev := dKey_den dk' eq
  subst ev
  have hll : kk.length = us.length := by rw [hl, h4.length]
  have lz : (kk.zip vs).length = kk.length := by rw [List.length_zip, hl]; omega
  have dd3 : Den B.G H3 d v := dd.same x2.z
  rcases getKD_rel qk hll d4 with ⟨g1, g2⟩ | ⟨d5, v5, g1, g2, _⟩
  · rw [g1] at q3
    obtain ⟨l1, q3⟩ := (show grd _ _ _ _ from q3)
    refine ⟨a, _, rfl, .k h3' (by rw [lz]; exact l1), ?_⟩
    rw [putK_new _ g2]
    refine h _ σ H3 _ (k3.own (o' := .dic (ks ++ [dk]) (us ++ [d])) z e1 ⟨vs ++ [v], d4.append (.cons dd3 .nil), kk ++ [qk], mapO_app eq ek, ?_, by simp [hl]⟩) (x.z.trans x2.z) q3
    rw [upd_same, List.zip_append hl]
    rfl
  · rw [g1] at q3
    obtain ⟨l1, q3⟩ := (show grd _ _ _ _ from q3)
    obtain ⟨ws, r1, r2, r3⟩ := repKD_rel qk dd3 hll d4
    refine ⟨a, _, rfl, .k h3' (by rw [lz]; exact l1), ?_⟩
    refine h _ σ H3 _ (k3.own (o' := .dic ks (repKD kk us qk d)) z e1 ⟨ws, r2, kk, ek, ?_, by rw [r3]; exact hl⟩) (x.z.trans x2.z) q3
    rw [upd_same]
    unfold putK
    rw [valV_any, g2]
    show some (HO.dK (List.map _ _)) = _
    rw [r1]
/-- x[e] of an own dict -/
def ogetW (z : List Key × List D × List D) (d : D) : W D := bnd (optW (dKey d)) fun q => optW (getKD z.1 z.2.2 q)
theorem de_oget (i : Nat) (hu : X.A.units + 1 < cLine) (he : DE X B e we) (hN : X.N[i]? = some x := by rfl) (hv : Vis X.env.scope x := by first | exact Or.inl rfl | exact Or.inr (Or.inl rfl) | exact Or.inr (Or.inr rfl)) (hd : (x == ("__debug__" : Str)) = false := by decide)
    (hcd : (x == ("__classdict__" : Str)) = false := by decide) (hs : NoSl e := by exact fun _ _ => rfl) : DE X B (.Subscript (.Name x p1) e pos) (fun ρ => bnd (ownK i ρ) fun z => bnd (we ρ) fun d => ogetW z d) := by
  refine PE.imp (pe_dget hu (pe_var hN hv hd hcd) he hs) fun σ H Q ⟨ρ, H0, QD, k, q, h⟩ => ?_
  obtain ⟨ks, us, kk, z, ek, q⟩ := ownK_of q
  obtain ⟨a, e1, h1, h2, vs, h4, kk', ek', h3, hl⟩ := k.own_at z
  rw [ek] at ek'
  cases ek'
  refine ⟨.ref a, e1, ρ, H0, _, k, q, fun d v H1 H2 x dd q1 => ?_⟩
  obtain ⟨qk, eq, q2⟩ := optW_of q1
  obtain ⟨y, ey, q3⟩ := optW_of q2
  have ev := dKey_den dd eq
  subst ev
  have h3' : H2 a = some (.dK (kk.zip vs)) := x.n _ _ h3 fun _ z => by cases z
  have d4 := h4.same x.z
  rcases getKD_rel qk (by rw [hl, h4.length]) d4 with ⟨g1, g2⟩ | ⟨d5, v5, g1, g2, g3⟩
  · have ey' : getKD kk us qk = some y := ey
    rw [g1] at ey'; cases ey'
  · have ey' : getKD kk us qk = some y := ey
    rw [g1] at ey'; cases ey'
    exact ⟨a, v5, rfl, by rw [← g2]; exact .k h3', h _ _ H1 H2 x g3 q3⟩
/-- e in x, e not in x -/
def oinW (neg : Bool) (d : D) (z : List Key × List D × List D) : W D := bnd (optW (dKey d)) fun q => ret (.bl ((getKD z.1 z.2.2 q).isSome != neg))
theorem lift_oin (i : Nat) {neg : Bool} {σ : L2.St} {H : Hp} {Q : VK} (hN : X.N[i]? = some x) (h : lift B (fun ρ => bnd (we ρ) fun d => bnd (ownK i ρ) fun z => oinW neg d z) σ H Q) :
    lift B we σ H fun y H1 => (∃ v, σ[i]? = some (some v) ∧ ∃ a o, v = .ref a ∧ DGet H1 a y o ∧ Q (.bl (o.isSome != neg)) H1) := by
  obtain ⟨ρ, H0, QD, k, q, h⟩ := h
  refine ⟨ρ, H0, _, k, q, fun d v H1 H2 x dd q1 => ?_⟩
  obtain ⟨ks, us, kk, z, ek, q⟩ := ownK_of q1
  obtain ⟨a, e1, h1, h2, vs, h4, kk', ek', h3, hl⟩ := (k.later x).own_at z
  rw [ek] at ek'
  cases ek'
  obtain ⟨qk, eq, q2⟩ := optW_of q
  have ev := dKey_den dd eq
  subst ev
  refine ⟨.ref a, e1, a, _, rfl, .k h3, ?_⟩
  refine h _ _ H1 H2 x of_bl ?_
  have : (getKD kk us qk).isSome = (valV (kk.zip vs) qk).isSome := by
    rcases getKD_rel qk (by rw [hl, h4.length]) h4 with ⟨g1, g2⟩ | ⟨d5, v5, g1, g2, g3⟩
    · rw [g1, g2]; rfl
    · rw [g1, g2]; rfl
  rw [← this]
  exact q2
theorem de_oin (i : Nat) (hu : X.A.units + 1 < cLine) (he : DE X B e we) (hN : X.N[i]? = some x := by rfl) (hv : Vis X.env.scope x := by first | exact Or.inl rfl | exact Or.inr (Or.inl rfl) | exact Or.inr (Or.inr rfl)) (hd : (x == ("__debug__" : Str)) = false := by decide)
    (hcd : (x == ("__classdict__" : Str)) = false := by decide) (h1 : behindInMarks .In (.Name x p1) = false := by first | exact nobehind _ (by decide) (by decide) | rfl) : DE X B (.Compare e [.In] [.Name x p1] pos) (fun ρ => bnd (we ρ) fun d => bnd (ownK i ρ) fun z => oinW false d z) := by
  refine PE.imp (pe_cmp (pc_din hu he (pe_var hN hv hd hcd)) h1) fun σ H Q h => ?_
  obtain ⟨ρ, H0, QD, k, q, h⟩ := lift_oin i hN h
  refine ⟨ρ, H0, QD, k, q, fun d v H1 H2 x dd q1 => ?_⟩
  obtain ⟨v, ev, a, o, ea, g, qq⟩ := h d v H1 H2 x dd q1
  exact ⟨v, ev, a, o, ea, g, by simpa using qq⟩
theorem de_onotin (i : Nat) (hu : X.A.units + 1 < cLine) (he : DE X B e we) (hN : X.N[i]? = some x := by rfl) (hv : Vis X.env.scope x := by first | exact Or.inl rfl | exact Or.inr (Or.inl rfl) | exact Or.inr (Or.inr rfl)) (hd : (x == ("__debug__" : Str)) = false := by decide)
    (hcd : (x == ("__classdict__" : Str)) = false := by decide) (h1 : behindInMarks .NotIn (.Name x p1) = false := by first | exact nobehind _ (by decide) (by decide) | rfl) : DE X B (.Compare e [.NotIn] [.Name x p1] pos) (fun ρ => bnd (we ρ) fun d => bnd (ownK i ρ) fun z => oinW true d z) := by
  refine PE.imp (pe_cmp (pc_dnotin hu he (pe_var hN hv hd hcd)) h1) fun σ H Q h => ?_
  obtain ⟨ρ, H0, QD, k, q, h⟩ := lift_oin i hN h
  refine ⟨ρ, H0, QD, k, q, fun d v H1 H2 x dd q1 => ?_⟩
  obtain ⟨v, ev, a, o, ea, g, qq⟩ := h d v H1 H2 x dd q1
  exact ⟨v, ev, a, o, ea, g, by simpa using qq⟩
theorem dt_oin (i : Nat) (hu : X.A.units + 1 < cLine) (he : DE X B e we) (hN : X.N[i]? = some x := by rfl) (hv : Vis X.env.scope x := by first | exact Or.inl rfl | exact Or.inr (Or.inl rfl) | exact Or.inr (Or.inr rfl)) (hd : (x == ("__debug__" : Str)) = false := by decide)
    (hcd : (x == ("__classdict__" : Str)) = false := by decide) (h1 : behindInMarks .In (.Name x p1) = false := by first | exact nobehind _ (by decide) (by decide) | rfl) : DT X B (.Compare e [.In] [.Name x p1] pos) (fun ρ => bnd (bnd (we ρ) fun d => bnd (ownK i ρ) fun z => oinW false d z) asB) := by
  refine PT.imp (pt_cmp (pc_din hu he (pe_var hN hv hd hcd)) h1) fun σ H Q ⟨ρ, H0, QD, k, q, h⟩ => ?_
  obtain ⟨ρ, H0, QD, k, q, h⟩ := lift_oin (Q := fun v H1 => ∃ b, v = .bl b ∧ Q b H1) (neg := false) (B := B) (we := we) i hN ⟨ρ, H0, fun d => asB d QD B.E, k, q, fun d v H1 H2 x dd q1 => by
    cases d <;> first | exact (show False from q1).elim | skip
    exact ⟨_, den_bl dd, h _ H1 H2 x q1⟩⟩
  refine ⟨ρ, H0, QD, k, q, fun d v H1 H2 x dd q1 => ?_⟩
  obtain ⟨v, ev, a, o, ea, g, qq⟩ := h d v H1 H2 x dd q1
  exact ⟨v, ev, a, o, ea, g, by simpa using qq⟩
theorem dt_onotin (i : Nat) (hu : X.A.units + 1 < cLine) (he : DE X B e we) (hN : X.N[i]? = some x := by rfl) (hv : Vis X.env.scope x := by first | exact Or.inl rfl | exact Or.inr (Or.inl rfl) | exact Or.inr (Or.inr rfl)) (hd : (x == ("__debug__" : Str)) = false := by decide)
    (hcd : (x == ("__classdict__" : Str)) = false := by decide) (h1 : behindInMarks .NotIn (.Name x p1) = false := by first | exact nobehind _ (by decide) (by decide) | rfl) : DT X B (.Compare e [.NotIn] [.Name x p1] pos) (fun ρ => bnd (bnd (we ρ) fun d => bnd (ownK i ρ) fun z => oinW true d z) asB) := by
  refine PT.imp (pt_cmp (pc_dnotin hu he (pe_var hN hv hd hcd)) h1) fun σ H Q ⟨ρ, H0, QD, k, q, h⟩ => ?_
  obtain ⟨ρ, H0, QD, k, q, h⟩ := lift_oin (Q := fun v H1 => ∃ b, v = .bl b ∧ Q b H1) (neg := true) (B := B) (we := we) i hN ⟨ρ, H0, fun d => asB d QD B.E, k, q, fun d v H1 H2 x dd q1 => by
    cases d <;> first | exact (show False from q1).elim | skip
    exact ⟨_, den_bl dd, h _ H1 H2 x q1⟩⟩
  refine ⟨ρ, H0, QD, k, q, fun d v H1 H2 x dd q1 => ?_⟩
  obtain ⟨v, ev, a, o, ea, g, qq⟩ := h d v H1 H2 x dd q1
  exact ⟨v, ev, a, o, ea, g, by simpa using qq⟩
/-! ### freezing a dict -/
theorem PS.lock {t : TS} (h : PS X st t) : PS X st (fun D σ H => ∃ d u, H d = some u ∧ Mut (some u) ∧ ∀ od, t D σ (upd H d (.frz od u))) := ⟨fun pins s σ H D I ⟨d, u, hd, mu, q⟩ => by
  obtain ⟨od, J⟩ := I.lock hd mu
  exact h.run pins s σ _ D J (q od)⟩
def lockW (i : Nat) (ρ : DL.Env) : W DL.Env := match ρ[i]? with
  | some (.own (.dic ks us)) => ret (ρ.set i (.own (.dicF ks us)))
  | some (.own (.dicT ks us)) => grd (ks ≠ []) (ret (ρ.set i (.own (.dicF ks us))))
  | _ => stk
theorem ds_frzK (i : Nat) (h : DS X B st w) : DS X B st (fun ρ => bnd (lockW i ρ) fun ρ => bnd (frzW i ρ) w) := by
  refine PS.imp (PS.lock (ds_frz i h)) fun D σ H ⟨ρ, H0, QO, k, q, h1, h2, h3, h4⟩ => ?_
  have q : lockW i ρ (fun a => bnd (frzW i a) w QO B.E) B.E := q
  unfold lockW at q
  cases ez : ρ[i]? with
  | none => rw [ez] at q; exact (show False from q).elim
  | some s =>
    rw [ez] at q
    cases s with
    | own o =>
      cases o with
      | dic ks us =>
        obtain ⟨a, e1, n1, n2, vs, h5, kk, ek, hk, hl⟩ := k.own_at ez
        exact ⟨a, _, hk, trivial, fun od => ⟨_, H0, QO, k.own (o' := .dicF ks us) ez e1 ⟨vs, h5, .inl ⟨kk, od, ek, upd_same, hl⟩⟩, q, h1, h2, h3, h4⟩⟩
      | dicT ks us =>
        obtain ⟨a, e1, n1, n2, vs, h5, kk, ek, hk, hl⟩ := k.own_at ez
        exact ⟨a, _, hk, trivial, fun od => ⟨_, H0, QO, k.own (o' := .dicF ks us) ez e1 ⟨vs, h5, .inr ⟨kk, od, ek, upd_same, hl, q.1⟩⟩, q.2, h1, h2, h3, h4⟩⟩
      | lst _ _ => exact (show False from q).elim
      | dicF _ _ => exact (show False from q).elim
      | ins _ _ _ => exact (show False from q).elim
      | hnd _ _ _ _ => exact (show False from q).elim
    | d x => exact (show False from q).elim
    | un => exact (show False from q).elim
    | exc x a => exact (show False from q).elim
/-! ### a frozen dict -/
def dgetD : D → D → W D
  | .dic ks us, k => grd (ks.isEmpty = false) (bnd (optW (mapO dKey ks)) fun kk => bnd (optW (dKey k)) fun q => optW (getKD kk us q))
  | _, _ => stk
theorem den_dic {G : Gx} {H : Hp} {ks us : List D} {v : V} {kk : List Key} (h : Den G H (.dic ks us) v) (hn : ks ≠ []) (ek : mapO dKey ks = some kk) : ∃ a vs o, v = .ref a ∧ Dens G H us vs ∧ H a = some (.frz o (.dK (kk.zip vs))) ∧ kk.length = vs.length := by
  simp only [Den] at h
  obtain ⟨a, vs, rfl, h2, h3⟩ := h
  rcases h3 with ⟨kk', o, k1, k2, k3⟩ | ⟨kk', o, k1, k2, k3⟩
  · rw [ek] at k1; cases k1
    exact ⟨a, vs, o, rfl, h2, k2, k3⟩
  · exfalso
    cases ks with
    | nil => exact hn rfl
    | cons d ds =>
      cases d <;> first | (simp [mapO, dKeyT] at k1; done) | (simp [mapO, dKey] at ek; done)
theorem de_dget (hu : X.A.units + 1 < cLine) (ho : DE X B eo wo) (he : DE X B e we) (hs : NoSl e := by exact fun _ _ => rfl) : DE X B (.Subscript eo e pos) (fun ρ => bnd (wo ρ) fun x => bnd (we ρ) fun y => dgetD x y) := by
  refine PE.imp (pe_dget hu ho he hs) fun σ H Q ⟨ρ, H0, QD, k, q, h⟩ => ⟨ρ, H0, _, k, q, fun d0 v0 H1 H2 x dd0 q0 => ⟨ρ, H1, _, k.later x, q0, fun d v H3 H4 x2 dd q1 => ?_⟩⟩
  cases d0 <;> first | exact (show False from q1).elim | skip
  rename_i ks us
  obtain ⟨hn, q1⟩ := (show grd _ _ _ _ from q1)
  obtain ⟨kk, ek, q1⟩ := optW_of q1
  obtain ⟨qk, eq, q2⟩ := optW_of q1
  obtain ⟨y, ey, q3⟩ := optW_of q2
  obtain ⟨a, vs, o, rfl, h2, hk, hl⟩ := den_dic (dd0.same x2.z) (by intro z; rw [z] at hn; cases hn) ek
  have ev := dKey_den dd eq
  subst ev
  rcases getKD_rel qk (by rw [hl, h2.length]) h2 with ⟨g1, g2⟩ | ⟨d5, v5, g1, g2, g3⟩
  · rw [g1] at ey; cases ey
  · rw [g1] at ey; cases ey
    exact ⟨a, v5, rfl, by rw [← g2]; exact .inl ⟨_, qk, .inr ⟨o, x2.zz _ _ hk⟩, rfl, rfl⟩, h _ _ H3 H4 (x.trans x2) g3 q3⟩
/-- for .. in x.items() -/
def itmsD : D → W (List D)
  | .dic ks us => grd (ks.isEmpty = false ∧ (mapO dKey ks).isSome = true ∧ ks.length = us.length) (ret (zipD ks us))
  | _ => stk
theorem itOk_items {G : Gx} {H0 : Hp} {a : Addr} {o : Obj} {ks us : List D} {kk : List Key} {vs : List V} (h : H0 a = some (.frz o (.dK (kk.zip vs)))) (ek : mapO dKey ks = some kk) (dd : Dens G H0 us vs) (hl : kk.length = vs.length) : ItOk G H0 (Iti a o (kk.zip vs)) (zipD ks us) where
  go := fun i H hi s => ⟨s _ _ h, by
    rw [zipD_length] at hi
    have := mapO_len ek
    rw [List.length_zip]
    have := dd.length
    omega⟩
  stop := fun H s => ⟨s _ _ h, by
    rw [zipD_length, List.length_zip]
    have := mapO_len ek
    have := dd.length
    omega⟩
  yld := fun i H1 H x H' d s st e ⟨T, k, v, e1, ex, hT, e2⟩ => by
    obtain ⟨d1, d2, q1, q2, q3⟩ := zipD_get e
    obtain ⟨w, h1, h2⟩ := dd.get q2
    rw [List.getElem?_zip_eq_some] at e1
    obtain ⟨e3, e4⟩ := e1
    rw [h1] at e4
    cases e4
    have key : ∀ {ks : List D} {kk : List Key} {i : Nat} {d : D} {k : Key}, mapO dKey ks = some kk → ks[i]? = some d → kk[i]? = some k → dKey d = some k := by
      intro ks
      induction ks with
      | nil => intro kk i d k _ z _; simp at z
      | cons y ks ih =>
        intro kk i d k m z z2
        simp only [mapO] at m
        cases w1 : dKey y with
        | none => rw [w1] at m; cases m
        | some y' =>
          cases w2 : mapO dKey ks with
          | none => rw [w1, w2] at m; cases m
          | some r =>
            rw [w1, w2] at m
            cases m
            cases i with
            | zero => simp at z z2; subst z z2; exact w1
            | succ i => exact ih w2 (by simpa using z) (by simpa using z2)
    have dk := key ek q1 e3
    have dkk : Den G H1 d1 (kV k) := by
      cases d1 <;> first | (simp [dKey] at dk; done) | skip
      · cases dk; exact of_int
      · cases dk; exact of_str
    rw [ex, q3]
    exact pair_new st hT e2 dkk (h2.same s)
theorem di_items {elts : List Expr} {kk : Nat} {tpos apos cpos : Pos} (he : DE X B e we) (hbase : attributeBase e "items" X.env (eval e X.env) = eval e X.env := by rfl) (hline : (apos.endLine == cpos.line) = true := by rfl) :
    DI X B (.Tuple elts kk tpos) (.Call (.Attribute e "items" apos) [] [] cpos) (fun ρ => bnd (we ρ) itmsD) := by
  refine PI.imp (pi_items he hbase hline) fun σ H R ⟨ρ, H0, QL, k, q, h⟩ => ⟨ρ, H0, _, k, q, fun d v H1 H2 x dd q1 => ?_⟩
  cases d <;> first | exact (show False from q1).elim | skip
  rename_i ks us
  obtain ⟨⟨hn, hs, hl⟩, q1⟩ := (show grd _ _ _ _ from q1)
  obtain ⟨kk, ek⟩ := Option.isSome_iff_exists.mp hs
  obtain ⟨a, vs, o, rfl, h2, hk, hl2⟩ := den_dic dd (by intro z; rw [z] at hn; cases hn) ek
  exact ⟨a, o, _, rfl, x.zz _ _ hk, h _ _ H1 H2 x (itOk_items hk ek h2 hl2) q1⟩
end
/-! ### their functions -/
def ownKO (i : Nat) (ρ : DL.Env) : O (List Key × List D × List D) := match ρ[i]? with
  | some (.own (.dic ks us)) => ob (oo (mapO dKey ks)) fun kk => .ok (kk, ks, us)
  | _ => .st
theorem w_ownK (i : Nat) (ρ : DL.Env) : (ownKO i ρ).w = ownK i ρ := by
  unfold ownKO ownK
  rcases ρ[i]? with _ | s
  · rfl
  · cases s with
    | own o => cases o <;> first | rfl | simp only [w_ob, w_oo, w_ok]
    | _ => rfl
def putO (i : Nat) (ρ : DL.Env) (z : List Key × List D × List D) (k d : D) : O Out := ob (oo (dKey k)) fun q =>
  if (getKD z.1 z.2.2 q).isSome = true then og (z.1.length < sizeLine) (.ok (.nx (ρ.set i (.own (.dic z.2.1 (repKD z.1 z.2.2 q d))))))
  else og (z.1.length < sizeLine) (.ok (.nx (ρ.set i (.own (.dic (z.2.1 ++ [k]) (z.2.2 ++ [d]))))))
theorem w_putAt (i : Nat) (ρ : DL.Env) (z : List Key × List D × List D) (k d : D) : (putO i ρ z k d).w = putAt i ρ z k d := by simp only [putO, putAt, w_ob, w_oo, w_ite, w_og, w_ok]
def ogetO (z : List Key × List D × List D) (d : D) : O D := ob (oo (dKey d)) fun q => oo (getKD z.1 z.2.2 q)
theorem w_oget (z : List Key × List D × List D) (d : D) : (ogetO z d).w = ogetW z d := by simp only [ogetO, ogetW, w_ob, w_oo]
def oinO (neg : Bool) (d : D) (z : List Key × List D × List D) : O D := ob (oo (dKey d)) fun q => .ok (.bl ((getKD z.1 z.2.2 q).isSome != neg))
theorem w_oin (neg : Bool) (d : D) (z : List Key × List D × List D) : (oinO neg d z).w = oinW neg d z := by simp only [oinO, oinW, w_ob, w_oo, w_ok]
def lockO (i : Nat) (ρ : DL.Env) : O DL.Env := match ρ[i]? with
  | some (.own (.dic ks us)) => .ok (ρ.set i (.own (.dicF ks us)))
  | some (.own (.dicT ks us)) => og (ks ≠ []) (.ok (ρ.set i (.own (.dicF ks us))))
  | _ => .st
theorem w_lock (i : Nat) (ρ : DL.Env) : (lockO i ρ).w = lockW i ρ := by
  unfold lockO lockW
  rcases ρ[i]? with _ | s
  · rfl
  · cases s with
    | own o => cases o <;> first | rfl | exact w_og _ _
    | _ => rfl
def dgetO : D → D → O D
  | .dic ks us, k => og (ks.isEmpty = false) (ob (oo (mapO dKey ks)) fun kk => ob (oo (dKey k)) fun q => oo (getKD kk us q))
  | _, _ => .st
theorem w_dget (x y : D) : (dgetO x y).w = dgetD x y := by cases x <;> first | rfl | simp only [dgetO, dgetD, w_og, w_ob, w_oo]
def itmsO : D → O (List D)
  | .dic ks us => og (ks.isEmpty = false ∧ (mapO dKey ks).isSome = true ∧ ks.length = us.length) (.ok (zipD ks us))
  | _ => .st
theorem w_itms (x : D) : (itmsO x).w = itmsD x := by cases x <;> first | rfl | exact w_og _ _
end DL
end
section
set_option Elab.async false
set_option linter.all false
set_option maxRecDepth 100000
set_option maxHeartbeats 2000000
set_option autoImplicit false
/-! O2: the order of data as a plain function; sorted, min, < as functions. -/
namespace DL
open PySem PySem.Spec L2 PyProof.Rows
open PySem.W (dataLt alike alikeAll dataLe sameRank TotalLe AllAlike Sortable keyToks keyToksAll)
mutual
def pLt : PyData → PyData → Bool
  | .bool a, .bool b => !a && b
  | .int a, .int b => decide (a < b)
  | .str x, .str y => decide (x.cps.toList < y.cps.toList)
  | .list xs, .list ys => pLtL xs ys
  | .tuple xs, .tuple ys => pLtL xs ys
  | _, _ => false
def pLtL : List PyData → List PyData → Bool
  | [], [] => false
  | [], _ :: _ => true
  | _ :: _, [] => false
  | x :: xs, y :: ys => if PyData.eqv x y = true then pLtL xs ys else pLt x y
end
mutual
theorem pLt_eq : ∀ x y : PyData, alike x y = true → dataLt x y = pLt x y
  | .none, y, h => by
    cases y <;> first | (simp [alike] at h; done) | skip
    simp only [pLt]
    exact lex_irrefl _
  | .bool a, y, h => by
    cases y <;> first | (simp [alike] at h; done) | skip
    rename_i b
    rw [PySem.W.dataLt_bool]
    cases a <;> cases b <;> simp [pLt, b2i]
  | .int a, y, h => by
    cases y <;> first | (simp [alike] at h; done) | skip
    rw [PySem.W.dataLt_int]
    simp only [pLt]
  | .str a, y, h => by
    cases y <;> first | (simp [alike] at h; done) | skip
    rw [PySem.W.dataLt_str]
    simp only [pLt]
  | .list xs, y, h => by
    cases y <;> first | (simp [alike] at h; done) | skip
    rename_i ys
    rw [PySem.W.dataLt_list]
    simp only [pLt]
    exact pLtL_eq xs ys (by simpa only [alike] using h)
  | .tuple xs, y, h => by
    cases y <;> first | (simp [alike] at h; done) | skip
    rename_i ys
    rw [PySem.W.dataLt_tuple]
    simp only [pLt]
    exact pLtL_eq xs ys (by simpa only [alike] using h)
  | .dict _, y, h => by simp [alike] at h
theorem pLtL_eq : ∀ xs ys : List PyData, alikeAll xs ys = true → lexLt itemOrd (keyToksAll xs) (keyToksAll ys) = pLtL xs ys
  | [], [], _ => by simp only [pLtL]; exact lex_irrefl _
  | [], y :: ys, _ => by
    simp only [pLtL, keyToksAll]
    rw [lex_diff (by simp)]
    decide
  | x :: xs, [], _ => by
    simp only [pLtL, keyToksAll]
    rw [lex_diff (by simp)]
    decide
  | x :: xs, y :: ys, h => by
    obtain ⟨h1, h2⟩ := PySem.W.alike_all_cons h
    rw [PySem.W.dataLt_cons h1, pLtL_eq xs ys h2, pLt_eq x y h1]
    simp only [pLtL]
end
/-! ### x < y -/
instance decNone (p : PyData) : Decidable (p = .none) := by cases p <;> first | exact isTrue rfl | exact isFalse (fun h => nomatch h)
def ordO (g : PyData → PyData → Bool) (x y : D) : O D := ob (oo (pyD x)) fun p => ob (oo (pyD y)) fun r => og (alike p r = true ∧ p ≠ .none ∧ p.depth ≤ 60) (.ok (.bl (g p r)))
theorem w_ord {g g' : PyData → PyData → Bool} (h : ∀ p r, alike p r = true → g' p r = g p r) (x y : D) : (ordO g x y).w = ordD g' x y := by
  simp only [ordO, ordD, w_ob, w_oo, w_og, w_ok]
  congr 1
  funext p
  congr 1
  funext r
  funext Q E
  show ((_ ∧ _) = (_ ∧ _))
  refine propext ⟨fun ⟨c, q⟩ => ⟨c, ?_⟩, fun ⟨c, q⟩ => ⟨c, ?_⟩⟩
  · rw [h p r c.1]; exact q
  · rw [h p r c.1] at q; exact q
def oltO : D → D → O D := ordO pLt
theorem w_olt (x y : D) : (oltO x y).w = ordD dataLt x y := w_ord (fun p r h => pLt_eq p r h) x y
/-! ### sorted -/
section
variable {α : Type}
def insL (le : α → α → Bool) (x : α) : List α → List α
  | [] => [x]
  | y :: ys => if le x y = true then x :: y :: ys else y :: insL le x ys
def isortL (le : α → α → Bool) : List α → List α
  | [] => []
  | x :: xs => insL le x (isortL le xs)
variable {le : α → α → Bool}
theorem insL_mem {x z : α} : ∀ {ys : List α}, z ∈ insL le x ys ↔ z = x ∨ z ∈ ys
  | [] => by simp [insL]
  | y :: ys => by
    unfold insL
    split
    · simp
    · simp only [List.mem_cons, insL_mem (ys := ys)]
      constructor
      · rintro (h | h | h)
        · exact .inr (.inl h)
        · exact .inl h
        · exact .inr (.inr h)
      · rintro (h | h | h)
        · exact .inr (.inl h)
        · exact .inl h
        · exact .inr (.inr h)
theorem insL_sorted (T : TotalLe le) {x : α} : ∀ {ys : List α}, ys.Pairwise (fun a b => le a b = true) → (insL le x ys).Pairwise (fun a b => le a b = true)
  | [], _ => by simp [insL]
  | y :: ys, h => by
    rw [List.pairwise_cons] at h
    unfold insL
    split
    · rename_i c
      rw [List.pairwise_cons, List.pairwise_cons]
      refine ⟨fun z hz => ?_, h⟩
      rcases List.mem_cons.mp hz with rfl | hz
      · exact c
      · exact T.trans _ _ _ c (h.1 z hz)
    · rename_i c
      rw [List.pairwise_cons]
      refine ⟨fun z hz => ?_, insL_sorted T h.2⟩
      rcases insL_mem.mp hz with rfl | hz
      · exact (T.total z y).resolve_left c
      · exact h.1 z hz
theorem insL_rank (T : TotalLe le) {x c : α} : ∀ {ys : List α}, (insL le x ys).filter (sameRank le c) = (x :: ys).filter (sameRank le c)
  | [] => rfl
  | y :: ys => by
    unfold insL
    split
    · rfl
    · rename_i n
      have no : ¬ (sameRank le c x = true ∧ sameRank le c y = true) := fun ⟨h1, h2⟩ => by
        unfold sameRank at h1 h2
        rw [Bool.and_eq_true] at h1 h2
        exact n (T.trans _ _ _ h1.2 h2.1)
      have ih := insL_rank T (x := x) (c := c) (ys := ys)
      simp only [List.filter_cons] at ih ⊢
      rw [ih]
      by_cases h1 : sameRank le c x = true
      · have h2 : ¬ sameRank le c y = true := fun z => no ⟨h1, z⟩
        simp [h1, h2]
      · simp [h1]
theorem isortL_sorted (T : TotalLe le) : ∀ xs : List α, (isortL le xs).Pairwise (fun a b => le a b = true)
  | [] => List.Pairwise.nil
  | x :: xs => insL_sorted T (isortL_sorted T xs)
theorem isortL_rank (T : TotalLe le) (c : α) : ∀ xs : List α, (isortL le xs).filter (sameRank le c) = xs.filter (sameRank le c)
  | [] => rfl
  | x :: xs => by
    show (insL le x (isortL le xs)).filter _ = _
    rw [insL_rank T, List.filter_cons, List.filter_cons, isortL_rank T c xs]
theorem isortL_eq (T : TotalLe le) (xs : List α) : isortL le xs = xs.mergeSort le := PySem.W.sort_unique T (isortL_sorted T xs) fun c => isortL_rank T c xs
theorem insL_perm {x : α} : ∀ {ys : List α}, (insL le x ys).Perm (x :: ys)
  | [] => .refl _
  | y :: ys => by
    unfold insL
    split
    · exact .refl _
    · exact (List.Perm.cons y insL_perm).trans (List.Perm.swap x y ys)
theorem isortL_perm : ∀ {xs : List α}, (isortL le xs).Perm xs
  | [] => .refl _
  | x :: xs => insL_perm.trans (List.Perm.cons x isortL_perm)
theorem insL_congr {le' : α → α → Bool} {x : α} : ∀ {ys : List α}, (∀ y ∈ ys, le x y = le' x y) → insL le x ys = insL le' x ys
  | [], _ => rfl
  | y :: ys, h => by
    unfold insL
    rw [h y List.mem_cons_self, insL_congr fun z hz => h z (List.mem_cons_of_mem _ hz)]
theorem isortL_congr {le' : α → α → Bool} : ∀ {xs : List α}, (∀ x ∈ xs, ∀ y ∈ xs, le x y = le' x y) → isortL le xs = isortL le' xs
  | [], _ => rfl
  | x :: xs, h => by
    show insL le x (isortL le xs) = insL le' x (isortL le' xs)
    rw [isortL_congr fun y hy z hz => h y (List.mem_cons_of_mem _ hy) z (List.mem_cons_of_mem _ hz)]
    exact insL_congr fun y hy => h x List.mem_cons_self y (List.mem_cons_of_mem _ (isortL_perm.mem_iff.mp hy))
theorem insL_map {β : Type} {f : β → α} {le' : β → β → Bool} (h : ∀ a b, le (f a) (f b) = le' a b) {x : β} : ∀ {ys : List β}, insL le (f x) (ys.map f) = (insL le' x ys).map f
  | [] => rfl
  | y :: ys => by
    rw [List.map_cons]
    unfold insL
    rw [h]
    split
    · rfl
    · rw [insL_map h, List.map_cons]
theorem isortL_map {β : Type} {f : β → α} {le' : β → β → Bool} (h : ∀ a b, le (f a) (f b) = le' a b) : ∀ {xs : List β}, isortL le (xs.map f) = (isortL le' xs).map f
  | [] => rfl
  | x :: xs => by
    show insL le (f x) (isortL le (xs.map f)) = _
    rw [isortL_map h, insL_map h]
    rfl
/-- lists in order that are the same but for the order are one -/
theorem sorted_one {r : α → α → Prop} (anti : ∀ a b, r a b → r b a → a = b) : ∀ {xs ys : List α}, xs.Perm ys → xs.Pairwise r → ys.Pairwise r → (∀ a, r a a) → xs = ys
  | [], ys, p, _, _, _ => (List.Perm.nil_eq p)
  | x :: xs, ys, p, hx, hy, rf => by
    cases ys with
    | nil => exact (List.nil_perm.mp p.symm |> fun z => by cases z)
    | cons y ys =>
      rw [List.pairwise_cons] at hx hy
      have e : x = y := by
        have h1 : x ∈ y :: ys := p.mem_iff.mp List.mem_cons_self
        have h2 : y ∈ x :: xs := p.mem_iff.mpr List.mem_cons_self
        rcases List.mem_cons.mp h1 with h1 | h1
        · exact h1
        · rcases List.mem_cons.mp h2 with h2 | h2
          · exact h2.symm
          · exact anti _ _ (hx.1 y h2) (hy.1 x h1)
      subst e
      rw [sorted_one anti (List.Perm.cons_inv p) hx.2 hy.2 rf]
end
def leE (a b : D) : Bool := !pLt (encD b) (encD a)
def SortOk (xs : List D) : Prop := (∀ d ∈ xs, (pyD d).isSome = true ∧ (encD d).depth ≤ 60) ∧ AllAlike (xs.map encD) ∧ Sortable (xs.map encD)
def isTupC : PyData → Bool
  | .tuple (_ :: _) => true
  | _ => false
def isOth : PyData → Bool
  | .none => false
  | .tuple _ => false
  | _ => true
theorem sortable_iff (ds : List PyData) : Sortable ds ↔ ((ds.all isTupC || ds.all isOth) = true) := by
  unfold Sortable
  rw [Bool.or_eq_true, List.all_eq_true, List.all_eq_true]
  constructor
  · rintro (h | h)
    · refine .inl fun d hd => ?_
      obtain ⟨x, r, rfl⟩ := h d hd
      rfl
    · refine .inr fun d hd => ?_
      obtain ⟨h1, h2⟩ := h d hd
      cases d <;> first | rfl | exact (h1 rfl).elim | exact (h2 _ rfl).elim
  · rintro (h | h)
    · refine .inl fun d hd => ?_
      have := h d hd
      cases d <;> first | (simp [isTupC] at this; done) | skip
      rename_i xs
      cases xs with
      | nil => simp [isTupC] at this
      | cons x r => exact ⟨x, r, rfl⟩
    · refine .inr fun d hd => ?_
      have := h d hd
      refine ⟨fun z => ?_, fun xs z => ?_⟩
      · subst z; simp [isOth] at this
      · subst z; simp [isOth] at this
instance (ds : List PyData) : Decidable (Sortable ds) := decidable_of_iff _ (sortable_iff ds).symm
instance (ds : List PyData) : Decidable (AllAlike ds) := inferInstanceAs (Decidable (∀ d, d ∈ ds → ∀ d', d' ∈ ds → alike d d' = true))
instance (xs : List D) : Decidable (SortOk xs) := by unfold SortOk; infer_instance
def sortO : List D → O D
  | [.lst xs] => og (SortOk xs) (.ok (.lst (isortL leE xs)))
  | _ => .st
theorem le_total : TotalLe (dataLe false encD) := PySem.W.sortLe_total _ _ _
theorem isort_eq {xs : List D} (h : SortOk xs) : isortL leE xs = xs.mergeSort (dataLe false encD) := by
  rw [← isortL_eq le_total]
  refine isortL_congr fun x hx y hy => ?_
  show (!pLt (encD y) (encD x)) = !dataLt (encD y) (encD x)
  rw [pLt_eq _ _ (h.2.1 _ (List.mem_map_of_mem hy) _ (List.mem_map_of_mem hx))]
theorem w_sort (ds : List D) : (sortO ds).w = sortAnyD ds := by
  rcases ds with _ | ⟨d, _ | ⟨e, r⟩⟩
  · rfl
  · cases d <;> first | rfl | skip
    rename_i xs
    simp only [sortO, sortAnyD, w_og, w_ok]
    funext Q E
    refine propext ⟨fun ⟨c, q⟩ => ⟨c, ?_⟩, fun ⟨c, q⟩ => ⟨c, ?_⟩⟩
    · rw [← isort_eq c]; exact q
    · rw [isort_eq c]; exact q
  · cases d <;> rfl
/-! ### min -/
def minL (x : D) (xs : List D) : D := xs.foldl (fun a y => if pLt (encD y) (encD a) = true then y else a) x
def MinOk (xs : List D) : Prop := (∀ d ∈ xs, (pyD d).isSome = true) ∧ (∀ p ∈ xs.map encD, ∀ r ∈ xs.map encD, alike p r = true) ∧ (∀ p ∈ xs.map encD, p ≠ .none) ∧ PyData.depthAll (xs.map encD) ≤ 60
instance (xs : List D) : Decidable (MinOk xs) := by unfold MinOk; infer_instance
def minO : List D → O D
  | [.lst (x :: xs)] => og (MinOk (x :: xs)) (.ok (minL x xs))
  | _ => .st
theorem pyDs_enc : ∀ {xs : List D}, (∀ d ∈ xs, (pyD d).isSome = true) → pyDs xs = some (xs.map encD)
  | [], _ => by simp [pyDs]
  | x :: xs, h => by
    obtain ⟨p, e⟩ := Option.isSome_iff_exists.mp (h x List.mem_cons_self)
    simp only [pyDs, e, pyDs_enc fun d hd => h d (List.mem_cons_of_mem _ hd), List.map_cons]
    simp [encD, e]
theorem pyDs_all : ∀ {xs : List D} {ps : List PyData}, pyDs xs = some ps → (∀ d ∈ xs, (pyD d).isSome = true) ∧ ps = xs.map encD
  | [], ps, h => by simp only [pyDs] at h; cases h; exact ⟨fun d hd => (by cases hd), rfl⟩
  | x :: xs, ps, h => by
    simp only [pyDs] at h
    cases e1 : pyD x with
    | none => rw [e1] at h; cases h
    | some p =>
      cases e2 : pyDs xs with
      | none => rw [e1, e2] at h; cases h
      | some r =>
        rw [e1, e2] at h
        cases h
        obtain ⟨a, b⟩ := pyDs_all e2
        refine ⟨fun d hd => ?_, by simp [encD, e1, b]⟩
        rcases List.mem_cons.mp hd with rfl | hd
        · rw [e1]; rfl
        · exact a d hd
mutual
theorem pyD_inj : ∀ {x y : D} {p : PyData}, pyD x = some p → pyD y = some p → x = y
  | .non, y, p, h, k => by simp only [pyD] at h; cases h; cases y <;> first | rfl | (simp [pyD] at k; done)
  | .bl b, y, p, h, k => by simp only [pyD] at h; cases h; cases y <;> first | (simp [pyD] at k; done) | skip; (simp [pyD] at k; rw [k])
  | .int b, y, p, h, k => by simp only [pyD] at h; cases h; cases y <;> first | (simp [pyD] at k; done) | skip; (simp [pyD] at k; rw [k])
  | .str b, y, p, h, k => by simp only [pyD] at h; cases h; cases y <;> first | (simp [pyD] at k; done) | skip; (simp [pyD] at k; rw [k])
  | .tup xs, y, p, h, k => by
    simp only [pyD] at h
    obtain ⟨ps, e, rfl⟩ := Option.map_eq_some_iff.mp h
    cases y <;> first | (simp [pyD] at k; done) | skip
    rename_i ys
    simp only [pyD] at k
    obtain ⟨qs, e2, e3⟩ := Option.map_eq_some_iff.mp k
    cases e3
    rw [pyDs_inj e e2]
  | .lst xs, y, p, h, k => by
    simp only [pyD] at h
    obtain ⟨ps, e, rfl⟩ := Option.map_eq_some_iff.mp h
    cases y <;> first | (simp [pyD] at k; done) | skip
    rename_i ys
    simp only [pyD] at k
    obtain ⟨qs, e2, e3⟩ := Option.map_eq_some_iff.mp k
    cases e3
    rw [pyDs_inj e e2]
  | .dic _ _, y, p, h, k => by simp [pyD] at h
  | .ins _ _, y, p, h, k => by simp [pyD] at h
  | .clo _ _, y, p, h, k => by simp [pyD] at h
  | .hnd, y, p, h, k => by simp [pyD] at h
  | .scr _, y, p, h, k => by simp [pyD] at h
theorem pyDs_inj : ∀ {xs ys : List D} {ps : List PyData}, pyDs xs = some ps → pyDs ys = some ps → xs = ys
  | [], ys, ps, h, k => by
    simp only [pyDs] at h
    cases h
    cases ys with
    | nil => rfl
    | cons y ys =>
      simp only [pyDs] at k
      cases e1 : pyD y <;> cases e2 : pyDs ys <;> rw [e1, e2] at k <;> cases k
  | x :: xs, ys, ps, h, k => by
    simp only [pyDs] at h
    cases e1 : pyD x with
    | none => rw [e1] at h; cases h
    | some p =>
      cases e2 : pyDs xs with
      | none => rw [e1, e2] at h; cases h
      | some r =>
        rw [e1, e2] at h
        cases h
        cases ys with
        | nil => simp only [pyDs] at k; cases k
        | cons y ys =>
          simp only [pyDs] at k
          cases e3 : pyD y with
          | none => rw [e3] at k; cases k
          | some q =>
            cases e4 : pyDs ys with
            | none => rw [e3, e4] at k; cases k
            | some r' =>
              rw [e3, e4] at k
              cases k
              rw [pyD_inj e1 e3, pyDs_inj e2 e4]
end
theorem minL_mem (x : D) : ∀ xs : List D, minL x xs ∈ x :: xs := by
  intro xs
  induction xs generalizing x with
  | nil => exact List.mem_cons_self
  | cons y xs ih =>
    show minL (if pLt (encD y) (encD x) = true then y else x) xs ∈ _
    have := ih (if pLt (encD y) (encD x) = true then y else x)
    rcases List.mem_cons.mp this with h | h
    · rw [h]
      split
      · exact List.mem_cons_of_mem _ List.mem_cons_self
      · exact List.mem_cons_self
    · exact List.mem_cons_of_mem _ (List.mem_cons_of_mem _ h)
theorem minL_enc (A : List D) (hA : ∀ p ∈ A.map encD, ∀ r ∈ A.map encD, alike p r = true) : ∀ (xs : List D) (x : D), x ∈ A → (∀ y ∈ xs, y ∈ A) → encD (minL x xs) = PySem.W.minD (encD x) (xs.map encD)
  | [], x, _, _ => rfl
  | y :: xs, x, hx, hy => by
    have my := hy y List.mem_cons_self
    show encD (minL (if pLt (encD y) (encD x) = true then y else x) xs) = PySem.W.minD (if dataLt (encD y) (encD x) = true then encD y else encD x) (xs.map encD)
    rw [pLt_eq _ _ (hA _ (List.mem_map_of_mem my) _ (List.mem_map_of_mem hx))] at *
    have e : (if pLt (encD y) (encD x) = true then encD y else encD x) = encD (if pLt (encD y) (encD x) = true then y else x) := by split <;> rfl
    rw [e]
    exact minL_enc A hA xs _ (by split <;> assumption) fun z hz => hy z (List.mem_cons_of_mem _ hz)
theorem w_min (ds : List D) : (minO ds).w = minAnyD ds := by
  rcases ds with _ | ⟨d, _ | ⟨e, r⟩⟩
  · rfl
  · cases d <;> first | rfl | skip
    rename_i xs
    cases xs with
    | nil =>
      funext Q E
      refine propext ⟨fun h => (show False from h).elim, fun h => ?_⟩
      obtain ⟨p, ps, e, _⟩ := h
      simp [pyDs] at e
    | cons x xs =>
      simp only [minO, w_og, w_ok]
      funext Q E
      refine propext ⟨fun ⟨⟨c1, c2, c3, c4⟩, q⟩ => ?_, fun ⟨p, ps, h, ha, hd, hq⟩ => ?_⟩
      · refine ⟨encD x, xs.map encD, pyDs_enc c1, ⟨c2, c3⟩, c4, fun i d e1 e2 => ?_⟩
        have em := minL_enc (x :: xs) c2 xs x List.mem_cons_self fun y hy => List.mem_cons_of_mem _ hy
        have e3 : (encD x :: xs.map encD)[i]? = some (encD d) := by
          have : (x :: xs).map encD = encD x :: xs.map encD := rfl
          rw [← this, List.getElem?_map, e1]
          rfl
        rw [e3] at e2
        have e4 : encD d = encD (minL x xs) := by rw [em]; exact Option.some.inj e2
        obtain ⟨p1, h1⟩ := Option.isSome_iff_exists.mp (c1 d (List.mem_of_getElem? e1))
        obtain ⟨p2, h2⟩ := Option.isSome_iff_exists.mp (c1 _ (minL_mem x xs))
        have : p1 = p2 := by unfold encD at e4; rw [h1, h2] at e4; exact e4
        subst this
        rw [pyD_inj h1 h2]
        exact q
      · obtain ⟨a, b⟩ := pyDs_all h
        have b1 : p = encD x ∧ ps = xs.map encD := by simpa using b
        obtain ⟨rfl, rfl⟩ := b1
        refine ⟨⟨a, ha.1, ha.2, hd⟩, ?_⟩
        have em := minL_enc (x :: xs) ha.1 xs x List.mem_cons_self fun y hy => List.mem_cons_of_mem _ hy
        obtain ⟨i, hi⟩ := List.getElem?_of_mem (minL_mem x xs)
        refine hq i _ hi ?_
        have : (x :: xs).map encD = encD x :: xs.map encD := rfl
        rw [← this, List.getElem?_map, hi]
        exact congrArg some em
  · cases d <;> first | rfl | (rename_i xs; cases xs <;> rfl)
end DL
end
section
set_option Elab.async false
set_option linter.all false
set_option maxRecDepth 100000
set_option maxHeartbeats 2000000
set_option autoImplicit false
/-! O3: a, b = e, [..] with b an own list; pairs stored, as functions. -/
namespace DL
open PySem PySem.Spec L2 PyProof.Rows
section
variable {X : Cx} {B : Bx} {a b : Expr} {wa : DL.Env → W D} {wb : DL.Env → W (List D)} {x y : Str} {px py pt pos : Pos} {kt k2 : Nat} {pt2 : Pos}
/-- x, y = a, [..], y the new list's own name -/
theorem ds_parL (i j : Nat) (hc : X.calm = true) (hN : X.N.Nodup) (ha : DE X B a wa) (hb : DN X B b wb) (hi : X.N[i]? = some x := by rfl) (hj : X.N[j]? = some y := by rfl) (hij : i ≠ j := by decide)
    (hx : X.env.scope.names.lookup x = some .local := by rfl) (hy : X.env.scope.names.lookup y = some .local := by rfl)
    (hw : swappedStores [.Tuple [.Name x px, .Name y py] kt pt] (.Tuple [a, b] k2 pt2) X.env = pure (some [x, y]) := by rfl)
    (hs : swapsWithSole [.Tuple [.Name x px, .Name y py] kt pt] (.Tuple [a, b] k2 pt2) pos.line X.env = pure false := by rfl)
    (h1 : starEach [a, b] X.env = (false, eval a X.env) :: starEach [b] X.env := by rfl) (h2 : starEach [b] X.env = (false, eval b X.env) :: starEach [] X.env := by rfl) :
    DS X B (.Assign [.Tuple [.Name x px, .Name y py] kt pt] (.Tuple [a, b] k2 pt2) pos) (fun ρ => bnd (wa ρ) fun d => bnd (wb ρ) fun ds => ret (.nx ((ρ.set i (.d d)).set j (.own (.lst none ds))))) := by
  refine PS.imp (ps_par hc hN hi hj hij hx hy (pa_cons ha (pa_cons hb pa_nil h2) h1) hw hs) fun D σ H ⟨ρ, H0, QO, k, q, h, _⟩ => ⟨ρ, H0, _, k, q, fun d v H1 H2 x1 dd q1 => ?_⟩
  refine ⟨ρ, H1, _, k.later x1, q1, fun ds vs p H3 H4 H5 x hn hp dl x2 h0 q2 => ⟨v, .ref p, rfl, ?_⟩⟩
  have k2 := ((k.later x1).later x).later x2
  have k3 := k2.putD (i := i) ((dd.same x.z).same x2.z)
  have x4 := x1.trans (x.trans x2)
  have free : ∀ (l : Nat) (o : OD), ρ[l]? = some (.own o) → σ[l]? ≠ some (some (.ref p)) := fun l o e1 e2 => by
    obtain ⟨w, e3, a, e4, _, _, hh⟩ := ((k.later x1).later x).env l _ e1
    rw [e2] at e3
    cases e3
    cases e4
    obtain ⟨u, e5⟩ := hh.there
    rw [hn] at e5
    cases e5
  refine h _ _ H3 H5 (k3.put (s := .own (.lst none ds)) ⟨p, rfl, ((k.later x1).later x).ext.nn p hn, h0, (by intro _ z; cases z), vs, hp, dl⟩ fun o _ l o' a ea e1 e2 => ?_) (x1.trans x).z q2
  cases ea
  by_cases hl : i = l
  · subst hl
    have hlt : i < ρ.length := by
      have := (List.getElem?_eq_some_iff.mp e1).1
      simpa using this
    rw [List.getElem?_set_self hlt] at e1
    cases e1
  · rw [List.getElem?_set_ne hl] at e1 e2
    exact (free l o' e1 e2).elim
/-- x, y = a, [..] where a name is a cell: by way of a tuple -/
theorem ds_parLc (i j : Nat) (hK : X.K = B.G.K) (hc : X.calm = true) (hN : X.N.Nodup) (ha : DE X B a wa) (hb : DN X B b wb) (hi : X.N[i]? = some x := by rfl) (hj : X.N[j]? = some y := by rfl) (hij : i ≠ j := by decide)
    (hx : Loc X.env.scope x := by first | exact Or.inl rfl | exact Or.inr rfl) (hfx : X.fn x = true ∨ X.env.scope.names.lookup x = some .local := by first | exact .inl rfl | exact .inr rfl | assumption)
    (hy : Loc X.env.scope y := by first | exact Or.inl rfl | exact Or.inr rfl) (hfy : X.fn y = true ∨ X.env.scope.names.lookup y = some .local := by first | exact .inl rfl | exact .inr rfl | assumption)
    (hs : swapsWithSole [.Tuple [.Name x px, .Name y py] kt pt] (.Tuple [a, b] k2 pt2) pos.line X.env = pure false := by rfl) (hw : swappedStores [.Tuple [.Name x px, .Name y py] kt pt] (.Tuple [a, b] k2 pt2) X.env = pure none := by rfl)
    (he1 : (assignEach [.Tuple [.Name x px, .Name y py] kt pt] X.env).map (·.2) = [assign (.Tuple [.Name x px, .Name y py] kt pt) X.env] := by rfl)
    (h1 : starEach [a, b] X.env = (false, eval a X.env) :: starEach [b] X.env := by rfl) (h2 : starEach [b] X.env = (false, eval b X.env) :: starEach [] X.env := by rfl)
    (hn : (assignEach [.Name x px, .Name y py] X.env).length = 2 := by rfl) (hst : (assignEach [.Name x px, .Name y py] X.env).findIdx? (·.1) = none := by rfl)
    (hs1 : (assignEach [.Name x px, .Name y py] X.env).map (·.2) = assign (.Name x px) X.env :: (assignEach [.Name y py] X.env).map (·.2) := by rfl)
    (hs2 : (assignEach [.Name y py] X.env).map (·.2) = assign (.Name y py) X.env :: (assignEach [] X.env).map (·.2) := by rfl) :
    DS X B (.Assign [.Tuple [.Name x px, .Name y py] kt pt] (.Tuple [a, b] k2 pt2) pos) (fun ρ => bnd (wa ρ) fun d => bnd (wb ρ) fun ds => ret (.nx ((ρ.set i (.d d)).set j (.own (.lst none ds))))) := by
  refine PS.imp (ps_asg (pe_tup (pa_cons ha (pa_cons hb pa_nil h2) h1)) (pg_tup hc (pgs_cons (pg_name hN hi hx hfx) (pgs_cons (pg_name hN hj hy hfy) pgs_nil hs2) hs1) hn hst) hs hw he1) fun D σ H ⟨ρ, H0, QO, k, q, h, _⟩ => ⟨ρ, H0, _, k, q, fun d v H1 H2 x1 dd q1 => ?_⟩
  refine ⟨ρ, H1, _, k.later x1, q1, fun ds vs p H3 H4 H5 x hn hp dl x2 h0 q2 => ⟨by rw [sizeLine_eq]; simp, fun t ht => ⟨t, [v, .ref p], rfl, .of upd_same, rfl, v, [.ref p], rfl, .ref p, [], rfl, rfl, ?_⟩⟩⟩
  have k2 := ((k.later x1).later x).later x2
  have x5 := Ext.putH k2.st ht (.tup [v, .ref p])
  have k2' := k2.later x5
  have k3 := k2'.putD (i := i) ((dd.same x.z).same x2.z)
  have free : ∀ (l : Nat) (o : OD), ρ[l]? = some (.own o) → σ[l]? ≠ some (some (.ref p)) := fun l o e1 e2 => by
    obtain ⟨w, e3, a, e4, _, _, hh⟩ := ((k.later x1).later x).env l _ e1
    rw [e2] at e3
    cases e3
    cases e4
    obtain ⟨u, e5⟩ := hh.there
    rw [hn] at e5
    cases e5
  have hp' : (upd H5 t (.tup [v, .ref p])) p = some (.lst vs) := by rw [upd_ne (fun z => by rw [← z, hp] at ht; cases ht)]; exact hp
  refine h _ _ H3 _ (k3.put (s := .own (.lst none ds)) ⟨p, rfl, ((k.later x1).later x).ext.nn p hn, h0, (by intro _ z; cases z), vs, hp', dl⟩ fun o _ l o' a ea e1 e2 => ?_) (x1.trans x).z q2
  cases ea
  by_cases hl : i = l
  · subst hl
    have hlt : i < ρ.length := by
      have := (List.getElem?_eq_some_iff.mp e1).1
      simpa using this
    rw [List.getElem?_set_self hlt] at e1
    cases e1
  · rw [List.getElem?_set_ne hl] at e1 e2
    exact (free l o' e1 e2).elim
/-- .. and the other way round -/
theorem ds_parF (i j : Nat) (hc : X.calm = true) (hN : X.N.Nodup) (hb : DN X B b wb) (ha : DE X B a wa) (hi : X.N[i]? = some x := by rfl) (hj : X.N[j]? = some y := by rfl) (hij : i ≠ j := by decide)
    (hx : X.env.scope.names.lookup x = some .local := by rfl) (hy : X.env.scope.names.lookup y = some .local := by rfl)
    (hw : swappedStores [.Tuple [.Name x px, .Name y py] kt pt] (.Tuple [b, a] k2 pt2) X.env = pure (some [x, y]) := by rfl)
    (hs : swapsWithSole [.Tuple [.Name x px, .Name y py] kt pt] (.Tuple [b, a] k2 pt2) pos.line X.env = pure false := by rfl)
    (h1 : starEach [b, a] X.env = (false, eval b X.env) :: starEach [a] X.env := by rfl) (h2 : starEach [a] X.env = (false, eval a X.env) :: starEach [] X.env := by rfl) :
    DS X B (.Assign [.Tuple [.Name x px, .Name y py] kt pt] (.Tuple [b, a] k2 pt2) pos) (fun ρ => bnd (wb ρ) fun ds => bnd (wa ρ) fun d => ret (.nx ((ρ.set i (.own (.lst none ds))).set j (.d d)))) := by
  refine PS.imp (ps_par hc hN hi hj hij hx hy (pa_cons hb (pa_cons ha pa_nil h2) h1) hw hs) fun D σ H ⟨ρ, H0, QO, k, q, h, _⟩ => ⟨ρ, H0, _, k, q, fun ds vs p H1 H2 H3 x hn hp dl x2 h0 q1 => ?_⟩
  have k2 := (k.later x).later x2
  have free : ∀ (l : Nat) (o : OD), ρ[l]? = some (.own o) → σ[l]? ≠ some (some (.ref p)) := fun l o e1 e2 => by
    obtain ⟨w, e3, a, e4, _, _, hh⟩ := (k.later x).env l _ e1
    rw [e2] at e3
    cases e3
    cases e4
    obtain ⟨u, e5⟩ := hh.there
    rw [hn] at e5
    cases e5
  have k3 := k2.put (i := i) (s := .own (.lst none ds)) (v := .ref p) ⟨p, rfl, (k.later x).ext.nn p hn, h0, (by intro _ z; cases z), vs, hp, dl⟩ fun o _ l o' a ea e1 e2 => by
    cases ea
    exact (free l o' e1 e2).elim
  have kk := k3
  refine ⟨_, H1, _, k2, q1, fun d v H4 H5 x5 dd q2 => ⟨.ref p, v, rfl, ?_⟩⟩
  exact h _ _ H4 H5 ((k3.later x5).putD dd) (x.trans (x2.trans x5)).z q2
end
def par2W (i j : Nat) (ρ : DL.Env) : List D → W Out
  | [d, d'] => ret (.nx ((ρ.set i (.d d)).set j (.d d')))
  | _ => stk
def par3W (i j l : Nat) (ρ : DL.Env) : List D → W Out
  | [d, d', d2] => ret (.nx (((ρ.set i (.d d)).set j (.d d')).set l (.d d2)))
  | _ => stk
def par2O (i j : Nat) (ρ : DL.Env) : List D → O Out
  | [d, d'] => .ok (.nx ((ρ.set i (.d d)).set j (.d d')))
  | _ => .st
def par3O (i j l : Nat) (ρ : DL.Env) : List D → O Out
  | [d, d', d2] => .ok (.nx (((ρ.set i (.d d)).set j (.d d')).set l (.d d2)))
  | _ => .st
theorem w_par2 (i j : Nat) (ρ : DL.Env) (ds : List D) : (par2O i j ρ ds).w = par2W i j ρ ds := by
  rcases ds with _ | ⟨_, _ | ⟨_, _ | ⟨_, _⟩⟩⟩ <;> rfl
theorem w_par3 (i j l : Nat) (ρ : DL.Env) (ds : List D) : (par3O i j l ρ ds).w = par3W i j l ρ ds := by
  rcases ds with _ | ⟨_, _ | ⟨_, _ | ⟨_, _ | ⟨_, _⟩⟩⟩⟩ <;> rfl
end DL
end
section
set_option Elab.async false
set_option linter.all false
set_option maxRecDepth 100000
set_option maxHeartbeats 2000000
set_option autoImplicit false
/-! O4: plain laws: typed comprehensions, draws, ints. -/
namespace DL
open PySem PySem.Spec L2
section
variable {α β : Type} {E : DX → Prop}
/-- a comprehension over typed things, one answer each -/
theorem lcGo_mp {c : α → D} {f : D → W (Option D)} {g : α → Option D} : ∀ {as : List α} {Q : List D → Prop}, (∀ a ∈ as, ∀ R : Option D → Prop, R (g a) → f (c a) R E) → Q (as.filterMap g) → lcGo f (as.map c) Q E
  | [], Q, _, h => h
  | a :: as, Q, hf, h => by
    refine hf a List.mem_cons_self _ ?_
    refine lcGo_mp (fun y hy => hf y (List.mem_cons_of_mem _ hy)) ?_
    cases e : g a with
    | none => rw [List.filterMap_cons_none e] at h; exact h
    | some y => rw [List.filterMap_cons_some e] at h; exact h
theorem lcGo_m1 {c : α → D} {f : D → W (Option D)} {g : α → D} {as : List α} {Q : List D → Prop} (hf : ∀ a ∈ as, ∀ R : Option D → Prop, R (some (g a)) → f (c a) R E) (h : Q (as.map g)) : lcGo f (as.map c) Q E :=
  lcGo_mp (g := fun a => some (g a)) hf (by rw [List.filterMap_eq_map']; exact h)
/-- .. any of the answers that P allows -/
theorem lcGo_ty {c : α → D} {e : β → D} {f : D → W (Option D)} {P : α → β → Prop} : ∀ {as : List α} {Q : List D → Prop}, (∀ a ∈ as, ∀ R : Option D → Prop, (∀ b, P a b → R (some (e b))) → f (c a) R E) →
    (∀ bs : List β, bs.length = as.length → (∀ (i : Nat) a b, as[i]? = some a → bs[i]? = some b → P a b) → Q (bs.map e)) → lcGo f (as.map c) Q E
  | [], Q, _, h => h [] rfl (fun i x o e _ => by simp at e)
  | a :: as, Q, hf, h => by
    refine hf a List.mem_cons_self _ fun b pb => ?_
    refine lcGo_ty (P := P) (e := e) (fun y hy => hf y (List.mem_cons_of_mem _ hy)) fun bs hl hP => ?_
    exact h (b :: bs) (by simp [hl]) fun i y p e1 e2 => by
      cases i with
      | zero => simp at e1 e2; subst e1 e2; exact pb
      | succ i => exact hP i y p (by simpa using e1) (by simpa using e2)
/-- a walk over typed things -/
theorem forGo_ty {c : α → D} {f : D → DL.Env → W Out} (I : Nat → DL.Env → Prop) : ∀ {as : List α} (n : Nat) {ρ : DL.Env} {Q : Out → Prop}, I n ρ →
    (∀ (i : Nat) a ρ, as[i]? = some a → I (n + i) ρ → ∀ Q : Out → Prop, (∀ ρ', I (n + i + 1) ρ' → Q (.nx ρ')) → f (c a) ρ Q E) → (∀ ρ', I (n + as.length) ρ' → Q (.nx ρ')) → forGo f (as.map c) ρ Q E
  | [], n, ρ, Q, h0, _, h => h ρ h0
  | a :: as, n, ρ, Q, h0, hf, h => by
    refine hf 0 a ρ rfl h0 _ fun ρ' h1 => ?_
    refine forGo_ty I (n + 1) (by simpa using h1) (fun i y ρ e hi Q hq => hf (i + 1) y ρ (by simpa using e) (by rw [show n + (i + 1) = n + 1 + i by omega]; exact hi) Q fun ρ' hh => hq ρ' (by rw [show n + 1 + i + 1 = n + (i + 1) + 1 by omega]; exact hh)) fun ρ' hh => h ρ' (by rw [List.length_cons, show n + (as.length + 1) = n + 1 + as.length by omega]; exact hh)
end
theorem draw_all {m : Int} {Q : D → Prop} {E : DX → Prop} (h0 : 0 < m) (h1 : m < 2 ^ 200) (h : ∀ r, 0 ≤ r → r < m → Q (.int r)) : drawS [.hnd, .int m] Q E :=
  ⟨⟨h0, h1⟩, fun d ⟨r, e, r0, r1⟩ => by rw [e]; exact h r r0 r1⟩
theorem rng_nat {n : Nat} {Q : List D → Prop} {E : DX → Prop} (h : n ≤ 1000) (q : Q ((List.range n).map fun i : Nat => D.int (i : Int))) : rng1W [.int (n : Int)] Q E := by
  refine ⟨⟨by omega, by omega⟩, ?_⟩
  rw [Int.toNat_natCast, rangeD0]
  exact q
theorem rng2_nat {a b : Nat} {Q : List D → Prop} {E : DX → Prop} (h : b ≤ 1000) (ha : a ≤ 1000) (q : Q ((List.range' a (b - a)).map fun i : Nat => D.int (i : Int))) : rng2D [.int (a : Int), .int (b : Int)] Q E := by
  refine ⟨⟨by omega, by omega, by omega, by omega⟩, ?_⟩
  have : rangeD (a : Int) ((b : Int) - (a : Int)).toNat = (List.range' a (b - a)).map fun i : Nat => D.int (i : Int) := by
    unfold rangeD
    rw [show ((b : Int) - (a : Int)).toNat = b - a by omega, List.range'_eq_map_range, List.map_map]
    congr 1
  rw [this]
  exact q
theorem sum_bound {b : Nat} : ∀ {ns : List Int}, (∀ x ∈ ns, x.natAbs ≤ b) → ns.sum.natAbs ≤ ns.length * b
  | [], _ => by simp
  | n :: ns, h => by
    have h1 := h n List.mem_cons_self
    have h2 := sum_bound (ns := ns) fun x hx => h x (List.mem_cons_of_mem _ hx)
    rw [List.sum_cons, List.length_cons, Nat.succ_mul]
    have := Int.natAbs_add_le n ns.sum
    omega
theorem in_tup (b : Bool) (i : Int) (ns : List Int) : inD b (.int i) (.tup (ns.map D.int)) = ret (.bl (ns.contains i != b)) := by
  simp only [inD, inV, inItems, Option.bind, pyD, pyDs_ints, shp_int, shp_lst, and_self, if_true, Option.map, any_eqv, optW]
theorem mulOk_w {i j : Int} (h : i.natAbs < 2 ^ 400) (h2 : j.natAbs < 2 ^ 400) : DL.MulOk i j := by
  have l : ∀ x : Int, x.natAbs < 2 ^ 400 → x.natAbs.log2 < 400 := fun x hx => by
    by_cases e : x.natAbs = 0
    · rw [e]; decide
    · exact (Nat.log2_lt e).mpr hx
  have := l i h
  have := l j h2
  exact .inr (by unfold CMulW; omega)
theorem mulOk_s {i j : Int} (h : -(2 ^ 64) < j ∧ j < 2 ^ 64) : DL.MulOk i j := .inl (.inr h)
theorem mulOk_l {i j : Int} (h : -(2 ^ 64) < i ∧ i < 2 ^ 64) : DL.MulOk i j := .inl (.inl h)
theorem ints_map {β : Type} (f : β → Int) (l : List β) : l.map (fun x => D.int (f x)) = (l.map f).map D.int := by rw [List.map_map]; rfl
end DL
end
section
set_option Elab.async false
set_option linter.all false
set_option maxRecDepth 100000
set_option maxHeartbeats 2000000
set_option autoImplicit false
/-! O5: the order of alike data: total, transitive, antisymmetric; the least of a list. -/
namespace DL
open PySem PySem.Spec L2 PyProof.Rows
open PySem.W (dataLt alike alikeAll dataLe TotalLe keyToks keyToksAll)
mutual
theorem eqv_eq : ∀ p q : PyData, alike p q = true → PyData.eqv p q = true → p = q
  | .none, q, h, e => by cases q <;> first | rfl | (simp [alike] at h; done)
  | .bool a, q, h, e => by
    cases q <;> first | (simp [alike] at h; done) | skip
    simp only [PyData.eqv, beq_iff_eq] at e
    rw [e]
  | .int a, q, h, e => by
    cases q <;> first | (simp [alike] at h; done) | skip
    simp only [PyData.eqv, beq_iff_eq] at e
    rw [e]
  | .str a, q, h, e => by
    cases q <;> first | (simp [alike] at h; done) | skip
    simp only [PyData.eqv, beq_iff_eq] at e
    rw [e]
  | .list xs, q, h, e => by
    cases q <;> first | (simp [alike] at h; done) | skip
    rename_i ys
    rw [eqvAll_eq xs ys (by simpa only [alike] using h) (by simpa only [PyData.eqv] using e)]
  | .tuple xs, q, h, e => by
    cases q <;> first | (simp [alike] at h; done) | skip
    rename_i ys
    rw [eqvAll_eq xs ys (by simpa only [alike] using h) (by simpa only [PyData.eqv] using e)]
  | .dict _, q, h, e => by simp [alike] at h
theorem eqvAll_eq : ∀ ps qs : List PyData, alikeAll ps qs = true → PyData.eqvAll ps qs = true → ps = qs
  | [], [], _, _ => rfl
  | [], _ :: _, _, e => by simp [PyData.eqvAll] at e
  | _ :: _, [], _, e => by simp [PyData.eqvAll] at e
  | p :: ps, q :: qs, h, e => by
    obtain ⟨h1, h2⟩ := PySem.W.alike_all_cons h
    rw [PySem.W.eqv_all_cons, Bool.and_eq_true] at e
    rw [eqv_eq p q h1 e.1, eqvAll_eq ps qs h2 e.2]
end
theorem lt_anti {p q : PyData} (h : alike p q = true) (h1 : dataLt p q = false) (h2 : dataLt q p = false) : p = q := by
  have ek : keyToks p = keyToks q := lex_total _ _ h1 h2
  have te := PySem.W.toks_eqv p q h
  cases e : PyData.eqv p q with
  | true => exact eqv_eq p q h e
  | false =>
    exfalso
    have z := te.2 e [] [.inl 0]
    rw [ek, PySem.W.lex_pre, lex_irrefl] at z
    simp [PyProof.Rows.lexLt] at z
/-- data that can be compared with one another -/
structure Cmp (S : D → Prop) : Prop where
  some : ∀ d, S d → (pyD d).isSome = true
  alk : ∀ d e, S d → S e → alike (encD d) (encD e) = true
section
variable {S : D → Prop} (C : Cmp S) {a b c : D}
include C
theorem Cmp.eq (ha : S a) (hb : S b) (h : encD a = encD b) : a = b := by
  obtain ⟨p, e1⟩ := Option.isSome_iff_exists.mp (C.some a ha)
  obtain ⟨q, e2⟩ := Option.isSome_iff_exists.mp (C.some b hb)
  unfold encD at h
  rw [e1, e2] at h
  have : p = q := h
  subst this
  exact pyD_inj e1 e2
theorem Cmp.le (ha : S a) (hb : S b) : leE a b = dataLe false encD a b := by
  show (!pLt (encD b) (encD a)) = !dataLt (encD b) (encD a)
  rw [pLt_eq _ _ (C.alk _ _ hb ha)]
theorem Cmp.total (ha : S a) (hb : S b) : leE a b = true ∨ leE b a = true := by
  rw [C.le ha hb, C.le hb ha]
  exact le_total.total a b
theorem Cmp.trans (ha : S a) (hb : S b) (hc : S c) (h1 : leE a b = true) (h2 : leE b c = true) : leE a c = true := by
  rw [C.le ha hb] at h1
  rw [C.le hb hc] at h2
  rw [C.le ha hc]
  exact le_total.trans a b c h1 h2
theorem Cmp.refl (ha : S a) : leE a a = true := (C.total ha ha).elim id id
theorem Cmp.anti (ha : S a) (hb : S b) (h1 : leE a b = true) (h2 : leE b a = true) : a = b := by
  rw [C.le ha hb] at h1
  rw [C.le hb ha] at h2
  refine C.eq ha hb (lt_anti (C.alk _ _ ha hb) ?_ ?_)
  · have : (!dataLt (encD a) (encD b)) = true := h2
    simpa using this
  · have : (!dataLt (encD b) (encD a)) = true := h1
    simpa using this
theorem Cmp.min_le : ∀ (xs : List D) (x : D), S x → (∀ y ∈ xs, S y) → S (minL x xs) ∧ ∀ y ∈ x :: xs, leE (minL x xs) y = true
  | [], x, hx, _ => ⟨hx, fun y hy => by
    have : y = x := by simpa using hy
    subst this
    exact C.refl hx⟩
  | z :: xs, x, hx, hy => by
    have hz := hy z List.mem_cons_self
    have hm : S (if pLt (encD z) (encD x) = true then z else x) := by split <;> assumption
    obtain ⟨h1, h2⟩ := Cmp.min_le xs (if pLt (encD z) (encD x) = true then z else x) hm fun y h => hy y (List.mem_cons_of_mem _ h)
    refine ⟨h1, fun y h => ?_⟩
    have hb := h2 _ List.mem_cons_self
    have lx : leE (if pLt (encD z) (encD x) = true then z else x) x = true ∧ leE (if pLt (encD z) (encD x) = true then z else x) z = true := by
      split
      · rename_i c
        refine ⟨?_, C.refl hz⟩
        rcases C.total hz hx with t | t
        · exact t
        · have : (!pLt (encD z) (encD x)) = true := t
          rw [c] at this
          cases this
      · rename_i c
        refine ⟨C.refl hx, ?_⟩
        show (!pLt (encD z) (encD x)) = true
        simpa using c
    rcases List.mem_cons.mp h with rfl | h
    · exact C.trans h1 hm hx hb lx.1
    · rcases List.mem_cons.mp h with rfl | h
      · exact C.trans h1 hm hz hb lx.2
      · exact h2 y (List.mem_cons_of_mem _ h)
/-- the least is one alone -/
theorem Cmp.min_one {x : D} {xs : List D} (hx : S x) (hs : ∀ y ∈ xs, S y) {m : D} (hm : m ∈ x :: xs) (h : ∀ y ∈ x :: xs, leE m y = true) : minL x xs = m := by
  obtain ⟨h1, h2⟩ := C.min_le xs x hx hs
  have sm : S m := by
    rcases List.mem_cons.mp hm with rfl | hm
    · exact hx
    · exact hs m hm
  exact C.anti h1 sm (h2 m hm) (h _ (minL_mem x xs))
theorem Cmp.minOk {xs : List D} (hs : ∀ y ∈ xs, S y) (hn : ∀ y ∈ xs, encD y ≠ .none) (hd : ∀ y ∈ xs, (encD y).depth ≤ 60) : MinOk xs := by
  refine ⟨fun d hd => C.some d (hs d hd), fun p hp r hr => ?_, fun p hp => ?_, ?_⟩
  · obtain ⟨d, h1, rfl⟩ := List.mem_map.mp hp
    obtain ⟨e, h2, rfl⟩ := List.mem_map.mp hr
    exact C.alk d e (hs d h1) (hs e h2)
  · obtain ⟨d, h1, rfl⟩ := List.mem_map.mp hp
    exact hn d h1
  · clear hn hs
    induction xs with
    | nil => simp [PyData.depthAll]
    | cons x xs ih =>
      rw [List.map_cons]
      simp only [PyData.depthAll]
      have h1 := hd x List.mem_cons_self
      have h2 := ih fun y hy => hd y (List.mem_cons_of_mem _ hy)
      omega
end
/-! ### ints, rows of ints -/
theorem encD_int (i : Int) : encD (.int i) = .int i := rfl
theorem pyD_ints (l : List Int) : pyD (.tup (l.map D.int)) = some (.tuple (l.map .int)) := by simp [pyD, pyDs_ints]
theorem depth_ints (l : List Int) : PyData.depthAll (l.map .int) = 0 := PySem.W.depth_ints l
theorem alike_ints (a b : List Int) : alikeAll (a.map .int) (b.map .int) = true := PySem.W.alike_ints a b
theorem leE_int (i j : Int) : leE (.int i) (.int j) = decide (i ≤ j) := by
  show (!pLt (.int j) (.int i)) = _
  simp only [pLt]
  by_cases h : i ≤ j
  · simp [h]
  · have : j < i := by omega
    simp [h, this]
def isIntD (d : D) : Prop := ∃ i : Int, d = .int i
theorem cmp_int : Cmp isIntD where
  some := by rintro d ⟨i, rfl⟩; rfl
  alk := by
    rintro d e ⟨i, rfl⟩ ⟨j, rfl⟩
    show alike (.int i) (.int j) = true
    simp [alike]
end DL
end
section
set_option Elab.async false
set_option linter.all false
set_option maxRecDepth 100000
set_option maxHeartbeats 4000000
set_option autoImplicit false
/-! O6: typed comprehensions and walks of the plain functions. -/
namespace DL
open PySem PySem.Spec L2
theorem lcO_m1 {α : Type} {c : α → D} {f : D → O (Option D)} {g : α → D} : ∀ {as : List α}, (∀ a ∈ as, f (c a) = .ok (some (g a))) → lcO f (as.map c) = .ok (as.map g)
  | [], _ => rfl
  | a :: as, h => by
    show ob (f (c a)) _ = _
    rw [h a List.mem_cons_self, ob_ok, lcO_m1 fun y hy => h y (List.mem_cons_of_mem _ hy)]
    rfl
theorem lcO_mp {α : Type} {c : α → D} {f : D → O (Option D)} {g : α → D} {P : α → Bool} : ∀ {as : List α}, (∀ a ∈ as, f (c a) = .ok (if P a = true then some (g a) else none)) → lcO f (as.map c) = .ok ((as.filter P).map g)
  | [], _ => rfl
  | a :: as, h => by
    show ob (f (c a)) _ = _
    rw [h a List.mem_cons_self, ob_ok, lcO_mp (P := P) fun y hy => h y (List.mem_cons_of_mem _ hy)]
    by_cases e : P a = true
    · rw [List.filter_cons_of_pos e]; simp [e, ob]
    · rw [List.filter_cons_of_neg e]; simp [e, ob]
theorem forO_m {α σ : Type} {c : α → D} {f : D → DL.Env → O Out} (emb : σ → DL.Env) (step : σ → α → σ) (I : σ → Prop) : ∀ {as : List α} {s : σ}, I s → (∀ a ∈ as, ∀ s, I s → f (c a) (emb s) = .ok (.nx (emb (step s a))) ∧ I (step s a)) → forO f (as.map c) (emb s) = .ok (.nx (emb (as.foldl step s))) ∧ I (as.foldl step s)
  | [], s, hs, _ => ⟨rfl, hs⟩
  | a :: as, s, hs, h => by
    obtain ⟨h1, h2⟩ := h a List.mem_cons_self s hs
    obtain ⟨h3, h4⟩ := forO_m emb step I (as := as) h2 fun y hy => h y (List.mem_cons_of_mem _ hy)
    refine ⟨?_, h4⟩
    show ob (f (c a) (emb s)) _ = _
    rw [h1, ob_ok]
    exact h3
theorem forO_p {α σ : Type} {c : α → D} {f : D → DL.Env → O Out} (emb : σ → DL.Env) (I : List α → σ → Prop) (all : List α) : ∀ (as done : List α) (s : σ), done ++ as = all → I done s → (∀ d a r s, d ++ a :: r = all → I d s → ∃ s', f (c a) (emb s) = .ok (.nx (emb s')) ∧ I (d ++ [a]) s') → ∃ s', forO f (as.map c) (emb s) = .ok (.nx (emb s')) ∧ I all s'
  | [], done, s, e, hs, _ => ⟨s, rfl, by rw [← e, List.append_nil]; exact hs⟩
  | a :: as, done, s, e, hs, h => by
    obtain ⟨s1, h1, h2⟩ := h done a as s e hs
    obtain ⟨s2, h3, h4⟩ := forO_p emb I all as (done ++ [a]) s1 (by rw [← e, List.append_assoc]; rfl) h2 h
    refine ⟨s2, ?_, h4⟩
    show ob (f (c a) (emb s)) _ = _
    rw [h1, ob_ok]
    exact h3
def oI : O D → Option Int
  | .ok (.int i) => some i
  | _ => none
theorem oI_eq {m : O D} {i : Int} (h : oI m = some i) : m = .ok (.int i) := by
  unfold oI at h
  split at h
  · cases h; rfl
  · cases h
theorem sumO_ints (l : List Int) : sumO [.lst (l.map D.int)] = .ok (.int l.sum) := by
  simp [sumO, intsD_map, oo, ob]
theorem sizeLine_len {α : Type} {l : List α} (h : l.length ≤ 100000) : l.length ≤ sizeLine := by rw [sizeLine_eq]; omega
end DL
end
section
set_option Elab.async false
set_option linter.all false
set_option maxRecDepth 100000
set_option maxHeartbeats 2000000
set_option autoImplicit false
/-! DJ2: comprehensions of two walks. -/
namespace DL
open PySem PySem.Spec L2 PyProof.Rows
/-- the slots without what is one's own -/
def unownE (ρ : DL.Env) : DL.Env := ρ.map fun s => match s with
  | .own _ => .un
  | s => s
theorem unownE_get {ρ : DL.Env} {i : Nat} {s : Sl} (h : (unownE ρ)[i]? = some s) : (∀ o, s ≠ .own o) ∧ (s ≠ .un → ρ[i]? = some s) := by
  unfold unownE at h
  rw [List.getElem?_map] at h
  cases e : ρ[i]? with
  | none => rw [e] at h; cases h
  | some t =>
    rw [e] at h
    cases t with
    | own o => cases h; exact ⟨fun _ z => (by cases z), fun z => (z rfl).elim⟩
    | un => cases h; exact ⟨fun _ z => (by cases z), fun _ => rfl⟩
    | d x => cases h; exact ⟨fun _ z => (by cases z), fun _ => rfl⟩
    | exc x a => cases h; exact ⟨fun _ z => (by cases z), fun _ => rfl⟩
theorem Ok.moved {B : Bx} {ρ : DL.Env} {σ : L2.St} {H0 H H0' H' : Hp} (k : Ok B ρ σ H0 H) (x : Ext B.G.T B.Z B.He H0' H') (s : Same H0 H0') : Ok B (unownE ρ) σ H0' H' := by
  refine ⟨x, by rw [k.len]; simp [unownE], fun i t e => ?_, fun i j o p a e1 => ?_⟩
  · obtain ⟨n, g⟩ := unownE_get e
    cases t with
    | own o => exact (n o rfl).elim
    | un =>
      have hi : i < σ.length := by
        rw [k.len]
        have := (List.getElem?_eq_some_iff.mp e).1
        simpa [unownE] using this
      exact ⟨_, List.getElem?_eq_getElem hi, trivial⟩
    | d y =>
      obtain ⟨v, h1, u, h2, h3⟩ := k.env i _ (g (by intro z; cases z))
      exact ⟨v, h1, u, h2, h3.same s⟩
    | exc y a =>
      obtain ⟨v, h1, h2⟩ := k.env i _ (g (by intro z; cases z))
      exact ⟨v, h1, h2⟩
  · exact ((unownE_get e1).1 o rfl).elim
/-- all that the items bring, one behind another -/
def lcGoL (f : D → W (List D)) : List D → W (List D)
  | [] => ret []
  | x :: xs => bnd (f x) fun ys => bnd (lcGoL f xs) fun zs => ret (ys ++ zs)
def lcF2 (own is1 : List Nat) (g : D → DL.Env → W DL.Env) (wt : DL.Env → W Bool) (wi1 : DL.Env → W (List D)) (g1 : D → DL.Env → W DL.Env) (wt1 : DL.Env → W Bool) (we : DL.Env → W D) (ρ : DL.Env) : D → W (List D) := fun x =>
  bnd (g x (wipeE ρ own)) fun ρ1 => bnd (wt ρ1) fun t => if t = true then bnd (wi1 ρ1) fun xs => grd (xs.length ≤ 160) (lcGo (lcF is1 g1 wt1 we (unownE ρ1)) xs) else ret []
def lc2W (own is1 : List Nat) (wi : DL.Env → W (List D)) (g : D → DL.Env → W DL.Env) (wt : DL.Env → W Bool) (wi1 : DL.Env → W (List D)) (g1 : D → DL.Env → W DL.Env) (wt1 : DL.Env → W Bool) (we : DL.Env → W D) (ρ : DL.Env) : W (List D) :=
  bnd (wi ρ) fun xs => grd (xs.length ≤ 100000) (nox (lcGoL (lcF2 own is1 g wt wi1 g1 wt1 we ρ) xs))
section
variable {X : Cx} {B : Bx} {elt tg iter tg1 iter1 : Expr} {ifs ifs1 : List Expr} {scope : Scope} {own : List (Str × Nat)} {pos : Pos} {wi wi1 : DL.Env → W (List D)} {is is1 : List Nat} {g g1 : D → DL.Env → W DL.Env} {wt wt1 : DL.Env → W Bool} {we : DL.Env → W D}
theorem Ext.appd {T : List NdefX.NTab} {H1 H2 H9 H10 : Hp} {Dd : Addr} {acc : List V} {o : HO} (ho : ∀ ps, o ≠ .tbl ps) (hD : H2 Dd = none) (hD9 : H9 Dd = none) (hD10 : H10 Dd = some (.lst acc)) (xx : Ext T H1 H2 H9 H10) : Ext T H1 H2 H9 (upd H10 Dd o) := by
  refine ⟨fun b u e n => ?_, fun b e => xx.nn b (NdefX.upd_none e), xx.z, fun b u e => ?_, xx.fr, ?_, xx.nt⟩
  · rw [upd_ne (ne_of_none e hD)]; exact xx.n b u e n
  · rw [upd_ne (ne_of_none e hD9)]; exact xx.zz b u e
  · intro p hp
    obtain ⟨ps, t1, t2, t3⟩ := xx.tabs p hp
    refine ⟨ps, ?_, t2, fun pos cv hc => ?_⟩
    · rw [upd_ne (fun z => by rw [z, hD10] at t1; cases t1)]; exact t1
    · obtain ⟨c, e1, e2⟩ := t3 pos cv hc
      exact ⟨c, e1, by rw [upd_ne (fun z => by rw [z, hD10] at e2; cases e2)]; exact e2⟩
theorem Ext.none_of {T : List NdefX.NTab} {H0 H H0' H' : Hp} {Dd : Addr} {acc : List V} (x : Ext T H0 H H0' H') (h0 : H0 Dd = none) (h : H Dd = some (.lst acc)) : H' Dd = some (.lst acc) ∧ H0' Dd = none := by
  refine ⟨x.n Dd _ h (fun _ z => by cases z), ?_⟩
  cases z : H0' Dd with
  | none => rfl
  | some u =>
    rcases x.fr Dd u z with r | r
    · rw [h0] at r; cases r
    · rw [h] at r; cases r
theorem lift_lc2 (his : ∀ i ∈ is, i ∈ own.map (·.2)) (his1 : ∀ i ∈ is1, i ∈ own.map (·.2)) {σ : L2.St} {H : Hp} {Q : VK} (h : liftN B (lc2W (own.map (·.2)) is1 wi g wt wi1 g1 wt1 we) σ H Q) :
    tLc2 (liftI B wi) (liftG B.no is g) (liftT B.no wt) (liftI B.no wi1) (liftG B.no is1 g1) (liftT B.no wt1) (lift B.no we) (own.map (·.2)) is1 σ H Q := by
  obtain ⟨ρ, H0, QL, k, q, h⟩ := h
  refine ⟨ρ, H0, _, k, q, fun ds J H1 H2 x jt q1 => ?_⟩
  obtain ⟨hsz, q1⟩ := q1
  intro Dd hD
  refine ⟨fun i m H => m = ds.length - i ∧ i ≤ ds.length ∧ ∃ (H3 : Hp) (accd : List D) (acc : List V), Ext B.G.T H1 H2 H3 H ∧ H3 Dd = none ∧ H Dd = some (.lst acc) ∧ Dens B.G H3 accd acc ∧ acc.length ≤ 160 * i ∧
      lcGoL (lcF2 (own.map (·.2)) is1 g wt wi1 g1 wt1 we ρ) (ds.drop i) (fun ys => QL (accd ++ ys)) (fun _ => False), ⟨ds.length, by simp, Nat.zero_le _, H1, [], [], Ext.putH x.st hD _, x.zz.free hD, upd_same, .nil, Nat.le_refl _, q1⟩, ?_⟩
  rintro i m H ⟨rfl, hi, H3, accd, acc, x3, n3, hd, dd, hl, qq⟩
  by_cases hlt : i < ds.length
  · refine .inr ⟨jt.go i H hlt (x3.z.trans x3.zz), _, fun H' p => ⟨ds.length - (i + 1), by omega, rfl, hlt, p⟩, fun v H4 y => ?_⟩
    have e1 : ds[i]? = some ds[i] := by simp [hlt]
    obtain ⟨H5, x5, dv⟩ := jt.yld i H3 H v H4 ds[i] x3.z x3.st e1 y
    obtain ⟨hD4, hD5⟩ := x5.none_of n3 hd
    rw [List.drop_eq_getElem_cons hlt] at qq
    have k5 : Ok B.no (wipeE ρ (own.map (·.2))) (wipe σ (own.map (·.2))) H5 H4 := (((k.later x).later (x3.trans x5)).wiped _).no
    refine ⟨_, H5, ds[i], _, k5, dv, qq, fun ρ1 σ1 k6 s6 l6 q6 => ⟨wipe_congr (σ := wipe σ (own.map (·.2))) l6 (fun j hj => s6 j fun z => hj (his j z)) |>.trans ?_, ρ1, H5, _, k6, q6, fun t H7 H8 x8 q8 => ?_⟩⟩
    · exact wipe_congr (wipe_length _ _) fun j hj => wipe_get hj
    · obtain ⟨hD8, hD7⟩ := x8.none_of hD5 hD4
      have x38 : Ext B.G.T H1 H2 H7 H8 := (x3.trans x5).trans x8
      cases t with
      | true =>
        rw [if_pos rfl] at q8
        refine iteT ⟨ρ1, H7, _, k6.later x8, q8, fun ds1 J1 H9 H10 x9 jt1 q9 => ?_⟩
        obtain ⟨hsz1, q9⟩ := q9
        obtain ⟨hD10, hD9⟩ := x9.none_of hD7 hD8
        have x39 : Ext B.G.T H1 H2 H9 H10 := x38.trans x9
        refine ⟨fun j m H => m = ds1.length - j ∧ j ≤ ds1.length ∧ ∃ (H3 : Hp) (accd : List D) (acc : List V), Ext B.G.T H1 H2 H3 H ∧ Same H9 H3 ∧ H3 Dd = none ∧ H Dd = some (.lst acc) ∧ Dens B.G H3 accd acc ∧ acc.length ≤ 160 * i + j ∧
          lcGo (lcF is1 g1 wt1 we (unownE ρ1)) (ds1.drop j) (fun ys => lcGoL (lcF2 (own.map (·.2)) is1 g wt wi1 g1 wt1 we ρ) (ds.drop (i + 1)) (fun zs => QL (accd ++ (ys ++ zs))) (fun _ => False)) (fun _ => False), ⟨ds1.length, by simp, Nat.zero_le _, H9, accd, acc, x39, .refl _, hD9, hD10, ((dd.same x5.z).same x8.z).same x9.z, hl, q9⟩, ?_⟩
        rintro j m Hj ⟨rfl, hj, H3j, accd, acc, x3j, s9, n3j, hdj, ddj, hlj, qj⟩
        by_cases hlt1 : j < ds1.length
        · refine .inr ⟨jt1.go j Hj hlt1 (s9.trans x3j.zz), _, fun H' p => ⟨ds1.length - (j + 1), by omega, rfl, hlt1, p⟩, fun v1 H11 y1 => ?_⟩
          have e1 : ds1[j]? = some ds1[j] := by simp [hlt1]
          obtain ⟨H12, x12, dv1⟩ := jt1.yld j H3j Hj v1 H11 ds1[j] s9 x3j.st e1 y1
          obtain ⟨hD11, hD12⟩ := x12.none_of n3j hdj
          rw [List.drop_eq_getElem_cons hlt1] at qj
          have xj : Ext B.G.T H1 H2 H12 H11 := x3j.trans x12
          have k7 : Ok B.no (wipeE (unownE ρ1) is1) (wipe σ1 is1) H12 H11 := (k6.moved ((k.ext.trans x).trans xj) (((x8.z.trans x9.z).trans s9).trans x12.z)).wiped _
          refine ⟨_, H12, ds1[j], _, k7, dv1, qj, fun ρ2 σ2 k8 s8 l8 q8 => ⟨wipe_congr (σ := wipe σ1 is1) l8 (fun j hj => s8 j hj) |>.trans ?_, ρ2, H12, _, k8, q8, fun t2 H13 H14 x14 q14 => ?_⟩⟩
          · exact wipe_congr (wipe_length _ _) fun j hj => wipe_get hj
          · obtain ⟨hD14, hD13⟩ := x14.none_of hD12 hD11
            have xk : Ext B.G.T H1 H2 H13 H14 := xj.trans x14
            cases t2 with
            | true =>
              rw [if_pos rfl] at q14
              refine iteT ⟨ρ2, H13, _, k8.later x14, q14, fun d v' H15 H16 x16 d16 q16 => ?_⟩
              obtain ⟨hD16, hD15⟩ := x16.none_of hD13 hD14
              refine ⟨acc, hD16, by rw [sizeLine_eq]; omega, H15, accd ++ [d], acc ++ [v'], (xk.trans x16).appd (fun _ z => by cases z) hD hD15 hD16, ((s9.trans x12.z).trans x14.z).trans x16.z, hD15, upd_same, ((((ddj.same x12.z).same x14.z).same x16.z).append (.cons d16 .nil)), by rw [List.length_append, List.length_singleton]; omega, ?_⟩
              have e : (fun ys => lcGoL (lcF2 (own.map (·.2)) is1 g wt wi1 g1 wt1 we ρ) (ds.drop (i + 1)) (fun zs => QL (accd ++ [d] ++ (ys ++ zs))) (fun _ => False)) = fun ys => lcGoL (lcF2 (own.map (·.2)) is1 g wt wi1 g1 wt1 we ρ) (ds.drop (i + 1)) (fun zs => QL (accd ++ (d :: ys ++ zs))) (fun _ => False) := by
                funext ys
                congr 1
                funext zs
                rw [List.append_assoc]
                rfl
              rw [e]
              exact q16
            | false =>
              rw [if_neg Bool.false_ne_true] at q14
              exact iteF ⟨H13, accd, acc, xk, (s9.trans x12.z).trans x14.z, hD13, hD14, (ddj.same x12.z).same x14.z, by omega, q14⟩
        · have e : j = ds1.length := by omega
          subst e
          rw [List.drop_length] at qj
          exact .inl ⟨jt1.stop Hj (s9.trans x3j.zz), H3j, accd, acc, x3j, n3j, hdj, ddj, by omega, qj⟩
      | false =>
        rw [if_neg Bool.false_ne_true] at q8
        exact iteF ⟨H7, accd, acc, x38, hD7, hD8, (dd.same x5.z).same x8.z, by omega, q8⟩
  · have e : i = ds.length := by omega
    subst e
    rw [List.drop_length] at qq
    have qq : QL (accd ++ []) := qq
    rw [List.append_nil] at qq
    exact .inl ⟨jt.stop H (x3.z.trans x3.zz), h accd acc Dd H3 (fun b => if b = Dd then none else H b) H (x.trans ⟨fun b u e n => by
        have nb : b ≠ Dd := fun z => by rw [z, hD] at e; cases e
        rw [if_neg nb]; exact x3.n b u e n, fun b e => by
        by_cases z : b = Dd
        · rw [z]; exact hD
        · rw [if_neg z] at e; exact x3.nn b e, x3.z, fun b u e => by
        rw [if_neg (fun z => by rw [z, n3] at e; cases e)]; exact x3.zz b u e, x3.fr, fun p hp => by
        obtain ⟨ps, t1, t2, t3⟩ := x3.tabs p hp
        refine ⟨ps, ?_, t2, fun pos cv hc => ?_⟩
        · exact (if_neg (fun z => by rw [z, hd] at t1; cases t1)).trans t1
        · obtain ⟨c, e1, e2⟩ := t3 pos cv hc
          exact ⟨c, e1, (if_neg (fun z => by rw [z, hd] at e2; cases e2)).trans e2⟩, x3.nt⟩) (if_pos rfl) hd dd ⟨fun b u e n => by
        by_cases z : b = Dd
        · rw [z, if_pos rfl] at e; cases e
        · rw [if_neg z] at e; exact e, fun b e => by
        by_cases z : b = Dd
        · rw [if_pos z]
        · rw [if_neg z]; exact e, .refl _, x3.zz, fun b u e => .inl e, x3.tabs, x3.nt⟩ n3 qq⟩
theorem dn_lc2 (hc : X.calm = true) (hN : X.N.Nodup) (hi : DI X B tg iter wi) (ok : BlkOk X.N X.env.scope scope own)
    (hg : ∀ (s : Shared) (H : Hp) (C : Addr) (cl : List (Str × Addr)) (fp : List Addr), DTg (X.blk s H scope (compEnvC scope cl C X.env) fp) B.no tg is g)
    (ht : ∀ (s : Shared) (H : Hp) (C : Addr) (cl : List (Str × Addr)) (fp : List Addr), DTs (X.blk s H scope (compEnvC scope cl C X.env) fp) B.no ifs wt)
    (hi1 : ∀ (s : Shared) (H : Hp) (C : Addr) (cl : List (Str × Addr)) (fp : List Addr), DI (X.blk s H scope (compEnvC scope cl C X.env) fp) B.no tg1 iter1 wi1)
    (hg1 : ∀ (s : Shared) (H : Hp) (C : Addr) (cl : List (Str × Addr)) (fp : List Addr), DTg (X.blk s H scope (compEnvC scope cl C X.env) fp) B.no tg1 is1 g1)
    (ht1 : ∀ (s : Shared) (H : Hp) (C : Addr) (cl : List (Str × Addr)) (fp : List Addr), DTs (X.blk s H scope (compEnvC scope cl C X.env) fp) B.no ifs1 wt1)
    (he : ∀ (s : Shared) (H : Hp) (C : Addr) (cl : List (Str × Addr)) (fp : List Addr), DE (X.blk s H scope (compEnvC scope cl C X.env) fp) B.no elt we)
    (his : ∀ i ∈ is, i ∈ own.map (·.2) := by decide) (his1 : ∀ i ∈ is1, i ∈ own.map (·.2) := by decide) (hs : ∀ x, foldedSetIterable iter X.env x = pure x := by intro _; rfl) (hs1 : ∀ env x, foldedSetIterable iter1 env x = pure x := by intro _ _; rfl) :
    DN X B (.ListComp elt [⟨tg, iter, ifs, 0⟩, ⟨tg1, iter1, ifs1, 0⟩] scope pos) (lc2W (own.map (·.2)) is1 wi g wt wi1 g1 wt1 we) :=
  PE.imp (pe_lc2 hc hN hi ok his1 hg ht hi1 hg1 ht1 he hs hs1) fun _ _ _ h => lift_lc2 his his1 h
theorem ds_setLc2 (i : Nat) {y : Str} {py spos : Pos} (hc : X.calm = true) (hN : X.N.Nodup) (hi : DI X B tg iter wi) (ok : BlkOk X.N X.env.scope scope own)
    (hg : ∀ (s : Shared) (H : Hp) (C : Addr) (cl : List (Str × Addr)) (fp : List Addr), DTg (X.blk s H scope (compEnvC scope cl C X.env) fp) B.no tg is g)
    (ht : ∀ (s : Shared) (H : Hp) (C : Addr) (cl : List (Str × Addr)) (fp : List Addr), DTs (X.blk s H scope (compEnvC scope cl C X.env) fp) B.no ifs wt)
    (hi1 : ∀ (s : Shared) (H : Hp) (C : Addr) (cl : List (Str × Addr)) (fp : List Addr), DI (X.blk s H scope (compEnvC scope cl C X.env) fp) B.no tg1 iter1 wi1)
    (hg1 : ∀ (s : Shared) (H : Hp) (C : Addr) (cl : List (Str × Addr)) (fp : List Addr), DTg (X.blk s H scope (compEnvC scope cl C X.env) fp) B.no tg1 is1 g1)
    (ht1 : ∀ (s : Shared) (H : Hp) (C : Addr) (cl : List (Str × Addr)) (fp : List Addr), DTs (X.blk s H scope (compEnvC scope cl C X.env) fp) B.no ifs1 wt1)
    (he : ∀ (s : Shared) (H : Hp) (C : Addr) (cl : List (Str × Addr)) (fp : List Addr), DE (X.blk s H scope (compEnvC scope cl C X.env) fp) B.no elt we)
    (hy : X.N[i]? = some y := by rfl) (hyl : X.env.scope.names.lookup y = some .local := by rfl)
    (hsw : swapsWith (.ListComp elt [⟨tg, iter, ifs, 0⟩, ⟨tg1, iter1, ifs1, 0⟩] scope pos) (some (.Name y py)) spos.line X.env = pure true := by exact sw_true rfl rfl rfl (by decide +kernel))
    (his : ∀ i ∈ is, i ∈ own.map (·.2) := by decide) (his1 : ∀ i ∈ is1, i ∈ own.map (·.2) := by decide) (hs : ∀ x, foldedSetIterable iter X.env x = pure x := by intro _; rfl) (hs1 : ∀ env x, foldedSetIterable iter1 env x = pure x := by intro _ _; rfl) :
    DS X B (.Assign [.Name y py] (.ListComp elt [⟨tg, iter, ifs, 0⟩, ⟨tg1, iter1, ifs1, 0⟩] scope pos) spos) (fun ρ => bnd ((lc2W (own.map (·.2)) is1 wi g wt wi1 g1 wt1 we) ρ) fun ds => ret (.nx (ρ.set i (.d (.lst ds))))) := by
  refine PS.imp (ps_setLc2 hc hN hy hyl hsw hi ok his1 hg ht hi1 hg1 ht1 he hs hs1) fun D σ H ⟨ρ, H0, QO, k, q, h, _⟩ => ?_
  refine lift_lc2 his his1 ⟨ρ, H0, _, k, q, fun ds vs p H1 H2 H3 x hn hp dd x2 h0 q1 => ?_⟩
  have s : Same H1 (upd H1 p (.lst vs)) := fun b u e => by rw [upd_ne (ne_of_none e h0)]; exact e
  have x3 : Ext B.G.T H1 H2 (upd H1 p (.lst vs)) H3 := ⟨x2.n, x2.nn, s, Same.put0 x2.zz hp h0, fun b u e => by
    by_cases h : b = p
    · subst h; exact .inr hn
    · rw [upd_ne h] at e; exact .inl e, x2.tabs, x2.nt.upd (by intro _ z; cases z)⟩
  exact h _ _ _ _ ((k.later (x.trans x3)).putD (of_lst upd_same (dd.same s))) (x.trans x3).z q1
theorem ds_ownLc2 (i : Nat) {y : Str} {py spos : Pos} (hc : X.calm = true) (hN : X.N.Nodup) (hi : DI X B tg iter wi) (ok : BlkOk X.N X.env.scope scope own)
    (hg : ∀ (s : Shared) (H : Hp) (C : Addr) (cl : List (Str × Addr)) (fp : List Addr), DTg (X.blk s H scope (compEnvC scope cl C X.env) fp) B.no tg is g)
    (ht : ∀ (s : Shared) (H : Hp) (C : Addr) (cl : List (Str × Addr)) (fp : List Addr), DTs (X.blk s H scope (compEnvC scope cl C X.env) fp) B.no ifs wt)
    (hi1 : ∀ (s : Shared) (H : Hp) (C : Addr) (cl : List (Str × Addr)) (fp : List Addr), DI (X.blk s H scope (compEnvC scope cl C X.env) fp) B.no tg1 iter1 wi1)
    (hg1 : ∀ (s : Shared) (H : Hp) (C : Addr) (cl : List (Str × Addr)) (fp : List Addr), DTg (X.blk s H scope (compEnvC scope cl C X.env) fp) B.no tg1 is1 g1)
    (ht1 : ∀ (s : Shared) (H : Hp) (C : Addr) (cl : List (Str × Addr)) (fp : List Addr), DTs (X.blk s H scope (compEnvC scope cl C X.env) fp) B.no ifs1 wt1)
    (he : ∀ (s : Shared) (H : Hp) (C : Addr) (cl : List (Str × Addr)) (fp : List Addr), DE (X.blk s H scope (compEnvC scope cl C X.env) fp) B.no elt we)
    (hy : X.N[i]? = some y := by rfl) (hyl : X.env.scope.names.lookup y = some .local := by rfl)
    (hsw : swapsWith (.ListComp elt [⟨tg, iter, ifs, 0⟩, ⟨tg1, iter1, ifs1, 0⟩] scope pos) (some (.Name y py)) spos.line X.env = pure true := by exact sw_true rfl rfl rfl (by decide +kernel))
    (his : ∀ i ∈ is, i ∈ own.map (·.2) := by decide) (his1 : ∀ i ∈ is1, i ∈ own.map (·.2) := by decide) (hs : ∀ x, foldedSetIterable iter X.env x = pure x := by intro _; rfl) (hs1 : ∀ env x, foldedSetIterable iter1 env x = pure x := by intro _ _; rfl) :
    DS X B (.Assign [.Name y py] (.ListComp elt [⟨tg, iter, ifs, 0⟩, ⟨tg1, iter1, ifs1, 0⟩] scope pos) spos) (fun ρ => bnd ((lc2W (own.map (·.2)) is1 wi g wt wi1 g1 wt1 we) ρ) fun ds => ret (.nx (ρ.set i (.own (.lst none ds))))) := by
  refine PS.imp (ps_setLc2 hc hN hy hyl hsw hi ok his1 hg ht hi1 hg1 ht1 he hs hs1) fun D σ H ⟨ρ, H0, QO, k, q, h, _⟩ => ?_
  refine lift_lc2 his his1 ⟨ρ, H0, _, k, q, fun ds vs p H1 H2 H3 x hn hp dd x2 h0 q1 => ?_⟩
  have k2 := k.later (x.trans x2)
  refine h _ _ H1 H3 (k2.put (s := .own (.lst none ds)) ⟨p, rfl, (k.later x).ext.nn p hn, h0, (by intro _ z; cases z), vs, hp, dd⟩ fun o _ j o' a ea e1 e2 => ?_) x.z q1
  cases ea
  obtain ⟨v, e3, a, e4, _, _, hh⟩ := (k.later x).env j _ e1
  rw [e2] at e3
  cases e3
  cases e4
  obtain ⟨u, e5⟩ := hh.there
  rw [hn] at e5
  cases e5
end
end DL
end
section
set_option Elab.async false
set_option linter.all false
set_option maxRecDepth 100000
set_option maxHeartbeats 2000000
set_option autoImplicit false
/-! EX1: exceptions without fields: raise, a closure called in a try, its handler, isinstance of what is held. -/
namespace DL
open PySem PySem.Spec L2 PyProof.Rows
/-! ### f(), f a name that stands for a closure -/
def liftX (B : Bx) (w : DL.Env → W D) : TE := fun σ H Q => ∃ (ρ : DL.Env) (H0 : Hp) (QD : D → Prop), Ok B ρ σ H0 H ∧ w ρ QD B.E ∧
  (∀ d v H0' H', Ext B.G.T H0 H H0' H' → Den B.G H0' d v → QD d → Q v H') ∧ ∀ x cls d H1 H2, B.G.xfld x.c = none → Ext B.G.T H0 H H1 H2 → DenX B.G H1 x cls d → B.E x → B.xk cls d H2
section
variable {X : Cx} {B : Bx} {pos p : Pos} {x : Str} {k : Nat}
theorem pe_callC0 (σ0 : L2.St) (i : Nat) (hC : ∀ j cs ds Q E, B.G.cloW j cs ds Q E → LamOk X.prog X.w B.G X.mg X.base k j) (hK : X.K = B.G.K) (hr : Room k X.A) (hp : ∀ (pins : List (Addr × Obj)) (H : Hp) (s : Shared) (e : Value) (s' : Shared), Inv X pins σ0 H s → L2.CX X.prog X.w X.stack H s B.xk e s' → X.xe e s')
    (hN : X.N[i]? = some x) (hv : Vis X.env.scope x) (hd : (x == ("__debug__" : Str)) = false) (hcd : (x == ("__classdict__" : Str)) = false) :
    PE X (.Call (.Name x p) [] [] pos) (fun σ H Q => σ = σ0 ∧ liftX B (fun ρ => bnd (rd ρ i) fun f => grd (isClo f = true) (cloCall B.G 0 f [])) σ H Q) := by
  refine ⟨fun pins s σ H Q I h => ?_⟩
  obtain ⟨es, ρ, H0, QD, k', q, fin, fx⟩ := h
  subst es
  obtain ⟨f, ef, hc, q⟩ := rd_of q
  obtain ⟨v, e1, d1⟩ := k'.at_ ef
  cases f <;> first | (cases hc) | skip
  rename_i j cs
  simp only [Den] at d1
  obtain ⟨a, ws, ev, hclo, dcs⟩ := d1
  subst ev
  refine wpAny_Call_Name_kw (thn ((pe_var (pos := p) hN hv hd hcd).run pins s σ H (fun v H1 => v = .ref a ∧ H1 = H) I ⟨.ref a, e1, rfl, rfl⟩) fun u s1 ⟨v, H1, I1, r1, q1⟩ => ?_)
  obtain ⟨ev, eH⟩ := q1
  subst ev
  rw [eH] at I1
  obtain rfl : u = Value.ref a := r1
  refine PySem.W.callWith_F0 (first := []) (lam_fnAt I1.hok (hclo.same k'.ext.zz)) ?_
  obtain ⟨⟨g1, g2, g3⟩, q1⟩ := q
  show wpAny _ _ (call (.ref a) []) _ _ _
  have q0 : B.G.cloW j cs [] (fun d => gNo d QD B.E) (fun x => B.G.xfld x.c = none ∧ B.E x) := q1
  refine wpAny_call (codeAny_mono (hC j cs [] _ _ q0 X.A X.stack s1 H [] [] Q a ws H0 cs [] QD B.E B.xk hr (by rw [← hK]; exact I1.env0) hclo k'.st dcs .nil g1 g2 .nil (by rw [g3]; rfl) q1 (fun d v H4 H5 x2 d2 q2 => fin d v H4 H5 x2 d2 q2) fx) fun r s' hq => ?_)
  cases r with
  | error e => exact hp pins H s1 e s' I1 hq
  | ok fl =>
    cases fl with
    | ret u => exact I1.after hq
    | next => exact False.elim hq
    | brk => exact False.elim hq
    | cont => exact False.elim hq
end
/-! ### raise X() -/
section
variable {X : Cx} {B : Bx}
theorem pmk_own0 {C : Addr} {bmB : List Value} {Bn newId initId : String} {x : Str} {p pos : Pos} (F : ExcBaseFacts Bn newId initId bmB) (q : PySem.W.excIn X.K C bmB newId = true) (gC : X.mg x = some (.ref C)) (kC : PySem.W.keepIn X.K (.ref C) = true) (r : Raises X (.ref C)) (hg : Gl X x)
    (hdb : (x == ("__debug__" : Str)) = false := by decide) : PMk X (.Call (.Name x p) [] [] pos) (fun σ H Q => Q (.ref C) none H) := by
  intro pins s σ H Q I h
  refine wpAny_Call_Name_kw (ld_glob I hg gC ?_ hdb)
  refine PySem.W.callWith_K0 I.kIn kC ?_
  show wpAny _ _ (call (.ref C) []) _ _ _
  obtain ⟨bm, N, nm, qn, bs, hdct, sn, sub, ab, col, dd, k0, k1, k2, k3, k5, mN, hC, hN, hni, T⟩ := exc_obj I.kIn q
  refine wpAny_call_exc_subT F T hC hN hni (fun h' e hm => ?_) (by show 0 ≤ sizeLine; omega)
  exact mk_of I hm r h (I.hok.gone hm.new)
/-- what is known of a class of exceptions without own __init__ -/
structure ExcF (K : PySem.W.Frag) (C : Addr) : Prop where
  q : PySem.W.excIn K C [] "" = true ∨ True
theorem ds_raise0 (c : Nat) {bmB : List Value} {Bn newId initId : String} {x : Str} {p pos pos' : Pos} (hc : X.calm = true) (tk : Takes X fun cls d _ H => B.xk cls d H) (bok : BxOk B) (F : ExcBaseFacts Bn newId initId bmB) (q : PySem.W.excIn X.K (B.G.xcls c) bmB newId = true) (gC : X.mg x = some (.ref (B.G.xcls c)))
    (kC : PySem.W.keepIn X.K (.ref (B.G.xcls c)) = true) (r : Raises X (.ref (B.G.xcls c))) (hf : B.G.xfld c = none) (hg : Gl X x) (hdb : (x == ("__debug__" : Str)) = false := by decide) :
    DS X B (.Raise (some (.Call (.Name x p) [] [] pos)) none pos') (fun _ => thr ⟨c, []⟩) :=
  PS.imp (ps_raise hc tk (pmk_own0 F q gC kC r hg hdb)) fun D σ H ⟨ρ, H0, QO, k, q, _⟩ => bok ⟨c, []⟩ _ _ H0 H k.ext ⟨rfl, by show match B.G.xfld c with | none => _ | some f => _; rw [hf]; exact ⟨rfl, rfl⟩⟩ q
end
/-! ### try: f() except T as e: .. -/
/-- the body's answer; what is caught goes to the handler -/
def tryC (m : W D) (ok : D → W Out) (cat : Nat → Bool) (h : DX → Addr → W Out) : W Out := fun Q E => m (fun d => ok d Q E) fun x => cat x.c = true ∧ x.fs = [] ∧ ∀ a, h x a Q E
/-- the handler's name is gone behind it -/
def offE (i : Nat) : Out → Out
  | .nx ρ => .nx (ρ.set i .un)
  | .bk ρ => .bk (ρ.set i .un)
  | .ct ρ => .ct (ρ.set i .un)
  | .rt d ρ => .rt d ρ
def hanW (i : Nat) (wh : Nat → Addr → DL.Env → W Out) (ρ : DL.Env) : DX → Addr → W Out := fun x a => bnd (nox (wh x.c a (ρ.set i (.exc x a)))) fun o => ret (offE i o)
section
variable {X : Cx} {B : Bx} {k : Nat} {x t n : Str} {c : Value} {p np pos pos1 pos2 pos' : Pos} {suite : List Stmt} {b₀ : Stmt}
theorem Ok.off {ρ : DL.Env} {σ : L2.St} {H0 H : Hp} (k : Ok B ρ σ H0 H) (i : Nat) : Ok B (ρ.set i .un) (σ.set i none) H0 H := k.wiped [i]
theorem ds_try0 (i ie : Nat) {cat : Nat → Bool} {wh : Nat → Addr → DL.Env → W Out} {body : List Stmt} {okW : D → DL.Env → W Out} (hs : X.stack = X.env :: X.outer) (hf : X.env.frame = some X.env.locals) (hN : X.N.Nodup)
    (hC : ∀ j cs ds Q E, B.G.cloW j cs ds Q E → LamOk X.prog X.w B.G X.mg X.base k j) (hK : X.K = B.G.K) (hr : Room k X.A) (hc : Names X t c)
    (hcat : ∀ c0, cat c0 = true → PySem.W.exmOne B.G.K (.ref (B.G.xcls c0)) c = some true)
    (hbody : ∀ (pn : List (Addr × Obj)) (xe : Value → Shared → Prop) (σ0 : L2.St) (B' : Bx) (w : DL.Env → W D), B'.G = B.G → PE (X.tr pn xe) (.Call (.Name x p) [] [] pos1) (fun σ H Q => σ = σ0 ∧ liftX B' w σ H Q) →
      PSs (X.tr pn xe) body (fun Dd σ H => σ = σ0 ∧ liftX B' w σ H fun v H1 => ∃ (ρ : DL.Env) (H0 : Hp) (d : D) (QO : Out → Prop), Ok B ρ σ H0 H1 ∧ Den B.G H0 d v ∧ okW d ρ QO B.E ∧
        (∀ ρ' σ' H0' H', Ok B ρ' σ' H0' H' → Same H0 H0' → QO (.nx ρ') → Dd.nx σ' H') ∧ (∀ d v ρ' σ' H0' H', Ok B ρ' σ' H0' H' → Den B.G H0' d v → QO (.rt d ρ') → Dd.rt v H')))
    (hh : ∀ (c0 : Nat) (a : Addr) (oe : Obj) (pn : List (Addr × Obj)), cat c0 = true → Zc (.ref (B.G.xcls c0)) none oe → (∃ vs, oe.data = .fields vs) → DSs (X.suite a ((a, oe) :: pn)) B.no (b₀ :: suite) (wh c0 a))
    (hv : Vis X.env.scope x := by first | exact Or.inl rfl | exact Or.inr (Or.inl rfl) | exact Or.inr (Or.inr rfl)) (hNi : X.N[i]? = some x := by rfl) (hie : X.N[ie]? = some n := by rfl) (hln : X.env.kindOf n = some .local := by rfl) (hd : (x == ("__debug__" : Str)) = false := by decide) (hcd : (x == ("__classdict__" : Str)) = false := by decide) :
    DS X B (.Try body [.ExceptHandler (some (.Name t np)) (some n) (b₀ :: suite) pos'] [] [] pos)
      (fun ρ => bnd (rd ρ i) fun f => grd (isClo f = true) (tryC (cloCall B.G 0 f []) (fun d => okW d ρ) cat (hanW ie wh ρ))) := by
  let ts : Addr → Value → Option Addr → TS := fun a cls d Dd σ H => ∃ c0, cat c0 = true ∧ cls = .ref (B.G.xcls c0) ∧ d = none ∧ liftS B.no (wh c0 a) Dd σ H
  let tb : WX → TS := fun Wx Dd σ H => ∃ (ρ : DL.Env) (H0 : Hp) (QO : Out → Prop) (ED : DX → Prop), Ok B ρ σ H0 H ∧ (bnd (rd ρ i) fun f => grd (isClo f = true) (cloCall B.G 0 f [])) (fun d => okW d ρ QO B.E) ED ∧
    (∀ ρ' σ' H0' H', Ok B ρ' σ' H0' H' → Same H0 H0' → QO (.nx ρ') → Dd.nx σ' H') ∧ (∀ d v ρ' σ' H0' H', Ok B ρ' σ' H0' H' → Den B.G H0' d v → QO (.rt d ρ') → Dd.rt v H') ∧
    ∀ x cls d H1 H2, B.G.xfld x.c = none → Ext B.G.T H0 H H1 H2 → DenX B.G H1 x cls d → ED x → Wx cls d σ H2
  refine PS.imp (ps_try_as (tb := tb) (ts := ts) (Wout := fun _ _ _ _ => False) hs hf hN hie hln hc takes_none5 (fun Wx pn xe tk po => ?_) fun a oe cls d pn hz hfl => ?_) fun D σ H h => ?_
  · refine ⟨fun pins s σ H D I ⟨ρ, H0, QO, ED, k', q, h1, h2, hx⟩ => ?_⟩
    let Bσ : Bx := { B with E := ED, xk := fun cls d H' => Wx cls d σ H' }
    have pc := pe_callC0 (X := X.tr pn xe) (B := Bσ) (p := p) (pos := pos1) σ i hC hK hr (fun pins H s e s' I c => tk e s' (XE.of_call I (fun _ _ _ h => h) c)) hNi hv hd hcd
    refine (hbody pn xe σ Bσ _ rfl pc).run pins s σ H D I ⟨rfl, ρ, H0, _, ⟨k'.ext, k'.len, k'.env, k'.apart⟩, q, fun d v H1 H2 x dd q1 => ⟨ρ, H1, d, QO, k'.later x, dd, q1, fun ρ' σ' H0' H' k2 s2 q2 => h1 ρ' σ' H0' H' k2 (x.z.trans s2) q2, h2⟩, hx⟩
  · refine ⟨fun pins s σ H D I ⟨c0, hcat0, e, ed, h⟩ => ?_⟩
    subst e ed
    exact (hh c0 a oe pn hcat0 hz hfl).run pins s σ H D I h
  · obtain ⟨ρ, H0, QO, k', q, h1, h2, h3, h4⟩ := h
    obtain ⟨f, ef, hcl, q⟩ := rd_of q
    refine ⟨ρ, H0, QO, fun x => cat x.c = true ∧ x.fs = [] ∧ ∀ a, hanW ie wh ρ x a QO B.E, k', ?_, h1, h2, fun x cls d H1 H2 hfx ex dx hx => ?_⟩
    · have e0 : rd ρ i = DL.ret f := by
        unfold rd
        rw [ef]
      rw [e0]
      refine ⟨hcl, ?_⟩
      revert q
      cases f <;> first | (cases hcl; done) | skip
      rintro ⟨g, q⟩
      exact ⟨g, q⟩
    · obtain ⟨hcx, hfs, hh2⟩ := hx
      obtain ⟨d1, d2⟩ := dx
      rw [hfx] at d2
      refine ⟨true, ?_, fun _ a na => ⟨x.c, hcx, d1, d2.1, ρ.set ie (.exc x a), H1, fun o => QO (offE ie o), ?_, hh2 a, ?_, ?_, ?_, ?_⟩, fun z => by cases z⟩
      · rw [hK, d1]
        exact hcat _ hcx
      · exact (((k'.later ex).put (s := .exc x a) (v := .ref a) rfl fun _ z => by cases z)).no
      · exact fun ρ' σ' H0' H' k2 s2 q2 => h1 _ _ H0' H' (k2.ofNo.off ie) (ex.z.trans s2) q2
      · exact fun d v ρ' σ' H0' H' k2 dd q2 => h2 d v ρ' σ' H0' H' k2.ofNo dd q2
      · exact fun ρ' σ' H0' H' k2 s2 q2 => h3 _ _ H0' H' (k2.ofNo.off ie) (ex.z.trans s2) q2
      · exact fun ρ' σ' H0' H' k2 s2 q2 => h4 _ _ H0' H' (k2.ofNo.off ie) (ex.z.trans s2) q2
end
end DL
end
section
set_option Elab.async false
set_option linter.all false
set_option maxRecDepth 100000
set_option maxHeartbeats 2000000
set_option autoImplicit false
/-! EX2: the shapes of a try's body; isinstance of what is held; count, index of lists of data. -/
namespace DL
open PySem PySem.Spec L2 PyProof.Rows
theorem liftX.imp {B : Bx} {w : DL.Env → W D} {σ : L2.St} {H : Hp} {Q Q' : VK} (h : ∀ v H', Q v H' → Q' v H') (l : liftX B w σ H Q) : liftX B w σ H Q' :=
  let ⟨ρ, H0, QD, k, q, f, x⟩ := l
  ⟨ρ, H0, QD, k, q, fun d v H0' H' e dd q1 => h _ _ (f d v H0' H' e dd q1), x⟩
section
variable {X : Cx} {B : Bx} {x t n : Str} {c : Value} {p np pos pos1 pos2 pos' : Pos}
/-- f() -/
theorem body_expr {call : Expr} (hsw : ∀ (pn : List (Addr × Obj)) (xe : Value → Shared → Prop), swapsWith call none pos2.line (X.tr pn xe).env = pure false) : ∀ (pn : List (Addr × Obj)) (xe : Value → Shared → Prop) (σ0 : L2.St) (B' : Bx) (w : DL.Env → W D), B'.G = B.G → PE (X.tr pn xe) call (fun σ H Q => σ = σ0 ∧ liftX B' w σ H Q) →
      PSs (X.tr pn xe) [.Expr call pos2] (fun Dd σ H => σ = σ0 ∧ liftX B' w σ H fun v H1 => ∃ (ρ : DL.Env) (H0 : Hp) (d : D) (QO : Out → Prop), Ok B ρ σ H0 H1 ∧ Den B.G H0 d v ∧ (fun (d : D) (ρ : DL.Env) => ret (α := Out) (.nx ρ)) d ρ QO B.E ∧
        (∀ ρ' σ' H0' H', Ok B ρ' σ' H0' H' → Same H0 H0' → QO (.nx ρ') → Dd.nx σ' H') ∧ (∀ d v ρ' σ' H0' H', Ok B ρ' σ' H0' H' → Den B.G H0' d v → QO (.rt d ρ') → Dd.rt v H')) :=
  fun pn xe σ0 B' w hG he => PSs.imp (pss_one (ps_expr he (hsw pn xe))) fun Dd σ H ⟨e, l⟩ => ⟨e, liftX.imp (fun v H1 ⟨ρ, H0, d, QO, k, dd, q, h1, _⟩ => h1 ρ σ H0 H1 k (.refl _) q) l⟩
/-- y = f() -/
theorem body_set (j : Nat) {call : Expr} {y : Str} {py : Pos} (hN : X.N.Nodup) (hj : X.N[j]? = some y := by rfl) (hy : Loc X.env.scope y := by first | exact Or.inl rfl | exact Or.inr rfl)
    (hsw : ∀ (pn : List (Addr × Obj)) (xe : Value → Shared → Prop), swapsWith call (some (.Name y py)) pos2.line (X.tr pn xe).env = pure false := by intro _ _; rfl) (hf : X.fn y = true ∨ X.env.scope.names.lookup y = some .local := by first | exact .inl rfl | exact .inr rfl | assumption) : ∀ (pn : List (Addr × Obj)) (xe : Value → Shared → Prop) (σ0 : L2.St) (B' : Bx) (w : DL.Env → W D), B'.G = B.G → PE (X.tr pn xe) call (fun σ H Q => σ = σ0 ∧ liftX B' w σ H Q) →
      PSs (X.tr pn xe) [.Assign [.Name y py] call pos2] (fun Dd σ H => σ = σ0 ∧ liftX B' w σ H fun v H1 => ∃ (ρ : DL.Env) (H0 : Hp) (d : D) (QO : Out → Prop), Ok B ρ σ H0 H1 ∧ Den B.G H0 d v ∧ (fun (d : D) (ρ : DL.Env) => ret (.nx (ρ.set j (.d d)))) d ρ QO B.E ∧
        (∀ ρ' σ' H0' H', Ok B ρ' σ' H0' H' → Same H0 H0' → QO (.nx ρ') → Dd.nx σ' H') ∧ (∀ d v ρ' σ' H0' H', Ok B ρ' σ' H0' H' → Den B.G H0' d v → QO (.rt d ρ') → Dd.rt v H')) :=
  fun pn xe σ0 B' w hG he => PSs.imp (pss_one (ps_set hN hj hy he (hsw pn xe) hf)) fun Dd σ H ⟨e, l⟩ => ⟨e, liftX.imp (fun v H1 ⟨ρ, H0, d, QO, k, dd, q, h1, _⟩ => h1 _ _ H0 H1 (k.putD dd) (.refl _) q) l⟩
end
/-! ### isinstance(e, C), e what the handler holds -/
def isEW (i : Nat) (a : Addr) (b : Bool) (ρ : DL.Env) : W D := match ρ[i]? with
  | some (.exc _ a') => grd (a' = a) (ret (.bl b))
  | _ => stk
section
variable {X : Cx} {B : Bx} {f : Expr} {x : Str} {p p1 pos : Pos}
theorem de_isiE (i : Nat) {c : CV} {b : Bool} {a C : Addr} {oe : Obj} {pn : List (Addr × Obj)} (hK : X.K = B.G.K) (E : ExcC X.K C) (hz : Zc (.ref C) none oe) (hf : ∃ vs, oe.data = .fields vs) (hk : PySem.W.kitOne X.K (.ref C) (c.u B.G) = some b) (hg : Gl X "isinstance") (hm : X.mg "isinstance" = none)
    (hc : ClsE (X.suite a ((a, oe) :: pn)) B.G f c) (hN : X.N[i]? = some x := by rfl) (hv : Vis X.env.scope x := by first | exact Or.inl rfl | exact Or.inr (Or.inl rfl) | exact Or.inr (Or.inr rfl)) (hd : (x == ("__debug__" : Str)) = false := by decide) (hcd : (x == ("__classdict__" : Str)) = false := by decide)
    (hs1 : starEach [.Name x p1, f] X.env = (false, eval (.Name x p1) X.env) :: starEach [f] X.env := by rfl) (hs2 : starEach [f] X.env = (false, eval f X.env) :: starEach [] X.env := by rfl) (hpl : (backTo pos (starEach [f] X.env)).any (·.1) = false := by rfl) :
    DE (X.suite a ((a, oe) :: pn)) B (.Call (.Name "isinstance" p) [.Name x p1, f] [] pos) (isEW i a b) := by
  refine PE.imp (pe_callB (X := X.suite a ((a, oe) :: pn)) (call_isE (pn := pn) E hz hf) hg hm PyProof.Rows.boot_isinstance (pa_cons (pe_var (pos := p1) (X := X.suite a ((a, oe) :: pn)) hN hv hd hcd) (pa_cons hc.pe pa_nil hs2) hs1) (by decide) (by decide) hs1 hpl) fun σ H Q ⟨ρ, H0, QD, k, q, h⟩ => ?_
  unfold isEW at q
  cases e : ρ[i]? with
  | none => rw [e] at q; exact (show False from q).elim
  | some s =>
    rw [e] at q
    cases s with
    | exc y a' =>
      obtain ⟨ea, q⟩ := q
      subst ea
      obtain ⟨v, e1, e2⟩ := k.env i _ e
      have e2 : v = some (.ref a') := e2
      subst e2
      exact ⟨.ref a', e1, c.v B.G, c.u B.G, b, rfl, (match c with
        | .ty n => fun u r => r
        | .own c => fun u r => r), hk, h _ _ H0 H k.refl of_bl q⟩
    | _ => exact (show False from q).elim
end
/-! ### o.count(e), o.index(e): lists of data -/
def rCntD (K : PySem.W.Frag) : V → List V → Hp → VK → Prop := fun x xs H Q => ∃ (a : Addr) (y : V) (d : PyData) (ds : List PyData), x = V.ref a ∧ xs = [y] ∧ Dp K H (V.ref a) (.list ds) ∧ Dp K H y d ∧
  SeqAt.shaped (.list ds) = true ∧ SeqAt.shaped d = true ∧ Q (.int ((ds.countP fun z => PyData.eqv z d : Nat) : Int)) H
section
variable {X : Cx} {B : Bx}
theorem mt_countD (hu : X.A.units + 65 < cLine) : MtR X "list.count" (rCntD X.K) := by
  intro pins s σ H x xs v us Q I rx rxs h
  obtain ⟨a, y, d, ds, rfl, rfl, hl, hy, sl, sd, q⟩ := h
  cases rx
  cases rxs with
  | cons ry rt =>
    rename_i uy ut
    cases rt
    obtain ⟨bs, r1⟩ := Dp.reads I d y uy hy ry
    have hxs : PyData.canLayAll0 ds = true := SeqAt.canLay_of_shaped sl
    have hroom : X.A.units + 1 + min (PyData.depthAll ds) d.depth < cLine := room_in_shaped sd hu
    cases hl with
    | lst hs ha =>
      obtain ⟨its, rv, ⟨ob, n, ho, hc, _, hdt⟩, hlen⟩ := I.list hs
      obtain ⟨as, h4⟩ := Dp.readsAll I ds _ its ha rv
      exact PySem.SeqAt.count_list_data (vs := its.toArray) ⟨ob, ho, hc, n, hdt⟩ h4 r1 (PyData.plainAll_of_canLay0 ds hxs) (PyData.plain_of_canLay0 d (SeqAt.canLay_of_shaped sd)) hroom ⟨.int _, H, I.tok _, ⟨_, rfl⟩, q⟩
def lcountD : D → D → W D
  | .lst xs, y => bnd (optW (pyDs xs)) fun ps => bnd (optW (pyD y)) fun p => grd (SeqAt.shaped (.list ps) = true ∧ SeqAt.shaped p = true) (ret (.int ((ps.countP fun z => PyData.eqv z p : Nat) : Int)))
  | _, _ => stk
/-- the place of the first item that is == -/
def placeD (ps : List PyData) (p : PyData) : Option Nat := ps.findIdx? fun z => PyData.eqv z p
def lindexD : D → D → W D
  | .lst xs, y => bnd (optW (pyDs xs)) fun ps => bnd (optW (pyD y)) fun p => grd (SeqAt.shaped (.list ps) = true ∧ SeqAt.shaped p = true) (bnd (optW (placeD ps p)) fun j => ret (.int (j : Int)))
  | _, _ => stk
variable {o e : Expr} {wo we : DL.Env → W D} {apos cpos : Pos}
theorem lst_tyV {G : Gx} {H0 H : Hp} {xs : List D} {v : V} (h : Den G H0 (.lst xs) v) (s : Same H0 H) : tyV G.K "list" v H := by
  obtain ⟨a, vs, rfl, e, _⟩ := den_lst h
  exact .inl ⟨rfl, vs, .inl (.inl (s _ _ e))⟩
def isLst : D → Bool
  | .lst _ => true
  | _ => false
theorem de_lcount (hK : X.K = B.G.K) (hu : X.A.units + 65 < cLine) (ho : DE X B o wo) (he : DE X B e we) (hbase : attributeBase o "count" X.env (eval o X.env) = eval o X.env := by rfl)
    (hfew : ((backTo cpos (starEach [e] X.env)).all (fun x => !x.1) && (backToKw cpos (keywordEach [] X.env)).all (fun x => x.1.isSome)
      && decide ([e].length + ([] : List Keyword).length + (if ([] : List Keyword).isEmpty then 0 else 1) < 30)) = true := by rfl)
    (hline : (apos.endLine == cpos.line) = true := by rfl) (hs : starEach [e] X.env = (false, eval e X.env) :: starEach [] X.env := by rfl) (hplain : (backTo cpos (starEach [] X.env)).any (·.1) = false := by rfl) :
    DE X B (.Call (.Attribute o "count" apos) [e] [] cpos) (fun ρ => bnd (wo ρ) fun x => grd (isLst x = true) (bnd (we ρ) fun y => lcountD x y)) := by
  refine PE.imp (pe_bm PySem.F.plainAttrs_list PySem.F.slot_list_count PySem.F.type_list_count (mt_countD hu) ho (pa_cons he pa_nil hs) hbase hfew hline hs hplain) fun σ H Q ⟨ρ, H0, QD, k, q, h⟩ => ⟨ρ, H0, _, k, q, fun d v H1 H2 x dd q1 => ?_⟩
  obtain ⟨gl, q1⟩ := q1
  cases d <;> first | (cases gl; done) | skip
  rename_i xs
  refine ⟨by rw [hK]; exact lst_tyV dd x.zz, ρ, H1, _, k.later x, q1, fun d2 v2 H3 H4 x2 dd2 q2 => ?_⟩
  obtain ⟨ps, e1, q2⟩ := optW_of q2
  obtain ⟨p, e2, ⟨g1, g2⟩, q2⟩ := optW_of q2
  have ep : pyD (.lst xs) = some (.list ps) := by simp [pyD, e1]
  have dl := pyD_ok ((dd.same x2.z).same x2.zz) ep
  obtain ⟨a, vs, rfl, _, _⟩ := den_lst dd
  exact ⟨a, v2, p, ps, rfl, rfl, by rw [hK]; exact dl, by rw [hK]; exact pyD_ok (dd2.same x2.zz) e2, g1, g2, h _ _ H3 H4 (x.trans x2) of_int q2⟩
theorem de_lindex (hK : X.K = B.G.K) (hu : X.A.units + 65 < cLine) (ho : DE X B o wo) (he : DE X B e we) (hbase : attributeBase o "index" X.env (eval o X.env) = eval o X.env := by rfl)
    (hfew : ((backTo cpos (starEach [e] X.env)).all (fun x => !x.1) && (backToKw cpos (keywordEach [] X.env)).all (fun x => x.1.isSome)
      && decide ([e].length + ([] : List Keyword).length + (if ([] : List Keyword).isEmpty then 0 else 1) < 30)) = true := by rfl)
    (hline : (apos.endLine == cpos.line) = true := by rfl) (hs : starEach [e] X.env = (false, eval e X.env) :: starEach [] X.env := by rfl) (hplain : (backTo cpos (starEach [] X.env)).any (·.1) = false := by rfl) :
    DE X B (.Call (.Attribute o "index" apos) [e] [] cpos) (fun ρ => bnd (wo ρ) fun x => grd (isLst x = true) (bnd (we ρ) fun y => lindexD x y)) := by
  refine PE.imp (pe_bm PySem.F.plainAttrs_list PySem.F.slot_list_index PySem.F.type_list_index (mt_indexD hu) ho (pa_cons he pa_nil hs) hbase hfew hline hs hplain) fun σ H Q ⟨ρ, H0, QD, k, q, h⟩ => ⟨ρ, H0, _, k, q, fun d v H1 H2 x dd q1 => ?_⟩
  obtain ⟨gl, q1⟩ := q1
  cases d <;> first | (cases gl; done) | skip
  rename_i xs
  refine ⟨by rw [hK]; exact lst_tyV dd x.zz, ρ, H1, _, k.later x, q1, fun d2 v2 H3 H4 x2 dd2 q2 => ?_⟩
  obtain ⟨ps, e1, q2⟩ := optW_of q2
  obtain ⟨p, e2, ⟨g1, g2⟩, q2⟩ := optW_of q2
  obtain ⟨j, e3, q2⟩ := optW_of q2
  have ep : pyD (.lst xs) = some (.list ps) := by simp [pyD, e1]
  have dl := pyD_ok ((dd.same x2.z).same x2.zz) ep
  obtain ⟨a, vs, rfl, _, _⟩ := den_lst dd
  obtain ⟨hj, h1, h2⟩ := List.findIdx?_eq_some_iff_getElem.mp e3
  exact ⟨a, v2, p, ps, j, ps[j], rfl, rfl, by rw [hK]; exact dl, by rw [hK]; exact pyD_ok (dd2.same x2.zz) e2, g1, g2, List.getElem?_eq_getElem hj, h1, fun m z' hm hz => by
    obtain ⟨hml, rfl⟩ := List.getElem?_eq_some_iff.mp hz
    simpa using h2 m hm, h _ _ H3 H4 (x.trans x2) of_int q2⟩
end
end DL
end
section
set_option Elab.async false
set_option linter.all false
set_option maxRecDepth 100000
set_option maxHeartbeats 2000000
set_option autoImplicit false
/-! EX3: what is known of the exception classes, as tests of the fragment. -/
namespace DL
open PySem PySem.Spec L2 PyProof.Rows
def veB : List Value := [.type "ValueError", .type "Exception", .type "BaseException", .type "object"]
/-- C: a class of errors under ValueError without own __init__ -/
def excB (K : PySem.W.Frag) (C : Addr) : Bool :=
  PySem.W.excIn K C veB "ValueError.__new__" && (PySem.W.keepIn K (.ref C) && (decide (PySem.W.subIn K (.ref C) (.type "BaseException") = some true) && (decide (PySem.W.typeIn K (.ref C) = some (.type "type")) &&
  (decide (PySem.W.findIn K (.ref C) "__getattribute__" = some (some (.builtin "BaseException.__getattribute__"))) && (decide (PySem.W.findIn K (.ref C) "__getattr__" = some none) && (PySem.W.hasDictIn K C &&
  (decide (PySem.W.findIn K (.ref C) "__class__" = some (some (.builtin "object.__class__"))) && (decide (PySem.W.specialIn K (.builtin "object.__class__") "__get__" = some (some (.builtin "getset_descriptor.__get__"))) &&
  (decide (PySem.W.takesIn K (.builtin "object.__class__") = some true) && decide (PySem.W.mroIn K C (.type "object") = some true))))))))))
structure ExcOk (K : PySem.W.Frag) (C : Addr) : Prop where
  q : PySem.W.excIn K C veB "ValueError.__new__" = true
  kp : PySem.W.keepIn K (.ref C) = true
  sub : PySem.W.subIn K (.ref C) (.type "BaseException") = some true
  ty : PySem.W.typeIn K (.ref C) = some (.type "type")
  ec : ExcC K C
theorem excB_ok {K : PySem.W.Frag} {C : Addr} (h : excB K C = true) : ExcOk K C := by
  simp only [excB, Bool.and_eq_true, decide_eq_true_eq] at h
  obtain ⟨h1, h2, h3, h4, h5, h6, h7, h8, h9, h10, h11⟩ := h
  exact ⟨h1, h2, h3, h4, ⟨h5, h6, h3, h7, h8, h9, h10, h11⟩⟩
def catB (K : PySem.W.Frag) (C T : Addr) : Bool := decide (PySem.W.exmOne K (.ref C) (.ref T) = some true)
theorem catB_ok {K : PySem.W.Frag} {C T : Addr} (h : catB K C T = true) : PySem.W.exmOne K (.ref C) (.ref T) = some true := of_decide_eq_true h
def kitB (K : PySem.W.Frag) (C : Addr) (v : Value) (b : Bool) : Bool := decide (PySem.W.kitOne K (.ref C) v = some b)
theorem kitB_ok {K : PySem.W.Frag} {C : Addr} {v : Value} {b : Bool} (h : kitB K C v b = true) : PySem.W.kitOne K (.ref C) v = some b := of_decide_eq_true h
section
variable {X : Cx} {B : Bx}
/-- raise x() -/
theorem ds_raiseX (c : Nat) {x : Str} {p pos pos' : Pos} (hc : X.calm = true) (tk : Takes X fun cls d _ H => B.xk cls d H) (bok : BxOk B) (hK : X.K = B.G.K) (e : ExcOk B.G.K (B.G.xcls c)) (gC : X.mg x = some (.ref (B.G.xcls c))) (hf : B.G.xfld c = none) (hg : Gl X x) (hdb : (x == ("__debug__" : Str)) = false := by decide) :
    DS X B (.Raise (some (.Call (.Name x p) [] [] pos)) none pos') (fun _ => thr ⟨c, []⟩) := by
  rw [← hK] at e
  exact ds_raise0 c hc tk bok PySem.F.excBase_ValueError e.q gC e.kp (raises_own e.sub e.ty) hf hg hdb
/-! ### ==, != of data, also in a handler -/
def eqVD (neg : Bool) (x y : D) : W D := optW ((valD x y).map fun pq => D.bl (PyData.eqv pq.1 pq.2 != neg))
theorem Room.u64 {k : Nat} {A : Around} (r : Room k A) : A.units + 64 < cLine := by have := r.un; omega
theorem dop_eqV {G : Gx} {K : PySem.W.Frag} (hK : K = G.K) : DOp2 G (rEqD K) (eqVD false) := by
  subst hK
  intro H0 H x y vx vy QD ED Q st dx dy q h
  obtain ⟨p, r, d1, d2, s1, s2, q⟩ := optD_of (dx.same st.z) (dy.same st.z) q
  exact ⟨p, r, d1, d2, s1, s2, h _ _ H0 H st.refl of_bl (by simpa using q)⟩
theorem dop_neV {G : Gx} {K : PySem.W.Frag} (hK : K = G.K) : DOp2 G (rNeD K) (eqVD true) := by
  subst hK
  intro H0 H x y vx vy QD ED Q st dx dy q h
  obtain ⟨p, r, d1, d2, s1, s2, q⟩ := optD_of (dx.same st.z) (dy.same st.z) q
  exact ⟨p, r, d1, d2, s1, s2, h _ _ H0 H st.refl of_bl (by simpa using q)⟩
end
end DL
end
section
set_option Elab.async false
set_option linter.all false
set_option maxRecDepth 100000
set_option maxHeartbeats 2000000
set_option autoImplicit false
/-! EX4: {} as a value; sorted(set(e)) of a tuple of ints. -/
namespace DL
open PySem PySem.Spec L2 PyProof.Rows
section
variable {X : Cx} {B : Bx} {e : Expr} {t : TE}
/-- a dict just made is locked -/
theorem PE.lock (h : PE X e t) : PE X e (fun σ H Q => t σ H fun v H1 => ∃ d u, v = .ref d ∧ H1 d = some u ∧ Mut (some u) ∧ ∀ od, Q (.ref d) (upd H1 d (.frz od u))) := ⟨fun pins s σ H Q I q => by
  refine thn (h.run pins s σ H _ I q) fun u s1 ⟨v, H1, I1, r1, d, u', ev, hd, mu, q1⟩ => ?_
  subst ev
  obtain ⟨od, J⟩ := I1.lock hd mu
  exact ⟨.ref d, _, J, r1, q1 od⟩⟩
theorem de_dic0 {pos : Pos} : DE X B (.Dict [] [] pos) (fun _ => ret (.dic [] [])) := by
  refine PE.imp (PE.lock pe_dnewK) fun σ H Q ⟨ρ, H0, QD, k, q, h⟩ p hp => ?_
  refine ⟨p, _, rfl, upd_same, trivial, fun od => ?_⟩
  have h0 : H0 p = none := k.st.z.free hp
  have e1 : upd (upd H p (.dK [])) p (.frz od (.dK [])) = upd H p (.frz od (.dK [])) := by
    funext b
    unfold upd
    split <;> rfl
  rw [e1]
  have x2 := Ext.putH k.st hp (.frz od (.dK []))
  have sm : Same H0 (upd H0 p (.frz od (.dK []))) := fun b u e => by rw [upd_ne (ne_of_none e h0)]; exact e
  have x3 : Ext B.G.T H0 H (upd H0 p (.frz od (.dK []))) (upd H p (.frz od (.dK []))) := ⟨x2.n, x2.nn, sm, Same.put0 x2.zz upd_same h0, fun b u e => by
    by_cases z : b = p
    · subst z; exact .inr hp
    · rw [upd_ne z] at e; exact .inl e, x2.tabs, x2.nt.upd (by intro _ z; cases z)⟩
  refine h (.dic [] []) (.ref p) _ _ x3 ?_ q
  simp only [Den]
  exact ⟨p, [], rfl, by simp only [Dens], .inl ⟨[], od, rfl, upd_same, rfl⟩⟩
end
end DL
end
section
set_option Elab.async false
set_option linter.all false
set_option maxRecDepth 100000
set_option maxHeartbeats 2000000
set_option autoImplicit false
/-! EX5: sorted(set(e)), e a tuple of ints. -/
namespace DL
open PySem PySem.Spec L2 PyProof.Rows
def insI (x : Int) : List Int → List Int
  | [] => [x]
  | y :: ys => if x < y then x :: y :: ys else if x = y then y :: ys else y :: insI x ys
/-- ascending, each once -/
def sdI : List Int → List Int
  | [] => []
  | x :: xs => insI x (sdI xs)
theorem mem_insI {x k : Int} : ∀ {l : List Int}, k ∈ insI x l ↔ k = x ∨ k ∈ l
  | [] => by simp [insI]
  | y :: ys => by
    unfold insI
    split
    · simp
    · split
      · rename_i h
        subst h
        simp
      · rw [List.mem_cons, mem_insI (l := ys), List.mem_cons]
        constructor
        · rintro (h | h | h) <;> simp [h]
        · rintro (h | h | h) <;> simp [h]
theorem mem_sdI {k : Int} : ∀ {l : List Int}, k ∈ sdI l ↔ k ∈ l
  | [] => by simp [sdI]
  | x :: xs => by rw [sdI, mem_insI, mem_sdI (l := xs), List.mem_cons]
theorem asc_insI {x : Int} : ∀ {l : List Int}, l.Pairwise (· < ·) → (insI x l).Pairwise (· < ·)
  | [], _ => by simp [insI]
  | y :: ys, h => by
    obtain ⟨h1, h2⟩ := List.pairwise_cons.mp h
    unfold insI
    split
    · rename_i c
      refine List.pairwise_cons.mpr ⟨fun z hz => ?_, h⟩
      rcases List.mem_cons.mp hz with rfl | hz
      · exact c
      · exact Int.lt_trans c (h1 z hz)
    · split
      · exact h
      · refine List.pairwise_cons.mpr ⟨fun z hz => ?_, asc_insI h2⟩
        rcases mem_insI.mp hz with rfl | hz
        · omega
        · exact h1 z hz
theorem asc_sdI : ∀ l : List Int, (sdI l).Pairwise (· < ·)
  | [] => .nil
  | _ :: xs => asc_insI (asc_sdI xs)
theorem asc_one : ∀ {l m : List Int}, l.Pairwise (· < ·) → m.Pairwise (· < ·) → (∀ k, k ∈ l ↔ k ∈ m) → l = m
  | [], [], _, _, _ => rfl
  | [], y :: ys, _, _, h => by have := (h y).mpr List.mem_cons_self; cases this
  | x :: xs, [], _, _, h => by have := (h x).mp List.mem_cons_self; cases this
  | x :: xs, y :: ys, h1, h2, h => by
    obtain ⟨a1, a2⟩ := List.pairwise_cons.mp h1
    obtain ⟨b1, b2⟩ := List.pairwise_cons.mp h2
    have e : x = y := by
      have hx := (h x).mp List.mem_cons_self
      have hy := (h y).mpr List.mem_cons_self
      rcases List.mem_cons.mp hx with q | q
      · exact q
      · rcases List.mem_cons.mp hy with r | r
        · exact r.symm
        · have := b1 x q
          have := a1 y r
          omega
    subst e
    rw [asc_one a2 b2 fun k => ?_]
    have := h k
    rw [List.mem_cons, List.mem_cons] at this
    constructor
    · intro hk
      rcases this.mp (.inr hk) with q | q
      · have := a1 k hk; omega
      · exact q
    · intro hk
      rcases this.mpr (.inr hk) with q | q
      · have := b1 k hk; omega
      · exact q
/-- set(t), t a tuple of ints -/
def rSetTI (K : PySem.W.Frag) (w : World) : List V → Hp → VK → Prop := fun vs H Q => ∃ (l : Addr) (ns : List Int), vs = [.ref l] ∧ SqT K H l (ns.map V.int) ∧ ns.length < 60 ∧
  ∀ (p : Addr) (S : Int → Bool) (c : Nat), (∀ k, S k = true ↔ k ∈ ns) → c ≤ ns.length → H p = none → Q (.ref p) (upd H p (SetO w p S c))
section
variable {X : Cx} {B : Bx} {e : Expr} {we : DL.Env → W D} {p p2 pos pos2 : Pos}
theorem cr_setTI (hc : X.calm = true) : CallR X (.type "set") (rSetTI X.K X.w) := by
  intro pins s σ H vs us Q I r h
  obtain ⟨l, ns, rfl, hq, hl, q⟩ := h
  rw [Vals.ref1 r]
  obtain ⟨its, rv, pt, hz⟩ := I.tuple hq
  have hi : IntsAre its.toArray.toList ns := ints_of_vals rv
  refine call_set_tupI ns (I.ok.hd hc) (show s.heap.IsTuple l its.toArray from pt) hi (by unfold scanBound; omega) fun h' tk c R1 hcn k => ?_
  exact ⟨.ref _, _, I.laid (a := s.heap.objs.size) (t' := tk) (fun b u e => k b u e) (Nat.le_refl _) (setO_new R1), rfl, q _ _ c (fun k => by simp) hcn (I.hok.fresh (Nat.le_refl _))⟩
def sortSetD : D → W D
  | .tup xs => bnd (optW (intsD xs)) fun ns => grd (ns.length < 60) (ret (.lst ((sdI ns).map D.int)))
  | _ => stk
theorem de_sortedSet (hc : X.calm = true) (hK : X.K = B.G.K) (hg : Gl X "sorted") (hm : X.mg "sorted" = none) (hg2 : Gl X "set") (hm2 : X.mg "set" = none) (he : DE X B e we)
    (hs1 : starEach [.Call (.Name "set" p2) [e] [] pos2] X.env = (false, eval (.Call (.Name "set" p2) [e] [] pos2) X.env) :: starEach [] X.env := by rfl) (hs2 : starEach [e] X.env = (false, eval e X.env) :: starEach [] X.env := by rfl) (hpl : (backTo pos (starEach [] X.env)).any (·.1) = false := by rfl) (hpl2 : (backTo pos2 (starEach [] X.env)).any (·.1) = false := by rfl) :
    DE X B (.Call (.Name "sorted" p) [.Call (.Name "set" p2) [e] [] pos2] [] pos) (fun ρ => bnd (we ρ) sortSetD) := by
  refine PE.imp (pe_callB (cr_sortedSet hc) hg hm PyProof.Rows.boot_sorted (pa_cons (pe_callTy (cr_setTI hc) hg2 hm2 PyProof.Rows.boot_set (pa_cons he pa_nil hs2) (by decide) (by decide) hs2 hpl2) pa_nil hs1) (by decide) (by decide) hs1 hpl) fun σ H Q ⟨ρ, H0, QD, k, q, h⟩ => ⟨ρ, H0, _, k, q, fun d v H1 H2 x dd q1 => ?_⟩
  cases d <;> first | (exact (show False from q1).elim) | skip
  rename_i xs
  obtain ⟨ns, e1, hl, q1⟩ := optW_of q1
  obtain ⟨a, us, rfl, sq, dus⟩ := den_tup dd
  have eu : us = ns.map V.int := by
    have := intsD_eq e1
    subst this
    exact Dens.ints dus
  subst eu
  refine ⟨a, ns, rfl, by rw [hK]; exact SqT.same x.zz sq, hl, fun p S c hS hcn hp => ⟨p, S, c, rfl, upd_same, by omega, fun ms p2 asc mem len hp2 => ?_⟩⟩
  have em : ms = sdI ns := asc_one asc (asc_sdI ns) fun k => by rw [mem, hS, mem_sdI]
  subst em
  have x2 := Ext.putH x.st hp (SetO X.w p S c)
  have st2 := x2.st
  have h0 : H1 p2 = none := st2.z.free hp2
  have x3 := Ext.putH st2 hp2 (.lst ((sdI ns).map V.int))
  have sm : Same H1 (upd H1 p2 (.lst ((sdI ns).map V.int))) := fun b u e => by rw [upd_ne (ne_of_none e h0)]; exact e
  have x4 : Ext B.G.T H1 (upd H2 p (SetO X.w p S c)) (upd H1 p2 (.lst ((sdI ns).map V.int))) (upd (upd H2 p (SetO X.w p S c)) p2 (.lst ((sdI ns).map V.int))) := ⟨x3.n, x3.nn, sm, Same.put0 x3.zz upd_same h0, fun b u e => by
    by_cases z : b = p2
    · subst z; exact .inr hp2
    · rw [upd_ne z] at e; exact .inl e, x3.tabs, x3.nt.upd (by intro _ z; cases z)⟩
  exact h _ _ _ _ ((x.trans x2).trans x4) (of_lst upd_same (Dens.of_ints _)) q1
end
end DL
end
section
set_option Elab.async false
set_option linter.all false
set_option maxRecDepth 100000
set_option maxHeartbeats 2000000
set_option autoImplicit false
/-! EX6: an own list read (item, length), x += e of ints. -/
namespace DL
open PySem PySem.Spec L2 PyProof.Rows
def oixD (z : Option Addr × List D) : D → W D
  | .int k => optW (L2.atI z.2 k)
  | _ => stk
section
variable {X : Cx} {B : Bx} {b e : Expr} {wb we : DL.Env → W D} {pos p1 p : Pos} {x : Str}
/-- x[b], x an own list -/
theorem de_oix (i : Nat) (hb : DE X B b wb) (hN : X.N[i]? = some x := by rfl) (hv : Vis X.env.scope x := by first | exact Or.inl rfl | exact Or.inr (Or.inl rfl) | exact Or.inr (Or.inr rfl)) (hd : (x == ("__debug__" : Str)) = false := by decide)
    (hcd : (x == ("__classdict__" : Str)) = false := by decide) (hs : PlainIx b := by exact fun _ _ => rfl) :
    DE X B (.Subscript (.Name x p1) b pos) (fun ρ => bnd (ownL i ρ) fun z => bnd (wb ρ) fun y => oixD z y) := by
  refine PE.imp (pe_ix (ix_list.or ix_tup) (pe_var hN hv hd hcd) hb hs) fun σ H Q ⟨ρ, H0, QD, k, q, h⟩ => ?_
  obtain ⟨oa, ds, z, q⟩ := ownL_of q
  obtain ⟨a, e1, h1, h2, ha, vs, h3, h4⟩ := k.own_at z
  refine ⟨.ref a, e1, ρ, H0, _, k, q, fun d v H1 H2 x2 dd q1 => ?_⟩
  cases d <;> first | exact (show False from q1).elim | skip
  rename_i kk
  obtain ⟨y, e2, q2⟩ := optW_of q1
  obtain ⟨v', e3, d3⟩ := (h4.same x2.z).atI e2
  exact .inl ⟨a, vs, kk, v', rfl, den_int dd, .of (x2.n _ _ h3 fun _ z => by cases z), e3, h y v' H1 H2 x2 d3 q2⟩
/-- len(x), x an own list -/
theorem de_olen (i : Nat) (hg : Gl X "len") (hm : X.mg "len" = none) (hN : X.N[i]? = some x := by rfl) (hv : Vis X.env.scope x := by first | exact Or.inl rfl | exact Or.inr (Or.inl rfl) | exact Or.inr (Or.inr rfl)) (hd : (x == ("__debug__" : Str)) = false := by decide)
    (hcd : (x == ("__classdict__" : Str)) = false := by decide) (hs : starEach [.Name x p1] X.env = (false, eval (.Name x p1) X.env) :: starEach [] X.env := by rfl) (hpl : (backTo pos (starEach [] X.env)).any (·.1) = false := by rfl) :
    DE X B (.Call (.Name "len" p) [.Name x p1] [] pos) (fun ρ => bnd (ownL i ρ) fun z => ret (.int z.2.length)) := by
  refine PE.imp (pe_callB call_len hg hm boot_len (pa_cons (pe_var (pos := p1) hN hv hd hcd) pa_nil hs) (by decide) (by decide) hs hpl) fun σ H Q ⟨ρ, H0, QD, k, q, h⟩ => ?_
  obtain ⟨oa, ds, z, q⟩ := ownL_of q
  obtain ⟨a, e1, h1, h2, ha, vs, h3, h4⟩ := k.own_at z
  exact ⟨.ref a, e1, .ref a, vs.length, rfl, Or.inl ⟨vs, .of h3, rfl⟩, h (.int ds.length) (.int vs.length) H0 H k.refl (by rw [← h4.length]; exact of_int) q⟩
/-- x += e, ints -/
def augD (f : Int → Int → Int) : D → D → W D
  | .int a, .int b => ret (.int (f a b))
  | _, _ => stk
theorem ds_aug (i : Nat) {op : Operator} {f : Int → Int → Int} {pos' : Pos} (hN : X.N.Nodup) (ho : PIp X op (ipI f)) (he : DE X B e we) (hi : X.N[i]? = some x := by rfl) (hx : Loc X.env.scope x := by first | exact Or.inl rfl | exact Or.inr rfl)
    (hf : X.fn x = true ∨ X.env.scope.names.lookup x = some .local := by first | exact .inl rfl | exact .inr rfl | assumption) :
    DS X B (.AugAssign (.Name x pos') op e pos) (fun ρ => bnd (bnd (rd ρ i) fun x => bnd (we ρ) fun y => augD f x y) fun d => ret (.nx (ρ.set i (.d d)))) := by
  refine PS.imp (ps_aug hN hi hx he ho hf) fun D σ H ⟨ρ, H0, QO, k, q, h, _⟩ => ?_
  obtain ⟨d0, e0, q⟩ := rd_of q
  obtain ⟨v, e1, d1⟩ := k.at_ e0
  refine ⟨v, e1, ρ, H0, _, k, q, fun d w H1 H2 x2 dd q1 => ?_⟩
  cases d0 <;> cases d <;> first | exact (show False from q1).elim | skip
  rename_i a b
  exact ⟨a, b, den_int d1, den_int dd, h _ _ H1 H2 ((k.later x2).putD of_int) x2.z q1⟩
end
end DL
end
section
set_option Elab.async false
set_option linter.all false
set_option maxRecDepth 100000
set_option maxHeartbeats 2000000
set_option autoImplicit false
/-! EX7: lists of one's own from list(..), list(range(..)), [..] * n; x, y = two of them. -/
namespace DL
open PySem PySem.Spec L2 PyProof.Rows
section
variable {X : Cx} {B : Bx} {e a b : Expr} {we : DL.Env → W D} {wa wb : DL.Env → W (List D)} {pos p q px py pt pt2 : Pos} {x y : Str} {kt k2 : Nat}
/-- list(e) -/
theorem dn_list (hK : X.K = B.G.K) (hg : Gl X "list") (hm : X.mg "list" = none) (he : DE X B e we) (hs : starEach [e] X.env = (false, eval e X.env) :: starEach [] X.env := by rfl) (hpl : (backTo pos (starEach [] X.env)).any (·.1) = false := by rfl) :
    DN X B (.Call (.Name "list" p) [e] [] pos) (fun ρ => bnd (we ρ) seqD) := by
  refine PE.imp (pe_callTy call_list_of hg hm PyProof.Rows.boot_list (pa_cons he pa_nil hs) (by decide) (by decide) hs hpl) fun σ H Q ⟨ρ, H0, QL, k, q, h⟩ => ⟨ρ, H0, _, k, q, fun d v H1 H2 x dd q1 => ?_⟩
  cases d <;> first | exact (show False from q1).elim | skip
  · obtain ⟨a, us, e1, s1, d2⟩ := den_tup dd
    exact ⟨a, us, by rw [e1], .inr (by rw [hK]; exact SqT.up x.zz s1), fun l hl => h _ us l H1 H2 _ x hl upd_same d2 (Ext.putH x.st hl _) (x.zz.free hl) q1⟩
  · obtain ⟨a, us, e1, s1, d2⟩ := den_lst dd
    exact ⟨a, us, by rw [e1], .inl (.of (x.zz _ _ s1)), fun l hl => h _ us l H1 H2 _ x hl upd_same d2 (Ext.putH x.st hl _) (x.zz.free hl) q1⟩
/-- list(range(e)) -/
theorem dn_listRg {qos : Pos} (hc : X.calm = true) (hg : Gl X "list") (hm : X.mg "list" = none) (hg2 : Gl X "range") (hm2 : X.mg "range" = none) (he : DE X B e we)
    (na : starEach [e] X.env = (false, eval e X.env) :: starEach [] X.env := by rfl) (na2 : starEach [.Call (.Name "range" q) [e] [] qos] X.env = (false, eval (.Call (.Name "range" q) [e] [] qos) X.env) :: starEach [] X.env := by rfl) :
    DN X B (.Call (.Name "list" p) [.Call (.Name "range" q) [e] [] qos] [] pos) (fun ρ => bnd (we ρ) rgW) := by
  refine PE.imp (pe_listRg hc hg hm (prg_1 hg2 hm2 he na) na2) fun σ H Q ⟨ρ, H0, QD, k, q, h⟩ => ⟨ρ, H0, _, k, q, fun d v H1 H2 x dd q1 => ?_⟩
  cases d <;> first | exact (show False from q1).elim | skip
  obtain ⟨⟨b1, b2⟩, q1⟩ := q1
  refine ⟨_, den_int dd, ⟨by omega, by omega, by omega, by omega, by omega⟩, fun l hl => ?_⟩
  refine h _ (rgV 0 ‹Int›) l H1 H2 _ x hl upd_same ?_ (Ext.putH x.st hl _) (x.zz.free hl) q1
  have := rangeV (G := B.G) (H := H1) 0 (‹Int›).toNat
  have e : rgV 0 ‹Int› = (List.range (‹Int›).toNat).map fun i => V.int (0 + (i : Nat)) := by unfold rgV; rw [Int.sub_zero]
  rw [← e] at this
  exact this
/-- a list times an int -/
def repD : D → D → W (List D)
  | .lst xs, .int k => grd (xs.length * k.toNat ≤ sizeLine ∧ k < 2 ^ 63 ∧ -(2 ^ 63) ≤ k) (ret (List.replicate k.toNat xs).flatten)
  | _, _ => stk
theorem dn_rep {wc : DL.Env → W D} (hc2 : DE X B a we) (hb : DE X B b wc) : DN X B (.BinOp a .Mult b pos) (fun ρ => bnd (we ρ) fun x => bnd (wc ρ) fun y => repD x y) := by
  refine PE.imp (pe_op op_rep hc2 hb) fun σ H Q ⟨ρ, H0, QL, k, q, h⟩ => ⟨ρ, H0, _, k, q, fun d v H1 H2 x dd q1 => ⟨ρ, H1, _, k.later x, q1, fun d2 v2 H3 H4 x2 dd2 q2 => ?_⟩⟩
  cases d <;> cases d2 <;> first | exact (show False from q2).elim | skip
  rename_i xs kk
  obtain ⟨⟨g3, g1, g2⟩, q2⟩ := q2
  obtain ⟨l, us, rfl, s1, d3⟩ := den_lst dd
  have d4 := d3.same x2.z
  exact ⟨l, kk, us, rfl, den_int dd2, x2.zz _ _ (x2.z _ _ s1), g2, g1, by rw [← d3.length]; exact g3, fun p hp => h _ _ p H3 H4 _ (x.trans x2) hp upd_same (d4.rep _) (Ext.putH x2.st hp _) (x2.zz.free hp) q2⟩
/-- x, y = two new lists -/
theorem ds_parNN (i j : Nat) (hc : X.calm = true) (hN : X.N.Nodup) (ha : DN X B a wa) (hb : DN X B b wb) (hi : X.N[i]? = some x := by rfl) (hj : X.N[j]? = some y := by rfl) (hij : i ≠ j := by decide)
    (hx : X.env.scope.names.lookup x = some .local := by rfl) (hy : X.env.scope.names.lookup y = some .local := by rfl)
    (hw : swappedStores [.Tuple [.Name x px, .Name y py] kt pt] (.Tuple [a, b] k2 pt2) X.env = pure (some [x, y]) := by rfl)
    (hs : swapsWithSole [.Tuple [.Name x px, .Name y py] kt pt] (.Tuple [a, b] k2 pt2) pos.line X.env = pure false := by rfl)
    (h1 : starEach [a, b] X.env = (false, eval a X.env) :: starEach [b] X.env := by rfl) (h2 : starEach [b] X.env = (false, eval b X.env) :: starEach [] X.env := by rfl) :
    DS X B (.Assign [.Tuple [.Name x px, .Name y py] kt pt] (.Tuple [a, b] k2 pt2) pos) (fun ρ => bnd (wa ρ) fun xs => bnd (wb ρ) fun ds => ret (.nx ((ρ.set i (.own (.lst none xs))).set j (.own (.lst none ds))))) := by
  refine PS.imp (ps_par hc hN hi hj hij hx hy (pa_cons ha (pa_cons hb pa_nil h2) h1) hw hs) fun D σ H ⟨ρ, H0, QO, k, q, h, _⟩ => ⟨ρ, H0, _, k, q, fun xs vs1 p1 Ha Hb Hc x1 hn1 hp1 dl1 x2 h01 q1 => ?_⟩
  have kc := (k.later x1).later x2
  refine ⟨ρ, Ha, _, kc, q1, fun ds vs2 p2 Hd He Hf y1 hn2 hp2 dl2 y2 h02 q2 => ⟨.ref p1, .ref p2, rfl, ?_⟩⟩
  have ke := kc.later y1
  have kf := ke.later y2
  have f1 : He p1 = some (.lst vs1) := y1.n _ _ hp1 fun _ z => by cases z
  have f2 : Hf p1 = some (.lst vs1) := y2.n _ _ f1 fun _ z => by cases z
  have n1 : Hd p1 = none := by
    cases z : Hd p1 with
    | none => rfl
    | some u =>
      rcases y1.fr p1 u z with r | r
      · rw [h01] at r; cases r
      · rw [hp1] at r; cases r
  have ne : p1 ≠ p2 := fun z => by rw [z, hn2] at f1; cases f1
  have fr1 : ∀ (l : Nat) (o : OD), ρ[l]? = some (.own o) → σ[l]? ≠ some (some (.ref p1)) := fun l o e1 e2 => by
    obtain ⟨w, e3, a, e4, _, _, hh⟩ := (k.later x1).env l _ e1
    rw [e2] at e3
    cases e3
    cases e4
    obtain ⟨u, e5⟩ := hh.there
    rw [hn1] at e5
    cases e5
  have fr2 : ∀ (l : Nat) (o : OD), ρ[l]? = some (.own o) → σ[l]? ≠ some (some (.ref p2)) := fun l o e1 e2 => by
    obtain ⟨w, e3, a, e4, _, _, hh⟩ := ke.env l _ e1
    rw [e2] at e3
    cases e3
    cases e4
    obtain ⟨u, e5⟩ := hh.there
    rw [hn2] at e5
    cases e5
  have k3 := kf.put (i := i) (s := .own (.lst none xs)) (v := .ref p1) ⟨p1, rfl, (k.later x1).ext.nn p1 hn1, n1, (by intro _ z; cases z), vs1, f2, dl1.same y1.z⟩ fun o _ l o' a ea e1 e2 => by
    cases ea
    exact (fr1 l o' e1 e2).elim
  refine h _ _ Hd Hf (k3.put (s := .own (.lst none ds)) ⟨p2, rfl, ke.ext.nn p2 hn2, h02, (by intro _ z; cases z), vs2, hp2, dl2⟩ fun o _ l o' a ea e1 e2 => ?_) (x1.trans (x2.trans y1)).z q2
  cases ea
  by_cases hl : i = l
  · subst hl
    have hlt : i < σ.length := by
      have := (List.getElem?_eq_some_iff.mp e2).1
      simpa using this
    rw [List.getElem?_set_self hlt] at e2
    cases e2
    exact (ne rfl).elim
  · rw [List.getElem?_set_ne hl] at e1 e2
    exact (fr2 l o' e1 e2).elim
end
end DL
end
section
set_option Elab.async false
set_option linter.all false
set_option maxRecDepth 100000
set_option maxHeartbeats 2000000
set_option autoImplicit false
/-! EX8: max of alike data; min, max of a tuple; of two ints. -/
namespace DL
open PySem PySem.Spec L2 PyProof.Rows
open PySem.W (dataLt alike alikeAll)
def rMaxAny (K : PySem.W.Frag) : List V → Hp → VK → Prop := fun vs H Q => ∃ (a : Addr) (ys : List V) (x : PyData) (xs : List PyData), vs = [V.ref a] ∧ SqL K H a ys ∧ DpAll K H ys (x :: xs) ∧ PySem.W.AlikeAll (x :: xs) ∧ PyData.depthAll (x :: xs) ≤ 60 ∧
  ∀ (i : Nat) (v : V) (d : PyData), ys[i]? = some v → (x :: xs)[i]? = some d → d = PySem.W.maxD x xs → Q v H
theorem maxD_mem : ∀ (x : PyData) (xs : List PyData), PySem.W.maxD x xs ∈ x :: xs
  | x, [] => List.mem_cons_self
  | x, y :: ys => by
    have := maxD_mem (if PySem.W.dataLt x y then y else x) ys
    have e : PySem.W.maxD x (y :: ys) = PySem.W.maxD (if PySem.W.dataLt x y then y else x) ys := rfl
    rw [e]
    rcases List.mem_cons.mp this with h | h
    · rw [h]
      split
      · exact List.mem_cons_of_mem _ List.mem_cons_self
      · exact List.mem_cons_self
    · exact List.mem_cons_of_mem _ (List.mem_cons_of_mem _ h)
section
variable {X : Cx} {G : Gx}
theorem cr_maxAny (hc : X.calm = true) (hu : X.A.units + 65 < cLine) : CallR X (.builtin "max") (rMaxAny X.K) := by
  intro pins s σ H vs us Q I r h
  obtain ⟨a, ys, x, xs, rfl, hs, hd, ha, hdep, q⟩ := h
  obtain ⟨its, rv, hl, _⟩ := I.list hs
  rw [Vals.ref1 r]
  obtain ⟨as, hr⟩ := Dp.readsAll I _ _ _ hd rv
  refine PySem.W.max_list_data (I.ok.hd hc) hl.isList hr ha (by omega) fun i v h' tk bs hv rd hk => ?_
  have hil : i < ys.length := by
    have := (Array.getElem?_eq_some_iff.mp hv).1
    rw [rv.length]
    simpa using this
  obtain ⟨u, hu1, hu2⟩ := rv.get (List.getElem?_eq_getElem hil)
  have hvu : v = u := by
    have e : its[i]? = some v := by simpa using hv
    rw [hu1] at e
    exact (Option.some.inj e).symm
  subst hvu
  obtain ⟨d, e1, dp⟩ := dpAll_at hd (List.getElem?_eq_getElem hil)
  obtain ⟨as2, rd2⟩ := Dp.reads I _ _ _ dp hu2
  have eq := PySem.W.alike_unique d (PySem.W.maxD x xs) v as2 bs (ha.1 _ (List.mem_of_getElem? e1) _ (maxD_mem x xs)) (PySem.W.reads_keeps hk rd2) rd
  exact ⟨_, H, I.kept hk, hu2, q i _ d (List.getElem?_eq_getElem hil) e1 eq⟩
/-- max(xs), xs alike data -/
def maxAnyD : List D → W D
  | [.lst xs] => fun Q _ => ∃ (p : PyData) (ps : List PyData), pyDs xs = some (p :: ps) ∧ PySem.W.AlikeAll (p :: ps) ∧ PyData.depthAll (p :: ps) ≤ 60 ∧ ∀ (i : Nat) d, xs[i]? = some d → (p :: ps)[i]? = some (PySem.W.maxD p ps) → Q d
  | _ => stk
theorem d_maxAny (hK : X.K = G.K) : DOpL G (rMaxAny X.K) maxAnyD := by
  intro H0 H xs vs QD ED Q st dd q h
  match xs, q with
  | [.lst xs], q =>
    obtain ⟨v, e, d1⟩ := dens1 dd
    obtain ⟨a, us, e1, s1, d2⟩ := den_lst d1
    obtain ⟨p, ps, ep, ha, hdep, q⟩ := q
    have d3 := d2.same st.z
    refine ⟨a, us, p, ps, by rw [e, e1], .of (st.z _ _ s1), by rw [hK]; exact pyDs_ok d3 ep, ha, hdep, fun i u dp hu hd he => ?_⟩
    subst he
    have hl := d2.length
    have hi : i < us.length := (List.getElem?_eq_some_iff.mp hu).1
    obtain ⟨w, hw, dw⟩ := d2.get (List.getElem?_eq_getElem (l := xs) (i := i) (by omega))
    rw [hu] at hw
    cases hw
    exact h _ _ H0 H st.refl dw (q i _ (List.getElem?_eq_getElem (by omega)) hd)
def rMinAnyT (K : PySem.W.Frag) : List V → Hp → VK → Prop := fun vs H Q => ∃ (a : Addr) (ys : List V) (x : PyData) (xs : List PyData), vs = [V.ref a] ∧ SqT K H a ys ∧ DpAll K H ys (x :: xs) ∧ PySem.W.AlikeAll (x :: xs) ∧ PyData.depthAll (x :: xs) ≤ 60 ∧
  ∀ (i : Nat) (v : V) (d : PyData), ys[i]? = some v → (x :: xs)[i]? = some d → d = PySem.W.minD x xs → Q v H
theorem cr_minAnyT (hc : X.calm = true) (hu : X.A.units + 65 < cLine) : CallR X (.builtin "min") (rMinAnyT X.K) := by
  intro pins s σ H vs us Q I r h
  obtain ⟨a, ys, x, xs, rfl, hs, hd, ha, hdep, q⟩ := h
  obtain ⟨its, rv, hl, _⟩ := I.tuple hs
  rw [Vals.ref1 r]
  obtain ⟨as, hr⟩ := Dp.readsAll I _ _ _ hd rv
  refine PySem.W.min_tuple_data (I.ok.hd hc) (show s.heap.IsTuple a its.toArray from hl) hr ha (by omega) fun i v h' tk bs hv rd hk => ?_
  have hil : i < ys.length := by
    have := (Array.getElem?_eq_some_iff.mp hv).1
    rw [rv.length]
    simpa using this
  obtain ⟨u, hu1, hu2⟩ := rv.get (List.getElem?_eq_getElem hil)
  have hvu : v = u := by
    have e : its[i]? = some v := by simpa using hv
    rw [hu1] at e
    exact (Option.some.inj e).symm
  subst hvu
  obtain ⟨d, e1, dp⟩ := dpAll_at hd (List.getElem?_eq_getElem hil)
  obtain ⟨as2, rd2⟩ := Dp.reads I _ _ _ dp hu2
  have eq := PySem.W.alike_unique d (PySem.W.minD x xs) v as2 bs (ha.1 _ (List.mem_of_getElem? e1) _ (minD_mem x xs)) (PySem.W.reads_keeps hk rd2) rd
  exact ⟨_, H, I.kept hk, hu2, q i _ d (List.getElem?_eq_getElem hil) e1 eq⟩
/-- min(xs), xs a tuple -/
def minTD : List D → W D
  | [.tup xs] => minAnyD [.lst xs]
  | _ => stk
theorem d_minAnyT (hK : X.K = G.K) : DOpL G (rMinAnyT X.K) minTD := by
  intro H0 H xs vs QD ED Q st dd q h
  match xs, q with
  | [.tup xs], q =>
    obtain ⟨v, e, d1⟩ := dens1 dd
    obtain ⟨a, us, e1, s1, d2⟩ := den_tup d1
    obtain ⟨p, ps, ep, ha, hdep, q⟩ := q
    have d3 := d2.same st.z
    refine ⟨a, us, p, ps, by rw [e, e1], by rw [hK]; exact SqT.up st.z s1, by rw [hK]; exact pyDs_ok d3 ep, ha, hdep, fun i u dp hu hd he => ?_⟩
    subst he
    have hl := d2.length
    have hi : i < us.length := (List.getElem?_eq_some_iff.mp hu).1
    obtain ⟨w, hw, dw⟩ := d2.get (List.getElem?_eq_getElem (l := xs) (i := i) (by omega))
    rw [hu] at hw
    cases hw
    exact h _ _ H0 H st.refl dw (q i _ (List.getElem?_eq_getElem (by omega)) hd)
def rMaxAnyT (K : PySem.W.Frag) : List V → Hp → VK → Prop := fun vs H Q => ∃ (a : Addr) (ys : List V) (x : PyData) (xs : List PyData), vs = [V.ref a] ∧ SqT K H a ys ∧ DpAll K H ys (x :: xs) ∧ PySem.W.AlikeAll (x :: xs) ∧ PyData.depthAll (x :: xs) ≤ 60 ∧
  ∀ (i : Nat) (v : V) (d : PyData), ys[i]? = some v → (x :: xs)[i]? = some d → d = PySem.W.maxD x xs → Q v H
theorem cr_maxAnyT (hc : X.calm = true) (hu : X.A.units + 65 < cLine) : CallR X (.builtin "max") (rMaxAnyT X.K) := by
  intro pins s σ H vs us Q I r h
  obtain ⟨a, ys, x, xs, rfl, hs, hd, ha, hdep, q⟩ := h
  obtain ⟨its, rv, hl, _⟩ := I.tuple hs
  rw [Vals.ref1 r]
  obtain ⟨as, hr⟩ := Dp.readsAll I _ _ _ hd rv
  refine PySem.W.max_tuple_data (I.ok.hd hc) (show s.heap.IsTuple a its.toArray from hl) hr ha (by omega) fun i v h' tk bs hv rd hk => ?_
  have hil : i < ys.length := by
    have := (Array.getElem?_eq_some_iff.mp hv).1
    rw [rv.length]
    simpa using this
  obtain ⟨u, hu1, hu2⟩ := rv.get (List.getElem?_eq_getElem hil)
  have hvu : v = u := by
    have e : its[i]? = some v := by simpa using hv
    rw [hu1] at e
    exact (Option.some.inj e).symm
  subst hvu
  obtain ⟨d, e1, dp⟩ := dpAll_at hd (List.getElem?_eq_getElem hil)
  obtain ⟨as2, rd2⟩ := Dp.reads I _ _ _ dp hu2
  have eq := PySem.W.alike_unique d (PySem.W.maxD x xs) v as2 bs (ha.1 _ (List.mem_of_getElem? e1) _ (maxD_mem x xs)) (PySem.W.reads_keeps hk rd2) rd
  exact ⟨_, H, I.kept hk, hu2, q i _ d (List.getElem?_eq_getElem hil) e1 eq⟩
/-- max(xs), xs a tuple -/
def maxTD : List D → W D
  | [.tup xs] => maxAnyD [.lst xs]
  | _ => stk
theorem d_maxAnyT (hK : X.K = G.K) : DOpL G (rMaxAnyT X.K) maxTD := by
  intro H0 H xs vs QD ED Q st dd q h
  match xs, q with
  | [.tup xs], q =>
    obtain ⟨v, e, d1⟩ := dens1 dd
    obtain ⟨a, us, e1, s1, d2⟩ := den_tup d1
    obtain ⟨p, ps, ep, ha, hdep, q⟩ := q
    have d3 := d2.same st.z
    refine ⟨a, us, p, ps, by rw [e, e1], by rw [hK]; exact SqT.up st.z s1, by rw [hK]; exact pyDs_ok d3 ep, ha, hdep, fun i u dp hu hd he => ?_⟩
    subst he
    have hl := d2.length
    have hi : i < us.length := (List.getElem?_eq_some_iff.mp hu).1
    obtain ⟨w, hw, dw⟩ := d2.get (List.getElem?_eq_getElem (l := xs) (i := i) (by omega))
    rw [hu] at hw
    cases hw
    exact h _ _ H0 H st.refl dw (q i _ (List.getElem?_eq_getElem (by omega)) hd)
def min2D : List D → W D
  | [.int i, .int j] => ret (.int (if j < i then j else i))
  | _ => stk
def max2D : List D → W D
  | [.int i, .int j] => ret (.int (if j > i then j else i))
  | _ => stk
theorem d_min2 : DOpL G (fun xs H Q => ∃ i j, xs = [.int i, .int j] ∧ Q (.int (if j < i then j else i)) H) min2D := by
  intro H0 H xs vs QD ED Q st dd q h
  match xs, q with
  | [.int i, .int j], q =>
    obtain ⟨v, v', e, d1, d2⟩ := dens2 dd
    exact ⟨i, j, by rw [e, den_int d1, den_int d2], h _ _ H0 H st.refl of_int q⟩
theorem d_max2 : DOpL G (fun xs H Q => ∃ i j, xs = [.int i, .int j] ∧ Q (.int (if j > i then j else i)) H) max2D := by
  intro H0 H xs vs QD ED Q st dd q h
  match xs, q with
  | [.int i, .int j], q =>
    obtain ⟨v, v', e, d1, d2⟩ := dens2 dd
    exact ⟨i, j, by rw [e, den_int d1, den_int d2], h _ _ H0 H st.refl of_int q⟩
end
def maxL (x : D) (xs : List D) : D := xs.foldl (fun a y => if pLt (encD a) (encD y) = true then y else a) x
def maxO : List D → O D
  | [.lst (x :: xs)] => og (MinOk (x :: xs)) (.ok (maxL x xs))
  | _ => .st
theorem maxL_mem (x : D) : ∀ xs : List D, maxL x xs ∈ x :: xs := by
  intro xs
  induction xs generalizing x with
  | nil => exact List.mem_cons_self
  | cons y xs ih =>
    show maxL (if pLt (encD x) (encD y) = true then y else x) xs ∈ _
    have := ih (if pLt (encD x) (encD y) = true then y else x)
    rcases List.mem_cons.mp this with h | h
    · rw [h]
      split
      · exact List.mem_cons_of_mem _ List.mem_cons_self
      · exact List.mem_cons_self
    · exact List.mem_cons_of_mem _ (List.mem_cons_of_mem _ h)
theorem maxL_enc (A : List D) (hA : ∀ p ∈ A.map encD, ∀ r ∈ A.map encD, alike p r = true) : ∀ (xs : List D) (x : D), x ∈ A → (∀ y ∈ xs, y ∈ A) → encD (maxL x xs) = PySem.W.maxD (encD x) (xs.map encD)
  | [], x, _, _ => rfl
  | y :: xs, x, hx, hy => by
    have my := hy y List.mem_cons_self
    show encD (maxL (if pLt (encD x) (encD y) = true then y else x) xs) = PySem.W.maxD (if dataLt (encD x) (encD y) = true then encD y else encD x) (xs.map encD)
    rw [pLt_eq _ _ (hA _ (List.mem_map_of_mem hx) _ (List.mem_map_of_mem my))] at *
    have e : (if pLt (encD x) (encD y) = true then encD y else encD x) = encD (if pLt (encD x) (encD y) = true then y else x) := by split <;> rfl
    rw [e]
    exact maxL_enc A hA xs _ (by split <;> assumption) fun z hz => hy z (List.mem_cons_of_mem _ hz)
theorem w_max (ds : List D) : (maxO ds).w = maxAnyD ds := by
  rcases ds with _ | ⟨d, _ | ⟨e, r⟩⟩
  · rfl
  · cases d <;> first | rfl | skip
    rename_i xs
    cases xs with
    | nil =>
      funext Q E
      refine propext ⟨fun h => (show False from h).elim, fun h => ?_⟩
      obtain ⟨p, ps, e, _⟩ := h
      simp [pyDs] at e
    | cons x xs =>
      simp only [maxO, w_og, w_ok]
      funext Q E
      refine propext ⟨fun ⟨⟨c1, c2, c3, c4⟩, q⟩ => ?_, fun ⟨p, ps, h, ha, hd, hq⟩ => ?_⟩
      · refine ⟨encD x, xs.map encD, pyDs_enc c1, ⟨c2, c3⟩, c4, fun i d e1 e2 => ?_⟩
        have em := maxL_enc (x :: xs) c2 xs x List.mem_cons_self fun y hy => List.mem_cons_of_mem _ hy
        have e3 : (encD x :: xs.map encD)[i]? = some (encD d) := by
          have : (x :: xs).map encD = encD x :: xs.map encD := rfl
          rw [← this, List.getElem?_map, e1]
          rfl
        rw [e3] at e2
        have e4 : encD d = encD (maxL x xs) := by rw [em]; exact Option.some.inj e2
        obtain ⟨p1, h1⟩ := Option.isSome_iff_exists.mp (c1 d (List.mem_of_getElem? e1))
        obtain ⟨p2, h2⟩ := Option.isSome_iff_exists.mp (c1 _ (maxL_mem x xs))
        have : p1 = p2 := by unfold encD at e4; rw [h1, h2] at e4; exact e4
        subst this
        rw [pyD_inj h1 h2]
        exact q
      · obtain ⟨a, b⟩ := pyDs_all h
        have b1 : p = encD x ∧ ps = xs.map encD := by simpa using b
        obtain ⟨rfl, rfl⟩ := b1
        refine ⟨⟨a, ha.1, ha.2, hd⟩, ?_⟩
        have em := maxL_enc (x :: xs) ha.1 xs x List.mem_cons_self fun y hy => List.mem_cons_of_mem _ hy
        obtain ⟨i, hi⟩ := List.getElem?_of_mem (maxL_mem x xs)
        refine hq i _ hi ?_
        have : (x :: xs).map encD = encD x :: xs.map encD := rfl
        rw [← this, List.getElem?_map, hi]
        exact congrArg some em
  · cases d <;> first | rfl | (rename_i xs; cases xs <;> rfl)
def minTO : List D → O D
  | [.tup xs] => minO [.lst xs]
  | _ => .st
theorem w_minT (ds : List D) : (minTO ds).w = minTD ds := by
  rcases ds with _ | ⟨d, _ | ⟨e, r⟩⟩
  · rfl
  · cases d <;> first | rfl | exact w_min _
  · cases d <;> rfl
def maxTO : List D → O D
  | [.tup xs] => maxO [.lst xs]
  | _ => .st
theorem w_maxT (ds : List D) : (maxTO ds).w = maxTD ds := by
  rcases ds with _ | ⟨d, _ | ⟨e, r⟩⟩
  · rfl
  · cases d <;> first | rfl | exact w_max _
  · cases d <;> rfl
def min2O : List D → O D
  | [.int i, .int j] => .ok (.int (if j < i then j else i))
  | _ => .st
def max2O : List D → O D
  | [.int i, .int j] => .ok (.int (if j > i then j else i))
  | _ => .st
theorem w_min2 (ds : List D) : (min2O ds).w = min2D ds := by
  rcases ds with _ | ⟨d, _ | ⟨e, _ | ⟨f, r⟩⟩⟩
  · rfl
  · cases d <;> rfl
  · cases d <;> first | rfl | (cases e <;> rfl)
  · cases d <;> first | rfl | (cases e <;> rfl)
theorem w_max2 (ds : List D) : (max2O ds).w = max2D ds := by
  rcases ds with _ | ⟨d, _ | ⟨e, _ | ⟨f, r⟩⟩⟩
  · rfl
  · cases d <;> rfl
  · cases d <;> first | rfl | (cases e <;> rfl)
  · cases d <;> first | rfl | (cases e <;> rfl)
section
variable {X : Cx} {G : Gx}
/-- of a list or a tuple -/
def minUD : List D → W D
  | [.tup xs] => minAnyD [.lst xs]
  | ds => minAnyD ds
def maxUD : List D → W D
  | [.tup xs] => maxAnyD [.lst xs]
  | ds => maxAnyD ds
theorem d_minU (hK : X.K = G.K) : DOpL G (fun xs H Q => rMinAny X.K xs H Q ∨ rMinAnyT X.K xs H Q) minUD := fun H0 H xs vs QD ED Q st dd q h => by
  by_cases c : ∃ ys, xs = [.tup ys]
  · obtain ⟨ys, rfl⟩ := c
    exact .inr (d_minAnyT hK H0 H _ vs QD ED Q st dd q h)
  · refine .inl (d_minAny hK H0 H _ vs QD ED Q st dd ?_ h)
    unfold minUD at q
    split at q
    · exact (c ⟨_, rfl⟩).elim
    · exact q
theorem d_maxU (hK : X.K = G.K) : DOpL G (fun xs H Q => rMaxAny X.K xs H Q ∨ rMaxAnyT X.K xs H Q) maxUD := fun H0 H xs vs QD ED Q st dd q h => by
  by_cases c : ∃ ys, xs = [.tup ys]
  · obtain ⟨ys, rfl⟩ := c
    exact .inr (d_maxAnyT hK H0 H _ vs QD ED Q st dd q h)
  · refine .inl (d_maxAny hK H0 H _ vs QD ED Q st dd ?_ h)
    unfold maxUD at q
    split at q
    · exact (c ⟨_, rfl⟩).elim
    · exact q
theorem cr_minU (hc : X.calm = true) (hu : X.A.units + 65 < cLine) : CallR X (.builtin "min") (fun xs H Q => rMinAny X.K xs H Q ∨ rMinAnyT X.K xs H Q) := (cr_minAny hc hu).or (cr_minAnyT hc hu)
theorem cr_maxU (hc : X.calm = true) (hu : X.A.units + 65 < cLine) : CallR X (.builtin "max") (fun xs H Q => rMaxAny X.K xs H Q ∨ rMaxAnyT X.K xs H Q) := (cr_maxAny hc hu).or (cr_maxAnyT hc hu)
end
def minUO : List D → O D
  | [.tup xs] => minO [.lst xs]
  | ds => minO ds
def maxUO : List D → O D
  | [.tup xs] => maxO [.lst xs]
  | ds => maxO ds
theorem w_minU (ds : List D) : (minUO ds).w = minUD ds := by
  unfold minUO minUD
  split <;> exact w_min _
theorem w_maxU (ds : List D) : (maxUO ds).w = maxUD ds := by
  unfold maxUO maxUD
  split <;> exact w_max _
/-! ### where a lambda stands -/
def xTest : Stmt → Expr
  | .If t _ _ _ => t
  | .While t _ _ _ => t
  | _ => xdef
def xLeft : Expr → Expr
  | .Compare a _ _ _ => a
  | _ => xdef
def xUn : Expr → Expr
  | .UnaryOp _ a _ => a
  | _ => xdef
def xBool (i : Nat) : Expr → Expr
  | .BoolOp _ es _ => es.getD i xdef
  | _ => xdef
def xElts (i : Nat) : Expr → Expr
  | .List es _ => es.getD i xdef
  | .Tuple es _ _ => es.getD i xdef
  | _ => xdef
end DL
end
section
set_option Elab.async false
set_option linter.all false
set_option maxRecDepth 100000
set_option maxHeartbeats 2000000
set_option autoImplicit false
/-! O7: plain functions of comprehensions of two walks, count, index. -/
namespace DL
open PySem PySem.Spec L2
def lcOL (f : D → O (List D)) : List D → O (List D)
  | [] => .ok []
  | x :: xs => ob (f x) fun ys => ob (lcOL f xs) fun zs => .ok (ys ++ zs)
theorem w_lcGoL (f : D → O (List D)) : ∀ xs : List D, (lcOL f xs).w = lcGoL (fun x => (f x).w) xs
  | [] => rfl
  | x :: xs => by
    simp only [lcOL, lcGoL, w_ob, w_ok, w_lcGoL f xs]
def lcFO2 (own is1 : List Nat) (g : D → DL.Env → O DL.Env) (wt : DL.Env → O Bool) (wi1 : DL.Env → O (List D)) (g1 : D → DL.Env → O DL.Env) (wt1 : DL.Env → O Bool) (we : DL.Env → O D) (ρ : DL.Env) : D → O (List D) := fun x =>
  ob (g x (wipeE ρ own)) fun ρ1 => ob (wt ρ1) fun t => if t = true then ob (wi1 ρ1) fun xs => og (xs.length ≤ 160) (lcO (lcFO is1 g1 wt1 we (unownE ρ1)) xs) else .ok []
def lc2O (own is1 : List Nat) (wi : DL.Env → O (List D)) (g : D → DL.Env → O DL.Env) (wt : DL.Env → O Bool) (wi1 : DL.Env → O (List D)) (g1 : D → DL.Env → O DL.Env) (wt1 : DL.Env → O Bool) (we : DL.Env → O D) (ρ : DL.Env) : O (List D) :=
  ob (wi ρ) fun xs => og (xs.length ≤ 100000) (ono (lcOL (lcFO2 own is1 g wt wi1 g1 wt1 we ρ) xs))
theorem w_lc2 (own is1 : List Nat) (wi : DL.Env → O (List D)) (g : D → DL.Env → O DL.Env) (wt : DL.Env → O Bool) (wi1 : DL.Env → O (List D)) (g1 : D → DL.Env → O DL.Env) (wt1 : DL.Env → O Bool) (we : DL.Env → O D) (ρ : DL.Env) :
    (lc2O own is1 wi g wt wi1 g1 wt1 we ρ).w = lc2W own is1 (fun ρ => (wi ρ).w) (fun d ρ => (g d ρ).w) (fun ρ => (wt ρ).w) (fun ρ => (wi1 ρ).w) (fun d ρ => (g1 d ρ).w) (fun ρ => (wt1 ρ).w) (fun ρ => (we ρ).w) ρ := by
  simp only [lc2O, lc2W, w_ob, w_og, w_ono, w_lcGoL]
  refine congrArg _ (funext fun xs => congrArg _ (congrArg _ (congrArg (fun f => lcGoL f xs) (funext fun x => ?_))))
  simp only [lcFO2, lcF2, w_ob, w_ite, w_og, w_ok, w_lcGo, w_lcF]
def lcountO : D → D → O D
  | .lst xs, y => ob (oo (pyDs xs)) fun ps => ob (oo (pyD y)) fun p => og (SeqAt.shaped (.list ps) = true ∧ SeqAt.shaped p = true) (.ok (.int ((ps.countP fun z => PyData.eqv z p : Nat) : Int)))
  | _, _ => .st
theorem w_lcount (x y : D) : (lcountO x y).w = lcountD x y := by cases x <;> first | rfl | simp only [lcountO, lcountD, w_ob, w_oo, w_og, w_ok]
def lindexO : D → D → O D
  | .lst xs, y => ob (oo (pyDs xs)) fun ps => ob (oo (pyD y)) fun p => og (SeqAt.shaped (.list ps) = true ∧ SeqAt.shaped p = true) (ob (oo (placeD ps p)) fun j => .ok (.int (j : Int)))
  | _, _ => .st
theorem w_lindex (x y : D) : (lindexO x y).w = lindexD x y := by cases x <;> first | rfl | simp only [lindexO, lindexD, w_ob, w_oo, w_og, w_ok]
def sortSetO : D → O D
  | .tup xs => ob (oo (intsD xs)) fun ns => og (ns.length < 60) (.ok (.lst ((sdI ns).map D.int)))
  | _ => .st
theorem w_sortSet (x : D) : (sortSetO x).w = sortSetD x := by cases x <;> first | rfl | simp only [sortSetO, sortSetD, w_ob, w_oo, w_og, w_ok]
def oixO (z : Option Addr × List D) : D → O D
  | .int k => oo (L2.atI z.2 k)
  | _ => .st
theorem w_oix (z : Option Addr × List D) (x : D) : (oixO z x).w = oixD z x := by cases x <;> first | rfl | exact w_oo _
def augO (f : Int → Int → Int) : D → D → O D
  | .int a, .int b => .ok (.int (f a b))
  | _, _ => .st
theorem w_aug (f : Int → Int → Int) (x y : D) : (augO f x y).w = augD f x y := by cases x <;> first | rfl | (cases y <;> rfl)
def repO : D → D → O (List D)
  | .lst xs, .int k => og (xs.length * k.toNat ≤ sizeLine ∧ k < 2 ^ 63 ∧ -(2 ^ 63) ≤ k) (.ok (List.replicate k.toNat xs).flatten)
  | _, _ => .st
theorem w_rep (x y : D) : (repO x y).w = repD x y := by cases x <;> first | rfl | (cases y <;> first | rfl | exact w_og _ _)
end DL
end
section
set_option Elab.async false
set_option linter.all false
set_option maxRecDepth 100000
set_option maxHeartbeats 4000000
set_option autoImplicit false
/-! G3: kinds of data whose order and equality are known. -/
namespace DL
open PySem PySem.Spec L2
open PySem.W (alike alikeAll AllAlike Sortable TotalLe)
class PyT (α : Type) [DecidableEq α] where
  d : α → D
  p : α → PyData
  enc : ∀ a, pyD (d a) = some (p a)
  eqv : ∀ a b, PyData.eqv (p a) (p b) = decide (a = b)
  alk : ∀ a b, alike (p a) (p b) = true
  lt : α → α → Bool
  ltp : ∀ a b, pLt (p a) (p b) = lt a b
  dep : Nat
  depth : ∀ a, (p a).depth ≤ dep
  nn : ∀ a, p a ≠ .none
  lay : ∀ a, (p a).canLay0 = true
  srt : Option Bool
  srtp : ∀ a, (srt = some true → isTupC (p a) = true) ∧ (srt = some false → isOth (p a) = true)
open PyT
section
variable {α : Type} [DecidableEq α] [PyT α]
theorem pyDs_t : ∀ as : List α, pyDs (as.map d) = some (as.map p)
  | [] => by simp [pyDs]
  | a :: as => by simp [pyDs, enc a, pyDs_t as]
theorem encD_t (a : α) : encD (d a) = p a := by unfold encD; rw [enc]; rfl
theorem lay_t : ∀ as : List α, PyData.canLayAll0 (as.map p) = true
  | [] => rfl
  | a :: as => by simp [PyData.canLayAll0, lay a, lay_t as]
theorem depth_t : ∀ as : List α, PyData.depthAll (as.map p) ≤ dep α
  | [] => by simp [PyData.depthAll]
  | a :: as => by
    have := depth a
    have := depth_t as
    simp only [List.map_cons, PyData.depthAll]
    omega
theorem alk_t : ∀ as bs : List α, alikeAll (as.map p) (bs.map p) = true
  | [], bs => by cases bs <;> simp [alikeAll]
  | a :: as, [] => by simp [alikeAll]
  | a :: as, b :: bs => by simp [alikeAll, alk a b, alk_t as bs]
theorem eqv_t : ∀ as bs : List α, PyData.eqvAll (as.map p) (bs.map p) = decide (as = bs)
  | [], [] => by simp [PyData.eqvAll]
  | [], _ :: _ => by simp [PyData.eqvAll]
  | _ :: _, [] => by simp [PyData.eqvAll]
  | a :: as, b :: bs => by
    simp only [List.map_cons, PyData.eqvAll, eqv, eqv_t as bs]
    by_cases h : a = b <;> simp [h]
def ltL (lt : α → α → Bool) : List α → List α → Bool
  | [], [] => false
  | [], _ :: _ => true
  | _ :: _, [] => false
  | x :: xs, y :: ys => if x = y then ltL lt xs ys else lt x y
theorem ltL_t : ∀ as bs : List α, pLtL (as.map p) (bs.map p) = ltL lt as bs
  | [], [] => by simp [pLtL, ltL]
  | [], _ :: _ => by simp [pLtL, ltL]
  | _ :: _, [] => by simp [pLtL, ltL]
  | a :: as, b :: bs => by
    simp only [List.map_cons, pLtL, ltL, eqv, ltp, ltL_t as bs, decide_eq_true_eq]
theorem shp_t (h : dep α ≤ 64 := by decide) (a : α) : SeqAt.shaped (p a) = true := by
  have := depth a
  simp only [SeqAt.shaped, lay a, Bool.true_and, decide_eq_true_eq]
  omega
theorem shpL_t (h : dep α ≤ 60 := by decide) (as : List α) : SeqAt.shaped (.list (as.map p)) = true := by
  have := depth_t as
  simp [SeqAt.shaped, PyData.canLay0, lay_t as, PyData.depth]
  omega
theorem shpT_t (h : dep α ≤ 60 := by decide) (as : List α) : SeqAt.shaped (.tuple (as.map p)) = true := by
  have := depth_t as
  simp [SeqAt.shaped, PyData.canLay0, lay_t as, PyData.depth]
  omega
theorem d_ins {a : α} {c : Nat} {fs : List D} (h : d a = .ins c fs) : False := by
  have := enc a
  rw [h] at this
  simp [pyD] at this
theorem valD_t (h : dep α ≤ 60) (a b : α) : valD (d a) (d b) = some (p a, p b) := by
  have ha := shp_t (by omega) a
  have hb := shp_t (by omega) b
  simp [valD, enc, ha, hb]
theorem eqo_t (h : dep α ≤ 60) (S : Nat → List D → O D) (neg : Bool) (a b : α) : eqO S neg (d a) (d b) = .ok (.bl (decide (a = b) != neg)) := by
  have e : eqO S neg (d a) (d b) = oo ((valD (d a) (d b)).map fun pq => D.bl (PyData.eqv pq.1 pq.2 != neg)) := by
    cases e : d a <;> first | rfl | exact (d_ins e).elim
  rw [e, valD_t h]
  simp [oo, eqv]
theorem eqd_t (h : dep α ≤ 60) (S : Nat → List D → W D) (neg : Bool) (a b : α) : eqD S neg (d a) (d b) = ret (.bl (decide (a = b) != neg)) := by
  have e : eqD S neg (d a) (d b) = optW ((valD (d a) (d b)).map fun pq => D.bl (PyData.eqv pq.1 pq.2 != neg)) := by
    cases e : d a <;> first | rfl | exact (d_ins e).elim
  rw [e, valD_t h]
  simp [optW, eqv]
theorem any_t (a : α) (as : List α) [Decidable (a ∈ as)] : ((as.map p).any fun z => PyData.eqv z (p a)) = decide (a ∈ as) := by
  rw [List.any_map]
  have : ((fun z => PyData.eqv z (p a)) ∘ p) = fun b => decide (b = a) := by
    funext b
    exact eqv b a
  rw [this]
  by_cases h : a ∈ as
  · rw [decide_eq_true h, List.any_eq_true]
    exact ⟨a, h, by simp⟩
  · rw [decide_eq_false h, List.any_eq_false]
    intro b hb e
    have : b = a := by simpa using e
    exact h (this ▸ hb)
theorem inv_t (h : dep α ≤ 60) (a : α) (as : List α) [Decidable (a ∈ as)] : inV (d a) (.tup (as.map d)) = some (decide (a ∈ as)) ∧ inV (d a) (.lst (as.map d)) = some (decide (a ∈ as)) := by
  have h1 := shp_t (by omega) a
  have h2 := shpL_t h as
  simp only [inV, inItems, Option.bind, enc, pyDs_t, h1, h2, and_self, if_true, any_t]
theorem ino_t (h : dep α ≤ 60) (neg : Bool) (a : α) (as : List α) [Decidable (a ∈ as)] : inO neg (d a) (.tup (as.map d)) = .ok (.bl (decide (a ∈ as) != neg)) := by
  unfold inO
  rw [(inv_t h a as).1]
  rfl
theorem ino_tl (h : dep α ≤ 60) (neg : Bool) (a : α) (as : List α) [Decidable (a ∈ as)] : inO neg (d a) (.lst (as.map d)) = .ok (.bl (decide (a ∈ as) != neg)) := by
  unfold inO
  rw [(inv_t h a as).2]
  rfl
/-! order -/
def le (a b : α) : Bool := !lt b a
theorem leE_t (a b : α) : leE (d a) (d b) = le a b := by
  unfold leE le
  rw [encD_t, encD_t, ltp]
def mn (x : α) (xs : List α) : α := xs.foldl (fun a y => if lt y a = true then y else a) x
theorem minL_t : ∀ (xs : List α) (x : α), minL (d x) (xs.map d) = d (mn x xs)
  | [], x => rfl
  | y :: ys, x => by
    show minL (if pLt (encD (d y)) (encD (d x)) = true then d y else d x) (ys.map d) = _
    rw [encD_t, encD_t, ltp, ← apply_ite d, minL_t ys]
    rfl
theorem cmp_t (α : Type) [DecidableEq α] [PyT α] : Cmp (fun x => ∃ a : α, x = d a) where
  some := by rintro _ ⟨a, rfl⟩; rw [enc]; rfl
  alk := by rintro _ _ ⟨a, rfl⟩ ⟨b, rfl⟩; rw [encD_t, encD_t]; exact alk a b
theorem d_inj {a b : α} (h : (d a : D) = d b) : a = b := by
  have h1 := enc a
  have h2 := enc b
  rw [h, h2] at h1
  have h3 := eqv a b
  have h4 := eqv b b
  rw [← Option.some.inj h1] at h3
  rw [h4] at h3
  have : decide (a = b) = true := by rw [← h3]; simp
  simpa using this
theorem le_tot (a b : α) : le a b = true ∨ le b a = true := by
  have := (cmp_t α).total ⟨a, rfl⟩ ⟨b, rfl⟩
  simpa only [leE_t] using this
theorem le_trans {a b c : α} (h1 : le a b = true) (h2 : le b c = true) : le a c = true := by
  rw [← leE_t] at *
  exact (cmp_t α).trans ⟨a, rfl⟩ ⟨b, rfl⟩ ⟨c, rfl⟩ h1 h2
theorem le_refl (a : α) : le a a = true := (le_tot a a).elim id id
theorem le_anti {a b : α} (h1 : le a b = true) (h2 : le b a = true) : a = b := by
  rw [← leE_t] at *
  exact d_inj ((cmp_t α).anti ⟨a, rfl⟩ ⟨b, rfl⟩ h1 h2)
theorem lt_le {a b : α} : lt a b = !le b a := by simp [le]
theorem lt_irr (a : α) : lt a a = false := by
  have := le_refl a
  simpa [le] using this
theorem minOk_t (h : dep α ≤ 60) (xs : List α) : MinOk (xs.map d) := by
  refine (cmp_t α).minOk (fun y hy => ?_) (fun y hy => ?_) fun y hy => ?_
  · obtain ⟨a, _, rfl⟩ := List.mem_map.mp hy; exact ⟨a, rfl⟩
  · obtain ⟨a, _, rfl⟩ := List.mem_map.mp hy; rw [encD_t]; exact nn a
  · obtain ⟨a, _, rfl⟩ := List.mem_map.mp hy; rw [encD_t]; have := depth a; omega
theorem mino_t (h : dep α ≤ 60) (x : α) (xs : List α) : minO [.lst ((x :: xs).map d)] = .ok (d (mn x xs)) := by
  have := minOk_t h (x :: xs)
  rw [List.map_cons] at this ⊢
  show og (MinOk _) _ = _
  rw [og_t this, minL_t]
theorem mn_mem : ∀ (xs : List α) (x : α), mn x xs ∈ x :: xs
  | [], x => by simp [mn]
  | y :: ys, x => by
    show mn (if lt y x = true then y else x) ys ∈ _
    have := mn_mem ys (if lt y x = true then y else x)
    rcases List.mem_cons.mp this with h | h
    · rw [h]
      split
      · exact List.mem_cons_of_mem _ List.mem_cons_self
      · exact List.mem_cons_self
    · exact List.mem_cons_of_mem _ (List.mem_cons_of_mem _ h)
theorem mn_le : ∀ (xs : List α) (x y : α), y ∈ x :: xs → le (mn x xs) y = true
  | [], x, y, h => by
    have : y = x := by simpa using h
    subst this
    exact le_refl _
  | z :: zs, x, y, h => by
    show le (mn (if lt z x = true then z else x) zs) y = true
    have h0 := mn_le zs (if lt z x = true then z else x) _ List.mem_cons_self
    have hz : le (if lt z x = true then z else x) z = true ∧ le (if lt z x = true then z else x) x = true := by
      split
      · rename_i c
        refine ⟨le_refl _, ?_⟩
        rcases le_tot z x with t | t
        · exact t
        · rw [lt_le, t] at c; simp at c
      · rename_i c
        rw [lt_le] at c
        exact ⟨by simpa using c, le_refl _⟩
    rcases List.mem_cons.mp h with rfl | h
    · exact le_trans h0 hz.2
    · rcases List.mem_cons.mp h with rfl | h
      · exact le_trans h0 hz.1
      · exact mn_le zs _ y (List.mem_cons_of_mem _ h)
theorem mn_one {x m : α} {xs : List α} (hm : m ∈ x :: xs) (h : ∀ y ∈ x :: xs, le m y = true) : mn x xs = m :=
  le_anti (mn_le xs x m hm) (h _ (mn_mem xs x))
/-! sorted -/
theorem sortOk_t (h : dep α ≤ 60) (hs : (srt α).isSome = true) (xs : List α) : SortOk (xs.map d) := by
  refine ⟨fun y hy => ?_, fun p hp r hr => ?_, ?_⟩
  · obtain ⟨a, _, rfl⟩ := List.mem_map.mp hy
    rw [encD_t, enc]
    have := depth a
    exact ⟨rfl, by omega⟩
  · rw [List.map_map] at hp hr
    obtain ⟨a, _, rfl⟩ := List.mem_map.mp hp
    obtain ⟨b, _, rfl⟩ := List.mem_map.mp hr
    show alike (encD (d a)) (encD (d b)) = true
    rw [encD_t, encD_t]
    exact alk a b
  · rw [sortable_iff]
    have e : (xs.map d).map encD = xs.map p := by
      rw [List.map_map]
      exact List.map_congr_left fun a _ => encD_t a
    rw [e, List.all_map, List.all_map, Bool.or_eq_true, List.all_eq_true, List.all_eq_true]
    obtain ⟨b, hb⟩ := Option.isSome_iff_exists.mp hs
    cases b with
    | true => exact .inl fun a _ => (srtp a).1 hb
    | false => exact .inr fun a _ => (srtp a).2 hb
def srtd (xs : List α) : List α := isortL le xs
theorem sorto_t (h : dep α ≤ 60) (hs : (srt α).isSome = true) (xs : List α) : sortO [.lst (xs.map d)] = .ok (.lst ((srtd xs).map d)) := by
  show og (SortOk _) _ = _
  rw [og_t (sortOk_t h hs xs), isortL_map (le' := le) (fun a b => leE_t a b)]
  rfl
theorem srtd_perm (xs : List α) : (srtd xs).Perm xs := isortL_perm
theorem le_totalLe : TotalLe (le (α := α)) := ⟨fun a b c h1 h2 => le_trans h1 h2, fun a b => le_tot a b⟩
theorem srtd_asc (xs : List α) : (srtd xs).Pairwise (fun a b => le a b = true) := isortL_sorted le_totalLe xs
theorem srtd_one {xs ys : List α} (hp : ys.Perm xs) (ha : ys.Pairwise (fun a b => le a b = true)) : srtd xs = ys :=
  sorted_one (fun _ _ h1 h2 => le_anti h1 h2) ((srtd_perm xs).trans hp.symm) (srtd_asc xs) ha le_refl
end
/-! ### kinds -/
instance : PyT Int where
  d := .int
  p := .int
  enc _ := rfl
  eqv a b := by
    simp only [PyData.eqv]
    by_cases h : a = b <;> simp [h]
  alk a b := by simp [alike]
  lt a b := decide (a < b)
  ltp a b := by simp [pLt]
  dep := 0
  depth a := by simp [PyData.depth]
  nn a := by simp
  lay a := rfl
  srt := some false
  srtp a := ⟨by simp, fun _ => rfl⟩
section
variable {α β γ : Type} [DecidableEq α] [PyT α] [DecidableEq β] [PyT β] [DecidableEq γ] [PyT γ]
/-- lists stand for tuples -/
instance : PyT (List α) where
  d l := .tup (l.map d)
  p l := .tuple (l.map p)
  enc l := by simp [pyD, pyDs_t]
  eqv a b := by simp only [PyData.eqv, eqv_t]
  alk a b := by simp [alike, alk_t]
  lt := ltL lt
  ltp a b := by simp only [pLt, ltL_t]
  dep := dep α + 1
  depth a := by have := depth_t a; simp only [PyData.depth]; omega
  nn a := by simp
  lay a := by simp only [PyData.canLay0, lay_t]
  srt := none
  srtp a := ⟨by simp, by simp⟩
/-- pairs -/
instance : PyT (α × β) where
  d l := .tup [d l.1, d l.2]
  p l := .tuple [p l.1, p l.2]
  enc l := by simp [pyD, pyDs, enc]
  eqv a b := by
    obtain ⟨a1, a2⟩ := a
    obtain ⟨b1, b2⟩ := b
    simp only [PyData.eqv, PyData.eqvAll, eqv]
    by_cases h1 : a1 = b1 <;> by_cases h2 : a2 = b2 <;> simp [h1, h2]
  alk a b := by simp [alike, alikeAll, alk]
  lt a b := if a.1 = b.1 then lt a.2 b.2 else lt a.1 b.1
  ltp a b := by
    simp only [pLt, pLtL, eqv, ltp, decide_eq_true_eq]
    split
    · split
      · rename_i h1 h2; rw [h2, lt_irr]
      · rfl
    · rfl
  dep := max (dep α) (dep β) + 1
  depth a := by
    have := depth a.1
    have := depth a.2
    simp only [PyData.depth, PyData.depthAll]
    omega
  nn a := by simp
  lay a := by simp [PyData.canLay0, PyData.canLayAll0, lay]
  srt := some true
  srtp a := ⟨fun _ => rfl, by simp⟩
/-- triples -/
structure Tri (α β γ : Type) where
  a : α
  b : β
  c : γ
deriving DecidableEq
instance : PyT (Tri α β γ) where
  d l := .tup [d l.a, d l.b, d l.c]
  p l := .tuple [p l.a, p l.b, p l.c]
  enc l := by simp [pyD, pyDs, enc]
  eqv a b := by
    obtain ⟨a1, a2, a3⟩ := a
    obtain ⟨b1, b2, b3⟩ := b
    simp only [PyData.eqv, PyData.eqvAll, eqv]
    by_cases h1 : a1 = b1 <;> by_cases h2 : a2 = b2 <;> by_cases h3 : a3 = b3 <;> simp [h1, h2, h3]
  alk a b := by simp [alike, alikeAll, alk]
  lt x y := if x.a = y.a then (if x.b = y.b then lt x.c y.c else lt x.b y.b) else lt x.a y.a
  ltp a b := by
    simp only [pLt, pLtL, eqv, ltp, decide_eq_true_eq]
    split
    · split
      · split
        · rename_i h1 h2 h3; rw [h3, lt_irr]
        · rfl
      · rfl
    · rfl
  dep := max (dep α) (max (dep β) (dep γ)) + 1
  depth x := by
    have := depth x.a
    have := depth x.b
    have := depth x.c
    simp only [PyData.depth, PyData.depthAll]
    omega
  nn a := by simp
  lay a := by simp [PyData.canLay0, PyData.canLayAll0, lay]
  srt := some true
  srtp a := ⟨fun _ => rfl, by simp⟩
end
end DL
end
section
set_option Elab.async false
set_option linter.all false
set_option maxRecDepth 100000
set_option maxHeartbeats 4000000
set_option autoImplicit false
/-! O8: plain functions worked out step by step. -/
namespace DL
open PySem PySem.Spec L2
section
variable {x y : D} {s : Sl} {ρ : DL.Env} {n : Nat} {o : OD}
theorem rdO_z : rdO (.d x :: ρ) 0 = .ok x := rfl
theorem rdO_s : rdO (s :: ρ) (n + 1) = rdO ρ n := rfl
theorem ownLO_z {a : Option Addr} {ds : List D} : ownLO 0 (.own (.lst a ds) :: ρ) = .ok (a, ds) := rfl
theorem ownLO_s : ownLO (n + 1) (s :: ρ) = ownLO n ρ := rfl
theorem frzO_z : frzO 0 (.own o :: ρ) = oo ((frzD o).map fun d => (.d d :: ρ)) := rfl
theorem frzO_d : frzO 0 (.d x :: ρ) = .ok (.d x :: ρ) := rfl
theorem frzO_s : frzO (n + 1) (s :: ρ) = ob (frzO n ρ) fun ρ' => .ok (s :: ρ') := by
  unfold frzO
  rw [List.getElem?_cons_succ]
  rcases ρ[n]? with _ | s'
  · rfl
  · cases s' with
    | un => rfl
    | d _ => rfl
    | own o =>
      simp only [List.set_cons_succ]
      cases frzD o <;> rfl
    | _ => rfl
theorem seqO_nx (f : DL.Env → O Out) : seqO (.ok (.nx ρ)) f = f ρ := rfl
theorem seqO_rt (f : DL.Env → O Out) : seqO (.ok (.rt x ρ)) f = .ok (.rt x ρ) := rfl
theorem seqO_ex (e : DX) (f : DL.Env → O Out) : seqO (.ex e) f = .ex e := rfl
theorem endO_rt : endO (.ok (.rt x ρ)) = .ok x := rfl
theorem endO_nx : endO (.ok (.nx ρ)) = .ok .non := rfl
theorem endO_ex (e : DX) : endO (.ex e) = .ex e := rfl
theorem addO_int (i j : Int) : addO (.int i) (.int j) = .ok (.int (i + j)) := rfl
theorem subO_int (i j : Int) : subO (.int i) (.int j) = .ok (.int (i - j)) := rfl
theorem mulO_int (i j : Int) : mulO (.int i) (.int j) = og (MulOk i j) (.ok (.int (i * j))) := rfl
theorem modO_int (i j : Int) : modO (.int i) (.int j) = og (0 < j) (.ok (.int (i % j))) := rfl
theorem divO_int (i j : Int) : divO (.int i) (.int j) = og (CDivW i j) (.ok (.int (i / j))) := rfl
theorem negO_int (i : Int) : negO (.int i) = .ok (.int (-i)) := rfl
theorem leO_int (i j : Int) : leO (.int i) (.int j) = .ok (.bl (decide (i ≤ j))) := rfl
theorem ltO_int (i j : Int) : ltO (.int i) (.int j) = .ok (.bl (decide (i < j))) := rfl
theorem geO_int (i j : Int) : geO (.int i) (.int j) = .ok (.bl (decide (j ≤ i))) := rfl
theorem gtO_int (i j : Int) : gtO (.int i) (.int j) = .ok (.bl (decide (j < i))) := rfl
theorem asBO_bl (b : Bool) : asBO (.bl b) = .ok b := rfl
theorem truO_bl (b : Bool) : truO (.bl b) = .ok b := rfl
theorem truO_non : truO .non = .ok false := rfl
theorem notO_ok (b : Bool) : notO (.ok b) = .ok (!b) := rfl
theorem orO_ok (b : Bool) (z : O Bool) : orO' (.ok b) z = if b = true then .ok true else z := rfl
theorem andO_ok (b : Bool) (z : O Bool) : andO (.ok b) z = if b = true then z else .ok false := rfl
theorem eqO_int (S : Nat → List D → O D) (neg : Bool) (i j : Int) : eqO S neg (.int i) (.int j) = .ok (.bl ((i == j) != neg)) := by
  simp [eqO, valD, pyD, shp_int, oo, PyData.eqv]
theorem eqO_bl (S : Nat → List D → O D) (neg a b : Bool) : eqO S neg (.bl a) (.bl b) = .ok (.bl ((a == b) != neg)) := by
  simp [eqO, valD, pyD, shp_bool, oo, PyData.eqv]
theorem isO_non : isO x .non = .ok (.bl (isNon x)) := rfl
theorem isnotO_non : isnotO x .non = .ok (.bl (!isNon x)) := rfl
theorem seqDO_tup (xs : List D) : seqDO (.tup xs) = .ok xs := rfl
theorem seqDO_lst (xs : List D) : seqDO (.lst xs) = .ok xs := rfl
theorem tupleO_lst (xs : List D) : tupleO [.lst xs] = .ok (.tup xs) := rfl
theorem tupleO_tup (xs : List D) : tupleO [.tup xs] = .ok (.tup xs) := rfl
theorem listO_lst (xs : List D) : listO [.lst xs] = .ok (.lst xs) := rfl
theorem listO_tup (xs : List D) : listO [.tup xs] = .ok (.lst xs) := rfl
theorem lenO_lst (xs : List D) : lenO [.lst xs] = .ok (.int xs.length) := rfl
theorem lenO_tup (xs : List D) : lenO [.tup xs] = .ok (.int xs.length) := rfl
theorem enumO_lst (xs : List D) : enumO [.lst xs] = .ok (enumD xs) := rfl
theorem enumO_tup (xs : List D) : enumO [.tup xs] = .ok (enumD xs) := rfl
theorem zipO_lst (xs ys : List D) : zipO [.lst xs, .lst ys] = .ok (zipD xs ys) := rfl
theorem zipO_tup (xs ys : List D) : zipO [.tup xs, .tup ys] = .ok (zipD xs ys) := rfl
theorem intO_int (i : Int) : intO' [.int i] = .ok (.int i) := rfl
theorem intO_bl (k : Bool) : intO' [.bl k] = .ok (.int (if k then 1 else 0)) := rfl
theorem addO_tup (xs ys : List D) : addO (.tup xs) (.tup ys) = og (xs.length + ys.length ≤ sizeLine) (.ok (.tup (xs ++ ys))) := rfl
theorem addO_lst (xs ys : List D) : addO (.lst xs) (.lst ys) = og (xs.length + ys.length ≤ sizeLine) (.ok (.lst (xs ++ ys))) := rfl
theorem tupO_ok (n : Nat) (gs : List D → DL.Env → O DL.Env) (ds : List D) (ρ : DL.Env) : tupO n gs (.tup ds) ρ = og (ds.length = n) (gs ds ρ) := rfl
theorem consO_ok (g : D → DL.Env → O DL.Env) (gs : List D → DL.Env → O DL.Env) (d : D) (r : List D) (ρ : DL.Env) : consO g gs (d :: r) ρ = ob (g d ρ) fun ρ1 => gs r ρ1 := rfl
theorem nilO_ok (ρ : DL.Env) : nilO [] ρ = .ok ρ := rfl
theorem lcFO_ok (own : List Nat) (g : D → DL.Env → O DL.Env) (wt : DL.Env → O Bool) (we : DL.Env → O D) (ρ : DL.Env) (x : D) :
    lcFO own g wt we ρ x = ob (g x (wipeE ρ own)) fun ρ1 => ob (wt ρ1) fun t => if t = true then ob (we ρ1) fun y => .ok (some y) else .ok none := rfl
theorem wipeE_nil (ρ : DL.Env) : wipeE ρ [] = ρ := rfl
theorem wipeE_cons (ρ : DL.Env) (v : Nat) (vs : List Nat) : wipeE ρ (v :: vs) = (wipeE ρ vs).set v .un := rfl
theorem forO_nil (f : D → DL.Env → O Out) (ρ : DL.Env) : forO f [] ρ = .ok (.nx ρ) := rfl
theorem rng1O_nat (n : Nat) (h : n ≤ 16777216) : rng1O [.int (n : Int)] = .ok ((List.range n).map fun i : Nat => D.int (i : Int)) := by
  show og _ _ = _
  rw [og_t ⟨by omega, by omega⟩, Int.toNat_natCast, rangeD0]
theorem rng2O_nat {a b : Nat} (h : b ≤ 1000) (ha : a ≤ 1000) : rng2O [.int (a : Int), .int (b : Int)] = .ok ((List.range' a (b - a)).map fun i : Nat => D.int (i : Int)) := by
  show og _ _ = _
  rw [og_t ⟨by omega, by omega, by omega, by omega⟩]
  congr 1
  have : ((b : Int) - a).toNat = b - a := by omega
  rw [this]
  unfold rangeD
  rw [List.range'_eq_map_range, List.map_map]
  refine List.map_congr_left fun i _ => ?_
  show D.int _ = D.int _
  simp only [Function.comp]
  congr 1
theorem enumD_ty {α : Type} (c : α → D) (xs : List α) : enumD (xs.map c) = xs.zipIdx.map fun p => D.tup [.int (p.2 : Int), c p.1] := by
  unfold enumD
  rw [List.zipIdx_map, List.map_map]
  rfl
theorem zipD_ty {α β : Type} (c : α → D) (e : β → D) (xs : List α) (ys : List β) : zipD (xs.map c) (ys.map e) = (xs.zip ys).map fun p => D.tup [c p.1, e p.2] := by
  unfold zipD
  rw [List.zip_map, List.map_map]
  rfl
theorem allO_b (bs : List Bool) : allO [.lst (bs.map D.bl)] = .ok (.bl (bs.all id)) := by
  simp only [allO, boolsD_map, oo, ob]
theorem anyO_b (bs : List Bool) : anyO [.lst (bs.map D.bl)] = .ok (.bl (bs.any id)) := by
  simp only [anyO, boolsD_map, oo, ob]
/-- a comprehension of flags -/
theorem allO_m {α : Type} (f : α → Bool) (as : List α) : allO [.lst (as.map fun a => D.bl (f a))] = .ok (.bl (as.all f)) := by
  have := allO_b (as.map f)
  rw [List.map_map] at this
  rw [show (as.map fun a => D.bl (f a)) = as.map (D.bl ∘ f) from rfl, this, List.all_map]
  rfl
theorem anyO_m {α : Type} (f : α → Bool) (as : List α) : anyO [.lst (as.map fun a => D.bl (f a))] = .ok (.bl (as.any f)) := by
  have := anyO_b (as.map f)
  rw [List.map_map] at this
  rw [show (as.map fun a => D.bl (f a)) = as.map (D.bl ∘ f) from rfl, this, List.any_map]
  rfl
theorem sumO_m {α : Type} (f : α → Int) (as : List α) : sumO [.lst (as.map fun a => D.int (f a))] = .ok (.int (as.map f).sum) := by
  rw [← sumO_ints, List.map_map]
  try rfl
theorem ixO_tup {xs : List D} {i : Nat} {x : D} (h : xs[i]? = some x) : ixO (.tup xs) (.int (i : Int)) = .ok x := by
  show oo _ = _
  rw [DL.atI_nat h]
  rfl
theorem ixO_lst {xs : List D} {i : Nat} {x : D} (h : xs[i]? = some x) : ixO (.lst xs) (.int (i : Int)) = .ok x := by
  show oo _ = _
  rw [DL.atI_nat h]
  rfl
/-- a loop that ends early or goes through: f says what comes of each -/
theorem forO_ck {α : Type} {c : α → D} {f : D → DL.Env → O Out} (I : DL.Env → Prop) (P : α → Prop) (v : D) : ∀ (as : List α) (ρ : DL.Env), I ρ → (∀ a ∈ as, ∀ ρ, I ρ → (¬ P a ∧ ∃ ρ', f (c a) ρ = .ok (.rt v ρ')) ∨ (P a ∧ ∃ ρ', I ρ' ∧ f (c a) ρ = .ok (.nx ρ'))) →
    ((¬ ∀ a ∈ as, P a) ∧ ∃ ρ', forO f (as.map c) ρ = .ok (.rt v ρ')) ∨ ((∀ a ∈ as, P a) ∧ ∃ ρ', I ρ' ∧ forO f (as.map c) ρ = .ok (.nx ρ'))
  | [], ρ, hi, _ => .inr ⟨by simp, ρ, hi, rfl⟩
  | a :: as, ρ, hi, h => by
    rcases h a List.mem_cons_self ρ hi with ⟨na, ρ', e⟩ | ⟨pa, ρ', hi', e⟩
    · refine .inl ⟨fun z => na (z a List.mem_cons_self), ρ', ?_⟩
      show ob (f (c a) ρ) _ = _
      rw [e]
      rfl
    · rcases forO_ck I P v as ρ' hi' fun b hb => h b (List.mem_cons_of_mem _ hb) with ⟨na, ρ2, e2⟩ | ⟨pas, ρ2, hi2, e2⟩
      · refine .inl ⟨fun z => na fun b hb => z b (List.mem_cons_of_mem _ hb), ρ2, ?_⟩
        show ob (f (c a) ρ) _ = _
        rw [e, ob_ok]
        exact e2
      · refine .inr ⟨fun b hb => ?_, ρ2, hi2, ?_⟩
        · rcases List.mem_cons.mp hb with rfl | hb
          · exact pa
          · exact pas b hb
        · show ob (f (c a) ρ) _ = _
          rw [e, ob_ok]
          exact e2
/-- a loop that goes through, an invariant alone -/
theorem forO_I {α : Type} {c : α → D} {f : D → DL.Env → O Out} (I : DL.Env → Prop) : ∀ {as : List α} {ρ : DL.Env}, I ρ → (∀ a ∈ as, ∀ ρ, I ρ → ∃ ρ', I ρ' ∧ f (c a) ρ = .ok (.nx ρ')) → ∃ ρ', I ρ' ∧ forO f (as.map c) ρ = .ok (.nx ρ')
  | [], ρ, hi, _ => ⟨ρ, hi, rfl⟩
  | a :: as, ρ, hi, h => by
    obtain ⟨ρ1, h1, e1⟩ := h a List.mem_cons_self ρ hi
    obtain ⟨ρ2, h2, e2⟩ := forO_I I h1 fun b hb => h b (List.mem_cons_of_mem _ hb)
    refine ⟨ρ2, h2, ?_⟩
    show ob (f (c a) ρ) _ = _
    rw [e1, ob_ok]
    exact e2
theorem sortSetO_ints (l : List Int) (h : l.length < 60) : sortSetO (.tup (l.map D.int)) = .ok (.lst ((sdI l).map D.int)) := by
  show ob (oo (intsD _)) _ = _
  rw [intsD_map, oo_some, ob_ok, og_t h]
end
end DL
end
section
set_option Elab.async false
set_option linter.all false
set_option maxRecDepth 100000
set_option maxHeartbeats 400000
set_option autoImplicit false
/-! Z1: zip of two things, each a list or a tuple. -/
namespace DL
open PySem PySem.Spec L2 PyProof.Rows
structure ZK (P : Program) (w : World) (K : PySem.W.Frag) where
  sq : Hp → Addr → List V → Prop
  run : Heap → Addr → Addr → Nat → Prop
  sub : Heap → Addr → Array Value → Prop
  obj : Addr → Obj
  get : ∀ {X : Cx} {pins : List (Addr × Obj)} {σ : L2.St} {H : Hp} {s : Shared} {a : Addr} {xs : List V}, X.K = K → Inv X pins σ H s → sq H a xs → ∃ its : List Value, Vals xs its ∧ sub s.heap a its.toArray
  inj : ∀ {X : Cx} {pins : List (Addr × Obj)} {σ : L2.St} {H : Hp} {s : Shared} {a : Addr} {xs ys : List V}, X.K = K → Inv X pins σ H s → sq H a xs → sq H a ys → xs = ys
  draws : ∀ (A : Around), A.handled = none → ∀ (i l : Addr), l ≠ i → ∀ items : Array Value, Draws P w A i [i, l] items.size (fun n v => items[n]? = some v) (fun n h => run h i l n ∧ sub h l items)
  begins : ∀ (l : Addr) (items : Array Value), Begins (.ref l) (obj l) fun h => sub h l items
  ats : ∀ {h h' : Heap} {i l : Addr} {n : Nat}, run h i l n → (∀ o, h.get? i = some o → h'.get? i = some o) → run h' i l n
  lives : ∀ {h : Heap} {i l : Addr} {n : Nat}, run h i l n → ∃ o, h.get? i = some o ∧ ∀ v, o.data ≠ .cell v
  first : ∀ {h : Heap} {i l : Addr}, h.get? i = some (obj l) → run h i l 0
  lt : ∀ {h : Heap} {l : Addr} {its : Array Value}, sub h l its → l < h.objs.size
def zkL (P : Program) (w : World) (K : PySem.W.Frag) : ZK P w K where
  sq H a xs := SqL K H a xs
  run h i l n := h.IsListIter i l n
  sub h l its := h.IsList l its
  obj l := { cls := .type "list_iterator", data := .fields #[.ref l, .int 0 0] }
  get hK I q := by
    subst hK
    obtain ⟨its, r, p, _⟩ := I.list q
    exact ⟨its, r, p.isList⟩
  inj hK I q q' := by subst hK; exact I.list_inj q q'
  draws A hh i l hne items := Draws.list hh i l hne items
  begins l items := begins_list l items
  ats r k := Heap.IsListIter.at r k
  lives r := by
    obtain ⟨o, e, _, dd⟩ := r
    exact ⟨o, e, fun v z => by rw [dd] at z; cases z⟩
  first e := ⟨_, e, rfl, rfl⟩
  lt r := by
    obtain ⟨o, e, _⟩ := id r
    exact Heap.lt_size e
def zkT (P : Program) (w : World) (K : PySem.W.Frag) : ZK P w K where
  sq H a xs := SqT K H a xs
  run h i l n := h.IsTupleIter i l n
  sub h l its := h.IsTuple l its
  obj l := { cls := .type "tuple_iterator", data := .fields #[.ref l, .int 0 0] }
  get hK I q := by
    subst hK
    obtain ⟨its, r, p, _⟩ := I.tuple q
    exact ⟨its, r, p⟩
  inj hK I q q' := by subst hK; exact I.tuple_inj q q'
  draws A hh i l hne items := Draws.tuple hh i l hne items
  begins l items := begins_tuple l items
  ats r k := Heap.IsTupleIter.at r k
  lives r := by
    obtain ⟨o, e, _, dd⟩ := r
    exact ⟨o, e, fun v z => by rw [dd] at z; cases z⟩
  first e := ⟨_, e, rfl, rfl⟩
  lt r := by
    obtain ⟨o, e, _⟩ := id r
    exact Heap.lt_size e
section
variable {P : Program} {w : World} {K : PySem.W.Frag} (k1 k2 : ZK P w K)
/-- a and b, the items in new pairs -/
def ItzM (a b : Addr) : It :=
  ⟨fun n H => ∃ (xs ys : List V) (x y : V), k1.sq H a xs ∧ k2.sq H b ys ∧ xs[n]? = some x ∧ ys[n]? = some y,
    fun n H v H' => ∃ T x y, v = .ref T ∧ H T = none ∧ H' = upd H T (.tup [x, y]) ∧ (∀ xs, k1.sq H a xs → xs[n]? = some x) ∧ ∀ ys, k2.sq H b ys → ys[n]? = some y,
    fun n H => ∃ xs ys : List V, k1.sq H a xs ∧ k2.sq H b ys ∧ n = min xs.length ys.length⟩
theorem turn_zipM {elts : List Expr} {kk : Nat} {tpos : Pos} {a b z TI TO i1 i2 : Addr} (S : ZipSep2 z TI TO i1 i2 [i1, a] [i2, b]) (na : a ≠ i1) (nb : b ≠ i2) :
    Turn P w K (.Tuple elts kk tpos) (ItzM k1 k2 a b) [z, TI, TO, i1, i2] z (fun n h => IsZip h z TI TO .none ∧ IsTupOf2 h TI (.ref i1) (.ref i2) ∧ (∃ x y, IsTupOf2 h TO x y) ∧ k1.run h i1 a n ∧ k2.run h i2 b n) where
  mem := by simp
  obj := fun n h ⟨hz, t1, ⟨x, y, t2⟩, r1, r2⟩ c hc => by
    simp only [List.mem_cons, List.not_mem_nil, or_false] at hc
    rcases hc with rfl | rfl | rfl | rfl | rfl
    · exact ⟨_, hz, fun v q => by cases q⟩
    · exact ⟨_, t1, fun v q => by cases q⟩
    · exact ⟨_, t2, fun v q => by cases q⟩
    · exact k1.lives r1
    · exact k2.lives r2
  keep := fun n h h' ⟨hz, t1, ⟨x, y, t2⟩, r1, r2⟩ kp =>
    ⟨kp _ (by simp) _ hz, kp _ (by simp) _ t1, ⟨x, y, kp _ (by simp) _ t2⟩, k1.ats r1 (kp _ (by simp)), k2.ats r2 (kp _ (by simp))⟩
  item := by
    intro X eP ew eK hc n pins s σ H E I hf ⟨hz, t1, ⟨x0, y0, t2⟩, r1, r2⟩ ⟨xs, ys, x, y, qx, qy, ex, ey⟩
    obtain ⟨as, v1, p1⟩ := k1.get eK I qx
    obtain ⟨bs, v2, p2⟩ := k2.get eK I qy
    subst eP ew
    have hh : X.A.in1.handled = none := I.ok.hd hc
    have l1 : n < as.toArray.size := by
      have := (List.getElem?_eq_some_iff.mp ex).1
      rw [List.size_toArray, ← v1.length]
      exact this
    have l2 : n < bs.toArray.size := by
      have := (List.getElem?_eq_some_iff.mp ey).1
      rw [List.size_toArray, ← v2.length]
      exact this
    have zl : z < s.heap.objs.size := Heap.lt_size hz
    refine wpAny_pyNext_zipD2_item S (k1.draws _ hh i1 a na as.toArray) (k2.draws _ hh i2 b nb bs.toArray) hz t1 t2 ⟨r1, p1⟩ ⟨r2, p2⟩ l1 l2 fun u1 u2 h' tk e1 e2 z' t2' d1 d2 nt sz kp => ?_
    refine ⟨_, rfl, wpAny_letOwnedTupleGo_zip (s := { s with heap := h', toks := tk }) z' fun h2 z2 sb => ?_⟩
    have sb2 := sb.2
    have g2 : h2.get? s.heap.objs.size = some { cls := .type "tuple", data := .seq #[u1, u2] } := (sb2 _ (Nat.ne_of_gt zl)).trans nt
    obtain ⟨w1, hw1, rw1⟩ := v1.get ex
    obtain ⟨w2, hw2, rw2⟩ := v2.get ey
    have ew1 : w1 = u1 := by
      have : as.toArray[n]? = some w1 := by simpa using hw1
      rw [this] at e1
      exact Option.some.inj e1
    have ew2 : w2 = u2 := by
      have : bs.toArray[n]? = some w2 := by simpa using hw2
      rw [this] at e2
      exact Option.some.inj e2
    subst ew1 ew2
    have nw : ObjOk X.prog X.w (upd H s.heap.objs.size (.tup [x, y])) h2 s.heap.objs.size (.tup [x, y]) :=
      ⟨(by decide : 2 ≤ sizeLine), [w1, w2], .cons rw1 (.cons rw2 .nil), ⟨_, g2, rfl, _, rfl⟩⟩
    have kp2 : ∀ c o, c ∉ [z, TI, TO, i1, i2] → s.heap.get? c = some o → h2.get? c = some o := fun c o hb q => by
      simp only [List.mem_cons, List.not_mem_nil, or_false, not_or] at hb
      obtain ⟨b1, b2, b3, b4, b5⟩ := hb
      exact (sb2 c b1).trans (kp c o b1 b3 b4 b5 q)
    have I1 : Inv X pins σ (upd H s.heap.objs.size (.tup [x, y])) { s with heap := h2, toks := tk } := I.turnedNew (t' := tk) (ch := [z, TI, TO, i1, i2]) kp2 hf (Nat.le_refl _) nw
    refine ⟨.ref s.heap.objs.size, _, I1, rfl, ⟨_, x, y, rfl, I.hok.fresh (Nat.le_refl _), rfl, fun l hl => by rw [k1.inj eK I hl qx]; exact ex, fun l hl => by rw [k2.inj eK I hl qy]; exact ey⟩, ⟨z2, ?_, ⟨w1, w2, ?_⟩, ?_, ?_⟩, fun c hcm => ?_⟩
    · exact (sb2 _ S.TIz).trans (kp _ _ S.TIz S.TITO S.TIi1 S.TIi2 t1)
    · exact (sb2 _ S.TOz).trans t2'
    · exact k1.ats d1.1 fun o q => (sb2 _ (fun e => S.zi1 e.symm)).trans q
    · exact k2.ats d2.1 fun o q => (sb2 _ (fun e => S.zi2 e.symm)).trans q
    · have hlt : c < s.heap.objs.size := by
        obtain ⟨o1, g1, _⟩ := k1.lives r1
        obtain ⟨o2, g2, _⟩ := k2.lives r2
        simp only [List.mem_cons, List.not_mem_nil, or_false] at hcm
        rcases hcm with rfl | rfl | rfl | rfl | rfl
        · exact zl
        · exact Heap.lt_size t1
        · exact Heap.lt_size t2
        · exact Heap.lt_size g1
        · exact Heap.lt_size g2
      rw [upd_ne (Nat.ne_of_lt hlt)]
      exact (hf c hcm).1
  done := by
    intro X eP ew eK hc n pins s σ H E I hf ⟨hz, t1, ⟨x0, y0, t2⟩, r1, r2⟩ ⟨xs, ys, qx, qy, hend⟩
    obtain ⟨as, v1, p1⟩ := k1.get eK I qx
    obtain ⟨bs, v2, p2⟩ := k2.get eK I qy
    subst eP ew
    have hh : X.A.in1.handled = none := I.ok.hd hc
    have l1 : as.toArray.size = xs.length := by rw [List.size_toArray, ← v1.length]
    have l2 : bs.toArray.size = ys.length := by rw [List.size_toArray, ← v2.length]
    exact wpAny_pyNext_zipD2_end S (k1.draws _ hh i1 a na as.toArray) (k2.draws _ hh i2 b nb bs.toArray) hz t1 t2 ⟨r1, p1⟩ ⟨r2, p2⟩ (by omega) (by omega) (by omega) fun h' tk kp => ⟨rfl, I.turnedL (t' := tk) (ch := [z, TI, TO, i1, i2]) (fun c o hb q => by
      simp only [List.mem_cons, List.not_mem_nil, or_false, not_or] at hb
      obtain ⟨b1, b2, b3, b4, b5⟩ := hb
      exact kp c o b1 b3 b4 b5 q) hf⟩
  self := fun A n s Q E st h => wpAny_pyIter_zip st.1 h
end
def iZipM (P : Program) (w : World) (K : PySem.W.Frag) (ta : TA) : TI := fun σ H R => ta σ H fun vs H1 => ∃ (k1 k2 : ZK P w K) (a b : Addr) (xs ys : List V), vs = [.ref a, .ref b] ∧ k1.sq H1 a xs ∧ k2.sq H1 b ys ∧ R (ItzM k1 k2 a b) H1
theorem pi_zipM {X : Cx} {e e2 : Expr} {ta : TA} {p pos tpos : Pos} {elts : List Expr} {kk : Nat} (hg : Gl X "zip") (hm : X.mg "zip" = none) (ha : PA X [e, e2] ta)
    (hs : starEach [e, e2] X.env = (false, eval e X.env) :: starEach [e2] X.env := by rfl) (hpl : (backTo pos (starEach [e2] X.env)).any (·.1) = false := by rfl) :
    PI X (.Tuple elts kk tpos) (.Call (.Name "zip" p) [e, e2] [] pos) (iZipM X.prog X.w X.K ta) := by
  refine ⟨fun pins s σ H R I h => ?_⟩
  refine Call_ (ld_blt I hg hm PyProof.Rows.boot_zip (PyProof.Rows.callWith_type1 (thn (ha.run pos pins s σ H _ I h) fun us s1 ⟨vs, H1, I1, r1, q1⟩ => ?_) hs hpl))
  obtain ⟨k1, k2, a, b, xs, ys, rfl, qx, qy, q⟩ := q1
  cases r1 with
  | cons r rr =>
    cases rr with
    | cons r' rr =>
    cases rr
    cases r
    cases r'
    obtain ⟨as, v1, p1⟩ := k1.get rfl I1 qx
    obtain ⟨bs, v2, p2⟩ := k2.get rfl I1 qy
    refine zip_begins2 (k1.begins a as.toArray) (k2.begins b bs.toArray) p1 p2 fun h' hz t1 t2 g1 g2 sz kp => wpAny_pyIter_zip hz ?_
    have I2 : Inv X pins σ H1 { s1 with heap := h' } := I1.kept (t' := s1.toks) kp
    have la := k1.lt p1
    have lb := k2.lt p2
    have ha1 : ∀ c ∈ [a], c < s1.heap.objs.size := fun c hc => by
      have : c = a := by simpa using hc
      rw [this]
      exact la
    have hb1 : ∀ c ∈ [b], c < s1.heap.objs.size := fun c hc => by
      have : c = b := by simpa using hc
      rw [this]
      exact lb
    refine ⟨s1.heap.objs.size + 4, [s1.heap.objs.size + 4, s1.heap.objs.size + 2, s1.heap.objs.size + 3, s1.heap.objs.size, s1.heap.objs.size + 1], _, _, H1, rfl, I2,
      turn_zipM k1 k2 (zip_sep2 (fp1 := [a]) (fp2 := [b]) ha1 hb1) (Nat.ne_of_lt la) (fun z => by rw [z] at lb; exact Nat.lt_irrefl _ (Nat.lt_of_succ_lt lb)), ⟨hz, t1, ⟨_, _, t2⟩, k1.first g1, k2.first g2⟩, fun c hcm => ?_, q⟩
    have hle : s1.heap.objs.size ≤ c := by
      simp only [List.mem_cons, List.not_mem_nil, or_false] at hcm
      rcases hcm with rfl | rfl | rfl | rfl | rfl
      · exact Nat.le_add_right _ _
      · exact Nat.le_add_right _ _
      · exact Nat.le_add_right _ _
      · exact Nat.le_refl _
      · exact Nat.le_add_right _ _
    exact I1.fpOk hle (I1.hok.fresh hle)
section
variable {G : Gx} {H0 : Hp} {P : Program} {w : World}
/-- a sequence of data, a list or a tuple -/
structure ZD (G : Gx) (H0 : Hp) (k : ZK P w G.K) (a : Addr) (us : List V) : Prop where
  up : ∀ H, Same H0 H → k.sq H a us
theorem itOk_zipM {k1 k2 : ZK P w G.K} {a b : Addr} {vs ws : List V} {ds es : List D} (h : ZD G H0 k1 a vs) (dd : Dens G H0 ds vs) (h' : ZD G H0 k2 b ws) (ee : Dens G H0 es ws) : ItOk G H0 (ItzM k1 k2 a b) (zipD ds es) where
  go := fun i H hi s => by
    rw [zipD_length, dd.length, ee.length] at hi
    exact ⟨vs, ws, vs[i]'(by omega), ws[i]'(by omega), h.up _ s, h'.up _ s, by simp, by simp⟩
  stop := fun H s => ⟨vs, ws, h.up _ s, h'.up _ s, by rw [zipD_length, dd.length, ee.length]⟩
  yld := fun i H1 H x H' d s st e ⟨T, x', y', e1, hT, e2, y1, y2⟩ => by
    obtain ⟨d1, d2, q1, q2, q3⟩ := zipD_get e
    obtain ⟨v, h1, h2⟩ := dd.get q1
    obtain ⟨w, j1, j2⟩ := ee.get q2
    have h3 := y1 vs (h.up _ (s.trans st.z))
    have j3 := y2 ws (h'.up _ (s.trans st.z))
    rw [h1] at h3
    rw [j1] at j3
    cases h3
    cases j3
    rw [e1, q3]
    exact pair_new st hT e2 (h2.same s) (j2.same s)
end
/-- the items of a list or tuple -/
def itms : D → Option (List D)
  | .lst xs => some xs
  | .tup xs => some xs
  | _ => none
theorem den_seq {G : Gx} {H0 H1 : Hp} {P : Program} {w : World} {d : D} {xs : List D} {v : V} (hd : itms d = some xs) (dd : Den G H0 d v) : ∃ (k : ZK P w G.K) (a : Addr) (us : List V), v = .ref a ∧ ZD G H0 k a us ∧ Dens G H0 xs us := by
  cases d <;> first | (cases hd; done) | skip
  · cases hd
    obtain ⟨a, us, e, s, q⟩ := den_tup dd
    exact ⟨zkT P w G.K, a, us, e, ⟨fun H z => SqT.same z s⟩, q⟩
  · cases hd
    obtain ⟨a, us, e, s, q⟩ := den_lst dd
    exact ⟨zkL P w G.K, a, us, e, ⟨fun H z => .of (z _ _ s)⟩, q⟩
def zip2S : List D → W (List D) := fun ds => match ds with
  | [x, y] => bnd (optW (itms x)) fun xs => bnd (optW (itms y)) fun ys => ret (zipD xs ys)
  | _ => stk
def zip2O : List D → O (List D) := fun ds => match ds with
  | [x, y] => ob (oo (itms x)) fun xs => ob (oo (itms y)) fun ys => .ok (zipD xs ys)
  | _ => .st
theorem w_zip2 (ds : List D) : (zip2O ds).w = zip2S ds := by
  rcases ds with _ | ⟨d, _ | ⟨e, _ | ⟨f, r⟩⟩⟩
  · rfl
  · rfl
  · simp only [zip2O, zip2S, w_ob, w_oo, w_ok]
  · rfl
section
variable {X : Cx} {B : Bx} {e e2 : Expr} {p pos : Pos}
theorem di_zip2 {w : DL.Env → W (List D)} {elts : List Expr} {kk : Nat} {tpos : Pos} (hK : X.K = B.G.K) (hg : Gl X "zip") (hm : X.mg "zip" = none) (ha : DA X B 2 [e, e2] w)
    (hs : starEach [e, e2] X.env = (false, eval e X.env) :: starEach [e2] X.env := by rfl) (hpl : (backTo pos (starEach [e2] X.env)).any (·.1) = false := by rfl) :
    DI X B (.Tuple elts kk tpos) (.Call (.Name "zip" p) [e, e2] [] pos) (fun ρ => bnd (w ρ) zip2S) := by
  refine PI.imp (pi_zipM hg hm ha hs hpl) fun σ H R ⟨ρ, H0, QL, k, q, h⟩ => ⟨ρ, H0, _, k, q, fun ds vs H1 H2 x dd l q1 => ?_⟩
  match ds, q1 with
  | [u, v], q1 =>
    obtain ⟨xs, e1, q1⟩ := optW_of q1
    obtain ⟨ys, e2, q1⟩ := optW_of q1
    obtain ⟨v1, v2, e, d1, d2⟩ := dens2 dd
    rw [hK]
    obtain ⟨k1, a, us, r1, z1, m1⟩ := den_seq (H1 := H1) (P := X.prog) (w := X.w) e1 d1
    obtain ⟨k2, b, ws, r2, z2, m2⟩ := den_seq (H1 := H1) (P := X.prog) (w := X.w) e2 d2
    exact ⟨k1, k2, a, b, us, ws, by rw [e, r1, r2], z1.up _ x.zz, z2.up _ x.zz, h _ _ H1 H2 x (itOk_zipM z1 m1 z2 m2) q1⟩
end
theorem zip2_ll (xs ys : List D) : zip2O [.lst xs, .lst ys] = .ok (zipD xs ys) := rfl
theorem zip2_tt (xs ys : List D) : zip2O [.tup xs, .tup ys] = .ok (zipD xs ys) := rfl
theorem zip2_lt (xs ys : List D) : zip2O [.lst xs, .tup ys] = .ok (zipD xs ys) := rfl
theorem zip2_tl (xs ys : List D) : zip2O [.tup xs, .lst ys] = .ok (zipD xs ys) := rfl
end DL
end
section
set_option Elab.async false
set_option linter.all false
set_option maxRecDepth 100000
set_option maxHeartbeats 2000000
set_option autoImplicit false
namespace K09
open PySem PySem.Spec L2 DL
def flds : Nat → List Str
  | 0 => ["many", "numbers"]
  | _ => []
abbrev iT (ns : List Int) : D := .tup (ns.map D.int)
abbrev iL (ns : List Int) : D := .lst (ns.map D.int)
abbrev tb (m : Nat) (ns : List Int) : D := .ins 0 [.int m, iT ns]
def powers : List Int := [1, 2, 4, 8, 16, 32, 64, 128]
abbrev c_POWERS : D := iT powers
def TblB (m : Int) (ns : List Int) : Bool := decide (1 ≤ m) && (decide (m ≤ 7) && (decide (ns.length = 2 ^ m.toNat) && decide (ns[0]? = some 0)))
def mkP_Table : List D → O D
  | [.int m, .tup xs] => ob (oo (intsD xs)) fun ns => og (TblB m ns = true) (.ok (.ins 0 [.int m, .tup xs]))
  | _ => .st
abbrev mk_Table : List D → W D := fun ds => (mkP_Table ds).w
def xfs : Nat → Option Str := fun _ => none
end K09
end
section
set_option Elab.async false
set_option linter.all false
set_option maxRecDepth 100000
set_option maxHeartbeats 4000000
set_option autoImplicit false
namespace K09
open PySem PySem.Spec L2 DL

def xisT : Nat → Nat → Bool
  | 0, 0 => true
  | 0, 1 => true
  | _, _ => false
def O_is_integer : DL.Env → O Out := fun (ρ : DL.Env) => ob (ob (ob (ob (rdO ρ 0) fun d => oo ((isiF flds (.ty "int") d).map D.bl)) asBO) fun k => if k = true then ob (ob (ob (rdO ρ 0) fun d => oo ((isiF flds (.ty "bool") d).map D.bl)) asBO) fun k => O.ok (.bl (!k)) else O.ok (.bl false)) fun d => O.ok (.rt d ρ)
def P_is_integer (ds : List D) : O D := endO (O_is_integer (env0 1 ds))
abbrev s_is_integer : List D → W D := fun ds => (P_is_integer ds).w
def O_is_between : DL.Env → O Out := fun (ρ : DL.Env) => ob (ob (ob (ob (ob (rdO ρ 0) fun x => ob (O.ok []) fun xs => O.ok (x :: xs)) P_is_integer) asBO) fun k => if k = true then ob (rdO ρ 1) fun x => ob (rdO ρ 0) fun y => ob (ob (leO x y) asBO) fun k => if k = true then ob (rdO ρ 2) fun z => leO y z else O.ok (.bl false) else O.ok (.bl false)) fun d => O.ok (.rt d ρ)
def P_is_between (ds : List D) : O D := endO (O_is_between (env0 3 ds))
abbrev s_is_between : List D → W D := fun ds => (P_is_between ds).w
def C_mask_of_1 : DL.Env → D → O (Option D) := fun (ρ : DL.Env) => lcFO [1] (fun (d : D) (ρ : DL.Env) => O.ok (ρ.set 1 (.d d))) (fun (ρ : DL.Env) => O.ok true) (fun (ρ : DL.Env) => ob (O.ok c_POWERS) fun x => ob (rdO ρ 1) fun y => ixO x y) ρ
def O_mask_of : DL.Env → O Out := fun (ρ : DL.Env) => ob (ob (ob (ob (ob (ob (rdO ρ 0) seqDO) fun xs => og (xs.length ≤ sizeLine) (ono (lcO (C_mask_of_1 ρ) xs))) fun ds => O.ok (.lst ds)) fun x => ob (O.ok []) fun xs => O.ok (x :: xs)) sumO) fun d => O.ok (.rt d ρ)
def P_mask_of (ds : List D) : O D := endO (O_mask_of (env0 2 ds))
abbrev s_mask_of : List D → W D := fun ds => (P_mask_of ds).w
def O_Table_eq : DL.Env → O Out := fun (ρ : DL.Env) => seqO (ob (notO (ob (ob (rdO ρ 1) fun d => oo ((isiF flds (.own 0) d).map D.bl)) truO)) fun t => if t = true then ob (O.ok (.bl false)) fun d => O.ok (.rt d ρ) else O.ok (.nx ρ)) fun (ρ : DL.Env) => ob (ob (ob (ob (ob (rdO ρ 0) fun x => fldO flds "many" x) fun x => ob (ob (rdO ρ 1) fun x => fldO flds "many" x) fun y => eqO eqO0 false x y) asBO) fun k => if k = true then ob (ob (rdO ρ 0) fun x => fldO flds "numbers" x) fun x => ob (ob (rdO ρ 1) fun x => fldO flds "numbers" x) fun y => eqO eqO0 false x y else O.ok (.bl false)) fun d => O.ok (.rt d ρ)
def P_Table_eq (ds : List D) : O D := endO (O_Table_eq (env0 2 ds))
abbrev s_Table_eq : List D → W D := fun ds => (P_Table_eq ds).w
def eqP : Nat → List D → O D
  | 0, ds => P_Table_eq ds
  | _, _ => .st
def eqS : Nat → List D → W D := fun c ds => (eqP c ds).w
theorem eqS_no {c : Nat} {ds : List D} {Q : D → Prop} {E : DX → Prop} (h : eqS (c + 1) ds Q E) : False := h
def C_lot_of_1 : DL.Env → D → O (Option D) := fun (ρ : DL.Env) => lcFO [1] (fun (d : D) (ρ : DL.Env) => O.ok (ρ.set 1 (.d d))) (fun (ρ : DL.Env) => ob (ob (ob (ob (rdO ρ 0) fun x => ob (ob (O.ok c_POWERS) fun x => ob (rdO ρ 1) fun y => ixO x y) fun y => divO x y) fun x => ob (O.ok (.int 2)) fun y => modO x y) fun x => ob (O.ok (.int 1)) fun y => eqO eqP false x y) asBO) (fun (ρ : DL.Env) => rdO ρ 1) ρ
def O_lot_of : DL.Env → O Out := fun (ρ : DL.Env) => ob (ob (ob (ob (ob (ob (ob (O.ok (.int 7)) fun x => ob (O.ok []) fun xs => O.ok (x :: xs)) rng1O) fun xs => og (xs.length ≤ sizeLine) (ono (lcO (C_lot_of_1 ρ) xs))) fun ds => O.ok (.lst ds)) fun x => ob (O.ok []) fun xs => O.ok (x :: xs)) tupleO) fun d => O.ok (.rt d ρ)
def P_lot_of (ds : List D) : O D := endO (O_lot_of (env0 2 ds))
abbrev s_lot_of : List D → W D := fun ds => (P_lot_of ds).w
def O_check_table : DL.Env → O Out := fun (ρ : DL.Env) => ob (notO (ob (ob (rdO ρ 0) fun d => oo ((isiF flds (.own 0) d).map D.bl)) truO)) fun t => if t = true then O.ex ⟨0, []⟩ else O.ok (.nx ρ)
def P_check_table (ds : List D) : O D := endO (O_check_table (env0 1 ds))
abbrev s_check_table : List D → W D := fun ds => (P_check_table ds).w
def C_least_masks_1 : DL.Env → D → O (Option D) := fun (ρ : DL.Env) => lcFO [2, 3] (tupO 2 (consO (fun (d : D) (ρ : DL.Env) => O.ok (ρ.set 2 (.d d))) (consO (fun (d : D) (ρ : DL.Env) => O.ok (ρ.set 3 (.d d))) nilO))) (fun (ρ : DL.Env) => ob (ob (rdO ρ 3) fun x => ob (rdO ρ 1) fun y => eqO eqP false x y) asBO) (fun (ρ : DL.Env) => rdO ρ 2) ρ
def O_least_masks : DL.Env → O Out := fun (ρ : DL.Env) => seqO (ob (ob (ob (rdO ρ 0) fun x => ob (O.ok []) fun xs => O.ok (x :: xs)) minUO) fun d => O.ok (.nx (ρ.set 1 (.d d)))) fun (ρ : DL.Env) => ob (ob (ob (ob (ob (rdO ρ 0) fun x => ob (O.ok []) fun xs => O.ok (x :: xs)) enumO) fun xs => og (xs.length ≤ sizeLine) (ono (lcO (C_least_masks_1 ρ) xs))) fun ds => O.ok (.lst ds)) fun d => O.ok (.rt d ρ)
def P_least_masks (ds : List D) : O D := endO (O_least_masks (env0 4 ds))
abbrev s_least_masks : List D → W D := fun ds => (P_least_masks ds).w
def C_least_lots_1 : DL.Env → D → O (Option D) := fun (ρ : DL.Env) => lcFO [1] (fun (d : D) (ρ : DL.Env) => O.ok (ρ.set 1 (.d d))) (fun (ρ : DL.Env) => O.ok true) (fun (ρ : DL.Env) => ob (ob (rdO ρ 1) fun x => ob (O.ok []) fun xs => O.ok (x :: xs)) P_lot_of) ρ
def O_least_lots : DL.Env → O Out := fun (ρ : DL.Env) => seqO (ob (ob (ob (rdO ρ 0) fun x => ob (O.ok []) fun xs => O.ok (x :: xs)) P_check_table) fun _ => O.ok (.nx ρ)) fun (ρ : DL.Env) => ob (ob (ob (ob (ob (ob (rdO ρ 0) fun x => fldO flds "numbers" x) fun x => ob (O.ok []) fun xs => O.ok (x :: xs)) minUO) fun x => ob (ob (ob (ob (ob (ob (ob (ob (ob (ob (rdO ρ 0) fun x => fldO flds "numbers" x) fun x => ob (O.ok []) fun xs => O.ok (x :: xs)) P_least_masks) seqDO) fun xs => og (xs.length ≤ sizeLine) (ono (lcO (C_least_lots_1 ρ) xs))) fun ds => O.ok (.lst ds)) fun x => ob (O.ok []) fun xs => O.ok (x :: xs)) tupleO) fun x => ob (O.ok []) fun xs => O.ok (x :: xs)) fun xs => O.ok (x :: xs)) fun xs => O.ok (.tup xs)) fun d => O.ok (.rt d ρ)
def P_least_lots (ds : List D) : O D := endO (O_least_lots (env0 2 ds))
abbrev s_least_lots : List D → W D := fun ds => (P_least_lots ds).w
def O__law_is (P__law_is : List D → O D) : DL.Env → O Out := fun (ρ : DL.Env) => seqO (ob (orO' (ob (ob (rdO ρ 1) fun x => ob (O.ok .non) fun y => isO x y) asBO) (ob (ob (rdO ρ 0) fun x => ob (O.ok .non) fun y => isO x y) asBO)) fun t => if t = true then ob (ob (ob (ob (rdO ρ 1) fun x => ob (O.ok .non) fun y => isO x y) asBO) fun k => if k = true then ob (rdO ρ 0) fun x => ob (O.ok .non) fun y => isO x y else O.ok (.bl false)) fun d => O.ok (.rt d ρ) else O.ok (.nx ρ)) fun (ρ : DL.Env) => seqO (ob (ob (ob (rdO ρ 1) fun d => oo ((isiAF flds [.ty "tuple", .ty "list"] d).map D.bl)) truO) fun t => if t = true then seqO (ob (ob (ob (ob (rdO ρ 0) fun d => oo ((isiF flds (.ty "tuple") d).map D.bl)) fun x => ob (ob (rdO ρ 1) fun d => oo ((isiF flds (.ty "tuple") d).map D.bl)) fun y => eqO eqP true x y) asBO) fun t => if t = true then ob (O.ok (.bl false)) fun d => O.ok (.rt d ρ) else O.ok (.nx ρ)) fun (ρ : DL.Env) => seqO (ob (ob (ob (ob (rdO ρ 0) fun d => oo ((isiF flds (.ty "list") d).map D.bl)) fun x => ob (ob (rdO ρ 1) fun d => oo ((isiF flds (.ty "list") d).map D.bl)) fun y => eqO eqP true x y) asBO) fun t => if t = true then ob (O.ok (.bl false)) fun d => O.ok (.rt d ρ) else O.ok (.nx ρ)) fun (ρ : DL.Env) => ob (ob (ob (ob (ob (ob (rdO ρ 0) fun x => ob (O.ok []) fun xs => O.ok (x :: xs)) lenO) fun x => ob (ob (ob (rdO ρ 1) fun x => ob (O.ok []) fun xs => O.ok (x :: xs)) lenO) fun y => eqO eqP false x y) asBO) fun k => if k = true then ob (ob (ob (ob (ob (ob (rdO ρ 0) fun x => ob (ob (rdO ρ 1) fun x => ob (O.ok []) fun xs => O.ok (x :: xs)) fun xs => O.ok (x :: xs)) zip2O) fun xs => og (xs.length ≤ sizeLine) (ono (lcO (lcFO [2, 3] (tupO 2 (consO (fun (d : D) (ρ : DL.Env) => O.ok (ρ.set 2 (.d d))) (consO (fun (d : D) (ρ : DL.Env) => O.ok (ρ.set 3 (.d d))) nilO))) (fun (ρ : DL.Env) => O.ok true) (fun (ρ : DL.Env) => ob (ob (rdO ρ 2) fun x => ob (ob (rdO ρ 3) fun x => ob (O.ok []) fun xs => O.ok (x :: xs)) fun xs => O.ok (x :: xs)) P__law_is) ρ) xs))) fun ds => O.ok (.lst ds)) fun x => ob (O.ok []) fun xs => O.ok (x :: xs)) allO else O.ok (.bl false)) fun d => O.ok (.rt d ρ) else O.ok (.nx ρ)) fun (ρ : DL.Env) => seqO (ob (orO' (ob (ob (ob (rdO ρ 0) fun d => oo ((isiF flds (.ty "bool") d).map D.bl)) fun x => ob (ob (rdO ρ 1) fun d => oo ((isiF flds (.ty "bool") d).map D.bl)) fun y => eqO eqP true x y) asBO) (ob (ob (ob (rdO ρ 0) fun d => oo ((isiF flds (.ty "int") d).map D.bl)) fun x => ob (ob (rdO ρ 1) fun d => oo ((isiF flds (.ty "int") d).map D.bl)) fun y => eqO eqP true x y) asBO)) fun t => if t = true then ob (O.ok (.bl false)) fun d => O.ok (.rt d ρ) else O.ok (.nx ρ)) fun (ρ : DL.Env) => ob (ob (ob (ob (ob (rdO ρ 0) fun d => oo ((isiF flds (.ty "str") d).map D.bl)) fun x => ob (ob (rdO ρ 1) fun d => oo ((isiF flds (.ty "str") d).map D.bl)) fun y => eqO eqP false x y) asBO) fun k => if k = true then ob (rdO ρ 0) fun x => ob (rdO ρ 1) fun y => eqO eqP false x y else O.ok (.bl false)) fun d => O.ok (.rt d ρ)
def P__law_is_n : Nat → List D → O D
  | 0, _ => .st
  | n + 1, ds => endO (O__law_is (P__law_is_n n) (env0 4 ds))
def s__law_is_n (n : Nat) : List D → W D := fun ds => (P__law_is_n n ds).w
theorem s__law_is_0 {ds : List D} {Q : D → Prop} {E : DX → Prop} (h : s__law_is_n 0 ds Q E) : stk (α := D) Q E := h
abbrev P__law_is : List D → O D := P__law_is_n 6
abbrev s__law_is : List D → W D := s__law_is_n 6
def C__law_lots_1 : DL.Env → D → O (Option D) := fun (ρ : DL.Env) => lcFO [3] (fun (d : D) (ρ : DL.Env) => O.ok (ρ.set 3 (.d d))) (fun (ρ : DL.Env) => O.ok true) (fun (ρ : DL.Env) => ob (rdO ρ 3) fun x => ob (ob (ob (rdO ρ 2) fun x => ob (O.ok []) fun xs => O.ok (x :: xs)) fun xs => O.ok (.tup xs)) fun y => addO x y) ρ
def L__law_lots_1 : D → DL.Env → O Out := fun x ρ => ob (ono ((fun (d : D) (ρ : DL.Env) => O.ok (ρ.set 2 (.d d))) x ρ)) fun (ρ : DL.Env) => ob (ob (rdO ρ 1) fun x => ob (ob (ob (ob (rdO ρ 1) seqDO) fun xs => og (xs.length ≤ sizeLine) (ono (lcO (C__law_lots_1 ρ) xs))) fun ds => O.ok (.lst ds)) fun y => addO x y) fun d => O.ok (.nx (ρ.set 1 (.d d)))
def O__law_lots : DL.Env → O Out := fun (ρ : DL.Env) => seqO (ob (ob (ob (ob (O.ok []) fun xs => O.ok (.tup xs)) fun x => ob (O.ok []) fun xs => O.ok (x :: xs)) fun xs => O.ok (.lst xs)) fun d => O.ok (.nx (ρ.set 1 (.d d)))) fun (ρ : DL.Env) => seqO (ob (ob (ob (rdO ρ 0) fun x => ob (O.ok []) fun xs => O.ok (x :: xs)) rng1O) fun xs => forO L__law_lots_1 xs ρ) fun (ρ : DL.Env) => ob (rdO ρ 1) fun d => O.ok (.rt d ρ)
def P__law_lots (ds : List D) : O D := endO (O__law_lots (env0 4 ds))
abbrev s__law_lots : List D → W D := fun ds => (P__law_lots ds).w
def O__law_bit : DL.Env → O Out := fun (ρ : DL.Env) => ob (ob (ob (ob (O.ok (.int 1)) fun x => ob (ob (O.ok (.int 2)) fun x => ob (ob (O.ok (.int 4)) fun x => ob (ob (O.ok (.int 8)) fun x => ob (ob (O.ok (.int 16)) fun x => ob (ob (O.ok (.int 32)) fun x => ob (ob (O.ok (.int 64)) fun x => ob (O.ok []) fun xs => O.ok (x :: xs)) fun xs => O.ok (x :: xs)) fun xs => O.ok (x :: xs)) fun xs => O.ok (x :: xs)) fun xs => O.ok (x :: xs)) fun xs => O.ok (x :: xs)) fun xs => O.ok (x :: xs)) fun xs => O.ok (.lst xs)) fun x => ob (rdO ρ 0) fun y => ixO x y) fun d => O.ok (.rt d ρ)
def P__law_bit (ds : List D) : O D := endO (O__law_bit (env0 1 ds))
abbrev s__law_bit : List D → W D := fun ds => (P__law_bit ds).w
def C__law_place_1 : DL.Env → D → O (Option D) := fun (ρ : DL.Env) => lcFO [1] (fun (d : D) (ρ : DL.Env) => O.ok (ρ.set 1 (.d d))) (fun (ρ : DL.Env) => O.ok true) (fun (ρ : DL.Env) => ob (ob (rdO ρ 1) fun x => ob (O.ok []) fun xs => O.ok (x :: xs)) P__law_bit) ρ
def O__law_place : DL.Env → O Out := fun (ρ : DL.Env) => ob (ob (ob (ob (ob (ob (rdO ρ 0) seqDO) fun xs => og (xs.length ≤ sizeLine) (ono (lcO (C__law_place_1 ρ) xs))) fun ds => O.ok (.lst ds)) fun x => ob (O.ok []) fun xs => O.ok (x :: xs)) sumO) fun d => O.ok (.rt d ρ)
def P__law_place (ds : List D) : O D := endO (O__law_place (env0 2 ds))
abbrev s__law_place : List D → W D := fun ds => (P__law_place ds).w
def C__law_is_hollow_1 : DL.Env → D → O (Option D) := fun (ρ : DL.Env) => lcFO [3] (fun (d : D) (ρ : DL.Env) => O.ok (ρ.set 3 (.d d))) (fun (ρ : DL.Env) => ob (ob (rdO ρ 3) fun x => ob (rdO ρ 2) fun y => inO true x y) asBO) (fun (ρ : DL.Env) => rdO ρ 3) ρ
def C__law_is_hollow_2 : DL.Env → D → O (Option D) := fun (ρ : DL.Env) => lcFO [4] (fun (d : D) (ρ : DL.Env) => O.ok (ρ.set 4 (.d d))) (fun (ρ : DL.Env) => ob (ob (rdO ρ 4) fun x => ob (rdO ρ 2) fun y => inO true x y) asBO) (fun (ρ : DL.Env) => rdO ρ 4) ρ
def L__law_is_hollow_3 : D → DL.Env → O Out := fun x ρ => ob (ono ((fun (d : D) (ρ : DL.Env) => O.ok (ρ.set 4 (.d d))) x ρ)) fun (ρ : DL.Env) => seqO (ob (ob (ob (ob (rdO ρ 2) fun x => ob (O.ok []) fun xs => O.ok (x :: xs)) P__law_place) fun x => ob (ob (ob (ob (rdO ρ 3) fun x => ob (O.ok []) fun xs => O.ok (x :: xs)) P__law_bit) fun x => ob (ob (ob (ob (rdO ρ 4) fun x => ob (O.ok []) fun xs => O.ok (x :: xs)) P__law_bit) fun x => ob (O.ok []) fun xs => O.ok (x :: xs)) fun xs => O.ok (x :: xs)) fun xs => O.ok (x :: xs)) fun ds => par3O 5 6 7 ρ ds) fun (ρ : DL.Env) => seqO (ob (ob (ob (rdO ρ 5) fun x => ob (rdO ρ 6) fun y => addO x y) fun x => ob (rdO ρ 7) fun y => addO x y) fun d => O.ok (.nx (ρ.set 8 (.d d)))) fun (ρ : DL.Env) => seqO (ob (ob (ob (rdO ρ 1) fun x => ob (rdO ρ 8) fun y => ixO x y) fun x => ob (ob (rdO ρ 1) fun x => ob (ob (rdO ρ 5) fun x => ob (rdO ρ 7) fun y => addO x y) fun y => ixO x y) fun y => subO x y) fun d => O.ok (.nx (ρ.set 9 (.d d)))) fun (ρ : DL.Env) => ob (ob (ob (rdO ρ 9) fun x => ob (ob (ob (rdO ρ 1) fun x => ob (ob (rdO ρ 5) fun x => ob (rdO ρ 6) fun y => addO x y) fun y => ixO x y) fun x => ob (ob (rdO ρ 1) fun x => ob (rdO ρ 5) fun y => ixO x y) fun y => subO x y) fun y => gtO x y) asBO) fun t => if t = true then ob (O.ok (.bl false)) fun d => O.ok (.rt d ρ) else O.ok (.nx ρ)
def L__law_is_hollow_2 : D → DL.Env → O Out := fun x ρ => ob (ono ((fun (d : D) (ρ : DL.Env) => O.ok (ρ.set 3 (.d d))) x ρ)) fun (ρ : DL.Env) => ob (ob (ob (ob (ob (ob (rdO ρ 3) fun x => ob (O.ok []) fun xs => O.ok (x :: xs)) rng1O) fun xs => og (xs.length ≤ sizeLine) (ono (lcO (C__law_is_hollow_2 ρ) xs))) fun ds => O.ok (.lst ds)) seqDO) fun xs => forO L__law_is_hollow_3 xs ρ
def L__law_is_hollow_1 : D → DL.Env → O Out := fun x ρ => ob (ono ((fun (d : D) (ρ : DL.Env) => O.ok (ρ.set 2 (.d d))) x ρ)) fun (ρ : DL.Env) => ob (ob (ob (ob (ob (ob (rdO ρ 0) fun x => ob (O.ok []) fun xs => O.ok (x :: xs)) rng1O) fun xs => og (xs.length ≤ sizeLine) (ono (lcO (C__law_is_hollow_1 ρ) xs))) fun ds => O.ok (.lst ds)) seqDO) fun xs => forO L__law_is_hollow_2 xs ρ
def O__law_is_hollow : DL.Env → O Out := fun (ρ : DL.Env) => seqO (ob (ob (ob (ob (rdO ρ 0) fun x => ob (O.ok []) fun xs => O.ok (x :: xs)) P__law_lots) seqDO) fun xs => forO L__law_is_hollow_1 xs ρ) fun (ρ : DL.Env) => ob (O.ok (.bl true)) fun d => O.ok (.rt d ρ)
def P__law_is_hollow (ds : List D) : O D := endO (O__law_is_hollow (env0 10 ds))
abbrev s__law_is_hollow : List D → W D := fun ds => (P__law_is_hollow ds).w
def C__law_lattice_right_1 : DL.Env → D → O (Option D) := fun (ρ : DL.Env) => lcFO [4] (fun (d : D) (ρ : DL.Env) => O.ok (ρ.set 4 (.d d))) (fun (ρ : DL.Env) => ob (ob (rdO ρ 4) fun x => ob (rdO ρ 2) fun y => inO false x y) asBO) (fun (ρ : DL.Env) => rdO ρ 4) ρ
def L__law_lattice_right_2 : D → DL.Env → O Out := fun x ρ => ob (ono ((fun (d : D) (ρ : DL.Env) => O.ok (ρ.set 2 (.d d))) x ρ)) fun (ρ : DL.Env) => seqO (ob (ob (ob (ob (ob (rdO ρ 1) fun x => ob (rdO ρ 2) fun y => addO x y) sortSetO) fun x => ob (O.ok []) fun xs => O.ok (x :: xs)) tupleO) fun d => O.ok (.nx (ρ.set 3 (.d d)))) fun (ρ : DL.Env) => ob (orO' (ob (ob (rdO ρ 3) fun x => ob (rdO ρ 0) fun y => inO true x y) asBO) (ob (ob (ob (ob (ob (ob (ob (rdO ρ 1) seqDO) fun xs => og (xs.length ≤ sizeLine) (ono (lcO (C__law_lattice_right_1 ρ) xs))) fun ds => O.ok (.lst ds)) fun x => ob (O.ok []) fun xs => O.ok (x :: xs)) tupleO) fun x => ob (rdO ρ 0) fun y => inO true x y) asBO)) fun t => if t = true then ob (O.ok (.bl false)) fun d => O.ok (.rt d ρ) else O.ok (.nx ρ)
def L__law_lattice_right_1 : D → DL.Env → O Out := fun x ρ => ob (ono ((fun (d : D) (ρ : DL.Env) => O.ok (ρ.set 1 (.d d))) x ρ)) fun (ρ : DL.Env) => ob (ob (rdO ρ 0) seqDO) fun xs => forO L__law_lattice_right_2 xs ρ
def O__law_lattice_right : DL.Env → O Out := fun (ρ : DL.Env) => seqO (ob (ob (rdO ρ 0) seqDO) fun xs => forO L__law_lattice_right_1 xs ρ) fun (ρ : DL.Env) => ob (O.ok (.bl true)) fun d => O.ok (.rt d ρ)
def P__law_lattice_right (ds : List D) : O D := endO (O__law_lattice_right (env0 5 ds))
abbrev s__law_lattice_right : List D → W D := fun ds => (P__law_lattice_right ds).w
def C__law_called_1 : DL.Env → D → O (Option D) := fun (ρ : DL.Env) => lcFO [6] (fun (d : D) (ρ : DL.Env) => O.ok (ρ.set 6 (.d d))) (fun (ρ : DL.Env) => O.ok true) (fun (ρ : DL.Env) => ob (rdO ρ 2) fun x => ob (rdO ρ 6) fun y => ixO x y) ρ
def L__law_called_1 : D → DL.Env → O Out := fun x ρ => ob (ono ((tupO 2 (consO (fun (d : D) (ρ : DL.Env) => O.ok (ρ.set 4 (.d d))) (consO (fun (d : D) (ρ : DL.Env) => O.ok (ρ.set 5 (.d d))) nilO))) x ρ)) fun (ρ : DL.Env) => ob (rdO ρ 5) fun d => ob (ownLO 3 ρ) fun z => ob (ob (ob (ob (ob (ob (rdO ρ 4) seqDO) fun xs => og (xs.length ≤ sizeLine) (ono (lcO (C__law_called_1 ρ) xs))) fun ds => O.ok (.lst ds)) fun x => ob (O.ok []) fun xs => O.ok (x :: xs)) P__law_place) fun k => setO 3 ρ z d k
def O__law_called : DL.Env → O Out := fun (ρ : DL.Env) => seqO (ob (ob (ob (ob (O.ok (.int 0)) fun x => ob (O.ok []) fun xs => O.ok (x :: xs)) fun xs => O.ok (.lst xs)) fun x => ob (ob (ob (rdO ρ 1) fun x => ob (O.ok []) fun xs => O.ok (x :: xs)) lenO) fun y => repO x y) fun ds => O.ok (.nx (ρ.set 3 (.own (.lst none ds))))) fun (ρ : DL.Env) => seqO (ob (ob (ob (ob (ob (rdO ρ 0) fun x => ob (O.ok []) fun xs => O.ok (x :: xs)) P__law_lots) fun x => ob (ob (rdO ρ 1) fun x => ob (O.ok []) fun xs => O.ok (x :: xs)) fun xs => O.ok (x :: xs)) zip2O) fun xs => forO L__law_called_1 xs ρ) fun (ρ : DL.Env) => ob (frzO 3 ρ) fun (ρ : DL.Env) => ob (ob (ob (rdO ρ 3) fun x => ob (O.ok []) fun xs => O.ok (x :: xs)) tupleO) fun d => O.ok (.rt d ρ)
def P__law_called (ds : List D) : O D := endO (O__law_called (env0 7 ds))
abbrev s__law_called : List D → W D := fun ds => (P__law_called ds).w
end K09
end
section
set_option Elab.async false
set_option linter.all false
set_option maxRecDepth 100000
set_option maxHeartbeats 2000000
set_option autoImplicit false
namespace K09
open PySem PySem.Spec L2 DL
def cloW : Nat → List D → List D → W D
  | 0, [d], [] => s_least_lots [d]
  | _, _, _ => stk
theorem cloW_no {j : Nat} {cs ds : List D} {Q : D → Prop} {E : DX → Prop} (h : cloW (j + 1) cs ds Q E) : False := by
  simp [cloW, stk] at h
structure GS (G : Gx) : Prop where
  flds : G.flds = flds
  clo : G.cloW = cloW
  nps : ∀ j, j < 1 → (G.lam j).ps.length = (fun _ => 0) j
  xf : G.xfld = xfs
/-- values of k things: 0 for no thing, each at most b -/
structure VO (b : Nat) (k : Nat) (ns : List Int) : Prop where
  len : ns.length = 2 ^ k
  z : ns[0]? = some 0
  bd : ∀ x ∈ ns, x.natAbs ≤ b
def s__law_hand : List D → W D
  | [.scr ns] => grd (ns.length ≤ 1000) (ret .hnd)
  | _ => stk
abbrev s__law_draw : List D → W D := drawS
def s__law_any : List D → W D
  | [.hnd, .lst xs] => fun Q _ => 0 < xs.length ∧ xs.length < 1000 ∧ ∀ x ∈ xs, Q x
  | _ => stk
def s__law_mixed : List D → W D
  | [.hnd, .lst xs] => fun Q _ => xs.length ≤ 100 ∧ ∀ ys : List D, ys.Perm xs → Q (.lst ys)
  | _ => stk
/-- any values of k things, at most b -/
def anyV (b : Nat) : List D → W D
  | [.hnd, .int m] => fun Q _ => ∃ k : Nat, m = k ∧ 1 ≤ k ∧ k ≤ 6 ∧ ∀ ns : List Int, VO b k ns → Q (iT ns)
  | _ => stk
abbrev s__law_hollow_values : List D → W D := anyV 10000
abbrev s__law_values : List D → W D := anyV 20000
def s__law_word : List D → W D
  | [.clo j cs] => fun Q _ => noClos cs = true ∧ cloW j cs [] (fun _ => False) (fun x => x.c = 0 ∧ x.fs = []) ∧ Q (.str "NoTable")
  | _ => stk
def s__law_case_right : List D → W D
  | [.hnd, .int m, .tup xs] => fun Q _ => ∃ (k : Nat) (ns : List Int), m = k ∧ xs = ns.map D.int ∧ 1 ≤ k ∧ k ≤ 6 ∧ VO 20000 k ns ∧ Q (.bl true)
  | _ => stk
def s_law : List D → W D
  | [.scr ns] => grd (ns.length ≤ 63) (ret (.bl true))
  | _ => stk
theorem law_fin (ns : List Int) (hl : ns.length ≤ 63) : s_law [.scr ns] (fun d => d = .bl true) (fun _ => False) := ⟨hl, rfl⟩
end K09
end
section
set_option Elab.async false
set_option linter.all false
set_option maxRecDepth 100000
set_option maxHeartbeats 4000000
set_option autoImplicit false
namespace K09
open PySem PySem.Spec L2 DL

def W_is_integer (G : Gx) : DL.Env → W Out := fun (ρ : DL.Env) => bnd (bnd (bnd (bnd (rd ρ 0) fun d => optW ((isiD G (.ty "int") d).map D.bl)) asB) fun k => if k = true then bnd (bnd (bnd (rd ρ 0) fun d => optW ((isiD G (.ty "bool") d).map D.bl)) asB) fun k => DL.ret (.bl (!k)) else DL.ret (.bl false)) fun d => DL.ret (.rt d ρ)

def W_is_between (G : Gx) : DL.Env → W Out := fun (ρ : DL.Env) => bnd (bnd (bnd (bnd (bnd (rd ρ 0) fun x => bnd (DL.ret []) fun xs => DL.ret (x :: xs)) s_is_integer) asB) fun k => if k = true then bnd (rd ρ 1) fun x => bnd (rd ρ 0) fun y => bnd (bnd (leD x y) asB) fun k => if k = true then bnd (rd ρ 2) fun z => leD y z else DL.ret (.bl false) else DL.ret (.bl false)) fun d => DL.ret (.rt d ρ)

def W_mask_of (G : Gx) : DL.Env → W Out := fun (ρ : DL.Env) => bnd (bnd (bnd (bnd (bnd (bnd (rd ρ 0) seqD) fun xs => grd (xs.length ≤ sizeLine) (nox (lcGo (lcF [1] (fun (d : D) (ρ : DL.Env) => DL.ret (ρ.set 1 (.d d))) (fun (ρ : DL.Env) => DL.ret true) (fun (ρ : DL.Env) => bnd (DL.ret c_POWERS) fun x => bnd (rd ρ 1) fun y => ixD x y) ρ) xs))) fun ds => DL.ret (.lst ds)) fun x => bnd (DL.ret []) fun xs => DL.ret (x :: xs)) sumD) fun d => DL.ret (.rt d ρ)

def W_lot_of (G : Gx) : DL.Env → W Out := fun (ρ : DL.Env) => bnd (bnd (bnd (bnd (bnd (bnd (bnd (DL.ret (.int 7)) fun x => bnd (DL.ret []) fun xs => DL.ret (x :: xs)) rng1W) fun xs => grd (xs.length ≤ sizeLine) (nox (lcGo (lcF [1] (fun (d : D) (ρ : DL.Env) => DL.ret (ρ.set 1 (.d d))) (fun (ρ : DL.Env) => bnd (bnd (bnd (bnd (rd ρ 0) fun x => bnd (bnd (DL.ret c_POWERS) fun x => bnd (rd ρ 1) fun y => ixD x y) fun y => divD x y) fun x => bnd (DL.ret (.int 2)) fun y => modD x y) fun x => bnd (DL.ret (.int 1)) fun y => eqD eqS false x y) asB) (fun (ρ : DL.Env) => rd ρ 1) ρ) xs))) fun ds => DL.ret (.lst ds)) fun x => bnd (DL.ret []) fun xs => DL.ret (x :: xs)) tupleD) fun d => DL.ret (.rt d ρ)

def W_Table_init (G : Gx) : DL.Env → W Out := fun (ρ : DL.Env) => seqW (bnd (notT (bnd (bnd (bnd (rd ρ 1) fun x => bnd (bnd (DL.ret (.int 1)) fun x => bnd (bnd (DL.ret (.int 7)) fun x => bnd (DL.ret []) fun xs => DL.ret (x :: xs)) fun xs => DL.ret (x :: xs)) fun xs => DL.ret (x :: xs)) s_is_between) truD)) fun t => if t = true then stk else DL.ret (.nx ρ)) fun (ρ : DL.Env) => seqW (bnd (orT (notT (bnd (bnd (rd ρ 2) fun d => optW ((isiD G (.ty "tuple") d).map D.bl)) truD)) (bnd (bnd (bnd (bnd (rd ρ 2) fun x => bnd (DL.ret []) fun xs => DL.ret (x :: xs)) lenD) fun x => bnd (bnd (DL.ret c_POWERS) fun x => bnd (rd ρ 1) fun y => ixD x y) fun y => eqD eqS true x y) asB)) fun t => if t = true then stk else DL.ret (.nx ρ)) fun (ρ : DL.Env) => seqW (bnd (bnd (bnd (rd ρ 2) fun x => bnd (DL.ret []) fun xs => DL.ret (x :: xs)) enumS) fun xs => forGo (fun x ρ => bnd (nox ((tupG 2 (consG (fun (d : D) (ρ : DL.Env) => DL.ret (ρ.set 3 (.d d))) (consG (fun (d : D) (ρ : DL.Env) => DL.ret (ρ.set 4 (.d d))) nilG))) x ρ)) fun (ρ : DL.Env) => bnd (orT (notT (bnd (bnd (bnd (rd ρ 4) fun x => bnd (DL.ret []) fun xs => DL.ret (x :: xs)) s_is_integer) truD)) (andT (bnd (bnd (rd ρ 3) fun x => bnd (DL.ret (.int 0)) fun y => eqD eqS false x y) asB) (bnd (bnd (rd ρ 4) fun x => bnd (DL.ret (.int 0)) fun y => eqD eqS true x y) asB))) fun t => if t = true then stk else DL.ret (.nx ρ)) xs ρ) fun (ρ : DL.Env) => seqW (bnd (rd ρ 1) fun d => bnd (ownI 0 ρ) fun z => grd ((G.flds z.2.1)[z.2.2.length]? = some "many") (DL.ret (.nx (ρ.set 0 (.own (.ins z.1 z.2.1 (z.2.2 ++ [d]))))))) fun (ρ : DL.Env) => bnd (rd ρ 2) fun d => bnd (ownI 0 ρ) fun z => grd ((G.flds z.2.1)[z.2.2.length]? = some "numbers") (DL.ret (.nx (ρ.set 0 (.own (.ins z.1 z.2.1 (z.2.2 ++ [d]))))))

def W_Table_eq (G : Gx) : DL.Env → W Out := fun (ρ : DL.Env) => seqW (bnd (notT (bnd (bnd (rd ρ 1) fun d => optW ((isiD G (.own 0) d).map D.bl)) truD)) fun t => if t = true then bnd (DL.ret (.bl false)) fun d => DL.ret (.rt d ρ) else DL.ret (.nx ρ)) fun (ρ : DL.Env) => bnd (bnd (bnd (bnd (bnd (rd ρ 0) fun x => fldD G "many" x) fun x => bnd (bnd (rd ρ 1) fun x => fldD G "many" x) fun y => eqD eqS0 false x y) asB) fun k => if k = true then bnd (bnd (rd ρ 0) fun x => fldD G "numbers" x) fun x => bnd (bnd (rd ρ 1) fun x => fldD G "numbers" x) fun y => eqD eqS0 false x y else DL.ret (.bl false)) fun d => DL.ret (.rt d ρ)

def W_check_table (G : Gx) : DL.Env → W Out := fun (ρ : DL.Env) => bnd (notT (bnd (bnd (rd ρ 0) fun d => optW ((isiD G (.own 0) d).map D.bl)) truD)) fun t => if t = true then thr ⟨0, []⟩ else DL.ret (.nx ρ)

def W_least_masks (G : Gx) : DL.Env → W Out := fun (ρ : DL.Env) => seqW (bnd (bnd (bnd (rd ρ 0) fun x => bnd (DL.ret []) fun xs => DL.ret (x :: xs)) minUD) fun d => DL.ret (.nx (ρ.set 1 (.d d)))) fun (ρ : DL.Env) => bnd (bnd (bnd (bnd (bnd (rd ρ 0) fun x => bnd (DL.ret []) fun xs => DL.ret (x :: xs)) enumS) fun xs => grd (xs.length ≤ sizeLine) (nox (lcGo (lcF [2, 3] (tupG 2 (consG (fun (d : D) (ρ : DL.Env) => DL.ret (ρ.set 2 (.d d))) (consG (fun (d : D) (ρ : DL.Env) => DL.ret (ρ.set 3 (.d d))) nilG))) (fun (ρ : DL.Env) => bnd (bnd (rd ρ 3) fun x => bnd (rd ρ 1) fun y => eqD eqS false x y) asB) (fun (ρ : DL.Env) => rd ρ 2) ρ) xs))) fun ds => DL.ret (.lst ds)) fun d => DL.ret (.rt d ρ)

def W_least_lots (G : Gx) : DL.Env → W Out := fun (ρ : DL.Env) => seqW (bnd (bnd (bnd (rd ρ 0) fun x => bnd (DL.ret []) fun xs => DL.ret (x :: xs)) s_check_table) fun _ => DL.ret (.nx ρ)) fun (ρ : DL.Env) => bnd (bnd (bnd (bnd (bnd (bnd (rd ρ 0) fun x => fldD G "numbers" x) fun x => bnd (DL.ret []) fun xs => DL.ret (x :: xs)) minUD) fun x => bnd (bnd (bnd (bnd (bnd (bnd (bnd (bnd (bnd (bnd (rd ρ 0) fun x => fldD G "numbers" x) fun x => bnd (DL.ret []) fun xs => DL.ret (x :: xs)) s_least_masks) seqD) fun xs => grd (xs.length ≤ sizeLine) (nox (lcGo (lcF [1] (fun (d : D) (ρ : DL.Env) => DL.ret (ρ.set 1 (.d d))) (fun (ρ : DL.Env) => DL.ret true) (fun (ρ : DL.Env) => bnd (bnd (rd ρ 1) fun x => bnd (DL.ret []) fun xs => DL.ret (x :: xs)) s_lot_of) ρ) xs))) fun ds => DL.ret (.lst ds)) fun x => bnd (DL.ret []) fun xs => DL.ret (x :: xs)) tupleD) fun x => bnd (DL.ret []) fun xs => DL.ret (x :: xs)) fun xs => DL.ret (x :: xs)) fun xs => DL.ret (.tup xs)) fun d => DL.ret (.rt d ρ)

def W__law_hand (G : Gx) : DL.Env → W Out := fun (ρ : DL.Env) => seqW (bnd (bnd (bnd (bnd (rd ρ 0) fun x => bnd (DL.ret none) fun l => bnd (bnd (DL.ret (.int 63)) intO) fun u => sliceD l u x) seqD) fun xs => grd (xs.length ≤ sizeLine) (nox (lcGo (lcF [2] (fun (d : D) (ρ : DL.Env) => DL.ret (ρ.set 2 (.d d))) (fun (ρ : DL.Env) => DL.ret true) (fun (ρ : DL.Env) => bnd (bnd (bnd (bnd (rd ρ 2) fun x => bnd (DL.ret []) fun xs => DL.ret (x :: xs)) intD) fun x => bnd (DL.ret []) fun xs => DL.ret (x :: xs)) absD) ρ) xs))) fun ds => DL.ret (.nx (ρ.set 1 (.d (.lst ds))))) fun (ρ : DL.Env) => bnd (bnd (bnd (rd ρ 1) fun x => bnd (bnd (DL.ret (.int 0)) fun x => bnd (bnd (DL.ret (.int 0)) fun x => bnd (bnd (bnd (DL.ret (.int 97)) fun x => bnd (bnd (DL.ret (.int 13)) fun x => bnd (bnd (bnd (rd ρ 1) fun x => bnd (DL.ret []) fun xs => DL.ret (x :: xs)) lenD) fun y => mulD x y) fun y => addD x y) fun x => bnd (bnd (DL.ret (.int 0)) fun x => bnd (DL.ret []) fun xs => DL.ret (x :: xs)) fun xs => DL.ret (x :: xs)) fun xs => DL.ret (x :: xs)) fun xs => DL.ret (x :: xs)) fun xs => DL.ret (x :: xs)) handD) fun d => DL.ret (.rt d ρ)

def W__law_draw (G : Gx) : DL.Env → W Out := fun (ρ : DL.Env) => seqW (bnd (andT (bnd (bnd (bnd (ownH 0 ρ) fun z => hixD z 2) fun x => bnd (DL.ret (.int 0)) fun y => eqD eqS false x y) asB) (bnd (bnd (bnd (ownH 0 ρ) fun z => hixD z 1) fun x => bnd (bnd (bnd (bnd (ownH 0 ρ) fun z => hixD z 0) fun x => bnd (DL.ret []) fun xs => DL.ret (x :: xs)) lenD) fun y => ltD x y) asB)) fun t => if t = true then seqW (bnd (bnd (bnd (ownH 0 ρ) fun z => hixD z 0) fun x => bnd (bnd (ownH 0 ρ) fun z => hixD z 1) fun y => ixD x y) fun d => DL.ret (.nx (ρ.set 2 (.d d)))) fun (ρ : DL.Env) => seqW (bnd (bnd (bnd (ownH 0 ρ) fun z => hixD z 1) fun x => bnd (DL.ret (.int 1)) fun y => addD x y) fun d => bnd (ownH 0 ρ) fun z => hsetD 0 ρ z 0 d) fun (ρ : DL.Env) => seqW (bnd (bnd (bnd (bnd (bnd (bnd (bnd (bnd (ownH 0 ρ) fun z => hixD z 3) fun x => bnd (DL.ret (.int 69621)) fun y => mulD x y) fun x => bnd (bnd (rd ρ 2) fun x => bnd (DL.ret (.int 40692)) fun y => mulD x y) fun y => addD x y) fun x => bnd (DL.ret (.int 31)) fun y => addD x y) fun x => bnd (DL.ret []) fun xs => DL.ret (x :: xs)) intD) fun x => bnd (DL.ret (.int 2147483629)) fun y => modD x y) fun d => bnd (ownH 0 ρ) fun z => hsetD 0 ρ z 2 d) fun (ρ : DL.Env) => bnd (bnd (bnd (rd ρ 2) fun x => bnd (bnd (DL.ret (.int 10)) fun x => bnd (DL.ret (.int 18)) fun y => powD x y) fun y => geD x y) asB) fun t => if t = true then bnd (rd ρ 2) fun d => bnd (ownH 0 ρ) fun z => hsetD 0 ρ z 1 d else DL.ret (.nx ρ) else DL.ret (.nx ρ)) fun (ρ : DL.Env) => seqW (bnd (bnd (bnd (bnd (ownH 0 ρ) fun z => hixD z 2) fun x => bnd (DL.ret (.int 0)) fun y => gtD x y) asB) fun t => if t = true then seqW (bnd (bnd (bnd (bnd (bnd (ownH 0 ρ) fun z => hixD z 2) fun x => bnd (DL.ret []) fun xs => DL.ret (x :: xs)) intD) fun x => bnd (rd ρ 1) fun y => modD x y) fun d => DL.ret (.nx (ρ.set 3 (.d d)))) fun (ρ : DL.Env) => seqW (bnd (bnd (bnd (ownH 0 ρ) fun z => hixD z 2) fun x => bnd (rd ρ 1) fun y => divD x y) fun d => bnd (ownH 0 ρ) fun z => hsetD 0 ρ z 1 d) fun (ρ : DL.Env) => bnd (rd ρ 3) fun d => DL.ret (.rt d ρ) else DL.ret (.nx ρ)) fun (ρ : DL.Env) => seqW (bnd (bnd (bnd (ownH 0 ρ) fun z => hixD z 4) fun x => bnd (DL.ret (.int 1)) fun y => addD x y) fun d => bnd (ownH 0 ρ) fun z => hsetD 0 ρ z 3 d) fun (ρ : DL.Env) => seqW (bnd (bnd (bnd (bnd (bnd (bnd (bnd (bnd (bnd (ownH 0 ρ) fun z => hixD z 3) fun x => bnd (bnd (DL.ret (.int 7919)) fun x => bnd (bnd (ownH 0 ρ) fun z => hixD z 4) fun y => mulD x y) fun y => addD x y) fun x => bnd (DL.ret []) fun xs => DL.ret (x :: xs)) intD) fun x => bnd (DL.ret (.int 48271)) fun y => mulD x y) fun x => bnd (DL.ret []) fun xs => DL.ret (x :: xs)) intD) fun x => bnd (DL.ret (.int 2147483647)) fun y => modD x y) fun d => DL.ret (.nx (ρ.set 4 (.d d)))) fun (ρ : DL.Env) => seqW (bnd (bnd (bnd (bnd (bnd (rd ρ 4) fun x => bnd (bnd (bnd (rd ρ 4) fun x => bnd (DL.ret (.int 1009)) fun y => divD x y) fun x => bnd (DL.ret (.int 69621)) fun y => addD x y) fun y => mulD x y) fun x => bnd (DL.ret []) fun xs => DL.ret (x :: xs)) intD) fun x => bnd (DL.ret (.int 2147483647)) fun y => modD x y) fun d => DL.ret (.nx (ρ.set 4 (.d d)))) fun (ρ : DL.Env) => seqW (bnd (bnd (bnd (bnd (bnd (rd ρ 4) fun x => bnd (bnd (bnd (rd ρ 4) fun x => bnd (DL.ret (.int 2003)) fun y => divD x y) fun x => bnd (DL.ret (.int 40014)) fun y => addD x y) fun y => mulD x y) fun x => bnd (DL.ret []) fun xs => DL.ret (x :: xs)) intD) fun x => bnd (DL.ret (.int 2147483563)) fun y => modD x y) fun d => DL.ret (.nx (ρ.set 4 (.d d)))) fun (ρ : DL.Env) => bnd (bnd (bnd (bnd (bnd (rd ρ 4) fun x => bnd (DL.ret (.int 16)) fun y => divD x y) fun x => bnd (DL.ret []) fun xs => DL.ret (x :: xs)) intD) fun x => bnd (rd ρ 1) fun y => modD x y) fun d => DL.ret (.rt d ρ)

def W__law_any (G : Gx) : DL.Env → W Out := fun (ρ : DL.Env) => bnd (bnd (rd ρ 1) fun x => bnd (bnd (bnd (rd ρ 0) fun x => bnd (bnd (bnd (bnd (rd ρ 1) fun x => bnd (DL.ret []) fun xs => DL.ret (x :: xs)) lenD) fun x => bnd (DL.ret []) fun xs => DL.ret (x :: xs)) fun xs => DL.ret (x :: xs)) s__law_draw) fun y => ixD x y) fun d => DL.ret (.rt d ρ)

def W__law_is (G : Gx) (s__law_is : List D → W D) : DL.Env → W Out := fun (ρ : DL.Env) => seqW (bnd (orT (bnd (bnd (rd ρ 1) fun x => bnd (DL.ret .non) fun y => isD x y) asB) (bnd (bnd (rd ρ 0) fun x => bnd (DL.ret .non) fun y => isD x y) asB)) fun t => if t = true then bnd (bnd (bnd (bnd (rd ρ 1) fun x => bnd (DL.ret .non) fun y => isD x y) asB) fun k => if k = true then bnd (rd ρ 0) fun x => bnd (DL.ret .non) fun y => isD x y else DL.ret (.bl false)) fun d => DL.ret (.rt d ρ) else DL.ret (.nx ρ)) fun (ρ : DL.Env) => seqW (bnd (bnd (bnd (rd ρ 1) fun d => optW ((isiA G [.ty "tuple", .ty "list"] d).map D.bl)) truD) fun t => if t = true then seqW (bnd (bnd (bnd (bnd (rd ρ 0) fun d => optW ((isiD G (.ty "tuple") d).map D.bl)) fun x => bnd (bnd (rd ρ 1) fun d => optW ((isiD G (.ty "tuple") d).map D.bl)) fun y => eqD eqS true x y) asB) fun t => if t = true then bnd (DL.ret (.bl false)) fun d => DL.ret (.rt d ρ) else DL.ret (.nx ρ)) fun (ρ : DL.Env) => seqW (bnd (bnd (bnd (bnd (rd ρ 0) fun d => optW ((isiD G (.ty "list") d).map D.bl)) fun x => bnd (bnd (rd ρ 1) fun d => optW ((isiD G (.ty "list") d).map D.bl)) fun y => eqD eqS true x y) asB) fun t => if t = true then bnd (DL.ret (.bl false)) fun d => DL.ret (.rt d ρ) else DL.ret (.nx ρ)) fun (ρ : DL.Env) => bnd (bnd (bnd (bnd (bnd (bnd (rd ρ 0) fun x => bnd (DL.ret []) fun xs => DL.ret (x :: xs)) lenD) fun x => bnd (bnd (bnd (rd ρ 1) fun x => bnd (DL.ret []) fun xs => DL.ret (x :: xs)) lenD) fun y => eqD eqS false x y) asB) fun k => if k = true then bnd (bnd (bnd (bnd (bnd (bnd (rd ρ 0) fun x => bnd (bnd (rd ρ 1) fun x => bnd (DL.ret []) fun xs => DL.ret (x :: xs)) fun xs => DL.ret (x :: xs)) zip2S) fun xs => grd (xs.length ≤ sizeLine) (nox (lcGo (lcF [2, 3] (tupG 2 (consG (fun (d : D) (ρ : DL.Env) => DL.ret (ρ.set 2 (.d d))) (consG (fun (d : D) (ρ : DL.Env) => DL.ret (ρ.set 3 (.d d))) nilG))) (fun (ρ : DL.Env) => DL.ret true) (fun (ρ : DL.Env) => bnd (bnd (rd ρ 2) fun x => bnd (bnd (rd ρ 3) fun x => bnd (DL.ret []) fun xs => DL.ret (x :: xs)) fun xs => DL.ret (x :: xs)) s__law_is) ρ) xs))) fun ds => DL.ret (.lst ds)) fun x => bnd (DL.ret []) fun xs => DL.ret (x :: xs)) allD else DL.ret (.bl false)) fun d => DL.ret (.rt d ρ) else DL.ret (.nx ρ)) fun (ρ : DL.Env) => seqW (bnd (orT (bnd (bnd (bnd (rd ρ 0) fun d => optW ((isiD G (.ty "bool") d).map D.bl)) fun x => bnd (bnd (rd ρ 1) fun d => optW ((isiD G (.ty "bool") d).map D.bl)) fun y => eqD eqS true x y) asB) (bnd (bnd (bnd (rd ρ 0) fun d => optW ((isiD G (.ty "int") d).map D.bl)) fun x => bnd (bnd (rd ρ 1) fun d => optW ((isiD G (.ty "int") d).map D.bl)) fun y => eqD eqS true x y) asB)) fun t => if t = true then bnd (DL.ret (.bl false)) fun d => DL.ret (.rt d ρ) else DL.ret (.nx ρ)) fun (ρ : DL.Env) => bnd (bnd (bnd (bnd (bnd (rd ρ 0) fun d => optW ((isiD G (.ty "str") d).map D.bl)) fun x => bnd (bnd (rd ρ 1) fun d => optW ((isiD G (.ty "str") d).map D.bl)) fun y => eqD eqS false x y) asB) fun k => if k = true then bnd (rd ρ 0) fun x => bnd (rd ρ 1) fun y => eqD eqS false x y else DL.ret (.bl false)) fun d => DL.ret (.rt d ρ)

def W__law_mixed (G : Gx) : DL.Env → W Out := fun (ρ : DL.Env) => seqW (bnd (bnd (rd ρ 1) seqD) fun xs => bnd (DL.ret []) fun ds => DL.ret (.nx ((ρ.set 2 (.own (.lst none xs))).set 3 (.own (.lst none ds))))) fun (ρ : DL.Env) => seqW (whW (fun (ρ : DL.Env) => bnd (bnd (bnd (ownL 2 ρ) fun z => DL.ret (.int z.2.length)) fun x => bnd (DL.ret (.int 0)) fun y => gtD x y) asB) (fun (ρ : DL.Env) => bnd (ownL 3 ρ) fun z => bnd (ownL 2 ρ) fun u => bnd (bnd (bnd (rd ρ 0) fun x => bnd (bnd (bnd (ownL 2 ρ) fun z => DL.ret (.int z.2.length)) fun x => bnd (DL.ret []) fun xs => DL.ret (x :: xs)) fun xs => DL.ret (x :: xs)) s__law_draw) fun d => popAt 3 2 ρ z u d) ρ) fun (ρ : DL.Env) => bnd (frzW 3 ρ) fun (ρ : DL.Env) => bnd (rd ρ 3) fun d => DL.ret (.rt d ρ)

def W__law_lots (G : Gx) : DL.Env → W Out := fun (ρ : DL.Env) => seqW (bnd (bnd (bnd (bnd (DL.ret []) fun xs => DL.ret (.tup xs)) fun x => bnd (DL.ret []) fun xs => DL.ret (x :: xs)) fun xs => DL.ret (.lst xs)) fun d => DL.ret (.nx (ρ.set 1 (.d d)))) fun (ρ : DL.Env) => seqW (bnd (bnd (bnd (rd ρ 0) fun x => bnd (DL.ret []) fun xs => DL.ret (x :: xs)) rng1W) fun xs => forGo (fun x ρ => bnd (nox ((fun (d : D) (ρ : DL.Env) => DL.ret (ρ.set 2 (.d d))) x ρ)) fun (ρ : DL.Env) => bnd (bnd (rd ρ 1) fun x => bnd (bnd (bnd (bnd (rd ρ 1) seqD) fun xs => grd (xs.length ≤ sizeLine) (nox (lcGo (lcF [3] (fun (d : D) (ρ : DL.Env) => DL.ret (ρ.set 3 (.d d))) (fun (ρ : DL.Env) => DL.ret true) (fun (ρ : DL.Env) => bnd (rd ρ 3) fun x => bnd (bnd (bnd (rd ρ 2) fun x => bnd (DL.ret []) fun xs => DL.ret (x :: xs)) fun xs => DL.ret (.tup xs)) fun y => addD x y) ρ) xs))) fun ds => DL.ret (.lst ds)) fun y => addD x y) fun d => DL.ret (.nx (ρ.set 1 (.d d)))) xs ρ) fun (ρ : DL.Env) => bnd (rd ρ 1) fun d => DL.ret (.rt d ρ)

def W__law_bit (G : Gx) : DL.Env → W Out := fun (ρ : DL.Env) => bnd (bnd (bnd (bnd (DL.ret (.int 1)) fun x => bnd (bnd (DL.ret (.int 2)) fun x => bnd (bnd (DL.ret (.int 4)) fun x => bnd (bnd (DL.ret (.int 8)) fun x => bnd (bnd (DL.ret (.int 16)) fun x => bnd (bnd (DL.ret (.int 32)) fun x => bnd (bnd (DL.ret (.int 64)) fun x => bnd (DL.ret []) fun xs => DL.ret (x :: xs)) fun xs => DL.ret (x :: xs)) fun xs => DL.ret (x :: xs)) fun xs => DL.ret (x :: xs)) fun xs => DL.ret (x :: xs)) fun xs => DL.ret (x :: xs)) fun xs => DL.ret (x :: xs)) fun xs => DL.ret (.lst xs)) fun x => bnd (rd ρ 0) fun y => ixD x y) fun d => DL.ret (.rt d ρ)

def W__law_place (G : Gx) : DL.Env → W Out := fun (ρ : DL.Env) => bnd (bnd (bnd (bnd (bnd (bnd (rd ρ 0) seqD) fun xs => grd (xs.length ≤ sizeLine) (nox (lcGo (lcF [1] (fun (d : D) (ρ : DL.Env) => DL.ret (ρ.set 1 (.d d))) (fun (ρ : DL.Env) => DL.ret true) (fun (ρ : DL.Env) => bnd (bnd (rd ρ 1) fun x => bnd (DL.ret []) fun xs => DL.ret (x :: xs)) s__law_bit) ρ) xs))) fun ds => DL.ret (.lst ds)) fun x => bnd (DL.ret []) fun xs => DL.ret (x :: xs)) sumD) fun d => DL.ret (.rt d ρ)

def W__law_hollow_values (G : Gx) : DL.Env → W Out := fun (ρ : DL.Env) => seqW (bnd (bnd (bnd (rd ρ 1) fun x => bnd (DL.ret []) fun xs => DL.ret (x :: xs)) s__law_lots) fun d => DL.ret (.nx (ρ.set 2 (.d d)))) fun (ρ : DL.Env) => seqW (bnd (bnd (bnd (bnd (DL.ret (.int 0)) fun x => bnd (DL.ret []) fun xs => DL.ret (x :: xs)) fun xs => DL.ret (.lst xs)) fun x => bnd (bnd (bnd (rd ρ 2) fun x => bnd (DL.ret []) fun xs => DL.ret (x :: xs)) lenD) fun y => repD x y) fun ds => DL.ret (.nx (ρ.set 3 (.own (.lst none ds))))) fun (ρ : DL.Env) => seqW (bnd (bnd (bnd (bnd (bnd (rd ρ 0) fun x => bnd (bnd (DL.ret (.int 4)) fun x => bnd (DL.ret []) fun xs => DL.ret (x :: xs)) fun xs => DL.ret (x :: xs)) s__law_draw) fun x => bnd (DL.ret []) fun xs => DL.ret (x :: xs)) rng1W) fun xs => forGo (fun x ρ => bnd (nox ((fun (d : D) (ρ : DL.Env) => DL.ret (ρ.set 4 (.d d))) x ρ)) fun (ρ : DL.Env) => seqW (bnd (bnd (bnd (bnd (rd ρ 0) fun x => bnd (bnd (DL.ret (.int 4)) fun x => bnd (DL.ret []) fun xs => DL.ret (x :: xs)) fun xs => DL.ret (x :: xs)) s__law_draw) fun x => bnd (bnd (bnd (DL.ret (.int 1)) fun x => bnd (bnd (bnd (rd ρ 0) fun x => bnd (bnd (DL.ret (.int 4)) fun x => bnd (DL.ret []) fun xs => DL.ret (x :: xs)) fun xs => DL.ret (x :: xs)) s__law_draw) fun y => addD x y) fun x => bnd (DL.ret []) fun xs => DL.ret (x :: xs)) fun xs => DL.ret (x :: xs)) fun ds => par2W 5 6 ρ ds) fun (ρ : DL.Env) => seqW (bnd (bnd (bnd (bnd (bnd (rd ρ 1) fun x => bnd (DL.ret []) fun xs => DL.ret (x :: xs)) rng1W) fun xs => grd (xs.length ≤ sizeLine) (nox (lcGo (lcF [15] (fun (d : D) (ρ : DL.Env) => DL.ret (ρ.set 15 (.d d))) (fun (ρ : DL.Env) => bnd (bnd (bnd (bnd (rd ρ 0) fun x => bnd (bnd (DL.ret (.int 2)) fun x => bnd (DL.ret []) fun xs => DL.ret (x :: xs)) fun xs => DL.ret (x :: xs)) s__law_draw) fun x => bnd (DL.ret (.int 0)) fun y => eqD eqS false x y) asB) (fun (ρ : DL.Env) => rd ρ 15) ρ) xs))) fun ds => DL.ret (.lst ds)) fun d => DL.ret (.nx (ρ.set 7 (.d d)))) fun (ρ : DL.Env) => seqW (bnd (bnd (bnd (DL.ret (.int 1)) fun x => bnd (bnd (bnd (rd ρ 0) fun x => bnd (bnd (DL.ret (.int 3)) fun x => bnd (DL.ret []) fun xs => DL.ret (x :: xs)) fun xs => DL.ret (x :: xs)) s__law_draw) fun y => addD x y) fun x => bnd (bnd (bnd (bnd (bnd (bnd (rd ρ 0) fun x => bnd (bnd (rd ρ 1) fun x => bnd (DL.ret []) fun xs => DL.ret (x :: xs)) fun xs => DL.ret (x :: xs)) s__law_draw) fun x => bnd (bnd (bnd (bnd (rd ρ 0) fun x => bnd (bnd (rd ρ 1) fun x => bnd (DL.ret []) fun xs => DL.ret (x :: xs)) fun xs => DL.ret (x :: xs)) s__law_draw) fun x => bnd (DL.ret []) fun xs => DL.ret (x :: xs)) fun xs => DL.ret (x :: xs)) fun xs => DL.ret (.tup xs)) fun x => bnd (DL.ret []) fun xs => DL.ret (x :: xs)) fun xs => DL.ret (x :: xs)) fun ds => par2W 8 9 ρ ds) fun (ρ : DL.Env) => bnd (bnd (bnd (rd ρ 2) fun x => bnd (DL.ret []) fun xs => DL.ret (x :: xs)) enumS) fun xs => forGo (fun x ρ => bnd (nox ((tupG 2 (consG (fun (d : D) (ρ : DL.Env) => DL.ret (ρ.set 10 (.d d))) (consG (fun (d : D) (ρ : DL.Env) => DL.ret (ρ.set 11 (.d d))) nilG))) x ρ)) fun (ρ : DL.Env) => seqW (bnd (bnd (bnd (bnd (bnd (bnd (rd ρ 11) seqD) fun xs => grd (xs.length ≤ sizeLine) (nox (lcGo (lcF [15] (fun (d : D) (ρ : DL.Env) => DL.ret (ρ.set 15 (.d d))) (fun (ρ : DL.Env) => bnd (bnd (rd ρ 15) fun x => bnd (rd ρ 7) fun y => inD false x y) asB) (fun (ρ : DL.Env) => rd ρ 15) ρ) xs))) fun ds => DL.ret (.lst ds)) fun x => bnd (DL.ret []) fun xs => DL.ret (x :: xs)) lenD) fun d => DL.ret (.nx (ρ.set 12 (.d d)))) fun (ρ : DL.Env) => seqW (bnd (bnd (bnd (bnd (rd ρ 9) fun x => bnd (DL.ret (.int 0)) fun y => ixD x y) fun x => bnd (rd ρ 11) fun y => inD false x y) fun x => bnd (bnd (bnd (rd ρ 9) fun x => bnd (DL.ret (.int 1)) fun y => ixD x y) fun x => bnd (rd ρ 11) fun y => inD false x y) fun y => eqD eqS true x y) fun d => DL.ret (.nx (ρ.set 13 (.d d)))) fun (ρ : DL.Env) => seqW (bnd (bnd (bnd (bnd (bnd (bnd (rd ρ 12) fun x => bnd (DL.ret (.int 0)) fun y => gtD x y) fun x => bnd (DL.ret []) fun xs => DL.ret (x :: xs)) intD) fun x => bnd (bnd (bnd (bnd (rd ρ 13) fun x => bnd (DL.ret []) fun xs => DL.ret (x :: xs)) intD) fun x => bnd (bnd (bnd (bnd (rd ρ 12) fun x => bnd (bnd (rd ρ 8) fun x => bnd (DL.ret []) fun xs => DL.ret (x :: xs)) fun xs => DL.ret (x :: xs)) min2D) fun x => bnd (bnd (bnd (rd ρ 12) fun x => bnd (bnd (DL.ret (.int 9)) fun x => bnd (rd ρ 12) fun y => subD x y) fun y => mulD x y) fun x => bnd (DL.ret []) fun xs => DL.ret (x :: xs)) fun xs => DL.ret (x :: xs)) fun xs => DL.ret (x :: xs)) fun xs => DL.ret (x :: xs)) fun xs => DL.ret (.lst xs)) fun d => DL.ret (.nx (ρ.set 14 (.d d)))) fun (ρ : DL.Env) => bnd (bnd (bnd (ownL 3 ρ) fun z => bnd (rd ρ 10) fun y => oixD z y) fun x => bnd (bnd (rd ρ 6) fun x => bnd (bnd (rd ρ 14) fun x => bnd (rd ρ 5) fun y => ixD x y) fun y => mulD x y) fun y => addD x y) fun d => bnd (ownL 3 ρ) fun z => bnd (rd ρ 10) fun k => setAt 3 ρ z d k) xs ρ) xs ρ) fun (ρ : DL.Env) => seqW (bnd (bnd (bnd (rd ρ 1) fun x => bnd (DL.ret []) fun xs => DL.ret (x :: xs)) rng1W) fun xs => forGo (fun x ρ => bnd (nox ((fun (d : D) (ρ : DL.Env) => DL.ret (ρ.set 15 (.d d))) x ρ)) fun (ρ : DL.Env) => seqW (bnd (bnd (bnd (bnd (rd ρ 0) fun x => bnd (bnd (DL.ret (.int 13)) fun x => bnd (DL.ret []) fun xs => DL.ret (x :: xs)) fun xs => DL.ret (x :: xs)) s__law_draw) fun x => bnd (DL.ret (.int 8)) fun y => subD x y) fun d => DL.ret (.nx (ρ.set 16 (.d d)))) fun (ρ : DL.Env) => bnd (frzW 3 ρ) fun (ρ : DL.Env) => bnd (bnd (bnd (bnd (rd ρ 3) fun x => bnd (bnd (rd ρ 2) fun x => bnd (DL.ret []) fun xs => DL.ret (x :: xs)) fun xs => DL.ret (x :: xs)) zip2S) fun xs => grd (xs.length ≤ sizeLine) (nox (lcGo (lcF [17, 11] (tupG 2 (consG (fun (d : D) (ρ : DL.Env) => DL.ret (ρ.set 17 (.d d))) (consG (fun (d : D) (ρ : DL.Env) => DL.ret (ρ.set 11 (.d d))) nilG))) (fun (ρ : DL.Env) => DL.ret true) (fun (ρ : DL.Env) => bnd (rd ρ 17) fun x => bnd (bnd (rd ρ 16) fun x => bnd (bnd (bnd (bnd (rd ρ 15) fun x => bnd (rd ρ 11) fun y => inD false x y) fun x => bnd (DL.ret []) fun xs => DL.ret (x :: xs)) intD) fun y => mulD x y) fun y => addD x y) ρ) xs))) fun ds => DL.ret (.nx (ρ.set 3 (.own (.lst none ds))))) xs ρ) fun (ρ : DL.Env) => bnd (frzW 3 ρ) fun (ρ : DL.Env) => bnd (bnd (bnd (rd ρ 3) fun x => bnd (DL.ret []) fun xs => DL.ret (x :: xs)) tupleD) fun d => DL.ret (.rt d ρ)

def W__law_values (G : Gx) : DL.Env → W Out := fun (ρ : DL.Env) => seqW (bnd (bnd (bnd (bnd (rd ρ 0) fun x => bnd (bnd (rd ρ 1) fun x => bnd (DL.ret []) fun xs => DL.ret (x :: xs)) fun xs => DL.ret (x :: xs)) s__law_hollow_values) seqD) fun ds => DL.ret (.nx (ρ.set 2 (.own (.lst none ds))))) fun (ρ : DL.Env) => seqW (bnd (bnd (bnd (rd ρ 0) fun x => bnd (bnd (DL.ret (.int 3)) fun x => bnd (DL.ret []) fun xs => DL.ret (x :: xs)) fun xs => DL.ret (x :: xs)) s__law_draw) fun d => DL.ret (.nx (ρ.set 3 (.d d)))) fun (ρ : DL.Env) => seqW (bnd (bnd (bnd (rd ρ 3) fun x => bnd (DL.ret (.int 0)) fun y => eqD eqS false x y) asB) fun t => if t = true then bnd (frzW 2 ρ) fun (ρ : DL.Env) => bnd (bnd (bnd (bnd (DL.ret (.int 0)) fun x => bnd (DL.ret []) fun xs => DL.ret (x :: xs)) fun xs => DL.ret (.lst xs)) fun x => bnd (bnd (bnd (bnd (bnd (rd ρ 2) fun x => bnd (bnd (DL.ret (.int 1)) intO) fun l => bnd (DL.ret none) fun u => sliceD l u x) seqD) fun xs => grd (xs.length ≤ sizeLine) (nox (lcGo (lcF [5] (fun (d : D) (ρ : DL.Env) => DL.ret (ρ.set 5 (.d d))) (fun (ρ : DL.Env) => DL.ret true) (fun (ρ : DL.Env) => bnd (bnd (bnd (rd ρ 0) fun x => bnd (bnd (DL.ret (.int 9)) fun x => bnd (DL.ret []) fun xs => DL.ret (x :: xs)) fun xs => DL.ret (x :: xs)) s__law_draw) fun x => bnd (DL.ret (.int 4)) fun y => subD x y) ρ) xs))) fun ds => DL.ret (.lst ds)) fun y => addD x y) fun d => DL.ret (.nx (ρ.set 2 (.d d))) else DL.ret (.nx ρ)) fun (ρ : DL.Env) => seqW (bnd (andT (bnd (bnd (rd ρ 3) fun x => bnd (DL.ret (.int 1)) fun y => eqD eqS false x y) asB) (bnd (bnd (bnd (ownL 2 ρ) fun z => DL.ret (.int z.2.length)) fun x => bnd (DL.ret (.int 2)) fun y => gtD x y) asB)) fun t => if t = true then seqW (bnd (bnd (DL.ret (.int 1)) fun x => bnd (bnd (bnd (rd ρ 0) fun x => bnd (bnd (bnd (bnd (ownL 2 ρ) fun z => DL.ret (.int z.2.length)) fun x => bnd (DL.ret (.int 1)) fun y => subD x y) fun x => bnd (DL.ret []) fun xs => DL.ret (x :: xs)) fun xs => DL.ret (x :: xs)) s__law_draw) fun y => addD x y) fun d => DL.ret (.nx (ρ.set 4 (.d d)))) fun (ρ : DL.Env) => bnd (bnd (bnd (bnd (ownL 2 ρ) fun z => bnd (rd ρ 4) fun y => oixD z y) fun x => bnd (bnd (bnd (rd ρ 0) fun x => bnd (bnd (DL.ret (.int 5)) fun x => bnd (DL.ret []) fun xs => DL.ret (x :: xs)) fun xs => DL.ret (x :: xs)) s__law_draw) fun y => addD x y) fun x => bnd (DL.ret (.int 2)) fun y => subD x y) fun d => bnd (ownL 2 ρ) fun z => bnd (rd ρ 4) fun k => setAt 2 ρ z d k else DL.ret (.nx ρ)) fun (ρ : DL.Env) => bnd (frzW 2 ρ) fun (ρ : DL.Env) => bnd (bnd (bnd (rd ρ 2) fun x => bnd (DL.ret []) fun xs => DL.ret (x :: xs)) tupleD) fun d => DL.ret (.rt d ρ)

def W__law_is_hollow (G : Gx) : DL.Env → W Out := fun (ρ : DL.Env) => seqW (bnd (bnd (bnd (bnd (rd ρ 0) fun x => bnd (DL.ret []) fun xs => DL.ret (x :: xs)) s__law_lots) seqD) fun xs => forGo (fun x ρ => bnd (nox ((fun (d : D) (ρ : DL.Env) => DL.ret (ρ.set 2 (.d d))) x ρ)) fun (ρ : DL.Env) => bnd (bnd (bnd (bnd (bnd (bnd (rd ρ 0) fun x => bnd (DL.ret []) fun xs => DL.ret (x :: xs)) rng1W) fun xs => grd (xs.length ≤ sizeLine) (nox (lcGo (lcF [3] (fun (d : D) (ρ : DL.Env) => DL.ret (ρ.set 3 (.d d))) (fun (ρ : DL.Env) => bnd (bnd (rd ρ 3) fun x => bnd (rd ρ 2) fun y => inD true x y) asB) (fun (ρ : DL.Env) => rd ρ 3) ρ) xs))) fun ds => DL.ret (.lst ds)) seqD) fun xs => forGo (fun x ρ => bnd (nox ((fun (d : D) (ρ : DL.Env) => DL.ret (ρ.set 3 (.d d))) x ρ)) fun (ρ : DL.Env) => bnd (bnd (bnd (bnd (bnd (bnd (rd ρ 3) fun x => bnd (DL.ret []) fun xs => DL.ret (x :: xs)) rng1W) fun xs => grd (xs.length ≤ sizeLine) (nox (lcGo (lcF [4] (fun (d : D) (ρ : DL.Env) => DL.ret (ρ.set 4 (.d d))) (fun (ρ : DL.Env) => bnd (bnd (rd ρ 4) fun x => bnd (rd ρ 2) fun y => inD true x y) asB) (fun (ρ : DL.Env) => rd ρ 4) ρ) xs))) fun ds => DL.ret (.lst ds)) seqD) fun xs => forGo (fun x ρ => bnd (nox ((fun (d : D) (ρ : DL.Env) => DL.ret (ρ.set 4 (.d d))) x ρ)) fun (ρ : DL.Env) => seqW (bnd (bnd (bnd (bnd (rd ρ 2) fun x => bnd (DL.ret []) fun xs => DL.ret (x :: xs)) s__law_place) fun x => bnd (bnd (bnd (bnd (rd ρ 3) fun x => bnd (DL.ret []) fun xs => DL.ret (x :: xs)) s__law_bit) fun x => bnd (bnd (bnd (bnd (rd ρ 4) fun x => bnd (DL.ret []) fun xs => DL.ret (x :: xs)) s__law_bit) fun x => bnd (DL.ret []) fun xs => DL.ret (x :: xs)) fun xs => DL.ret (x :: xs)) fun xs => DL.ret (x :: xs)) fun ds => par3W 5 6 7 ρ ds) fun (ρ : DL.Env) => seqW (bnd (bnd (bnd (rd ρ 5) fun x => bnd (rd ρ 6) fun y => addD x y) fun x => bnd (rd ρ 7) fun y => addD x y) fun d => DL.ret (.nx (ρ.set 8 (.d d)))) fun (ρ : DL.Env) => seqW (bnd (bnd (bnd (rd ρ 1) fun x => bnd (rd ρ 8) fun y => ixD x y) fun x => bnd (bnd (rd ρ 1) fun x => bnd (bnd (rd ρ 5) fun x => bnd (rd ρ 7) fun y => addD x y) fun y => ixD x y) fun y => subD x y) fun d => DL.ret (.nx (ρ.set 9 (.d d)))) fun (ρ : DL.Env) => bnd (bnd (bnd (rd ρ 9) fun x => bnd (bnd (bnd (rd ρ 1) fun x => bnd (bnd (rd ρ 5) fun x => bnd (rd ρ 6) fun y => addD x y) fun y => ixD x y) fun x => bnd (bnd (rd ρ 1) fun x => bnd (rd ρ 5) fun y => ixD x y) fun y => subD x y) fun y => gtD x y) asB) fun t => if t = true then bnd (DL.ret (.bl false)) fun d => DL.ret (.rt d ρ) else DL.ret (.nx ρ)) xs ρ) xs ρ) xs ρ) fun (ρ : DL.Env) => bnd (DL.ret (.bl true)) fun d => DL.ret (.rt d ρ)

def W__law_word (G : Gx) : DL.Env → W Out := fun (ρ : DL.Env) => seqW (bnd (DL.ret (.str "other")) fun d => DL.ret (.nx (ρ.set 1 (.d d)))) fun (ρ : DL.Env) => seqW (bnd (rd ρ 0) fun f => grd (isClo f = true) (tryC (cloCall G 0 f []) (fun d => (fun d ρ => DL.ret (.nx (ρ.set 1 (.d d)))) d ρ) (fun c => decide (c < 1)) (hanW 2 (fun (c0 : Nat) (a0 : Addr) (ρ : DL.Env) => seqW (bnd (bnd (bnd (isEW 2 a0 (xisT c0 0) ρ) fun x => bnd (DL.ret []) fun xs => DL.ret (x :: xs)) fun xs => DL.ret (.lst xs)) fun d => DL.ret (.nx (ρ.set 3 (.d d)))) fun (ρ : DL.Env) => bnd (andT (bnd (bnd (bnd (rd ρ 3) fun x => grd (isLst x = true) (bnd (DL.ret (.bl true)) fun y => lcountD x y)) fun x => bnd (DL.ret (.int 1)) fun y => eqVD false x y) asB) (bnd (isEW 2 a0 (xisT c0 1) ρ) truD)) fun t => if t = true then bnd (bnd (bnd (bnd (DL.ret (.str "NoTable")) fun x => bnd (DL.ret []) fun xs => DL.ret (x :: xs)) fun xs => DL.ret (.lst xs)) fun x => bnd (bnd (rd ρ 3) fun x => grd (isLst x = true) (bnd (DL.ret (.bl true)) fun y => lindexD x y)) fun y => ixD x y) fun d => DL.ret (.nx (ρ.set 1 (.d d))) else DL.ret (.nx ρ)) ρ))) fun (ρ : DL.Env) => bnd (rd ρ 1) fun d => DL.ret (.rt d ρ)

def W__law_lattice_right (G : Gx) : DL.Env → W Out := fun (ρ : DL.Env) => seqW (bnd (bnd (rd ρ 0) seqD) fun xs => forGo (fun x ρ => bnd (nox ((fun (d : D) (ρ : DL.Env) => DL.ret (ρ.set 1 (.d d))) x ρ)) fun (ρ : DL.Env) => bnd (bnd (rd ρ 0) seqD) fun xs => forGo (fun x ρ => bnd (nox ((fun (d : D) (ρ : DL.Env) => DL.ret (ρ.set 2 (.d d))) x ρ)) fun (ρ : DL.Env) => seqW (bnd (bnd (bnd (bnd (bnd (rd ρ 1) fun x => bnd (rd ρ 2) fun y => addD x y) sortSetD) fun x => bnd (DL.ret []) fun xs => DL.ret (x :: xs)) tupleD) fun d => DL.ret (.nx (ρ.set 3 (.d d)))) fun (ρ : DL.Env) => bnd (orT (bnd (bnd (rd ρ 3) fun x => bnd (rd ρ 0) fun y => inD true x y) asB) (bnd (bnd (bnd (bnd (bnd (bnd (bnd (rd ρ 1) seqD) fun xs => grd (xs.length ≤ sizeLine) (nox (lcGo (lcF [4] (fun (d : D) (ρ : DL.Env) => DL.ret (ρ.set 4 (.d d))) (fun (ρ : DL.Env) => bnd (bnd (rd ρ 4) fun x => bnd (rd ρ 2) fun y => inD false x y) asB) (fun (ρ : DL.Env) => rd ρ 4) ρ) xs))) fun ds => DL.ret (.lst ds)) fun x => bnd (DL.ret []) fun xs => DL.ret (x :: xs)) tupleD) fun x => bnd (rd ρ 0) fun y => inD true x y) asB)) fun t => if t = true then bnd (DL.ret (.bl false)) fun d => DL.ret (.rt d ρ) else DL.ret (.nx ρ)) xs ρ) xs ρ) fun (ρ : DL.Env) => bnd (DL.ret (.bl true)) fun d => DL.ret (.rt d ρ)

def W__law_called (G : Gx) : DL.Env → W Out := fun (ρ : DL.Env) => seqW (bnd (bnd (bnd (bnd (DL.ret (.int 0)) fun x => bnd (DL.ret []) fun xs => DL.ret (x :: xs)) fun xs => DL.ret (.lst xs)) fun x => bnd (bnd (bnd (rd ρ 1) fun x => bnd (DL.ret []) fun xs => DL.ret (x :: xs)) lenD) fun y => repD x y) fun ds => DL.ret (.nx (ρ.set 3 (.own (.lst none ds))))) fun (ρ : DL.Env) => seqW (bnd (bnd (bnd (bnd (bnd (rd ρ 0) fun x => bnd (DL.ret []) fun xs => DL.ret (x :: xs)) s__law_lots) fun x => bnd (bnd (rd ρ 1) fun x => bnd (DL.ret []) fun xs => DL.ret (x :: xs)) fun xs => DL.ret (x :: xs)) zip2S) fun xs => forGo (fun x ρ => bnd (nox ((tupG 2 (consG (fun (d : D) (ρ : DL.Env) => DL.ret (ρ.set 4 (.d d))) (consG (fun (d : D) (ρ : DL.Env) => DL.ret (ρ.set 5 (.d d))) nilG))) x ρ)) fun (ρ : DL.Env) => bnd (rd ρ 5) fun d => bnd (ownL 3 ρ) fun z => bnd (bnd (bnd (bnd (bnd (bnd (rd ρ 4) seqD) fun xs => grd (xs.length ≤ sizeLine) (nox (lcGo (lcF [6] (fun (d : D) (ρ : DL.Env) => DL.ret (ρ.set 6 (.d d))) (fun (ρ : DL.Env) => DL.ret true) (fun (ρ : DL.Env) => bnd (rd ρ 2) fun x => bnd (rd ρ 6) fun y => ixD x y) ρ) xs))) fun ds => DL.ret (.lst ds)) fun x => bnd (DL.ret []) fun xs => DL.ret (x :: xs)) s__law_place) fun k => setAt 3 ρ z d k) xs ρ) fun (ρ : DL.Env) => bnd (frzW 3 ρ) fun (ρ : DL.Env) => bnd (bnd (bnd (rd ρ 3) fun x => bnd (DL.ret []) fun xs => DL.ret (x :: xs)) tupleD) fun d => DL.ret (.rt d ρ)

def W__law_case_right (G : Gx) : DL.Env → W Out := fun (ρ : DL.Env) => seqW (bnd (bnd (bnd (rd ρ 1) fun x => bnd (bnd (rd ρ 2) fun x => bnd (DL.ret []) fun xs => DL.ret (x :: xs)) fun xs => DL.ret (x :: xs)) mk_Table) fun d => DL.ret (.nx (ρ.set 3 (.d d)))) fun (ρ : DL.Env) => seqW (bnd (bnd (bnd (rd ρ 2) fun x => bnd (DL.ret []) fun xs => DL.ret (x :: xs)) minUD) fun d => DL.ret (.nx (ρ.set 4 (.d d)))) fun (ρ : DL.Env) => seqW (bnd (bnd (bnd (bnd (bnd (bnd (bnd (bnd (bnd (rd ρ 1) fun x => bnd (DL.ret []) fun xs => DL.ret (x :: xs)) s__law_lots) fun x => bnd (bnd (rd ρ 2) fun x => bnd (DL.ret []) fun xs => DL.ret (x :: xs)) fun xs => DL.ret (x :: xs)) zip2S) fun xs => grd (xs.length ≤ sizeLine) (nox (lcGo (lcF [9, 11] (tupG 2 (consG (fun (d : D) (ρ : DL.Env) => DL.ret (ρ.set 9 (.d d))) (consG (fun (d : D) (ρ : DL.Env) => DL.ret (ρ.set 11 (.d d))) nilG))) (fun (ρ : DL.Env) => bnd (bnd (rd ρ 11) fun x => bnd (rd ρ 4) fun y => eqD eqS false x y) asB) (fun (ρ : DL.Env) => rd ρ 9) ρ) xs))) fun ds => DL.ret (.lst ds)) fun x => bnd (DL.ret []) fun xs => DL.ret (x :: xs)) tupleD) fun d => DL.ret (.nx (ρ.set 5 (.d d)))) fun (ρ : DL.Env) => seqW (bnd (notT (bnd (bnd (bnd (bnd (bnd (rd ρ 3) fun x => bnd (DL.ret []) fun xs => DL.ret (x :: xs)) s_least_lots) fun x => bnd (bnd (bnd (bnd (rd ρ 4) fun x => bnd (bnd (rd ρ 5) fun x => bnd (DL.ret []) fun xs => DL.ret (x :: xs)) fun xs => DL.ret (x :: xs)) fun xs => DL.ret (.tup xs)) fun x => bnd (DL.ret []) fun xs => DL.ret (x :: xs)) fun xs => DL.ret (x :: xs)) s__law_is) truD)) fun t => if t = true then bnd (DL.ret (.bl false)) fun d => DL.ret (.rt d ρ) else DL.ret (.nx ρ)) fun (ρ : DL.Env) => seqW (bnd (andT (bnd (bnd (bnd (rd ρ 1) fun x => bnd (bnd (rd ρ 2) fun x => bnd (DL.ret []) fun xs => DL.ret (x :: xs)) fun xs => DL.ret (x :: xs)) s__law_is_hollow) truD) (notT (bnd (bnd (bnd (rd ρ 5) fun x => bnd (DL.ret []) fun xs => DL.ret (x :: xs)) s__law_lattice_right) truD))) fun t => if t = true then bnd (DL.ret (.bl false)) fun d => DL.ret (.rt d ρ) else DL.ret (.nx ρ)) fun (ρ : DL.Env) => seqW (bnd (bnd (bnd (bnd (bnd (rd ρ 0) fun x => bnd (bnd (bnd (rd ρ 1) fun d => bnd (rgW d) fun xs => DL.ret (.lst xs)) fun x => bnd (DL.ret []) fun xs => DL.ret (x :: xs)) fun xs => DL.ret (x :: xs)) s__law_mixed) fun x => bnd (DL.ret []) fun xs => DL.ret (x :: xs)) tupleD) fun d => DL.ret (.nx (ρ.set 6 (.d d)))) fun (ρ : DL.Env) => seqW (bnd (bnd (bnd (rd ρ 5) seqD) fun xs => grd (xs.length ≤ sizeLine) (nox (lcGo (lcF [9] (fun (d : D) (ρ : DL.Env) => DL.ret (ρ.set 9 (.d d))) (fun (ρ : DL.Env) => DL.ret true) (fun (ρ : DL.Env) => bnd (bnd (bnd (bnd (bnd (bnd (bnd (rd ρ 9) seqD) fun xs => grd (xs.length ≤ sizeLine) (nox (lcGo (lcF [12] (fun (d : D) (ρ : DL.Env) => DL.ret (ρ.set 12 (.d d))) (fun (ρ : DL.Env) => DL.ret true) (fun (ρ : DL.Env) => bnd (rd ρ 6) fun x => bnd (rd ρ 12) fun y => ixD x y) ρ) xs))) fun ds => DL.ret (.lst ds)) fun x => bnd (DL.ret []) fun xs => DL.ret (x :: xs)) sortAnyD) fun x => bnd (DL.ret []) fun xs => DL.ret (x :: xs)) tupleD) ρ) xs))) fun ds => DL.ret (.nx (ρ.set 7 (.d (.lst ds))))) fun (ρ : DL.Env) => seqW (bnd (bnd (bnd (bnd (bnd (bnd (bnd (bnd (rd ρ 7) seqD) fun xs => grd (xs.length ≤ sizeLine) (nox (lcGo (lcF [9] (fun (d : D) (ρ : DL.Env) => DL.ret (ρ.set 9 (.d d))) (fun (ρ : DL.Env) => DL.ret true) (fun (ρ : DL.Env) => bnd (bnd (bnd (bnd (rd ρ 9) fun x => bnd (DL.ret []) fun xs => DL.ret (x :: xs)) s__law_place) fun x => bnd (bnd (rd ρ 9) fun x => bnd (DL.ret []) fun xs => DL.ret (x :: xs)) fun xs => DL.ret (x :: xs)) fun xs => DL.ret (.tup xs)) ρ) xs))) fun ds => DL.ret (.lst ds)) fun x => bnd (DL.ret []) fun xs => DL.ret (x :: xs)) sortAnyD) seqD) fun xs => grd (xs.length ≤ sizeLine) (nox (lcGo (lcF [10] (fun (d : D) (ρ : DL.Env) => DL.ret (ρ.set 10 (.d d))) (fun (ρ : DL.Env) => DL.ret true) (fun (ρ : DL.Env) => bnd (rd ρ 10) fun x => bnd (DL.ret (.int 1)) fun y => ixD x y) ρ) xs))) fun ds => DL.ret (.nx (ρ.set 7 (.d (.lst ds))))) fun (ρ : DL.Env) => seqW (bnd (bnd (bnd (rd ρ 1) fun x => bnd (bnd (bnd (bnd (rd ρ 1) fun x => bnd (bnd (rd ρ 2) fun x => bnd (bnd (rd ρ 6) fun x => bnd (DL.ret []) fun xs => DL.ret (x :: xs)) fun xs => DL.ret (x :: xs)) fun xs => DL.ret (x :: xs)) s__law_called) fun x => bnd (DL.ret []) fun xs => DL.ret (x :: xs)) fun xs => DL.ret (x :: xs)) mk_Table) fun d => DL.ret (.nx (ρ.set 8 (.d d)))) fun (ρ : DL.Env) => seqW (bnd (notT (bnd (bnd (bnd (bnd (bnd (rd ρ 8) fun x => bnd (DL.ret []) fun xs => DL.ret (x :: xs)) s_least_lots) fun x => bnd (bnd (bnd (bnd (rd ρ 4) fun x => bnd (bnd (bnd (bnd (rd ρ 7) fun x => bnd (DL.ret []) fun xs => DL.ret (x :: xs)) tupleD) fun x => bnd (DL.ret []) fun xs => DL.ret (x :: xs)) fun xs => DL.ret (x :: xs)) fun xs => DL.ret (.tup xs)) fun x => bnd (DL.ret []) fun xs => DL.ret (x :: xs)) fun xs => DL.ret (x :: xs)) s__law_is) truD)) fun t => if t = true then bnd (DL.ret (.bl false)) fun d => DL.ret (.rt d ρ) else DL.ret (.nx ρ)) fun (ρ : DL.Env) => bnd (bnd (bnd (bnd (bnd (bnd (rd ρ 3) fun x => fldD G "many" x) fun x => bnd (bnd (bnd (rd ρ 3) fun x => fldD G "numbers" x) fun x => bnd (DL.ret []) fun xs => DL.ret (x :: xs)) fun xs => DL.ret (x :: xs)) fun xs => DL.ret (.lst xs)) fun x => bnd (bnd (bnd (bnd (rd ρ 1) fun x => bnd (bnd (rd ρ 2) fun x => bnd (DL.ret []) fun xs => DL.ret (x :: xs)) fun xs => DL.ret (x :: xs)) fun xs => DL.ret (.lst xs)) fun x => bnd (DL.ret []) fun xs => DL.ret (x :: xs)) fun xs => DL.ret (x :: xs)) s__law_is) fun d => DL.ret (.rt d ρ)

def W_law (G : Gx) : DL.Env → W Out := fun (ρ : DL.Env) => seqW (bnd (bnd (bnd (rd ρ 0) fun x => bnd (DL.ret []) fun xs => DL.ret (x :: xs)) s__law_hand) fun d => DL.ret (.nx (ρ.set 1 (.d d)))) fun (ρ : DL.Env) => seqW (bnd (bnd (bnd (DL.ret (.int 2)) fun x => bnd (bnd (bnd (bnd (DL.ret (.int 0)) fun x => bnd (bnd (bnd (DL.ret (.int 1)) fun x => negD x) fun x => bnd (bnd (bnd (DL.ret (.int 1)) fun x => negD x) fun x => bnd (bnd (bnd (DL.ret (.int 2)) fun x => negD x) fun x => bnd (DL.ret []) fun xs => DL.ret (x :: xs)) fun xs => DL.ret (x :: xs)) fun xs => DL.ret (x :: xs)) fun xs => DL.ret (x :: xs)) fun xs => DL.ret (.tup xs)) fun x => bnd (DL.ret []) fun xs => DL.ret (x :: xs)) fun xs => DL.ret (x :: xs)) mk_Table) fun d => DL.ret (.nx (ρ.set 2 (.d d)))) fun (ρ : DL.Env) => seqW (bnd (notT (bnd (bnd (bnd (bnd (bnd (bnd (bnd (rd ρ 2) fun x => bnd (DL.ret []) fun xs => DL.ret (x :: xs)) s_least_lots) fun x => bnd (bnd (bnd (bnd (bnd (bnd (DL.ret (.int 1)) fun x => bnd (bnd (bnd (bnd (DL.ret (.int 0)) fun x => bnd (bnd (DL.ret (.int 0)) fun x => bnd (DL.ret []) fun xs => DL.ret (x :: xs)) fun xs => DL.ret (x :: xs)) fun xs => DL.ret (.tup xs)) fun x => bnd (DL.ret []) fun xs => DL.ret (x :: xs)) fun xs => DL.ret (x :: xs)) mk_Table) fun x => bnd (DL.ret []) fun xs => DL.ret (x :: xs)) s_least_lots) fun x => bnd (DL.ret []) fun xs => DL.ret (x :: xs)) fun xs => DL.ret (x :: xs)) fun xs => DL.ret (.lst xs)) fun x => bnd (bnd (bnd (bnd (bnd (bnd (bnd (DL.ret (.int 2)) fun x => negD x) fun x => bnd (bnd (bnd (bnd (bnd (bnd (DL.ret (.int 0)) fun x => bnd (bnd (DL.ret (.int 1)) fun x => bnd (DL.ret []) fun xs => DL.ret (x :: xs)) fun xs => DL.ret (x :: xs)) fun xs => DL.ret (.tup xs)) fun x => bnd (DL.ret []) fun xs => DL.ret (x :: xs)) fun xs => DL.ret (.tup xs)) fun x => bnd (DL.ret []) fun xs => DL.ret (x :: xs)) fun xs => DL.ret (x :: xs)) fun xs => DL.ret (.tup xs)) fun x => bnd (bnd (bnd (bnd (DL.ret (.int 0)) fun x => bnd (bnd (bnd (bnd (bnd (DL.ret []) fun xs => DL.ret (.tup xs)) fun x => bnd (bnd (bnd (bnd (DL.ret (.int 0)) fun x => bnd (DL.ret []) fun xs => DL.ret (x :: xs)) fun xs => DL.ret (.tup xs)) fun x => bnd (DL.ret []) fun xs => DL.ret (x :: xs)) fun xs => DL.ret (x :: xs)) fun xs => DL.ret (.tup xs)) fun x => bnd (DL.ret []) fun xs => DL.ret (x :: xs)) fun xs => DL.ret (x :: xs)) fun xs => DL.ret (.tup xs)) fun x => bnd (DL.ret []) fun xs => DL.ret (x :: xs)) fun xs => DL.ret (x :: xs)) fun xs => DL.ret (.lst xs)) fun x => bnd (DL.ret []) fun xs => DL.ret (x :: xs)) fun xs => DL.ret (x :: xs)) s__law_is) truD)) fun t => if t = true then bnd (DL.ret (.bl false)) fun d => DL.ret (.rt d ρ) else DL.ret (.nx ρ)) fun (ρ : DL.Env) => seqW (bnd (bnd (bnd (rd ρ 1) fun x => bnd (bnd (bnd (bnd (DL.ret .non) fun x => bnd (bnd (DL.ret (.int 0)) fun x => bnd (bnd (bnd (bnd (DL.ret (.int 0)) fun x => bnd (bnd (DL.ret (.int 1)) fun x => bnd (DL.ret []) fun xs => DL.ret (x :: xs)) fun xs => DL.ret (x :: xs)) fun xs => DL.ret (.tup xs)) fun x => bnd (bnd (DL.ret (.str "table")) fun x => bnd (bnd (bnd (DL.ret []) fun xs => DL.ret (.lst xs)) fun x => bnd (bnd (DL.ret (.dic [] [])) fun x => bnd (bnd (bnd (bnd (DL.ret (.int 1)) fun x => bnd (bnd (bnd (bnd (DL.ret (.int 0)) fun x => bnd (bnd (DL.ret (.int 0)) fun x => bnd (DL.ret []) fun xs => DL.ret (x :: xs)) fun xs => DL.ret (x :: xs)) fun xs => DL.ret (.tup xs)) fun x => bnd (DL.ret []) fun xs => DL.ret (x :: xs)) fun xs => DL.ret (x :: xs)) fun xs => DL.ret (.tup xs)) fun x => bnd (DL.ret []) fun xs => DL.ret (x :: xs)) fun xs => DL.ret (x :: xs)) fun xs => DL.ret (x :: xs)) fun xs => DL.ret (x :: xs)) fun xs => DL.ret (x :: xs)) fun xs => DL.ret (x :: xs)) fun xs => DL.ret (x :: xs)) fun xs => DL.ret (.lst xs)) fun x => bnd (DL.ret []) fun xs => DL.ret (x :: xs)) fun xs => DL.ret (x :: xs)) s__law_any) fun d => DL.ret (.nx (ρ.set 3 (.d d)))) fun (ρ : DL.Env) => seqW (bnd (bnd (bnd (bnd (rds [3] ρ) fun cs => bnd (DL.ret []) fun ds => bnd (nox (s__law_word (ds ++ [.clo 0 cs]))) gNo) fun x => bnd (DL.ret (.str "NoTable")) fun y => eqD eqS true x y) asB) fun t => if t = true then bnd (DL.ret (.bl false)) fun d => DL.ret (.rt d ρ) else DL.ret (.nx ρ)) fun (ρ : DL.Env) => seqW (bnd (bnd (bnd (DL.ret (.int 5)) fun x => bnd (DL.ret []) fun xs => DL.ret (x :: xs)) rng1W) fun xs => forGo (fun x ρ => bnd (nox ((fun (d : D) (ρ : DL.Env) => DL.ret (ρ.set 4 (.d d))) x ρ)) fun (ρ : DL.Env) => seqW (bnd (bnd (DL.ret (.int 1)) fun x => bnd (bnd (bnd (rd ρ 1) fun x => bnd (bnd (DL.ret (.int 6)) fun x => bnd (DL.ret []) fun xs => DL.ret (x :: xs)) fun xs => DL.ret (x :: xs)) s__law_draw) fun y => addD x y) fun d => DL.ret (.nx (ρ.set 5 (.d d)))) fun (ρ : DL.Env) => seqW (bnd (bnd (bnd (bnd (bnd (bnd (rd ρ 1) fun x => bnd (bnd (DL.ret (.int 2)) fun x => bnd (DL.ret []) fun xs => DL.ret (x :: xs)) fun xs => DL.ret (x :: xs)) s__law_draw) fun x => bnd (DL.ret (.int 0)) fun y => eqD eqS false x y) asB) fun k => if k = true then bnd (bnd (rd ρ 1) fun x => bnd (bnd (rd ρ 5) fun x => bnd (DL.ret []) fun xs => DL.ret (x :: xs)) fun xs => DL.ret (x :: xs)) s__law_hollow_values else bnd (bnd (rd ρ 1) fun x => bnd (bnd (rd ρ 5) fun x => bnd (DL.ret []) fun xs => DL.ret (x :: xs)) fun xs => DL.ret (x :: xs)) s__law_values) fun d => DL.ret (.nx (ρ.set 6 (.d d)))) fun (ρ : DL.Env) => bnd (notT (bnd (bnd (bnd (rd ρ 1) fun x => bnd (bnd (rd ρ 5) fun x => bnd (bnd (rd ρ 6) fun x => bnd (DL.ret []) fun xs => DL.ret (x :: xs)) fun xs => DL.ret (x :: xs)) fun xs => DL.ret (x :: xs)) s__law_case_right) truD)) fun t => if t = true then bnd (DL.ret (.bl false)) fun d => DL.ret (.rt d ρ) else DL.ret (.nx ρ)) xs ρ) fun (ρ : DL.Env) => bnd (DL.ret (.bl true)) fun d => DL.ret (.rt d ρ)

def WL_0 (G : Gx) : DL.Env → W D := fun (ρ : DL.Env) => bnd (bnd (rd ρ 0) fun x => bnd (DL.ret []) fun xs => DL.ret (x :: xs)) s_least_lots

end K09
end
section
set_option Elab.async false
set_option linter.all false
set_option maxRecDepth 100000
set_option maxHeartbeats 4000000
set_option autoImplicit false
namespace K09
open PySem PySem.Spec L2 DL

theorem m_is_integer {G : Gx} (gs : GS G) (ds : List D) (Q : D → Prop) (E : DX → Prop) (h : s_is_integer ds Q E) : endW (W_is_integer G (env0 1 ds)) Q E := by
  have e : (P_is_integer ds).w = endW (W_is_integer G (env0 1 ds)) := by
    unfold P_is_integer O_is_integer W_is_integer
    simp only [w_ok, w_st, w_ob, w_og, w_oo, w_ono, w_ite, w_rd, w_rds, w_asB, w_tru, w_andT, w_orT, w_notT, w_add, w_sub, w_mul, w_mod, w_div, w_pow, w_shl, w_band, w_bor, w_neg, w_lt, w_le, w_gt, w_ge, w_is, w_isnot, w_ix, w_fld gs.flds, w_len, w_sum, w_any, w_all, w_tuple, w_list, w_int, w_abs, w_seq, w_end, w_nil, w_cons, w_tup, w_enum, w_seqD, w_rng1, w_rng2, w_rg, w_zip, w_zip2, w_lcGo, w_lcF, w_for, w_slice, w_intO, w_frz, w_ownL, w_ext, w_setAt, w_popAt, w_isi gs.flds, w_isiA gs.flds, w_eq0, w_eq (S := eqP) (T := eqS) (fun _ _ => rfl), w_in, w_sort, w_min, w_olt, w_ownK, w_putAt, w_oget, w_oin, w_lock, w_dget, w_itms, w_repr, w_par2, w_par3, w_ex, w_lc2, w_lcount, w_lindex, w_sortSet, w_oix, w_aug, w_minU, w_maxU, w_min2, w_max2, w_rep]
    try rfl
  exact e ▸ h
theorem m_is_between {G : Gx} (gs : GS G) (ds : List D) (Q : D → Prop) (E : DX → Prop) (h : s_is_between ds Q E) : endW (W_is_between G (env0 3 ds)) Q E := by
  have e : (P_is_between ds).w = endW (W_is_between G (env0 3 ds)) := by
    unfold P_is_between O_is_between W_is_between
    simp only [w_ok, w_st, w_ob, w_og, w_oo, w_ono, w_ite, w_rd, w_rds, w_asB, w_tru, w_andT, w_orT, w_notT, w_add, w_sub, w_mul, w_mod, w_div, w_pow, w_shl, w_band, w_bor, w_neg, w_lt, w_le, w_gt, w_ge, w_is, w_isnot, w_ix, w_fld gs.flds, w_len, w_sum, w_any, w_all, w_tuple, w_list, w_int, w_abs, w_seq, w_end, w_nil, w_cons, w_tup, w_enum, w_seqD, w_rng1, w_rng2, w_rg, w_zip, w_zip2, w_lcGo, w_lcF, w_for, w_slice, w_intO, w_frz, w_ownL, w_ext, w_setAt, w_popAt, w_isi gs.flds, w_isiA gs.flds, w_eq0, w_eq (S := eqP) (T := eqS) (fun _ _ => rfl), w_in, w_sort, w_min, w_olt, w_ownK, w_putAt, w_oget, w_oin, w_lock, w_dget, w_itms, w_repr, w_par2, w_par3, w_ex, w_lc2, w_lcount, w_lindex, w_sortSet, w_oix, w_aug, w_minU, w_maxU, w_min2, w_max2, w_rep]
    try rfl
  exact e ▸ h
theorem m_mask_of {G : Gx} (gs : GS G) (ds : List D) (Q : D → Prop) (E : DX → Prop) (h : s_mask_of ds Q E) : endW (W_mask_of G (env0 2 ds)) Q E := by
  have e : (P_mask_of ds).w = endW (W_mask_of G (env0 2 ds)) := by
    unfold P_mask_of O_mask_of W_mask_of
    unfold C_mask_of_1
    simp only [w_ok, w_st, w_ob, w_og, w_oo, w_ono, w_ite, w_rd, w_rds, w_asB, w_tru, w_andT, w_orT, w_notT, w_add, w_sub, w_mul, w_mod, w_div, w_pow, w_shl, w_band, w_bor, w_neg, w_lt, w_le, w_gt, w_ge, w_is, w_isnot, w_ix, w_fld gs.flds, w_len, w_sum, w_any, w_all, w_tuple, w_list, w_int, w_abs, w_seq, w_end, w_nil, w_cons, w_tup, w_enum, w_seqD, w_rng1, w_rng2, w_rg, w_zip, w_zip2, w_lcGo, w_lcF, w_for, w_slice, w_intO, w_frz, w_ownL, w_ext, w_setAt, w_popAt, w_isi gs.flds, w_isiA gs.flds, w_eq0, w_eq (S := eqP) (T := eqS) (fun _ _ => rfl), w_in, w_sort, w_min, w_olt, w_ownK, w_putAt, w_oget, w_oin, w_lock, w_dget, w_itms, w_repr, w_par2, w_par3, w_ex, w_lc2, w_lcount, w_lindex, w_sortSet, w_oix, w_aug, w_minU, w_maxU, w_min2, w_max2, w_rep]
    try rfl
  exact e ▸ h
theorem m_lot_of {G : Gx} (gs : GS G) (ds : List D) (Q : D → Prop) (E : DX → Prop) (h : s_lot_of ds Q E) : endW (W_lot_of G (env0 2 ds)) Q E := by
  have e : (P_lot_of ds).w = endW (W_lot_of G (env0 2 ds)) := by
    unfold P_lot_of O_lot_of W_lot_of
    unfold C_lot_of_1
    simp only [w_ok, w_st, w_ob, w_og, w_oo, w_ono, w_ite, w_rd, w_rds, w_asB, w_tru, w_andT, w_orT, w_notT, w_add, w_sub, w_mul, w_mod, w_div, w_pow, w_shl, w_band, w_bor, w_neg, w_lt, w_le, w_gt, w_ge, w_is, w_isnot, w_ix, w_fld gs.flds, w_len, w_sum, w_any, w_all, w_tuple, w_list, w_int, w_abs, w_seq, w_end, w_nil, w_cons, w_tup, w_enum, w_seqD, w_rng1, w_rng2, w_rg, w_zip, w_zip2, w_lcGo, w_lcF, w_for, w_slice, w_intO, w_frz, w_ownL, w_ext, w_setAt, w_popAt, w_isi gs.flds, w_isiA gs.flds, w_eq0, w_eq (S := eqP) (T := eqS) (fun _ _ => rfl), w_in, w_sort, w_min, w_olt, w_ownK, w_putAt, w_oget, w_oin, w_lock, w_dget, w_itms, w_repr, w_par2, w_par3, w_ex, w_lc2, w_lcount, w_lindex, w_sortSet, w_oix, w_aug, w_minU, w_maxU, w_min2, w_max2, w_rep]
    try rfl
  exact e ▸ h
theorem m_Table_eq {G : Gx} (gs : GS G) (ds : List D) (Q : D → Prop) (E : DX → Prop) (h : s_Table_eq ds Q E) : endW (W_Table_eq G (env0 2 ds)) Q E := by
  have e : (P_Table_eq ds).w = endW (W_Table_eq G (env0 2 ds)) := by
    unfold P_Table_eq O_Table_eq W_Table_eq
    simp only [w_ok, w_st, w_ob, w_og, w_oo, w_ono, w_ite, w_rd, w_rds, w_asB, w_tru, w_andT, w_orT, w_notT, w_add, w_sub, w_mul, w_mod, w_div, w_pow, w_shl, w_band, w_bor, w_neg, w_lt, w_le, w_gt, w_ge, w_is, w_isnot, w_ix, w_fld gs.flds, w_len, w_sum, w_any, w_all, w_tuple, w_list, w_int, w_abs, w_seq, w_end, w_nil, w_cons, w_tup, w_enum, w_seqD, w_rng1, w_rng2, w_rg, w_zip, w_zip2, w_lcGo, w_lcF, w_for, w_slice, w_intO, w_frz, w_ownL, w_ext, w_setAt, w_popAt, w_isi gs.flds, w_isiA gs.flds, w_eq0, w_eq (S := eqP) (T := eqS) (fun _ _ => rfl), w_in, w_sort, w_min, w_olt, w_ownK, w_putAt, w_oget, w_oin, w_lock, w_dget, w_itms, w_repr, w_par2, w_par3, w_ex, w_lc2, w_lcount, w_lindex, w_sortSet, w_oix, w_aug, w_minU, w_maxU, w_min2, w_max2, w_rep]
    try rfl
  exact e ▸ h
theorem m_check_table {G : Gx} (gs : GS G) (ds : List D) (Q : D → Prop) (E : DX → Prop) (h : s_check_table ds Q E) : endW (W_check_table G (env0 1 ds)) Q E := by
  have e : (P_check_table ds).w = endW (W_check_table G (env0 1 ds)) := by
    unfold P_check_table O_check_table W_check_table
    simp only [w_ok, w_st, w_ob, w_og, w_oo, w_ono, w_ite, w_rd, w_rds, w_asB, w_tru, w_andT, w_orT, w_notT, w_add, w_sub, w_mul, w_mod, w_div, w_pow, w_shl, w_band, w_bor, w_neg, w_lt, w_le, w_gt, w_ge, w_is, w_isnot, w_ix, w_fld gs.flds, w_len, w_sum, w_any, w_all, w_tuple, w_list, w_int, w_abs, w_seq, w_end, w_nil, w_cons, w_tup, w_enum, w_seqD, w_rng1, w_rng2, w_rg, w_zip, w_zip2, w_lcGo, w_lcF, w_for, w_slice, w_intO, w_frz, w_ownL, w_ext, w_setAt, w_popAt, w_isi gs.flds, w_isiA gs.flds, w_eq0, w_eq (S := eqP) (T := eqS) (fun _ _ => rfl), w_in, w_sort, w_min, w_olt, w_ownK, w_putAt, w_oget, w_oin, w_lock, w_dget, w_itms, w_repr, w_par2, w_par3, w_ex, w_lc2, w_lcount, w_lindex, w_sortSet, w_oix, w_aug, w_minU, w_maxU, w_min2, w_max2, w_rep]
    try rfl
  exact e ▸ h
theorem m_least_masks {G : Gx} (gs : GS G) (ds : List D) (Q : D → Prop) (E : DX → Prop) (h : s_least_masks ds Q E) : endW (W_least_masks G (env0 4 ds)) Q E := by
  have e : (P_least_masks ds).w = endW (W_least_masks G (env0 4 ds)) := by
    unfold P_least_masks O_least_masks W_least_masks
    unfold C_least_masks_1
    simp only [w_ok, w_st, w_ob, w_og, w_oo, w_ono, w_ite, w_rd, w_rds, w_asB, w_tru, w_andT, w_orT, w_notT, w_add, w_sub, w_mul, w_mod, w_div, w_pow, w_shl, w_band, w_bor, w_neg, w_lt, w_le, w_gt, w_ge, w_is, w_isnot, w_ix, w_fld gs.flds, w_len, w_sum, w_any, w_all, w_tuple, w_list, w_int, w_abs, w_seq, w_end, w_nil, w_cons, w_tup, w_enum, w_seqD, w_rng1, w_rng2, w_rg, w_zip, w_zip2, w_lcGo, w_lcF, w_for, w_slice, w_intO, w_frz, w_ownL, w_ext, w_setAt, w_popAt, w_isi gs.flds, w_isiA gs.flds, w_eq0, w_eq (S := eqP) (T := eqS) (fun _ _ => rfl), w_in, w_sort, w_min, w_olt, w_ownK, w_putAt, w_oget, w_oin, w_lock, w_dget, w_itms, w_repr, w_par2, w_par3, w_ex, w_lc2, w_lcount, w_lindex, w_sortSet, w_oix, w_aug, w_minU, w_maxU, w_min2, w_max2, w_rep]
    try rfl
  exact e ▸ h
theorem m_least_lots {G : Gx} (gs : GS G) (ds : List D) (Q : D → Prop) (E : DX → Prop) (h : s_least_lots ds Q E) : endW (W_least_lots G (env0 2 ds)) Q E := by
  have e : (P_least_lots ds).w = endW (W_least_lots G (env0 2 ds)) := by
    unfold P_least_lots O_least_lots W_least_lots
    unfold C_least_lots_1
    simp only [w_ok, w_st, w_ob, w_og, w_oo, w_ono, w_ite, w_rd, w_rds, w_asB, w_tru, w_andT, w_orT, w_notT, w_add, w_sub, w_mul, w_mod, w_div, w_pow, w_shl, w_band, w_bor, w_neg, w_lt, w_le, w_gt, w_ge, w_is, w_isnot, w_ix, w_fld gs.flds, w_len, w_sum, w_any, w_all, w_tuple, w_list, w_int, w_abs, w_seq, w_end, w_nil, w_cons, w_tup, w_enum, w_seqD, w_rng1, w_rng2, w_rg, w_zip, w_zip2, w_lcGo, w_lcF, w_for, w_slice, w_intO, w_frz, w_ownL, w_ext, w_setAt, w_popAt, w_isi gs.flds, w_isiA gs.flds, w_eq0, w_eq (S := eqP) (T := eqS) (fun _ _ => rfl), w_in, w_sort, w_min, w_olt, w_ownK, w_putAt, w_oget, w_oin, w_lock, w_dget, w_itms, w_repr, w_par2, w_par3, w_ex, w_lc2, w_lcount, w_lindex, w_sortSet, w_oix, w_aug, w_minU, w_maxU, w_min2, w_max2, w_rep]
    try rfl
  exact e ▸ h
theorem m__law_is {G : Gx} (gs : GS G) (n : Nat) (ds : List D) (Q : D → Prop) (E : DX → Prop) (h : s__law_is_n (n + 1) ds Q E) : endW (W__law_is G (s__law_is_n n) (env0 4 ds)) Q E := by
  have e : (P__law_is_n (n + 1) ds).w = endW (W__law_is G (s__law_is_n n) (env0 4 ds)) := by
    unfold P__law_is_n O__law_is W__law_is
    simp only [w_ok, w_st, w_ob, w_og, w_oo, w_ono, w_ite, w_rd, w_rds, w_asB, w_tru, w_andT, w_orT, w_notT, w_add, w_sub, w_mul, w_mod, w_div, w_pow, w_shl, w_band, w_bor, w_neg, w_lt, w_le, w_gt, w_ge, w_is, w_isnot, w_ix, w_fld gs.flds, w_len, w_sum, w_any, w_all, w_tuple, w_list, w_int, w_abs, w_seq, w_end, w_nil, w_cons, w_tup, w_enum, w_seqD, w_rng1, w_rng2, w_rg, w_zip, w_zip2, w_lcGo, w_lcF, w_for, w_slice, w_intO, w_frz, w_ownL, w_ext, w_setAt, w_popAt, w_isi gs.flds, w_isiA gs.flds, w_eq0, w_eq (S := eqP) (T := eqS) (fun _ _ => rfl), w_in, w_sort, w_min, w_olt, w_ownK, w_putAt, w_oget, w_oin, w_lock, w_dget, w_itms, w_repr, w_par2, w_par3, w_ex, w_lc2, w_lcount, w_lindex, w_sortSet, w_oix, w_aug, w_minU, w_maxU, w_min2, w_max2, w_rep]
    rfl
  exact e ▸ h
theorem m__law_lots {G : Gx} (gs : GS G) (ds : List D) (Q : D → Prop) (E : DX → Prop) (h : s__law_lots ds Q E) : endW (W__law_lots G (env0 4 ds)) Q E := by
  have e : (P__law_lots ds).w = endW (W__law_lots G (env0 4 ds)) := by
    unfold P__law_lots O__law_lots W__law_lots
    unfold L__law_lots_1
    unfold C__law_lots_1
    simp only [w_ok, w_st, w_ob, w_og, w_oo, w_ono, w_ite, w_rd, w_rds, w_asB, w_tru, w_andT, w_orT, w_notT, w_add, w_sub, w_mul, w_mod, w_div, w_pow, w_shl, w_band, w_bor, w_neg, w_lt, w_le, w_gt, w_ge, w_is, w_isnot, w_ix, w_fld gs.flds, w_len, w_sum, w_any, w_all, w_tuple, w_list, w_int, w_abs, w_seq, w_end, w_nil, w_cons, w_tup, w_enum, w_seqD, w_rng1, w_rng2, w_rg, w_zip, w_zip2, w_lcGo, w_lcF, w_for, w_slice, w_intO, w_frz, w_ownL, w_ext, w_setAt, w_popAt, w_isi gs.flds, w_isiA gs.flds, w_eq0, w_eq (S := eqP) (T := eqS) (fun _ _ => rfl), w_in, w_sort, w_min, w_olt, w_ownK, w_putAt, w_oget, w_oin, w_lock, w_dget, w_itms, w_repr, w_par2, w_par3, w_ex, w_lc2, w_lcount, w_lindex, w_sortSet, w_oix, w_aug, w_minU, w_maxU, w_min2, w_max2, w_rep]
    try rfl
  exact e ▸ h
theorem m__law_bit {G : Gx} (gs : GS G) (ds : List D) (Q : D → Prop) (E : DX → Prop) (h : s__law_bit ds Q E) : endW (W__law_bit G (env0 1 ds)) Q E := by
  have e : (P__law_bit ds).w = endW (W__law_bit G (env0 1 ds)) := by
    unfold P__law_bit O__law_bit W__law_bit
    simp only [w_ok, w_st, w_ob, w_og, w_oo, w_ono, w_ite, w_rd, w_rds, w_asB, w_tru, w_andT, w_orT, w_notT, w_add, w_sub, w_mul, w_mod, w_div, w_pow, w_shl, w_band, w_bor, w_neg, w_lt, w_le, w_gt, w_ge, w_is, w_isnot, w_ix, w_fld gs.flds, w_len, w_sum, w_any, w_all, w_tuple, w_list, w_int, w_abs, w_seq, w_end, w_nil, w_cons, w_tup, w_enum, w_seqD, w_rng1, w_rng2, w_rg, w_zip, w_zip2, w_lcGo, w_lcF, w_for, w_slice, w_intO, w_frz, w_ownL, w_ext, w_setAt, w_popAt, w_isi gs.flds, w_isiA gs.flds, w_eq0, w_eq (S := eqP) (T := eqS) (fun _ _ => rfl), w_in, w_sort, w_min, w_olt, w_ownK, w_putAt, w_oget, w_oin, w_lock, w_dget, w_itms, w_repr, w_par2, w_par3, w_ex, w_lc2, w_lcount, w_lindex, w_sortSet, w_oix, w_aug, w_minU, w_maxU, w_min2, w_max2, w_rep]
    try rfl
  exact e ▸ h
theorem m__law_place {G : Gx} (gs : GS G) (ds : List D) (Q : D → Prop) (E : DX → Prop) (h : s__law_place ds Q E) : endW (W__law_place G (env0 2 ds)) Q E := by
  have e : (P__law_place ds).w = endW (W__law_place G (env0 2 ds)) := by
    unfold P__law_place O__law_place W__law_place
    unfold C__law_place_1
    simp only [w_ok, w_st, w_ob, w_og, w_oo, w_ono, w_ite, w_rd, w_rds, w_asB, w_tru, w_andT, w_orT, w_notT, w_add, w_sub, w_mul, w_mod, w_div, w_pow, w_shl, w_band, w_bor, w_neg, w_lt, w_le, w_gt, w_ge, w_is, w_isnot, w_ix, w_fld gs.flds, w_len, w_sum, w_any, w_all, w_tuple, w_list, w_int, w_abs, w_seq, w_end, w_nil, w_cons, w_tup, w_enum, w_seqD, w_rng1, w_rng2, w_rg, w_zip, w_zip2, w_lcGo, w_lcF, w_for, w_slice, w_intO, w_frz, w_ownL, w_ext, w_setAt, w_popAt, w_isi gs.flds, w_isiA gs.flds, w_eq0, w_eq (S := eqP) (T := eqS) (fun _ _ => rfl), w_in, w_sort, w_min, w_olt, w_ownK, w_putAt, w_oget, w_oin, w_lock, w_dget, w_itms, w_repr, w_par2, w_par3, w_ex, w_lc2, w_lcount, w_lindex, w_sortSet, w_oix, w_aug, w_minU, w_maxU, w_min2, w_max2, w_rep]
    try rfl
  exact e ▸ h
theorem m__law_is_hollow {G : Gx} (gs : GS G) (ds : List D) (Q : D → Prop) (E : DX → Prop) (h : s__law_is_hollow ds Q E) : endW (W__law_is_hollow G (env0 10 ds)) Q E := by
  have e : (P__law_is_hollow ds).w = endW (W__law_is_hollow G (env0 10 ds)) := by
    unfold P__law_is_hollow O__law_is_hollow W__law_is_hollow
    unfold L__law_is_hollow_1
    unfold C__law_is_hollow_1
    unfold L__law_is_hollow_2
    unfold C__law_is_hollow_2
    unfold L__law_is_hollow_3
    simp only [w_ok, w_st, w_ob, w_og, w_oo, w_ono, w_ite, w_rd, w_rds, w_asB, w_tru, w_andT, w_orT, w_notT, w_add, w_sub, w_mul, w_mod, w_div, w_pow, w_shl, w_band, w_bor, w_neg, w_lt, w_le, w_gt, w_ge, w_is, w_isnot, w_ix, w_fld gs.flds, w_len, w_sum, w_any, w_all, w_tuple, w_list, w_int, w_abs, w_seq, w_end, w_nil, w_cons, w_tup, w_enum, w_seqD, w_rng1, w_rng2, w_rg, w_zip, w_zip2, w_lcGo, w_lcF, w_for, w_slice, w_intO, w_frz, w_ownL, w_ext, w_setAt, w_popAt, w_isi gs.flds, w_isiA gs.flds, w_eq0, w_eq (S := eqP) (T := eqS) (fun _ _ => rfl), w_in, w_sort, w_min, w_olt, w_ownK, w_putAt, w_oget, w_oin, w_lock, w_dget, w_itms, w_repr, w_par2, w_par3, w_ex, w_lc2, w_lcount, w_lindex, w_sortSet, w_oix, w_aug, w_minU, w_maxU, w_min2, w_max2, w_rep]
    try rfl
  exact e ▸ h
theorem m__law_lattice_right {G : Gx} (gs : GS G) (ds : List D) (Q : D → Prop) (E : DX → Prop) (h : s__law_lattice_right ds Q E) : endW (W__law_lattice_right G (env0 5 ds)) Q E := by
  have e : (P__law_lattice_right ds).w = endW (W__law_lattice_right G (env0 5 ds)) := by
    unfold P__law_lattice_right O__law_lattice_right W__law_lattice_right
    unfold L__law_lattice_right_1
    unfold L__law_lattice_right_2
    unfold C__law_lattice_right_1
    simp only [w_ok, w_st, w_ob, w_og, w_oo, w_ono, w_ite, w_rd, w_rds, w_asB, w_tru, w_andT, w_orT, w_notT, w_add, w_sub, w_mul, w_mod, w_div, w_pow, w_shl, w_band, w_bor, w_neg, w_lt, w_le, w_gt, w_ge, w_is, w_isnot, w_ix, w_fld gs.flds, w_len, w_sum, w_any, w_all, w_tuple, w_list, w_int, w_abs, w_seq, w_end, w_nil, w_cons, w_tup, w_enum, w_seqD, w_rng1, w_rng2, w_rg, w_zip, w_zip2, w_lcGo, w_lcF, w_for, w_slice, w_intO, w_frz, w_ownL, w_ext, w_setAt, w_popAt, w_isi gs.flds, w_isiA gs.flds, w_eq0, w_eq (S := eqP) (T := eqS) (fun _ _ => rfl), w_in, w_sort, w_min, w_olt, w_ownK, w_putAt, w_oget, w_oin, w_lock, w_dget, w_itms, w_repr, w_par2, w_par3, w_ex, w_lc2, w_lcount, w_lindex, w_sortSet, w_oix, w_aug, w_minU, w_maxU, w_min2, w_max2, w_rep]
    try rfl
  exact e ▸ h
theorem m__law_called {G : Gx} (gs : GS G) (ds : List D) (Q : D → Prop) (E : DX → Prop) (h : s__law_called ds Q E) : endW (W__law_called G (env0 7 ds)) Q E := by
  have e : (P__law_called ds).w = endW (W__law_called G (env0 7 ds)) := by
    unfold P__law_called O__law_called W__law_called
    unfold L__law_called_1
    unfold C__law_called_1
    simp only [w_ok, w_st, w_ob, w_og, w_oo, w_ono, w_ite, w_rd, w_rds, w_asB, w_tru, w_andT, w_orT, w_notT, w_add, w_sub, w_mul, w_mod, w_div, w_pow, w_shl, w_band, w_bor, w_neg, w_lt, w_le, w_gt, w_ge, w_is, w_isnot, w_ix, w_fld gs.flds, w_len, w_sum, w_any, w_all, w_tuple, w_list, w_int, w_abs, w_seq, w_end, w_nil, w_cons, w_tup, w_enum, w_seqD, w_rng1, w_rng2, w_rg, w_zip, w_zip2, w_lcGo, w_lcF, w_for, w_slice, w_intO, w_frz, w_ownL, w_ext, w_setAt, w_popAt, w_isi gs.flds, w_isiA gs.flds, w_eq0, w_eq (S := eqP) (T := eqS) (fun _ _ => rfl), w_in, w_sort, w_min, w_olt, w_ownK, w_putAt, w_oget, w_oin, w_lock, w_dget, w_itms, w_repr, w_par2, w_par3, w_ex, w_lc2, w_lcount, w_lindex, w_sortSet, w_oix, w_aug, w_minU, w_maxU, w_min2, w_max2, w_rep]
    try rfl
  exact e ▸ h
end K09
end
section
set_option Elab.async false
set_option linter.all false
set_option maxRecDepth 100000
set_option maxHeartbeats 4000000
set_option autoImplicit false
namespace K09
open PySem PySem.Spec L2 DL
theorem mulOk_small {i j : Int} (h : i.natAbs < 2 ^ 64) : DL.MulOk i j := .inl (.inl (by omega))
theorem mulOk_small2 {i j : Int} (h : j.natAbs < 2 ^ 64) : DL.MulOk i j := .inl (.inr (by omega))
theorem get_lt {ns : List Int} {i : Nat} (h : i < ns.length) : ns[i]? = some (ns.getD i 0) := by
  rw [List.getD_eq_getElem?_getD, List.getElem?_eq_getElem h]
  rfl
theorem gx_eq {G : Gx} (gs : GS G) : G = ⟨G.K, G.cls, flds, G.xcls, G.xfld, G.lam, cloW, G.T⟩ := by
  obtain ⟨K, cls, f, xc, xf, lam, cw, T⟩ := G
  obtain ⟨h1, h2⟩ := gs
  simp only at h1 h2
  subst h1 h2
  rfl
theorem pi_int (i : Int) : P_is_integer [.int i] = .ok (.bl true) := rfl
theorem pi_btw (a b c : Int) : P_is_between [.int a, .int b, .int c] = .ok (.bl (decide (b ≤ a) && decide (a ≤ c))) := by
  by_cases h : b ≤ a
  · have e : decide (b ≤ a) = true := by simpa using h
    simp only [P_is_between, O_is_between]
    simp [ob, rdO, env0, pi_int, asBO, leO, onI2O, endO, h]
  · simp only [P_is_between, O_is_between]
    simp [ob, rdO, env0, pi_int, asBO, leO, onI2O, endO, h]
theorem m__law_hand {G : Gx} (gs : GS G) (ds : List D) (Q : D → Prop) (E : DX → Prop) (h : s__law_hand ds Q E) : endW (W__law_hand G (env0 3 ds)) Q E := by
  match ds, h with
  | [.scr ns], h =>
    obtain ⟨hl, q⟩ := h
    have e : cutD (ns.map D.int) none (some 63) = (ns.take 63).map D.int := by
      unfold cutD HT.sIx
      simp
    simp [DL.endW, DL.bnd, DL.ret, DL.seqW, DL.grd, DL.nox, DL.rd, DL.env0, DL.asB, DL.truD, DL.andT, DL.orT, DL.notT, DL.optW, DL.onI2, DL.cmpI, DL.subD, DL.lenD, DL.intO, DL.tupleD, DL.listD, DL.ite_app, W__law_hand, sliceD, e, seqD, mulD, addD]
    have hm : min 63 ns.length ≤ 63 := Nat.min_le_left _ _
    refine ⟨by rw [sizeLine_eq]; omega, ?_⟩
    rw [← List.map_take]
    refine lcGo_m1 (g := fun i : Int => .int (i.natAbs : Int)) ?_ ?_
    · intro i hi Q hQ
      simp [DL.endW, DL.bnd, DL.ret, DL.seqW, DL.grd, DL.nox, DL.rd, DL.env0, DL.asB, DL.truD, DL.andT, DL.orT, DL.notT, DL.optW, DL.onI2, DL.cmpI, DL.subD, DL.lenD, DL.intO, DL.tupleD, DL.listD, DL.ite_app, lcF, wipeE, intD, absD]
      have : (if i < 0 then -i else i) = (i.natAbs : Int) := by split <;> omega
      rw [this]
      exact hQ
    · rw [ints_map]
      simp [DL.endW, DL.bnd, DL.ret, DL.seqW, DL.grd, DL.nox, DL.rd, DL.env0, DL.asB, DL.truD, DL.andT, DL.orT, DL.notT, DL.optW, DL.onI2, DL.cmpI, DL.subD, DL.lenD, DL.intO, DL.tupleD, DL.listD, DL.ite_app]
      refine ⟨mulOk_small (by decide), ?_⟩
      simp only [handD]
      have hi : intsD (List.take 63 (List.map (D.int ∘ fun i : Int => (i.natAbs : Int)) ns)) = some ((ns.take 63).map fun i : Int => (i.natAbs : Int)) := by rw [← List.map_take, ← List.map_map, intsD_map]
      rw [hi]
      simp only [grd, DL.ret]
      refine ⟨⟨fun n hn => ?_, by omega, by omega, by omega, by omega, by omega, by omega⟩, q⟩
      obtain ⟨i, _, rfl⟩ := List.mem_map.mp hn
      omega
theorem m__law_any {G : Gx} (gs : GS G) (ds : List D) (Q : D → Prop) (E : DX → Prop) (h : s__law_any ds Q E) : endW (W__law_any G (env0 2 ds)) Q E := by
  match ds, h with
  | [.hnd, .lst xs], h =>
    obtain ⟨h1, h2, q⟩ := h
    simp [DL.endW, DL.bnd, DL.ret, DL.seqW, DL.grd, DL.nox, DL.rd, DL.env0, DL.asB, DL.truD, DL.andT, DL.orT, DL.notT, DL.optW, DL.onI2, DL.cmpI, DL.subD, DL.lenD, DL.intO, DL.tupleD, DL.listD, DL.ite_app, W__law_any, drawS]
    refine ⟨⟨h1, by omega⟩, ?_⟩
    intro d hd
    obtain ⟨r, e, r0, r1⟩ := hd
    subst e
    obtain ⟨x, hx⟩ : ∃ x, xs[r.toNat]? = some x := ⟨_, List.getElem?_eq_getElem (by omega)⟩
    rw [ixL r0 hx]
    exact q x (List.mem_of_getElem? hx)
theorem seqW_I {m : W Out} {f : DL.Env → W Out} {Q : Out → Prop} {E : DX → Prop} (I : DL.Env → Prop) (h1 : ∀ R : Out → Prop, (∀ ρ, I ρ → R (.nx ρ)) → m R E) (h2 : ∀ ρ, I ρ → f ρ Q E) : seqW m f Q E := h1 _ h2
theorem cdiv_small {m j : Int} (h0 : 0 < j) (h1 : j < 2 ^ 200) : CDivW m j := by
  refine ⟨h0, ?_⟩
  have hn : j.natAbs ≠ 0 := by omega
  have : j.natAbs.log2 < 200 := (Nat.log2_lt hn).mpr (by omega)
  omega
theorem m__law_draw (G : Gx) (a c : Addr) (ns : List Int) (i : Nat) (g m kk many : Int) (Q : Out → Prop) (h1 : ∀ n ∈ ns, 0 ≤ n) (h2 : i ≤ ns.length) (h3 : 0 ≤ g) (h4 : 0 ≤ m) (h5 : 0 ≤ kk) (h6 : m < 2147483648) (h7 : 0 < many) (h8 : many < 2 ^ 200)
    (hQ : ∀ (r : Int) (i' : Nat) (g' m' kk' : Int) (ρ : DL.Env), 0 ≤ r → r < many → i' ≤ ns.length → 0 ≤ g' → 0 ≤ m' → 0 ≤ kk' → m' < 2147483648 → ρ[0]? = some (.own (.hnd a c ns [(i' : Int), g', m', kk'])) → Q (.rt (.int r) ρ)) :
    W__law_draw G (.own (.hnd a c ns [(i : Int), g, m, kk]) :: .d (.int many) :: List.replicate 3 .un) Q (fun _ => False) := by
  unfold W__law_draw
  refine seqW_I (I := fun ρ => ∃ (i : Nat) (g m : Int) (x2 : Sl), ρ = [.own (.hnd a c ns [(i : Int), g, m, kk]), .d (.int many), x2, .un, .un] ∧ i ≤ ns.length ∧ 0 ≤ g ∧ 0 ≤ m ∧ m < 2147483648) ?_ ?_
  · intro R hR
    simp [DL.endW, DL.bnd, DL.ret, DL.seqW, DL.grd, DL.nox, DL.rd, DL.env0, DL.asB, DL.truD, DL.andT, DL.orT, DL.notT, DL.optW, DL.onI2, DL.cmpI, DL.subD, DL.lenD, DL.intO, DL.tupleD, DL.listD, DL.ite_app, ownH, hixD, eq_int]
    by_cases c1 : g = 0
    · subst c1
      by_cases c2 : (i : Int) < ns.length
      · have hi : i < ns.length := by omega
        have e1 : ixD (.lst (ns.map D.int)) (.int (i : Int)) = DL.ret (.int (ns.getD i 0)) := ixL_int (by omega) (by rw [Int.toNat_natCast]; exact get_lt hi)
        have hc := h1 _ (List.mem_of_getElem? (get_lt hi))
        generalize ns.getD i 0 = cell at e1 hc
        simp [DL.endW, DL.bnd, DL.ret, DL.seqW, DL.grd, DL.nox, DL.rd, DL.env0, DL.asB, DL.truD, DL.andT, DL.orT, DL.notT, DL.optW, DL.onI2, DL.cmpI, DL.subD, DL.lenD, DL.intO, DL.tupleD, DL.listD, DL.ite_app, c2, hi, e1, addD, hsetD, ownH, hixD, mulD, modD, intD]
        have ep : powD (.int 10) (.int 18) = DL.ret (.int (10 ^ 18)) := by
          have : CPow 10 18 := ⟨by decide, by decide, by decide⟩
          funext Q E
          show (CPow 10 18 ∧ Q (.int (10 ^ 18))) = Q (.int (10 ^ 18))
          simp [this]
        refine ⟨mulOk_small2 (by decide), mulOk_small2 (by decide), ?_⟩
        rw [ep]
        simp [DL.endW, DL.bnd, DL.ret, DL.seqW, DL.grd, DL.nox, DL.rd, DL.env0, DL.asB, DL.truD, DL.andT, DL.orT, DL.notT, DL.optW, DL.onI2, DL.cmpI, DL.subD, DL.lenD, DL.intO, DL.tupleD, DL.listD, DL.ite_app]
        split
        · exact hR _ ⟨i + 1, cell, (m * 69621 + cell * 40692 + 31) % 2147483629, .d (.int cell), by simp, by omega, by omega, Int.emod_nonneg _ (by decide), by have := Int.emod_lt_of_pos (m * 69621 + cell * 40692 + 31) (show (0 : Int) < 2147483629 by decide); omega⟩
        · exact hR _ ⟨i + 1, 0, (m * 69621 + cell * 40692 + 31) % 2147483629, .d (.int cell), by simp, by omega, by omega, Int.emod_nonneg _ (by decide), by have := Int.emod_lt_of_pos (m * 69621 + cell * 40692 + 31) (show (0 : Int) < 2147483629 by decide); omega⟩
      · have hi : ¬ i < ns.length := by omega
        simp [c2, hi]
        exact hR _ ⟨i, 0, m, _, rfl, h2, by omega, h4, h6⟩
    · simp [c1]
      exact hR _ ⟨i, g, m, _, rfl, h2, h3, h4, h6⟩
  · rintro ρ ⟨i, g, m, x2, rfl, h2, h3, h4, h6⟩
    simp [DL.endW, DL.bnd, DL.ret, DL.seqW, DL.grd, DL.nox, DL.rd, DL.env0, DL.asB, DL.truD, DL.andT, DL.orT, DL.notT, DL.optW, DL.onI2, DL.cmpI, DL.subD, DL.lenD, DL.intO, DL.tupleD, DL.listD, DL.ite_app, ownH, hixD]
    by_cases c1 : 0 < g
    · simp [DL.endW, DL.bnd, DL.ret, DL.seqW, DL.grd, DL.nox, DL.rd, DL.env0, DL.asB, DL.truD, DL.andT, DL.orT, DL.notT, DL.optW, DL.onI2, DL.cmpI, DL.subD, DL.lenD, DL.intO, DL.tupleD, DL.listD, DL.ite_app, c1, intD, modD, h7, ownH, hixD, divD, hsetD, cdiv_small h7 h8]
      exact hQ (g % many) i (g / many) m kk _ (Int.emod_nonneg _ (by omega)) (Int.emod_lt_of_pos _ h7) h2 (Int.ediv_nonneg h3 (by omega)) h4 h5 h6 rfl
    · simp [DL.endW, DL.bnd, DL.ret, DL.seqW, DL.grd, DL.nox, DL.rd, DL.env0, DL.asB, DL.truD, DL.andT, DL.orT, DL.notT, DL.optW, DL.onI2, DL.cmpI, DL.subD, DL.lenD, DL.intO, DL.tupleD, DL.listD, DL.ite_app, c1, ownH, hixD, hsetD, addD, mulD, modD, intD, divD]
      have ml : ∀ x y : Int, 0 < y → y < 4294967296 → (x % y).natAbs < 2 ^ 64 := fun x y hy hy2 => by
        have h1 := Int.emod_nonneg x (show y ≠ 0 by omega)
        have h2 := Int.emod_lt_of_pos x hy
        omega
      exact ⟨mulOk_small (by decide), mulOk_small2 (by decide), cdiv_small (by decide) (by decide), mulOk_small (ml _ _ (by decide) (by decide)), cdiv_small (by decide) (by decide), mulOk_small (ml _ _ (by decide) (by decide)), cdiv_small (by decide) (by decide), h7,
        hQ _ i g m (kk + 1) _ (Int.emod_nonneg _ (by omega)) (Int.emod_lt_of_pos _ h7) h2 h3 h4 (by omega) h6 rfl⟩
end K09
end
section
set_option Elab.async false
set_option linter.all false
set_option maxRecDepth 100000
set_option maxHeartbeats 4000000
set_option autoImplicit false
namespace K09
open PySem PySem.Spec L2 DL
theorem w_of {α : Type} {m : O α} {Q : α → Prop} {E : DX → Prop} (h : m.w Q E) : (∃ a, m = .ok a ∧ Q a) ∨ ∃ x, m = .ex x ∧ E x := by
  cases m with
  | st => exact (show False from h).elim
  | ok a => exact .inl ⟨a, rfl, h⟩
  | ex x => exact .inr ⟨x, rfl, h⟩
theorem s_of {m : O D} {v : D} (h : m = .ok v) : m.w = DL.ret v := by rw [h]; rfl
theorem s_int (i : Int) : s_is_integer [.int i] = DL.ret (.bl true) := s_of (pi_int i)
theorem s_btw (a b c : Int) : s_is_between [.int a, .int b, .int c] = DL.ret (.bl (decide (b ≤ a) && decide (a ≤ c))) := s_of (pi_btw a b c)
theorem pow_at (i : Nat) (hi : i < 8) : powers[i]? = some ((2 : Int) ^ i) := by
  have : ∀ i < 8, powers[i]? = some ((2 : Int) ^ i) := by decide
  exact this i hi
theorem isi_tup {G : Gx} (xs : List D) : isiD G (.ty "tuple") (.tup xs) = some true := rfl
theorem enum_at {ns : List Int} {i : Nat} {x : D} (h : (enumD (ns.map D.int))[i]? = some x) : ∃ v, ns[i]? = some v ∧ x = .tup [.int (i : Int), .int v] := by
  obtain ⟨y, e, rfl⟩ := enumD_get h
  rw [List.getElem?_map] at e
  cases q : ns[i]? with
  | none => rw [q] at e; cases e
  | some v => rw [q] at e; cases e; exact ⟨v, rfl, rfl⟩
/-- a table's numbers -/
structure Tbl (m : Nat) (ns : List Int) : Prop where
  m1 : 1 ≤ m
  m7 : m ≤ 7
  len : ns.length = 2 ^ m
  z : ns[0]? = some 0
theorem tblB_of {m : Int} {ns : List Int} (h : TblB m ns = true) : ∃ k : Nat, m = k ∧ Tbl k ns := by
  simp only [TblB, Bool.and_eq_true, decide_eq_true_eq] at h
  obtain ⟨h1, h2, h3, h4⟩ := h
  exact ⟨m.toNat, by omega, by omega, by omega, h3, h4⟩
theorem Tbl.b {k : Nat} {ns : List Int} (t : Tbl k ns) : TblB k ns = true := by
  simp only [TblB, Bool.and_eq_true, decide_eq_true_eq]
  exact ⟨by have := t.m1; omega, by have := t.m7; omega, by rw [Int.toNat_natCast]; exact t.len, t.z⟩
theorem mk_tb {k : Nat} {ns : List Int} (t : Tbl k ns) : mkP_Table [.int k, iT ns] = .ok (tb k ns) := by
  simp only [mkP_Table, intsD_map, oo, ob, og, t.b, if_true]
theorem m_Table_init {G : Gx} (gs : GS G) (a : Addr) (ds : List D) (Q : D → Prop) (E : DX → Prop) (h : mk_Table ds Q E) : endI G a 0 (W_Table_init G (env1 4 a 0 ds)) Q E := by
  rw [gx_eq gs]
  obtain ⟨k, ns, rfl, t, q⟩ : ∃ (k : Nat) (ns : List Int), ds = [.int k, iT ns] ∧ Tbl k ns ∧ Q (tb k ns) := by
    rcases w_of h with ⟨d, e, q⟩ | ⟨x, e, _⟩
    · unfold mkP_Table at e
      split at e
      · rename_i m xs
        cases w1 : intsD xs with
        | none => rw [w1] at e; cases e
        | some ns =>
          rw [w1] at e
          by_cases c : TblB m ns = true
          · obtain ⟨k, rfl, t⟩ := tblB_of c
            have ex := intsD_eq w1
            subst ex
            simp only [oo, ob, og, c, if_true] at e
            cases e
            exact ⟨k, ns, rfl, t, q⟩
          · simp [oo, ob, og, c] at e
      · cases e
    · unfold mkP_Table at e
      split at e
      · rename_i m xs
        cases w1 : intsD xs with
        | none => rw [w1] at e; cases e
        | some ns =>
          rw [w1] at e
          by_cases c : TblB m ns = true <;> simp [oo, ob, og, c] at e
      · cases e
  have b1 : (1 : Int) ≤ (k : Int) := by have := t.m1; omega
  have b2 : (k : Int) ≤ 7 := by have := t.m7; omega
  have e1 : ixD c_POWERS (.int (k : Int)) = DL.ret (.int (2 ^ k)) := ixT_int (ns := powers) (by omega) (by simpa using pow_at k (by have := t.m7; omega))
  have e2 : ((ns.length : Int) == 2 ^ k) = true := by rw [t.len]; simp
  simp [DL.endW, DL.bnd, DL.ret, DL.seqW, DL.grd, DL.nox, DL.rd, DL.env0, DL.asB, DL.truD, DL.andT, DL.orT, DL.notT, DL.optW, DL.onI2, DL.cmpI, DL.subD, DL.lenD, DL.intO, DL.tupleD, DL.listD, DL.ite_app, W_Table_init, endI, env1, s_btw, b1, b2, isi_tup, e1, eq_int, e2, enumS]
  refine forGo_nx (I := fun _ ρ => ∃ x y, ρ = [Sl.own (OD.ins a 0 []), Sl.d (D.int ↑k), Sl.d (D.tup (List.map D.int ns)), x, y]) 0 ⟨_, _, rfl⟩ (fun i x ρ e ⟨u, v, hρ⟩ Q hQ => ?_) fun ρ ⟨u, v, hρ⟩ => ?_
  · subst hρ
    obtain ⟨v, ev, rfl⟩ := enum_at e
    have hz : ¬ ((i : Int) = 0 ∧ ¬ v = 0) := fun ⟨z1, z2⟩ => by
      have : i = 0 := by omega
      subst this
      rw [t.z] at ev
      cases ev
      exact z2 rfl
    simp [DL.endW, DL.bnd, DL.ret, DL.seqW, DL.grd, DL.nox, DL.rd, DL.env0, DL.asB, DL.truD, DL.andT, DL.orT, DL.notT, DL.optW, DL.onI2, DL.cmpI, DL.subD, DL.lenD, DL.intO, DL.tupleD, DL.listD, DL.ite_app, tupG, consG, nilG, s_int, eq_int]
    by_cases z1 : (i : Int) = 0
    · by_cases z2 : v = 0
      · simp [z1, z2]; exact hQ _ ⟨_, _, rfl⟩
      · exact (hz ⟨z1, z2⟩).elim
    · have : i ≠ 0 := by omega
      simp [this]; exact hQ _ ⟨_, _, rfl⟩
  · subst hρ
    simp [DL.endW, DL.bnd, DL.ret, DL.seqW, DL.grd, DL.nox, DL.rd, DL.env0, DL.asB, DL.truD, DL.andT, DL.orT, DL.notT, DL.optW, DL.onI2, DL.cmpI, DL.subD, DL.lenD, DL.intO, DL.tupleD, DL.listD, DL.ite_app, ownI, flds]
    exact q
/-! ### lots -/
def unI : D → Int | .int i => i | _ => 0
def unL : D → List Int | .tup xs => xs.map unI | _ => []
def lotD (l : List Int) : D := .tup (l.map D.int)
def unLs : O D → List (List Int) | .ok (.lst xs) => xs.map unL | _ => []
/-- all lots of k things -/
def ev (k : Nat) : List (List Int) := unLs (P__law_lots [.int k])
theorem ev_eq (k : Nat) (h : k ≤ 6) : P__law_lots [.int k] = .ok (.lst ((ev k).map lotD)) := by
  match k, h with
  | 0, _ => kernel_rfl
  | 1, _ => kernel_rfl
  | 2, _ => kernel_rfl
  | 3, _ => kernel_rfl
  | 4, _ => kernel_rfl
  | 5, _ => kernel_rfl
  | 6, _ => kernel_rfl
theorem ev_len : ∀ k ≤ 6, (ev k).length = 2 ^ k := by decide +kernel
theorem ev_0 : ∀ k ≤ 6, (ev k)[0]? = some [] := by decide +kernel
theorem ev_mem : ∀ k ≤ 6, ∀ l ∈ ev k, l.length ≤ 6 ∧ ∀ x ∈ l, 0 ≤ x ∧ x < k := by decide +kernel
theorem s_lots (k : Nat) (h : k ≤ 6) : s__law_lots [.int k] = DL.ret (.lst ((ev k).map lotD)) := s_of (ev_eq k h)
theorem p64 : ∀ k ≤ 6, 2 ^ k ≤ 64 := by decide
end K09
end
section
set_option Elab.async false
set_option linter.all false
set_option maxRecDepth 100000
set_option maxHeartbeats 4000000
set_option autoImplicit false
namespace K09
open PySem PySem.Spec L2 DL
theorem xis00 : xisT 0 0 = true := rfl
theorem xis01 : xisT 0 1 = true := rfl
theorem cnt1 : lcountD (.lst [.bl true]) (.bl true) = DL.ret (.int 1) := by
  rw [← w_lcount]
  exact s_of (by kernel_rfl)
theorem idx1 : lindexD (.lst [.bl true]) (.bl true) = DL.ret (.int 0) := by
  rw [← w_lindex]
  exact s_of (by kernel_rfl)
theorem eqv_int (neg : Bool) (i j : Int) : eqVD neg (.int i) (.int j) = DL.ret (.bl ((i == j) != neg)) := by
  simp [eqVD, valD, pyD, shp_int, optW, PyData.eqv]
theorem m__law_word {G : Gx} (gs : GS G) (ds : List D) (Q : D → Prop) (E : DX → Prop) (h : s__law_word ds Q E) : endW (W__law_word G (env0 4 ds)) Q E := by
  match ds, h with
  | [.clo j cs], h =>
    obtain ⟨h1, h2, q⟩ := h
    obtain ⟨d, rfl, rfl, h2⟩ : ∃ d, j = 0 ∧ cs = [d] ∧ s_least_lots [d] (fun _ => False) (fun x => x.c = 0 ∧ x.fs = []) := by
      match j, cs, h2 with
      | 0, [d], h2 => exact ⟨d, rfl, rfl, h2⟩
    rcases w_of h2 with ⟨_, _, z⟩ | ⟨x, e, ec, ef⟩
    · exact z.elim
    obtain ⟨c, fs⟩ := x
    simp only at ec ef
    subst ec ef
    have hc : G.cloW 0 [d] [] = (O.ex ⟨0, []⟩ : O D).w := by
      rw [gs.clo]
      show (P_least_lots [d]).w = _
      rw [e]
    have hx : G.xfld 0 = none := by rw [gs.xf]; rfl
    have hn := gs.nps 0 (by decide)
    simp [DL.endW, DL.bnd, DL.ret, DL.seqW, DL.grd, DL.nox, DL.rd, DL.env0, DL.asB, DL.truD, DL.andT, DL.orT, DL.notT, DL.optW, DL.onI2, DL.cmpI, DL.subD, DL.lenD, DL.intO, DL.tupleD, DL.listD, DL.ite_app, W__law_word, isClo, tryC, cloCall, xpl, hc, hanW, isEW, offE, xis00, xis01, O.w, thr, hx, hn, cnt1, idx1, eqv_int, isLst, h1, noClos]
    refine ⟨by simpa [noClos] using h1, ?_⟩
    exact q
theorem mL_0 {G : Gx} (gs : GS G) (cs ds : List D) (Q : D → Prop) (E : DX → Prop) (h : cloW 0 cs ds Q E) : WL_0 G (envL 1 ds cs) Q E := by
  match cs, ds, h with
  | [d], [], h => exact h
end K09
end
section
set_option Elab.async false
set_option linter.all false
set_option maxRecDepth 100000
set_option maxHeartbeats 4000000
set_option autoImplicit false
namespace K09
open PySem PySem.Spec L2 DL
theorem whW_I {c : DL.Env → W Bool} {b : DL.Env → W Out} (I : Nat → DL.Env → Prop) (E : DX → Prop) (h0 : ∀ ρ, I 0 ρ → ∀ R : Bool → Prop, R false → c ρ R E)
    (h1 : ∀ n ρ, I (n + 1) ρ → (∀ R : Bool → Prop, R true → c ρ R E) ∧ ∀ R : Out → Prop, (∀ ρ', I n ρ' → R (.nx ρ')) → b ρ R E) : ∀ (n : Nat) (ρ : DL.Env) (Q : Out → Prop), I n ρ → (∀ ρ', I 0 ρ' → Q (.nx ρ')) → whW c b ρ Q E := by
  intro n ρ Q hi hq
  refine ⟨n + 1, ?_⟩
  induction n generalizing ρ with
  | zero =>
    show bnd (c ρ) _ Q E
    exact h0 ρ hi _ (hq ρ hi)
  | succ n ih =>
    obtain ⟨a1, a2⟩ := h1 n ρ hi
    show bnd (c ρ) _ Q E
    refine a1 _ ?_
    exact a2 _ fun ρ' hi' => ih ρ' hi'
theorem erase_perm {α : Type} : ∀ (xs : List α) (i : Nat) (x : α), xs[i]? = some x → (x :: xs.eraseIdx i).Perm xs
  | [], i, x, h => by simp at h
  | y :: ys, 0, x, h => by
    simp at h
    subst h
    exact .refl _
  | y :: ys, i + 1, x, h => by
    have := erase_perm ys i x (by simpa using h)
    rw [List.eraseIdx_cons_succ]
    exact (List.Perm.swap y x _).trans (this.cons y)
theorem perm_swap_end {α : Type} (xs ys : List α) (i : Nat) (x : α) (h : xs[i]? = some x) : (xs.eraseIdx i ++ (ys ++ [x])).Perm (xs ++ ys) := by
  have h1 := erase_perm xs i x h
  have h2 : (xs.eraseIdx i ++ (ys ++ [x])).Perm (x :: (xs.eraseIdx i ++ ys)) := by
    rw [← List.append_assoc]
    exact List.perm_append_singleton _ _
  exact h2.trans ((h1.append_right ys))
theorem m__law_mixed {G : Gx} (gs : GS G) (ds : List D) (Q : D → Prop) (E : DX → Prop) (h : s__law_mixed ds Q E) : endW (W__law_mixed G (env0 4 ds)) Q E := by
  match ds, h with
  | [.hnd, .lst xs], h =>
    obtain ⟨hl, q⟩ := h
    unfold W__law_mixed
    refine seqW_I (I := fun ρ => ρ = [.d .hnd, .d (.lst xs), .own (.lst none xs), .own (.lst none [])]) ?_ ?_
    · intro R hR
      simp [DL.endW, DL.bnd, DL.ret, DL.seqW, DL.grd, DL.nox, DL.rd, DL.env0, DL.asB, DL.truD, DL.andT, DL.orT, DL.notT, DL.optW, DL.onI2, DL.cmpI, DL.subD, DL.lenD, DL.intO, DL.tupleD, DL.listD, DL.ite_app, seqD]
      exact hR _ rfl
    rintro ρ rfl
    refine seqW_I (I := fun ρ => ∃ ys : List D, ys.Perm xs ∧ ρ = [.d .hnd, .d (.lst xs), .own (.lst none []), .own (.lst none ys)]) ?_ ?_
    · intro R hR
      refine whW_I (fun n ρ => ∃ us ys : List D, us.length = n ∧ (us ++ ys).Perm xs ∧ ρ = [.d .hnd, .d (.lst xs), .own (.lst none us), .own (.lst none ys)]) _ ?_ ?_ xs.length _ _ ⟨xs, [], rfl, by simp, rfl⟩ ?_
      · rintro ρ ⟨us, ys, h1, h2, rfl⟩ R hR
        simp [DL.endW, DL.bnd, DL.ret, DL.seqW, DL.grd, DL.nox, DL.rd, DL.env0, DL.asB, DL.truD, DL.andT, DL.orT, DL.notT, DL.optW, DL.onI2, DL.cmpI, DL.subD, DL.lenD, DL.intO, DL.tupleD, DL.listD, DL.ite_app, ownL, gtD, h1]
        exact hR
      · rintro n ρ ⟨us, ys, h1, h2, rfl⟩
        have hp := h2.length_eq
        rw [List.length_append] at hp
        refine ⟨fun R hR => ?_, fun R hR => ?_⟩
        · simp [DL.endW, DL.bnd, DL.ret, DL.seqW, DL.grd, DL.nox, DL.rd, DL.env0, DL.asB, DL.truD, DL.andT, DL.orT, DL.notT, DL.optW, DL.onI2, DL.cmpI, DL.subD, DL.lenD, DL.intO, DL.tupleD, DL.listD, DL.ite_app, ownL, gtD, h1]
          exact hR
        · simp [DL.endW, DL.bnd, DL.ret, DL.seqW, DL.grd, DL.nox, DL.rd, DL.env0, DL.asB, DL.truD, DL.andT, DL.orT, DL.notT, DL.optW, DL.onI2, DL.cmpI, DL.subD, DL.lenD, DL.intO, DL.tupleD, DL.listD, DL.ite_app, ownL]
          refine draw_all (by omega) (by omega) fun r r0 r1 => ?_
          have hr : r.toNat < us.length := by omega
          have e : us[r.toNat]? = some us[r.toNat] := List.getElem?_eq_getElem hr
          have c1 : r < 1000000 ∧ ys.length < sizeLine := ⟨by omega, by rw [sizeLine_eq]; omega⟩
          simp [DL.endW, DL.bnd, DL.ret, DL.seqW, DL.grd, DL.nox, DL.rd, DL.env0, DL.asB, DL.truD, DL.andT, DL.orT, DL.notT, DL.optW, DL.onI2, DL.cmpI, DL.subD, DL.lenD, DL.intO, DL.tupleD, DL.listD, DL.ite_app, popAt, r0, c1, e]
          exact hR _ ⟨_, _, by rw [List.length_eraseIdx_of_lt hr]; omega, (perm_swap_end us ys r.toNat _ e).trans h2, rfl⟩
      · rintro ρ ⟨us, ys, h1, h2, rfl⟩
        have : us = [] := List.eq_nil_of_length_eq_zero h1
        subst this
        exact hR _ ⟨ys, by simpa using h2, rfl⟩
    rintro ρ ⟨ys, hy, rfl⟩
    simp [DL.endW, DL.bnd, DL.ret, DL.seqW, DL.grd, DL.nox, DL.rd, DL.env0, DL.asB, DL.truD, DL.andT, DL.orT, DL.notT, DL.optW, DL.onI2, DL.cmpI, DL.subD, DL.lenD, DL.intO, DL.tupleD, DL.listD, DL.ite_app, frzW, frzD]
    exact q ys hy
end K09
end
section
set_option Elab.async false
set_option linter.all false
set_option maxRecDepth 100000
set_option maxHeartbeats 4000000
set_option autoImplicit false
namespace K09
open PySem PySem.Spec L2 DL
/-- some of the things stay, whichever -/
theorem lcGo_sub {α : Type} {E : DX → Prop} {c : α → D} {f : D → W (Option D)} {g : α → D} : ∀ {as : List α} {Q : List D → Prop}, (∀ a ∈ as, ∀ R : Option D → Prop, R none → R (some (g a)) → f (c a) R E) → (∀ ys : List α, ys.length ≤ as.length → Q (ys.map g)) → lcGo f (as.map c) Q E
  | [], Q, _, h => h [] (Nat.le_refl _)
  | a :: as, Q, hf, h => by
    refine hf a List.mem_cons_self _ ?_ ?_
    · exact lcGo_sub (fun y hy => hf y (List.mem_cons_of_mem _ hy)) fun ys hl => h ys (Nat.le_succ_of_le hl)
    · exact lcGo_sub (fun y hy => hf y (List.mem_cons_of_mem _ hy)) fun ys hl => h (a :: ys) (Nat.succ_le_succ hl)
def SH (k b n : Nat) (ρ : DL.Env) : Prop := ∃ (ns : List Int) (xs : List Sl), ρ = [.d .hnd, .d (.int (k : Int)), .d (.lst ((ev k).map lotD)), .own (.lst none (ns.map D.int))] ++ xs ∧ xs.length = n ∧ VO b k ns
theorem flat_rep (n : Nat) : (List.replicate n [D.int 0]).flatten = (List.replicate n (0 : Int)).map D.int := by
  induction n with
  | zero => rfl
  | succ n ih => rw [List.replicate_succ, List.flatten_cons, ih, List.replicate_succ, List.map_cons]; rfl
theorem VO.zero (k : Nat) : VO 0 k (List.replicate (2 ^ k) 0) := by
  refine ⟨by simp, ?_, fun x hx => ?_⟩
  · rw [List.getElem?_replicate, if_pos (Nat.two_pow_pos k)]
  · rw [List.eq_of_mem_replicate hx]
    decide
theorem VO.le {b b' k : Nat} {ns : List Int} (t : VO b k ns) (h : b ≤ b') : VO b' k ns := ⟨t.len, t.z, fun x hx => Nat.le_trans (t.bd x hx) h⟩
theorem zipD_ty {α β : Type} (c : α → D) (c' : β → D) (xs : List α) (ys : List β) : zipD (xs.map c) (ys.map c') = (xs.zip ys).map fun p => D.tup [c p.1, c' p.2] := by
  unfold zipD
  rw [List.zip_map, List.map_map]
  rfl
theorem m__law_hollow_values {G : Gx} (gs : GS G) (ds : List D) (Q : D → Prop) (E : DX → Prop) (h : s__law_hollow_values ds Q E) : endW (W__law_hollow_values G (env0 18 ds)) Q E := by
  match ds, h with
  | [.hnd, .int m], h =>
    obtain ⟨k, rfl, k1, k6, q⟩ := h
    have el := ev_len k k6
    have p := p64 k k6
    unfold W__law_hollow_values
    refine seqW_I (I := fun ρ => ρ = [.d .hnd, .d (.int (k : Int)), .d (.lst ((ev k).map lotD)), .un, .un, .un, .un, .un, .un, .un, .un, .un, .un, .un, .un, .un, .un, .un]) ?_ ?_
    · intro R hR
      simp [DL.endW, DL.bnd, DL.ret, DL.seqW, DL.grd, DL.nox, DL.rd, DL.env0, DL.asB, DL.truD, DL.andT, DL.orT, DL.notT, DL.optW, DL.onI2, DL.cmpI, DL.subD, DL.lenD, DL.intO, DL.tupleD, DL.listD, DL.ite_app, s_lots k k6]
      exact hR _ rfl
    rintro ρ rfl
    refine seqW_I (I := SH k 0 14) ?_ ?_
    · intro R hR
      simp [DL.endW, DL.bnd, DL.ret, DL.seqW, DL.grd, DL.nox, DL.rd, DL.env0, DL.asB, DL.truD, DL.andT, DL.orT, DL.notT, DL.optW, DL.onI2, DL.cmpI, DL.subD, DL.lenD, DL.intO, DL.tupleD, DL.listD, DL.ite_app, repD, el]
      have hp2 : ((2 : Int) ^ k) = ((2 ^ k : Nat) : Int) := by push_cast; rfl
      refine ⟨by rw [hp2]; have := sizeLine_eq; omega, ?_⟩
      rw [hp2, Int.toNat_natCast, show List.replicate (2 ^ k) (D.int 0) = (List.replicate (2 ^ k) (0 : Int)).map D.int by rw [List.map_replicate]]
      exact hR _ ⟨_, _, rfl, rfl, VO.zero k⟩
    intro ρ hρ
    refine seqW_I (I := SH k 240 14) ?_ ?_
    · intro R hR
      obtain ⟨ns, xs, rfl, hx, t⟩ := hρ
      match xs, hx with
      | [x4, x5, x6, x7, x8, x9, x10, x11, x12, x13, x14, x15, x16, x17], _ =>
      simp [DL.endW, DL.bnd, DL.ret, DL.seqW, DL.grd, DL.nox, DL.rd, DL.env0, DL.asB, DL.truD, DL.andT, DL.orT, DL.notT, DL.optW, DL.onI2, DL.cmpI, DL.subD, DL.lenD, DL.intO, DL.tupleD, DL.listD, DL.ite_app]
      refine draw_all (by decide) (by decide) fun r r0 r1 => ?_
      obtain ⟨n, rfl⟩ : ∃ n : Nat, r = n := ⟨r.toNat, by omega⟩
      refine rng_nat (by omega) ?_
      refine forGo_ty (I := fun i ρ => SH k (80 * i) 14 ρ) 0 ⟨ns, _, rfl, rfl, t⟩ (fun j a ρ hj hρ Q2 hQ2 => ?_) fun ρ hρ => ?_
      · obtain ⟨ns, xs, rfl, hx, t⟩ := hρ
        match xs, hx with
        | [x4, x5, x6, x7, x8, x9, x10, x11, x12, x13, x14, x15, x16, x17], _ =>
        clear hR
        simp [DL.endW, DL.bnd, DL.ret, DL.seqW, DL.grd, DL.nox, DL.rd, DL.env0, DL.asB, DL.truD, DL.andT, DL.orT, DL.notT, DL.optW, DL.onI2, DL.cmpI, DL.subD, DL.lenD, DL.intO, DL.tupleD, DL.listD, DL.ite_app]
        refine draw_all (by decide) (by decide) fun kd kd0 kd1 => ?_
        refine draw_all (by decide) (by decide) fun wt wt0 wt1 => ?_
        simp [DL.endW, DL.bnd, DL.ret, DL.seqW, DL.grd, DL.nox, DL.rd, DL.env0, DL.asB, DL.truD, DL.andT, DL.orT, DL.notT, DL.optW, DL.onI2, DL.cmpI, DL.subD, DL.lenD, DL.intO, DL.tupleD, DL.listD, DL.ite_app, addD, par2W]
        refine rng_nat (by omega) ?_
        refine ⟨by simp [sizeLine_eq]; omega, lcGo_sub (g := fun i : Nat => .int (i : Int)) (fun i hi R2 h1 h2 => ?_) fun sm hsm => ?_⟩
        · simp [DL.endW, DL.bnd, DL.ret, DL.seqW, DL.grd, DL.nox, DL.rd, DL.env0, DL.asB, DL.truD, DL.andT, DL.orT, DL.notT, DL.optW, DL.onI2, DL.cmpI, DL.subD, DL.lenD, DL.intO, DL.tupleD, DL.listD, DL.ite_app, lcF, wipeE]
          refine draw_all (by decide) (by decide) fun r r0 r1 => ?_
          simp [DL.endW, DL.bnd, DL.ret, DL.seqW, DL.grd, DL.nox, DL.rd, DL.env0, DL.asB, DL.truD, DL.andT, DL.orT, DL.notT, DL.optW, DL.onI2, DL.cmpI, DL.subD, DL.lenD, DL.intO, DL.tupleD, DL.listD, DL.ite_app, eq_int]
          by_cases c : r = 0
          · simp only [c, if_true]
            exact h2
          · simp only [c, if_false]
            exact h1
        refine draw_all (by decide) (by decide) fun mo mo0 mo1 => ?_
        refine draw_all (by omega) (by omega) fun p0 p00 p01 => ?_
        refine draw_all (by omega) (by omega) fun p1 p10 p11 => ?_
        simp [DL.endW, DL.bnd, DL.ret, DL.seqW, DL.grd, DL.nox, DL.rd, DL.env0, DL.asB, DL.truD, DL.andT, DL.orT, DL.notT, DL.optW, DL.onI2, DL.cmpI, DL.subD, DL.lenD, DL.intO, DL.tupleD, DL.listD, DL.ite_app, addD, par2W, enumS]
        refine forGo_nx (I := fun i ρ => ∃ (fs : List Int) (xs : List Sl), ρ = [.d .hnd, .d (.int (k : Int)), .d (.lst ((ev k).map lotD)), .own (.lst none (fs.map D.int)), .d (.int (a : Int)), .d (.int kd), .d (.int (1 + wt)), .d (.lst (sm.map fun i : Nat => .int (i : Int))), .d (.int (1 + mo)), .d (.tup [.int p0, .int p1])] ++ xs ∧ xs.length = 8 ∧ fs.length = 2 ^ k ∧ fs[0]? = some 0 ∧ ∀ (u : Nat) (x : Int), fs[u]? = some x → x.natAbs ≤ if u < i then 80 * (0 + j) + 80 else 80 * (0 + j)) 0 ⟨ns, _, rfl, rfl, t.len, t.z, fun u x hu => by
          have := t.bd x (List.mem_of_getElem? hu)
          simpa using this⟩ (fun i x ρ e hJ Q3 hQ3 => ?_) fun ρ hJ => ?_
        · obtain ⟨fs, xs, rfl, hx, hlen, hz, hb⟩ := hJ
          match xs, hx with
          | [y10, y11, y12, y13, y14, y15, y16, y17], _ =>
          obtain ⟨d, hd, rfl⟩ := enumD_get e
          rw [List.getElem?_map] at hd
          obtain ⟨l, hl, rfl⟩ := Option.map_eq_some_iff.mp hd
          have hi : i < 2 ^ k := by rw [← el]; exact (List.getElem?_eq_some_iff.mp hl).1
          have hm := ev_mem k k6 l (List.mem_of_getElem? hl)
          simp [DL.endW, DL.bnd, DL.ret, DL.seqW, DL.grd, DL.nox, DL.rd, DL.env0, DL.asB, DL.truD, DL.andT, DL.orT, DL.notT, DL.optW, DL.onI2, DL.cmpI, DL.subD, DL.lenD, DL.intO, DL.tupleD, DL.listD, DL.ite_app, tupG, consG, nilG, lotD, seqD]
          refine ⟨by rw [sizeLine_eq]; omega, lcGo_mp (g := fun x : Int => if (sm.map fun i : Nat => (i : Int)).contains x = true then some (.int x) else none) (fun x hx R2 hR2 => ?_) ?_⟩
          · simp [DL.endW, DL.bnd, DL.ret, DL.seqW, DL.grd, DL.nox, DL.rd, DL.env0, DL.asB, DL.truD, DL.andT, DL.orT, DL.notT, DL.optW, DL.onI2, DL.cmpI, DL.subD, DL.lenD, DL.intO, DL.tupleD, DL.listD, DL.ite_app, lcF, wipeE]
            rw [show (sm.map fun i : Nat => D.int (i : Int)) = (sm.map fun i : Nat => (i : Int)).map D.int by rw [List.map_map]; rfl, in_lst]
            cases c : (sm.map fun i : Nat => (i : Int)).contains x with
            | true =>
              rw [if_pos c] at hR2
              exact hR2
            | false =>
              rw [if_neg (by rw [c]; decide)] at hR2
              exact hR2
          · obtain ⟨fm, efm⟩ : ∃ fm, fm = l.filterMap fun x : Int => if (sm.map fun i : Nat => (i : Int)).contains x = true then some (D.int x) else none := ⟨_, rfl⟩
            have hfm : fm.length ≤ l.length := by rw [efm]; exact List.length_filterMap_le _ _
            rw [← efm]
            have i0 : ixD (.tup [.int p0, .int p1]) (.int 0) = DL.ret (.int p0) := by show optW (some _) = _; rfl
            have i1 : ixD (.tup [.int p0, .int p1]) (.int 1) = DL.ret (.int p1) := by show optW (some _) = _; rfl
            have eqb : ∀ a b : Bool, eqD eqS true (.bl a) (.bl b) = DL.ret (.bl ((a == b) != true)) := fun a b => by simp [eqD, valD, pyD, shp_bool, optW, PyData.eqv]
            simp [DL.endW, DL.bnd, DL.ret, DL.seqW, DL.grd, DL.nox, DL.rd, DL.env0, DL.asB, DL.truD, DL.andT, DL.orT, DL.notT, DL.optW, DL.onI2, DL.cmpI, DL.subD, DL.lenD, DL.intO, DL.tupleD, DL.listD, DL.ite_app, i0, i1, in_tup, eqb, gtD, intD, min2D, mulD]
            refine ⟨mulOk_small (by omega), ?_⟩
            obtain ⟨gI, eg⟩ : ∃ gI : List Int, gI = [if 0 < fm.length then 1 else 0, if p0 ∈ l ↔ p1 ∈ l then 0 else 1, if 1 + mo < (fm.length : Int) then 1 + mo else (fm.length : Int), (fm.length : Int) * (9 - (fm.length : Int))] := ⟨_, rfl⟩
            have eg2 : [D.int (if 0 < fm.length then 1 else 0), D.int (if p0 ∈ l ↔ p1 ∈ l then 0 else 1), D.int (if 1 + mo < (fm.length : Int) then 1 + mo else (fm.length : Int)), D.int ((fm.length : Int) * (9 - (fm.length : Int)))] = gI.map D.int := by rw [eg]; rfl
            rw [eg2]
            have gl : gI.length = 4 := by rw [eg]; rfl
            have gx : gI[kd.toNat]? = some (gI.getD kd.toNat 0) := get_lt (by omega)
            have n20 : ∀ n : Nat, n ≤ 6 → ((n : Int) * (9 - (n : Int))).natAbs ≤ 20 := by decide
            have gb : ∀ y ∈ gI, y.natAbs ≤ 20 := fun y hy => by
              rw [eg] at hy
              simp only [List.mem_cons, List.not_mem_nil, or_false] at hy
              rcases hy with rfl | rfl | rfl | rfl
              · split <;> decide
              · split <;> decide
              · split <;> omega
              · exact n20 _ (by omega)
            have gz : l = [] → ∀ y ∈ gI, y = 0 := fun el y hy => by
              subst el
              have f0 : fm.length = 0 := by simpa using hfm
              rw [eg, f0] at hy
              simp only [List.mem_cons, List.not_mem_nil, or_false] at hy
              rcases hy with rfl | rfl | rfl | rfl
              · rfl
              · simp
              · simp; omega
              · rfl
            have g1 := gb _ (List.mem_of_getElem? gx)
            have ixg : ixD (.lst (gI.map D.int)) (.int kd) = DL.ret (.int (gI.getD kd.toNat 0)) := ixL_int kd0 gx
            have fx : fs[i]? = some (fs.getD i 0) := get_lt (by omega)
            have fo : L2.atI (fs.map D.int) (i : Int) = some (.int (fs.getD i 0)) := DL.atI_nat (by rw [List.getElem?_map, fx]; rfl)
            have fn : ixN fs.length (i : Int) = some i := by
              unfold ixN
              rw [if_pos (by omega), if_pos (by omega)]
              simp
            generalize gI.getD kd.toNat 0 = gv at gx ixg g1
            generalize hfv : fs.getD i 0 = fv at fx fo
            simp [DL.endW, DL.bnd, DL.ret, DL.seqW, DL.grd, DL.nox, DL.rd, DL.env0, DL.asB, DL.truD, DL.andT, DL.orT, DL.notT, DL.optW, DL.onI2, DL.cmpI, DL.subD, DL.lenD, DL.intO, DL.tupleD, DL.listD, DL.ite_app, ownL, oixD, fo, ixg, mulD, addD, setAt, fn]
            refine ⟨mulOk_small (by omega), ?_⟩
            have wb : ((1 + wt) * gv).natAbs ≤ 80 := by
              rw [Int.natAbs_mul]
              have : (1 + wt).natAbs ≤ 4 := by omega
              exact Nat.mul_le_mul this g1
            refine hQ3 _ ⟨fs.set i (fv + (1 + wt) * gv), _, by rw [List.map_set]; rfl, rfl, by simpa using hlen, ?_, fun u x hu => ?_⟩
            · by_cases c0 : i = 0
              · subst c0
                have e0 := ev_0 k k6
                rw [hl] at e0
                cases e0
                have := gz rfl gv (List.mem_of_getElem? gx)
                rw [hz] at fx
                cases fx
                rw [List.getElem?_set_self (by omega), this]
                simp
              · rw [List.getElem?_set_ne c0]
                exact hz
            · by_cases cu : i = u
              · subst cu
                rw [List.getElem?_set_self (by omega)] at hu
                cases hu
                have h1 := hb i fv fx
                rw [if_pos (by omega)]
                rw [if_neg (by omega)] at h1
                omega
              · rw [List.getElem?_set_ne cu] at hu
                have h1 := hb u x hu
                split at h1 <;> split <;> omega
        · obtain ⟨fs, xs, rfl, hx, hlen, hz, hb⟩ := hJ
          refine hQ2 _ ⟨fs, _, rfl, by simp [hx], hlen, hz, fun x hx => ?_⟩
          obtain ⟨u, hu⟩ := List.getElem?_of_mem hx
          have := hb u x hu
          split at this <;> omega
      · obtain ⟨ns, xs, e, hx, t⟩ := hρ
        refine hR _ ⟨ns, xs, e, hx, t.le ?_⟩
        simp
        omega
    intro ρ hρ
    refine seqW_I (I := SH k 300 14) ?_ ?_
    · intro R hR
      obtain ⟨ns, xs, rfl, hx, t⟩ := hρ
      match xs, hx with
      | [x4, x5, x6, x7, x8, x9, x10, x11, x12, x13, x14, x15, x16, x17], _ =>
      simp [DL.endW, DL.bnd, DL.ret, DL.seqW, DL.grd, DL.nox, DL.rd, DL.env0, DL.asB, DL.truD, DL.andT, DL.orT, DL.notT, DL.optW, DL.onI2, DL.cmpI, DL.subD, DL.lenD, DL.intO, DL.tupleD, DL.listD, DL.ite_app]
      refine rng_nat (by omega) ?_
      refine forGo_ty (I := fun i ρ => SH k (240 + 8 * i) 14 ρ) 0 ⟨ns, _, rfl, rfl, t⟩ (fun j a ρ hj hρ Q2 hQ2 => ?_) fun ρ hρ => ?_
      · obtain ⟨ns, xs, rfl, hx, t⟩ := hρ
        match xs, hx with
        | [x4, x5, x6, x7, x8, x9, x10, x11, x12, x13, x14, x15, x16, x17], _ =>
        simp [DL.endW, DL.bnd, DL.ret, DL.seqW, DL.grd, DL.nox, DL.rd, DL.env0, DL.asB, DL.truD, DL.andT, DL.orT, DL.notT, DL.optW, DL.onI2, DL.cmpI, DL.subD, DL.lenD, DL.intO, DL.tupleD, DL.listD, DL.ite_app]
        refine draw_all (by decide) (by decide) fun r r0 r1 => ?_
        have hlen := t.len
        simp [DL.endW, DL.bnd, DL.ret, DL.seqW, DL.grd, DL.nox, DL.rd, DL.env0, DL.asB, DL.truD, DL.andT, DL.orT, DL.notT, DL.optW, DL.onI2, DL.cmpI, DL.subD, DL.lenD, DL.intO, DL.tupleD, DL.listD, DL.ite_app, frzW, frzD, zip2S, itms, zipD_ty]
        refine ⟨by rw [sizeLine_eq]; omega, lcGo_m1 (g := fun p : Int × List Int => .int (p.1 + (r - 8) * (if p.2.contains (a : Int) = true then 1 else 0))) (fun p hp R2 hR2 => ?_) ?_⟩
        · simp [DL.endW, DL.bnd, DL.ret, DL.seqW, DL.grd, DL.nox, DL.rd, DL.env0, DL.asB, DL.truD, DL.andT, DL.orT, DL.notT, DL.optW, DL.onI2, DL.cmpI, DL.subD, DL.lenD, DL.intO, DL.tupleD, DL.listD, DL.ite_app, lcF, wipeE, tupG, consG, nilG, lotD, in_tup, intD, mulD, addD]
          refine ⟨mulOk_small (by omega), ?_⟩
          simpa using hR2
        · rw [ints_map]
          refine hQ2 _ ⟨_, _, rfl, rfl, ?_, ?_, ?_⟩
          · simp [hlen, el]
          · rw [List.getElem?_map, List.getElem?_zip_eq_some (z := ((0 : Int), ([] : List Int))) |>.mpr ⟨t.z, ev_0 k k6⟩]
            simp
          · intro x hx
            obtain ⟨p, hp, rfl⟩ := List.mem_map.mp hx
            have hb := t.bd p.1 (List.of_mem_zip hp).1
            show (p.1 + (r - 8) * (if p.2.contains (a : Int) = true then 1 else 0)).natAbs ≤ 240 + 8 * (0 + j + 1)
            split <;> omega
      · obtain ⟨ns, xs, e, hx, t⟩ := hρ
        refine hR _ ⟨ns, xs, e, hx, t.le ?_⟩
        simp
        omega
    intro ρ hρ
    obtain ⟨ns, xs, rfl, hx, t⟩ := hρ
    match xs, hx with
    | [x4, x5, x6, x7, x8, x9, x10, x11, x12, x13, x14, x15, x16, x17], _ =>
    simp [DL.endW, DL.bnd, DL.ret, DL.seqW, DL.grd, DL.nox, DL.rd, DL.env0, DL.asB, DL.truD, DL.andT, DL.orT, DL.notT, DL.optW, DL.onI2, DL.cmpI, DL.subD, DL.lenD, DL.intO, DL.tupleD, DL.listD, DL.ite_app, frzW, frzD]
    exact q ns (t.le (by decide))
end K09
end
section
set_option Elab.async false
set_option linter.all false
set_option maxRecDepth 100000
set_option maxHeartbeats 4000000
set_option autoImplicit false
namespace K09
open PySem PySem.Spec L2 DL
theorem cut1 (xs : List D) : cutD xs (some 1) none = xs.tail := by
  cases xs with
  | nil => rfl
  | cons x xs =>
    unfold cutD HT.sIx
    simp
theorem m__law_values {G : Gx} (gs : GS G) (ds : List D) (Q : D → Prop) (E : DX → Prop) (h : s__law_values ds Q E) : endW (W__law_values G (env0 6 ds)) Q E := by
  match ds, h with
  | [.hnd, .int m], h =>
    obtain ⟨k, rfl, k1, k6, q⟩ := h
    have p := p64 k k6
    have p2 : 2 ≤ 2 ^ k := Nat.le_trans (by decide) (Nat.pow_le_pow_right (by decide) k1)
    unfold W__law_values
    refine seqW_I (I := fun ρ => ∃ ns : List Int, VO 10000 k ns ∧ ρ = [.d .hnd, .d (.int (k : Int)), .own (.lst none (ns.map D.int)), .un, .un, .un]) ?_ ?_
    · intro R hR
      simp [DL.endW, DL.bnd, DL.ret, DL.seqW, DL.grd, DL.nox, DL.rd, DL.env0, DL.asB, DL.truD, DL.andT, DL.orT, DL.notT, DL.optW, DL.onI2, DL.cmpI, DL.subD, DL.lenD, DL.intO, DL.tupleD, DL.listD, DL.ite_app]
      refine ⟨k, rfl, k1, k6, fun ns t => ?_⟩
      simp [DL.endW, DL.bnd, DL.ret, DL.seqW, DL.grd, DL.nox, DL.rd, DL.env0, DL.asB, DL.truD, DL.andT, DL.orT, DL.notT, DL.optW, DL.onI2, DL.cmpI, DL.subD, DL.lenD, DL.intO, DL.tupleD, DL.listD, DL.ite_app, seqD]
      exact hR _ ⟨ns, t, rfl⟩
    rintro ρ ⟨ns, t, rfl⟩
    refine seqW_I (I := fun ρ => ∃ kd : Int, ρ = [.d .hnd, .d (.int (k : Int)), .own (.lst none (ns.map D.int)), .d (.int kd), .un, .un]) ?_ ?_
    · intro R hR
      simp [DL.endW, DL.bnd, DL.ret, DL.seqW, DL.grd, DL.nox, DL.rd, DL.env0, DL.asB, DL.truD, DL.andT, DL.orT, DL.notT, DL.optW, DL.onI2, DL.cmpI, DL.subD, DL.lenD, DL.intO, DL.tupleD, DL.listD, DL.ite_app]
      refine draw_all (by decide) (by decide) fun r r0 r1 => ?_
      exact hR _ ⟨r, rfl⟩
    rintro ρ ⟨kd, rfl⟩
    refine seqW_I (I := fun ρ => ∃ (ns : List Int) (s2 : Sl), VO 10000 k ns ∧ ((kd = 0 ∧ s2 = .d (iL ns)) ∨ (kd ≠ 0 ∧ s2 = .own (.lst none (ns.map D.int)))) ∧ ρ = [.d .hnd, .d (.int (k : Int)), s2, .d (.int kd), .un, .un]) ?_ ?_
    · intro R hR
      have hlen := t.len
      by_cases c : kd = 0
      · subst c
        simp [DL.endW, DL.bnd, DL.ret, DL.seqW, DL.grd, DL.nox, DL.rd, DL.env0, DL.asB, DL.truD, DL.andT, DL.orT, DL.notT, DL.optW, DL.onI2, DL.cmpI, DL.subD, DL.lenD, DL.intO, DL.tupleD, DL.listD, DL.ite_app, eq_int, frzW, frzD, sliceD, cut1, seqD]
        refine ⟨by rw [sizeLine_eq]; omega, ?_⟩
        rw [← List.map_tail]
        refine lcGo_ty (e := D.int) (P := fun _ r => r.natAbs ≤ 4) (fun j hj R2 hR2 => ?_) fun rs hbl hP => ?_
        · simp [DL.endW, DL.bnd, DL.ret, DL.seqW, DL.grd, DL.nox, DL.rd, DL.env0, DL.asB, DL.truD, DL.andT, DL.orT, DL.notT, DL.optW, DL.onI2, DL.cmpI, DL.subD, DL.lenD, DL.intO, DL.tupleD, DL.listD, DL.ite_app, lcF, wipeE]
          refine draw_all (by decide) (by decide) fun r r0 r1 => ?_
          simp [DL.endW, DL.bnd, DL.ret, DL.seqW, DL.grd, DL.nox, DL.rd, DL.env0, DL.asB, DL.truD, DL.andT, DL.orT, DL.notT, DL.optW, DL.onI2, DL.cmpI, DL.subD, DL.lenD, DL.intO, DL.tupleD, DL.listD, DL.ite_app]
          exact hR2 _ (by omega)
        · have hb4 : ∀ x ∈ rs, x.natAbs ≤ 4 := fun x hx => by
            obtain ⟨i, hi⟩ := List.getElem?_of_mem hx
            have hlt : i < ns.tail.length := by rw [← hbl]; exact (List.getElem?_eq_some_iff.mp hi).1
            exact hP i _ x (List.getElem?_eq_getElem hlt) hi
          have hrl : rs.length = ns.length - 1 := by rw [hbl, List.length_tail]
          simp [DL.endW, DL.bnd, DL.ret, DL.seqW, DL.grd, DL.nox, DL.rd, DL.env0, DL.asB, DL.truD, DL.andT, DL.orT, DL.notT, DL.optW, DL.onI2, DL.cmpI, DL.subD, DL.lenD, DL.intO, DL.tupleD, DL.listD, DL.ite_app, addD]
          refine ⟨by rw [sizeLine_eq]; omega, hR _ ⟨0 :: rs, _, ⟨by simp; omega, rfl, fun x hx => ?_⟩, .inl ⟨rfl, rfl⟩, rfl⟩⟩
          rcases List.mem_cons.mp hx with rfl | hx
          · decide
          · have := hb4 x hx
            omega
      · simp [DL.endW, DL.bnd, DL.ret, DL.seqW, DL.grd, DL.nox, DL.rd, DL.env0, DL.asB, DL.truD, DL.andT, DL.orT, DL.notT, DL.optW, DL.onI2, DL.cmpI, DL.subD, DL.lenD, DL.intO, DL.tupleD, DL.listD, DL.ite_app, eq_int, c]
        exact hR _ ⟨ns, _, t, .inr ⟨c, rfl⟩, rfl⟩
    rintro ρ ⟨ns, s2, t, hs, rfl⟩
    refine seqW_I (I := fun ρ => ∃ (ns : List Int) (s2 x4 : Sl), VO 20000 k ns ∧ (s2 = .d (iL ns) ∨ s2 = .own (.lst none (ns.map D.int))) ∧ ρ = [.d .hnd, .d (.int (k : Int)), s2, .d (.int kd), x4, .un]) ?_ ?_
    · intro R hR
      have hlen := t.len
      rcases hs with ⟨c, rfl⟩ | ⟨c, rfl⟩
      · subst c
        simp [DL.endW, DL.bnd, DL.ret, DL.seqW, DL.grd, DL.nox, DL.rd, DL.env0, DL.asB, DL.truD, DL.andT, DL.orT, DL.notT, DL.optW, DL.onI2, DL.cmpI, DL.subD, DL.lenD, DL.intO, DL.tupleD, DL.listD, DL.ite_app, eq_int]
        exact hR _ ⟨ns, _, _, t.le (by decide), .inl rfl, rfl⟩
      · by_cases c1 : kd = 1 ∧ (2 : Int) < ns.length
        · obtain ⟨c1, c2⟩ := c1
          subst c1
          simp [DL.endW, DL.bnd, DL.ret, DL.seqW, DL.grd, DL.nox, DL.rd, DL.env0, DL.asB, DL.truD, DL.andT, DL.orT, DL.notT, DL.optW, DL.onI2, DL.cmpI, DL.subD, DL.lenD, DL.intO, DL.tupleD, DL.listD, DL.ite_app, eq_int, ownL, gtD, c2]
          refine draw_all (by omega) (by omega) fun r r0 r1 => ?_
          obtain ⟨i, hi⟩ : ∃ i : Nat, 1 + r = (i : Int) := ⟨(1 + r).toNat, by omega⟩
          have i1 : 1 ≤ i := by omega
          have i2 : i < ns.length := by omega
          have fx : ns[i]? = some (ns.getD i 0) := get_lt i2
          have fo : L2.atI (ns.map D.int) (i : Int) = some (.int (ns.getD i 0)) := DL.atI_nat (by rw [List.getElem?_map, fx]; rfl)
          have fn : ixN ns.length (i : Int) = some i := by
            unfold ixN
            rw [if_pos (by omega), if_pos (by omega)]
            simp
          generalize hfv : ns.getD i 0 = fv at fx fo
          simp [DL.endW, DL.bnd, DL.ret, DL.seqW, DL.grd, DL.nox, DL.rd, DL.env0, DL.asB, DL.truD, DL.andT, DL.orT, DL.notT, DL.optW, DL.onI2, DL.cmpI, DL.subD, DL.lenD, DL.intO, DL.tupleD, DL.listD, DL.ite_app, addD, hi, oixD, fo]
          refine draw_all (by decide) (by decide) fun w w0 w1 => ?_
          simp [DL.endW, DL.bnd, DL.ret, DL.seqW, DL.grd, DL.nox, DL.rd, DL.env0, DL.asB, DL.truD, DL.andT, DL.orT, DL.notT, DL.optW, DL.onI2, DL.cmpI, DL.subD, DL.lenD, DL.intO, DL.tupleD, DL.listD, DL.ite_app, setAt, fn]
          have hb := t.bd fv (List.mem_of_getElem? fx)
          rw [show (ns.map D.int).set i (D.int (fv + w - 2)) = (ns.set i (fv + w - 2)).map D.int by rw [List.map_set]]
          refine hR _ ⟨ns.set i (fv + w - 2), _, _, ⟨by simpa using hlen, ?_, fun x hx => ?_⟩, .inr rfl, rfl⟩
          · rw [List.getElem?_set_ne (by omega)]
            exact t.z
          · obtain ⟨u, hu⟩ := List.getElem?_of_mem hx
            by_cases cu : i = u
            · subst cu
              rw [List.getElem?_set_self i2] at hu
              cases hu
              omega
            · rw [List.getElem?_set_ne cu] at hu
              have := t.bd x (List.mem_of_getElem? hu)
              omega
        · by_cases c2 : kd = 1
          · subst c2
            have c3 : ¬ (2 : Int) < ns.length := fun z => c1 ⟨rfl, z⟩
            simp [DL.endW, DL.bnd, DL.ret, DL.seqW, DL.grd, DL.nox, DL.rd, DL.env0, DL.asB, DL.truD, DL.andT, DL.orT, DL.notT, DL.optW, DL.onI2, DL.cmpI, DL.subD, DL.lenD, DL.intO, DL.tupleD, DL.listD, DL.ite_app, eq_int, ownL, gtD, c3]
            exact hR _ ⟨ns, _, _, t.le (by decide), .inr rfl, rfl⟩
          · simp [DL.endW, DL.bnd, DL.ret, DL.seqW, DL.grd, DL.nox, DL.rd, DL.env0, DL.asB, DL.truD, DL.andT, DL.orT, DL.notT, DL.optW, DL.onI2, DL.cmpI, DL.subD, DL.lenD, DL.intO, DL.tupleD, DL.listD, DL.ite_app, eq_int, c2]
            exact hR _ ⟨ns, _, _, t.le (by decide), .inr rfl, rfl⟩
    rintro ρ ⟨ns, s2, x4, t, hs, rfl⟩
    rcases hs with rfl | rfl
    · simp [DL.endW, DL.bnd, DL.ret, DL.seqW, DL.grd, DL.nox, DL.rd, DL.env0, DL.asB, DL.truD, DL.andT, DL.orT, DL.notT, DL.optW, DL.onI2, DL.cmpI, DL.subD, DL.lenD, DL.intO, DL.tupleD, DL.listD, DL.ite_app, frzW, frzD]
      exact q ns t
    · simp [DL.endW, DL.bnd, DL.ret, DL.seqW, DL.grd, DL.nox, DL.rd, DL.env0, DL.asB, DL.truD, DL.andT, DL.orT, DL.notT, DL.optW, DL.onI2, DL.cmpI, DL.subD, DL.lenD, DL.intO, DL.tupleD, DL.listD, DL.ite_app, frzW, frzD]
      exact q ns t
end K09
end
section
set_option Elab.async false
set_option linter.all false
set_option maxRecDepth 100000
set_option maxHeartbeats 4000000
set_option autoImplicit false
namespace K09
open PySem PySem.Spec L2 DL
def told2 : D := .tup [.int (-2), .tup [.tup [.int 0, .int 1]]]
def told1 : D := .tup [.int 0, .tup [.tup [], .tup [.int 0]]]
def kn2 : D := .ins 0 [.int 2, .tup [.int 0, .int (-1), .int (-1), .int (-2)]]
def kn1 : D := .ins 0 [.int 1, .tup [.int 0, .int 0]]
theorem mk2 : mk_Table [.int 2, .tup [.int 0, .int (-1), .int (-1), .int (-2)]] = DL.ret kn2 := s_of (by kernel_rfl)
theorem mk1 : mk_Table [.int 1, .tup [.int 0, .int 0]] = DL.ret kn1 := s_of (by kernel_rfl)
theorem ll2 : s_least_lots [kn2] = DL.ret told2 := s_of (by kernel_rfl)
theorem ll1 : s_least_lots [kn1] = DL.ret told1 := s_of (by kernel_rfl)
theorem same21 : s__law_is [.lst [told2, told1], .lst [.tup [.int (-2), .tup [.tup [.int 0, .int 1]]], .tup [.int 0, .tup [.tup [], .tup [.int 0]]]]] = DL.ret (.bl true) := s_of (by kernel_rfl)
def odds : List D := [.non, .int 0, .tup [.int 0, .int 1], .str "table", .lst [], .dic [] [], .tup [.int 1, .tup [.int 0, .int 0]]]
theorem odd_ok : ∀ d ∈ odds, noClos [d] = true ∧ P_least_lots [d] = .ex ⟨0, []⟩ := by
  intro d hd
  simp only [odds, List.mem_cons, List.not_mem_nil, or_false] at hd
  rcases hd with rfl | rfl | rfl | rfl | rfl | rfl | rfl <;> exact ⟨by simp [noClos, noClo], by kernel_rfl⟩
theorem eq_str (S : Nat → List D → W D) (neg : Bool) : eqD S neg (.str "NoTable") (.str "NoTable") = DL.ret (.bl (!neg)) := by
  have h : PyData.strOk ("NoTable" : Str) = true := by kernel_rfl
  simp [eqD, valD, pyD, SeqAt.shaped, PyData.canLay0, PyData.depth, optW, PyData.eqv, h]
theorem m_law {G : Gx} (gs : GS G) (ds : List D) (Q : D → Prop) (E : DX → Prop) (h : s_law ds Q E) : endW (W_law G (env0 7 ds)) Q E := by
  match ds, h with
  | [.scr ns], h =>
    obtain ⟨hn, q⟩ := h
    unfold W_law
    refine seqW_I (I := fun ρ => ρ = [.d (.scr ns), .d .hnd, .un, .un, .un, .un, .un]) ?_ ?_
    · intro R hR
      simp [DL.endW, DL.bnd, DL.ret, DL.seqW, DL.grd, DL.nox, DL.rd, DL.env0, DL.asB, DL.truD, DL.andT, DL.orT, DL.notT, DL.optW, DL.onI2, DL.cmpI, DL.subD, DL.lenD, DL.intO, DL.tupleD, DL.listD, DL.ite_app]
      exact ⟨by omega, hR _ rfl⟩
    rintro ρ rfl
    refine seqW_I (I := fun ρ => ρ = [.d (.scr ns), .d .hnd, .d kn2, .un, .un, .un, .un]) ?_ ?_
    · intro R hR
      simp [DL.endW, DL.bnd, DL.ret, DL.seqW, DL.grd, DL.nox, DL.rd, DL.env0, DL.asB, DL.truD, DL.andT, DL.orT, DL.notT, DL.optW, DL.onI2, DL.cmpI, DL.subD, DL.lenD, DL.intO, DL.tupleD, DL.listD, DL.ite_app, negD, mk2]
      exact hR _ rfl
    rintro ρ rfl
    refine seqW_I (I := fun ρ => ρ = [.d (.scr ns), .d .hnd, .d kn2, .un, .un, .un, .un]) ?_ ?_
    · intro R hR
      show s_least_lots [kn2] (fun x => mk_Table [.int 1, .tup [.int 0, .int 0]] (fun t => s_least_lots [t] (fun y => s__law_is [.lst [x, y], .lst [.tup [.int (-2), .tup [.tup [.int 0, .int 1]]], .tup [.int 0, .tup [.tup [], .tup [.int 0]]]]] (fun b => truD b (fun t => (if (!t) = true then DL.ret (Out.rt (.bl false) [.d (.scr ns), .d .hnd, .d kn2, .un, .un, .un, .un]) else DL.ret (Out.nx [.d (.scr ns), .d .hnd, .d kn2, .un, .un, .un, .un])) R E) E) E) E) E) E
      rw [ll2]
      show mk_Table [.int 1, .tup [.int 0, .int 0]] (fun t => s_least_lots [t] (fun y => s__law_is [.lst [told2, y], _] _ E) E) E
      rw [mk1]
      show s_least_lots [kn1] (fun y => s__law_is [.lst [told2, y], _] _ E) E
      rw [ll1]
      show s__law_is [.lst [told2, told1], _] _ E
      rw [same21]
      exact hR _ rfl
    rintro ρ rfl
    refine seqW_I (I := fun ρ => ∃ d ∈ odds, ρ = [.d (.scr ns), .d .hnd, .d kn2, .d d, .un, .un, .un]) ?_ ?_
    · intro R hR
      show s__law_any [.hnd, .lst odds] (fun d => R (.nx [.d (.scr ns), .d .hnd, .d kn2, .d d, .un, .un, .un])) E
      exact ⟨by decide, by decide, fun x hx => hR _ ⟨x, hx, rfl⟩⟩
    rintro ρ ⟨d, hd, rfl⟩
    obtain ⟨o1, o2⟩ := odd_ok d hd
    refine seqW_I (I := fun ρ => ρ = [.d (.scr ns), .d .hnd, .d kn2, .d d, .un, .un, .un]) ?_ ?_
    · intro R hR
      simp [DL.endW, DL.bnd, DL.ret, DL.seqW, DL.grd, DL.nox, DL.rd, DL.env0, DL.asB, DL.truD, DL.andT, DL.orT, DL.notT, DL.optW, DL.onI2, DL.cmpI, DL.subD, DL.lenD, DL.intO, DL.tupleD, DL.listD, DL.ite_app, rds]
      refine ⟨by simpa using o1, ?_, ?_⟩
      · show (P_least_lots [d]).w _ _
        rw [o2]
        exact ⟨rfl, rfl⟩
      · simp [DL.endW, DL.bnd, DL.ret, DL.seqW, DL.grd, DL.nox, DL.rd, DL.env0, DL.asB, DL.truD, DL.andT, DL.orT, DL.notT, DL.optW, DL.onI2, DL.cmpI, DL.subD, DL.lenD, DL.intO, DL.tupleD, DL.listD, DL.ite_app, gNo, noClo, eq_str]
        exact hR _ rfl
    rintro ρ rfl
    refine seqW_I (I := fun ρ => ∃ a b c : Sl, ρ = [.d (.scr ns), .d .hnd, .d kn2, .d d, a, b, c]) ?_ ?_
    · intro R hR
      simp [DL.endW, DL.bnd, DL.ret, DL.seqW, DL.grd, DL.nox, DL.rd, DL.env0, DL.asB, DL.truD, DL.andT, DL.orT, DL.notT, DL.optW, DL.onI2, DL.cmpI, DL.subD, DL.lenD, DL.intO, DL.tupleD, DL.listD, DL.ite_app]
      refine rng_nat (n := 5) (by decide) ?_
      refine forGo_ty (I := fun _ ρ => ∃ a b c : Sl, ρ = [.d (.scr ns), .d .hnd, .d kn2, .d d, a, b, c]) 0 ⟨_, _, _, rfl⟩ (fun j p ρ hj hρ Q2 hQ2 => ?_) fun ρ hρ => hR ρ hρ
      obtain ⟨a, b, c, rfl⟩ := hρ
      simp [DL.endW, DL.bnd, DL.ret, DL.seqW, DL.grd, DL.nox, DL.rd, DL.env0, DL.asB, DL.truD, DL.andT, DL.orT, DL.notT, DL.optW, DL.onI2, DL.cmpI, DL.subD, DL.lenD, DL.intO, DL.tupleD, DL.listD, DL.ite_app]
      refine draw_all (by decide) (by decide) fun r r0 r1 => ?_
      obtain ⟨k, hk⟩ : ∃ k : Nat, 1 + r = (k : Int) := ⟨(1 + r).toNat, by omega⟩
      simp [DL.endW, DL.bnd, DL.ret, DL.seqW, DL.grd, DL.nox, DL.rd, DL.env0, DL.asB, DL.truD, DL.andT, DL.orT, DL.notT, DL.optW, DL.onI2, DL.cmpI, DL.subD, DL.lenD, DL.intO, DL.tupleD, DL.listD, DL.ite_app, addD, hk]
      refine draw_all (by decide) (by decide) fun w w0 w1 => ?_
      simp [DL.endW, DL.bnd, DL.ret, DL.seqW, DL.grd, DL.nox, DL.rd, DL.env0, DL.asB, DL.truD, DL.andT, DL.orT, DL.notT, DL.optW, DL.onI2, DL.cmpI, DL.subD, DL.lenD, DL.intO, DL.tupleD, DL.listD, DL.ite_app, eq_int]
      have k1 : 1 ≤ k := by omega
      have k6 : k ≤ 6 := by omega
      by_cases c : w = 0
      · simp only [c, if_true]
        refine ⟨k, rfl, k1, k6, fun vs t => ?_⟩
        refine ⟨k, vs, rfl, rfl, k1, k6, t.le (by decide), ?_⟩
        simp [DL.endW, DL.bnd, DL.ret, DL.seqW, DL.grd, DL.nox, DL.rd, DL.env0, DL.asB, DL.truD, DL.andT, DL.orT, DL.notT, DL.optW, DL.onI2, DL.cmpI, DL.subD, DL.lenD, DL.intO, DL.tupleD, DL.listD, DL.ite_app]
        exact hQ2 _ ⟨_, _, _, rfl⟩
      · simp only [c, if_false]
        refine ⟨k, rfl, k1, k6, fun vs t => ?_⟩
        refine ⟨k, vs, rfl, rfl, k1, k6, t, ?_⟩
        simp [DL.endW, DL.bnd, DL.ret, DL.seqW, DL.grd, DL.nox, DL.rd, DL.env0, DL.asB, DL.truD, DL.andT, DL.orT, DL.notT, DL.optW, DL.onI2, DL.cmpI, DL.subD, DL.lenD, DL.intO, DL.tupleD, DL.listD, DL.ite_app]
        exact hQ2 _ ⟨_, _, _, rfl⟩
    rintro ρ ⟨a, b, c, rfl⟩
    exact q
end K09
end
section
set_option Elab.async false
set_option linter.all false
set_option maxRecDepth 100000
set_option maxHeartbeats 4000000
set_option autoImplicit false
namespace K09
open PySem PySem.Spec L2 DL
def oLot : O D → Option (List Int)
  | .ok (.tup xs) => intsD xs
  | _ => none
theorem oLot_eq {m : O D} {l : List Int} (h : oLot m = some l) : m = .ok (lotD l) := by
  unfold oLot at h
  split at h
  · rw [intsD_eq h]; rfl
  · cases h
/-- what is least of ns -/
def isMin (ns : List Int) (m : Int) : Prop := m ∈ ns ∧ ∀ y ∈ ns, m ≤ y
theorem isMin_one {ns : List Int} {a b : Int} (h : isMin ns a) (h2 : isMin ns b) : a = b := by
  have := h.2 b h2.1
  have := h2.2 a h.1
  omega
theorem min_ints (x : Int) (xs : List Int) {m : Int} (hm : m ∈ x :: xs) (h : ∀ y ∈ x :: xs, m ≤ y) : minO [.lst ((x :: xs).map D.int)] = .ok (.int m) := by
  have hi : ∀ l : List Int, ∀ y ∈ l.map D.int, isIntD y := fun l y hy => by
    obtain ⟨q, _, rfl⟩ := List.mem_map.mp hy
    exact ⟨q, rfl⟩
  have ok : MinOk ((x :: xs).map D.int) := cmp_int.minOk (hi _) (fun y hy => by
    obtain ⟨q, _, rfl⟩ := List.mem_map.mp hy
    rw [encD_int]
    simp) fun y hy => by
    obtain ⟨q, _, rfl⟩ := List.mem_map.mp hy
    rw [encD_int]
    simp [PyData.depth]
  have e := cmp_int.min_one (x := .int x) (xs := xs.map D.int) ⟨x, rfl⟩ (hi _) (m := .int m) (by
    have : D.int m ∈ (x :: xs).map D.int := List.mem_map.mpr ⟨m, hm, rfl⟩
    exact this) fun y hy => by
    have hy : y ∈ (x :: xs).map D.int := hy
    obtain ⟨q, hq, rfl⟩ := List.mem_map.mp hy
    rw [leE_int]
    simpa using h q hq
  rw [List.map_cons] at ok ⊢
  show og (MinOk _) _ = _
  rw [og_t ok, e]
theorem min_ex : ∀ (ns : List Int), ns ≠ [] → ∃ m, isMin ns m
  | [], h => (h rfl).elim
  | [x], _ => ⟨x, by simp, by simp⟩
  | x :: y :: ns, _ => by
    obtain ⟨m, h1, h2⟩ := min_ex (y :: ns) (by simp)
    by_cases c : x ≤ m
    · refine ⟨x, by simp, fun z hz => ?_⟩
      rcases List.mem_cons.mp hz with rfl | hz
      · exact Int.le_refl _
      · exact Int.le_trans c (h2 z hz)
    · refine ⟨m, List.mem_cons_of_mem _ h1, fun z hz => ?_⟩
      rcases List.mem_cons.mp hz with rfl | hz
      · omega
      · exact h2 z hz
theorem min_T {ns : List Int} {m : Int} (h : isMin ns m) : minUO [iT ns] = .ok (.int m) := by
  cases ns with
  | nil => cases h.1
  | cons x xs => exact min_ints x xs h.1 h.2
/-- the places at which m stands -/
def goalM (ns : List Int) (m : Int) : List Nat := (ns.zipIdx.filter fun p => p.1 == m).map (·.2)
theorem enumD_ty {α : Type} (c : α → D) (xs : List α) : enumD (xs.map c) = xs.zipIdx.map fun p => D.tup [.int (p.2 : Int), c p.1] := by
  unfold enumD
  rw [List.zipIdx_map, List.map_map]
  rfl
theorem eqo_int (S : Nat → List D → O D) (neg : Bool) (i j : Int) : eqO S neg (.int i) (.int j) = .ok (.bl ((i == j) != neg)) := by
  simp [eqO, valD, pyD, shp_int, oo, PyData.eqv]
theorem least_masks {ns : List Int} {m : Int} (hl : ns.length ≤ 64) (h : isMin ns m) : P_least_masks [iT ns] = .ok (.lst ((goalM ns m).map fun i : Nat => D.int (i : Int))) := by
  have e : O_least_masks (env0 4 [iT ns]) = seqO (ob (minUO [iT ns]) fun d => O.ok (.nx [.d (iT ns), .d d, .un, .un])) fun (ρ : DL.Env) => ob (ob (ob (ob (ob (rdO ρ 0) fun x => ob (O.ok []) fun xs => O.ok (x :: xs)) enumO) fun xs => og (xs.length ≤ sizeLine) (ono (lcO (lcFO [2, 3] (tupO 2 (consO (fun (d : D) (ρ : DL.Env) => O.ok (ρ.set 2 (.d d))) (consO (fun (d : D) (ρ : DL.Env) => O.ok (ρ.set 3 (.d d))) nilO))) (fun (ρ : DL.Env) => ob (ob (rdO ρ 3) fun x => ob (rdO ρ 1) fun y => eqO eqP false x y) asBO) (fun (ρ : DL.Env) => rdO ρ 2) ρ) xs))) fun ds => O.ok (.lst ds)) fun d => O.ok (.rt d ρ) := rfl
  rw [P_least_masks, e, min_T h, ob_ok]
  show endO (ob (ob (og ((enumD (ns.map D.int)).length ≤ sizeLine) (ono (lcO _ (enumD (ns.map D.int))))) _) _) = _
  rw [enumD_ty, og_t (sizeLine_len (by rw [List.length_map, List.length_zipIdx]; omega)), lcO_mp (P := fun p : Int × Nat => p.1 == m) (g := fun p => .int (p.2 : Int)), ono_ok, ob_ok]
  · show O.ok (D.lst _) = _
    unfold goalM
    rw [List.map_map]
    rfl
  · intro p hp
    show ob (ob (eqO eqP false (.int p.1) (.int m)) asBO) (fun t => if t = true then O.ok (some (D.int (p.2 : Int))) else O.ok none) = _
    rw [eqo_int, ob_ok]
    cases (p.1 == m) <;> rfl
def lotAt (k : Nat) (i : Nat) : List Int := (ev k).getD i []
theorem lot_ofs : ∀ k ≤ 6, 1 ≤ k → ∀ i : Nat, i < 2 ^ k → oLot (P_lot_of [.int (i : Int)]) = some (lotAt k i) := by decide +kernel
theorem goal_lt {ns : List Int} {m : Int} {i : Nat} (h : i ∈ goalM ns m) : i < ns.length ∧ ns[i]? = some m := by
  obtain ⟨p, hp, rfl⟩ := List.mem_map.mp h
  obtain ⟨h1, h2⟩ := List.mem_filter.mp hp
  have h3 := List.mem_zipIdx_iff_getElem?.mp h1
  have : p.1 = m := by simpa using h2
  rw [this] at h3
  exact ⟨(List.getElem?_eq_some_iff.mp h3).1, h3⟩
theorem goal_len (ns : List Int) (m : Int) : (goalM ns m).length ≤ ns.length := by
  unfold goalM
  rw [List.length_map]
  exact Nat.le_trans (List.length_filter_le _ _) (by rw [List.length_zipIdx]; exact Nat.le_refl _)
theorem least_lots {k : Nat} {ns : List Int} {m : Int} (k1 : 1 ≤ k) (k6 : k ≤ 6) (hl : ns.length = 2 ^ k) (h : isMin ns m) : P_least_lots [tb k ns] = .ok (.tup [.int m, .tup ((goalM ns m).map fun i => lotD (lotAt k i))]) := by
  have p := p64 k k6
  have e : O_least_lots (env0 2 [tb k ns]) = ob (ob (minUO [iT ns]) fun x => ob (ob (ob (ob (ob (P_least_masks [iT ns]) seqDO) fun xs => og (xs.length ≤ sizeLine) (ono (lcO (lcFO [1] (fun (d : D) (ρ : DL.Env) => O.ok (ρ.set 1 (.d d))) (fun (ρ : DL.Env) => O.ok true) (fun (ρ : DL.Env) => ob (ob (rdO ρ 1) fun x => ob (O.ok []) fun xs => O.ok (x :: xs)) P_lot_of) [.d (tb k ns), .un]) xs))) fun ds => tupleO [.lst ds]) fun y => O.ok [x, y]) fun xs => O.ok (D.tup xs)) fun d => O.ok (Out.rt d [.d (tb k ns), .un]) := by
    show seqO _ _ = _
    simp only [ob_as, ob_ok]
    rfl
  have hg := goal_len ns m
  rw [P_least_lots, e, min_T h, ob_ok, least_masks (by omega) h, ob_ok]
  show endO (ob (ob (ob (ob (og (((goalM ns m).map fun i : Nat => D.int (i : Int)).length ≤ sizeLine) (ono (lcO _ ((goalM ns m).map fun i : Nat => D.int (i : Int))))) _) _) _) _) = _
  rw [og_t (sizeLine_len (by rw [List.length_map]; omega)), lcO_m1 (g := fun i => lotD (lotAt k i)), ono_ok, ob_ok]
  · have e2 : tupleO [.lst ((goalM ns m).map fun i => lotD (lotAt k i))] = .ok (.tup ((goalM ns m).map fun i => lotD (lotAt k i))) := by
      first | rfl | exact og_t (sizeLine_len (by rw [List.length_map]; omega)) _
    rw [e2]
    rfl
  · intro i hi
    show ob (P_lot_of [.int (i : Int)]) _ = _
    rw [oLot_eq (lot_ofs k k6 k1 i (by rw [← hl]; exact (goal_lt hi).1))]
    rfl
end K09
end
section
set_option Elab.async false
set_option linter.all false
set_option maxRecDepth 100000
set_option maxHeartbeats 4000000
set_option autoImplicit false
namespace K09
/-! hollow step by step is hollow as a whole -/
section
variable {α : Type} {f : List α → Int} {ok : α → Prop}
theorem sub_one (perm : ∀ l l' : List α, l.Perm l' → f l = f l') (loc : ∀ i j S, (i :: j :: S).Nodup → (∀ x ∈ i :: j :: S, ok x) → f (i :: j :: S) + f S ≤ f (i :: S) + f (j :: S)) (i : α) (S : List α) :
    ∀ T : List α, (i :: (T ++ S)).Nodup → (∀ x ∈ i :: (T ++ S), ok x) → f (i :: (T ++ S)) + f S ≤ f (i :: S) + f (T ++ S)
  | [], _, _ => by simp
  | t :: T, hn, ho => by
    have hn' : (i :: (T ++ S)).Nodup := by
      refine hn.sublist ?_
      exact (List.sublist_cons_self t (T ++ S)).cons_cons i
    have ih := sub_one perm loc i S T hn' fun x hx => ho x (by
      rcases List.mem_cons.mp hx with rfl | hx
      · exact List.mem_cons_self
      · exact List.mem_cons_of_mem _ (List.mem_cons_of_mem _ hx))
    have l1 := loc i t (T ++ S) hn ho
    show f (i :: t :: (T ++ S)) + f S ≤ f (i :: S) + f (t :: (T ++ S))
    omega
theorem sub_all (perm : ∀ l l' : List α, l.Perm l' → f l = f l') (loc : ∀ i j S, (i :: j :: S).Nodup → (∀ x ∈ i :: j :: S, ok x) → f (i :: j :: S) + f S ≤ f (i :: S) + f (j :: S)) (T S : List α) :
    ∀ A : List α, (A ++ (T ++ S)).Nodup → (∀ x ∈ A ++ (T ++ S), ok x) → f (A ++ (T ++ S)) + f S ≤ f (A ++ S) + f (T ++ S)
  | [], _, _ => by
    show f (T ++ S) + f S ≤ f S + f (T ++ S)
    omega
  | a :: A, hn, ho => by
    have pe : (A ++ (T ++ S)).Perm (T ++ (A ++ S)) := by
      rw [← List.append_assoc, ← List.append_assoc]
      exact (List.perm_append_comm).append_right S
    have hn' : (A ++ (T ++ S)).Nodup := (List.nodup_cons.mp hn).2
    have ih := sub_all perm loc T S A hn' fun x hx => ho x (List.mem_cons_of_mem _ hx)
    have hn2 : (a :: (T ++ (A ++ S))).Nodup := (pe.cons a).nodup_iff.mp hn
    have l1 := sub_one perm loc a (A ++ S) T hn2 fun x hx => ho x (by
      rcases List.mem_cons.mp hx with rfl | hx
      · exact List.mem_cons_self
      · exact List.mem_cons_of_mem _ (pe.mem_iff.mpr hx))
    have e1 : f (a :: (A ++ (T ++ S))) = f (a :: (T ++ (A ++ S))) := perm _ _ (pe.cons a)
    have e2 : f (A ++ (T ++ S)) = f (T ++ (A ++ S)) := perm _ _ pe
    show f (a :: (A ++ (T ++ S))) + f S ≤ f (a :: (A ++ S)) + f (T ++ S)
    omega
end
end K09
end
section
set_option Elab.async false
set_option linter.all false
set_option maxRecDepth 100000
set_option maxHeartbeats 4000000
set_option autoImplicit false
namespace K09
open PySem PySem.Spec L2 DL
theorem eqo_bl (S : Nat → List D → O D) (neg a b : Bool) : eqO S neg (.bl a) (.bl b) = .ok (.bl ((a == b) != neg)) := by
  simp [eqO, valD, pyD, shp_bool, oo, PyData.eqv]
inductive IT : Nat → D → Prop
  | int (n : Nat) (i : Int) : IT n (.int i)
  | tup (n : Nat) (xs : List D) : xs.length ≤ 1000 → (∀ x ∈ xs, IT n x) → IT (n + 1) (.tup xs)
  | lst (n : Nat) (xs : List D) : xs.length ≤ 1000 → (∀ x ∈ xs, IT n x) → IT (n + 1) (.lst xs)
theorem zip_self (xs : List D) : zipD xs xs = xs.map fun x => .tup [x, x] := by
  unfold zipD
  induction xs with
  | nil => rfl
  | cons x xs ih =>
    rw [List.zip_cons_cons, List.map_cons, List.map_cons, ih]
theorem all_true (xs : List D) : allO [.lst (xs.map fun _ => D.bl true)] = .ok (.bl true) := by
  have : (xs.map fun _ => D.bl true) = (xs.map fun _ => true).map D.bl := by rw [List.map_map]; rfl
  rw [this]
  show ob (oo (boolsD _)) _ = _
  rw [boolsD_map, oo_some, ob_ok]
  have : (xs.map fun _ => true).all id = true := by simp
  rw [this]
theorem or_T (y : O Bool) : orO' (.ok true) y = .ok true := rfl
theorem or_F (y : O Bool) : orO' (.ok false) y = y := rfl
theorem seq_nx (ρ : DL.Env) (f : DL.Env → O Out) : seqO (.ok (.nx ρ)) f = f ρ := rfl
theorem seq_rt (d : D) (ρ : DL.Env) (f : DL.Env → O Out) : seqO (.ok (.rt d ρ)) f = .ok (.rt d ρ) := rfl
theorem same_refl : ∀ (n : Nat) (d : D), IT n d → P__law_is_n (n + 1) [d, d] = .ok (.bl true) := by
  intro n d h
  induction h with
  | int n i =>
    have e0 : isiAF flds [.ty "tuple", .ty "list"] (.int i) = some false := rfl
    have e3 : isiF flds (.ty "bool") (.int i) = some false := rfl
    have e4 : isiF flds (.ty "int") (.int i) = some true := rfl
    have e6 : isiF flds (.ty "str") (.int i) = some false := rfl
    have r0 : rdO (env0 4 [.int i, .int i]) 0 = .ok (.int i) := rfl
    have r1 : rdO (env0 4 [.int i, .int i]) 1 = .ok (.int i) := rfl
    have e5 : isO (.int i) .non = .ok (.bl false) := rfl
    simp only [P__law_is_n, O__law_is, r0, r1, ob_ok, e0, e3, e4, e5, e6, Option.map_some, oo_some, truO, or_F, eqo_bl, eqo_int, asBO, seq_nx, beq_self_eq_true, bne_self_eq_false, Bool.false_eq_true, if_false, if_true, Bool.bne_false]
    rfl
  | tup n xs hl _ ih =>
    have e1 : isiF flds (.ty "tuple") (.tup xs) = some true := rfl
    have e2 : isiF flds (.ty "list") (.tup xs) = some false := rfl
    have r0 : rdO (env0 4 [.tup xs, .tup xs]) 0 = .ok (.tup xs) := rfl
    have r1 : rdO (env0 4 [.tup xs, .tup xs]) 1 = .ok (.tup xs) := rfl
    have e0 : isiAF flds [.ty "tuple", .ty "list"] (.tup xs) = some true := rfl
    have e5 : isO (.tup xs) .non = .ok (.bl false) := rfl
    have l1 : lenO [.tup xs] = .ok (.int xs.length) := rfl
    have z1 : zip2O [.tup xs, .tup xs] = .ok (xs.map fun x => .tup [x, x]) := by rw [← zip_self]; rfl
    rw [P__law_is_n, O__law_is]
    simp only [r0, r1, ob_ok, e0, e5, e1, e2, or_F, Option.map_some, oo_some, truO, or_T, or_F, eqo_bl, eqo_int, asBO, seq_nx, beq_self_eq_true, bne_self_eq_false, Bool.false_eq_true, if_false, if_true, Bool.bne_false, l1, z1]
    rw [og_t (sizeLine_len (by rw [List.length_map]; omega)), lcO_m1 (g := fun _ => .bl true) (fun x hx => by
      show ob (P__law_is_n (n + 1) [x, x]) _ = _
      rw [ih x hx]
      rfl), ono_ok, ob_ok, ob_ok, ob_ok, all_true]
    rfl
  | lst n xs hl _ ih =>
    have e1 : isiF flds (.ty "tuple") (.lst xs) = some false := rfl
    have e2 : isiF flds (.ty "list") (.lst xs) = some true := rfl
    have r0 : rdO (env0 4 [.lst xs, .lst xs]) 0 = .ok (.lst xs) := rfl
    have r1 : rdO (env0 4 [.lst xs, .lst xs]) 1 = .ok (.lst xs) := rfl
    have e0 : isiAF flds [.ty "tuple", .ty "list"] (.lst xs) = some true := rfl
    have e5 : isO (.lst xs) .non = .ok (.bl false) := rfl
    have l1 : lenO [.lst xs] = .ok (.int xs.length) := rfl
    have z1 : zip2O [.lst xs, .lst xs] = .ok (xs.map fun x => .tup [x, x]) := by rw [← zip_self]; rfl
    rw [P__law_is_n, O__law_is]
    simp only [r0, r1, ob_ok, e0, e5, e1, e2, or_F, Option.map_some, oo_some, truO, or_T, or_F, eqo_bl, eqo_int, asBO, seq_nx, beq_self_eq_true, bne_self_eq_false, Bool.false_eq_true, if_false, if_true, Bool.bne_false, l1, z1]
    rw [og_t (sizeLine_len (by rw [List.length_map]; omega)), lcO_m1 (g := fun _ => .bl true) (fun x hx => by
      show ob (P__law_is_n (n + 1) [x, x]) _ = _
      rw [ih x hx]
      rfl), ono_ok, ob_ok, ob_ok, ob_ok, all_true]
    rfl
theorem IT.up {n : Nat} {d : D} (h : IT n d) : IT (n + 1) d := by
  induction h with
  | int n i => exact .int _ i
  | tup n xs hl _ ih => exact .tup _ xs hl ih
  | lst n xs hl _ ih => exact .lst _ xs hl ih
theorem is_ok {d : D} (h : IT 5 d) : s__law_is [d, d] = DL.ret (.bl true) := s_of (same_refl 5 d h)
end K09
end
section
set_option Elab.async false
set_option linter.all false
set_option maxRecDepth 100000
set_option maxHeartbeats 4000000
set_option autoImplicit false
namespace K09
open PySem PySem.Spec L2 DL
/-- a loop that says False at the first thing that is not so -/
theorem forO_ck {α : Type} {c : α → D} {f : D → DL.Env → O Out} (I : DL.Env → Prop) (P : α → Prop) : ∀ (as : List α) (ρ : DL.Env), I ρ → (∀ a ∈ as, ∀ ρ, I ρ → (∃ ρ', f (c a) ρ = .ok (.rt (.bl false) ρ')) ∨ (P a ∧ ∃ ρ', I ρ' ∧ f (c a) ρ = .ok (.nx ρ'))) →
    (∃ ρ', forO f (as.map c) ρ = .ok (.rt (.bl false) ρ')) ∨ ((∀ a ∈ as, P a) ∧ ∃ ρ', I ρ' ∧ forO f (as.map c) ρ = .ok (.nx ρ'))
  | [], ρ, hi, _ => .inr ⟨by simp, ρ, hi, rfl⟩
  | a :: as, ρ, hi, h => by
    rcases h a List.mem_cons_self ρ hi with ⟨ρ', e⟩ | ⟨pa, ρ', hi', e⟩
    · refine .inl ⟨ρ', ?_⟩
      show ob (f (c a) ρ) _ = _
      rw [e]
      rfl
    · rcases forO_ck I P as ρ' hi' fun b hb => h b (List.mem_cons_of_mem _ hb) with ⟨ρ2, e2⟩ | ⟨pas, ρ2, hi2, e2⟩
      · refine .inl ⟨ρ2, ?_⟩
        show ob (f (c a) ρ) _ = _
        rw [e, ob_ok]
        exact e2
      · refine .inr ⟨fun b hb => ?_, ρ2, hi2, ?_⟩
        · rcases List.mem_cons.mp hb with rfl | hb
          · exact pa
          · exact pas b hb
        · show ob (f (c a) ρ) _ = _
          rw [e, ob_ok]
          exact e2
/-- the place of a lot -/
def plcI (l : List Int) : Int := (l.map fun t => (2 : Int) ^ t.toNat).sum
theorem places : ∀ k ≤ 6, ∀ l ∈ ev k, oI (P__law_place [lotD l]) = some (plcI l) ∧ 0 ≤ plcI l ∧ plcI l < 2 ^ k := by decide +kernel
theorem bits : ∀ i : Nat, i < 7 → oI (P__law_bit [.int (i : Int)]) = some ((2 : Int) ^ i) := by decide +kernel
theorem place_at : ∀ k ≤ 6, ∀ i : Nat, i < 2 ^ k → plcI (lotAt k i) = (i : Int) := by decide +kernel
end K09
end
section
set_option Elab.async false
set_option linter.all false
set_option maxRecDepth 100000
set_option maxHeartbeats 4000000
set_option autoImplicit false
namespace K09
open PySem PySem.Spec L2 DL
theorem places2b : ∀ k ≤ 6, ∀ l ∈ ev k, ∀ one ∈ List.range k, ∀ two ∈ List.range one, l.contains (one : Int) = true ∨ l.contains (two : Int) = true ∨ plcI l + 2 ^ one + 2 ^ two < 2 ^ k := by decide +kernel
theorem places2 {k : Nat} (k6 : k ≤ 6) {l : List Int} (hl : l ∈ ev k) {one two : Nat} (h1 : one < k) (h2 : l.contains (one : Int) = false) (h3 : two < one) (h4 : l.contains (two : Int) = false) : plcI l + 2 ^ one + 2 ^ two < 2 ^ k := by
  rcases places2b k k6 l hl one (List.mem_range.mpr h1) two (List.mem_range.mpr h3) with h | h | h
  · rw [h2] at h; cases h
  · rw [h4] at h; cases h
  · exact h
/-- one thing more brings less at a lot -/
def loc (ns : List Int) (l : List Int) (one two : Nat) : Prop :=
  ns.getD (plcI l + 2 ^ one + 2 ^ two).toNat 0 - ns.getD (plcI l + 2 ^ two).toNat 0 ≤ ns.getD (plcI l + 2 ^ one).toNat 0 - ns.getD (plcI l).toNat 0
theorem ix_ns {ns : List Int} {k : Nat} {i : Int} (hl : ns.length = 2 ^ k) (h0 : 0 ≤ i) (h1 : i < 2 ^ k) : ixO (iT ns) (.int i) = .ok (.int (ns.getD i.toNat 0)) := by
  have hlt : i < (ns.length : Int) := by rw [hl]; exact_mod_cast h1
  have : (ns.map D.int)[i.toNat]? = some (.int (ns.getD i.toNat 0)) := by
    rw [List.getElem?_map, get_lt (by omega)]
    rfl
  have e : L2.atI (ns.map D.int) i = some (.int (ns.getD i.toNat 0)) := by
    unfold L2.atI ixN
    rw [if_pos h0, if_pos (by simp; omega)]
    exact this
  show oo (L2.atI _ _) = _
  rw [e]
  rfl
end K09
end
section
set_option Elab.async false
set_option linter.all false
set_option maxRecDepth 100000
set_option maxHeartbeats 4000000
set_option autoImplicit false
namespace K09
open PySem PySem.Spec L2 DL
/-- the innermost step -/
def b3 : D → DL.Env → O Out := fun x ρ => ob (ono ((fun (d : D) (ρ : DL.Env) => O.ok (ρ.set 4 (.d d))) x ρ)) fun (ρ : DL.Env) => seqO (ob (ob (ob (ob (rdO ρ 2) fun x => ob (O.ok []) fun xs => O.ok (x :: xs)) P__law_place) fun x => ob (ob (ob (ob (rdO ρ 3) fun x => ob (O.ok []) fun xs => O.ok (x :: xs)) P__law_bit) fun x => ob (ob (ob (ob (rdO ρ 4) fun x => ob (O.ok []) fun xs => O.ok (x :: xs)) P__law_bit) fun x => ob (O.ok []) fun xs => O.ok (x :: xs)) fun xs => O.ok (x :: xs)) fun xs => O.ok (x :: xs)) fun ds => par3O 5 6 7 ρ ds) fun (ρ : DL.Env) => seqO (ob (ob (ob (rdO ρ 5) fun x => ob (rdO ρ 6) fun y => addO x y) fun x => ob (rdO ρ 7) fun y => addO x y) fun d => O.ok (.nx (ρ.set 8 (.d d)))) fun (ρ : DL.Env) => seqO (ob (ob (ob (rdO ρ 1) fun x => ob (rdO ρ 8) fun y => ixO x y) fun x => ob (ob (rdO ρ 1) fun x => ob (ob (rdO ρ 5) fun x => ob (rdO ρ 7) fun y => addO x y) fun y => ixO x y) fun y => subO x y) fun d => O.ok (.nx (ρ.set 9 (.d d)))) fun (ρ : DL.Env) => ob (ob (ob (rdO ρ 9) fun x => ob (ob (ob (rdO ρ 1) fun x => ob (ob (rdO ρ 5) fun x => ob (rdO ρ 6) fun y => addO x y) fun y => ixO x y) fun x => ob (ob (rdO ρ 1) fun x => ob (rdO ρ 5) fun y => ixO x y) fun y => subO x y) fun y => gtO x y) asBO) fun t => if t = true then ob (O.ok (.bl false)) fun d => O.ok (.rt d ρ) else O.ok (.nx ρ)
def I3 (k : Nat) (ns l : List Int) (one : Nat) (ρ : DL.Env) : Prop := ∃ a4 a5 a6 a7 a8 a9 : Sl, ρ = [.d (.int k), .d (iT ns), .d (lotD l), .d (.int one), a4, a5, a6, a7, a8, a9]
theorem step3 {k : Nat} {ns l : List Int} {one two : Nat} (k6 : k ≤ 6) (hn : ns.length = 2 ^ k) (hl : l ∈ ev k) (h1 : one < k) (h2 : l.contains (one : Int) = false) (h3 : two < one) (h4 : l.contains (two : Int) = false) {ρ : DL.Env} (hi : I3 k ns l one ρ) :
    (∃ ρ', b3 (.int (two : Int)) ρ = .ok (.rt (.bl false) ρ')) ∨ (loc ns l one two ∧ ∃ ρ', I3 k ns l one ρ' ∧ b3 (.int (two : Int)) ρ = .ok (.nx ρ')) := by
  obtain ⟨a4, a5, a6, a7, a8, a9, rfl⟩ := hi
  obtain ⟨p1, p2, p3⟩ := places k k6 l hl
  have p1 := oI_eq p1
  have q1 := oI_eq (bits one (by omega))
  have q2 := oI_eq (bits two (by omega))
  have w := places2 k6 hl h1 h2 h3 h4
  have b1 : (0 : Int) < 2 ^ one := Int.pow_pos (by decide)
  have b2 : (0 : Int) < 2 ^ two := Int.pow_pos (by decide)
  have x1 := ix_ns (i := plcI l + 2 ^ one + 2 ^ two) hn (by omega) w
  have x2 := ix_ns (i := plcI l + 2 ^ two) hn (by omega) (by omega)
  have x3 := ix_ns (i := plcI l + 2 ^ one) hn (by omega) (by omega)
  have x4 := ix_ns (i := plcI l) hn p2 p3
  have g : ∀ i j : Int, gtO (.int i) (.int j) = .ok (.bl (decide (j < i))) := fun i j => rfl
  have ad : ∀ i j : Int, addO (.int i) (.int j) = .ok (.int (i + j)) := fun i j => rfl
  have su : ∀ i j : Int, subO (.int i) (.int j) = .ok (.int (i - j)) := fun i j => rfl
  unfold b3
  simp only [ono_ok, ob_ok, List.set_cons_zero, List.set_cons_succ, rdO, List.getElem?_cons_zero, List.getElem?_cons_succ, p1, q1, q2, par3O, seqO, ad, su, x1, x2, x3, x4, g, asBO]
  by_cases c : ns.getD (plcI l + 2 ^ one).toNat 0 - ns.getD (plcI l).toNat 0 < ns.getD (plcI l + 2 ^ one + 2 ^ two).toNat 0 - ns.getD (plcI l + 2 ^ two).toNat 0
  · left
    rw [decide_eq_true c]
    exact ⟨_, rfl⟩
  · right
    rw [decide_eq_false c]
    exact ⟨Int.not_lt.mp c, _, ⟨_, _, _, _, _, _, rfl⟩, rfl⟩
end K09
end
section
set_option Elab.async false
set_option linter.all false
set_option maxRecDepth 100000
set_option maxHeartbeats 4000000
set_option autoImplicit false
/-! G1: lots of k things as ascending lists, their places. -/
namespace DL
/-- the lot with the number i -/
def lotN (k i : Nat) : List Int := ((List.range k).filter fun b => i.testBit b).map fun b : Nat => (b : Int)
/-- the place of a lot -/
def plc : List Int → Nat
  | [] => 0
  | x :: xs => 2 ^ x.toNat + plc xs
/-- ascending, of k things -/
structure Lot (k : Nat) (l : List Int) : Prop where
  asc : l.Pairwise (· < ·)
  bd : ∀ x ∈ l, 0 ≤ x ∧ x < k
theorem plc_append : ∀ a b : List Int, plc (a ++ b) = plc a + plc b
  | [], b => by simp [plc]
  | x :: a, b => by
    rw [List.cons_append, plc, plc, plc_append a b]
    omega
theorem plc_perm {a b : List Int} (h : a.Perm b) : plc a = plc b := by
  induction h with
  | nil => rfl
  | cons x _ ih => rw [plc, plc, ih]
  | swap x y l => simp only [plc]; omega
  | trans _ _ h1 h2 => rw [h1, h2]
theorem lotN_mem {k i : Nat} {x : Int} : x ∈ lotN k i ↔ 0 ≤ x ∧ x < k ∧ i.testBit x.toNat = true := by
  unfold lotN
  rw [List.mem_map]
  constructor
  · rintro ⟨b, h, rfl⟩
    obtain ⟨h1, h2⟩ := List.mem_filter.mp h
    have := List.mem_range.mp h1
    exact ⟨by omega, by omega, by simpa using h2⟩
  · rintro ⟨h1, h2, h3⟩
    refine ⟨x.toNat, List.mem_filter.mpr ⟨List.mem_range.mpr (by omega), h3⟩, by omega⟩
theorem lotN_lot (k i : Nat) : Lot k (lotN k i) where
  asc := by
    unfold lotN
    rw [List.pairwise_map]
    refine (List.Pairwise.filter _ List.pairwise_lt_range).imp ?_
    intro a b h
    omega
  bd := fun x h => by
    obtain ⟨h1, h2, _⟩ := lotN_mem.mp h
    exact ⟨h1, h2⟩
theorem lotN_succ (k i : Nat) : lotN (k + 1) i = lotN k i ++ (if i.testBit k then [(k : Int)] else []) := by
  unfold lotN
  rw [List.range_succ, List.filter_append, List.map_append]
  congr 1
  by_cases h : i.testBit k <;> simp [h]
theorem lotN_mod (k i : Nat) : lotN k (i % 2 ^ k) = lotN k i := by
  unfold lotN
  congr 1
  refine List.filter_congr fun b hb => ?_
  have := List.mem_range.mp hb
  rw [Nat.testBit_mod_two_pow]
  simp [this]
theorem plc_lotN_mod : ∀ k i : Nat, plc (lotN k i) = i % 2 ^ k
  | 0, i => by simp [lotN, plc, Nat.mod_one]
  | k + 1, i => by
    rw [lotN_succ, plc_append, plc_lotN_mod k i, Nat.mod_pow_succ, Nat.testBit_eq_decide_div_mod_eq]
    have hm := Nat.mod_two_eq_zero_or_one (i / 2 ^ k)
    rcases hm with h | h
    · simp [h, plc]
    · simp [h, plc]
theorem plc_lotN {k i : Nat} (h : i < 2 ^ k) : plc (lotN k i) = i := by rw [plc_lotN_mod, Nat.mod_eq_of_lt h]
/-- what is ascending is told by what is in it -/
theorem Lot.one {k : Nat} {l m : List Int} (h1 : Lot k l) (h2 : Lot k m) (h : ∀ x, x ∈ l ↔ x ∈ m) : l = m := asc_one h1.asc h2.asc h
theorem mask_of (k : Nat) (p : Nat → Bool) : ∃ i, i < 2 ^ k ∧ ∀ b < k, i.testBit b = p b := by
  induction k with
  | zero => exact ⟨0, by simp, by simp⟩
  | succ k ih =>
    obtain ⟨i, h1, h2⟩ := ih
    refine ⟨i + (if p k then 2 ^ k else 0), ?_, fun b hb => ?_⟩
    · rw [Nat.pow_succ]; split <;> omega
    · by_cases c : b = k
      · subst c
        by_cases hp : p b
        · simp only [hp, if_true]
          rw [Nat.add_comm, Nat.testBit_two_pow_add_eq, Nat.testBit_lt_two_pow h1]
          rfl
        · simp only [hp, Bool.false_eq_true, if_false, Nat.add_zero, Nat.testBit_lt_two_pow h1]
      · have hb : b < k := by omega
        rw [← h2 b hb]
        by_cases hp : p k
        · simp only [hp, if_true]
          rw [Nat.add_comm, Nat.testBit_two_pow_add_gt hb]
        · simp only [hp, Bool.false_eq_true, if_false, Nat.add_zero]
theorem Lot.is {k : Nat} {l : List Int} (h : Lot k l) : ∃ i, i < 2 ^ k ∧ l = lotN k i := by
  obtain ⟨i, h1, h2⟩ := mask_of k fun b => l.contains (b : Int)
  refine ⟨i, h1, h.one (lotN_lot k i) fun x => ?_⟩
  rw [lotN_mem]
  constructor
  · intro hx
    obtain ⟨b1, b2⟩ := h.bd x hx
    refine ⟨b1, b2, ?_⟩
    rw [h2 _ (by omega), Int.toNat_of_nonneg b1]
    simpa using hx
  · rintro ⟨b1, b2, b3⟩
    rw [h2 _ (by omega), Int.toNat_of_nonneg b1] at b3
    simpa using b3
theorem Lot.eq {k : Nat} {l : List Int} (h : Lot k l) : l = lotN k (plc l) := by
  obtain ⟨i, h1, h2⟩ := h.is
  rw [h2, plc_lotN h1]
theorem Lot.lt {k : Nat} {l : List Int} (h : Lot k l) : plc l < 2 ^ k := by
  obtain ⟨i, h1, h2⟩ := h.is
  rw [h2, plc_lotN h1]
  exact h1
theorem Lot.nodup {k : Nat} {l : List Int} (h : Lot k l) : l.Nodup := h.asc.imp fun h => by omega
theorem Lot.plc_inj {k : Nat} {l m : List Int} (h1 : Lot k l) (h2 : Lot k m) (h : plc l = plc m) : l = m := by rw [h1.eq, h2.eq, h]
/-- what is once alone, in order -/
theorem lot_sd {k : Nat} {l : List Int} (h : ∀ x ∈ l, 0 ≤ x ∧ x < k) : Lot k (sdI l) := ⟨asc_sdI l, fun x hx => h x (mem_sdI.mp hx)⟩
theorem Lot.filter {k : Nat} {l : List Int} (h : Lot k l) (p : Int → Bool) : Lot k (l.filter p) := ⟨h.asc.filter _, fun x hx => h.bd x (List.mem_filter.mp hx).1⟩
theorem nodup_perm_sd {k : Nat} {l : List Int} (hn : l.Nodup) : (sdI l).Perm l := by
  refine (List.perm_ext_iff_of_nodup ((asc_sdI l).imp fun h => by omega) hn).mpr fun x => mem_sdI
theorem plc_sd {l : List Int} (hn : l.Nodup) : plc (sdI l) = plc l := plc_perm (nodup_perm_sd (k := 0) hn)
theorem Lot.len {k : Nat} {l : List Int} (h : Lot k l) : l.length ≤ k := by
  rw [h.eq]
  unfold lotN
  rw [List.length_map]
  refine Nat.le_trans (List.length_filter_le _ _) ?_
  rw [List.length_range]
  exact Nat.le_refl _
theorem lots_eq (k : Nat) : ((List.range (2 ^ k)).map (lotN k)).length = 2 ^ k := by simp
end DL
end
section
set_option Elab.async false
set_option linter.all false
set_option maxRecDepth 100000
set_option maxHeartbeats 4000000
set_option autoImplicit false
/-! G2: tables as lists of numbers by places; hollow step by step is hollow as a whole. -/
namespace DL
/-- a lot's number -/
def val (ns : List Int) (l : List Int) : Int := ns.getD (plc l) 0
theorem val_perm (ns : List Int) {a b : List Int} (h : a.Perm b) : val ns a = val ns b := by unfold val; rw [plc_perm h]
section
variable {α : Type} {f : List α → Int} {ok : α → Prop}
theorem sub_one (perm : ∀ l l' : List α, l.Perm l' → f l = f l') (loc : ∀ i j S, (i :: j :: S).Nodup → (∀ x ∈ i :: j :: S, ok x) → f (i :: j :: S) + f S ≤ f (i :: S) + f (j :: S)) (i : α) (S : List α) :
    ∀ T : List α, (i :: (T ++ S)).Nodup → (∀ x ∈ i :: (T ++ S), ok x) → f (i :: (T ++ S)) + f S ≤ f (i :: S) + f (T ++ S)
  | [], _, _ => by simp
  | t :: T, hn, ho => by
    have hn' : (i :: (T ++ S)).Nodup := by
      refine hn.sublist ?_
      exact (List.sublist_cons_self t (T ++ S)).cons_cons i
    have ih := sub_one perm loc i S T hn' fun x hx => ho x (by
      rcases List.mem_cons.mp hx with rfl | hx
      · exact List.mem_cons_self
      · exact List.mem_cons_of_mem _ (List.mem_cons_of_mem _ hx))
    have l1 := loc i t (T ++ S) hn ho
    show f (i :: t :: (T ++ S)) + f S ≤ f (i :: S) + f (t :: (T ++ S))
    omega
theorem sub_all (perm : ∀ l l' : List α, l.Perm l' → f l = f l') (loc : ∀ i j S, (i :: j :: S).Nodup → (∀ x ∈ i :: j :: S, ok x) → f (i :: j :: S) + f S ≤ f (i :: S) + f (j :: S)) (T S : List α) :
    ∀ A : List α, (A ++ (T ++ S)).Nodup → (∀ x ∈ A ++ (T ++ S), ok x) → f (A ++ (T ++ S)) + f S ≤ f (A ++ S) + f (T ++ S)
  | [], _, _ => by
    show f (T ++ S) + f S ≤ f S + f (T ++ S)
    omega
  | a :: A, hn, ho => by
    have pe : (A ++ (T ++ S)).Perm (T ++ (A ++ S)) := by
      rw [← List.append_assoc, ← List.append_assoc]
      exact (List.perm_append_comm).append_right S
    have hn' : (A ++ (T ++ S)).Nodup := (List.nodup_cons.mp hn).2
    have ih := sub_all perm loc T S A hn' fun x hx => ho x (List.mem_cons_of_mem _ hx)
    have hn2 : (a :: (T ++ (A ++ S))).Nodup := (pe.cons a).nodup_iff.mp hn
    have l1 := sub_one perm loc a (A ++ S) T hn2 fun x hx => ho x (by
      rcases List.mem_cons.mp hx with rfl | hx
      · exact List.mem_cons_self
      · exact List.mem_cons_of_mem _ (pe.mem_iff.mpr hx))
    have e1 : f (a :: (A ++ (T ++ S))) = f (a :: (T ++ (A ++ S))) := perm _ _ (pe.cons a)
    have e2 : f (A ++ (T ++ S)) = f (T ++ (A ++ S)) := perm _ _ pe
    show f (a :: (A ++ (T ++ S))) + f S ≤ f (a :: (A ++ S)) + f (T ++ S)
    omega
end
/-- one thing more brings less the more there are -/
def Loc (k : Nat) (ns : List Int) : Prop := ∀ i j : Int, ∀ S : List Int, (i :: j :: S).Nodup → (∀ x ∈ i :: j :: S, 0 ≤ x ∧ x < k) → val ns (i :: j :: S) + val ns S ≤ val ns (i :: S) + val ns (j :: S)
/-- both together, in common -/
def uni (a b : List Int) : List Int := sdI (a ++ b)
def met (a b : List Int) : List Int := a.filter fun x => b.contains x
theorem uni_lot {k : Nat} {a b : List Int} (ha : Lot k a) (hb : Lot k b) : Lot k (uni a b) := lot_sd fun x hx => by
  rcases List.mem_append.mp hx with h | h
  · exact ha.bd x h
  · exact hb.bd x h
theorem met_lot {k : Nat} {a b : List Int} (ha : Lot k a) : Lot k (met a b) := ha.filter _
theorem split_perm (p : Int → Bool) : ∀ a : List Int, (a.filter (fun x => !p x) ++ a.filter p).Perm a
  | [] => .refl _
  | x :: a => by
    have ih := split_perm p a
    by_cases h : p x
    · simp only [List.filter_cons, h, Bool.not_true, Bool.false_eq_true, if_false, if_true]
      exact (List.perm_middle).trans (ih.cons x)
    · simp only [Bool.not_eq_true] at h
      simp only [List.filter_cons, h, Bool.not_false, if_true, Bool.false_eq_true, if_false]
      exact ih.cons x
theorem hollow_all {k : Nat} {ns : List Int} (h : Loc k ns) {a b : List Int} (ha : Lot k a) (hb : Lot k b) : val ns (uni a b) + val ns (met a b) ≤ val ns a + val ns b := by
  have hA : (a.filter (fun x => !b.contains x) ++ met a b).Perm a := split_perm (fun x => b.contains x) a
  have hB := split_perm (fun x => a.contains x) b
  have hm : (b.filter fun x => a.contains x).Perm (met a b) := by
    refine (List.perm_ext_iff_of_nodup (hb.nodup.filter _) (ha.nodup.filter _)).mpr fun x => ?_
    simp only [List.mem_filter, List.contains_iff_mem]
    exact And.comm
  have hB2 : (b.filter (fun x => !a.contains x) ++ met a b).Perm b := (hm.symm.append_left _).trans hB
  have hu : (a.filter (fun x => !b.contains x) ++ (b.filter (fun x => !a.contains x) ++ met a b)).Perm (uni a b) := by
    refine (List.perm_ext_iff_of_nodup ?_ ((asc_sdI _).imp fun h => by omega)).mpr fun x => ?_
    · refine List.nodup_append.mpr ⟨ha.nodup.filter _, hB2.nodup_iff.mpr hb.nodup, fun x hx y hy e => ?_⟩
      subst e
      obtain ⟨_, h2⟩ := List.mem_filter.mp hx
      have := hB2.mem_iff.mp hy
      simp [this] at h2
    · unfold met
      simp only [mem_sdI, List.mem_append, List.mem_filter, List.contains_iff_mem, Bool.not_eq_true', List.contains_eq_mem, decide_eq_false_iff_not, decide_eq_true_eq]
      by_cases h1 : x ∈ a <;> by_cases h2 : x ∈ b <;> simp [h1, h2]
  have bd : ∀ x ∈ a.filter (fun x => !b.contains x) ++ (b.filter (fun x => !a.contains x) ++ met a b), 0 ≤ x ∧ x < (k : Int) := fun x hx => (uni_lot ha hb).bd x (hu.mem_iff.mp hx)
  have := sub_all (f := val ns) (ok := fun x => 0 ≤ x ∧ x < (k : Int)) (fun _ _ => val_perm ns) h _ _ _ (hu.nodup_iff.mpr (uni_lot ha hb).nodup) bd
  rw [val_perm ns hu, val_perm ns hA, val_perm ns hB2] at this
  exact this
end DL
end
section
set_option Elab.async false
set_option linter.all false
set_option maxRecDepth 100000
set_option maxHeartbeats 4000000
set_option autoImplicit false
/-! G4: things called otherwise by an order. -/
namespace DL
open PyT
def act (ys : List Int) (x : Int) : Int := ys.getD x.toNat 0
/-- an order of k things -/
structure Ordr (k : Nat) (ys : List Int) : Prop where
  perm : ys.Perm ((List.range k).map fun i : Nat => (i : Int))
section
variable {k : Nat} {ys : List Int} (o : Ordr k ys)
include o
theorem Ordr.len : ys.length = k := by rw [o.perm.length_eq]; simp
theorem Ordr.mem {x : Int} : x ∈ ys ↔ 0 ≤ x ∧ x < k := by
  rw [o.perm.mem_iff, List.mem_map]
  constructor
  · rintro ⟨i, hi, rfl⟩
    have := List.mem_range.mp hi
    omega
  · intro ⟨h1, h2⟩
    exact ⟨x.toNat, List.mem_range.mpr (by omega), by omega⟩
theorem Ordr.nodup : ys.Nodup := by
  rw [o.perm.nodup_iff]
  unfold List.Nodup
  rw [List.pairwise_map]
  exact List.nodup_range.imp fun h e => h (by omega)
theorem Ordr.get {x : Int} (h0 : 0 ≤ x) (h1 : x < k) : ys[x.toNat]? = some (act ys x) := by
  have : x.toNat < ys.length := by rw [o.len]; omega
  unfold act
  rw [List.getD_eq_getElem?_getD, List.getElem?_eq_getElem this]
  rfl
theorem Ordr.bd {x : Int} (h0 : 0 ≤ x) (h1 : x < k) : 0 ≤ act ys x ∧ act ys x < k := o.mem.mp (List.mem_of_getElem? (o.get h0 h1))
theorem Ordr.inj {x y : Int} (h0 : 0 ≤ x) (h1 : x < k) (g0 : 0 ≤ y) (g1 : y < k) (e : act ys x = act ys y) : x = y := by
  have a := o.get h0 h1
  have b := o.get g0 g1
  rw [← e] at b
  have := (List.getElem?_inj (by rw [o.len]; omega) o.nodup).mp (a.trans b.symm)
  omega
theorem Ordr.surj {y : Int} (h0 : 0 ≤ y) (h1 : y < k) : ∃ x : Int, 0 ≤ x ∧ x < k ∧ act ys x = y := by
  obtain ⟨i, hi⟩ := List.getElem?_of_mem (o.mem.mpr ⟨h0, h1⟩)
  have hl := (List.getElem?_eq_some_iff.mp hi).1
  rw [o.len] at hl
  refine ⟨i, by omega, by omega, ?_⟩
  have := o.get (x := i) (by omega) (by omega)
  rw [Int.toNat_natCast, hi] at this
  exact (Option.some.inj this).symm
end
/-- the lot called otherwise -/
def img (ys : List Int) (l : List Int) : List Int := sdI (l.map (act ys))
section
variable {k : Nat} {ys : List Int} (o : Ordr k ys) {l m : List Int}
include o
theorem Ordr.lot (h : Lot k l) : Lot k (img ys l) := lot_sd fun x hx => by
  obtain ⟨y, hy, rfl⟩ := List.mem_map.mp hx
  obtain ⟨h1, h2⟩ := h.bd y hy
  exact o.bd h1 h2
theorem Ordr.nd (h : Lot k l) : (l.map (act ys)).Nodup := by
  have hn := h.nodup
  have hb := h.bd
  clear h
  induction l with
  | nil => exact List.nodup_nil
  | cons x xs ih =>
    obtain ⟨n1, n2⟩ := List.nodup_cons.mp hn
    rw [List.map_cons]
    refine List.nodup_cons.mpr ⟨fun hx => ?_, ih n2 fun y hy => hb y (List.mem_cons_of_mem _ hy)⟩
    obtain ⟨y, hy, e⟩ := List.mem_map.mp hx
    obtain ⟨b1, b2⟩ := hb x List.mem_cons_self
    obtain ⟨b3, b4⟩ := hb y (List.mem_cons_of_mem _ hy)
    exact n1 (o.inj b3 b4 b1 b2 e ▸ hy)
theorem Ordr.plc (h : Lot k l) : plc (img ys l) = plc (l.map (act ys)) := plc_sd (o.nd h)
theorem Ordr.mem_img (h : Lot k l) {x : Int} (h0 : 0 ≤ x) (h1 : x < k) : act ys x ∈ img ys l ↔ x ∈ l := by
  unfold img
  rw [mem_sdI, List.mem_map]
  constructor
  · rintro ⟨y, hy, e⟩
    obtain ⟨b3, b4⟩ := h.bd y hy
    exact o.inj b3 b4 h0 h1 e ▸ hy
  · intro hx
    exact ⟨x, hx, rfl⟩
theorem Ordr.img_inj (h : Lot k l) (g : Lot k m) (e : img ys l = img ys m) : l = m := h.one g fun x => by
  constructor
  · intro hx
    obtain ⟨b1, b2⟩ := h.bd x hx
    exact (o.mem_img g b1 b2).mp (e ▸ (o.mem_img h b1 b2).mpr hx)
  · intro hx
    obtain ⟨b1, b2⟩ := g.bd x hx
    exact (o.mem_img h b1 b2).mp (e ▸ (o.mem_img g b1 b2).mpr hx)
/-- what is called so -/
theorem Ordr.img_surj (h : Lot k l) : ∃ m, Lot k m ∧ img ys m = l := by
  have hm : Lot k ((lotN k (2 ^ k - 1)).filter fun x => decide (act ys x ∈ l)) := (lotN_lot k _).filter _
  refine ⟨_, hm, (o.lot hm).one h fun y => ?_⟩
  constructor
  · intro hy
    obtain ⟨b1, b2⟩ := (o.lot hm).bd y hy
    obtain ⟨x, x0, x1, rfl⟩ := o.surj b1 b2
    have := (o.mem_img hm x0 x1).mp hy
    simpa using (List.mem_filter.mp this).2
  · intro hy
    obtain ⟨b1, b2⟩ := h.bd y hy
    obtain ⟨x, x0, x1, rfl⟩ := o.surj b1 b2
    refine (o.mem_img hm x0 x1).mpr (List.mem_filter.mpr ⟨lotN_mem.mpr ⟨x0, x1, ?_⟩, by simpa using hy⟩)
    rw [Nat.testBit_two_pow_sub_one]
    simp
    omega
end
/-- ints put in order are ascending -/
theorem srtd_int {l : List Int} (hn : l.Nodup) : srtd l = sdI l := by
  refine srtd_one (nodup_perm_sd (k := 0) hn) ((asc_sdI l).imp fun {a b} h => ?_)
  show (!decide (b < a)) = true
  simp
  omega
theorem sortO_int (l : List Int) : sortO [.lst (l.map D.int)] = .ok (.lst ((srtd l).map D.int)) := sorto_t (α := Int) (by decide) rfl l
/-- data that is an order told as ints -/
theorem ordr_of {k : Nat} {ys : List D} (h : ys.Perm ((List.range k).map fun i : Nat => D.int (i : Int))) : ∃ os : List Int, ys = os.map D.int ∧ Ordr k os := by
  have e : ys = (ys.map fun d => match d with | D.int i => i | _ => 0).map D.int := by
    rw [List.map_map]
    conv => lhs; rw [← List.map_id ys]
    refine List.map_congr_left fun x hx => ?_
    obtain ⟨i, _, rfl⟩ := List.mem_map.mp (h.mem_iff.mp hx)
    rfl
  refine ⟨_, e, ⟨?_⟩⟩
  have := h.map fun d => match d with | D.int i => i | _ => (0 : Int)
  rw [List.map_map] at this
  exact this
theorem Ordr.plc_lt {k : Nat} {ys l : List Int} (o : Ordr k ys) (h : Lot k l) : DL.plc (l.map (act ys)) < 2 ^ k := by
  rw [← o.plc h]
  exact (o.lot h).lt
theorem Ordr.plc_ne {k : Nat} {ys l m : List Int} (o : Ordr k ys) (h : Lot k l) (g : Lot k m) (hn : l ≠ m) : DL.plc (l.map (act ys)) ≠ DL.plc (m.map (act ys)) := fun e => by
  rw [← o.plc h, ← o.plc g] at e
  exact hn (o.img_inj h g ((o.lot h).plc_inj (o.lot g) e))
end DL
end
section
set_option Elab.async false
set_option linter.all false
set_option maxRecDepth 100000
set_option maxHeartbeats 4000000
set_option autoImplicit false
namespace K09
open PySem PySem.Spec L2 DL
theorem ino_tup (b : Bool) (i : Int) (ns : List Int) : inO b (.int i) (.tup (ns.map D.int)) = .ok (.bl (ns.contains i != b)) := by
  rw [List.contains_eq_mem]
  exact ino_t (α := Int) (by decide) b i ns
/-- the middle step -/
def b2 : D → DL.Env → O Out := fun x ρ => ob (ono ((fun (d : D) (ρ : DL.Env) => O.ok (ρ.set 3 (.d d))) x ρ)) fun (ρ : DL.Env) => ob (ob (ob (ob (ob (ob (rdO ρ 3) fun x => ob (O.ok []) fun xs => O.ok (x :: xs)) rng1O) fun xs => og (xs.length ≤ sizeLine) (ono (lcO (lcFO [4] (fun (d : D) (ρ : DL.Env) => O.ok (ρ.set 4 (.d d))) (fun (ρ : DL.Env) => ob (ob (rdO ρ 4) fun x => ob (rdO ρ 2) fun y => inO true x y) asBO) (fun (ρ : DL.Env) => rdO ρ 4) ρ) xs))) fun ds => O.ok (.lst ds)) seqDO) fun xs => forO b3 xs ρ
def b1 : D → DL.Env → O Out := fun x ρ => ob (ono ((fun (d : D) (ρ : DL.Env) => O.ok (ρ.set 2 (.d d))) x ρ)) fun (ρ : DL.Env) => ob (ob (ob (ob (ob (ob (rdO ρ 0) fun x => ob (O.ok []) fun xs => O.ok (x :: xs)) rng1O) fun xs => og (xs.length ≤ sizeLine) (ono (lcO (lcFO [3] (fun (d : D) (ρ : DL.Env) => O.ok (ρ.set 3 (.d d))) (fun (ρ : DL.Env) => ob (ob (rdO ρ 3) fun x => ob (rdO ρ 2) fun y => inO true x y) asBO) (fun (ρ : DL.Env) => rdO ρ 3) ρ) xs))) fun ds => O.ok (.lst ds)) seqDO) fun xs => forO b2 xs ρ
theorem hollow_is (ds : List D) : O__law_is_hollow (env0 10 ds) = seqO (ob (ob (ob (ob (rdO (env0 10 ds) 0) fun x => ob (O.ok []) fun xs => O.ok (x :: xs)) P__law_lots) seqDO) fun xs => forO b1 xs (env0 10 ds)) fun (ρ : DL.Env) => ob (O.ok (.bl true)) fun d => O.ok (.rt d ρ) := rfl
def I2 (k : Nat) (ns l : List Int) (ρ : DL.Env) : Prop := ∃ a3 a4 a5 a6 a7 a8 a9 : Sl, ρ = [.d (.int k), .d (iT ns), .d (lotD l), a3, a4, a5, a6, a7, a8, a9]
def I1 (k : Nat) (ns : List Int) (ρ : DL.Env) : Prop := ∃ a2 a3 a4 a5 a6 a7 a8 a9 : Sl, ρ = [.d (.int k), .d (iT ns), a2, a3, a4, a5, a6, a7, a8, a9]
def outs (l : List Int) (n : Nat) : List Nat := (List.range n).filter fun i => !l.contains (i : Int)
theorem rng1_nat (n : Nat) (h : n ≤ 16777216) : rng1O [.int (n : Int)] = .ok ((List.range n).map fun i : Nat => D.int (i : Int)) := by
  show og _ _ = _
  rw [og_t ⟨by omega, by omega⟩, Int.toNat_natCast, rangeD0]
theorem step2 {k : Nat} {ns l : List Int} {one : Nat} (k6 : k ≤ 6) (hn : ns.length = 2 ^ k) (hl : l ∈ ev k) (h1 : one < k) (h2 : l.contains (one : Int) = false) {ρ : DL.Env} (hi : I2 k ns l ρ) :
    (∃ ρ', b2 (.int (one : Int)) ρ = .ok (.rt (.bl false) ρ')) ∨ ((∀ two ∈ outs l one, loc ns l one two) ∧ ∃ ρ', I2 k ns l ρ' ∧ b2 (.int (one : Int)) ρ = .ok (.nx ρ')) := by
  obtain ⟨a3, a4, a5, a6, a7, a8, a9, rfl⟩ := hi
  have e : b2 (.int (one : Int)) [.d (.int k), .d (iT ns), .d (lotD l), a3, a4, a5, a6, a7, a8, a9] = forO b3 ((outs l one).map fun i : Nat => D.int (i : Int)) [.d (.int k), .d (iT ns), .d (lotD l), .d (.int one), a4, a5, a6, a7, a8, a9] := by
    unfold b2
    simp -implicitDefEqProofs only [DL.ob_ok, DL.ono_ok, DL.oo_some, DL.ob_ex, DL.rdO_z, DL.rdO_s, DL.ownLO_z, DL.ownLO_s, DL.frzO_z, DL.frzO_d, DL.frzO_s, DL.seqO_nx, DL.seqO_rt, DL.seqO_ex, DL.endO_rt, DL.endO_nx, DL.endO_ex, DL.addO_int, DL.subO_int, DL.negO_int, DL.leO_int, DL.ltO_int, DL.geO_int, DL.gtO_int, DL.asBO_bl, DL.truO_bl, DL.truO_non, DL.notO_ok, DL.orO_ok, DL.andO_ok, DL.eqO_int, DL.eqO_bl, DL.seqDO_tup, DL.seqDO_lst, DL.tupleO_lst, DL.tupleO_tup, DL.listO_lst, DL.listO_tup, DL.lenO_lst, DL.lenO_tup, DL.enumO_lst, DL.enumO_tup, DL.zipO_lst, DL.zipO_tup, DL.zip2_ll, DL.zip2_tt, DL.zip2_lt, DL.zip2_tl, DL.intO_int, DL.intO_bl, DL.tupO_ok, DL.consO_ok, DL.nilO_ok, DL.lcFO_ok, DL.wipeE_nil, DL.wipeE_cons, List.set_cons_zero, List.set_cons_succ, if_true, Bool.false_eq_true, if_false, rng1_nat one (by omega)]
    rw [og_t (sizeLine_len (by simp; omega)), lcO_mp (P := fun i : Nat => !l.contains (i : Int)) (g := fun i : Nat => D.int (i : Int))]
    · rfl
    · intro i hi
      simp -implicitDefEqProofs only [DL.ob_ok, DL.ono_ok, DL.oo_some, DL.ob_ex, DL.rdO_z, DL.rdO_s, DL.ownLO_z, DL.ownLO_s, DL.frzO_z, DL.frzO_d, DL.frzO_s, DL.seqO_nx, DL.seqO_rt, DL.seqO_ex, DL.endO_rt, DL.endO_nx, DL.endO_ex, DL.addO_int, DL.subO_int, DL.negO_int, DL.leO_int, DL.ltO_int, DL.geO_int, DL.gtO_int, DL.asBO_bl, DL.truO_bl, DL.truO_non, DL.notO_ok, DL.orO_ok, DL.andO_ok, DL.eqO_int, DL.eqO_bl, DL.seqDO_tup, DL.seqDO_lst, DL.tupleO_lst, DL.tupleO_tup, DL.listO_lst, DL.listO_tup, DL.lenO_lst, DL.lenO_tup, DL.enumO_lst, DL.enumO_tup, DL.zipO_lst, DL.zipO_tup, DL.zip2_ll, DL.zip2_tt, DL.zip2_lt, DL.zip2_tl, DL.intO_int, DL.intO_bl, DL.tupO_ok, DL.consO_ok, DL.nilO_ok, DL.lcFO_ok, DL.wipeE_nil, DL.wipeE_cons, List.set_cons_zero, List.set_cons_succ, if_true, Bool.false_eq_true, if_false, lotD, ino_tup]
      cases l.contains (i : Int) <;> rfl
  rw [e]
  rcases forO_ck (c := fun i : Nat => D.int (i : Int)) (f := b3) (I3 k ns l one) (fun two => loc ns l one two) (outs l one) _ ⟨a4, a5, a6, a7, a8, a9, rfl⟩ (fun two ht ρ hi => step3 k6 hn hl h1 h2 (List.mem_range.mp (List.mem_filter.mp ht).1) (by simpa using (List.mem_filter.mp ht).2) hi) with ⟨ρ', e2⟩ | ⟨p, ρ', hi, e2⟩
  · exact .inl ⟨ρ', e2⟩
  · obtain ⟨a4, a5, a6, a7, a8, a9, rfl⟩ := hi
    exact .inr ⟨p, _, ⟨_, _, _, _, _, _, _, rfl⟩, e2⟩
theorem step1 {k : Nat} {ns l : List Int} (k6 : k ≤ 6) (hn : ns.length = 2 ^ k) (hl : l ∈ ev k) {ρ : DL.Env} (hi : I1 k ns ρ) :
    (∃ ρ', b1 (lotD l) ρ = .ok (.rt (.bl false) ρ')) ∨ ((∀ one ∈ outs l k, ∀ two ∈ outs l one, loc ns l one two) ∧ ∃ ρ', I1 k ns ρ' ∧ b1 (lotD l) ρ = .ok (.nx ρ')) := by
  obtain ⟨a2, a3, a4, a5, a6, a7, a8, a9, rfl⟩ := hi
  have e : b1 (lotD l) [.d (.int k), .d (iT ns), a2, a3, a4, a5, a6, a7, a8, a9] = forO b2 ((outs l k).map fun i : Nat => D.int (i : Int)) [.d (.int k), .d (iT ns), .d (lotD l), a3, a4, a5, a6, a7, a8, a9] := by
    unfold b1
    simp -implicitDefEqProofs only [DL.ob_ok, DL.ono_ok, DL.oo_some, DL.ob_ex, DL.rdO_z, DL.rdO_s, DL.ownLO_z, DL.ownLO_s, DL.frzO_z, DL.frzO_d, DL.frzO_s, DL.seqO_nx, DL.seqO_rt, DL.seqO_ex, DL.endO_rt, DL.endO_nx, DL.endO_ex, DL.addO_int, DL.subO_int, DL.negO_int, DL.leO_int, DL.ltO_int, DL.geO_int, DL.gtO_int, DL.asBO_bl, DL.truO_bl, DL.truO_non, DL.notO_ok, DL.orO_ok, DL.andO_ok, DL.eqO_int, DL.eqO_bl, DL.seqDO_tup, DL.seqDO_lst, DL.tupleO_lst, DL.tupleO_tup, DL.listO_lst, DL.listO_tup, DL.lenO_lst, DL.lenO_tup, DL.enumO_lst, DL.enumO_tup, DL.zipO_lst, DL.zipO_tup, DL.zip2_ll, DL.zip2_tt, DL.zip2_lt, DL.zip2_tl, DL.intO_int, DL.intO_bl, DL.tupO_ok, DL.consO_ok, DL.nilO_ok, DL.lcFO_ok, DL.wipeE_nil, DL.wipeE_cons, List.set_cons_zero, List.set_cons_succ, if_true, Bool.false_eq_true, if_false, rng1_nat k (by omega)]
    rw [og_t (sizeLine_len (by simp; omega)), lcO_mp (P := fun i : Nat => !l.contains (i : Int)) (g := fun i : Nat => D.int (i : Int))]
    · rfl
    · intro i hi
      simp -implicitDefEqProofs only [DL.ob_ok, DL.ono_ok, DL.oo_some, DL.ob_ex, DL.rdO_z, DL.rdO_s, DL.ownLO_z, DL.ownLO_s, DL.frzO_z, DL.frzO_d, DL.frzO_s, DL.seqO_nx, DL.seqO_rt, DL.seqO_ex, DL.endO_rt, DL.endO_nx, DL.endO_ex, DL.addO_int, DL.subO_int, DL.negO_int, DL.leO_int, DL.ltO_int, DL.geO_int, DL.gtO_int, DL.asBO_bl, DL.truO_bl, DL.truO_non, DL.notO_ok, DL.orO_ok, DL.andO_ok, DL.eqO_int, DL.eqO_bl, DL.seqDO_tup, DL.seqDO_lst, DL.tupleO_lst, DL.tupleO_tup, DL.listO_lst, DL.listO_tup, DL.lenO_lst, DL.lenO_tup, DL.enumO_lst, DL.enumO_tup, DL.zipO_lst, DL.zipO_tup, DL.zip2_ll, DL.zip2_tt, DL.zip2_lt, DL.zip2_tl, DL.intO_int, DL.intO_bl, DL.tupO_ok, DL.consO_ok, DL.nilO_ok, DL.lcFO_ok, DL.wipeE_nil, DL.wipeE_cons, List.set_cons_zero, List.set_cons_succ, if_true, Bool.false_eq_true, if_false, lotD, ino_tup]
      cases l.contains (i : Int) <;> rfl
  rw [e]
  rcases forO_ck (c := fun i : Nat => D.int (i : Int)) (f := b2) (I2 k ns l) (fun one => ∀ two ∈ outs l one, loc ns l one two) (outs l k) _ ⟨a3, a4, a5, a6, a7, a8, a9, rfl⟩ (fun one ht ρ hi => step2 k6 hn hl (List.mem_range.mp (List.mem_filter.mp ht).1) (by simpa using (List.mem_filter.mp ht).2) hi) with ⟨ρ', e2⟩ | ⟨p, ρ', hi, e2⟩
  · exact .inl ⟨ρ', e2⟩
  · obtain ⟨a3, a4, a5, a6, a7, a8, a9, rfl⟩ := hi
    exact .inr ⟨p, _, ⟨_, _, _, _, _, _, _, _, rfl⟩, e2⟩
theorem hollow_ck {k : Nat} {ns : List Int} (k6 : k ≤ 6) (hn : ns.length = 2 ^ k) :
    P__law_is_hollow [.int k, iT ns] = .ok (.bl false) ∨ (P__law_is_hollow [.int k, iT ns] = .ok (.bl true) ∧ ∀ l ∈ ev k, ∀ one ∈ outs l k, ∀ two ∈ outs l one, loc ns l one two) := by
  have e : P__law_is_hollow [.int k, iT ns] = endO (seqO (forO b1 ((ev k).map lotD) (env0 10 [.int k, iT ns])) fun (ρ : DL.Env) => ob (O.ok (.bl true)) fun d => O.ok (.rt d ρ)) := by
    unfold P__law_is_hollow
    rw [hollow_is]
    show endO (seqO (ob (ob (P__law_lots [.int k]) seqDO) _) _) = _
    rw [ev_eq k k6]
    rfl
  rw [e]
  rcases forO_ck (c := lotD) (f := b1) (I1 k ns) (fun l => ∀ one ∈ outs l k, ∀ two ∈ outs l one, loc ns l one two) (ev k) (env0 10 [.int k, iT ns]) ⟨_, _, _, _, _, _, _, _, rfl⟩ (fun l hl ρ hi => step1 k6 hn hl hi) with ⟨ρ', e2⟩ | ⟨p, ρ', hi, e2⟩
  · rw [e2]; exact .inl rfl
  · rw [e2]; exact .inr ⟨rfl, p⟩
/-! ### the lots are all lots -/
theorem ev_lots : ∀ k ≤ 6, ev k = (List.range (2 ^ k)).map (lotN k) := by decide +kernel
theorem ev_lot {k : Nat} (k6 : k ≤ 6) {l : List Int} : l ∈ ev k ↔ Lot k l := by
  rw [ev_lots k k6, List.mem_map]
  constructor
  · rintro ⟨i, _, rfl⟩
    exact lotN_lot k i
  · intro h
    exact ⟨plc l, List.mem_range.mpr h.lt, h.eq.symm⟩
theorem plcI_plc : ∀ l : List Int, plcI l = (plc l : Int)
  | [] => rfl
  | x :: xs => by
    show (2 : Int) ^ x.toNat + plcI xs = _
    rw [plcI_plc xs, plc]
    push_cast
    rfl
theorem loc_all {k : Nat} {ns : List Int} (k6 : k ≤ 6) (h : ∀ l ∈ ev k, ∀ one ∈ outs l k, ∀ two ∈ outs l one, loc ns l one two) : Loc k ns := by
  have main : ∀ (i j : Nat) (l : List Int), Lot k l → i < k → (i : Int) ∉ l → j < i → (j : Int) ∉ l → val ns ((i : Int) :: (j : Int) :: l) + val ns l ≤ val ns ((i : Int) :: l) + val ns ((j : Int) :: l) := by
    intro i j l hl h1 h2 h3 h4
    have := h l ((ev_lot k6).mpr hl) i (List.mem_filter.mpr ⟨List.mem_range.mpr h1, by simpa using h2⟩) j (List.mem_filter.mpr ⟨List.mem_range.mpr h3, by simpa using h4⟩)
    unfold loc at this
    rw [plcI_plc] at this
    have e1 : ((plc l : Int) + 2 ^ i + 2 ^ j).toNat = plc ((i : Int) :: (j : Int) :: l) := by
      rw [plc, plc, Int.toNat_natCast, Int.toNat_natCast]
      have : ((plc l : Int) + 2 ^ i + 2 ^ j) = ((2 ^ i + (2 ^ j + plc l) : Nat) : Int) := by push_cast; omega
      rw [this, Int.toNat_natCast]
    have e2 : ((plc l : Int) + 2 ^ i).toNat = plc ((i : Int) :: l) := by
      rw [plc, Int.toNat_natCast]
      have : ((plc l : Int) + 2 ^ i) = ((2 ^ i + plc l : Nat) : Int) := by push_cast; omega
      rw [this, Int.toNat_natCast]
    have e3 : ((plc l : Int) + 2 ^ j).toNat = plc ((j : Int) :: l) := by
      rw [plc, Int.toNat_natCast]
      have : ((plc l : Int) + 2 ^ j) = ((2 ^ j + plc l : Nat) : Int) := by push_cast; omega
      rw [this, Int.toNat_natCast]
    rw [e1, e2, e3, Int.toNat_natCast] at this
    unfold val
    omega
  intro i j S hn hb
  obtain ⟨n1, n2⟩ := List.nodup_cons.mp hn
  obtain ⟨n3, n4⟩ := List.nodup_cons.mp n2
  have bi := hb i List.mem_cons_self
  have bj := hb j (List.mem_cons_of_mem _ List.mem_cons_self)
  have hl : Lot k (sdI S) := lot_sd fun x hx => hb x (List.mem_cons_of_mem _ (List.mem_cons_of_mem _ hx))
  have hp : (sdI S).Perm S := nodup_perm_sd (k := k) n4
  have hne : i ≠ j := fun e => n1 (e ▸ List.mem_cons_self)
  have ni : i ∉ sdI S := fun h => n1 (List.mem_cons_of_mem _ (mem_sdI.mp h))
  have nj : j ∉ sdI S := fun h => n3 (mem_sdI.mp h)
  obtain ⟨i', rfl⟩ : ∃ i' : Nat, i = i' := ⟨i.toNat, by omega⟩
  obtain ⟨j', rfl⟩ : ∃ j' : Nat, j = j' := ⟨j.toNat, by omega⟩
  have q1 := val_perm ns hp
  have q2 := val_perm ns (hp.cons (i' : Int))
  have q3 := val_perm ns (hp.cons (j' : Int))
  have q4 := val_perm ns ((hp.cons (j' : Int)).cons (i' : Int))
  have q5 := val_perm ns (List.Perm.swap (i' : Int) (j' : Int) S)
  have q6 := val_perm ns ((hp.cons (i' : Int)).cons (j' : Int))
  rcases Int.lt_trichotomy (i' : Int) (j' : Int) with c | c | c
  · have := main j' i' (sdI S) hl (by omega) nj (by omega) ni
    omega
  · exact (hne c).elim
  · have := main i' j' (sdI S) hl (by omega) ni (by omega) nj
    omega
end K09
end
section
set_option Elab.async false
set_option linter.all false
set_option maxRecDepth 100000
set_option maxHeartbeats 4000000
set_option autoImplicit false
namespace K09
open PySem PySem.Spec L2 DL
theorem ino_lots (b : Bool) (l : List Int) (L : List (List Int)) : inO b (lotD l) (.tup (L.map lotD)) = .ok (.bl (decide (l ∈ L) != b)) := ino_t (α := List Int) (by decide) b l L
def c2 : D → DL.Env → O Out := (fun x ρ => ob (ono ((fun (d : D) (ρ : DL.Env) => O.ok (ρ.set 2 (.d d))) x ρ)) fun (ρ : DL.Env) => seqO (ob (ob (ob (ob (ob (rdO ρ 1) fun x => ob (rdO ρ 2) fun y => addO x y) sortSetO) fun x => ob (O.ok []) fun xs => O.ok (x :: xs)) tupleO) fun d => O.ok (.nx (ρ.set 3 (.d d)))) fun (ρ : DL.Env) => ob (orO' (ob (ob (rdO ρ 3) fun x => ob (rdO ρ 0) fun y => inO true x y) asBO) (ob (ob (ob (ob (ob (ob (ob (rdO ρ 1) seqDO) fun xs => og (xs.length ≤ sizeLine) (ono (lcO (lcFO [4] (fun (d : D) (ρ : DL.Env) => O.ok (ρ.set 4 (.d d))) (fun (ρ : DL.Env) => ob (ob (rdO ρ 4) fun x => ob (rdO ρ 2) fun y => inO false x y) asBO) (fun (ρ : DL.Env) => rdO ρ 4) ρ) xs))) fun ds => O.ok (.lst ds)) fun x => ob (O.ok []) fun xs => O.ok (x :: xs)) tupleO) fun x => ob (rdO ρ 0) fun y => inO true x y) asBO)) fun t => if t = true then ob (O.ok (.bl false)) fun d => O.ok (.rt d ρ) else O.ok (.nx ρ))
def c1 : D → DL.Env → O Out := (fun x ρ => ob (ono ((fun (d : D) (ρ : DL.Env) => O.ok (ρ.set 1 (.d d))) x ρ)) fun (ρ : DL.Env) => ob (ob (rdO ρ 0) seqDO) fun xs => forO c2 xs ρ)
theorem lattice_is (ds : List D) : O__law_lattice_right (env0 5 ds) = seqO (ob (ob (rdO (env0 5 ds) 0) seqDO) fun xs => forO c1 xs (env0 5 ds)) fun (ρ : DL.Env) => ob (O.ok (.bl true)) fun d => O.ok (.rt d ρ) := rfl
theorem lattice {k : Nat} {L : List (List Int)} (k7 : k ≤ 7) (hL : ∀ l ∈ L, Lot k l) (hn : L.length ≤ 1000) (cl : ∀ a ∈ L, ∀ b ∈ L, uni a b ∈ L ∧ met a b ∈ L) : P__law_lattice_right [.tup (L.map lotD)] = .ok (.bl true) := by
  have e0 : env0 5 [.tup (L.map lotD)] = [.d (.tup (L.map lotD)), .un, .un, .un, .un] := rfl
  unfold P__law_lattice_right
  rw [lattice_is, e0]
  simp -implicitDefEqProofs only [DL.ob_ok, DL.ono_ok, DL.oo_some, DL.ob_ex, DL.rdO_z, DL.rdO_s, DL.ownLO_z, DL.ownLO_s, DL.frzO_z, DL.frzO_d, DL.frzO_s, DL.seqO_nx, DL.seqO_rt, DL.seqO_ex, DL.endO_rt, DL.endO_nx, DL.endO_ex, DL.addO_int, DL.subO_int, DL.negO_int, DL.leO_int, DL.ltO_int, DL.geO_int, DL.gtO_int, DL.asBO_bl, DL.truO_bl, DL.truO_non, DL.notO_ok, DL.orO_ok, DL.andO_ok, DL.eqO_int, DL.eqO_bl, DL.seqDO_tup, DL.seqDO_lst, DL.tupleO_lst, DL.tupleO_tup, DL.listO_lst, DL.listO_tup, DL.lenO_lst, DL.lenO_tup, DL.enumO_lst, DL.enumO_tup, DL.zipO_lst, DL.zipO_tup, DL.zip2_ll, DL.zip2_tt, DL.zip2_lt, DL.zip2_tl, DL.intO_int, DL.intO_bl, DL.tupO_ok, DL.consO_ok, DL.nilO_ok, DL.lcFO_ok, DL.wipeE_nil, DL.wipeE_cons, List.set_cons_zero, List.set_cons_succ, if_true, Bool.false_eq_true, if_false]
  obtain ⟨ρ', _, e⟩ := forO_I (c := lotD) (f := c1) (as := L) (fun ρ => ∃ a1 a2 a3 a4, ρ = [.d (.tup (L.map lotD)), a1, a2, a3, a4]) (ρ := [.d (.tup (L.map lotD)), .un, .un, .un, .un]) ⟨_, _, _, _, rfl⟩ (fun a ha ρ hi => by
    obtain ⟨a1, a2, a3, a4, rfl⟩ := hi
    unfold c1
    simp -implicitDefEqProofs only [DL.ob_ok, DL.ono_ok, DL.oo_some, DL.ob_ex, DL.rdO_z, DL.rdO_s, DL.ownLO_z, DL.ownLO_s, DL.frzO_z, DL.frzO_d, DL.frzO_s, DL.seqO_nx, DL.seqO_rt, DL.seqO_ex, DL.endO_rt, DL.endO_nx, DL.endO_ex, DL.addO_int, DL.subO_int, DL.negO_int, DL.leO_int, DL.ltO_int, DL.geO_int, DL.gtO_int, DL.asBO_bl, DL.truO_bl, DL.truO_non, DL.notO_ok, DL.orO_ok, DL.andO_ok, DL.eqO_int, DL.eqO_bl, DL.seqDO_tup, DL.seqDO_lst, DL.tupleO_lst, DL.tupleO_tup, DL.listO_lst, DL.listO_tup, DL.lenO_lst, DL.lenO_tup, DL.enumO_lst, DL.enumO_tup, DL.zipO_lst, DL.zipO_tup, DL.zip2_ll, DL.zip2_tt, DL.zip2_lt, DL.zip2_tl, DL.intO_int, DL.intO_bl, DL.tupO_ok, DL.consO_ok, DL.nilO_ok, DL.lcFO_ok, DL.wipeE_nil, DL.wipeE_cons, List.set_cons_zero, List.set_cons_succ, if_true, Bool.false_eq_true, if_false]
    obtain ⟨ρ', ⟨b2, b3, b4, rfl⟩, e⟩ := forO_I (c := lotD) (f := c2) (as := L) (fun ρ => ∃ a2 a3 a4, ρ = [.d (.tup (L.map lotD)), .d (lotD a), a2, a3, a4]) (ρ := [.d (.tup (L.map lotD)), .d (lotD a), a2, a3, a4]) ⟨_, _, _, rfl⟩ (fun b hb ρ hi => by
      obtain ⟨a2, a3, a4, rfl⟩ := hi
      have la := (hL a ha).len
      have lb := (hL b hb).len
      obtain ⟨u, m⟩ := cl a ha b hb
      have es : sortSetO (.tup (a.map D.int ++ b.map D.int)) = .ok (.lst ((uni a b).map D.int)) := by
        rw [← List.map_append]
        exact sortSetO_ints _ (by rw [List.length_append]; omega)
      have ead : addO (lotD a) (lotD b) = .ok (.tup (a.map D.int ++ b.map D.int)) := by
        show og _ _ = _
        rw [og_t (by rw [sizeLine_eq, List.length_map, List.length_map]; omega)]
      have eu := ino_lots true (uni a b) L
      have em := ino_lots true (met a b) L
      rw [decide_eq_true u] at eu
      rw [decide_eq_true m] at em
      have el : lcO (lcFO [4] (fun (d : D) (ρ : DL.Env) => O.ok (ρ.set 4 (.d d))) (fun (ρ : DL.Env) => ob (ob (rdO ρ 4) fun x => ob (rdO ρ 2) fun y => inO false x y) asBO) (fun (ρ : DL.Env) => rdO ρ 4) [.d (.tup (L.map lotD)), .d (lotD a), .d (lotD b), .d (.tup ((uni a b).map D.int)), a4]) (a.map D.int) = .ok ((met a b).map D.int) := by
        refine lcO_mp (P := fun x => b.contains x) (g := D.int) fun x hx => ?_
        simp -implicitDefEqProofs only [DL.ob_ok, DL.ono_ok, DL.oo_some, DL.ob_ex, DL.rdO_z, DL.rdO_s, DL.ownLO_z, DL.ownLO_s, DL.frzO_z, DL.frzO_d, DL.frzO_s, DL.seqO_nx, DL.seqO_rt, DL.seqO_ex, DL.endO_rt, DL.endO_nx, DL.endO_ex, DL.addO_int, DL.subO_int, DL.negO_int, DL.leO_int, DL.ltO_int, DL.geO_int, DL.gtO_int, DL.asBO_bl, DL.truO_bl, DL.truO_non, DL.notO_ok, DL.orO_ok, DL.andO_ok, DL.eqO_int, DL.eqO_bl, DL.seqDO_tup, DL.seqDO_lst, DL.tupleO_lst, DL.tupleO_tup, DL.listO_lst, DL.listO_tup, DL.lenO_lst, DL.lenO_tup, DL.enumO_lst, DL.enumO_tup, DL.zipO_lst, DL.zipO_tup, DL.zip2_ll, DL.zip2_tt, DL.zip2_lt, DL.zip2_tl, DL.intO_int, DL.intO_bl, DL.tupO_ok, DL.consO_ok, DL.nilO_ok, DL.lcFO_ok, DL.wipeE_nil, DL.wipeE_cons, List.set_cons_zero, List.set_cons_succ, if_true, Bool.false_eq_true, if_false, lotD, ino_tup]
        cases b.contains x <;> rfl
      unfold c2
      simp -implicitDefEqProofs only [DL.ob_ok, DL.ono_ok, DL.oo_some, DL.ob_ex, DL.rdO_z, DL.rdO_s, DL.ownLO_z, DL.ownLO_s, DL.frzO_z, DL.frzO_d, DL.frzO_s, DL.seqO_nx, DL.seqO_rt, DL.seqO_ex, DL.endO_rt, DL.endO_nx, DL.endO_ex, DL.addO_int, DL.subO_int, DL.negO_int, DL.leO_int, DL.ltO_int, DL.geO_int, DL.gtO_int, DL.asBO_bl, DL.truO_bl, DL.truO_non, DL.notO_ok, DL.orO_ok, DL.andO_ok, DL.eqO_int, DL.eqO_bl, DL.seqDO_tup, DL.seqDO_lst, DL.tupleO_lst, DL.tupleO_tup, DL.listO_lst, DL.listO_tup, DL.lenO_lst, DL.lenO_tup, DL.enumO_lst, DL.enumO_tup, DL.zipO_lst, DL.zipO_tup, DL.zip2_ll, DL.zip2_tt, DL.zip2_lt, DL.zip2_tl, DL.intO_int, DL.intO_bl, DL.tupO_ok, DL.consO_ok, DL.nilO_ok, DL.lcFO_ok, DL.wipeE_nil, DL.wipeE_cons, List.set_cons_zero, List.set_cons_succ, if_true, Bool.false_eq_true, if_false, ead, es]
      have eu : inO true (.tup ((uni a b).map D.int)) (.tup (L.map lotD)) = .ok (.bl (true != true)) := eu
      simp -implicitDefEqProofs only [DL.ob_ok, DL.ono_ok, DL.oo_some, DL.ob_ex, DL.rdO_z, DL.rdO_s, DL.ownLO_z, DL.ownLO_s, DL.frzO_z, DL.frzO_d, DL.frzO_s, DL.seqO_nx, DL.seqO_rt, DL.seqO_ex, DL.endO_rt, DL.endO_nx, DL.endO_ex, DL.addO_int, DL.subO_int, DL.negO_int, DL.leO_int, DL.ltO_int, DL.geO_int, DL.gtO_int, DL.asBO_bl, DL.truO_bl, DL.truO_non, DL.notO_ok, DL.orO_ok, DL.andO_ok, DL.eqO_int, DL.eqO_bl, DL.seqDO_tup, DL.seqDO_lst, DL.tupleO_lst, DL.tupleO_tup, DL.listO_lst, DL.listO_tup, DL.lenO_lst, DL.lenO_tup, DL.enumO_lst, DL.enumO_tup, DL.zipO_lst, DL.zipO_tup, DL.zip2_ll, DL.zip2_tt, DL.zip2_lt, DL.zip2_tl, DL.intO_int, DL.intO_bl, DL.tupO_ok, DL.consO_ok, DL.nilO_ok, DL.lcFO_ok, DL.wipeE_nil, DL.wipeE_cons, List.set_cons_zero, List.set_cons_succ, if_true, Bool.false_eq_true, if_false, eu]
      rw [show lotD a = D.tup (a.map D.int) from rfl] at *
      simp -implicitDefEqProofs only [DL.ob_ok, DL.ono_ok, DL.oo_some, DL.ob_ex, DL.rdO_z, DL.rdO_s, DL.ownLO_z, DL.ownLO_s, DL.frzO_z, DL.frzO_d, DL.frzO_s, DL.seqO_nx, DL.seqO_rt, DL.seqO_ex, DL.endO_rt, DL.endO_nx, DL.endO_ex, DL.addO_int, DL.subO_int, DL.negO_int, DL.leO_int, DL.ltO_int, DL.geO_int, DL.gtO_int, DL.asBO_bl, DL.truO_bl, DL.truO_non, DL.notO_ok, DL.orO_ok, DL.andO_ok, DL.eqO_int, DL.eqO_bl, DL.seqDO_tup, DL.seqDO_lst, DL.tupleO_lst, DL.tupleO_tup, DL.listO_lst, DL.listO_tup, DL.lenO_lst, DL.lenO_tup, DL.enumO_lst, DL.enumO_tup, DL.zipO_lst, DL.zipO_tup, DL.zip2_ll, DL.zip2_tt, DL.zip2_lt, DL.zip2_tl, DL.intO_int, DL.intO_bl, DL.tupO_ok, DL.consO_ok, DL.nilO_ok, DL.lcFO_ok, DL.wipeE_nil, DL.wipeE_cons, List.set_cons_zero, List.set_cons_succ, if_true, Bool.false_eq_true, if_false]
      rw [og_t (sizeLine_len (by rw [List.length_map]; omega)), el]
      simp -implicitDefEqProofs only [DL.ob_ok, DL.ono_ok, DL.oo_some, DL.ob_ex, DL.rdO_z, DL.rdO_s, DL.ownLO_z, DL.ownLO_s, DL.frzO_z, DL.frzO_d, DL.frzO_s, DL.seqO_nx, DL.seqO_rt, DL.seqO_ex, DL.endO_rt, DL.endO_nx, DL.endO_ex, DL.addO_int, DL.subO_int, DL.negO_int, DL.leO_int, DL.ltO_int, DL.geO_int, DL.gtO_int, DL.asBO_bl, DL.truO_bl, DL.truO_non, DL.notO_ok, DL.orO_ok, DL.andO_ok, DL.eqO_int, DL.eqO_bl, DL.seqDO_tup, DL.seqDO_lst, DL.tupleO_lst, DL.tupleO_tup, DL.listO_lst, DL.listO_tup, DL.lenO_lst, DL.lenO_tup, DL.enumO_lst, DL.enumO_tup, DL.zipO_lst, DL.zipO_tup, DL.zip2_ll, DL.zip2_tt, DL.zip2_lt, DL.zip2_tl, DL.intO_int, DL.intO_bl, DL.tupO_ok, DL.consO_ok, DL.nilO_ok, DL.lcFO_ok, DL.wipeE_nil, DL.wipeE_cons, List.set_cons_zero, List.set_cons_succ, if_true, Bool.false_eq_true, if_false]
      have em : inO true (.tup ((met a b).map D.int)) (.tup (L.map lotD)) = .ok (.bl (true != true)) := em
      simp -implicitDefEqProofs only [DL.ob_ok, DL.ono_ok, DL.oo_some, DL.ob_ex, DL.rdO_z, DL.rdO_s, DL.ownLO_z, DL.ownLO_s, DL.frzO_z, DL.frzO_d, DL.frzO_s, DL.seqO_nx, DL.seqO_rt, DL.seqO_ex, DL.endO_rt, DL.endO_nx, DL.endO_ex, DL.addO_int, DL.subO_int, DL.negO_int, DL.leO_int, DL.ltO_int, DL.geO_int, DL.gtO_int, DL.asBO_bl, DL.truO_bl, DL.truO_non, DL.notO_ok, DL.orO_ok, DL.andO_ok, DL.eqO_int, DL.eqO_bl, DL.seqDO_tup, DL.seqDO_lst, DL.tupleO_lst, DL.tupleO_tup, DL.listO_lst, DL.listO_tup, DL.lenO_lst, DL.lenO_tup, DL.enumO_lst, DL.enumO_tup, DL.zipO_lst, DL.zipO_tup, DL.zip2_ll, DL.zip2_tt, DL.zip2_lt, DL.zip2_tl, DL.intO_int, DL.intO_bl, DL.tupO_ok, DL.consO_ok, DL.nilO_ok, DL.lcFO_ok, DL.wipeE_nil, DL.wipeE_cons, List.set_cons_zero, List.set_cons_succ, if_true, Bool.false_eq_true, if_false, em]
      exact ⟨_, ⟨_, _, _, rfl⟩, rfl⟩)
    exact ⟨_, ⟨_, _, _, _, rfl⟩, e⟩)
  rw [e]
  rfl
end K09
end
section
set_option Elab.async false
set_option linter.all false
set_option maxRecDepth 100000
set_option maxHeartbeats 4000000
set_option autoImplicit false
namespace K09
open PySem PySem.Spec L2 DL
theorem bit_at {x : Int} (h0 : 0 ≤ x) (h1 : x < 7) : P__law_bit [.int x] = .ok (.int ((2 : Int) ^ x.toNat)) := by
  have := oI_eq (bits x.toNat (by omega))
  rw [Int.toNat_of_nonneg h0] at this
  exact this
theorem plcS (l : List Int) : (l.map fun x => (2 : Int) ^ x.toNat).sum = (plc l : Int) := plcI_plc l
theorem place_seq {d : D} {l : List Int} (hd : seqDO d = .ok (l.map D.int)) (hn : l.length ≤ 100) (hb : ∀ x ∈ l, 0 ≤ x ∧ x < 7) : P__law_place [d] = .ok (.int (plc l)) := by
  have e0 : env0 2 [d] = [.d d, .un] := rfl
  unfold P__law_place O__law_place
  rw [e0]
  simp -implicitDefEqProofs only [DL.ob_ok, DL.ono_ok, DL.oo_some, DL.ob_ex, DL.rdO_z, DL.rdO_s, DL.ownLO_z, DL.ownLO_s, DL.frzO_z, DL.frzO_d, DL.frzO_s, DL.seqO_nx, DL.seqO_rt, DL.seqO_ex, DL.endO_rt, DL.endO_nx, DL.endO_ex, DL.addO_int, DL.subO_int, DL.negO_int, DL.leO_int, DL.ltO_int, DL.geO_int, DL.gtO_int, DL.asBO_bl, DL.truO_bl, DL.truO_non, DL.notO_ok, DL.orO_ok, DL.andO_ok, DL.eqO_int, DL.eqO_bl, DL.seqDO_tup, DL.seqDO_lst, DL.tupleO_lst, DL.tupleO_tup, DL.listO_lst, DL.listO_tup, DL.lenO_lst, DL.lenO_tup, DL.enumO_lst, DL.enumO_tup, DL.zipO_lst, DL.zipO_tup, DL.zip2_ll, DL.zip2_tt, DL.zip2_lt, DL.zip2_tl, DL.intO_int, DL.intO_bl, DL.tupO_ok, DL.consO_ok, DL.nilO_ok, DL.lcFO_ok, DL.wipeE_nil, DL.wipeE_cons, List.set_cons_zero, List.set_cons_succ, if_true, Bool.false_eq_true, if_false, hd]
  unfold C__law_place_1
  rw [og_t (sizeLine_len (by rw [List.length_map]; omega)), lcO_m1 (g := fun x : Int => D.int ((2 : Int) ^ x.toNat))]
  · simp -implicitDefEqProofs only [DL.ob_ok, DL.ono_ok, DL.oo_some, DL.ob_ex, DL.rdO_z, DL.rdO_s, DL.ownLO_z, DL.ownLO_s, DL.frzO_z, DL.frzO_d, DL.frzO_s, DL.seqO_nx, DL.seqO_rt, DL.seqO_ex, DL.endO_rt, DL.endO_nx, DL.endO_ex, DL.addO_int, DL.subO_int, DL.negO_int, DL.leO_int, DL.ltO_int, DL.geO_int, DL.gtO_int, DL.asBO_bl, DL.truO_bl, DL.truO_non, DL.notO_ok, DL.orO_ok, DL.andO_ok, DL.eqO_int, DL.eqO_bl, DL.seqDO_tup, DL.seqDO_lst, DL.tupleO_lst, DL.tupleO_tup, DL.listO_lst, DL.listO_tup, DL.lenO_lst, DL.lenO_tup, DL.enumO_lst, DL.enumO_tup, DL.zipO_lst, DL.zipO_tup, DL.zip2_ll, DL.zip2_tt, DL.zip2_lt, DL.zip2_tl, DL.intO_int, DL.intO_bl, DL.tupO_ok, DL.consO_ok, DL.nilO_ok, DL.lcFO_ok, DL.wipeE_nil, DL.wipeE_cons, List.set_cons_zero, List.set_cons_succ, if_true, Bool.false_eq_true, if_false, sumO_m, plcS]
  · intro x hx
    obtain ⟨h1, h2⟩ := hb x hx
    simp -implicitDefEqProofs only [DL.ob_ok, DL.ono_ok, DL.oo_some, DL.ob_ex, DL.rdO_z, DL.rdO_s, DL.ownLO_z, DL.ownLO_s, DL.frzO_z, DL.frzO_d, DL.frzO_s, DL.seqO_nx, DL.seqO_rt, DL.seqO_ex, DL.endO_rt, DL.endO_nx, DL.endO_ex, DL.addO_int, DL.subO_int, DL.negO_int, DL.leO_int, DL.ltO_int, DL.geO_int, DL.gtO_int, DL.asBO_bl, DL.truO_bl, DL.truO_non, DL.notO_ok, DL.orO_ok, DL.andO_ok, DL.eqO_int, DL.eqO_bl, DL.seqDO_tup, DL.seqDO_lst, DL.tupleO_lst, DL.tupleO_tup, DL.listO_lst, DL.listO_tup, DL.lenO_lst, DL.lenO_tup, DL.enumO_lst, DL.enumO_tup, DL.zipO_lst, DL.zipO_tup, DL.zip2_ll, DL.zip2_tt, DL.zip2_lt, DL.zip2_tl, DL.intO_int, DL.intO_bl, DL.tupO_ok, DL.consO_ok, DL.nilO_ok, DL.lcFO_ok, DL.wipeE_nil, DL.wipeE_cons, List.set_cons_zero, List.set_cons_succ, if_true, Bool.false_eq_true, if_false, bit_at h1 h2]
theorem ix_order {k : Nat} {ys : List Int} (o : Ordr k ys) {x : Int} (h0 : 0 ≤ x) (h1 : x < k) : ixO (.tup (ys.map D.int)) (.int x) = .ok (.int (act ys x)) := by
  have := ixO_tup (xs := ys.map D.int) (i := x.toNat) (x := .int (act ys x)) (by rw [List.getElem?_map, o.get h0 h1]; rfl)
  rw [Int.toNat_of_nonneg h0] at this
  exact this
theorem zip_lots {k : Nat} {ns : List Int} (hn : ns.length = 2 ^ k) : ((List.range (2 ^ k)).map (lotN k)).zip ns = (List.range (2 ^ k)).map fun i => (lotN k i, ns.getD i 0) := by
  refine List.ext_getElem (by simp [hn]) fun i h1 h2 => ?_
  simp only [List.length_map, List.length_range] at h2
  simp [List.getElem?_eq_getElem (show i < ns.length by omega)]
/-- what stands after some lots -/
structure Called (k : Nat) (ys ns : List Int) (done : List (List Int × Int)) (cur : List Int) : Prop where
  len : cur.length = 2 ^ k
  at_ : ∀ p ∈ done, cur.getD (plc (p.1.map (act ys))) 0 = p.2
theorem rep0 {n : Nat} (h : n ≤ 1000) : repO (.lst [.int 0]) (.int (n : Int)) = .ok ((List.replicate n (0 : Int)).map D.int) := by
  show og _ _ = _
  rw [og_t ⟨by rw [sizeLine_eq]; simp; omega, by omega, by omega⟩]
  simp
theorem called {k : Nat} {ns ys : List Int} (k6 : k ≤ 6) (hn : ns.length = 2 ^ k) (o : Ordr k ys) :
    ∃ ms : List Int, P__law_called [.int k, iT ns, .tup (ys.map D.int)] = .ok (iT ms) ∧ ms.length = 2 ^ k ∧ ∀ l, Lot k l → val ms (l.map (act ys)) = val ns l := by
  have p := p64 k k6
  have e0 : env0 7 [.int k, iT ns, .tup (ys.map D.int)] = [.d (.int k), .d (iT ns), .d (.tup (ys.map D.int)), .un, .un, .un, .un] := rfl
  have er := rep0 (n := ns.length) (by omega)
  unfold P__law_called O__law_called
  rw [e0]
  have he := ev_eq k k6
  rw [ev_lots k k6] at he
  simp -implicitDefEqProofs only [DL.ob_ok, DL.ono_ok, DL.oo_some, DL.ob_ex, DL.rdO_z, DL.rdO_s, DL.ownLO_z, DL.ownLO_s, DL.frzO_z, DL.frzO_d, DL.frzO_s, DL.seqO_nx, DL.seqO_rt, DL.seqO_ex, DL.endO_rt, DL.endO_nx, DL.endO_ex, DL.addO_int, DL.subO_int, DL.negO_int, DL.leO_int, DL.ltO_int, DL.geO_int, DL.gtO_int, DL.asBO_bl, DL.truO_bl, DL.truO_non, DL.notO_ok, DL.orO_ok, DL.andO_ok, DL.eqO_int, DL.eqO_bl, DL.seqDO_tup, DL.seqDO_lst, DL.tupleO_lst, DL.tupleO_tup, DL.listO_lst, DL.listO_tup, DL.lenO_lst, DL.lenO_tup, DL.enumO_lst, DL.enumO_tup, DL.zipO_lst, DL.zipO_tup, DL.zip2_ll, DL.zip2_tt, DL.zip2_lt, DL.zip2_tl, DL.intO_int, DL.intO_bl, DL.tupO_ok, DL.consO_ok, DL.nilO_ok, DL.lcFO_ok, DL.wipeE_nil, DL.wipeE_cons, List.set_cons_zero, List.set_cons_succ, if_true, Bool.false_eq_true, if_false, List.length_map, er, he, DL.zipD_ty, zip_lots hn]
  rw [List.map_map]
  let all := List.range (2 ^ k)
  obtain ⟨cur, e, c⟩ := forO_p (c := fun i : Nat => D.tup [lotD (lotN k i), .int (ns.getD i 0)])
    (emb := fun (s : List Int × Sl × Sl) => ([.d (.int k), .d (iT ns), .d (.tup (ys.map D.int)), .own (.lst none (s.1.map D.int)), s.2.1, s.2.2, .un] : DL.Env))
    (I := fun dn s => Called k ys ns (dn.map fun i => (lotN k i, ns.getD i 0)) s.1) all all [] (List.replicate ns.length 0, .un, .un) rfl ⟨by simp [hn], by simp⟩
    (f := L__law_called_1) (by
      rintro dn i r ⟨cur, a4, a5⟩ hall ⟨hl, hat⟩
      have hl : cur.length = 2 ^ k := hl
      have hi : i < 2 ^ k := List.mem_range.mp (show i ∈ all by rw [← hall]; simp)
      have L := lotN_lot k i
      have ln := L.len
      have hlt := o.plc_lt L
      have hlc : lcO (C__law_called_1 [.d (.int k), .d (iT ns), .d (.tup (ys.map D.int)), .own (.lst none (cur.map D.int)), .d (lotD (lotN k i)), .d (.int (ns.getD i 0)), .un]) ((lotN k i).map D.int) = .ok ((lotN k i).map fun x => D.int (act ys x)) := by
        refine lcO_m1 fun x hx => ?_
        obtain ⟨b1, b2⟩ := L.bd x hx
        unfold C__law_called_1
        simp -implicitDefEqProofs only [DL.ob_ok, DL.ono_ok, DL.oo_some, DL.ob_ex, DL.rdO_z, DL.rdO_s, DL.ownLO_z, DL.ownLO_s, DL.frzO_z, DL.frzO_d, DL.frzO_s, DL.seqO_nx, DL.seqO_rt, DL.seqO_ex, DL.endO_rt, DL.endO_nx, DL.endO_ex, DL.addO_int, DL.subO_int, DL.negO_int, DL.leO_int, DL.ltO_int, DL.geO_int, DL.gtO_int, DL.asBO_bl, DL.truO_bl, DL.truO_non, DL.notO_ok, DL.orO_ok, DL.andO_ok, DL.eqO_int, DL.eqO_bl, DL.seqDO_tup, DL.seqDO_lst, DL.tupleO_lst, DL.tupleO_tup, DL.listO_lst, DL.listO_tup, DL.lenO_lst, DL.lenO_tup, DL.enumO_lst, DL.enumO_tup, DL.zipO_lst, DL.zipO_tup, DL.zip2_ll, DL.zip2_tt, DL.zip2_lt, DL.zip2_tl, DL.intO_int, DL.intO_bl, DL.tupO_ok, DL.consO_ok, DL.nilO_ok, DL.lcFO_ok, DL.wipeE_nil, DL.wipeE_cons, List.set_cons_zero, List.set_cons_succ, if_true, Bool.false_eq_true, if_false, ix_order o b1 b2]
      have hpl : P__law_place [.lst ((lotN k i).map fun x => D.int (act ys x))] = .ok (.int (plc ((lotN k i).map (act ys)))) := by
        refine place_seq (l := (lotN k i).map (act ys)) (by rw [List.map_map]; rfl) (by rw [List.length_map]; omega) fun x hx => ?_
        obtain ⟨y, hy, rfl⟩ := List.mem_map.mp hx
        obtain ⟨b1, b2⟩ := L.bd y hy
        have := o.bd b1 b2
        omega
      refine ⟨(cur.set (plc ((lotN k i).map (act ys))) (ns.getD i 0), .d (lotD (lotN k i)), .d (.int (ns.getD i 0))), ?_, ⟨by simp [hl], ?_⟩⟩
      · unfold L__law_called_1
        simp -implicitDefEqProofs only [DL.ob_ok, DL.ono_ok, DL.oo_some, DL.ob_ex, DL.rdO_z, DL.rdO_s, DL.ownLO_z, DL.ownLO_s, DL.frzO_z, DL.frzO_d, DL.frzO_s, DL.seqO_nx, DL.seqO_rt, DL.seqO_ex, DL.endO_rt, DL.endO_nx, DL.endO_ex, DL.addO_int, DL.subO_int, DL.negO_int, DL.leO_int, DL.ltO_int, DL.geO_int, DL.gtO_int, DL.asBO_bl, DL.truO_bl, DL.truO_non, DL.notO_ok, DL.orO_ok, DL.andO_ok, DL.eqO_int, DL.eqO_bl, DL.seqDO_tup, DL.seqDO_lst, DL.tupleO_lst, DL.tupleO_tup, DL.listO_lst, DL.listO_tup, DL.lenO_lst, DL.lenO_tup, DL.enumO_lst, DL.enumO_tup, DL.zipO_lst, DL.zipO_tup, DL.zip2_ll, DL.zip2_tt, DL.zip2_lt, DL.zip2_tl, DL.intO_int, DL.intO_bl, DL.tupO_ok, DL.consO_ok, DL.nilO_ok, DL.lcFO_ok, DL.wipeE_nil, DL.wipeE_cons, List.set_cons_zero, List.set_cons_succ, if_true, Bool.false_eq_true, if_false, og_t (show ([lotD (lotN k i), .int (ns.getD i 0)] : List D).length = 2 from rfl)]
        rw [show seqDO (lotD (lotN k i)) = .ok ((lotN k i).map D.int) from rfl]
        simp -implicitDefEqProofs only [DL.ob_ok, DL.ono_ok, DL.oo_some, DL.ob_ex, DL.rdO_z, DL.rdO_s, DL.ownLO_z, DL.ownLO_s, DL.frzO_z, DL.frzO_d, DL.frzO_s, DL.seqO_nx, DL.seqO_rt, DL.seqO_ex, DL.endO_rt, DL.endO_nx, DL.endO_ex, DL.addO_int, DL.subO_int, DL.negO_int, DL.leO_int, DL.ltO_int, DL.geO_int, DL.gtO_int, DL.asBO_bl, DL.truO_bl, DL.truO_non, DL.notO_ok, DL.orO_ok, DL.andO_ok, DL.eqO_int, DL.eqO_bl, DL.seqDO_tup, DL.seqDO_lst, DL.tupleO_lst, DL.tupleO_tup, DL.listO_lst, DL.listO_tup, DL.lenO_lst, DL.lenO_tup, DL.enumO_lst, DL.enumO_tup, DL.zipO_lst, DL.zipO_tup, DL.zip2_ll, DL.zip2_tt, DL.zip2_lt, DL.zip2_tl, DL.intO_int, DL.intO_bl, DL.tupO_ok, DL.consO_ok, DL.nilO_ok, DL.lcFO_ok, DL.wipeE_nil, DL.wipeE_cons, List.set_cons_zero, List.set_cons_succ, if_true, Bool.false_eq_true, if_false]
        rw [og_t (sizeLine_len (by rw [List.length_map]; omega)), hlc]
        simp -implicitDefEqProofs only [DL.ob_ok, DL.ono_ok, DL.oo_some, DL.ob_ex, DL.rdO_z, DL.rdO_s, DL.ownLO_z, DL.ownLO_s, DL.frzO_z, DL.frzO_d, DL.frzO_s, DL.seqO_nx, DL.seqO_rt, DL.seqO_ex, DL.endO_rt, DL.endO_nx, DL.endO_ex, DL.addO_int, DL.subO_int, DL.negO_int, DL.leO_int, DL.ltO_int, DL.geO_int, DL.gtO_int, DL.asBO_bl, DL.truO_bl, DL.truO_non, DL.notO_ok, DL.orO_ok, DL.andO_ok, DL.eqO_int, DL.eqO_bl, DL.seqDO_tup, DL.seqDO_lst, DL.tupleO_lst, DL.tupleO_tup, DL.listO_lst, DL.listO_tup, DL.lenO_lst, DL.lenO_tup, DL.enumO_lst, DL.enumO_tup, DL.zipO_lst, DL.zipO_tup, DL.zip2_ll, DL.zip2_tt, DL.zip2_lt, DL.zip2_tl, DL.intO_int, DL.intO_bl, DL.tupO_ok, DL.consO_ok, DL.nilO_ok, DL.lcFO_ok, DL.wipeE_nil, DL.wipeE_cons, List.set_cons_zero, List.set_cons_succ, if_true, Bool.false_eq_true, if_false, hpl]
        have hx : ixN (cur.map D.int).length (plc ((lotN k i).map (act ys)) : Int) = some (plc ((lotN k i).map (act ys))) := by
          unfold ixN
          rw [if_pos (by omega), if_pos (by rw [List.length_map]; omega)]
          simp
        show ob (oo (ixN (cur.map D.int).length _)) _ = _
        rw [hx]
        simp -implicitDefEqProofs only [DL.ob_ok, DL.ono_ok, DL.oo_some, DL.ob_ex, DL.rdO_z, DL.rdO_s, DL.ownLO_z, DL.ownLO_s, DL.frzO_z, DL.frzO_d, DL.frzO_s, DL.seqO_nx, DL.seqO_rt, DL.seqO_ex, DL.endO_rt, DL.endO_nx, DL.endO_ex, DL.addO_int, DL.subO_int, DL.negO_int, DL.leO_int, DL.ltO_int, DL.geO_int, DL.gtO_int, DL.asBO_bl, DL.truO_bl, DL.truO_non, DL.notO_ok, DL.orO_ok, DL.andO_ok, DL.eqO_int, DL.eqO_bl, DL.seqDO_tup, DL.seqDO_lst, DL.tupleO_lst, DL.tupleO_tup, DL.listO_lst, DL.listO_tup, DL.lenO_lst, DL.lenO_tup, DL.enumO_lst, DL.enumO_tup, DL.zipO_lst, DL.zipO_tup, DL.zip2_ll, DL.zip2_tt, DL.zip2_lt, DL.zip2_tl, DL.intO_int, DL.intO_bl, DL.tupO_ok, DL.consO_ok, DL.nilO_ok, DL.lcFO_ok, DL.wipeE_nil, DL.wipeE_cons, List.set_cons_zero, List.set_cons_succ, if_true, Bool.false_eq_true, if_false]
        rw [List.map_set]
      · intro q hq
        rw [List.map_append, List.mem_append] at hq
        rcases hq with hq | hq
        · obtain ⟨j, hj, rfl⟩ := List.mem_map.mp hq
          have hjr : j < 2 ^ k := List.mem_range.mp (show j ∈ all by rw [← hall]; simp [hj])
          have hji : j ≠ i := fun e => by
            subst e
            have nd : all.Nodup := List.nodup_range
            rw [← hall] at nd
            have := (List.nodup_append.mp nd).2.2 j hj j List.mem_cons_self
            exact this rfl
          have hne := o.plc_ne (lotN_lot k j) L fun e => hji (by rw [← plc_lotN hjr, ← plc_lotN hi, e])
          rw [List.getD_eq_getElem?_getD, List.getElem?_set_ne (fun z => hne z.symm), ← List.getD_eq_getElem?_getD]
          exact hat _ hq
        · have : q = (lotN k i, ns.getD i 0) := by simpa using hq
          subst this
          simp only
          rw [List.getD_eq_getElem?_getD, List.getElem?_set_self (by omega)]
          rfl)
  obtain ⟨ms, b4, b5⟩ := cur
  refine ⟨ms, ?_, c.len, fun l hl => ?_⟩
  · have e' := e
    simp only at e'
    rw [show ((fun p : List Int × Int => D.tup [lotD p.1, D.int p.2]) ∘ fun i => (lotN k i, ns.getD i 0)) = (fun i : Nat => D.tup [lotD (lotN k i), .int (ns.getD i 0)]) from rfl]
    rw [e']
    simp -implicitDefEqProofs only [DL.ob_ok, DL.ono_ok, DL.oo_some, DL.ob_ex, DL.rdO_z, DL.rdO_s, DL.ownLO_z, DL.ownLO_s, DL.frzO_z, DL.frzO_d, DL.frzO_s, DL.seqO_nx, DL.seqO_rt, DL.seqO_ex, DL.endO_rt, DL.endO_nx, DL.endO_ex, DL.addO_int, DL.subO_int, DL.negO_int, DL.leO_int, DL.ltO_int, DL.geO_int, DL.gtO_int, DL.asBO_bl, DL.truO_bl, DL.truO_non, DL.notO_ok, DL.orO_ok, DL.andO_ok, DL.eqO_int, DL.eqO_bl, DL.seqDO_tup, DL.seqDO_lst, DL.tupleO_lst, DL.tupleO_tup, DL.listO_lst, DL.listO_tup, DL.lenO_lst, DL.lenO_tup, DL.enumO_lst, DL.enumO_tup, DL.zipO_lst, DL.zipO_tup, DL.zip2_ll, DL.zip2_tt, DL.zip2_lt, DL.zip2_tl, DL.intO_int, DL.intO_bl, DL.tupO_ok, DL.consO_ok, DL.nilO_ok, DL.lcFO_ok, DL.wipeE_nil, DL.wipeE_cons, List.set_cons_zero, List.set_cons_succ, if_true, Bool.false_eq_true, if_false, frzD]
    rfl
  · have := c.at_ (l, val ns l) (List.mem_map.mpr ⟨plc l, List.mem_range.mpr hl.lt, by rw [← hl.eq]; rfl⟩)
    exact this
end K09
end
section
set_option Elab.async false
set_option linter.all false
set_option maxRecDepth 100000
set_option maxHeartbeats 4000000
set_option autoImplicit false
namespace K09
open PySem PySem.Spec L2 DL
theorem zipIdx_range (ns : List Int) : ns.zipIdx = (List.range ns.length).map fun i => (ns.getD i 0, i) := by
  refine List.ext_getElem (by simp) fun i h1 h2 => ?_
  simp only [List.length_map, List.length_range] at h2
  simp [List.getElem?_eq_getElem h2]
theorem goal_range (ns : List Int) (m : Int) : goalM ns m = (List.range ns.length).filter fun i => ns.getD i 0 == m := by
  unfold goalM
  rw [zipIdx_range, List.filter_map, List.map_map]
  exact List.map_id _
theorem goal_mem {ns : List Int} {m : Int} {i : Nat} : i ∈ goalM ns m ↔ i < ns.length ∧ ns.getD i 0 = m := by
  rw [goal_range, List.mem_filter, List.mem_range]
  simp
theorem goal_asc (ns : List Int) (m : Int) : (goalM ns m).Pairwise (· < ·) := by
  rw [goal_range]
  exact List.Pairwise.filter _ List.pairwise_lt_range
theorem lotAt_N {k i : Nat} (k6 : k ≤ 6) (h : i < 2 ^ k) : lotAt k i = lotN k i := by
  unfold lotAt
  rw [ev_lots k k6, List.getD_eq_getElem?_getD, List.getElem?_map, List.getElem?_range h]
  rfl
/-- the lots with the number m -/
def gl (k : Nat) (ns : List Int) (m : Int) : List (List Int) := (goalM ns m).map (lotN k)
theorem gl_mem {k : Nat} {ns : List Int} {m : Int} (hn : ns.length = 2 ^ k) {l : List Int} : l ∈ gl k ns m ↔ Lot k l ∧ val ns l = m := by
  unfold gl
  rw [List.mem_map]
  constructor
  · rintro ⟨i, hi, rfl⟩
    obtain ⟨h1, h2⟩ := goal_mem.mp hi
    refine ⟨lotN_lot k i, ?_⟩
    unfold val
    rw [plc_lotN (by omega)]
    exact h2
  · rintro ⟨h1, h2⟩
    exact ⟨plc l, goal_mem.mpr ⟨by rw [hn]; exact h1.lt, h2⟩, h1.eq.symm⟩
theorem gl_len {k : Nat} {ns : List Int} {m : Int} : (gl k ns m).length ≤ ns.length := by
  unfold gl
  rw [List.length_map]
  exact goal_len ns m
theorem least_gl {k : Nat} {ns : List Int} {m : Int} (k1 : 1 ≤ k) (k6 : k ≤ 6) (hl : ns.length = 2 ^ k) (h : isMin ns m) : P_least_lots [tb k ns] = .ok (.tup [.int m, .tup ((gl k ns m).map lotD)]) := by
  rw [least_lots k1 k6 hl h]
  unfold gl
  rw [List.map_map]
  congr 4
  refine congrArg D.tup (List.map_congr_left fun i hi => ?_)
  rw [lotAt_N k6 (by rw [← hl]; exact (goal_mem.mp hi).1)]
  rfl
theorem val_le {k : Nat} {ns : List Int} {m : Int} (hl : ns.length = 2 ^ k) (h : isMin ns m) {l : List Int} (L : Lot k l) : m ≤ val ns l := by
  have hlt := L.lt
  refine h.2 _ ?_
  unfold val
  exact List.mem_of_getElem? (get_lt (by omega))
theorem gl_closed {k : Nat} {ns : List Int} {m : Int} (hl : ns.length = 2 ^ k) (h : isMin ns m) (lc : Loc k ns) : ∀ a ∈ gl k ns m, ∀ b ∈ gl k ns m, uni a b ∈ gl k ns m ∧ met a b ∈ gl k ns m := by
  intro a ha b hb
  obtain ⟨a1, a2⟩ := (gl_mem hl).mp ha
  obtain ⟨b1, b2⟩ := (gl_mem hl).mp hb
  have u := uni_lot a1 b1
  have t := met_lot (b := b) a1
  have := hollow_all lc a1 b1
  have := val_le hl h u
  have := val_le hl h t
  exact ⟨(gl_mem hl).mpr ⟨u, by omega⟩, (gl_mem hl).mpr ⟨t, by omega⟩⟩
theorem min_called {k : Nat} {ns ms ys : List Int} {m : Int} (hl : ns.length = 2 ^ k) (hm : ms.length = 2 ^ k) (o : Ordr k ys) (hv : ∀ l, Lot k l → val ms (l.map (act ys)) = val ns l) (h : isMin ns m) : isMin ms m := by
  have hv2 : ∀ l, Lot k l → val ms (img ys l) = val ns l := fun l L => by
    rw [← hv l L]
    unfold val
    rw [o.plc L]
  refine ⟨?_, fun y hy => ?_⟩
  · obtain ⟨i, hi⟩ := List.getElem?_of_mem h.1
    have hlt := (List.getElem?_eq_some_iff.mp hi).1
    have e := hv2 (lotN k i) (lotN_lot k i)
    have e2 : val ns (lotN k i) = m := by
      unfold val
      rw [plc_lotN (by omega), List.getD_eq_getElem?_getD, hi]
      rfl
    rw [e2] at e
    rw [← e]
    unfold val
    exact List.mem_of_getElem? (get_lt (by rw [hm]; exact (o.lot (lotN_lot k i)).lt))
  · obtain ⟨i, hi⟩ := List.getElem?_of_mem hy
    have hlt := (List.getElem?_eq_some_iff.mp hi).1
    obtain ⟨l, L, e⟩ := o.img_surj (lotN_lot k i)
    have e1 := hv2 l L
    rw [e] at e1
    have e2 : val ms (lotN k i) = y := by
      unfold val
      rw [plc_lotN (by omega), List.getD_eq_getElem?_getD, hi]
      rfl
    rw [e2] at e1
    rw [e1]
    exact val_le hl h L
/-- the images in order of their places -/
theorem gone {k : Nat} {ns ms ys : List Int} {m : Int} (hl : ns.length = 2 ^ k) (hm : ms.length = 2 ^ k) (o : Ordr k ys) (hv : ∀ l, Lot k l → val ms (l.map (act ys)) = val ns l) :
    (srtd ((gl k ns m).map fun l => ((plc (img ys l) : Int), img ys l))).map (·.2) = gl k ms m := by
  have hv2 : ∀ l, Lot k l → val ms (img ys l) = val ns l := fun l L => by
    rw [← hv l L]
    unfold val
    rw [o.plc L]
  let ps := (gl k ns m).map fun l => ((plc (img ys l) : Int), img ys l)
  have hp := srtd_perm ps
  have hs := srtd_asc ps
  have hlot : ∀ p ∈ srtd ps, ∃ l, Lot k l ∧ val ns l = m ∧ p = ((plc (img ys l) : Int), img ys l) := fun p hpm => by
    obtain ⟨l, h1, h2⟩ := List.mem_map.mp (hp.mem_iff.mp hpm)
    obtain ⟨L, e⟩ := (gl_mem hl).mp h1
    exact ⟨l, L, e, h2.symm⟩
  have nd : (ps.map (·.1)).Nodup := by
    have ng : (gl k ns m).Nodup := by
      unfold gl List.Nodup
      rw [List.pairwise_map]
      refine (goal_asc ns m).imp_of_mem fun {a b} ha hb hab e => ?_
      have a1 := plc_lotN (k := k) (i := a) (by rw [← hl]; exact (goal_mem.mp ha).1)
      have b1 := plc_lotN (k := k) (i := b) (by rw [← hl]; exact (goal_mem.mp hb).1)
      rw [e, b1] at a1
      omega
    show ((((gl k ns m).map fun l => ((plc (img ys l) : Int), img ys l))).map (·.1)).Nodup
    rw [List.map_map]
    unfold List.Nodup at ng ⊢
    rw [List.pairwise_map]
    refine ng.imp_of_mem fun {a b} ha hb hab e => hab ?_
    have la := ((gl_mem hl).mp ha).1
    have lb := ((gl_mem hl).mp hb).1
    have e : (plc (img ys a) : Int) = plc (img ys b) := e
    exact o.img_inj la lb ((o.lot la).plc_inj (o.lot lb) (by omega))
  have asc1 : ((srtd ps).map (·.1)).Pairwise (· < ·) := by
    have nd2 : ((srtd ps).map (·.1)).Nodup := (hp.map (·.1)).nodup_iff.mpr nd
    unfold List.Nodup at nd2
    rw [List.pairwise_map] at nd2 ⊢
    refine (hs.and nd2).imp fun {a b} ⟨h1, h2⟩ => ?_
    have h1 : (!(if b.1 = a.1 then ltL _ b.2 a.2 else decide (b.1 < a.1))) = true := h1
    have h3 : ¬ b.1 = a.1 := fun z => h2 z.symm
    rw [if_neg h3] at h1
    have : ¬ b.1 < a.1 := by simpa using h1
    omega
  have asc2 : ((goalM ms m).map fun i : Nat => (i : Int)).Pairwise (· < ·) := by
    rw [List.pairwise_map]
    exact (goal_asc ms m).imp fun h => by omega
  have e1 : (srtd ps).map (·.1) = (goalM ms m).map fun i : Nat => (i : Int) := by
    refine asc_one asc1 asc2 fun x => ?_
    rw [List.mem_map, List.mem_map]
    constructor
    · rintro ⟨p, hpm, rfl⟩
      obtain ⟨l, L, e, rfl⟩ := hlot p hpm
      refine ⟨plc (img ys l), goal_mem.mpr ⟨by rw [hm]; exact (o.lot L).lt, ?_⟩, rfl⟩
      have := hv2 l L
      rw [e] at this
      exact this
    · rintro ⟨i, hi, rfl⟩
      obtain ⟨i1, i2⟩ := goal_mem.mp hi
      rw [hm] at i1
      obtain ⟨l, L, e⟩ := o.img_surj (lotN_lot k i)
      have e1 := hv2 l L
      rw [e] at e1
      have e2 : val ms (lotN k i) = m := by
        unfold val
        rw [plc_lotN i1]
        exact i2
      refine ⟨((plc (img ys l) : Int), img ys l), hp.mem_iff.mpr (List.mem_map.mpr ⟨l, (gl_mem hl).mpr ⟨L, by omega⟩, rfl⟩), ?_⟩
      show (plc (img ys l) : Int) = i
      rw [e, plc_lotN i1]
  have e2 : (srtd ps).map (·.2) = ((srtd ps).map (·.1)).map fun x => lotN k x.toNat := by
    rw [List.map_map]
    refine List.map_congr_left fun p hpm => ?_
    obtain ⟨l, L, e, rfl⟩ := hlot p hpm
    show img ys l = lotN k ((plc (img ys l) : Int)).toNat
    rw [Int.toNat_natCast]
    exact (o.lot L).eq
  show (srtd ps).map (·.2) = _
  rw [e2, e1, List.map_map]
  rfl
end K09
end
section
set_option Elab.async false
set_option linter.all false
set_option maxRecDepth 100000
set_option maxHeartbeats 4000000
set_option autoImplicit false
namespace K09
open PySem PySem.Spec L2 DL
theorem IT_lot {k : Nat} {l : List Int} (k6 : k ≤ 6) (h : Lot k l) : IT 1 (lotD l) := .tup _ _ (by have := h.len; rw [List.length_map]; omega) fun x hx => by
  obtain ⟨i, _, rfl⟩ := List.mem_map.mp hx
  exact .int _ i
theorem IT_gl {k : Nat} {L : List (List Int)} (k6 : k ≤ 6) (h : ∀ l ∈ L, Lot k l) (hn : L.length ≤ 1000) (m : Int) : IT 3 (.tup [.int m, .tup (L.map lotD)]) := .tup _ _ (by simp) fun x hx => by
  rcases List.mem_cons.mp hx with rfl | hx
  · exact .int _ _
  · have : x = .tup (L.map lotD) := by simpa using hx
    subst this
    exact .tup _ _ (by rw [List.length_map]; exact hn) fun y hy => by
      obtain ⟨l, hl, rfl⟩ := List.mem_map.mp hy
      exact IT_lot k6 (h l hl)
theorem IT_tbl {k : Nat} {ns : List Int} (h : ns.length ≤ 1000) : IT 2 (.lst [.int k, iT ns]) := .lst _ _ (by simp) fun x hx => by
  rcases List.mem_cons.mp hx with rfl | hx
  · exact .int _ _
  · have : x = iT ns := by simpa using hx
    subst this
    exact .tup _ _ (by rw [List.length_map]; exact h) fun y hy => by
      obtain ⟨l, hl, rfl⟩ := List.mem_map.mp hy
      exact .int _ _
theorem zip_rng {k : Nat} {ns : List Int} (hn : ns.length = 2 ^ k) : (List.range (2 ^ k)).zip ns = (List.range (2 ^ k)).map fun i => (i, ns.getD i 0) := by
  refine List.ext_getElem (by simp [hn]) fun i h1 h2 => ?_
  simp only [List.length_map, List.length_range] at h2
  simp [List.getElem?_eq_getElem (show i < ns.length by omega)]
theorem filterMap_if {α β : Type} (p : α → Prop) [DecidablePred p] (g : α → β) : ∀ l : List α, l.filterMap (fun i => if p i then some (g i) else none) = (l.filter fun i => decide (p i)).map g
  | [] => rfl
  | a :: l => by
    by_cases h : p a <;> simp [h, filterMap_if p g l]
theorem gl_filter {k : Nat} {ns : List Int} {m : Int} (hn : ns.length = 2 ^ k) : (List.range (2 ^ k)).filterMap (fun i => if ns.getD i 0 = m then some (lotD (lotN k i)) else none) = (gl k ns m).map lotD := by
  rw [filterMap_if (fun i => ns.getD i 0 = m)]
  unfold gl
  rw [List.map_map, goal_range, hn]
  congr 1
  try refine List.filter_congr fun i _ => ?_
  try (by_cases h : ns.getD i 0 = m <;> simp [h])
def gD (k : Nat) (ns : List Int) (m : Int) : D := .tup ((gl k ns m).map lotD)
theorem m__law_case_right {G : Gx} (gs : GS G) (ds : List D) (Q : D → Prop) (E : DX → Prop) (h : s__law_case_right ds Q E) : endW (W__law_case_right G (env0 13 ds)) Q E := by
  match ds, h with
  | [.hnd, .int k', .tup xs], h =>
    obtain ⟨k, ns, rfl, rfl, k1, k6, vo, q⟩ := h
    have p := p64 k k6
    have hl := vo.len
    have t : Tbl k ns := ⟨k1, by omega, hl, vo.z⟩
    obtain ⟨m, hm⟩ := min_ex ns (fun e => by rw [e] at hl; have := Nat.two_pow_pos k; simp at hl; omega)
    have e1 : mk_Table [.int k, iT ns] = DL.ret (tb k ns) := s_of (mk_tb t)
    have e2 : minUD [iT ns] = DL.ret (.int m) := by rw [← w_minU]; exact s_of (min_T hm)
    have e4 : s_least_lots [tb k ns] = DL.ret (.tup [.int m, gD k ns m]) := s_of (least_gl k1 k6 hl hm)
    have gk : (gl k ns m).length ≤ 64 := Nat.le_trans gl_len (by omega)
    have gL : ∀ l ∈ gl k ns m, Lot k l := fun l h => ((gl_mem hl).mp h).1
    have e5 : s__law_is [.tup [.int m, gD k ns m], .tup [.int m, gD k ns m]] = DL.ret (.bl true) := is_ok (IT_gl k6 gL (by omega) m).up.up
    unfold W__law_case_right
    refine seqW_I (I := fun ρ => ρ = [.d .hnd, .d (.int k), .d (iT ns), .d (tb k ns), .un, .un, .un, .un, .un, .un, .un, .un, .un]) ?_ ?_
    · intro R hR
      simp [DL.endW, DL.bnd, DL.ret, DL.seqW, DL.grd, DL.nox, DL.rd, DL.env0, DL.asB, DL.truD, DL.andT, DL.orT, DL.notT, DL.optW, DL.onI2, DL.cmpI, DL.subD, DL.lenD, DL.intO, DL.tupleD, DL.listD, DL.ite_app, e1]
      exact hR _ rfl
    rintro ρ rfl
    refine seqW_I (I := fun ρ => ρ = [.d .hnd, .d (.int k), .d (iT ns), .d (tb k ns), .d (.int m), .un, .un, .un, .un, .un, .un, .un, .un]) ?_ ?_
    · intro R hR
      simp [DL.endW, DL.bnd, DL.ret, DL.seqW, DL.grd, DL.nox, DL.rd, DL.env0, DL.asB, DL.truD, DL.andT, DL.orT, DL.notT, DL.optW, DL.onI2, DL.cmpI, DL.subD, DL.lenD, DL.intO, DL.tupleD, DL.listD, DL.ite_app, e2]
      exact hR _ rfl
    rintro ρ rfl
    refine seqW_I (I := fun ρ => ρ = [.d .hnd, .d (.int k), .d (iT ns), .d (tb k ns), .d (.int m), .d (gD k ns m), .un, .un, .un, .un, .un, .un, .un]) ?_ ?_
    · intro R hR
      simp [DL.endW, DL.bnd, DL.ret, DL.seqW, DL.grd, DL.nox, DL.rd, DL.env0, DL.asB, DL.truD, DL.andT, DL.orT, DL.notT, DL.optW, DL.onI2, DL.cmpI, DL.subD, DL.lenD, DL.intO, DL.tupleD, DL.listD, DL.ite_app, s_lots k k6, zip2S, itms, ev_lots k k6, DL.zipD_ty]
      refine ⟨by rw [sizeLine_eq]; omega, ?_⟩
      rw [zip_rng hl, List.map_map]
      refine lcGo_mp (c := fun i => D.tup [lotD (lotN k i), .int (ns.getD i 0)]) (g := fun i => if ns.getD i 0 = m then some (lotD (lotN k i)) else none) (fun i hi R2 hR2 => ?_) ?_
      · simp [DL.endW, DL.bnd, DL.ret, DL.seqW, DL.grd, DL.nox, DL.rd, DL.env0, DL.asB, DL.truD, DL.andT, DL.orT, DL.notT, DL.optW, DL.onI2, DL.cmpI, DL.subD, DL.lenD, DL.intO, DL.tupleD, DL.listD, DL.ite_app, lcF, wipeE, tupG, consG, nilG, eq_int]
        by_cases c : ns.getD i 0 = m
        · rw [if_pos c] at hR2
          have c2 : ns[i]?.getD 0 = m := by simpa using c
          simp [c2]
          exact hR2
        · rw [if_neg c] at hR2
          have c2 : ¬ ns[i]?.getD 0 = m := by simpa using c
          simp [c2]
          exact hR2
      · rw [gl_filter hl]
        exact hR _ rfl
    rintro ρ rfl
    refine seqW_I (I := fun ρ => ρ = [.d .hnd, .d (.int k), .d (iT ns), .d (tb k ns), .d (.int m), .d (gD k ns m), .un, .un, .un, .un, .un, .un, .un]) ?_ ?_
    · intro R hR
      simp [DL.endW, DL.bnd, DL.ret, DL.seqW, DL.grd, DL.nox, DL.rd, DL.env0, DL.asB, DL.truD, DL.andT, DL.orT, DL.notT, DL.optW, DL.onI2, DL.cmpI, DL.subD, DL.lenD, DL.intO, DL.tupleD, DL.listD, DL.ite_app, e4, e5]
      exact hR _ rfl
    rintro ρ rfl
    refine seqW_I (I := fun ρ => ρ = [.d .hnd, .d (.int k), .d (iT ns), .d (tb k ns), .d (.int m), .d (gD k ns m), .un, .un, .un, .un, .un, .un, .un]) ?_ ?_
    · intro R hR
      rcases hollow_ck k6 hl with e | ⟨e, hlo⟩
      · have e6 : s__law_is_hollow [.int k, iT ns] = DL.ret (.bl false) := s_of e
        simp [DL.endW, DL.bnd, DL.ret, DL.seqW, DL.grd, DL.nox, DL.rd, DL.env0, DL.asB, DL.truD, DL.andT, DL.orT, DL.notT, DL.optW, DL.onI2, DL.cmpI, DL.subD, DL.lenD, DL.intO, DL.tupleD, DL.listD, DL.ite_app, e6]
        exact hR _ rfl
      · have e6 : s__law_is_hollow [.int k, iT ns] = DL.ret (.bl true) := s_of e
        have e7 : s__law_lattice_right [gD k ns m] = DL.ret (.bl true) := s_of (lattice (by omega) gL (by omega) (gl_closed hl hm (loc_all k6 hlo)))
        simp [DL.endW, DL.bnd, DL.ret, DL.seqW, DL.grd, DL.nox, DL.rd, DL.env0, DL.asB, DL.truD, DL.andT, DL.orT, DL.notT, DL.optW, DL.onI2, DL.cmpI, DL.subD, DL.lenD, DL.intO, DL.tupleD, DL.listD, DL.ite_app, e6, e7]
        exact hR _ rfl
    rintro ρ rfl
    refine seqW_I (I := fun ρ => ∃ ys : List Int, Ordr k ys ∧ ρ = [.d .hnd, .d (.int k), .d (iT ns), .d (tb k ns), .d (.int m), .d (gD k ns m), .d (.tup (ys.map D.int)), .un, .un, .un, .un, .un, .un]) ?_ ?_
    · intro R hR
      simp [DL.endW, DL.bnd, DL.ret, DL.seqW, DL.grd, DL.nox, DL.rd, DL.env0, DL.asB, DL.truD, DL.andT, DL.orT, DL.notT, DL.optW, DL.onI2, DL.cmpI, DL.subD, DL.lenD, DL.intO, DL.tupleD, DL.listD, DL.ite_app, rgW, rangeD0]
      refine ⟨by omega, ?_⟩
      refine ⟨by simp; omega, fun ys hp => ?_⟩
      obtain ⟨os, rfl, o⟩ := ordr_of hp
      simp [DL.endW, DL.bnd, DL.ret, DL.seqW, DL.grd, DL.nox, DL.rd, DL.env0, DL.asB, DL.truD, DL.andT, DL.orT, DL.notT, DL.optW, DL.onI2, DL.cmpI, DL.subD, DL.lenD, DL.intO, DL.tupleD, DL.listD, DL.ite_app]
      exact hR _ ⟨os, o, rfl⟩
    rintro ρ ⟨ys, o, rfl⟩
    refine seqW_I (I := fun ρ => ρ = [.d .hnd, .d (.int k), .d (iT ns), .d (tb k ns), .d (.int m), .d (gD k ns m), .d (.tup (ys.map D.int)), .d (.lst ((gl k ns m).map fun l => lotD (img ys l))), .un, .un, .un, .un, .un]) ?_ ?_
    · intro R hR
      simp [DL.endW, DL.bnd, DL.ret, DL.seqW, DL.grd, DL.nox, DL.rd, DL.env0, DL.asB, DL.truD, DL.andT, DL.orT, DL.notT, DL.optW, DL.onI2, DL.cmpI, DL.subD, DL.lenD, DL.intO, DL.tupleD, DL.listD, DL.ite_app, gD, seqD]
      refine ⟨by rw [sizeLine_eq]; omega, ?_⟩
      refine lcGo_m1 (g := fun l => lotD (img ys l)) (fun l hlm R2 hR2 => ?_) (hR _ rfl)
      have L := gL l hlm
      have ln := L.len
      have es : sortAnyD [.lst (l.map fun x => D.int (act ys x))] = DL.ret (.lst ((img ys l).map D.int)) := by
        rw [← w_sort, show (l.map fun x => D.int (act ys x)) = (l.map (act ys)).map D.int by rw [List.map_map]; rfl, sortO_int, srtd_int (o.nd L)]
        rfl
      simp [DL.endW, DL.bnd, DL.ret, DL.seqW, DL.grd, DL.nox, DL.rd, DL.env0, DL.asB, DL.truD, DL.andT, DL.orT, DL.notT, DL.optW, DL.onI2, DL.cmpI, DL.subD, DL.lenD, DL.intO, DL.tupleD, DL.listD, DL.ite_app, lcF, wipeE, seqD, lotD]
      refine ⟨by rw [sizeLine_eq]; omega, ?_⟩
      refine lcGo_m1 (g := fun x => D.int (act ys x)) (fun x hx R3 hR3 => ?_) ?_
      · obtain ⟨b1, b2⟩ := L.bd x hx
        have ei : ixD (.tup (ys.map D.int)) (.int x) = DL.ret (.int (act ys x)) := by
          rw [← w_ix, ix_order o b1 b2]
          rfl
        simp [DL.endW, DL.bnd, DL.ret, DL.seqW, DL.grd, DL.nox, DL.rd, DL.env0, DL.asB, DL.truD, DL.andT, DL.orT, DL.notT, DL.optW, DL.onI2, DL.cmpI, DL.subD, DL.lenD, DL.intO, DL.tupleD, DL.listD, DL.ite_app, lcF, wipeE, ei]
        exact hR3
      · simp [DL.endW, DL.bnd, DL.ret, DL.seqW, DL.grd, DL.nox, DL.rd, DL.env0, DL.asB, DL.truD, DL.andT, DL.orT, DL.notT, DL.optW, DL.onI2, DL.cmpI, DL.subD, DL.lenD, DL.intO, DL.tupleD, DL.listD, DL.ite_app, es]
        exact hR2
    rintro ρ rfl
    obtain ⟨ms, c1, c2, c3⟩ := called k6 hl o
    refine seqW_I (I := fun ρ => ρ = [.d .hnd, .d (.int k), .d (iT ns), .d (tb k ns), .d (.int m), .d (gD k ns m), .d (.tup (ys.map D.int)), .d (.lst ((gl k ms m).map lotD)), .un, .un, .un, .un, .un]) ?_ ?_
    · intro R hR
      simp [DL.endW, DL.bnd, DL.ret, DL.seqW, DL.grd, DL.nox, DL.rd, DL.env0, DL.asB, DL.truD, DL.andT, DL.orT, DL.notT, DL.optW, DL.onI2, DL.cmpI, DL.subD, DL.lenD, DL.intO, DL.tupleD, DL.listD, DL.ite_app, seqD]
      refine ⟨by rw [sizeLine_eq]; omega, ?_⟩
      refine lcGo_m1 (g := fun l => PyT.d ((plc (img ys l) : Int), img ys l)) (fun l hlm R2 hR2 => ?_) ?_
      · have L := o.lot (gL l hlm)
        have ln := L.len
        have ep : s__law_place [lotD (img ys l)] = DL.ret (.int (plc (img ys l))) := s_of (place_seq (l := img ys l) rfl (by omega) fun x hx => by
          have := L.bd x hx
          omega)
        simp [DL.endW, DL.bnd, DL.ret, DL.seqW, DL.grd, DL.nox, DL.rd, DL.env0, DL.asB, DL.truD, DL.andT, DL.orT, DL.notT, DL.optW, DL.onI2, DL.cmpI, DL.subD, DL.lenD, DL.intO, DL.tupleD, DL.listD, DL.ite_app, lcF, wipeE, ep]
        exact hR2
      · have es : sortAnyD [.lst ((gl k ns m).map fun l => PyT.d ((plc (img ys l) : Int), img ys l))] = DL.ret (.lst ((srtd ((gl k ns m).map fun l => ((plc (img ys l) : Int), img ys l))).map PyT.d)) := by
          rw [← w_sort, show ((gl k ns m).map fun l => PyT.d ((plc (img ys l) : Int), img ys l)) = ((gl k ns m).map fun l => ((plc (img ys l) : Int), img ys l)).map PyT.d by rw [List.map_map]; rfl, sorto_t (by decide) rfl]
          rfl
        rw [es]
        have hlen := (srtd_perm ((gl k ns m).map fun l => ((plc (img ys l) : Int), img ys l))).length_eq
        rw [List.length_map] at hlen
        simp [DL.endW, DL.bnd, DL.ret, DL.seqW, DL.grd, DL.nox, DL.rd, DL.env0, DL.asB, DL.truD, DL.andT, DL.orT, DL.notT, DL.optW, DL.onI2, DL.cmpI, DL.subD, DL.lenD, DL.intO, DL.tupleD, DL.listD, DL.ite_app]
        refine ⟨by rw [sizeLine_eq]; omega, ?_⟩
        refine lcGo_m1 (g := fun p : Int × List Int => lotD p.2) (fun p hp R2 hR2 => ?_) ?_
        · have ei : ixD (PyT.d p) (.int 1) = DL.ret (lotD p.2) := rfl
          simp [DL.endW, DL.bnd, DL.ret, DL.seqW, DL.grd, DL.nox, DL.rd, DL.env0, DL.asB, DL.truD, DL.andT, DL.orT, DL.notT, DL.optW, DL.onI2, DL.cmpI, DL.subD, DL.lenD, DL.intO, DL.tupleD, DL.listD, DL.ite_app, lcF, wipeE, ei]
          exact hR2
        · have := gone hl c2 o c3 (m := m)
          rw [show ((srtd ((gl k ns m).map fun l => ((plc (img ys l) : Int), img ys l))).map fun p : Int × List Int => lotD p.2) = ((srtd ((gl k ns m).map fun l => ((plc (img ys l) : Int), img ys l))).map (·.2)).map lotD by rw [List.map_map]; rfl, this]
          exact hR _ rfl
    rintro ρ rfl
    have ms0 : ms[0]? = some 0 := by
      have h0 := c3 [] ⟨List.Pairwise.nil, by simp⟩
      have z0 : 0 < ms.length := by rw [c2]; exact Nat.two_pow_pos k
      have v0 := vo.z
      have : ms.getD 0 0 = ns.getD 0 0 := h0
      rw [get_lt z0, this, List.getD_eq_getElem?_getD, v0]
      rfl
    have t2 : Tbl k ms := ⟨k1, by omega, c2, ms0⟩
    have hm2 := min_called hl c2 o c3 hm
    have f1 : s__law_called [.int k, iT ns, .tup (ys.map D.int)] = DL.ret (iT ms) := s_of c1
    have f2 : mk_Table [.int k, iT ms] = DL.ret (tb k ms) := s_of (mk_tb t2)
    have f3 : s_least_lots [tb k ms] = DL.ret (.tup [.int m, gD k ms m]) := s_of (least_gl k1 k6 c2 hm2)
    have gk2 : (gl k ms m).length ≤ 64 := Nat.le_trans gl_len (by omega)
    have f4 : s__law_is [.tup [.int m, gD k ms m], .tup [.int m, gD k ms m]] = DL.ret (.bl true) := is_ok (IT_gl k6 (fun l h => ((gl_mem c2).mp h).1) (by omega) m).up.up
    have f5 : s__law_is [.lst [.int k, iT ns], .lst [.int k, iT ns]] = DL.ret (.bl true) := is_ok (IT_tbl (by omega)).up.up.up
    with_reducible refine seqW_I (I := fun ρ => ρ = [.d .hnd, .d (.int k), .d (iT ns), .d (tb k ns), .d (.int m), .d (gD k ns m), .d (.tup (ys.map D.int)), .d (.lst ((gl k ms m).map lotD)), .d (tb k ms), .un, .un, .un, .un]) ?_ ?_
    · intro R hR
      simp -implicitDefEqProofs [DL.endW, DL.bnd, DL.ret, DL.seqW, DL.grd, DL.nox, DL.rd, DL.env0, DL.asB, DL.truD, DL.andT, DL.orT, DL.notT, DL.optW, DL.onI2, DL.cmpI, DL.subD, DL.lenD, DL.intO, DL.tupleD, DL.listD, DL.ite_app, f1, f2]
      exact hR _ rfl
    rintro ρ rfl
    with_reducible refine seqW_I (I := fun ρ => ρ = [.d .hnd, .d (.int k), .d (iT ns), .d (tb k ns), .d (.int m), .d (gD k ns m), .d (.tup (ys.map D.int)), .d (.lst ((gl k ms m).map lotD)), .d (tb k ms), .un, .un, .un, .un]) ?_ ?_
    · intro R hR
      have f4 : s__law_is [.tup [.int m, gD k ms m], .tup [.int m, .tup ((gl k ms m).map lotD)]] = DL.ret (.bl true) := f4
      simp [DL.endW, DL.bnd, DL.ret, DL.seqW, DL.grd, DL.nox, DL.rd, DL.env0, DL.asB, DL.truD, DL.andT, DL.orT, DL.notT, DL.optW, DL.onI2, DL.cmpI, DL.subD, DL.lenD, DL.intO, DL.tupleD, DL.listD, DL.ite_app, f3, f4]
      exact hR _ rfl
    rintro ρ rfl
    have g1 : fldD G "many" (tb k ns) = DL.ret (.int k) := by
      simp only [fldD, gs.flds]
      rfl
    have g2 : fldD G "numbers" (tb k ns) = DL.ret (iT ns) := by
      simp only [fldD, gs.flds]
      rfl
    simp [DL.endW, DL.bnd, DL.ret, DL.seqW, DL.grd, DL.nox, DL.rd, DL.env0, DL.asB, DL.truD, DL.andT, DL.orT, DL.notT, DL.optW, DL.onI2, DL.cmpI, DL.subD, DL.lenD, DL.intO, DL.tupleD, DL.listD, DL.ite_app, g1, g2, f5]
    exact q
end K09
end
section
set_option Elab.async false
set_option linter.all false
set_option maxRecDepth 100000
set_option maxHeartbeats 2000000
set_option autoImplicit false
/-! DW: the end of a law; what the head tells of an own class. -/
namespace DL
open PySem PySem.Spec L2 PyProof.Rows
/-- what isinstance and == ask of the class at C, as one Bool -/
def clsIB (K : PySem.W.Frag) (C : Addr) : Bool :=
  He.eqO (PySem.W.findIn K (.ref C) "__class__") (some (some (.builtin "object.__class__"))) && (He.eqO (PySem.W.specialIn K (.builtin "object.__class__") "__get__") (some (some (.builtin "getset_descriptor.__get__"))) &&
  (decide (PySem.W.takesIn K (.builtin "object.__class__") = some true) && (decide (PySem.W.mroIn K C (.type "object") = some true) && (He.eqO (PySem.W.findIn K (.ref C) "__ne__") (some (some (.builtin "object.__ne__"))) &&
  (tyBs.all (fun b => decide (PySem.W.kitOne K (.ref C) (.type b) = some false)) && tyAs.all (fun a => decide (PySem.W.kitOne K (.type a) (.ref C) = some false)))))))
theorem clsI_of {G : Gx} {c : Nat} (h : clsIB G.K (G.cls c) = true) (cl : Cls G.K (G.cls c)) : ClsI G c := by
  obtain ⟨h1, h⟩ := He.ba h
  obtain ⟨h2, h⟩ := He.ba h
  obtain ⟨h3, h⟩ := He.ba h
  obtain ⟨h4, h⟩ := He.ba h
  obtain ⟨h5, h⟩ := He.ba h
  obtain ⟨h6, h7⟩ := He.ba h
  exact ⟨cl, He.eqO_ok h1, He.eqO_ok h2, of_decide_eq_true h3, of_decide_eq_true h4, fun b hb => of_decide_eq_true (List.all_eq_true.mp h6 b hb), He.eqO_ok h5, fun a ha => of_decide_eq_true (List.all_eq_true.mp h7 a ha)⟩
theorem den_consts {G : Gx} {x : Str} {ns : List Int} (h : He.tupB G.K x (ns.map He.Dv.int) = true) (H0 : Hp) : Den G H0 (.tup (ns.map D.int)) (.ref (He.ga G.K x)) := by
  have s := He.tupB_ok h H0
  have e : (ns.map He.Dv.int).map (He.Dv.v G.K) = ns.map V.int := by rw [List.map_map]; rfl
  rw [e] at s
  simp only [Den]
  exact ⟨_, _, rfl, s, Dens.of_ints ns⟩
/-- what is to be shown of the law's def: the tables cs, the spec sp -/
def LawAt (l : PySem.W.OpenLaw) (w : World) (K : PySem.W.Frag) (CX : CXT) (k n : Nat) (x : Str) (mg : Str → Option Value) (fa : Addr) (h : Heap) : Prop :=
  ∃ (fd : FuncData) (cs : List (Addr × Addr)) (sp : Sp), ((∀ p ∈ cs, h.get? p.2 = some { cls := .none, data := .fields #[] }) ∧ (∀ p ∈ cs, K.lookup p.2 = none) ∧ ∀ p ∈ cs, PySem.W.CodeHd h p.1 p.2) ∧ (∀ (s : Shared) (u : Value), BindsTo s fd ⟨[u], []⟩ [(x, u)]) ∧
    (∀ (H : Hp) (a : Addr) (ns : List Int), (ns.length ≤ n ∧ ∀ z ∈ ns, Builtin.Int.intBits z ≤ 1048576) → (∀ p ∈ cs, H p.2 = some (.tbl #[])) → SqL K H a (ns.map V.int) → sp [.ref a] H (fun v _ => v = .bl true) fun _ _ _ => False) ∧
    ∀ base : Heap, K.In base → base.Ns mainGlobals mg → (∀ p ∈ cs, LamX.TabB base mg p.1 p.2) → FnOk l.prog w K mg base CX k fa fd [x] sp
/-- from the head's heap to the law's walk -/
theorem walk_ofTE {l : PySem.W.OpenLaw} {n k : Nat} {q : Program} {loose : List Str} {XP : (Str → Option Value) → Heap → Prop} {YP : World → Heap → Prop} {d : DefRec} {CX : World → CXT} {x : Str}
    (hn : l.most = some n) (hn2 : n ≤ sizeLine) (hdf : d.params.defaults = []) (hr : Room k callerA)
    (F : ∀ (w : World) (mg : Str → Option Value) (fa : Addr) (h : Heap), YP w h → h.Ns mainGlobals mg → mg d.name = some (.ref fa) → ∃ K : PySem.W.Frag, K.In h ∧ LawAt l w K (CX w) k n x mg fa h)
    (hCX : ∀ (w : World) (H : Hp) (s : Shared) (e : Value) (s' : Shared), CX w [] H s (fun _ _ _ => False) e s' → False) :
    PySem.W.WalkO q loose XP YP l.row.toRowW d [] (fun f vs => PySem.call f vs) := by
  refine Att.attach_callB hn hdf fun w s₀ s₁ mg mb fa o pm cd doc a vs ns G Y ho hd hcd hmg hobj hints hlen hbits hg => ?_
  obtain ⟨K, KX, fd, cs, sp, ⟨hT, nT, C⟩, hb, hsp, hF⟩ := F w mg fa _ Y G.T.g hmg
  exact law_callG ⟨KX, G.T.g, G.T.b, G.T.builtins, G.T.nolimit, hg, hT, nT, C, G.T.bmain, hobj, hints, Nat.le_trans hlen hn2⟩ hr hF hb (fun H hH hS => hsp H a ns ⟨hlen, hbits⟩ hH hS) fun H e s' => hCX w H s₁ e s'
/-- the law's promise from the def's -/
theorem law_at {l : PySem.W.OpenLaw} {w : World} {K : PySem.W.Frag} {mg : Str → Option Value} {h : Heap} {G : Gx} {tf : List He.Defn} {fa : List He.Fa} {fn : List He.DefD} {ts : List He.Tab} {ex : PySem.W.Frag → Bool} {k n : Nat} {nm : Nat → Nat → Str} {x q : Str} {a : Arguments} {b : List Stmt} {sc : Scope} {fad : Addr} {fd : FuncData} {s : List D → W D}
    (KX : K.In h) (c : He.SaysX fa fn ts tf ex w h K) (hK : G.K = K) (hT : G.T = tf.map fun p => ((He.cT K p).2, nm)) (F : FunD K "law" q a b sc [] [] fad fd) (hb : BindsBy "law" q a b sc [x]) (hg : mg "law" = some (.ref fad))
    (run : ∀ base : Heap, K.In base → base.Ns mainGlobals mg → (∀ p ∈ tf, LamX.TabB base mg (He.cT K p).1 (He.cT K p).2) → FnOk l.prog w G.K mg base (L2.CX l.prog w) k fad fd [x] (liftSp G 1 s)) (hs : ∀ ns : List Int, ns.length ≤ n → s [.scr ns] (fun d => d = .bl true) (fun _ => False)) :
    LawAt l w K (L2.CX l.prog w) k n x mg fad h := by
  have all : ∀ base : Heap, K.In base → base.Ns mainGlobals mg → (∀ p ∈ tf.map (He.cT K), LamX.TabB base mg p.1 p.2) → FnOk l.prog w K mg base (L2.CX l.prog w) k fad fd [x] (liftSp G 1 s) := fun base h1 h2 h3 => by
    have z := run base h1 h2 fun p hp => h3 _ (List.mem_map.mpr ⟨p, hp, rfl⟩)
    rw [hK] at z
    exact z
  refine ⟨fd, tf.map (He.cT K), liftSp G 1 s, ⟨fun p hp => ?_, fun p hp => ?_, fun p hp => ?_⟩, fun s u => ?_, fun H a ns ⟨hl, hbits⟩ hH hS => ?_, all⟩
  · obtain ⟨q, hq, rfl⟩ := List.mem_map.mp hp; exact c.empty q hq
  · obtain ⟨q, hq, rfl⟩ := List.mem_map.mp hp; exact c.out q hq
  · obtain ⟨q, hq, rfl⟩ := List.mem_map.mp hp; exact PySem.W.codeHd_of_K KX (c.hd q hq)
  · exact F.bindsA hb s [u] rfl
  · obtain ⟨H0, d0, n0, z0⟩ : ∃ H0 : Hp, Den G H0 (.scr ns) (.ref a) ∧ NoT H0 ∧ Same H0 H := by
      rcases hS with hS | hS
      · refine ⟨fun b => if b = a then H b else none, ?_, fun b ps e => ?_, fun b o e => ?_⟩
        · simp only [Den]
          refine ⟨a, rfl, .inl ?_⟩
          rcases hS with e | ⟨o, e⟩
          · exact .inl ((if_pos rfl).trans e)
          · exact .inr ⟨o, (if_pos rfl).trans e⟩
        · by_cases z : b = a
          · have e : (if b = a then H b else none) = some (HO.tbl ps) := e
            rw [if_pos z, z] at e
            rcases hS with e2 | ⟨o, e2⟩ <;> rw [e2] at e <;> cases e
          · have e : (if b = a then H b else none) = some (HO.tbl ps) := e
            rw [if_neg z] at e
            cases e
        · by_cases z : b = a
          · have e : (if b = a then H b else none) = some o := e
            rw [if_pos z] at e; exact e
          · have e : (if b = a then H b else none) = some o := e
            rw [if_neg z] at e; cases e
      · refine ⟨fun _ => none, ?_, (by intro b ps e; cases e), (by intro b o e; cases e)⟩
        simp only [Den]
        rw [hK]
        exact ⟨a, rfl, .inr hS⟩
    refine ⟨H0, [.scr ns], _, (fun _ => False), rfl, ⟨z0, fun p hp => ?_, n0⟩, .cons d0 .nil, hs ns hl, fun d v H1 H2 x2 d2 q2 => ?_, fun _ _ _ _ _ _ _ z => z.elim⟩
    · rw [hT] at hp
      obtain ⟨q, hq, rfl⟩ := List.mem_map.mp hp
      exact NdefX.TabN.nil (hH _ (List.mem_map.mpr ⟨q, hq, rfl⟩))
    · subst q2
      exact den_bl d2
end DL
end
section
set_option Elab.async false
set_option linter.all false
set_option maxRecDepth 100000
set_option maxHeartbeats 4000000
set_option autoImplicit false
namespace K09
open PySem PySem.Spec L2 DL PyProof.Rows
def top (i : Nat) : Stmt := PySem.Challenge.pw_bringsless_k09_whole_least_lots_and_thei.main.body.getD i (.Pass ⟨0, 0, 0, 0⟩)
def mth (i j : Nat) : Stmt := (clsBody (top i)).getD j (.Pass ⟨0, 0, 0, 0⟩)

abbrev xl0 : Expr := (xArg 0 (xLeft (xTest (xAt 4 (defBody (top 34))))))
abbrev lam0 : LF := ⟨"law.<locals>.<lambda>", lamA xl0, lamB xl0, lamS xl0, [], ["odd"]⟩
def lams : Nat → LF
  | 0 => lam0
  | _ => ⟨"", lamA xdef, xdef, lamS xdef, [], []⟩
def nmAll (l c : Nat) : Str := nmOf [((184, 17), "law.<locals>.<lambda>")] l c
def tfs : List He.Defn := [("law", none)]
def clsN : Nat → Str
  | 0 => "Table"
  | 1 => "NoTable"
  | 2 => "ValueError"
  | _ => ""
def excN : Nat → Str
  | 0 => "NoTable"
  | _ => ""
abbrev G (K : PySem.W.Frag) : Gx := ⟨K, fun c => He.ga K (clsN c), flds, fun c => He.ga K (excN c), xfs, lams, cloW, tfs.map fun p => ((He.cT K p).2, nmAll)⟩
theorem T_nm {K : PySem.W.Frag} {P : Addr} : ∀ p ∈ (G K).T, p.1 = P → p.2 = nmAll := fun p hp _ => by
  obtain ⟨q, _, e⟩ := List.mem_map.mp hp
  rw [← e]
theorem T_mem_law {K : PySem.W.Frag} : ((He.cT K ("law", none)).2, nmAll) ∈ (G K).T := List.mem_map.mpr ⟨("law", none), by decide, rfl⟩
theorem gs {K : PySem.W.Frag} : GS (G K) := ⟨rfl, rfl, fun j hj => match j, hj with | 0, _ => rfl | _ + 1, h => absurd h (by omega), rfl⟩
structure Md (K : PySem.W.Frag) (mg : Str → Option Value) (base : Heap) : Prop where
  gok : GOk (G K)
  b_ValueError : mg "ValueError" = none
  b_abs : mg "abs" = none
  b_all : mg "all" = none
  b_bool : mg "bool" = none
  b_enumerate : mg "enumerate" = none
  b_int : mg "int" = none
  b_isinstance : mg "isinstance" = none
  b_len : mg "len" = none
  b_list : mg "list" = none
  b_min : mg "min" = none
  b_range : mg "range" = none
  b_set : mg "set" = none
  b_sorted : mg "sorted" = none
  b_str : mg "str" = none
  b_sum : mg "sum" = none
  b_tuple : mg "tuple" = none
  b_zip : mg "zip" = none
  g_NoTable : mg "NoTable" = some (.ref (He.ga K "NoTable"))
  g_POWERS : mg "POWERS" = some (.ref (He.ga K "POWERS"))
  g_Table : mg "Table" = some (.ref (He.ga K "Table"))
  g_TableError : mg "TableError" = some (.ref (He.ga K "TableError"))
  g__law_any : mg "_law_any" = some (.ref (He.ga K "_law_any"))
  g__law_bit : mg "_law_bit" = some (.ref (He.ga K "_law_bit"))
  g__law_called : mg "_law_called" = some (.ref (He.ga K "_law_called"))
  g__law_case_right : mg "_law_case_right" = some (.ref (He.ga K "_law_case_right"))
  g__law_draw : mg "_law_draw" = some (.ref (He.ga K "_law_draw"))
  g__law_hand : mg "_law_hand" = some (.ref (He.ga K "_law_hand"))
  g__law_hollow_values : mg "_law_hollow_values" = some (.ref (He.ga K "_law_hollow_values"))
  g__law_is : mg "_law_is" = some (.ref (He.ga K "_law_is"))
  g__law_is_hollow : mg "_law_is_hollow" = some (.ref (He.ga K "_law_is_hollow"))
  g__law_lattice_right : mg "_law_lattice_right" = some (.ref (He.ga K "_law_lattice_right"))
  g__law_lots : mg "_law_lots" = some (.ref (He.ga K "_law_lots"))
  g__law_mixed : mg "_law_mixed" = some (.ref (He.ga K "_law_mixed"))
  g__law_place : mg "_law_place" = some (.ref (He.ga K "_law_place"))
  g__law_values : mg "_law_values" = some (.ref (He.ga K "_law_values"))
  g__law_word : mg "_law_word" = some (.ref (He.ga K "_law_word"))
  g_check_table : mg "check_table" = some (.ref (He.ga K "check_table"))
  g_is_between : mg "is_between" = some (.ref (He.ga K "is_between"))
  g_is_integer : mg "is_integer" = some (.ref (He.ga K "is_integer"))
  g_law : mg "law" = some (.ref (He.ga K "law"))
  g_least_lots : mg "least_lots" = some (.ref (He.ga K "least_lots"))
  g_least_masks : mg "least_masks" = some (.ref (He.ga K "least_masks"))
  g_lot_of : mg "lot_of" = some (.ref (He.ga K "lot_of"))
  g_mask_of : mg "mask_of" = some (.ref (He.ga K "mask_of"))
  c_MOST_THINGS : ∃ t, mg "MOST_THINGS" = some (.int 7 t)
  d_POWERS : ∀ H0, Den (G K) H0 c_POWERS (.ref (He.ga K "POWERS"))
  F_is_integer : ∃ fd, FunD K "is_integer" "is_integer" (defArgs (top 8)) (defBody (top 8)) (defScope (top 8)) [] [] (He.fAd K ("is_integer", none)) fd
  F_is_between : ∃ fd, FunD K "is_between" "is_between" (defArgs (top 9)) (defBody (top 9)) (defScope (top 9)) [] [] (He.fAd K ("is_between", none)) fd
  F_mask_of : ∃ fd, FunD K "mask_of" "mask_of" (defArgs (top 11)) (defBody (top 11)) (defScope (top 11)) [] [] (He.fAd K ("mask_of", none)) fd
  F_lot_of : ∃ fd, FunD K "lot_of" "lot_of" (defArgs (top 12)) (defBody (top 12)) (defScope (top 12)) [] [] (He.fAd K ("lot_of", none)) fd
  F_Table_init : ∃ fd, FunD K "__init__" "Table.__init__" (defArgs (mth 13 0)) (defBody (mth 13 0)) (defScope (mth 13 0)) [] [] (He.fAd K ("Table", some "__init__")) fd
  F_Table_eq : ∃ fd, FunD K "__eq__" "Table.__eq__" (defArgs (mth 13 1)) (defBody (mth 13 1)) (defScope (mth 13 1)) [] [] (He.fAd K ("Table", some "__eq__")) fd
  m_Table_eq : Meth K (He.ga K "Table") "__eq__" (He.fAd K ("Table", some "__eq__"))
  F_check_table : ∃ fd, FunD K "check_table" "check_table" (defArgs (top 14)) (defBody (top 14)) (defScope (top 14)) [] [] (He.fAd K ("check_table", none)) fd
  F_least_masks : ∃ fd, FunD K "least_masks" "least_masks" (defArgs (top 16)) (defBody (top 16)) (defScope (top 16)) [] [] (He.fAd K ("least_masks", none)) fd
  F_least_lots : ∃ fd, FunD K "least_lots" "least_lots" (defArgs (top 17)) (defBody (top 17)) (defScope (top 17)) [] [] (He.fAd K ("least_lots", none)) fd
  F__law_hand : ∃ fd, FunD K "_law_hand" "_law_hand" (defArgs (top 19)) (defBody (top 19)) (defScope (top 19)) [] [] (He.fAd K ("_law_hand", none)) fd
  F__law_draw : ∃ fd, FunD K "_law_draw" "_law_draw" (defArgs (top 20)) (defBody (top 20)) (defScope (top 20)) [] [] (He.fAd K ("_law_draw", none)) fd
  F__law_any : ∃ fd, FunD K "_law_any" "_law_any" (defArgs (top 21)) (defBody (top 21)) (defScope (top 21)) [] [] (He.fAd K ("_law_any", none)) fd
  F__law_is : ∃ fd, FunD K "_law_is" "_law_is" (defArgs (top 22)) (defBody (top 22)) (defScope (top 22)) [] [] (He.fAd K ("_law_is", none)) fd
  F__law_mixed : ∃ fd, FunD K "_law_mixed" "_law_mixed" (defArgs (top 23)) (defBody (top 23)) (defScope (top 23)) [] [] (He.fAd K ("_law_mixed", none)) fd
  F__law_lots : ∃ fd, FunD K "_law_lots" "_law_lots" (defArgs (top 24)) (defBody (top 24)) (defScope (top 24)) [] [] (He.fAd K ("_law_lots", none)) fd
  F__law_bit : ∃ fd, FunD K "_law_bit" "_law_bit" (defArgs (top 25)) (defBody (top 25)) (defScope (top 25)) [] [] (He.fAd K ("_law_bit", none)) fd
  F__law_place : ∃ fd, FunD K "_law_place" "_law_place" (defArgs (top 26)) (defBody (top 26)) (defScope (top 26)) [] [] (He.fAd K ("_law_place", none)) fd
  F__law_hollow_values : ∃ fd, FunD K "_law_hollow_values" "_law_hollow_values" (defArgs (top 27)) (defBody (top 27)) (defScope (top 27)) [] [] (He.fAd K ("_law_hollow_values", none)) fd
  F__law_values : ∃ fd, FunD K "_law_values" "_law_values" (defArgs (top 28)) (defBody (top 28)) (defScope (top 28)) [] [] (He.fAd K ("_law_values", none)) fd
  F__law_is_hollow : ∃ fd, FunD K "_law_is_hollow" "_law_is_hollow" (defArgs (top 29)) (defBody (top 29)) (defScope (top 29)) [] [] (He.fAd K ("_law_is_hollow", none)) fd
  F__law_word : ∃ fd, FunD K "_law_word" "_law_word" (defArgs (top 30)) (defBody (top 30)) (defScope (top 30)) [] [] (He.fAd K ("_law_word", none)) fd
  F__law_lattice_right : ∃ fd, FunD K "_law_lattice_right" "_law_lattice_right" (defArgs (top 31)) (defBody (top 31)) (defScope (top 31)) [] [] (He.fAd K ("_law_lattice_right", none)) fd
  F__law_called : ∃ fd, FunD K "_law_called" "_law_called" (defArgs (top 32)) (defBody (top 32)) (defScope (top 32)) [] [] (He.fAd K ("_law_called", none)) fd
  F__law_case_right : ∃ fd, FunD K "_law_case_right" "_law_case_right" (defArgs (top 33)) (defBody (top 33)) (defScope (top 33)) [] [] (He.fAd K ("_law_case_right", none)) fd
  F_law : ∃ fd, FunD K "law" "law" (defArgs (top 34)) (defBody (top 34)) (defScope (top 34)) [] [] (He.fAd K ("law", none)) fd
  mk_Table : Mk K (He.ga K "Table") (He.fAd K ("Table", some "__init__"))
  xo : ∀ c, c < 1 → ExcOk K (He.ga K (excN c))
  xc : ∀ c, c < 1 → PySem.W.exmOne K (.ref (He.ga K (excN c))) (.ref (He.ga K "TableError")) = some true
  xk_NoTable : ∀ c, c < 1 → PySem.W.kitOne K (.ref (He.ga K (excN c))) (.ref (He.ga K "NoTable")) = some (xisT c 0)
  xk_ValueError : ∀ c, c < 1 → PySem.W.kitOne K (.ref (He.ga K (excN c))) (.type "ValueError") = some (xisT c 1)
  t_law : LamX.TabB base mg (He.cT K ("law", none)).1 (He.cT K ("law", none)).2
section
variable {P : Program} {w : World} {K : PySem.W.Frag} {mg : Str → Option Value} {base : Heap}
theorem nd_is_integer : (["thing"] : List Str).Nodup := by decide
theorem sc_is_integer : FnScope ["thing"] ["thing"] (defScope (top 8)) := ⟨rfl, rfl, rfl, by decide +kernel, rfl, by decide +kernel, by decide +kernel⟩
theorem v_is_integer (M : Md K mg base) : FnH P w (G K) mg base "is_integer" 1 2 s_is_integer := by
  obtain ⟨fd, F⟩ := M.F_is_integer
  refine fnH_of (N := ["thing"]) (ps := ["thing"]) (k := 1) F sc_is_integer M.g_is_integer (fun _ _ _ _ _ _ us hl => match us, hl with | [_], _ => rfl) (by decide) fun cdv A outer s0 H E H0 ED hcd hr hp bok => ?_
  exact ⟨_, (dss_one (ds_ret (de_and (de_isi (c := .ty "int") rfl M.gok rfl M.b_isinstance (de_var 0) (.ty rfl M.b_int boot_int (by decide) (by decide))) (de_one (de_not (de_isi (c := .ty "bool") rfl M.gok rfl M.b_isinstance (de_var 0) (.ty rfl M.b_bool boot_bool (by decide) (by decide)))))))), fun ds Q hl h => m_is_integer (gs (K := K)) ds Q ED h⟩
theorem nd_is_between : (["thing", "low", "high"] : List Str).Nodup := by decide
theorem sc_is_between : FnScope ["thing", "low", "high"] ["thing", "low", "high"] (defScope (top 9)) := ⟨rfl, rfl, rfl, by decide +kernel, rfl, by decide +kernel, by decide +kernel⟩
theorem v_is_between (M : Md K mg base) (h_is_integer : FnH P w (G K) mg base "is_integer" 1 2 s_is_integer) : FnH P w (G K) mg base "is_between" 3 3 s_is_between := by
  obtain ⟨fd, F⟩ := M.F_is_between
  refine fnH_of (N := ["thing", "low", "high"]) (ps := ["thing", "low", "high"]) (k := 2) F sc_is_between M.g_is_between (fun _ _ _ _ _ _ us hl => match us, hl with | [_, _, _], _ => rfl) (by decide) fun cdv A outer s0 H E H0 ED hcd hr hp bok => ?_
  exact ⟨_, (dss_one (ds_ret (de_and (de_call (h_is_integer.mono (by decide : 2 ≤ 2)) rfl hr hp bok rfl (da_cons (de_var 0) da_nil)) (de_one (de_chain op_le op_le d_le d_le (de_var 1) (de_var 0) (de_var 2)))))), fun ds Q hl h => m_is_between (gs (K := K)) ds Q ED h⟩
theorem nd_mask_of : (["lot", "one"] : List Str).Nodup := by decide
theorem sc_mask_of : FnScope ["lot", "one"] ["lot"] (defScope (top 11)) := ⟨rfl, rfl, rfl, by decide +kernel, rfl, by decide +kernel, by decide +kernel⟩
theorem v_mask_of (M : Md K mg base) : FnH P w (G K) mg base "mask_of" 1 2 s_mask_of := by
  obtain ⟨fd, F⟩ := M.F_mask_of
  refine fnH_of (N := ["lot", "one"]) (ps := ["lot"]) (k := 1) F sc_mask_of M.g_mask_of (fun _ _ _ _ _ _ us hl => match us, hl with | [_], _ => rfl) (by decide) fun cdv A outer s0 H E H0 ED hcd hr hp bok => ?_
  exact ⟨_, (dss_one (ds_ret (de_callB (cr_sum rfl) d_sum rfl M.b_sum boot_sum (da_cons (de_new (dn_lc rfl nd_mask_of (di_seq rfl (de_var 0)) (blkOk_by (own := [("one", 1)]) (by kernel_rfl)) (fun _ _ _ _ _ => (dg_name 1 nd_mask_of)) (fun _ _ _ _ _ => dts_nil) (fun _ _ _ _ _ => (de_ix rfl (de_glob (d := c_POWERS) M.d_POWERS rfl M.g_POWERS rfl) (de_var 1))))) da_nil)))), fun ds Q hl h => m_mask_of (gs (K := K)) ds Q ED h⟩
theorem nd_lot_of : (["mask", "at"] : List Str).Nodup := by decide
theorem sc_lot_of : FnScope ["mask", "at"] ["mask"] (defScope (top 12)) := ⟨rfl, rfl, rfl, by decide +kernel, rfl, by decide +kernel, by decide +kernel⟩
theorem v_lot_of (M : Md K mg base) (EQ : EqsH P w (G K) mg base 2 eqS) : FnH P w (G K) mg base "lot_of" 1 4 s_lot_of := by
  obtain ⟨fd, F⟩ := M.F_lot_of
  refine fnH_of (N := ["mask", "at"]) (ps := ["mask"]) (k := 3) F sc_lot_of M.g_lot_of (fun _ _ _ _ _ _ us hl => match us, hl with | [_], _ => rfl) (by decide) fun cdv A outer s0 H E H0 ED hcd hr hp bok => ?_
  exact ⟨_, (dss_one (ds_ret (de_callTy call_tuple_of (d_tuple rfl) rfl M.b_tuple boot_tuple (da_cons (de_new (dn_lc rfl nd_lot_of (di_range1 rfl M.b_range (da_cons (de_glob (d := .int 7) (fun _ => of_int) rfl (Classical.choose_spec M.c_MOST_THINGS) ⟨_, rfl⟩) da_nil)) (blkOk_by (own := [("at", 1)]) (by kernel_rfl)) (fun _ _ _ _ _ => (dg_name 1 nd_lot_of)) (fun _ _ _ _ _ => (dts_one (dt_eq rfl hr (EQ.mono (by decide : 2 ≤ 2)) (nomark _) (de_mod (de_div (de_var 0) (de_ix rfl (de_glob (d := c_POWERS) M.d_POWERS rfl M.g_POWERS rfl) (de_var 1))) de_int) de_int))) (fun _ _ _ _ _ => (de_var 1)))) da_nil)))), fun ds Q hl h => m_lot_of (gs (K := K)) ds Q ED h⟩
theorem nd_Table_init : (["self", "many", "values", "at", "value"] : List Str).Nodup := by decide
theorem sc_Table_init : FnScope ["self", "many", "values", "at", "value"] ["self", "many", "values"] (defScope (mth 13 0)) := ⟨rfl, rfl, rfl, by decide +kernel, rfl, by decide +kernel, by decide +kernel⟩
theorem v_Table_init (M : Md K mg base) (EQ : EqsH P w (G K) mg base 2 eqS) (h_is_between : FnH P w (G K) mg base "is_between" 3 3 s_is_between) (h_is_integer : FnH P w (G K) mg base "is_integer" 1 2 s_is_integer) : MkH P w (G K) mg base "Table" 0 2 4 mk_Table := by
  obtain ⟨fd, F⟩ := M.F_Table_init
  refine mkH_of (N := ["many", "values", "at", "value"]) (ps := ["many", "values"]) (k := 3) (c := 0) F sc_Table_init M.g_Table M.mk_Table (fun _ _ _ _ _ _ us hl => match us, hl with | [_, _, _], _ => rfl) (by decide) fun cdv A outer s0 H E Hm H0 ED hr hp bok => ?_
  exact ⟨_, (dss_cons (ds_if (dt_not (dt_truth rfl (de_call (h_is_between.mono (by decide : 3 ≤ 3)) rfl hr hp bok rfl (da_cons (de_var 1) (da_cons de_int (da_cons (de_glob (d := .int 7) (fun _ => of_int) rfl (Classical.choose_spec M.c_MOST_THINGS) ⟨_, rfl⟩) da_nil)))))) (dss_one ds_stuck) dss_nil) (dss_cons (ds_if (PW.pt (dt_or (dt_not (dt_truth rfl (de_isi (c := .ty "tuple") rfl M.gok rfl M.b_isinstance (de_var 2) (.ty rfl M.b_tuple boot_tuple (by decide) (by decide))))) (dt_or1 (dt_ne rfl hr (EQ.mono (by decide : 2 ≤ 2)) (nomark _) (de_len rfl rfl M.b_len (da_cons (de_var 2) da_nil)) (de_ix rfl (de_glob (d := c_POWERS) M.d_POWERS rfl M.g_POWERS rfl) (de_var 1)))))) (dss_one ds_stuck) dss_nil) (dss_cons (ds_for (passes_of rfl) rfl (di_enum rfl rfl M.b_enumerate (da_cons (de_var 2) da_nil)) (dg_tup rfl rfl (dgs_cons (dg_name 3 nd_Table_init) (dgs_cons (dg_name 4 nd_Table_init) dgs_nil))) (dss_one (ds_if (PW.pt (dt_or (dt_not (dt_truth rfl (de_call (h_is_integer.mono (by decide : 2 ≤ 3)) rfl hr hp bok rfl (da_cons (de_var 4) da_nil)))) (dt_or1 (PW.pt (dt_and (dt_eq rfl hr (EQ.mono (by decide : 2 ≤ 2)) (nomark _) (de_var 3) de_int) (dt_and1 (dt_ne rfl hr (EQ.mono (by decide : 2 ≤ 2)) (nomark _) (de_var 4) de_int))))))) (dss_one ds_stuck) dss_nil))) (dss_cons (ds_fld 0 rfl M.gok (de_var 1)) (dss_one (ds_fld 0 rfl M.gok (de_var 2))))))), fun a ds Q hl h => m_Table_init (gs (K := K)) a ds Q ED h⟩
theorem nd_Table_eq : (["self", "other"] : List Str).Nodup := by decide
theorem sc_Table_eq : FnScope ["self", "other"] ["self", "other"] (defScope (mth 13 1)) := ⟨rfl, rfl, rfl, by decide +kernel, rfl, by decide +kernel, by decide +kernel⟩
theorem v_Table_eq (M : Md K mg base) : MtH P w (G K) mg base 0 "__eq__" 2 2 (fun ds => s_Table_eq ds) := by
  obtain ⟨fd, F⟩ := M.F_Table_eq
  refine ⟨_, fd, ["self", "other"], rfl, M.m_Table_eq.at_, M.m_Table_eq.fn, M.m_Table_eq.kp, F.bindsN (fun _ _ _ _ _ _ us hl => match us, hl with | [_, _], _ => rfl), ?_⟩
  refine fnOk_of (N := ["self", "other"]) (ps := ["self", "other"]) (k := 1) F sc_Table_eq (by decide) fun cdv A outer s0 H E H0 ED hcd hr hp bok => ?_
  exact ⟨_, (dss_cons (ds_if (dt_not (dt_truth rfl (de_isi (c := .own 0) rfl M.gok rfl M.b_isinstance (de_var 1) (.own rfl M.g_Table (by decide))))) (dss_one (ds_ret de_bl)) dss_nil) (dss_one (ds_ret (de_and (de_eq rfl hr EQ0 (nomark _) (de_fld rfl M.gok (de_var 0)) (de_fld rfl M.gok (de_var 1))) (de_one (de_eq rfl hr EQ0 (nomark _) (de_fld rfl M.gok (de_var 0)) (de_fld rfl M.gok (de_var 1)))))))), fun ds Q hl h => m_Table_eq (gs (K := K)) ds Q ED h⟩
theorem nd_check_table : (["thing"] : List Str).Nodup := by decide
theorem sc_check_table : FnScope ["thing"] ["thing"] (defScope (top 14)) := ⟨rfl, rfl, rfl, by decide +kernel, rfl, by decide +kernel, by decide +kernel⟩
theorem v_check_table (M : Md K mg base) : FnH P w (G K) mg base "check_table" 1 2 s_check_table := by
  obtain ⟨fd, F⟩ := M.F_check_table
  refine fnH_of (N := ["thing"]) (ps := ["thing"]) (k := 1) F sc_check_table M.g_check_table (fun _ _ _ _ _ _ us hl => match us, hl with | [_], _ => rfl) (by decide) fun cdv A outer s0 H E H0 ED hcd hr hp bok => ?_
  exact ⟨_, (dss_one (ds_if (dt_not (dt_truth rfl (de_isi (c := .own 0) rfl M.gok rfl M.b_isinstance (de_var 0) (.own rfl M.g_Table (by decide))))) (dss_one (ds_raiseX 0 rfl (takes_of rfl rfl rfl rfl) bok rfl (M.xo 0 (by decide)) M.g_NoTable rfl rfl)) dss_nil)), fun ds Q hl h => m_check_table (gs (K := K)) ds Q ED h⟩
theorem nd_least_masks : (["values", "least", "mask", "value"] : List Str).Nodup := by decide
theorem sc_least_masks : FnScope ["values", "least", "mask", "value"] ["values"] (defScope (top 16)) := ⟨rfl, rfl, rfl, by decide +kernel, rfl, by decide +kernel, by decide +kernel⟩
theorem v_least_masks (M : Md K mg base) (EQ : EqsH P w (G K) mg base 2 eqS) : FnH P w (G K) mg base "least_masks" 1 4 s_least_masks := by
  obtain ⟨fd, F⟩ := M.F_least_masks
  refine fnH_of (N := ["values", "least", "mask", "value"]) (ps := ["values"]) (k := 3) F sc_least_masks M.g_least_masks (fun _ _ _ _ _ _ us hl => match us, hl with | [_], _ => rfl) (by decide) fun cdv A outer s0 H E H0 ED hcd hr hp bok => ?_
  exact ⟨_, (dss_cons (ds_set 1 nd_least_masks (de_callB (cr_minU rfl hr.u65) (d_minU rfl) rfl M.b_min boot_min (da_cons (de_var 0) da_nil))) (dss_one (ds_ret (de_new (dn_lc rfl nd_least_masks (di_enum rfl rfl M.b_enumerate (da_cons (de_var 0) da_nil)) (blkOk_by (own := [("mask", 2), ("value", 3)]) (by kernel_rfl)) (fun _ _ _ _ _ => (dg_tup rfl rfl (dgs_cons (dg_name 2 nd_least_masks) (dgs_cons (dg_name 3 nd_least_masks) dgs_nil)))) (fun _ _ _ _ _ => (dts_one (dt_eq rfl hr (EQ.mono (by decide : 2 ≤ 2)) (nomark _) (de_var 3) (de_var 1)))) (fun _ _ _ _ _ => (de_var 2))))))), fun ds Q hl h => m_least_masks (gs (K := K)) ds Q ED h⟩
theorem nd_least_lots : (["table", "mask"] : List Str).Nodup := by decide
theorem sc_least_lots : FnScope ["table", "mask"] ["table"] (defScope (top 17)) := ⟨rfl, rfl, rfl, by decide +kernel, rfl, by decide +kernel, by decide +kernel⟩
theorem v_least_lots (M : Md K mg base) (h_check_table : FnH P w (G K) mg base "check_table" 1 2 s_check_table) (h_least_masks : FnH P w (G K) mg base "least_masks" 1 4 s_least_masks) (h_lot_of : FnH P w (G K) mg base "lot_of" 1 4 s_lot_of) : FnH P w (G K) mg base "least_lots" 1 5 s_least_lots := by
  obtain ⟨fd, F⟩ := M.F_least_lots
  refine fnH_of (N := ["table", "mask"]) (ps := ["table"]) (k := 4) F sc_least_lots M.g_least_lots (fun _ _ _ _ _ _ us hl => match us, hl with | [_], _ => rfl) (by decide) fun cdv A outer s0 H E H0 ED hcd hr hp bok => ?_
  exact ⟨_, (dss_cons (ds_expr (de_call (h_check_table.mono (by decide : 2 ≤ 4)) rfl hr hp bok rfl (da_cons (de_var 0) da_nil))) (dss_one (ds_ret (de_tup (da_cons (de_callB (cr_minU rfl hr.u65) (d_minU rfl) rfl M.b_min boot_min (da_cons (de_fld rfl M.gok (de_var 0)) da_nil)) (da_cons (de_callTy call_tuple_of (d_tuple rfl) rfl M.b_tuple boot_tuple (da_cons (de_new (dn_lc rfl nd_least_lots (di_seq rfl (de_call (h_least_masks.mono (by decide : 4 ≤ 4)) rfl hr hp bok rfl (da_cons (de_fld rfl M.gok (de_var 0)) da_nil))) (blkOk_by (own := [("mask", 1)]) (by kernel_rfl)) (fun _ _ _ _ _ => (dg_name 1 nd_least_lots)) (fun _ _ _ _ _ => dts_nil) (fun _ _ _ _ _ => (de_call (h_lot_of.mono (by decide : 4 ≤ 4)) rfl hr passL (Bx.no_ok _) rfl (da_cons (de_var 1) da_nil))))) da_nil)) da_nil)))))), fun ds Q hl h => m_least_lots (gs (K := K)) ds Q ED h⟩
theorem nd__law_hand : (["script", "cells", "cell"] : List Str).Nodup := by decide
theorem sc__law_hand : FnScope ["script", "cells", "cell"] ["script"] (defScope (top 19)) := ⟨rfl, rfl, rfl, by decide +kernel, rfl, by decide +kernel, by decide +kernel⟩
theorem v__law_hand (M : Md K mg base) : FnH P w (G K) mg base "_law_hand" 1 2 s__law_hand := by
  obtain ⟨fd, F⟩ := M.F__law_hand
  refine fnH_of (N := ["script", "cells", "cell"]) (ps := ["script"]) (k := 1) F sc__law_hand M.g__law_hand (fun _ _ _ _ _ _ us hl => match us, hl with | [_], _ => rfl) (by decide) fun cdv A outer s0 H E H0 ED hcd hr hp bok => ?_
  exact ⟨_, (dss_cons (ds_setLc 1 rfl nd__law_hand (di_seq rfl (de_slice rfl (de_var 0) do_none (do_some de_int))) (blkOk_by (own := [("cell", 2)]) (by kernel_rfl)) (fun _ _ _ _ _ => (dg_name 2 nd__law_hand)) (fun _ _ _ _ _ => dts_nil) (fun _ _ _ _ _ => (de_callB call_abs d_abs rfl M.b_abs boot_abs (da_cons (de_callTy call_int1 d_int rfl M.b_int boot_int (da_cons (de_var 2) da_nil)) da_nil)))) (dss_one (ds_ret (de_hand (da_cons (de_var 1) (da_cons de_int (da_cons de_int (da_cons (de_add rfl de_int (de_mul rfl de_int (de_len rfl rfl M.b_len (da_cons (de_var 1) da_nil)))) (da_cons de_int da_nil))))))))), fun ds Q hl h => m__law_hand (gs (K := K)) ds Q ED h⟩
theorem nd__law_draw : (["hand", "many", "cell", "digit", "number"] : List Str).Nodup := by decide
theorem sc__law_draw : FnScope ["hand", "many", "cell", "digit", "number"] ["hand", "many"] (defScope (top 20)) := ⟨rfl, rfl, rfl, by decide +kernel, rfl, by decide +kernel, by decide +kernel⟩
theorem v__law_draw (M : Md K mg base) (EQ : EqsH P w (G K) mg base 2 eqS) : FnH P w (G K) mg base "_law_draw" 2 4 s__law_draw := by
  obtain ⟨fd, F⟩ := M.F__law_draw
  refine draw_of (N := ["hand", "many", "cell", "digit", "number"]) (k := 3) F sc__law_draw M.g__law_draw (fun _ _ _ _ _ _ us hl => match us, hl with | [_, _], _ => rfl) (by decide) fun cdv A outer s0 H He Z hr => ⟨_, (dss_cons (ds_if (PW.pt (dt_and (dt_eq rfl hr (EQ.mono (by decide : 2 ≤ 2)) (nomark _) (de_hix 0 (k := 2) rfl) de_int) (dt_and1 (dt_cmp op_lt d_lt (nomark _) (de_hix 0 (k := 1) rfl) (de_len rfl rfl M.b_len (da_cons (de_hix 0 (k := 0) rfl) da_nil)))))) (dss_cons (ds_set 2 nd__law_draw (de_ix rfl (de_hix 0 (k := 0) rfl) (de_hix 0 (k := 1) rfl))) (dss_cons (ds_hset 0 (k := 0) (de_add rfl (de_hix 0 (k := 1) rfl) de_int)) (dss_cons (ds_hset 0 (k := 2) (de_mod (de_callTy call_int1 d_int rfl M.b_int boot_int (da_cons (de_add rfl (de_add rfl (de_mul rfl (de_hix 0 (k := 3) rfl) de_int) (de_mul rfl (de_var 2) de_int)) de_int) da_nil)) de_int)) (dss_one (ds_if (dt_cmp op_ge d_ge (nomark _) (de_var 2) (de_pow de_int de_int)) (dss_one (ds_hset 0 (k := 1) (de_var 2))) dss_nil))))) dss_nil) (dss_cons (ds_if (dt_cmp op_gt d_gt (nomark _) (de_hix 0 (k := 2) rfl) de_int) (dss_cons (ds_set 3 nd__law_draw (de_mod (de_callTy call_int1 d_int rfl M.b_int boot_int (da_cons (de_hix 0 (k := 2) rfl) da_nil)) (de_var 1))) (dss_cons (ds_hset 0 (k := 1) (de_div (de_hix 0 (k := 2) rfl) (de_var 1))) (dss_one (ds_ret (de_var 3))))) dss_nil) (dss_cons (ds_hset 0 (k := 3) (de_add rfl (de_hix 0 (k := 4) rfl) de_int)) (dss_cons (ds_set 4 nd__law_draw (de_mod (de_callTy call_int1 d_int rfl M.b_int boot_int (da_cons (de_mul rfl (de_callTy call_int1 d_int rfl M.b_int boot_int (da_cons (de_add rfl (de_hix 0 (k := 3) rfl) (de_mul rfl de_int (de_hix 0 (k := 4) rfl))) da_nil)) de_int) da_nil)) de_int)) (dss_cons (ds_set 4 nd__law_draw (de_mod (de_callTy call_int1 d_int rfl M.b_int boot_int (da_cons (de_mul rfl (de_var 4) (de_add rfl (de_div (de_var 4) de_int) de_int)) da_nil)) de_int)) (dss_cons (ds_set 4 nd__law_draw (de_mod (de_callTy call_int1 d_int rfl M.b_int boot_int (da_cons (de_mul rfl (de_var 4) (de_add rfl (de_div (de_var 4) de_int) de_int)) da_nil)) de_int)) (dss_one (ds_ret (de_mod (de_callTy call_int1 d_int rfl M.b_int boot_int (da_cons (de_div (de_var 4) de_int) da_nil)) (de_var 1)))))))))), fun a c ns i g m kk many Q h1 h2 h3 h4 h5 h6 h7 h8 hQ => m__law_draw (G K) a c ns i g m kk many Q h1 h2 h3 h4 h5 h6 h7 h8 hQ⟩
theorem nd__law_any : (["hand", "some"] : List Str).Nodup := by decide
theorem sc__law_any : FnScope ["hand", "some"] ["hand", "some"] (defScope (top 21)) := ⟨rfl, rfl, rfl, by decide +kernel, rfl, by decide +kernel, by decide +kernel⟩
theorem v__law_any (M : Md K mg base) (h__law_draw : FnH P w (G K) mg base "_law_draw" 2 4 s__law_draw) : FnH P w (G K) mg base "_law_any" 2 5 s__law_any := by
  obtain ⟨fd, F⟩ := M.F__law_any
  refine fnH_of (N := ["hand", "some"]) (ps := ["hand", "some"]) (k := 4) F sc__law_any M.g__law_any (fun _ _ _ _ _ _ us hl => match us, hl with | [_, _], _ => rfl) (by decide) fun cdv A outer s0 H E H0 ED hcd hr hp bok => ?_
  exact ⟨_, (dss_one (ds_ret (de_ix rfl (de_var 1) (de_call (h__law_draw.mono (by decide : 4 ≤ 4)) rfl hr hp bok rfl (da_cons (de_var 0) (da_cons (de_len rfl rfl M.b_len (da_cons (de_var 1) da_nil)) da_nil)))))), fun ds Q hl h => m__law_any (gs (K := K)) ds Q ED h⟩
theorem nd__law_is : (["given", "due", "one", "other"] : List Str).Nodup := by decide
theorem sc__law_is : FnScope ["given", "due", "one", "other"] ["given", "due"] (defScope (top 22)) := ⟨rfl, rfl, rfl, by decide +kernel, rfl, by decide +kernel, by decide +kernel⟩
theorem v__law_is (M : Md K mg base) (EQ : EqsH P w (G K) mg base 2 eqS) {s__law_is : List D → W D} (h__law_is : FnH P w (G K) mg base "_law_is" 2 6 s__law_is) : FnH P w (G K) mg base "_law_is" 2 7 (fun ds => endW (W__law_is (G K) s__law_is (env0 4 ds))) := by
  obtain ⟨fd, F⟩ := M.F__law_is
  refine fnH_of (N := ["given", "due", "one", "other"]) (ps := ["given", "due"]) (k := 6) F sc__law_is M.g__law_is (fun _ _ _ _ _ _ us hl => match us, hl with | [_, _], _ => rfl) (by decide) fun cdv A outer s0 H E H0 ED hcd hr hp bok => ?_
  exact ⟨_, (dss_cons (ds_if (PW.pt (dt_or (dt_cmp op_isN d_is (nomark _) (de_var 1) de_non) (dt_or1 (dt_cmp op_isN d_is (nomark _) (de_var 0) de_non)))) (dss_one (ds_ret (de_and (de_cmp op_isN d_is (nomark _) (de_var 1) de_non) (de_one (de_cmp op_isN d_is (nomark _) (de_var 0) de_non))))) dss_nil) (dss_cons (ds_if (dt_truth rfl (de_isiA (cs := [.ty "tuple", .ty "list"]) rfl M.gok rfl M.b_isinstance (de_var 1) (pa_cons (ClsE.pe (B := ⟨G K, H, H0, ED, E⟩) (.ty rfl M.b_tuple boot_tuple (by decide) (by decide))) (pa_cons (ClsE.pe (B := ⟨G K, H, H0, ED, E⟩) (.ty rfl M.b_list boot_list (by decide) (by decide))) pa_nil)))) (dss_cons (ds_if (dt_ne rfl hr (EQ.mono (by decide : 2 ≤ 5)) (nomark _) (de_isi (c := .ty "tuple") rfl M.gok rfl M.b_isinstance (de_var 0) (.ty rfl M.b_tuple boot_tuple (by decide) (by decide))) (de_isi (c := .ty "tuple") rfl M.gok rfl M.b_isinstance (de_var 1) (.ty rfl M.b_tuple boot_tuple (by decide) (by decide)))) (dss_one (ds_ret de_bl)) dss_nil) (dss_cons (ds_if (dt_ne rfl hr (EQ.mono (by decide : 2 ≤ 5)) (nomark _) (de_isi (c := .ty "list") rfl M.gok rfl M.b_isinstance (de_var 0) (.ty rfl M.b_list boot_list (by decide) (by decide))) (de_isi (c := .ty "list") rfl M.gok rfl M.b_isinstance (de_var 1) (.ty rfl M.b_list boot_list (by decide) (by decide)))) (dss_one (ds_ret de_bl)) dss_nil) (dss_one (ds_ret (de_and (de_eq rfl hr (EQ.mono (by decide : 2 ≤ 5)) (nomark _) (de_len rfl rfl M.b_len (da_cons (de_var 0) da_nil)) (de_len rfl rfl M.b_len (da_cons (de_var 1) da_nil))) (de_one (de_callB (cr_all rfl) d_all rfl M.b_all boot_all (da_cons (de_new (dn_lc rfl nd__law_is (di_zip2 rfl rfl M.b_zip (da_cons (de_var 0) (da_cons (de_var 1) da_nil))) (blkOk_by (own := [("one", 2), ("other", 3)]) (by kernel_rfl)) (fun _ _ _ _ _ => (dg_tup rfl rfl (dgs_cons (dg_name 2 nd__law_is) (dgs_cons (dg_name 3 nd__law_is) dgs_nil)))) (fun _ _ _ _ _ => dts_nil) (fun _ _ _ _ _ => (de_call (h__law_is.mono (by decide : 6 ≤ 6)) rfl hr passL (Bx.no_ok _) rfl (da_cons (de_var 2) (da_cons (de_var 3) da_nil)))))) da_nil)))))))) dss_nil) (dss_cons (ds_if (PW.pt (dt_or (dt_ne rfl hr (EQ.mono (by decide : 2 ≤ 5)) (nomark _) (de_isi (c := .ty "bool") rfl M.gok rfl M.b_isinstance (de_var 0) (.ty rfl M.b_bool boot_bool (by decide) (by decide))) (de_isi (c := .ty "bool") rfl M.gok rfl M.b_isinstance (de_var 1) (.ty rfl M.b_bool boot_bool (by decide) (by decide)))) (dt_or1 (dt_ne rfl hr (EQ.mono (by decide : 2 ≤ 5)) (nomark _) (de_isi (c := .ty "int") rfl M.gok rfl M.b_isinstance (de_var 0) (.ty rfl M.b_int boot_int (by decide) (by decide))) (de_isi (c := .ty "int") rfl M.gok rfl M.b_isinstance (de_var 1) (.ty rfl M.b_int boot_int (by decide) (by decide))))))) (dss_one (ds_ret de_bl)) dss_nil) (dss_one (ds_ret (de_and (de_eq rfl hr (EQ.mono (by decide : 2 ≤ 5)) (nomark _) (de_isi (c := .ty "str") rfl M.gok rfl M.b_isinstance (de_var 0) (.ty rfl M.b_str boot_str (by decide) (by decide))) (de_isi (c := .ty "str") rfl M.gok rfl M.b_isinstance (de_var 1) (.ty rfl M.b_str boot_str (by decide) (by decide)))) (de_one (de_eq rfl hr (EQ.mono (by decide : 2 ≤ 5)) (nomark _) (de_var 0) (de_var 1))))))))), fun ds Q hl h => h⟩
theorem v__law_is_7 (M : Md K mg base) (EQ : EqsH P w (G K) mg base 2 eqS) {s__law_is : List D → W D} (h__law_is : FnH P w (G K) mg base "_law_is" 2 7 s__law_is) : FnH P w (G K) mg base "_law_is" 2 8 (fun ds => endW (W__law_is (G K) s__law_is (env0 4 ds))) := by
  obtain ⟨fd, F⟩ := M.F__law_is
  refine fnH_of (N := ["given", "due", "one", "other"]) (ps := ["given", "due"]) (k := 7) F sc__law_is M.g__law_is (fun _ _ _ _ _ _ us hl => match us, hl with | [_, _], _ => rfl) (by decide) fun cdv A outer s0 H E H0 ED hcd hr hp bok => ?_
  exact ⟨_, (dss_cons (ds_if (PW.pt (dt_or (dt_cmp op_isN d_is (nomark _) (de_var 1) de_non) (dt_or1 (dt_cmp op_isN d_is (nomark _) (de_var 0) de_non)))) (dss_one (ds_ret (de_and (de_cmp op_isN d_is (nomark _) (de_var 1) de_non) (de_one (de_cmp op_isN d_is (nomark _) (de_var 0) de_non))))) dss_nil) (dss_cons (ds_if (dt_truth rfl (de_isiA (cs := [.ty "tuple", .ty "list"]) rfl M.gok rfl M.b_isinstance (de_var 1) (pa_cons (ClsE.pe (B := ⟨G K, H, H0, ED, E⟩) (.ty rfl M.b_tuple boot_tuple (by decide) (by decide))) (pa_cons (ClsE.pe (B := ⟨G K, H, H0, ED, E⟩) (.ty rfl M.b_list boot_list (by decide) (by decide))) pa_nil)))) (dss_cons (ds_if (dt_ne rfl hr (EQ.mono (by decide : 2 ≤ 6)) (nomark _) (de_isi (c := .ty "tuple") rfl M.gok rfl M.b_isinstance (de_var 0) (.ty rfl M.b_tuple boot_tuple (by decide) (by decide))) (de_isi (c := .ty "tuple") rfl M.gok rfl M.b_isinstance (de_var 1) (.ty rfl M.b_tuple boot_tuple (by decide) (by decide)))) (dss_one (ds_ret de_bl)) dss_nil) (dss_cons (ds_if (dt_ne rfl hr (EQ.mono (by decide : 2 ≤ 6)) (nomark _) (de_isi (c := .ty "list") rfl M.gok rfl M.b_isinstance (de_var 0) (.ty rfl M.b_list boot_list (by decide) (by decide))) (de_isi (c := .ty "list") rfl M.gok rfl M.b_isinstance (de_var 1) (.ty rfl M.b_list boot_list (by decide) (by decide)))) (dss_one (ds_ret de_bl)) dss_nil) (dss_one (ds_ret (de_and (de_eq rfl hr (EQ.mono (by decide : 2 ≤ 6)) (nomark _) (de_len rfl rfl M.b_len (da_cons (de_var 0) da_nil)) (de_len rfl rfl M.b_len (da_cons (de_var 1) da_nil))) (de_one (de_callB (cr_all rfl) d_all rfl M.b_all boot_all (da_cons (de_new (dn_lc rfl nd__law_is (di_zip2 rfl rfl M.b_zip (da_cons (de_var 0) (da_cons (de_var 1) da_nil))) (blkOk_by (own := [("one", 2), ("other", 3)]) (by kernel_rfl)) (fun _ _ _ _ _ => (dg_tup rfl rfl (dgs_cons (dg_name 2 nd__law_is) (dgs_cons (dg_name 3 nd__law_is) dgs_nil)))) (fun _ _ _ _ _ => dts_nil) (fun _ _ _ _ _ => (de_call (h__law_is.mono (by decide : 7 ≤ 7)) rfl hr passL (Bx.no_ok _) rfl (da_cons (de_var 2) (da_cons (de_var 3) da_nil)))))) da_nil)))))))) dss_nil) (dss_cons (ds_if (PW.pt (dt_or (dt_ne rfl hr (EQ.mono (by decide : 2 ≤ 6)) (nomark _) (de_isi (c := .ty "bool") rfl M.gok rfl M.b_isinstance (de_var 0) (.ty rfl M.b_bool boot_bool (by decide) (by decide))) (de_isi (c := .ty "bool") rfl M.gok rfl M.b_isinstance (de_var 1) (.ty rfl M.b_bool boot_bool (by decide) (by decide)))) (dt_or1 (dt_ne rfl hr (EQ.mono (by decide : 2 ≤ 6)) (nomark _) (de_isi (c := .ty "int") rfl M.gok rfl M.b_isinstance (de_var 0) (.ty rfl M.b_int boot_int (by decide) (by decide))) (de_isi (c := .ty "int") rfl M.gok rfl M.b_isinstance (de_var 1) (.ty rfl M.b_int boot_int (by decide) (by decide))))))) (dss_one (ds_ret de_bl)) dss_nil) (dss_one (ds_ret (de_and (de_eq rfl hr (EQ.mono (by decide : 2 ≤ 6)) (nomark _) (de_isi (c := .ty "str") rfl M.gok rfl M.b_isinstance (de_var 0) (.ty rfl M.b_str boot_str (by decide) (by decide))) (de_isi (c := .ty "str") rfl M.gok rfl M.b_isinstance (de_var 1) (.ty rfl M.b_str boot_str (by decide) (by decide)))) (de_one (de_eq rfl hr (EQ.mono (by decide : 2 ≤ 6)) (nomark _) (de_var 0) (de_var 1))))))))), fun ds Q hl h => h⟩
theorem v__law_is_8 (M : Md K mg base) (EQ : EqsH P w (G K) mg base 2 eqS) {s__law_is : List D → W D} (h__law_is : FnH P w (G K) mg base "_law_is" 2 8 s__law_is) : FnH P w (G K) mg base "_law_is" 2 9 (fun ds => endW (W__law_is (G K) s__law_is (env0 4 ds))) := by
  obtain ⟨fd, F⟩ := M.F__law_is
  refine fnH_of (N := ["given", "due", "one", "other"]) (ps := ["given", "due"]) (k := 8) F sc__law_is M.g__law_is (fun _ _ _ _ _ _ us hl => match us, hl with | [_, _], _ => rfl) (by decide) fun cdv A outer s0 H E H0 ED hcd hr hp bok => ?_
  exact ⟨_, (dss_cons (ds_if (PW.pt (dt_or (dt_cmp op_isN d_is (nomark _) (de_var 1) de_non) (dt_or1 (dt_cmp op_isN d_is (nomark _) (de_var 0) de_non)))) (dss_one (ds_ret (de_and (de_cmp op_isN d_is (nomark _) (de_var 1) de_non) (de_one (de_cmp op_isN d_is (nomark _) (de_var 0) de_non))))) dss_nil) (dss_cons (ds_if (dt_truth rfl (de_isiA (cs := [.ty "tuple", .ty "list"]) rfl M.gok rfl M.b_isinstance (de_var 1) (pa_cons (ClsE.pe (B := ⟨G K, H, H0, ED, E⟩) (.ty rfl M.b_tuple boot_tuple (by decide) (by decide))) (pa_cons (ClsE.pe (B := ⟨G K, H, H0, ED, E⟩) (.ty rfl M.b_list boot_list (by decide) (by decide))) pa_nil)))) (dss_cons (ds_if (dt_ne rfl hr (EQ.mono (by decide : 2 ≤ 7)) (nomark _) (de_isi (c := .ty "tuple") rfl M.gok rfl M.b_isinstance (de_var 0) (.ty rfl M.b_tuple boot_tuple (by decide) (by decide))) (de_isi (c := .ty "tuple") rfl M.gok rfl M.b_isinstance (de_var 1) (.ty rfl M.b_tuple boot_tuple (by decide) (by decide)))) (dss_one (ds_ret de_bl)) dss_nil) (dss_cons (ds_if (dt_ne rfl hr (EQ.mono (by decide : 2 ≤ 7)) (nomark _) (de_isi (c := .ty "list") rfl M.gok rfl M.b_isinstance (de_var 0) (.ty rfl M.b_list boot_list (by decide) (by decide))) (de_isi (c := .ty "list") rfl M.gok rfl M.b_isinstance (de_var 1) (.ty rfl M.b_list boot_list (by decide) (by decide)))) (dss_one (ds_ret de_bl)) dss_nil) (dss_one (ds_ret (de_and (de_eq rfl hr (EQ.mono (by decide : 2 ≤ 7)) (nomark _) (de_len rfl rfl M.b_len (da_cons (de_var 0) da_nil)) (de_len rfl rfl M.b_len (da_cons (de_var 1) da_nil))) (de_one (de_callB (cr_all rfl) d_all rfl M.b_all boot_all (da_cons (de_new (dn_lc rfl nd__law_is (di_zip2 rfl rfl M.b_zip (da_cons (de_var 0) (da_cons (de_var 1) da_nil))) (blkOk_by (own := [("one", 2), ("other", 3)]) (by kernel_rfl)) (fun _ _ _ _ _ => (dg_tup rfl rfl (dgs_cons (dg_name 2 nd__law_is) (dgs_cons (dg_name 3 nd__law_is) dgs_nil)))) (fun _ _ _ _ _ => dts_nil) (fun _ _ _ _ _ => (de_call (h__law_is.mono (by decide : 8 ≤ 8)) rfl hr passL (Bx.no_ok _) rfl (da_cons (de_var 2) (da_cons (de_var 3) da_nil)))))) da_nil)))))))) dss_nil) (dss_cons (ds_if (PW.pt (dt_or (dt_ne rfl hr (EQ.mono (by decide : 2 ≤ 7)) (nomark _) (de_isi (c := .ty "bool") rfl M.gok rfl M.b_isinstance (de_var 0) (.ty rfl M.b_bool boot_bool (by decide) (by decide))) (de_isi (c := .ty "bool") rfl M.gok rfl M.b_isinstance (de_var 1) (.ty rfl M.b_bool boot_bool (by decide) (by decide)))) (dt_or1 (dt_ne rfl hr (EQ.mono (by decide : 2 ≤ 7)) (nomark _) (de_isi (c := .ty "int") rfl M.gok rfl M.b_isinstance (de_var 0) (.ty rfl M.b_int boot_int (by decide) (by decide))) (de_isi (c := .ty "int") rfl M.gok rfl M.b_isinstance (de_var 1) (.ty rfl M.b_int boot_int (by decide) (by decide))))))) (dss_one (ds_ret de_bl)) dss_nil) (dss_one (ds_ret (de_and (de_eq rfl hr (EQ.mono (by decide : 2 ≤ 7)) (nomark _) (de_isi (c := .ty "str") rfl M.gok rfl M.b_isinstance (de_var 0) (.ty rfl M.b_str boot_str (by decide) (by decide))) (de_isi (c := .ty "str") rfl M.gok rfl M.b_isinstance (de_var 1) (.ty rfl M.b_str boot_str (by decide) (by decide)))) (de_one (de_eq rfl hr (EQ.mono (by decide : 2 ≤ 7)) (nomark _) (de_var 0) (de_var 1))))))))), fun ds Q hl h => h⟩
theorem v__law_is_9 (M : Md K mg base) (EQ : EqsH P w (G K) mg base 2 eqS) {s__law_is : List D → W D} (h__law_is : FnH P w (G K) mg base "_law_is" 2 9 s__law_is) : FnH P w (G K) mg base "_law_is" 2 10 (fun ds => endW (W__law_is (G K) s__law_is (env0 4 ds))) := by
  obtain ⟨fd, F⟩ := M.F__law_is
  refine fnH_of (N := ["given", "due", "one", "other"]) (ps := ["given", "due"]) (k := 9) F sc__law_is M.g__law_is (fun _ _ _ _ _ _ us hl => match us, hl with | [_, _], _ => rfl) (by decide) fun cdv A outer s0 H E H0 ED hcd hr hp bok => ?_
  exact ⟨_, (dss_cons (ds_if (PW.pt (dt_or (dt_cmp op_isN d_is (nomark _) (de_var 1) de_non) (dt_or1 (dt_cmp op_isN d_is (nomark _) (de_var 0) de_non)))) (dss_one (ds_ret (de_and (de_cmp op_isN d_is (nomark _) (de_var 1) de_non) (de_one (de_cmp op_isN d_is (nomark _) (de_var 0) de_non))))) dss_nil) (dss_cons (ds_if (dt_truth rfl (de_isiA (cs := [.ty "tuple", .ty "list"]) rfl M.gok rfl M.b_isinstance (de_var 1) (pa_cons (ClsE.pe (B := ⟨G K, H, H0, ED, E⟩) (.ty rfl M.b_tuple boot_tuple (by decide) (by decide))) (pa_cons (ClsE.pe (B := ⟨G K, H, H0, ED, E⟩) (.ty rfl M.b_list boot_list (by decide) (by decide))) pa_nil)))) (dss_cons (ds_if (dt_ne rfl hr (EQ.mono (by decide : 2 ≤ 8)) (nomark _) (de_isi (c := .ty "tuple") rfl M.gok rfl M.b_isinstance (de_var 0) (.ty rfl M.b_tuple boot_tuple (by decide) (by decide))) (de_isi (c := .ty "tuple") rfl M.gok rfl M.b_isinstance (de_var 1) (.ty rfl M.b_tuple boot_tuple (by decide) (by decide)))) (dss_one (ds_ret de_bl)) dss_nil) (dss_cons (ds_if (dt_ne rfl hr (EQ.mono (by decide : 2 ≤ 8)) (nomark _) (de_isi (c := .ty "list") rfl M.gok rfl M.b_isinstance (de_var 0) (.ty rfl M.b_list boot_list (by decide) (by decide))) (de_isi (c := .ty "list") rfl M.gok rfl M.b_isinstance (de_var 1) (.ty rfl M.b_list boot_list (by decide) (by decide)))) (dss_one (ds_ret de_bl)) dss_nil) (dss_one (ds_ret (de_and (de_eq rfl hr (EQ.mono (by decide : 2 ≤ 8)) (nomark _) (de_len rfl rfl M.b_len (da_cons (de_var 0) da_nil)) (de_len rfl rfl M.b_len (da_cons (de_var 1) da_nil))) (de_one (de_callB (cr_all rfl) d_all rfl M.b_all boot_all (da_cons (de_new (dn_lc rfl nd__law_is (di_zip2 rfl rfl M.b_zip (da_cons (de_var 0) (da_cons (de_var 1) da_nil))) (blkOk_by (own := [("one", 2), ("other", 3)]) (by kernel_rfl)) (fun _ _ _ _ _ => (dg_tup rfl rfl (dgs_cons (dg_name 2 nd__law_is) (dgs_cons (dg_name 3 nd__law_is) dgs_nil)))) (fun _ _ _ _ _ => dts_nil) (fun _ _ _ _ _ => (de_call (h__law_is.mono (by decide : 9 ≤ 9)) rfl hr passL (Bx.no_ok _) rfl (da_cons (de_var 2) (da_cons (de_var 3) da_nil)))))) da_nil)))))))) dss_nil) (dss_cons (ds_if (PW.pt (dt_or (dt_ne rfl hr (EQ.mono (by decide : 2 ≤ 8)) (nomark _) (de_isi (c := .ty "bool") rfl M.gok rfl M.b_isinstance (de_var 0) (.ty rfl M.b_bool boot_bool (by decide) (by decide))) (de_isi (c := .ty "bool") rfl M.gok rfl M.b_isinstance (de_var 1) (.ty rfl M.b_bool boot_bool (by decide) (by decide)))) (dt_or1 (dt_ne rfl hr (EQ.mono (by decide : 2 ≤ 8)) (nomark _) (de_isi (c := .ty "int") rfl M.gok rfl M.b_isinstance (de_var 0) (.ty rfl M.b_int boot_int (by decide) (by decide))) (de_isi (c := .ty "int") rfl M.gok rfl M.b_isinstance (de_var 1) (.ty rfl M.b_int boot_int (by decide) (by decide))))))) (dss_one (ds_ret de_bl)) dss_nil) (dss_one (ds_ret (de_and (de_eq rfl hr (EQ.mono (by decide : 2 ≤ 8)) (nomark _) (de_isi (c := .ty "str") rfl M.gok rfl M.b_isinstance (de_var 0) (.ty rfl M.b_str boot_str (by decide) (by decide))) (de_isi (c := .ty "str") rfl M.gok rfl M.b_isinstance (de_var 1) (.ty rfl M.b_str boot_str (by decide) (by decide)))) (de_one (de_eq rfl hr (EQ.mono (by decide : 2 ≤ 8)) (nomark _) (de_var 0) (de_var 1))))))))), fun ds Q hl h => h⟩
theorem v__law_is_10 (M : Md K mg base) (EQ : EqsH P w (G K) mg base 2 eqS) {s__law_is : List D → W D} (h__law_is : FnH P w (G K) mg base "_law_is" 2 10 s__law_is) : FnH P w (G K) mg base "_law_is" 2 11 (fun ds => endW (W__law_is (G K) s__law_is (env0 4 ds))) := by
  obtain ⟨fd, F⟩ := M.F__law_is
  refine fnH_of (N := ["given", "due", "one", "other"]) (ps := ["given", "due"]) (k := 10) F sc__law_is M.g__law_is (fun _ _ _ _ _ _ us hl => match us, hl with | [_, _], _ => rfl) (by decide) fun cdv A outer s0 H E H0 ED hcd hr hp bok => ?_
  exact ⟨_, (dss_cons (ds_if (PW.pt (dt_or (dt_cmp op_isN d_is (nomark _) (de_var 1) de_non) (dt_or1 (dt_cmp op_isN d_is (nomark _) (de_var 0) de_non)))) (dss_one (ds_ret (de_and (de_cmp op_isN d_is (nomark _) (de_var 1) de_non) (de_one (de_cmp op_isN d_is (nomark _) (de_var 0) de_non))))) dss_nil) (dss_cons (ds_if (dt_truth rfl (de_isiA (cs := [.ty "tuple", .ty "list"]) rfl M.gok rfl M.b_isinstance (de_var 1) (pa_cons (ClsE.pe (B := ⟨G K, H, H0, ED, E⟩) (.ty rfl M.b_tuple boot_tuple (by decide) (by decide))) (pa_cons (ClsE.pe (B := ⟨G K, H, H0, ED, E⟩) (.ty rfl M.b_list boot_list (by decide) (by decide))) pa_nil)))) (dss_cons (ds_if (dt_ne rfl hr (EQ.mono (by decide : 2 ≤ 9)) (nomark _) (de_isi (c := .ty "tuple") rfl M.gok rfl M.b_isinstance (de_var 0) (.ty rfl M.b_tuple boot_tuple (by decide) (by decide))) (de_isi (c := .ty "tuple") rfl M.gok rfl M.b_isinstance (de_var 1) (.ty rfl M.b_tuple boot_tuple (by decide) (by decide)))) (dss_one (ds_ret de_bl)) dss_nil) (dss_cons (ds_if (dt_ne rfl hr (EQ.mono (by decide : 2 ≤ 9)) (nomark _) (de_isi (c := .ty "list") rfl M.gok rfl M.b_isinstance (de_var 0) (.ty rfl M.b_list boot_list (by decide) (by decide))) (de_isi (c := .ty "list") rfl M.gok rfl M.b_isinstance (de_var 1) (.ty rfl M.b_list boot_list (by decide) (by decide)))) (dss_one (ds_ret de_bl)) dss_nil) (dss_one (ds_ret (de_and (de_eq rfl hr (EQ.mono (by decide : 2 ≤ 9)) (nomark _) (de_len rfl rfl M.b_len (da_cons (de_var 0) da_nil)) (de_len rfl rfl M.b_len (da_cons (de_var 1) da_nil))) (de_one (de_callB (cr_all rfl) d_all rfl M.b_all boot_all (da_cons (de_new (dn_lc rfl nd__law_is (di_zip2 rfl rfl M.b_zip (da_cons (de_var 0) (da_cons (de_var 1) da_nil))) (blkOk_by (own := [("one", 2), ("other", 3)]) (by kernel_rfl)) (fun _ _ _ _ _ => (dg_tup rfl rfl (dgs_cons (dg_name 2 nd__law_is) (dgs_cons (dg_name 3 nd__law_is) dgs_nil)))) (fun _ _ _ _ _ => dts_nil) (fun _ _ _ _ _ => (de_call (h__law_is.mono (by decide : 10 ≤ 10)) rfl hr passL (Bx.no_ok _) rfl (da_cons (de_var 2) (da_cons (de_var 3) da_nil)))))) da_nil)))))))) dss_nil) (dss_cons (ds_if (PW.pt (dt_or (dt_ne rfl hr (EQ.mono (by decide : 2 ≤ 9)) (nomark _) (de_isi (c := .ty "bool") rfl M.gok rfl M.b_isinstance (de_var 0) (.ty rfl M.b_bool boot_bool (by decide) (by decide))) (de_isi (c := .ty "bool") rfl M.gok rfl M.b_isinstance (de_var 1) (.ty rfl M.b_bool boot_bool (by decide) (by decide)))) (dt_or1 (dt_ne rfl hr (EQ.mono (by decide : 2 ≤ 9)) (nomark _) (de_isi (c := .ty "int") rfl M.gok rfl M.b_isinstance (de_var 0) (.ty rfl M.b_int boot_int (by decide) (by decide))) (de_isi (c := .ty "int") rfl M.gok rfl M.b_isinstance (de_var 1) (.ty rfl M.b_int boot_int (by decide) (by decide))))))) (dss_one (ds_ret de_bl)) dss_nil) (dss_one (ds_ret (de_and (de_eq rfl hr (EQ.mono (by decide : 2 ≤ 9)) (nomark _) (de_isi (c := .ty "str") rfl M.gok rfl M.b_isinstance (de_var 0) (.ty rfl M.b_str boot_str (by decide) (by decide))) (de_isi (c := .ty "str") rfl M.gok rfl M.b_isinstance (de_var 1) (.ty rfl M.b_str boot_str (by decide) (by decide)))) (de_one (de_eq rfl hr (EQ.mono (by decide : 2 ≤ 9)) (nomark _) (de_var 0) (de_var 1))))))))), fun ds Q hl h => h⟩
theorem v__law_is_11 (M : Md K mg base) (EQ : EqsH P w (G K) mg base 2 eqS) {s__law_is : List D → W D} (h__law_is : FnH P w (G K) mg base "_law_is" 2 11 s__law_is) : FnH P w (G K) mg base "_law_is" 2 12 (fun ds => endW (W__law_is (G K) s__law_is (env0 4 ds))) := by
  obtain ⟨fd, F⟩ := M.F__law_is
  refine fnH_of (N := ["given", "due", "one", "other"]) (ps := ["given", "due"]) (k := 11) F sc__law_is M.g__law_is (fun _ _ _ _ _ _ us hl => match us, hl with | [_, _], _ => rfl) (by decide) fun cdv A outer s0 H E H0 ED hcd hr hp bok => ?_
  exact ⟨_, (dss_cons (ds_if (PW.pt (dt_or (dt_cmp op_isN d_is (nomark _) (de_var 1) de_non) (dt_or1 (dt_cmp op_isN d_is (nomark _) (de_var 0) de_non)))) (dss_one (ds_ret (de_and (de_cmp op_isN d_is (nomark _) (de_var 1) de_non) (de_one (de_cmp op_isN d_is (nomark _) (de_var 0) de_non))))) dss_nil) (dss_cons (ds_if (dt_truth rfl (de_isiA (cs := [.ty "tuple", .ty "list"]) rfl M.gok rfl M.b_isinstance (de_var 1) (pa_cons (ClsE.pe (B := ⟨G K, H, H0, ED, E⟩) (.ty rfl M.b_tuple boot_tuple (by decide) (by decide))) (pa_cons (ClsE.pe (B := ⟨G K, H, H0, ED, E⟩) (.ty rfl M.b_list boot_list (by decide) (by decide))) pa_nil)))) (dss_cons (ds_if (dt_ne rfl hr (EQ.mono (by decide : 2 ≤ 10)) (nomark _) (de_isi (c := .ty "tuple") rfl M.gok rfl M.b_isinstance (de_var 0) (.ty rfl M.b_tuple boot_tuple (by decide) (by decide))) (de_isi (c := .ty "tuple") rfl M.gok rfl M.b_isinstance (de_var 1) (.ty rfl M.b_tuple boot_tuple (by decide) (by decide)))) (dss_one (ds_ret de_bl)) dss_nil) (dss_cons (ds_if (dt_ne rfl hr (EQ.mono (by decide : 2 ≤ 10)) (nomark _) (de_isi (c := .ty "list") rfl M.gok rfl M.b_isinstance (de_var 0) (.ty rfl M.b_list boot_list (by decide) (by decide))) (de_isi (c := .ty "list") rfl M.gok rfl M.b_isinstance (de_var 1) (.ty rfl M.b_list boot_list (by decide) (by decide)))) (dss_one (ds_ret de_bl)) dss_nil) (dss_one (ds_ret (de_and (de_eq rfl hr (EQ.mono (by decide : 2 ≤ 10)) (nomark _) (de_len rfl rfl M.b_len (da_cons (de_var 0) da_nil)) (de_len rfl rfl M.b_len (da_cons (de_var 1) da_nil))) (de_one (de_callB (cr_all rfl) d_all rfl M.b_all boot_all (da_cons (de_new (dn_lc rfl nd__law_is (di_zip2 rfl rfl M.b_zip (da_cons (de_var 0) (da_cons (de_var 1) da_nil))) (blkOk_by (own := [("one", 2), ("other", 3)]) (by kernel_rfl)) (fun _ _ _ _ _ => (dg_tup rfl rfl (dgs_cons (dg_name 2 nd__law_is) (dgs_cons (dg_name 3 nd__law_is) dgs_nil)))) (fun _ _ _ _ _ => dts_nil) (fun _ _ _ _ _ => (de_call (h__law_is.mono (by decide : 11 ≤ 11)) rfl hr passL (Bx.no_ok _) rfl (da_cons (de_var 2) (da_cons (de_var 3) da_nil)))))) da_nil)))))))) dss_nil) (dss_cons (ds_if (PW.pt (dt_or (dt_ne rfl hr (EQ.mono (by decide : 2 ≤ 10)) (nomark _) (de_isi (c := .ty "bool") rfl M.gok rfl M.b_isinstance (de_var 0) (.ty rfl M.b_bool boot_bool (by decide) (by decide))) (de_isi (c := .ty "bool") rfl M.gok rfl M.b_isinstance (de_var 1) (.ty rfl M.b_bool boot_bool (by decide) (by decide)))) (dt_or1 (dt_ne rfl hr (EQ.mono (by decide : 2 ≤ 10)) (nomark _) (de_isi (c := .ty "int") rfl M.gok rfl M.b_isinstance (de_var 0) (.ty rfl M.b_int boot_int (by decide) (by decide))) (de_isi (c := .ty "int") rfl M.gok rfl M.b_isinstance (de_var 1) (.ty rfl M.b_int boot_int (by decide) (by decide))))))) (dss_one (ds_ret de_bl)) dss_nil) (dss_one (ds_ret (de_and (de_eq rfl hr (EQ.mono (by decide : 2 ≤ 10)) (nomark _) (de_isi (c := .ty "str") rfl M.gok rfl M.b_isinstance (de_var 0) (.ty rfl M.b_str boot_str (by decide) (by decide))) (de_isi (c := .ty "str") rfl M.gok rfl M.b_isinstance (de_var 1) (.ty rfl M.b_str boot_str (by decide) (by decide)))) (de_one (de_eq rfl hr (EQ.mono (by decide : 2 ≤ 10)) (nomark _) (de_var 0) (de_var 1))))))))), fun ds Q hl h => h⟩
theorem nd__law_mixed : (["hand", "things", "pool", "found"] : List Str).Nodup := by decide
theorem sc__law_mixed : FnScope ["hand", "things", "pool", "found"] ["hand", "things"] (defScope (top 23)) := ⟨rfl, rfl, rfl, by decide +kernel, rfl, by decide +kernel, by decide +kernel⟩
theorem v__law_mixed (M : Md K mg base) (h__law_draw : FnH P w (G K) mg base "_law_draw" 2 4 s__law_draw) : FnH P w (G K) mg base "_law_mixed" 2 5 s__law_mixed := by
  obtain ⟨fd, F⟩ := M.F__law_mixed
  refine fnH_of (N := ["hand", "things", "pool", "found"]) (ps := ["hand", "things"]) (k := 4) F sc__law_mixed M.g__law_mixed (fun _ _ _ _ _ _ us hl => match us, hl with | [_, _], _ => rfl) (by decide) fun cdv A outer s0 H E H0 ED hcd hr hp bok => ?_
  exact ⟨_, (dss_cons (ds_parNN 2 3 rfl nd__law_mixed (dn_list rfl rfl M.b_list (de_var 1)) (dn_lst da_nil)) (dss_cons (ds_while (passes_of rfl) (dt_cmp op_gt d_gt (nomark _) (de_olen 2 rfl M.b_len) de_int) (dss_one (ds_appPop 3 2 (de_call (h__law_draw.mono (by decide : 4 ≤ 4)) rfl hr hp bok rfl (da_cons (de_var 0) (da_cons (de_olen 2 rfl M.b_len) da_nil)))))) (dss_one (ds_frz 3 (ds_ret (de_var 3)))))), fun ds Q hl h => m__law_mixed (gs (K := K)) ds Q ED h⟩
theorem nd__law_lots : (["many", "found", "one", "lot"] : List Str).Nodup := by decide
theorem sc__law_lots : FnScope ["many", "found", "one", "lot"] ["many"] (defScope (top 24)) := ⟨rfl, rfl, rfl, by decide +kernel, rfl, by decide +kernel, by decide +kernel⟩
theorem v__law_lots (M : Md K mg base) : FnH P w (G K) mg base "_law_lots" 1 2 s__law_lots := by
  obtain ⟨fd, F⟩ := M.F__law_lots
  refine fnH_of (N := ["many", "found", "one", "lot"]) (ps := ["many"]) (k := 1) F sc__law_lots M.g__law_lots (fun _ _ _ _ _ _ us hl => match us, hl with | [_], _ => rfl) (by decide) fun cdv A outer s0 H E H0 ED hcd hr hp bok => ?_
  exact ⟨_, (dss_cons (ds_set 1 nd__law_lots (de_lst (da_cons (de_tup da_nil) da_nil))) (dss_cons (ds_for (passes_of rfl) rfl (di_range1 rfl M.b_range (da_cons (de_var 0) da_nil)) (dg_name 2 nd__law_lots) (dss_one (ds_set 1 nd__law_lots (de_add rfl (de_var 1) (de_new (dn_lc rfl nd__law_lots (di_seq rfl (de_var 1)) (blkOk_by (own := [("lot", 3)]) (by kernel_rfl)) (fun _ _ _ _ _ => (dg_name 3 nd__law_lots)) (fun _ _ _ _ _ => dts_nil) (fun _ _ _ _ _ => (de_add rfl (de_var 3) (de_tup (da_cons (de_var 2) da_nil)))))))))) (dss_one (ds_ret (de_var 1))))), fun ds Q hl h => m__law_lots (gs (K := K)) ds Q ED h⟩
theorem nd__law_bit : (["one"] : List Str).Nodup := by decide
theorem sc__law_bit : FnScope ["one"] ["one"] (defScope (top 25)) := ⟨rfl, rfl, rfl, by decide +kernel, rfl, by decide +kernel, by decide +kernel⟩
theorem v__law_bit (M : Md K mg base) : FnH P w (G K) mg base "_law_bit" 1 2 s__law_bit := by
  obtain ⟨fd, F⟩ := M.F__law_bit
  refine fnH_of (N := ["one"]) (ps := ["one"]) (k := 1) F sc__law_bit M.g__law_bit (fun _ _ _ _ _ _ us hl => match us, hl with | [_], _ => rfl) (by decide) fun cdv A outer s0 H E H0 ED hcd hr hp bok => ?_
  exact ⟨_, (dss_one (ds_ret (de_ix rfl (de_lst (da_cons de_int (da_cons de_int (da_cons de_int (da_cons de_int (da_cons de_int (da_cons de_int (da_cons de_int da_nil)))))))) (de_var 0)))), fun ds Q hl h => m__law_bit (gs (K := K)) ds Q ED h⟩
theorem nd__law_place : (["lot", "one"] : List Str).Nodup := by decide
theorem sc__law_place : FnScope ["lot", "one"] ["lot"] (defScope (top 26)) := ⟨rfl, rfl, rfl, by decide +kernel, rfl, by decide +kernel, by decide +kernel⟩
theorem v__law_place (M : Md K mg base) (h__law_bit : FnH P w (G K) mg base "_law_bit" 1 2 s__law_bit) : FnH P w (G K) mg base "_law_place" 1 3 s__law_place := by
  obtain ⟨fd, F⟩ := M.F__law_place
  refine fnH_of (N := ["lot", "one"]) (ps := ["lot"]) (k := 2) F sc__law_place M.g__law_place (fun _ _ _ _ _ _ us hl => match us, hl with | [_], _ => rfl) (by decide) fun cdv A outer s0 H E H0 ED hcd hr hp bok => ?_
  exact ⟨_, (dss_one (ds_ret (de_callB (cr_sum rfl) d_sum rfl M.b_sum boot_sum (da_cons (de_new (dn_lc rfl nd__law_place (di_seq rfl (de_var 0)) (blkOk_by (own := [("one", 1)]) (by kernel_rfl)) (fun _ _ _ _ _ => (dg_name 1 nd__law_place)) (fun _ _ _ _ _ => dts_nil) (fun _ _ _ _ _ => (de_call (h__law_bit.mono (by decide : 2 ≤ 2)) rfl hr passL (Bx.no_ok _) rfl (da_cons (de_var 1) da_nil))))) da_nil)))), fun ds Q hl h => m__law_place (gs (K := K)) ds Q ED h⟩
theorem nd__law_hollow_values : (["hand", "many", "every", "found", "turn", "kind", "weight", "some", "most", "pair", "at", "lot", "there", "goes_over", "gains", "one", "more", "value"] : List Str).Nodup := by decide
theorem sc__law_hollow_values : FnScope ["hand", "many", "every", "found", "turn", "kind", "weight", "some", "most", "pair", "at", "lot", "there", "goes_over", "gains", "one", "more", "value"] ["hand", "many"] (defScope (top 27)) := ⟨rfl, rfl, rfl, by decide +kernel, rfl, by decide +kernel, by decide +kernel⟩
theorem v__law_hollow_values (M : Md K mg base) (EQ : EqsH P w (G K) mg base 2 eqS) (h__law_draw : FnH P w (G K) mg base "_law_draw" 2 4 s__law_draw) (h__law_lots : FnH P w (G K) mg base "_law_lots" 1 2 s__law_lots) : FnH P w (G K) mg base "_law_hollow_values" 2 5 s__law_hollow_values := by
  obtain ⟨fd, F⟩ := M.F__law_hollow_values
  refine fnH_of (N := ["hand", "many", "every", "found", "turn", "kind", "weight", "some", "most", "pair", "at", "lot", "there", "goes_over", "gains", "one", "more", "value"]) (ps := ["hand", "many"]) (k := 4) F sc__law_hollow_values M.g__law_hollow_values (fun _ _ _ _ _ _ us hl => match us, hl with | [_, _], _ => rfl) (by decide) fun cdv A outer s0 H E H0 ED hcd hr hp bok => ?_
  exact ⟨_, (dss_cons (ds_set 2 nd__law_hollow_values (de_call (h__law_lots.mono (by decide : 2 ≤ 4)) rfl hr hp bok rfl (da_cons (de_var 1) da_nil))) (dss_cons (ds_own 3 nd__law_hollow_values (dn_rep (de_lst (da_cons de_int da_nil)) (de_len rfl rfl M.b_len (da_cons (de_var 2) da_nil)))) (dss_cons (ds_for (passes_of rfl) rfl (di_range1 rfl M.b_range (da_cons (de_call (h__law_draw.mono (by decide : 4 ≤ 4)) rfl hr hp bok rfl (da_cons (de_var 0) (da_cons de_int da_nil))) da_nil)) (dg_name 4 nd__law_hollow_values) (dss_cons (ds_par 5 6 rfl nd__law_hollow_values (da_cons (de_call (h__law_draw.mono (by decide : 4 ≤ 4)) rfl hr hp bok rfl (da_cons (de_var 0) (da_cons de_int da_nil))) (da_cons (de_add rfl de_int (de_call (h__law_draw.mono (by decide : 4 ≤ 4)) rfl hr hp bok rfl (da_cons (de_var 0) (da_cons de_int da_nil)))) da_nil))) (dss_cons (ds_set 7 nd__law_hollow_values (de_new (dn_lc rfl nd__law_hollow_values (di_range1 rfl M.b_range (da_cons (de_var 1) da_nil)) (blkOk_by (own := [("one", 15)]) (by kernel_rfl)) (fun _ _ _ _ _ => (dg_name 15 nd__law_hollow_values)) (fun _ _ _ _ _ => (dts_one (dt_eq rfl hr (EQ.mono (by decide : 2 ≤ 3)) (nomark _) (de_call (h__law_draw.mono (by decide : 4 ≤ 4)) rfl hr passL (Bx.no_ok _) rfl (da_cons (de_var 0) (da_cons de_int da_nil))) de_int))) (fun _ _ _ _ _ => (de_var 15))))) (dss_cons (ds_par 8 9 rfl nd__law_hollow_values (da_cons (de_add rfl de_int (de_call (h__law_draw.mono (by decide : 4 ≤ 4)) rfl hr hp bok rfl (da_cons (de_var 0) (da_cons de_int da_nil)))) (da_cons (de_tup (da_cons (de_call (h__law_draw.mono (by decide : 4 ≤ 4)) rfl hr hp bok rfl (da_cons (de_var 0) (da_cons (de_var 1) da_nil))) (da_cons (de_call (h__law_draw.mono (by decide : 4 ≤ 4)) rfl hr hp bok rfl (da_cons (de_var 0) (da_cons (de_var 1) da_nil))) da_nil))) da_nil))) (dss_one (ds_for (passes_of rfl) rfl (di_enum rfl rfl M.b_enumerate (da_cons (de_var 2) da_nil)) (dg_tup rfl rfl (dgs_cons (dg_name 10 nd__law_hollow_values) (dgs_cons (dg_name 11 nd__law_hollow_values) dgs_nil))) (dss_cons (ds_set 12 nd__law_hollow_values (de_len rfl rfl M.b_len (da_cons (de_new (dn_lc rfl nd__law_hollow_values (di_seq rfl (de_var 11)) (blkOk_by (own := [("one", 15)]) (by kernel_rfl)) (fun _ _ _ _ _ => (dg_name 15 nd__law_hollow_values)) (fun _ _ _ _ _ => (dts_one (dt_in rfl hr (by with_unfolding_all rfl) (de_var 15) (de_var 7)))) (fun _ _ _ _ _ => (de_var 15)))) da_nil))) (dss_cons (ds_set 13 nd__law_hollow_values (de_ne rfl hr (EQ.mono (by decide : 2 ≤ 3)) (nomark _) (de_in rfl hr (by with_unfolding_all rfl) (de_ix rfl (de_var 9) de_int) (de_var 11)) (de_in rfl hr (by with_unfolding_all rfl) (de_ix rfl (de_var 9) de_int) (de_var 11)))) (dss_cons (ds_set 14 nd__law_hollow_values (de_lst (da_cons (de_callTy call_int1 d_int rfl M.b_int boot_int (da_cons (de_cmp op_gt d_gt (nomark _) (de_var 12) de_int) da_nil)) (da_cons (de_callTy call_int1 d_int rfl M.b_int boot_int (da_cons (de_var 13) da_nil)) (da_cons (de_callB (call_min2 rfl) d_min2 rfl M.b_min boot_min (da_cons (de_var 12) (da_cons (de_var 8) da_nil))) (da_cons (de_mul rfl (de_var 12) (de_sub de_int (de_var 12))) da_nil)))))) (dss_one (ds_setItem 3 (de_add rfl (de_oix 3 (de_var 10)) (de_mul rfl (de_var 6) (de_ix rfl (de_var 14) (de_var 5)))) (de_var 10)))))))))))) (dss_cons (ds_for (passes_of rfl) rfl (di_range1 rfl M.b_range (da_cons (de_var 1) da_nil)) (dg_name 15 nd__law_hollow_values) (dss_cons (ds_set 16 nd__law_hollow_values (de_sub (de_call (h__law_draw.mono (by decide : 4 ≤ 4)) rfl hr hp bok rfl (da_cons (de_var 0) (da_cons de_int da_nil))) de_int)) (dss_one (ds_frz 3 (ds_ownLc 3 rfl nd__law_hollow_values (di_zip2 rfl rfl M.b_zip (da_cons (de_var 3) (da_cons (de_var 2) da_nil))) (blkOk_by (own := [("value", 17), ("lot", 11)]) (by kernel_rfl)) (fun _ _ _ _ _ => (dg_tup rfl rfl (dgs_cons (dg_name 17 nd__law_hollow_values) (dgs_cons (dg_name 11 nd__law_hollow_values) dgs_nil)))) (fun _ _ _ _ _ => dts_nil) (fun _ _ _ _ _ => (de_add rfl (de_var 17) (de_mul rfl (de_var 16) (de_callTy call_int1 d_int rfl M.b_int boot_int (da_cons (de_in rfl hr (by with_unfolding_all rfl) (de_var 15) (de_var 11)) da_nil)))))))))) (dss_one (ds_frz 3 (ds_ret (de_callTy call_tuple_of (d_tuple rfl) rfl M.b_tuple boot_tuple (da_cons (de_var 3) da_nil))))))))), fun ds Q hl h => m__law_hollow_values (gs (K := K)) ds Q ED h⟩
theorem nd__law_values : (["hand", "many", "found", "kind", "at", "lot"] : List Str).Nodup := by decide
theorem sc__law_values : FnScope ["hand", "many", "found", "kind", "at", "lot"] ["hand", "many"] (defScope (top 28)) := ⟨rfl, rfl, rfl, by decide +kernel, rfl, by decide +kernel, by decide +kernel⟩
theorem v__law_values (M : Md K mg base) (EQ : EqsH P w (G K) mg base 2 eqS) (h__law_draw : FnH P w (G K) mg base "_law_draw" 2 4 s__law_draw) (h__law_hollow_values : FnH P w (G K) mg base "_law_hollow_values" 2 5 s__law_hollow_values) : FnH P w (G K) mg base "_law_values" 2 6 s__law_values := by
  obtain ⟨fd, F⟩ := M.F__law_values
  refine fnH_of (N := ["hand", "many", "found", "kind", "at", "lot"]) (ps := ["hand", "many"]) (k := 5) F sc__law_values M.g__law_values (fun _ _ _ _ _ _ us hl => match us, hl with | [_, _], _ => rfl) (by decide) fun cdv A outer s0 H E H0 ED hcd hr hp bok => ?_
  exact ⟨_, (dss_cons (ds_own 2 nd__law_values (dn_list rfl rfl M.b_list (de_call (h__law_hollow_values.mono (by decide : 5 ≤ 5)) rfl hr hp bok rfl (da_cons (de_var 0) (da_cons (de_var 1) da_nil))))) (dss_cons (ds_set 3 nd__law_values (de_call (h__law_draw.mono (by decide : 4 ≤ 5)) rfl hr hp bok rfl (da_cons (de_var 0) (da_cons de_int da_nil)))) (dss_cons (ds_if (dt_eq rfl hr (EQ.mono (by decide : 2 ≤ 4)) (nomark _) (de_var 3) de_int) (dss_one (ds_frz 2 (ds_set 2 nd__law_values (de_add rfl (de_lst (da_cons de_int da_nil)) (de_new (dn_lc rfl nd__law_values (di_seq rfl (de_slice rfl (de_var 2) (do_some de_int) do_none)) (blkOk_by (own := [("lot", 5)]) (by kernel_rfl)) (fun _ _ _ _ _ => (dg_name 5 nd__law_values)) (fun _ _ _ _ _ => dts_nil) (fun _ _ _ _ _ => (de_sub (de_call (h__law_draw.mono (by decide : 4 ≤ 5)) rfl hr passL (Bx.no_ok _) rfl (da_cons (de_var 0) (da_cons de_int da_nil))) de_int)))))))) dss_nil) (dss_cons (ds_if (PW.pt (dt_and (dt_eq rfl hr (EQ.mono (by decide : 2 ≤ 4)) (nomark _) (de_var 3) de_int) (dt_and1 (dt_cmp op_gt d_gt (nomark _) (de_olen 2 rfl M.b_len) de_int)))) (dss_cons (ds_set 4 nd__law_values (de_add rfl de_int (de_call (h__law_draw.mono (by decide : 4 ≤ 5)) rfl hr hp bok rfl (da_cons (de_var 0) (da_cons (de_sub (de_olen 2 rfl M.b_len) de_int) da_nil))))) (dss_one (ds_setItem 2 (de_sub (de_add rfl (de_oix 2 (de_var 4)) (de_call (h__law_draw.mono (by decide : 4 ≤ 5)) rfl hr hp bok rfl (da_cons (de_var 0) (da_cons de_int da_nil)))) de_int) (de_var 4)))) dss_nil) (dss_one (ds_frz 2 (ds_ret (de_callTy call_tuple_of (d_tuple rfl) rfl M.b_tuple boot_tuple (da_cons (de_var 2) da_nil))))))))), fun ds Q hl h => m__law_values (gs (K := K)) ds Q ED h⟩
theorem nd__law_is_hollow : (["many", "values", "lot", "one", "two", "here", "left", "right", "both", "more"] : List Str).Nodup := by decide
theorem sc__law_is_hollow : FnScope ["many", "values", "lot", "one", "two", "here", "left", "right", "both", "more"] ["many", "values"] (defScope (top 29)) := ⟨rfl, rfl, rfl, by decide +kernel, rfl, by decide +kernel, by decide +kernel⟩
theorem v__law_is_hollow (M : Md K mg base) (h__law_bit : FnH P w (G K) mg base "_law_bit" 1 2 s__law_bit) (h__law_lots : FnH P w (G K) mg base "_law_lots" 1 2 s__law_lots) (h__law_place : FnH P w (G K) mg base "_law_place" 1 3 s__law_place) : FnH P w (G K) mg base "_law_is_hollow" 2 4 s__law_is_hollow := by
  obtain ⟨fd, F⟩ := M.F__law_is_hollow
  refine fnH_of (N := ["many", "values", "lot", "one", "two", "here", "left", "right", "both", "more"]) (ps := ["many", "values"]) (k := 3) F sc__law_is_hollow M.g__law_is_hollow (fun _ _ _ _ _ _ us hl => match us, hl with | [_, _], _ => rfl) (by decide) fun cdv A outer s0 H E H0 ED hcd hr hp bok => ?_
  exact ⟨_, (dss_cons (ds_for (passes_of rfl) rfl (di_seq rfl (de_call (h__law_lots.mono (by decide : 2 ≤ 3)) rfl hr hp bok rfl (da_cons (de_var 0) da_nil))) (dg_name 2 nd__law_is_hollow) (dss_one (ds_for (passes_of rfl) rfl (di_seq rfl (de_new (dn_lc rfl nd__law_is_hollow (di_range1 rfl M.b_range (da_cons (de_var 0) da_nil)) (blkOk_by (own := [("one", 3)]) (by kernel_rfl)) (fun _ _ _ _ _ => (dg_name 3 nd__law_is_hollow)) (fun _ _ _ _ _ => (dts_one (dt_notIn rfl hr (by with_unfolding_all rfl) (de_var 3) (de_var 2)))) (fun _ _ _ _ _ => (de_var 3))))) (dg_name 3 nd__law_is_hollow) (dss_one (ds_for (passes_of rfl) rfl (di_seq rfl (de_new (dn_lc rfl nd__law_is_hollow (di_range1 rfl M.b_range (da_cons (de_var 3) da_nil)) (blkOk_by (own := [("two", 4)]) (by kernel_rfl)) (fun _ _ _ _ _ => (dg_name 4 nd__law_is_hollow)) (fun _ _ _ _ _ => (dts_one (dt_notIn rfl hr (by with_unfolding_all rfl) (de_var 4) (de_var 2)))) (fun _ _ _ _ _ => (de_var 4))))) (dg_name 4 nd__law_is_hollow) (dss_cons (ds_par3 5 6 7 rfl nd__law_is_hollow (da_cons (de_call (h__law_place.mono (by decide : 3 ≤ 3)) rfl hr hp bok rfl (da_cons (de_var 2) da_nil)) (da_cons (de_call (h__law_bit.mono (by decide : 2 ≤ 3)) rfl hr hp bok rfl (da_cons (de_var 3) da_nil)) (da_cons (de_call (h__law_bit.mono (by decide : 2 ≤ 3)) rfl hr hp bok rfl (da_cons (de_var 4) da_nil)) da_nil)))) (dss_cons (ds_set 8 nd__law_is_hollow (de_add rfl (de_add rfl (de_var 5) (de_var 6)) (de_var 7))) (dss_cons (ds_set 9 nd__law_is_hollow (de_sub (de_ix rfl (de_var 1) (de_var 8)) (de_ix rfl (de_var 1) (de_add rfl (de_var 5) (de_var 7))))) (dss_one (ds_if (dt_cmp op_gt d_gt (nomark _) (de_var 9) (de_sub (de_ix rfl (de_var 1) (de_add rfl (de_var 5) (de_var 6))) (de_ix rfl (de_var 1) (de_var 5)))) (dss_one (ds_ret de_bl)) dss_nil)))))))))) (dss_one (ds_ret de_bl))), fun ds Q hl h => m__law_is_hollow (gs (K := K)) ds Q ED h⟩
theorem nd__law_word : (["call", "found", "e", "flags"] : List Str).Nodup := by decide
theorem sc__law_word : FnScope ["call", "found", "e", "flags"] ["call"] (defScope (top 30)) := ⟨rfl, rfl, rfl, by decide +kernel, rfl, by decide +kernel, by decide +kernel⟩
theorem v__law_word (M : Md K mg base) (CK : CloH P w (G K) mg base 6) : FnH P w (G K) mg base "_law_word" 1 7 s__law_word := by
  obtain ⟨fd, F⟩ := M.F__law_word
  refine fnH_of (N := ["call", "found", "e", "flags"]) (ps := ["call"]) (k := 6) F sc__law_word M.g__law_word (fun _ _ _ _ _ _ us hl => match us, hl with | [_], _ => rfl) (by decide) fun cdv A outer s0 H E H0 ED hcd hr hp bok => ?_
  exact ⟨_, (dss_cons (ds_set 1 nd__law_word de_str) (dss_cons (ds_try0 (k := 6) 0 2 (okW := fun d ρ => DL.ret (.nx (ρ.set 1 (.d d)))) (cat := fun c => decide (c < 1)) rfl rfl nd__law_word (CK.mono (by decide : 6 ≤ 6)) rfl hr ⟨rfl, by decide, .inl M.g_TableError⟩ (fun c0 h => M.xc c0 (of_decide_eq_true h)) (body_set 1 nd__law_word) (fun c0 a0 oe pn hcat hz hf => (dss_cons (ds_set 3 nd__law_word (de_lst (da_cons (de_isiE 2 (b := xisT c0 0) (c := .own 1) rfl (M.xo c0 (of_decide_eq_true hcat)).ec hz hf (M.xk_NoTable c0 (of_decide_eq_true hcat)) rfl M.b_isinstance (.own rfl M.g_NoTable (by decide))) da_nil))) (dss_one (ds_if (PW.pt (dt_and (dt_cmp (op_eqD hr.u64) (dop_eqV rfl) (nomark _) (de_lcount rfl hr.u65 (de_var 3) de_bl) de_int) (dt_and1 (dt_truth rfl (de_isiE 2 (b := xisT c0 1) (c := .ty "ValueError") rfl (M.xo c0 (of_decide_eq_true hcat)).ec hz hf (M.xk_ValueError c0 (of_decide_eq_true hcat)) rfl M.b_isinstance (.ty rfl M.b_ValueError rfl (by decide) (by decide))))))) (dss_one (ds_set 1 nd__law_word (de_ix rfl (de_lst (da_cons de_str da_nil)) (de_lindex rfl hr.u65 (de_var 3) de_bl)))) dss_nil))))) (dss_one (ds_ret (de_var 1))))), fun ds Q hl h => m__law_word (gs (K := K)) ds Q ED h⟩
theorem nd__law_lattice_right : (["some_lots", "one", "two", "both", "thing"] : List Str).Nodup := by decide
theorem sc__law_lattice_right : FnScope ["some_lots", "one", "two", "both", "thing"] ["some_lots"] (defScope (top 31)) := ⟨rfl, rfl, rfl, by decide +kernel, rfl, by decide +kernel, by decide +kernel⟩
theorem v__law_lattice_right (M : Md K mg base) : FnH P w (G K) mg base "_law_lattice_right" 1 2 s__law_lattice_right := by
  obtain ⟨fd, F⟩ := M.F__law_lattice_right
  refine fnH_of (N := ["some_lots", "one", "two", "both", "thing"]) (ps := ["some_lots"]) (k := 1) F sc__law_lattice_right M.g__law_lattice_right (fun _ _ _ _ _ _ us hl => match us, hl with | [_], _ => rfl) (by decide) fun cdv A outer s0 H E H0 ED hcd hr hp bok => ?_
  exact ⟨_, (dss_cons (ds_for (passes_of rfl) rfl (di_seq rfl (de_var 0)) (dg_name 1 nd__law_lattice_right) (dss_one (ds_for (passes_of rfl) rfl (di_seq rfl (de_var 0)) (dg_name 2 nd__law_lattice_right) (dss_cons (ds_set 3 nd__law_lattice_right (de_callTy call_tuple_of (d_tuple rfl) rfl M.b_tuple boot_tuple (da_cons (de_sortedSet rfl rfl rfl M.b_sorted rfl M.b_set (de_add rfl (de_var 1) (de_var 2))) da_nil))) (dss_one (ds_if (PW.pt (dt_or (dt_notIn rfl hr (by with_unfolding_all rfl) (de_var 3) (de_var 0)) (dt_or1 (dt_notIn rfl hr (by with_unfolding_all rfl) (de_callTy call_tuple_of (d_tuple rfl) rfl M.b_tuple boot_tuple (da_cons (de_new (dn_lc rfl nd__law_lattice_right (di_seq rfl (de_var 1)) (blkOk_by (own := [("thing", 4)]) (by kernel_rfl)) (fun _ _ _ _ _ => (dg_name 4 nd__law_lattice_right)) (fun _ _ _ _ _ => (dts_one (dt_in rfl hr (by with_unfolding_all rfl) (de_var 4) (de_var 2)))) (fun _ _ _ _ _ => (de_var 4)))) da_nil)) (de_var 0))))) (dss_one (ds_ret de_bl)) dss_nil)))))) (dss_one (ds_ret de_bl))), fun ds Q hl h => m__law_lattice_right (gs (K := K)) ds Q ED h⟩
theorem nd__law_called : (["many", "values", "order", "found", "lot", "value", "one"] : List Str).Nodup := by decide
theorem sc__law_called : FnScope ["many", "values", "order", "found", "lot", "value", "one"] ["many", "values", "order"] (defScope (top 32)) := ⟨rfl, rfl, rfl, by decide +kernel, rfl, by decide +kernel, by decide +kernel⟩
theorem v__law_called (M : Md K mg base) (h__law_lots : FnH P w (G K) mg base "_law_lots" 1 2 s__law_lots) (h__law_place : FnH P w (G K) mg base "_law_place" 1 3 s__law_place) : FnH P w (G K) mg base "_law_called" 3 4 s__law_called := by
  obtain ⟨fd, F⟩ := M.F__law_called
  refine fnH_of (N := ["many", "values", "order", "found", "lot", "value", "one"]) (ps := ["many", "values", "order"]) (k := 3) F sc__law_called M.g__law_called (fun _ _ _ _ _ _ us hl => match us, hl with | [_, _, _], _ => rfl) (by decide) fun cdv A outer s0 H E H0 ED hcd hr hp bok => ?_
  exact ⟨_, (dss_cons (ds_own 3 nd__law_called (dn_rep (de_lst (da_cons de_int da_nil)) (de_len rfl rfl M.b_len (da_cons (de_var 1) da_nil)))) (dss_cons (ds_for (passes_of rfl) rfl (di_zip2 rfl rfl M.b_zip (da_cons (de_call (h__law_lots.mono (by decide : 2 ≤ 3)) rfl hr hp bok rfl (da_cons (de_var 0) da_nil)) (da_cons (de_var 1) da_nil))) (dg_tup rfl rfl (dgs_cons (dg_name 4 nd__law_called) (dgs_cons (dg_name 5 nd__law_called) dgs_nil))) (dss_one (ds_setItem 3 (de_var 5) (de_call (h__law_place.mono (by decide : 3 ≤ 3)) rfl hr hp bok rfl (da_cons (de_new (dn_lc rfl nd__law_called (di_seq rfl (de_var 4)) (blkOk_by (own := [("one", 6)]) (by kernel_rfl)) (fun _ _ _ _ _ => (dg_name 6 nd__law_called)) (fun _ _ _ _ _ => dts_nil) (fun _ _ _ _ _ => (de_ix rfl (de_var 2) (de_var 6))))) da_nil))))) (dss_one (ds_frz 3 (ds_ret (de_callTy call_tuple_of (d_tuple rfl) rfl M.b_tuple boot_tuple (da_cons (de_var 3) da_nil))))))), fun ds Q hl h => m__law_called (gs (K := K)) ds Q ED h⟩
theorem nd__law_case_right : (["hand", "many", "values", "board", "least", "goal", "order", "gone", "other", "lot", "pair", "value", "one"] : List Str).Nodup := by decide
theorem sc__law_case_right : FnScope ["hand", "many", "values", "board", "least", "goal", "order", "gone", "other", "lot", "pair", "value", "one"] ["hand", "many", "values"] (defScope (top 33)) := ⟨rfl, rfl, rfl, by decide +kernel, rfl, by decide +kernel, by decide +kernel⟩
theorem v__law_case_right (M : Md K mg base) (EQ : EqsH P w (G K) mg base 2 eqS) (h__law_called : FnH P w (G K) mg base "_law_called" 3 4 s__law_called) (h__law_is : FnH P w (G K) mg base "_law_is" 2 12 s__law_is) (h__law_is_hollow : FnH P w (G K) mg base "_law_is_hollow" 2 4 s__law_is_hollow) (h__law_lattice_right : FnH P w (G K) mg base "_law_lattice_right" 1 2 s__law_lattice_right) (h__law_lots : FnH P w (G K) mg base "_law_lots" 1 2 s__law_lots) (h__law_mixed : FnH P w (G K) mg base "_law_mixed" 2 5 s__law_mixed) (h__law_place : FnH P w (G K) mg base "_law_place" 1 3 s__law_place) (h_least_lots : FnH P w (G K) mg base "least_lots" 1 5 s_least_lots) (h_Table : MkH P w (G K) mg base "Table" 0 2 4 mk_Table) : FnH P w (G K) mg base "_law_case_right" 3 13 s__law_case_right := by
  obtain ⟨fd, F⟩ := M.F__law_case_right
  refine fnH_of (N := ["hand", "many", "values", "board", "least", "goal", "order", "gone", "other", "lot", "pair", "value", "one"]) (ps := ["hand", "many", "values"]) (k := 12) F sc__law_case_right M.g__law_case_right (fun _ _ _ _ _ _ us hl => match us, hl with | [_, _, _], _ => rfl) (by decide) fun cdv A outer s0 H E H0 ED hcd hr hp bok => ?_
  exact ⟨_, (dss_cons (ds_set 3 nd__law_case_right (de_make (h_Table.mono (by decide : 4 ≤ 11)) rfl hr hp bok rfl (da_cons (de_var 1) (da_cons (de_var 2) da_nil)))) (dss_cons (ds_set 4 nd__law_case_right (de_callB (cr_minU rfl hr.u65) (d_minU rfl) rfl M.b_min boot_min (da_cons (de_var 2) da_nil))) (dss_cons (ds_set 5 nd__law_case_right (de_callTy call_tuple_of (d_tuple rfl) rfl M.b_tuple boot_tuple (da_cons (de_new (dn_lc rfl nd__law_case_right (di_zip2 rfl rfl M.b_zip (da_cons (de_call (h__law_lots.mono (by decide : 2 ≤ 12)) rfl hr hp bok rfl (da_cons (de_var 1) da_nil)) (da_cons (de_var 2) da_nil))) (blkOk_by (own := [("lot", 9), ("value", 11)]) (by kernel_rfl)) (fun _ _ _ _ _ => (dg_tup rfl rfl (dgs_cons (dg_name 9 nd__law_case_right) (dgs_cons (dg_name 11 nd__law_case_right) dgs_nil)))) (fun _ _ _ _ _ => (dts_one (dt_eq rfl hr (EQ.mono (by decide : 2 ≤ 11)) (nomark _) (de_var 11) (de_var 4)))) (fun _ _ _ _ _ => (de_var 9)))) da_nil))) (dss_cons (ds_if (dt_not (dt_truth rfl (de_call (h__law_is.mono (by decide : 12 ≤ 12)) rfl hr hp bok rfl (da_cons (de_call (h_least_lots.mono (by decide : 5 ≤ 12)) rfl hr hp bok rfl (da_cons (de_var 3) da_nil)) (da_cons (de_tup (da_cons (de_var 4) (da_cons (de_var 5) da_nil))) da_nil))))) (dss_one (ds_ret de_bl)) dss_nil) (dss_cons (ds_if (PW.pt (dt_and (dt_truth rfl (de_call (h__law_is_hollow.mono (by decide : 4 ≤ 12)) rfl hr hp bok rfl (da_cons (de_var 1) (da_cons (de_var 2) da_nil)))) (dt_and1 (dt_not (dt_truth rfl (de_call (h__law_lattice_right.mono (by decide : 2 ≤ 12)) rfl hr hp bok rfl (da_cons (de_var 5) da_nil))))))) (dss_one (ds_ret de_bl)) dss_nil) (dss_cons (ds_set 6 nd__law_case_right (de_callTy call_tuple_of (d_tuple rfl) rfl M.b_tuple boot_tuple (da_cons (de_call (h__law_mixed.mono (by decide : 5 ≤ 12)) rfl hr hp bok rfl (da_cons (de_var 0) (da_cons (de_listRg rfl rfl M.b_list rfl M.b_range (de_var 1)) da_nil))) da_nil))) (dss_cons (ds_setLc 7 rfl nd__law_case_right (di_seq rfl (de_var 5)) (blkOk_by (own := [("lot", 9)]) (by kernel_rfl)) (fun _ _ _ _ _ => (dg_name 9 nd__law_case_right)) (fun _ _ _ _ _ => dts_nil) (fun _ _ _ _ _ => (de_callTy call_tuple_of (d_tuple rfl) rfl M.b_tuple boot_tuple (da_cons (de_callB (cr_sortAny hr.u65) (d_sortAny rfl) rfl M.b_sorted boot_sorted (da_cons (de_new (dn_lc rfl nd__law_case_right (di_seq rfl (de_var 9)) (blkOk_by (own := [("one", 12)]) (by kernel_rfl)) (fun _ _ _ _ _ => (dg_name 12 nd__law_case_right)) (fun _ _ _ _ _ => dts_nil) (fun _ _ _ _ _ => (de_ix rfl (de_var 6) (de_var 12))))) da_nil)) da_nil)))) (dss_cons (ds_setLc 7 rfl nd__law_case_right (di_seq rfl (de_callB (cr_sortAny hr.u65) (d_sortAny rfl) rfl M.b_sorted boot_sorted (da_cons (de_new (dn_lc rfl nd__law_case_right (di_seq rfl (de_var 7)) (blkOk_by (own := [("lot", 9)]) (by kernel_rfl)) (fun _ _ _ _ _ => (dg_name 9 nd__law_case_right)) (fun _ _ _ _ _ => dts_nil) (fun _ _ _ _ _ => (de_tup (da_cons (de_call (h__law_place.mono (by decide : 3 ≤ 12)) rfl hr passL (Bx.no_ok _) rfl (da_cons (de_var 9) da_nil)) (da_cons (de_var 9) da_nil)))))) da_nil))) (blkOk_by (own := [("pair", 10)]) (by kernel_rfl)) (fun _ _ _ _ _ => (dg_name 10 nd__law_case_right)) (fun _ _ _ _ _ => dts_nil) (fun _ _ _ _ _ => (de_ix rfl (de_var 10) de_int))) (dss_cons (ds_set 8 nd__law_case_right (de_make (h_Table.mono (by decide : 4 ≤ 11)) rfl hr hp bok rfl (da_cons (de_var 1) (da_cons (de_call (h__law_called.mono (by decide : 4 ≤ 12)) rfl hr hp bok rfl (da_cons (de_var 1) (da_cons (de_var 2) (da_cons (de_var 6) da_nil)))) da_nil)))) (dss_cons (ds_if (dt_not (dt_truth rfl (de_call (h__law_is.mono (by decide : 12 ≤ 12)) rfl hr hp bok rfl (da_cons (de_call (h_least_lots.mono (by decide : 5 ≤ 12)) rfl hr hp bok rfl (da_cons (de_var 8) da_nil)) (da_cons (de_tup (da_cons (de_var 4) (da_cons (de_callTy call_tuple_of (d_tuple rfl) rfl M.b_tuple boot_tuple (da_cons (de_var 7) da_nil)) da_nil))) da_nil))))) (dss_one (ds_ret de_bl)) dss_nil) (dss_one (ds_ret (de_call (h__law_is.mono (by decide : 12 ≤ 12)) rfl hr hp bok rfl (da_cons (de_lst (da_cons (de_fld rfl M.gok (de_var 3)) (da_cons (de_fld rfl M.gok (de_var 3)) da_nil))) (da_cons (de_lst (da_cons (de_var 1) (da_cons (de_var 2) da_nil))) da_nil))))))))))))))), fun ds Q hl h => m__law_case_right (gs (K := K)) ds Q ED h⟩
theorem nd_law : (["script", "hand", "known", "odd", "turn", "many", "values"] : List Str).Nodup := by decide
theorem sc_law : FnScope ["script", "hand", "known", "odd", "turn", "many", "values"] ["script"] (defScope (top 34)) := ⟨rfl, rfl, rfl, by decide +kernel, rfl, by decide +kernel, by decide +kernel⟩
theorem v_law {fd : FuncData} (M : Md K mg base) (EQ : EqsH P w (G K) mg base 2 eqS) (h__law_any : FnH P w (G K) mg base "_law_any" 2 5 s__law_any) (h__law_case_right : FnH P w (G K) mg base "_law_case_right" 3 13 s__law_case_right) (h__law_draw : FnH P w (G K) mg base "_law_draw" 2 4 s__law_draw) (h__law_hand : FnH P w (G K) mg base "_law_hand" 1 2 s__law_hand) (h__law_hollow_values : FnH P w (G K) mg base "_law_hollow_values" 2 5 s__law_hollow_values) (h__law_is : FnH P w (G K) mg base "_law_is" 2 12 s__law_is) (h__law_values : FnH P w (G K) mg base "_law_values" 2 6 s__law_values) (h__law_word : FnH P w (G K) mg base "_law_word" 1 7 s__law_word) (h_least_lots : FnH P w (G K) mg base "least_lots" 1 5 s_least_lots) (h_Table : MkH P w (G K) mg base "Table" 0 2 4 mk_Table) (F : FunD K "law" "law" (defArgs (top 34)) (defBody (top 34)) (defScope (top 34)) [] [] (He.fAd K ("law", none)) fd) : DL.FnOk P w (G K).K mg base (L2.CX P w) 14 (He.fAd K ("law", none)) fd ["script"] (liftSp (G K) 1 s_law) := by
  refine fnOk_of (N := ["script", "hand", "known", "odd", "turn", "many", "values"]) (ps := ["script"]) (k := 13) F sc_law (by decide) fun cdv A outer s0 H E H0 ED hcd hr hp bok => ?_
  have TB := M.t_law
  have hc := (code_of F).symm.trans hcd |>.symm
  exact ⟨_, (dss_cons (ds_set 1 nd_law (de_call (h__law_hand.mono (by decide : 2 ≤ 13)) rfl hr hp bok rfl (da_cons (de_var 0) da_nil))) (dss_cons (ds_set 2 nd_law (de_make (h_Table.mono (by decide : 4 ≤ 12)) rfl hr hp bok rfl (da_cons de_int (da_cons (de_tup (da_cons de_int (da_cons (de_neg de_int) (da_cons (de_neg de_int) (da_cons (de_neg de_int) da_nil))))) da_nil)))) (dss_cons (ds_if (dt_not (dt_truth rfl (de_call (h__law_is.mono (by decide : 12 ≤ 13)) rfl hr hp bok rfl (da_cons (de_lst (da_cons (de_call (h_least_lots.mono (by decide : 5 ≤ 13)) rfl hr hp bok rfl (da_cons (de_var 2) da_nil)) (da_cons (de_call (h_least_lots.mono (by decide : 5 ≤ 13)) rfl hr hp bok rfl (da_cons (de_make (h_Table.mono (by decide : 4 ≤ 12)) rfl hr hp bok rfl (da_cons de_int (da_cons (de_tup (da_cons de_int (da_cons de_int da_nil))) da_nil))) da_nil)) da_nil))) (da_cons (de_lst (da_cons (de_tup (da_cons (de_neg de_int) (da_cons (de_tup (da_cons (de_tup (da_cons de_int (da_cons de_int da_nil))) da_nil)) da_nil))) (da_cons (de_tup (da_cons de_int (da_cons (de_tup (da_cons (de_tup da_nil) (da_cons (de_tup (da_cons de_int da_nil)) da_nil))) da_nil))) da_nil))) da_nil))))) (dss_one (ds_ret de_bl)) dss_nil) (dss_cons (ds_set 3 nd_law (de_call (h__law_any.mono (by decide : 5 ≤ 13)) rfl hr hp bok rfl (da_cons (de_var 1) (da_cons (de_lst (da_cons de_non (da_cons de_int (da_cons (de_tup (da_cons de_int (da_cons de_int da_nil))) (da_cons de_str (da_cons (de_lst da_nil) (da_cons de_dic0 (da_cons (de_tup (da_cons de_int (da_cons (de_tup (da_cons de_int (da_cons de_int da_nil))) da_nil))) da_nil)))))))) da_nil)))) (dss_cons (ds_if (dt_ne rfl hr (EQ.mono (by decide : 2 ≤ 12)) (nomark _) (de_callL (js := [3]) (L := lam0) (j := 0) (h__law_word.mono (by decide : 7 ≤ 13)) rfl hr rfl rfl rfl rfl (NdefX.ndef_free (fr := lam0.fr) (by kernel_rfl)) (by decide +kernel) (by decide +kernel) (by kernel_rfl) (dal_lam (L := lam0) (nm := nmAll) TB hc (T_mem_law) (by kernel_rfl) (by kernel_rfl) T_nm (by rfl) (NdefX.ndef_free (fr := lam0.fr) (by kernel_rfl)))) de_str) (dss_one (ds_ret de_bl)) dss_nil) (dss_cons (ds_for (passes_of rfl) rfl (di_range1 rfl M.b_range (da_cons de_int da_nil)) (dg_name 4 nd_law) (dss_cons (ds_set 5 nd_law (de_add rfl de_int (de_call (h__law_draw.mono (by decide : 4 ≤ 13)) rfl hr hp bok rfl (da_cons (de_var 1) (da_cons de_int da_nil))))) (dss_cons (ds_set 6 nd_law (de_if (dt_eq rfl hr (EQ.mono (by decide : 2 ≤ 12)) (nomark _) (de_call (h__law_draw.mono (by decide : 4 ≤ 13)) rfl hr hp bok rfl (da_cons (de_var 1) (da_cons de_int da_nil))) de_int) (de_call (h__law_hollow_values.mono (by decide : 5 ≤ 13)) rfl hr hp bok rfl (da_cons (de_var 1) (da_cons (de_var 5) da_nil))) (de_call (h__law_values.mono (by decide : 6 ≤ 13)) rfl hr hp bok rfl (da_cons (de_var 1) (da_cons (de_var 5) da_nil))))) (dss_one (ds_if (dt_not (dt_truth rfl (de_call (h__law_case_right.mono (by decide : 13 ≤ 13)) rfl hr hp bok rfl (da_cons (de_var 1) (da_cons (de_var 5) (da_cons (de_var 6) da_nil)))))) (dss_one (ds_ret de_bl)) dss_nil))))) (dss_one (ds_ret de_bl)))))))), fun ds Q hl h => m_law (gs (K := K)) ds Q ED h⟩
theorem ndL_0 : (["odd"] : List Str).Nodup := by decide
theorem vl_0 (M : Md K mg base) (h_least_lots : FnH P w (G K) mg base "least_lots" 1 5 s_least_lots) : LamOk P w (G K) mg base 6 0 := by
  refine lam_of (N := ["odd"]) (k := 5) (NdefX.nscope_by (by kernel_rfl)) (fun _ _ _ _ us hl => match us, hl with | [], _ => rfl) fun A outer s H H0 f cl c ED E hr bok => ?_
  exact ⟨_, (de_call (h_least_lots.mono (by decide : 5 ≤ 5)) rfl hr (passes_call (takes_of rfl rfl rfl rfl) fun _ _ _ _ h => h) bok rfl (da_cons (de_var 0) da_nil)), fun cs ds Q hl1 hl2 h => mL_0 (gs (K := K)) cs ds Q ED h⟩
end
end K09
end
section
set_option Elab.async false
set_option linter.all false
set_option maxRecDepth 100000
set_option maxHeartbeats 4000000
set_option autoImplicit false
set_option maxHeartbeats 0
namespace K09
open PySem PySem.Spec L2 DL PyProof.Rows

abbrev R : PySem.W.OpenRow := PySem.W.OpenLaw.row PySem.Challenge.rw_bringsless_k09_whole_least_lots_and_thei
def dd_is_integer : He.DefD := ⟨("is_integer", none), "is_integer", "is_integer", defArgs (top 8), defBody (top 8), defScope (top 8), [], []⟩
def dd_is_between : He.DefD := ⟨("is_between", none), "is_between", "is_between", defArgs (top 9), defBody (top 9), defScope (top 9), [], []⟩
def dd_mask_of : He.DefD := ⟨("mask_of", none), "mask_of", "mask_of", defArgs (top 11), defBody (top 11), defScope (top 11), [], []⟩
def dd_lot_of : He.DefD := ⟨("lot_of", none), "lot_of", "lot_of", defArgs (top 12), defBody (top 12), defScope (top 12), [], []⟩
def dd_Table_init : He.DefD := ⟨("Table", some "__init__"), "__init__", "Table.__init__", defArgs (mth 13 0), defBody (mth 13 0), defScope (mth 13 0), [], []⟩
def dd_Table_eq : He.DefD := ⟨("Table", some "__eq__"), "__eq__", "Table.__eq__", defArgs (mth 13 1), defBody (mth 13 1), defScope (mth 13 1), [], []⟩
def dd_check_table : He.DefD := ⟨("check_table", none), "check_table", "check_table", defArgs (top 14), defBody (top 14), defScope (top 14), [], []⟩
def dd_least_masks : He.DefD := ⟨("least_masks", none), "least_masks", "least_masks", defArgs (top 16), defBody (top 16), defScope (top 16), [], []⟩
def dd_least_lots : He.DefD := ⟨("least_lots", none), "least_lots", "least_lots", defArgs (top 17), defBody (top 17), defScope (top 17), [], []⟩
def dd__law_hand : He.DefD := ⟨("_law_hand", none), "_law_hand", "_law_hand", defArgs (top 19), defBody (top 19), defScope (top 19), [], []⟩
def dd__law_draw : He.DefD := ⟨("_law_draw", none), "_law_draw", "_law_draw", defArgs (top 20), defBody (top 20), defScope (top 20), [], []⟩
def dd__law_any : He.DefD := ⟨("_law_any", none), "_law_any", "_law_any", defArgs (top 21), defBody (top 21), defScope (top 21), [], []⟩
def dd__law_is : He.DefD := ⟨("_law_is", none), "_law_is", "_law_is", defArgs (top 22), defBody (top 22), defScope (top 22), [], []⟩
def dd__law_mixed : He.DefD := ⟨("_law_mixed", none), "_law_mixed", "_law_mixed", defArgs (top 23), defBody (top 23), defScope (top 23), [], []⟩
def dd__law_lots : He.DefD := ⟨("_law_lots", none), "_law_lots", "_law_lots", defArgs (top 24), defBody (top 24), defScope (top 24), [], []⟩
def dd__law_bit : He.DefD := ⟨("_law_bit", none), "_law_bit", "_law_bit", defArgs (top 25), defBody (top 25), defScope (top 25), [], []⟩
def dd__law_place : He.DefD := ⟨("_law_place", none), "_law_place", "_law_place", defArgs (top 26), defBody (top 26), defScope (top 26), [], []⟩
def dd__law_hollow_values : He.DefD := ⟨("_law_hollow_values", none), "_law_hollow_values", "_law_hollow_values", defArgs (top 27), defBody (top 27), defScope (top 27), [], []⟩
def dd__law_values : He.DefD := ⟨("_law_values", none), "_law_values", "_law_values", defArgs (top 28), defBody (top 28), defScope (top 28), [], []⟩
def dd__law_is_hollow : He.DefD := ⟨("_law_is_hollow", none), "_law_is_hollow", "_law_is_hollow", defArgs (top 29), defBody (top 29), defScope (top 29), [], []⟩
def dd__law_word : He.DefD := ⟨("_law_word", none), "_law_word", "_law_word", defArgs (top 30), defBody (top 30), defScope (top 30), [], []⟩
def dd__law_lattice_right : He.DefD := ⟨("_law_lattice_right", none), "_law_lattice_right", "_law_lattice_right", defArgs (top 31), defBody (top 31), defScope (top 31), [], []⟩
def dd__law_called : He.DefD := ⟨("_law_called", none), "_law_called", "_law_called", defArgs (top 32), defBody (top 32), defScope (top 32), [], []⟩
def dd__law_case_right : He.DefD := ⟨("_law_case_right", none), "_law_case_right", "_law_case_right", defArgs (top 33), defBody (top 33), defScope (top 33), [], []⟩
def dd_law : He.DefD := ⟨("law", none), "law", "law", defArgs (top 34), defBody (top 34), defScope (top 34), [], []⟩
def fn : List He.DefD := [dd_is_integer, dd_is_between, dd_mask_of, dd_lot_of, dd_Table_init, dd_Table_eq, dd_check_table, dd_least_masks, dd_least_lots, dd__law_hand, dd__law_draw, dd__law_any, dd__law_is, dd__law_mixed, dd__law_lots, dd__law_bit, dd__law_place, dd__law_hollow_values, dd__law_values, dd__law_is_hollow, dd__law_word, dd__law_lattice_right, dd__law_called, dd__law_case_right, dd_law]
def fa0 : List He.Fa := [.glo "NoTable", .glo "POWERS", .glo "Table", .glo "TableError", .glo "_law_any", .glo "_law_bit", .glo "_law_called", .glo "_law_case_right", .glo "_law_draw", .glo "_law_hand", .glo "_law_hollow_values", .glo "_law_is", .glo "_law_is_hollow", .glo "_law_lattice_right", .glo "_law_lots"]
def fa1 : List He.Fa := [.glo "_law_mixed", .glo "_law_place", .glo "_law_values", .glo "_law_word", .glo "check_table", .glo "is_between", .glo "is_integer", .glo "law", .glo "least_lots", .glo "least_masks", .glo "lot_of", .glo "mask_of", .free "ValueError", .free "abs", .free "all"]
def fa2 : List He.Fa := [.free "bool", .free "enumerate", .free "int", .free "isinstance", .free "len", .free "list", .free "min", .free "range", .free "set", .free "sorted", .free "str", .free "sum", .free "tuple", .free "zip", .int "MOST_THINGS" 7]
def fa3 : List He.Fa := [.cls "Table", .mkr "Table", .noat "Table" "many", .noat "Table" "numbers", .meth "Table" "__eq__"]
def fa : List He.Fa := fa0 ++ fa1 ++ fa2 ++ fa3
def ex (K : PySem.W.Frag) : Bool := clsIB K (He.ga K "Table") && (He.tupB K "POWERS" (powers.map He.Dv.int) && (excB K (He.ga K "NoTable") && (catB K (He.ga K "NoTable") (He.ga K "TableError") && (kitB K (He.ga K "NoTable") (.ref (He.ga K "NoTable")) (xisT 0 0) && (kitB K (He.ga K "NoTable") (.type "ValueError") (xisT 0 1))))))
def nm0 : List PySem.Str := ["TableError", "BadTable", "NoTable", "NoLot", "MOST_THINGS", "POWERS", "is_integer", "is_between", "is_lot", "mask_of", "lot_of", "Table", "check_table", "least_masks", "least_lots"]
def nm1 : List PySem.Str := ["_law_hand", "_law_draw", "_law_any", "_law_is", "_law_mixed", "_law_lots", "_law_bit", "_law_place", "_law_hollow_values", "_law_values", "_law_is_hollow", "_law_word", "_law_lattice_right", "_law_called", "_law_case_right"]
def loose : List PySem.Str := nm0 ++ nm1
abbrev hk : PySem.W.Hook := He.hookX 7 fa fn [] tfs ex
def ob (s : PySem.W.SharedT) : He.AlX := He.obsX 7 fa fn [] tfs ex (HandSHeadRun.getT s)
theorem ob_eq (s : PySem.W.SharedT) : ob s = hk.obs s.abs := He.obsX_eq (HandSHeadRun.getT_eq s)
theorem run (w : World) : HandSHeadRun.RunEq R (PySem.W.view R.prog [34]) hk ob 9000 loose w := by
  intro os
  kernel_rfl
section
variable {P : Program} {w : World} {K : PySem.W.Frag} {mg : Str → Option Value} {base h : Heap}
theorem gok (c : He.SaysX fa fn [] tfs ex w h K) : GOk (G K) := by
  have cf := c.t.d
  have cl0 : Cls K (He.ga K "Table") := He.cls_ok (cf.fact 45 (f := .cls "Table") rfl)
  have ci0 : ClsI (G K) 0 := clsI_of (G := G K) (c := 0) ((He.ba c.more).1) cl0
  refine ⟨fun c hc => ?_, fun c f hf => ?_, fun c => ?_, fun c => ?_, fun c hc => ?_, fun c c2 h1 h2 h3 => ?_⟩
  · match c, hc with
    | 0, _ => exact cl0
    | _ + 1, h => exact absurd rfl h
  · match c, hf with
    | 0, hf =>
      have hf : f ∈ (["many", "numbers"] : List Str) := hf
      simp only [List.mem_cons, List.not_mem_nil, or_false] at hf
      rcases hf with rfl | rfl
      · exact He.noat_ok (cf.fact 47 (f := .noat "Table" "many") rfl)
      · exact He.noat_ok (cf.fact 48 (f := .noat "Table" "numbers") rfl)
    | _ + 1, h => cases h
  · match c with
    | 0 => exact (by decide : (flds 0).Nodup)
    | _ + 1 => exact List.nodup_nil
  · match c with
    | 0 => exact (by decide : (flds 0).length ≤ 100)
    | _ + 1 => exact Nat.zero_le _
  · match c, hc with
    | 0, _ => exact ci0
    | _ + 1, h => exact absurd rfl h
  · match c, c2, h1, h2, h3 with
    | 0, 0, _, _, h => exact absurd rfl h
    | 0, _ + 1, _, h, _ => exact absurd rfl h
    | _ + 1, _, h, _, _ => exact absurd rfl h
theorem md_of {h' : Heap} (X : K.In h') (Y : h'.Ns mainGlobals mg) (c : He.SaysX fa fn [] tfs ex w h K) (hT : ∀ p ∈ tfs, LamX.TabB base mg (He.cT K p).1 (He.cT K p).2) : Md K mg base where
  gok := gok c
  b_ValueError := He.free_ok X Y (c.t.d.fact 27 (f := .free "ValueError") rfl)
  b_abs := He.free_ok X Y (c.t.d.fact 28 (f := .free "abs") rfl)
  b_all := He.free_ok X Y (c.t.d.fact 29 (f := .free "all") rfl)
  b_bool := He.free_ok X Y (c.t.d.fact 30 (f := .free "bool") rfl)
  b_enumerate := He.free_ok X Y (c.t.d.fact 31 (f := .free "enumerate") rfl)
  b_int := He.free_ok X Y (c.t.d.fact 32 (f := .free "int") rfl)
  b_isinstance := He.free_ok X Y (c.t.d.fact 33 (f := .free "isinstance") rfl)
  b_len := He.free_ok X Y (c.t.d.fact 34 (f := .free "len") rfl)
  b_list := He.free_ok X Y (c.t.d.fact 35 (f := .free "list") rfl)
  b_min := He.free_ok X Y (c.t.d.fact 36 (f := .free "min") rfl)
  b_range := He.free_ok X Y (c.t.d.fact 37 (f := .free "range") rfl)
  b_set := He.free_ok X Y (c.t.d.fact 38 (f := .free "set") rfl)
  b_sorted := He.free_ok X Y (c.t.d.fact 39 (f := .free "sorted") rfl)
  b_str := He.free_ok X Y (c.t.d.fact 40 (f := .free "str") rfl)
  b_sum := He.free_ok X Y (c.t.d.fact 41 (f := .free "sum") rfl)
  b_tuple := He.free_ok X Y (c.t.d.fact 42 (f := .free "tuple") rfl)
  b_zip := He.free_ok X Y (c.t.d.fact 43 (f := .free "zip") rfl)
  g_NoTable := He.glo_ok X Y (c.t.d.fact 0 (f := .glo "NoTable") rfl)
  g_POWERS := He.glo_ok X Y (c.t.d.fact 1 (f := .glo "POWERS") rfl)
  g_Table := He.glo_ok X Y (c.t.d.fact 2 (f := .glo "Table") rfl)
  g_TableError := He.glo_ok X Y (c.t.d.fact 3 (f := .glo "TableError") rfl)
  g__law_any := He.glo_ok X Y (c.t.d.fact 4 (f := .glo "_law_any") rfl)
  g__law_bit := He.glo_ok X Y (c.t.d.fact 5 (f := .glo "_law_bit") rfl)
  g__law_called := He.glo_ok X Y (c.t.d.fact 6 (f := .glo "_law_called") rfl)
  g__law_case_right := He.glo_ok X Y (c.t.d.fact 7 (f := .glo "_law_case_right") rfl)
  g__law_draw := He.glo_ok X Y (c.t.d.fact 8 (f := .glo "_law_draw") rfl)
  g__law_hand := He.glo_ok X Y (c.t.d.fact 9 (f := .glo "_law_hand") rfl)
  g__law_hollow_values := He.glo_ok X Y (c.t.d.fact 10 (f := .glo "_law_hollow_values") rfl)
  g__law_is := He.glo_ok X Y (c.t.d.fact 11 (f := .glo "_law_is") rfl)
  g__law_is_hollow := He.glo_ok X Y (c.t.d.fact 12 (f := .glo "_law_is_hollow") rfl)
  g__law_lattice_right := He.glo_ok X Y (c.t.d.fact 13 (f := .glo "_law_lattice_right") rfl)
  g__law_lots := He.glo_ok X Y (c.t.d.fact 14 (f := .glo "_law_lots") rfl)
  g__law_mixed := He.glo_ok X Y (c.t.d.fact 15 (f := .glo "_law_mixed") rfl)
  g__law_place := He.glo_ok X Y (c.t.d.fact 16 (f := .glo "_law_place") rfl)
  g__law_values := He.glo_ok X Y (c.t.d.fact 17 (f := .glo "_law_values") rfl)
  g__law_word := He.glo_ok X Y (c.t.d.fact 18 (f := .glo "_law_word") rfl)
  g_check_table := He.glo_ok X Y (c.t.d.fact 19 (f := .glo "check_table") rfl)
  g_is_between := He.glo_ok X Y (c.t.d.fact 20 (f := .glo "is_between") rfl)
  g_is_integer := He.glo_ok X Y (c.t.d.fact 21 (f := .glo "is_integer") rfl)
  g_law := He.glo_ok X Y (c.t.d.fact 22 (f := .glo "law") rfl)
  g_least_lots := He.glo_ok X Y (c.t.d.fact 23 (f := .glo "least_lots") rfl)
  g_least_masks := He.glo_ok X Y (c.t.d.fact 24 (f := .glo "least_masks") rfl)
  g_lot_of := He.glo_ok X Y (c.t.d.fact 25 (f := .glo "lot_of") rfl)
  g_mask_of := He.glo_ok X Y (c.t.d.fact 26 (f := .glo "mask_of") rfl)
  c_MOST_THINGS := He.int_ok X Y (c.t.d.fact 44 (f := .int "MOST_THINGS" 7) rfl)
  d_POWERS := den_consts (G := G K) ((He.ba (He.ba c.more).2).1)
  F_is_integer := c.t.d.def_ 0 (d := dd_is_integer) rfl
  F_is_between := c.t.d.def_ 1 (d := dd_is_between) rfl
  F_mask_of := c.t.d.def_ 2 (d := dd_mask_of) rfl
  F_lot_of := c.t.d.def_ 3 (d := dd_lot_of) rfl
  F_Table_init := c.t.d.def_ 4 (d := dd_Table_init) rfl
  F_Table_eq := c.t.d.def_ 5 (d := dd_Table_eq) rfl
  F_check_table := c.t.d.def_ 6 (d := dd_check_table) rfl
  F_least_masks := c.t.d.def_ 7 (d := dd_least_masks) rfl
  F_least_lots := c.t.d.def_ 8 (d := dd_least_lots) rfl
  F__law_hand := c.t.d.def_ 9 (d := dd__law_hand) rfl
  F__law_draw := c.t.d.def_ 10 (d := dd__law_draw) rfl
  F__law_any := c.t.d.def_ 11 (d := dd__law_any) rfl
  F__law_is := c.t.d.def_ 12 (d := dd__law_is) rfl
  F__law_mixed := c.t.d.def_ 13 (d := dd__law_mixed) rfl
  F__law_lots := c.t.d.def_ 14 (d := dd__law_lots) rfl
  F__law_bit := c.t.d.def_ 15 (d := dd__law_bit) rfl
  F__law_place := c.t.d.def_ 16 (d := dd__law_place) rfl
  F__law_hollow_values := c.t.d.def_ 17 (d := dd__law_hollow_values) rfl
  F__law_values := c.t.d.def_ 18 (d := dd__law_values) rfl
  F__law_is_hollow := c.t.d.def_ 19 (d := dd__law_is_hollow) rfl
  F__law_word := c.t.d.def_ 20 (d := dd__law_word) rfl
  F__law_lattice_right := c.t.d.def_ 21 (d := dd__law_lattice_right) rfl
  F__law_called := c.t.d.def_ 22 (d := dd__law_called) rfl
  F__law_case_right := c.t.d.def_ 23 (d := dd__law_case_right) rfl
  F_law := c.t.d.def_ 24 (d := dd_law) rfl
  m_Table_eq := He.meth_ok (c.t.d.fact 49 (f := .meth "Table" "__eq__") rfl)
  mk_Table := He.mkr_ok (c.t.d.fact 46 (f := .mkr "Table") rfl)
  xo := fun c0 hc0 => match c0, hc0 with | 0, _ => excB_ok ((He.ba (He.ba (He.ba c.more).2).2).1) | _ + 1, h => absurd h (by omega)
  xc := fun c0 hc0 => match c0, hc0 with | 0, _ => catB_ok ((He.ba (He.ba (He.ba (He.ba c.more).2).2).2).1) | _ + 1, h => absurd h (by omega)
  xk_NoTable := fun c0 hc0 => match c0, hc0 with | 0, _ => kitB_ok ((He.ba (He.ba (He.ba (He.ba (He.ba c.more).2).2).2).2).1) | _ + 1, h => absurd h (by omega)
  xk_ValueError := fun c0 hc0 => match c0, hc0 with | 0, _ => kitB_ok ((He.ba (He.ba (He.ba (He.ba (He.ba c.more).2).2).2).2).2) | _ + 1, h => absurd h (by omega)
  t_law := hT ("law", none) (by decide)
theorem law_run {fd : FuncData} (M : Md K mg base) (F : FunD K "law" "law" (defArgs (top 34)) (defBody (top 34)) (defScope (top 34)) [] [] (He.fAd K ("law", none)) fd) : DL.FnOk P w (G K).K mg base (L2.CX P w) 14 (He.fAd K ("law", none)) fd ["script"] (liftSp (G K) 1 s_law) := by
  have EQ : EqsH P w (G K) mg base 2 eqS := fun c Q E x y q => match c, q with | 0, _ => ⟨(v_Table_eq M).mono (by decide), M.gok.ty 0 (List.cons_ne_nil _ _)⟩ | _ + 1, q => (eqS_no q).elim
  have h__law_draw : FnH P w (G K) mg base "_law_draw" 2 4 s__law_draw := v__law_draw M EQ
  have h__law_any : FnH P w (G K) mg base "_law_any" 2 5 s__law_any := v__law_any M h__law_draw
  have h__law_lots : FnH P w (G K) mg base "_law_lots" 1 2 s__law_lots := v__law_lots M
  have h__law_bit : FnH P w (G K) mg base "_law_bit" 1 2 s__law_bit := v__law_bit M
  have h__law_place : FnH P w (G K) mg base "_law_place" 1 3 s__law_place := v__law_place M h__law_bit
  have h__law_called : FnH P w (G K) mg base "_law_called" 3 4 s__law_called := v__law_called M h__law_lots h__law_place
  have h0 : FnH P w (G K) mg base "_law_is" 2 6 (s__law_is_n 0) := (by
    obtain ⟨fd, F⟩ := M.F__law_is
    exact (fnH_of (N := ["given", "due", "one", "other"]) (ps := ["given", "due"]) (k := 5) (s := fun _ => stk) F sc__law_is M.g__law_is (fun _ _ _ _ _ _ us hl => match us, hl with | [_, _], _ => rfl) (by decide) fun _ _ _ _ _ _ _ _ _ _ _ _ => ⟨_, dss_stuck, fun _ _ _ h => (show False from h).elim⟩).imp fun ds Q E q => s__law_is_0 q)
  have h1 : FnH P w (G K) mg base "_law_is" 2 7 (s__law_is_n 1) := (v__law_is M EQ h0).imp fun ds Q E q => m__law_is (gs (K := K)) 0 ds Q E q
  have h2 : FnH P w (G K) mg base "_law_is" 2 8 (s__law_is_n 2) := (v__law_is_7 M EQ h1).imp fun ds Q E q => m__law_is (gs (K := K)) 1 ds Q E q
  have h3 : FnH P w (G K) mg base "_law_is" 2 9 (s__law_is_n 3) := (v__law_is_8 M EQ h2).imp fun ds Q E q => m__law_is (gs (K := K)) 2 ds Q E q
  have h4 : FnH P w (G K) mg base "_law_is" 2 10 (s__law_is_n 4) := (v__law_is_9 M EQ h3).imp fun ds Q E q => m__law_is (gs (K := K)) 3 ds Q E q
  have h5 : FnH P w (G K) mg base "_law_is" 2 11 (s__law_is_n 5) := (v__law_is_10 M EQ h4).imp fun ds Q E q => m__law_is (gs (K := K)) 4 ds Q E q
  have h6 : FnH P w (G K) mg base "_law_is" 2 12 (s__law_is_n 6) := (v__law_is_11 M EQ h5).imp fun ds Q E q => m__law_is (gs (K := K)) 5 ds Q E q
  have h__law_is := h6
  have h__law_is_hollow : FnH P w (G K) mg base "_law_is_hollow" 2 4 s__law_is_hollow := v__law_is_hollow M h__law_bit h__law_lots h__law_place
  have h__law_lattice_right : FnH P w (G K) mg base "_law_lattice_right" 1 2 s__law_lattice_right := v__law_lattice_right M
  have h__law_mixed : FnH P w (G K) mg base "_law_mixed" 2 5 s__law_mixed := v__law_mixed M h__law_draw
  have h_check_table : FnH P w (G K) mg base "check_table" 1 2 s_check_table := v_check_table M
  have h_least_masks : FnH P w (G K) mg base "least_masks" 1 4 s_least_masks := v_least_masks M EQ
  have h_lot_of : FnH P w (G K) mg base "lot_of" 1 4 s_lot_of := v_lot_of M EQ
  have h_least_lots : FnH P w (G K) mg base "least_lots" 1 5 s_least_lots := v_least_lots M h_check_table h_least_masks h_lot_of
  have h_is_integer : FnH P w (G K) mg base "is_integer" 1 2 s_is_integer := v_is_integer M
  have h_is_between : FnH P w (G K) mg base "is_between" 3 3 s_is_between := v_is_between M h_is_integer
  have h_Table : MkH P w (G K) mg base "Table" 0 2 4 mk_Table := v_Table_init M EQ h_is_between h_is_integer
  have h__law_case_right : FnH P w (G K) mg base "_law_case_right" 3 13 s__law_case_right := v__law_case_right M EQ h__law_called h__law_is h__law_is_hollow h__law_lattice_right h__law_lots h__law_mixed h__law_place h_least_lots h_Table
  have h__law_hand : FnH P w (G K) mg base "_law_hand" 1 2 s__law_hand := v__law_hand M
  have h__law_hollow_values : FnH P w (G K) mg base "_law_hollow_values" 2 5 s__law_hollow_values := v__law_hollow_values M EQ h__law_draw h__law_lots
  have h__law_values : FnH P w (G K) mg base "_law_values" 2 6 s__law_values := v__law_values M EQ h__law_draw h__law_hollow_values
  have CK : CloH P w (G K) mg base 6 := fun j cs ds Q E q => match j, q with | 0, _ => vl_0 M h_least_lots | n + 1, q => (cloW_no (j := n) (cs := cs) (ds := ds) (Q := Q) (E := E) q).elim
  have h__law_word : FnH P w (G K) mg base "_law_word" 1 7 s__law_word := v__law_word M CK
  exact v_law M EQ h__law_any h__law_case_right h__law_draw h__law_hand h__law_hollow_values h__law_is h__law_values h__law_word h_least_lots h_Table F
end
end K09
open PySem PySem.W PySem.Calls PyProof.Rows
theorem PySem.Challenge.cw_bringsless_k09_whole_least_lots_and_thei_holds : PySem.Challenge.rw_bringsless_k09_whole_least_lots_and_thei.Holds := by
  w_on; o_law
  refine HandSHeadRun.head_any (r := OpenLaw.row PySem.Challenge.rw_bringsless_k09_whole_least_lots_and_thei) (q := view (OpenLaw.row PySem.Challenge.rw_bringsless_k09_whole_least_lots_and_thei).prog [34]) (H := K09.hk) (ob := K09.ob) (M := 9000) (loose := K09.loose) (d := HandSHeadRun.topDef (OpenLaw.row PySem.Challenge.rw_bringsless_k09_whole_least_lots_and_thei).prog 34) (kwd := []) K09.ob_eq
    (by kernel_rfl) (fun s => by kernel_rfl) K09.run (by kernel_rfl) (by kernel_rfl) (by kernel_rfl) (by rfl) (by first | assumption | decide +kernel) (by decide +kernel) ⟨rfl, rfl, rfl, rfl, rfl, by decide +kernel⟩ ?hw ?hc
  case hw => w_witness2
  case hc =>
    refine DL.walk_ofTE (l := PySem.Challenge.rw_bringsless_k09_whole_least_lots_and_thei) (n := 63) (k := 14) (x := "script") (CX := fun w => L2.CX (PySem.Challenge.rw_bringsless_k09_whole_least_lots_and_thei).prog w) rfl (by decide) (by kernel_rfl) ⟨⟨rfl, by decide, by decide⟩, rfl⟩ ?F (fun w H s e s' z => by
      obtain ⟨_, _, _, _, _, _, _, _, _, _, _, _, y⟩ := z
      exact y)
    intro w mg fa h Y G hmg0
    obtain ⟨K, KX, c⟩ := Y
    have hmg : mg ("law" : PySem.Str) = some (.ref fa) := by
      have e : (HandSHeadRun.topDef (OpenLaw.row PySem.Challenge.rw_bringsless_k09_whole_least_lots_and_thei).prog 34).name = ("law" : PySem.Str) := by kernel_rfl
      rw [← e]
      exact hmg0
    have g1 : mg ("law" : PySem.Str) = some (.ref (He.ga K "law")) := He.glo_ok KX G (c.t.d.fact 22 (f := .glo "law") rfl)
    have ef : fa = He.fAd K ("law", none) := by
      rw [hmg] at g1
      cases g1
      rfl
    subst ef
    obtain ⟨fd, F⟩ := c.t.d.def_ 24 (d := K09.dd_law) rfl
    exact ⟨K, KX, DL.law_at (nm := K09.nmAll) (G := K09.G K) (s := K09.s_law) KX c rfl rfl F (fun _ _ _ _ _ _ us hl => match us, hl with | [_], _ => rfl) hmg (fun base h1 h2 h3 => K09.law_run (K09.md_of h1 h2 c h3) F) fun ns hl => K09.law_fin ns hl⟩
#print axioms PySem.Challenge.cw_bringsless_k09_whole_least_lots_and_thei_holds
end
