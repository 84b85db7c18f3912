import PyProof.Rows.All
import Wide.All
import OpenK.AllK
import Wide.FinOn
import HandS.ForMost
import HandS.ForExc
import HandS.Nested
import HandS.TupMul
import HandS.IsInst
import HandS.TupAny
import HandS.Wide
import HandS.ExcInit
import HandS.Zip
import HandS.WordsExc
import HandS.Deep
import HandS.Defaults
import PyProof.InstNe
import HandS.SlotsOwn
import HandS.OwnEq
import HandS.Style
import KE.GoesMore
import KE.GoesEnum
import HandS.Iter
import HandS.Conv
import HandS.HeadHook4
import HandS.Head0
import HandS.Head1
import HandS.Head2
import HandS.HeadEnd
import HandS.EndTab
import HandS.NestedK
import KE.KStateDown
import KE.KEqSeq
import PySem.Challenge.RW_bringsless_k02_whole_tables_summed
section
set_option Elab.async false
set_option linter.all false
set_option maxRecDepth 100000
set_option maxHeartbeats 1000000
set_option autoImplicit false
/-! DA: data trees, predicate transformers, what a frame's slots denote, the lifting of readings. -/
namespace DL
open PySem PySem.Spec L2

/-- data: trees; c, i: numbers of classes, of lambdas -/
inductive D where
  | non | bl (b : Bool) | int (i : Int) | str (x : Str)
  | tup (xs : List D) | lst (xs : List D) | dic (ks vs : List D)
  | ins (c : Nat) (fs : List D)
  | clo (i : Nat) (cs : List D)
  | hnd
  | scr (ns : List Int)
structure DX where
  c : Nat
  fs : List D

/-! ### predicate transformers with two ends -/
abbrev W (α : Type) := (α → Prop) → (DX → Prop) → Prop
section
variable {α β γ : Type}
def ret (a : α) : W α := fun Q _ => Q a
def bnd (m : W α) (f : α → W β) : W β := fun Q E => m (fun a => f a Q E) E
def stk : W α := fun _ _ => False
def thr (x : DX) : W α := fun _ E => E x
def anyW (P : α → Prop) : W α := fun Q _ => ∀ a, P a → Q a
def nox (m : W α) : W α := fun Q _ => m Q (fun _ => False)
def tryW (m : W α) (h : DX → W α) : W α := fun Q E => m Q (fun x => h x Q E)
theorem ret_bnd (a : α) (f : α → W β) : bnd (ret a) f = f a := rfl
theorem bnd_ret (m : W α) : bnd m ret = m := rfl
theorem bnd_assoc (m : W α) (f : α → W β) (g : β → W γ) : bnd (bnd m f) g = bnd m fun a => bnd (f a) g := rfl
theorem nox_ret (a : α) : nox (ret a) = ret a := rfl
end

/-! ### global facts -/
/-- a lambda of the text: who makes it (its qualified name's beginning), its parameters' names, the names that it captures -/
structure LF where
  qual : Str
  params : Arguments
  body : Expr
  scope : Scope
  ps : List Str
  fr : List Str
structure Gx where
  K : PySem.W.Frag
  cls : Nat → Addr
  flds : Nat → List Str
  xcls : Nat → Addr
  xfld : Nat → Option Str
  lam : Nat → LF
  cloW : Nat → List D → List D → W D
  T : List NdefX.NTab

def LamO (f : Addr) (L : LF) (cl : List (Str × Addr)) (c : Addr) : HO := .ext fun h => ∃ pm ctv : Value, h.get? f = some (PySem.W.kla_obj "<lambda>" L.qual L.params L.body L.scope cl pm c ctv)
def PinO (a : Addr) (o : Obj) : HO := .ext fun h => h.get? a = some o
/-- the cells that a function captured, pinned: cell i holds the value i -/
def CellsP (H : Hp) (cl : List (Str × Addr)) : List Str → List V → Prop
  | [], [] => True
  | y :: ys, v :: vs => (∃ c o u, cl.lookup y = some c ∧ H c = some (PinO c o) ∧ o.data = .cell (some u) ∧ RelV v u) ∧ CellsP H cl ys vs
  | _, _ => False
/-- at a: a function made of the lambda i, its captured names hold vs -/
def CloAt (G : Gx) (H : Hp) (i : Nat) (vs : List V) (a : Addr) : Prop :=
  ∃ (cl : List (Str × Addr)) (c : Addr), H a = some (LamO a (G.lam i) cl c) ∧ H c = some (LamX.CodeO c (G.lam i).qual) ∧ CellsP H cl (G.lam i).fr vs ∧
    (∀ y d, cl.lookup y = some d → y ∈ (G.lam i).fr) ∧ (∀ x y d, cl.lookup x = some d → cl.lookup y = some d → x = y)
/-- the hand: a list whose first item is a list of ints from 0 on, then the next place, what is left, the mix, how many -/
def HndO (a c : Addr) (n : Nat) : HO := .ext fun h => ∃ (i : Nat) (g m k : Int) (t1 t2 t3 t4 : Tok) (q : Nat), h.get? a = some { cls := .type "list", data := .seq #[.ref c, .int i t1, .int g t2, .int m t3, .int k t4] q } ∧ i ≤ n ∧ 0 ≤ g ∧ 0 ≤ m ∧ 0 ≤ k ∧ m < 2147483648
def HndAt (H : Hp) (a : Addr) : Prop := ∃ (c : Addr) (ns : List Int), H a = some (HndO a c ns.length) ∧ H c = some (.lst (ns.map V.int)) ∧ ∀ n ∈ ns, 0 ≤ n
/-! ### what a value denotes -/
def dKey : D → Option Key
  | .int i => some (.inl i)
  | .str x => some (.inr x)
  | _ => none
def dKeys : List D → Option (List Key)
  | [] => some []
  | d :: ds => match dKey d, dKeys ds with
    | some k, some ks => some (k :: ks)
    | _, _ => none
def dKeyT : D → Option (List Key)
  | .tup ds => dKeys ds
  | _ => none
def mapO {α β : Type} (f : α → Option β) : List α → Option (List β)
  | [] => some []
  | d :: ds => match f d, mapO f ds with
    | some k, some ks => some (k :: ks)
    | _, _ => none
mutual
def Den (G : Gx) (H : Hp) : D → V → Prop
  | .non, v => v = .non
  | .bl b, v => v = .bl b
  | .int i, v => v = .int i
  | .str x, v => v = .str x
  | .tup xs, v => ∃ a vs, v = .ref a ∧ SqT G.K H a vs ∧ Dens G H xs vs
  | .lst xs, v => ∃ a vs, v = .ref a ∧ H a = some (.lst vs) ∧ Dens G H xs vs
  | .dic ks us, v => ∃ a vs, v = .ref a ∧ Dens G H us vs ∧ ((∃ kk, mapO dKey ks = some kk ∧ H a = some (.dK (kk.zip vs)) ∧ kk.length = vs.length) ∨ (∃ kk, mapO dKeyT ks = some kk ∧ H a = some (.dT (kk.zip vs)) ∧ kk.length = vs.length))
  | .ins c fs, v => ∃ a dx vs, v = .ref a ∧ H a = some (.ins (G.cls c) dx ((G.flds c).zip vs)) ∧ (G.flds c).length = vs.length ∧ Dens G H fs vs
  | .clo i cs, v => ∃ a vs, v = .ref a ∧ CloAt G H i vs a ∧ Dens G H cs vs
  | .hnd, v => ∃ a, v = .ref a ∧ HndAt H a
  | .scr ns, v => ∃ a, v = .ref a ∧ SqL G.K H a (ns.map V.int)
def Dens (G : Gx) (H : Hp) : List D → List V → Prop
  | [], vs => vs = []
  | d :: ds, vs => ∃ v ws, vs = v :: ws ∧ Den G H d v ∧ Dens G H ds ws
end
section
variable {G : Gx} {H H' : Hp}
theorem SqT.same {K : PySem.W.Frag} {a : Addr} {xs : List V} (e : Same H H') (h : SqT K H a xs) : SqT K H' a xs := by
  rcases h with (h | ⟨o, h⟩) | h
  · exact .inl (.inl (e _ _ h))
  · exact .inl (.inr ⟨o, e _ _ h⟩)
  · exact .inr h
theorem SqL.same {K : PySem.W.Frag} {a : Addr} {xs : List V} (e : Same H H') (h : SqL K H a xs) : SqL K H' a xs := by
  rcases h with (h | ⟨o, h⟩) | h
  · exact .inl (.inl (e _ _ h))
  · exact .inl (.inr ⟨o, e _ _ h⟩)
  · exact .inr h
theorem CellsP.same (e : Same H H') {cl : List (Str × Addr)} : ∀ {ys : List Str} {vs : List V}, CellsP H cl ys vs → CellsP H' cl ys vs
  | [], [], _ => trivial
  | [], _ :: _, h => h.elim
  | _ :: _, [], h => h.elim
  | y :: ys, v :: vs, ⟨⟨c, o, u, h1, h2, h3, h4⟩, h⟩ => ⟨⟨c, o, u, h1, e _ _ h2, h3, h4⟩, CellsP.same e h⟩
mutual
theorem Den.same (e : Same H H') : ∀ {d : D} {v : V}, Den G H d v → Den G H' d v
  | .non, _, h => by simpa only [Den] using h
  | .bl _, _, h => by simpa only [Den] using h
  | .int _, _, h => by simpa only [Den] using h
  | .str _, _, h => by simpa only [Den] using h
  | .tup xs, v, h => by
    simp only [Den] at h ⊢
    obtain ⟨a, vs, h1, h2, h3⟩ := h
    exact ⟨a, vs, h1, SqT.same e h2, Dens.same e h3⟩
  | .lst xs, v, h => by
    simp only [Den] at h ⊢
    obtain ⟨a, vs, h1, h2, h3⟩ := h
    exact ⟨a, vs, h1, e _ _ h2, Dens.same e h3⟩
  | .dic ks us, v, h => by
    simp only [Den] at h ⊢
    obtain ⟨a, vs, h1, h2, h3⟩ := h
    refine ⟨a, vs, h1, Dens.same e h2, ?_⟩
    rcases h3 with ⟨kk, k1, k2, k3⟩ | ⟨kk, k1, k2, k3⟩
    · exact .inl ⟨kk, k1, e _ _ k2, k3⟩
    · exact .inr ⟨kk, k1, e _ _ k2, k3⟩
  | .ins c fs, v, h => by
    simp only [Den] at h ⊢
    obtain ⟨a, dx, vs, h1, h2, h3, h4⟩ := h
    exact ⟨a, dx, vs, h1, e _ _ h2, h3, Dens.same e h4⟩
  | .clo i cs, v, h => by
    simp only [Den] at h ⊢
    obtain ⟨a, vs, h1, ⟨cl, c, k1, k2, k3, k4, k5⟩, h3⟩ := h
    exact ⟨a, vs, h1, ⟨cl, c, e _ _ k1, e _ _ k2, k3.same e, k4, k5⟩, Dens.same e h3⟩
  | .hnd, v, h => by
    simp only [Den] at h ⊢
    obtain ⟨a, h1, c, ns, k1, k2, k3⟩ := h
    exact ⟨a, h1, c, ns, e _ _ k1, e _ _ k2, k3⟩
  | .scr ns, v, h => by
    simp only [Den] at h ⊢
    obtain ⟨a, h1, h2⟩ := h
    exact ⟨a, h1, SqL.same e h2⟩
theorem Dens.same (e : Same H H') : ∀ {ds : List D} {vs : List V}, Dens G H ds vs → Dens G H' ds vs
  | [], _, h => by simpa only [Dens] using h
  | d :: ds, vs, h => by
    simp only [Dens] at h ⊢
    obtain ⟨v, ws, h1, h2, h3⟩ := h
    exact ⟨v, ws, h1, Den.same e h2, Dens.same e h3⟩
end
theorem Dens.length : ∀ {ds : List D} {vs : List V}, Dens G H ds vs → ds.length = vs.length
  | [], _, h => by simp only [Dens] at h; subst h; rfl
  | d :: ds, vs, h => by
    simp only [Dens] at h
    obtain ⟨v, ws, h1, h2, h3⟩ := h
    subst h1
    simp [Dens.length h3]
theorem Dens.get : ∀ {ds : List D} {vs : List V} {i : Nat} {d : D}, Dens G H ds vs → ds[i]? = some d → ∃ v, vs[i]? = some v ∧ Den G H d v
  | [], _, _, _, h, e => by simp at e
  | x :: ds, vs, 0, d, h, e => by
    simp only [Dens] at h
    obtain ⟨v, ws, h1, h2, h3⟩ := h
    subst h1
    simp at e
    subst e
    exact ⟨v, rfl, h2⟩
  | x :: ds, vs, i + 1, d, h, e => by
    simp only [Dens] at h
    obtain ⟨v, ws, h1, h2, h3⟩ := h
    subst h1
    obtain ⟨u, h4, h5⟩ := Dens.get h3 (by simpa using e)
    exact ⟨u, by simpa using h4, h5⟩
theorem Dens.cons {d : D} {ds : List D} {v : V} {vs : List V} (h : Den G H d v) (t : Dens G H ds vs) : Dens G H (d :: ds) (v :: vs) := by
  simp only [Dens]
  exact ⟨v, vs, rfl, h, t⟩
theorem Dens.nil : Dens G H [] [] := by simp only [Dens]
theorem Dens.uncons {d : D} {ds : List D} {vs : List V} (h : Dens G H (d :: ds) vs) : ∃ v ws, vs = v :: ws ∧ Den G H d v ∧ Dens G H ds ws := by simpa only [Dens] using h
theorem Dens.unnil {vs : List V} (h : Dens G H [] vs) : vs = [] := by simpa only [Dens] using h
theorem Dens.append : ∀ {ds es : List D} {vs us : List V}, Dens G H ds vs → Dens G H es us → Dens G H (ds ++ es) (vs ++ us)
  | [], es, vs, us, h, t => by rw [h.unnil]; exact t
  | d :: ds, es, vs, us, h, t => by
    obtain ⟨v, ws, h1, h2, h3⟩ := h.uncons
    subst h1
    exact .cons h2 (Dens.append h3 t)
theorem Dens.take : ∀ {ds : List D} {vs : List V} (n : Nat), Dens G H ds vs → Dens G H (ds.take n) (vs.take n)
  | _, _, 0, _ => by simpa using Dens.nil
  | [], vs, n + 1, h => by rw [h.unnil]; simpa using Dens.nil
  | d :: ds, vs, n + 1, h => by
    obtain ⟨v, ws, h1, h2, h3⟩ := h.uncons
    subst h1
    exact .cons h2 (Dens.take n h3)
theorem Dens.drop : ∀ {ds : List D} {vs : List V} (n : Nat), Dens G H ds vs → Dens G H (ds.drop n) (vs.drop n)
  | _, _, 0, h => by simpa using h
  | [], vs, n + 1, h => by rw [h.unnil]; simpa using Dens.nil
  | d :: ds, vs, n + 1, h => by
    obtain ⟨v, ws, h1, h2, h3⟩ := h.uncons
    subst h1
    exact Dens.drop n h3
theorem Dens.set {d : D} {v : V} (hd : Den G H d v) : ∀ {ds : List D} {vs : List V} (n : Nat), Dens G H ds vs → Dens G H (ds.set n d) (vs.set n v)
  | [], vs, n, h => by rw [h.unnil]; simpa using Dens.nil
  | x :: ds, vs, 0, h => by
    obtain ⟨u, ws, h1, h2, h3⟩ := h.uncons
    subst h1
    exact .cons hd h3
  | x :: ds, vs, n + 1, h => by
    obtain ⟨u, ws, h1, h2, h3⟩ := h.uncons
    subst h1
    exact .cons h2 (Dens.set hd n h3)
theorem Dens.ints : ∀ {ns : List Int} {vs : List V}, Dens G H (ns.map D.int) vs → vs = ns.map V.int
  | [], _, h => h.unnil
  | n :: ns, vs, h => by
    obtain ⟨v, ws, h1, h2, h3⟩ := Dens.uncons (ds := ns.map D.int) h
    rw [h1, Dens.ints h3]
    have e : v = .int n := by simpa only [Den] using h2
    rw [e]
    rfl
theorem Dens.of_ints : ∀ (ns : List Int), Dens G H (ns.map D.int) (ns.map V.int)
  | [] => .nil
  | n :: ns => .cons (by simp only [Den]) (Dens.of_ints ns)
end

/-! ### from one state to a later one -/
def NoT (H : Hp) : Prop := ∀ b ps, H b ≠ some (.tbl ps)
theorem NoT.upd {H : Hp} (h : NoT H) {a : Addr} {o : HO} (n : ∀ ps, o ≠ .tbl ps) : NoT (upd H a o) := fun b ps e => by
  by_cases z : b = a
  · subst z; rw [upd_same] at e; cases e; exact n ps rfl
  · rw [upd_ne z] at e; exact h b ps e
structure Ext (T : List NdefX.NTab) (H0 H H0' H' : Hp) : Prop where
  n : LamX.ExtN H H'
  nn : ∀ b, H' b = none → H b = none
  z : Same H0 H0'
  zz : Same H0' H'
  fr : ∀ a o, H0' a = some o → H0 a = some o ∨ H a = none
  tabs : NdefX.TabsN T H'
  nt : NoT H0'
theorem Ext.trans {T : List NdefX.NTab} {H0 H H1 H2 H3 H4 : Hp} (a : Ext T H0 H H1 H2) (b : Ext T H1 H2 H3 H4) : Ext T H0 H H3 H4 := by
  refine ⟨a.n.trans b.n, fun c e => a.nn c (b.nn c e), a.z.trans b.z, b.zz, fun c o e => ?_, b.tabs, b.nt⟩
  rcases b.fr c o e with h | h
  · exact a.fr c o h
  · exact .inr (a.nn c h)
theorem Ext.refl {T : List NdefX.NTab} {H0 H : Hp} (z : Same H0 H) (t : NdefX.TabsN T H) (n : NoT H0) : Ext T H0 H H0 H := ⟨.refl H, fun _ h => h, .refl _, z, fun _ _ h => .inl h, t, n⟩

/-! ### slots -/
inductive OD where
  | lst (oa : Option Addr) (ds : List D) | dic (ks vs : List D) | ins (a : Addr) (c : Nat) (fs : List D) | hnd (a c : Addr) (ns xs : List Int)
inductive Sl where
  | un | d (x : D) | own (o : OD) | exc (x : DX)
abbrev Env := List Sl
def OwnAt (G : Gx) (H0 H : Hp) (a : Addr) : OD → Prop
  | .lst oa ds => (∀ b, oa = some b → b = a) ∧ ∃ vs, H a = some (.lst vs) ∧ Dens G H0 ds vs
  | .dic ks us => ∃ vs, Dens G H0 us vs ∧ ((∃ kk, mapO dKey ks = some kk ∧ H a = some (.dK (kk.zip vs)) ∧ kk.length = vs.length) ∨ (∃ kk, mapO dKeyT ks = some kk ∧ H a = some (.dT (kk.zip vs)) ∧ kk.length = vs.length))
  | .ins a' c fs => a' = a ∧ ∃ dx vs, H a = some (.ins (G.cls c) dx (((G.flds c).take vs.length).zip vs)) ∧ vs.length ≤ (G.flds c).length ∧ Dens G H0 fs vs
  | .hnd a' c ns xs => a' = a ∧ H a = some (.lst (.ref c :: xs.map V.int)) ∧ H0 c = some (.lst (ns.map V.int))
def SlotOk (G : Gx) (He H0 H : Hp) : Sl → Option V → Prop
  | .un, _ => True
  | .d x, v => ∃ u, v = some u ∧ Den G H0 x u
  | .own o, v => ∃ a, v = some (.ref a) ∧ He a = none ∧ H0 a = none ∧ OwnAt G H0 H a o
  | .exc _, _ => True
/-- an exception of the data x: its class, its own dict -/
def DenX (G : Gx) (H : Hp) (x : DX) (cls : Value) (d : Option Addr) : Prop :=
  cls = .ref (G.xcls x.c) ∧ match G.xfld x.c with
    | none => d = none ∧ x.fs = []
    | some f => ∃ (dd : Addr) (v : V) (y : D), d = some dd ∧ H dd = some (.xd [(f, v)]) ∧ x.fs = [y] ∧ Den G H y v
structure Bx where
  G : Gx
  He : Hp
  Z : Hp
  E : DX → Prop
  xk : XK
/-- what leaves as an exception is what is wanted -/
def BxOk (B : Bx) : Prop := ∀ x cls d H0' H', Ext B.G.T B.Z B.He H0' H' → DenX B.G H0' x cls d → B.E x → B.xk cls d H'
abbrev Bx.no (B : Bx) : Bx := { B with E := fun _ => False, xk := fun _ _ _ => False }
theorem Bx.no_ok (B : Bx) : BxOk B.no := fun _ _ _ _ _ _ _ z => z.elim
structure Ok (B : Bx) (ρ : Env) (σ : St) (H0 H : Hp) : Prop where
  ext : Ext B.G.T B.Z B.He H0 H
  len : σ.length = ρ.length
  env : ∀ (i : Nat) (s : Sl), ρ[i]? = some s → ∃ v, σ[i]? = some v ∧ SlotOk B.G B.He H0 H s v
  apart : ∀ (i j : Nat) (o p : OD) (a : Addr), ρ[i]? = some (.own o) → ρ[j]? = some (.own p) → σ[i]? = some (some (.ref a)) → σ[j]? = some (some (.ref a)) → i = j
section
variable {B : Bx} {ρ : Env} {σ : St} {H0 H H0' H' : Hp}
theorem notTbl {o : HO} (h : ∀ ps, o ≠ .tbl ps) {H H' : Hp} {a : Addr} (e : LamX.ExtN H H') (q : H a = some o) : H' a = some o := e a o q h
theorem OwnAt.ext {T : List NdefX.NTab} {G : Gx} {a : Addr} (x : Ext T H0 H H0' H') : ∀ {o : OD}, OwnAt G H0 H a o → OwnAt G H0' H' a o
  | .lst oa ds, ⟨h0, vs, h1, h2⟩ => ⟨h0, vs, x.n a _ h1 (fun _ z => by cases z), h2.same x.z⟩
  | .dic ks us, ⟨vs, h1, h2⟩ => ⟨vs, h1.same x.z, h2.elim (fun ⟨kk, k1, k2, k3⟩ => .inl ⟨kk, k1, x.n a _ k2 (fun _ z => by cases z), k3⟩) fun ⟨kk, k1, k2, k3⟩ => .inr ⟨kk, k1, x.n a _ k2 (fun _ z => by cases z), k3⟩⟩
  | .ins a' c fs, ⟨h0, dx, vs, h1, h2, h3⟩ => ⟨h0, dx, vs, x.n a _ h1 (fun _ z => by cases z), h2, h3.same x.z⟩
  | .hnd a' c ns xs, ⟨h0, h1, h2⟩ => ⟨h0, x.n a _ h1 (fun _ z => by cases z), x.z _ _ h2⟩
theorem OwnAt.there {G : Gx} {a : Addr} : ∀ {o : OD}, OwnAt G H0 H a o → ∃ u, H a = some u
  | .lst oa ds, ⟨h0, vs, h1, h2⟩ => ⟨_, h1⟩
  | .dic ks us, ⟨vs, h1, h2⟩ => h2.elim (fun ⟨kk, k1, k2, k3⟩ => ⟨_, k2⟩) fun ⟨kk, k1, k2, k3⟩ => ⟨_, k2⟩
  | .ins a' c fs, ⟨h0, dx, vs, h1, h2⟩ => ⟨_, h1⟩
  | .hnd a' c ns xs, ⟨h0, h1, h2⟩ => ⟨_, h1⟩
theorem SlotOk.ext {T : List NdefX.NTab} {G : Gx} {He : Hp} (x : Ext T H0 H H0' H') : ∀ {s : Sl} {v : Option V}, SlotOk G He H0 H s v → SlotOk G He H0' H' s v
  | .un, _, _ => trivial
  | .d d, v, ⟨u, h1, h2⟩ => ⟨u, h1, h2.same x.z⟩
  | .own o, v, ⟨a, h1, h2, h3, h4⟩ => by
    refine ⟨a, h1, h2, ?_, h4.ext x⟩
    cases q : H0' a with
    | none => rfl
    | some u =>
      rcases x.fr a u q with r | r
      · rw [h3] at r; cases r
      · obtain ⟨u', e⟩ := h4.there
        rw [e] at r; cases r
  | .exc _, _, _ => trivial
theorem Ok.later (k : Ok B ρ σ H0 H) (x : Ext B.G.T H0 H H0' H') : Ok B ρ σ H0' H' :=
  ⟨k.ext.trans x, k.len, fun i s e => let ⟨v, h1, h2⟩ := k.env i s e; ⟨v, h1, h2.ext x⟩, k.apart⟩
theorem Ok.refl (k : Ok B ρ σ H0 H) : Ext B.G.T H0 H H0 H := .refl k.ext.zz k.ext.tabs k.ext.nt
theorem Ok.at_ (k : Ok B ρ σ H0 H) {i : Nat} {x : D} (e : ρ[i]? = some (.d x)) : ∃ v, σ[i]? = some (some v) ∧ Den B.G H0 x v := by
  obtain ⟨v, h1, u, h2, h3⟩ := k.env i _ e
  rw [h2] at h1
  exact ⟨u, h1, h3⟩
end

/-! ### lifted readings -/
def lift (B : Bx) (w : Env → W D) : TE := fun σ H Q => ∃ (ρ : Env) (H0 : Hp) (QD : D → Prop), Ok B ρ σ H0 H ∧ w ρ QD B.E ∧
  ∀ d v H0' H', Ext B.G.T H0 H H0' H' → Den B.G H0' d v → QD d → Q v H'
def liftT (B : Bx) (w : Env → W Bool) : TT := fun σ H Q => ∃ (ρ : Env) (H0 : Hp) (QD : Bool → Prop), Ok B ρ σ H0 H ∧ w ρ QD B.E ∧
  ∀ b H0' H', Ext B.G.T H0 H H0' H' → QD b → Q b H'
def liftA (B : Bx) (n : Nat) (w : Env → W (List D)) : TA := fun σ H Q => ∃ (ρ : Env) (H0 : Hp) (QD : List D → Prop), Ok B ρ σ H0 H ∧ w ρ QD B.E ∧
  ∀ ds vs H0' H', Ext B.G.T H0 H H0' H' → Dens B.G H0' ds vs → vs.length = n → QD ds → Q vs H'
abbrev DE (X : Cx) (B : Bx) (e : Expr) (w : Env → W D) : Prop := PE X e (lift B w)
abbrev DT (X : Cx) (B : Bx) (e : Expr) (w : Env → W Bool) : Prop := PT X e (liftT B w)
abbrev DA (X : Cx) (B : Bx) (n : Nat) (es : List Expr) (w : Env → W (List D)) : Prop := PA X es (liftA B n w)
theorem PE.imp {X : Cx} {e : Expr} {t t' : TE} (h : PE X e t) (i : ∀ σ H Q, t' σ H Q → t σ H Q) : PE X e t' := ⟨fun pins s σ H Q I q => h.run pins s σ H Q I (i σ H Q q)⟩
theorem PT.imp {X : Cx} {e : Expr} {t t' : TT} (h : PT X e t) (i : ∀ σ H Q, t' σ H Q → t σ H Q) : PT X e t' := ⟨fun pins s σ H Q I q => h.run pins s σ H Q I (i σ H Q q)⟩
theorem PA.imp {X : Cx} {es : List Expr} {t t' : TA} (h : PA X es t) (i : ∀ σ H Q, t' σ H Q → t σ H Q) : PA X es t' := ⟨fun pos pins s σ H Q I q => h.run pos pins s σ H Q I (i σ H Q q)⟩
theorem PS.imp {X : Cx} {e : Stmt} {t t' : TS} (h : PS X e t) (i : ∀ D σ H, t' D σ H → t D σ H) : PS X e t' := ⟨fun pins s σ H D I q => h.run pins s σ H D I (i D σ H q)⟩
theorem PSs.imp {X : Cx} {e : List Stmt} {t t' : TS} (h : PSs X e t) (i : ∀ D σ H, t' D σ H → t D σ H) : PSs X e t' := ⟨fun pins s σ H D I q => h.run pins s σ H D I (i D σ H q)⟩

section
variable {X : Cx} {B : Bx} {a b c e : Expr} {es : List Expr} {wa wb wc : Env → W D} {pos : Pos}
/-! ### names, constants -/
def rd (ρ : Env) (i : Nat) : W D := match ρ[i]? with
  | some (.d x) => ret x
  | _ => stk
theorem rd_of {ρ : Env} {i : Nat} {Q : D → Prop} {E : DX → Prop} (h : rd ρ i Q E) : ∃ d, ρ[i]? = some (.d d) ∧ Q d := by
  unfold rd at h
  cases e : ρ[i]? with
  | none => rw [e] at h; exact h.elim
  | some s =>
    rw [e] at h
    cases s with
    | d x => exact ⟨x, rfl, h⟩
    | un => exact (show False from h).elim
    | own o => exact (show False from h).elim
    | exc x => exact (show False from h).elim
theorem de_var (i : Nat) {x : Str} {pos : Pos} (hN : X.N[i]? = some x := by rfl) (hv : Vis X.env.scope x := by first | exact Or.inl rfl | exact Or.inr (Or.inl rfl) | exact Or.inr (Or.inr rfl)) (hd : (x == ("__debug__" : Str)) = false := by decide)
    (hcd : (x == ("__classdict__" : Str)) = false := by decide) : DE X B (.Name x pos) (fun ρ => rd ρ i) := by
  refine PE.imp (pe_var hN hv hd hcd) fun σ H Q ⟨ρ, H0, QD, k, q, h⟩ => ?_
  obtain ⟨d, e, q⟩ := rd_of q
  obtain ⟨v, h1, h2⟩ := k.at_ e
  exact ⟨v, h1, h d v H0 H k.refl h2 q⟩
theorem de_lit {d : D} {v : V} (h : PE X e (tC v)) (hd : ∀ H0, Den B.G H0 d v) : DE X B e (fun _ => ret d) :=
  PE.imp h fun σ H Q ⟨ρ, H0, QD, k, q, h⟩ => h d v H0 H k.refl (hd H0) q
end
end DL
end
section
set_option Elab.async false
set_option linter.all false
set_option maxRecDepth 100000
set_option maxHeartbeats 1000000
set_option autoImplicit false
/-! DB: operators, comparisons, tests, displays, subscripts, at the level of data. -/
namespace DL
open PySem PySem.Spec L2

/-- what a rule by values may lean on -/
structure St0 (G : Gx) (H0 H : Hp) : Prop where
  z : Same H0 H
  tabs : NdefX.TabsN G.T H
  nt : NoT H0
theorem St0.refl {G : Gx} {H0 H : Hp} (s : St0 G H0 H) : Ext G.T H0 H H0 H := .refl s.z s.tabs s.nt
theorem Ok.st {B : Bx} {ρ : Env} {σ : L2.St} {H0 H : Hp} (k : Ok B ρ σ H0 H) : St0 B.G H0 H := ⟨k.ext.zz, k.ext.tabs, k.ext.nt⟩
theorem Ext.st {G : Gx} {H0 H H1 H2 : Hp} (k : Ext G.T H0 H H1 H2) : St0 G H1 H2 := ⟨k.zz, k.tabs, k.nt⟩
/-- a new thing at p -/
theorem Ext.put {G : Gx} {H0 H : Hp} (s : St0 G H0 H) {p : Addr} (hp : H p = none) (o : HO) (ho : ∀ ps, o ≠ .tbl ps := by intro _ z; cases z) : Ext G.T H0 H (upd H0 p o) (upd H p o) := by
  have hp0 : H0 p = none := s.z.free hp
  refine ⟨fun b u e _ => ?_, fun b e => ?_, fun b u e => ?_, fun b u e => ?_, fun b u e => ?_, s.tabs.ext fun b u e => ?_, s.nt.upd ho⟩
  · rw [upd_ne (ne_of_none e hp)]; exact e
  · exact NdefX.upd_none e
  · rw [upd_ne (ne_of_none e hp0)]; exact e
  · by_cases h : b = p
    · subst h; rw [upd_same] at e ⊢; exact e
    · rw [upd_ne h] at e ⊢; exact s.z b u e
  · by_cases h : b = p
    · subst h; exact .inr hp
    · rw [upd_ne h] at e; exact .inl e
  · rw [upd_ne (ne_of_none e hp)]; exact e
/-- .. and in the heap alone -/
theorem Ext.putH {G : Gx} {H0 H : Hp} (s : St0 G H0 H) {p : Addr} (hp : H p = none) (o : HO) : Ext G.T H0 H H0 (upd H p o) := by
  refine ⟨fun b u e _ => ?_, fun b e => ?_, fun b u e => e, fun b u e => ?_, fun b u e => .inl e, s.tabs.ext fun b u e => ?_, s.nt⟩
  · rw [upd_ne (ne_of_none e hp)]; exact e
  · exact NdefX.upd_none e
  · have := s.z b u e
    rw [upd_ne (ne_of_none this hp)]; exact this
  · rw [upd_ne (ne_of_none e hp)]; exact e
abbrev End1 (G : Gx) (H0 H : Hp) (QD : D → Prop) (Q : VK) : Prop := ∀ d v H0' H', Ext G.T H0 H H0' H' → Den G H0' d v → QD d → Q v H'
def DOp1 (G : Gx) (r : V → Hp → VK → Prop) (f : D → W D) : Prop := ∀ (H0 H : Hp) (x : D) (vx : V) (QD : D → Prop) (ED : DX → Prop) (Q : VK), St0 G H0 H → Den G H0 x vx → f x QD ED → End1 G H0 H QD Q → r vx H Q
def DOp2 (G : Gx) (r : V → V → Hp → VK → Prop) (f : D → D → W D) : Prop := ∀ (H0 H : Hp) (x y : D) (vx vy : V) (QD : D → Prop) (ED : DX → Prop) (Q : VK), St0 G H0 H → Den G H0 x vx → Den G H0 y vy → f x y QD ED → End1 G H0 H QD Q → r vx vy H Q
def DOpL (G : Gx) (r : List V → Hp → VK → Prop) (f : List D → W D) : Prop := ∀ (H0 H : Hp) (xs : List D) (vs : List V) (QD : D → Prop) (ED : DX → Prop) (Q : VK), St0 G H0 H → Dens G H0 xs vs → f xs QD ED → End1 G H0 H QD Q → r vs H Q
def grd {α : Type} (c : Prop) (m : W α) : W α := fun Q E => c ∧ m Q E

section
variable {X : Cx} {B : Bx} {a b c e : Expr} {es rest : List Expr} {wa wb wc : Env → W D} {pos : Pos} {G : Gx}
theorem lift2 {r : V → V → Hp → VK → Prop} {f : D → D → W D} (hr : DOp2 B.G r f) {σ : L2.St} {H : Hp} {Q : VK}
    (h : lift B (fun ρ => bnd (wa ρ) fun x => bnd (wb ρ) fun y => f x y) σ H Q) : tOp r (lift B wa) (lift B wb) σ H Q := by
  obtain ⟨ρ, H0, QD, k, q, h⟩ := h
  refine ⟨ρ, H0, _, k, q, fun x vx H1 H2 x1 d1 q1 => ⟨ρ, H1, _, k.later x1, q1, fun y vy H3 H4 x2 d2 q2 => ?_⟩⟩
  exact hr H3 H4 x y vx vy QD B.E Q x2.st (d1.same x2.z) d2 q2 fun d v H5 H6 x3 d3 q3 => h d v H5 H6 ((x1.trans x2).trans x3) d3 q3
theorem lift1 {r : V → Hp → VK → Prop} {f : D → W D} (hr : DOp1 B.G r f) {σ : L2.St} {H : Hp} {Q : VK}
    (h : lift B (fun ρ => bnd (wa ρ) fun x => f x) σ H Q) : tUn r (lift B wa) σ H Q := by
  obtain ⟨ρ, H0, QD, k, q, h⟩ := h
  refine ⟨ρ, H0, _, k, q, fun x vx H1 H2 x1 d1 q1 => ?_⟩
  exact hr H1 H2 x vx QD B.E Q x1.st d1 q1 fun d v H5 H6 x3 d3 q3 => h d v H5 H6 (x1.trans x3) d3 q3
theorem de_op {op : Operator} {r : R2} {f : D → D → W D} (ho : OpR X (binaryOp op) r) (hr : DOp2 B.G r f) (ha : DE X B a wa) (hb : DE X B b wb) :
    DE X B (.BinOp a op b pos) (fun ρ => bnd (wa ρ) fun x => bnd (wb ρ) fun y => f x y) := PE.imp (pe_op ho ha hb) fun _ _ _ h => lift2 hr h
theorem de_un {op : UnaryOp} {r : V → Hp → VK → Prop} {f : D → W D} (ho : UnR X (unaryOp op) r) (hr : DOp1 B.G r f) (ha : DE X B a wa) :
    DE X B (.UnaryOp op a pos) (fun ρ => bnd (wa ρ) fun x => f x) := PE.imp (pe_un ho ha) fun _ _ _ h => lift1 hr h
theorem de_cmp {op : CmpOp} {r : R2} {f : D → D → W D} (ho : OpR X (compareOp op) r) (hr : DOp2 B.G r f) (hm : behindInMarks op b = false) (ha : DE X B a wa) (hb : DE X B b wb) :
    DE X B (.Compare a [op] [b] pos) (fun ρ => bnd (wa ρ) fun x => bnd (wb ρ) fun y => f x y) := PE.imp (pe_cmpR ho ha hb hm) fun _ _ _ h => lift2 hr h
/-- a bool's -/
def asB : D → W Bool
  | .bl b => ret b
  | _ => stk
theorem lift_asB {w : Env → W D} {σ : L2.St} {H : Hp} {Q : Bool → Hp → Prop} (h : liftT B (fun ρ => bnd (w ρ) asB) σ H Q) : tTest (lift B w) σ H Q := by
  obtain ⟨ρ, H0, QD, k, q, h⟩ := h
  refine ⟨ρ, H0, _, k, q, fun x vx H1 H2 x1 d1 q1 => ?_⟩
  cases x with
  | bl b =>
    have e : vx = .bl b := by simpa only [Den] using d1
    exact ⟨b, e, h b H1 H2 x1 q1⟩
  | _ => exact (show False from q1).elim
theorem PT.imp2 {e : Expr} {t t' : TT} (h : PT X e t) (i : ∀ σ H Q, t' σ H Q → t σ H Q) : PT X e t' := PT.imp h i
theorem tTest_imp {t t' : TE} (i : ∀ σ H Q, t' σ H Q → t σ H Q) {σ : L2.St} {H : Hp} {Q : Bool → Hp → Prop} (h : tTest t' σ H Q) : tTest t σ H Q := i _ _ _ h
theorem dt_cmp {op : CmpOp} {r : R2} {f : D → D → W D} (ho : OpR X (compareOp op) r) (hr : DOp2 B.G r f) (hm : behindInMarks op b = false) (ha : DE X B a wa) (hb : DE X B b wb) :
    DT X B (.Compare a [op] [b] pos) (fun ρ => bnd (bnd (wa ρ) fun x => bnd (wb ρ) fun y => f x y) asB) :=
  PT.imp (pt_cmpR ho ha hb hm) fun _ _ _ h => tTest_imp (fun _ _ _ h => lift2 hr h) (lift_asB h)
theorem lift3 {r r' : R2} {f f' : D → D → W D} (hr : DOp2 B.G r f) (hr' : DOp2 B.G r' f') {σ : L2.St} {H : Hp} {Q : VK}
    (h : lift B (fun ρ => bnd (wa ρ) fun x => bnd (wb ρ) fun y => bnd (bnd (f x y) asB) fun k => if k = true then bnd (wc ρ) fun z => f' y z else ret (.bl false)) σ H Q) : tChain r r' (lift B wa) (lift B wb) (lift B wc) σ H Q := by
  obtain ⟨ρ, H0, QD, k, q, h⟩ := h
  refine ⟨ρ, H0, _, k, q, fun x vx H1 H2 x1 d1 q1 => ⟨ρ, H1, _, k.later x1, q1, fun y vy H3 H4 x2 d2 q2 => ?_⟩⟩
  refine hr H3 H4 x y vx vy _ B.E _ x2.st (d1.same x2.z) d2 q2 fun d v H5 H6 x3 d3 q3 => ?_
  cases d with
  | bl t =>
    have e : v = .bl t := by simpa only [Den] using d3
    refine ⟨t, e, ?_⟩
    have q3 : (if t = true then bnd (wc ρ) fun z => f' y z else ret (.bl false)) QD B.E := q3
    cases t with
    | true =>
      rw [if_pos rfl] at q3 ⊢
      refine ⟨ρ, H5, _, k.later ((x1.trans x2).trans x3), q3, fun z vz H7 H8 x4 d4 q4 => ?_⟩
      exact hr' H7 H8 y z vy vz QD B.E Q x4.st ((d2.same x3.z).same x4.z) d4 q4 fun d v H9 H10 x5 d5 q5 => h d v H9 H10 ((((x1.trans x2).trans x3).trans x4).trans x5) d5 q5
    | false =>
      rw [if_neg Bool.false_ne_true] at q3 ⊢
      exact h (.bl false) (.bl false) H5 H6 ((x1.trans x2).trans x3) (by simp only [Den]) q3
  | _ => exact (show False from q3).elim
theorem de_chain {op op' : CmpOp} {r r' : R2} {f f' : D → D → W D} (ho : OpR X (compareOp op) r) (ho' : OpR X (compareOp op') r') (hr : DOp2 B.G r f) (hr' : DOp2 B.G r' f') (ha : DE X B a wa) (hb : DE X B b wb) (hc : DE X B c wc)
    (hm : lastMarks [op, op'] [b, c] = false := by with_unfolding_all rfl) : DE X B (.Compare a [op, op'] [b, c] pos)
      (fun ρ => bnd (wa ρ) fun x => bnd (wb ρ) fun y => bnd (bnd (f x y) asB) fun k => if k = true then bnd (wc ρ) fun z => f' y z else ret (.bl false)) :=
  PE.imp (pe_chain ho ho' ha hb hc hm) fun _ _ _ h => lift3 hr hr' h
theorem dt_chain {op op' : CmpOp} {r r' : R2} {f f' : D → D → W D} (ho : OpR X (compareOp op) r) (ho' : OpR X (compareOp op') r') (hr : DOp2 B.G r f) (hr' : DOp2 B.G r' f') (ha : DE X B a wa) (hb : DE X B b wb) (hc : DE X B c wc)
    (hm : lastMarks [op, op'] [b, c] = false := by with_unfolding_all rfl) : DT X B (.Compare a [op, op'] [b, c] pos)
      (fun ρ => bnd (bnd (wa ρ) fun x => bnd (wb ρ) fun y => bnd (bnd (f x y) asB) fun k => if k = true then bnd (wc ρ) fun z => f' y z else ret (.bl false)) asB) :=
  PT.imp (pt_chain ho ho' ha hb hc hm) fun _ _ _ h => tTest_imp (fun _ _ _ h => lift3 hr hr' h) (lift_asB h)

/-! ### ints -/
def onI2 (g : Int → Int → W D) : D → D → W D
  | .int i, .int j => g i j
  | _, _ => stk
theorem dop_I {C : Int → Int → Prop} {g : Int → Int → Int} : DOp2 G (rI C fun i j => .int (g i j)) (onI2 fun i j => grd (C i j) (ret (.int (g i j)))) := by
  intro H0 H x y vx vy QD ED Q st dx dy q h
  cases x <;> first | exact (show False from q).elim | skip
  cases y <;> first | exact (show False from q).elim | skip
  rename_i i j
  have e1 : vx = .int i := by simpa only [Den] using dx
  have e2 : vy = .int j := by simpa only [Den] using dy
  exact ⟨i, j, e1, e2, q.1, h _ _ H0 H st.refl (by simp only [Den]) q.2⟩
theorem dop_I0 {g : Int → Int → Int} : DOp2 G (rI0 fun i j => .int (g i j)) (onI2 fun i j => ret (.int (g i j))) := by
  intro H0 H x y vx vy QD ED Q st dx dy q h
  cases x <;> first | exact (show False from q).elim | skip
  cases y <;> first | exact (show False from q).elim | skip
  rename_i i j
  have e1 : vx = .int i := by simpa only [Den] using dx
  have e2 : vy = .int j := by simpa only [Den] using dy
  exact ⟨i, j, e1, e2, h _ _ H0 H st.refl (by simp only [Den]) q⟩
theorem dop_B0 {g : Int → Int → Bool} : DOp2 G (rI0 fun i j => .bl (g i j)) (onI2 fun i j => ret (.bl (g i j))) := by
  intro H0 H x y vx vy QD ED Q st dx dy q h
  cases x <;> first | exact (show False from q).elim | skip
  cases y <;> first | exact (show False from q).elim | skip
  rename_i i j
  have e1 : vx = .int i := by simpa only [Den] using dx
  have e2 : vy = .int j := by simpa only [Den] using dy
  exact ⟨i, j, e1, e2, h _ _ H0 H st.refl (by simp only [Den]) q⟩
end
end DL
end
section
set_option Elab.async false
set_option linter.all false
set_option maxRecDepth 100000
set_option maxHeartbeats 2000000
set_option autoImplicit false
/-! DC0: a tuple repeated not at all, once. -/
namespace DL
open PySem PySem.Spec L2 PyProof.Rows
section
variable {X : Cx}
theorem tuple_mulS (l : Addr) (items : Array Value) (n : Nat) (dd : Option Addr) (sl : Array (Option Value)) (x : Int) (u : Tok) (c0 : (decide (x < -(2 ^ 63)) || decide (x ≥ 2 ^ 63)) = false) (c1 : (items.isEmpty || x == 1) = true) :
    Meets (Builtin.«tuple.__mul__» ⟨[.ref l, .int x u], []⟩) (fun _ R s => s.heap.get? l = some { cls := .type "tuple", dict := dd, data := .seq items n, slots := sl } ∧ R (.ok (.ret (Value.ref l))) s) :=
  .of_wp fun prog w A R s h => by
    obtain ⟨hp, g, d, tk, os⟩ := s
    obtain ⟨hl, h⟩ := h
    have f1 := AutoSeq1.idx_int
    wp_walk using wpAny_loadPart' hl
    repeat (first
      | (refine wpAny_ite_false (decide_eq_false (by rw [c0]; exact Bool.false_ne_true)) ?_; wp_walk using wpAny_loadPart' hl)
      | (refine wpAny_ite_true (decide_eq_true c1) ?_; wp_walk using wpAny_loadPart' hl)
      | (refine wpAny_ite_true (by simp) ?_; wp_walk using wpAny_loadPart' hl))
    exact ⟨_, rfl, h⟩
theorem tuple_mul0 (l : Addr) (items : Array Value) (n : Nat) (dd : Option Addr) (sl : Array (Option Value)) (x : Int) (u : Tok) (c0 : (decide (x < -(2 ^ 63)) || decide (x ≥ 2 ^ 63)) = false) (c1 : (items.isEmpty || x == 1) = false) (c2 : (decide (x ≤ 0) || items.isEmpty) = true) :
    Meets (Builtin.«tuple.__mul__» ⟨[.ref l, .int x u], []⟩) (fun _ R s => s.heap.get? l = some { cls := .type "tuple", dict := dd, data := .seq items n, slots := sl } ∧
      R (.ok (.ret (Value.ref s.heap.objs.size))) { s with heap := s.heap.push { cls := Value.type "tuple", data := Data.seq #[] }, toks := s.toks }) :=
  .of_wp fun prog w A R s h => by
    obtain ⟨hp, g, d, tk, os⟩ := s
    obtain ⟨hl, h⟩ := h
    have f1 := AutoSeq1.idx_int
    wp_walk using wpAny_loadPart' hl
    repeat (first
      | (refine wpAny_ite_false (decide_eq_false (by rw [c0]; exact Bool.false_ne_true)) ?_; wp_walk using wpAny_loadPart' hl)
      | (refine wpAny_ite_false (decide_eq_false (by rw [c1]; exact Bool.false_ne_true)) ?_; wp_walk using wpAny_loadPart' hl)
      | (refine wpAny_ite_true (decide_eq_true c2) ?_; wp_walk using wpAny_loadPart' hl))
    exact ⟨_, rfl, h⟩
def rRepS (K : PySem.W.Frag) : R2 := fun x y H Q => ∃ l k xs, x = .ref l ∧ y = .int k ∧ SqT K H l xs ∧ -(2 ^ 63) ≤ k ∧ k < 2 ^ 63 ∧ (((xs = [] ∨ k = 1) ∧ Q (.ref l) H) ∨ (xs ≠ [] ∧ k ≤ 0 ∧ ∀ p, H p = none → Q (.ref p) (upd H p (.tup []))))
theorem op_repS : OpR X (binaryOp .Mult) (rRepS X.K) := by
  intro pins s σ H x y v u Q I rx ry h
  obtain ⟨l, k, xs, rfl, rfl, hT, h1, h2, q⟩ := h
  cases rx
  obtain ⟨t, rfl⟩ := ry
  obtain ⟨its, r, ⟨⟨cls, dd, data, sl⟩, ho, hc, n, hd⟩, hs⟩ := I.tuple hT
  simp only at hc hd
  subst hc hd
  have hle : its.length = xs.length := r.length.symm
  have c0 : (decide (k < -(2 ^ 63)) || decide (k ≥ 2 ^ 63)) = false := by
    rw [decide_eq_false (by omega), decide_eq_false (by omega)] <;> rfl
  rcases q with ⟨hq, q⟩ | ⟨hne, hk, q⟩
  · have c1 : (its.toArray.isEmpty || k == 1) = true := by
      rcases hq with e | e
      · have : its = [] := List.eq_nil_of_length_eq_zero (by rw [hle, e]; rfl)
        subst this
        rfl
      · subst e
        simp
    refine wpAny_binaryOp_repeat_ref (T := "tuple") (U := "int") (by decide) ⟨_, ho, rfl⟩ (fun s' => typeIs_int s' k t) noFill_tuple_mul F.fills_int_mul F.slot_int_rmul repeat_tuple F.slot_int_index.lookup
      (call_meets F.slot_int_rmul (typeIs_int s k t) F.entry_int_rmul (F.args_int_rmul_2 _ _) (int_rmul_tuple k t l its.toArray n dd sl)
        ⟨ho, rfl, ⟨_, ho, rfl⟩, call_meets F.slot_tuple_mul ⟨_, ho, rfl⟩ F.entry_tuple_mul (F.args_tuple_mul_2 _ _) (tuple_mulS l its.toArray n dd sl k t c0 c1) ⟨ho, ?_⟩⟩)
    exact ⟨.ref l, H, I, rfl, q⟩
  · have hn : its ≠ [] := fun e => hne (by
      rw [e] at hle
      exact List.eq_nil_of_length_eq_zero hle.symm)
    have hi : its.toArray.isEmpty = false := by
      cases its with
      | nil => exact absurd rfl hn
      | cons a b => rfl
    have c1 : (its.toArray.isEmpty || k == 1) = false := by
      rw [hi, Bool.false_or]
      exact beq_eq_false_iff_ne.mpr (by omega)
    have c2 : (decide (k ≤ 0) || its.toArray.isEmpty) = true := by
      rw [decide_eq_true hk]; rfl
    refine wpAny_binaryOp_repeat_ref (T := "tuple") (U := "int") (by decide) ⟨_, ho, rfl⟩ (fun s' => typeIs_int s' k t) noFill_tuple_mul F.fills_int_mul F.slot_int_rmul repeat_tuple F.slot_int_index.lookup
      (call_meets F.slot_int_rmul (typeIs_int s k t) F.entry_int_rmul (F.args_int_rmul_2 _ _) (int_rmul_tuple k t l its.toArray n dd sl)
        ⟨ho, rfl, ⟨_, ho, rfl⟩, call_meets F.slot_tuple_mul ⟨_, ho, rfl⟩ F.entry_tuple_mul (F.args_tuple_mul_2 _ _) (tuple_mul0 l its.toArray n dd sl k t c0 c1 c2) ⟨ho, ?_⟩⟩)
    refine ⟨.ref s.heap.objs.size, _, I.laid (t' := s.toks) (o := .tup []) (fun b ob q => Heap.get?_push_of_some _ q) (Nat.le_refl _) ?_, rfl, q _ (I.hok.fresh (Nat.le_refl _))⟩
    exact ⟨by rw [sizeLine_eq]; simp, [], .nil, IsTup.new _ _⟩
end
end DL
end
section
set_option Elab.async false
set_option linter.all false
set_option maxRecDepth 100000
set_option maxHeartbeats 1000000
set_option autoImplicit false
/-! DC: literals, sums, tests, displays, subscripts, attributes, calls of defs and of built-ins, at the level of data. -/
namespace DL
open PySem PySem.Spec L2
section
variable {X : Cx} {B : Bx} {a b c e : Expr} {es rest : List Expr} {wa wb wc : Env → W D} {ta tb tc : Env → W Bool} {pos : Pos} {G : Gx}
/-! ### literals -/
theorem de_int {i : Int} {j : Nat} {pos : Pos} : DE X B (.Constant (.int i) j pos) (fun _ => ret (.int i)) := de_lit pe_int fun _ => by simp only [Den]
theorem de_bl {b : Bool} {j : Nat} {pos : Pos} : DE X B (.Constant (.bool b) j pos) (fun _ => ret (.bl b)) := de_lit pe_bl fun _ => by simp only [Den]
theorem de_non {j : Nat} {pos : Pos} : DE X B (.Constant .none j pos) (fun _ => ret .non) := de_lit pe_non fun _ => by simp only [Den]
theorem de_str {x : Str} {j : Nat} {pos : Pos} : DE X B (.Constant (.str x) j pos) (fun _ => ret (.str x)) := de_lit pe_str fun _ => by simp only [Den]
/-- a module's name: d is what it holds -/
theorem de_glob {x : Str} {v : V} {u : Value} {d : D} {pos : Pos} (hd : ∀ H0, Den B.G H0 d v) (hg : Gl X x) (hm : X.mg x = some u) (r : RelV v u) (hdb : (x == ("__debug__" : Str)) = false := by decide) : DE X B (.Name x pos) (fun _ => ret d) :=
  de_lit (pe_glob hg hm r hdb) hd
/-! ### sums, products -/
def addD : D → D → W D
  | .int i, .int j => ret (.int (i + j))
  | .lst xs, .lst ys => grd (xs.length + ys.length ≤ sizeLine) (ret (.lst (xs ++ ys)))
  | .tup xs, .tup ys => grd (xs.length + ys.length ≤ sizeLine) (ret (.tup (xs ++ ys)))
  | .str x, .str y => grd (x.length + y.length ≤ sizeLine) (ret (.str (x ++ y)))
  | _, _ => stk
theorem den_int {H : Hp} {i : Int} {v : V} (h : Den G H (.int i) v) : v = .int i := by simpa only [Den] using h
theorem den_bl {H : Hp} {i : Bool} {v : V} (h : Den G H (.bl i) v) : v = .bl i := by simpa only [Den] using h
theorem den_str {H : Hp} {i : Str} {v : V} (h : Den G H (.str i) v) : v = .str i := by simpa only [Den] using h
theorem den_non {H : Hp} {v : V} (h : Den G H .non v) : v = .non := by simpa only [Den] using h
theorem den_tup {H : Hp} {xs : List D} {v : V} (h : Den G H (.tup xs) v) : ∃ a vs, v = .ref a ∧ SqT G.K H a vs ∧ Dens G H xs vs := by simpa only [Den] using h
theorem den_lst {H : Hp} {xs : List D} {v : V} (h : Den G H (.lst xs) v) : ∃ a vs, v = .ref a ∧ H a = some (.lst vs) ∧ Dens G H xs vs := by simpa only [Den] using h
theorem of_int {H : Hp} {i : Int} : Den G H (.int i) (.int i) := by simp only [Den]
theorem of_bl {H : Hp} {i : Bool} : Den G H (.bl i) (.bl i) := by simp only [Den]
theorem of_str {H : Hp} {i : Str} : Den G H (.str i) (.str i) := by simp only [Den]
theorem of_non {H : Hp} : Den G H .non .non := by simp only [Den]
theorem of_tup {H : Hp} {xs : List D} {a : Addr} {vs : List V} (h : H a = some (.tup vs)) (d : Dens G H xs vs) : Den G H (.tup xs) (.ref a) := by simp only [Den]; exact ⟨a, vs, rfl, .of h, d⟩
theorem of_lst {H : Hp} {xs : List D} {a : Addr} {vs : List V} (h : H a = some (.lst vs)) (d : Dens G H xs vs) : Den G H (.lst xs) (.ref a) := by simp only [Den]; exact ⟨a, vs, rfl, h, d⟩
theorem SqT.up {K : PySem.W.Frag} {H0 H : Hp} (z : Same H0 H) {a : Addr} {xs : List V} (h : SqT K H0 a xs) : SqT K H a xs := SqT.same z h
theorem Dens.nil_iff {H : Hp} {xs : List D} {vs : List V} (h : Dens G H xs vs) : vs = [] ↔ xs = [] := by
  have := h.length
  constructor
  · intro e; subst e; exact List.length_eq_zero_iff.mp this
  · intro e; subst e; exact h.unnil
theorem op_addAll : OpR X (binaryOp .Add) (fun x y H Q => rI0 (fun i j => .int (i + j)) x y H Q ∨ rCatA X.K x y H Q ∨ rCat x y H Q ∨ (∃ i j, x = .str i ∧ y = .str j ∧ i.length + j.length ≤ sizeLine ∧ Q (.str (i ++ j)) H)) :=
  op_add.or (op_catA.or (op_cat.or op_add_str))
theorem dop_add (hK : X.K = G.K) : DOp2 G (fun x y H Q => rI0 (fun i j => .int (i + j)) x y H Q ∨ rCatA X.K x y H Q ∨ rCat x y H Q ∨ (∃ i j, x = .str i ∧ y = .str j ∧ i.length + j.length ≤ sizeLine ∧ Q (.str (i ++ j)) H)) addD := by
  intro H0 H x y vx vy QD ED Q st dx dy q h
  cases x <;> cases y <;> first | exact (show False from q).elim | skip
  · exact .inl ⟨_, _, den_int dx, den_int dy, h _ _ H0 H st.refl of_int q⟩
  · exact .inr (.inr (.inr ⟨_, _, den_str dx, den_str dy, q.1, h _ _ H0 H st.refl of_str q.2⟩))
  · rename_i xs ys
    obtain ⟨a, us, e1, s1, d1⟩ := den_tup dx
    obtain ⟨b, ws, e2, s2, d2⟩ := den_tup dy
    refine .inr (.inl ⟨a, b, us, ws, e1, e2, by rw [hK]; exact SqT.up st.z s1, by rw [hK]; exact SqT.up st.z s2, by rw [← d1.length, ← d2.length]; exact q.1, fun e => ?_, fun _ e => ?_, fun _ _ p hp => ?_⟩)
    · have ex := d1.nil_iff.mp e
      refine h _ _ H0 H st.refl ?_ q.2
      rw [ex, List.nil_append, ← e2]
      exact dy
    · have ey := d2.nil_iff.mp e
      refine h _ _ H0 H st.refl ?_ q.2
      rw [ey, List.append_nil, ← e1]
      exact dx
    · have x := Ext.put st hp (.tup (us ++ ws))
      exact h _ _ _ _ x (of_tup upd_same ((d1.same x.z).append (d2.same x.z))) q.2
  · rename_i xs ys
    obtain ⟨a, us, e1, s1, d1⟩ := den_lst dx
    obtain ⟨b, ws, e2, s2, d2⟩ := den_lst dy
    refine .inr (.inr (.inl ⟨a, b, us, ws, e1, e2, st.z _ _ s1, st.z _ _ s2, by rw [← d1.length, ← d2.length]; exact q.1, fun p hp => ?_⟩))
    have x := Ext.put st hp (.lst (us ++ ws))
    exact h _ _ _ _ x (of_lst upd_same ((d1.same x.z).append (d2.same x.z))) q.2
theorem de_add (hK : X.K = B.G.K) (ha : DE X B a wa) (hb : DE X B b wb) : DE X B (.BinOp a .Add b pos) (fun ρ => bnd (wa ρ) fun x => bnd (wb ρ) fun y => addD x y) := de_op op_addAll (dop_add hK) ha hb
def subD : D → D → W D := onI2 fun i j => ret (.int (i - j))
theorem de_sub (ha : DE X B a wa) (hb : DE X B b wb) : DE X B (.BinOp a .Sub b pos) (fun ρ => bnd (wa ρ) fun x => bnd (wb ρ) fun y => subD x y) := de_op op_sub dop_I0 ha hb
def MulOk (i j : Int) : Prop := CMul i j ∨ CMulW i j
theorem op_mulA : OpR X (binaryOp .Mult) (rI MulOk fun i j => .int (i * j)) := opI fun _ _ _ _ _ _ _ hc q => PyProof.Rows.mul_int q (hc.elim CMul.ok CMulW.ok)
def mulD : D → D → W D
  | .int i, .int j => grd (MulOk i j) (ret (.int (i * j)))
  | .lst xs, .int k => grd (k < 2 ^ 63 ∧ -(2 ^ 63) ≤ k ∧ xs.length * k.toNat ≤ sizeLine) (ret (.lst (List.replicate k.toNat xs).flatten))
  | .tup xs, .int k => grd (-1000 ≤ k ∧ k ≤ 1000 ∧ xs.length ≤ 1000) (ret (.tup (List.replicate k.toNat xs).flatten))
  | _, _ => stk
theorem Dens.rep {H : Hp} {xs : List D} {vs : List V} (h : Dens G H xs vs) : ∀ n : Nat, Dens G H (List.replicate n xs).flatten (List.replicate n vs).flatten
  | 0 => .nil
  | n + 1 => by
    rw [List.replicate_succ, List.replicate_succ, List.flatten_cons, List.flatten_cons]
    exact h.append (Dens.rep h n)
theorem dop_mul (hK : X.K = G.K) : DOp2 G (fun x y H Q => rI MulOk (fun i j => .int (i * j)) x y H Q ∨ rRep x y H Q ∨ rRepT X.K x y H Q ∨ rRepS X.K x y H Q) mulD := by
  intro H0 H x y vx vy QD ED Q st dx dy q h
  cases x <;> cases y <;> first | exact (show False from q).elim | skip
  · exact .inl ⟨_, _, den_int dx, den_int dy, q.1, h _ _ H0 H st.refl of_int q.2⟩
  · rename_i xs k
    obtain ⟨a, us, e1, s1, d1⟩ := den_tup dx
    obtain ⟨⟨q2, q3, q4⟩, q5⟩ := q
    have sT : SqT X.K H a us := by rw [hK]; exact SqT.up st.z s1
    subst e1
    have e1 : V.ref a = V.ref a := rfl
    by_cases z0 : us = []
    · have e0 := d1.nil_iff.mp z0
      refine .inr (.inr (.inr ⟨a, k, us, e1, den_int dy, sT, by omega, by omega, .inl ⟨.inl z0, h _ _ H0 H st.refl ?_ q5⟩⟩))
      rw [e0]
      have : (List.replicate k.toNat ([] : List D)).flatten = [] := by simp
      rw [this]
      exact e0 ▸ dx
    · by_cases z1 : k = 1
      · subst z1
        refine .inr (.inr (.inr ⟨a, 1, us, e1, den_int dy, sT, by omega, by omega, .inl ⟨.inr rfl, h _ _ H0 H st.refl ?_ q5⟩⟩))
        have : (List.replicate (1 : Int).toNat xs).flatten = xs := by simp
        rw [this]
        exact dx
      · by_cases z2 : k ≤ 0
        · refine .inr (.inr (.inr ⟨a, k, us, e1, den_int dy, sT, by omega, by omega, .inr ⟨z0, z2, fun p hp => ?_⟩⟩))
          have x := Ext.put st hp (.tup [])
          have e : k.toNat = 0 := by omega
          rw [e] at q5
          exact h _ _ _ _ x (of_tup upd_same (by simp; exact .nil)) q5
        · refine .inr (.inr (.inl ⟨a, k, us, e1, den_int dy, sT, z0, by omega, q3, by rw [← d1.length]; exact q4, fun p hp => ?_⟩))
          have x := Ext.put st hp (.tup (List.replicate k.toNat us).flatten)
          exact h _ _ _ _ x (of_tup upd_same ((d1.same x.z).rep _)) q5
  · rename_i xs k
    obtain ⟨a, us, e1, s1, d1⟩ := den_lst dx
    obtain ⟨⟨q1, q2, q3⟩, q5⟩ := q
    refine .inr (.inl ⟨a, k, us, e1, den_int dy, st.z _ _ s1, q2, q1, by rw [← d1.length]; exact q3, fun p hp => ?_⟩)
    have x := Ext.put st hp (.lst (List.replicate k.toNat us).flatten)
    exact h _ _ _ _ x (of_lst upd_same ((d1.same x.z).rep _)) q5
theorem de_mul (hK : X.K = B.G.K) (ha : DE X B a wa) (hb : DE X B b wb) : DE X B (.BinOp a .Mult b pos) (fun ρ => bnd (wa ρ) fun x => bnd (wb ρ) fun y => mulD x y) := de_op (op_mulA.or (op_rep.or (op_repT.or op_repS))) (dop_mul hK) ha hb
def modD : D → D → W D := onI2 fun i j => grd (0 < j) (ret (.int (i % j)))
theorem de_mod (ha : DE X B a wa) (hb : DE X B b wb) : DE X B (.BinOp a .Mod b pos) (fun ρ => bnd (wa ρ) fun x => bnd (wb ρ) fun y => modD x y) := de_op op_mod dop_I ha hb
def divD : D → D → W D := onI2 fun i j => grd (CDivW i j) (ret (.int (i / j)))
theorem de_div (ha : DE X B a wa) (hb : DE X B b wb) : DE X B (.BinOp a .FloorDiv b pos) (fun ρ => bnd (wa ρ) fun x => bnd (wb ρ) fun y => divD x y) := de_op op_fdivW dop_I ha hb
def powD : D → D → W D := onI2 fun i j => grd (CPow i j) (ret (.int (i ^ j.toNat)))
theorem de_pow (ha : DE X B a wa) (hb : DE X B b wb) : DE X B (.BinOp a .Pow b pos) (fun ρ => bnd (wa ρ) fun x => bnd (wb ρ) fun y => powD x y) := de_op op_pow dop_I ha hb
def shlD : D → D → W D := onI2 fun i j => grd (CPow i j) (ret (.int (i * 2 ^ j.toNat)))
theorem de_shl (ha : DE X B a wa) (hb : DE X B b wb) : DE X B (.BinOp a .LShift b pos) (fun ρ => bnd (wa ρ) fun x => bnd (wb ρ) fun y => shlD x y) := de_op op_shl dop_I ha hb
def andD : D → D → W D := onI2 fun i j => ret (.int (Builtin.bitAnd i j))
theorem de_band (ha : DE X B a wa) (hb : DE X B b wb) : DE X B (.BinOp a .BitAnd b pos) (fun ρ => bnd (wa ρ) fun x => bnd (wb ρ) fun y => andD x y) := de_op op_and dop_I0 ha hb
def orD : D → D → W D := onI2 fun i j => ret (.int (Builtin.bitOr i j))
theorem de_bor (ha : DE X B a wa) (hb : DE X B b wb) : DE X B (.BinOp a .BitOr b pos) (fun ρ => bnd (wa ρ) fun x => bnd (wb ρ) fun y => orD x y) := de_op op_or dop_I0 ha hb
def negD : D → W D
  | .int i => ret (.int (-i))
  | _ => stk
theorem de_neg (ha : DE X B a wa) : DE X B (.UnaryOp .USub a pos) (fun ρ => bnd (wa ρ) fun x => negD x) := de_un un_neg (by
  intro H0 H x vx QD ED Q st dx q h
  cases x <;> first | exact (show False from q).elim | skip
  exact ⟨_, den_int dx, h _ _ H0 H st.refl of_int q⟩) ha
/-! ### order of ints -/
abbrev cmpI (g : Int → Int → Bool) : D → D → W D := onI2 fun i j => ret (.bl (g i j))
abbrev ltD : D → D → W D := cmpI fun i j => decide (i < j)
abbrev leD : D → D → W D := cmpI fun i j => decide (i ≤ j)
abbrev gtD : D → D → W D := cmpI fun i j => decide (j < i)
abbrev geD : D → D → W D := cmpI fun i j => decide (j ≤ i)
theorem d_lt : DOp2 G (rI0 fun i j => .bl (decide (i < j))) ltD := dop_B0
theorem d_le : DOp2 G (rI0 fun i j => .bl (decide (i ≤ j))) leD := dop_B0
theorem d_gt : DOp2 G (rI0 fun i j => .bl (decide (j < i))) gtD := dop_B0
theorem d_ge : DOp2 G (rI0 fun i j => .bl (decide (j ≤ i))) geD := dop_B0
/-! ### is None -/
def isNon : D → Bool
  | .non => true
  | _ => false
theorem Den.non_iff {H : Hp} {x : D} {v : V} (h : Den G H x v) : decide (v = .non) = isNon x := by
  cases x with
  | non => rw [den_non h]; rfl
  | bl b => rw [den_bl h]; rfl
  | int b => rw [den_int h]; rfl
  | str b => rw [den_str h]; rfl
  | tup xs => obtain ⟨a, vs, e, _⟩ := den_tup h; rw [e]; rfl
  | lst xs => obtain ⟨a, vs, e, _⟩ := den_lst h; rw [e]; rfl
  | dic ks us => simp only [Den] at h; obtain ⟨a, vs, e, _⟩ := h; rw [e]; rfl
  | ins c fs => simp only [Den] at h; obtain ⟨a, dx, vs, e, _⟩ := h; rw [e]; rfl
  | clo i cs => simp only [Den] at h; obtain ⟨a, vs, e, _⟩ := h; rw [e]; rfl
  | hnd => simp only [Den] at h; obtain ⟨a, e, _⟩ := h; rw [e]; rfl
  | scr ns => simp only [Den] at h; obtain ⟨a, e, _⟩ := h; rw [e]; rfl
def isD : D → D → W D := fun x y => match y with
  | .non => ret (.bl (isNon x))
  | _ => stk
def isnotD : D → D → W D := fun x y => match y with
  | .non => ret (.bl (!isNon x))
  | _ => stk
theorem d_is : DOp2 G (fun x y H Q => y = .non ∧ Q (.bl (decide (x = .non))) H) isD := by
  intro H0 H x y vx vy QD ED Q st dx dy q h
  cases y <;> first | exact (show False from q).elim | skip
  exact ⟨den_non dy, h _ _ H0 H st.refl (by rw [dx.non_iff]; exact of_bl) q⟩
theorem d_isnot : DOp2 G (fun x y H Q => y = .non ∧ Q (.bl (!decide (x = .non))) H) isnotD := by
  intro H0 H x y vx vy QD ED Q st dx dy q h
  cases y <;> first | exact (show False from q).elim | skip
  exact ⟨den_non dy, h _ _ H0 H st.refl (by rw [dx.non_iff]; exact of_bl) q⟩
end
end DL
end
section
set_option Elab.async false
set_option linter.all false
set_option maxRecDepth 100000
set_option maxHeartbeats 1000000
set_option autoImplicit false
/-! DD: tests, argument lists, displays, subscripts, attributes, calls. -/
namespace DL
open PySem PySem.Spec L2
section
variable {X : Cx} {B : Bx} {a b c e : Expr} {es rest : List Expr} {wa wb wc : Env → W D} {ta tb tc : Env → W Bool} {pos : Pos} {G : Gx}
/-! ### tests -/
theorem liftT_imp {w : Env → W Bool} {σ : L2.St} {H : Hp} {Q Q' : Bool → Hp → Prop} (h : liftT B w σ H Q) (i : ∀ b H', Q b H' → Q' b H') : liftT B w σ H Q' :=
  let ⟨ρ, H0, QD, k, q, h⟩ := h
  ⟨ρ, H0, QD, k, q, fun b H1 H2 x q => i b H2 (h b H1 H2 x q)⟩
def andT (x y : W Bool) : W Bool := bnd x fun c => if c = true then y else ret false
def orT (x y : W Bool) : W Bool := bnd x fun c => if c = true then ret true else y
def notT (x : W Bool) : W Bool := bnd x fun c => ret (!c)
theorem dt_and1 (ha : DT X B a ta) : PW X (.BoolOp .And [a] pos) (liftT B ta) := pw_and1 ha
theorem dt_or1 (ha : DT X B a ta) : PW X (.BoolOp .Or [a] pos) (liftT B ta) := pw_or1 ha
theorem PW.imp {e : Expr} {t t' : TT} (h : PW X e t) (i : ∀ σ H Q, t' σ H Q → t σ H Q) : PW X e t' := ⟨fun w pins s σ H Q I q => h.run w pins s σ H Q I (i σ H Q q)⟩
theorem dt_and (ha : DT X B a ta) (hb : PW X (.BoolOp .And (b :: rest) pos) (liftT B tb)) : PW X (.BoolOp .And (a :: b :: rest) pos) (liftT B fun ρ => andT (ta ρ) (tb ρ)) := by
  refine PW.imp (pw_and ha hb) fun σ H Q ⟨ρ, H0, QD, k, q, h⟩ => ⟨ρ, H0, _, k, q, fun b H1 H2 x q1 => ?_⟩
  cases b with
  | true => exact iteT ⟨ρ, H1, QD, k.later x, q1, fun b H3 H4 x2 q2 => h b H3 H4 (x.trans x2) q2⟩
  | false => exact iteF (h false H1 H2 x q1)
theorem dt_or (ha : DT X B a ta) (hb : PW X (.BoolOp .Or (b :: rest) pos) (liftT B tb)) : PW X (.BoolOp .Or (a :: b :: rest) pos) (liftT B fun ρ => orT (ta ρ) (tb ρ)) := by
  refine PW.imp (pw_or ha hb) fun σ H Q ⟨ρ, H0, QD, k, q, h⟩ => ⟨ρ, H0, _, k, q, fun b H1 H2 x q1 => ?_⟩
  cases b with
  | false => exact iteF ⟨ρ, H1, QD, k.later x, q1, fun b H3 H4 x2 q2 => h b H3 H4 (x.trans x2) q2⟩
  | true => exact iteT (h true H1 H2 x q1)
theorem dt_not (ha : DT X B a ta) : DT X B (.UnaryOp .Not a pos) (fun ρ => notT (ta ρ)) :=
  PT.imp (pt_not ha) fun σ H Q ⟨ρ, H0, QD, k, q, h⟩ => ⟨ρ, H0, _, k, q, fun b H1 H2 x q1 => h (!b) H1 H2 x q1⟩
/-- a value's truth -/
def truD : D → W Bool
  | .non => ret false
  | .bl b => ret b
  | .int i => ret (i != 0)
  | .str x => grd (x.length ≤ sizeLine) (ret ((x.length : Int) != 0))
  | .tup xs => ret (!xs.isEmpty)
  | .lst xs => ret (!xs.isEmpty)
  | _ => stk
theorem Dens.isEmpty {H : Hp} {xs : List D} {vs : List V} (h : Dens G H xs vs) : vs.isEmpty = xs.isEmpty := by
  have := h.length
  cases xs <;> cases vs <;> simp_all
theorem dt_truth (hK : X.K = B.G.K) (ha : DE X B a wa) (he : ∀ whole, isTrue a X.env whole = (do let v ← whole; standAt a.pos; holding [v] (truthy v)) := by intro _; rfl) : DT X B a (fun ρ => bnd (wa ρ) truD) := by
  refine PT.imp (pt_truth ha he) fun σ H Q ⟨ρ, H0, QD, k, q, h⟩ => ⟨ρ, H0, _, k, q, fun d v H1 H2 x dd q1 => ?_⟩
  have st := x.st
  cases d <;> first | exact (show False from q1).elim | skip
  · rw [den_non dd]; exact ⟨false, rfl, h _ H1 H2 x q1⟩
  · rw [den_bl dd]; exact ⟨_, rfl, h _ H1 H2 x q1⟩
  · rw [den_int dd]; exact ⟨_, rfl, h _ H1 H2 x q1⟩
  · rw [den_str dd]; exact ⟨_, ⟨q1.1, rfl⟩, h _ H1 H2 x q1.2⟩
  · obtain ⟨p, vs, e, s, ds⟩ := den_tup dd
    rw [e]
    exact ⟨_, .inr (.inl ⟨vs, by rw [hK]; exact SqT.up st.z s, rfl⟩), h _ H1 H2 x (by rw [ds.isEmpty]; exact q1)⟩
  · obtain ⟨p, vs, e, s, ds⟩ := den_lst dd
    rw [e]
    exact ⟨_, .inl ⟨vs, .of (st.z _ _ s), rfl⟩, h _ H1 H2 x (by rw [ds.isEmpty]; exact q1)⟩
/-- and, or, not as values: bools -/
theorem de_one {op : BoolOp} (ha : DE X B a wa) : DE X B (.BoolOp op [a] pos) wa := pe_one ha
theorem de_and (ha : DE X B a wa) (hb : DE X B (.BoolOp .And (b :: rest) pos) wb) : DE X B (.BoolOp .And (a :: b :: rest) pos) (fun ρ => bnd (bnd (wa ρ) asB) fun k => if k = true then wb ρ else ret (.bl false)) := by
  refine PE.imp (pe_and ha hb) fun σ H Q ⟨ρ, H0, QD, k, q, h⟩ => ⟨ρ, H0, _, k, q, fun d v H1 H2 x dd q1 => ?_⟩
  cases d <;> first | exact (show False from q1).elim | skip
  rename_i t
  refine ⟨t, den_bl dd, ?_⟩
  cases t with
  | true => exact iteT ⟨ρ, H1, QD, k.later x, q1, fun d v H3 H4 x2 d2 q2 => h d v H3 H4 (x.trans x2) d2 q2⟩
  | false => exact iteF (h _ _ H1 H2 x of_bl q1)
theorem de_or (ha : DE X B a wa) (hb : DE X B (.BoolOp .Or (b :: rest) pos) wb) : DE X B (.BoolOp .Or (a :: b :: rest) pos) (fun ρ => bnd (bnd (wa ρ) asB) fun k => if k = true then ret (.bl true) else wb ρ) := by
  refine PE.imp (pe_or ha hb) fun σ H Q ⟨ρ, H0, QD, k, q, h⟩ => ⟨ρ, H0, _, k, q, fun d v H1 H2 x dd q1 => ?_⟩
  cases d <;> first | exact (show False from q1).elim | skip
  rename_i t
  refine ⟨t, den_bl dd, ?_⟩
  cases t with
  | false => exact iteF ⟨ρ, H1, QD, k.later x, q1, fun d v H3 H4 x2 d2 q2 => h d v H3 H4 (x.trans x2) d2 q2⟩
  | true => exact iteT (h _ _ H1 H2 x of_bl q1)
theorem de_not (ha : DE X B a wa) : DE X B (.UnaryOp .Not a pos) (fun ρ => bnd (bnd (wa ρ) asB) fun k => ret (.bl (!k))) := by
  refine PE.imp (pe_not ha) fun σ H Q ⟨ρ, H0, QD, k, q, h⟩ => ⟨ρ, H0, _, k, q, fun d v H1 H2 x dd q1 => ?_⟩
  cases d <;> first | exact (show False from q1).elim | skip
  exact ⟨_, den_bl dd, h _ _ H1 H2 x of_bl q1⟩
theorem de_if {c : Expr} (hc : DT X B c tc) (ha : DE X B a wa) (hb : DE X B b wb) : DE X B (.IfExp c a b pos) (fun ρ => bnd (tc ρ) fun k => if k = true then wa ρ else wb ρ) := by
  refine PE.imp (pe_ifExp hc ha hb) fun σ H Q ⟨ρ, H0, QD, k, q, h⟩ => ⟨ρ, H0, _, k, q, fun t H1 H2 x q1 => ?_⟩
  cases t with
  | true => exact iteT ⟨ρ, H1, QD, k.later x, q1, fun d v H3 H4 x2 d2 q2 => h d v H3 H4 (x.trans x2) d2 q2⟩
  | false => exact iteF ⟨ρ, H1, QD, k.later x, q1, fun d v H3 H4 x2 d2 q2 => h d v H3 H4 (x.trans x2) d2 q2⟩
/-! ### argument lists, displays -/
theorem da_nil : DA X B 0 [] (fun _ => ret []) := PA.imp pa_nil fun σ H Q ⟨ρ, H0, QD, k, q, h⟩ => h [] [] H0 H k.refl .nil rfl q
theorem da_cons {n : Nat} {wr : Env → W (List D)} (ha : DE X B e wa) (hr : DA X B n es wr) (hs : starEach (e :: es) X.env = (false, eval e X.env) :: starEach es X.env := by rfl) :
    DA X B (n + 1) (e :: es) (fun ρ => bnd (wa ρ) fun x => bnd (wr ρ) fun xs => ret (x :: xs)) := by
  refine PA.imp (pa_cons ha hr hs) fun σ H Q ⟨ρ, H0, QD, k, q, h⟩ => ⟨ρ, H0, _, k, q, fun d v H1 H2 x dd q1 => ⟨ρ, H1, _, k.later x, q1, fun ds vs H3 H4 x2 d2 l q2 => ?_⟩⟩
  exact h _ _ H3 H4 (x.trans x2) (.cons (dd.same x2.z) d2) (by rw [List.length_cons, l]) q2
theorem de_tup {n : Nat} {k0 : Nat} {w : Env → W (List D)} (h : DA X B n es w) (hn : n ≤ 1000 := by decide) : DE X B (.Tuple es k0 pos) (fun ρ => bnd (w ρ) fun xs => ret (.tup xs)) := by
  refine PE.imp (pe_tup h) fun σ H Q ⟨ρ, H0, QD, k, q, h⟩ => ⟨ρ, H0, _, k, q, fun ds vs H1 H2 x dd l q1 => ⟨by rw [l, sizeLine_eq]; omega, fun p hp => ?_⟩⟩
  have x2 := Ext.put x.st hp (.tup vs)
  exact h _ _ _ _ (x.trans x2) (of_tup upd_same (dd.same x2.z)) q1
theorem de_lst {n : Nat} {w : Env → W (List D)} (h : DA X B n es w) (hn : n ≤ 1000 := by decide) : DE X B (.List es pos) (fun ρ => bnd (w ρ) fun xs => ret (.lst xs)) := by
  refine PE.imp (pe_lst h) fun σ H Q ⟨ρ, H0, QD, k, q, h⟩ => ⟨ρ, H0, _, k, q, fun ds vs H1 H2 x dd l q1 => ⟨by rw [l, sizeLine_eq]; omega, fun p hp => ?_⟩⟩
  have x2 := Ext.put x.st hp (.lst vs)
  exact h _ _ _ _ (x.trans x2) (of_lst upd_same (dd.same x2.z)) q1
/-! ### subscripts -/
def optW {α : Type} : Option α → W α
  | some a => ret a
  | none => stk
def ixD : D → D → W D
  | .lst xs, .int i => optW (atI xs i)
  | .tup xs, .int i => optW (atI xs i)
  | _, _ => stk
theorem Dens.atI {H : Hp} {xs : List D} {vs : List V} {i : Int} {d : D} (h : Dens G H xs vs) (e : L2.atI xs i = some d) : ∃ v, L2.atI vs i = some v ∧ Den G H d v := by
  unfold L2.atI at e ⊢
  rw [← h.length]
  cases q : ixN xs.length i with
  | none => rw [q] at e; cases e
  | some j =>
    rw [q] at e
    obtain ⟨v, h1, h2⟩ := h.get (show xs[j]? = some d from e)
    exact ⟨v, h1, h2⟩
theorem optW_of {α : Type} {o : Option α} {Q : α → Prop} {E : DX → Prop} (h : optW o Q E) : ∃ a, o = some a ∧ Q a := by
  cases o with
  | none => exact (show False from h).elim
  | some a => exact ⟨a, rfl, h⟩
theorem dop_ix (hK : X.K = G.K) : DOp2 G (fun x y H Q => rIxL X.K x y H Q ∨ rIxT X.K x y H Q) ixD := by
  intro H0 H x y vx vy QD ED Q st dx dy q h
  cases x <;> cases y <;> first | exact (show False from q).elim | skip
  · obtain ⟨a, us, e1, s1, d1⟩ := den_tup dx
    obtain ⟨d, e, q⟩ := optW_of q
    obtain ⟨v, h1, h2⟩ := d1.atI e
    exact .inr ⟨a, us, _, v, e1, den_int dy, by rw [hK]; exact SqT.up st.z s1, h1, h _ _ H0 H st.refl h2 q⟩
  · obtain ⟨a, us, e1, s1, d1⟩ := den_lst dx
    obtain ⟨d, e, q⟩ := optW_of q
    obtain ⟨v, h1, h2⟩ := d1.atI e
    exact .inl ⟨a, us, _, v, e1, den_int dy, .of (st.z _ _ s1), h1, h _ _ H0 H st.refl h2 q⟩
theorem de_ix (hK : X.K = B.G.K) (ha : DE X B a wa) (hb : DE X B b wb) (hs : PlainIx b := by exact fun _ _ => rfl) : DE X B (.Subscript a b pos) (fun ρ => bnd (wa ρ) fun x => bnd (wb ρ) fun y => ixD x y) :=
  PE.imp (pe_ix (ix_list.or ix_tup) ha hb hs) fun _ _ _ h => lift2 (dop_ix hK) h
end
end DL
end
section
set_option Elab.async false
set_option linter.all false
set_option maxRecDepth 100000
set_option maxHeartbeats 1000000
set_option autoImplicit false
/-! DF: attributes, calls of defs, built-ins, isinstance. -/
namespace DL
open PySem PySem.Spec L2
/-! ### what of the text the data layer leans on -/
def tyAs : List String := ["NoneType", "bool", "int", "str", "tuple", "list", "dict"]
def tyBs : List String := ["bool", "int", "str", "tuple", "list", "dict"]
/-- what isinstance asks of an own class -/
structure ClsI (G : Gx) (c : Nat) : Prop where
  cl : Cls G.K (G.cls c)
  ha : PySem.W.findIn G.K (.ref (G.cls c)) "__class__" = some (some (.builtin "object.__class__"))
  hn : PySem.W.specialIn G.K (.builtin "object.__class__") "__get__" = some (some (.builtin "getset_descriptor.__get__"))
  htk : PySem.W.takesIn G.K (.builtin "object.__class__") = some true
  hm : PySem.W.mroIn G.K (G.cls c) (.type "object") = some true
  no : ∀ b ∈ tyBs, PySem.W.kitOne G.K (.ref (G.cls c)) (.type b) = some false
  hno : PySem.W.findIn G.K (.ref (G.cls c)) "__ne__" = some (some (.builtin "object.__ne__"))
  on : ∀ a ∈ tyAs, PySem.W.kitOne G.K (.type a) (.ref (G.cls c)) = some false
/-- of the classes: numbers below n -/
structure GOk (G : Gx) : Prop where
  cls : ∀ c, G.flds c ≠ [] → Cls G.K (G.cls c)
  noat : ∀ c f, f ∈ G.flds c → NoAttr G.K (G.cls c) f
  nd : ∀ c, (G.flds c).Nodup
  small : ∀ c, (G.flds c).length ≤ 100
  ty : ∀ c, G.flds c ≠ [] → ClsI G c
  ne : ∀ c c', G.flds c ≠ [] → G.flds c' ≠ [] → c ≠ c' → PySem.W.kitOne G.K (.ref (G.cls c)) (.ref (G.cls c')) = some false
section
variable {X : Cx} {B : Bx} {a b c e : Expr} {es rest : List Expr} {wa wb wc : Env → W D} {pos : Pos} {G : Gx} {x : Str} {p : Pos}
def lookD (f : Str) : List Str → List D → Option D
  | n :: ns, d :: ds => if f = n then some d else lookD f ns ds
  | _, _ => none
def fldD (G : Gx) (f : Str) : D → W D
  | .ins c fs => optW (lookD f (G.flds c) fs)
  | _ => stk
theorem lookD_look {H : Hp} {f : Str} : ∀ {ns : List Str} {ds : List D} {vs : List V} {d : D}, Dens G H ds vs → lookD f ns ds = some d → f ∈ ns ∧ ∃ v, (ns.zip vs).lookup f = some v ∧ Den G H d v
  | [], _, _, _, _, e => by cases e
  | n :: ns, [], _, _, _, e => by cases e
  | n :: ns, d :: ds, vs, d', h, e => by
    obtain ⟨v, ws, h1, h2, h3⟩ := h.uncons
    subst h1
    unfold lookD at e
    by_cases q : f = n
    · rw [if_pos q] at e
      cases e
      subst q
      exact ⟨List.mem_cons_self, v, by simp [List.lookup], h2⟩
    · rw [if_neg q] at e
      obtain ⟨m, v', l, dd⟩ := lookD_look h3 e
      have hb : (f == n) = false := beq_eq_false_iff_ne.mpr q
      exact ⟨List.mem_cons_of_mem _ m, v', by simp only [List.zip_cons_cons, List.lookup, hb]; exact l, dd⟩
theorem de_fld {f : Str} (hK : X.K = B.G.K) (g : GOk B.G) (ha : DE X B e wa) (hb : attributeBase e f X.env (eval e X.env) = eval e X.env := by rfl) : DE X B (.Attribute e f pos) (fun ρ => bnd (wa ρ) fun x => fldD B.G f x) := by
  refine PE.imp (pe_fld ha hb) fun σ H Q ⟨ρ, H0, QD, k, q, h⟩ => ⟨ρ, H0, _, k, q, fun d v H1 H2 x dd q1 => ?_⟩
  cases d <;> first | exact (show False from q1).elim | skip
  rename_i c fs
  obtain ⟨y, e, q1⟩ := optW_of q1
  simp only [Den] at dd
  obtain ⟨a, dx, vs, ev, s, hl, ds⟩ := dd
  obtain ⟨m, v', l, d'⟩ := lookD_look ds e
  exact ⟨a, _, dx, _, v', ev, x.zz _ _ s, by rw [hK]; exact g.cls c (List.ne_nil_of_mem m), by rw [hK]; exact g.noat c f m, l, h _ _ H1 H2 x d' q1⟩
/-! ### a def's promise at the level of data -/
def EndX (G : Gx) (H0 H : Hp) (ED : DX → Prop) (E : XK) : Prop := ∀ x cls d H0' H', Ext G.T H0 H H0' H' → DenX G H0' x cls d → ED x → E cls d H'
def liftSp (G : Gx) (n : Nat) (s : List D → W D) : Sp := fun vs H Q E => ∃ (H0 : Hp) (ds : List D) (QD : D → Prop) (ED : DX → Prop), vs.length = n ∧ St0 G H0 H ∧ Dens G H0 ds vs ∧ s ds QD ED ∧ End1 G H0 H QD Q ∧ EndX G H0 H ED E
/-- the module's name x is a def of n parameters that does s, in k rooms -/
structure FnH (P : Program) (w : World) (G : Gx) (mg : Str → Option Value) (base : Heap) (x : Str) (n k : Nat) (s : List D → W D) : Prop where
  ex : ∃ (f : Addr) (fd : FuncData) (ps : List Str), ps.length = n ∧ mg x = some (.ref f) ∧ PySem.W.keepIn G.K (.ref f) = true ∧ L2.Binds G.K fd ps [] ∧ FnOk P w G.K mg base (L2.CX P w) k f fd ps (liftSp G n s)
theorem FnH.mono {P : Program} {w : World} {G : Gx} {mg : Str → Option Value} {base : Heap} {x : Str} {n k j : Nat} {s : List D → W D} (F : FnH P w G mg base x n j s) (h : j ≤ k) : FnH P w G mg base x n k s :=
  let ⟨f, fd, ps, h1, h2, h3, h4, h5⟩ := F.ex
  ⟨f, fd, ps, h1, h2, h3, h4, h5.mono h⟩
theorem FnH.imp {P : Program} {w : World} {G : Gx} {mg : Str → Option Value} {base : Heap} {x : Str} {n k : Nat} {s s' : List D → W D} (F : FnH P w G mg base x n k s) (h : ∀ ds Q E, s' ds Q E → s ds Q E) : FnH P w G mg base x n k s' :=
  let ⟨f, fd, ps, h1, h2, h3, h4, h5⟩ := F.ex
  ⟨f, fd, ps, h1, h2, h3, h4, h5.imp fun vs H Q E ⟨H0, ds, QD, ED, l, st, dd, q, e1, e2⟩ => ⟨H0, ds, QD, ED, l, st, dd, h _ _ _ q, e1, e2⟩⟩
theorem Ok.endX {ρ : DL.Env} {σ : L2.St} {H0 H : Hp} (bok : BxOk B) (k : Ok B ρ σ H0 H) : EndX B.G H0 H B.E B.xk := fun x cls d H1 H2 e dx q => bok x cls d H1 H2 (k.ext.trans e) dx q
/-- f(e, ..) -/
theorem de_call {n k : Nat} {s : List D → W D} {w : Env → W (List D)} (F : FnH X.prog X.w B.G X.mg X.base x (n + 1) k s) (hK : X.K = B.G.K) (hr : Room k X.A) (hp : Passes (L2.CX X.prog X.w) X B.xk) (bok : BxOk B) (hg : Gl X x) (ha : DA X B (n + 1) (e :: es) w)
    (hdb : (x == ("__debug__" : Str)) = false := by decide) (he : starEach (e :: es) X.env = (false, eval e X.env) :: starEach es X.env := by rfl) (hpl : (backTo pos (starEach es X.env)).any (·.1) = false := by rfl) :
    DE X B (.Call (.Name x p) (e :: es) [] pos) (fun ρ => bnd (w ρ) s) := by
  obtain ⟨f, fd, ps, h1, h2, h3, h4, h5⟩ := F.ex
  rw [← hK] at h3 h4 h5
  refine PE.imp (pe_call h5 hr hg h2 h3 h4 .nil hp ha hdb he hpl) fun σ H Q ⟨ρ, H0, QD, k, q, h⟩ => ⟨ρ, H0, _, k, q, fun ds vs H1 H2 x dd l q1 => ?_⟩
  show liftSp B.G (n + 1) s (vs ++ []) H2 Q B.xk
  rw [List.append_nil]
  exact ⟨H1, ds, QD, B.E, l, x.st, dd, q1, fun d v H3 H4 x2 d2 q2 => h d v H3 H4 (x.trans x2) d2 q2, (k.later x).endX bok⟩
theorem de_call0 {k : Nat} {s : List D → W D} (F : FnH X.prog X.w B.G X.mg X.base x 0 k s) (hK : X.K = B.G.K) (hr : Room k X.A) (hp : Passes (L2.CX X.prog X.w) X B.xk) (bok : BxOk B) (hg : Gl X x)
    (hdb : (x == ("__debug__" : Str)) = false := by decide) : DE X B (.Call (.Name x p) [] [] pos) (fun _ => s []) := by
  obtain ⟨f, fd, ps, h1, h2, h3, h4, h5⟩ := F.ex
  rw [← hK] at h3 h4 h5
  refine PE.imp (pe_call0 h5 hr hg h2 h3 h4 .nil hp hdb) fun σ H Q ⟨ρ, H0, QD, k, q, h⟩ => ?_
  exact ⟨H0, [], QD, B.E, rfl, k.st, .nil, q, fun d v H3 H4 x2 d2 q2 => h d v H3 H4 x2 d2 q2, k.endX bok⟩
/-! ### built-ins -/
theorem lift_cb {n : Nat} {r : List V → Hp → VK → Prop} {f : List D → W D} {w : Env → W (List D)} (hr : DOpL B.G r f) {σ : L2.St} {H : Hp} {Q : VK} (h : lift B (fun ρ => bnd (w ρ) f) σ H Q) : tCB r (liftA B n w) σ H Q := by
  obtain ⟨ρ, H0, QD, k, q, h⟩ := h
  refine ⟨ρ, H0, _, k, q, fun ds vs H1 H2 x dd l q1 => ?_⟩
  exact hr H1 H2 ds vs QD B.E Q x.st dd q1 fun d v H3 H4 x3 d3 q3 => h d v H3 H4 (x.trans x3) d3 q3
theorem de_callB {n : Nat} {id : String} {r : List V → Hp → VK → Prop} {f : List D → W D} {w : Env → W (List D)} (hc : CallR X (.builtin id) r) (hr : DOpL B.G r f) (hg : Gl X x) (hm : X.mg x = none) (hv : bootBuiltins x = some (.builtin id)) (ha : DA X B n (e :: es) w)
    (hn : x ≠ "__name__" := by decide) (hdb : (x == ("__debug__" : Str)) = false := by decide)
    (he : starEach (e :: es) X.env = (false, eval e X.env) :: starEach es X.env := by rfl) (hpl : (backTo pos (starEach es X.env)).any (·.1) = false := by rfl) :
    DE X B (.Call (.Name x p) (e :: es) [] pos) (fun ρ => bnd (w ρ) f) := PE.imp (pe_callB hc hg hm hv ha hn hdb he hpl) fun _ _ _ h => lift_cb hr h
theorem de_callTy {n : Nat} {T : String} {r : List V → Hp → VK → Prop} {f : List D → W D} {w : Env → W (List D)} (hc : CallR X (.type T) r) (hr : DOpL B.G r f) (hg : Gl X x) (hm : X.mg x = none) (hv : bootBuiltins x = some (.type T)) (ha : DA X B n (e :: es) w)
    (hn : x ≠ "__name__" := by decide) (hdb : (x == ("__debug__" : Str)) = false := by decide)
    (he : starEach (e :: es) X.env = (false, eval e X.env) :: starEach es X.env := by rfl) (hpl : (backTo pos (starEach es X.env)).any (·.1) = false := by rfl) :
    DE X B (.Call (.Name x p) (e :: es) [] pos) (fun ρ => bnd (w ρ) f) := PE.imp (pe_callTy hc hg hm hv ha hn hdb he hpl) fun _ _ _ h => lift_cb hr h
theorem dens1 {H : Hp} {d : D} {vs : List V} (h : Dens G H [d] vs) : ∃ v, vs = [v] ∧ Den G H d v := by
  obtain ⟨v, ws, h1, h2, h3⟩ := h.uncons
  rw [h3.unnil] at h1
  exact ⟨v, h1, h2⟩
theorem dens2 {H : Hp} {d d' : D} {vs : List V} (h : Dens G H [d, d'] vs) : ∃ v v', vs = [v, v'] ∧ Den G H d v ∧ Den G H d' v' := by
  obtain ⟨v, ws, h1, h2, h3⟩ := h.uncons
  obtain ⟨v', h4, h5⟩ := dens1 h3
  subst h4
  exact ⟨v, v', h1, h2, h5⟩
def lenD : List D → W D
  | [.lst xs] => ret (.int xs.length)
  | [.tup xs] => ret (.int xs.length)
  | [.str z] => grd (z.length ≤ sizeLine) (ret (.int z.length))
  | _ => stk
theorem d_len (hK : X.K = G.K) : DOpL G (fun xs H Q => ∃ x n, xs = [x] ∧ LenV X.K x H n ∧ Q (.int n) H) lenD := by
  intro H0 H xs vs QD ED Q st dd q h
  match xs, q with
  | [.lst xs], q =>
    obtain ⟨v, e, d1⟩ := dens1 dd
    obtain ⟨a, us, e1, s1, d2⟩ := den_lst d1
    exact ⟨.ref a, us.length, by rw [e, e1], Or.inl ⟨us, .of (st.z _ _ s1), rfl⟩, h _ _ H0 H st.refl (by rw [← d2.length]; exact of_int) q⟩
  | [.tup xs], q =>
    obtain ⟨v, e, d1⟩ := dens1 dd
    obtain ⟨a, us, e1, s1, d2⟩ := den_tup d1
    exact ⟨.ref a, us.length, by rw [e, e1], Or.inr ⟨us, by rw [hK]; exact SqT.up st.z s1, rfl⟩, h _ _ H0 H st.refl (by rw [← d2.length]; exact of_int) q⟩
  | [.str z], q =>
    obtain ⟨v, e, d1⟩ := dens1 dd
    exact ⟨.str z, z.length, by rw [e, den_str d1], And.intro q.1 rfl, h _ _ H0 H st.refl of_int q.2⟩
theorem de_len {w : Env → W (List D)} (hK : X.K = B.G.K) (hg : Gl X "len") (hm : X.mg "len" = none) (ha : DA X B 1 [e] w) (he : starEach [e] X.env = (false, eval e X.env) :: starEach [] X.env := by rfl) :
    DE X B (.Call (.Name "len" p) [e] [] pos) (fun ρ => bnd (w ρ) lenD) := de_callB call_len (d_len hK) hg hm boot_len ha (by decide) (by decide) he rfl
/-- lists of ints, of bools -/
def intsD : List D → Option (List Int)
  | [] => some []
  | .int i :: r => (intsD r).map (i :: ·)
  | _ :: _ => none
def boolsD : List D → Option (List Bool)
  | [] => some []
  | .bl i :: r => (boolsD r).map (i :: ·)
  | _ :: _ => none
theorem intsD_eq : ∀ {xs : List D} {ns : List Int}, intsD xs = some ns → xs = ns.map D.int
  | [], ns, h => by cases h; rfl
  | x :: xs, ns, h => by
    cases x <;> first | (cases h; done) | skip
    rename_i i
    have h' : (intsD xs).map (i :: ·) = some ns := h
    obtain ⟨ms, e1, e2⟩ := Option.map_eq_some_iff.mp h'
    rw [intsD_eq e1, ← e2]
    rfl
theorem boolsD_eq : ∀ {xs : List D} {ns : List Bool}, boolsD xs = some ns → xs = ns.map D.bl
  | [], ns, h => by cases h; rfl
  | x :: xs, ns, h => by
    cases x <;> first | (cases h; done) | skip
    rename_i i
    have h' : (boolsD xs).map (i :: ·) = some ns := h
    obtain ⟨ms, e1, e2⟩ := Option.map_eq_some_iff.mp h'
    rw [boolsD_eq e1, ← e2]
    rfl
theorem intsD_map (ns : List Int) : intsD (ns.map D.int) = some ns := by
  induction ns with
  | nil => rfl
  | cons n ns ih => show (intsD (ns.map D.int)).map (n :: ·) = _; rw [ih]; rfl
theorem boolsD_map (ns : List Bool) : boolsD (ns.map D.bl) = some ns := by
  induction ns with
  | nil => rfl
  | cons n ns ih => show (boolsD (ns.map D.bl)).map (n :: ·) = _; rw [ih]; rfl
theorem Dens.bools {H : Hp} : ∀ {ns : List Bool} {vs : List V}, Dens G H (ns.map D.bl) vs → vs = ns.map V.bl
  | [], _, h => h.unnil
  | n :: ns, vs, h => by
    obtain ⟨v, ws, h1, h2, h3⟩ := Dens.uncons (ds := ns.map D.bl) h
    rw [h1, Dens.bools h3, den_bl h2]
    rfl
def sumD : List D → W D
  | [.lst xs] => bnd (optW (intsD xs)) fun ns => ret (.int ns.sum)
  | _ => stk
def anyD : List D → W D
  | [.lst xs] => bnd (optW (boolsD xs)) fun ns => ret (.bl (ns.any id))
  | _ => stk
def allD : List D → W D
  | [.lst xs] => bnd (optW (boolsD xs)) fun ns => ret (.bl (ns.all id))
  | _ => stk
theorem d_sum : DOpL G (rSum X.K) sumD := by
  intro H0 H xs vs QD ED Q st dd q h
  match xs, q with
  | [.lst xs], q =>
    obtain ⟨v, e, d1⟩ := dens1 dd
    obtain ⟨a, us, e1, s1, d2⟩ := den_lst d1
    obtain ⟨ns, en, q⟩ := optW_of q
    rw [intsD_eq en] at d2
    rw [d2.ints] at s1
    exact ⟨a, ns, by rw [e, e1], .of (st.z _ _ s1), h _ _ H0 H st.refl of_int q⟩
theorem d_any : DOpL G (rAny X.K) anyD := by
  intro H0 H xs vs QD ED Q st dd q h
  match xs, q with
  | [.lst xs], q =>
    obtain ⟨v, e, d1⟩ := dens1 dd
    obtain ⟨a, us, e1, s1, d2⟩ := den_lst d1
    obtain ⟨ns, en, q⟩ := optW_of q
    rw [boolsD_eq en] at d2
    rw [d2.bools] at s1
    exact ⟨a, ns, by rw [e, e1], .of (st.z _ _ s1), h _ _ H0 H st.refl of_bl q⟩
theorem d_all : DOpL G (rAll X.K) allD := by
  intro H0 H xs vs QD ED Q st dd q h
  match xs, q with
  | [.lst xs], q =>
    obtain ⟨v, e, d1⟩ := dens1 dd
    obtain ⟨a, us, e1, s1, d2⟩ := den_lst d1
    obtain ⟨ns, en, q⟩ := optW_of q
    rw [boolsD_eq en] at d2
    rw [d2.bools] at s1
    exact ⟨a, ns, by rw [e, e1], .of (st.z _ _ s1), h _ _ H0 H st.refl of_bl q⟩
/-- tuple(x), list(x) of a list, a tuple -/
def tupleD : List D → W D
  | [.lst xs] => ret (.tup xs)
  | [.tup xs] => ret (.tup xs)
  | _ => stk
def listD : List D → W D
  | [.lst xs] => ret (.lst xs)
  | [.tup xs] => ret (.lst xs)
  | _ => stk
theorem d_tuple (hK : X.K = G.K) : DOpL G (fun xs H Q => ∃ p ys, xs = [.ref p] ∧ ((SqL X.K H p ys ∧ ∀ l, H l = none → Q (.ref l) (upd H l (.tup ys))) ∨ (SqT X.K H p ys ∧ Q (.ref p) H))) tupleD := by
  intro H0 H xs vs QD ED Q st dd q h
  match xs, q with
  | [.lst xs], q =>
    obtain ⟨v, e, d1⟩ := dens1 dd
    obtain ⟨a, us, e1, s1, d2⟩ := den_lst d1
    exact ⟨a, us, by rw [e, e1], .inl ⟨.of (st.z _ _ s1), fun l hl => h _ _ _ _ (Ext.put st hl _) (of_tup upd_same (d2.same (Ext.put st hl _).z)) q⟩⟩
  | [.tup xs], q =>
    obtain ⟨v, e, d1⟩ := dens1 dd
    obtain ⟨a, us, e1, s1, d2⟩ := den_tup d1
    refine ⟨a, us, by rw [e, e1], .inr ⟨by rw [hK]; exact SqT.up st.z s1, h _ _ H0 H st.refl ?_ q⟩⟩
    rw [← e1]
    exact d1
theorem d_list (hK : X.K = G.K) : DOpL G (fun xs H Q => ∃ p ys, xs = [.ref p] ∧ (SqL X.K H p ys ∨ SqT X.K H p ys) ∧ ∀ l, H l = none → Q (.ref l) (upd H l (.lst ys))) listD := by
  intro H0 H xs vs QD ED Q st dd q h
  match xs, q with
  | [.lst xs], q =>
    obtain ⟨v, e, d1⟩ := dens1 dd
    obtain ⟨a, us, e1, s1, d2⟩ := den_lst d1
    exact ⟨a, us, by rw [e, e1], .inl (.of (st.z _ _ s1)), fun l hl => h _ _ _ _ (Ext.put st hl _) (of_lst upd_same (d2.same (Ext.put st hl _).z)) q⟩
  | [.tup xs], q =>
    obtain ⟨v, e, d1⟩ := dens1 dd
    obtain ⟨a, us, e1, s1, d2⟩ := den_tup d1
    exact ⟨a, us, by rw [e, e1], .inr (by rw [hK]; exact SqT.up st.z s1), fun l hl => h _ _ _ _ (Ext.put st hl _) (of_lst upd_same (d2.same (Ext.put st hl _).z)) q⟩
def intD : List D → W D
  | [.int i] => ret (.int i)
  | [.bl k] => ret (.int (if k then 1 else 0))
  | _ => stk
theorem d_int : DOpL G (fun xs H Q => (∃ i, xs = [.int i] ∧ Q (.int i) H) ∨ ∃ k, xs = [.bl k] ∧ Q (.int (if k then 1 else 0)) H) intD := by
  intro H0 H xs vs QD ED Q st dd q h
  match xs, q with
  | [.int i], q =>
    obtain ⟨v, e, d1⟩ := dens1 dd
    exact .inl ⟨i, by rw [e, den_int d1], h _ _ H0 H st.refl of_int q⟩
  | [.bl i], q =>
    obtain ⟨v, e, d1⟩ := dens1 dd
    exact .inr ⟨i, by rw [e, den_bl d1], h _ _ H0 H st.refl of_int q⟩
def absD : List D → W D
  | [.int i] => ret (.int (if i < 0 then -i else i))
  | _ => stk
theorem d_abs : DOpL G (fun xs H Q => ∃ i, xs = [.int i] ∧ Q (.int (if i < 0 then -i else i)) H) absD := by
  intro H0 H xs vs QD ED Q st dd q h
  match xs, q with
  | [.int i], q =>
    obtain ⟨v, e, d1⟩ := dens1 dd
    exact ⟨i, by rw [e, den_int d1], h _ _ H0 H st.refl of_int q⟩
end
end DL
end
section
set_option Elab.async false
set_option linter.all false
set_option maxRecDepth 100000
set_option maxHeartbeats 1000000
set_option autoImplicit false
/-! DG: statements, what is walked, list comprehensions, for, a def by its body. -/
namespace DL
open PySem PySem.Spec L2
inductive Out where
  | nx (ρ : DL.Env) | rt (d : D) (ρ : DL.Env) | bk (ρ : DL.Env) | ct (ρ : DL.Env)
def liftS (B : Bx) (w : DL.Env → W Out) : TS := fun D σ H => ∃ (ρ : DL.Env) (H0 : Hp) (QO : Out → Prop), Ok B ρ σ H0 H ∧ w ρ QO B.E ∧
  (∀ ρ' σ' H0' H', Ok B ρ' σ' H0' H' → Same H0 H0' → QO (.nx ρ') → D.nx σ' H') ∧
  (∀ d v ρ' σ' H0' H', Ok B ρ' σ' H0' H' → Den B.G H0' d v → QO (.rt d ρ') → D.rt v H') ∧
  (∀ ρ' σ' H0' H', Ok B ρ' σ' H0' H' → Same H0 H0' → QO (.bk ρ') → D.bk σ' H') ∧
  (∀ ρ' σ' H0' H', Ok B ρ' σ' H0' H' → Same H0 H0' → QO (.ct ρ') → D.ct σ' H')
abbrev DS (X : Cx) (B : Bx) (st : Stmt) (w : DL.Env → W Out) : Prop := PS X st (liftS B w)
abbrev DSs (X : Cx) (B : Bx) (st : List Stmt) (w : DL.Env → W Out) : Prop := PSs X st (liftS B w)
def seqW (m : W Out) (f : DL.Env → W Out) : W Out := bnd m fun o => match o with
  | .nx ρ => f ρ
  | .rt d ρ => ret (.rt d ρ)
  | .bk ρ => ret (.bk ρ)
  | .ct ρ => ret (.ct ρ)
section
variable {X : Cx} {B : Bx} {st : Stmt} {rest : List Stmt} {e : Expr} {we : DL.Env → W D} {w w' : DL.Env → W Out} {pos : Pos}
theorem dss_nil : DSs X B [] (fun ρ => ret (.nx ρ)) := PSs.imp pss_nil fun D σ H ⟨ρ, H0, QO, k, q, h, _⟩ => h ρ σ H0 H k (.refl _) q
theorem dss_cons (h1 : DS X B st w) (h2 : DSs X B rest w') : DSs X B (st :: rest) (fun ρ => seqW (w ρ) w') := by
  refine PSs.imp (pss_cons h1 h2) fun D σ H ⟨ρ, H0, QO, k, q, h, hr, hb, hc⟩ => ⟨ρ, H0, _, k, q, fun ρ1 σ1 H1 H2 k1 s1 q1 => ?_, fun d v ρ1 σ1 H1 H2 x dd q1 => hr d v ρ1 σ1 H1 H2 x dd q1, fun ρ1 σ1 H1 H2 k1 s1 q1 => hb ρ1 σ1 H1 H2 k1 s1 q1, fun ρ1 σ1 H1 H2 k1 s1 q1 => hc ρ1 σ1 H1 H2 k1 s1 q1⟩
  exact ⟨ρ1, H1, QO, k1, q1, fun ρ2 σ2 H3 H4 k2 s2 q2 => h ρ2 σ2 H3 H4 k2 (s1.trans s2) q2, hr, fun ρ2 σ2 H3 H4 k2 s2 q2 => hb ρ2 σ2 H3 H4 k2 (s1.trans s2) q2, fun ρ2 σ2 H3 H4 k2 s2 q2 => hc ρ2 σ2 H3 H4 k2 (s1.trans s2) q2⟩
theorem dss_one (h1 : DS X B st w) : DSs X B [st] w := pss_one h1
theorem ds_pass : DS X B (.Pass pos) (fun ρ => ret (.nx ρ)) := PS.imp ps_pass fun D σ H ⟨ρ, H0, QO, k, q, h, _⟩ => h ρ σ H0 H k (.refl _) q
theorem ds_break : DS X B (.Break pos) (fun ρ => ret (.bk ρ)) := PS.imp ps_break fun D σ H ⟨ρ, H0, QO, k, q, _, _, h, _⟩ => h ρ σ H0 H k (.refl _) q
theorem ds_continue : DS X B (.Continue pos) (fun ρ => ret (.ct ρ)) := PS.imp ps_continue fun D σ H ⟨ρ, H0, QO, k, q, _, _, _, h⟩ => h ρ σ H0 H k (.refl _) q
theorem ds_ret (he : DE X B e we) : DS X B (.Return (some e) pos) (fun ρ => bnd (we ρ) fun d => ret (.rt d ρ)) :=
  PS.imp (ps_ret he) fun D σ H ⟨ρ, H0, QO, k, q, _, h, _⟩ => ⟨ρ, H0, _, k, q, fun d v H1 H2 x dd q1 => h d v ρ σ H1 H2 (k.later x) dd q1⟩
theorem ds_retN : DS X B (.Return none pos) (fun ρ => ret (.rt .non ρ)) :=
  PS.imp ps_retN fun D σ H ⟨ρ, H0, QO, k, q, _, h, _⟩ => h .non .non ρ σ H0 H k of_non q
theorem ds_expr (he : DE X B e we) (hs : swapsWith e none pos.line X.env = pure false := by rfl) : DS X B (.Expr e pos) (fun ρ => bnd (we ρ) fun _ => ret (.nx ρ)) :=
  PS.imp (ps_expr he hs) fun D σ H ⟨ρ, H0, QO, k, q, h, _⟩ => ⟨ρ, H0, _, k, q, fun d v H1 H2 x dd q1 => h ρ σ H1 H2 (k.later x) x.z q1⟩
theorem ds_if {c : Expr} {a b : List Stmt} {tc : DL.Env → W Bool} (hc : DT X B c tc) (ha : DSs X B a w) (hb : DSs X B b w') : DS X B (.If c a b pos) (fun ρ => bnd (tc ρ) fun t => if t = true then w ρ else w' ρ) := by
  refine PS.imp (ps_if hc ha hb) fun D σ H ⟨ρ, H0, QO, k, q, h, hr, hb, hc⟩ => ⟨ρ, H0, _, k, q, fun t H1 H2 x q1 => ?_⟩
  cases t with
  | true => exact iteT ⟨ρ, H1, QO, k.later x, q1, fun ρ2 σ2 H3 H4 k2 s2 q2 => h ρ2 σ2 H3 H4 k2 (x.z.trans s2) q2, hr, fun ρ2 σ2 H3 H4 k2 s2 q2 => hb ρ2 σ2 H3 H4 k2 (x.z.trans s2) q2, fun ρ2 σ2 H3 H4 k2 s2 q2 => hc ρ2 σ2 H3 H4 k2 (x.z.trans s2) q2⟩
  | false => exact iteF ⟨ρ, H1, QO, k.later x, q1, fun ρ2 σ2 H3 H4 k2 s2 q2 => h ρ2 σ2 H3 H4 k2 (x.z.trans s2) q2, hr, fun ρ2 σ2 H3 H4 k2 s2 q2 => hb ρ2 σ2 H3 H4 k2 (x.z.trans s2) q2, fun ρ2 σ2 H3 H4 k2 s2 q2 => hc ρ2 σ2 H3 H4 k2 (x.z.trans s2) q2⟩
end
/-! ### stores -/
section
variable {B : Bx} {ρ : DL.Env} {σ : L2.St} {H0 H : Hp}
theorem Ok.put (k : Ok B ρ σ H0 H) {i : Nat} {s : Sl} {v : V} (hs : SlotOk B.G B.He H0 H s (some v)) (ha : ∀ o, s = .own o → ∀ (j : Nat) p a, v = .ref a → ρ[j]? = some (.own p) → σ[j]? = some (some (.ref a)) → i = j) : Ok B (ρ.set i s) (σ.set i (some v)) H0 H := by
  refine ⟨k.ext, by rw [List.length_set, List.length_set]; exact k.len, fun j t e => ?_, fun j l o p a e1 e2 e3 e4 => ?_⟩
  · by_cases h : i = j
    · subst h
      have hl : i < ρ.length := by
        have := (List.getElem?_eq_some_iff.mp e).1
        simpa using this
      rw [List.getElem?_set_self hl] at e
      cases e
      exact ⟨some v, List.getElem?_set_self (by rw [k.len]; exact hl), hs⟩
    · rw [List.getElem?_set_ne h] at e ⊢
      exact k.env j t e
  · by_cases h : i = j
    · by_cases h' : i = l
      · exact h.symm.trans h'
      · subst h
        rw [List.getElem?_set_ne h'] at e2 e4
        have hl : i < ρ.length := by simpa using (List.getElem?_eq_some_iff.mp e1).1
        rw [List.getElem?_set_self hl] at e1
        rw [List.getElem?_set_self (by rw [k.len]; exact hl)] at e3
        cases e1
        exact ha _ rfl l p a (Option.some.inj (Option.some.inj e3)) e2 e4
    · by_cases h' : i = l
      · subst h'
        rw [List.getElem?_set_ne h] at e1 e3
        have hl : i < ρ.length := by simpa using (List.getElem?_eq_some_iff.mp e2).1
        rw [List.getElem?_set_self hl] at e2
        rw [List.getElem?_set_self (by rw [k.len]; exact hl)] at e4
        cases e2
        exact (ha _ rfl j o a (Option.some.inj (Option.some.inj e4)) e1 e3).symm
      · rw [List.getElem?_set_ne h] at e1 e3
        rw [List.getElem?_set_ne h'] at e2 e4
        exact k.apart j l o p a e1 e2 e3 e4
theorem Ok.putD (k : Ok B ρ σ H0 H) {i : Nat} {d : D} {v : V} (hd : Den B.G H0 d v) : Ok B (ρ.set i (.d d)) (σ.set i (some v)) H0 H :=
  k.put (s := .d d) ⟨v, rfl, hd⟩ fun o z => by cases z
end
/-! ### targets -/
/-- is: the slots that it may write -/
def liftG (B : Bx) (is : List Nat) (g : D → DL.Env → W DL.Env) : TG := fun v σ H Q => ∃ (ρ : DL.Env) (H0 : Hp) (d : D) (QE : DL.Env → Prop), Ok B ρ σ H0 H ∧ Den B.G H0 d v ∧ g d ρ QE (fun _ => False) ∧
  ∀ ρ' σ', Ok B ρ' σ' H0 H → (∀ j, j ∉ is → σ'[j]? = σ[j]?) → σ'.length = σ.length → QE ρ' → Q σ' H
def liftGs (B : Bx) (is : List Nat) (g : List D → DL.Env → W DL.Env) : TGs := fun vs σ H Q => ∃ (ρ : DL.Env) (H0 : Hp) (ds : List D) (QE : DL.Env → Prop), Ok B ρ σ H0 H ∧ Dens B.G H0 ds vs ∧ g ds ρ QE (fun _ => False) ∧
  ∀ ρ' σ', Ok B ρ' σ' H0 H → (∀ j, j ∉ is → σ'[j]? = σ[j]?) → σ'.length = σ.length → QE ρ' → Q σ' H
def nilG : List D → DL.Env → W DL.Env := fun ds ρ => match ds with | [] => ret ρ | _ => stk
def consG (g : D → DL.Env → W DL.Env) (gs : List D → DL.Env → W DL.Env) : List D → DL.Env → W DL.Env := fun ds ρ => match ds with | d :: r => bnd (g d ρ) fun ρ1 => gs r ρ1 | [] => stk
def tupG (n : Nat) (gs : List D → DL.Env → W DL.Env) : D → DL.Env → W DL.Env := fun d ρ => match d with | .tup ds => grd (ds.length = n) (gs ds ρ) | _ => stk
abbrev DTg (X : Cx) (B : Bx) (tg : Expr) (is : List Nat) (g : D → DL.Env → W DL.Env) : Prop := PG X tg (liftG B is g)
abbrev DTgs (X : Cx) (B : Bx) (tg : List Expr) (is : List Nat) (g : List D → DL.Env → W DL.Env) : Prop := PGs X tg (liftGs B is g)
theorem PG.imp {X : Cx} {e : Expr} {t t' : TG} (h : PG X e t) (i : ∀ v σ H Q, t' v σ H Q → t v σ H Q) : PG X e t' := ⟨fun pins s σ H v u Q I r q => h.run pins s σ H v u Q I r (i v σ H Q q)⟩
theorem PGs.imp {X : Cx} {e : List Expr} {t t' : TGs} (h : PGs X e t) (i : ∀ v σ H Q, t' v σ H Q → t v σ H Q) : PGs X e t' := ⟨fun pins s σ H v u Q I r q => h.run pins s σ H v u Q I r (i v σ H Q q)⟩
section
variable {X : Cx} {B : Bx} {pos : Pos}
theorem dg_name (i : Nat) {x : Str} (hN : X.N.Nodup) (hi : X.N[i]? = some x := by rfl) (hx : Loc X.env.scope x := by first | exact Or.inl rfl | exact Or.inr rfl) (hf : X.fn x = true ∨ X.env.scope.names.lookup x = some .local := by first | exact .inl rfl | exact .inr rfl | assumption) :
    DTg X B (.Name x pos) [i] (fun d ρ => ret (ρ.set i (.d d))) := by
  refine PG.imp (pg_name hN hi hx hf) fun v σ H Q ⟨ρ, H0, d, QE, k, dd, q, h⟩ => ?_
  exact h _ _ (k.putD dd) (fun j hj => List.getElem?_set_ne (fun e => hj (by simp [e]))) (by simp) q
theorem dgs_nil : DTgs X B [] [] nilG := by
  refine PGs.imp pgs_nil fun v σ H Q ⟨ρ, H0, ds, QE, k, dd, q, h⟩ => ?_
  cases ds with
  | nil => exact ⟨dd.unnil, h ρ σ k (fun _ _ => rfl) rfl q⟩
  | cons d r => exact (show False from q).elim
theorem dgs_cons {e : Expr} {es : List Expr} {is js : List Nat} {g : D → DL.Env → W DL.Env} {gs : List D → DL.Env → W DL.Env} (h1 : DTg X B e is g) (h2 : DTgs X B es js gs)
    (hs : (assignEach (e :: es) X.env).map (·.2) = assign e X.env :: (assignEach es X.env).map (·.2) := by rfl) :
    DTgs X B (e :: es) (is ++ js) (consG g gs) := by
  refine PGs.imp (pgs_cons h1 h2 hs) fun v σ H Q ⟨ρ, H0, ds, QE, k, dd, q, h⟩ => ?_
  cases ds with
  | nil => exact (show False from q).elim
  | cons d r =>
    obtain ⟨v1, ws, e1, d1, dr⟩ := dd.uncons
    refine ⟨v1, ws, e1, ρ, H0, d, _, k, d1, q, fun ρ1 σ1 k1 s1 l1 q1 => ⟨ρ1, H0, r, QE, k1, dr, q1, fun ρ2 σ2 k2 s2 l2 q2 => h ρ2 σ2 k2 (fun j hj => ?_) (l2.trans l1) q2⟩⟩
    rw [s2 j (fun z => hj (List.mem_append_right _ z)), s1 j (fun z => hj (List.mem_append_left _ z))]
theorem dg_tup {es : List Expr} {k0 n : Nat} {is : List Nat} {gs : List D → DL.Env → W DL.Env} (hK : X.K = B.G.K) (hc : X.calm = true) (h : DTgs X B es is gs)
    (hn : (assignEach es X.env).length = n := by rfl) (hst : (assignEach es X.env).findIdx? (·.1) = none := by rfl) :
    DTg X B (.Tuple es k0 pos) is (tupG n gs) := by
  refine PG.imp (pg_tup hc h hn hst) fun v σ H Q ⟨ρ, H0, d, QE, k, dd, q, h⟩ => ?_
  cases d <;> first | exact (show False from q).elim | skip
  obtain ⟨a, vs, e, s, ds⟩ := den_tup dd
  exact ⟨a, vs, e, by rw [hK]; exact SqT.up k.st.z s, by rw [← ds.length]; exact q.1, ρ, H0, _, QE, k, ds, q.2, h⟩
/-- target = value -/
theorem ds_asg {tg e : Expr} {we : DL.Env → W D} {is : List Nat} {g : D → DL.Env → W DL.Env} (he : DE X B e we) (hg : DTg X B tg is g) (hs : swapsWithSole [tg] e pos.line X.env = pure false := by rfl) (hw : swappedStores [tg] e X.env = pure none := by rfl)
    (h1 : (assignEach [tg] X.env).map (·.2) = [assign tg X.env] := by rfl) : DS X B (.Assign [tg] e pos) (fun ρ => bnd (we ρ) fun d => bnd (nox (g d ρ)) fun ρ' => ret (.nx ρ')) :=
  PS.imp (ps_asg he hg hs hw h1) fun D σ H ⟨ρ, H0, QO, k, q, h, _⟩ => ⟨ρ, H0, _, k, q, fun d v H1 H2 x dd q1 => ⟨ρ, H1, d, _, k.later x, dd, q1, fun ρ2 σ2 k2 _ _ q2 => h ρ2 σ2 H1 H2 k2 x.z q2⟩⟩
/-- name = value -/
theorem ds_set (i : Nat) {x : Str} {e : Expr} {we : DL.Env → W D} {pos' : Pos} (hN : X.N.Nodup) (he : DE X B e we) (hi : X.N[i]? = some x := by rfl) (hx : Loc X.env.scope x := by first | exact Or.inl rfl | exact Or.inr rfl) (hs : swapsWith e (some (.Name x pos')) pos.line X.env = pure false := by rfl)
    (hf : X.fn x = true ∨ X.env.scope.names.lookup x = some .local := by first | exact .inl rfl | exact .inr rfl | assumption) : DS X B (.Assign [.Name x pos'] e pos) (fun ρ => bnd (we ρ) fun d => ret (.nx (ρ.set i (.d d)))) :=
  PS.imp (ps_set hN hi hx he hs hf) fun D σ H ⟨ρ, H0, QO, k, q, h, _⟩ => ⟨ρ, H0, _, k, q, fun d v H1 H2 x dd q1 => h _ _ H1 H2 ((k.later x).putD dd) x.z q1⟩
/-- a, b = x, y -/
theorem ds_par (i j : Nat) {x y : Str} {a b : Expr} {w : DL.Env → W (List D)} {px py pt : Pos} {kt k2 : Nat} {pt2 : Pos} (hc : X.calm = true) (hN : X.N.Nodup) (ha : DA X B 2 [a, b] w) (hi : X.N[i]? = some x := by rfl) (hj : X.N[j]? = some y := by rfl) (hij : i ≠ j := by decide)
    (hx : X.env.scope.names.lookup x = some .local := by rfl) (hy : X.env.scope.names.lookup y = some .local := by rfl)
    (hw : swappedStores [.Tuple [.Name x px, .Name y py] kt pt] (.Tuple [a, b] k2 pt2) X.env = pure (some [x, y]) := by rfl)
    (hs : swapsWithSole [.Tuple [.Name x px, .Name y py] kt pt] (.Tuple [a, b] k2 pt2) pos.line X.env = pure false := by rfl) :
    DS X B (.Assign [.Tuple [.Name x px, .Name y py] kt pt] (.Tuple [a, b] k2 pt2) pos) (fun ρ => bnd (w ρ) fun ds => match ds with | [d, d'] => ret (.nx ((ρ.set i (.d d)).set j (.d d'))) | _ => stk) := by
  refine PS.imp (ps_par hc hN hi hj hij hx hy ha hw hs) fun D σ H ⟨ρ, H0, QO, k, q, h, _⟩ => ⟨ρ, H0, _, k, q, fun ds vs H1 H2 x dd l q1 => ?_⟩
  match ds, q1 with
  | [d, d'], q1 =>
    obtain ⟨v, v', e, d1, d2⟩ := dens2 dd
    exact ⟨v, v', e, h _ _ H1 H2 (((k.later x).putD d1).putD d2) x.z q1⟩
end
end DL
end
section
set_option Elab.async false
set_option linter.all false
set_option maxRecDepth 100000
set_option maxHeartbeats 1000000
set_option autoImplicit false
/-! DH: what is walked; list comprehensions; for. -/
namespace DL
open PySem PySem.Spec L2
/-- the iterator J yields what ds denote, one by one, wherever what is frozen now stays -/
structure ItOk (G : Gx) (H0 : Hp) (J : It) (ds : List D) : Prop where
  go : ∀ (i : Nat) (H : Hp), i < ds.length → Same H0 H → J.go i H
  stop : ∀ H, Same H0 H → J.stop ds.length H
  yld : ∀ (i : Nat) (H0' H : Hp) (x : V) (H' : Hp) (d : D), Same H0 H0' → St0 G H0' H → ds[i]? = some d → J.yld i H x H' → ∃ H0'', Ext G.T H0' H H0'' H' ∧ Den G H0'' d x
def liftI (B : Bx) (w : DL.Env → W (List D)) : TI := fun σ H R => ∃ (ρ : DL.Env) (H0 : Hp) (QL : List D → Prop), Ok B ρ σ H0 H ∧ w ρ QL B.E ∧
  ∀ ds J H0' H', Ext B.G.T H0 H H0' H' → ItOk B.G H0' J ds → QL ds → R J H'
abbrev DI (X : Cx) (B : Bx) (tg iter : Expr) (w : DL.Env → W (List D)) : Prop := PI X tg iter (liftI B w)
theorem PI.imp {X : Cx} {tg e : Expr} {t t' : TI} (h : PI X tg e t) (i : ∀ σ H Q, t' σ H Q → t σ H Q) : PI X tg e t' := ⟨fun pins s σ H R I q => h.run pins s σ H R I (i σ H R q)⟩
section
variable {G : Gx} {H0 : Hp}
theorem itOk_list {a : Addr} {vs : List V} {ds : List D} (h : H0 a = some (.lst vs)) (dd : Dens G H0 ds vs) : ItOk G H0 (Itl G.K a) ds where
  go := fun i H hi s => ⟨vs, vs[i]'(by rw [← dd.length]; exact hi), .of (s _ _ h), by simp⟩
  stop := fun H s => ⟨vs, .of (s _ _ h), by rw [dd.length]; exact Nat.le_refl _⟩
  yld := fun i H1 H x H' d s st e ⟨e1, y⟩ => by
    subst e1
    obtain ⟨v, h1, h2⟩ := dd.get e
    have h3 := y vs (.of (st.z _ _ (s _ _ h)))
    rw [h1] at h3
    cases h3
    exact ⟨H1, st.refl, h2.same s⟩
theorem itOk_tup {a : Addr} {vs : List V} {ds : List D} (h : SqT G.K H0 a vs) (dd : Dens G H0 ds vs) : ItOk G H0 (Itt G.K a) ds where
  go := fun i H hi s => ⟨vs, vs[i]'(by rw [← dd.length]; exact hi), SqT.same s h, by simp⟩
  stop := fun H s => ⟨vs, SqT.same s h, by rw [dd.length]; exact Nat.le_refl _⟩
  yld := fun i H1 H x H' d s st e ⟨e1, y⟩ => by
    subst e1
    obtain ⟨v, h1, h2⟩ := dd.get e
    have h3 := y vs (SqT.same (s.trans st.z) h)
    rw [h1] at h3
    cases h3
    exact ⟨H1, st.refl, h2.same s⟩
def rangeD (lo : Int) (n : Nat) : List D := (List.range n).map fun i : Nat => D.int (lo + (i : Int))
theorem itOk_range {lo : Int} {n : Nat} : ItOk G H0 (Itr lo n) (rangeD lo n) where
  go := fun i H hi s => by
    have hi : i < n := by simpa [rangeD] using hi
    exact hi
  stop := fun H s => by show n ≤ _; simp [rangeD]
  yld := fun i H1 H x H' d s st e ⟨e1, y⟩ => by
    subst e1 y
    have hd : d = .int (lo + (i : Int)) := by
      unfold rangeD at e
      rw [List.getElem?_map] at e
      obtain ⟨hi, e2⟩ : ∃ hi : i < n, (List.range n)[i]? = some i := by
        cases q : (List.range n)[i]? with
        | none => rw [q] at e; cases e
        | some j =>
          obtain ⟨h1, h2⟩ := List.getElem?_eq_some_iff.mp q
          have : i < n := by simpa using h1
          have hj : i = j := by simpa using h2
          exact ⟨this, by rw [hj]⟩
      rw [e2] at e
      exact (Option.some.inj e).symm
    rw [hd]
    exact ⟨H1, st.refl, of_int⟩
/-- new pairs -/
theorem pair_new {H1 H H' : Hp} {T : Addr} {x y : V} {d d' : D} (st : St0 G H1 H) (hT : H T = none) (e : H' = upd H T (.tup [x, y])) (h1 : Den G H1 d x) (h2 : Den G H1 d' y) : ∃ H2, Ext G.T H1 H H2 H' ∧ Den G H2 (.tup [d, d']) (.ref T) := by
  subst e
  have x := Ext.put st hT (.tup [x, y])
  exact ⟨_, x, of_tup upd_same (.cons (h1.same x.z) (.cons (h2.same x.z) .nil))⟩
def enumD (ds : List D) : List D := ds.zipIdx.map fun p => D.tup [.int (p.2 : Int), p.1]
theorem enumD_get {ds : List D} {i : Nat} {d : D} (e : (enumD ds)[i]? = some d) : ∃ x, ds[i]? = some x ∧ d = .tup [.int (i : Int), x] := by
  unfold enumD at e
  rw [List.getElem?_map, List.getElem?_zipIdx] at e
  cases q : ds[i]? with
  | none => rw [q] at e; cases e
  | some x =>
    rw [q] at e
    exact ⟨x, rfl, by have := (Option.some.inj e).symm; simpa using this⟩
theorem itOk_enum {a : Addr} {vs : List V} {ds : List D} (h : H0 a = some (.lst vs)) (dd : Dens G H0 ds vs) : ItOk G H0 (Ite G.K a) (enumD ds) where
  go := fun i H hi s => by
    have hi : i < ds.length := by simpa [enumD] using hi
    exact ⟨vs, vs[i]'(by rw [← dd.length]; exact hi), .of (s _ _ h), by simp⟩
  stop := fun H s => ⟨vs, .of (s _ _ h), by rw [← dd.length]; simp [enumD]⟩
  yld := fun i H1 H x H' d s st e ⟨T, x', e1, hT, e2, y⟩ => by
    obtain ⟨d', q1, q2⟩ := enumD_get e
    obtain ⟨v, h1, h2⟩ := dd.get q1
    have h3 := y vs (.of (st.z _ _ (s _ _ h)))
    rw [h1] at h3
    cases h3
    rw [e1, q2]
    exact pair_new st hT e2 of_int (h2.same s)
def zipD (ds es : List D) : List D := (ds.zip es).map fun p => D.tup [p.1, p.2]
theorem zipD_get {ds es : List D} {i : Nat} {d : D} (e : (zipD ds es)[i]? = some d) : ∃ x y, ds[i]? = some x ∧ es[i]? = some y ∧ d = .tup [x, y] := by
  unfold zipD at e
  rw [List.getElem?_map] at e
  cases q : (ds.zip es)[i]? with
  | none => rw [q] at e; cases e
  | some x =>
    rw [q] at e
    rw [List.getElem?_zip_eq_some] at q
    exact ⟨x.1, x.2, q.1, q.2, (Option.some.inj e).symm⟩
theorem zipD_length (ds es : List D) : (zipD ds es).length = min ds.length es.length := by simp [zipD]
theorem itOk_zip {a b : Addr} {vs ws : List V} {ds es : List D} (h : H0 a = some (.lst vs)) (dd : Dens G H0 ds vs) (h' : H0 b = some (.lst ws)) (ee : Dens G H0 es ws) : ItOk G H0 (Itz G.K a b) (zipD ds es) where
  go := fun i H hi s => by
    rw [zipD_length, dd.length, ee.length] at hi
    exact ⟨vs, ws, vs[i]'(by omega), ws[i]'(by omega), .of (s _ _ h), .of (s _ _ h'), by simp, by simp⟩
  stop := fun H s => ⟨vs, ws, .of (s _ _ h), .of (s _ _ h'), by rw [zipD_length, dd.length, ee.length]; omega⟩
  yld := fun i H1 H x H' d s st e ⟨T, x', y', e1, hT, e2, y1, y2⟩ => by
    obtain ⟨d1, d2, q1, q2, q3⟩ := zipD_get e
    obtain ⟨v, h1, h2⟩ := dd.get q1
    obtain ⟨w, k1, k2⟩ := ee.get q2
    have h3 := y1 vs (.of (st.z _ _ (s _ _ h)))
    have k3 := y2 ws (.of (st.z _ _ (s _ _ h')))
    rw [h1] at h3
    rw [k1] at k3
    cases h3
    cases k3
    rw [e1, q3]
    exact pair_new st hT e2 (h2.same s) (k2.same s)
theorem itOk_zipT {a b : Addr} {vs ws : List V} {ds es : List D} (h : SqT G.K H0 a vs) (dd : Dens G H0 ds vs) (h' : SqT G.K H0 b ws) (ee : Dens G H0 es ws) : ItOk G H0 (RZ.ItzT G.K a b) (zipD ds es) where
  go := fun i H hi s => by
    rw [zipD_length, dd.length, ee.length] at hi
    exact ⟨vs, ws, vs[i]'(by omega), ws[i]'(by omega), SqT.same s h, SqT.same s h', by simp, by simp⟩
  stop := fun H s => ⟨vs, ws, SqT.same s h, SqT.same s h', by rw [zipD_length, dd.length, ee.length]; omega⟩
  yld := fun i H1 H x H' d s st e ⟨T, x', y', e1, hT, e2, y1, y2⟩ => by
    obtain ⟨d1, d2, q1, q2, q3⟩ := zipD_get e
    obtain ⟨v, h1, h2⟩ := dd.get q1
    obtain ⟨w, k1, k2⟩ := ee.get q2
    have h3 := y1 vs (SqT.same (s.trans st.z) h)
    have k3 := y2 ws (SqT.same (s.trans st.z) h')
    rw [h1] at h3
    rw [k1] at k3
    cases h3
    cases k3
    rw [e1, q3]
    exact pair_new st hT e2 (h2.same s) (k2.same s)
end
/-! ### rules for what is walked -/
section
variable {X : Cx} {B : Bx} {tg e e2 : Expr} {we : DL.Env → W D} {p pos : Pos}
/-- a list or a tuple -/
def iSeq (K : PySem.W.Frag) (tl : TE) : TI := fun σ H R => tl σ H fun x H1 => ∃ a, x = .ref a ∧ (((∃ xs, SqL K H1 a xs) ∧ R (Itl K a) H1) ∨ ((∃ xs, SqT K H1 a xs) ∧ R (Itt K a) H1))
theorem pi_seq {l : Expr} {tl : TE} (hl : PE X l tl) : PI X tg l (iSeq X.K tl) := by
  refine ⟨fun pins s σ H R I h => ?_⟩
  refine thn (hl.run pins s σ H _ I h) fun v s1 ⟨x, H1, I1, r1, q1⟩ => ?_
  obtain ⟨a, e, q⟩ := q1
  subst e
  cases r1
  have fin : ∀ b ∈ [s1.heap.objs.size], FpOk X pins H1 b := fun b hb => by
    have e : b = s1.heap.objs.size := by simpa using hb
    subst e
    exact I1.fpOk (Nat.le_refl _) (I1.hok.fresh (Nat.le_refl _))
  rcases q with ⟨⟨xs, hq⟩, q⟩ | ⟨⟨xs, hq⟩, q⟩
  · obtain ⟨its, rv, p, hz⟩ := I1.list hq
    refine wpAny_pyIter_list p.isList ?_
    exact ⟨s1.heap.objs.size, [s1.heap.objs.size], _, _, H1, rfl, I1.kept (t' := s1.toks) fun b o e => Heap.get?_push_of_some _ e, turn_list a _, ⟨_, Heap.get?_push_size _ rfl, rfl, rfl⟩, fin, q⟩
  · obtain ⟨its, rv, p, hz⟩ := I1.tuple hq
    refine wpAny_pyIter_tuple (show s1.heap.IsTuple a its.toArray from p) ?_
    exact ⟨s1.heap.objs.size, [s1.heap.objs.size], _, _, H1, rfl, I1.kept (t' := s1.toks) fun b o e => Heap.get?_push_of_some _ e, turn_tuple a _, ⟨_, Heap.get?_push_size _ rfl, rfl, rfl⟩, fin, q⟩
def seqD : D → W (List D)
  | .lst xs => ret xs
  | .tup xs => ret xs
  | _ => stk
theorem di_seq (hK : X.K = B.G.K) (he : DE X B e we) : DI X B tg e (fun ρ => bnd (we ρ) seqD) := by
  refine PI.imp (pi_seq he) fun σ H R ⟨ρ, H0, QL, k, q, h⟩ => ⟨ρ, H0, _, k, q, fun d v H1 H2 x dd q1 => ?_⟩
  cases d <;> first | exact (show False from q1).elim | skip
  · obtain ⟨a, vs, ev, s, ds⟩ := den_tup dd
    refine ⟨a, ev, .inr ⟨⟨vs, by rw [hK]; exact SqT.up x.zz s⟩, ?_⟩⟩
    rw [hK]
    exact h _ _ H1 H2 x (itOk_tup s ds) q1
  · obtain ⟨a, vs, ev, s, ds⟩ := den_lst dd
    refine ⟨a, ev, .inl ⟨⟨vs, .of (x.zz _ _ s)⟩, ?_⟩⟩
    rw [hK]
    exact h _ _ H1 H2 x (itOk_list s ds) q1
def rng1D : List D → W (List D)
  | [.int n] => grd (n ≤ 16777216) (ret (rangeD 0 n.toNat))
  | _ => stk
def rng2D : List D → W (List D)
  | [.int a, .int b] => grd (-1000000000 ≤ a ∧ a ≤ 1000000000 ∧ b ≤ 16777216 ∧ -1000000000 ≤ b) (ret (rangeD a (b - a).toNat))
  | _ => stk
def rng1W : List D → W (List D) := fun ds => match ds with | [.int n] => grd (-1000000000 ≤ n ∧ n ≤ 16777216) (ret (rangeD 0 n.toNat)) | _ => stk
theorem di_range1 {w : DL.Env → W (List D)} (hg : Gl X "range") (hm : X.mg "range" = none) (ha : DA X B 1 [e] w) (hs : starEach [e] X.env = [(false, eval e X.env)] := by rfl) :
    DI X B tg (.Call (.Name "range" p) [e] [] pos) (fun ρ => bnd (w ρ) rng1W) := by
  refine PI.imp (pi_range1 hg hm ha hs) fun σ H R ⟨ρ, H0, QL, k, q, h⟩ => ⟨ρ, H0, _, k, q, fun ds vs H1 H2 x dd l q1 => ?_⟩
  match ds, q1 with
  | [.int n], q1 =>
    obtain ⟨v, e, d1⟩ := dens1 dd
    exact ⟨n, by rw [e, den_int d1], by have := q1.1.1; omega, by have := q1.1.2; omega, h _ _ H1 H2 x itOk_range q1.2⟩
theorem di_range2 {w : DL.Env → W (List D)} (hg : Gl X "range") (hm : X.mg "range" = none) (ha : DA X B 2 [e, e2] w) (hs : starEach [e, e2] X.env = [(false, eval e X.env), (false, eval e2 X.env)] := by rfl) (hs2 : starEach [e2] X.env = [(false, eval e2 X.env)] := by rfl) :
    DI X B tg (.Call (.Name "range" p) [e, e2] [] pos) (fun ρ => bnd (w ρ) rng2D) := by
  refine PI.imp (pi_range2 hg hm ha hs hs2) fun σ H R ⟨ρ, H0, QL, k, q, h⟩ => ⟨ρ, H0, _, k, q, fun ds vs H1 H2 x dd l q1 => ?_⟩
  match ds, q1 with
  | [.int a, .int b], q1 =>
    obtain ⟨v, v', e, d1, d2⟩ := dens2 dd
    obtain ⟨⟨c1, c2, c3, c4⟩, q1⟩ := q1
    exact ⟨a, b, by rw [e, den_int d1, den_int d2], ⟨by omega, by omega, by omega, by omega⟩, h _ _ H1 H2 x itOk_range q1⟩
theorem di_enumL {w : DL.Env → W (List D)} {elts : List Expr} {kk : Nat} {tpos : Pos} (hK : X.K = B.G.K) (hg : Gl X "enumerate") (hm : X.mg "enumerate" = none) (ha : DA X B 1 [e] w) (hs : starEach [e] X.env = [(false, eval e X.env)] := by rfl) :
    DI X B (.Tuple elts kk tpos) (.Call (.Name "enumerate" p) [e] [] pos) (fun ρ => bnd (w ρ) fun ds => match ds with | [.lst xs] => ret (enumD xs) | _ => stk) := by
  refine PI.imp (pi_enum hg hm ha hs) fun σ H R ⟨ρ, H0, QL, k, q, h⟩ => ⟨ρ, H0, _, k, q, fun ds vs H1 H2 x dd l q1 => ?_⟩
  match ds, q1 with
  | [.lst xs], q1 =>
    obtain ⟨v, e, d1⟩ := dens1 dd
    obtain ⟨a, us, e1, s, d2⟩ := den_lst d1
    refine ⟨a, us, by rw [e, e1], .of (x.zz _ _ s), ?_⟩
    rw [hK]
    exact h _ _ H1 H2 x (itOk_enum s d2) q1
def zipS : List D → W (List D) := fun ds => match ds with | [.lst xs, .lst ys] => ret (zipD xs ys) | [.tup xs, .tup ys] => ret (zipD xs ys) | _ => stk
theorem di_zip {w : DL.Env → W (List D)} {elts : List Expr} {kk : Nat} {tpos : Pos} (hK : X.K = B.G.K) (hg : Gl X "zip") (hm : X.mg "zip" = none) (ha : DA X B 2 [e, e2] w)
    (hs : starEach [e, e2] X.env = (false, eval e X.env) :: starEach [e2] X.env := by rfl) (hpl : (backTo pos (starEach [e2] X.env)).any (·.1) = false := by rfl) :
    DI X B (.Tuple elts kk tpos) (.Call (.Name "zip" p) [e, e2] [] pos) (fun ρ => bnd (w ρ) zipS) := by
  refine PI.imp (RZ.pi_zipA hg hm ha hs hpl) fun σ H R ⟨ρ, H0, QL, k, q, h⟩ => ⟨ρ, H0, _, k, q, fun ds vs H1 H2 x dd l q1 => ?_⟩
  match ds, q1 with
  | [.lst xs, .lst ys], q1 =>
    obtain ⟨v, v', e, d1, d2⟩ := dens2 dd
    obtain ⟨a, us, e1, s1, k1⟩ := den_lst d1
    obtain ⟨b, ws, e2, s2, k2⟩ := den_lst d2
    refine ⟨a, b, us, ws, by rw [e, e1, e2], .inl ⟨.of (x.zz _ _ s1), .of (x.zz _ _ s2), ?_⟩⟩
    rw [hK]
    exact h _ _ H1 H2 x (itOk_zip s1 k1 s2 k2) q1
  | [.tup xs, .tup ys], q1 =>
    obtain ⟨v, v', e, d1, d2⟩ := dens2 dd
    obtain ⟨a, us, e1, s1, k1⟩ := den_tup d1
    obtain ⟨b, ws, e2, s2, k2⟩ := den_tup d2
    refine ⟨a, b, us, ws, by rw [e, e1, e2], .inr ⟨by rw [hK]; exact SqT.up x.zz s1, by rw [hK]; exact SqT.up x.zz s2, ?_⟩⟩
    rw [hK]
    exact h _ _ H1 H2 x (itOk_zipT s1 k1 s2 k2) q1
end
end DL
end
section
set_option Elab.async false
set_option linter.all false
set_option maxRecDepth 100000
set_option maxHeartbeats 1000000
set_option autoImplicit false
/-! DJ: list comprehensions, for, new lists, a def by its body. -/
namespace DL
open PySem PySem.Spec L2
/-! ### new lists -/
def liftN (B : Bx) (w : DL.Env → W (List D)) : TE := fun σ H Q => ∃ (ρ : DL.Env) (H0 : Hp) (QL : List D → Prop), Ok B ρ σ H0 H ∧ w ρ QL B.E ∧
  ∀ ds vs p H0' H1 H2, Ext B.G.T H0 H H0' H1 → H1 p = none → H2 p = some (.lst vs) → Dens B.G H0' ds vs → Ext B.G.T H0' H1 H0' H2 → H0' p = none → QL ds → Q (.ref p) H2
abbrev DN (X : Cx) (B : Bx) (e : Expr) (w : DL.Env → W (List D)) : Prop := PE X e (liftN B w)
section
variable {X : Cx} {B : Bx} {e : Expr} {es : List Expr} {pos : Pos} {w : DL.Env → W (List D)}
theorem Same.put0 {H0 H : Hp} (z : Same H0 H) {p : Addr} {o : HO} (hp : H p = some o) (h0 : H0 p = none) : Same (upd H0 p o) H := fun b u e => by
  by_cases h : b = p
  · subst h; rw [upd_same] at e; cases e; exact hp
  · rw [upd_ne h] at e; exact z b u e
theorem de_new (h : DN X B e w) : DE X B e (fun ρ => bnd (w ρ) fun ds => ret (.lst ds)) := by
  refine PE.imp h fun σ H Q ⟨ρ, H0, QD, k, q, h⟩ => ⟨ρ, H0, _, k, q, fun ds vs p H1 H2 H3 x hn hp dd x2 h0 q1 => ?_⟩
  have s : Same H1 (upd H1 p (.lst vs)) := fun b u e => by rw [upd_ne (ne_of_none e h0)]; exact e
  have x3 : Ext B.G.T H1 H2 (upd H1 p (.lst vs)) H3 := ⟨x2.n, x2.nn, s, Same.put0 x2.zz hp h0, fun b u e => by
    by_cases h : b = p
    · subst h; exact .inr hn
    · rw [upd_ne h] at e; exact .inl e, x2.tabs, x2.nt.upd (by intro _ z; cases z)⟩
  exact h _ _ _ _ (x.trans x3) (of_lst upd_same (dd.same s)) q1
theorem dn_lst {n : Nat} (h : DA X B n es w) (hn : n ≤ 1000 := by decide) : DN X B (.List es pos) w := by
  refine PE.imp (pe_lst h) fun σ H Q ⟨ρ, H0, QD, k, q, h⟩ => ⟨ρ, H0, _, k, q, fun ds vs H1 H2 x dd l q1 => ⟨by rw [l, sizeLine_eq]; omega, fun p hp => ?_⟩⟩
  exact h ds vs p H1 H2 _ x hp upd_same dd (Ext.putH x.st hp _) (x.zz.free hp) q1
/-- name = a new list, the name's own from now on -/
theorem ds_own (i : Nat) {x : Str} {pos' : Pos} (hN : X.N.Nodup) (he : DN X B e w) (hi : X.N[i]? = some x := by rfl) (hx : Loc X.env.scope x := by first | exact Or.inl rfl | exact Or.inr rfl) (hs : swapsWith e (some (.Name x pos')) pos.line X.env = pure false := by rfl)
    (hf : X.fn x = true ∨ X.env.scope.names.lookup x = some .local := by first | exact .inl rfl | exact .inr rfl | assumption) : DS X B (.Assign [.Name x pos'] e pos) (fun ρ => bnd (w ρ) fun ds => ret (.nx (ρ.set i (.own (.lst none ds))))) := by
  refine PS.imp (ps_set hN hi hx he hs hf) fun D σ H ⟨ρ, H0, QO, k, q, h, _⟩ => ⟨ρ, H0, _, k, q, fun ds vs p H1 H2 H3 x hn hp dd x2 h0 q1 => ?_⟩
  have k2 := k.later (x.trans x2)
  refine h _ _ H1 H3 (k2.put (s := .own (.lst none ds)) ⟨p, rfl, (k.later x).ext.nn p hn, h0, (by intro _ z; cases z), vs, hp, dd⟩ fun o _ j o' a ea e1 e2 => ?_) x.z q1
  cases ea
  obtain ⟨v, e3, a, e4, _, _, hh⟩ := (k.later x).env j _ e1
  rw [e2] at e3
  cases e3
  cases e4
  obtain ⟨u, e5⟩ := hh.there
  rw [hn] at e5
  cases e5
end
/-! ### comprehensions -/
def wipeE (ρ : DL.Env) : List Nat → DL.Env
  | [] => ρ
  | v :: vs => (wipeE ρ vs).set v .un
theorem wipeE_length (ρ : DL.Env) : ∀ vs : List Nat, (wipeE ρ vs).length = ρ.length
  | [] => rfl
  | v :: vs => by unfold wipeE; rw [List.length_set, wipeE_length ρ vs]
theorem wipeE_some {ρ : DL.Env} {i : Nat} {s : Sl} (hs : s ≠ .un) : ∀ {vs : List Nat}, (wipeE ρ vs)[i]? = some s → ρ[i]? = some s ∧ i ∉ vs
  | [], h => ⟨h, by simp⟩
  | v :: vs, h => by
    unfold wipeE at h
    by_cases hi : v = i
    · subst hi
      by_cases hv : v < (wipeE ρ vs).length
      · rw [List.getElem?_set_self hv] at h; cases h; exact absurd rfl hs
      · rw [List.getElem?_eq_none (by simpa using hv)] at h; cases h
    · rw [List.getElem?_set_ne hi] at h
      obtain ⟨h1, h2⟩ := wipeE_some hs h
      exact ⟨h1, fun z => (List.mem_cons.mp z).elim (fun e => hi e.symm) h2⟩
theorem wipe_get {σ : L2.St} {i : Nat} : ∀ {vs : List Nat}, i ∉ vs → (wipe σ vs)[i]? = σ[i]?
  | [], _ => rfl
  | v :: vs, h => by
    unfold wipe
    rw [List.getElem?_set_ne (fun e => h (by simp [e])), wipe_get fun z => h (List.mem_cons_of_mem _ z)]
theorem Ok.wiped {B : Bx} {ρ : DL.Env} {σ : L2.St} {H0 H : Hp} (k : Ok B ρ σ H0 H) (vs : List Nat) : Ok B (wipeE ρ vs) (wipe σ vs) H0 H := by
  refine ⟨k.ext, by rw [wipe_length, wipeE_length]; exact k.len, fun i s e => ?_, fun i j o p a e1 e2 e3 e4 => ?_⟩
  · by_cases hs : s = .un
    · subst hs
      have hi : i < (wipe σ vs).length := by
        rw [wipe_length, k.len, ← wipeE_length ρ vs]
        exact (List.getElem?_eq_some_iff.mp e).1
      exact ⟨_, List.getElem?_eq_getElem hi, trivial⟩
    · obtain ⟨h1, h2⟩ := wipeE_some hs e
      obtain ⟨v, h3, h4⟩ := k.env i s h1
      exact ⟨v, by rw [wipe_get h2]; exact h3, h4⟩
  · obtain ⟨h1, n1⟩ := wipeE_some (by intro z; cases z) e1
    obtain ⟨h2, n2⟩ := wipeE_some (by intro z; cases z) e2
    rw [wipe_get n1] at e3
    rw [wipe_get n2] at e4
    exact k.apart i j o p a h1 h2 e3 e4
theorem wipe_congr {σ σ' : L2.St} {vs : List Nat} (hl : σ'.length = σ.length) (h : ∀ j, j ∉ vs → σ'[j]? = σ[j]?) : wipe σ' vs = wipe σ vs := by
  refine List.ext_getElem? fun i => ?_
  by_cases hi : i ∈ vs
  · have aux : ∀ (τ : L2.St) (us : List Nat), i ∈ us → (wipe τ us)[i]? = if i < τ.length then some none else none := by
      intro τ us
      induction us with
      | nil => intro h; cases h
      | cons u us ih =>
        intro hm
        unfold wipe
        by_cases e : u = i
        · subst e
          by_cases hlt : u < τ.length
          · rw [if_pos hlt, List.getElem?_set_self (by rw [wipe_length]; exact hlt)]
          · rw [if_neg hlt, List.getElem?_eq_none (by rw [List.length_set, wipe_length]; omega)]
        · rw [List.getElem?_set_ne e]
          exact ih ((List.mem_cons.mp hm).resolve_left fun z => e z.symm)
    rw [aux σ' vs hi, aux σ vs hi, hl]
  · rw [wipe_get hi, wipe_get hi, h i hi]
theorem Ok.no {B : Bx} {ρ : DL.Env} {σ : L2.St} {H0 H : Hp} (k : Ok B ρ σ H0 H) : Ok B.no ρ σ H0 H := ⟨k.ext, k.len, k.env, k.apart⟩
theorem Ok.ofNo {B : Bx} {ρ : DL.Env} {σ : L2.St} {H0 H : Hp} (k : Ok B.no ρ σ H0 H) : Ok B ρ σ H0 H := ⟨k.ext, k.len, k.env, k.apart⟩
/-- item by item -/
def lcGo (f : D → W (Option D)) : List D → W (List D)
  | [] => ret []
  | x :: xs => bnd (f x) fun o => bnd (lcGo f xs) fun ys => ret (match o with
    | some y => y :: ys
    | none => ys)
def lcF (own : List Nat) (g : D → DL.Env → W DL.Env) (wt : DL.Env → W Bool) (we : DL.Env → W D) (ρ : DL.Env) : D → W (Option D) := fun x =>
  bnd (g x (wipeE ρ own)) fun ρ1 => bnd (wt ρ1) fun t => if t = true then bnd (we ρ1) fun y => ret (some y) else ret none
abbrev DTs (X : Cx) (B : Bx) (ifs : List Expr) (w : DL.Env → W Bool) : Prop := PTs X ifs (liftT B w)
theorem dts_nil {X : Cx} {B : Bx} : DTs X B [] (fun _ => ret true) := ⟨fun pins s σ H Q I ⟨ρ, H0, QD, k, q, h⟩ => pts_nil.run pins s σ H Q I (h true H0 H k.refl q)⟩
theorem dts_one {X : Cx} {B : Bx} {c : Expr} {w : DL.Env → W Bool} (h : DT X B c w) : DTs X B [c] w := pts_one h
theorem ExtBx {B : Bx} {H0 H H1 H2 : Hp} (x : Ext B.no.G.T H0 H H1 H2) : Ext B.G.T H0 H H1 H2 := x
section
variable {X : Cx} {B : Bx} {elt tg iter : Expr} {ifs : List Expr} {scope : Scope} {own : List (Str × Nat)} {pos : Pos} {wi : DL.Env → W (List D)} {is : List Nat} {g : D → DL.Env → W DL.Env} {wt : DL.Env → W Bool} {we : DL.Env → W D}
theorem lift_lc (his : ∀ i ∈ is, i ∈ own.map (·.2)) {σ : L2.St} {H : Hp} {Q : VK} (h : liftN B (fun ρ => bnd (wi ρ) fun xs => grd (xs.length ≤ sizeLine) (nox (lcGo (lcF (own.map (·.2)) g wt we ρ) xs))) σ H Q) :
    tLc (liftI B wi) (liftG B.no is g) (liftT B.no wt) (lift B.no we) (own.map (·.2)) σ H Q := by
  obtain ⟨ρ, H0, QL, k, q, h⟩ := h
  refine ⟨ρ, H0, _, k, q, fun ds J H1 H2 x jt q1 => ?_⟩
  obtain ⟨hsz, q1⟩ := q1
  intro Dd hD
  refine ⟨fun i m H => m = ds.length - i ∧ i ≤ ds.length ∧ ∃ (H3 : Hp) (accd : List D) (acc : List V), Ext B.G.T H1 H2 H3 H ∧ H3 Dd = none ∧ H Dd = some (.lst acc) ∧ Dens B.G H3 accd acc ∧ acc.length ≤ i ∧
      lcGo (lcF (own.map (·.2)) g wt we ρ) (ds.drop i) (fun ys => QL (accd ++ ys)) (fun _ => False), ⟨ds.length, by simp, Nat.zero_le _, H1, [], [], Ext.putH x.st hD _, x.zz.free hD, upd_same, .nil, Nat.le_refl _, q1⟩, ?_⟩
  rintro i m H ⟨rfl, hi, H3, accd, acc, x3, n3, hd, dd, hl, qq⟩
  by_cases hlt : i < ds.length
  · refine .inr ⟨jt.go i H hlt (x3.z.trans x3.zz), _, fun H' p => ⟨ds.length - (i + 1), by omega, rfl, hlt, p⟩, fun v H4 y => ?_⟩
    have e1 : ds[i]? = some ds[i] := by simp [hlt]
    obtain ⟨H5, x5, dv⟩ := jt.yld i H3 H v H4 ds[i] x3.z x3.st e1 y
    have hD4 : H4 Dd = some (.lst acc) := x5.n Dd _ hd fun _ z => by cases z
    have hD5 : H5 Dd = none := by
      cases z : H5 Dd with
      | none => rfl
      | some u =>
        rcases x5.fr Dd u z with r | r
        · rw [n3] at r; cases r
        · rw [hd] at r; cases r
    rw [List.drop_eq_getElem_cons hlt] at qq
    have k5 : Ok B.no (wipeE ρ (own.map (·.2))) (wipe σ (own.map (·.2))) H5 H4 := (((k.later x).later (x3.trans x5)).wiped _).no
    refine ⟨_, H5, ds[i], _, k5, dv, qq, fun ρ1 σ1 k6 s6 l6 q6 => ⟨wipe_congr (σ := wipe σ (own.map (·.2))) l6 (fun j hj => s6 j fun z => hj (his j z)) |>.trans ?_, ρ1, H5, _, k6, q6, fun t H7 H8 x8 q8 => ?_⟩⟩
    · exact wipe_congr (wipe_length _ _) fun j hj => wipe_get hj
    · have hD8 : H8 Dd = some (.lst acc) := x8.n Dd _ hD4 fun _ z => by cases z
      have hD7 : H7 Dd = none := by
        cases z : H7 Dd with
        | none => rfl
        | some u =>
          rcases x8.fr Dd u z with r | r
          · rw [hD5] at r; cases r
          · rw [hD4] at r; cases r
      have x38 : Ext B.G.T H1 H2 H7 H8 := (x3.trans x5).trans x8
      cases t with
      | true =>
        rw [if_pos rfl] at q8
        refine iteT ⟨ρ1, H7, _, k6.later x8, q8, fun d v' H9 H10 x10 d10 q10 => ?_⟩
        have hD10 : H10 Dd = some (.lst acc) := x10.n Dd _ hD8 fun _ z => by cases z
        have hD9 : H9 Dd = none := by
          cases z : H9 Dd with
          | none => rfl
          | some u =>
            rcases x10.fr Dd u z with r | r
            · rw [hD7] at r; cases r
            · rw [hD8] at r; cases r
        have xx : Ext B.G.T H1 H2 H9 H10 := x38.trans x10
        refine ⟨acc, hD10, by rw [sizeLine_eq] at hsz ⊢; omega, H9, accd ++ [d], acc ++ [v'], ?_, hD9, upd_same, ((((dd.same x5.z).same x8.z).same x10.z).append (.cons d10 .nil)), by rw [List.length_append, List.length_singleton]; omega, ?_⟩
        · refine ⟨fun b u e n => ?_, fun b e => xx.nn b (NdefX.upd_none e), xx.z, fun b u e => ?_, xx.fr, ?_, xx.nt⟩
          · rw [upd_ne (ne_of_none e hD)]; exact xx.n b u e n
          · rw [upd_ne (ne_of_none e hD9)]; exact xx.zz b u e
          · intro p hp
            obtain ⟨ps, t1, t2, t3⟩ := xx.tabs p hp
            refine ⟨ps, ?_, t2, fun pos cv hc => ?_⟩
            · rw [upd_ne (fun z => by rw [z, hD10] at t1; cases t1)]; exact t1
            · obtain ⟨c, e1, e2⟩ := t3 pos cv hc
              exact ⟨c, e1, by rw [upd_ne (fun z => by rw [z, hD10] at e2; cases e2)]; exact e2⟩
        · have e : (fun ys => QL (accd ++ [d] ++ ys)) = fun ys => QL (accd ++ d :: ys) := by funext ys; rw [List.append_assoc]; rfl
          rw [e]
          exact q10
      | false =>
        rw [if_neg Bool.false_ne_true] at q8
        exact iteF ⟨H7, accd, acc, x38, hD7, hD8, (dd.same x5.z).same x8.z, by omega, q8⟩
  · have e : i = ds.length := by omega
    subst e
    rw [List.drop_length] at qq
    have qq : QL (accd ++ []) := qq
    rw [List.append_nil] at qq
    exact .inl ⟨jt.stop H (x3.z.trans x3.zz), h accd acc Dd H3 (fun b => if b = Dd then none else H b) H (x.trans ⟨fun b u e n => by
        have nb : b ≠ Dd := fun z => by rw [z, hD] at e; cases e
        rw [if_neg nb]; exact x3.n b u e n, fun b e => by
        by_cases z : b = Dd
        · rw [z]; exact hD
        · rw [if_neg z] at e; exact x3.nn b e, x3.z, fun b u e => by
        rw [if_neg (fun z => by rw [z, n3] at e; cases e)]; exact x3.zz b u e, x3.fr, fun p hp => by
        obtain ⟨ps, t1, t2, t3⟩ := x3.tabs p hp
        refine ⟨ps, ?_, t2, fun pos cv hc => ?_⟩
        · exact (if_neg (fun z => by rw [z, hd] at t1; cases t1)).trans t1
        · obtain ⟨c, e1, e2⟩ := t3 pos cv hc
          exact ⟨c, e1, (if_neg (fun z => by rw [z, hd] at e2; cases e2)).trans e2⟩, x3.nt⟩) (if_pos rfl) hd dd ⟨fun b u e n => by
        by_cases z : b = Dd
        · rw [z, if_pos rfl] at e; cases e
        · rw [if_neg z] at e; exact e, fun b e => by
        by_cases z : b = Dd
        · rw [if_pos z]
        · rw [if_neg z]; exact e, .refl _, x3.zz, fun b u e => .inl e, x3.tabs, x3.nt⟩ n3 qq⟩
theorem dn_lc (hc : X.calm = true) (hN : X.N.Nodup) (hi : DI X B tg iter wi) (ok : BlkOk X.N X.env.scope scope own)
    (hg : ∀ (s : Shared) (H : Hp) (C : Addr) (cl : List (Str × Addr)) (fp : List Addr), DTg (X.blk s H scope (compEnvC scope cl C X.env) fp) B.no tg is g)
    (ht : ∀ (s : Shared) (H : Hp) (C : Addr) (cl : List (Str × Addr)) (fp : List Addr), DTs (X.blk s H scope (compEnvC scope cl C X.env) fp) B.no ifs wt)
    (he : ∀ (s : Shared) (H : Hp) (C : Addr) (cl : List (Str × Addr)) (fp : List Addr), DE (X.blk s H scope (compEnvC scope cl C X.env) fp) B.no elt we)
    (his : ∀ i ∈ is, i ∈ own.map (·.2) := by decide) (hs : ∀ x, foldedSetIterable iter X.env x = pure x := by intro _; rfl) :
    DN X B (.ListComp elt [⟨tg, iter, ifs, 0⟩] scope pos) (fun ρ => bnd (wi ρ) fun xs => grd (xs.length ≤ sizeLine) (nox (lcGo (lcF (own.map (·.2)) g wt we ρ) xs))) :=
  PE.imp (pe_lc hc hN hi ok hg ht he hs) fun _ _ _ h => lift_lc his h
/-- name = [..] on one line: the name a local; its list is frozen -/
theorem ds_setLc (i : Nat) {y : Str} {py spos : Pos} (hc : X.calm = true) (hN : X.N.Nodup) (hi : DI X B tg iter wi) (ok : BlkOk X.N X.env.scope scope own)
    (hg : ∀ (s : Shared) (H : Hp) (C : Addr) (cl : List (Str × Addr)) (fp : List Addr), DTg (X.blk s H scope (compEnvC scope cl C X.env) fp) B.no tg is g)
    (ht : ∀ (s : Shared) (H : Hp) (C : Addr) (cl : List (Str × Addr)) (fp : List Addr), DTs (X.blk s H scope (compEnvC scope cl C X.env) fp) B.no ifs wt)
    (he : ∀ (s : Shared) (H : Hp) (C : Addr) (cl : List (Str × Addr)) (fp : List Addr), DE (X.blk s H scope (compEnvC scope cl C X.env) fp) B.no elt we)
    (hy : X.N[i]? = some y := by rfl) (hyl : X.env.scope.names.lookup y = some .local := by rfl)
    (hsw : swapsWith (.ListComp elt [⟨tg, iter, ifs, 0⟩] scope pos) (some (.Name y py)) spos.line X.env = pure true := by exact sw_true rfl rfl rfl (by decide +kernel))
    (his : ∀ i ∈ is, i ∈ own.map (·.2) := by decide) (hs : ∀ x, foldedSetIterable iter X.env x = pure x := by intro _; rfl) :
    DS X B (.Assign [.Name y py] (.ListComp elt [⟨tg, iter, ifs, 0⟩] scope pos) spos) (fun ρ => bnd (bnd (wi ρ) fun xs => grd (xs.length ≤ sizeLine) (nox (lcGo (lcF (own.map (·.2)) g wt we ρ) xs))) fun ds => ret (.nx (ρ.set i (.d (.lst ds))))) := by
  refine PS.imp (ps_setLc hc hN hy hyl hsw hi ok hg ht he hs) fun D σ H ⟨ρ, H0, QO, k, q, h, _⟩ => ?_
  refine lift_lc his ⟨ρ, H0, _, k, q, fun ds vs p H1 H2 H3 x hn hp dd x2 h0 q1 => ?_⟩
  have s : Same H1 (upd H1 p (.lst vs)) := fun b u e => by rw [upd_ne (ne_of_none e h0)]; exact e
  have x3 : Ext B.G.T H1 H2 (upd H1 p (.lst vs)) H3 := ⟨x2.n, x2.nn, s, Same.put0 x2.zz hp h0, fun b u e => by
    by_cases h : b = p
    · subst h; exact .inr hn
    · rw [upd_ne h] at e; exact .inl e, x2.tabs, x2.nt.upd (by intro _ z; cases z)⟩
  exact h _ _ _ _ ((k.later (x.trans x3)).putD (of_lst upd_same (dd.same s))) (x.trans x3).z q1
/-- .. its list the name's own -/
theorem ds_ownLc (i : Nat) {y : Str} {py spos : Pos} (hc : X.calm = true) (hN : X.N.Nodup) (hi : DI X B tg iter wi) (ok : BlkOk X.N X.env.scope scope own)
    (hg : ∀ (s : Shared) (H : Hp) (C : Addr) (cl : List (Str × Addr)) (fp : List Addr), DTg (X.blk s H scope (compEnvC scope cl C X.env) fp) B.no tg is g)
    (ht : ∀ (s : Shared) (H : Hp) (C : Addr) (cl : List (Str × Addr)) (fp : List Addr), DTs (X.blk s H scope (compEnvC scope cl C X.env) fp) B.no ifs wt)
    (he : ∀ (s : Shared) (H : Hp) (C : Addr) (cl : List (Str × Addr)) (fp : List Addr), DE (X.blk s H scope (compEnvC scope cl C X.env) fp) B.no elt we)
    (hy : X.N[i]? = some y := by rfl) (hyl : X.env.scope.names.lookup y = some .local := by rfl)
    (hsw : swapsWith (.ListComp elt [⟨tg, iter, ifs, 0⟩] scope pos) (some (.Name y py)) spos.line X.env = pure true := by exact sw_true rfl rfl rfl (by decide +kernel))
    (his : ∀ i ∈ is, i ∈ own.map (·.2) := by decide) (hs : ∀ x, foldedSetIterable iter X.env x = pure x := by intro _; rfl) :
    DS X B (.Assign [.Name y py] (.ListComp elt [⟨tg, iter, ifs, 0⟩] scope pos) spos) (fun ρ => bnd (bnd (wi ρ) fun xs => grd (xs.length ≤ sizeLine) (nox (lcGo (lcF (own.map (·.2)) g wt we ρ) xs))) fun ds => ret (.nx (ρ.set i (.own (.lst none ds))))) := by
  refine PS.imp (ps_setLc hc hN hy hyl hsw hi ok hg ht he hs) fun D σ H ⟨ρ, H0, QO, k, q, h, _⟩ => ?_
  refine lift_lc his ⟨ρ, H0, _, k, q, fun ds vs p H1 H2 H3 x hn hp dd x2 h0 q1 => ?_⟩
  have k2 := k.later (x.trans x2)
  refine h _ _ H1 H3 (k2.put (s := .own (.lst none ds)) ⟨p, rfl, (k.later x).ext.nn p hn, h0, (by intro _ z; cases z), vs, hp, dd⟩ fun o _ j o' a ea e1 e2 => ?_) x.z q1
  cases ea
  obtain ⟨v, e3, a, e4, _, _, hh⟩ := (k.later x).env j _ e1
  rw [e2] at e3
  cases e3
  cases e4
  obtain ⟨u, e5⟩ := hh.there
  rw [hn] at e5
  cases e5
end
/-! ### for -/
def forGo (f : D → DL.Env → W Out) : List D → DL.Env → W Out
  | [], ρ => ret (.nx ρ)
  | x :: xs, ρ => bnd (f x ρ) fun o => match o with
    | .nx ρ' => forGo f xs ρ'
    | .ct ρ' => forGo f xs ρ'
    | .bk ρ' => ret (.nx ρ')
    | .rt d ρ => ret (.rt d ρ)
section
variable {X : Cx} {B : Bx} {tg iter : Expr} {body : List Stmt} {pos : Pos} {wi : DL.Env → W (List D)} {is : List Nat} {g : D → DL.Env → W DL.Env} {wb : DL.Env → W Out}
theorem ds_for (hp : PassesOwn (model X.prog X.w) X.A X.env X.xe) (hc : X.calm = true) (hi : DI X B tg iter wi) (hg : DTg X B tg is g) (hb : DSs X B body wb) (hs : ∀ x, foldedSetIterable iter X.env x = pure x := by intro _; rfl) :
    DS X B (.For tg iter body [] pos) (fun ρ => bnd (wi ρ) fun xs => forGo (fun x ρ => bnd (nox (g x ρ)) wb) xs ρ) := by
  refine PS.imp (ps_for hp hc hi hg hb hs) fun D σ H ⟨ρ, H0, QO, k, q, h, hr, hbk, hct⟩ => ⟨ρ, H0, _, k, q, fun ds J H1 H2 x jt q1 => ?_⟩
  refine ⟨fun i m σ H => m = ds.length - i ∧ i ≤ ds.length ∧ ∃ (ρ : DL.Env) (H3 : Hp), Ok B ρ σ H3 H ∧ Same H1 H3 ∧ forGo (fun x ρ => bnd (nox (g x ρ)) wb) (ds.drop i) ρ QO B.E, ⟨ds.length, by simp, Nat.zero_le _, ρ, H1, k.later x, .refl _, q1⟩, ?_⟩
  rintro i m σ3 H ⟨rfl, hi, ρ3, H3, k3, s3, qq⟩
  by_cases hlt : i < ds.length
  · refine .inr ⟨jt.go i H hlt (s3.trans k3.ext.zz), _, fun σ' H' p => ⟨ds.length - (i + 1), by omega, rfl, hlt, p⟩, fun v H4 y => ?_⟩
    have e1 : ds[i]? = some ds[i] := by simp [hlt]
    obtain ⟨H5, x5, dv⟩ := jt.yld i H3 H v H4 ds[i] s3 k3.st e1 y
    rw [List.drop_eq_getElem_cons hlt] at qq
    refine ⟨ρ3, H5, ds[i], _, k3.later x5, dv, qq, fun ρ1 σ1 k6 _ _ q6 => ⟨ρ1, H5, _, k6, q6, fun ρ7 σ7 H7 H8 k8 s8 q8 => ?_, fun d v ρ7 σ7 H7 H8 x8 d8 q8 => hr d v ρ7 σ7 H7 H8 x8 d8 q8, fun ρ7 σ7 H7 H8 k8 s8 q8 => ?_, fun ρ7 σ7 H7 H8 k8 s8 q8 => ?_⟩⟩
    · exact ⟨ρ7, H7, k8, (s3.trans x5.z).trans s8, q8⟩
    · exact h ρ7 σ7 H7 H8 k8 (((x.z.trans s3).trans x5.z).trans s8) q8
    · exact ⟨ρ7, H7, k8, (s3.trans x5.z).trans s8, q8⟩
  · have e : i = ds.length := by omega
    subst e
    rw [List.drop_length] at qq
    exact .inl ⟨jt.stop H (s3.trans k3.ext.zz), h ρ3 σ3 H3 H k3 (x.z.trans s3) qq⟩
/-! ### while -/
def whN (c : DL.Env → W Bool) (b : DL.Env → W Out) : Nat → DL.Env → W Out
  | 0, _ => stk
  | n + 1, ρ => bnd (c ρ) fun t => if t = true then bnd (b ρ) (fun o => match o with
    | .nx ρ' => whN c b n ρ'
    | .ct ρ' => whN c b n ρ'
    | .bk ρ' => ret (.nx ρ')
    | .rt d ρ => ret (.rt d ρ)) else ret (.nx ρ)
def whW (c : DL.Env → W Bool) (b : DL.Env → W Out) (ρ : DL.Env) : W Out := fun Q E => ∃ n, whN c b n ρ Q E
theorem ds_while {c : Expr} {wc : DL.Env → W Bool} (hp : PassesOwn (model X.prog X.w) X.A X.env X.xe) (hc : DT X B c wc) (hb : DSs X B body wb) : DS X B (.While c body [] pos) (fun ρ => whW wc wb ρ) := by
  refine PS.imp (ps_while hp hc hb) fun D σ H ⟨ρ, H0, QO, k, ⟨n, q⟩, h, hr, hbk, hct⟩ => ?_
  refine ⟨fun m σ H => ∃ (ρ : DL.Env) (H3 : Hp), Ok B ρ σ H3 H ∧ Same H0 H3 ∧ whN wc wb m ρ QO B.E, ⟨n, ρ, H0, k, .refl _, q⟩, ?_⟩
  rintro m σ3 H ⟨ρ3, H3, k3, s3, qq⟩
  cases m with
  | zero => exact (show False from qq).elim
  | succ m =>
    refine ⟨ρ3, H3, _, k3, qq, fun t H4 H5 x5 q5 => ?_⟩
    cases t with
    | true =>
      have q5 := q5
      rw [if_pos rfl] at q5
      refine iteT ⟨_, fun σ' H' p => ⟨m, Nat.lt_succ_self m, p⟩, ρ3, H4, _, k3.later x5, q5, fun ρ7 σ7 H7 H8 k8 s8 q8 => ?_, fun d v ρ7 σ7 H7 H8 x8 d8 q8 => hr d v ρ7 σ7 H7 H8 x8 d8 q8, fun ρ7 σ7 H7 H8 k8 s8 q8 => ?_, fun ρ7 σ7 H7 H8 k8 s8 q8 => ?_⟩
      · exact ⟨ρ7, H7, k8, (s3.trans x5.z).trans s8, q8⟩
      · exact h ρ7 σ7 H7 H8 k8 ((s3.trans x5.z).trans s8) q8
      · exact ⟨ρ7, H7, k8, (s3.trans x5.z).trans s8, q8⟩
    | false =>
      rw [if_neg Bool.false_ne_true] at q5
      exact iteF (h ρ3 σ3 H4 H5 (k3.later x5) (s3.trans x5.z) q5)
end
end DL
end
section
set_option Elab.async false
set_option linter.all false
set_option maxRecDepth 100000
set_option maxHeartbeats 1000000
set_option autoImplicit false
/-! DK: a def by its body; what is never reached; isinstance; == and in of data. -/
namespace DL
open PySem PySem.Spec L2 PyProof.Rows
/-- what a body's walk gives as the call's answer -/
def endW (m : W Out) : W D := bnd m fun o => match o with
  | .nx _ => ret .non
  | .rt d _ => ret d
  | _ => stk
abbrev env0 (n : Nat) (ds : List D) : DL.Env := ds.map Sl.d ++ List.replicate (n - ds.length) .un
theorem Ok.start {G : Gx} {H0 H : Hp} {E : DX → Prop} {xk : XK} {N : List Str} {ds : List D} {vs : List V} (st : St0 G H0 H) (dd : Dens G H0 ds vs) (h : vs.length ≤ N.length) : Ok ⟨G, H, H0, E, xk⟩ (env0 N.length ds) (start N vs) H0 H := by
  have hl := dd.length
  refine ⟨st.refl, by simp [L2.start, hl], fun i s e => ?_, fun i j o p a e1 _ _ _ => ?_⟩
  · by_cases hi : i < ds.length
    · have e' : (ds.map Sl.d)[i]? = some s := by
        rw [List.getElem?_append_left (by simpa using hi)] at e
        exact e
      rw [List.getElem?_map] at e'
      cases q : ds[i]? with
      | none => rw [q] at e'; cases e'
      | some d =>
        rw [q] at e'
        cases e'
        obtain ⟨v, h1, h2⟩ := dd.get q
        refine ⟨some v, ?_, v, rfl, h2⟩
        show (vs.map some ++ _)[i]? = _
        rw [List.getElem?_append_left (by simpa [← hl] using hi), List.getElem?_map, h1]
        rfl
    · have hi' : ds.length ≤ i := Nat.le_of_not_lt hi
      rw [List.getElem?_append_right (by simpa using hi')] at e
      have q := List.getElem?_eq_some_iff.mp e
      obtain ⟨q1, q2⟩ := q
      rw [List.getElem_replicate] at q2
      subst q2
      refine ⟨none, ?_, trivial⟩
      show (vs.map some ++ _)[i]? = _
      rw [List.length_map, List.length_replicate] at q1
      rw [List.getElem?_append_right (by simpa [← hl] using hi'), List.getElem?_replicate, List.length_map, ← hl, if_pos q1]
  · exfalso
    by_cases hi : i < ds.length
    · rw [List.getElem?_append_left (by simpa using hi), List.getElem?_map] at e1
      cases q : ds[i]? with
      | none => rw [q] at e1; cases e1
      | some d => rw [q] at e1; cases e1
    · rw [List.getElem?_append_right (by simpa using Nat.le_of_not_lt hi)] at e1
      obtain ⟨_, q2⟩ := List.getElem?_eq_some_iff.mp e1
      rw [List.getElem_replicate] at q2
      cases q2
/-- how the arguments bind: h is «fun _ _ _ _ _ _ us hl => match us, hl with | [_, _], _ => rfl», one _ a parameter -/
abbrev BindsBy (x qual : Str) (pr : Arguments) (body : List Stmt) (sc : Scope) (ps : List Str) : Prop := ∀ (kV doc pm : Value) (an : Option Addr) (cdv ct : Value) (us : List Value), us.length = ps.length → bindArgs (PySem.W.fnOf x qual pr body sc .none kV doc pm an cdv ct) ⟨us, []⟩ = pure (ps.zip us)
/-- THE RULE for a def: its body's walk -/
theorem fnOk_of {P : Program} {w : World} {G : Gx} {mg : Str → Option Value} {base : Heap} {x qual : Str} {pr : Arguments} {body : List Stmt} {sc : Scope} {f : Addr} {fd : FuncData} {N ps : List Str} {k : Nat} {s : List D → W D}
    (F : FunD G.K x qual pr body sc [] [] f fd) (S : FnScope N ps sc) (hn : ps.length ≤ N.length)
    (hbody : ∀ (cdv : Value) (A : Around) (outer : List PySem.Env) (s0 : Shared) (H : Hp) (E : XK) (H0 : Hp) (ED : DX → Prop), fd.code = cdv → Room k (A.deeper (PyProof.Rows.envOfC qual sc s0.heap.objs.size f cdv)) →
      Passes (L2.CX P w) (cxOf (L2.CX P w) P w G.K mg base N qual sc f cdv A outer s0 H E) E → BxOk ⟨G, H, H0, ED, E⟩ →
      ∃ wb, DSs (cxOf (L2.CX P w) P w G.K mg base N qual sc f cdv A outer s0 H E) ⟨G, H, H0, ED, E⟩ body wb ∧ ∀ ds Q, ds.length = ps.length → s ds Q ED → endW (wb (env0 N.length ds)) Q ED) :
    FnOk P w G.K mg base (L2.CX P w) (k + 1) f fd ps (liftSp G ps.length s) := by
  obtain ⟨oc, od, dV, kV, doc, pm, an, cdv, ct, osl, rfl, lk, hcd, _, _⟩ := F.ex
  refine fn_of lk hcd S (fun vs H Q E ⟨_, _, _, _, h, _⟩ => h) fun A outer s0 H vs Q E hr ⟨H0, ds, QD, ED, l, st0, dd, q, he, hx⟩ => ?_
  obtain ⟨wb, h1, h2⟩ := hbody cdv A outer s0 H E H0 ED rfl hr (passes_call (takes_of rfl rfl rfl rfl) fun _ _ _ _ h => h) fun x cls d H1 H2 e dx q => hx x cls d H1 H2 e dx q
  refine ⟨_, h1, ?_⟩
  refine ⟨_, H0, _, Ok.start st0 dd (by rw [l]; exact hn), h2 ds QD (dd.length.trans l) q, ?_, ?_, ?_, ?_⟩
  · intro ρ' σ' H0' H' k' _ q'
    exact he .non .non H0' H' k'.ext (by simp only [Den]) q'
  · intro d v ρ' σ' H0' H' k' d' q'
    exact he d v H0' H' k'.ext d' q'
  · intro ρ' σ' H0' H' k' _ q'
    exact (show False from q').elim
  · intro ρ' σ' H0' H' k' _ q'
    exact (show False from q').elim
theorem fnH_of {P : Program} {w : World} {G : Gx} {mg : Str → Option Value} {base : Heap} {x qual : Str} {pr : Arguments} {body : List Stmt} {sc : Scope} {f : Addr} {fd : FuncData} {N ps : List Str} {k : Nat} {s : List D → W D}
    (F : FunD G.K x qual pr body sc [] [] f fd) (S : FnScope N ps sc) (hm : mg x = some (.ref f)) (hb : BindsBy x qual pr body sc ps) (hn : ps.length ≤ N.length)
    (hbody : ∀ (cdv : Value) (A : Around) (outer : List PySem.Env) (s0 : Shared) (H : Hp) (E : XK) (H0 : Hp) (ED : DX → Prop), fd.code = cdv → Room k (A.deeper (PyProof.Rows.envOfC qual sc s0.heap.objs.size f cdv)) →
      Passes (L2.CX P w) (cxOf (L2.CX P w) P w G.K mg base N qual sc f cdv A outer s0 H E) E → BxOk ⟨G, H, H0, ED, E⟩ →
      ∃ wb, DSs (cxOf (L2.CX P w) P w G.K mg base N qual sc f cdv A outer s0 H E) ⟨G, H, H0, ED, E⟩ body wb ∧ ∀ ds Q, ds.length = ps.length → s ds Q ED → endW (wb (env0 N.length ds)) Q ED) :
    FnH P w G mg base x ps.length (k + 1) s := ⟨f, fd, ps, rfl, hm, F.kp, F.bindsN hb, fnOk_of F S hn hbody⟩
/-! ### isinstance -/
inductive CV where
  | ty (n : String) | own (c : Nat)
def CV.v (G : Gx) : CV → V
  | .ty n => .ty n
  | .own c => .ref (G.cls c)
def CV.u (G : Gx) : CV → Value
  | .ty n => .type n
  | .own c => .ref (G.cls c)
theorem CV.ok {G : Gx} : ∀ c : CV, ClsV (c.v G) (c.u G)
  | .ty n => .ty n
  | .own c => .own _
def tyN : D → Option String
  | .non => some "NoneType"
  | .bl _ => some "bool"
  | .int _ => some "int"
  | .str _ => some "str"
  | .tup _ => some "tuple"
  | .lst _ => some "list"
  | .dic _ _ => some "dict"
  | _ => none
def tyB (a b : String) : Bool := a == b || (a == "bool" && b == "int")
theorem tyB_all : ∀ a ∈ tyAs, ∀ b ∈ tyBs, kitB a b = some (tyB a b) := by decide +kernel
def isiD (G : Gx) : CV → D → Option Bool
  | .ty T, .ins c _ => if G.flds c ≠ [] ∧ T ∈ tyBs then some false else none
  | .ty T, d => (tyN d).bind fun a => if T ∈ tyBs then some (tyB a T) else none
  | .own c, .ins c' _ => if G.flds c ≠ [] ∧ G.flds c' ≠ [] then some (c' == c) else none
  | .own c, d => (tyN d).bind fun _ => if G.flds c ≠ [] then some false else none
theorem SqT.tyx {K : PySem.W.Frag} {H : Hp} {a : Addr} {xs : List V} (h : SqT K H a xs) : TyX K H (.ref a) (.type "tuple") := by
  rcases h with (h | ⟨o, h⟩) | h
  · exact .base (.tup h)
  · exact .fTuple h
  · obtain ⟨o, _, _, h1, h2, h3⟩ := h
    exact .kTuple h1 h2
theorem tyN_ok {G : Gx} {H : Hp} {d : D} {v : V} {a : String} (h : Den G H d v) (e : tyN d = some a) : a ∈ tyAs ∧ TyX G.K H v (.type a) := by
  cases d <;> first | (cases e) | skip
  · simp only [Den] at h; subst h; exact ⟨by decide, .base .non⟩
  · simp only [Den] at h; subst h; exact ⟨by decide, .base (.bl _)⟩
  · simp only [Den] at h; subst h; exact ⟨by decide, .base (.int _)⟩
  · simp only [Den] at h; subst h; exact ⟨by decide, .base (.str _)⟩
  · obtain ⟨p, us, rfl, s, _⟩ := den_tup h; exact ⟨by decide, SqT.tyx s⟩
  · obtain ⟨p, us, rfl, s, _⟩ := den_lst h; exact ⟨by decide, .base (.lst s)⟩
  · simp only [Den] at h
    obtain ⟨p, us, rfl, _, s⟩ := h
    refine ⟨by decide, ?_⟩
    rcases s with ⟨_, _, s, _⟩ | ⟨_, _, s, _⟩
    · exact .base (.dK s)
    · exact .base (.dT s)
def tyD (G : Gx) : D → Value
  | .ins c _ => .ref (G.cls c)
  | d => .type ((tyN d).getD "")
theorem tyD_of {G : Gx} {d : D} {a : String} (e : tyN d = some a) : tyD G d = .type a := by
  cases d <;> first | (cases e; rfl) | cases e
theorem isiD_ok {G : Gx} {H : Hp} {d : D} {v : V} {c : CV} {b : Bool} (g : GOk G) (h : Den G H d v) (e : isiD G c d = some b) : TyX G.K H v (tyD G d) ∧ PySem.W.kitOne G.K (tyD G d) (c.u G) = some b := by
  have base : ∀ a, tyN d = some a → ∀ T, T ∈ tyBs → tyB a T = b → c = .ty T → TyX G.K H v (tyD G d) ∧ PySem.W.kitOne G.K (tyD G d) (c.u G) = some b := fun a e2 T hT hb hc => by
    obtain ⟨h1, h2⟩ := tyN_ok h e2
    subst hc
    rw [tyD_of e2]
    refine ⟨h2, ?_⟩
    rw [← hb]
    exact kit_ty (tyB_all a h1 T hT)
  have basc : ∀ a, tyN d = some a → ∀ c', G.flds c' ≠ [] → false = b → c = .own c' → TyX G.K H v (tyD G d) ∧ PySem.W.kitOne G.K (tyD G d) (c.u G) = some b := fun a e2 c' hT hb hc => by
    obtain ⟨h1, h2⟩ := tyN_ok h e2
    subst hc
    rw [tyD_of e2]
    refine ⟨h2, ?_⟩
    rw [← hb]
    exact (g.ty c' hT).on a h1
  cases c with
  | ty T =>
    by_cases q : ∃ c' fs, d = .ins c' fs
    · obtain ⟨c', fs, rfl⟩ := q
      simp only [isiD] at e
      split at e
      · rename_i hh
        cases e
        simp only [Den] at h
        obtain ⟨a, dx, vs, rfl, s, _, _⟩ := h
        have k := g.ty c' hh.1
        exact ⟨.base (.ins s k.cl k.ha k.hn k.htk k.hm), k.no T hh.2⟩
      · cases e
    · have e' : (tyN d).bind (fun a => if T ∈ tyBs then some (tyB a T) else none) = some b := by
        cases d <;> first | exact e | exact (q ⟨_, _, rfl⟩).elim
      cases w : tyN d with
      | none => rw [w] at e'; cases e'
      | some a =>
        rw [w] at e'
        simp only [Option.bind] at e'
        split at e'
        · rename_i hh
          cases e'
          exact base a w T hh rfl rfl
        · cases e'
  | own c' =>
    by_cases q : ∃ c' fs, d = .ins c' fs
    · obtain ⟨c2, fs, rfl⟩ := q
      simp only [isiD] at e
      split at e
      · rename_i hh
        cases e
        simp only [Den] at h
        obtain ⟨a, dx, vs, rfl, s, _, _⟩ := h
        have k := g.ty c2 hh.2
        refine ⟨.base (.ins s k.cl k.ha k.hn k.htk k.hm), ?_⟩
        by_cases z : c2 = c'
        · subst z
          show PySem.W.kitOne G.K (.ref (G.cls c2)) (.ref (G.cls c2)) = _
          unfold PySem.W.kitOne
          simp
        · rw [beq_eq_false_iff_ne.mpr z]
          exact g.ne c2 c' hh.2 hh.1 z
      · cases e
    · have e' : (tyN d).bind (fun a => if G.flds c' ≠ [] then some false else none) = some b := by
        cases d <;> first | exact e | exact (q ⟨_, _, rfl⟩).elim
      cases w : tyN d with
      | none => rw [w] at e'; cases e'
      | some a =>
        rw [w] at e'
        simp only [Option.bind] at e'
        split at e'
        · rename_i hh
          cases e'
          exact basc a w c' hh rfl rfl
        · cases e'
section
variable {X : Cx} {B : Bx} {e f : Expr} {we : DL.Env → W D} {pos p : Pos}
/-- a class by its name -/
inductive ClsE (X : Cx) (G : Gx) : Expr → CV → Prop where
  | ty {x : Str} {n : String} {p : Pos} (hg : Gl X x) (hm : X.mg x = none) (hv : bootBuiltins x = some (.type n)) (hn : x ≠ "__name__") (hd : (x == ("__debug__" : Str)) = false) : ClsE X G (.Name x p) (.ty n)
  | own {x : Str} {c : Nat} {p : Pos} (hg : Gl X x) (hm : X.mg x = some (.ref (G.cls c))) (hd : (x == ("__debug__" : Str)) = false) : ClsE X G (.Name x p) (.own c)
theorem ClsE.pe {c : CV} (h : ClsE X B.G f c) : PE X f (tC (c.v B.G)) := by
  cases h with
  | ty hg hm hv hn hd => exact pe_bltn hg hm hv rfl hn hd
  | own hg hm hd => exact pe_glob hg hm rfl hd
theorem de_isi {c : CV} (hK : X.K = B.G.K) (g : GOk B.G) (hg : Gl X "isinstance") (hm : X.mg "isinstance" = none) (he : DE X B e we) (hc : ClsE X B.G f c)
    (hs1 : starEach [e, f] X.env = (false, eval e X.env) :: starEach [f] X.env := by rfl) (hs2 : starEach [f] X.env = (false, eval f X.env) :: starEach [] X.env := by rfl) (hpl : (backTo pos (starEach [f] X.env)).any (·.1) = false := by rfl) :
    DE X B (.Call (.Name "isinstance" p) [e, f] [] pos) (fun ρ => bnd (we ρ) fun d => optW ((isiD B.G c d).map D.bl)) := by
  refine PE.imp (pe_callB call_isi hg hm PyProof.Rows.boot_isinstance (pa_cons he (pa_cons hc.pe pa_nil hs2) hs1) (by decide) (by decide) hs1 hpl) fun σ H Q ⟨ρ, H0, QD, k, q, h⟩ => ⟨ρ, H0, _, k, q, fun d v H1 H2 x dd q1 => ?_⟩
  obtain ⟨y, e, q1⟩ := optW_of q1
  cases w : isiD B.G c d with
  | none => rw [w] at e; cases e
  | some b =>
    rw [w] at e
    cases e
    obtain ⟨ty, kt⟩ := isiD_ok g (dd.same x.zz) w
    exact ⟨v, c.v B.G, _, c.u B.G, b, rfl, c.ok, by rw [hK]; exact ty, by rw [hK]; exact kt, h _ _ H1 H2 x of_bl q1⟩
def tCs (G : Gx) : List CV → TA
  | [] => tNil
  | c :: cs => tCons (tC (c.v G)) (tCs G cs)
theorem tCs_of {G : Gx} : ∀ (cs : List CV) {σ : L2.St} {H : Hp} {Q : List V → Hp → Prop}, Q (cs.map (·.v G)) H → tCs G cs σ H Q
  | [], _, _, _, h => h
  | c :: cs, _, _, _, h => tCs_of cs h
def isiA (G : Gx) : List CV → D → Option Bool
  | [], _ => none
  | [c], d => isiD G c d
  | c :: cs, d => match isiD G c d with
    | some true => some true
    | some false => isiA G cs d
    | none => none
theorem isiA_ok {G : Gx} {H : Hp} {d : D} {v : V} (g : GOk G) (h : Den G H d v) : ∀ {cs : List CV} {b : Bool}, isiA G cs d = some b → TyX G.K H v (tyD G d) ∧ PySem.W.kitAny G.K (tyD G d) (cs.map (·.u G)) = some b
  | [], b, e => by cases e
  | [c], b, e => by
    obtain ⟨h1, h2⟩ := isiD_ok g h (show isiD G c d = some b from e)
    refine ⟨h1, ?_⟩
    show (match PySem.W.kitOne G.K (tyD G d) (c.u G) with | some true => some true | some false => some false | none => none) = some b
    rw [h2]
    cases b <;> rfl
  | c :: c' :: cs, b, e => by
    have e' : (match isiD G c d with | some true => some true | some false => isiA G (c' :: cs) d | none => none) = some b := e
    show _ ∧ (match PySem.W.kitOne G.K (tyD G d) (c.u G) with | some true => some true | some false => PySem.W.kitAny G.K (tyD G d) ((c' :: cs).map (·.u G)) | none => none) = some b
    cases w : isiD G c d with
    | none => rw [w] at e'; cases e'
    | some t =>
      obtain ⟨h1, h2⟩ := isiD_ok g h w
      rw [h2]
      rw [w] at e'
      cases t with
      | true => exact ⟨h1, e'⟩
      | false => exact isiA_ok g h (cs := c' :: cs) e'
theorem ClsV.alls {G : Gx} : ∀ cs : List CV, Paired ClsV (cs.map (·.v G)) (cs.map (·.u G))
  | [] => .nil
  | c :: cs => .cons c.ok (ClsV.alls cs)
theorem de_isiA {cs : List CV} {es : List Expr} {k : Nat} {tp : Pos} (hK : X.K = B.G.K) (g : GOk B.G) (hg : Gl X "isinstance") (hm : X.mg "isinstance" = none) (he : DE X B e we) (hes : PA X es (tCs B.G cs)) (hz : cs.length ≤ sizeLine := by decide)
    (hs1 : starEach [e, .Tuple es k tp] X.env = (false, eval e X.env) :: starEach [.Tuple es k tp] X.env := by rfl) (hs2 : starEach [.Tuple es k tp] X.env = (false, eval (.Tuple es k tp) X.env) :: starEach [] X.env := by rfl) (hpl : (backTo pos (starEach [.Tuple es k tp] X.env)).any (·.1) = false := by rfl) :
    DE X B (.Call (.Name "isinstance" p) [e, .Tuple es k tp] [] pos) (fun ρ => bnd (we ρ) fun d => optW ((isiA B.G cs d).map D.bl)) := by
  refine PE.imp (pe_callB call_isiT hg hm PyProof.Rows.boot_isinstance (pa_cons he (pa_cons (pe_tup hes) pa_nil hs2) hs1) (by decide) (by decide) hs1 hpl) fun σ H Q ⟨ρ, H0, QD, k, q, h⟩ => ⟨ρ, H0, _, k, q, fun d v H1 H2 x dd q1 => tCs_of cs ⟨by rw [List.length_map]; exact hz, fun tp htp => ?_⟩⟩
  obtain ⟨y, e, q1⟩ := optW_of q1
  cases w : isiA B.G cs d with
  | none => rw [w] at e; cases e
  | some b =>
    rw [w] at e
    cases e
    have x2 := Ext.put x.st htp (.tup (cs.map (·.v B.G)))
    have x3 := x.trans x2
    obtain ⟨ty, kt⟩ := isiA_ok g ((dd.same x2.z).same x2.zz) w
    exact ⟨v, tp, cs.map (·.v B.G), _, cs.map (·.u B.G), b, rfl, upd_same, ClsV.alls cs, by rw [hK]; exact ty, by rw [hK]; exact kt, h _ _ _ _ x3 of_bl q1⟩
end
end DL
end
section
set_option Elab.async false
set_option linter.all false
set_option maxRecDepth 100000
set_option maxHeartbeats 1000000
set_option autoImplicit false
/-! DNe: == and != of instances by an own __eq__ (no own __ne__). -/
namespace DL
open PySem PySem.Spec PySem.W PyProof.Rows L2
section
variable {prog : Program} {w : World} {A : Around} {E : Value → Shared → Prop} {s : Shared} {K : Frag} {x C L f : Addr} {h₀ : Heap} {m : Str → Option Value} {ox : Obj} {od : Option Obj} {b : Value}
theorem ne_builtin {Q : Fin → Shared → Prop} (hu : A.units < cLine) (X : K.In s.heap) (I : InstAt s.heap x ox C od) (hs : findIn K (.ref C) "__eq__" = some (some (.ref f))) (hf : isFn K (.ref f) = true)
    (hcall : wpAny (model prog w) A (call (.ref f) [.ref x, b]) (fun v s' => ∃ t, v = .bool t ∧ Q (.done (.ret (.bool (!t)))) s') E s) :
    wpAny (model prog w) A (Builtin.«object.__ne__» ⟨[.ref x, b], []⟩) Q E s := by
  unfold Builtin.«object.__ne__»
  repeat (first
    | with_reducible refine wpAny_cRoomFor hu ?_
    | (refine wpAny_bind (m := callSpecialIfBound? (.ref x) (Str.ofString "__eq__") [b])
        (ifBound_K X I hs hf (wpAny_mono hcall (fun r s' hr => by
          obtain ⟨t, rfl, hq⟩ := hr
          repeat (first | exact hq | exact wpAny_pure hq | exact wpAny_truthy_bool hq | (refine wpAny_bind (m := truthy (.bool _)) (wpAny_truthy_bool ?_)) | wp_step)) fun _ _ e => e)))
    | wp_step)
theorem ne_check {Q : Unit → Shared → Prop} (X : K.In s.heap) (I : InstAt s.heap x ox C od) (hm : mroIn K C (.type "object") = some true) (hq : Q () s) :
    wpAny (model prog w) A (checkBuiltinCall "object.__ne__" ⟨[.ref x, b], []⟩) Q E s := by
  simp only [checkBuiltinCall, F.cmpKind_ne, F.cmpSplit_ne]
  refine wpAny_bind ?_
  unfold isInstance
  refine wpAny_bind (I.type.here ((looks_mroIn X hm).here ?_))
  simp only [Bool.not_true, Bool.false_eq_true, if_false]
  have ha := F.cmpArgs_ne (.ref x) b
  cases hsig : Manifest.signature? "object.__ne__" with
  | none => exact wpAny_pure hq
  | some sig =>
    simp only [argsOk, hsig] at ha
    have h2 : Bind.checkArgs "object.__ne__" sig ⟨[.ref x, b], []⟩ = pure () := ha
    show wpAny _ A (Bind.checkArgs "object.__ne__" sig ⟨[.ref x, b], []⟩) Q E _
    rw [h2]; exact wpAny_pure hq
theorem ne_K {Q : Value → Shared → Prop} {tb : Value} {m : Str → Option Value} {L : Addr} (hu : A.units + 1 < cLine) (F : Fr h₀ L s.heap m) (X₀ : K.In h₀) (I : InstAt s.heap x ox C od) (hb : Looks (model prog w) s.heap (typeOf b) tb) (hn : notFirst K C tb = true)
    (hno : findIn K (.ref C) "__ne__" = some (some (.builtin "object.__ne__"))) (hm : mroIn K C (.type "object") = some true) (hs : findIn K (.ref C) "__eq__" = some (some (.ref f))) (hf : isFn K (.ref f) = true)
    (h : wpAny (model prog w) A.in1 (call (.ref f) [.ref x, b]) (fun v s' => ∃ t, v = .bool t ∧ Q (.bool (!t)) s') E s) : wpAny (model prog w) A (compareOp .NotEq (.ref x) b) Q E s := by
  unfold compareOp
  have X := X₀.keeps F.keep
  have one : wpAny (model prog w) A (tryCompare (.ref x) "__ne__" b) (fun r s' => ∃ v, r = some v ∧ Q v s') E s := by
    have S := PySem.F.cmp_object.ne
    have hcall : wpAny (model prog w) A (call (.builtin "object.__ne__") (.ref x :: [b])) (fun v s' => ∃ t, v = .bool t ∧ Q v s') E s := by
      refine wpAny_call (codeAny_call_builtin S.plain PySem.F.cmpEntry_ne (ne_check X I hm (ne_builtin (A := A.in1) hu X I hs hf (wpAny_mono h (fun v s' hv => ?_) fun _ _ e => e))))
      obtain ⟨t, rfl, hq⟩ := hv
      exact ⟨t, rfl, _, rfl, hq⟩
    unfold tryCompare
    have two : wpAny (model prog w) A (callSpecialIfBound? (.ref x) "__ne__" [b]) (fun r s' => ∃ t, r = some (.bool t) ∧ Q (.bool t) s') E s := by
      simp only [callSpecialIfBound?, bindSpecialIfBound?]
      refine wpAny_holding (wpAny_bind (wpAny_bind (wpAny_bind (I.type.here ((looks_findIn X hno).here ?_)))))
      simp only [S.bind]
      refine wpAny_bind (wpAny_askSetting (wpAny_ite ?_))
      have fin : wpAny (model prog w) A (call (.builtin "object.__ne__") ([.ref x] ++ [b]) >>= fun v => pure (some v)) (fun r s' => ∃ t, r = some (.bool t) ∧ Q (.bool t) s') E s :=
        wpAny_bind (wpAny_mono hcall (fun v s' h' => wpAny_pure (by obtain ⟨t, rfl, q⟩ := h'; exact ⟨t, rfl, q⟩)) fun _ _ h' => h')
      split
      · exact wpAny_bind (wpAny_pure (wpAny_pure fin))
      · exact wpAny_tryCatch (wpAny_bind (wpAny_pure (wpAny_pure fin)))
    refine wpAny_bind (wpAny_mono two (fun r s' z => ?_) fun _ _ e => e)
    obtain ⟨t, rfl, q⟩ := z
    exact wpAny_pure ⟨_, rfl, q⟩
  unfold richCompare
  simp only [oneThing_ref]
  refine wpAny_holding (wpAny_bind (wpAny_cRoomFor (Nat.lt_of_succ_lt hu) ?_))
  refine wpAny_bind (I.type.here (wpAny_bind (hb.here ?_)))
  split
  · rename_i q
    have e : subIn K tb (.ref C) = some false := by
      rcases Bool.or_eq_true_iff.mp hn with e | e
      · rw [beq_iff_eq.mp e] at q; simp at q
      · exact beq_iff_eq.mp e
    refine wpAny_bind ((looks_subIn X e).here ?_)
    simp only [Bool.false_eq_true, if_false]
    refine wpAny_bind (wpAny_mono one (fun r s' z => ?_) fun _ _ e => e)
    obtain ⟨v, rfl, hq⟩ := z
    exact wpAny_pure hq
  · refine wpAny_bind (wpAny_pure ?_)
    simp only [Bool.false_eq_true, if_false]
    refine wpAny_bind (wpAny_mono one (fun r s' z => ?_) fun _ _ e => e)
    obtain ⟨v, rfl, hq⟩ := z
    exact wpAny_pure hq
end
/-- x == y, x != y, x an instance of the class at C with an own == at g; y any instance of C -/
def rOwnEq (C : Addr) (neg : Bool) (sp : Sp) (E : XK) : R2 := fun x y H Q => ∃ a dx fs b dy gs, x = .ref a ∧ y = .ref b ∧ H a = some (.ins C dx fs) ∧ H b = some (.ins C dy gs) ∧ sp [x, y] H (fun v H' => ∃ t, v = .bl t ∧ Q (.bl (t != neg)) H') E
section
variable {X : Cx} {CX : CXT} {C f : Addr} {fd : FuncData} {ps : List Str} {sp : Sp} {E : XK} {k : Nat}
theorem run_own {A : Around} {pins : List (Addr × Obj)} {σ : L2.St} {H : Hp} {s : Shared} {us : List Value} {vs : List V} {Q : VK} (F : FnOk X.prog X.w X.K X.mg X.base CX k f fd ps sp) (hb : Binds X.K fd ps []) (hx : Passes CX X E)
    (hr : Room k A) (e0 : Env0 X.prog X.w X.K X.mg X.base A X.stack s H) (I : Inv X pins σ H s) (r : Vals vs us) (h : sp vs H Q E) : wpAny (model X.prog X.w) A (call (.ref f) us) (EP X pins σ Q) X.xe s := by
  have hl := F.len _ _ _ _ h
  have hu : us.length = ps.length := by rw [← hl]; exact r.length.symm
  refine wpAny_call (codeAny_mono (F.run A X.stack s H ⟨us, []⟩ us vs Q E hr e0 (by
    have := hb s us I.kIn (by simpa using hu)
    simpa using this) r h) fun r s' hq => ?_)
  cases r with
  | error e => exact hx pins σ H s e s' I hq
  | ok fl =>
    cases fl with
    | ret u => exact I.after hq
    | next => exact False.elim hq
    | brk => exact False.elim hq
    | cont => exact False.elim hq
theorem op_ownEq (F : FnOk X.prog X.w X.K X.mg X.base CX k f fd ps sp) (hb : Binds X.K fd ps []) (hx : Passes CX X E) (hr : Room (k + 1) X.A) (hs : PySem.W.findIn X.K (.ref C) "__eq__" = some (some (.ref f))) (hf : PySem.W.isFn X.K (.ref f) = true) :
    OpR X (compareOp .Eq) (rOwnEq C false sp E) := by
  intro pins s σ H x y v u Q I rx ry h
  obtain ⟨a, dx, fs, b, dy, gs, rfl, rfl, ha, hb', q⟩ := h
  cases rx
  cases ry
  obtain ⟨mA, J, _⟩ := ins_get I.hok ha
  obtain ⟨mB, J', _⟩ := ins_get I.hok hb'
  obtain ⟨od, J, _⟩ := J.look
  obtain ⟨od', J', _⟩ := J'.look
  obtain ⟨m, hF⟩ := I.fr
  refine PySem.W.cmp_K (op := .Eq) (tb := .ref C) hr.units0 hF I.ok.mod.kin J J'.type (by simp [PySem.W.notFirst]) hs hf ?_
  refine wpAny_mono (run_own (vs := [.ref a, .ref b]) F hb hx (hr.mono (Nat.le_succ k)) I.env0 I (.cons (show L2.RelV (.ref a) (.ref a) from rfl) (.cons (show L2.RelV (.ref b) (.ref b) from rfl) .nil)) q) (fun w s' z => ?_) fun _ _ x => x
  obtain ⟨z', H', I', rz, t, ez, qz⟩ := z
  subst ez
  cases rz
  refine ⟨.bl t, H', I', rfl, ?_⟩
  simpa using qz
theorem op_ownNe (F : FnOk X.prog X.w X.K X.mg X.base CX k f fd ps sp) (hb : Binds X.K fd ps []) (hx : Passes CX X E) (hr : Room (k + 1) X.A) (hs : PySem.W.findIn X.K (.ref C) "__eq__" = some (some (.ref f))) (hf : PySem.W.isFn X.K (.ref f) = true)
    (hno : PySem.W.findIn X.K (.ref C) "__ne__" = some (some (.builtin "object.__ne__"))) (hm : PySem.W.mroIn X.K C (.type "object") = some true) :
    OpR X (compareOp .NotEq) (rOwnEq C true sp E) := by
  intro pins s σ H x y v u Q I rx ry h
  obtain ⟨a, dx, fs, b, dy, gs, rfl, rfl, ha, hb', q⟩ := h
  cases rx
  cases ry
  obtain ⟨mA, J, _⟩ := ins_get I.hok ha
  obtain ⟨mB, J', _⟩ := ins_get I.hok hb'
  obtain ⟨od, J, _⟩ := J.look
  obtain ⟨od', J', _⟩ := J'.look
  obtain ⟨m, hF⟩ := I.fr
  refine ne_K (tb := .ref C) (by have := hr.un; omega) hF I.ok.mod.kin J J'.type (by simp [PySem.W.notFirst]) hno hm hs hf ?_
  refine wpAny_mono (run_own (vs := [.ref a, .ref b]) F hb hx hr.in1 I.env0.in1 I (.cons (show L2.RelV (.ref a) (.ref a) from rfl) (.cons (show L2.RelV (.ref b) (.ref b) from rfl) .nil)) q) (fun w s' z => ?_) fun _ _ x => x
  obtain ⟨z', H', I', rz, t, ez, qz⟩ := z
  subst ez
  cases rz
  refine ⟨t, rfl, .bl (!t), H', I', rfl, ?_⟩
  cases t <;> exact qz
end
end DL
end
section
set_option Elab.async false
set_option linter.all false
set_option maxRecDepth 100000
set_option maxHeartbeats 1000000
set_option autoImplicit false
/-! DL1: == != in, of data and of instances; methods. -/
namespace DL
open PySem PySem.Spec L2 PyProof.Rows
mutual
def pyD : D → Option PyData
  | .non => some .none
  | .bl b => some (.bool b)
  | .int i => some (.int i)
  | .str x => some (.str x)
  | .tup xs => (pyDs xs).map .tuple
  | .lst xs => (pyDs xs).map .list
  | _ => none
def pyDs : List D → Option (List PyData)
  | [] => some []
  | d :: ds => match pyD d, pyDs ds with
    | some p, some ps => some (p :: ps)
    | _, _ => none
end
section
variable {G : Gx} {H : Hp}
mutual
theorem pyD_ok : ∀ {d : D} {v : V} {p : PyData}, Den G H d v → pyD d = some p → Dp G.K H v p
  | .non, v, p, h, e => by
    simp only [Den] at h
    simp only [pyD] at e
    cases e
    subst h
    exact .non
  | .bl b, v, p, h, e => by
    simp only [Den] at h
    simp only [pyD] at e
    cases e
    subst h
    exact .bl _
  | .int b, v, p, h, e => by
    simp only [Den] at h
    simp only [pyD] at e
    cases e
    subst h
    exact .int _
  | .str b, v, p, h, e => by
    simp only [Den] at h
    simp only [pyD] at e
    cases e
    subst h
    exact .str _
  | .tup xs, v, p, h, e => by
    obtain ⟨a, us, rfl, s, dd⟩ := den_tup h
    simp only [pyD] at e
    cases w : pyDs xs with
    | none => rw [w] at e; cases e
    | some ps =>
      rw [w] at e
      cases e
      exact .tup s (pyDs_ok dd w)
  | .lst xs, v, p, h, e => by
    obtain ⟨a, us, rfl, s, dd⟩ := den_lst h
    simp only [pyD] at e
    cases w : pyDs xs with
    | none => rw [w] at e; cases e
    | some ps =>
      rw [w] at e
      cases e
      exact .lst (.of s) (pyDs_ok dd w)
  | .dic _ _, v, p, h, e => by simp only [pyD] at e; cases e
  | .ins _ _, v, p, h, e => by simp only [pyD] at e; cases e
  | .clo _ _, v, p, h, e => by simp only [pyD] at e; cases e
  | .hnd, v, p, h, e => by simp only [pyD] at e; cases e
  | .scr _, v, p, h, e => by simp only [pyD] at e; cases e
theorem pyDs_ok : ∀ {ds : List D} {vs : List V} {ps : List PyData}, Dens G H ds vs → pyDs ds = some ps → DpAll G.K H vs ps
  | [], vs, ps, h, e => by
    rw [h.unnil]
    simp only [pyDs] at e
    cases e
    exact .nil
  | d :: ds, vs, ps, h, e => by
    obtain ⟨v, ws, rfl, h1, h2⟩ := h.uncons
    simp only [pyDs] at e
    cases w1 : pyD d with
    | none => rw [w1] at e; cases e
    | some q =>
      cases w2 : pyDs ds with
      | none => rw [w1, w2] at e; cases e
      | some qs =>
        rw [w1, w2] at e
        cases e
        exact .cons (pyD_ok h1 w1) (pyDs_ok h2 w2)
end
end
/-! ### methods -/
structure MtH (P : Program) (w : World) (G : Gx) (mg : Str → Option Value) (base : Heap) (c : Nat) (m : Str) (n k : Nat) (s : List D → W D) : Prop where
  ex : ∃ (f : Addr) (fd : FuncData) (ps : List Str), ps.length = n ∧ PySem.W.findIn G.K (.ref (G.cls c)) m = some (some (.ref f)) ∧ PySem.W.isFn G.K (.ref f) = true ∧ PySem.W.keepIn G.K (.ref f) = true ∧ L2.Binds G.K fd ps [] ∧ FnOk P w G.K mg base (L2.CX P w) k f fd ps (liftSp G n s)
def valD (x y : D) : Option (PyData × PyData) := match pyD x, pyD y with
  | some p, some q => if SeqAt.shaped p = true ∧ SeqAt.shaped q = true then some (p, q) else none
  | _, _ => none
/-- x == y, x != y -/
def eqD (S : Nat → List D → W D) (neg : Bool) : D → D → W D
  | .ins c xs, .ins c' ys => grd (c = c') (bnd (bnd (nox (S c [.ins c xs, .ins c' ys])) asB) fun t => ret (.bl (t != neg)))
  | x, y => optW ((valD x y).map fun pq => D.bl (PyData.eqv pq.1 pq.2 != neg))
section
variable {X : Cx} {B : Bx} {a b : Expr} {wa wb : DL.Env → W D} {pos : Pos}
/-- every class with an own == keeps S -/
def EqsH (P : Program) (w : World) (G : Gx) (mg : Str → Option Value) (base : Heap) (k : Nat) (S : Nat → List D → W D) : Prop := ∀ c Q E x y, S c [x, y] Q E → MtH P w G mg base c "__eq__" 2 k (S c) ∧ ClsI G c
theorem optD_of {neg : Bool} {G : Gx} {H : Hp} {x y : D} {vx vy : V} {QD : D → Prop} {E : DX → Prop} (dx : Den G H x vx) (dy : Den G H y vy) (q : optW ((valD x y).map fun pq => D.bl (PyData.eqv pq.1 pq.2 != neg)) QD E) :
    ∃ p r, Dp G.K H vx p ∧ Dp G.K H vy r ∧ SeqAt.shaped p = true ∧ SeqAt.shaped r = true ∧ QD (.bl (PyData.eqv p r != neg)) := by
  obtain ⟨z, e, q⟩ := optW_of q
  unfold valD at e
  cases w1 : pyD x with
  | none => rw [w1] at e; cases e
  | some p =>
    cases w2 : pyD y with
    | none => rw [w1, w2] at e; cases e
    | some r =>
      rw [w1, w2] at e
      simp only at e
      split at e
      · rename_i h
        cases e
        exact ⟨p, r, pyD_ok dx w1, pyD_ok dy w2, h.1, h.2, q⟩
      · cases e
theorem ins_of {G : Gx} {H : Hp} {c : Nat} {xs : List D} {v : V} (h : Den G H (.ins c xs) v) : ∃ a dx vs, v = .ref a ∧ H a = some (.ins (G.cls c) dx ((G.flds c).zip vs)) ∧ (G.flds c).length = vs.length ∧ Dens G H xs vs := by simpa only [Den] using h
/-- both ways -/
def rEqA (P : Program) (w : World) (G : Gx) (mg : Str → Option Value) (base : Heap) (k : Nat) (S : Nat → List D → W D) (neg : Bool) : R2 := fun x y H Q =>
  (∃ p r, Dp G.K H x p ∧ Dp G.K H y r ∧ SeqAt.shaped p = true ∧ SeqAt.shaped r = true ∧ Q (.bl (PyData.eqv p r != neg)) H) ∨
  ∃ c, MtH P w G mg base c "__eq__" 2 k (S c) ∧ ClsI G c ∧ rOwnEq (G.cls c) neg (liftSp G 2 (S c)) E0 x y H Q
theorem op_eqA {k : Nat} {S : Nat → List D → W D} (hK : X.K = B.G.K) (hr : Room (k + 1) X.A) : OpR X (compareOp .Eq) (rEqA X.prog X.w B.G X.mg X.base k S false) := by
  intro pins s σ H x y v u Q I rx ry h
  rcases h with ⟨p, r, h1, h2, h3, h4, q⟩ | ⟨c, M, ci, h⟩
  · refine op_eqD (by have := hr.un; omega) pins s σ H x y v u Q I rx ry ⟨p, r, by rw [hK]; exact h1, by rw [hK]; exact h2, h3, h4, ?_⟩
    simpa using q
  · obtain ⟨f, fd, ps, m1, m2, m3, m4, m5, m6⟩ := M.ex
    exact op_ownEq (by rw [hK]; exact m6) (by rw [hK]; exact m5) passL hr (by rw [hK]; exact m2) (by rw [hK]; exact m3) pins s σ H x y v u Q I rx ry h
theorem op_neA {k : Nat} {S : Nat → List D → W D} (hK : X.K = B.G.K) (hr : Room (k + 1) X.A) : OpR X (compareOp .NotEq) (rEqA X.prog X.w B.G X.mg X.base k S true) := by
  intro pins s σ H x y v u Q I rx ry h
  rcases h with ⟨p, r, h1, h2, h3, h4, q⟩ | ⟨c, M, ci, h⟩
  · refine op_neD (by have := hr.un; omega) pins s σ H x y v u Q I rx ry ⟨p, r, by rw [hK]; exact h1, by rw [hK]; exact h2, h3, h4, ?_⟩
    have e : (PyData.eqv p r != true) = !PyData.eqv p r := by cases PyData.eqv p r <;> rfl
    rw [← e]
    exact q
  · obtain ⟨f, fd, ps, m1, m2, m3, m4, m5, m6⟩ := M.ex
    exact op_ownNe (by rw [hK]; exact m6) (by rw [hK]; exact m5) passL hr (by rw [hK]; exact m2) (by rw [hK]; exact m3) (by rw [hK]; exact ci.hno) (by rw [hK]; exact ci.hm) pins s σ H x y v u Q I rx ry h
theorem dop_eqA {P : Program} {w : World} {G : Gx} {mg : Str → Option Value} {base : Heap} {k : Nat} {S : Nat → List D → W D} {neg : Bool} (hS : EqsH P w G mg base k S) : DOp2 G (rEqA P w G mg base k S neg) (eqD S neg) := by
  intro H0 H x y vx vy QD ED Q st dx dy q h
  have dat : optW ((valD x y).map fun pq => D.bl (PyData.eqv pq.1 pq.2 != neg)) QD ED → rEqA P w G mg base k S neg vx vy H Q := fun q => by
    obtain ⟨p, r, h1, h2, h3, h4, q⟩ := optD_of (dx.same st.z) (dy.same st.z) q
    exact .inl ⟨p, r, h1, h2, h3, h4, h _ _ H0 H st.refl of_bl q⟩
  by_cases z : ∃ c xs c' ys, x = .ins c xs ∧ y = .ins c' ys
  · obtain ⟨c, xs, c', ys, rfl, rfl⟩ := z
    simp only [eqD] at q
    obtain ⟨e, q⟩ := q
    subst e
    obtain ⟨M, ci⟩ := hS c _ _ _ _ q
    refine .inr ⟨c, M, ci, ?_⟩
    obtain ⟨a, da, va, rfl, ha, _, _⟩ := ins_of (dx.same st.z)
    obtain ⟨b, db, vb, rfl, hb, _, _⟩ := ins_of (dy.same st.z)
    refine ⟨a, da, _, b, db, _, rfl, rfl, ha, hb, H0, [.ins c xs, .ins c ys], _, (fun _ => False), rfl, st, .cons dx (.cons dy .nil), q, fun d v H1 H2 x d2 q2 => ?_, fun _ _ _ _ _ _ _ z => z.elim⟩
    cases d <;> first | exact (show False from q2).elim | skip
    rename_i t
    have ev : v = .bl t := by simpa only [Den] using d2
    exact ⟨t, ev, h _ _ H1 H2 x of_bl q2⟩
  · have e : eqD S neg x y = optW ((valD x y).map fun pq => D.bl (PyData.eqv pq.1 pq.2 != neg)) := by
      cases x <;> first | rfl | skip
      cases y <;> first | rfl | exact (z ⟨_, _, _, _, rfl, rfl⟩).elim
    rw [e] at q
    exact dat q
theorem de_eq {k : Nat} {S : Nat → List D → W D} (hK : X.K = B.G.K) (hr : Room (k + 1) X.A) (hS : EqsH X.prog X.w B.G X.mg X.base k S) (hm : behindInMarks .Eq b = false) (ha : DE X B a wa) (hb : DE X B b wb) :
    DE X B (.Compare a [.Eq] [b] pos) (fun ρ => bnd (wa ρ) fun x => bnd (wb ρ) fun y => eqD S false x y) := de_cmp (op_eqA hK hr) (dop_eqA hS) hm ha hb
theorem de_ne {k : Nat} {S : Nat → List D → W D} (hK : X.K = B.G.K) (hr : Room (k + 1) X.A) (hS : EqsH X.prog X.w B.G X.mg X.base k S) (hm : behindInMarks .NotEq b = false) (ha : DE X B a wa) (hb : DE X B b wb) :
    DE X B (.Compare a [.NotEq] [b] pos) (fun ρ => bnd (wa ρ) fun x => bnd (wb ρ) fun y => eqD S true x y) := de_cmp (op_neA hK hr) (dop_eqA hS) hm ha hb
theorem dt_eq {k : Nat} {S : Nat → List D → W D} (hK : X.K = B.G.K) (hr : Room (k + 1) X.A) (hS : EqsH X.prog X.w B.G X.mg X.base k S) (hm : behindInMarks .Eq b = false) (ha : DE X B a wa) (hb : DE X B b wb) :
    DT X B (.Compare a [.Eq] [b] pos) (fun ρ => bnd (bnd (wa ρ) fun x => bnd (wb ρ) fun y => eqD S false x y) asB) := dt_cmp (op_eqA hK hr) (dop_eqA hS) hm ha hb
theorem dt_ne {k : Nat} {S : Nat → List D → W D} (hK : X.K = B.G.K) (hr : Room (k + 1) X.A) (hS : EqsH X.prog X.w B.G X.mg X.base k S) (hm : behindInMarks .NotEq b = false) (ha : DE X B a wa) (hb : DE X B b wb) :
    DT X B (.Compare a [.NotEq] [b] pos) (fun ρ => bnd (bnd (wa ρ) fun x => bnd (wb ρ) fun y => eqD S true x y) asB) := dt_cmp (op_neA hK hr) (dop_eqA hS) hm ha hb
/-- x in xs, x not in xs: a list or tuple of data -/
def inItems : D → Option (List D)
  | .lst ys => some ys
  | .tup ys => some ys
  | _ => none
def inV (x y : D) : Option Bool := (inItems y).bind fun ys => match pyD x, pyDs ys with
  | some p, some ps => if SeqAt.shaped p = true ∧ SeqAt.shaped (.list ps) = true then some (ps.any fun z => PyData.eqv z p) else none
  | _, _ => none
def inD (neg : Bool) (x y : D) : W D := optW ((inV x y).map fun b => D.bl (b != neg))
def rInA (K : PySem.W.Frag) (neg : Bool) : R2 := fun x y H Q => ∃ d ds, Dp K H x d ∧ (Dp K H y (.list ds) ∨ Dp K H y (.tuple ds)) ∧ SeqAt.shaped d = true ∧ SeqAt.shaped (.list ds) = true ∧ Q (.bl ((ds.any fun z => PyData.eqv z d) != neg)) H
theorem op_inA (hu : X.A.units + 65 < cLine) : OpR X (compareOp .In) (rInA X.K false) := by
  intro pins s σ H x y v u Q I rx ry h
  obtain ⟨d, ds, hd, he, sd, se, q⟩ := h
  have q' : Q (.bl (ds.any fun z => PyData.eqv z d)) H := by simpa using q
  obtain ⟨as, r1⟩ := Dp.reads I d x v hd rx
  rcases he with he | he
  · obtain ⟨bs, r2⟩ := Dp.reads I (.list ds) y u he ry
    exact SeqAt.in_list_reads r2 r1 (SeqAt.canLay_of_shaped se) (SeqAt.canLay_of_shaped sd) (room_in_shaped sd hu) ⟨.bl _, H, I, rfl, q'⟩
  · obtain ⟨bs, r2⟩ := Dp.reads I (.tuple ds) y u he ry
    exact SeqAt.in_tuple_reads r2 r1 (SeqAt.canLay_of_shaped se) (SeqAt.canLay_of_shaped sd) (room_in_shaped sd hu) ⟨.bl _, H, I, rfl, q'⟩
theorem op_notInA (hu : X.A.units + 65 < cLine) : OpR X (compareOp .NotIn) (rInA X.K true) := by
  intro pins s σ H x y v u Q I rx ry h
  obtain ⟨d, ds, hd, he, sd, se, q⟩ := h
  have q' : Q (.bl (!ds.any fun z => PyData.eqv z d)) H := by
    have e : ((ds.any fun z => PyData.eqv z d) != true) = !(ds.any fun z => PyData.eqv z d) := by cases (ds.any fun z => PyData.eqv z d) <;> rfl
    rw [← e]
    exact q
  obtain ⟨as, r1⟩ := Dp.reads I d x v hd rx
  rcases he with he | he
  · obtain ⟨bs, r2⟩ := Dp.reads I (.list ds) y u he ry
    exact SeqAt.notIn_list_reads r2 r1 (SeqAt.canLay_of_shaped se) (SeqAt.canLay_of_shaped sd) (room_in_shaped sd hu) ⟨.bl _, H, I, rfl, q'⟩
  · obtain ⟨bs, r2⟩ := Dp.reads I (.tuple ds) y u he ry
    exact SeqAt.notIn_tuple_reads r2 r1 (SeqAt.canLay_of_shaped se) (SeqAt.canLay_of_shaped sd) (room_in_shaped sd hu) ⟨.bl _, H, I, rfl, q'⟩
theorem dop_inA {G : Gx} {neg : Bool} (hK : X.K = G.K) : DOp2 G (rInA X.K neg) (inD neg) := by
  intro H0 H x y vx vy QD ED Q st dx dy q h
  obtain ⟨z, e, q⟩ := optW_of q
  unfold inV at e
  have fin : ∀ ys, inItems y = some ys → (∀ ps, pyDs ys = some ps → Dp X.K H vy (.list ps) ∨ Dp X.K H vy (.tuple ps)) → rInA X.K neg vx vy H Q := fun ys w hy => by
    rw [w] at e
    simp only [Option.bind] at e
    cases w1 : pyD x with
    | none => rw [w1] at e; cases e
    | some p =>
      cases w2 : pyDs ys with
      | none => rw [w1, w2] at e; cases e
      | some ps =>
        rw [w1, w2] at e
        simp only at e
        split at e
        · rename_i hh
          cases e
          exact ⟨p, ps, by rw [hK]; exact pyD_ok (dx.same st.z) w1, hy ps w2, hh.1, hh.2, h _ _ H0 H st.refl of_bl q⟩
        · cases e
  cases y <;> first | (cases e) | skip
  · rename_i ys
    obtain ⟨a, us, rfl, s, dd⟩ := den_tup (dy.same st.z)
    exact fin ys rfl fun ps w => .inr (by rw [hK]; exact .tup s (pyDs_ok dd w))
  · rename_i ys
    obtain ⟨a, us, rfl, s, dd⟩ := den_lst (dy.same st.z)
    exact fin ys rfl fun ps w => .inl (by rw [hK]; exact .lst (.of s) (pyDs_ok dd w))
theorem de_in {k : Nat} (hK : X.K = B.G.K) (hr : Room k X.A) (hm : behindInMarks .In b = false) (ha : DE X B a wa) (hb : DE X B b wb) :
    DE X B (.Compare a [.In] [b] pos) (fun ρ => bnd (wa ρ) fun x => bnd (wb ρ) fun y => inD false x y) := de_cmp (op_inA (by have := hr.un; omega)) (dop_inA hK) hm ha hb
theorem de_notIn {k : Nat} (hK : X.K = B.G.K) (hr : Room k X.A) (hm : behindInMarks .NotIn b = false) (ha : DE X B a wa) (hb : DE X B b wb) :
    DE X B (.Compare a [.NotIn] [b] pos) (fun ρ => bnd (wa ρ) fun x => bnd (wb ρ) fun y => inD true x y) := de_cmp (op_notInA (by have := hr.un; omega)) (dop_inA hK) hm ha hb
theorem dt_in {k : Nat} (hK : X.K = B.G.K) (hr : Room k X.A) (hm : behindInMarks .In b = false) (ha : DE X B a wa) (hb : DE X B b wb) :
    DT X B (.Compare a [.In] [b] pos) (fun ρ => bnd (bnd (wa ρ) fun x => bnd (wb ρ) fun y => inD false x y) asB) := dt_cmp (op_inA (by have := hr.un; omega)) (dop_inA hK) hm ha hb
theorem dt_notIn {k : Nat} (hK : X.K = B.G.K) (hr : Room k X.A) (hm : behindInMarks .NotIn b = false) (ha : DE X B a wa) (hb : DE X B b wb) :
    DT X B (.Compare a [.NotIn] [b] pos) (fun ρ => bnd (bnd (wa ρ) fun x => bnd (wb ρ) fun y => inD true x y) asB) := dt_cmp (op_notInA (by have := hr.un; omega)) (dop_inA hK) hm ha hb
/-! ### what is never reached -/
theorem de_stuck {e : Expr} : DE X B e (fun _ => stk) := ⟨fun _ _ _ _ _ _ ⟨_, _, _, _, q, _⟩ => (show False from q).elim⟩
theorem dt_stuck {e : Expr} : DT X B e (fun _ => stk) := ⟨fun _ _ _ _ _ _ ⟨_, _, _, _, q, _⟩ => (show False from q).elim⟩
theorem ds_stuck {st : Stmt} : DS X B st (fun _ => stk) := ⟨fun _ _ _ _ _ _ ⟨_, _, _, _, q, _⟩ => (show False from q).elim⟩
end
end DL
end
section
set_option Elab.async false
set_option linter.all false
set_option maxRecDepth 100000
set_option maxHeartbeats 1000000
set_option autoImplicit false
/-! DM: what a name owns changes: append, pop, item, field; freezing, peeking. -/
namespace DL
open PySem PySem.Spec L2 PyProof.Rows
section
variable {B : Bx} {ρ : DL.Env} {σ : L2.St} {H0 H Z He : Hp} {T : List NdefX.NTab}
theorem Ext.own (x : Ext T Z He H0 H) {a : Addr} {u o : HO} (h1 : He a = none) (h2 : H0 a = none) (h3 : H a = some u) (n1 : ∀ ps, u ≠ .tbl ps) (n2 : ∀ φ, u ≠ .ext φ) : Ext T Z He H0 (upd H a o) := by
  refine ⟨fun b v e n => ?_, fun b e => ?_, x.z, fun b v e => ?_, x.fr, fun p hp => ?_, x.nt⟩
  · rw [upd_ne (ne_of_none e h1)]; exact x.n b v e n
  · exact x.nn b (NdefX.upd_none e)
  · rw [upd_ne (ne_of_none e h2)]; exact x.zz b v e
  · obtain ⟨ps, t1, t2, t3⟩ := x.tabs p hp
    refine ⟨ps, ?_, t2, fun pos cv hc => ?_⟩
    · rw [upd_ne (fun z => by rw [z, h3] at t1; cases t1; exact n1 _ rfl)]; exact t1
    · obtain ⟨c, e1, e2⟩ := t3 pos cv hc
      exact ⟨c, e1, by rw [upd_ne (fun z => by rw [z, h3] at e2; cases e2; exact n2 _ rfl)]; exact e2⟩
theorem OwnAt.kind {G : Gx} {a : Addr} : ∀ {o : OD}, OwnAt G H0 H a o → ∃ u, H a = some u ∧ (∀ ps, u ≠ .tbl ps) ∧ ∀ φ, u ≠ .ext φ
  | .lst oa ds, ⟨h0, vs, h1, h2⟩ => ⟨_, h1, (by intro _ z; cases z), (by intro _ z; cases z)⟩
  | .dic ks us, ⟨vs, h1, h2⟩ => h2.elim (fun ⟨kk, k1, k2, k3⟩ => ⟨_, k2, (by intro _ z; cases z), (by intro _ z; cases z)⟩) fun ⟨kk, k1, k2, k3⟩ => ⟨_, k2, (by intro _ z; cases z), (by intro _ z; cases z)⟩
  | .ins a' c fs, ⟨h0, dx, vs, h1, h2⟩ => ⟨_, h1, (by intro _ z; cases z), (by intro _ z; cases z)⟩
  | .hnd a' c ns xs, ⟨h0, h1, h2⟩ => ⟨_, h1, (by intro _ z; cases z), (by intro _ z; cases z)⟩
theorem OwnAt.far {G : Gx} {a b : Addr} {u : HO} (n : b ≠ a) : ∀ {o : OD}, OwnAt G H0 H b o → OwnAt G H0 (upd H a u) b o
  | .lst oa ds, ⟨h0, vs, h1, h2⟩ => ⟨h0, vs, by rw [upd_ne n]; exact h1, h2⟩
  | .dic ks us, ⟨vs, h1, h2⟩ => ⟨vs, h1, h2.elim (fun ⟨kk, k1, k2, k3⟩ => .inl ⟨kk, k1, by rw [upd_ne n]; exact k2, k3⟩) fun ⟨kk, k1, k2, k3⟩ => .inr ⟨kk, k1, by rw [upd_ne n]; exact k2, k3⟩⟩
  | .ins a' c fs, ⟨h0, dx, vs, h1, h2⟩ => ⟨h0, dx, vs, by rw [upd_ne n]; exact h1, h2⟩
  | .hnd a' c ns xs, ⟨h0, h1, h2⟩ => ⟨h0, by rw [upd_ne n]; exact h1, h2⟩
theorem Ok.own_at (k : Ok B ρ σ H0 H) {i : Nat} {o : OD} (e : ρ[i]? = some (.own o)) : ∃ a, σ[i]? = some (some (.ref a)) ∧ B.He a = none ∧ H0 a = none ∧ OwnAt B.G H0 H a o := by
  obtain ⟨v, h1, a, h2, h3, h4, h5⟩ := k.env i _ e
  exact ⟨a, by rw [h1, h2], h3, h4, h5⟩
theorem Ok.own (k : Ok B ρ σ H0 H) {i : Nat} {o o' : OD} {a : Addr} {u : HO} (e : ρ[i]? = some (.own o)) (ea : σ[i]? = some (some (.ref a))) (h : OwnAt B.G H0 (upd H a u) a o') : Ok B (ρ.set i (.own o')) σ H0 (upd H a u) := by
  obtain ⟨a', e1, h1, h2, h3⟩ := k.own_at e
  rw [ea] at e1
  cases e1
  obtain ⟨w, k1, k2, k3⟩ := h3.kind
  refine ⟨k.ext.own h1 h2 k1 k2 k3, by rw [List.length_set]; exact k.len, fun j s es => ?_, fun j l p q b e1 e2 e3 e4 => ?_⟩
  · by_cases hj : i = j
    · subst hj
      have hl : i < ρ.length := (List.getElem?_eq_some_iff.mp e).1
      rw [List.getElem?_set_self hl] at es
      cases es
      exact ⟨_, ea, a, rfl, h1, h2, h⟩
    · rw [List.getElem?_set_ne hj] at es
      obtain ⟨v, q1, q2⟩ := k.env j s es
      refine ⟨v, q1, ?_⟩
      cases s with
      | un => trivial
      | exc x => trivial
      | d x => exact q2
      | own p =>
        obtain ⟨b, r1, r2, r3, r4⟩ := q2
        refine ⟨b, r1, r2, r3, r4.far fun z => ?_⟩
        subst z
        exact hj (k.apart i j o p b e es ea (by rw [q1, r1]))
  · have f : ∀ (j : Nat) (p : OD), (ρ.set i (Sl.own o'))[j]? = some (Sl.own p) → ∃ p', ρ[j]? = some (Sl.own p') := fun j p ej => by
      by_cases hj : i = j
      · subst hj; exact ⟨o, e⟩
      · rw [List.getElem?_set_ne hj] at ej; exact ⟨p, ej⟩
    obtain ⟨p', f1⟩ := f j p e1
    obtain ⟨q', f2⟩ := f l q e2
    exact k.apart j l p' q' b f1 f2 e3 e4
/-! ### freezing -/
def frzD : OD → Option D
  | .lst _ ds => some (.lst ds)
  | .dic ks vs => some (.dic ks vs)
  | .ins _ _ _ => none
  | .hnd _ _ _ _ => none
def frzW (i : Nat) (ρ : DL.Env) : W DL.Env := match ρ[i]? with
  | some (.own o) => optW ((frzD o).map fun d => ρ.set i (.d d))
  | some (.d _) => ret ρ
  | _ => stk
theorem OwnAt.frz {G : Gx} {a : Addr} {u : HO} (hu : H a = some u) (h0 : H0 a = none) : ∀ {o : OD} {d : D}, OwnAt G H0 H a o → frzD o = some d → Den G (upd H0 a u) d (.ref a)
  | .lst oa ds, d, ⟨_, vs, h1, h2⟩, e => by
    cases e
    rw [h1] at hu
    cases hu
    exact of_lst upd_same (h2.same fun b v e => by rw [upd_ne (ne_of_none e h0)]; exact e)
  | .dic ks us, d, ⟨vs, h1, h2⟩, e => by
    cases e
    have sm : Same H0 (upd H0 a u) := fun b v e => by rw [upd_ne (ne_of_none e h0)]; exact e
    simp only [Den]
    refine ⟨a, vs, rfl, h1.same sm, ?_⟩
    rcases h2 with ⟨kk, k1, k2, k3⟩ | ⟨kk, k1, k2, k3⟩
    · rw [k2] at hu
      cases hu
      exact .inl ⟨kk, k1, upd_same, k3⟩
    · rw [k2] at hu
      cases hu
      exact .inr ⟨kk, k1, upd_same, k3⟩
  | .ins _ _ _, d, _, e => by cases e
  | .hnd _ _ _ _, d, _, e => by cases e
theorem Ok.frz (k : Ok B ρ σ H0 H) {i : Nat} {o : OD} {d : D} {a : Addr} {u : HO} (e : ρ[i]? = some (.own o)) (ea : σ[i]? = some (some (.ref a))) (hu : H a = some u) (ed : Den B.G (upd H0 a u) d (.ref a)) (nu : ∀ ps, u ≠ .tbl ps) : Ok B (ρ.set i (.d d)) σ (upd H0 a u) H := by
  obtain ⟨a', e1, h1, h2, h3⟩ := k.own_at e
  rw [ea] at e1
  cases e1
  have sm : Same H0 (upd H0 a u) := fun b v e => by rw [upd_ne (ne_of_none e h2)]; exact e
  refine ⟨⟨k.ext.n, k.ext.nn, k.ext.z.trans sm, fun b v e => ?_, fun b v e => ?_, k.ext.tabs, k.ext.nt.upd nu⟩, by rw [List.length_set]; exact k.len, fun j s es => ?_, fun j l p q b e1 e2 e3 e4 => ?_⟩
  · by_cases z : b = a
    · subst z; rw [upd_same] at e; cases e; exact hu
    · rw [upd_ne z] at e; exact k.ext.zz b v e
  · by_cases z : b = a
    · subst z; exact .inr h1
    · rw [upd_ne z] at e; exact k.ext.fr b v e
  · by_cases hj : i = j
    · subst hj
      have hl : i < ρ.length := (List.getElem?_eq_some_iff.mp e).1
      rw [List.getElem?_set_self hl] at es
      cases es
      exact ⟨_, ea, _, rfl, ed⟩
    · rw [List.getElem?_set_ne hj] at es
      obtain ⟨v, q1, q2⟩ := k.env j s es
      refine ⟨v, q1, ?_⟩
      cases s with
      | un => trivial
      | exc x => trivial
      | d x => obtain ⟨y, r1, r2⟩ := q2; exact ⟨y, r1, r2.same sm⟩
      | own p =>
        obtain ⟨b, r1, r2, r3, r4⟩ := q2
        have nb : b ≠ a := fun z => by
          subst z
          exact hj (k.apart i j o p b e es ea (by rw [q1, r1]))
        refine ⟨b, r1, r2, by rw [upd_ne nb]; exact r3, ?_⟩
        cases p with
        | lst oa ds => obtain ⟨t0, vs, t1, t2⟩ := r4; exact ⟨t0, vs, t1, t2.same sm⟩
        | dic ks us => obtain ⟨vs, t1, t2⟩ := r4; exact ⟨vs, t1.same sm, t2⟩
        | ins a' c fs => obtain ⟨t0, dx, vs, t1, t2, t3⟩ := r4; exact ⟨t0, dx, vs, t1, t2, t3.same sm⟩
        | hnd a' c ns xs => obtain ⟨t0, t1, t2⟩ := r4; exact ⟨t0, t1, sm _ _ t2⟩
  · have f : ∀ (j : Nat) (p : OD), (ρ.set i (Sl.d d))[j]? = some (Sl.own p) → ρ[j]? = some (Sl.own p) := fun j p ej => by
      by_cases hj : i = j
      · subst hj
        have hl : i < ρ.length := (List.getElem?_eq_some_iff.mp e).1
        rw [List.getElem?_set_self hl] at ej
        cases ej
      · rw [List.getElem?_set_ne hj] at ej; exact ej
    exact k.apart j l p q b (f j p e1) (f l q e2) e3 e4
theorem frz_of {i : Nat} {Q : DL.Env → Prop} {E : DX → Prop} (h : frzW i ρ Q E) : (∃ o d, ρ[i]? = some (.own o) ∧ frzD o = some d ∧ Q (ρ.set i (.d d))) ∨ Q ρ := by
  unfold frzW at h
  cases e : ρ[i]? with
  | none => rw [e] at h; exact (show False from h).elim
  | some s =>
    rw [e] at h
    cases s with
    | own o =>
      obtain ⟨y, e2, q⟩ := optW_of h
      cases w : frzD o with
      | none => rw [w] at e2; cases e2
      | some d => rw [w] at e2; cases e2; exact .inl ⟨o, d, rfl, w, q⟩
    | d x => exact .inr h
    | un => exact (show False from h).elim
    | exc x => exact (show False from h).elim
end
section
variable {X : Cx} {B : Bx} {st : Stmt} {sts : List Stmt} {e : Expr} {we : DL.Env → W D} {w : DL.Env → W Out} {pos : Pos}
theorem lift_frz (i : Nat) {D : Ends} {σ : L2.St} {H : Hp} (h : liftS B (fun ρ => bnd (frzW i ρ) w) D σ H) : liftS B w D σ H := by
  obtain ⟨ρ, H0, QO, k, q, h, hr, hb, hc⟩ := h
  rcases frz_of q with ⟨o, d, e, ed, q⟩ | q
  · obtain ⟨a, e1, h1, h2, h3⟩ := k.own_at e
    obtain ⟨u, hu, nu, _⟩ := h3.kind
    have sm : Same H0 (upd H0 a u) := fun b v e => by rw [upd_ne (ne_of_none e h2)]; exact e
    exact ⟨_, _, QO, k.frz e e1 hu (h3.frz hu h2 ed) nu, q, fun ρ' σ' H1 H2 k1 s1 q1 => h ρ' σ' H1 H2 k1 (sm.trans s1) q1, hr, fun ρ' σ' H1 H2 k1 s1 q1 => hb ρ' σ' H1 H2 k1 (sm.trans s1) q1, fun ρ' σ' H1 H2 k1 s1 q1 => hc ρ' σ' H1 H2 k1 (sm.trans s1) q1⟩
  · exact ⟨ρ, H0, QO, k, q, h, hr, hb, hc⟩
theorem ds_frz (i : Nat) (h : DS X B st w) : DS X B st (fun ρ => bnd (frzW i ρ) w) := PS.imp h fun _ _ _ h => lift_frz i h
theorem dss_frz (i : Nat) (h : DSs X B sts w) : DSs X B sts (fun ρ => bnd (frzW i ρ) w) := PSs.imp h fun _ _ _ h => lift_frz i h
/-! ### peeking: an own list read in passing, the answer is no object -/
def atomD : D → Bool
  | .non => true
  | .bl _ => true
  | .int _ => true
  | .str _ => true
  | _ => false
def atomW (d : D) : W D := grd (atomD d = true) (ret d)
theorem Ext.back {T : List NdefX.NTab} {H0 H H1 H2 : Hp} {a : Addr} {u : HO} (h0 : H0 a = none) (zz : Same H0 H) (x : Ext T (upd H0 a u) H H1 H2) : Ext T H0 H (fun b => if b = a then none else H1 b) H2 := by
  refine ⟨x.n, x.nn, fun b v e => ?_, fun b v e => ?_, fun b v e => ?_, x.tabs, fun b ps e => ?_⟩
  · rw [if_neg (ne_of_none e h0)]
    exact x.z b v (by rw [upd_ne (ne_of_none e h0)]; exact e)
  · by_cases z : b = a
    · rw [if_pos z] at e; cases e
    · rw [if_neg z] at e; exact x.zz b v e
  · by_cases z : b = a
    · rw [if_pos z] at e; cases e
    · rw [if_neg z] at e
      rcases x.fr b v e with r | r
      · rw [upd_ne z] at r; exact .inl r
      · exact .inr r
  · by_cases z : b = a
    · rw [if_pos z] at e; cases e
    · rw [if_neg z] at e; exact x.nt b ps e
theorem atom_den {G : Gx} {H H' : Hp} {d : D} {v : V} (h : atomD d = true) (dd : Den G H d v) : Den G H' d v := by
  cases d <;> first | (simp only [Den] at dd ⊢; exact dd) | (exact absurd h (by decide)) | cases h
theorem de_peek (i : Nat) (h : DE X B e we) : DE X B e (fun ρ => bnd (frzW i ρ) fun ρ' => bnd (we ρ') atomW) := by
  refine PE.imp h fun σ H Q ⟨ρ, H0, QD, k, q, h⟩ => ?_
  rcases frz_of q with ⟨o, d, e, ed, q⟩ | q
  · obtain ⟨a, e1, h1, h2, h3⟩ := k.own_at e
    obtain ⟨u, hu, nu, _⟩ := h3.kind
    refine ⟨_, _, _, k.frz e e1 hu (h3.frz hu h2 ed) nu, q, fun d' v H1 H2 x dd q1 => ?_⟩
    exact h d' v _ H2 (x.back h2 k.ext.zz) (atom_den q1.1 dd) q1.2
  · exact ⟨ρ, H0, _, k, q, fun d' v H1 H2 x dd q1 => h d' v H1 H2 x dd q1.2⟩
theorem dt_peek {wt : DL.Env → W Bool} (i : Nat) (h : DT X B e wt) : DT X B e (fun ρ => bnd (frzW i ρ) wt) := by
  refine PT.imp h fun σ H Q ⟨ρ, H0, QD, k, q, h⟩ => ?_
  rcases frz_of q with ⟨o, d, e, ed, q⟩ | q
  · obtain ⟨a, e1, h1, h2, h3⟩ := k.own_at e
    obtain ⟨u, hu, nu, _⟩ := h3.kind
    refine ⟨_, _, _, k.frz e e1 hu (h3.frz hu h2 ed) nu, q, fun d' H1 H2 x q1 => ?_⟩
    exact h d' _ H2 (x.back h2 k.ext.zz) q1
  · exact ⟨ρ, H0, _, k, q, h⟩
/-! ### an own list changed -/
def ownL (i : Nat) (ρ : DL.Env) : W (Option Addr × List D) := match ρ[i]? with
  | some (.own (.lst oa ds)) => ret (oa, ds)
  | _ => stk
theorem ownL_of {i : Nat} {ρ : DL.Env} {Q : Option Addr × List D → Prop} {E : DX → Prop} (h : ownL i ρ Q E) : ∃ oa ds, ρ[i]? = some (.own (.lst oa ds)) ∧ Q (oa, ds) := by
  unfold ownL at h
  cases e : ρ[i]? with
  | none => rw [e] at h; exact (show False from h).elim
  | some s =>
    rw [e] at h
    cases s with
    | own o =>
      cases o with
      | lst oa ds => exact ⟨_, _, rfl, h⟩
      | dic _ _ => exact (show False from h).elim
      | ins _ _ _ => exact (show False from h).elim
      | hnd _ _ _ _ => exact (show False from h).elim
    | d x => exact (show False from h).elim
    | un => exact (show False from h).elim
    | exc x => exact (show False from h).elim
section
variable {x : Str} {apos cpos p1 : Pos}
/-- x.append(e) -/
theorem ds_append (i : Nat) (he : DE X B e we) (hN : X.N[i]? = some x := by rfl) (hv : Vis X.env.scope x := by first | exact Or.inl rfl | exact Or.inr (Or.inl rfl) | exact Or.inr (Or.inr rfl)) (hd : (x == ("__debug__" : Str)) = false := by decide)
    (hcd : (x == ("__classdict__" : Str)) = false := by decide)
    (hbase : attributeBase (.Name x p1) "append" X.env (eval (.Name x p1) X.env) = eval (.Name x p1) X.env := by rfl)
    (hfew : ((backTo cpos (starEach [e] X.env)).all (fun x => !x.1) && (backToKw cpos (keywordEach [] X.env)).all (fun x => x.1.isSome)
      && decide (([e] : List Expr).length + ([] : List Keyword).length + (if ([] : List Keyword).isEmpty then 0 else 1) < 30)) = true := by rfl)
    (hline : (apos.endLine == cpos.line) = true := by rfl) (hs : starEach [e] X.env = (false, eval e X.env) :: starEach [] X.env := by rfl) (hplain : (backTo cpos (starEach [] X.env)).any (·.1) = false := by rfl)
    (hsw : swapsWith (.Call (.Attribute (.Name x p1) "append" apos) [e] [] cpos) none pos.line X.env = pure false := by rfl) :
    DS X B (.Expr (.Call (.Attribute (.Name x p1) "append" apos) [e] [] cpos) pos) (fun ρ => bnd (ownL i ρ) fun z => bnd (we ρ) fun d => grd (z.2.length < sizeLine) (ret (.nx (ρ.set i (.own (.lst z.1 (z.2 ++ [d]))))))) := by
  refine PS.imp (ps_expr (pe_bm PySem.F.plainAttrs_list PySem.F.slot_list_append PySem.F.type_list_append mt_append (pe_var hN hv hd hcd) (pa_cons he pa_nil hs) hbase hfew hline hs hplain) hsw) fun D σ H ⟨ρ, H0, QO, k, q, h, _⟩ => ?_
  obtain ⟨oa, ds, z, q⟩ := ownL_of q
  obtain ⟨a, e1, h1, h2, ha, vs, h3, h4⟩ := k.own_at z
  refine ⟨.ref a, e1, .inl ⟨rfl, _, .of h3⟩, ρ, H0, _, k, q, fun d v H1 H2 x dd q1 => ?_⟩
  have k2 := k.later x
  have h3' : H2 a = some (.lst vs) := x.n _ _ h3 fun _ z => by cases z
  have d4 := h4.same x.z
  refine ⟨a, vs, v, rfl, rfl, h3', by rw [← h4.length]; exact q1.1, ?_⟩
  exact h _ σ H1 _ (k2.own (o' := .lst oa (ds ++ [d])) z e1 ⟨ha, _, upd_same, d4.append (.cons dd .nil)⟩) x.z q1.2
end
end
end DL
end
section
set_option Elab.async false
set_option linter.all false
set_option maxRecDepth 100000
set_option maxHeartbeats 1000000
set_option autoImplicit false
/-! DO: instances: fields, making, methods. -/
namespace DL
open PySem PySem.Spec L2 PyProof.Rows
section
variable {X : Cx} {B : Bx} {e : Expr} {es : List Expr} {we : DL.Env → W D} {pos : Pos}
def ownI (i : Nat) (ρ : DL.Env) : W (Addr × Nat × List D) := match ρ[i]? with
  | some (.own (.ins a c fs)) => ret (a, c, fs)
  | _ => stk
theorem ownI_of {i : Nat} {ρ : DL.Env} {Q : Addr × Nat × List D → Prop} {E : DX → Prop} (h : ownI i ρ Q E) : ∃ a c fs, ρ[i]? = some (.own (.ins a c fs)) ∧ Q (a, c, fs) := by
  unfold ownI at h
  cases e : ρ[i]? with
  | none => rw [e] at h; exact (show False from h).elim
  | some s =>
    rw [e] at h
    cases s with
    | own o =>
      cases o with
      | ins a c fs => exact ⟨a, c, fs, rfl, h⟩
      | dic _ _ => exact (show False from h).elim
      | lst _ _ => exact (show False from h).elim
      | hnd _ _ _ _ => exact (show False from h).elim
    | d x => exact (show False from h).elim
    | un => exact (show False from h).elim
    | exc x => exact (show False from h).elim
theorem putF_new {f : Str} {v : V} : ∀ {fs : List (Str × V)}, f ∉ fs.map (·.1) → putF f v fs = fs ++ [(f, v)]
  | [], _ => rfl
  | (g, x) :: r, h => by
    have h1 : g ≠ f := fun z => h (by rw [z]; exact List.mem_cons_self)
    have h2 : f ∉ r.map (·.1) := fun z => h (List.mem_cons_of_mem _ z)
    show (if g = f then (g, v) :: r else (g, x) :: putF f v r) = _
    rw [if_neg h1, putF_new h2]
    rfl
theorem put_next {f : Str} {y : V} {ns : List Str} {vs : List V} (nd : ns.Nodup) (h : ns[vs.length]? = some f) : putF f y ((ns.take vs.length).zip vs) = (ns.take (vs ++ [y]).length).zip (vs ++ [y]) := by
  have hl : vs.length < ns.length := (List.getElem?_eq_some_iff.mp h).1
  have hf : ns[vs.length] = f := (List.getElem?_eq_some_iff.mp h).2
  have hmap : ((ns.take vs.length).zip vs).map (·.1) = ns.take vs.length := by
    rw [List.map_fst_zip]
    rw [List.length_take]
    omega
  rw [putF_new]
  · rw [List.length_append, List.length_singleton, List.take_succ, h, List.zip_append (by rw [List.length_take]; omega)]
    rfl
  · rw [hmap]
    intro m
    have e : ns = ns.take vs.length ++ ns.drop vs.length := (List.take_append_drop _ _).symm
    rw [e] at nd
    have hd : f ∈ ns.drop vs.length := by
      rw [List.drop_eq_getElem_cons hl, hf]
      exact List.mem_cons_self
    exact (List.nodup_append.mp nd).2.2 f m f hd rfl
/-- self.f = e -/
theorem ds_fld {f x : Str} {p1 p2 : Pos} (i : Nat) (hK : X.K = B.G.K) (g : GOk B.G) (he : DE X B e we) (hN : X.N[i]? = some x := by rfl) (hv : Vis X.env.scope x := by first | exact Or.inl rfl | exact Or.inr (Or.inl rfl) | exact Or.inr (Or.inr rfl)) (hd : (x == ("__debug__" : Str)) = false := by decide)
    (hcd : (x == ("__classdict__" : Str)) = false := by decide) (hs : swapsWith e (some (.Attribute (.Name x p1) f p2)) pos.line X.env = pure false := by rfl) :
    DS X B (.Assign [.Attribute (.Name x p1) f p2] e pos) (fun ρ => bnd (we ρ) fun d => bnd (ownI i ρ) fun z => grd ((B.G.flds z.2.1)[z.2.2.length]? = some f) (ret (.nx (ρ.set i (.own (.ins z.1 z.2.1 (z.2.2 ++ [d]))))))) := by
  refine PS.imp (ps_fld (pe_var hN hv hd hcd) he hs) fun D σ H ⟨ρ, H0, QO, k, q, h, _⟩ => ⟨ρ, H0, _, k, q, fun d v H1 H2 x dd q1 => ?_⟩
  obtain ⟨a, c, fs, z, q2, q3⟩ := ownI_of q1
  have k2 := k.later x
  obtain ⟨a', e1, h1, h2, h0, dx, vs, h3, h4, h5⟩ := k2.own_at z
  subst h0
  have hm : f ∈ B.G.flds c := List.mem_of_getElem? q2
  have hz : vs.length < (B.G.flds c).length := by rw [← h5.length]; exact (List.getElem?_eq_some_iff.mp q2).1
  refine ⟨.ref a, e1, a, _, dx, _, rfl, h3, by rw [hK]; exact g.cls c (List.ne_nil_of_mem hm), by rw [hK]; exact g.noat c f hm, ?_, ?_⟩
  · rw [List.length_zip, List.length_take]
    have := g.small c
    omega
  · rw [put_next (g.nd c) (by rw [← h5.length]; exact q2)]
    exact h _ σ H1 _ (k2.own (o' := .ins a c (fs ++ [d])) z e1 ⟨rfl, dx, vs ++ [v], upd_same, by rw [List.length_append, List.length_singleton]; omega, h5.append (.cons dd .nil)⟩) x.z q3
end
/-! ### making -/
def initSp (G : Gx) (n c : Nat) (s : List D → W D) : Sp := fun vs H Q E => ∃ (a dx : Addr) (us : List V) (Hm H0 : Hp) (ds : List D) (QD : D → Prop) (ED : DX → Prop), vs = .ref a :: us ∧ us.length = n ∧ H = upd Hm a (.ins (G.cls c) dx []) ∧ Hm a = none ∧ St0 G H0 Hm ∧ Dens G H0 ds us ∧ s ds QD ED ∧
  (∀ fs H0' H', Ext G.T H0 Hm H0' H' → Den G H0' (.ins c fs) (.ref a) → QD (.ins c fs) → Q .non H') ∧ EndX G H0 Hm ED E
/-- the module's name x is the class c, its __init__ has n parameters but self; C(..) does s -/
structure MkH (P : Program) (w : World) (G : Gx) (mg : Str → Option Value) (base : Heap) (x : Str) (c n k : Nat) (s : List D → W D) : Prop where
  ex : ∃ (f : Addr) (fd : FuncData) (ps : List Str), ps.length = n + 1 ∧ mg x = some (.ref (G.cls c)) ∧ Mk G.K (G.cls c) f ∧ L2.Binds G.K fd ps [] ∧ FnOk P w G.K mg base (L2.CX P w) k f fd ps (initSp G n c s)
theorem MkH.imp {P : Program} {w : World} {G : Gx} {mg : Str → Option Value} {base : Heap} {x : Str} {c n k : Nat} {s s' : List D → W D} (F : MkH P w G mg base x c n k s) (h : ∀ ds Q E, s' ds Q E → s ds Q E) : MkH P w G mg base x c n k s' :=
  let ⟨f, fd, ps, h1, h2, h3, h4, h5⟩ := F.ex
  ⟨f, fd, ps, h1, h2, h3, h4, h5.imp fun vs H Q E ⟨a, dx, us, Hm, H0, ds, QD, ED, e1, e2, e3, e4, e5, e6, q, r⟩ => ⟨a, dx, us, Hm, H0, ds, QD, ED, e1, e2, e3, e4, e5, e6, h _ _ _ q, r⟩⟩
theorem MkH.mono {P : Program} {w : World} {G : Gx} {mg : Str → Option Value} {base : Heap} {x : Str} {c n k j : Nat} {s : List D → W D} (F : MkH P w G mg base x c n j s) (h : j ≤ k) : MkH P w G mg base x c n k s :=
  let ⟨f, fd, ps, h1, h2, h3, h4, h5⟩ := F.ex
  ⟨f, fd, ps, h1, h2, h3, h4, h5.mono h⟩
section
variable {X : Cx} {B : Bx} {e : Expr} {es : List Expr} {we : DL.Env → W D} {pos p : Pos} {x : Str}
theorem de_make {c n k : Nat} {s : List D → W D} {w : DL.Env → W (List D)} (F : MkH X.prog X.w B.G X.mg X.base x c (n + 1) k s) (hK : X.K = B.G.K) (hr : Room (k + 1) X.A) (hp : Passes (L2.CX X.prog X.w) X B.xk) (bok : BxOk B) (hg : Gl X x) (ha : DA X B (n + 1) (e :: es) w)
    (hdb : (x == ("__debug__" : Str)) = false := by decide) (he : starEach (e :: es) X.env = (false, eval e X.env) :: starEach es X.env := by rfl) (hpl : (backTo pos (starEach es X.env)).any (·.1) = false := by rfl) :
    DE X B (.Call (.Name x p) (e :: es) [] pos) (fun ρ => bnd (w ρ) s) := by
  obtain ⟨f, fd, ps, h1, h2, h3, h4, h5⟩ := F.ex
  rw [← hK] at h3 h4 h5
  refine PE.imp (pe_make h3 h5 hr hg h2 h4 .nil hp ha hdb he hpl) fun σ H Q ⟨ρ, H0, QD, k, q, h⟩ => ⟨ρ, H0, _, k, q, fun ds vs H1 H2 x dd l q1 => ?_⟩
  intro a dx ha hdx hne
  rw [List.append_nil]
  have xm : Ext B.G.T H1 H2 H1 (upd H2 dx (.own a)) := Ext.putH x.st hdx _
  refine ⟨a, dx, vs, upd H2 dx (.own a), H1, ds, QD, B.E, rfl, l, rfl, by rw [upd_ne (fun z => hne z.symm)]; exact ha, xm.st, dd, q1, fun fs H3 H4 x2 d2 q2 => ⟨rfl, h _ _ H3 H4 ((x.trans xm).trans x2) d2 q2⟩, (k.later (x.trans xm)).endX bok⟩
/-- what the walk of an __init__ gives -/
def endI (G : Gx) (a : Addr) (c : Nat) (m : W Out) : W D := bnd m fun o => match o with
  | .nx ρ => bnd (ownI 0 ρ) fun z => grd (z.1 = a ∧ z.2.1 = c ∧ z.2.2.length = (G.flds c).length) (ret (.ins c z.2.2))
  | _ => stk
abbrev env1 (n : Nat) (a : Addr) (c : Nat) (ds : List D) : DL.Env := .own (.ins a c []) :: env0 n ds
theorem mkH_of {P : Program} {w : World} {G : Gx} {mg : Str → Option Value} {base : Heap} {x y qual : Str} {pr : Arguments} {body : List Stmt} {sc : Scope} {f : Addr} {fd : FuncData} {N ps : List Str} {self : Str} {c k : Nat} {s : List D → W D}
    (F : FunD G.K y qual pr body sc [] [] f fd) (S : FnScope (self :: N) (self :: ps) sc) (hm : mg x = some (.ref (G.cls c))) (M : Mk G.K (G.cls c) f) (hb : BindsBy y qual pr body sc (self :: ps)) (hn : ps.length ≤ N.length)
    (hbody : ∀ (cdv : Value) (A : Around) (outer : List PySem.Env) (s0 : Shared) (H : Hp) (E : XK) (Hm H0 : Hp) (ED : DX → Prop), Room k (A.deeper (PyProof.Rows.envOfC qual sc s0.heap.objs.size f cdv)) →
      Passes (L2.CX P w) (cxOf (L2.CX P w) P w G.K mg base (self :: N) qual sc f cdv A outer s0 H E) E → BxOk ⟨G, Hm, H0, ED, E⟩ →
      ∃ wb, DSs (cxOf (L2.CX P w) P w G.K mg base (self :: N) qual sc f cdv A outer s0 H E) ⟨G, Hm, H0, ED, E⟩ body wb ∧ ∀ a ds Q, ds.length = ps.length → s ds Q ED → endI G a c (wb (env1 N.length a c ds)) Q ED) :
    MkH P w G mg base x c ps.length (k + 1) s := by
  refine ⟨f, fd, self :: ps, rfl, hm, M, F.bindsN hb, ?_⟩
  refine F.ok S (fun vs H Q E ⟨a, dx, us, _, _, _, _, _, h, l, _⟩ => by rw [h, List.length_cons, l, List.length_cons]) fun cdv A outer s0 H vs Q E hr ⟨a, dx, us, Hm, H0, ds, QD, ED, e1, l, eH, ha, st, dd, q, he, hx⟩ => ?_
  obtain ⟨wb, h1, h2⟩ := hbody cdv A outer s0 H E Hm H0 ED hr (passes_call (takes_of rfl rfl rfl rfl) fun _ _ _ _ h => h) fun x cls d H1 H2 e dx q => hx x cls d H1 H2 e dx q
  refine ⟨_, h1, ?_⟩
  have h0a : H0 a = none := st.z.free ha
  have o1 := Ok.start (E := ED) (xk := E) (N := N) st dd (by rw [l]; exact hn)
  have xx : Ext G.T H0 Hm H0 H := by rw [eH]; exact Ext.putH st ha _
  have o2 : Ok ⟨G, Hm, H0, ED, E⟩ (env1 N.length a c ds) (start (self :: N) vs) H0 H := by
    have k2 := o1.later xx
    have es : start (self :: N) vs = some (.ref a) :: start N us := by
      rw [e1]
      show _ :: (us.map some ++ List.replicate ((self :: N).length - (V.ref a :: us).length) none) = _ :: (us.map some ++ List.replicate (N.length - us.length) none)
      rw [List.length_cons, List.length_cons, Nat.add_sub_add_right]
    rw [es]
    refine ⟨k2.ext, by rw [List.length_cons, List.length_cons, k2.len], fun i s e => ?_, fun i j o p b e1 e2 e3 e4 => ?_⟩
    · cases i with
      | zero =>
        cases e
        exact ⟨_, rfl, a, rfl, ha, h0a, rfl, dx, [], by rw [eH]; exact upd_same, Nat.zero_le _, .nil⟩
      | succ i => exact k2.env i s e
    · have no : ∀ (j : Nat) (p : OD), (env0 N.length ds)[j]? = some (.own p) → False := fun j p e => by
        unfold env0 at e
        by_cases hi : j < ds.length
        · rw [List.getElem?_append_left (by simpa using hi), List.getElem?_map] at e
          cases q : ds[j]? with
          | none => rw [q] at e; cases e
          | some d => rw [q] at e; cases e
        · rw [List.getElem?_append_right (by simpa using Nat.le_of_not_lt hi)] at e
          obtain ⟨_, q2⟩ := List.getElem?_eq_some_iff.mp e
          rw [List.getElem_replicate] at q2
          cases q2
      cases i with
      | zero =>
        cases j with
        | zero => rfl
        | succ j => exact (no j p e2).elim
      | succ i => exact (no i o e1).elim
  refine ⟨_, H0, _, o2, h2 a ds QD (dd.length.trans l) q, ?_, ?_, ?_, ?_⟩
  · intro ρ' σ' H0' H' k' _ q'
    obtain ⟨a', c', fs, z, ⟨g1, g2, g3⟩, q2⟩ := ownI_of q'
    simp only at g1 g2 g3 q2
    subst g1
    subst g2
    obtain ⟨b, e1, r1, r2, h0, dx', vs', r3, r4, r5⟩ := k'.own_at z
    subst h0
    have hl : vs'.length = (G.flds c').length := by rw [← r5.length]; exact g3
    have hu := r3
    have sm : Same H0' (upd H0' a' (.ins (G.cls c') dx' (((G.flds c').take vs'.length).zip vs'))) := fun b v e => by rw [upd_ne (ne_of_none e r2)]; exact e
    have kx := k'.ext
    refine he fs (upd H0' a' (.ins (G.cls c') dx' (((G.flds c').take vs'.length).zip vs'))) H' ⟨kx.n, kx.nn, kx.z.trans sm, fun b v e => ?_, fun b v e => ?_, kx.tabs, kx.nt.upd (by intro _ z; cases z)⟩ ?_ q2
    · by_cases z : b = a'
      · subst z; rw [upd_same] at e; cases e; exact hu
      · rw [upd_ne z] at e; exact kx.zz b v e
    · by_cases z : b = a'
      · subst z; exact .inr r1
      · rw [upd_ne z] at e; exact kx.fr b v e
    · simp only [Den]
      refine ⟨a', dx', vs', rfl, ?_, hl.symm, r5.same sm⟩
      rw [upd_same, hl, List.take_length]
  · intro d v ρ' σ' H0' H' k' d' q'
    exact (show False from q').elim
  · intro ρ' σ' H0' H' k' _ q'
    exact (show False from q').elim
  · intro ρ' σ' H0' H' k' _ q'
    exact (show False from q').elim
end
end DL
end
section
set_option Elab.async false
set_option linter.all false
set_option maxRecDepth 100000
set_option maxHeartbeats 1000000
set_option autoImplicit false
/-! DP: lambdas: what they promise, by their bodies; calls of closures. -/
namespace DL
open PySem PySem.Spec L2 PyProof.Rows
open Classical in
noncomputable def less (p : Addr → Prop) (H : Hp) : Hp := fun b => if p b then none else H b
open Classical in
noncomputable def more (p : Addr → Prop) (H H' : Hp) : Hp := fun b => if p b then H b else H' b
section
variable {p : Addr → Prop} {H H' H0 : Hp} {b : Addr} {o : HO}
theorem less_in (h : p b) : less p H b = none := if_pos h
theorem less_out (h : ¬ p b) : less p H b = H b := if_neg h
theorem more_in (h : p b) : more p H H' b = H b := if_pos h
theorem more_out (h : ¬ p b) : more p H H' b = H' b := if_neg h
theorem less_some (h : less p H b = some o) : ¬ p b ∧ H b = some o := by
  by_cases q : p b
  · rw [less_in q] at h; cases h
  · rw [less_out q] at h; exact ⟨q, h⟩
def isX (o : HO) : Prop := ∃ φ, o = .ext φ
/-! what holds no closure, no hand -/
mutual
def noClo : D → Bool
  | .tup xs => noClos xs
  | .lst xs => noClos xs
  | .dic _ vs => noClos vs
  | .ins _ fs => noClos fs
  | .clo _ _ => false
  | .hnd => false
  | .scr _ => false
  | _ => true
def noClos : List D → Bool
  | [] => true
  | d :: ds => noClo d && noClos ds
end
/-- all but the things known by a predicate stay -/
def SameX (H H' : Hp) : Prop := ∀ b o, H b = some o → ¬ isX o → H' b = some o
theorem SqT.sameX {K : PySem.W.Frag} {a : Addr} {xs : List V} (e : SameX H H') (h : SqT K H a xs) : SqT K H' a xs := by
  rcases h with (h | ⟨o, h⟩) | h
  · exact .inl (.inl (e _ _ h fun ⟨_, z⟩ => by cases z))
  · exact .inl (.inr ⟨o, e _ _ h fun ⟨_, z⟩ => by cases z⟩)
  · exact .inr h
mutual
theorem Den.sameX {G : Gx} (e : SameX H H') : ∀ {d : D} {v : V}, noClo d = true → Den G H d v → Den G H' d v
  | .non, _, _, h => by simpa only [Den] using h
  | .bl _, _, _, h => by simpa only [Den] using h
  | .int _, _, _, h => by simpa only [Den] using h
  | .str _, _, _, h => by simpa only [Den] using h
  | .tup xs, v, n, h => by
    simp only [Den] at h ⊢
    obtain ⟨a, vs, h1, h2, h3⟩ := h
    exact ⟨a, vs, h1, SqT.sameX e h2, Dens.sameX e (by simpa only [noClo] using n) h3⟩
  | .lst xs, v, n, h => by
    simp only [Den] at h ⊢
    obtain ⟨a, vs, h1, h2, h3⟩ := h
    exact ⟨a, vs, h1, e _ _ h2 (fun ⟨_, z⟩ => by cases z), Dens.sameX e (by simpa only [noClo] using n) h3⟩
  | .dic ks us, v, n, h => by
    simp only [Den] at h ⊢
    obtain ⟨a, vs, h1, h2, h3⟩ := h
    refine ⟨a, vs, h1, Dens.sameX e (by simpa only [noClo] using n) h2, ?_⟩
    rcases h3 with ⟨kk, k1, k2, k3⟩ | ⟨kk, k1, k2, k3⟩
    · exact .inl ⟨kk, k1, e _ _ k2 (fun ⟨_, z⟩ => by cases z), k3⟩
    · exact .inr ⟨kk, k1, e _ _ k2 (fun ⟨_, z⟩ => by cases z), k3⟩
  | .ins c fs, v, n, h => by
    simp only [Den] at h ⊢
    obtain ⟨a, dx, vs, h1, h2, h3, h4⟩ := h
    exact ⟨a, dx, vs, h1, e _ _ h2 (fun ⟨_, z⟩ => by cases z), h3, Dens.sameX e (by simpa only [noClo] using n) h4⟩
  | .clo i cs, v, n, h => by cases n
  | .hnd, v, n, h => by cases n
  | .scr _, v, n, h => by cases n
theorem Dens.sameX {G : Gx} (e : SameX H H') : ∀ {ds : List D} {vs : List V}, noClos ds = true → Dens G H ds vs → Dens G H' ds vs
  | [], _, _, h => by simpa only [Dens] using h
  | d :: ds, vs, n, h => by
    simp only [noClos, Bool.and_eq_true] at n
    simp only [Dens] at h ⊢
    obtain ⟨v, ws, h1, h2, h3⟩ := h
    exact ⟨v, ws, h1, Den.sameX e n.1 h2, Dens.sameX e n.2 h3⟩
end
end
section
variable {P : Program} {w : World} {p : Addr → Prop} {H H' : Hp} {h h' : Heap}
theorem HOk.lessX (x : HOk P w H h) (hx : ∀ b o, p b → H b = some o → isX o) : HOk P w (less p H) h := fun a o e => by
  obtain ⟨n, e⟩ := less_some e
  refine (x a o e).stay (fun _ _ _ q => q) (fun b q => ?_) (fun b xs q => ?_)
  · exact (less_out fun z => by obtain ⟨_, z⟩ := hx b _ z q; cases z).trans q
  · exact (less_out fun z => by obtain ⟨_, z⟩ := hx b _ z q; cases z).trans q
theorem HOk.moreX (x : HOk P w H' h) (hn : ∀ b, p b → H' b = none) (hx : ∀ b o, p b → H b = some o → isX o ∧ ObjOk P w (more p H H') h b o) : HOk P w (more p H H') h := fun a o e => by
  by_cases q : p a
  · rw [more_in q] at e
    exact (hx a o q e).2
  · rw [more_out q] at e
    refine (x a o e).stay (fun _ _ _ q => q) (fun b z => ?_) (fun b xs z => ?_)
    · exact (more_out fun y => by rw [hn b y] at z; cases z).trans z
    · exact (more_out fun y => by rw [hn b y] at z; cases z).trans z
theorem Un.moreX {fs : List Addr} (u : Un fs [] (less p H) H' h h') (hn : ∀ b, p b → H' b = none) (hx : ∀ b o, p b → H b = some o → isX o) (hs : ∀ b, p b → ∃ o, H b = some o) : Un fs [] H (more p H H') h h' := by
  have np : ∀ b, H b = none → ¬ p b := fun b e z => by obtain ⟨o, e2⟩ := hs b z; rw [e] at e2; cases e2
  have nx : ∀ b o, H b = some o → (∀ φ, o ≠ .ext φ) → ¬ p b := fun b o e n z => by obtain ⟨φ, z⟩ := hx b o z e; exact n φ z
  refine ⟨fun b o q e => u.keep b o q ((less_out (np b e)).trans e), fun b o q e => u.slot b o q ((less_out (np b e)).trans e), fun b o q e f => (more_out (np b e)).trans (u.free b o q ((less_out (np b e)).trans e) f), u.there, fun b xs e => ?_, fun b o v e => ?_, fun b ps e => ?_⟩
  · have n := nx b _ e (by intro _ z; cases z)
    exact (more_out n).trans (u.tups b xs ((less_out n).trans e))
  · have n := nx b _ e (by intro _ z; cases z)
    exact (more_out n).trans (u.frzs b o v ((less_out n).trans e))
  · have n := nx b _ e (by intro _ z; cases z)
    obtain ⟨m, q⟩ := u.tbls b ps ((less_out n).trans e)
    exact ⟨m, (more_out n).trans q⟩
end
/-- the captured cells -/
def InCl (cl : List (Str × Addr)) (b : Addr) : Prop := ∃ y, cl.lookup y = some b
def gNo (d : D) : W D := grd (noClo d = true) (ret d)
/-- a closure's call -/
def cloCall (G : Gx) (n : Nat) : D → List D → W D
  | .clo j cs, ds => grd (noClos cs = true ∧ noClos ds = true ∧ (G.lam j).ps.length = n) (bnd (nox (G.cloW j cs ds)) gNo)
  | _, _ => stk
/-- the lambda j keeps what G says of it -/
def LamOk (P : Program) (w : World) (G : Gx) (mg : Str → Option Value) (base : Heap) (k j : Nat) : Prop :=
  ∀ (A : Around) (outer : List PySem.Env) (s : Shared) (H : Hp) (us : List Value) (vs : List V) (Q : VK) (f : Addr) (ws : List V) (H0 : Hp) (cs ds : List D) (QD : D → Prop), Room k A → Env0 P w G.K mg base A outer s H → CloAt G H0 j ws f → St0 G H0 H → Dens G H0 cs ws → Dens G H0 ds vs →
    noClos cs = true → noClos ds = true → Vals vs us → ds.length = (G.lam j).ps.length → bnd (G.cloW j cs ds) gNo QD (fun _ => False) → End1 G H0 H QD Q → codeAny (model P w) A (.call (.ref f) ⟨us, []⟩) (CR (L2.CX P w) outer P w H s Q E0) s
theorem CellsP.get {H : Hp} {cl : List (Str × Addr)} : ∀ {fr : List Str} {ws : List V} {i : Nat} {y : Str}, CellsP H cl fr ws → fr[i]? = some y → ∃ c o u v, cl.lookup y = some c ∧ H c = some (PinO c o) ∧ o.data = .cell (some u) ∧ ws[i]? = some v ∧ L2.RelV v u
  | [], _, _, _, _, e => by simp at e
  | _ :: _, [], _, _, h, _ => h.elim
  | z :: ys, v :: vs, 0, y, ⟨⟨c, o, u, h1, h2, h3, h4⟩, _⟩, e => by
    simp at e
    subst e
    exact ⟨c, o, u, v, h1, h2, h3, rfl, h4⟩
  | z :: ys, v :: vs, i + 1, y, ⟨_, h⟩, e => by
    obtain ⟨c, o, u, v', h1, h2, h3, h4, h5⟩ := CellsP.get (i := i) h (by simpa using e)
    exact ⟨c, o, u, v', h1, h2, h3, by simpa using h4, h5⟩
theorem CellsP.len {H : Hp} {cl : List (Str × Addr)} : ∀ {fr : List Str} {ws : List V}, CellsP H cl fr ws → ws.length = fr.length
  | [], [], _ => rfl
  | [], _ :: _, h => h.elim
  | _ :: _, [], h => h.elim
  | _ :: ys, _ :: vs, ⟨_, h⟩ => by rw [List.length_cons, List.length_cons, CellsP.len h]
/-- every captured cell is among the pinned ones -/
theorem CellsP.all {H : Hp} {cl : List (Str × Addr)} {fr : List Str} {ws : List V} (h : CellsP H cl fr ws) (sub : ∀ y d, cl.lookup y = some d → y ∈ fr) {b : Addr} (hb : InCl cl b) : ∃ o u, H b = some (PinO b o) ∧ o.data = .cell (some u) := by
  obtain ⟨y, e⟩ := hb
  obtain ⟨i, hi⟩ := List.mem_iff_getElem?.mp (sub y b e)
  obtain ⟨c, o, u, v, h1, h2, h3, _, _⟩ := h.get hi
  rw [e] at h1
  cases h1
  exact ⟨o, u, h2, h3⟩
theorem pin_at {P : Program} {w : World} {H : Hp} {h : Heap} {b : Addr} {o : Obj} (x : HOk P w H h) (e : H b = some (PinO b o)) : h.get? b = some o := by
  obtain ⟨z, _, _⟩ := x b _ e
  exact z
theorem pin_ok {P : Program} {w : World} {H : Hp} {h : Heap} {b : Addr} {o : Obj} (e : h.get? b = some o) : ObjOk P w H h b (PinO b o) := ⟨e, ⟨o, e⟩, fun _ _ q k => k _ q⟩
/-! ### a lambda by its body -/
abbrev lamNF (L : LF) (cl : List (Str × Addr)) (c : Addr) : NdefX.NF := ⟨"<lambda>", L.qual, L.params, [], L.scope, cl, c⟩
abbrev envL (n : Nat) (ds cs : List D) : DL.Env := ds.map Sl.d ++ (cs.map Sl.d ++ List.replicate (n - ds.length - cs.length) .un)
theorem Ok.startL {G : Gx} {H0 H : Hp} {E : DX → Prop} {xk : XK} {N : List Str} {ds cs : List D} {vs ws : List V} (st : St0 G H0 H) (dd : Dens G H0 ds vs) (dc : Dens G H0 cs ws) (h : vs.length + ws.length ≤ N.length) : Ok ⟨G, H, H0, E, xk⟩ (envL N.length ds cs) (NdefX.startF N vs (ws.map some)) H0 H := by
  have e1 : envL N.length ds cs = env0 N.length (ds ++ cs) := by
    unfold envL env0
    rw [List.map_append, List.append_assoc, List.length_append, Nat.sub_sub]
  have e2 : NdefX.startF N vs (ws.map some) = L2.start N (vs ++ ws) := by
    unfold NdefX.startF L2.start
    rw [List.map_append, List.append_assoc, List.length_append, List.length_map, Nat.sub_sub]
  rw [e1, e2]
  exact Ok.start st (dd.append dc) (by rw [List.length_append]; exact h)
theorem lam_of {P : Program} {w : World} {G : Gx} {mg : Str → Option Value} {base : Heap} {N : List Str} {k j : Nat} (S : NdefX.NScope N (G.lam j).ps (G.lam j).fr (G.lam j).scope)
    (hb : ∀ (cl : List (Str × Addr)) (pm cv ctv : Value) (us : List Value), us.length = (G.lam j).ps.length → bindArgs (PySem.W.kla_fn "<lambda>" (G.lam j).qual (G.lam j).params (G.lam j).body (G.lam j).scope cl pm cv ctv) ⟨us, []⟩ = pure ((G.lam j).ps.zip us))
    (hbody : ∀ (A : Around) (outer : List PySem.Env) (s : Shared) (H H0 : Hp) (f : Addr) (cl : List (Str × Addr)) (c : Addr), Room k (A.deeper (NdefX.envF (lamNF (G.lam j) cl c) f s.heap.objs.size)) →
      ∃ we, DE (NdefX.ncx (L2.CX P w) P w G.K mg base N (lamNF (G.lam j) cl c) f A outer s H E0) ⟨G, H, H0, fun _ => False, E0⟩ (G.lam j).body we ∧ ∀ cs ds Q, cs.length = (G.lam j).fr.length → ds.length = (G.lam j).ps.length → G.cloW j cs ds Q (fun _ => False) → we (envL N.length ds cs) Q (fun _ => False)) :
    LamOk P w G mg base (k + 1) j := by
  intro A outer s H us vs Q f ws H0 cs ds QD hr e0 hf st dc dd nc nd r hl hq fin
  have hf0 := hf
  obtain ⟨cl, c, h1, h2, h3, h4, h5⟩ := hf
  have zz := st.z
  have k1 := zz _ _ h1
  have k2 := zz _ _ h2
  have k3 := h3.same zz
  have pinned : ∀ b, InCl cl b → ∃ o u, H b = some (PinO b o) ∧ o.data = .cell (some u) := fun b hb => k3.all h4 hb
  have pinned0 : ∀ b, InCl cl b → ∃ o u, H0 b = some (PinO b o) ∧ o.data = .cell (some u) := fun b hb => h3.all h4 hb
  have isx : ∀ b o, InCl cl b → H b = some o → isX o := fun b o hb e => by
    obtain ⟨o', u, e2, _⟩ := pinned b hb
    rw [e] at e2
    cases e2
    exact ⟨_, rfl⟩
  obtain ⟨Hc, eHc⟩ : ∃ Hc, Hc = less (InCl cl) H := ⟨_, rfl⟩
  obtain ⟨Hz, eHz⟩ : ∃ Hz, Hz = less (InCl cl) H0 := ⟨_, rfl⟩
  have okc : HOk P w Hc s.heap := by rw [eHc]; exact HOk.lessX e0.hok isx
  have e0c : Env0 P w G.K mg base A outer s Hc := ⟨e0.frames, e0.mod, fun b o e => by
      obtain ⟨q1, q2⟩ := e0.bs b o e
      refine ⟨q1, ?_⟩
      rw [eHc]
      by_cases z : InCl cl b
      · exact less_in z
      · exact (less_out z).trans q2, e0.bsz, e0.funs, fun b hb => by
      rw [eHc]
      by_cases z : InCl cl b
      · exact less_in z
      · exact (less_out z).trans (e0.frf b hb), okc, e0.bare⟩
  have lim : s.heap.NoLimit := e0.mod.nolimit.keeps fun b o e => (e0.bs b o e).1
  have lenw := k3.len
  have lenc : cs.length = (G.lam j).fr.length := dc.length.trans lenw
  have CA : NdefX.CellsAt cl (G.lam j).fr (ws.map some) s.heap Hc := by
    refine ⟨by rw [List.length_map]; exact lenw, fun y d e => ?_, h5, fun i y e => ?_⟩
    · obtain ⟨o, u, e1, e2⟩ := pinned d ⟨y, e⟩
      exact ⟨by rw [eHc]; exact less_in ⟨y, e⟩, some u, o, pin_at e0.hok e1, e2⟩
    · obtain ⟨d, o, u, v, q1, q2, q3, q4, q5⟩ := k3.get e
      refine ⟨d, q1, fun v' ev => ?_⟩
      rw [List.getElem?_map, q4] at ev
      cases ev
      exact ⟨u, q5, o, pin_at e0.hok q2, q3⟩
  obtain ⟨pm, ctv, ho⟩ := (e0.hok f _ k1).1
  obtain ⟨oc, cvs, ct, hoc, hd, hv⟩ := (e0.hok c _ k2).1
  obtain ⟨we, hE, hW⟩ := hbody A outer s Hc Hz f cl c (hr.deeper _)
  refine PySem.W.kla_callFunE hr.depth ho rfl S.co S.gen rfl ⟨c, oc, cvs, ct, rfl, hoc, hd, hv⟩ ?_
  rw [hb cl pm (.ref c) ctv us (by rw [← r.length, ← dd.length]; exact hl)]
  refine wpAny_pure (wpAny_newFunctionEnv S.nocell (fun ⟨n, _⟩ hy => S.par n (List.of_mem_zip hy).1) (fun h₁ hns hsb => ⟨lim.fresh _ hsb, ?_⟩) S.kind)
  show codeAny _ _ (.expr (G.lam j).body (NdefX.envF (lamNF (G.lam j) cl c) f s.heap.objs.size)) _ _
  have kp : ∀ b o, s.heap.get? b = some o → h₁.get? b = some o := fun b o e => hsb.extBut b o (Nat.ne_of_lt (Heap.lt_size e)) (Heap.get?_push_of_some _ e)
  have hpl : (G.lam j).ps.length + (G.lam j).fr.length ≤ N.length := by
    have q := congrArg List.length S.pre
    rw [List.length_take, List.length_append] at q
    omega
  have I := NdefX.inv_startN (CX := L2.CX P w) (F := lamNF (G.lam j) cl c) (f := f) (E := E0) (tk := s.toks + ((G.lam j).ps.zip us).length) S hr.hd e0c (by rw [← dd.length]; exact hl) r CA hns kp
  have smx0 : SameX H0 Hz := fun b o e n => by
    rw [eHz]
    refine (less_out fun z => n ?_).trans e
    obtain ⟨o', u, e2, _⟩ := pinned0 b z
    rw [e] at e2
    cases e2
    exact ⟨_, rfl⟩
  have ntz : NoT Hz := fun b ps e => by
    rw [eHz] at e
    exact st.nt b ps (less_some e).2
  have stc : St0 G Hz Hc := (fun (a : Same Hz Hc) (b : NdefX.TabsN G.T Hc) => (⟨a, b, ntz⟩ : St0 G Hz Hc)) (fun b o e => by
      rw [eHz] at e
      obtain ⟨n, e⟩ := less_some e
      rw [eHc]
      exact (less_out n).trans (zz b o e)) (fun q hq => by
      obtain ⟨ps, t1, t2, t3⟩ := st.tabs q hq
      rw [eHc]
      refine ⟨ps, (less_out fun z => by obtain ⟨φ, z⟩ := isx _ _ z t1; cases z).trans t1, t2, fun pos cv hc => ?_⟩
      obtain ⟨c0, e1, e2⟩ := t3 pos cv hc
      refine ⟨c0, e1, (less_out fun z => ?_).trans e2⟩
      obtain ⟨o', u, e3, e4⟩ := pinned c0 z
      have g1 := pin_at e0.hok e3
      obtain ⟨oc', vs', t', g2, g3, _⟩ := (e0.hok c0 _ e2).1
      rw [g1] at g2
      cases g2
      rw [e4] at g3
      cases g3)
  have okk := Ok.startL (E := fun _ => False) (xk := E0) (N := N) stc (dd.sameX smx0 nd) (dc.sameX smx0 nc) (by rw [← dd.length, ← dc.length, hl, lenc]; exact hpl)
  have hrun : lift ⟨G, Hc, Hz, fun _ => False, E0⟩ we (NdefX.startF N vs (ws.map some)) Hc fun v H' => ∃ d H0', Ext G.T Hz Hc H0' H' ∧ Den G H0' d v ∧ noClo d = true ∧ QD d :=
    ⟨_, Hz, _, okk, hW cs ds _ lenc hl hq, fun d v H0' H' x d' q' => ⟨d, H0', x, d', q'.1, q'.2⟩⟩
  refine PySem.W.kla_codeExpr (wpAny_mono (hE.run [] _ _ Hc _ I hrun) (fun v' s' hs => ?_) fun e s' hs => ?_)
  · obtain ⟨v, H', J, rv, d, H0', x, d', n', q'⟩ := hs
    have hn : ∀ b, InCl cl b → H' b = none := fun b hb => by
      obtain ⟨o, u, e1, _⟩ := pinned b hb
      have g := pin_at e0.hok e1
      exact J.base.free b o g (by show Hc b = none; rw [eHc]; exact less_in hb) (fun z => absurd (show b ∈ ([] : List Addr) from z) (by simp))
    have hn0 : ∀ b, InCl cl b → H0' b = none := fun b hb => x.zz.free (hn b hb)
    have kept : ∀ b o, InCl cl b → s.heap.get? b = some o → s'.heap.get? b = some o := fun b o hb g => by
      refine J.base.keep b o g (by show Hc b = none; rw [eHc]; exact less_in hb) (fun z => ?_) (fun z => absurd (show b ∈ ([] : List Addr) from z) (by simp))
      obtain ⟨o', u, e1, _⟩ := pinned b hb
      have := e0.frf b z
      rw [e1] at this
      cases this
    have un : Un (frs outer) [] Hc H' s.heap s'.heap := J.base
    rw [eHc] at un
    have okm : HOk P w (more (InCl cl) H H') s'.heap := HOk.moreX J.hok hn fun b o hb e => by
      obtain ⟨o', u, e1, _⟩ := pinned b hb
      rw [e] at e1
      cases e1
      exact ⟨⟨_, rfl⟩, pin_ok (kept b o' hb (pin_at e0.hok e))⟩
    have smm : Same H0' (more (InCl cl) H0 H0') := fun b o e => (more_out fun z => by rw [hn0 b z] at e; cases e).trans e
    refine ⟨v, more (InCl cl) H H', J.os, J.bare, Un.moreX un hn isx (fun b hb => let ⟨o, u, e1, _⟩ := pinned b hb; ⟨_, e1⟩), okm, rv, ?_⟩
    refine fin d v (more (InCl cl) H0 H0') _ ⟨fun b o e nt => ?_, fun b e => ?_, fun b o e => ?_, fun b o e => ?_, fun b o e => ?_, fun q hq => ?_, fun b ps e => ?_⟩ (d'.same smm) q'
    · by_cases z : InCl cl b
      · exact (more_in z).trans e
      · exact (more_out z).trans (x.n b o (by rw [eHc]; exact (less_out z).trans e) nt)
    · by_cases z : InCl cl b
      · rw [more_in z] at e; exact e
      · rw [more_out z] at e
        have e2 := x.nn b e
        rw [eHc, less_out z] at e2
        exact e2
    · by_cases z : InCl cl b
      · exact (more_in z).trans e
      · exact (more_out z).trans (x.z b o (by rw [eHz]; exact (less_out z).trans e))
    · by_cases z : InCl cl b
      · rw [more_in z] at e; exact (more_in z).trans (zz b o e)
      · rw [more_out z] at e; exact (more_out z).trans (x.zz b o e)
    · by_cases z : InCl cl b
      · rw [more_in z] at e; exact .inl e
      · rw [more_out z] at e
        rcases x.fr b o e with q | q
        · rw [eHz] at q; exact .inl (less_some q).2
        · rw [eHc, less_out z] at q; exact .inr q
    · obtain ⟨ps, t1, t2, t3⟩ := x.tabs q hq
      refine ⟨ps, (more_out fun z => by rw [hn _ z] at t1; cases t1).trans t1, t2, fun pos cv hc => ?_⟩
      obtain ⟨c0, e1, e2⟩ := t3 pos cv hc
      exact ⟨c0, e1, (more_out fun z => by rw [hn _ z] at e2; cases e2).trans e2⟩
    · by_cases z : InCl cl b
      · rw [more_in z] at e; exact st.nt b ps e
      · rw [more_out z] at e; exact x.nt b ps e
  · have ht : (NdefX.ncx (L2.CX P w) P w G.K mg base N (lamNF (G.lam j) cl c) f A outer s Hc E0).xe e s' := hs
    refine wpAny_mono ht (fun _ s'' q => ?_) fun _ s'' q => ?_
    · obtain ⟨_, _, _, _, _, _, _, _, _, _, _, _, z⟩ := q
      exact z.elim
    · obtain ⟨_, _, _, _, _, _, _, _, _, _, _, _, z⟩ := q
      exact z.elim
end DL
end
section
set_option Elab.async false
set_option linter.all false
set_option maxRecDepth 100000
set_option maxHeartbeats 1000000
set_option autoImplicit false
/-! DQ: closures called; lambdas made and handed to defs. -/
namespace DL
open PySem PySem.Spec L2 PyProof.Rows
def isClo : D → Bool
  | .clo _ _ => true
  | _ => false
section
variable {X : Cx} {B : Bx} {e : Expr} {es : List Expr} {pos p : Pos} {x : Str} {k n : Nat}
theorem lam_fnAt {G : Gx} {P : Program} {w : World} {H : Hp} {h : Heap} {i : Nat} {ws : List V} {a : Addr} (x : HOk P w H h) (c : CloAt G H i ws a) : PySem.W.FnAt a h := by
  obtain ⟨cl, c, h1, _⟩ := c
  obtain ⟨pm, ctv, ho⟩ := (x a _ h1).1
  exact ⟨_, _, _, _, ho⟩
theorem CloAt.same {G : Gx} {H H' : Hp} {i : Nat} {ws : List V} {a : Addr} (e : Same H H') (c : CloAt G H i ws a) : CloAt G H' i ws a := by
  obtain ⟨cl, c, h1, h2, h3, h4, h5⟩ := c
  exact ⟨cl, c, e _ _ h1, e _ _ h2, h3.same e, h4, h5⟩
/-- f(..), f a name that stands for a closure -/
theorem de_callC (i : Nat) {wa : DL.Env → W (List D)} (hC : ∀ j cs ds Q E, B.G.cloW j cs ds Q E → LamOk X.prog X.w B.G X.mg X.base k j) (hK : X.K = B.G.K) (hr : Room k X.A) (ha : DA X B n (e :: es) wa) (hN : X.N[i]? = some x := by rfl) (hv : Vis X.env.scope x := by first | exact Or.inl rfl | exact Or.inr (Or.inl rfl) | exact Or.inr (Or.inr rfl)) (hd : (x == ("__debug__" : Str)) = false := by decide)
    (hcd : (x == ("__classdict__" : Str)) = false := by decide) (he : starEach (e :: es) X.env = (false, eval e X.env) :: starEach es X.env := by rfl) (hpl : (backTo pos (starEach es X.env)).any (·.1) = false := by rfl) :
    DE X B (.Call (.Name x p) (e :: es) [] pos) (fun ρ => bnd (rd ρ i) fun f => grd (isClo f = true) (bnd (wa ρ) fun ds => cloCall B.G n f ds)) := by
  refine ⟨fun pins s σ H Q I h => ?_⟩
  obtain ⟨ρ, H0, QD, k', q, fin⟩ := h
  obtain ⟨f, ef, hc, q⟩ := rd_of q
  obtain ⟨v, e1, d1⟩ := k'.at_ ef
  cases f <;> first | (cases hc) | skip
  rename_i j cs
  simp only [Den] at d1
  obtain ⟨a, ws, ev, hclo, dcs⟩ := d1
  subst ev
  refine wpAny_Call_Name_kw (thn ((pe_var (pos := p) hN hv hd hcd).run pins s σ H (fun v H1 => v = .ref a ∧ H1 = H) I ⟨.ref a, e1, rfl, rfl⟩) fun u s1 ⟨v, H1, I1, r1, q1⟩ => ?_)
  obtain ⟨ev, eH⟩ := q1
  subst ev
  rw [eH] at I1
  obtain rfl : u = Value.ref a := r1
  refine PySem.W.callWith_F (first := []) (lam_fnAt I1.hok (hclo.same k'.ext.zz)) (thn (ha.run pos pins s1 σ H (fun vs H2 => ∃ (ds : List D) (H1 : Hp), Ext B.G.T H0 H H1 H2 ∧ Dens B.G H1 ds vs ∧ vs.length = n ∧ cloCall B.G n (.clo j cs) ds QD B.E) I1
    ⟨ρ, H0, _, k', q, fun ds vs H1 H2 x dd l q1 => ⟨ds, H1, x, dd, l, q1⟩⟩) fun us s2 ⟨vs, H2, I2, r, q⟩ => ⟨?_, ?_⟩) he hpl
  · obtain ⟨ds, H3, x, dd, l, q1⟩ := q
    exact lam_fnAt I2.hok ((hclo.same x.z).same x.zz)
  · obtain ⟨ds, H3, x, dd, l, ⟨g1, g2, g3⟩, q1⟩ := q
    show wpAny _ _ (call (.ref a) us) _ _ _
    have q0 : B.G.cloW j cs ds (fun d => gNo d QD fun _ => False) (fun _ => False) := q1
    refine wpAny_call (codeAny_mono (hC j cs ds _ _ q0 X.A X.stack s2 H2 us vs Q a ws H3 cs ds QD hr (by rw [← hK]; exact I2.env0) (hclo.same x.z) x.st (dcs.same x.z) dd g1 g2 r (by rw [dd.length, l, g3]) q1 fun d v H4 H5 x2 d2 q2 => fin d v H4 H5 (x.trans x2) d2 q2) fun r s' hq => ?_)
    cases r with
    | error e => 
      obtain ⟨_, _, _, _, _, _, _, _, _, _, _, _, z⟩ := hq
      exact z.elim
    | ok fl =>
      cases fl with
      | ret u => exact I2.after hq
      | next => exact False.elim hq
      | brk => exact False.elim hq
      | cont => exact False.elim hq
/-! ### a lambda is made -/
theorem inv_lam {pins : List (Addr × Obj)} {σ : L2.St} {H : Hp} {s : Shared} {L : LF} {cl : List (Str × Addr)} {c' : Addr} {t' : Nat} {pm ctv : Value} (I : Inv X pins σ H s) :
    Inv X pins σ (upd H s.heap.objs.size (LamO s.heap.objs.size L cl c')) { s with heap := s.heap.push (PySem.W.kla_obj "<lambda>" L.qual L.params L.body L.scope cl pm c' ctv), toks := t' } := by
  refine I.laid (a := s.heap.objs.size) (fun b u e => Heap.get?_push_of_some _ e) (Nat.le_refl _) ?_
  have e : (s.heap.push (PySem.W.kla_obj "<lambda>" L.qual L.params L.body L.scope cl pm c' ctv)).get? s.heap.objs.size = some (PySem.W.kla_obj "<lambda>" L.qual L.params L.body L.scope cl pm c' ctv) := Heap.get?_push_size _ rfl
  exact ⟨⟨pm, ctv, e⟩, ⟨_, e⟩, fun h1 h2 ⟨pm, ctv, z⟩ st => ⟨pm, ctv, st _ z⟩⟩
theorem lam_make3 {pins : List (Addr × Obj)} {σ : L2.St} {H : Hp} {s : Shared} {T : List NdefX.NTab} {nm : Nat → Nat → Str} {c P : Addr} {L : LF} {lpos : Pos} {E : Value → Shared → Prop} {Q : Value → Shared → Prop} (I : Inv X pins σ H s) (TB : LamX.TabB X.base X.mg c P) (hcode : X.env.code = .ref c)
    (hm : (P, nm) ∈ T) (hn : nm lpos.line lpos.col = L.qual) (hq : X.env.qual ++ "<lambda>" = L.qual) (hu : ∀ p ∈ T, p.1 = P → p.2 = nm) (hT : NdefX.TabsN T H) (hdef : defaultsOf L.params X.env = ([], [])) (hfree : ∀ y ∈ L.scope.names, y.2 = .free → ∃ c, X.env.cells.lookup y.1 = some c)
    (h : ∀ (f c' : Addr) (H1 : Hp) (s' : Shared), Inv X pins σ H1 s' → LamX.ExtN H H1 → (∀ b, H1 b = Option.none → H b = Option.none) → NdefX.TabsN T H1 → H f = none → H1 f = some (LamO f L (cloFrom X.env.cells L.scope.names []) c') → (H c' = none ∨ H c' = some (LamX.CodeO c' L.qual)) → H1 c' = some (LamX.CodeO c' L.qual) → Q (.ref f) s') :
    wpAny (model X.prog X.w) X.A (eval (.Lambda L.params L.body L.scope lpos) X.env) Q E s := by
  obtain ⟨ps, hP, ht, ha⟩ := (show NdefX.TabN H P nm from hT _ hm)
  refine PySem.W.kla_eval hdef ?_
  rw [hq]
  have bP : s.heap.BuiltinsAt X.mg P := TB.bm.keeps I.bk
  have hP' : s.heap.get? P = some { cls := .none, data := .fields ps } := I.hok P _ hP
  have coN : ∀ (c : Addr) (q : Str) (ps : Array Value), LamX.CodeO c q ≠ .tbl ps := fun c q ps z => by unfold LamX.CodeO at z; cases z
  cases hc : codeAmong lpos ps.toList with
  | none =>
    refine PySem.W.kla_makeFunction (mg := X.mg) (c := c) (P := P) (ps := ps) (closure_ok hfree) I.ok.glob (I.mod.glob.keeps I.bk) hcode (TB.code.keeps I.bk) hP' ht hc TB.gP bP fun c' ctv h' tk hx hge hlt hrec htb => ?_
    obtain ⟨c2, oc, vs, t, e2, hoc, hd, hv⟩ := hrec
    cases e2
    have nC : H c' = none := I.hok.fresh hge
    have I1 := LamX.inv_table (t' := tk) (more := #[rawInt lpos.line, rawInt lpos.col, .ref c']) (h' := h') I hP (fun b o hb e => hx b o hb e) htb hge ⟨oc, vs, t, hoc, hd, hv⟩
    have hE : LamX.ExtN H (upd (upd H P (.tbl (ps ++ #[rawInt lpos.line, rawInt lpos.col, .ref c']))) c' (LamX.CodeO c' L.qual)) := fun b o e n => by
      rw [upd_ne (ne_of_none e nC), upd_ne (fun z => n ps (Option.some.inj (e.symm.trans (by rw [z]; exact hP))))]
      exact e
    have eL : (ps ++ #[rawInt lpos.line, rawInt lpos.col, .ref c']).toList = ps.toList ++ [rawInt lpos.line, rawInt lpos.col, .ref c'] := by simp
    have T1 : NdefX.TabsN T (upd (upd H P (.tbl (ps ++ #[rawInt lpos.line, rawInt lpos.col, .ref c']))) c' (LamX.CodeO c' L.qual)) := fun p hp => by
      by_cases hb : p.1 = P
      · rw [hu p hp hb, hb]
        refine ⟨_, by rw [upd_ne (ne_of_none hP nC), upd_same], by rw [eL]; exact PySem.TriplesOk_snoc _ _ _ _ ht, fun p' cv hcv => ?_⟩
        rw [eL] at hcv
        rcases NdefX.among_app2 _ ht hcv with z | ⟨z, z1, z2⟩
        · obtain ⟨c0, e1, e2⟩ := ha p' cv z
          exact ⟨c0, e1, hE _ _ e2 (coN _ _)⟩
        · refine ⟨c', z, ?_⟩
          rw [← z1, ← z2, hn]
          exact upd_same
      · obtain ⟨ps', a1, a2, a3⟩ := hT p hp
        refine ⟨ps', by rw [upd_ne (ne_of_none a1 nC), upd_ne hb]; exact a1, a2, fun p' cv hcv => ?_⟩
        obtain ⟨c0, e1, e2⟩ := a3 p' cv hcv
        exact ⟨c0, e1, hE _ _ e2 (coN _ _)⟩
    have nF := I1.hok.fresh (Nat.le_refl _)
    have I2 := inv_lam (L := L) (cl := cloFrom X.env.cells L.scope.names []) (c' := c') (t' := tk) (pm := (X.mg "__name__").getD .none) (ctv := ctv) I1
    refine h h'.objs.size c' _ _ I2 (fun b o e n => ?_) (fun b e => NdefX.upd_none (NdefX.upd_none (NdefX.upd_none e))) (T1.ext fun b o e => ?_) (I.hok.fresh (Nat.le_trans hge (Nat.le_of_lt hlt))) upd_same (.inl nC) ?_
    · have e1 := hE b o e n
      exact (upd_ne (ne_of_none e1 nF)).trans e1
    · exact (upd_ne (ne_of_none e nF)).trans e
    · exact (upd_ne (Nat.ne_of_lt hlt)).trans upd_same
  | some cv =>
    obtain ⟨c', e, hco⟩ := ha lpos cv hc
    subst e
    rw [hn] at hco
    refine PySem.W.kla_makeFunctionHit (mg := X.mg) (c := c) (P := P) (ps := ps) (closure_ok hfree) I.ok.glob (I.mod.glob.keeps I.bk) hcode (TB.code.keeps I.bk) hP' ht hc bP fun ctv h' tk hx hsz => ?_
    have I1 : Inv X pins σ H { s with heap := h', toks := tk } := I.kept hx
    have nF : H h'.objs.size = none := I1.hok.fresh (Nat.le_refl _)
    have I2 := inv_lam (L := L) (cl := cloFrom X.env.cells L.scope.names []) (c' := c') (t' := tk) (pm := (X.mg "__name__").getD .none) (ctv := ctv) I1
    refine h h'.objs.size c' _ _ I2 (fun b o e n => ?_) (fun b e => NdefX.upd_none e) (hT.ext fun b o e => ?_) nF upd_same (.inr hco) ?_
    · exact (upd_ne (ne_of_none e nF)).trans e
    · exact (upd_ne (ne_of_none e nF)).trans e
    · exact (upd_ne (ne_of_none hco nF)).trans hco
end
end DL
end
section
set_option Elab.async false
set_option linter.all false
set_option maxRecDepth 100000
set_option maxHeartbeats 2000000
set_option autoImplicit false
/-! DR: a lambda made and handed to a def, as its last argument. -/
namespace DL
open PySem PySem.Spec L2 PyProof.Rows
/-- from H1 to H2: the lambda L is made, at f -/
structure LamNew (T : List NdefX.NTab) (L : LF) (cl : List (Str × Addr)) (H1 H2 : Hp) (f c' : Addr) : Prop where
  n : LamX.ExtN H1 H2
  nn : ∀ b, H2 b = none → H1 b = none
  tabs : NdefX.TabsN T H2
  f1 : H1 f = none
  f2 : H2 f = some (LamO f L cl c')
  c1 : H1 c' = none ∨ H1 c' = some (LamX.CodeO c' L.qual)
  c2 : H2 c' = some (LamX.CodeO c' L.qual)
section
variable {X : Cx} {B : Bx} {e : Expr} {es : List Expr} {pos p lpos : Pos} {x : Str} {k n : Nat} {L : LF}
theorem pe_lamT {T : List NdefX.NTab} {nm : Nat → Nat → Str} {c P : Addr} (TB : LamX.TabB X.base X.mg c P) (hcode : X.env.code = .ref c) (hm : (P, nm) ∈ T) (hn : nm lpos.line lpos.col = L.qual) (hq : X.env.qual ++ "<lambda>" = L.qual) (hu : ∀ p ∈ T, p.1 = P → p.2 = nm)
    (hdef : defaultsOf L.params X.env = ([], [])) (hfree : ∀ y ∈ L.scope.names, y.2 = .free → X.env.scope.names.lookup y.1 = some .cell ∨ X.env.scope.names.lookup y.1 = some .free) :
    PE X (.Lambda L.params L.body L.scope lpos) (fun σ H Q => NdefX.TabsN T H ∧ ∀ f c' H1, LamNew T L (cloFrom X.env.cells L.scope.names []) H H1 f c' → Q (.ref f) H1) := by
  refine ⟨fun pins s σ H Q I h => ?_⟩
  obtain ⟨hT, h⟩ := h
  have hfr : ∀ y ∈ L.scope.names, y.2 = .free → ∃ c, X.env.cells.lookup y.1 = some c := fun y hy e => (hfree y hy e).elim (fun z => I.ok.has _ (.inl z)) fun z => I.ok.has _ (.inr z)
  have key := lam_make3 (E := X.xe) (Q := EP X pins σ Q) I TB hcode hm hn hq hu hT hdef hfr
  refine key fun f c' H1 s' I1 eN nn T1 f0 f1 c0 c1 => ⟨.ref f, H1, I1, rfl, h f c' H1 ⟨eN, nn, T1, f0, f1, c0, c1⟩⟩
/-- written arguments, the last a lambda -/
def liftAL (B : Bx) (L : LF) (cl : List (Str × Addr)) (n : Nat) (w : DL.Env → W (List D)) : TA := fun σ H Q => ∃ (ρ : DL.Env) (H0 : Hp) (QD : List D → Prop), Ok B ρ σ H0 H ∧ w ρ QD B.E ∧
  ∀ ds vs H0' H1 H2 f c', Ext B.G.T H0 H H0' H1 → Dens B.G H0' ds vs → vs.length = n → QD ds → LamNew B.G.T L cl H1 H2 f c' → Q (vs ++ [.ref f]) H2
theorem dal_lam {nm : Nat → Nat → Str} {c P : Addr} (TB : LamX.TabB X.base X.mg c P) (hcode : X.env.code = .ref c) (hm : (P, nm) ∈ B.G.T) (hn : nm lpos.line lpos.col = L.qual) (hq : X.env.qual ++ "<lambda>" = L.qual) (hu : ∀ p ∈ B.G.T, p.1 = P → p.2 = nm)
    (hdef : defaultsOf L.params X.env = ([], [])) (hfree : ∀ y ∈ L.scope.names, y.2 = .free → X.env.scope.names.lookup y.1 = some .cell ∨ X.env.scope.names.lookup y.1 = some .free)
    (hs : starEach [.Lambda L.params L.body L.scope lpos] X.env = (false, eval (.Lambda L.params L.body L.scope lpos) X.env) :: starEach [] X.env := by rfl) :
    PA X [.Lambda L.params L.body L.scope lpos] (liftAL B L (cloFrom X.env.cells L.scope.names []) 0 (fun _ => ret [])) :=
  PA.imp (pa_cons (pe_lamT TB hcode hm hn hq hu hdef hfree) pa_nil hs) fun σ H Q ⟨ρ, H0, QD, k, q, h⟩ => ⟨k.ext.tabs, fun f c' H1 l => h [] [] H0 H H1 f c' k.refl .nil rfl q l⟩
theorem dal_cons {cl : List (Str × Addr)} {we : DL.Env → W D} {w : DL.Env → W (List D)} (he : DE X B e we) (ha : PA X es (liftAL B L cl n w)) (hs : starEach (e :: es) X.env = (false, eval e X.env) :: starEach es X.env := by rfl) :
    PA X (e :: es) (liftAL B L cl (n + 1) (fun ρ => bnd (we ρ) fun d => bnd (w ρ) fun ds => ret (d :: ds))) := by
  refine PA.imp (pa_cons he ha hs) fun σ H Q ⟨ρ, H0, QD, k, q, h⟩ => ⟨ρ, H0, _, k, q, fun d v H1 H2 x dd q1 => ⟨ρ, H1, _, k.later x, q1, fun ds vs H3 H4 H5 f c' x2 d2 l q2 ln => ?_⟩⟩
  exact h (d :: ds) (v :: vs) H3 H4 H5 f c' (x.trans x2) (.cons (dd.same x2.z) d2) (by rw [List.length_cons, l]) q2 ln
/-- the captured slots -/
def rds : List Nat → DL.Env → W (List D)
  | [], _ => ret []
  | j :: js, ρ => bnd (rd ρ j) fun d => bnd (rds js ρ) fun ds => ret (d :: ds)
theorem rds_of {G : Gx} {B : Bx} {ρ : DL.Env} {σ : L2.St} {H0 H : Hp} (k : Ok B ρ σ H0 H) : ∀ {js : List Nat} {Q : List D → Prop} {E : DX → Prop}, rds js ρ Q E → ∃ ds vs, Q ds ∧ Dens B.G H0 ds vs ∧ js.map (NdefX.slotAt σ) = vs.map some
  | [], Q, E, h => ⟨[], [], h, .nil, rfl⟩
  | j :: js, Q, E, h => by
    obtain ⟨d, e, q⟩ := rd_of h
    obtain ⟨ds, vs, q, dd, es⟩ := rds_of (G := G) k q
    obtain ⟨v, e1, d1⟩ := k.at_ e
    exact ⟨d :: ds, v :: vs, q, .cons d1 dd, by rw [List.map_cons, List.map_cons, es, NdefX.slotAt_of e1]⟩
/-- f(.., lambda ..): js: where the captured names stand -/
theorem de_callL {j : Nat} {cl : List (Str × Addr)} {s : List D → W D} {w : DL.Env → W (List D)} {js : List Nat} (F : FnH X.prog X.w B.G X.mg X.base x (n + 1) k s) (hK : X.K = B.G.K) (hr : Room k X.A) (hg : Gl X x) (hfn : X.fn = fun _ => true)
    (hcl : cl = cloFrom X.env.cells L.scope.names []) (hL : B.G.lam j = L) (hfree : ∀ y ∈ L.scope.names, y.2 = .free → X.env.scope.names.lookup y.1 = some .cell ∨ X.env.scope.names.lookup y.1 = some .free) (hfr : ∀ y ∈ L.fr, (y, NameKind.free) ∈ L.scope.names) (hsub : ∀ y ∈ L.scope.names, y.2 = .free → y.1 ∈ L.fr)
    (hjs : js.map (fun j => X.N[j]?) = L.fr.map some) (ha : PA X (e :: es) (liftAL B L cl n w))
    (hdb : (x == ("__debug__" : Str)) = false := by decide) (he : starEach (e :: es) X.env = (false, eval e X.env) :: starEach es X.env := by rfl) (hpl : (backTo pos (starEach es X.env)).any (·.1) = false := by rfl) :
    DE X B (.Call (.Name x p) (e :: es) [] pos) (fun ρ => bnd (rds js ρ) fun cs => bnd (w ρ) fun ds => bnd (nox (s (ds ++ [.clo j cs]))) gNo) := by
  obtain ⟨g, fd, ps, h1, h2, h3, h4, h5⟩ := F.ex
  rw [← hK] at h3 h4
  refine ⟨fun pins s0 σ H Q I h => ?_⟩
  obtain ⟨ρ, H0, QD, kk, q, fin⟩ := h
  obtain ⟨cs, ws, q, dc, ejs⟩ := rds_of (G := B.G) kk q
  refine wpAny_Call_Name_kw (ld_glob I hg h2 ?_ hdb)
  refine PySem.W.callWith_K (h₀ := X.base) I.ok.mod.kin h3 (thn (ha.run pos pins s0 σ H (fun us H2 => ∃ (ds : List D) (vs : List V) (H0' H1 : Hp) (f c' : Addr), us = vs ++ [.ref f] ∧ Ext B.G.T H0 H H0' H1 ∧ Dens B.G H0' ds vs ∧ vs.length = n ∧ bnd (nox (s (ds ++ [.clo j cs]))) gNo QD B.E ∧ LamNew B.G.T L cl H1 H2 f c') I
    ⟨ρ, H0, _, kk, q, fun ds vs H0' H1 H2 f c' x dd l q1 ln => ⟨ds, vs, H0', H1, f, c', rfl, x, dd, l, q1, ln⟩⟩) fun us s1 ⟨vs', H2, I2, r, hq⟩ => ⟨I2.kIn, ?_⟩) he hpl
  obtain ⟨ds, vs, H0', H1, f, c', evs, x, dd, l, q1, ln⟩ := hq
  subst evs
  have CA := NdefX.cells_of I2 (NdefX.Caps.made (fr := L.fr) I2.ok hfree hfr hjs)
  rw [← hcl] at CA
  rw [ejs] at CA
  have hok2 : HOk X.prog X.w H2 s1.heap := I2.hok
  obtain ⟨Hp0, eHp⟩ : ∃ Hp0 : Hp, Hp0 = fun b => (s1.heap.get? b).map (PinO b) := ⟨_, rfl⟩
  have cel : ∀ b, InCl cl b → H2 b = none ∧ ∃ o v, s1.heap.get? b = some o ∧ o.data = .cell v := fun b ⟨y, hy⟩ => by
    obtain ⟨z1, v, o, z2, z3⟩ := CA.all y b hy
    exact ⟨z1, o, v, z2, z3⟩
  have pinAt : ∀ b, InCl cl b → ∃ o v, Hp0 b = some (PinO b o) ∧ s1.heap.get? b = some o ∧ o.data = .cell v := fun b hb => by
    obtain ⟨_, o, v, z2, z3⟩ := cel b hb
    exact ⟨o, v, by rw [eHp]; show (s1.heap.get? b).map (PinO b) = _; rw [z2]; rfl, z2, z3⟩
  have isx : ∀ b o, InCl cl b → Hp0 b = some o → isX o := fun b o hb e => by
    obtain ⟨o', v, e2, _⟩ := pinAt b hb
    rw [e] at e2
    cases e2
    exact ⟨_, rfl⟩
  have nocl1 : ∀ b o, H2 b = some o → ¬ InCl cl b := fun b o e z => by rw [(cel b z).1] at e; cases e
  -- the heap with the cells pinned
  obtain ⟨H3, eH3⟩ : ∃ H3, H3 = more (InCl cl) Hp0 H2 := ⟨_, rfl⟩
  have ok3 : HOk X.prog X.w H3 s1.heap := by
    rw [eH3]
    refine HOk.moreX hok2 (fun b hb => (cel b hb).1) fun b o hb e => ⟨isx b o hb e, ?_⟩
    obtain ⟨o', v, e2, e3, _⟩ := pinAt b hb
    rw [e] at e2
    cases e2
    exact pin_ok e3
  have fresh : ∀ b, InCl cl b → X.s_0.heap.objs.size ≤ b := fun b ⟨y, hy⟩ => by
    have hc : X.env.cells.lookup y = some b := by
      have := (NdefX.Caps.made (fr := L.fr) I2.ok hfree hfr hjs).sub y b
      rw [← hcl] at this
      exact this hy
    exact I2.ok.cab y b (by rw [hfn]) hc
  have nofr : ∀ b ∈ frs X.stack, ¬ InCl cl b := fun b hb z => by
    obtain ⟨_, o, v, z2, z3⟩ := cel b z
    rcases List.mem_cons.mp (I2.stkSub _ hb) with e | e
    · obtain ⟨m, ⟨ol, es', ep, e1, e2, _⟩, _⟩ := I2.loc
      rw [← e, z2] at e1
      cases e1
      rw [z3] at e2
      cases e2
    · obtain ⟨_, o', e1, _⟩ := I2.ok.funs.mem e
      exact absurd (Heap.lt_size e1) (Nat.not_lt.mpr (fresh b z))
  have e0 := I2.env0
  have e03 : Env0 X.prog X.w X.K X.mg X.base X.A X.stack s1 H3 := ⟨e0.frames, e0.mod, fun b o e => by
      obtain ⟨g1, g2⟩ := e0.bs b o e
      refine ⟨g1, ?_⟩
      rw [eH3]
      refine (more_out fun z => ?_).trans g2
      have lt1 : b < X.base.objs.size := Heap.lt_size e
      exact absurd (Nat.lt_of_lt_of_le lt1 I2.ok.bsz) (Nat.not_lt.mpr (fresh b z)), e0.bsz, e0.funs, fun b hb => by
      rw [eH3]
      exact (more_out (nofr b hb)).trans (e0.frf b hb), ok3, e0.bare⟩
  -- the data's heap, with the closure in it
  have hc'2 : ¬ InCl cl c' := nocl1 _ _ ln.c2
  have hf2 : ¬ InCl cl f := nocl1 _ _ ln.f2
  have z1n : ∀ b o, H0' b = some o → H2 b = some o := fun b o e => ln.n b o (x.zz b o e) fun ps z => x.nt b ps (by rw [e, z])
  have nocl0 : ∀ b o, H0' b = some o → ¬ InCl cl b := fun b o e => nocl1 b o (z1n b o e)
  have f0 : H0' f = none := x.zz.free ln.f1
  obtain ⟨Z3, eZ3⟩ : ∃ Z3 : Hp, Z3 = more (fun b => InCl cl b ∨ b = f ∨ b = c') H3 H0' := ⟨_, rfl⟩
  have smZ : Same H0' Z3 := fun b o e => by
    rw [eZ3]
    by_cases z : InCl cl b ∨ b = f ∨ b = c'
    · rw [more_in z, eH3]
      exact (more_out (nocl0 b o e)).trans (z1n b o e)
    · exact (more_out z).trans e
  have H3f : H3 f = some (LamO f L cl c') := by rw [eH3]; exact (more_out hf2).trans ln.f2
  have H3c : H3 c' = some (LamX.CodeO c' L.qual) := by rw [eH3]; exact (more_out hc'2).trans ln.c2
  have st3 : St0 B.G Z3 H3 := ⟨fun b o e => by
      rw [eZ3] at e
      by_cases z : InCl cl b ∨ b = f ∨ b = c'
      · rw [more_in z] at e; exact e
      · rw [more_out z] at e
        rw [eH3]
        exact (more_out fun y => z (.inl y)).trans (z1n b o e), ln.tabs.ext fun b o e => by
      rw [eH3]
      exact (more_out (nocl1 b o e)).trans e, fun b ps e => by
      rw [eZ3] at e
      by_cases z : InCl cl b ∨ b = f ∨ b = c'
      · rw [more_in z] at e
        rcases z with z | z | z
        · rw [eH3, more_in z] at e
          obtain ⟨_, y⟩ := isx b _ z e
          cases y
        · rw [z, H3f] at e; cases e
        · rw [z, H3c] at e; cases e
      · rw [more_out z] at e; exact x.nt b ps e⟩
  have hws : ws.length = L.fr.length := by
    have q := CA.len
    rw [List.length_map] at q
    exact q
  have clo : Den B.G Z3 (.clo j cs) (.ref f) := by
    simp only [Den]
    refine ⟨f, ws, rfl, ⟨cl, c', by rw [hL, eZ3, more_in (.inr (.inl rfl))]; exact H3f, by rw [hL, eZ3, more_in (.inr (.inr rfl))]; exact H3c, ?_, fun y d e => ?_, CA.inj⟩, (dc.same x.z).same smZ⟩
    · rw [hL]
      have go : ∀ (ys : List Str) (us : List V), us.length = ys.length → (∀ (i : Nat) (y : Str), ys[i]? = some y → ∃ c, cl.lookup y = some c ∧ ∀ v, us[i]? = some v → ∃ u, L2.RelV v u ∧ s1.heap.IsCell c (some u)) → CellsP Z3 cl ys us := by
        intro ys
        induction ys with
        | nil => intro us hl _; cases us with
          | nil => trivial
          | cons _ _ => cases hl
        | cons y ys ih => intro us hl hh; cases us with
          | nil => cases hl
          | cons v us =>
            refine ⟨?_, ih us (by simpa using hl) fun i y e => hh (i + 1) y (by simpa using e)⟩
            obtain ⟨c, e1, e2⟩ := hh 0 y rfl
            obtain ⟨u, ru, o, g1, g2⟩ := e2 v rfl
            refine ⟨c, o, u, e1, ?_, g2, ru⟩
            have hi : InCl cl c := ⟨y, e1⟩
            rw [eZ3, more_in (.inl hi), eH3, more_in hi, eHp]
            show (s1.heap.get? c).map (PinO c) = _
            rw [g1]
            rfl
      refine go _ _ hws fun i y e => ?_
      obtain ⟨c, g1, g2⟩ := CA.has i y e
      refine ⟨c, g1, fun v ev => g2 v ?_⟩
      rw [List.getElem?_map, ev]
      rfl
    · rw [hL]
      rw [hcl] at e
      rcases cloFrom_mem (PySem.mem_of_lookup e) with hm | ⟨hm, _⟩
      · cases hm
      · exact hsub _ hm rfl
  have dds : Dens B.G Z3 (ds ++ [.clo j cs]) (vs ++ [.ref f]) := (dd.same smZ).append (.cons clo .nil)
  have lps : (vs ++ [V.ref f]).length = n + 1 := by rw [List.length_append, l]; rfl
  have run := h5.run X.A X.stack s1 H3 ⟨us, []⟩ us (vs ++ [.ref f]) (fun v H4 => ∃ d H4z, Ext B.G.T Z3 H3 H4z H4 ∧ Den B.G H4z d v ∧ noClo d = true ∧ QD d) E0 hr (by rw [← hK]; exact e03) (by
      have hl2 : us.length = ps.length := by rw [h1, ← lps]; exact r.length.symm
      have := h4 s1 us I2.kIn (by simpa using hl2)
      simpa using this) r ⟨Z3, ds ++ [.clo j cs], (fun d => noClo d = true ∧ QD d), (fun _ => False), lps, st3, dds, (show s (ds ++ [.clo j cs]) (fun d => gNo d QD B.E) (fun _ => False) from q1), fun d v H4z H4 x4 d4 q4 => ⟨d, H4z, x4, d4, q4.1, q4.2⟩, fun _ _ _ _ _ _ _ z => z.elim⟩
  refine wpAny_call (codeAny_mono run fun r' s' hq => ?_)
  cases r' with
  | error e =>
    obtain ⟨_, _, _, _, _, _, _, _, _, _, _, _, z⟩ := hq
    exact z.elim
  | ok fl =>
    cases fl with
    | next => exact False.elim hq
    | brk => exact False.elim hq
    | cont => exact False.elim hq
    | ret u =>
      obtain ⟨v, H4, os, bare, un, ok4, rv, d, H4z, x4, d4, n4, q4⟩ := hq
      have pin4 : ∀ b, InCl cl b → ∃ o v, H4 b = some (PinO b o) ∧ s1.heap.get? b = some o ∧ o.data = .cell v := fun b hb => by
        obtain ⟨o, v, e1, e2, e3⟩ := pinAt b hb
        exact ⟨o, v, x4.n b _ (by rw [eH3]; exact (more_in hb).trans e1) (by intro _ z; cases z), e2, e3⟩
      have isx4 : ∀ b o, InCl cl b → H4 b = some o → isX o := fun b o hb e => by
        obtain ⟨o', v, e2, _⟩ := pin4 b hb
        rw [e] at e2
        cases e2
        exact ⟨_, rfl⟩
      have ok5 : HOk X.prog X.w (less (InCl cl) H4) s'.heap := HOk.lessX ok4 isx4
      have un5 : Un (frs X.stack) [] H2 (less (InCl cl) H4) s1.heap s'.heap := by
        have n23 : ∀ b, H2 b = none → ¬ InCl cl b → H3 b = none := fun b e z => by rw [eH3]; exact (more_out z).trans e
        have s23 : ∀ b o, H2 b = some o → H3 b = some o := fun b o e => by rw [eH3]; exact (more_out (nocl1 b o e)).trans e
        refine ⟨fun b o g e hb hx => ?_, fun b o g e hb hx => un.slot b o g (n23 b e (nofr b hb)) hb hx, fun b o g e hx => ?_, un.there, fun b xs e => ?_, fun b o v e => ?_, fun b ps e => ?_⟩
        · by_cases z : InCl cl b
          · obtain ⟨o', v, e1, e2, _⟩ := pin4 b z
            rw [g] at e2
            cases e2
            exact pin_at ok4 e1
          · exact un.keep b o g (n23 b e z) hb hx
        · by_cases z : InCl cl b
          · exact less_in z
          · exact (less_out z).trans (un.free b o g (n23 b e z) hx)
        · exact (less_out (nocl1 b _ e)).trans (un.tups b xs (s23 b _ e))
        · exact (less_out (nocl1 b _ e)).trans (un.frzs b o v (s23 b _ e))
        · obtain ⟨m, z⟩ := un.tbls b ps (s23 b _ e)
          exact ⟨m, (less_out (nocl1 b _ e)).trans z⟩
      refine I2.after (Q := Q) ⟨v, less (InCl cl) H4, os, bare, un5, ok5, rv, ?_⟩
      have h2n : ∀ b, H2 b = none → H b = none := fun b e => x.nn b (ln.nn b e)
      have smx : SameX H4z (more (fun b => InCl cl b ∨ b = f ∨ b = c') H0' H4z) := fun b o e hn => by
        by_cases z : InCl cl b ∨ b = f ∨ b = c'
        · exfalso
          apply hn
          have e3 : ∃ u, H3 b = some u ∧ isX u ∧ ∀ ps, u ≠ .tbl ps := by
            rcases z with z | z | z
            · obtain ⟨o', v, e1, _⟩ := pinAt b z
              exact ⟨_, by rw [eH3]; exact (more_in z).trans e1, ⟨_, rfl⟩, by intro _ z; cases z⟩
            · exact ⟨_, by rw [z]; exact H3f, ⟨_, rfl⟩, by intro _ z; cases z⟩
            · exact ⟨_, by rw [z]; exact H3c, ⟨_, rfl⟩, by intro _ z; cases z⟩
          obtain ⟨u, e3, e5, e6⟩ := e3
          have e4 := x4.n b u e3 e6
          have e7 := x4.zz b o e
          rw [e4] at e7
          cases e7
          exact e5
        · exact (more_out z).trans e
      refine fin d v (more (fun b => InCl cl b ∨ b = f ∨ b = c') H0' H4z) _ ⟨fun b o e nt => ?_, fun b e => ?_, fun b o e => ?_, fun b o e => ?_, fun b o e => ?_, fun p hp => ?_, fun b ps e => ?_⟩ (d4.sameX smx n4) q4
      · have e2 := ln.n b o (x.n b o e nt) nt
        have n2 := nocl1 b o e2
        exact (less_out n2).trans (x4.n b o (by rw [eH3]; exact (more_out n2).trans e2) nt)
      · by_cases z : InCl cl b
        · exact h2n b (cel b z).1
        · rw [less_out z] at e
          have e3 := x4.nn b e
          rw [eH3, more_out z] at e3
          exact h2n b e3
      · by_cases z : InCl cl b ∨ b = f ∨ b = c'
        · exact (more_in z).trans (x.z b o e)
        · exact (more_out z).trans (x4.z b o (by rw [eZ3]; exact (more_out z).trans (x.z b o e)))
      · by_cases z : InCl cl b ∨ b = f ∨ b = c'
        · rw [more_in z] at e
          have e2 := z1n b o e
          have n2 := nocl1 b o e2
          exact (less_out n2).trans (x4.n b o (by rw [eH3]; exact (more_out n2).trans e2) fun ps y => x.nt b ps (by rw [e, y]))
        · rw [more_out z] at e
          exact (less_out fun y => z (.inl y)).trans (x4.zz b o e)
      · by_cases z : InCl cl b ∨ b = f ∨ b = c'
        · rw [more_in z] at e
          exact x.fr b o e
        · rw [more_out z] at e
          rcases x4.fr b o e with y | y
          · rw [eZ3, more_out z] at y
            exact x.fr b o y
          · rw [eH3, more_out fun y => z (.inl y)] at y
            exact .inr (h2n b y)
      · obtain ⟨ps, t1, t2, t3⟩ := x4.tabs p hp
        refine ⟨ps, (less_out fun z => by obtain ⟨φ, y⟩ := isx4 _ _ z t1; cases y).trans t1, t2, fun pos cv hc => ?_⟩
        obtain ⟨c0, e1, e2⟩ := t3 pos cv hc
        refine ⟨c0, e1, (less_out fun z => ?_).trans e2⟩
        obtain ⟨o', v', e3, e4, e5⟩ := pin4 c0 z
        have g1 := pin_at ok4 e3
        obtain ⟨oc', vs', t', g2, g3, _⟩ := (ok4 c0 _ e2).1
        rw [g1] at g2
        cases g2
        rw [e5] at g3
        cases g3
      · by_cases z : InCl cl b ∨ b = f ∨ b = c'
        · rw [more_in z] at e; exact x.nt b ps e
        · rw [more_out z] at e; exact x4.nt b ps e
end
end DL
end
section
set_option Elab.async false
set_option linter.all false
set_option maxRecDepth 100000
set_option maxHeartbeats 2000000
set_option autoImplicit false
/-! DS1: slices, three names at once, aug, tuples repeated. -/
namespace DL
open PySem PySem.Spec L2 PyProof.Rows
/-! ### slices -/
def cutD (xs : List D) (lo hi : Option Int) : List D := (xs.drop (HT.sIx xs.length 0 lo)).take (HT.sIx xs.length xs.length hi - HT.sIx xs.length 0 lo)
theorem Dens.cut {G : Gx} {H : Hp} {xs : List D} {vs : List V} (h : Dens G H xs vs) (lo hi : Option Int) : Dens G H (cutD xs lo hi) (cutV vs lo hi) := by
  unfold cutD cutV
  rw [h.length]
  exact (h.drop _).take _
def sliceD (lo hi : Option Int) : D → W D
  | .lst xs => ret (.lst (cutD xs lo hi))
  | .tup xs => ret (.tup (cutD xs lo hi))
  | .scr ns => ret (.lst (cutD (ns.map D.int) lo hi))
  | _ => stk
section
variable {X : Cx} {B : Bx} {e : Expr} {we : DL.Env → W D} {pos p2 : Pos} {lo hi : Option Expr}
/-- a slice's bound -/
def liftO (B : Bx) (w : DL.Env → W (Option Int)) : TO := fun σ H Q => ∃ (ρ : DL.Env) (H0 : Hp) (QD : Option Int → Prop), Ok B ρ σ H0 H ∧ w ρ QD B.E ∧ ∀ o H0' H', Ext B.G.T H0 H H0' H' → QD o → Q o H'
abbrev DO (X : Cx) (B : Bx) (e : Option Expr) (w : DL.Env → W (Option Int)) : Prop := PO X e (liftO B w)
theorem PO.imp {e : Option Expr} {t t' : TO} (h : PO X e t) (i : ∀ σ H Q, t' σ H Q → t σ H Q) : PO X e t' := ⟨fun pins s σ H Q I q => h.run pins s σ H Q I (i σ H Q q)⟩
theorem do_none : DO X B none (fun _ => ret none) := PO.imp po_none fun σ H Q ⟨ρ, H0, QD, k, q, h⟩ => h none H0 H k.refl q
def intO : D → W (Option Int)
  | .int i => ret (some i)
  | _ => stk
theorem do_some (he : DE X B e we) : DO X B (some e) (fun ρ => bnd (we ρ) intO) := by
  refine PO.imp (po_some he) fun σ H Q ⟨ρ, H0, QD, k, q, h⟩ => ⟨ρ, H0, _, k, q, fun d v H1 H2 x dd q1 => ?_⟩
  cases d <;> first | exact (show False from q1).elim | skip
  exact ⟨_, den_int dd, h _ H1 H2 x q1⟩
theorem de_slice {wl wh : DL.Env → W (Option Int)} (hK : X.K = B.G.K) (he : DE X B e we) (hl : DO X B lo wl) (hh : DO X B hi wh) :
    DE X B (.Subscript e (.Slice lo hi none p2) pos) (fun ρ => bnd (we ρ) fun x => bnd (wl ρ) fun l => bnd (wh ρ) fun u => sliceD l u x) := by
  refine PE.imp (pe_slice (sl_list.or sl_tupA) he hl hh) fun σ H Q ⟨ρ, H0, QD, k, q, h⟩ => ⟨ρ, H0, _, k, q, fun d v H1 H2 x dd q1 => ⟨ρ, H1, _, k.later x, q1, fun l H3 H4 x2 q2 => ⟨ρ, H3, _, (k.later x).later x2, q2, fun u H5 H6 x3 q3 => ?_⟩⟩⟩
  have d3 := (dd.same x2.z).same x3.z
  cases d <;> first | exact (show False from q3).elim | skip
  · rename_i xs
    obtain ⟨a, us, e1, s1, d1⟩ := den_tup d3
    refine .inr ⟨a, us, e1, by rw [hK]; exact SqT.up x3.zz s1, fun hw => ?_, fun _ p hp => ?_⟩
    · refine h _ _ H5 H6 ((x.trans x2).trans x3) ?_ q3
      have e : cutD xs l u = xs := by
        unfold cutD
        rw [d1.length, hw.1, hw.2, ← d1.length]
        simp
      rw [e, ← e1]
      exact d3
    · have x4 := Ext.put x3.st hp (.tup (cutV us l u))
      exact h _ _ _ _ (((x.trans x2).trans x3).trans x4) (of_tup upd_same ((d1.same x4.z).cut l u)) q3
  · rename_i xs
    obtain ⟨a, us, e1, s1, d1⟩ := den_lst d3
    refine .inl ⟨a, us, e1, by rw [hK]; exact .of (x3.zz _ _ s1), fun p hp => ?_⟩
    have x4 := Ext.put x3.st hp (.lst (cutV us l u))
    exact h _ _ _ _ (((x.trans x2).trans x3).trans x4) (of_lst upd_same ((d1.same x4.z).cut l u)) q3
  · rename_i ns
    simp only [Den] at d3
    obtain ⟨a, e1, s1⟩ := d3
    refine .inl ⟨a, ns.map V.int, e1, by rw [hK]; exact SqL.same x3.zz s1, fun p hp => ?_⟩
    have x4 := Ext.put x3.st hp (.lst (cutV (ns.map V.int) l u))
    exact h _ _ _ _ (((x.trans x2).trans x3).trans x4) (of_lst upd_same ((Dens.of_ints ns).cut l u)) q3
/-! ### stores -/
theorem ds_par3 (i j l : Nat) {x y z : Str} {a b c : Expr} {w : DL.Env → W (List D)} {px py pz pt : Pos} {kt k2 : Nat} {pt2 : Pos} (hc : X.calm = true) (hN : X.N.Nodup) (ha : DA X B 3 [a, b, c] w) (hi : X.N[i]? = some x := by rfl) (hj : X.N[j]? = some y := by rfl) (hl : X.N[l]? = some z := by rfl)
    (hij : i ≠ j := by decide) (hil : i ≠ l := by decide) (hjl : j ≠ l := by decide)
    (hx : X.env.scope.names.lookup x = some .local := by rfl) (hy : X.env.scope.names.lookup y = some .local := by rfl) (hz : X.env.scope.names.lookup z = some .local := by rfl)
    (hw : swappedStores [.Tuple [.Name x px, .Name y py, .Name z pz] kt pt] (.Tuple [a, b, c] k2 pt2) X.env = pure (some [x, y, z]) := by rfl)
    (hs : swapsWithSole [.Tuple [.Name x px, .Name y py, .Name z pz] kt pt] (.Tuple [a, b, c] k2 pt2) pos.line X.env = pure false := by rfl) :
    DS X B (.Assign [.Tuple [.Name x px, .Name y py, .Name z pz] kt pt] (.Tuple [a, b, c] k2 pt2) pos) (fun ρ => bnd (w ρ) fun ds => match ds with | [d, d', d2] => ret (.nx (((ρ.set i (.d d)).set j (.d d')).set l (.d d2))) | _ => stk) := by
  refine PS.imp (ps_par3 hc hN hi hj hl hij hil hjl hx hy hz ha hw hs) fun D σ H ⟨ρ, H0, QO, k, q, h, _⟩ => ⟨ρ, H0, _, k, q, fun ds vs H1 H2 x dd l q1 => ?_⟩
  match ds, q1 with
  | [d, d', d2], q1 =>
    obtain ⟨v, ws, e1, d1, t1⟩ := dd.uncons
    obtain ⟨v', ws', e2, d2', t2⟩ := t1.uncons
    obtain ⟨v2, ws2, e3, d3, t3⟩ := t2.uncons
    rw [t3.unnil] at e3
    subst e3
    subst e2
    exact ⟨v, v', v2, e1, h _ _ H1 H2 ((((k.later x).putD d1).putD d2').putD d3) x.z q1⟩
  | [], q1 => exact (show False from q1).elim
  | [_], q1 => exact (show False from q1).elim
  | [_, _], q1 => exact (show False from q1).elim
  | _ :: _ :: _ :: _ :: _, q1 => exact (show False from q1).elim
/-- name op= e of ints -/
def augT (g : Int → Int → Int) : D → D → W D := onI2 fun i j => ret (.int (g i j))
end
end DL
end
section
set_option Elab.async false
set_option linter.all false
set_option maxRecDepth 100000
set_option maxHeartbeats 2000000
set_option autoImplicit false
/-! DT1: an own list's item set; the hand. -/
namespace DL
open PySem PySem.Spec L2 PyProof.Rows
section
variable {X : Cx} {B : Bx} {e ei : Expr} {es : List Expr} {we wi : DL.Env → W D} {pos p1 p2 : Pos} {x : Str}
def setAt (i : Nat) (ρ : DL.Env) (z : Option Addr × List D) (d : D) : D → W Out
  | .int k => bnd (optW (ixN z.2.length k)) fun j => ret (.nx (ρ.set i (.own (.lst z.1 (z.2.set j d)))))
  | _ => stk
/-- x[ei] = e -/
theorem ds_setItem (i : Nat) (he : DE X B e we) (hi : DE X B ei wi) (hN : X.N[i]? = some x := by rfl) (hv : Vis X.env.scope x := by first | exact Or.inl rfl | exact Or.inr (Or.inl rfl) | exact Or.inr (Or.inr rfl)) (hd : (x == ("__debug__" : Str)) = false := by decide)
    (hcd : (x == ("__classdict__" : Str)) = false := by decide)
    (ha : ∀ v, assign (.Subscript (.Name x p1) ei p2) X.env v = (do
      let ov ← holding [v] (eval (.Name x p1) X.env)
      let iv ← holding [v, ov] (eval ei X.env)
      standAt p2
      holding [v, ov, iv] (setItem ov iv v)
      release [v, ov, iv] []) := by intro _; rfl)
    (hs : swapsWithSole [.Subscript (.Name x p1) ei p2] e pos.line X.env = pure false := by rfl) (hw : swappedStores [.Subscript (.Name x p1) ei p2] e X.env = pure none := by rfl)
    (h1 : (assignEach [.Subscript (.Name x p1) ei p2] X.env).map (·.2) = [assign (.Subscript (.Name x p1) ei p2) X.env] := by rfl) :
    DS X B (.Assign [.Subscript (.Name x p1) ei p2] e pos) (fun ρ => bnd (we ρ) fun d => bnd (ownL i ρ) fun z => bnd (wi ρ) fun k => setAt i ρ z d k) := by
  refine PS.imp (ps_asg he (pg_sub (pe_var hN hv hd hcd) hi set_list ha) hs hw h1) fun D σ H ⟨ρ, H0, QO, k, q, h, _⟩ => ⟨ρ, H0, _, k, q, fun d v H1 H2 x dd q1 => ?_⟩
  obtain ⟨oa, ds, z, q⟩ := ownL_of q1
  have k2 := k.later x
  obtain ⟨a, e1, h1, h2, ha, vs, h3, h4⟩ := k2.own_at z
  refine ⟨.ref a, e1, ρ, H1, _, k2, q, fun dk vk H3 H4 x2 dk' q2 => ?_⟩
  cases dk <;> first | exact (show False from q2).elim | skip
  rename_i kk
  obtain ⟨j, ej, q3⟩ := optW_of q2
  have k3 := k2.later x2
  have h3' : H4 a = some (.lst vs) := x2.n _ _ h3 fun _ z => by cases z
  have d4 := h4.same x2.z
  refine ⟨a, vs, kk, j, rfl, den_int dk', h3', by rw [← h4.length]; exact ej, ?_⟩
  exact h _ σ H3 _ (k3.own (o' := .lst oa (ds.set j d)) z e1 ⟨ha, _, upd_same, d4.set (dd.same x2.z) j⟩) (x.z.trans x2.z) q3
/-! ### retracking -/
theorem HOk_re {P : Program} {w : World} {H : Hp} {h : Heap} {a : Addr} {xs : List V} {o : HO} (x : HOk P w H h) (e : H a = some (.lst xs)) (n : ObjOk P w (upd H a o) h a o) : HOk P w (upd H a o) h := fun b u eb => by
  by_cases z : b = a
  · subst z; rw [upd_same] at eb; cases eb; exact n
  · rw [upd_ne z] at eb
    exact (x b u eb).stay (fun _ _ _ q => q) (fun d q => by rw [upd_ne (fun z => by rw [z, e] at q; cases q)]; exact q) fun d ys q => by rw [upd_ne (fun z => by rw [z, e] at q; cases q)]; exact q
theorem Un_re {fs ex : List Addr} {H : Hp} {h : Heap} {a : Addr} {xs : List V} {o : HO} (e : H a = some (.lst xs)) : Un fs ex H (upd H a o) h h := by
  have n : ∀ b u, H b = some u → (∀ xs, u ≠ .lst xs) → b ≠ a := fun b u eb hu z => by rw [z, e] at eb; cases eb; exact hu _ rfl
  exact ⟨fun b o q _ _ _ => q, fun b o q _ _ _ => ⟨o.slots, q⟩, fun b o q eb _ => by rw [upd_ne (fun z => by rw [z, e] at eb; cases eb)]; exact eb, fun b o q _ => ⟨o, q⟩, fun b xs q => by rw [upd_ne (n b _ q (by intro _ z; cases z))]; exact q,
    fun b o u q => by rw [upd_ne (n b _ q (by intro _ z; cases z))]; exact q, fun b ps q => ⟨#[], by rw [upd_ne (n b _ q (by intro _ z; cases z)), q]; simp⟩⟩
theorem vals5 {v1 v2 v3 v4 v5 : V} {us : List Value} (h : Vals [v1, v2, v3, v4, v5] us) : ∃ u1 u2 u3 u4 u5, us = [u1, u2, u3, u4, u5] ∧ L2.RelV v1 u1 ∧ L2.RelV v2 u2 ∧ L2.RelV v3 u3 ∧ L2.RelV v4 u4 ∧ L2.RelV v5 u5 := by
  cases h with
  | cons a h => cases h with
    | cons b h => cases h with
      | cons c h => cases h with
        | cons d h => cases h with
          | cons e h => cases h; exact ⟨_, _, _, _, _, rfl, a, b, c, d, e⟩
theorem hnd_ok {P : Program} {w : World} {H H' : Hp} {h : Heap} {a c : Addr} {i : Nat} {g m k : Int} {n : Nat} (x : HOk P w H h) (e : H a = some (.lst [.ref c, .int i, .int g, .int m, .int k])) (h1 : i ≤ n) (h2 : 0 ≤ g) (h3 : 0 ≤ m) (h4 : 0 ≤ k) (h5 : m < 2147483648) : ObjOk P w H' h a (HndO a c n) := by
  obtain ⟨_, its, q, r, ho⟩ := x a _ e
  obtain ⟨u1, u2, u3, u4, u5, rfl, r1, r2, r3, r4, r5⟩ := vals5 r
  cases r1
  obtain ⟨t2, rfl⟩ := r2
  obtain ⟨t3, rfl⟩ := r3
  obtain ⟨t4, rfl⟩ := r4
  obtain ⟨t5, rfl⟩ := r5
  exact ⟨⟨i, g, m, k, t2, t3, t4, t5, q, ho, h1, h2, h3, h4, h5⟩, ⟨_, ho⟩, fun h1 h2 ⟨i, g, m, k, t1, t2, t3, t4, q, z, r⟩ st => ⟨i, g, m, k, t1, t2, t3, t4, q, st _ z, r⟩⟩
/-- the hand as it is made -/
def handD : List D → W D
  | [.lst xs, .int i, .int g, .int m, .int k] => match intsD xs with
    | some ns => grd ((∀ n ∈ ns, 0 ≤ n) ∧ 0 ≤ i ∧ i ≤ ns.length ∧ 0 ≤ g ∧ 0 ≤ m ∧ 0 ≤ k ∧ m < 2147483648) (ret .hnd)
    | none => stk
  | _ => stk
theorem de_hand {n : Nat} {w : DL.Env → W (List D)} (h : DA X B n es w) (hn : n ≤ 1000 := by decide) : DE X B (.List es pos) (fun ρ => bnd (w ρ) handD) := by
  refine ⟨fun pins s σ H Q I hq => ?_⟩
  obtain ⟨ρ, H0, QD, k, q, fin⟩ := hq
  have run := (dn_lst (pos := pos) h hn).run pins s σ H (fun v H3 => ∃ (ds : List D) (vs : List V) (p : Addr) (H1 H2 : Hp), v = .ref p ∧ Ext B.G.T H0 H H1 H2 ∧ H2 p = none ∧ H3 p = some (.lst vs) ∧ Dens B.G H1 ds vs ∧ Ext B.G.T H1 H2 H1 H3 ∧ H1 p = none ∧ handD ds QD B.E) I
    ⟨ρ, H0, _, k, q, fun ds vs p H1 H2 H3 x hn hp dd x2 h0 q1 => ⟨ds, vs, p, H1, H2, rfl, x, hn, hp, dd, x2, h0, q1⟩⟩
  refine wpAny_mono run (fun u s' z => ?_) fun _ _ z => z
  obtain ⟨v, H3, I3, rv, ds, vs, p, H1, H2, rfl, x, hn', hp, dd, x2, h0, q1⟩ := z
  match ds, q1, dd with
  | [.lst xs, .int i, .int g, .int m, .int kk], q1, dd =>
    obtain ⟨v1, w1, e1, d1, t1⟩ := dd.uncons
    obtain ⟨v2, w2, e2, d2, t2⟩ := t1.uncons
    obtain ⟨v3, w3, e3, d3, t3⟩ := t2.uncons
    obtain ⟨v4, w4, e4, d4, t4⟩ := t3.uncons
    obtain ⟨v5, w5, e5, d5, t5⟩ := t4.uncons
    rw [t5.unnil] at e5
    rw [den_int d2] at e2
    rw [den_int d3] at e3
    rw [den_int d4] at e4
    rw [den_int d5] at e5
    subst e5 e4 e3 e2 e1
    obtain ⟨c, us, ev, s1, dxs⟩ := den_lst d1
    subst ev
    have q2 : (match intsD xs with | some ns => grd ((∀ n ∈ ns, 0 ≤ n) ∧ 0 ≤ i ∧ i ≤ ns.length ∧ 0 ≤ g ∧ 0 ≤ m ∧ 0 ≤ kk ∧ m < 2147483648) (ret D.hnd) | none => stk) QD B.E := q1
    cases ei : intsD xs with
    | none => rw [ei] at q2; exact (show False from q2).elim
    | some ns =>
      rw [ei] at q2
      obtain ⟨⟨b0, b1, b2, b3, b4, b5, b6⟩, q3⟩ := q2
      have exs : xs = ns.map D.int := intsD_eq ei
      rw [exs] at dxs
      have eus := dxs.ints
      obtain ⟨j, rfl⟩ : ∃ j : Nat, i = (j : Int) := ⟨i.toNat, by omega⟩
      have ob : ObjOk X.prog X.w (upd H3 p (HndO p c ns.length)) s'.heap p (HndO p c ns.length) := hnd_ok I3.hok hp (by omega) b3 b4 b5 b6
      have I4 := I3.un (h' := s'.heap) (t' := s'.toks) (Un_re (o := HndO p c ns.length) hp) (HOk_re I3.hok hp ob)
      refine ⟨.ref p, _, I4, rv, ?_⟩
      have sm : Same H1 (upd H1 p (HndO p c ns.length)) := fun b u e => by rw [upd_ne (ne_of_none e h0)]; exact e
      have nl : ∀ b o, H3 b = some o → (∀ xs, o ≠ .lst xs) → b ≠ p := fun b o e hu z => by rw [z, hp] at e; cases e; exact hu _ rfl
      refine fin .hnd _ (upd H1 p (HndO p c ns.length)) _ (x.trans ⟨fun b o e nt => ?_, fun b e => x2.nn b (NdefX.upd_none e), sm, fun b o e => ?_, fun b o e => ?_, fun q hq => ?_, x2.nt.upd (by intro _ z; cases z)⟩) ?_ q3
      · rw [upd_ne (ne_of_none e hn')]; exact x2.n b o e nt
      · by_cases z : b = p
        · rw [z, upd_same] at e ⊢; exact e
        · rw [upd_ne z] at e ⊢; exact x2.zz b o e
      · by_cases z : b = p
        · rw [z]; exact .inr hn'
        · rw [upd_ne z] at e; exact .inl e
      · obtain ⟨ps, t1, t2, t3⟩ := x2.tabs q hq
        refine ⟨ps, by rw [upd_ne (nl _ _ t1 (by intro _ z; cases z))]; exact t1, t2, fun pos cv hc => ?_⟩
        obtain ⟨c0, g1, g2⟩ := t3 pos cv hc
        exact ⟨c0, g1, by rw [upd_ne (nl _ _ g2 (by intro _ z; cases z))]; exact g2⟩
      · simp only [Den]
        refine ⟨p, rfl, c, ns, upd_same, ?_, b0⟩
        rw [← eus]
        exact sm _ _ s1
end
end DL
end
section
set_option Elab.async false
set_option linter.all false
set_option maxRecDepth 100000
set_option maxHeartbeats 2000000
set_option autoImplicit false
/-! DT2: the draw from a hand. -/
namespace DL
open PySem PySem.Spec L2 PyProof.Rows
section
variable {X : Cx} {B : Bx} {e ei : Expr} {we wi : DL.Env → W D} {pos p1 p2 p3 : Pos} {x : Str}
structure HndS where
  a : Addr
  c : Addr
  ns : List Int
  xs : List Int
def ownH (i : Nat) (ρ : DL.Env) : W HndS := match ρ[i]? with
  | some (.own (.hnd a c ns xs)) => ret ⟨a, c, ns, xs⟩
  | _ => stk
theorem ownH_of {i : Nat} {ρ : DL.Env} {Q : HndS → Prop} {E : DX → Prop} (h : ownH i ρ Q E) : ∃ a c ns xs, ρ[i]? = some (.own (.hnd a c ns xs)) ∧ Q ⟨a, c, ns, xs⟩ := by
  unfold ownH at h
  cases e : ρ[i]? with
  | none => rw [e] at h; exact (show False from h).elim
  | some s =>
    rw [e] at h
    cases s with
    | own o =>
      cases o with
      | hnd a c ns xs => exact ⟨a, c, ns, xs, rfl, h⟩
      | dic _ _ => exact (show False from h).elim
      | lst _ _ => exact (show False from h).elim
      | ins _ _ _ => exact (show False from h).elim
    | d x => exact (show False from h).elim
    | un => exact (show False from h).elim
    | exc x => exact (show False from h).elim
def hixD (z : HndS) : Nat → W D
  | 0 => ret (.lst (z.ns.map D.int))
  | k + 1 => optW (z.xs[k]?.map D.int)
theorem atI_nat {α : Type} {xs : List α} {k : Nat} {x : α} (h : xs[k]? = some x) : L2.atI xs (k : Int) = some x := by
  have hl : k < xs.length := (List.getElem?_eq_some_iff.mp h).1
  unfold L2.atI ixN
  rw [if_pos (by omega), if_pos (by omega)]
  exact h
/-- hand[k], k written -/
theorem de_hix (i : Nat) {k j : Nat} (hK : X.K = B.G.K) (hN : X.N[i]? = some x := by rfl) (hv : Vis X.env.scope x := by first | exact Or.inl rfl | exact Or.inr (Or.inl rfl) | exact Or.inr (Or.inr rfl)) (hd : (x == ("__debug__" : Str)) = false := by decide)
    (hcd : (x == ("__classdict__" : Str)) = false := by decide) (hs : PlainIx (.Constant (.int (k : Int)) j p2) := by exact fun _ _ => rfl) : DE X B (.Subscript (.Name x p1) (.Constant (.int (k : Int)) j p2) pos) (fun ρ => bnd (ownH i ρ) fun z => hixD z k) := by
  refine PE.imp (pe_ix ix_list (pe_var hN hv hd hcd) pe_int hs) fun σ H Q ⟨ρ, H0, QD, kk, q, h⟩ => ?_
  obtain ⟨a, c, ns, xs, z, q⟩ := ownH_of q
  obtain ⟨a', e1, h1, h2, h0, h3, h4⟩ := kk.own_at z
  subst h0
  cases k with
  | zero => exact ⟨.ref a, e1, a, _, 0, .ref c, rfl, rfl, .of h3, atI_nat (k := 0) rfl, h _ _ H0 H kk.refl (of_lst h4 (Dens.of_ints ns)) q⟩
  | succ k =>
    obtain ⟨d, ed, q⟩ := optW_of q
    cases w : xs[k]? with
    | none => rw [w] at ed; cases ed
    | some m =>
      rw [w] at ed
      cases ed
      refine ⟨.ref a, e1, a, _, _, .int m, rfl, rfl, .of h3, atI_nat (k := k + 1) (by rw [List.getElem?_cons_succ, List.getElem?_map, w]; rfl), h _ _ H0 H kk.refl of_int q⟩
def hsetD (i : Nat) (ρ : DL.Env) (z : HndS) (k : Nat) : D → W Out
  | .int m => grd (k < z.xs.length) (ret (.nx (ρ.set i (.own (.hnd z.a z.c z.ns (z.xs.set k m))))))
  | _ => stk
/-- hand[k+1] = e -/
theorem ds_hset (i : Nat) {k j : Nat} (he : DE X B e we) (hN : X.N[i]? = some x := by rfl) (hv : Vis X.env.scope x := by first | exact Or.inl rfl | exact Or.inr (Or.inl rfl) | exact Or.inr (Or.inr rfl)) (hd : (x == ("__debug__" : Str)) = false := by decide)
    (hcd : (x == ("__classdict__" : Str)) = false := by decide)
    (ha : ∀ v, assign (.Subscript (.Name x p1) (.Constant (.int ((k + 1 : Nat) : Int)) j p3) p2) X.env v = (do
      let ov ← holding [v] (eval (.Name x p1) X.env)
      let iv ← holding [v, ov] (eval (.Constant (.int ((k + 1 : Nat) : Int)) j p3) X.env)
      standAt p2
      holding [v, ov, iv] (setItem ov iv v)
      release [v, ov, iv] []) := by intro _; rfl)
    (hs : swapsWithSole [.Subscript (.Name x p1) (.Constant (.int ((k + 1 : Nat) : Int)) j p3) p2] e pos.line X.env = pure false := by rfl) (hw : swappedStores [.Subscript (.Name x p1) (.Constant (.int ((k + 1 : Nat) : Int)) j p3) p2] e X.env = pure none := by rfl)
    (h1 : (assignEach [.Subscript (.Name x p1) (.Constant (.int ((k + 1 : Nat) : Int)) j p3) p2] X.env).map (·.2) = [assign (.Subscript (.Name x p1) (.Constant (.int ((k + 1 : Nat) : Int)) j p3) p2) X.env] := by rfl) :
    DS X B (.Assign [.Subscript (.Name x p1) (.Constant (.int ((k + 1 : Nat) : Int)) j p3) p2] e pos) (fun ρ => bnd (we ρ) fun d => bnd (ownH i ρ) fun z => hsetD i ρ z k d) := by
  refine PS.imp (ps_asg he (pg_sub (pe_var hN hv hd hcd) pe_int set_list ha) hs hw h1) fun D σ H ⟨ρ, H0, QO, kk, q, h, _⟩ => ⟨ρ, H0, _, kk, q, fun d v H1 H2 x dd q1 => ?_⟩
  obtain ⟨a, c, ns, xs, z, q⟩ := ownH_of q1
  cases d <;> first | exact (show False from q).elim | skip
  rename_i m
  obtain ⟨hl, q⟩ := q
  have k2 := kk.later x
  obtain ⟨a', e1, h1, h2, h0, h3, h4⟩ := k2.own_at z
  subst h0
  simp only at hl q
  have hix : ixN (V.ref c :: xs.map V.int).length ((k + 1 : Nat) : Int) = some (k + 1) := by
    unfold ixN
    rw [if_pos (by omega), if_pos (by rw [List.length_cons, List.length_map]; omega)]
    rfl
  refine ⟨.ref a, e1, a, _, _, k + 1, rfl, rfl, h3, hix, ?_⟩
  refine h _ σ H1 _ (k2.own (o' := .hnd a c ns (xs.set k m)) z e1 ⟨rfl, ?_, h4⟩) x.z q
  rw [upd_same, List.set_cons_succ, den_int dd, List.map_set]
end
/-! ### the def -/
def drawS : List D → W D
  | [.hnd, .int m] => grd (0 < m ∧ m < 2 ^ 200) (anyW fun d => ∃ r, d = .int r ∧ 0 ≤ r ∧ r < m)
  | _ => stk
theorem draw_of {P : Program} {w : World} {G : Gx} {mg : Str → Option Value} {base : Heap} {x qual : Str} {pr : Arguments} {body : List Stmt} {sc : Scope} {f : Addr} {fd : FuncData} {N : List Str} {p1 p2 : Str} {k : Nat}
    (F : FunD G.K x qual pr body sc [] [] f fd) (S : FnScope N [p1, p2] sc) (hm : mg x = some (.ref f)) (hb : BindsBy x qual pr body sc [p1, p2]) (hn : 2 ≤ N.length)
    (hbody : ∀ (cdv : Value) (A : Around) (outer : List PySem.Env) (s0 : Shared) (H He Z : Hp), Room k (A.deeper (PyProof.Rows.envOfC qual sc s0.heap.objs.size f cdv)) →
      ∃ wb, DSs (cxOf (L2.CX P w) P w G.K mg base N qual sc f cdv A outer s0 H E0) ⟨G, He, Z, fun _ => False, E0⟩ body wb ∧ ∀ (a c : Addr) (ns : List Int) (i : Nat) (g m kk many : Int) (Q : Out → Prop), (∀ n ∈ ns, 0 ≤ n) → i ≤ ns.length → 0 ≤ g → 0 ≤ m → 0 ≤ kk → m < 2147483648 → 0 < many → many < 2 ^ 200 →
        (∀ (r : Int) (i' : Nat) (g' m' kk' : Int) (ρ : DL.Env), 0 ≤ r → r < many → i' ≤ ns.length → 0 ≤ g' → 0 ≤ m' → 0 ≤ kk' → m' < 2147483648 → ρ[0]? = some (.own (.hnd a c ns [(i' : Int), g', m', kk'])) → Q (.rt (.int r) ρ)) →
        wb (.own (.hnd a c ns [(i : Int), g, m, kk]) :: .d (.int many) :: List.replicate (N.length - 2) .un) Q (fun _ => False)) :
    FnH P w G mg base x 2 (k + 1) drawS := by
  -- the body's own promise
  obtain ⟨spB, eB⟩ : ∃ spB : Sp, spB = fun vs H Q E => E = E0 ∧ ∃ (a c : Addr) (ns : List Int) (i : Nat) (g m kk many : Int) (He Z : Hp), vs = [.ref a, .int many] ∧ (∀ n ∈ ns, 0 ≤ n) ∧ i ≤ ns.length ∧ 0 ≤ g ∧ 0 ≤ m ∧ 0 ≤ kk ∧ m < 2147483648 ∧ 0 < many ∧ many < 2 ^ 200 ∧
      He a = none ∧ Z a = none ∧ H a = some (.lst (.ref c :: [(i : Int), g, m, kk].map V.int)) ∧ Z c = some (.lst (ns.map V.int)) ∧ Ext G.T Z He Z H ∧
      (∀ (r : Int) (i' : Nat) (g' m' kk' : Int) (H0' H' : Hp), 0 ≤ r → r < many → i' ≤ ns.length → 0 ≤ g' → 0 ≤ m' → 0 ≤ kk' → m' < 2147483648 → H' a = some (.lst (.ref c :: [(i' : Int), g', m', kk'].map V.int)) → H0' a = none → Ext G.T Z He H0' H' → Q (.int r) H') := ⟨_, rfl⟩
  have FB : FnOk P w G.K mg base (L2.CX P w) (k + 1) f fd [p1, p2] spB := by
    refine F.ok S (fun vs H Q E h => ?_) fun cdv A outer s0 H vs Q E hr h => ?_
    · rw [eB] at h
      obtain ⟨_, a, c, ns, i, g, m, kk, many, He, Z, e, _⟩ := h
      rw [e]
      rfl
    · rw [eB] at h
      obtain ⟨eE, a, c, ns, i, g, m, kk, many, He, Z, e, b1, b2, b3, b4, b5, b6, b7, b7', hHe, hZ, hH, hc, hx, fin⟩ := h
      subst eE
      obtain ⟨wb, h1, h2⟩ := hbody cdv A outer s0 H He Z hr
      refine ⟨_, h1, _, Z, _, (?_ : Ok ⟨G, He, Z, fun _ => False, E0⟩ (.own (.hnd a c ns [(i : Int), g, m, kk]) :: .d (.int many) :: List.replicate (N.length - 2) .un) (start N vs) Z H), h2 a c ns i g m kk many (fun o => ∃ (r : Int) (i' : Nat) (g' m' kk' : Int) (ρ : DL.Env), o = .rt (.int r) ρ ∧ 0 ≤ r ∧ r < many ∧ i' ≤ ns.length ∧ 0 ≤ g' ∧ 0 ≤ m' ∧ 0 ≤ kk' ∧ m' < 2147483648 ∧ ρ[0]? = some (.own (.hnd a c ns [(i' : Int), g', m', kk']))) b1 b2 b3 b4 b5 b6 b7 b7'
        (fun r i' g' m' kk' ρ c1 c2 c3 c4 c5 c6 c7 c8 => ⟨r, i', g', m', kk', ρ, rfl, c1, c2, c3, c4, c5, c6, c7, c8⟩), ?_, ?_, ?_, ?_⟩
      · have es : start N vs = some (.ref a) :: some (.int many) :: List.replicate (N.length - 2) none := by rw [e]; rfl
        rw [es]
        refine ⟨hx, by simp, fun j s ej => ?_, fun j l o p b e1 e2 e3 e4 => ?_⟩
        · match j, ej with
          | 0, ej =>
            cases ej
            exact ⟨_, rfl, a, rfl, hHe, hZ, rfl, hH, hc⟩
          | 1, ej =>
            cases ej
            exact ⟨_, rfl, _, rfl, of_int⟩
          | j + 2, ej =>
            have ej' : (List.replicate (N.length - 2) Sl.un)[j]? = some s := by simpa using ej
            have hl := (List.getElem?_eq_some_iff.mp ej').1
            have he := (List.getElem?_eq_some_iff.mp ej').2
            rw [List.getElem_replicate] at he
            subst he
            refine ⟨none, ?_, trivial⟩
            show (List.replicate (N.length - 2) (none : Option V))[j]? = _
            rw [List.getElem?_replicate, if_pos (by simpa using hl)]
        · have no : ∀ (j : Nat) (p : OD), (Sl.own (.hnd a c ns [(i : Int), g, m, kk]) :: Sl.d (.int many) :: List.replicate (N.length - 2) Sl.un)[j]? = some (.own p) → j = 0 := fun j p ej => by
            match j, ej with
            | 0, _ => rfl
            | 1, ej => cases ej
            | j + 2, ej =>
              have ej' : (List.replicate (N.length - 2) Sl.un)[j]? = some (.own p) := by simpa using ej
              have he := (List.getElem?_eq_some_iff.mp ej').2
              rw [List.getElem_replicate] at he
              cases he
          rw [no j o e1, no l p e2]
      · intro ρ' σ' H0' H' k' _ q'
        obtain ⟨_, _, _, _, _, _, z, _⟩ := q'
        cases z
      · intro d v ρ' σ' H0' H' k' d' q'
        obtain ⟨r, i', g', m', kk', ρ, z, c1, c2, c3, c4, c5, c6, c7, c8⟩ := q'
        cases z
        rw [den_int d']
        obtain ⟨a', e1, r1, r2, r3, r4, r5⟩ := k'.own_at c8
        subst r3
        exact fin r i' g' m' kk' H0' H' c1 c2 c3 c4 c5 c6 c7 r4 r2 k'.ext
      · intro ρ' σ' H0' H' k' _ q'
        obtain ⟨_, _, _, _, _, _, z, _⟩ := q'
        cases z
      · intro ρ' σ' H0' H' k' _ q'
        obtain ⟨_, _, _, _, _, _, z, _⟩ := q'
        cases z
  refine ⟨f, fd, [p1, p2], rfl, hm, F.kp, F.bindsN hb, fun vs H Q E ⟨_, _, _, _, h, _⟩ => h, fun A outer s H args us vs Q E hr e0 hbd rv hsp => ?_⟩
  obtain ⟨H0, ds, QD, ED, l, st, dd, q, fin, _⟩ := hsp
  match ds, q, dd with
  | [.hnd, .int many], q, dd =>
    obtain ⟨⟨b7, b7'⟩, q⟩ := q
    obtain ⟨v1, w1, e1, d1, t1⟩ := dd.uncons
    obtain ⟨v2, w2, e2, d2, t2⟩ := t1.uncons
    rw [t2.unnil, den_int d2] at e2
    subst e2
    simp only [Den] at d1
    obtain ⟨a, ev, c, ns, g1, g2, b1⟩ := d1
    subst ev
    have hA : H a = some (HndO a c ns.length) := st.z _ _ g1
    obtain ⟨⟨i, g, m, kk, t2', t3', t4', t5', qq, ho, b2, b3, b4, b5, b6⟩, _, _⟩ := e0.hok a _ hA
    have nca : c ≠ a := fun z => by rw [z, g1] at g2; cases g2
    -- the heap with the hand as a list
    obtain ⟨H1, eH1⟩ : ∃ H1, H1 = upd H a (.lst (.ref c :: [(i : Int), g, m, kk].map V.int)) := ⟨_, rfl⟩
    have at1 : H1 a = some (.lst (.ref c :: [(i : Int), g, m, kk].map V.int)) := by rw [eH1]; exact upd_same
    have ne1 : ∀ b, b ≠ a → H1 b = H b := fun b z => by rw [eH1]; exact upd_ne z
    have na : ∀ b o, H b = some o → (∀ φ, o ≠ .ext φ) → b ≠ a := fun b o e n z => by rw [z, hA] at e; cases e; exact n _ rfl
    have ok1 : HOk P w H1 s.heap := fun b u eb => by
      by_cases z : b = a
      · subst z
        rw [at1] at eb
        cases eb
        exact ⟨by rw [sizeLine_eq]; simp, [.ref c, .int i t2', .int g t3', .int m t4', .int kk t5'], qq, .cons rfl (.cons ⟨_, rfl⟩ (.cons ⟨_, rfl⟩ (.cons ⟨_, rfl⟩ (.cons ⟨_, rfl⟩ .nil)))), ho⟩
      · rw [ne1 b z] at eb
        exact (e0.hok b u eb).stay (fun _ _ _ q => q) (fun d q => by rw [ne1 d (na d _ q (by intro _ z; cases z))]; exact q) fun d ys q => by rw [ne1 d (na d _ q (by intro _ z; cases z))]; exact q
    have nn1 : ∀ b, H b = none → H1 b = none := fun b e => (ne1 b fun z => by rw [z, hA] at e; cases e).trans e
    have e01 : Env0 P w G.K mg base A outer s H1 := ⟨e0.frames, e0.mod, fun b o e => ⟨(e0.bs b o e).1, nn1 b (e0.bs b o e).2⟩, e0.bsz, e0.funs, fun b hb => nn1 b (e0.frf b hb), ok1, e0.bare⟩
    obtain ⟨Z, eZ⟩ : ∃ Z : Hp, Z = less (fun b => b = a) H0 := ⟨_, rfl⟩
    obtain ⟨He, eHe⟩ : ∃ He : Hp, He = less (fun b => b = a) H := ⟨_, rfl⟩
    have Za : Z a = none := by rw [eZ]; exact less_in rfl
    have Hea : He a = none := by rw [eHe]; exact less_in rfl
    have Zs : ∀ b o, Z b = some o → b ≠ a ∧ H0 b = some o := fun b o e => by rw [eZ] at e; exact less_some e
    have Hes : ∀ b, b ≠ a → He b = H b := fun b z => by rw [eHe]; exact less_out z
    have x1 : Ext G.T Z He Z H1 := ⟨fun b o e _ => by
        rw [eHe] at e
        obtain ⟨z, e⟩ := less_some e
        rw [ne1 b z]; exact e, fun b e => by
        by_cases z : b = a
        · rw [z]; exact Hea
        · rw [Hes b z, ← ne1 b z]; exact e, .refl _, fun b o e => by
        obtain ⟨z, e⟩ := Zs b o e
        rw [ne1 b z]; exact st.z b o e, fun b o e => .inl e, fun p hp => by
        obtain ⟨ps, t1, t2, t3⟩ := st.tabs p hp
        refine ⟨ps, by rw [ne1 _ (na _ _ t1 (by intro _ z; cases z))]; exact t1, t2, fun pos cv hc => ?_⟩
        obtain ⟨c0, f1, f2⟩ := t3 pos cv hc
        refine ⟨c0, f1, ?_⟩
        by_cases z : c0 = a
        · exfalso
          obtain ⟨oc, cvs, ct, y1, y2, _⟩ := (e0.hok c0 _ f2).1
          rw [z, ho] at y1
          cases y1
          cases y2
        · rw [ne1 _ z]; exact f2, fun b ps e => st.nt b ps (Zs b _ e).2⟩
    have Zc : Z c = some (.lst (ns.map V.int)) := by rw [eZ]; exact (less_out (p := fun b => b = a) nca).trans g2
    have run := FB.run A outer s H1 args us _ (fun v H' => ∃ (r : Int) (i' : Nat) (g' m' kk' : Int) (H0' : Hp), v = .int r ∧ 0 ≤ r ∧ r < many ∧ i' ≤ ns.length ∧ 0 ≤ g' ∧ 0 ≤ m' ∧ 0 ≤ kk' ∧ m' < 2147483648 ∧ H' a = some (.lst (.ref c :: [(i' : Int), g', m', kk'].map V.int)) ∧ H0' a = none ∧ Ext G.T Z He H0' H') E0 hr e01 hbd rv (by
      rw [eB, e1]
      exact ⟨rfl, a, c, ns, i, g, m, kk, many, He, Z, rfl, b1, b2, b3, b4, b5, b6, b7, b7', Hea, Za, at1, Zc, x1, fun r i' g' m' kk' H0' H' c1 c2 c3 c4 c5 c6 c7 c8 c9 c10 => ⟨r, i', g', m', kk', H0', rfl, c1, c2, c3, c4, c5, c6, c7, c8, c9, c10⟩⟩)
    refine codeAny_mono run fun r' s' hq => ?_
    cases r' with
    | error e =>
      obtain ⟨_, _, _, _, _, _, _, _, _, _, _, _, z⟩ := hq
      exact z.elim
    | ok fl =>
      cases fl with
      | next => exact False.elim hq
      | brk => exact False.elim hq
      | cont => exact False.elim hq
      | ret u =>
        obtain ⟨v, H', os, bare, un, ok', rv', r, i', g', m', kk', H0', rfl, c1, c2, c3, c4, c5, c6, c7, c8, c9, x'⟩ := hq
        have ob : ObjOk P w (upd H' a (HndO a c ns.length)) s'.heap a (HndO a c ns.length) := hnd_ok ok' c8 c3 c4 c5 c6 c7
        have nl : ∀ b o, H' b = some o → (∀ xs, o ≠ .lst xs) → b ≠ a := fun b o e hu z => by rw [z, c8] at e; cases e; exact hu _ rfl
        refine ⟨.int r, upd H' a (HndO a c ns.length), os, bare, ?_, HOk_re ok' c8 ob, rv', ?_⟩
        · refine ⟨fun b o g e hb hx => un.keep b o g (nn1 b e) hb hx, fun b o g e hb hx => un.slot b o g (nn1 b e) hb hx, fun b o g e hx => ?_, un.there, fun b xs e => ?_, fun b o u e => ?_, fun b ps e => ?_⟩
          · rw [upd_ne (fun z => by rw [z, hA] at e; cases e)]
            exact un.free b o g (nn1 b e) hx
          · have n := na b _ e (by intro _ z; cases z)
            rw [upd_ne n]
            exact un.tups b xs (by rw [ne1 b n]; exact e)
          · have n := na b _ e (by intro _ z; cases z)
            rw [upd_ne n]
            exact un.frzs b o u (by rw [ne1 b n]; exact e)
          · have n := na b _ e (by intro _ z; cases z)
            obtain ⟨mo, z⟩ := un.tbls b ps (by rw [ne1 b n]; exact e)
            exact ⟨mo, by rw [upd_ne n]; exact z⟩
        · refine fin (.int r) _ (upd H0' a (HndO a c ns.length)) _ ⟨fun b o e nt => ?_, fun b e => ?_, fun b o e => ?_, fun b o e => ?_, fun b o e => ?_, fun p hp => ?_, x'.nt.upd (by intro _ z; cases z)⟩ of_int (q (.int r) ⟨r, rfl, c1, c2⟩)
          · by_cases z : b = a
            · rw [z, hA] at e; cases e; rw [z]; exact upd_same
            · rw [upd_ne z]; exact x'.n b o (by rw [Hes b z]; exact e) nt
          · by_cases z : b = a
            · rw [z, upd_same] at e; cases e
            · rw [upd_ne z] at e
              have := x'.nn b e
              rw [Hes b z] at this
              exact this
          · by_cases z : b = a
            · rw [z, g1] at e; cases e; rw [z]; exact upd_same
            · rw [upd_ne z]; exact x'.z b o (by rw [eZ]; exact (less_out (p := fun b => b = a) z).trans e)
          · by_cases z : b = a
            · rw [z, upd_same] at e ⊢; exact e
            · rw [upd_ne z] at e ⊢; exact x'.zz b o e
          · by_cases z : b = a
            · rw [z, upd_same] at e; cases e; rw [z]; exact .inl g1
            · rw [upd_ne z] at e
              rcases x'.fr b o e with y | y
              · exact .inl (Zs b o y).2
              · rw [Hes b z] at y; exact .inr y
          · obtain ⟨ps, t1, t2, t3⟩ := x'.tabs p hp
            refine ⟨ps, by rw [upd_ne (nl _ _ t1 (by intro _ z; cases z))]; exact t1, t2, fun pos cv hc => ?_⟩
            obtain ⟨c0, f1, f2⟩ := t3 pos cv hc
            exact ⟨c0, f1, by rw [upd_ne (nl _ _ f2 (by intro _ z; cases z))]; exact f2⟩
end DL
end
section
set_option Elab.async false
set_option linter.all false
set_option maxRecDepth 100000
set_option maxHeartbeats 2000000
set_option autoImplicit false
/-! DE1: enumerate of a tuple. -/
namespace DL
open PySem PySem.Spec L2 PyProof.Rows
open AutoSeq1 (wpAny_loadPart')
theorem meets_enumerate_newT (l : Addr) (items : Array Value) (n : Nat) (dct : Option Addr) (sl : Array (Option Value)) :
    Meets (Builtin.«enumerate.__new__» ⟨[.type "enumerate", .ref l], []⟩) (fun _ R s => s.heap.get? l = some { cls := .type "tuple", dict := dct, data := .seq items n, slots := sl } ∧
      R (.ok (.ret (.ref (s.heap.push { cls := .type "tuple_iterator", data := .fields #[.ref l, .int 0 0] }).objs.size)))
        { s with heap := (s.heap.push { cls := .type "tuple_iterator", data := .fields #[.ref l, .int 0 0] }).push { cls := .type "enumerate", data := .fields #[.none, .bool false, .ref s.heap.objs.size, rawInt 0, .none, .none] } }) :=
  .of_wp fun prog w A R s h => by
    obtain ⟨hp, g, d, tk, os⟩ := s; obtain ⟨hl, h⟩ := h
    have hsub := sub_enumerate
    have hL : Heap.IsTuple (Shared.heap ⟨hp, g, d, tk, os⟩) l items := ⟨_, hl, rfl, n, rfl⟩
    wp_walk using wpAny_loadPart' hl
    refine wpAny_stack_any fun st => wpAny_pure ?_
    split
    · rename_i c _ _ _ _ _
      cases (c == Value.type "enumerate")
      · wp_walk using wpAny_loadPart' hl, wpAny_pyIter_tuple hL
        exact ⟨_, rfl, h⟩
      · wp_walk using wpAny_loadPart' hl, wpAny_pyIter_tuple hL
        exact ⟨_, rfl, h⟩
    · wp_walk using wpAny_loadPart' hl, wpAny_pyIter_tuple hL
      exact ⟨_, rfl, h⟩
section
variable {prog : Program} {w : World} {A : Around} {E : Value → Shared → Prop} {s : Shared}
theorem call_enumerate_tuple {l : Addr} {items : Array Value} {Q : Value → Shared → Prop} (hL : s.heap.IsTuple l items)
    (h : ∀ h', IsEnum h' (s.heap.objs.size + 1) s.heap.objs.size 0 .none → h'.IsTupleIter s.heap.objs.size l 0 → h'.objs.size = s.heap.objs.size + 2 →
      (∀ b o, s.heap.get? b = some o → h'.get? b = some o) → Q (.ref (s.heap.objs.size + 1)) { s with heap := h' }) :
    wpAny (model prog w) A (call (.type "enumerate") [.ref l]) Q E s := by
  obtain ⟨⟨c, dct, dt, sl⟩, hl, hc, n, hd⟩ := hL
  replace hc : c = .type "tuple" := hc
  replace hd : dt = .seq items n := hd
  subst hc hd
  refine callType_new F.called_enumerate (by decide) (F.typeCall_enumerate_1 _) (F.newCall_enumerate_1 _) (fun obj => F.args_object_init_2 obj _) F.entry_enumerate_new
    (meets_enumerate_newT l items n dct sl) ⟨hl, ?_⟩
  have hz : (s.heap.push { cls := .type "tuple_iterator", data := .fields #[.ref l, .int 0 0] }).objs.size = s.heap.objs.size + 1 := Heap.size_push ..
  show _ ∧ _
  rw [hz]
  have he : IsEnum ((s.heap.push { cls := .type "tuple_iterator", data := .fields #[.ref l, .int 0 0] }).push
      { cls := .type "enumerate", data := .fields #[.none, .bool false, .ref s.heap.objs.size, rawInt 0, .none, .none] }) (s.heap.objs.size + 1) s.heap.objs.size 0 .none := by
    have := Heap.get?_push_size (s.heap.push { cls := .type "tuple_iterator", data := .fields #[.ref l, .int 0 0] })
      (o := { cls := .type "enumerate", data := .fields #[.none, .bool false, .ref s.heap.objs.size, rawInt 0, .none, .none] }) rfl
    rw [hz] at this; exact this
  refine ⟨⟨_, he, rfl⟩, h _ he ⟨_, Heap.get?_push_of_some _ (Heap.get?_push_size _ rfl), rfl, rfl⟩ (by rw [Heap.size_push, hz]) fun b o x => Heap.get?_push_of_some _ (Heap.get?_push_of_some _ x)⟩
end
/-- the tuple at a, each item in a new pair -/
def ItT (K : PySem.W.Frag) (a : Addr) : It :=
  ⟨fun i H => ∃ (xs : List V) (x : V), SqT K H a xs ∧ xs[i]? = some x, fun i H v H' => ∃ T x, v = .ref T ∧ H T = none ∧ H' = upd H T (.tup [.int (i : Nat), x]) ∧ ∀ xs, SqT K H a xs → xs[i]? = some x, fun i H => ∃ xs : List V, SqT K H a xs ∧ xs.length ≤ i⟩
theorem turn_enumT {P : Program} {w : World} {K : PySem.W.Frag} {elts : List Expr} {kk : Nat} {tpos : Pos} (a e it : Addr) :
    Turn P w K (.Tuple elts kk tpos) (ItT K a) [e, it] e (fun i h => (∃ old, IsEnum h e it ((i : Nat) : Int) old) ∧ h.IsTupleIter it a i ∧ e ≠ it ∧ a ≠ it ∧ a ≠ e) where
  mem := by simp
  obj := fun i h st b hb => by
    obtain ⟨⟨old, he⟩, ⟨o, ho, hc, hd⟩, _⟩ := st
    have e' : b = e ∨ b = it := by simpa using hb
    rcases e' with z | z
    · rw [z]; exact ⟨_, he, fun v q => nomatch q⟩
    · rw [z]; exact ⟨o, ho, fun v q => by rw [hd] at q; cases q⟩
  keep := fun i h h' st k => let ⟨⟨old, he⟩, hi, hne⟩ := st; ⟨⟨old, k e (by simp) _ he⟩, hi.at fun o q => k it (by simp) o q, hne⟩
  item := by
    intro X hP hw hK hc i pins s σ H E I hf st hg
    subst hP hw hK
    obtain ⟨⟨old, he⟩, hit, hne, hai, hae⟩ := st
    obtain ⟨xs, x, hq, hx⟩ := hg
    obtain ⟨its, rv, p, hz⟩ := I.tuple hq
    obtain ⟨u, hu, ru⟩ := rv.get hx
    have hel : e < s.heap.objs.size := Heap.lt_size he
    have hil : it < s.heap.objs.size := by obtain ⟨_, q, _⟩ := hit; exact Heap.lt_size q
    have hlt : i < its.toArray.size := by
      have := (List.getElem?_eq_some_iff.mp hu).1
      simpa using this
    refine wpAny_pyNext_enum_itemD (Draws.tuple (A := X.A.in1) (I.ok.hd hc) it a hai its.toArray) he ⟨hit, p⟩ hlt hne (by simp; exact ⟨hne, fun z => hae z.symm⟩) fun x' h' tk hx' ho st' hT hsz hk => ?_
    have ex : x' = u := by
      have : its.toArray[i]? = some u := by simpa using hu
      rw [this] at hx'
      exact (Option.some.inj hx').symm
    subst ex
    refine ⟨_, rfl, wpAny_letOwnedTupleGo_enum (s := { s with heap := h', toks := tk + 1 }) ho fun h'' he' sb => ?_⟩
    have hT2 : h''.get? s.heap.objs.size = some { cls := .type "tuple", data := .seq #[.int i tk, x'] } := (sb.2 _ (Nat.ne_of_gt hel)).trans hT
    have new : ObjOk X.prog X.w (upd H s.heap.objs.size (.tup [.int (i : Nat), x])) h'' s.heap.objs.size (.tup [.int (i : Nat), x]) :=
      ⟨by show 2 ≤ sizeLine; decide, [.int i tk, x'], .cons ⟨_, rfl⟩ (.cons ru .nil), ⟨_, hT2, rfl, _, rfl⟩⟩
    have I1 : Inv X pins σ (upd H s.heap.objs.size (.tup [.int (i : Nat), x])) { s with heap := h'', toks := tk + 1 } :=
      I.turnedNew (ch := [e, it]) (fun b ob hb q => (sb.2 b (fun z => hb (by simp [z]))).trans (hk b ob (fun z => hb (by simp [z])) (fun z => hb (by simp [z])) q)) hf (Nat.le_refl _) new
    refine ⟨.ref s.heap.objs.size, _, I1, rfl, ⟨_, x, rfl, I.hok.fresh (Nat.le_refl _), rfl, fun ys hy => by rw [I.tuple_inj hy hq]; exact hx⟩, ⟨⟨x', ?_⟩, st'.1.at fun o q => (sb.2 it (Ne.symm hne)).trans q, hne, hai, hae⟩, fun b hb => ?_⟩
    · have e1 : ((i + 1 : Nat) : Int) = (i : Int) + 1 := by omega
      rw [e1]; exact he'
    · have hb' : b < s.heap.objs.size := by
        have e' : b = e ∨ b = it := by simpa using hb
        rcases e' with z | z
        · rw [z]; exact hel
        · rw [z]; exact hil
      rw [upd_ne (Nat.ne_of_lt hb')]
      exact (hf b hb).1
  done := by
    intro X hP hw hK hc i pins s σ H E I hf st hg
    subst hP hw hK
    obtain ⟨⟨old, he⟩, hit, hne, hai, hae⟩ := st
    obtain ⟨xs, hq, hx⟩ := hg
    obtain ⟨its, rv, p, hz⟩ := I.tuple hq
    obtain ⟨f0, f1, f2, f3, f4, f5⟩ := hf it (by simp)
    have hl := rv.length
    have D : Draws X.prog X.w X.A.in1 it [it, a] i (fun i v => its.toArray[i]? = some v) (fun j h => j = i ∧ h.IsTupleIter it a j ∧ h.IsTuple a its.toArray) := {
      live := fun _ _ st => let ⟨o, ho, _⟩ := st.2.1; ⟨o, ho⟩
      frame := fun _ _ _ st hk => ⟨st.1, st.2.1.at fun o e => hk it (by simp) o e, st.2.2.at fun o e => hk a (by simp) o e⟩
      item := fun j s Q E hj st hQ => absurd st.1 (Nat.ne_of_lt hj)
      done := fun s Q E st hE => wpAny_nextOf_tuple_end (show X.A.in1.handled = none from I.ok.hd hc) st.2.1 st.2.2 (by simp; omega) hE }
    exact wpAny_pyNext_enum_endD D he ⟨rfl, hit, p⟩ fun h' eb => ⟨rfl, I.turned (t' := s.toks) (fun b o hb q => eb b o hb q) f0 f1 f3 f4 f5⟩
  self := fun A i s Q E st h => let ⟨⟨_, he⟩, _⟩ := st; wpAny_pyIter_enum he h
def iEnumT (K : PySem.W.Frag) (ta : TA) : TI := fun σ H R => ta σ H fun vs H1 => ∃ a xs, vs = [.ref a] ∧ ((SqL K H1 a xs ∧ R (Ite K a) H1) ∨ (SqT K H1 a xs ∧ R (ItT K a) H1))
theorem pi_enumT {X : Cx} {e : Expr} {ta : TA} {p pos tpos : Pos} {elts : List Expr} {kk : Nat} (hg : Gl X "enumerate") (hm : X.mg "enumerate" = none) (ha : PA X [e] ta) (hs : starEach [e] X.env = [(false, eval e X.env)] := by rfl) :
    PI X (.Tuple elts kk tpos) (.Call (.Name "enumerate" p) [e] [] pos) (iEnumT X.K ta) := by
  refine ⟨fun pins s σ H R I h => ?_⟩
  refine Call_ (ld_blt I hg hm boot_enumerate (PyProof.Rows.callWith_type1 (thn (ha.run pos pins s σ H _ I h) fun us s1 ⟨vs, H1, I1, r1, q1⟩ => ?_) hs rfl))
  obtain ⟨a, xs, ex, q⟩ := q1
  subst ex
  cases r1 with
  | cons r rr =>
    cases rr
    cases r
    rcases q with ⟨hq, q⟩ | ⟨hq, q⟩
    · obtain ⟨its, rv, p', hz⟩ := I1.list hq
      refine call_enumerate_list p'.isList fun h' he hit hsz hk => wpAny_pyIter_enum he ?_
      have I2 : Inv X pins σ H1 { s1 with heap := h' } := I1.kept (t' := s1.toks) hk
      refine ⟨s1.heap.objs.size + 1, [s1.heap.objs.size + 1, s1.heap.objs.size], _, _, H1, rfl, I2, turn_enum a (s1.heap.objs.size + 1) s1.heap.objs.size, ⟨⟨.none, he⟩, hit, Nat.succ_ne_self _⟩, fun b hb => ?_, q⟩
      have e' : b = s1.heap.objs.size + 1 ∨ b = s1.heap.objs.size := by simpa using hb
      have hle : s1.heap.objs.size ≤ b := by
        rcases e' with z | z
        · rw [z]; exact Nat.le_add_right _ _
        · rw [z]; exact Nat.le_refl _
      exact I1.fpOk hle (I1.hok.fresh hle)
    · obtain ⟨its, rv, p', hz⟩ := I1.tuple hq
      have la : a < s1.heap.objs.size := p'.lt
      refine call_enumerate_tuple p' fun h' he hit hsz hk => wpAny_pyIter_enum he ?_
      have I2 : Inv X pins σ H1 { s1 with heap := h' } := I1.kept (t' := s1.toks) hk
      refine ⟨s1.heap.objs.size + 1, [s1.heap.objs.size + 1, s1.heap.objs.size], _, _, H1, rfl, I2, turn_enumT a (s1.heap.objs.size + 1) s1.heap.objs.size, ⟨⟨.none, he⟩, hit, Nat.succ_ne_self _, Nat.ne_of_lt la, Nat.ne_of_lt (Nat.lt_succ_of_lt la)⟩, fun b hb => ?_, q⟩
      have e' : b = s1.heap.objs.size + 1 ∨ b = s1.heap.objs.size := by simpa using hb
      have hle : s1.heap.objs.size ≤ b := by
        rcases e' with z | z
        · rw [z]; exact Nat.le_add_right _ _
        · rw [z]; exact Nat.le_refl _
      exact I1.fpOk hle (I1.hok.fresh hle)
section
variable {G : Gx} {H0 : Hp}
theorem itOk_enumT {a : Addr} {vs : List V} {ds : List D} (h : SqT G.K H0 a vs) (dd : Dens G H0 ds vs) : ItOk G H0 (ItT G.K a) (enumD ds) where
  go := fun i H hi s => by
    have hi : i < ds.length := by simpa [enumD] using hi
    exact ⟨vs, vs[i]'(by rw [← dd.length]; exact hi), SqT.same s h, by simp⟩
  stop := fun H s => ⟨vs, SqT.same s h, by rw [← dd.length]; simp [enumD]⟩
  yld := fun i H1 H x H' d s st e ⟨T, x', e1, hT, e2, y⟩ => by
    obtain ⟨d', q1, q2⟩ := enumD_get e
    obtain ⟨v, h1, h2⟩ := dd.get q1
    have h3 := y vs (SqT.same (s.trans st.z) h)
    rw [h1] at h3
    cases h3
    rw [e1, q2]
    exact pair_new st hT e2 of_int (h2.same s)
def enumS : List D → W (List D)
  | [.lst xs] => ret (enumD xs)
  | [.tup xs] => ret (enumD xs)
  | _ => stk
end
section
variable {X : Cx} {B : Bx} {e : Expr} {p pos : Pos}
theorem di_enum {w : DL.Env → W (List D)} {elts : List Expr} {kk : Nat} {tpos : Pos} (hK : X.K = B.G.K) (hg : Gl X "enumerate") (hm : X.mg "enumerate" = none) (ha : DA X B 1 [e] w) (hs : starEach [e] X.env = [(false, eval e X.env)] := by rfl) :
    DI X B (.Tuple elts kk tpos) (.Call (.Name "enumerate" p) [e] [] pos) (fun ρ => bnd (w ρ) enumS) := by
  refine PI.imp (pi_enumT hg hm ha hs) fun σ H R ⟨ρ, H0, QL, k, q, h⟩ => ⟨ρ, H0, _, k, q, fun ds vs H1 H2 x dd l q1 => ?_⟩
  match ds, q1 with
  | [.lst xs], q1 =>
    obtain ⟨v, e, d1⟩ := dens1 dd
    obtain ⟨a, us, e1, s, d2⟩ := den_lst d1
    refine ⟨a, us, by rw [e, e1], .inl ⟨.of (x.zz _ _ s), ?_⟩⟩
    rw [hK]
    exact h _ _ H1 H2 x (itOk_enum s d2) q1
  | [.tup xs], q1 =>
    obtain ⟨v, e, d1⟩ := dens1 dd
    obtain ⟨a, us, e1, s, d2⟩ := den_tup d1
    refine ⟨a, us, by rw [e, e1], .inr ⟨by rw [hK]; exact SqT.same x.zz s, ?_⟩⟩
    rw [hK]
    exact h _ _ H1 H2 x (itOk_enumT s d2) q1
end
end DL
end
section
set_option Elab.async false
set_option linter.all false
set_option maxRecDepth 100000
set_option maxHeartbeats 2000000
set_option autoImplicit false
/-! DV: what a generated walk leans on. -/
namespace DL
open PySem PySem.Spec L2 PyProof.Rows
/-! ### parts of the text -/
def xdef : Expr := .Constant .none 0 ⟨0, 0, 0, 0⟩
def clsBody : Stmt → List Stmt
  | .ClassDef _ _ _ b _ _ _ _ _ _ _ => b
  | _ => []
def xAt (i : Nat) (ss : List Stmt) : Stmt := ss.getD i (.Pass ⟨0, 0, 0, 0⟩)
def xRet : Stmt → Expr
  | .Return (some e) _ => e
  | _ => xdef
def xExp : Stmt → Expr
  | .Expr e _ => e
  | _ => xdef
def xAsg : Stmt → Expr
  | .Assign _ e _ => e
  | _ => xdef
def xBody : Stmt → List Stmt
  | .If _ b _ _ => b
  | .While _ b _ _ => b
  | .For _ _ b _ _ => b
  | _ => []
def xElse : Stmt → List Stmt
  | .If _ _ b _ => b
  | _ => []
def xArg (i : Nat) : Expr → Expr
  | .Call _ es _ _ => es.getD i xdef
  | _ => xdef
def lamA : Expr → Arguments
  | .Lambda a _ _ _ => a
  | _ => { posonlyargs := [], args := [], vararg := none, kwonlyargs := [], kw_defaults := [], kwarg := none, defaults := [] }
def lamB : Expr → Expr
  | .Lambda _ b _ _ => b
  | _ => xdef
def lamS : Expr → Scope
  | .Lambda _ _ s _ => s
  | _ => { kind := .function, names := [], isGenerator := false, isCoroutine := false }
def nmOf (l : List ((Nat × Nat) × Str)) (a b : Nat) : Str := (l.lookup (a, b)).getD ""
/-! ### rooms -/
theorem LamOk.mono {P : Program} {w : World} {G : Gx} {mg : Str → Option Value} {base : Heap} {j k n : Nat} (h : LamOk P w G mg base j n) (hk : j ≤ k) : LamOk P w G mg base k n :=
  fun A outer s H us vs Q f ws H0 cs ds QD hr => h A outer s H us vs Q f ws H0 cs ds QD (hr.mono hk)
def CloH (P : Program) (w : World) (G : Gx) (mg : Str → Option Value) (base : Heap) (k : Nat) : Prop := ∀ j cs ds Q E, G.cloW j cs ds Q E → LamOk P w G mg base k j
theorem CloH.mono {P : Program} {w : World} {G : Gx} {mg : Str → Option Value} {base : Heap} {j k : Nat} (h : CloH P w G mg base j) (hk : j ≤ k) : CloH P w G mg base k := fun i cs ds Q E q => (h i cs ds Q E q).mono hk
theorem MtH.mono {P : Program} {w : World} {G : Gx} {mg : Str → Option Value} {base : Heap} {c n j k : Nat} {m : Str} {s : List D → W D} (h : MtH P w G mg base c m n j s) (hk : j ≤ k) : MtH P w G mg base c m n k s :=
  let ⟨f, fd, ps, h1, h2, h3, h4, h5, h6⟩ := h.ex
  ⟨f, fd, ps, h1, h2, h3, h4, h5, h6.mono hk⟩
theorem MtH.imp {P : Program} {w : World} {G : Gx} {mg : Str → Option Value} {base : Heap} {c n k : Nat} {m : Str} {s s' : List D → W D} (F : MtH P w G mg base c m n k s) (h : ∀ ds Q E, s' ds Q E → s ds Q E) : MtH P w G mg base c m n k s' :=
  let ⟨f, fd, ps, h1, h2, h3, h4, h5, h6⟩ := F.ex
  ⟨f, fd, ps, h1, h2, h3, h4, h5, h6.imp fun vs H Q E ⟨H0, ds, QD, ED, l, st, dd, q, e1, e2⟩ => ⟨H0, ds, QD, ED, l, st, dd, h _ _ _ q, e1, e2⟩⟩
theorem EqsH.mono {P : Program} {w : World} {G : Gx} {mg : Str → Option Value} {base : Heap} {j k : Nat} {S : Nat → List D → W D} (h : EqsH P w G mg base j S) (hk : j ≤ k) : EqsH P w G mg base k S :=
  fun c Q E x y q => ⟨(h c Q E x y q).1.mono hk, (h c Q E x y q).2⟩
def eqS0 : Nat → List D → W D := fun _ _ => stk
theorem EQ0 {P : Program} {w : World} {G : Gx} {mg : Str → Option Value} {base : Heap} {k : Nat} : EqsH P w G mg base k eqS0 := fun _ _ _ _ _ q => (show False from q).elim
theorem code_of {K : PySem.W.Frag} {x q : Str} {a : Arguments} {b : List Stmt} {sc : Scope} {dv : List V} {kw : List (Str × V)} {p : Str × Option Str} {fd : FuncData} (F : FunD K x q a b sc dv kw (He.fAd K p) fd) : fd.code = .ref (He.cT K p).1 := by
  obtain ⟨oc, od, dV, kV, doc, pm, an, cdv, ct, osl, rfl, lk, hcd, _, _⟩ := F.ex
  obtain ⟨c, e⟩ := He.codeIn_ref hcd
  have := He.codeOf_eq lk (c := c) (by rw [← e])
  show cdv = .ref (He.codeOf K p)
  rw [this, e]
/-! ### never reached -/
section
variable {X : Cx} {B : Bx} {e : Expr} {we : DL.Env → W D} {p pos : Pos}
theorem dss_stuck {ss : List Stmt} : DSs X B ss (fun _ => stk) := ⟨fun _ _ _ _ _ _ ⟨_, _, _, _, q, _⟩ => (show False from q).elim⟩
/-! ### list(range(..)), tuple(range(..)) -/
def rgW : D → W (List D)
  | .int n => grd (-1000000000 ≤ n ∧ n ≤ 16777216) (ret (rangeD 0 n.toNat))
  | _ => stk
theorem rangeV {G : Gx} {H : Hp} (lo : Int) : ∀ n : Nat, Dens G H (rangeD lo n) ((List.range n).map fun i => V.int (lo + (i : Nat))) := fun n => by
  unfold rangeD
  have : (List.range n).map (fun i : Nat => D.int (lo + (i : Int))) = ((List.range n).map fun i : Nat => lo + (i : Int)).map D.int := by rw [List.map_map]; rfl
  rw [this]
  have : (List.range n).map (fun i : Nat => V.int (lo + (i : Int))) = ((List.range n).map fun i : Nat => lo + (i : Int)).map V.int := by rw [List.map_map]; rfl
  rw [this]
  exact Dens.of_ints _
theorem de_listRg {q qos : Pos} (hc : X.calm = true) (hg : Gl X "list") (hm : X.mg "list" = none) (hg2 : Gl X "range") (hm2 : X.mg "range" = none) (he : DE X B e we)
    (na : starEach [e] X.env = (false, eval e X.env) :: starEach [] X.env := by rfl) (na2 : starEach [.Call (.Name "range" q) [e] [] qos] X.env = (false, eval (.Call (.Name "range" q) [e] [] qos) X.env) :: starEach [] X.env := by rfl) :
    DE X B (.Call (.Name "list" p) [.Call (.Name "range" q) [e] [] qos] [] pos) (fun ρ => bnd (we ρ) fun d => bnd (rgW d) fun xs => ret (.lst xs)) := by
  refine PE.imp (pe_listRg hc hg hm (prg_1 hg2 hm2 he na) na2) fun σ H Q ⟨ρ, H0, QD, k, q, h⟩ => ⟨ρ, H0, _, k, q, fun d v H1 H2 x dd q1 => ?_⟩
  cases d <;> first | exact (show False from q1).elim | skip
  obtain ⟨⟨b1, b2⟩, q1⟩ := q1
  refine ⟨_, den_int dd, ⟨by omega, by omega, by omega, by omega, by omega⟩, fun l hl => ?_⟩
  have x2 := Ext.put x.st hl (.lst (rgV 0 ‹Int›))
  refine h _ _ _ _ (x.trans x2) (of_lst upd_same ?_) q1
  have := rangeV (G := B.G) (H := upd H1 l (.lst (rgV 0 ‹Int›))) 0 (‹Int›).toNat
  have e : rgV 0 ‹Int› = (List.range (‹Int›).toNat).map fun i => V.int (0 + (i : Nat)) := by unfold rgV; rw [Int.sub_zero]
  rw [← e] at this
  exact this
theorem de_tupRg {q qos : Pos} (hc : X.calm = true) (hg : Gl X "tuple") (hm : X.mg "tuple" = none) (hg2 : Gl X "range") (hm2 : X.mg "range" = none) (he : DE X B e we)
    (na : starEach [e] X.env = (false, eval e X.env) :: starEach [] X.env := by rfl) (na2 : starEach [.Call (.Name "range" q) [e] [] qos] X.env = (false, eval (.Call (.Name "range" q) [e] [] qos) X.env) :: starEach [] X.env := by rfl) :
    DE X B (.Call (.Name "tuple" p) [.Call (.Name "range" q) [e] [] qos] [] pos) (fun ρ => bnd (we ρ) fun d => bnd (rgW d) fun xs => ret (.tup xs)) := by
  refine PE.imp (pe_tupRg hc hg hm (prg_1 hg2 hm2 he na) na2) fun σ H Q ⟨ρ, H0, QD, k, q, h⟩ => ⟨ρ, H0, _, k, q, fun d v H1 H2 x dd q1 => ?_⟩
  cases d <;> first | exact (show False from q1).elim | skip
  obtain ⟨⟨b1, b2⟩, q1⟩ := q1
  refine ⟨_, den_int dd, ⟨by omega, by omega, by omega, by omega, by omega⟩, fun l hl => ?_⟩
  have x2 := Ext.put x.st hl (.tup (rgV 0 ‹Int›))
  refine h _ _ _ _ (x.trans x2) (of_tup upd_same ?_) q1
  have := rangeV (G := B.G) (H := upd H1 l (.tup (rgV 0 ‹Int›))) 0 (‹Int›).toNat
  have e : rgV 0 ‹Int› = (List.range (‹Int›).toNat).map fun i => V.int (0 + (i : Nat)) := by unfold rgV; rw [Int.sub_zero]
  rw [← e] at this
  exact this
end
end DL
end
section
set_option Elab.async false
set_option linter.all false
set_option maxRecDepth 100000
set_option maxHeartbeats 2000000
set_option autoImplicit false
/-! DW: the end of a law; what the head tells of an own class. -/
namespace DL
open PySem PySem.Spec L2 PyProof.Rows
/-- what isinstance and == ask of the class at C, as one Bool -/
def clsIB (K : PySem.W.Frag) (C : Addr) : Bool :=
  He.eqO (PySem.W.findIn K (.ref C) "__class__") (some (some (.builtin "object.__class__"))) && (He.eqO (PySem.W.specialIn K (.builtin "object.__class__") "__get__") (some (some (.builtin "getset_descriptor.__get__"))) &&
  (decide (PySem.W.takesIn K (.builtin "object.__class__") = some true) && (decide (PySem.W.mroIn K C (.type "object") = some true) && (He.eqO (PySem.W.findIn K (.ref C) "__ne__") (some (some (.builtin "object.__ne__"))) &&
  (tyBs.all (fun b => decide (PySem.W.kitOne K (.ref C) (.type b) = some false)) && tyAs.all (fun a => decide (PySem.W.kitOne K (.type a) (.ref C) = some false)))))))
theorem clsI_of {G : Gx} {c : Nat} (h : clsIB G.K (G.cls c) = true) (cl : Cls G.K (G.cls c)) : ClsI G c := by
  obtain ⟨h1, h⟩ := He.ba h
  obtain ⟨h2, h⟩ := He.ba h
  obtain ⟨h3, h⟩ := He.ba h
  obtain ⟨h4, h⟩ := He.ba h
  obtain ⟨h5, h⟩ := He.ba h
  obtain ⟨h6, h7⟩ := He.ba h
  exact ⟨cl, He.eqO_ok h1, He.eqO_ok h2, of_decide_eq_true h3, of_decide_eq_true h4, fun b hb => of_decide_eq_true (List.all_eq_true.mp h6 b hb), He.eqO_ok h5, fun a ha => of_decide_eq_true (List.all_eq_true.mp h7 a ha)⟩
theorem den_consts {G : Gx} {x : Str} {ns : List Int} (h : He.tupB G.K x (ns.map He.Dv.int) = true) (H0 : Hp) : Den G H0 (.tup (ns.map D.int)) (.ref (He.ga G.K x)) := by
  have s := He.tupB_ok h H0
  have e : (ns.map He.Dv.int).map (He.Dv.v G.K) = ns.map V.int := by rw [List.map_map]; rfl
  rw [e] at s
  simp only [Den]
  exact ⟨_, _, rfl, s, Dens.of_ints ns⟩
/-- walk_ofTs for a K that hangs on the head's heap -/
theorem walk_ofTE {l : PySem.W.OpenLaw} {n k : Nat} {q : Program} {loose : List Str} {XP : (Str → Option Value) → Heap → Prop} {YP : World → Heap → Prop} {d : DefRec} {CX : World → CXT} {x : Str}
    (hn : l.most = some n) (hn2 : n ≤ sizeLine) (hdf : d.params.defaults = []) (hr : Room k callerA)
    (F : ∀ (w : World) (mg : Str → Option Value) (fa : Addr) (h : Heap), YP w h → h.Ns mainGlobals mg → mg d.name = some (.ref fa) → ∃ K : PySem.W.Frag, K.In h ∧ LamX.LawAtS l w K (CX w) k n x mg fa h)
    (hCX : ∀ (w : World) (H : Hp) (s : Shared) (e : Value) (s' : Shared), CX w [] H s (fun _ _ _ => False) e s' → False) :
    PySem.W.WalkO q loose XP YP l.row.toRowW d [] (fun f vs => PySem.call f vs) := by
  refine Att.attach_callB hn hdf fun w s₀ s₁ mg mb fa o pm cd doc a vs ns G Y ho hd hcd hmg hobj hints hlen hbits hg => ?_
  obtain ⟨K, KX, fd, cs, sp, hT, nT, C, hb, hsp, hF⟩ := F w mg fa _ Y G.T.g hmg
  exact LamX.law_callTs KX G.T.g G.T.b G.T.builtins G.T.nolimit hg hT nT C G.T.bmain hobj hints (Nat.le_trans hlen hn2) hr hF hb (fun H hH hS => hsp H a ns hlen hbits hH hS) fun H e s' => hCX w H s₁ e s'
/-- the law's promise from the def's -/
theorem law_at {l : PySem.W.OpenLaw} {w : World} {K : PySem.W.Frag} {mg : Str → Option Value} {h : Heap} {G : Gx} {tf : List He.Defn} {fa : List He.Fa} {fn : List He.DefD} {ts : List He.Tab} {ex : PySem.W.Frag → Bool} {k n : Nat} {nm : Nat → Nat → Str} {x q : Str} {a : Arguments} {b : List Stmt} {sc : Scope} {fad : Addr} {fd : FuncData} {s : List D → W D}
    (KX : K.In h) (c : He.SaysX fa fn ts tf ex w h K) (hK : G.K = K) (hT : G.T = tf.map fun p => ((He.cT K p).2, nm)) (F : FunD K "law" q a b sc [] [] fad fd) (hb : BindsBy "law" q a b sc [x]) (hg : mg "law" = some (.ref fad))
    (run : ∀ base : Heap, K.In base → base.Ns mainGlobals mg → (∀ p ∈ tf, LamX.TabB base mg (He.cT K p).1 (He.cT K p).2) → FnOk l.prog w G.K mg base (L2.CX l.prog w) k fad fd [x] (liftSp G 1 s)) (hs : ∀ ns : List Int, ns.length ≤ n → s [.scr ns] (fun d => d = .bl true) (fun _ => False)) :
    LamX.LawAtS l w K (L2.CX l.prog w) k n x mg fad h := by
  have all : ∀ base : Heap, K.In base → base.Ns mainGlobals mg → (∀ p ∈ tf.map (He.cT K), LamX.TabB base mg p.1 p.2) → FnOk l.prog w K mg base (L2.CX l.prog w) k fad fd [x] (liftSp G 1 s) := fun base h1 h2 h3 => by
    have z := run base h1 h2 fun p hp => h3 _ (List.mem_map.mpr ⟨p, hp, rfl⟩)
    rw [hK] at z
    exact z
  refine ⟨fd, tf.map (He.cT K), liftSp G 1 s, fun p hp => ?_, fun p hp => ?_, fun p hp => ?_, fun s u => ?_, fun H a ns hl hbits hH hS => ?_, all⟩
  · obtain ⟨q, hq, rfl⟩ := List.mem_map.mp hp; exact c.empty q hq
  · obtain ⟨q, hq, rfl⟩ := List.mem_map.mp hp; exact c.out q hq
  · obtain ⟨q, hq, rfl⟩ := List.mem_map.mp hp; exact PySem.W.codeHd_of_K KX (c.hd q hq)
  · exact F.bindsA hb s [u] rfl
  · obtain ⟨H0, d0, n0, z0⟩ : ∃ H0 : Hp, Den G H0 (.scr ns) (.ref a) ∧ NoT H0 ∧ Same H0 H := by
      rcases hS with hS | hS
      · refine ⟨fun b => if b = a then H b else none, ?_, fun b ps e => ?_, fun b o e => ?_⟩
        · simp only [Den]
          refine ⟨a, rfl, .inl ?_⟩
          rcases hS with e | ⟨o, e⟩
          · exact .inl ((if_pos rfl).trans e)
          · exact .inr ⟨o, (if_pos rfl).trans e⟩
        · by_cases z : b = a
          · have e : (if b = a then H b else none) = some (HO.tbl ps) := e
            rw [if_pos z, z] at e
            rcases hS with e2 | ⟨o, e2⟩ <;> rw [e2] at e <;> cases e
          · have e : (if b = a then H b else none) = some (HO.tbl ps) := e
            rw [if_neg z] at e
            cases e
        · by_cases z : b = a
          · have e : (if b = a then H b else none) = some o := e
            rw [if_pos z] at e; exact e
          · have e : (if b = a then H b else none) = some o := e
            rw [if_neg z] at e; cases e
      · refine ⟨fun _ => none, ?_, (by intro b ps e; cases e), (by intro b o e; cases e)⟩
        simp only [Den]
        rw [hK]
        exact ⟨a, rfl, .inr hS⟩
    refine ⟨H0, [.scr ns], _, (fun _ => False), rfl, ⟨z0, fun p hp => ?_, n0⟩, .cons d0 .nil, hs ns hl, fun d v H1 H2 x2 d2 q2 => ?_, fun _ _ _ _ _ _ _ z => z.elim⟩
    · rw [hT] at hp
      obtain ⟨q, hq, rfl⟩ := List.mem_map.mp hp
      exact NdefX.TabN.nil (hH _ (List.mem_map.mpr ⟨q, hq, rfl⟩))
    · subst q2
      exact den_bl d2
end DL
end
section
set_option Elab.async false
set_option linter.all false
set_option maxRecDepth 100000
set_option maxHeartbeats 2000000
set_option autoImplicit false
/-! DX: plain laws of the predicate transformers. -/
namespace DL
open PySem PySem.Spec L2
theorem ite_app {α β : Type} (c : Prop) [Decidable c] (f g : (α → Prop) → β → Prop) (Q : α → Prop) (E : β) : (if c then f else g) Q E = if c then f Q E else g Q E := by
  by_cases h : c <;> simp [h]
/-! ### loops -/
theorem lcGo_rel {f : D → W (Option D)} {P : D → Option D → Prop} {E : DX → Prop} : ∀ {xs : List D} {Q : List D → Prop}, (∀ x ∈ xs, ∀ Q : Option D → Prop, (∀ o, P x o → Q o) → f x Q E) →
    (∀ os : List (Option D), os.length = xs.length → (∀ (i : Nat) x o, xs[i]? = some x → os[i]? = some o → P x o) → Q (os.filterMap id)) → lcGo f xs Q E
  | [], Q, _, h => h [] rfl (fun i x o e _ => by simp at e)
  | x :: xs, Q, hf, h => by
    refine hf x List.mem_cons_self _ fun o po => ?_
    refine lcGo_rel (fun y hy => hf y (List.mem_cons_of_mem _ hy)) fun os hl hP => ?_
    have := h (o :: os) (by simp [hl]) fun i y p e1 e2 => by
      cases i with
      | zero => simp at e1 e2; subst e1 e2; exact po
      | succ i => exact hP i y p (by simpa using e1) (by simpa using e2)
    cases o <;> exact this
theorem lcGo_map {f : D → W (Option D)} {g : D → Option D} {E : DX → Prop} : ∀ {xs : List D} {Q : List D → Prop}, (∀ x ∈ xs, ∀ Q : Option D → Prop, Q (g x) → f x Q E) → Q (xs.filterMap g) → lcGo f xs Q E
  | [], Q, _, h => h
  | x :: xs, Q, hf, h => by
    refine hf x List.mem_cons_self _ ?_
    refine lcGo_map (fun y hy => hf y (List.mem_cons_of_mem _ hy)) ?_
    cases e : g x with
    | none => rw [List.filterMap_cons_none e] at h; exact h
    | some y => rw [List.filterMap_cons_some e] at h; exact h
theorem forGo_nx {f : D → DL.Env → W Out} {E : DX → Prop} (I : Nat → DL.Env → Prop) : ∀ {xs : List D} (n : Nat) {ρ : DL.Env} {Q : Out → Prop}, I n ρ →
    (∀ (i : Nat) x ρ, xs[i]? = some x → I (n + i) ρ → ∀ Q : Out → Prop, (∀ ρ', I (n + i + 1) ρ' → Q (.nx ρ')) → f x ρ Q E) → (∀ ρ', I (n + xs.length) ρ' → Q (.nx ρ')) → forGo f xs ρ Q E
  | [], n, ρ, Q, h0, _, h => h ρ h0
  | x :: xs, n, ρ, Q, h0, hf, h => by
    refine hf 0 x ρ rfl h0 _ fun ρ' h1 => ?_
    refine forGo_nx I (n + 1) (by simpa using h1) (fun i y ρ e hi Q hq => hf (i + 1) y ρ (by simpa using e) (by rw [show n + (i + 1) = n + 1 + i by omega]; exact hi) Q fun ρ' hh => hq ρ' (by rw [show n + 1 + i + 1 = n + (i + 1) + 1 by omega]; exact hh)) fun ρ' hh => h ρ' (by rw [List.length_cons, show n + (xs.length + 1) = n + 1 + xs.length by omega]; exact hh)
/-! ### ints in lists and tuples -/
theorem ixT_int {ns : List Int} {i x : Int} (h : 0 ≤ i) (e : ns[i.toNat]? = some x) : ixD (.tup (ns.map D.int)) (.int i) = ret (.int x) := by
  have hl : i.toNat < ns.length := (List.getElem?_eq_some_iff.mp e).1
  have : L2.atI (ns.map D.int) i = some (.int x) := by
    unfold L2.atI ixN
    rw [if_pos h, if_pos (by simp; omega)]
    simp [e]
  simp only [ixD, this, optW]
theorem ixL_int {ns : List Int} {i x : Int} (h : 0 ≤ i) (e : ns[i.toNat]? = some x) : ixD (.lst (ns.map D.int)) (.int i) = ret (.int x) := by
  have := ixT_int h e
  exact this
theorem ixL {ds : List D} {i : Int} {x : D} (h : 0 ≤ i) (e : ds[i.toNat]? = some x) : ixD (.lst ds) (.int i) = ret x := by
  have hl : i.toNat < ds.length := (List.getElem?_eq_some_iff.mp e).1
  have : L2.atI ds i = some x := by
    unfold L2.atI ixN
    rw [if_pos h, if_pos (by omega)]
    exact e
  simp only [ixD, this, optW]
theorem ixT {ds : List D} {i : Int} {x : D} (h : 0 ≤ i) (e : ds[i.toNat]? = some x) : ixD (.tup ds) (.int i) = ret x := ixL h e
theorem shp_int (i : Int) : SeqAt.shaped (.int i) = true := by simp [SeqAt.shaped, PyData.canLay0, PyData.depth]
theorem shp_bool (i : Bool) : SeqAt.shaped (.bool i) = true := by simp [SeqAt.shaped, PyData.canLay0, PyData.depth]
theorem eq_int (S : Nat → List D → W D) (b : Bool) (i j : Int) : eqD S b (.int i) (.int j) = ret (.bl ((i == j) != b)) := by
  simp [eqD, valD, pyD, shp_int, optW, PyData.eqv]
theorem eq_bl (S : Nat → List D → W D) (b : Bool) (i j : Bool) : eqD S b (.bl i) (.bl j) = ret (.bl ((i == j) != b)) := by
  simp [eqD, valD, pyD, shp_bool, optW, PyData.eqv]
theorem pyDs_ints : ∀ ns : List Int, pyDs (ns.map D.int) = some (ns.map PyData.int)
  | [] => by simp [pyDs]
  | n :: ns => by simp [pyDs, pyD, pyDs_ints ns]
theorem eqvAll_ints : ∀ ns ms : List Int, PyData.eqvAll (ns.map PyData.int) (ms.map PyData.int) = decide (ns = ms)
  | [], [] => by simp [PyData.eqvAll]
  | [], _ :: _ => by simp [PyData.eqvAll]
  | _ :: _, [] => by simp [PyData.eqvAll]
  | n :: ns, m :: ms => by
    simp only [List.map_cons, PyData.eqvAll, PyData.eqv, eqvAll_ints ns ms]
    by_cases h : n = m <;> simp [h]
theorem shp_tup (ns : List Int) : SeqAt.shaped (.tuple (ns.map PyData.int)) = true := PySem.W.ke_shaped_ints ns
theorem shp_lst (ns : List Int) : SeqAt.shaped (.list (ns.map PyData.int)) = true := PySem.W.ke_shaped_ints ns
theorem eq_tup (S : Nat → List D → W D) (b : Bool) (ns ms : List Int) : eqD S b (.tup (ns.map D.int)) (.tup (ms.map D.int)) = ret (.bl (decide (ns = ms) != b)) := by
  simp [eqD, valD, pyD, pyDs_ints, shp_tup, optW, PyData.eqv, eqvAll_ints]
theorem any_eqv (i : Int) : ∀ ns : List Int, ((ns.map PyData.int).any fun z => PyData.eqv z (.int i)) = ns.contains i
  | [] => rfl
  | n :: ns => by
    rw [List.map_cons, List.any_cons, any_eqv i ns, List.contains_cons]
    have : PyData.eqv (.int n) (.int i) = (i == n) := by
      show (n == i) = (i == n)
      by_cases h : n = i
      · subst h; rfl
      · rw [beq_eq_false_iff_ne.mpr h, beq_eq_false_iff_ne.mpr (fun z => h z.symm)]
    rw [this]
theorem in_lst (b : Bool) (i : Int) (ns : List Int) : inD b (.int i) (.lst (ns.map D.int)) = ret (.bl (ns.contains i != b)) := by
  simp only [inD, inV, inItems, Option.bind, pyD, pyDs_ints, shp_int, shp_lst, and_self, if_true, Option.map, any_eqv, optW]
theorem sum_lst (ns : List Int) : sumD [.lst (ns.map D.int)] = ret (.int ns.sum) := by
  simp only [sumD, intsD_map, optW]
  rfl
theorem all_lst (bs : List Bool) : allD [.lst (bs.map D.bl)] = ret (.bl (bs.all id)) := by
  simp only [allD, boolsD_map, optW]
  rfl
theorem any_lst (bs : List Bool) : anyD [.lst (bs.map D.bl)] = ret (.bl (bs.any id)) := by
  simp only [anyD, boolsD_map, optW]
  rfl
theorem rangeD0 (n : Nat) : rangeD 0 n = (List.range n).map fun i : Nat => D.int (i : Int) := by
  unfold rangeD
  congr 1
  funext i
  simp
theorem ints_of {xs : List D} {n : Nat} (hl : xs.length = n) (h : ∀ (i : Nat) x, xs[i]? = some x → ∃ k : Int, x = .int k) : ∃ ns : List Int, xs = ns.map D.int ∧ ns.length = n := by
  subst hl
  induction xs with
  | nil => exact ⟨[], rfl, rfl⟩
  | cons x xs ih =>
    obtain ⟨k, e⟩ := h 0 x rfl
    obtain ⟨ns, e2, l⟩ := ih fun i y hy => h (i + 1) y (by simpa using hy)
    exact ⟨k :: ns, by rw [e, e2]; rfl, by simp [l]⟩
end DL
end
section
set_option Elab.async false
set_option linter.all false
set_option maxRecDepth 100000
set_option maxHeartbeats 2000000
set_option autoImplicit false
namespace K02
open PySem PySem.Spec L2 DL
/-! ### the data -/
def flds : Nat → List Str
  | 0 => ["many", "numbers"]
  | _ => []
abbrev iT (ns : List Int) : D := .tup (ns.map D.int)
abbrev tb (m : Nat) (ns : List Int) : D := .ins 0 [.int m, iT ns]
def powers : List Int := [1, 2, 4, 8, 16, 32, 64, 128]
abbrev c_POWERS : D := iT powers
/-! ### plain -/
def lotOf (mask : Nat) : List Nat := (List.range 7).filter fun i => mask / 2 ^ i % 2 == 1
/-- a table's numbers -/
structure Tbl (m : Nat) (ns : List Int) : Prop where
  m1 : 1 ≤ m
  m7 : m ≤ 7
  len : ns.length = 2 ^ m
  z : ns[0]? = some 0
def isInt : D → Option Bool
  | .int _ => some true
  | .bl _ => some false
  | .non => some false
  | .str _ => some false
  | .tup _ => some false
  | .lst _ => some false
  | .dic _ _ => some false
  | .ins 0 _ => some false
  | _ => none
/-! ### what each def does -/
def s_is_integer : List D → W D
  | [d] => optW ((isInt d).map D.bl)
  | _ => stk
def s_is_between : List D → W D
  | [.int t, .int lo, .int hi] => ret (.bl (decide (lo ≤ t) && decide (t ≤ hi)))
  | _ => stk
def s_lot_of : List D → W D
  | [.int mask] => grd (0 ≤ mask ∧ mask < 2 ^ 100) (ret (iT ((lotOf mask.toNat).map fun i : Nat => (i : Int))))
  | _ => stk
def mk_Table : List D → W D
  | [.int m, .tup xs] => fun Q _ => ∃ (k : Nat) (ns : List Int), m = k ∧ xs = ns.map D.int ∧ Tbl k ns ∧ Q (tb k ns)
  | _ => stk
def s_Table_eq : List D → W D
  | [.ins 0 [.int m, .tup xs], .ins 0 [.int m', .tup ys]] => fun Q _ => ∃ (k k' : Nat) (ns ns' : List Int), m = k ∧ m' = k' ∧ xs = ns.map D.int ∧ ys = ns'.map D.int ∧ Q (.bl (decide (k = k') && decide (ns = ns')))
  | _ => stk
def eqS : Nat → List D → W D
  | 0, ds => s_Table_eq ds
  | _, _ => stk
def s_check_table : List D → W D
  | [.ins 0 _] => ret .non
  | _ => stk
def s_check_tables : List D → W D
  | [.ins 0 [.int m, _], .ins 0 [.int m', _]] => grd (m = m') (ret .non)
  | _ => stk
def rowSum (row : List Int) (mask : Nat) : Int := ((lotOf mask).map fun i => row.getD i 0).sum
/-- what the lambdas do: captured, given -/
def cloW : Nat → List D → List D → W D
  | 0, [.ins 0 [.int m, .tup xs], .ins 0 [.int m', .tup ys]], [.int k] => fun Q _ => ∃ (ns ns' : List Int) (x y : Int), xs = ns.map D.int ∧ ys = ns'.map D.int ∧ 0 ≤ k ∧ ns[k.toNat]? = some x ∧ ns'[k.toNat]? = some y ∧ Q (.int (x + y))
  | 1, [.ins 0 [.int m, .tup xs], .ins 0 [.int m', .tup ys]], [.int k] => fun Q _ => ∃ (ns ns' : List Int) (x y : Int), xs = ns.map D.int ∧ ys = ns'.map D.int ∧ 0 ≤ k ∧ ns[k.toNat]? = some x ∧ ns'[k.toNat]? = some y ∧ Q (.int (x - y))
  | 2, [.int n, .ins 0 [.int m, .tup xs]], [.int k] => fun Q _ => ∃ (ns : List Int) (x : Int), xs = ns.map D.int ∧ 0 ≤ k ∧ ns[k.toNat]? = some x ∧ MulOk x n ∧ Q (.int (x * n))
  | 3, [.tup xs], [.int k] => fun Q _ => ∃ row : List Int, xs = row.map D.int ∧ 0 ≤ k ∧ k < 2 ^ row.length ∧ row.length ≤ 7 ∧ Q (.int (rowSum row k.toNat))
  | 4, [.tup xs], [.int k] => fun Q _ => ∃ (row : List Int) (x : Int), xs = row.map D.int ∧ 0 ≤ k ∧ k < 128 ∧ row[(lotOf k.toNat).length]? = some x ∧ Q (.int x)
  | 5, [.ins 0 [.int m, .tup xs], .int w], [.int k] => fun Q _ => ∃ (ns : List Int) (x y : Int), xs = ns.map D.int ∧ 0 ≤ k ∧ k ≤ w ∧ ns[w.toNat]? = some x ∧ ns[(w - k).toNat]? = some y ∧ Q (.int (x - y))
  | _, _, _ => stk
structure GS (G : Gx) : Prop where
  flds : G.flds = flds
  clo : G.cloW = cloW
  nps : ∀ j, j < 6 → (G.lam j).ps.length = 1
/-- a table of what a closure gives -/
def s_built : List D → W D
  | [.int m, .clo j cs] => fun Q _ => ∃ (k : Nat) (f : Nat → Int), m = k ∧ 1 ≤ k ∧ k ≤ 7 ∧ f 0 = 0 ∧ j < 6 ∧ noClos cs = true ∧ (∀ i, i < 2 ^ k → ∀ R : D → Prop, R (.int (f i)) → cloW j cs [.int (i : Nat)] R (fun _ => False)) ∧ Q (tb k ((List.range (2 ^ k)).map f))
  | _ => stk
def s_added : List D → W D
  | [.ins 0 [.int m, .tup xs], .ins 0 [.int m', .tup ys]] => fun Q _ => ∃ (k : Nat) (ns ns' : List Int), m = k ∧ m' = k ∧ xs = ns.map D.int ∧ ys = ns'.map D.int ∧ Tbl k ns ∧ Tbl k ns' ∧ Q (tb k (List.zipWith (· + ·) ns ns'))
  | _ => stk
def s_lessened : List D → W D
  | [.ins 0 [.int m, .tup xs], .ins 0 [.int m', .tup ys]] => fun Q _ => ∃ (k : Nat) (ns ns' : List Int), m = k ∧ m' = k ∧ xs = ns.map D.int ∧ ys = ns'.map D.int ∧ Tbl k ns ∧ Tbl k ns' ∧ Q (tb k (List.zipWith (· - ·) ns ns'))
  | _ => stk
def s_times : List D → W D
  | [.ins 0 [.int m, .tup xs], .int n] => fun Q _ => ∃ (k : Nat) (ns : List Int), m = k ∧ xs = ns.map D.int ∧ Tbl k ns ∧ (∀ x ∈ ns, MulOk x n) ∧ Q (tb k (ns.map (· * n)))
  | _ => stk
def s_is_row : List D → W D
  | [.tup xs] => fun Q _ => ∃ ns : List Int, xs = ns.map D.int ∧ ns.length ≤ 1000 ∧ Q (.bl (decide (1 ≤ ns.length ∧ ns.length ≤ 7)))
  | _ => stk
def s_row_sum : List D → W D
  | [.tup xs, .int k] => fun Q _ => ∃ row : List Int, xs = row.map D.int ∧ 0 ≤ k ∧ k < 2 ^ row.length ∧ row.length ≤ 7 ∧ Q (.int (rowSum row k.toNat))
  | _ => stk
def s_of_row : List D → W D
  | [.tup xs] => fun Q _ => ∃ row : List Int, xs = row.map D.int ∧ 1 ≤ row.length ∧ row.length ≤ 7 ∧ Q (tb row.length ((List.range (2 ^ row.length)).map (rowSum row)))
  | _ => stk
def s_of_sizes : List D → W D
  | [.tup xs] => fun Q _ => ∃ sz : List Int, xs = sz.map D.int ∧ 2 ≤ sz.length ∧ sz.length ≤ 8 ∧ sz[0]? = some 0 ∧ Q (tb (sz.length - 1) ((List.range (2 ^ (sz.length - 1))).map fun k => sz.getD (lotOf k).length 0))
  | _ => stk
def otherSide (ns : List Int) : List Int := (List.range ns.length).map fun k => ns.getD (ns.length - 1) 0 - ns.getD (ns.length - 1 - k) 0
def s_other_side : List D → W D
  | [.ins 0 [.int m, .tup xs]] => fun Q _ => ∃ (k : Nat) (ns : List Int), m = k ∧ xs = ns.map D.int ∧ Tbl k ns ∧ Q (tb k (otherSide ns))
  | _ => stk
/-! ### the law's own -/
def s__law_hand : List D → W D
  | [.scr ns] => grd (ns.length ≤ 1000) (ret .hnd)
  | _ => stk
abbrev s__law_draw : List D → W D := drawS
def s__law_any : List D → W D
  | [.hnd, .lst xs] => fun Q _ => 0 < xs.length ∧ xs.length < 1000 ∧ ∀ x ∈ xs, Q x
  | _ => stk
/-- one level of it: s the call below -/
def sameV : Nat → D → D → Option Bool
  | 0, _, _ => none
  | n + 1, a, b => match a, b with
    | .tup xs, .tup ys => if xs.length = ys.length then (if xs.length ≤ 1000 then (mapO (fun p : D × D => sameV n p.1 p.2) (xs.zip ys)).map fun bs => bs.all id else none) else some false
    | .int i, .int j => some (decide (i = j))
    | _, _ => none
def s__law_same_n (n : Nat) : List D → W D
  | [a, b] => optW ((sameV n a b).map D.bl)
  | _ => stk
abbrev s__law_same : List D → W D := s__law_same_n 3
def lotsD (m : Nat) : D := .lst ((List.range (2 ^ m)).map fun k => iT ((lotOf k).map fun i : Nat => (i : Int)))
def s__law_lots : List D → W D
  | [.int m] => fun Q _ => ∃ k : Nat, m = k ∧ k ≤ 6 ∧ Q (lotsD k)
  | _ => stk
/-- a drawn table: no bounds but one on its numbers -/
def s__law_drawn : List D → W D
  | [.hnd, .int m] => fun Q _ => ∃ k : Nat, m = k ∧ 1 ≤ k ∧ k ≤ 6 ∧ ∀ ns : List Int, Tbl k ns → (∀ x ∈ ns, x.natAbs < 2 ^ 100) → Q (iT ns)
  | _ => stk
def s__law_is_told : List D → W D
  | [.ins 0 [.int m, .tup xs], .int m', .lst ys] => fun Q _ => ∃ (k k' : Nat) (ns ns' : List Int), m = k ∧ m' = k' ∧ xs = ns.map D.int ∧ ys = ns'.map D.int ∧ ns.length ≤ 1000 ∧ ns'.length ≤ 1000 ∧ Q (.bl (decide (k = k') && decide (ns = ns')))
  | _ => stk
def s__law_other_side : List D → W D
  | [.int m, .tup xs] => fun Q _ => ∃ (k : Nat) (ns : List Int), m = k ∧ xs = ns.map D.int ∧ Tbl k ns ∧ Q (.lst ((otherSide ns).map D.int))
  | _ => stk
def s__law_is_pair_right : List D → W D
  | [.int m, .tup xs, .tup ys, .int n] => fun Q _ => ∃ (k : Nat) (ns ns' : List Int), m = k ∧ xs = ns.map D.int ∧ ys = ns'.map D.int ∧ Tbl k ns ∧ Tbl k ns' ∧ (∀ x ∈ ns, x.natAbs < 2 ^ 100) ∧ (∀ x ∈ ns', x.natAbs < 2 ^ 100) ∧ n.natAbs < 2 ^ 200 ∧ Q (.bl true)
  | _ => stk
def s_law : List D → W D
  | [.scr ns] => grd (ns.length ≤ 63) (ret (.bl true))
  | _ => stk
theorem eqS_no {c : Nat} {ds : List D} {Q : D → Prop} {E : DX → Prop} (h : eqS (c + 1) ds Q E) : False := by
  simp [eqS] at h
  exact h
theorem cloW_no {j : Nat} {cs ds : List D} {Q : D → Prop} {E : DX → Prop} (h : cloW (j + 6) cs ds Q E) : False := by
  simp [cloW] at h
  exact h
theorem s__law_same_0 {ds : List D} {Q : D → Prop} {E : DX → Prop} (h : s__law_same_n 0 ds Q E) : stk (α := D) Q E := by
  unfold s__law_same_n at h
  split at h
  · simp [sameV, optW] at h
    exact h
  · exact h
theorem law_fin (ns : List Int) (hl : ns.length ≤ 63) : s_law [.scr ns] (fun d => d = .bl true) (fun _ => False) := ⟨hl, rfl⟩
end K02
end
section
set_option Elab.async false
set_option linter.all false
set_option maxRecDepth 100000
set_option maxHeartbeats 4000000
set_option autoImplicit false
namespace K02
open PySem PySem.Spec L2 DL

def W_is_integer (G : Gx) : DL.Env → W Out := fun (ρ : DL.Env) => bnd (bnd (bnd (bnd (rd ρ 0) fun d => optW ((isiD G (.ty "int") d).map D.bl)) asB) fun k => if k = true then bnd (bnd (bnd (rd ρ 0) fun d => optW ((isiD G (.ty "bool") d).map D.bl)) asB) fun k => DL.ret (.bl (!k)) else DL.ret (.bl false)) fun d => DL.ret (.rt d ρ)

def W_is_between (G : Gx) : DL.Env → W Out := fun (ρ : DL.Env) => bnd (bnd (bnd (bnd (bnd (rd ρ 0) fun x => bnd (DL.ret []) fun xs => DL.ret (x :: xs)) s_is_integer) asB) fun k => if k = true then bnd (rd ρ 1) fun x => bnd (rd ρ 0) fun y => bnd (bnd (leD x y) asB) fun k => if k = true then bnd (rd ρ 2) fun z => leD y z else DL.ret (.bl false) else DL.ret (.bl false)) fun d => DL.ret (.rt d ρ)

def W_lot_of (G : Gx) : DL.Env → W Out := fun (ρ : DL.Env) => bnd (bnd (bnd (bnd (bnd (bnd (bnd (DL.ret (.int 7)) fun x => bnd (DL.ret []) fun xs => DL.ret (x :: xs)) rng1W) fun xs => grd (xs.length ≤ sizeLine) (nox (lcGo (lcF [1] (fun (d : D) (ρ : DL.Env) => DL.ret (ρ.set 1 (.d d))) (fun (ρ : DL.Env) => bnd (bnd (bnd (bnd (rd ρ 0) fun x => bnd (bnd (DL.ret c_POWERS) fun x => bnd (rd ρ 1) fun y => ixD x y) fun y => divD x y) fun x => bnd (DL.ret (.int 2)) fun y => modD x y) fun x => bnd (DL.ret (.int 1)) fun y => eqD eqS false x y) asB) (fun (ρ : DL.Env) => rd ρ 1) ρ) xs))) fun ds => DL.ret (.lst ds)) fun x => bnd (DL.ret []) fun xs => DL.ret (x :: xs)) tupleD) fun d => DL.ret (.rt d ρ)

def W_Table_init (G : Gx) : DL.Env → W Out := fun (ρ : DL.Env) => seqW (bnd (notT (bnd (bnd (bnd (rd ρ 1) fun x => bnd (bnd (DL.ret (.int 1)) fun x => bnd (bnd (DL.ret (.int 7)) fun x => bnd (DL.ret []) fun xs => DL.ret (x :: xs)) fun xs => DL.ret (x :: xs)) fun xs => DL.ret (x :: xs)) s_is_between) truD)) fun t => if t = true then stk else DL.ret (.nx ρ)) fun (ρ : DL.Env) => seqW (bnd (orT (notT (bnd (bnd (rd ρ 2) fun d => optW ((isiD G (.ty "tuple") d).map D.bl)) truD)) (bnd (bnd (bnd (bnd (rd ρ 2) fun x => bnd (DL.ret []) fun xs => DL.ret (x :: xs)) lenD) fun x => bnd (bnd (DL.ret c_POWERS) fun x => bnd (rd ρ 1) fun y => ixD x y) fun y => eqD eqS true x y) asB)) fun t => if t = true then stk else DL.ret (.nx ρ)) fun (ρ : DL.Env) => seqW (bnd (bnd (bnd (rd ρ 2) fun x => bnd (DL.ret []) fun xs => DL.ret (x :: xs)) enumS) fun xs => forGo (fun x ρ => bnd (nox ((tupG 2 (consG (fun (d : D) (ρ : DL.Env) => DL.ret (ρ.set 3 (.d d))) (consG (fun (d : D) (ρ : DL.Env) => DL.ret (ρ.set 4 (.d d))) nilG))) x ρ)) fun (ρ : DL.Env) => bnd (orT (notT (bnd (bnd (bnd (rd ρ 4) fun x => bnd (DL.ret []) fun xs => DL.ret (x :: xs)) s_is_integer) truD)) (andT (bnd (bnd (rd ρ 3) fun x => bnd (DL.ret (.int 0)) fun y => eqD eqS false x y) asB) (bnd (bnd (rd ρ 4) fun x => bnd (DL.ret (.int 0)) fun y => eqD eqS true x y) asB))) fun t => if t = true then stk else DL.ret (.nx ρ)) xs ρ) fun (ρ : DL.Env) => seqW (bnd (rd ρ 1) fun d => bnd (ownI 0 ρ) fun z => grd ((G.flds z.2.1)[z.2.2.length]? = some "many") (DL.ret (.nx (ρ.set 0 (.own (.ins z.1 z.2.1 (z.2.2 ++ [d]))))))) fun (ρ : DL.Env) => bnd (rd ρ 2) fun d => bnd (ownI 0 ρ) fun z => grd ((G.flds z.2.1)[z.2.2.length]? = some "numbers") (DL.ret (.nx (ρ.set 0 (.own (.ins z.1 z.2.1 (z.2.2 ++ [d]))))))

def W_Table_eq (G : Gx) : DL.Env → W Out := fun (ρ : DL.Env) => seqW (bnd (notT (bnd (bnd (rd ρ 1) fun d => optW ((isiD G (.own 0) d).map D.bl)) truD)) fun t => if t = true then bnd (DL.ret (.bl false)) fun d => DL.ret (.rt d ρ) else DL.ret (.nx ρ)) fun (ρ : DL.Env) => bnd (bnd (bnd (bnd (bnd (rd ρ 0) fun x => fldD G "many" x) fun x => bnd (bnd (rd ρ 1) fun x => fldD G "many" x) fun y => eqD eqS0 false x y) asB) fun k => if k = true then bnd (bnd (rd ρ 0) fun x => fldD G "numbers" x) fun x => bnd (bnd (rd ρ 1) fun x => fldD G "numbers" x) fun y => eqD eqS0 false x y else DL.ret (.bl false)) fun d => DL.ret (.rt d ρ)

def W_check_table (G : Gx) : DL.Env → W Out := fun (ρ : DL.Env) => bnd (notT (bnd (bnd (rd ρ 0) fun d => optW ((isiD G (.own 0) d).map D.bl)) truD)) fun t => if t = true then stk else DL.ret (.nx ρ)

def W_check_tables (G : Gx) : DL.Env → W Out := fun (ρ : DL.Env) => seqW (bnd (bnd (bnd (rd ρ 0) fun x => bnd (DL.ret []) fun xs => DL.ret (x :: xs)) s_check_table) fun _ => DL.ret (.nx ρ)) fun (ρ : DL.Env) => seqW (bnd (bnd (bnd (rd ρ 1) fun x => bnd (DL.ret []) fun xs => DL.ret (x :: xs)) s_check_table) fun _ => DL.ret (.nx ρ)) fun (ρ : DL.Env) => bnd (bnd (bnd (bnd (rd ρ 0) fun x => fldD G "many" x) fun x => bnd (bnd (rd ρ 1) fun x => fldD G "many" x) fun y => eqD eqS true x y) asB) fun t => if t = true then stk else DL.ret (.nx ρ)

def W_built (G : Gx) : DL.Env → W Out := fun (ρ : DL.Env) => bnd (bnd (bnd (rd ρ 0) fun x => bnd (bnd (bnd (bnd (bnd (bnd (bnd (bnd (bnd (DL.ret c_POWERS) fun x => bnd (rd ρ 0) fun y => ixD x y) fun x => bnd (DL.ret []) fun xs => DL.ret (x :: xs)) rng1W) fun xs => grd (xs.length ≤ sizeLine) (nox (lcGo (lcF [2] (fun (d : D) (ρ : DL.Env) => DL.ret (ρ.set 2 (.d d))) (fun (ρ : DL.Env) => DL.ret true) (fun (ρ : DL.Env) => bnd (rd ρ 1) fun f => grd (isClo f = true) (bnd (bnd (rd ρ 2) fun x => bnd (DL.ret []) fun xs => DL.ret (x :: xs)) fun ds => cloCall G 1 f ds)) ρ) xs))) fun ds => DL.ret (.lst ds)) fun x => bnd (DL.ret []) fun xs => DL.ret (x :: xs)) tupleD) fun x => bnd (DL.ret []) fun xs => DL.ret (x :: xs)) fun xs => DL.ret (x :: xs)) mk_Table) fun d => DL.ret (.rt d ρ)

def W_added (G : Gx) : DL.Env → W Out := fun (ρ : DL.Env) => seqW (bnd (bnd (bnd (rd ρ 0) fun x => bnd (bnd (rd ρ 1) fun x => bnd (DL.ret []) fun xs => DL.ret (x :: xs)) fun xs => DL.ret (x :: xs)) s_check_tables) fun _ => DL.ret (.nx ρ)) fun (ρ : DL.Env) => bnd (bnd (rds [0, 1] ρ) fun cs => bnd (bnd (bnd (rd ρ 0) fun x => fldD G "many" x) fun d => bnd (DL.ret []) fun ds => DL.ret (d :: ds)) fun ds => bnd (nox (s_built (ds ++ [.clo 0 cs]))) gNo) fun d => DL.ret (.rt d ρ)

def W_lessened (G : Gx) : DL.Env → W Out := fun (ρ : DL.Env) => seqW (bnd (bnd (bnd (rd ρ 0) fun x => bnd (bnd (rd ρ 1) fun x => bnd (DL.ret []) fun xs => DL.ret (x :: xs)) fun xs => DL.ret (x :: xs)) s_check_tables) fun _ => DL.ret (.nx ρ)) fun (ρ : DL.Env) => bnd (bnd (rds [0, 1] ρ) fun cs => bnd (bnd (bnd (rd ρ 0) fun x => fldD G "many" x) fun d => bnd (DL.ret []) fun ds => DL.ret (d :: ds)) fun ds => bnd (nox (s_built (ds ++ [.clo 1 cs]))) gNo) fun d => DL.ret (.rt d ρ)

def W_times (G : Gx) : DL.Env → W Out := fun (ρ : DL.Env) => seqW (bnd (bnd (bnd (rd ρ 0) fun x => bnd (DL.ret []) fun xs => DL.ret (x :: xs)) s_check_table) fun _ => DL.ret (.nx ρ)) fun (ρ : DL.Env) => seqW (bnd (notT (bnd (bnd (bnd (rd ρ 1) fun x => bnd (DL.ret []) fun xs => DL.ret (x :: xs)) s_is_integer) truD)) fun t => if t = true then stk else DL.ret (.nx ρ)) fun (ρ : DL.Env) => bnd (bnd (rds [1, 0] ρ) fun cs => bnd (bnd (bnd (rd ρ 0) fun x => fldD G "many" x) fun d => bnd (DL.ret []) fun ds => DL.ret (d :: ds)) fun ds => bnd (nox (s_built (ds ++ [.clo 2 cs]))) gNo) fun d => DL.ret (.rt d ρ)

def W_is_row (G : Gx) : DL.Env → W Out := fun (ρ : DL.Env) => seqW (bnd (orT (notT (bnd (bnd (rd ρ 0) fun d => optW ((isiD G (.ty "tuple") d).map D.bl)) truD)) (notT (bnd (bnd (DL.ret (.int 1)) fun x => bnd (bnd (bnd (rd ρ 0) fun x => bnd (DL.ret []) fun xs => DL.ret (x :: xs)) lenD) fun y => bnd (bnd (leD x y) asB) fun k => if k = true then bnd (DL.ret (.int 7)) fun z => leD y z else DL.ret (.bl false)) asB))) fun t => if t = true then bnd (DL.ret (.bl false)) fun d => DL.ret (.rt d ρ) else DL.ret (.nx ρ)) fun (ρ : DL.Env) => bnd (bnd (bnd (bnd (bnd (bnd (rd ρ 0) seqD) fun xs => grd (xs.length ≤ sizeLine) (nox (lcGo (lcF [1] (fun (d : D) (ρ : DL.Env) => DL.ret (ρ.set 1 (.d d))) (fun (ρ : DL.Env) => DL.ret true) (fun (ρ : DL.Env) => bnd (bnd (rd ρ 1) fun x => bnd (DL.ret []) fun xs => DL.ret (x :: xs)) s_is_integer) ρ) xs))) fun ds => DL.ret (.lst ds)) fun x => bnd (DL.ret []) fun xs => DL.ret (x :: xs)) allD) fun d => DL.ret (.rt d ρ)

def W_row_sum (G : Gx) : DL.Env → W Out := fun (ρ : DL.Env) => bnd (bnd (bnd (bnd (bnd (bnd (bnd (bnd (rd ρ 1) fun x => bnd (DL.ret []) fun xs => DL.ret (x :: xs)) s_lot_of) seqD) fun xs => grd (xs.length ≤ sizeLine) (nox (lcGo (lcF [2] (fun (d : D) (ρ : DL.Env) => DL.ret (ρ.set 2 (.d d))) (fun (ρ : DL.Env) => DL.ret true) (fun (ρ : DL.Env) => bnd (rd ρ 0) fun x => bnd (rd ρ 2) fun y => ixD x y) ρ) xs))) fun ds => DL.ret (.lst ds)) fun x => bnd (DL.ret []) fun xs => DL.ret (x :: xs)) sumD) fun d => DL.ret (.rt d ρ)

def W_of_row (G : Gx) : DL.Env → W Out := fun (ρ : DL.Env) => seqW (bnd (notT (bnd (bnd (bnd (rd ρ 0) fun x => bnd (DL.ret []) fun xs => DL.ret (x :: xs)) s_is_row) truD)) fun t => if t = true then stk else DL.ret (.nx ρ)) fun (ρ : DL.Env) => bnd (bnd (rds [0] ρ) fun cs => bnd (bnd (bnd (bnd (rd ρ 0) fun x => bnd (DL.ret []) fun xs => DL.ret (x :: xs)) lenD) fun d => bnd (DL.ret []) fun ds => DL.ret (d :: ds)) fun ds => bnd (nox (s_built (ds ++ [.clo 3 cs]))) gNo) fun d => DL.ret (.rt d ρ)

def W_of_sizes (G : Gx) : DL.Env → W Out := fun (ρ : DL.Env) => seqW (bnd (orT (notT (bnd (bnd (rd ρ 0) fun d => optW ((isiD G (.ty "tuple") d).map D.bl)) truD)) (notT (bnd (bnd (DL.ret (.int 2)) fun x => bnd (bnd (bnd (rd ρ 0) fun x => bnd (DL.ret []) fun xs => DL.ret (x :: xs)) lenD) fun y => bnd (bnd (leD x y) asB) fun k => if k = true then bnd (bnd (DL.ret (.int 7)) fun x => bnd (DL.ret (.int 1)) fun y => addD x y) fun z => leD y z else DL.ret (.bl false)) asB))) fun t => if t = true then stk else DL.ret (.nx ρ)) fun (ρ : DL.Env) => seqW (bnd (orT (notT (bnd (bnd (bnd (bnd (bnd (bnd (rd ρ 0) seqD) fun xs => grd (xs.length ≤ sizeLine) (nox (lcGo (lcF [1] (fun (d : D) (ρ : DL.Env) => DL.ret (ρ.set 1 (.d d))) (fun (ρ : DL.Env) => DL.ret true) (fun (ρ : DL.Env) => bnd (bnd (rd ρ 1) fun x => bnd (DL.ret []) fun xs => DL.ret (x :: xs)) s_is_integer) ρ) xs))) fun ds => DL.ret (.lst ds)) fun x => bnd (DL.ret []) fun xs => DL.ret (x :: xs)) allD) truD)) (bnd (bnd (bnd (rd ρ 0) fun x => bnd (DL.ret (.int 0)) fun y => ixD x y) fun x => bnd (DL.ret (.int 0)) fun y => eqD eqS true x y) asB)) fun t => if t = true then stk else DL.ret (.nx ρ)) fun (ρ : DL.Env) => bnd (bnd (rds [0] ρ) fun cs => bnd (bnd (bnd (bnd (bnd (rd ρ 0) fun x => bnd (DL.ret []) fun xs => DL.ret (x :: xs)) lenD) fun x => bnd (DL.ret (.int 1)) fun y => subD x y) fun d => bnd (DL.ret []) fun ds => DL.ret (d :: ds)) fun ds => bnd (nox (s_built (ds ++ [.clo 4 cs]))) gNo) fun d => DL.ret (.rt d ρ)

def W_other_side (G : Gx) : DL.Env → W Out := fun (ρ : DL.Env) => seqW (bnd (bnd (bnd (rd ρ 0) fun x => bnd (DL.ret []) fun xs => DL.ret (x :: xs)) s_check_table) fun _ => DL.ret (.nx ρ)) fun (ρ : DL.Env) => seqW (bnd (bnd (bnd (DL.ret c_POWERS) fun x => bnd (bnd (rd ρ 0) fun x => fldD G "many" x) fun y => ixD x y) fun x => bnd (DL.ret (.int 1)) fun y => subD x y) fun d => DL.ret (.nx (ρ.set 1 (.d d)))) fun (ρ : DL.Env) => bnd (bnd (rds [0, 1] ρ) fun cs => bnd (bnd (bnd (rd ρ 0) fun x => fldD G "many" x) fun d => bnd (DL.ret []) fun ds => DL.ret (d :: ds)) fun ds => bnd (nox (s_built (ds ++ [.clo 5 cs]))) gNo) fun d => DL.ret (.rt d ρ)

def W__law_hand (G : Gx) : DL.Env → W Out := fun (ρ : DL.Env) => bnd (bnd (bnd (bnd (bnd (bnd (bnd (rd ρ 0) fun x => bnd (DL.ret none) fun l => bnd (bnd (DL.ret (.int 63)) intO) fun u => sliceD l u x) seqD) fun xs => grd (xs.length ≤ sizeLine) (nox (lcGo (lcF [1] (fun (d : D) (ρ : DL.Env) => DL.ret (ρ.set 1 (.d d))) (fun (ρ : DL.Env) => DL.ret true) (fun (ρ : DL.Env) => bnd (bnd (bnd (bnd (rd ρ 1) fun x => bnd (DL.ret []) fun xs => DL.ret (x :: xs)) intD) fun x => bnd (DL.ret []) fun xs => DL.ret (x :: xs)) absD) ρ) xs))) fun ds => DL.ret (.lst ds)) fun x => bnd (bnd (DL.ret (.int 0)) fun x => bnd (bnd (DL.ret (.int 0)) fun x => bnd (bnd (bnd (DL.ret (.int 233)) fun x => bnd (bnd (DL.ret (.int 3)) fun x => bnd (bnd (bnd (bnd (rd ρ 0) fun x => bnd (DL.ret none) fun l => bnd (bnd (DL.ret (.int 63)) intO) fun u => sliceD l u x) fun x => bnd (DL.ret []) fun xs => DL.ret (x :: xs)) lenD) fun y => mulD x y) fun y => addD x y) fun x => bnd (bnd (DL.ret (.int 0)) fun x => bnd (DL.ret []) fun xs => DL.ret (x :: xs)) fun xs => DL.ret (x :: xs)) fun xs => DL.ret (x :: xs)) fun xs => DL.ret (x :: xs)) fun xs => DL.ret (x :: xs)) handD) fun d => DL.ret (.rt d ρ)

def W__law_draw (G : Gx) : DL.Env → W Out := fun (ρ : DL.Env) => seqW (bnd (andT (bnd (bnd (bnd (ownH 0 ρ) fun z => hixD z 2) fun x => bnd (DL.ret (.int 0)) fun y => eqD eqS false x y) asB) (bnd (bnd (bnd (ownH 0 ρ) fun z => hixD z 1) fun x => bnd (bnd (bnd (bnd (ownH 0 ρ) fun z => hixD z 0) fun x => bnd (DL.ret []) fun xs => DL.ret (x :: xs)) lenD) fun y => ltD x y) asB)) fun t => if t = true then seqW (bnd (bnd (bnd (ownH 0 ρ) fun z => hixD z 0) fun x => bnd (bnd (ownH 0 ρ) fun z => hixD z 1) fun y => ixD x y) fun d => DL.ret (.nx (ρ.set 2 (.d d)))) fun (ρ : DL.Env) => seqW (bnd (bnd (bnd (ownH 0 ρ) fun z => hixD z 1) fun x => bnd (DL.ret (.int 1)) fun y => addD x y) fun d => bnd (ownH 0 ρ) fun z => hsetD 0 ρ z 0 d) fun (ρ : DL.Env) => seqW (bnd (bnd (bnd (bnd (bnd (bnd (bnd (bnd (ownH 0 ρ) fun z => hixD z 3) fun x => bnd (DL.ret (.int 69621)) fun y => mulD x y) fun x => bnd (bnd (rd ρ 2) fun x => bnd (DL.ret (.int 40692)) fun y => mulD x y) fun y => addD x y) fun x => bnd (DL.ret (.int 193)) fun y => addD x y) fun x => bnd (DL.ret []) fun xs => DL.ret (x :: xs)) intD) fun x => bnd (DL.ret (.int 2147483629)) fun y => modD x y) fun d => bnd (ownH 0 ρ) fun z => hsetD 0 ρ z 2 d) fun (ρ : DL.Env) => bnd (bnd (bnd (rd ρ 2) fun x => bnd (bnd (DL.ret (.int 10)) fun x => bnd (DL.ret (.int 18)) fun y => powD x y) fun y => geD x y) asB) fun t => if t = true then bnd (rd ρ 2) fun d => bnd (ownH 0 ρ) fun z => hsetD 0 ρ z 1 d else DL.ret (.nx ρ) else DL.ret (.nx ρ)) fun (ρ : DL.Env) => seqW (bnd (bnd (bnd (bnd (ownH 0 ρ) fun z => hixD z 2) fun x => bnd (DL.ret (.int 0)) fun y => gtD x y) asB) fun t => if t = true then seqW (bnd (bnd (bnd (bnd (bnd (ownH 0 ρ) fun z => hixD z 2) fun x => bnd (DL.ret []) fun xs => DL.ret (x :: xs)) intD) fun x => bnd (rd ρ 1) fun y => modD x y) fun d => DL.ret (.nx (ρ.set 3 (.d d)))) fun (ρ : DL.Env) => seqW (bnd (bnd (bnd (ownH 0 ρ) fun z => hixD z 2) fun x => bnd (rd ρ 1) fun y => divD x y) fun d => bnd (ownH 0 ρ) fun z => hsetD 0 ρ z 1 d) fun (ρ : DL.Env) => bnd (rd ρ 3) fun d => DL.ret (.rt d ρ) else DL.ret (.nx ρ)) fun (ρ : DL.Env) => seqW (bnd (bnd (bnd (ownH 0 ρ) fun z => hixD z 4) fun x => bnd (DL.ret (.int 1)) fun y => addD x y) fun d => bnd (ownH 0 ρ) fun z => hsetD 0 ρ z 3 d) fun (ρ : DL.Env) => seqW (bnd (bnd (bnd (bnd (bnd (bnd (bnd (bnd (bnd (ownH 0 ρ) fun z => hixD z 3) fun x => bnd (bnd (DL.ret (.int 7919)) fun x => bnd (bnd (ownH 0 ρ) fun z => hixD z 4) fun y => mulD x y) fun y => addD x y) fun x => bnd (DL.ret []) fun xs => DL.ret (x :: xs)) intD) fun x => bnd (DL.ret (.int 48271)) fun y => mulD x y) fun x => bnd (DL.ret []) fun xs => DL.ret (x :: xs)) intD) fun x => bnd (DL.ret (.int 2147483647)) fun y => modD x y) fun d => DL.ret (.nx (ρ.set 4 (.d d)))) fun (ρ : DL.Env) => seqW (bnd (bnd (bnd (bnd (bnd (rd ρ 4) fun x => bnd (bnd (bnd (rd ρ 4) fun x => bnd (DL.ret (.int 1009)) fun y => divD x y) fun x => bnd (DL.ret (.int 69621)) fun y => addD x y) fun y => mulD x y) fun x => bnd (DL.ret []) fun xs => DL.ret (x :: xs)) intD) fun x => bnd (DL.ret (.int 2147483647)) fun y => modD x y) fun d => DL.ret (.nx (ρ.set 4 (.d d)))) fun (ρ : DL.Env) => seqW (bnd (bnd (bnd (bnd (bnd (rd ρ 4) fun x => bnd (bnd (bnd (rd ρ 4) fun x => bnd (DL.ret (.int 2003)) fun y => divD x y) fun x => bnd (DL.ret (.int 40014)) fun y => addD x y) fun y => mulD x y) fun x => bnd (DL.ret []) fun xs => DL.ret (x :: xs)) intD) fun x => bnd (DL.ret (.int 2147483563)) fun y => modD x y) fun d => DL.ret (.nx (ρ.set 4 (.d d)))) fun (ρ : DL.Env) => bnd (bnd (bnd (bnd (bnd (rd ρ 4) fun x => bnd (DL.ret (.int 16)) fun y => divD x y) fun x => bnd (DL.ret []) fun xs => DL.ret (x :: xs)) intD) fun x => bnd (rd ρ 1) fun y => modD x y) fun d => DL.ret (.rt d ρ)

def W__law_any (G : Gx) : DL.Env → W Out := fun (ρ : DL.Env) => bnd (bnd (rd ρ 1) fun x => bnd (bnd (bnd (rd ρ 0) fun x => bnd (bnd (bnd (bnd (rd ρ 1) fun x => bnd (DL.ret []) fun xs => DL.ret (x :: xs)) lenD) fun x => bnd (DL.ret []) fun xs => DL.ret (x :: xs)) fun xs => DL.ret (x :: xs)) s__law_draw) fun y => ixD x y) fun d => DL.ret (.rt d ρ)

def W__law_same (G : Gx) (s__law_same : List D → W D) : DL.Env → W Out := fun (ρ : DL.Env) => seqW (bnd (bnd (bnd (rd ρ 1) fun d => optW ((isiA G [.ty "tuple", .ty "list"] d).map D.bl)) truD) fun t => if t = true then seqW (bnd (orT (bnd (bnd (bnd (rd ρ 0) fun d => optW ((isiD G (.ty "tuple") d).map D.bl)) fun x => bnd (bnd (rd ρ 1) fun d => optW ((isiD G (.ty "tuple") d).map D.bl)) fun y => eqD eqS true x y) asB) (notT (bnd (bnd (rd ρ 0) fun d => optW ((isiA G [.ty "tuple", .ty "list"] d).map D.bl)) truD))) fun t => if t = true then bnd (DL.ret (.bl false)) fun d => DL.ret (.rt d ρ) else DL.ret (.nx ρ)) fun (ρ : DL.Env) => bnd (bnd (bnd (bnd (bnd (bnd (rd ρ 0) fun x => bnd (DL.ret []) fun xs => DL.ret (x :: xs)) lenD) fun x => bnd (bnd (bnd (rd ρ 1) fun x => bnd (DL.ret []) fun xs => DL.ret (x :: xs)) lenD) fun y => eqD eqS false x y) asB) fun k => if k = true then bnd (bnd (bnd (bnd (bnd (bnd (rd ρ 0) fun x => bnd (bnd (rd ρ 1) fun x => bnd (DL.ret []) fun xs => DL.ret (x :: xs)) fun xs => DL.ret (x :: xs)) zipS) fun xs => grd (xs.length ≤ sizeLine) (nox (lcGo (lcF [2, 3] (tupG 2 (consG (fun (d : D) (ρ : DL.Env) => DL.ret (ρ.set 2 (.d d))) (consG (fun (d : D) (ρ : DL.Env) => DL.ret (ρ.set 3 (.d d))) nilG))) (fun (ρ : DL.Env) => DL.ret true) (fun (ρ : DL.Env) => bnd (bnd (rd ρ 2) fun x => bnd (bnd (rd ρ 3) fun x => bnd (DL.ret []) fun xs => DL.ret (x :: xs)) fun xs => DL.ret (x :: xs)) s__law_same) ρ) xs))) fun ds => DL.ret (.lst ds)) fun x => bnd (DL.ret []) fun xs => DL.ret (x :: xs)) allD else DL.ret (.bl false)) fun d => DL.ret (.rt d ρ) else DL.ret (.nx ρ)) fun (ρ : DL.Env) => seqW (bnd (orT (bnd (bnd (rd ρ 1) fun d => optW ((isiD G (.ty "bool") d).map D.bl)) truD) (orT (bnd (bnd (rd ρ 0) fun d => optW ((isiD G (.ty "bool") d).map D.bl)) truD) (orT (bnd (bnd (rd ρ 1) fun x => bnd (DL.ret .non) fun y => isD x y) asB) (bnd (bnd (rd ρ 0) fun x => bnd (DL.ret .non) fun y => isD x y) asB)))) fun t => if t = true then bnd (bnd (bnd (bnd (bnd (rd ρ 0) fun d => optW ((isiD G (.ty "bool") d).map D.bl)) fun x => bnd (bnd (rd ρ 1) fun d => optW ((isiD G (.ty "bool") d).map D.bl)) fun y => eqD eqS false x y) asB) fun k => if k = true then bnd (bnd (bnd (bnd (rd ρ 0) fun x => bnd (DL.ret .non) fun y => isD x y) fun x => bnd (bnd (rd ρ 1) fun x => bnd (DL.ret .non) fun y => isD x y) fun y => eqD eqS false x y) asB) fun k => if k = true then bnd (rd ρ 0) fun x => bnd (rd ρ 1) fun y => eqD eqS false x y else DL.ret (.bl false) else DL.ret (.bl false)) fun d => DL.ret (.rt d ρ) else DL.ret (.nx ρ)) fun (ρ : DL.Env) => bnd (bnd (bnd (bnd (bnd (rd ρ 0) fun d => optW ((isiD G (.ty "str") d).map D.bl)) fun x => bnd (bnd (rd ρ 1) fun d => optW ((isiD G (.ty "str") d).map D.bl)) fun y => eqD eqS false x y) asB) fun k => if k = true then bnd (bnd (bnd (rd ρ 0) fun d => optW ((isiA G [.ty "int", .ty "str"] d).map D.bl)) asB) fun k => if k = true then bnd (rd ρ 0) fun x => bnd (rd ρ 1) fun y => eqD eqS false x y else DL.ret (.bl false) else DL.ret (.bl false)) fun d => DL.ret (.rt d ρ)

def W__law_lots (G : Gx) : DL.Env → W Out := fun (ρ : DL.Env) => seqW (bnd (bnd (bnd (bnd (DL.ret []) fun xs => DL.ret (.tup xs)) fun x => bnd (DL.ret []) fun xs => DL.ret (x :: xs)) fun xs => DL.ret (.lst xs)) fun d => DL.ret (.nx (ρ.set 1 (.d d)))) fun (ρ : DL.Env) => seqW (bnd (bnd (bnd (rd ρ 0) fun x => bnd (DL.ret []) fun xs => DL.ret (x :: xs)) rng1W) fun xs => forGo (fun x ρ => bnd (nox ((fun (d : D) (ρ : DL.Env) => DL.ret (ρ.set 2 (.d d))) x ρ)) fun (ρ : DL.Env) => bnd (bnd (rd ρ 1) fun x => bnd (bnd (bnd (bnd (rd ρ 1) seqD) fun xs => grd (xs.length ≤ sizeLine) (nox (lcGo (lcF [3] (fun (d : D) (ρ : DL.Env) => DL.ret (ρ.set 3 (.d d))) (fun (ρ : DL.Env) => DL.ret true) (fun (ρ : DL.Env) => bnd (rd ρ 3) fun x => bnd (bnd (bnd (rd ρ 2) fun x => bnd (DL.ret []) fun xs => DL.ret (x :: xs)) fun xs => DL.ret (.tup xs)) fun y => addD x y) ρ) xs))) fun ds => DL.ret (.lst ds)) fun y => addD x y) fun d => DL.ret (.nx (ρ.set 1 (.d d)))) xs ρ) fun (ρ : DL.Env) => bnd (rd ρ 1) fun d => DL.ret (.rt d ρ)

def W__law_drawn (G : Gx) : DL.Env → W Out := fun (ρ : DL.Env) => seqW (bnd (bnd (bnd (bnd (bnd (rd ρ 0) fun x => bnd (bnd (DL.ret (.int 4)) fun x => bnd (DL.ret []) fun xs => DL.ret (x :: xs)) fun xs => DL.ret (x :: xs)) s__law_draw) fun x => bnd (bnd (bnd (bnd (rd ρ 0) fun x => bnd (bnd (bnd (bnd (DL.ret (.int 2)) fun x => bnd (bnd (DL.ret (.int 5)) fun x => bnd (bnd (DL.ret (.int 50)) fun x => bnd (bnd (bnd (DL.ret (.int 10)) fun x => bnd (DL.ret (.int 20)) fun y => powD x y) fun x => bnd (DL.ret []) fun xs => DL.ret (x :: xs)) fun xs => DL.ret (x :: xs)) fun xs => DL.ret (x :: xs)) fun xs => DL.ret (x :: xs)) fun xs => DL.ret (.lst xs)) fun x => bnd (DL.ret []) fun xs => DL.ret (x :: xs)) fun xs => DL.ret (x :: xs)) s__law_any) fun x => bnd (DL.ret []) fun xs => DL.ret (x :: xs)) fun xs => DL.ret (x :: xs)) fun xs => DL.ret (.tup xs)) fun d => bnd (nox ((tupG 2 (consG (fun (d : D) (ρ : DL.Env) => DL.ret (ρ.set 2 (.d d))) (consG (fun (d : D) (ρ : DL.Env) => DL.ret (ρ.set 3 (.d d))) nilG))) d ρ)) fun (ρ' : DL.Env) => DL.ret (.nx ρ')) fun (ρ : DL.Env) => seqW (bnd (bnd (bnd (rd ρ 2) fun x => bnd (DL.ret (.int 0)) fun y => eqD eqS false x y) asB) fun t => if t = true then bnd (bnd (bnd (bnd (DL.ret (.int 0)) fun x => bnd (DL.ret []) fun xs => DL.ret (x :: xs)) fun xs => DL.ret (.tup xs)) fun x => bnd (bnd (bnd (bnd (bnd (bnd (bnd (bnd (bnd (rd ρ 1) fun x => bnd (DL.ret []) fun xs => DL.ret (x :: xs)) s__law_lots) fun x => bnd (bnd (DL.ret (.int 1)) intO) fun l => bnd (DL.ret none) fun u => sliceD l u x) seqD) fun xs => grd (xs.length ≤ sizeLine) (nox (lcGo (lcF [7] (fun (d : D) (ρ : DL.Env) => DL.ret (ρ.set 7 (.d d))) (fun (ρ : DL.Env) => DL.ret true) (fun (ρ : DL.Env) => bnd (bnd (bnd (rd ρ 0) fun x => bnd (bnd (bnd (bnd (DL.ret (.int 2)) fun x => bnd (rd ρ 3) fun y => mulD x y) fun x => bnd (DL.ret (.int 1)) fun y => addD x y) fun x => bnd (DL.ret []) fun xs => DL.ret (x :: xs)) fun xs => DL.ret (x :: xs)) s__law_draw) fun x => bnd (rd ρ 3) fun y => subD x y) ρ) xs))) fun ds => DL.ret (.lst ds)) fun x => bnd (DL.ret []) fun xs => DL.ret (x :: xs)) tupleD) fun y => addD x y) fun d => DL.ret (.rt d ρ) else DL.ret (.nx ρ)) fun (ρ : DL.Env) => seqW (bnd (bnd (bnd (bnd (bnd (rd ρ 1) fun x => bnd (DL.ret []) fun xs => DL.ret (x :: xs)) rng1W) fun xs => grd (xs.length ≤ sizeLine) (nox (lcGo (lcF [11] (fun (d : D) (ρ : DL.Env) => DL.ret (ρ.set 11 (.d d))) (fun (ρ : DL.Env) => DL.ret true) (fun (ρ : DL.Env) => bnd (bnd (bnd (rd ρ 0) fun x => bnd (bnd (DL.ret (.int 9)) fun x => bnd (DL.ret []) fun xs => DL.ret (x :: xs)) fun xs => DL.ret (x :: xs)) s__law_draw) fun x => bnd (DL.ret (.int 3)) fun y => subD x y) ρ) xs))) fun ds => DL.ret (.lst ds)) fun d => DL.ret (.nx (ρ.set 4 (.d d)))) fun (ρ : DL.Env) => seqW (bnd (bnd (bnd (bnd (DL.ret (.int 3)) fun x => bnd (DL.ret []) fun xs => DL.ret (x :: xs)) rng1W) fun xs => grd (xs.length ≤ sizeLine) (nox (lcGo (lcF [12] (fun (d : D) (ρ : DL.Env) => DL.ret (ρ.set 12 (.d d))) (fun (ρ : DL.Env) => DL.ret true) (fun (ρ : DL.Env) => bnd (bnd (bnd (DL.ret (.int 1)) fun x => bnd (bnd (bnd (rd ρ 0) fun x => bnd (bnd (DL.ret (.int 5)) fun x => bnd (DL.ret []) fun xs => DL.ret (x :: xs)) fun xs => DL.ret (x :: xs)) s__law_draw) fun y => addD x y) fun x => bnd (bnd (bnd (bnd (bnd (bnd (rd ρ 1) fun x => bnd (DL.ret []) fun xs => DL.ret (x :: xs)) rng1W) fun xs => grd (xs.length ≤ sizeLine) (nox (lcGo (lcF [11] (fun (d : D) (ρ : DL.Env) => DL.ret (ρ.set 11 (.d d))) (fun (ρ : DL.Env) => bnd (bnd (bnd (bnd (rd ρ 0) fun x => bnd (bnd (DL.ret (.int 2)) fun x => bnd (DL.ret []) fun xs => DL.ret (x :: xs)) fun xs => DL.ret (x :: xs)) s__law_draw) fun x => bnd (DL.ret (.int 0)) fun y => eqD eqS false x y) asB) (fun (ρ : DL.Env) => rd ρ 11) ρ) xs))) fun ds => DL.ret (.lst ds)) fun x => bnd (DL.ret []) fun xs => DL.ret (x :: xs)) fun xs => DL.ret (x :: xs)) fun xs => DL.ret (.tup xs)) ρ) xs))) fun ds => DL.ret (.nx (ρ.set 5 (.d (.lst ds))))) fun (ρ : DL.Env) => seqW (bnd (DL.ret []) fun ds => DL.ret (.nx (ρ.set 6 (.own (.lst none ds))))) fun (ρ : DL.Env) => seqW (bnd (bnd (bnd (bnd (rd ρ 1) fun x => bnd (DL.ret []) fun xs => DL.ret (x :: xs)) s__law_lots) seqD) fun xs => forGo (fun x ρ => bnd (nox ((fun (d : D) (ρ : DL.Env) => DL.ret (ρ.set 7 (.d d))) x ρ)) fun (ρ : DL.Env) => seqW (bnd (bnd (bnd (bnd (rd ρ 2) fun x => bnd (DL.ret (.int 2)) fun y => eqD eqS true x y) asB) fun k => if k = true then bnd (bnd (bnd (bnd (bnd (rd ρ 7) seqD) fun xs => grd (xs.length ≤ sizeLine) (nox (lcGo (lcF [11] (fun (d : D) (ρ : DL.Env) => DL.ret (ρ.set 11 (.d d))) (fun (ρ : DL.Env) => DL.ret true) (fun (ρ : DL.Env) => bnd (rd ρ 4) fun x => bnd (rd ρ 11) fun y => ixD x y) ρ) xs))) fun ds => DL.ret (.lst ds)) fun x => bnd (DL.ret []) fun xs => DL.ret (x :: xs)) sumD else DL.ret (.int 0)) fun d => DL.ret (.nx (ρ.set 8 (.d d)))) fun (ρ : DL.Env) => seqW (bnd (bnd (bnd (bnd (bnd (rd ρ 2) fun x => bnd (DL.ret (.int 1)) fun y => gtD x y) asB) fun k => if k = true then rd ρ 5 else bnd (DL.ret []) fun xs => DL.ret (.lst xs)) seqD) fun xs => forGo (fun x ρ => bnd (nox ((tupG 2 (consG (fun (d : D) (ρ : DL.Env) => DL.ret (ρ.set 9 (.d d))) (consG (fun (d : D) (ρ : DL.Env) => DL.ret (ρ.set 10 (.d d))) nilG))) x ρ)) fun (ρ : DL.Env) => bnd (bnd (rd ρ 8) fun x => bnd (bnd (bnd (bnd (bnd (bnd (bnd (bnd (rd ρ 7) seqD) fun xs => grd (xs.length ≤ sizeLine) (nox (lcGo (lcF [11] (fun (d : D) (ρ : DL.Env) => DL.ret (ρ.set 11 (.d d))) (fun (ρ : DL.Env) => DL.ret true) (fun (ρ : DL.Env) => bnd (rd ρ 11) fun x => bnd (rd ρ 10) fun y => inD false x y) ρ) xs))) fun ds => DL.ret (.lst ds)) fun x => bnd (DL.ret []) fun xs => DL.ret (x :: xs)) anyD) truD) fun k => if k = true then rd ρ 9 else DL.ret (.int 0)) fun y => addD x y) fun d => DL.ret (.nx (ρ.set 8 (.d d)))) xs ρ) fun (ρ : DL.Env) => bnd (ownL 6 ρ) fun z => bnd (rd ρ 8) fun d => grd (z.2.length < sizeLine) (DL.ret (.nx (ρ.set 6 (.own (.lst z.1 (z.2 ++ [d]))))))) xs ρ) fun (ρ : DL.Env) => bnd (frzW 6 ρ) fun (ρ : DL.Env) => bnd (bnd (bnd (rd ρ 6) fun x => bnd (DL.ret []) fun xs => DL.ret (x :: xs)) tupleD) fun d => DL.ret (.rt d ρ)

def W__law_is_told (G : Gx) : DL.Env → W Out := fun (ρ : DL.Env) => bnd (bnd (bnd (bnd (rd ρ 0) fun d => optW ((isiD G (.own 0) d).map D.bl)) asB) fun k => if k = true then bnd (bnd (bnd (bnd (bnd (rd ρ 0) fun x => fldD G "many" x) fun x => bnd (bnd (bnd (rd ρ 0) fun x => fldD G "numbers" x) fun x => bnd (DL.ret []) fun xs => DL.ret (x :: xs)) fun xs => DL.ret (x :: xs)) fun xs => DL.ret (.tup xs)) fun x => bnd (bnd (bnd (bnd (rd ρ 1) fun x => bnd (bnd (bnd (bnd (rd ρ 2) fun x => bnd (DL.ret []) fun xs => DL.ret (x :: xs)) tupleD) fun x => bnd (DL.ret []) fun xs => DL.ret (x :: xs)) fun xs => DL.ret (x :: xs)) fun xs => DL.ret (.tup xs)) fun x => bnd (DL.ret []) fun xs => DL.ret (x :: xs)) fun xs => DL.ret (x :: xs)) s__law_same else DL.ret (.bl false)) fun d => DL.ret (.rt d ρ)

def W__law_other_side (G : Gx) : DL.Env → W Out := fun (ρ : DL.Env) => seqW (bnd (bnd (bnd (DL.ret (.int 1)) fun x => bnd (rd ρ 0) fun y => shlD x y) fun x => bnd (DL.ret (.int 1)) fun y => subD x y) fun d => DL.ret (.nx (ρ.set 2 (.d d)))) fun (ρ : DL.Env) => bnd (bnd (bnd (bnd (bnd (bnd (rd ρ 2) fun x => bnd (DL.ret (.int 1)) fun y => addD x y) fun x => bnd (DL.ret []) fun xs => DL.ret (x :: xs)) rng1W) fun xs => grd (xs.length ≤ sizeLine) (nox (lcGo (lcF [3] (fun (d : D) (ρ : DL.Env) => DL.ret (ρ.set 3 (.d d))) (fun (ρ : DL.Env) => DL.ret true) (fun (ρ : DL.Env) => bnd (bnd (rd ρ 1) fun x => bnd (rd ρ 2) fun y => ixD x y) fun x => bnd (bnd (rd ρ 1) fun x => bnd (bnd (rd ρ 2) fun x => bnd (rd ρ 3) fun y => subD x y) fun y => ixD x y) fun y => subD x y) ρ) xs))) fun ds => DL.ret (.lst ds)) fun d => DL.ret (.rt d ρ)

def W__law_is_pair_right (G : Gx) : DL.Env → W Out := fun (ρ : DL.Env) => seqW (bnd (bnd (bnd (bnd (rd ρ 0) fun x => bnd (bnd (rd ρ 1) fun x => bnd (DL.ret []) fun xs => DL.ret (x :: xs)) fun xs => DL.ret (x :: xs)) mk_Table) fun x => bnd (bnd (bnd (bnd (rd ρ 0) fun x => bnd (bnd (rd ρ 2) fun x => bnd (DL.ret []) fun xs => DL.ret (x :: xs)) fun xs => DL.ret (x :: xs)) mk_Table) fun x => bnd (DL.ret []) fun xs => DL.ret (x :: xs)) fun xs => DL.ret (x :: xs)) fun ds => match ds with | [d, d'] => DL.ret (.nx ((ρ.set 4 (.d d)).set 5 (.d d'))) | _ => stk) fun (ρ : DL.Env) => seqW (bnd (notT (bnd (bnd (bnd (bnd (bnd (rd ρ 4) fun x => bnd (bnd (rd ρ 5) fun x => bnd (DL.ret []) fun xs => DL.ret (x :: xs)) fun xs => DL.ret (x :: xs)) s_added) fun x => bnd (bnd (rd ρ 0) fun x => bnd (bnd (bnd (bnd (bnd (bnd (rd ρ 1) fun x => bnd (bnd (rd ρ 2) fun x => bnd (DL.ret []) fun xs => DL.ret (x :: xs)) fun xs => DL.ret (x :: xs)) zipS) fun xs => grd (xs.length ≤ sizeLine) (nox (lcGo (lcF [6, 7] (tupG 2 (consG (fun (d : D) (ρ : DL.Env) => DL.ret (ρ.set 6 (.d d))) (consG (fun (d : D) (ρ : DL.Env) => DL.ret (ρ.set 7 (.d d))) nilG))) (fun (ρ : DL.Env) => DL.ret true) (fun (ρ : DL.Env) => bnd (rd ρ 6) fun x => bnd (rd ρ 7) fun y => addD x y) ρ) xs))) fun ds => DL.ret (.lst ds)) fun x => bnd (DL.ret []) fun xs => DL.ret (x :: xs)) fun xs => DL.ret (x :: xs)) fun xs => DL.ret (x :: xs)) s__law_is_told) truD)) fun t => if t = true then bnd (DL.ret (.bl false)) fun d => DL.ret (.rt d ρ) else DL.ret (.nx ρ)) fun (ρ : DL.Env) => seqW (bnd (notT (bnd (bnd (bnd (bnd (bnd (rd ρ 4) fun x => bnd (bnd (rd ρ 5) fun x => bnd (DL.ret []) fun xs => DL.ret (x :: xs)) fun xs => DL.ret (x :: xs)) s_lessened) fun x => bnd (bnd (rd ρ 0) fun x => bnd (bnd (bnd (bnd (bnd (bnd (rd ρ 1) fun x => bnd (bnd (rd ρ 2) fun x => bnd (DL.ret []) fun xs => DL.ret (x :: xs)) fun xs => DL.ret (x :: xs)) zipS) fun xs => grd (xs.length ≤ sizeLine) (nox (lcGo (lcF [6, 7] (tupG 2 (consG (fun (d : D) (ρ : DL.Env) => DL.ret (ρ.set 6 (.d d))) (consG (fun (d : D) (ρ : DL.Env) => DL.ret (ρ.set 7 (.d d))) nilG))) (fun (ρ : DL.Env) => DL.ret true) (fun (ρ : DL.Env) => bnd (rd ρ 6) fun x => bnd (rd ρ 7) fun y => subD x y) ρ) xs))) fun ds => DL.ret (.lst ds)) fun x => bnd (DL.ret []) fun xs => DL.ret (x :: xs)) fun xs => DL.ret (x :: xs)) fun xs => DL.ret (x :: xs)) s__law_is_told) truD)) fun t => if t = true then bnd (DL.ret (.bl false)) fun d => DL.ret (.rt d ρ) else DL.ret (.nx ρ)) fun (ρ : DL.Env) => seqW (bnd (notT (bnd (bnd (bnd (bnd (bnd (rd ρ 4) fun x => bnd (bnd (rd ρ 3) fun x => bnd (DL.ret []) fun xs => DL.ret (x :: xs)) fun xs => DL.ret (x :: xs)) s_times) fun x => bnd (bnd (rd ρ 0) fun x => bnd (bnd (bnd (bnd (bnd (rd ρ 1) seqD) fun xs => grd (xs.length ≤ sizeLine) (nox (lcGo (lcF [6] (fun (d : D) (ρ : DL.Env) => DL.ret (ρ.set 6 (.d d))) (fun (ρ : DL.Env) => DL.ret true) (fun (ρ : DL.Env) => bnd (rd ρ 3) fun x => bnd (rd ρ 6) fun y => mulD x y) ρ) xs))) fun ds => DL.ret (.lst ds)) fun x => bnd (DL.ret []) fun xs => DL.ret (x :: xs)) fun xs => DL.ret (x :: xs)) fun xs => DL.ret (x :: xs)) s__law_is_told) truD)) fun t => if t = true then bnd (DL.ret (.bl false)) fun d => DL.ret (.rt d ρ) else DL.ret (.nx ρ)) fun (ρ : DL.Env) => seqW (bnd (orT (bnd (bnd (bnd (bnd (bnd (bnd (rd ρ 4) fun x => bnd (bnd (rd ρ 5) fun x => bnd (DL.ret []) fun xs => DL.ret (x :: xs)) fun xs => DL.ret (x :: xs)) s_lessened) fun x => bnd (bnd (rd ρ 5) fun x => bnd (DL.ret []) fun xs => DL.ret (x :: xs)) fun xs => DL.ret (x :: xs)) s_added) fun x => bnd (rd ρ 4) fun y => eqD eqS true x y) asB) (bnd (bnd (bnd (bnd (rd ρ 4) fun x => bnd (bnd (rd ρ 5) fun x => bnd (DL.ret []) fun xs => DL.ret (x :: xs)) fun xs => DL.ret (x :: xs)) s_added) fun x => bnd (bnd (bnd (rd ρ 5) fun x => bnd (bnd (rd ρ 4) fun x => bnd (DL.ret []) fun xs => DL.ret (x :: xs)) fun xs => DL.ret (x :: xs)) s_added) fun y => eqD eqS true x y) asB)) fun t => if t = true then bnd (DL.ret (.bl false)) fun d => DL.ret (.rt d ρ) else DL.ret (.nx ρ)) fun (ρ : DL.Env) => seqW (bnd (orT (bnd (bnd (bnd (bnd (rd ρ 4) fun x => bnd (bnd (rd ρ 5) fun x => bnd (DL.ret []) fun xs => DL.ret (x :: xs)) fun xs => DL.ret (x :: xs)) s_lessened) fun x => bnd (bnd (bnd (rd ρ 4) fun x => bnd (bnd (bnd (bnd (rd ρ 5) fun x => bnd (bnd (bnd (DL.ret (.int 1)) fun x => negD x) fun x => bnd (DL.ret []) fun xs => DL.ret (x :: xs)) fun xs => DL.ret (x :: xs)) s_times) fun x => bnd (DL.ret []) fun xs => DL.ret (x :: xs)) fun xs => DL.ret (x :: xs)) s_added) fun y => eqD eqS true x y) asB) (bnd (bnd (bnd (bnd (rd ρ 4) fun x => bnd (bnd (DL.ret (.int 0)) fun x => bnd (DL.ret []) fun xs => DL.ret (x :: xs)) fun xs => DL.ret (x :: xs)) s_times) fun x => bnd (bnd (bnd (rd ρ 5) fun x => bnd (bnd (rd ρ 5) fun x => bnd (DL.ret []) fun xs => DL.ret (x :: xs)) fun xs => DL.ret (x :: xs)) s_lessened) fun y => eqD eqS true x y) asB)) fun t => if t = true then bnd (DL.ret (.bl false)) fun d => DL.ret (.rt d ρ) else DL.ret (.nx ρ)) fun (ρ : DL.Env) => seqW (bnd (bnd (bnd (bnd (bnd (bnd (bnd (rd ρ 4) fun x => bnd (bnd (rd ρ 5) fun x => bnd (DL.ret []) fun xs => DL.ret (x :: xs)) fun xs => DL.ret (x :: xs)) s_added) fun x => bnd (bnd (rd ρ 3) fun x => bnd (DL.ret []) fun xs => DL.ret (x :: xs)) fun xs => DL.ret (x :: xs)) s_times) fun x => bnd (bnd (bnd (bnd (bnd (rd ρ 4) fun x => bnd (bnd (rd ρ 3) fun x => bnd (DL.ret []) fun xs => DL.ret (x :: xs)) fun xs => DL.ret (x :: xs)) s_times) fun x => bnd (bnd (bnd (bnd (rd ρ 5) fun x => bnd (bnd (rd ρ 3) fun x => bnd (DL.ret []) fun xs => DL.ret (x :: xs)) fun xs => DL.ret (x :: xs)) s_times) fun x => bnd (DL.ret []) fun xs => DL.ret (x :: xs)) fun xs => DL.ret (x :: xs)) s_added) fun y => eqD eqS true x y) asB) fun t => if t = true then bnd (DL.ret (.bl false)) fun d => DL.ret (.rt d ρ) else DL.ret (.nx ρ)) fun (ρ : DL.Env) => bnd (bnd (bnd (bnd (bnd (bnd (rd ρ 4) fun x => bnd (bnd (rd ρ 5) fun x => bnd (DL.ret []) fun xs => DL.ret (x :: xs)) fun xs => DL.ret (x :: xs)) s_added) fun x => bnd (DL.ret []) fun xs => DL.ret (x :: xs)) s_other_side) fun x => bnd (bnd (bnd (bnd (bnd (rd ρ 4) fun x => bnd (DL.ret []) fun xs => DL.ret (x :: xs)) s_other_side) fun x => bnd (bnd (bnd (bnd (rd ρ 5) fun x => bnd (DL.ret []) fun xs => DL.ret (x :: xs)) s_other_side) fun x => bnd (DL.ret []) fun xs => DL.ret (x :: xs)) fun xs => DL.ret (x :: xs)) s_added) fun y => eqD eqS false x y) fun d => DL.ret (.rt d ρ)

def W_law (G : Gx) : DL.Env → W Out := fun (ρ : DL.Env) => seqW (bnd (bnd (bnd (rd ρ 0) fun x => bnd (DL.ret []) fun xs => DL.ret (x :: xs)) s__law_hand) fun d => DL.ret (.nx (ρ.set 1 (.d d)))) fun (ρ : DL.Env) => seqW (bnd (bnd (bnd (DL.ret (.int 4)) fun x => bnd (DL.ret []) fun xs => DL.ret (x :: xs)) rng1W) fun xs => forGo (fun x ρ => bnd (nox ((fun (d : D) (ρ : DL.Env) => DL.ret (ρ.set 2 (.d d))) x ρ)) fun (ρ : DL.Env) => seqW (bnd (bnd (DL.ret (.int 1)) fun x => bnd (bnd (bnd (rd ρ 1) fun x => bnd (bnd (bnd (bnd (rd ρ 1) fun x => bnd (bnd (bnd (bnd (DL.ret (.int 3)) fun x => bnd (bnd (DL.ret (.int 4)) fun x => bnd (bnd (DL.ret (.int 6)) fun x => bnd (DL.ret []) fun xs => DL.ret (x :: xs)) fun xs => DL.ret (x :: xs)) fun xs => DL.ret (x :: xs)) fun xs => DL.ret (.lst xs)) fun x => bnd (DL.ret []) fun xs => DL.ret (x :: xs)) fun xs => DL.ret (x :: xs)) s__law_any) fun x => bnd (DL.ret []) fun xs => DL.ret (x :: xs)) fun xs => DL.ret (x :: xs)) s__law_draw) fun y => addD x y) fun d => DL.ret (.nx (ρ.set 3 (.d d)))) fun (ρ : DL.Env) => seqW (bnd (bnd (bnd (bnd (rd ρ 1) fun x => bnd (bnd (rd ρ 3) fun x => bnd (DL.ret []) fun xs => DL.ret (x :: xs)) fun xs => DL.ret (x :: xs)) s__law_drawn) fun x => bnd (bnd (bnd (bnd (rd ρ 1) fun x => bnd (bnd (rd ρ 3) fun x => bnd (DL.ret []) fun xs => DL.ret (x :: xs)) fun xs => DL.ret (x :: xs)) s__law_drawn) fun x => bnd (bnd (bnd (bnd (rd ρ 3) fun x => bnd (DL.ret []) fun xs => DL.ret (x :: xs)) s__law_lots) fun x => bnd (DL.ret []) fun xs => DL.ret (x :: xs)) fun xs => DL.ret (x :: xs)) fun xs => DL.ret (x :: xs)) fun ds => match ds with | [d, d', d2] => DL.ret (.nx (((ρ.set 4 (.d d)).set 5 (.d d')).set 6 (.d d2))) | _ => stk) fun (ρ : DL.Env) => seqW (bnd (bnd (bnd (rd ρ 1) fun x => bnd (bnd (bnd (bnd (DL.ret (.int 0)) fun x => bnd (bnd (DL.ret (.int 1)) fun x => bnd (bnd (bnd (DL.ret (.int 1)) fun x => negD x) fun x => bnd (bnd (DL.ret (.int 2)) fun x => bnd (bnd (bnd (bnd (bnd (rd ρ 1) fun x => bnd (bnd (DL.ret (.int 99)) fun x => bnd (DL.ret []) fun xs => DL.ret (x :: xs)) fun xs => DL.ret (x :: xs)) s__law_draw) fun x => bnd (DL.ret (.int 49)) fun y => subD x y) fun x => bnd (bnd (bnd (DL.ret (.int 10)) fun x => bnd (DL.ret (.int 40)) fun y => powD x y) fun x => bnd (DL.ret []) fun xs => DL.ret (x :: xs)) fun xs => DL.ret (x :: xs)) fun xs => DL.ret (x :: xs)) fun xs => DL.ret (x :: xs)) fun xs => DL.ret (x :: xs)) fun xs => DL.ret (x :: xs)) fun xs => DL.ret (.lst xs)) fun x => bnd (DL.ret []) fun xs => DL.ret (x :: xs)) fun xs => DL.ret (x :: xs)) s__law_any) fun d => DL.ret (.nx (ρ.set 7 (.d d)))) fun (ρ : DL.Env) => seqW (bnd (notT (bnd (bnd (bnd (rd ρ 3) fun x => bnd (bnd (rd ρ 4) fun x => bnd (bnd (rd ρ 5) fun x => bnd (bnd (rd ρ 7) fun x => bnd (DL.ret []) fun xs => DL.ret (x :: xs)) fun xs => DL.ret (x :: xs)) fun xs => DL.ret (x :: xs)) fun xs => DL.ret (x :: xs)) s__law_is_pair_right) truD)) fun t => if t = true then bnd (DL.ret (.bl false)) fun d => DL.ret (.rt d ρ) else DL.ret (.nx ρ)) fun (ρ : DL.Env) => seqW (bnd (bnd (bnd (rd ρ 3) fun x => bnd (bnd (rd ρ 4) fun x => bnd (DL.ret []) fun xs => DL.ret (x :: xs)) fun xs => DL.ret (x :: xs)) mk_Table) fun d => DL.ret (.nx (ρ.set 8 (.d d)))) fun (ρ : DL.Env) => seqW (bnd (notT (bnd (bnd (bnd (bnd (bnd (rd ρ 8) fun x => bnd (DL.ret []) fun xs => DL.ret (x :: xs)) s_other_side) fun x => bnd (bnd (rd ρ 3) fun x => bnd (bnd (bnd (bnd (rd ρ 3) fun x => bnd (bnd (rd ρ 4) fun x => bnd (DL.ret []) fun xs => DL.ret (x :: xs)) fun xs => DL.ret (x :: xs)) s__law_other_side) fun x => bnd (DL.ret []) fun xs => DL.ret (x :: xs)) fun xs => DL.ret (x :: xs)) fun xs => DL.ret (x :: xs)) s__law_is_told) truD)) fun t => if t = true then bnd (DL.ret (.bl false)) fun d => DL.ret (.rt d ρ) else DL.ret (.nx ρ)) fun (ρ : DL.Env) => seqW (bnd (bnd (bnd (bnd (bnd (bnd (bnd (rd ρ 8) fun x => bnd (DL.ret []) fun xs => DL.ret (x :: xs)) s_other_side) fun x => bnd (DL.ret []) fun xs => DL.ret (x :: xs)) s_other_side) fun x => bnd (rd ρ 8) fun y => eqD eqS true x y) asB) fun t => if t = true then bnd (DL.ret (.bl false)) fun d => DL.ret (.rt d ρ) else DL.ret (.nx ρ)) fun (ρ : DL.Env) => seqW (bnd (bnd (bnd (bnd (bnd (bnd (bnd (rd ρ 3) fun x => bnd (DL.ret []) fun xs => DL.ret (x :: xs)) rng1W) fun xs => grd (xs.length ≤ sizeLine) (nox (lcGo (lcF [11] (fun (d : D) (ρ : DL.Env) => DL.ret (ρ.set 11 (.d d))) (fun (ρ : DL.Env) => DL.ret true) (fun (ρ : DL.Env) => bnd (bnd (bnd (rd ρ 1) fun x => bnd (bnd (DL.ret (.int 41)) fun x => bnd (DL.ret []) fun xs => DL.ret (x :: xs)) fun xs => DL.ret (x :: xs)) s__law_draw) fun x => bnd (DL.ret (.int 20)) fun y => subD x y) ρ) xs))) fun ds => DL.ret (.lst ds)) fun x => bnd (DL.ret []) fun xs => DL.ret (x :: xs)) tupleD) fun d => DL.ret (.nx (ρ.set 9 (.d d)))) fun (ρ : DL.Env) => seqW (bnd (notT (bnd (bnd (bnd (bnd (bnd (rd ρ 9) fun x => bnd (DL.ret []) fun xs => DL.ret (x :: xs)) s_of_row) fun x => bnd (bnd (rd ρ 3) fun x => bnd (bnd (bnd (bnd (bnd (rd ρ 6) seqD) fun xs => grd (xs.length ≤ sizeLine) (nox (lcGo (lcF [12] (fun (d : D) (ρ : DL.Env) => DL.ret (ρ.set 12 (.d d))) (fun (ρ : DL.Env) => DL.ret true) (fun (ρ : DL.Env) => bnd (bnd (bnd (bnd (bnd (rd ρ 12) seqD) fun xs => grd (xs.length ≤ sizeLine) (nox (lcGo (lcF [11] (fun (d : D) (ρ : DL.Env) => DL.ret (ρ.set 11 (.d d))) (fun (ρ : DL.Env) => DL.ret true) (fun (ρ : DL.Env) => bnd (rd ρ 9) fun x => bnd (rd ρ 11) fun y => ixD x y) ρ) xs))) fun ds => DL.ret (.lst ds)) fun x => bnd (DL.ret []) fun xs => DL.ret (x :: xs)) sumD) ρ) xs))) fun ds => DL.ret (.lst ds)) fun x => bnd (DL.ret []) fun xs => DL.ret (x :: xs)) fun xs => DL.ret (x :: xs)) fun xs => DL.ret (x :: xs)) s__law_is_told) truD)) fun t => if t = true then bnd (DL.ret (.bl false)) fun d => DL.ret (.rt d ρ) else DL.ret (.nx ρ)) fun (ρ : DL.Env) => seqW (bnd (bnd (bnd (bnd (bnd (bnd (bnd (rd ρ 9) fun x => bnd (DL.ret []) fun xs => DL.ret (x :: xs)) s_of_row) fun x => bnd (DL.ret []) fun xs => DL.ret (x :: xs)) s_other_side) fun x => bnd (bnd (bnd (rd ρ 9) fun x => bnd (DL.ret []) fun xs => DL.ret (x :: xs)) s_of_row) fun y => eqD eqS true x y) asB) fun t => if t = true then bnd (DL.ret (.bl false)) fun d => DL.ret (.rt d ρ) else DL.ret (.nx ρ)) fun (ρ : DL.Env) => seqW (bnd (bnd (bnd (bnd (DL.ret (.int 0)) fun x => bnd (DL.ret []) fun xs => DL.ret (x :: xs)) fun xs => DL.ret (.tup xs)) fun x => bnd (bnd (bnd (bnd (bnd (bnd (bnd (rd ρ 3) fun x => bnd (DL.ret []) fun xs => DL.ret (x :: xs)) rng1W) fun xs => grd (xs.length ≤ sizeLine) (nox (lcGo (lcF [11] (fun (d : D) (ρ : DL.Env) => DL.ret (ρ.set 11 (.d d))) (fun (ρ : DL.Env) => DL.ret true) (fun (ρ : DL.Env) => bnd (bnd (bnd (rd ρ 1) fun x => bnd (bnd (DL.ret (.int 41)) fun x => bnd (DL.ret []) fun xs => DL.ret (x :: xs)) fun xs => DL.ret (x :: xs)) s__law_draw) fun x => bnd (DL.ret (.int 20)) fun y => subD x y) ρ) xs))) fun ds => DL.ret (.lst ds)) fun x => bnd (DL.ret []) fun xs => DL.ret (x :: xs)) tupleD) fun y => addD x y) fun d => DL.ret (.nx (ρ.set 10 (.d d)))) fun (ρ : DL.Env) => seqW (bnd (notT (bnd (bnd (bnd (bnd (bnd (rd ρ 10) fun x => bnd (DL.ret []) fun xs => DL.ret (x :: xs)) s_of_sizes) fun x => bnd (bnd (rd ρ 3) fun x => bnd (bnd (bnd (bnd (bnd (rd ρ 6) seqD) fun xs => grd (xs.length ≤ sizeLine) (nox (lcGo (lcF [12] (fun (d : D) (ρ : DL.Env) => DL.ret (ρ.set 12 (.d d))) (fun (ρ : DL.Env) => DL.ret true) (fun (ρ : DL.Env) => bnd (rd ρ 10) fun x => bnd (bnd (bnd (rd ρ 12) fun x => bnd (DL.ret []) fun xs => DL.ret (x :: xs)) lenD) fun y => ixD x y) ρ) xs))) fun ds => DL.ret (.lst ds)) fun x => bnd (DL.ret []) fun xs => DL.ret (x :: xs)) fun xs => DL.ret (x :: xs)) fun xs => DL.ret (x :: xs)) s__law_is_told) truD)) fun t => if t = true then bnd (DL.ret (.bl false)) fun d => DL.ret (.rt d ρ) else DL.ret (.nx ρ)) fun (ρ : DL.Env) => bnd (bnd (bnd (bnd (bnd (bnd (bnd (bnd (bnd (rd ρ 3) fun x => bnd (DL.ret (.int 1)) fun y => addD x y) fun d => bnd (rgW d) fun xs => DL.ret (.lst xs)) fun x => bnd (DL.ret []) fun xs => DL.ret (x :: xs)) tupleD) fun x => bnd (DL.ret []) fun xs => DL.ret (x :: xs)) s_of_sizes) fun x => bnd (bnd (bnd (bnd (bnd (bnd (DL.ret (.int 1)) fun x => bnd (DL.ret []) fun xs => DL.ret (x :: xs)) fun xs => DL.ret (.tup xs)) fun x => bnd (rd ρ 3) fun y => mulD x y) fun x => bnd (DL.ret []) fun xs => DL.ret (x :: xs)) s_of_row) fun y => eqD eqS true x y) asB) fun t => if t = true then bnd (DL.ret (.bl false)) fun d => DL.ret (.rt d ρ) else DL.ret (.nx ρ)) xs ρ) fun (ρ : DL.Env) => bnd (DL.ret (.bl true)) fun d => DL.ret (.rt d ρ)

def WL_0 (G : Gx) : DL.Env → W D := fun (ρ : DL.Env) => bnd (bnd (bnd (rd ρ 1) fun x => fldD G "numbers" x) fun x => bnd (rd ρ 0) fun y => ixD x y) fun x => bnd (bnd (bnd (rd ρ 2) fun x => fldD G "numbers" x) fun x => bnd (rd ρ 0) fun y => ixD x y) fun y => addD x y

def WL_1 (G : Gx) : DL.Env → W D := fun (ρ : DL.Env) => bnd (bnd (bnd (rd ρ 1) fun x => fldD G "numbers" x) fun x => bnd (rd ρ 0) fun y => ixD x y) fun x => bnd (bnd (bnd (rd ρ 2) fun x => fldD G "numbers" x) fun x => bnd (rd ρ 0) fun y => ixD x y) fun y => subD x y

def WL_2 (G : Gx) : DL.Env → W D := fun (ρ : DL.Env) => bnd (bnd (bnd (rd ρ 2) fun x => fldD G "numbers" x) fun x => bnd (rd ρ 0) fun y => ixD x y) fun x => bnd (rd ρ 1) fun y => mulD x y

def WL_3 (G : Gx) : DL.Env → W D := fun (ρ : DL.Env) => bnd (bnd (rd ρ 1) fun x => bnd (bnd (rd ρ 0) fun x => bnd (DL.ret []) fun xs => DL.ret (x :: xs)) fun xs => DL.ret (x :: xs)) s_row_sum

def WL_4 (G : Gx) : DL.Env → W D := fun (ρ : DL.Env) => bnd (rd ρ 1) fun x => bnd (bnd (bnd (bnd (bnd (rd ρ 0) fun x => bnd (DL.ret []) fun xs => DL.ret (x :: xs)) s_lot_of) fun x => bnd (DL.ret []) fun xs => DL.ret (x :: xs)) lenD) fun y => ixD x y

def WL_5 (G : Gx) : DL.Env → W D := fun (ρ : DL.Env) => bnd (bnd (bnd (rd ρ 1) fun x => fldD G "numbers" x) fun x => bnd (rd ρ 2) fun y => ixD x y) fun x => bnd (bnd (bnd (rd ρ 1) fun x => fldD G "numbers" x) fun x => bnd (bnd (rd ρ 2) fun x => bnd (rd ρ 0) fun y => subD x y) fun y => ixD x y) fun y => subD x y

end K02
end
section
set_option Elab.async false
set_option linter.all false
set_option maxRecDepth 100000
set_option maxHeartbeats 4000000
set_option autoImplicit false
namespace K02
open PySem PySem.Spec L2 DL
theorem gx_eq {G : Gx} (gs : GS G) : G = ⟨G.K, G.cls, flds, G.xcls, G.xfld, G.lam, cloW, G.T⟩ := by
  obtain ⟨K, cls, f, xc, xf, lam, cw, T⟩ := G
  obtain ⟨h1, h2, h3⟩ := gs
  simp only at h1 h2
  subst h1 h2
  rfl
theorem fld_many {K : PySem.W.Frag} {cls xc : Nat → Addr} {xf : Nat → Option Str} {lam : Nat → LF} {cw : Nat → List D → List D → W D} {T : List NdefX.NTab} (a b : D) : fldD ⟨K, cls, flds, xc, xf, lam, cw, T⟩ "many" (.ins 0 [a, b]) = DL.ret a := rfl
theorem fld_numbers {K : PySem.W.Frag} {cls xc : Nat → Addr} {xf : Nat → Option Str} {lam : Nat → LF} {cw : Nat → List D → List D → W D} {T : List NdefX.NTab} (a b : D) : fldD ⟨K, cls, flds, xc, xf, lam, cw, T⟩ "numbers" (.ins 0 [a, b]) = DL.ret b := rfl
theorem bit_eq (m i : Nat) : ((m : Int) / 2 ^ i % 2 = 1) ↔ (m / 2 ^ i % 2 = 1) := by
  have : ((m : Int) / 2 ^ i % 2) = ((m / 2 ^ i % 2 : Nat) : Int) := by
    rw [Int.natCast_emod, Int.natCast_ediv, Int.natCast_pow]
    rfl
  rw [this]
  omega
theorem cdiv_pow (m : Int) (i : Nat) (hi : i < 7) : CDivW m (2 ^ i) := by
  have h1 : ∀ i < 7, (0 : Int) < 2 ^ i := by decide
  have h2 : ∀ i < 7, ((2 : Int) ^ i).natAbs.log2 < 9000 := by decide
  exact ⟨h1 i hi, h2 i hi⟩
theorem pow_at (i : Nat) (hi : i < 8) : powers[i]? = some ((2 : Int) ^ i) := by
  have : ∀ i < 8, powers[i]? = some ((2 : Int) ^ i) := by decide
  exact this i hi
theorem m_lot_of {G : Gx} (gs : GS G) (ds : List D) (Q : D → Prop) (E : DX → Prop) (h : s_lot_of ds Q E) : endW (W_lot_of G (env0 2 ds)) Q E := by
  match ds, h with
  | [.int mask], h =>
    obtain ⟨⟨h0, h1⟩, h⟩ := h
    obtain ⟨m, rfl⟩ : ∃ m : Nat, mask = (m : Int) := ⟨mask.toNat, by rw [Int.toNat_of_nonneg h0]⟩
    clear h0 h1
    rw [Int.toNat_natCast] at h
    simp [DL.endW, DL.bnd, DL.ret, DL.seqW, DL.grd, DL.nox, DL.rd, DL.env0, DL.asB, DL.truD, DL.andT, DL.orT, DL.notT, DL.optW, DL.onI2, DL.cmpI, DL.subD, DL.lenD, DL.intO, DL.tupleD, DL.listD, DL.ite_app, W_lot_of, rng1W, rangeD0]
    refine ⟨by decide, lcGo_map (g := fun d => match d with | .int i => if m / 2 ^ i.toNat % 2 = 1 then some d else none | _ => none) ?_ ?_⟩
    · intro x hx Q hQ
      obtain ⟨i, hi, rfl⟩ := List.mem_map.mp hx
      have hi : i < 7 := by simpa using hi
      have hQ : Q (if m / 2 ^ (i : Int).toNat % 2 = 1 then some (.int i) else none) := hQ
      rw [Int.toNat_natCast] at hQ
      have e1 : ixD c_POWERS (.int (i : Int)) = DL.ret (.int (2 ^ i)) := ixT_int (ns := powers) (by omega) (by simpa using pow_at i (by omega))
      simp [DL.endW, DL.bnd, DL.ret, DL.seqW, DL.grd, DL.nox, DL.rd, DL.env0, DL.asB, DL.truD, DL.andT, DL.orT, DL.notT, DL.optW, DL.onI2, DL.cmpI, DL.subD, DL.lenD, DL.intO, DL.tupleD, DL.listD, DL.ite_app, lcF, wipeE, e1, divD, modD, cdiv_pow (m : Int) i hi, eq_int]
      by_cases z : m / 2 ^ i % 2 = 1
      · have z1 := (bit_eq m i).mpr z
        simpa [z, z1] using hQ
      · have z1 : ¬ ((m : Int) / 2 ^ i % 2 = 1) := fun y => z ((bit_eq m i).mp y)
        simpa [z, z1] using hQ
    · have : (List.map (fun i : Nat => D.int ↑i) (List.range 7)).filterMap (fun d => match d with | .int i => if m / 2 ^ i.toNat % 2 = 1 then some d else none | _ => none) = ((lotOf m).map fun i : Nat => (i : Int)).map D.int := by
        unfold lotOf
        rw [List.filterMap_map, List.map_map, ← List.filterMap_eq_map, List.filterMap_filter]
        congr 1
        funext i
        by_cases z : m / 2 ^ i % 2 = 1 <;> simp [z]
      rw [this]
      exact h
theorem mL_0 {G : Gx} (gs : GS G) (cs ds : List D) (Q : D → Prop) (h : cloW 0 cs ds Q (fun _ => False)) : WL_0 G (envL 3 ds cs) Q (fun _ => False) := by
  rw [gx_eq gs]
  match cs, ds, h with
  | [.ins 0 [.int m, .tup xs], .ins 0 [.int m', .tup ys]], [.int k], h =>
    obtain ⟨ns, ns', x, y, rfl, rfl, h0, e1, e2, q⟩ := h
    simp [DL.endW, DL.bnd, DL.ret, DL.seqW, DL.grd, DL.nox, DL.rd, DL.env0, DL.asB, DL.truD, DL.andT, DL.orT, DL.notT, DL.optW, DL.onI2, DL.cmpI, DL.subD, DL.lenD, DL.intO, DL.tupleD, DL.listD, DL.ite_app, WL_0, envL, fld_many, fld_numbers, ixT_int h0 e1, ixT_int h0 e2, addD]
    exact q
theorem mL_1 {G : Gx} (gs : GS G) (cs ds : List D) (Q : D → Prop) (h : cloW 1 cs ds Q (fun _ => False)) : WL_1 G (envL 3 ds cs) Q (fun _ => False) := by
  rw [gx_eq gs]
  match cs, ds, h with
  | [.ins 0 [.int m, .tup xs], .ins 0 [.int m', .tup ys]], [.int k], h =>
    obtain ⟨ns, ns', x, y, rfl, rfl, h0, e1, e2, q⟩ := h
    simp [DL.endW, DL.bnd, DL.ret, DL.seqW, DL.grd, DL.nox, DL.rd, DL.env0, DL.asB, DL.truD, DL.andT, DL.orT, DL.notT, DL.optW, DL.onI2, DL.cmpI, DL.subD, DL.lenD, DL.intO, DL.tupleD, DL.listD, DL.ite_app, WL_1, envL, fld_many, fld_numbers, ixT_int h0 e1, ixT_int h0 e2]
    exact q
theorem mL_2 {G : Gx} (gs : GS G) (cs ds : List D) (Q : D → Prop) (h : cloW 2 cs ds Q (fun _ => False)) : WL_2 G (envL 3 ds cs) Q (fun _ => False) := by
  rw [gx_eq gs]
  match cs, ds, h with
  | [.int n, .ins 0 [.int m, .tup xs]], [.int k], h =>
    obtain ⟨ns, x, rfl, h0, e1, hm, q⟩ := h
    simp [DL.endW, DL.bnd, DL.ret, DL.seqW, DL.grd, DL.nox, DL.rd, DL.env0, DL.asB, DL.truD, DL.andT, DL.orT, DL.notT, DL.optW, DL.onI2, DL.cmpI, DL.subD, DL.lenD, DL.intO, DL.tupleD, DL.listD, DL.ite_app, WL_2, envL, fld_many, fld_numbers, ixT_int h0 e1, mulD]
    exact ⟨hm, q⟩
theorem mL_3 {G : Gx} (gs : GS G) (cs ds : List D) (Q : D → Prop) (h : cloW 3 cs ds Q (fun _ => False)) : WL_3 G (envL 2 ds cs) Q (fun _ => False) := by
  match cs, ds, h with
  | [.tup xs], [.int k], h =>
    simp [DL.endW, DL.bnd, DL.ret, DL.seqW, DL.grd, DL.nox, DL.rd, DL.env0, DL.asB, DL.truD, DL.andT, DL.orT, DL.notT, DL.optW, DL.onI2, DL.cmpI, DL.subD, DL.lenD, DL.intO, DL.tupleD, DL.listD, DL.ite_app, WL_3, envL]
    exact h
theorem mL_4 {G : Gx} (gs : GS G) (cs ds : List D) (Q : D → Prop) (h : cloW 4 cs ds Q (fun _ => False)) : WL_4 G (envL 2 ds cs) Q (fun _ => False) := by
  match cs, ds, h with
  | [.tup xs], [.int k], h =>
    obtain ⟨row, x, rfl, h0, h1, e, q⟩ := h
    simp [DL.endW, DL.bnd, DL.ret, DL.seqW, DL.grd, DL.nox, DL.rd, DL.env0, DL.asB, DL.truD, DL.andT, DL.orT, DL.notT, DL.optW, DL.onI2, DL.cmpI, DL.subD, DL.lenD, DL.intO, DL.tupleD, DL.listD, DL.ite_app, WL_4, envL, s_lot_of]
    refine ⟨⟨h0, by omega⟩, ?_⟩
    rw [ixT_int (by omega) (by simpa using e)]
    exact q
theorem mL_5 {G : Gx} (gs : GS G) (cs ds : List D) (Q : D → Prop) (h : cloW 5 cs ds Q (fun _ => False)) : WL_5 G (envL 3 ds cs) Q (fun _ => False) := by
  rw [gx_eq gs]
  match cs, ds, h with
  | [.ins 0 [.int m, .tup xs], .int w], [.int k], h =>
    obtain ⟨ns, x, y, rfl, h0, h1, e1, e2, q⟩ := h
    simp [DL.endW, DL.bnd, DL.ret, DL.seqW, DL.grd, DL.nox, DL.rd, DL.env0, DL.asB, DL.truD, DL.andT, DL.orT, DL.notT, DL.optW, DL.onI2, DL.cmpI, DL.subD, DL.lenD, DL.intO, DL.tupleD, DL.listD, DL.ite_app, WL_5, envL, fld_many, fld_numbers, ixT_int (by omega) e1, ixT_int (by omega) e2]
    exact q
end K02
end
section
set_option Elab.async false
set_option linter.all false
set_option maxRecDepth 100000
set_option maxHeartbeats 4000000
set_option autoImplicit false
namespace K02
open PySem PySem.Spec L2 DL
theorem m_is_integer {G : Gx} (gs : GS G) (ds : List D) (Q : D → Prop) (E : DX → Prop) (h : s_is_integer ds Q E) : endW (W_is_integer G (env0 1 ds)) Q E := by
  rw [gx_eq gs]
  match ds, h with
  | [d], h =>
    obtain ⟨y, e, q⟩ := optW_of h
    cases d <;> first | (simp [isInt] at e; done) | skip
    all_goals first
      | (simp only [isInt, Option.map] at e; cases e; exact q)
      | skip
    rename_i c fs
    cases c with
    | zero => simp only [isInt, Option.map] at e; cases e; exact q
    | succ c => simp [isInt] at e
theorem m_is_between {G : Gx} (gs : GS G) (ds : List D) (Q : D → Prop) (E : DX → Prop) (h : s_is_between ds Q E) : endW (W_is_between G (env0 3 ds)) Q E := by
  match ds, h with
  | [.int t, .int lo, .int hi], h =>
    have h : Q (.bl (decide (lo ≤ t) && decide (t ≤ hi))) := h
    simp [DL.endW, DL.bnd, DL.ret, DL.seqW, DL.grd, DL.nox, DL.rd, DL.env0, DL.asB, DL.truD, DL.andT, DL.orT, DL.notT, DL.optW, DL.onI2, DL.cmpI, DL.subD, DL.lenD, DL.intO, DL.tupleD, DL.listD, DL.ite_app, W_is_between, s_is_integer, isInt]
    by_cases c : lo ≤ t
    · simpa [c] using h
    · simpa [c] using h
theorem m_check_table {G : Gx} (gs : GS G) (ds : List D) (Q : D → Prop) (E : DX → Prop) (h : s_check_table ds Q E) : endW (W_check_table G (env0 1 ds)) Q E := by
  rw [gx_eq gs]
  match ds, h with
  | [.ins 0 fs], h => exact h
theorem m_check_tables {G : Gx} (gs : GS G) (ds : List D) (Q : D → Prop) (E : DX → Prop) (h : s_check_tables ds Q E) : endW (W_check_tables G (env0 2 ds)) Q E := by
  rw [gx_eq gs]
  match ds, h with
  | [.ins 0 [.int m, x], .ins 0 [.int m', y]], h =>
    obtain ⟨e, q⟩ := h
    subst e
    simp [DL.endW, DL.bnd, DL.ret, DL.seqW, DL.grd, DL.nox, DL.rd, DL.env0, DL.asB, DL.truD, DL.andT, DL.orT, DL.notT, DL.optW, DL.onI2, DL.cmpI, DL.subD, DL.lenD, DL.intO, DL.tupleD, DL.listD, DL.ite_app, W_check_tables, s_check_table, fldD, lookD, flds, eq_int]
    exact q
end K02
end
section
set_option Elab.async false
set_option linter.all false
set_option maxRecDepth 100000
set_option maxHeartbeats 4000000
set_option autoImplicit false
namespace K02
open PySem PySem.Spec L2 DL
theorem isi_tup {G : Gx} (xs : List D) : isiD G (.ty "tuple") (.tup xs) = some true := rfl
theorem enum_at {ns : List Int} {i : Nat} {x : D} (h : (enumD (ns.map D.int))[i]? = some x) : ∃ v, ns[i]? = some v ∧ x = .tup [.int (i : Int), .int v] := by
  obtain ⟨y, e, rfl⟩ := enumD_get h
  rw [List.getElem?_map] at e
  cases q : ns[i]? with
  | none => rw [q] at e; cases e
  | some v => rw [q] at e; cases e; exact ⟨v, rfl, rfl⟩
theorem m_Table_init {G : Gx} (gs : GS G) (a : Addr) (ds : List D) (Q : D → Prop) (E : DX → Prop) (h : mk_Table ds Q E) : endI G a 0 (W_Table_init G (env1 4 a 0 ds)) Q E := by
  rw [gx_eq gs]
  match ds, h with
  | [.int m, .tup xs], h =>
    obtain ⟨k, ns, rfl, rfl, t, q⟩ := h
    have b1 : (1 : Int) ≤ (k : Int) := by have := t.m1; omega
    have b2 : (k : Int) ≤ 7 := by have := t.m7; omega
    have e1 : ixD c_POWERS (.int (k : Int)) = DL.ret (.int (2 ^ k)) := ixT_int (ns := powers) (by omega) (by simpa using pow_at k (by have := t.m7; omega))
    have e2 : ((ns.length : Int) == 2 ^ k) = true := by rw [t.len]; simp
    simp [DL.endW, DL.bnd, DL.ret, DL.seqW, DL.grd, DL.nox, DL.rd, DL.env0, DL.asB, DL.truD, DL.andT, DL.orT, DL.notT, DL.optW, DL.onI2, DL.cmpI, DL.subD, DL.lenD, DL.intO, DL.tupleD, DL.listD, DL.ite_app, W_Table_init, endI, env1, s_is_between, b1, b2, isi_tup, e1, eq_int, e2, enumS]
    refine forGo_nx (I := fun _ ρ => ∃ x y, ρ = [Sl.own (OD.ins a 0 []), Sl.d (D.int ↑k), Sl.d (D.tup (List.map D.int ns)), x, y]) 0 ⟨_, _, rfl⟩ (fun i x ρ e ⟨u, v, hρ⟩ Q hQ => ?_) fun ρ ⟨u, v, hρ⟩ => ?_
    · subst hρ
      obtain ⟨v, ev, rfl⟩ := enum_at e
      have hz : ¬ ((i : Int) = 0 ∧ ¬ v = 0) := fun ⟨z1, z2⟩ => by
        have : i = 0 := by omega
        subst this
        rw [t.z] at ev
        cases ev
        exact z2 rfl
      simp [DL.endW, DL.bnd, DL.ret, DL.seqW, DL.grd, DL.nox, DL.rd, DL.env0, DL.asB, DL.truD, DL.andT, DL.orT, DL.notT, DL.optW, DL.onI2, DL.cmpI, DL.subD, DL.lenD, DL.intO, DL.tupleD, DL.listD, DL.ite_app, tupG, consG, nilG, s_is_integer, isInt, eq_int]
      by_cases z1 : (i : Int) = 0
      · by_cases z2 : v = 0
        · simp [z1, z2]; exact hQ _ ⟨_, _, rfl⟩
        · exact (hz ⟨z1, z2⟩).elim
      · have : i ≠ 0 := by omega
        simp [this]; exact hQ _ ⟨_, _, rfl⟩
    · subst hρ
      simp [DL.endW, DL.bnd, DL.ret, DL.seqW, DL.grd, DL.nox, DL.rd, DL.env0, DL.asB, DL.truD, DL.andT, DL.orT, DL.notT, DL.optW, DL.onI2, DL.cmpI, DL.subD, DL.lenD, DL.intO, DL.tupleD, DL.listD, DL.ite_app, ownI, flds]
      exact q
theorem m_Table_eq {G : Gx} (gs : GS G) (ds : List D) (Q : D → Prop) (E : DX → Prop) (h : s_Table_eq ds Q E) : endW (W_Table_eq G (env0 2 ds)) Q E := by
  rw [gx_eq gs]
  match ds, h with
  | [.ins 0 [.int m, .tup xs], .ins 0 [.int m', .tup ys]], h =>
    obtain ⟨k, k', ns, ns', rfl, rfl, rfl, rfl, q⟩ := h
    have e : isiD ⟨G.K, G.cls, flds, G.xcls, G.xfld, G.lam, cloW, G.T⟩ (.own 0) (.ins 0 [.int k', .tup (ns'.map D.int)]) = some true := rfl
    simp [DL.endW, DL.bnd, DL.ret, DL.seqW, DL.grd, DL.nox, DL.rd, DL.env0, DL.asB, DL.truD, DL.andT, DL.orT, DL.notT, DL.optW, DL.onI2, DL.cmpI, DL.subD, DL.lenD, DL.intO, DL.tupleD, DL.listD, DL.ite_app, W_Table_eq, e, fld_many, fld_numbers, eq_int, eq_tup]
    by_cases c : k = k'
    · subst c; simpa using q
    · have : ¬ ((k : Int) = (k' : Int)) := by omega
      simpa [c, this] using q
theorem m_built {G : Gx} (gs : GS G) (ds : List D) (Q : D → Prop) (E : DX → Prop) (h : s_built ds Q E) : endW (W_built G (env0 3 ds)) Q E := by
  have hn := gs.nps
  rw [gx_eq gs]
  match ds, h with
  | [.int m, .clo j cs], h =>
    obtain ⟨k, f, rfl, k1, k7, f0, hj, nc, hf, q⟩ := h
    have e1 : ixD c_POWERS (.int (k : Int)) = DL.ret (.int (2 ^ k)) := ixT_int (ns := powers) (by omega) (by simpa using pow_at k (by omega))
    have b : (2 : Int) ^ k ≤ 128 := by
      have : ∀ k < 8, (2 : Int) ^ k ≤ 128 := by decide
      exact this k (by omega)
    have b0 : (0 : Int) < 2 ^ k := by
      have : ∀ k < 8, (0 : Int) < 2 ^ k := by decide
      exact this k (by omega)
    have e2 : ((2 : Int) ^ k).toNat = 2 ^ k := by
      have : ∀ k < 8, ((2 : Int) ^ k).toNat = 2 ^ k := by decide
      exact this k (by omega)
    have e3 : 2 ^ k ≤ sizeLine := by
      have : ∀ k < 8, 2 ^ k ≤ sizeLine := by decide
      exact this k (by omega)
    simp [DL.endW, DL.bnd, DL.ret, DL.seqW, DL.grd, DL.nox, DL.rd, DL.env0, DL.asB, DL.truD, DL.andT, DL.orT, DL.notT, DL.optW, DL.onI2, DL.cmpI, DL.subD, DL.lenD, DL.intO, DL.tupleD, DL.listD, DL.ite_app, W_built, e1, rng1W, rangeD0, e2]
    refine ⟨⟨by omega, by omega⟩, e3, lcGo_map (g := fun d => match d with | .int i => some (.int (f i.toNat)) | _ => none) ?_ ?_⟩
    · intro x hx Q hQ
      obtain ⟨i, hi, rfl⟩ := List.mem_map.mp hx
      have hi : i < 2 ^ k := by simpa using hi
      simp [DL.endW, DL.bnd, DL.ret, DL.seqW, DL.grd, DL.nox, DL.rd, DL.env0, DL.asB, DL.truD, DL.andT, DL.orT, DL.notT, DL.optW, DL.onI2, DL.cmpI, DL.subD, DL.lenD, DL.intO, DL.tupleD, DL.listD, DL.ite_app, lcF, wipeE, isClo, cloCall, nc, noClos, noClo, hn j hj, gNo]
      exact hf i hi _ ⟨rfl, hQ⟩
    · have : (List.map (fun i : Nat => D.int ↑i) (List.range (2 ^ k))).filterMap (fun d => match d with | .int i => some (.int (f i.toNat)) | _ => none) = ((List.range (2 ^ k)).map f).map D.int := by
        rw [List.filterMap_map, List.map_map, ← List.filterMap_eq_map]
        rfl
      rw [this]
      refine ⟨k, _, rfl, rfl, ⟨k1, k7, by simp, ?_⟩, q⟩
      rw [List.getElem?_map, List.getElem?_range (Nat.two_pow_pos k)]
      simp [f0]
end K02
end
section
set_option Elab.async false
set_option linter.all false
set_option maxRecDepth 100000
set_option maxHeartbeats 4000000
set_option autoImplicit false
namespace K02
open PySem PySem.Spec L2 DL
theorem get_lt {ns : List Int} {i : Nat} (h : i < ns.length) : ns[i]? = some (ns.getD i 0) := by
  rw [List.getD_eq_getElem?_getD, List.getElem?_eq_getElem h]
  rfl
theorem zip_map {g : Int → Int → Int} {ns ns' : List Int} {n : Nat} (h1 : ns.length = n) (h2 : ns'.length = n) : (List.range n).map (fun i => g (ns.getD i 0) (ns'.getD i 0)) = List.zipWith g ns ns' := by
  apply List.ext_getElem
  · simp [h1, h2]
  · intro i a b
    have hi : i < n := by simpa using a
    simp [List.getD_eq_getElem?_getD, List.getElem?_eq_getElem (show i < ns.length by omega), List.getElem?_eq_getElem (show i < ns'.length by omega)]
theorem map_map1 {g : Int → Int} {ns : List Int} {n : Nat} (h1 : ns.length = n) : (List.range n).map (fun i => g (ns.getD i 0)) = ns.map g := by
  apply List.ext_getElem
  · simp [h1]
  · intro i a b
    have hi : i < n := by simpa using a
    simp [List.getD_eq_getElem?_getD, List.getElem?_eq_getElem (show i < ns.length by omega)]
theorem Tbl.at0 {m : Nat} {ns : List Int} (t : Tbl m ns) : ns.getD 0 0 = 0 := by
  rw [List.getD_eq_getElem?_getD, t.z]
  rfl
theorem noClos_ints : ∀ ns : List Int, noClos (ns.map D.int) = true
  | [] => rfl
  | n :: ns => by rw [List.map_cons, noClos, noClos_ints ns]; rfl
theorem noClo_iT (ns : List Int) : noClo (iT ns) = true := noClos_ints ns
theorem noClo_tb (k : Nat) (ns : List Int) : noClo (tb k ns) = true := by
  show (noClo (.int k) && (noClo (iT ns) && true)) = true
  rw [noClo_iT]; rfl
theorem noClos_2 {a b : D} (h1 : noClo a = true) (h2 : noClo b = true) : noClos [a, b] = true := by
  show (noClo a && (noClo b && true)) = true
  rw [h1, h2]; rfl
theorem noClos_1 {a : D} (h1 : noClo a = true) : noClos [a] = true := by
  show (noClo a && true) = true
  rw [h1]; rfl
theorem m_added {G : Gx} (gs : GS G) (ds : List D) (Q : D → Prop) (E : DX → Prop) (h : s_added ds Q E) : endW (W_added G (env0 2 ds)) Q E := by
  rw [gx_eq gs]
  match ds, h with
  | [.ins 0 [.int m, .tup xs], .ins 0 [.int m', .tup ys]], h =>
    obtain ⟨k, ns, ns', rfl, rfl, rfl, rfl, t, t', q⟩ := h
    simp [DL.endW, DL.bnd, DL.ret, DL.seqW, DL.grd, DL.nox, DL.rd, DL.env0, DL.asB, DL.truD, DL.andT, DL.orT, DL.notT, DL.optW, DL.onI2, DL.cmpI, DL.subD, DL.lenD, DL.intO, DL.tupleD, DL.listD, DL.ite_app, W_added, s_check_tables, rds, fld_many, fld_numbers]
    refine ⟨k, fun i => ns.getD i 0 + ns'.getD i 0, rfl, t.m1, t.m7, by show ns.getD 0 0 + ns'.getD 0 0 = 0; rw [t.at0, t'.at0]; rfl, by omega, noClos_2 (noClo_tb k ns) (noClo_tb k ns'), fun i hi R hR => ⟨ns, ns', _, _, rfl, rfl, by omega, get_lt (by rw [t.len]; simpa using hi), get_lt (by rw [t'.len]; simpa using hi), hR⟩, ?_⟩
    rw [zip_map t.len t'.len]
    exact ⟨noClo_tb _ _, q⟩
theorem m_lessened {G : Gx} (gs : GS G) (ds : List D) (Q : D → Prop) (E : DX → Prop) (h : s_lessened ds Q E) : endW (W_lessened G (env0 2 ds)) Q E := by
  rw [gx_eq gs]
  match ds, h with
  | [.ins 0 [.int m, .tup xs], .ins 0 [.int m', .tup ys]], h =>
    obtain ⟨k, ns, ns', rfl, rfl, rfl, rfl, t, t', q⟩ := h
    simp [DL.endW, DL.bnd, DL.ret, DL.seqW, DL.grd, DL.nox, DL.rd, DL.env0, DL.asB, DL.truD, DL.andT, DL.orT, DL.notT, DL.optW, DL.onI2, DL.cmpI, DL.subD, DL.lenD, DL.intO, DL.tupleD, DL.listD, DL.ite_app, W_lessened, s_check_tables, rds, fld_many, fld_numbers]
    refine ⟨k, fun i => ns.getD i 0 - ns'.getD i 0, rfl, t.m1, t.m7, by show ns.getD 0 0 - ns'.getD 0 0 = 0; rw [t.at0, t'.at0]; rfl, by omega, noClos_2 (noClo_tb k ns) (noClo_tb k ns'), fun i hi R hR => ⟨ns, ns', _, _, rfl, rfl, by omega, get_lt (by rw [t.len]; simpa using hi), get_lt (by rw [t'.len]; simpa using hi), hR⟩, ?_⟩
    rw [zip_map t.len t'.len]
    exact ⟨noClo_tb _ _, q⟩
theorem m_times {G : Gx} (gs : GS G) (ds : List D) (Q : D → Prop) (E : DX → Prop) (h : s_times ds Q E) : endW (W_times G (env0 2 ds)) Q E := by
  rw [gx_eq gs]
  match ds, h with
  | [.ins 0 [.int m, .tup xs], .int n], h =>
    obtain ⟨k, ns, rfl, rfl, t, hm, q⟩ := h
    simp [DL.endW, DL.bnd, DL.ret, DL.seqW, DL.grd, DL.nox, DL.rd, DL.env0, DL.asB, DL.truD, DL.andT, DL.orT, DL.notT, DL.optW, DL.onI2, DL.cmpI, DL.subD, DL.lenD, DL.intO, DL.tupleD, DL.listD, DL.ite_app, W_times, s_check_table, s_is_integer, isInt, rds, fld_many, fld_numbers]
    refine ⟨k, fun i => ns.getD i 0 * n, rfl, t.m1, t.m7, by show ns.getD 0 0 * n = 0; rw [t.at0]; simp, by omega, noClos_2 rfl (noClo_tb k ns), fun i hi R hR => ⟨ns, _, rfl, by omega, get_lt (by rw [t.len]; simpa using hi), hm _ (List.mem_of_getElem? (get_lt (by rw [t.len]; simpa using hi))), hR⟩, ?_⟩
    rw [map_map1 (g := (· * n)) t.len]
    exact ⟨noClo_tb _ _, q⟩
theorem m_is_row {G : Gx} (gs : GS G) (ds : List D) (Q : D → Prop) (E : DX → Prop) (h : s_is_row ds Q E) : endW (W_is_row G (env0 2 ds)) Q E := by
  match ds, h with
  | [.tup xs], h =>
    obtain ⟨ns, rfl, hl, q⟩ := h
    simp [DL.endW, DL.bnd, DL.ret, DL.seqW, DL.grd, DL.nox, DL.rd, DL.env0, DL.asB, DL.truD, DL.andT, DL.orT, DL.notT, DL.optW, DL.onI2, DL.cmpI, DL.subD, DL.lenD, DL.intO, DL.tupleD, DL.listD, DL.ite_app, W_is_row, isi_tup, seqD]
    by_cases c1 : (1 : Int) ≤ (ns.length : Int)
    · by_cases c2 : (ns.length : Int) ≤ 7
      · simp [c1, c2]
        refine ⟨by rw [sizeLine_eq]; omega, lcGo_map (g := fun d => some (.bl true)) ?_ ?_⟩
        · intro x hx Q hQ
          obtain ⟨i, hi, rfl⟩ := List.mem_map.mp hx
          simp [DL.endW, DL.bnd, DL.ret, DL.seqW, DL.grd, DL.nox, DL.rd, DL.env0, DL.asB, DL.truD, DL.andT, DL.orT, DL.notT, DL.optW, DL.onI2, DL.cmpI, DL.subD, DL.lenD, DL.intO, DL.tupleD, DL.listD, DL.ite_app, lcF, wipeE, s_is_integer, isInt]
          exact hQ
        · have : (ns.map D.int).filterMap (fun d => some (D.bl true)) = (ns.map fun _ => true).map D.bl := by
            rw [List.filterMap_map, List.map_map, ← List.filterMap_eq_map]
            rfl
          rw [this, all_lst]
          have e : (ns.map fun _ => true).all id = decide (1 ≤ ns.length ∧ ns.length ≤ 7) := by
            have h1 : 1 ≤ ns.length := by omega
            have h2 : ns.length ≤ 7 := by omega
            simp [h1, h2]
          show Q (.bl _)
          rw [e]
          exact q
      · simp [c1, c2]
        have : ¬ ns.length ≤ 7 := by omega
        simpa [this] using q
    · simp [c1]
      have : ¬ 1 ≤ ns.length := by omega
      simpa [this] using q
theorem lotOf_lt {m k : Nat} (hk : k < 2 ^ m) (hm : m ≤ 7) : ∀ i ∈ lotOf k, i < m := by
  have : ∀ m < 8, ∀ k < 2 ^ m, ∀ i ∈ lotOf k, i < m := by decide
  exact this m (by omega) k hk
theorem lotOf_len {m k : Nat} (hk : k < 2 ^ m) (hm : m ≤ 7) : (lotOf k).length ≤ m := by
  have : ∀ m < 8, ∀ k < 2 ^ m, (lotOf k).length ≤ m := by decide
  exact this m (by omega) k hk
theorem m_row_sum {G : Gx} (gs : GS G) (ds : List D) (Q : D → Prop) (E : DX → Prop) (h : s_row_sum ds Q E) : endW (W_row_sum G (env0 3 ds)) Q E := by
  match ds, h with
  | [.tup xs, .int k], h =>
    obtain ⟨row, rfl, h0, h1, hl, q⟩ := h
    obtain ⟨m, rfl⟩ : ∃ m : Nat, k = (m : Int) := ⟨k.toNat, by rw [Int.toNat_of_nonneg h0]⟩
    rw [Int.toNat_natCast] at q
    have hm : m < 2 ^ row.length := by exact_mod_cast h1
    have h128 : m < 128 := by
      have : ∀ n < 8, 2 ^ n ≤ 128 := by decide
      have := this row.length (by omega)
      omega
    have ll := lotOf_len hm hl
    simp [DL.endW, DL.bnd, DL.ret, DL.seqW, DL.grd, DL.nox, DL.rd, DL.env0, DL.asB, DL.truD, DL.andT, DL.orT, DL.notT, DL.optW, DL.onI2, DL.cmpI, DL.subD, DL.lenD, DL.intO, DL.tupleD, DL.listD, DL.ite_app, W_row_sum, s_lot_of, seqD]
    refine ⟨by omega, by rw [sizeLine_eq]; omega, lcGo_map (g := fun d => match d with | .int i => some (.int (row.getD i.toNat 0)) | _ => none) ?_ ?_⟩
    · intro x hx Q hQ
      obtain ⟨i, hi, rfl⟩ := List.mem_map.mp hx
      have hlt := lotOf_lt hm hl i hi
      have e1 : ixD (.tup (row.map D.int)) (.int (i : Int)) = DL.ret (.int (row.getD i 0)) := ixT_int (by omega) (by rw [Int.toNat_natCast]; exact get_lt hlt)
      simp [DL.endW, DL.bnd, DL.ret, DL.seqW, DL.grd, DL.nox, DL.rd, DL.env0, DL.asB, DL.truD, DL.andT, DL.orT, DL.notT, DL.optW, DL.onI2, DL.cmpI, DL.subD, DL.lenD, DL.intO, DL.tupleD, DL.listD, DL.ite_app, lcF, wipeE, e1]
      exact hQ
    · have : (List.map (D.int ∘ fun i : Nat => (i : Int)) (lotOf m)).filterMap (fun d => match d with | .int i => some (.int (row.getD i.toNat 0)) | _ => none) = ((lotOf m).map fun i => row.getD i 0).map D.int := by
        rw [List.filterMap_map, List.map_map, ← List.filterMap_eq_map]
        rfl
      rw [this, sum_lst]
      exact q
end K02
end
section
set_option Elab.async false
set_option linter.all false
set_option maxRecDepth 100000
set_option maxHeartbeats 4000000
set_option autoImplicit false
namespace K02
open PySem PySem.Spec L2 DL
theorem lotOf_0 : lotOf 0 = [] := by decide
theorem rowSum_0 (row : List Int) : rowSum row 0 = 0 := by
  unfold rowSum
  rw [lotOf_0]
  rfl
theorem m_of_row {G : Gx} (gs : GS G) (ds : List D) (Q : D → Prop) (E : DX → Prop) (h : s_of_row ds Q E) : endW (W_of_row G (env0 1 ds)) Q E := by
  match ds, h with
  | [.tup xs], h =>
    obtain ⟨row, rfl, h1, h7, q⟩ := h
    simp [DL.endW, DL.bnd, DL.ret, DL.seqW, DL.grd, DL.nox, DL.rd, DL.env0, DL.asB, DL.truD, DL.andT, DL.orT, DL.notT, DL.optW, DL.onI2, DL.cmpI, DL.subD, DL.lenD, DL.intO, DL.tupleD, DL.listD, DL.ite_app, W_of_row, s_is_row, rds]
    refine ⟨row, rfl, by omega, ?_⟩
    rw [if_neg]
    rotate_left
    · intro hc
      rcases hc with rfl | hc
      · simp at h1
      · omega
    refine ⟨row.length, rowSum row, rfl, h1, h7, rowSum_0 row, by omega, noClos_1 (noClo_iT row), fun i hi R hR => ⟨row, rfl, by omega, by exact_mod_cast hi, h7, hR⟩, noClo_tb _ _, q⟩
theorem m_of_sizes {G : Gx} (gs : GS G) (ds : List D) (Q : D → Prop) (E : DX → Prop) (h : s_of_sizes ds Q E) : endW (W_of_sizes G (env0 2 ds)) Q E := by
  match ds, h with
  | [.tup xs], h =>
    obtain ⟨sz, rfl, h2, h8, hz, q⟩ := h
    have b1 : (2 : Int) ≤ (sz.length : Int) := by omega
    have b2 : (sz.length : Int) ≤ 8 := by omega
    have e1 : ixD (.tup (sz.map D.int)) (.int 0) = DL.ret (.int 0) := ixT_int (by omega) hz
    simp [DL.endW, DL.bnd, DL.ret, DL.seqW, DL.grd, DL.nox, DL.rd, DL.env0, DL.asB, DL.truD, DL.andT, DL.orT, DL.notT, DL.optW, DL.onI2, DL.cmpI, DL.subD, DL.lenD, DL.intO, DL.tupleD, DL.listD, DL.ite_app, W_of_sizes, isi_tup, seqD, addD, rds, b1, b2, h2, h8]
    refine ⟨by rw [sizeLine_eq]; omega, lcGo_map (g := fun d => some (.bl true)) ?_ ?_⟩
    · intro x hx Q hQ
      obtain ⟨i, hi, rfl⟩ := List.mem_map.mp hx
      simp [DL.endW, DL.bnd, DL.ret, DL.seqW, DL.grd, DL.nox, DL.rd, DL.env0, DL.asB, DL.truD, DL.andT, DL.orT, DL.notT, DL.optW, DL.onI2, DL.cmpI, DL.subD, DL.lenD, DL.intO, DL.tupleD, DL.listD, DL.ite_app, lcF, wipeE, s_is_integer, isInt]
      exact hQ
    · have : (sz.map D.int).filterMap (fun d => some (D.bl true)) = (sz.map fun _ => true).map D.bl := by
        rw [List.filterMap_map, List.map_map, ← List.filterMap_eq_map]
        rfl
      rw [this, all_lst]
      have e : (sz.map fun _ => true).all id = true := by simp
      rw [e]
      simp [DL.endW, DL.bnd, DL.ret, DL.seqW, DL.grd, DL.nox, DL.rd, DL.env0, DL.asB, DL.truD, DL.andT, DL.orT, DL.notT, DL.optW, DL.onI2, DL.cmpI, DL.subD, DL.lenD, DL.intO, DL.tupleD, DL.listD, DL.ite_app, e1, eq_int]
      refine ⟨sz.length - 1, fun k => sz.getD (lotOf k).length 0, by omega, by omega, by omega, ?_, by omega, noClos_1 (noClo_iT sz), fun i hi R hR => ⟨sz, _, rfl, by omega, ?_, ?_, hR⟩, noClo_tb _ _, q⟩
      · show sz.getD (lotOf 0).length 0 = 0
        rw [lotOf_0]
        show sz.getD 0 0 = 0
        rw [List.getD_eq_getElem?_getD, hz]
        rfl
      · have : ∀ n < 8, 2 ^ n ≤ 128 := by decide
        have := this (sz.length - 1) (by omega)
        omega
      · rw [Int.toNat_natCast]
        have := lotOf_len hi (by omega)
        exact get_lt (by omega)
theorem m_other_side {G : Gx} (gs : GS G) (ds : List D) (Q : D → Prop) (E : DX → Prop) (h : s_other_side ds Q E) : endW (W_other_side G (env0 2 ds)) Q E := by
  rw [gx_eq gs]
  match ds, h with
  | [.ins 0 [.int m, .tup xs]], h =>
    obtain ⟨k, ns, rfl, rfl, t, q⟩ := h
    have e1 : ixD c_POWERS (.int (k : Int)) = DL.ret (.int (2 ^ k)) := ixT_int (ns := powers) (by omega) (by simpa using pow_at k (by have := t.m7; omega))
    have tl := t.len
    have p := Nat.two_pow_pos k
    have ec : ((2 : Int) ^ k) = ((2 ^ k : Nat) : Int) := by rw [Int.natCast_pow]; rfl
    simp [DL.endW, DL.bnd, DL.ret, DL.seqW, DL.grd, DL.nox, DL.rd, DL.env0, DL.asB, DL.truD, DL.andT, DL.orT, DL.notT, DL.optW, DL.onI2, DL.cmpI, DL.subD, DL.lenD, DL.intO, DL.tupleD, DL.listD, DL.ite_app, W_other_side, s_check_table, rds, fld_many, fld_numbers, e1]
    refine ⟨k, fun i => ns.getD (ns.length - 1) 0 - ns.getD (ns.length - 1 - i) 0, rfl, t.m1, t.m7, ?_, by omega, noClos_2 (noClo_tb k ns) rfl, fun i hi R hR => ⟨ns, _, _, rfl, by omega, by rw [ec]; omega, ?_, ?_, hR⟩, noClo_tb _ _, ?_⟩
    · show ns.getD (ns.length - 1) 0 - ns.getD (ns.length - 1 - 0) 0 = 0
      simp
    · rw [ec, show (((2 ^ k : Nat) : Int) - 1).toNat = ns.length - 1 by omega]
      exact get_lt (by omega)
    · rw [ec, show (((2 ^ k : Nat) : Int) - 1 - (i : Int)).toNat = ns.length - 1 - i by omega]
      exact get_lt (by omega)
    · unfold otherSide at q
      rw [tl] at q ⊢
      exact q
end K02
end
section
set_option Elab.async false
set_option linter.all false
set_option maxRecDepth 100000
set_option maxHeartbeats 4000000
set_option autoImplicit false
namespace K02
open PySem PySem.Spec L2 DL
theorem mulOk_small {i j : Int} (h : i.natAbs < 2 ^ 64) : DL.MulOk i j := .inl (.inl ⟨by omega, by omega⟩)
theorem mulOk_small2 {i j : Int} (h : j.natAbs < 2 ^ 64) : DL.MulOk i j := .inl (.inr ⟨by omega, by omega⟩)
theorem m__law_hand {G : Gx} (gs : GS G) (ds : List D) (Q : D → Prop) (E : DX → Prop) (h : s__law_hand ds Q E) : endW (W__law_hand G (env0 2 ds)) Q E := by
  match ds, h with
  | [.scr ns], h =>
    obtain ⟨hl, q⟩ := h
    have e : cutD (ns.map D.int) none (some 63) = (ns.take 63).map D.int := by
      unfold cutD HT.sIx
      simp
    simp [DL.endW, DL.bnd, DL.ret, DL.seqW, DL.grd, DL.nox, DL.rd, DL.env0, DL.asB, DL.truD, DL.andT, DL.orT, DL.notT, DL.optW, DL.onI2, DL.cmpI, DL.subD, DL.lenD, DL.intO, DL.tupleD, DL.listD, DL.ite_app, W__law_hand, sliceD, e, seqD, mulD, addD]
    have hm : min 63 ns.length ≤ 63 := Nat.min_le_left _ _
    refine ⟨by rw [sizeLine_eq]; omega, lcGo_map (g := fun d => match d with | .int i => some (.int (i.natAbs : Int)) | _ => none) ?_ ?_⟩
    · intro x hx Q hQ
      rw [← List.map_take] at hx
      obtain ⟨i, hi, rfl⟩ := List.mem_map.mp hx
      simp [DL.endW, DL.bnd, DL.ret, DL.seqW, DL.grd, DL.nox, DL.rd, DL.env0, DL.asB, DL.truD, DL.andT, DL.orT, DL.notT, DL.optW, DL.onI2, DL.cmpI, DL.subD, DL.lenD, DL.intO, DL.tupleD, DL.listD, DL.ite_app, lcF, wipeE, intD, absD]
      have : (if i < 0 then -i else i) = (i.natAbs : Int) := by split <;> omega
      rw [this]
      exact hQ
    · have : (List.take 63 (ns.map D.int)).filterMap (fun d => match d with | .int i => some (.int (i.natAbs : Int)) | _ => none) = ((ns.take 63).map fun i : Int => (i.natAbs : Int)).map D.int := by
        rw [← List.map_take, List.filterMap_map, List.map_map, ← List.filterMap_eq_map]
        rfl
      rw [this]
      refine ⟨mulOk_small (by decide), ?_⟩
      simp only [handD, intsD_map, grd, DL.ret]
      refine ⟨⟨fun n hn => ?_, by omega, by omega, by omega, by omega, by omega, by omega⟩, q⟩
      obtain ⟨i, _, rfl⟩ := List.mem_map.mp hn
      omega
theorem m__law_any {G : Gx} (gs : GS G) (ds : List D) (Q : D → Prop) (E : DX → Prop) (h : s__law_any ds Q E) : endW (W__law_any G (env0 2 ds)) Q E := by
  match ds, h with
  | [.hnd, .lst xs], h =>
    obtain ⟨h1, h2, q⟩ := h
    simp [DL.endW, DL.bnd, DL.ret, DL.seqW, DL.grd, DL.nox, DL.rd, DL.env0, DL.asB, DL.truD, DL.andT, DL.orT, DL.notT, DL.optW, DL.onI2, DL.cmpI, DL.subD, DL.lenD, DL.intO, DL.tupleD, DL.listD, DL.ite_app, W__law_any, drawS]
    refine ⟨⟨h1, by omega⟩, ?_⟩
    intro d hd
    obtain ⟨r, e, r0, r1⟩ := hd
    subst e
    obtain ⟨x, hx⟩ : ∃ x, xs[r.toNat]? = some x := ⟨_, List.getElem?_eq_getElem (by omega)⟩
    rw [ixL r0 hx]
    exact q x (List.mem_of_getElem? hx)
theorem told_same (k k' : Nat) (ns ns' : List Int) (h1 : ns.length ≤ 1000) : sameV 3 (.tup [.int k, iT ns]) (.tup [.int k', iT ns']) = some (decide (k = k') && decide (ns = ns')) := by
  have hz : ∀ ns ns' : List Int, ns.length = ns'.length → mapO (fun p : D × D => sameV 1 p.1 p.2) ((ns.map D.int).zip (ns'.map D.int)) = some (List.zipWith (fun a b => decide (a = b)) ns ns') := by
    intro ns
    induction ns with
    | nil => intro ns' h; cases ns' with
      | nil => rfl
      | cons _ _ => cases h
    | cons n ns ih => intro ns' h; cases ns' with
      | nil => cases h
      | cons m ns' =>
        have := ih ns' (by simpa using h)
        have e0 : sameV 1 (.int n) (.int m) = some (decide (n = m)) := rfl
        simp only [List.map_cons, List.zip_cons_cons, mapO, e0, this, List.zipWith_cons_cons]
  have ha : ∀ ns ns' : List Int, ns.length = ns'.length → (List.zipWith (fun a b => decide (a = b)) ns ns').all id = decide (ns = ns') := by
    intro ns
    induction ns with
    | nil => intro ns' h; cases ns' with
      | nil => rfl
      | cons _ _ => cases h
    | cons n ns ih => intro ns' h; cases ns' with
      | nil => cases h
      | cons m ns' =>
        have := ih ns' (by simpa using h)
        simp only [List.zipWith_cons_cons, List.all_cons, this, id]
        by_cases c : n = m <;> simp [c]
  have h2 : sameV 2 (iT ns) (iT ns') = some (decide (ns = ns')) := by
    show (if (ns.map D.int).length = (ns'.map D.int).length then (if (ns.map D.int).length ≤ 1000 then (mapO (fun p : D × D => sameV 1 p.1 p.2) ((ns.map D.int).zip (ns'.map D.int))).map fun bs => bs.all id else none) else some false) = _
    by_cases c : ns.length = ns'.length
    · rw [if_pos (by simpa using c), if_pos (by simpa using h1), hz ns ns' c]
      show some ((List.zipWith (fun a b => decide (a = b)) ns ns').all id) = _
      rw [ha ns ns' c]
    · rw [if_neg (by simpa using c)]
      have : ¬ ns = ns' := fun z => c (by rw [z])
      simp [this]
  show (if 2 = 2 then (if 2 ≤ 1000 then (mapO (fun p : D × D => sameV 2 p.1 p.2) [(.int k, .int k'), (iT ns, iT ns')]).map fun bs => bs.all id else none) else some false) = _
  rw [if_pos rfl, if_pos (by omega)]
  have e1 : sameV 2 (.int k) (.int k') = some (decide ((k : Int) = k')) := rfl
  simp only [mapO, e1, h2, Option.map, List.all_cons, List.all_nil, id, Bool.and_true]
  congr 2
  by_cases c : k = k' <;> simp [c] <;> omega
theorem m__law_is_told {G : Gx} (gs : GS G) (ds : List D) (Q : D → Prop) (E : DX → Prop) (h : s__law_is_told ds Q E) : endW (W__law_is_told G (env0 3 ds)) Q E := by
  rw [gx_eq gs]
  match ds, h with
  | [.ins 0 [.int m, .tup xs], .int m', .lst ys], h =>
    obtain ⟨k, k', ns, ns', rfl, rfl, rfl, rfl, h1, h2, q⟩ := h
    have e : isiD ⟨G.K, G.cls, flds, G.xcls, G.xfld, G.lam, cloW, G.T⟩ (.own 0) (.ins 0 [.int k, .tup (ns.map D.int)]) = some true := rfl
    simp [DL.endW, DL.bnd, DL.ret, DL.seqW, DL.grd, DL.nox, DL.rd, DL.env0, DL.asB, DL.truD, DL.andT, DL.orT, DL.notT, DL.optW, DL.onI2, DL.cmpI, DL.subD, DL.lenD, DL.intO, DL.tupleD, DL.listD, DL.ite_app, W__law_is_told, e, fld_many, fld_numbers, s__law_same_n, told_same k k' ns ns' h1]
    exact q
theorem m__law_other_side {G : Gx} (gs : GS G) (ds : List D) (Q : D → Prop) (E : DX → Prop) (h : s__law_other_side ds Q E) : endW (W__law_other_side G (env0 4 ds)) Q E := by
  match ds, h with
  | [.int m, .tup xs], h =>
    obtain ⟨k, ns, rfl, rfl, t, q⟩ := h
    have tl := t.len
    have p := Nat.two_pow_pos k
    have ec : ((2 : Int) ^ k) = ((2 ^ k : Nat) : Int) := by rw [Int.natCast_pow]; rfl
    have cp : CPow 1 (k : Int) := ⟨by omega, by have := t.m7; omega, by decide⟩
    have hb : 2 ^ k ≤ 128 := by
      have : ∀ k < 8, 2 ^ k ≤ 128 := by decide
      exact this k (by have := t.m7; omega)
    simp [DL.endW, DL.bnd, DL.ret, DL.seqW, DL.grd, DL.nox, DL.rd, DL.env0, DL.asB, DL.truD, DL.andT, DL.orT, DL.notT, DL.optW, DL.onI2, DL.cmpI, DL.subD, DL.lenD, DL.intO, DL.tupleD, DL.listD, DL.ite_app, W__law_other_side, shlD, cp, addD, rng1W, rangeD0]
    rw [ec, Int.toNat_natCast]
    refine ⟨⟨by omega, by omega⟩, by rw [sizeLine_eq]; omega, lcGo_map (g := fun d => match d with | .int i => some (.int (ns.getD (ns.length - 1) 0 - ns.getD (ns.length - 1 - i.toNat) 0)) | _ => none) ?_ ?_⟩
    · intro x hx R hR
      obtain ⟨i, hi, rfl⟩ := List.mem_map.mp hx
      have hi : i < 2 ^ k := by simpa using hi
      have e1 : ixD (.tup (ns.map D.int)) (.int (((2 ^ k : Nat) : Int) - 1)) = DL.ret (.int (ns.getD (ns.length - 1) 0)) := ixT_int (by omega) (by rw [show (((2 ^ k : Nat) : Int) - 1).toNat = ns.length - 1 by omega]; exact get_lt (by omega))
      have e2 : ixD (.tup (ns.map D.int)) (.int (((2 ^ k : Nat) : Int) - 1 - (i : Int))) = DL.ret (.int (ns.getD (ns.length - 1 - i) 0)) := ixT_int (by omega) (by rw [show (((2 ^ k : Nat) : Int) - 1 - (i : Int)).toNat = ns.length - 1 - i by omega]; exact get_lt (by omega))
      simp only [lcF, wipeE, bnd, DL.ret, List.set_cons_succ, List.set_cons_zero, List.getElem?_cons_zero, List.getElem?_cons_succ, e1, e2, if_true]
      exact hR
    · have : (List.map (fun i : Nat => D.int (i : Int)) (List.range (2 ^ k))).filterMap (fun d => match d with | .int i => some (.int (ns.getD (ns.length - 1) 0 - ns.getD (ns.length - 1 - i.toNat) 0)) | _ => none) = (otherSide ns).map D.int := by
        unfold otherSide
        rw [tl, List.filterMap_map, List.map_map, ← List.filterMap_eq_map]
        rfl
      rw [this]
      exact q
end K02
end
section
set_option Elab.async false
set_option linter.all false
set_option maxRecDepth 100000
set_option maxHeartbeats 4000000
set_option autoImplicit false
namespace K02
open PySem PySem.Spec L2 DL
theorem mapO_some {α β : Type} {f : α → Option β} : ∀ {l : List α} {bs : List β}, mapO f l = some bs → l.map f = bs.map some
  | [], bs, h => by simp only [mapO] at h; cases h; rfl
  | x :: l, bs, h => by
    simp only [mapO] at h
    cases e1 : f x with
    | none => rw [e1] at h; cases h
    | some y =>
      cases e2 : mapO f l with
      | none => rw [e1, e2] at h; cases h
      | some ys =>
        rw [e1, e2] at h
        cases h
        rw [List.map_cons, List.map_cons, e1, mapO_some e2]
def pairG (n : Nat) : D → Option D
  | .tup [a, b] => (sameV n a b).map D.bl
  | _ => none
theorem filt_some {β : Type} : ∀ {l : List (Option β)} {bs : List β} , l = bs.map some → ∀ g : β → D, l.filterMap (fun o => o.map g) = bs.map g
  | _, [], e, g => by rw [e]; rfl
  | _, b :: bs, e, g => by
    rw [e, List.map_cons, List.filterMap_cons_some (f := fun o : Option β => o.map g) (b := g b) rfl, filt_some rfl g, List.map_cons]
theorem m__law_same {G : Gx} (gs : GS G) (n : Nat) (ds : List D) (Q : D → Prop) (E : DX → Prop) (h : s__law_same_n (n + 1) ds Q E) : endW (W__law_same G (s__law_same_n n) (env0 4 ds)) Q E := by
  match ds, h with
  | [a, b], h =>
    obtain ⟨y, e, q⟩ := optW_of h
    cases a <;> cases b <;> first | (simp [sameV] at e; done) | skip
    · rename_i i j
      have e : some (D.bl (decide (i = j))) = some y := e
      cases e
      have t1 : isiA G [.ty "tuple", .ty "list"] (.int j) = some false := rfl
      have t2 : isiD G (.ty "bool") (.int j) = some false := rfl
      have t3 : isiD G (.ty "bool") (.int i) = some false := rfl
      have t4 : isiD G (.ty "str") (.int j) = some false := rfl
      have t5 : isiD G (.ty "str") (.int i) = some false := rfl
      have t6 : isiA G [.ty "int", .ty "str"] (.int i) = some true := rfl
      simp [DL.endW, DL.bnd, DL.ret, DL.seqW, DL.grd, DL.nox, DL.rd, DL.env0, DL.asB, DL.truD, DL.andT, DL.orT, DL.notT, DL.optW, DL.onI2, DL.cmpI, DL.subD, DL.lenD, DL.intO, DL.tupleD, DL.listD, DL.ite_app, W__law_same, t1, t2, t3, t4, t5, t6, isD, DL.isNon, eq_bl, eq_int]
      exact q
    · rename_i xs ys
      have t1 : isiA G [.ty "tuple", .ty "list"] (.tup ys) = some true := rfl
      have t2 : isiA G [.ty "tuple", .ty "list"] (.tup xs) = some true := rfl
      have t3 : isiD G (.ty "tuple") (.tup ys) = some true := rfl
      have t4 : isiD G (.ty "tuple") (.tup xs) = some true := rfl
      have e : (if xs.length = ys.length then (if xs.length ≤ 1000 then (mapO (fun p : D × D => sameV n p.1 p.2) (xs.zip ys)).map fun bs => bs.all id else none) else some false).map D.bl = some y := e
      simp [DL.endW, DL.bnd, DL.ret, DL.seqW, DL.grd, DL.nox, DL.rd, DL.env0, DL.asB, DL.truD, DL.andT, DL.orT, DL.notT, DL.optW, DL.onI2, DL.cmpI, DL.subD, DL.lenD, DL.intO, DL.tupleD, DL.listD, DL.ite_app, W__law_same, t1, t2, t3, t4, eq_bl, eq_int, zipS]
      by_cases c : xs.length = ys.length
      · rw [if_pos c] at e
        rw [if_pos (by omega)]
        by_cases c2 : xs.length ≤ 1000
        · rw [if_pos c2] at e
          cases em : mapO (fun p : D × D => sameV n p.1 p.2) (xs.zip ys) with
          | none => rw [em] at e; cases e
          | some bs =>
            rw [em] at e
            cases e
            have hm := mapO_some em
            refine ⟨by unfold zipD; rw [List.length_map, List.length_zip, sizeLine_eq]; omega, lcGo_map (g := pairG n) ?_ ?_⟩
            · intro x hx R hR
              unfold zipD at hx
              obtain ⟨p, hp, rfl⟩ := List.mem_map.mp hx
              have : ∃ t, sameV n p.1 p.2 = some t := by
                have hp2 := List.mem_map_of_mem (f := fun p : D × D => sameV n p.1 p.2) hp
                rw [hm] at hp2
                obtain ⟨t, _, ht⟩ := List.mem_map.mp hp2
                exact ⟨t, ht.symm⟩
              obtain ⟨t, ht⟩ := this
              have hR : R ((sameV n p.1 p.2).map D.bl) := hR
              rw [ht] at hR
              simp [DL.endW, DL.bnd, DL.ret, DL.seqW, DL.grd, DL.nox, DL.rd, DL.env0, DL.asB, DL.truD, DL.andT, DL.orT, DL.notT, DL.optW, DL.onI2, DL.cmpI, DL.subD, DL.lenD, DL.intO, DL.tupleD, DL.listD, DL.ite_app, lcF, wipeE, tupG, consG, nilG, s__law_same_n, ht]
              exact hR
            · have : (zipD xs ys).filterMap (pairG n) = bs.map D.bl := by
                unfold zipD
                rw [List.filterMap_map, ← filt_some hm D.bl, List.filterMap_map]
                rfl
              rw [this, all_lst]
              exact q
        · rw [if_neg c2] at e
          cases e
      · rw [if_neg c] at e
        cases e
        rw [if_neg (by omega)]
        exact q
end K02
end
section
set_option Elab.async false
set_option linter.all false
set_option maxRecDepth 100000
set_option maxHeartbeats 4000000
set_option autoImplicit false
namespace K02
open PySem PySem.Spec L2 DL
def lots : Nat → List (List Int)
  | 0 => [[]]
  | n + 1 => lots n ++ (lots n).map fun l => l ++ [(n : Int)]
theorem lots_eq : ∀ m < 7, lots m = (List.range (2 ^ m)).map fun k => (lotOf k).map fun i : Nat => (i : Int) := by decide
theorem lots_len : ∀ n, (lots n).length = 2 ^ n
  | 0 => rfl
  | n + 1 => by rw [lots, List.length_append, List.length_map, lots_len n, Nat.pow_succ]; omega
theorem m__law_lots {G : Gx} (gs : GS G) (ds : List D) (Q : D → Prop) (E : DX → Prop) (h : s__law_lots ds Q E) : endW (W__law_lots G (env0 4 ds)) Q E := by
  match ds, h with
  | [.int m], h =>
    obtain ⟨k, rfl, k6, q⟩ := h
    have hk : (k : Int) ≤ 16777216 := by omega
    simp [DL.endW, DL.bnd, DL.ret, DL.seqW, DL.grd, DL.nox, DL.rd, DL.env0, DL.asB, DL.truD, DL.andT, DL.orT, DL.notT, DL.optW, DL.onI2, DL.cmpI, DL.subD, DL.lenD, DL.intO, DL.tupleD, DL.listD, DL.ite_app, W__law_lots, rng1W, rangeD0]
    refine ⟨by omega, ?_⟩
    refine forGo_nx (I := fun n ρ => n ≤ k ∧ ∃ x y, ρ = [Sl.d (D.int ↑k), Sl.d (.lst ((lots n).map iT)), x, y]) 0 ⟨Nat.zero_le _, _, _, rfl⟩ (fun i x ρ e ⟨hn, u, v, hρ⟩ R hR => ?_) fun ρ ⟨_, u, v, hρ⟩ => ?_
    · subst hρ
      have hi : i < k := by
        have := (List.getElem?_eq_some_iff.mp e).1
        simpa using this
      have ex : x = .int (i : Int) := by
        rw [List.getElem?_map, List.getElem?_range hi] at e
        exact (Option.some.inj e).symm
      subst ex
      rw [Nat.zero_add] at *
      have b : 2 ^ (i + 1) ≤ 64 := by
        have : ∀ n < 7, 2 ^ n ≤ 64 := by decide
        exact this (i + 1) (by omega)
      have b0 : 2 ^ i ≤ 64 := by
        have : ∀ n < 7, 2 ^ n ≤ 64 := by decide
        exact this i (by omega)
      have ll := lots_len i
      simp [DL.endW, DL.bnd, DL.ret, DL.seqW, DL.grd, DL.nox, DL.rd, DL.env0, DL.asB, DL.truD, DL.andT, DL.orT, DL.notT, DL.optW, DL.onI2, DL.cmpI, DL.subD, DL.lenD, DL.intO, DL.tupleD, DL.listD, DL.ite_app, seqD]
      refine ⟨by rw [ll, sizeLine_eq]; omega, lcGo_map (g := fun d => match d with | .tup xs => some (.tup (xs ++ [.int (i : Int)])) | _ => none) ?_ ?_⟩
      · intro x hx R hR
        obtain ⟨l, hl, rfl⟩ := List.mem_map.mp hx
        have hll : l.length ≤ i := by
          have : ∀ n < 7, ∀ l ∈ lots n, l.length ≤ n := by decide
          exact this i (by omega) l hl
        simp [DL.endW, DL.bnd, DL.ret, DL.seqW, DL.grd, DL.nox, DL.rd, DL.env0, DL.asB, DL.truD, DL.andT, DL.orT, DL.notT, DL.optW, DL.onI2, DL.cmpI, DL.subD, DL.lenD, DL.intO, DL.tupleD, DL.listD, DL.ite_app, lcF, wipeE, addD]
        refine ⟨by rw [sizeLine_eq]; omega, hR⟩
      · have : ((lots i).map iT).filterMap (fun d => match d with | .tup xs => some (.tup (xs ++ [.int (i : Int)])) | _ => none) = ((lots i).map fun l => l ++ [(i : Int)]).map iT := by
          rw [List.filterMap_map, List.map_map, ← List.filterMap_eq_map]
          congr 1
          funext l
          simp
        rw [this]
        simp [DL.endW, DL.bnd, DL.ret, DL.seqW, DL.grd, DL.nox, DL.rd, DL.env0, DL.asB, DL.truD, DL.andT, DL.orT, DL.notT, DL.optW, DL.onI2, DL.cmpI, DL.subD, DL.lenD, DL.intO, DL.tupleD, DL.listD, DL.ite_app, addD]
        refine ⟨by rw [ll, sizeLine_eq]; omega, hR _ ⟨by omega, .d (.int (i : Int)), v, ?_⟩⟩
        simp [lots]
    · subst hρ
      rw [Nat.zero_add, List.length_map, List.length_range]
      simp [DL.endW, DL.bnd, DL.ret, DL.seqW, DL.grd, DL.nox, DL.rd, DL.env0, DL.asB, DL.truD, DL.andT, DL.orT, DL.notT, DL.optW, DL.onI2, DL.cmpI, DL.subD, DL.lenD, DL.intO, DL.tupleD, DL.listD, DL.ite_app]
      unfold lotsD at q
      rw [lots_eq k (by omega), List.map_map]
      exact q
end K02
end
section
set_option Elab.async false
set_option linter.all false
set_option maxRecDepth 100000
set_option maxHeartbeats 4000000
set_option autoImplicit false
namespace K02
open PySem PySem.Spec L2 DL
theorem draw_all {m : Int} {Q : D → Prop} {E : DX → Prop} (h0 : 0 < m) (h1 : m < 2 ^ 200) (h : ∀ r, 0 ≤ r → r < m → Q (.int r)) : drawS [.hnd, .int m] Q E :=
  ⟨⟨h0, h1⟩, fun d ⟨r, e, r0, r1⟩ => by rw [e]; exact h r r0 r1⟩
theorem pow1020 : powD (.int 10) (.int 20) = DL.ret (.int (10 ^ 20)) := by
  have : CPow 10 20 := ⟨by decide, by decide, by decide⟩
  funext Q E
  show (CPow 10 20 ∧ Q (.int (10 ^ 20))) = Q (.int (10 ^ 20))
  simp [this]
theorem cut1 (xs : List D) : cutD xs (some 1) none = xs.drop 1 := by
  cases xs with
  | nil => rfl
  | cons x xs =>
    unfold cutD HT.sIx
    simp
theorem os_ints {B : Int → Prop} : ∀ {os : List (Option D)}, (∀ (i : Nat) o, os[i]? = some o → ∃ r : Int, o = some (.int r) ∧ B r) → ∃ rs : List Int, os.filterMap id = rs.map D.int ∧ rs.length = os.length ∧ ∀ r ∈ rs, B r
  | [], _ => ⟨[], rfl, rfl, fun _ h => by cases h⟩
  | o :: os, h => by
    obtain ⟨r, e, b⟩ := h 0 o rfl
    obtain ⟨rs, e2, l, hb⟩ := os_ints (os := os) fun i o ho => h (i + 1) o (by simpa using ho)
    refine ⟨r :: rs, ?_, by simp [l], fun x hx => ?_⟩
    · rw [e, List.filterMap_cons_some (f := id) (b := D.int r) rfl, e2]
      rfl
    · rcases List.mem_cons.mp hx with rfl | hx
      · exact b
      · exact hb x hx
theorem os_intsO : ∀ {os : List (Option D)}, (∀ (i : Nat) o, os[i]? = some o → o = none ∨ ∃ r : Int, o = some (.int r)) → ∃ rs : List Int, os.filterMap id = rs.map D.int
  | [], _ => ⟨[], rfl⟩
  | o :: os, h => by
    obtain ⟨rs, e2⟩ := os_intsO (os := os) fun i o ho => h (i + 1) o (by simpa using ho)
    rcases h 0 o rfl with e | ⟨r, e⟩
    · exact ⟨rs, by rw [e, List.filterMap_cons_none (f := id) rfl, e2]⟩
    · exact ⟨r :: rs, by rw [e, List.filterMap_cons_some (f := id) (b := D.int r) rfl, e2]; rfl⟩
def isCover (d : D) : Prop := ∃ (t : Int) (cs : List Int), d = .tup [.int t, .lst (cs.map D.int)] ∧ t.natAbs ≤ 5
theorem os_covers : ∀ {os : List (Option D)}, (∀ (i : Nat) o, os[i]? = some o → ∃ d, o = some d ∧ isCover d) → (os.filterMap id).length = os.length ∧ ∀ d ∈ os.filterMap id, isCover d
  | [], _ => ⟨rfl, fun _ h => by cases h⟩
  | o :: os, h => by
    obtain ⟨d, e, c⟩ := h 0 o rfl
    obtain ⟨l, hc⟩ := os_covers (os := os) fun i o ho => h (i + 1) o (by simpa using ho)
    rw [e, List.filterMap_cons_some (f := id) (b := d) rfl]
    exact ⟨by simp [l], fun x hx => by
      rcases List.mem_cons.mp hx with rfl | hx
      · exact c
      · exact hc x hx⟩
theorem rng_nat {n : Nat} {Q : List D → Prop} {E : DX → Prop} (h : n ≤ 1000) (q : Q ((List.range n).map fun i : Nat => D.int (i : Int))) : rng1W [.int (n : Int)] Q E := by
  refine ⟨⟨by omega, by omega⟩, ?_⟩
  rw [Int.toNat_natCast, rangeD0]
  exact q
theorem sum_bound {b : Nat} : ∀ {ns : List Int}, (∀ x ∈ ns, x.natAbs ≤ b) → ns.sum.natAbs ≤ ns.length * b
  | [], _ => by simp
  | n :: ns, h => by
    have h1 := h n List.mem_cons_self
    have h2 := sum_bound (ns := ns) fun x hx => h x (List.mem_cons_of_mem _ hx)
    rw [List.sum_cons, List.length_cons, Nat.succ_mul]
    have := Int.natAbs_add_le n ns.sum
    omega
theorem m__law_drawn {G : Gx} (gs : GS G) (ds : List D) (Q : D → Prop) (E : DX → Prop) (h : s__law_drawn ds Q E) : endW (W__law_drawn G (env0 13 ds)) Q E := by
  match ds, h with
  | [.hnd, .int m], h =>
    obtain ⟨k, rfl, k1, k6, q⟩ := h
    simp [DL.endW, DL.bnd, DL.ret, DL.seqW, DL.grd, DL.nox, DL.rd, DL.env0, DL.asB, DL.truD, DL.andT, DL.orT, DL.notT, DL.optW, DL.onI2, DL.cmpI, DL.subD, DL.lenD, DL.intO, DL.tupleD, DL.listD, DL.ite_app, W__law_drawn, pow1020]
    refine draw_all (by decide) (by decide) fun way w0 w4 => ⟨by decide, by decide, fun x hx => ?_⟩
    obtain ⟨most, rfl, hm0, hm1⟩ : ∃ most : Int, x = .int most ∧ 0 < most ∧ most ≤ 10 ^ 20 := by
      simp only [List.mem_cons, List.not_mem_nil, or_false] at hx
      rcases hx with rfl | rfl | rfl | rfl
      · exact ⟨_, rfl, by decide, by decide⟩
      · exact ⟨_, rfl, by decide, by decide⟩
      · exact ⟨_, rfl, by decide, by decide⟩
      · exact ⟨_, rfl, by decide, by decide⟩
    simp [DL.endW, DL.bnd, DL.ret, DL.seqW, DL.grd, DL.nox, DL.rd, DL.env0, DL.asB, DL.truD, DL.andT, DL.orT, DL.notT, DL.optW, DL.onI2, DL.cmpI, DL.subD, DL.lenD, DL.intO, DL.tupleD, DL.listD, DL.ite_app, tupG, consG, nilG, eq_int]
    by_cases c : way = 0
    · subst c
      simp [DL.endW, DL.bnd, DL.ret, DL.seqW, DL.grd, DL.nox, DL.rd, DL.env0, DL.asB, DL.truD, DL.andT, DL.orT, DL.notT, DL.optW, DL.onI2, DL.cmpI, DL.subD, DL.lenD, DL.intO, DL.tupleD, DL.listD, DL.ite_app]
      refine ⟨k, rfl, k6, ?_⟩
      have p := Nat.two_pow_pos k
      have p64 : 2 ^ k ≤ 64 := by
        have : ∀ n < 7, 2 ^ n ≤ 64 := by decide
        exact this k (by omega)
      show (((List.range (2 ^ k)).map fun k => iT ((lotOf k).map fun i : Nat => (i : Int))) |> fun xs => (cutD xs (some 1) none).length ≤ sizeLine ∧ _)
      refine ⟨by rw [cut1, List.length_drop, List.length_map, List.length_range, sizeLine_eq]; omega, ?_⟩
      rw [cut1]
      refine lcGo_rel (P := fun _ o => ∃ r : Int, o = some (.int r) ∧ r.natAbs < 2 ^ 100) (fun x hx R hR => ?_) fun os hl hP => ?_
      · simp [DL.endW, DL.bnd, DL.ret, DL.seqW, DL.grd, DL.nox, DL.rd, DL.env0, DL.asB, DL.truD, DL.andT, DL.orT, DL.notT, DL.optW, DL.onI2, DL.cmpI, DL.subD, DL.lenD, DL.intO, DL.tupleD, DL.listD, DL.ite_app, lcF, wipeE, mulD, addD]
        refine ⟨mulOk_small (by decide), draw_all (by omega) (by omega) fun r r0 r1 => ?_⟩
        simp [DL.endW, DL.bnd, DL.ret, DL.seqW, DL.grd, DL.nox, DL.rd, DL.env0, DL.asB, DL.truD, DL.andT, DL.orT, DL.notT, DL.optW, DL.onI2, DL.cmpI, DL.subD, DL.lenD, DL.intO, DL.tupleD, DL.listD, DL.ite_app]
        exact hR _ ⟨_, rfl, by omega⟩
      · rw [List.length_drop, List.length_map, List.length_range] at hl
        obtain ⟨rs, e, l, hb⟩ := os_ints (B := fun r => r.natAbs < 2 ^ 100) (os := os) fun i o ho => by
          have hi := (List.getElem?_eq_some_iff.mp ho).1
          exact hP i _ o (List.getElem?_eq_getElem (by rw [List.length_drop, List.length_map, List.length_range]; omega)) ho
        rw [e]
        show grd _ _ Q E
        refine ⟨by simp; rw [l, hl, sizeLine_eq]; omega, ?_⟩
        have := q (0 :: rs) ⟨k1, by omega, by simp; omega, rfl⟩ fun x hx => by
          rcases List.mem_cons.mp hx with rfl | hx
          · decide
          · exact hb x hx
        exact this
    · have p := Nat.two_pow_pos k
      have p64 : 2 ^ k ≤ 64 := by
        have : ∀ n < 7, 2 ^ n ≤ 64 := by decide
        exact this k (by omega)
      simp [DL.endW, DL.bnd, DL.ret, DL.seqW, DL.grd, DL.nox, DL.rd, DL.env0, DL.asB, DL.truD, DL.andT, DL.orT, DL.notT, DL.optW, DL.onI2, DL.cmpI, DL.subD, DL.lenD, DL.intO, DL.tupleD, DL.listD, DL.ite_app, c]
      refine rng_nat (by omega) ⟨by simp [sizeLine_eq]; omega, ?_⟩
      refine lcGo_rel (P := fun _ o => ∃ r : Int, o = some (.int r) ∧ r.natAbs ≤ 10) (fun x hx R hR => ?_) fun os hl hP => ?_
      · simp [DL.endW, DL.bnd, DL.ret, DL.seqW, DL.grd, DL.nox, DL.rd, DL.env0, DL.asB, DL.truD, DL.andT, DL.orT, DL.notT, DL.optW, DL.onI2, DL.cmpI, DL.subD, DL.lenD, DL.intO, DL.tupleD, DL.listD, DL.ite_app, lcF, wipeE]
        refine draw_all (by decide) (by decide) fun r r0 r1 => ?_
        simp [DL.endW, DL.bnd, DL.ret, DL.seqW, DL.grd, DL.nox, DL.rd, DL.env0, DL.asB, DL.truD, DL.andT, DL.orT, DL.notT, DL.optW, DL.onI2, DL.cmpI, DL.subD, DL.lenD, DL.intO, DL.tupleD, DL.listD, DL.ite_app]
        exact hR _ ⟨_, rfl, by omega⟩
      rw [List.length_map, List.length_range] at hl
      obtain ⟨ws, e, l, hb⟩ := os_ints (B := fun r => r.natAbs ≤ 10) (os := os) fun i o ho => by
        have hi := (List.getElem?_eq_some_iff.mp ho).1
        exact hP i _ o (List.getElem?_eq_getElem (by rw [List.length_map, List.length_range]; omega)) ho
      rw [e]
      rw [hl] at l
      clear hP hl e os
      refine rng_nat (n := 3) (by omega) ⟨by simp [sizeLine_eq], ?_⟩
      refine lcGo_rel (P := fun _ o => ∃ d, o = some d ∧ isCover d) (fun x hx R hR => ?_) fun os hl hP => ?_
      · simp [DL.endW, DL.bnd, DL.ret, DL.seqW, DL.grd, DL.nox, DL.rd, DL.env0, DL.asB, DL.truD, DL.andT, DL.orT, DL.notT, DL.optW, DL.onI2, DL.cmpI, DL.subD, DL.lenD, DL.intO, DL.tupleD, DL.listD, DL.ite_app, lcF, wipeE]
        refine draw_all (by decide) (by decide) fun t t0 t5 => ?_
        simp [DL.endW, DL.bnd, DL.ret, DL.seqW, DL.grd, DL.nox, DL.rd, DL.env0, DL.asB, DL.truD, DL.andT, DL.orT, DL.notT, DL.optW, DL.onI2, DL.cmpI, DL.subD, DL.lenD, DL.intO, DL.tupleD, DL.listD, DL.ite_app, addD]
        refine rng_nat (by omega) ⟨by simp [sizeLine_eq]; omega, ?_⟩
        refine lcGo_rel (P := fun x o => o = none ∨ o = some x) (fun x hx R hR => ?_) fun os hl hP => ?_
        · simp [DL.endW, DL.bnd, DL.ret, DL.seqW, DL.grd, DL.nox, DL.rd, DL.env0, DL.asB, DL.truD, DL.andT, DL.orT, DL.notT, DL.optW, DL.onI2, DL.cmpI, DL.subD, DL.lenD, DL.intO, DL.tupleD, DL.listD, DL.ite_app, lcF, wipeE]
          refine draw_all (by decide) (by decide) fun r r0 r1 => ?_
          simp [DL.endW, DL.bnd, DL.ret, DL.seqW, DL.grd, DL.nox, DL.rd, DL.env0, DL.asB, DL.truD, DL.andT, DL.orT, DL.notT, DL.optW, DL.onI2, DL.cmpI, DL.subD, DL.lenD, DL.intO, DL.tupleD, DL.listD, DL.ite_app, eq_int]
          by_cases c : r = 0
          · simp [c]; exact hR _ (.inr rfl)
          · simp [c]; exact hR _ (.inl rfl)
        · obtain ⟨cs, e⟩ := os_intsO (os := os) fun i o ho => by
            rw [List.length_map, List.length_range] at hl
            have hi := (List.getElem?_eq_some_iff.mp ho).1
            have := hP i (.int (i : Int)) o (by rw [List.getElem?_map, List.getElem?_range (by omega)]; rfl) ho
            rcases this with h | h
            · exact .inl h
            · exact .inr ⟨_, h⟩
          rw [e]
          exact hR _ ⟨_, rfl, _, cs, rfl, by omega⟩
      obtain ⟨cl, hc⟩ := os_covers (os := os) fun i o ho => by
        have hi := (List.getElem?_eq_some_iff.mp ho).1
        rw [List.length_map, List.length_range] at hl
        exact hP i _ o (List.getElem?_eq_getElem (by rw [List.length_map, List.length_range]; omega)) ho
      generalize hcv : os.filterMap id = cv at *
      have cl3 : cv.length = 3 := by rw [cl, hl]; rfl
      clear hP hl cl hcv os
      refine ⟨k, rfl, k6, ?_⟩
      simp [DL.endW, DL.bnd, DL.ret, DL.seqW, DL.grd, DL.nox, DL.rd, DL.env0, DL.asB, DL.truD, DL.andT, DL.orT, DL.notT, DL.optW, DL.onI2, DL.cmpI, DL.subD, DL.lenD, DL.intO, DL.tupleD, DL.listD, DL.ite_app, lotsD, seqD]
      have hlot : ∀ (i : Nat) x, ((List.range (2 ^ k)).map fun k => iT ((lotOf k).map fun i : Nat => (i : Int)))[i]? = some x → i < 2 ^ k ∧ x = iT ((lotOf i).map fun i : Nat => (i : Int)) := fun i x e => by
        rw [List.getElem?_map] at e
        by_cases hi : i < 2 ^ k
        · rw [List.getElem?_range hi] at e
          exact ⟨hi, (Option.some.inj e).symm⟩
        · rw [List.getElem?_eq_none (by simp; omega)] at e
          cases e
      refine forGo_nx (I := fun n ρ => ∃ (ns : List Int) (x7 x8 x9 x10 x11 x12 : Sl), ρ = [Sl.d D.hnd, Sl.d (D.int ↑k), Sl.d (D.int way), Sl.d (D.int most), Sl.d (D.lst (ws.map D.int)), Sl.d (D.lst cv), Sl.own (OD.lst none (ns.map D.int)), x7, x8, x9, x10, x11, x12] ∧ ns.length = n ∧ (0 < n → ns[0]? = some 0) ∧ ∀ x ∈ ns, x.natAbs ≤ 1000) 0 ⟨[], _, _, _, _, _, _, rfl, rfl, fun h => absurd h (by omega), fun _ h => by cases h⟩ (fun i x ρ e ⟨ns, x7, x8, x9, x10, x11, x12, hρ, hn, hz, hbd⟩ R hR => ?_) fun ρ ⟨ns, x7, x8, x9, x10, x11, x12, hρ, hn, hz, hbd⟩ => ?_
      · subst hρ
        obtain ⟨hi, rfl⟩ := hlot i x e
        rw [Nat.zero_add] at *
        have hll := lotOf_len hi (by omega)
        have eL : (List.map D.int (List.map (fun i : Nat => (i : Int)) (lotOf i))) = (lotOf i).map fun i : Nat => D.int (i : Int) := by rw [List.map_map]; rfl
        simp [DL.endW, DL.bnd, DL.ret, DL.seqW, DL.grd, DL.nox, DL.rd, DL.env0, DL.asB, DL.truD, DL.andT, DL.orT, DL.notT, DL.optW, DL.onI2, DL.cmpI, DL.subD, DL.lenD, DL.intO, DL.tupleD, DL.listD, DL.ite_app, seqD, eq_int]
        by_cases c2 : way = 2
        · have c3 : 1 < way := by omega
          rw [if_pos c2, if_pos c3]
          have hw1 : (0 : Int).natAbs ≤ 60 + 5 * 0 := by decide
          have hw2 : i = 0 → (0 : Int) = 0 := fun _ => rfl
          have hv : ∀ d ∈ cv, isCover d := hc
          have hvl : cv.length ≤ 3 := by omega
          refine forGo_nx (I := fun n ρ => ∃ (wth : Int) (x9 x10 x11 : Sl), ρ = [Sl.d D.hnd, Sl.d (D.int ↑k), Sl.d (D.int way), Sl.d (D.int most), Sl.d (D.lst (ws.map D.int)), Sl.d (D.lst cv), Sl.own (OD.lst none (ns.map D.int)), Sl.d (iT ((lotOf i).map fun i : Nat => (i : Int))), Sl.d (D.int wth), x9, x10, x11, x12] ∧ wth.natAbs ≤ 60 + 5 * n ∧ (i = 0 → wth = 0)) 0 ⟨(0 : Int), x9, x10, x11, by first | rfl | (rw [eL]; rfl) | (simp; done), hw1, hw2⟩ (fun j x ρ e ⟨wt, y9, y10, y11, hρ, hw, hw0⟩ R2 hR2 => ?_) fun ρ ⟨wt, y9, y10, y11, hρ, hw, hw0⟩ => ?_
          · subst hρ
            obtain ⟨t, cs, rfl, ht⟩ := hv x (List.mem_of_getElem? e)
            simp [DL.endW, DL.bnd, DL.ret, DL.seqW, DL.grd, DL.nox, DL.rd, DL.env0, DL.asB, DL.truD, DL.andT, DL.orT, DL.notT, DL.optW, DL.onI2, DL.cmpI, DL.subD, DL.lenD, DL.intO, DL.tupleD, DL.listD, DL.ite_app, seqD]
            refine ⟨by rw [sizeLine_eq]; omega, lcGo_map (g := fun d => match d with | .int j => some (.bl (cs.contains j)) | _ => none) ?_ ?_⟩
            · intro x hx R3 hR3
              obtain ⟨j, hj, rfl⟩ := List.mem_map.mp hx
              simp [DL.endW, DL.bnd, DL.ret, DL.seqW, DL.grd, DL.nox, DL.rd, DL.env0, DL.asB, DL.truD, DL.andT, DL.orT, DL.notT, DL.optW, DL.onI2, DL.cmpI, DL.subD, DL.lenD, DL.intO, DL.tupleD, DL.listD, DL.ite_app, lcF, wipeE, in_lst]
              simpa using hR3
            · have e2 : ∀ l : List Nat, (List.map (D.int ∘ fun i : Nat => (i : Int)) l).filterMap (fun d => match d with | .int j => some (D.bl (cs.contains j)) | _ => none) = (l.map fun j : Nat => cs.contains (j : Int)).map D.bl := fun l => by
                rw [List.filterMap_map, List.map_map, ← List.filterMap_eq_map]
                rfl
              rw [e2, any_lst]
              simp [DL.endW, DL.bnd, DL.ret, DL.seqW, DL.grd, DL.nox, DL.rd, DL.env0, DL.asB, DL.truD, DL.andT, DL.orT, DL.notT, DL.optW, DL.onI2, DL.cmpI, DL.subD, DL.lenD, DL.intO, DL.tupleD, DL.listD, DL.ite_app, addD]
              split
              · rename_i hex
                refine hR2 _ ⟨wt + t, _, _, _, rfl, by have := Int.natAbs_add_le wt t; omega, fun hi0 => ?_⟩
                subst hi0
                rw [lotOf_0] at hex
                obtain ⟨x, hx, _⟩ := hex
                cases hx
              · exact hR2 _ ⟨wt, _, _, _, rfl, by omega, hw0⟩
          · subst hρ
            have hlv := Nat.mul_le_mul_left 5 hvl
            simp [DL.endW, DL.bnd, DL.ret, DL.seqW, DL.grd, DL.nox, DL.rd, DL.env0, DL.asB, DL.truD, DL.andT, DL.orT, DL.notT, DL.optW, DL.onI2, DL.cmpI, DL.subD, DL.lenD, DL.intO, DL.tupleD, DL.listD, DL.ite_app, ownL]
            refine ⟨by rw [sizeLine_eq]; omega, hR _ ⟨ns ++ [wt], .d (iT ((lotOf i).map fun i : Nat => (i : Int))), .d (.int wt), y9, y10, y11, x12, by simp, by simp; omega, fun _ => ?_, fun x hx => ?_⟩⟩
            · rcases Nat.eq_zero_or_pos i with h0 | h0
              · have : ns = [] := List.eq_nil_of_length_eq_zero (by omega)
                rw [this, hw0 h0]
                rfl
              · rw [List.getElem?_append_left (by omega)]
                exact hz h0
            · rcases List.mem_append.mp hx with hx | hx
              · exact hbd x hx
              · have : x = wt := by simpa using hx
                subst this
                omega
        · rw [if_neg c2]
          refine ⟨by rw [sizeLine_eq]; omega, lcGo_map (g := fun d => match d with | .int j => some (.int (ws.getD j.toNat 0)) | _ => none) ?_ ?_⟩
          · intro x hx R hR
            obtain ⟨j, hj, rfl⟩ := List.mem_map.mp hx
            have hlt := lotOf_lt hi (by omega) j hj
            have e1 : ixD (.lst (ws.map D.int)) (.int (j : Int)) = DL.ret (.int (ws.getD j 0)) := ixL_int (by omega) (by rw [Int.toNat_natCast]; exact get_lt (by omega))
            simp [DL.endW, DL.bnd, DL.ret, DL.seqW, DL.grd, DL.nox, DL.rd, DL.env0, DL.asB, DL.truD, DL.andT, DL.orT, DL.notT, DL.optW, DL.onI2, DL.cmpI, DL.subD, DL.lenD, DL.intO, DL.tupleD, DL.listD, DL.ite_app, lcF, wipeE, e1]
            exact hR
          · have e2 : ∀ l : List Nat, (List.map (D.int ∘ fun i : Nat => (i : Int)) l).filterMap (fun d => match d with | .int j => some (.int (ws.getD j.toNat 0)) | _ => none) = (l.map fun j => ws.getD j 0).map D.int := fun l => by
              rw [List.filterMap_map, List.map_map, ← List.filterMap_eq_map]
              rfl
            rw [e2, sum_lst]
            obtain ⟨wth, ew, hw1, hw2⟩ : ∃ wth : Int, wth = ((lotOf i).map fun j => ws.getD j 0).sum ∧ wth.natAbs ≤ 60 ∧ (i = 0 → wth = 0) := by
              refine ⟨_, rfl, ?_, ?_⟩
              · have := sum_bound (b := 10) (ns := (lotOf i).map fun j => ws.getD j 0) fun x hx => by
                  obtain ⟨j, hj, rfl⟩ := List.mem_map.mp hx
                  have hlt := lotOf_lt hi (by omega) j hj
                  exact hb _ (List.mem_of_getElem? (get_lt (by omega)))
                rw [List.length_map] at this
                omega
              · rintro rfl
                rw [lotOf_0]
                rfl
            rw [← ew]
            simp only [DL.ret]
            by_cases c3 : 1 < way
            · rw [if_pos c3]
              have hv : ∀ d ∈ cv, isCover d := hc
              have hvl : cv.length ≤ 3 := by omega
              refine forGo_nx (I := fun n ρ => ∃ (wth : Int) (x9 x10 x11 : Sl), ρ = [Sl.d D.hnd, Sl.d (D.int ↑k), Sl.d (D.int way), Sl.d (D.int most), Sl.d (D.lst (ws.map D.int)), Sl.d (D.lst cv), Sl.own (OD.lst none (ns.map D.int)), Sl.d (iT ((lotOf i).map fun i : Nat => (i : Int))), Sl.d (D.int wth), x9, x10, x11, x12] ∧ wth.natAbs ≤ 60 + 5 * n ∧ (i = 0 → wth = 0)) 0 ⟨wth, x9, x10, x11, by first | rfl | (rw [eL]; rfl) | (simp; done), hw1, hw2⟩ (fun j x ρ e ⟨wt, y9, y10, y11, hρ, hw, hw0⟩ R2 hR2 => ?_) fun ρ ⟨wt, y9, y10, y11, hρ, hw, hw0⟩ => ?_
              · subst hρ
                obtain ⟨t, cs, rfl, ht⟩ := hv x (List.mem_of_getElem? e)
                simp [DL.endW, DL.bnd, DL.ret, DL.seqW, DL.grd, DL.nox, DL.rd, DL.env0, DL.asB, DL.truD, DL.andT, DL.orT, DL.notT, DL.optW, DL.onI2, DL.cmpI, DL.subD, DL.lenD, DL.intO, DL.tupleD, DL.listD, DL.ite_app, seqD]
                refine ⟨by rw [sizeLine_eq]; omega, lcGo_map (g := fun d => match d with | .int j => some (.bl (cs.contains j)) | _ => none) ?_ ?_⟩
                · intro x hx R3 hR3
                  obtain ⟨j, hj, rfl⟩ := List.mem_map.mp hx
                  simp [DL.endW, DL.bnd, DL.ret, DL.seqW, DL.grd, DL.nox, DL.rd, DL.env0, DL.asB, DL.truD, DL.andT, DL.orT, DL.notT, DL.optW, DL.onI2, DL.cmpI, DL.subD, DL.lenD, DL.intO, DL.tupleD, DL.listD, DL.ite_app, lcF, wipeE, in_lst]
                  simpa using hR3
                · have e2 : ∀ l : List Nat, (List.map (D.int ∘ fun i : Nat => (i : Int)) l).filterMap (fun d => match d with | .int j => some (D.bl (cs.contains j)) | _ => none) = (l.map fun j : Nat => cs.contains (j : Int)).map D.bl := fun l => by
                    rw [List.filterMap_map, List.map_map, ← List.filterMap_eq_map]
                    rfl
                  rw [e2, any_lst]
                  simp [DL.endW, DL.bnd, DL.ret, DL.seqW, DL.grd, DL.nox, DL.rd, DL.env0, DL.asB, DL.truD, DL.andT, DL.orT, DL.notT, DL.optW, DL.onI2, DL.cmpI, DL.subD, DL.lenD, DL.intO, DL.tupleD, DL.listD, DL.ite_app, addD]
                  split
                  · rename_i hex
                    refine hR2 _ ⟨wt + t, _, _, _, rfl, by have := Int.natAbs_add_le wt t; omega, fun hi0 => ?_⟩
                    subst hi0
                    rw [lotOf_0] at hex
                    obtain ⟨x, hx, _⟩ := hex
                    cases hx
                  · exact hR2 _ ⟨wt, _, _, _, rfl, by omega, hw0⟩
              · subst hρ
                have hlv := Nat.mul_le_mul_left 5 hvl
                simp [DL.endW, DL.bnd, DL.ret, DL.seqW, DL.grd, DL.nox, DL.rd, DL.env0, DL.asB, DL.truD, DL.andT, DL.orT, DL.notT, DL.optW, DL.onI2, DL.cmpI, DL.subD, DL.lenD, DL.intO, DL.tupleD, DL.listD, DL.ite_app, ownL]
                refine ⟨by rw [sizeLine_eq]; omega, hR _ ⟨ns ++ [wt], .d (iT ((lotOf i).map fun i : Nat => (i : Int))), .d (.int wt), y9, y10, y11, x12, by simp, by simp; omega, fun _ => ?_, fun x hx => ?_⟩⟩
                · rcases Nat.eq_zero_or_pos i with h0 | h0
                  · have : ns = [] := List.eq_nil_of_length_eq_zero (by omega)
                    rw [this, hw0 h0]
                    rfl
                  · rw [List.getElem?_append_left (by omega)]
                    exact hz h0
                · rcases List.mem_append.mp hx with hx | hx
                  · exact hbd x hx
                  · have : x = wt := by simpa using hx
                    subst this
                    omega
            · rw [if_neg c3]
              have hv : ∀ d ∈ ([] : List D), isCover d := fun _ h => by cases h
              have hvl : ([] : List D).length ≤ 3 := by simp
              refine forGo_nx (I := fun n ρ => ∃ (wth : Int) (x9 x10 x11 : Sl), ρ = [Sl.d D.hnd, Sl.d (D.int ↑k), Sl.d (D.int way), Sl.d (D.int most), Sl.d (D.lst (ws.map D.int)), Sl.d (D.lst cv), Sl.own (OD.lst none (ns.map D.int)), Sl.d (iT ((lotOf i).map fun i : Nat => (i : Int))), Sl.d (D.int wth), x9, x10, x11, x12] ∧ wth.natAbs ≤ 60 + 5 * n ∧ (i = 0 → wth = 0)) 0 ⟨wth, x9, x10, x11, by first | rfl | (rw [eL]; rfl) | (simp; done), hw1, hw2⟩ (fun j x ρ e ⟨wt, y9, y10, y11, hρ, hw, hw0⟩ R2 hR2 => ?_) fun ρ ⟨wt, y9, y10, y11, hρ, hw, hw0⟩ => ?_
              · subst hρ
                obtain ⟨t, cs, rfl, ht⟩ := hv x (List.mem_of_getElem? e)
                simp [DL.endW, DL.bnd, DL.ret, DL.seqW, DL.grd, DL.nox, DL.rd, DL.env0, DL.asB, DL.truD, DL.andT, DL.orT, DL.notT, DL.optW, DL.onI2, DL.cmpI, DL.subD, DL.lenD, DL.intO, DL.tupleD, DL.listD, DL.ite_app, seqD]
                refine ⟨by rw [sizeLine_eq]; omega, lcGo_map (g := fun d => match d with | .int j => some (.bl (cs.contains j)) | _ => none) ?_ ?_⟩
                · intro x hx R3 hR3
                  obtain ⟨j, hj, rfl⟩ := List.mem_map.mp hx
                  simp [DL.endW, DL.bnd, DL.ret, DL.seqW, DL.grd, DL.nox, DL.rd, DL.env0, DL.asB, DL.truD, DL.andT, DL.orT, DL.notT, DL.optW, DL.onI2, DL.cmpI, DL.subD, DL.lenD, DL.intO, DL.tupleD, DL.listD, DL.ite_app, lcF, wipeE, in_lst]
                  simpa using hR3
                · have e2 : ∀ l : List Nat, (List.map (D.int ∘ fun i : Nat => (i : Int)) l).filterMap (fun d => match d with | .int j => some (D.bl (cs.contains j)) | _ => none) = (l.map fun j : Nat => cs.contains (j : Int)).map D.bl := fun l => by
                    rw [List.filterMap_map, List.map_map, ← List.filterMap_eq_map]
                    rfl
                  rw [e2, any_lst]
                  simp [DL.endW, DL.bnd, DL.ret, DL.seqW, DL.grd, DL.nox, DL.rd, DL.env0, DL.asB, DL.truD, DL.andT, DL.orT, DL.notT, DL.optW, DL.onI2, DL.cmpI, DL.subD, DL.lenD, DL.intO, DL.tupleD, DL.listD, DL.ite_app, addD]
                  split
                  · rename_i hex
                    refine hR2 _ ⟨wt + t, _, _, _, rfl, by have := Int.natAbs_add_le wt t; omega, fun hi0 => ?_⟩
                    subst hi0
                    rw [lotOf_0] at hex
                    obtain ⟨x, hx, _⟩ := hex
                    cases hx
                  · exact hR2 _ ⟨wt, _, _, _, rfl, by omega, hw0⟩
              · subst hρ
                have hlv := Nat.mul_le_mul_left 5 hvl
                simp [DL.endW, DL.bnd, DL.ret, DL.seqW, DL.grd, DL.nox, DL.rd, DL.env0, DL.asB, DL.truD, DL.andT, DL.orT, DL.notT, DL.optW, DL.onI2, DL.cmpI, DL.subD, DL.lenD, DL.intO, DL.tupleD, DL.listD, DL.ite_app, ownL]
                refine ⟨by rw [sizeLine_eq]; omega, hR _ ⟨ns ++ [wt], .d (iT ((lotOf i).map fun i : Nat => (i : Int))), .d (.int wt), y9, y10, y11, x12, by simp, by simp; omega, fun _ => ?_, fun x hx => ?_⟩⟩
                · rcases Nat.eq_zero_or_pos i with h0 | h0
                  · have : ns = [] := List.eq_nil_of_length_eq_zero (by omega)
                    rw [this, hw0 h0]
                    rfl
                  · rw [List.getElem?_append_left (by omega)]
                    exact hz h0
                · rcases List.mem_append.mp hx with hx | hx
                  · exact hbd x hx
                  · have : x = wt := by simpa using hx
                    subst this
                    omega
      · subst hρ
        rw [Nat.zero_add, List.length_map, List.length_range] at hn hz
        simp [DL.endW, DL.bnd, DL.ret, DL.seqW, DL.grd, DL.nox, DL.rd, DL.env0, DL.asB, DL.truD, DL.andT, DL.orT, DL.notT, DL.optW, DL.onI2, DL.cmpI, DL.subD, DL.lenD, DL.intO, DL.tupleD, DL.listD, DL.ite_app, frzW, frzD]
        exact q ns ⟨k1, by omega, hn, hz p⟩ fun x hx => by have := hbd x hx; omega
end K02
end
section
set_option Elab.async false
set_option linter.all false
set_option maxRecDepth 100000
set_option maxHeartbeats 4000000
set_option autoImplicit false
namespace K02
open PySem PySem.Spec L2 DL
theorem seqW_I {m : W Out} {f : DL.Env → W Out} {Q : Out → Prop} {E : DX → Prop} (I : DL.Env → Prop) (h1 : ∀ R : Out → Prop, (∀ ρ, I ρ → R (.nx ρ)) → m R E) (h2 : ∀ ρ, I ρ → f ρ Q E) : seqW m f Q E := h1 _ h2
theorem cdiv_small {m j : Int} (h0 : 0 < j) (h1 : j < 2 ^ 200) : CDivW m j := by
  refine ⟨h0, ?_⟩
  have hn : j.natAbs ≠ 0 := by omega
  have : j.natAbs.log2 < 200 := (Nat.log2_lt hn).mpr (by omega)
  omega
theorem m__law_draw (G : Gx) (a c : Addr) (ns : List Int) (i : Nat) (g m kk many : Int) (Q : Out → Prop) (h1 : ∀ n ∈ ns, 0 ≤ n) (h2 : i ≤ ns.length) (h3 : 0 ≤ g) (h4 : 0 ≤ m) (h5 : 0 ≤ kk) (h6 : m < 2147483648) (h7 : 0 < many) (h8 : many < 2 ^ 200)
    (hQ : ∀ (r : Int) (i' : Nat) (g' m' kk' : Int) (ρ : DL.Env), 0 ≤ r → r < many → i' ≤ ns.length → 0 ≤ g' → 0 ≤ m' → 0 ≤ kk' → m' < 2147483648 → ρ[0]? = some (.own (.hnd a c ns [(i' : Int), g', m', kk'])) → Q (.rt (.int r) ρ)) :
    W__law_draw G (.own (.hnd a c ns [(i : Int), g, m, kk]) :: .d (.int many) :: List.replicate 3 .un) Q (fun _ => False) := by
  unfold W__law_draw
  refine seqW_I (I := fun ρ => ∃ (i : Nat) (g m : Int) (x2 : Sl), ρ = [.own (.hnd a c ns [(i : Int), g, m, kk]), .d (.int many), x2, .un, .un] ∧ i ≤ ns.length ∧ 0 ≤ g ∧ 0 ≤ m ∧ m < 2147483648) ?_ ?_
  · intro R hR
    simp [DL.endW, DL.bnd, DL.ret, DL.seqW, DL.grd, DL.nox, DL.rd, DL.env0, DL.asB, DL.truD, DL.andT, DL.orT, DL.notT, DL.optW, DL.onI2, DL.cmpI, DL.subD, DL.lenD, DL.intO, DL.tupleD, DL.listD, DL.ite_app, ownH, hixD, eq_int]
    by_cases c1 : g = 0
    · subst c1
      by_cases c2 : (i : Int) < ns.length
      · have hi : i < ns.length := by omega
        have e1 : ixD (.lst (ns.map D.int)) (.int (i : Int)) = DL.ret (.int (ns.getD i 0)) := ixL_int (by omega) (by rw [Int.toNat_natCast]; exact get_lt hi)
        have hc := h1 _ (List.mem_of_getElem? (get_lt hi))
        generalize ns.getD i 0 = cell at e1 hc
        simp [DL.endW, DL.bnd, DL.ret, DL.seqW, DL.grd, DL.nox, DL.rd, DL.env0, DL.asB, DL.truD, DL.andT, DL.orT, DL.notT, DL.optW, DL.onI2, DL.cmpI, DL.subD, DL.lenD, DL.intO, DL.tupleD, DL.listD, DL.ite_app, c2, hi, e1, addD, hsetD, ownH, hixD, mulD, modD, intD]
        have ep : powD (.int 10) (.int 18) = DL.ret (.int (10 ^ 18)) := by
          have : CPow 10 18 := ⟨by decide, by decide, by decide⟩
          funext Q E
          show (CPow 10 18 ∧ Q (.int (10 ^ 18))) = Q (.int (10 ^ 18))
          simp [this]
        refine ⟨mulOk_small2 (by decide), mulOk_small2 (by decide), ?_⟩
        rw [ep]
        simp [DL.endW, DL.bnd, DL.ret, DL.seqW, DL.grd, DL.nox, DL.rd, DL.env0, DL.asB, DL.truD, DL.andT, DL.orT, DL.notT, DL.optW, DL.onI2, DL.cmpI, DL.subD, DL.lenD, DL.intO, DL.tupleD, DL.listD, DL.ite_app]
        split
        · exact hR _ ⟨i + 1, cell, (m * 69621 + cell * 40692 + 193) % 2147483629, .d (.int cell), by simp, by omega, by omega, Int.emod_nonneg _ (by decide), by have := Int.emod_lt_of_pos (m * 69621 + cell * 40692 + 193) (show (0 : Int) < 2147483629 by decide); omega⟩
        · exact hR _ ⟨i + 1, 0, (m * 69621 + cell * 40692 + 193) % 2147483629, .d (.int cell), by simp, by omega, by omega, Int.emod_nonneg _ (by decide), by have := Int.emod_lt_of_pos (m * 69621 + cell * 40692 + 193) (show (0 : Int) < 2147483629 by decide); omega⟩
      · have hi : ¬ i < ns.length := by omega
        simp [c2, hi]
        exact hR _ ⟨i, 0, m, _, rfl, h2, by omega, h4, h6⟩
    · simp [c1]
      exact hR _ ⟨i, g, m, _, rfl, h2, h3, h4, h6⟩
  · rintro ρ ⟨i, g, m, x2, rfl, h2, h3, h4, h6⟩
    simp [DL.endW, DL.bnd, DL.ret, DL.seqW, DL.grd, DL.nox, DL.rd, DL.env0, DL.asB, DL.truD, DL.andT, DL.orT, DL.notT, DL.optW, DL.onI2, DL.cmpI, DL.subD, DL.lenD, DL.intO, DL.tupleD, DL.listD, DL.ite_app, ownH, hixD]
    by_cases c1 : 0 < g
    · simp [DL.endW, DL.bnd, DL.ret, DL.seqW, DL.grd, DL.nox, DL.rd, DL.env0, DL.asB, DL.truD, DL.andT, DL.orT, DL.notT, DL.optW, DL.onI2, DL.cmpI, DL.subD, DL.lenD, DL.intO, DL.tupleD, DL.listD, DL.ite_app, c1, intD, modD, h7, ownH, hixD, divD, hsetD, cdiv_small h7 h8]
      exact hQ (g % many) i (g / many) m kk _ (Int.emod_nonneg _ (by omega)) (Int.emod_lt_of_pos _ h7) h2 (Int.ediv_nonneg h3 (by omega)) h4 h5 h6 rfl
    · simp [DL.endW, DL.bnd, DL.ret, DL.seqW, DL.grd, DL.nox, DL.rd, DL.env0, DL.asB, DL.truD, DL.andT, DL.orT, DL.notT, DL.optW, DL.onI2, DL.cmpI, DL.subD, DL.lenD, DL.intO, DL.tupleD, DL.listD, DL.ite_app, c1, ownH, hixD, hsetD, addD, mulD, modD, intD, divD]
      have ml : ∀ x y : Int, 0 < y → y < 4294967296 → (x % y).natAbs < 2 ^ 64 := fun x y hy hy2 => by
        have h1 := Int.emod_nonneg x (show y ≠ 0 by omega)
        have h2 := Int.emod_lt_of_pos x hy
        omega
      exact ⟨mulOk_small (by decide), mulOk_small2 (by decide), cdiv_small (by decide) (by decide), mulOk_small (ml _ _ (by decide) (by decide)), cdiv_small (by decide) (by decide), mulOk_small (ml _ _ (by decide) (by decide)), cdiv_small (by decide) (by decide), h7,
        hQ _ i g m (kk + 1) _ (Int.emod_nonneg _ (by omega)) (Int.emod_lt_of_pos _ h7) h2 h3 h4 (by omega) h6 rfl⟩
end K02
end
section
set_option Elab.async false
set_option linter.all false
set_option maxRecDepth 100000
set_option maxHeartbeats 4000000
set_option autoImplicit false
namespace K02
open PySem PySem.Spec L2 DL
theorem Tbl.zip {k : Nat} {ns ns' : List Int} {g : Int → Int → Int} (t : Tbl k ns) (t' : Tbl k ns') (h0 : g 0 0 = 0) : Tbl k (List.zipWith g ns ns') := by
  refine ⟨t.m1, t.m7, by simp [t.len, t'.len], ?_⟩
  rw [List.getElem?_zipWith, t.z, t'.z]
  simp [h0]
theorem Tbl.map {k : Nat} {ns : List Int} {g : Int → Int} (t : Tbl k ns) (h0 : g 0 = 0) : Tbl k (ns.map g) := by
  refine ⟨t.m1, t.m7, by simp [t.len], ?_⟩
  rw [List.getElem?_map, t.z]
  simp [h0]
theorem Tbl.other {k : Nat} {ns : List Int} (t : Tbl k ns) : Tbl k (otherSide ns) := by
  have p := Nat.two_pow_pos k
  have tl := t.len
  refine ⟨t.m1, t.m7, by simp [otherSide, t.len], ?_⟩
  unfold otherSide
  rw [List.getElem?_map, List.getElem?_range (by omega)]
  simp
theorem zip_lc {op : D → D → W D} {g : Int → Int → Int} (hop : ∀ i j : Int, op (.int i) (.int j) = DL.ret (.int (g i j))) {ns ns' : List Int} {st : DL.Env} {Q : List D → Prop} {E : DX → Prop} (hst : st.length = 8)
    (q : Q ((List.zipWith g ns ns').map D.int)) :
    lcGo (lcF [6, 7] (tupG 2 (consG (fun (d : D) (ρ : DL.Env) => DL.ret (ρ.set 6 (.d d))) (consG (fun (d : D) (ρ : DL.Env) => DL.ret (ρ.set 7 (.d d))) nilG))) (fun (ρ : DL.Env) => DL.ret true) (fun (ρ : DL.Env) => bnd (rd ρ 6) fun x => bnd (rd ρ 7) fun y => op x y) st) (zipD (ns.map D.int) (ns'.map D.int)) Q E := by
  refine lcGo_map (g := fun d => match d with | .tup [.int i, .int j] => some (.int (g i j)) | _ => none) ?_ ?_
  · intro x hx R hR
    unfold zipD at hx
    obtain ⟨p, hp, rfl⟩ := List.mem_map.mp hx
    rw [List.zip_map] at hp
    obtain ⟨⟨i, j⟩, _, rfl⟩ := List.mem_map.mp hp
    match st, hst with
    | [a, b, c, d, e, f, u, v], _ =>
      simp [DL.endW, DL.bnd, DL.ret, DL.seqW, DL.grd, DL.nox, DL.rd, DL.env0, DL.asB, DL.truD, DL.andT, DL.orT, DL.notT, DL.optW, DL.onI2, DL.cmpI, DL.subD, DL.lenD, DL.intO, DL.tupleD, DL.listD, DL.ite_app, lcF, wipeE, tupG, consG, nilG, hop, Prod.map]
      exact hR
  · have : ∀ (ns ns' : List Int), (zipD (ns.map D.int) (ns'.map D.int)).filterMap (fun d => match d with | .tup [.int i, .int j] => some (D.int (g i j)) | _ => none) = (List.zipWith g ns ns').map D.int := by
      intro ns
      induction ns with
      | nil => intro ns'; cases ns' <;> rfl
      | cons a ns ih =>
        intro ns'
        cases ns' with
        | nil => rfl
        | cons b ns' =>
          have := ih ns'
          simp only [zipD, List.map_cons, List.zip_cons_cons, List.filterMap_cons, List.zipWith_cons_cons] at this ⊢
          rw [this]
    rw [this]
    exact q
theorem mulOk_w {i j : Int} (h : i.natAbs < 2 ^ 400) (h2 : j.natAbs < 2 ^ 400) : DL.MulOk i j := by
  have l : ∀ x : Int, x.natAbs < 2 ^ 400 → x.natAbs.log2 < 400 := fun x hx => by
    by_cases e : x.natAbs = 0
    · rw [e]; decide
    · exact (Nat.log2_lt e).mpr hx
  have := l i h
  have := l j h2
  exact .inr (by unfold CMulW; omega)
theorem told_t {k : Nat} {ns : List Int} {R : D → Prop} {E : DX → Prop} (t : Tbl k ns) (h : R (.bl true)) : s__law_is_told [tb k ns, .int k, .lst (ns.map D.int)] R E := by
  have l : ns.length ≤ 1000 := by
    have : ∀ n < 8, 2 ^ n ≤ 1000 := by decide
    rw [t.len]
    exact this k (by have := t.m7; omega)
  exact ⟨k, k, ns, ns, rfl, rfl, rfl, rfl, l, l, by simpa using h⟩
theorem added_t {k : Nat} {ns ns' : List Int} {R : D → Prop} {E : DX → Prop} (t : Tbl k ns) (t' : Tbl k ns') (h : R (tb k (List.zipWith (· + ·) ns ns'))) : s_added [tb k ns, tb k ns'] R E := ⟨k, ns, ns', rfl, rfl, rfl, rfl, t, t', h⟩
theorem lessened_t {k : Nat} {ns ns' : List Int} {R : D → Prop} {E : DX → Prop} (t : Tbl k ns) (t' : Tbl k ns') (h : R (tb k (List.zipWith (· - ·) ns ns'))) : s_lessened [tb k ns, tb k ns'] R E := ⟨k, ns, ns', rfl, rfl, rfl, rfl, t, t', h⟩
theorem times_t {k : Nat} {ns : List Int} {n : Int} {R : D → Prop} {E : DX → Prop} (t : Tbl k ns) (hm : ∀ x ∈ ns, DL.MulOk x n) (h : R (tb k (ns.map (· * n)))) : s_times [tb k ns, .int n] R E := ⟨k, ns, rfl, rfl, t, hm, h⟩
theorem other_t {k : Nat} {ns : List Int} {R : D → Prop} {E : DX → Prop} (t : Tbl k ns) (h : R (tb k (otherSide ns))) : s_other_side [tb k ns] R E := ⟨k, ns, rfl, rfl, t, h⟩
theorem mk_t {k : Nat} {ns : List Int} {R : D → Prop} {E : DX → Prop} (t : Tbl k ns) (h : R (tb k ns)) : mk_Table [.int k, iT ns] R E := ⟨k, ns, rfl, rfl, t, h⟩
theorem eq_t {k : Nat} {neg : Bool} {ns ns' : List Int} {R : D → Prop} {E : DX → Prop} (e : ns = ns') (h : R (.bl (true != neg))) : eqD eqS neg (tb k ns) (tb k ns') R E := by
  subst e
  refine ⟨rfl, ?_⟩
  refine ⟨k, k, ns, ns, rfl, rfl, rfl, rfl, ?_⟩
  have : (decide (k = k) && decide (ns = ns)) = true := by simp
  rw [this]
  exact h
theorem zip_t {xs ys : List D} {R : List D → Prop} {E : DX → Prop} (h : R (zipD xs ys)) : zipS [.tup xs, .tup ys] R E := h
theorem zw_ext {g g' : Int → Int → Int} : ∀ {a b : List Int}, (∀ x y, g x y = g' x y) → List.zipWith g a b = List.zipWith g' a b := by
  intro a b h
  have : g = g' := by funext x y; exact h x y
  rw [this]
theorem zw_1 : ∀ (a b : List Int), a.length = b.length → List.zipWith (· + ·) (List.zipWith (· - ·) a b) b = a
  | [], [], _ => rfl
  | x :: a, y :: b, h => by
    simp only [List.zipWith_cons_cons]
    rw [zw_1 a b (by simpa using h)]
    congr 1
    omega
  | [], _ :: _, h => by simp at h
  | _ :: _, [], h => by simp at h
theorem zw_2 : ∀ (a b : List Int), List.zipWith (· + ·) a b = List.zipWith (· + ·) b a
  | [], [] => rfl
  | x :: a, y :: b => by
    simp only [List.zipWith_cons_cons]
    rw [zw_2 a b]
    congr 1
    omega
  | [], _ :: _ => rfl
  | _ :: _, [] => rfl
theorem zw_3 : ∀ (a b : List Int), List.zipWith (· - ·) a b = List.zipWith (· + ·) a (b.map (· * -1))
  | [], [] => rfl
  | x :: a, y :: b => by
    simp only [List.zipWith_cons_cons, List.map_cons]
    rw [zw_3 a b]
    congr 1
    omega
  | [], _ :: _ => rfl
  | _ :: _, [] => rfl
theorem zw_4 : ∀ (a b : List Int), a.length = b.length → a.map (· * 0) = List.zipWith (· - ·) b b
  | [], [], _ => rfl
  | x :: a, y :: b, h => by
    simp only [List.zipWith_cons_cons, List.map_cons]
    rw [zw_4 a b (by simpa using h)]
    congr 1
    omega
  | [], _ :: _, h => by simp at h
  | _ :: _, [], h => by simp at h
theorem zw_5 (n : Int) : ∀ (a b : List Int), (List.zipWith (· + ·) a b).map (· * n) = List.zipWith (· + ·) (a.map (· * n)) (b.map (· * n))
  | [], [] => rfl
  | x :: a, y :: b => by
    simp only [List.zipWith_cons_cons, List.map_cons]
    rw [zw_5 n a b, Int.add_mul]
  | [], _ :: _ => rfl
  | _ :: _, [] => rfl
theorem zw_mem {P : Int → Prop} {g : Int → Int → Int} : ∀ {a b : List Int}, (∀ x ∈ a, ∀ y ∈ b, P (g x y)) → ∀ z ∈ List.zipWith g a b, P z
  | [], _, _, z, hz => by simp at hz
  | _ :: _, [], _, z, hz => by simp at hz
  | x :: a, y :: b, h, z, hz => by
    rw [List.zipWith_cons_cons] at hz
    rcases List.mem_cons.mp hz with rfl | hz
    · exact h x List.mem_cons_self y List.mem_cons_self
    · exact zw_mem (fun x hx y hy => h x (List.mem_cons_of_mem _ hx) y (List.mem_cons_of_mem _ hy)) z hz
theorem zw_getD {a b : List Int} (h : a.length = b.length) (i : Nat) : (List.zipWith (· + ·) a b).getD i 0 = a.getD i 0 + b.getD i 0 := by
  rw [List.getD_eq_getElem?_getD, List.getD_eq_getElem?_getD, List.getD_eq_getElem?_getD, List.getElem?_zipWith]
  by_cases c : i < a.length
  · rw [List.getElem?_eq_getElem c, List.getElem?_eq_getElem (by omega)]
    rfl
  · rw [List.getElem?_eq_none (by omega), List.getElem?_eq_none (by omega)]
    rfl
theorem zw_range (f g : Nat → Int) (n : Nat) : List.zipWith (· + ·) ((List.range n).map f) ((List.range n).map g) = (List.range n).map fun i => f i + g i := by
  rw [List.zipWith_map]
  induction List.range n with
  | nil => rfl
  | cons x l ih => rw [List.zipWith_cons_cons, ih, List.map_cons]
theorem zw_other {a b : List Int} (h : a.length = b.length) : otherSide (List.zipWith (· + ·) a b) = List.zipWith (· + ·) (otherSide a) (otherSide b) := by
  unfold otherSide
  have l : (List.zipWith (· + ·) a b).length = a.length := by simp [h]
  rw [l, ← h, zw_range]
  apply List.map_congr_left
  intro i _
  rw [zw_getD h, zw_getD h]
  omega
theorem m__law_is_pair_right {G : Gx} (gs : GS G) (ds : List D) (Q : D → Prop) (E : DX → Prop) (h : s__law_is_pair_right ds Q E) : endW (W__law_is_pair_right G (env0 8 ds)) Q E := by
  match ds, h with
  | [.int m, .tup xs, .tup ys, .int n], h =>
    obtain ⟨k, ns, ns', rfl, rfl, rfl, t, t', b, b', bn, q⟩ := h
    have hl : ns.length ≤ 1000 ∧ ns.length = ns'.length := by
      have : ∀ n < 8, 2 ^ n ≤ 1000 := by decide
      rw [t.len, t'.len]
      exact ⟨this k (by have := t.m7; omega), rfl⟩
    have hz : (zipD (ns.map D.int) (ns'.map D.int)).length ≤ sizeLine := by
      unfold zipD
      rw [List.length_map, List.length_zip, List.length_map, List.length_map, sizeLine_eq]
      omega
    have ta := t.zip t' (g := (· + ·)) rfl
    have tl := t.zip t' (g := (· - ·)) rfl
    have tn := t.map (g := (· * n)) (by simp)
    have tn' := t'.map (g := (· * n)) (by simp)
    have bb : ∀ x ∈ ns, DL.MulOk x n := fun x hx => mulOk_w (by have := b x hx; omega) (by omega)
    have bb' : ∀ x ∈ ns', DL.MulOk x n := fun x hx => mulOk_w (by have := b' x hx; omega) (by omega)
    have ba : ∀ x ∈ List.zipWith (· + ·) ns ns', DL.MulOk x n := zw_mem (P := fun z => DL.MulOk z n) fun x hx y hy => mulOk_w (by have := b x hx; have := b' y hy; omega) (by omega)
    simp [DL.endW, DL.bnd, DL.ret, DL.seqW, DL.grd, DL.nox, DL.rd, DL.env0, DL.asB, DL.truD, DL.andT, DL.orT, DL.notT, DL.optW, DL.onI2, DL.cmpI, DL.subD, DL.lenD, DL.intO, DL.tupleD, DL.listD, DL.ite_app, W__law_is_pair_right, negD]
    refine mk_t t ?_
    refine mk_t t' ?_
    skip
    refine added_t t t' ?_
    refine zip_t ?_
    refine ⟨hz, zip_lc (g := (· + ·)) (fun i j => rfl) rfl ?_⟩
    refine told_t ta ?_
    simp [DL.endW, DL.bnd, DL.ret, DL.seqW, DL.grd, DL.nox, DL.rd, DL.env0, DL.asB, DL.truD, DL.andT, DL.orT, DL.notT, DL.optW, DL.onI2, DL.cmpI, DL.subD, DL.lenD, DL.intO, DL.tupleD, DL.listD, DL.ite_app]
    refine lessened_t t t' ?_
    refine zip_t ?_
    refine ⟨hz, zip_lc (g := (· - ·)) (fun i j => rfl) rfl ?_⟩
    refine told_t tl ?_
    simp [DL.endW, DL.bnd, DL.ret, DL.seqW, DL.grd, DL.nox, DL.rd, DL.env0, DL.asB, DL.truD, DL.andT, DL.orT, DL.notT, DL.optW, DL.onI2, DL.cmpI, DL.subD, DL.lenD, DL.intO, DL.tupleD, DL.listD, DL.ite_app]
    refine times_t t bb ?_
    refine ⟨by rw [List.length_map, sizeLine_eq]; omega, ?_⟩
    refine lcGo_map (g := fun d => match d with | .int i => some (.int (i * n)) | _ => none) ?_ ?_
    · intro x hx R hR
      obtain ⟨y, hy, rfl⟩ := List.mem_map.mp hx
      have mo : DL.MulOk n y := mulOk_w (by omega) (by have := b y hy; omega)
      have hR : R (some (.int (y * n))) := hR
      simp [DL.endW, DL.bnd, DL.ret, DL.seqW, DL.grd, DL.nox, DL.rd, DL.env0, DL.asB, DL.truD, DL.andT, DL.orT, DL.notT, DL.optW, DL.onI2, DL.cmpI, DL.subD, DL.lenD, DL.intO, DL.tupleD, DL.listD, DL.ite_app, lcF, wipeE, mulD]
      refine ⟨mo, ?_⟩
      rw [Int.mul_comm]
      exact hR
    have ef : (ns.map D.int).filterMap (fun d => match d with | .int i => some (D.int (i * n)) | _ => none) = (ns.map (· * n)).map D.int := by
      rw [List.filterMap_map, List.map_map, ← List.filterMap_eq_map]
      rfl
    rw [ef]
    refine told_t tn ?_
    simp [DL.endW, DL.bnd, DL.ret, DL.seqW, DL.grd, DL.nox, DL.rd, DL.env0, DL.asB, DL.truD, DL.andT, DL.orT, DL.notT, DL.optW, DL.onI2, DL.cmpI, DL.subD, DL.lenD, DL.intO, DL.tupleD, DL.listD, DL.ite_app]
    refine lessened_t t t' ?_
    refine added_t tl t' ?_
    refine eq_t (zw_1 ns ns' hl.2) ?_
    simp [DL.endW, DL.bnd, DL.ret, DL.seqW, DL.grd, DL.nox, DL.rd, DL.env0, DL.asB, DL.truD, DL.andT, DL.orT, DL.notT, DL.optW, DL.onI2, DL.cmpI, DL.subD, DL.lenD, DL.intO, DL.tupleD, DL.listD, DL.ite_app]
    refine added_t t t' ?_
    refine added_t t' t ?_
    refine eq_t (zw_2 ns ns') ?_
    simp [DL.endW, DL.bnd, DL.ret, DL.seqW, DL.grd, DL.nox, DL.rd, DL.env0, DL.asB, DL.truD, DL.andT, DL.orT, DL.notT, DL.optW, DL.onI2, DL.cmpI, DL.subD, DL.lenD, DL.intO, DL.tupleD, DL.listD, DL.ite_app]
    refine lessened_t t t' ?_
    refine times_t t' (fun x hx => mulOk_small2 (by decide)) ?_
    refine added_t t (t'.map (g := (· * -1)) (by simp)) ?_
    refine eq_t (zw_3 ns ns') ?_
    simp [DL.endW, DL.bnd, DL.ret, DL.seqW, DL.grd, DL.nox, DL.rd, DL.env0, DL.asB, DL.truD, DL.andT, DL.orT, DL.notT, DL.optW, DL.onI2, DL.cmpI, DL.subD, DL.lenD, DL.intO, DL.tupleD, DL.listD, DL.ite_app]
    refine times_t t (fun x hx => mulOk_small2 (by decide)) ?_
    refine lessened_t t' t' ?_
    refine eq_t (zw_4 ns ns' hl.2) ?_
    simp [DL.endW, DL.bnd, DL.ret, DL.seqW, DL.grd, DL.nox, DL.rd, DL.env0, DL.asB, DL.truD, DL.andT, DL.orT, DL.notT, DL.optW, DL.onI2, DL.cmpI, DL.subD, DL.lenD, DL.intO, DL.tupleD, DL.listD, DL.ite_app]
    refine added_t t t' ?_
    refine times_t ta ba ?_
    refine times_t t bb ?_
    refine times_t t' bb' ?_
    refine added_t tn tn' ?_
    refine eq_t (zw_5 n ns ns') ?_
    simp [DL.endW, DL.bnd, DL.ret, DL.seqW, DL.grd, DL.nox, DL.rd, DL.env0, DL.asB, DL.truD, DL.andT, DL.orT, DL.notT, DL.optW, DL.onI2, DL.cmpI, DL.subD, DL.lenD, DL.intO, DL.tupleD, DL.listD, DL.ite_app]
    refine added_t t t' ?_
    refine other_t ta ?_
    refine other_t t ?_
    refine other_t t' ?_
    refine added_t t.other t'.other ?_
    refine eq_t (zw_other hl.2) ?_
    exact q
end K02
end
section
set_option Elab.async false
set_option linter.all false
set_option maxRecDepth 100000
set_option maxHeartbeats 4000000
set_option autoImplicit false
namespace K02
open PySem PySem.Spec L2 DL
theorem other_other {k : Nat} {ns : List Int} (t : Tbl k ns) : otherSide (otherSide ns) = ns := by
  have p := Nat.two_pow_pos k
  have tl := t.len
  have z : ns.getD 0 0 = 0 := by rw [List.getD_eq_getElem?_getD, t.z]; rfl
  have og : ∀ i, i < ns.length → (otherSide ns).getD i 0 = ns.getD (ns.length - 1) 0 - ns.getD (ns.length - 1 - i) 0 := fun i hi => by
    unfold otherSide
    rw [List.getD_eq_getElem?_getD, List.getElem?_map, List.getElem?_range hi]
    rfl
  have ol : (otherSide ns).length = ns.length := by unfold otherSide; simp
  apply List.ext_getElem?
  intro i
  by_cases hi : i < ns.length
  · show ((List.range (otherSide ns).length).map fun k => (otherSide ns).getD ((otherSide ns).length - 1) 0 - (otherSide ns).getD ((otherSide ns).length - 1 - k) 0)[i]? = _
    rw [ol, List.getElem?_map, List.getElem?_range hi, get_lt hi]
    show some _ = some _
    show some ((otherSide ns).getD (ns.length - 1) 0 - (otherSide ns).getD (ns.length - 1 - i) 0) = _
    rw [og _ (by omega), og _ (by omega), show ns.length - 1 - (ns.length - 1) = 0 by omega, show ns.length - 1 - (ns.length - 1 - i) = i by omega, z]
    congr 1
    omega
  · rw [List.getElem?_eq_none (by unfold otherSide at *; simp at *; omega), List.getElem?_eq_none (by omega)]
theorem perm_sum {a b : List Int} (h : a.Perm b) : a.sum = b.sum := by
  induction h with
  | nil => rfl
  | cons x _ ih => simp only [List.sum_cons, ih]
  | swap x y l => simp only [List.sum_cons]; omega
  | trans _ _ ih1 ih2 => exact ih1.trans ih2
theorem lot_perm : ∀ m < 7, ∀ k < 2 ^ m, (lotOf (2 ^ m - 1)).Perm (lotOf k ++ lotOf (2 ^ m - 1 - k)) := by decide
abbrev ofR (k : Nat) (row : List Int) : List Int := (List.range (2 ^ k)).map (rowSum row)
abbrev ofSz (k : Nat) (sz : List Int) : List Int := (List.range (2 ^ k)).map fun i => sz.getD (lotOf i).length 0
theorem ofRow_T {row : List Int} {k : Nat} (h1 : 1 ≤ k) (h7 : k ≤ 6) : Tbl k (ofR k row) := by
  have p := Nat.two_pow_pos k
  refine ⟨h1, by omega, by simp, ?_⟩
  rw [List.getElem?_map, List.getElem?_range p]
  show some (rowSum row 0) = _
  have : lotOf 0 = [] := by decide
  unfold rowSum
  rw [this]
  rfl
theorem ofSz_T {sz : List Int} {k : Nat} (h1 : 1 ≤ k) (h7 : k ≤ 6) (h0 : sz[0]? = some 0) : Tbl k (ofSz k sz) := by
  have p := Nat.two_pow_pos k
  refine ⟨h1, by omega, by simp, ?_⟩
  rw [List.getElem?_map, List.getElem?_range p]
  show some (sz.getD (lotOf 0).length 0) = _
  have : lotOf 0 = [] := by decide
  rw [this, List.getD_eq_getElem?_getD]
  show some (sz[0]?.getD 0) = _
  rw [h0]
  rfl
theorem other_row {row : List Int} {k : Nat} (h7 : k ≤ 6) : otherSide (ofR k row) = ofR k row := by
  have p := Nat.two_pow_pos k
  have og : ∀ i, i < 2 ^ k → (ofR k row).getD i 0 = rowSum row i := fun i hi => by
    rw [List.getD_eq_getElem?_getD, List.getElem?_map, List.getElem?_range hi]
    rfl
  have ol : (ofR k row).length = 2 ^ k := by simp
  unfold otherSide
  rw [ol]
  apply List.map_congr_left
  intro i hi
  have hi := List.mem_range.mp hi
  rw [og _ (by omega), og _ (by omega)]
  have := perm_sum ((lot_perm k (by omega) i hi).map fun i => row.getD i 0)
  rw [List.map_append, List.sum_append] at this
  unfold rowSum
  omega
theorem of_row_t {row : List Int} {k : Nat} {R : D → Prop} {E : DX → Prop} (hr : row.length = k) (h1 : 1 ≤ k) (h6 : k ≤ 6) (h : R (tb k (ofR k row))) : s_of_row [.tup (row.map D.int)] R E := by
  subst hr
  exact ⟨row, rfl, h1, by omega, h⟩
theorem of_sizes_t {sz : List Int} {k : Nat} {R : D → Prop} {E : DX → Prop} (hr : sz.length = k + 1) (h0 : sz[0]? = some 0) (h1 : 1 ≤ k) (h6 : k ≤ 6) (h : R (tb k (ofSz k sz))) : s_of_sizes [.tup (sz.map D.int)] R E := by
  obtain rfl : k = sz.length - 1 := by omega
  exact ⟨sz, rfl, by omega, by omega, h0, h⟩
theorem seq_t {xs : List D} {R : List D → Prop} {E : DX → Prop} (h : R xs) : seqD (.lst xs) R E := h
abbrev lotI (k : Nat) : List Int := (lotOf k).map fun i : Nat => (i : Int)
def rowG (row : List Int) : D → Option D
  | .tup xs => some (.int ((xs.map fun e => match e with | .int i => row.getD i.toNat 0 | _ => 0).sum))
  | _ => none
def szG (sz : List Int) : D → Option D
  | .tup xs => some (.int (sz.getD xs.length 0))
  | _ => none
theorem rowG_eq (row : List Int) (j : Nat) : rowG row (iT (lotI j)) = some (.int (rowSum row j)) := by
  unfold rowG rowSum
  simp only [List.map_map]
  rfl
theorem szG_eq (sz : List Int) (j : Nat) : szG sz (iT (lotI j)) = some (.int (sz.getD (lotOf j).length 0)) := by
  simp [szG]
theorem fm_lots {g : D → Option D} {f : Nat → Int} (h : ∀ j, g (iT (lotI j)) = some (.int (f j))) (l : List Nat) : (l.map fun k => iT (lotI k)).filterMap g = (l.map f).map D.int := by
  induction l with
  | nil => rfl
  | cons a l ih => rw [List.map_cons, List.filterMap_cons_some (h a), ih, List.map_cons, List.map_cons]
theorem rep_one (k : Nat) : (List.replicate k [D.int 1]).flatten = (List.replicate k (1 : Int)).map D.int := by
  induction k with
  | zero => rfl
  | succ k ih => rw [List.replicate_succ, List.flatten_cons, ih, List.replicate_succ, List.map_cons]; rfl
theorem rg_t {n : Nat} {R : List D → Prop} {E : DX → Prop} (h : n ≤ 1000) (q : R (((List.range n).map fun i : Nat => (i : Int)).map D.int)) : rgW (.int (n : Int)) R E := by
  refine ⟨by omega, ?_⟩
  show R (rangeD 0 (n : Int).toNat)
  rw [Int.toNat_natCast, rangeD0]
  rw [List.map_map] at q
  exact q
theorem sizes_ones : ∀ m < 7, ((List.range (2 ^ m)).map fun k => ((List.range (m + 1)).map fun i : Nat => (i : Int)).getD (lotOf k).length 0) = (List.range (2 ^ m)).map (rowSum (List.replicate m 1)) := by decide
theorem pow1040 : powD (.int 10) (.int 40) = DL.ret (.int (10 ^ 40)) := by
  have : CPow 10 40 := ⟨by decide, by decide, by decide⟩
  funext Q E
  show (CPow 10 40 ∧ Q (.int (10 ^ 40))) = Q (.int (10 ^ 40))
  simp [this]
theorem m_law {G : Gx} (gs : GS G) (ds : List D) (Q : D → Prop) (E : DX → Prop) (h : s_law ds Q E) : endW (W_law G (env0 13 ds)) Q E := by
  match ds, h with
  | [.scr ns], h =>
    obtain ⟨hl, q⟩ := h
    have hl : ns.length ≤ 1000 := by omega
    simp [DL.endW, DL.bnd, DL.ret, DL.seqW, DL.grd, DL.nox, DL.rd, DL.env0, DL.asB, DL.truD, DL.andT, DL.orT, DL.notT, DL.optW, DL.onI2, DL.cmpI, DL.subD, DL.lenD, DL.intO, DL.tupleD, DL.listD, DL.ite_app, W_law, s__law_hand, hl]
    refine rng_nat (n := 4) (by omega) ?_
    refine forGo_nx (I := fun _ ρ => ∃ (x2 x3 x4 x5 x6 x7 x8 x9 x10 x11 x12 : Sl), ρ = [Sl.d (.scr ns), Sl.d .hnd, x2, x3, x4, x5, x6, x7, x8, x9, x10, x11, x12]) 0 ⟨_, _, _, _, _, _, _, _, _, _, _, rfl⟩ (fun i x ρ _ ⟨x2, x3, x4, x5, x6, x7, x8, x9, x10, x11, x12, hρ⟩ R hR => ?_) (fun ρ ⟨x2, x3, x4, x5, x6, x7, x8, x9, x10, x11, x12, hρ⟩ => ?_)
    rotate_left 1
    · subst hρ
      simp [DL.endW, DL.bnd, DL.ret, DL.seqW, DL.grd, DL.nox, DL.rd, DL.env0, DL.asB, DL.truD, DL.andT, DL.orT, DL.notT, DL.optW, DL.onI2, DL.cmpI, DL.subD, DL.lenD, DL.intO, DL.tupleD, DL.listD, DL.ite_app]
      exact q
    subst hρ
    simp [DL.endW, DL.bnd, DL.ret, DL.seqW, DL.grd, DL.nox, DL.rd, DL.env0, DL.asB, DL.truD, DL.andT, DL.orT, DL.notT, DL.optW, DL.onI2, DL.cmpI, DL.subD, DL.lenD, DL.intO, DL.tupleD, DL.listD, DL.ite_app]
    refine ⟨by decide, by decide, fun y hy => ?_⟩
    obtain ⟨b, rfl, hb0, hb6⟩ : ∃ b : Int, y = .int b ∧ 0 < b ∧ b ≤ 6 := by
      simp only [List.mem_cons, List.not_mem_nil, or_false] at hy
      rcases hy with rfl | rfl | rfl
      · exact ⟨_, rfl, by decide, by decide⟩
      · exact ⟨_, rfl, by decide, by decide⟩
      · exact ⟨_, rfl, by decide, by decide⟩
    refine draw_all hb0 (by omega) fun r r0 r1 => ?_
    simp [DL.endW, DL.bnd, DL.ret, DL.seqW, DL.grd, DL.nox, DL.rd, DL.env0, DL.asB, DL.truD, DL.andT, DL.orT, DL.notT, DL.optW, DL.onI2, DL.cmpI, DL.subD, DL.lenD, DL.intO, DL.tupleD, DL.listD, DL.ite_app, addD]
    obtain ⟨k, hk⟩ : ∃ k : Nat, 1 + r = (k : Int) := ⟨(1 + r).toNat, by omega⟩
    have k1 : 1 ≤ k := by omega
    have k6 : k ≤ 6 := by omega
    simp only [hk]
    clear hk
    refine ⟨k, rfl, k1, k6, fun n1 t1 b1 => ?_⟩
    refine ⟨k, rfl, k1, k6, fun n2 t2 b2 => ?_⟩
    refine ⟨k, rfl, k6, ?_⟩
    simp [DL.endW, DL.bnd, DL.ret, DL.seqW, DL.grd, DL.nox, DL.rd, DL.env0, DL.asB, DL.truD, DL.andT, DL.orT, DL.notT, DL.optW, DL.onI2, DL.cmpI, DL.subD, DL.lenD, DL.intO, DL.tupleD, DL.listD, DL.ite_app, negD]
    refine draw_all (by decide) (by decide) fun r2 r20 r21 => ?_
    simp [DL.endW, DL.bnd, DL.ret, DL.seqW, DL.grd, DL.nox, DL.rd, DL.env0, DL.asB, DL.truD, DL.andT, DL.orT, DL.notT, DL.optW, DL.onI2, DL.cmpI, DL.subD, DL.lenD, DL.intO, DL.tupleD, DL.listD, DL.ite_app, pow1040]
    refine ⟨by simp, by simp, fun y hy => ?_⟩
    obtain ⟨n, rfl, hn⟩ : ∃ n : Int, y = .int n ∧ n.natAbs < 2 ^ 200 := by
      simp only [List.mem_cons, List.not_mem_nil, or_false] at hy
      rcases hy with rfl | rfl | rfl | rfl | rfl | rfl
      · exact ⟨_, rfl, by decide⟩
      · exact ⟨_, rfl, by decide⟩
      · exact ⟨_, rfl, by decide⟩
      · exact ⟨_, rfl, by decide⟩
      · exact ⟨_, rfl, by omega⟩
      · exact ⟨_, rfl, by decide⟩
    refine ⟨k, n1, n2, rfl, rfl, rfl, t1, t2, b1, b2, hn, ?_⟩
    simp [DL.endW, DL.bnd, DL.ret, DL.seqW, DL.grd, DL.nox, DL.rd, DL.env0, DL.asB, DL.truD, DL.andT, DL.orT, DL.notT, DL.optW, DL.onI2, DL.cmpI, DL.subD, DL.lenD, DL.intO, DL.tupleD, DL.listD, DL.ite_app]
    refine mk_t t1 ?_
    refine other_t t1 ?_
    refine ⟨k, n1, rfl, rfl, t1, ?_⟩
    refine told_t t1.other ?_
    simp [DL.endW, DL.bnd, DL.ret, DL.seqW, DL.grd, DL.nox, DL.rd, DL.env0, DL.asB, DL.truD, DL.andT, DL.orT, DL.notT, DL.optW, DL.onI2, DL.cmpI, DL.subD, DL.lenD, DL.intO, DL.tupleD, DL.listD, DL.ite_app]
    refine other_t t1 ?_
    refine other_t t1.other ?_
    refine eq_t (other_other t1) ?_
    simp [DL.endW, DL.bnd, DL.ret, DL.seqW, DL.grd, DL.nox, DL.rd, DL.env0, DL.asB, DL.truD, DL.andT, DL.orT, DL.notT, DL.optW, DL.onI2, DL.cmpI, DL.subD, DL.lenD, DL.intO, DL.tupleD, DL.listD, DL.ite_app]
    have p := Nat.two_pow_pos k
    have p64 : 2 ^ k ≤ 64 := by
      have : ∀ n < 7, 2 ^ n ≤ 64 := by decide
      exact this k (by omega)
    refine rng_nat (by omega) ⟨by simp [sizeLine_eq]; omega, ?_⟩
    refine lcGo_rel (P := fun _ o => ∃ r : Int, o = some (.int r) ∧ True) (fun x hx R hR => ?_) fun os hl hP => ?_
    · simp [DL.endW, DL.bnd, DL.ret, DL.seqW, DL.grd, DL.nox, DL.rd, DL.env0, DL.asB, DL.truD, DL.andT, DL.orT, DL.notT, DL.optW, DL.onI2, DL.cmpI, DL.subD, DL.lenD, DL.intO, DL.tupleD, DL.listD, DL.ite_app, lcF, wipeE]
      refine draw_all (by decide) (by decide) fun r r0 r1 => ?_
      simp [DL.endW, DL.bnd, DL.ret, DL.seqW, DL.grd, DL.nox, DL.rd, DL.env0, DL.asB, DL.truD, DL.andT, DL.orT, DL.notT, DL.optW, DL.onI2, DL.cmpI, DL.subD, DL.lenD, DL.intO, DL.tupleD, DL.listD, DL.ite_app]
      exact hR _ ⟨_, rfl, trivial⟩
    rw [List.length_map, List.length_range] at hl
    obtain ⟨row, e, hr, _⟩ := os_ints (B := fun _ => True) (os := os) fun i o ho => by
      have hi := (List.getElem?_eq_some_iff.mp ho).1
      exact hP i _ o (List.getElem?_eq_getElem (by rw [List.length_map, List.length_range]; omega)) ho
    rw [e]
    rw [hl] at hr
    clear hP hl e os
    refine of_row_t hr k1 k6 ?_
    refine seq_t (xs := (List.range (2 ^ k)).map fun k => iT (lotI k)) ?_
    refine ⟨by rw [List.length_map, List.length_range, sizeLine_eq]; omega, ?_⟩
    refine lcGo_map (g := rowG row) (fun x hx R hR => ?_) ?_
    · obtain ⟨j, hj, rfl⟩ := List.mem_map.mp hx
      have hj := List.mem_range.mp hj
      have hll := lotOf_len hj (by omega)
      rw [rowG_eq] at hR
      have eL : (List.map D.int (lotI j)) = (lotOf j).map fun i : Nat => D.int (i : Int) := by rw [List.map_map]; rfl
      simp [DL.endW, DL.bnd, DL.ret, DL.seqW, DL.grd, DL.nox, DL.rd, DL.env0, DL.asB, DL.truD, DL.andT, DL.orT, DL.notT, DL.optW, DL.onI2, DL.cmpI, DL.subD, DL.lenD, DL.intO, DL.tupleD, DL.listD, DL.ite_app, lcF, wipeE, seqD]
      refine ⟨by rw [sizeLine_eq]; omega, lcGo_map (g := fun d => match d with | .int j => some (.int (row.getD j.toNat 0)) | _ => none) ?_ ?_⟩
      · intro x hx R hR
        obtain ⟨i, hi, rfl⟩ := List.mem_map.mp hx
        have hlt := lotOf_lt hj (by omega) i hi
        have e1 : ixD (.tup (row.map D.int)) (.int (i : Int)) = DL.ret (.int (row.getD i 0)) := ixT_int (by omega) (by rw [Int.toNat_natCast]; exact get_lt (by omega))
        simp [DL.endW, DL.bnd, DL.ret, DL.seqW, DL.grd, DL.nox, DL.rd, DL.env0, DL.asB, DL.truD, DL.andT, DL.orT, DL.notT, DL.optW, DL.onI2, DL.cmpI, DL.subD, DL.lenD, DL.intO, DL.tupleD, DL.listD, DL.ite_app, lcF, wipeE, e1]
        exact hR
      · have e2 : ∀ l : List Nat, (List.map (D.int ∘ fun i : Nat => (i : Int)) l).filterMap (fun d => match d with | .int j => some (.int (row.getD j.toNat 0)) | _ => none) = (l.map fun j => row.getD j 0).map D.int := fun l => by
          rw [List.filterMap_map, List.map_map, ← List.filterMap_eq_map]
          rfl
        rw [e2, sum_lst]
        exact hR
    rw [fm_lots (rowG_eq row)]
    refine told_t (ofRow_T k1 k6) ?_
    simp [DL.endW, DL.bnd, DL.ret, DL.seqW, DL.grd, DL.nox, DL.rd, DL.env0, DL.asB, DL.truD, DL.andT, DL.orT, DL.notT, DL.optW, DL.onI2, DL.cmpI, DL.subD, DL.lenD, DL.intO, DL.tupleD, DL.listD, DL.ite_app]
    refine of_row_t hr k1 k6 ?_
    refine other_t (ofRow_T k1 k6) ?_
    refine of_row_t hr k1 k6 ?_
    refine eq_t (other_row k6) ?_
    simp [DL.endW, DL.bnd, DL.ret, DL.seqW, DL.grd, DL.nox, DL.rd, DL.env0, DL.asB, DL.truD, DL.andT, DL.orT, DL.notT, DL.optW, DL.onI2, DL.cmpI, DL.subD, DL.lenD, DL.intO, DL.tupleD, DL.listD, DL.ite_app]
    refine rng_nat (by omega) ⟨by simp [sizeLine_eq]; omega, ?_⟩
    refine lcGo_rel (P := fun _ o => ∃ r : Int, o = some (.int r) ∧ True) (fun x hx R hR => ?_) fun os hl hP => ?_
    · simp [DL.endW, DL.bnd, DL.ret, DL.seqW, DL.grd, DL.nox, DL.rd, DL.env0, DL.asB, DL.truD, DL.andT, DL.orT, DL.notT, DL.optW, DL.onI2, DL.cmpI, DL.subD, DL.lenD, DL.intO, DL.tupleD, DL.listD, DL.ite_app, lcF, wipeE]
      refine draw_all (by decide) (by decide) fun r r0 r1 => ?_
      simp [DL.endW, DL.bnd, DL.ret, DL.seqW, DL.grd, DL.nox, DL.rd, DL.env0, DL.asB, DL.truD, DL.andT, DL.orT, DL.notT, DL.optW, DL.onI2, DL.cmpI, DL.subD, DL.lenD, DL.intO, DL.tupleD, DL.listD, DL.ite_app]
      exact hR _ ⟨_, rfl, trivial⟩
    rw [List.length_map, List.length_range] at hl
    obtain ⟨rs, e, hrs, _⟩ := os_ints (B := fun _ => True) (os := os) fun i o ho => by
      have hi := (List.getElem?_eq_some_iff.mp ho).1
      exact hP i _ o (List.getElem?_eq_getElem (by rw [List.length_map, List.length_range]; omega)) ho
    rw [e]
    rw [hl] at hrs
    clear hP hl e os
    obtain ⟨sz, hsz, hzl, hz0⟩ : ∃ sz : List Int, D.int 0 :: rs.map D.int = sz.map D.int ∧ sz.length = k + 1 ∧ sz[0]? = some 0 := ⟨0 :: rs, rfl, by simp [hrs], rfl⟩
    refine ⟨by rw [List.length_map, sizeLine_eq]; omega, ?_⟩
    rw [hsz]
    refine of_sizes_t hzl hz0 k1 k6 ?_
    refine seq_t (xs := (List.range (2 ^ k)).map fun k => iT (lotI k)) ?_
    refine ⟨by rw [List.length_map, List.length_range, sizeLine_eq]; omega, ?_⟩
    refine lcGo_map (g := szG sz) (fun x hx R hR => ?_) ?_
    · obtain ⟨j, hj, rfl⟩ := List.mem_map.mp hx
      have hj := List.mem_range.mp hj
      have hll := lotOf_len hj (by omega)
      rw [szG_eq] at hR
      have e1 : ixD (.tup (sz.map D.int)) (.int ((lotOf j).length : Int)) = DL.ret (.int (sz.getD (lotOf j).length 0)) := ixT_int (by omega) (by rw [Int.toNat_natCast]; exact get_lt (by omega))
      simp [DL.endW, DL.bnd, DL.ret, DL.seqW, DL.grd, DL.nox, DL.rd, DL.env0, DL.asB, DL.truD, DL.andT, DL.orT, DL.notT, DL.optW, DL.onI2, DL.cmpI, DL.subD, DL.lenD, DL.intO, DL.tupleD, DL.listD, DL.ite_app, lcF, wipeE, e1]
      first | exact hR | exact ⟨by omega, hR⟩ | exact ⟨by rw [sizeLine_eq]; omega, hR⟩
    rw [fm_lots (szG_eq sz)]
    refine told_t (ofSz_T k1 k6 hz0) ?_
    simp [DL.endW, DL.bnd, DL.ret, DL.seqW, DL.grd, DL.nox, DL.rd, DL.env0, DL.asB, DL.truD, DL.andT, DL.orT, DL.notT, DL.optW, DL.onI2, DL.cmpI, DL.subD, DL.lenD, DL.intO, DL.tupleD, DL.listD, DL.ite_app]
    refine rg_t (n := k + 1) (by omega) ?_
    refine of_sizes_t (by simp) (by rw [List.getElem?_map, List.getElem?_range (by omega)]; rfl) k1 k6 ?_
    refine ⟨⟨by omega, by omega, by simp⟩, ?_⟩
    rw [Int.toNat_natCast, rep_one]
    simp only [DL.ret]
    refine of_row_t List.length_replicate k1 k6 ?_
    refine eq_t (sizes_ones k (by omega)) ?_
    simp [DL.endW, DL.bnd, DL.ret, DL.seqW, DL.grd, DL.nox, DL.rd, DL.env0, DL.asB, DL.truD, DL.andT, DL.orT, DL.notT, DL.optW, DL.onI2, DL.cmpI, DL.subD, DL.lenD, DL.intO, DL.tupleD, DL.listD, DL.ite_app]
    exact hR _ ⟨_, _, _, _, _, _, _, _, _, _, _, rfl⟩
end K02
end
section
set_option Elab.async false
set_option linter.all false
set_option maxRecDepth 100000
set_option maxHeartbeats 4000000
set_option autoImplicit false
namespace K02
open PySem PySem.Spec L2 DL PyProof.Rows
def top (i : Nat) : Stmt := PySem.Challenge.pw_bringsless_k02_whole_tables_summed.main.body.getD i (.Pass ⟨0, 0, 0, 0⟩)
def mth (i j : Nat) : Stmt := (clsBody (top i)).getD j (.Pass ⟨0, 0, 0, 0⟩)

abbrev xl0 : Expr := (xArg 1 (xRet (xAt 1 (defBody (top 21)))))
abbrev lam0 : LF := ⟨"added.<locals>.<lambda>", lamA xl0, lamB xl0, lamS xl0, ["mask"], ["one", "other"]⟩
abbrev xl1 : Expr := (xArg 1 (xRet (xAt 1 (defBody (top 22)))))
abbrev lam1 : LF := ⟨"lessened.<locals>.<lambda>", lamA xl1, lamB xl1, lamS xl1, ["mask"], ["one", "other"]⟩
abbrev xl2 : Expr := (xArg 1 (xRet (xAt 2 (defBody (top 23)))))
abbrev lam2 : LF := ⟨"times.<locals>.<lambda>", lamA xl2, lamB xl2, lamS xl2, ["mask"], ["number", "table"]⟩
abbrev xl3 : Expr := (xArg 1 (xRet (xAt 1 (defBody (top 26)))))
abbrev lam3 : LF := ⟨"of_row.<locals>.<lambda>", lamA xl3, lamB xl3, lamS xl3, ["mask"], ["row"]⟩
abbrev xl4 : Expr := (xArg 1 (xRet (xAt 2 (defBody (top 27)))))
abbrev lam4 : LF := ⟨"of_sizes.<locals>.<lambda>", lamA xl4, lamB xl4, lamS xl4, ["mask"], ["sizes"]⟩
abbrev xl5 : Expr := (xArg 1 (xRet (xAt 2 (defBody (top 28)))))
abbrev lam5 : LF := ⟨"other_side.<locals>.<lambda>", lamA xl5, lamB xl5, lamS xl5, ["mask"], ["table", "whole"]⟩
def lams : Nat → LF
  | 0 => lam0
  | 1 => lam1
  | 2 => lam2
  | 3 => lam3
  | 4 => lam4
  | 5 => lam5
  | _ => ⟨"", lamA xdef, xdef, lamS xdef, [], []⟩
def nmAll (l c : Nat) : Str := nmOf [((69, 27), "added.<locals>.<lambda>"), ((72, 27), "lessened.<locals>.<lambda>"), ((77, 29), "times.<locals>.<lambda>"), ((87, 27), "of_row.<locals>.<lambda>"), ((93, 33), "of_sizes.<locals>.<lambda>"), ((97, 29), "other_side.<locals>.<lambda>")] l c
def tfs : List He.Defn := [("added", none), ("lessened", none), ("of_row", none), ("of_sizes", none), ("other_side", none), ("times", none)]
def clsN : Nat → Str
  | 0 => "Table"
  | _ => ""
abbrev G (K : PySem.W.Frag) : Gx := ⟨K, fun c => He.ga K (clsN c), flds, fun _ => 0, fun _ => none, lams, cloW, tfs.map fun p => ((He.cT K p).2, nmAll)⟩
theorem T_nm {K : PySem.W.Frag} {P : Addr} : ∀ p ∈ (G K).T, p.1 = P → p.2 = nmAll := fun p hp _ => by
  obtain ⟨q, _, e⟩ := List.mem_map.mp hp
  rw [← e]
theorem T_mem_added {K : PySem.W.Frag} : ((He.cT K ("added", none)).2, nmAll) ∈ (G K).T := List.mem_map.mpr ⟨("added", none), by decide, rfl⟩
theorem T_mem_lessened {K : PySem.W.Frag} : ((He.cT K ("lessened", none)).2, nmAll) ∈ (G K).T := List.mem_map.mpr ⟨("lessened", none), by decide, rfl⟩
theorem T_mem_of_row {K : PySem.W.Frag} : ((He.cT K ("of_row", none)).2, nmAll) ∈ (G K).T := List.mem_map.mpr ⟨("of_row", none), by decide, rfl⟩
theorem T_mem_of_sizes {K : PySem.W.Frag} : ((He.cT K ("of_sizes", none)).2, nmAll) ∈ (G K).T := List.mem_map.mpr ⟨("of_sizes", none), by decide, rfl⟩
theorem T_mem_other_side {K : PySem.W.Frag} : ((He.cT K ("other_side", none)).2, nmAll) ∈ (G K).T := List.mem_map.mpr ⟨("other_side", none), by decide, rfl⟩
theorem T_mem_times {K : PySem.W.Frag} : ((He.cT K ("times", none)).2, nmAll) ∈ (G K).T := List.mem_map.mpr ⟨("times", none), by decide, rfl⟩
theorem gs {K : PySem.W.Frag} : GS (G K) := ⟨rfl, rfl, fun j hj => match j, hj with | 0, _ => rfl | 1, _ => rfl | 2, _ => rfl | 3, _ => rfl | 4, _ => rfl | 5, _ => rfl | _ + 6, h => absurd h (by omega)⟩
structure Md (K : PySem.W.Frag) (mg : Str → Option Value) (base : Heap) : Prop where
  gok : GOk (G K)
  b_abs : mg "abs" = none
  b_all : mg "all" = none
  b_any : mg "any" = none
  b_bool : mg "bool" = none
  b_enumerate : mg "enumerate" = none
  b_int : mg "int" = none
  b_isinstance : mg "isinstance" = none
  b_len : mg "len" = none
  b_list : mg "list" = none
  b_range : mg "range" = none
  b_str : mg "str" = none
  b_sum : mg "sum" = none
  b_tuple : mg "tuple" = none
  b_zip : mg "zip" = none
  g_POWERS : mg "POWERS" = some (.ref (He.ga K "POWERS"))
  g_Table : mg "Table" = some (.ref (He.ga K "Table"))
  g__law_any : mg "_law_any" = some (.ref (He.ga K "_law_any"))
  g__law_draw : mg "_law_draw" = some (.ref (He.ga K "_law_draw"))
  g__law_drawn : mg "_law_drawn" = some (.ref (He.ga K "_law_drawn"))
  g__law_hand : mg "_law_hand" = some (.ref (He.ga K "_law_hand"))
  g__law_is_pair_right : mg "_law_is_pair_right" = some (.ref (He.ga K "_law_is_pair_right"))
  g__law_is_told : mg "_law_is_told" = some (.ref (He.ga K "_law_is_told"))
  g__law_lots : mg "_law_lots" = some (.ref (He.ga K "_law_lots"))
  g__law_other_side : mg "_law_other_side" = some (.ref (He.ga K "_law_other_side"))
  g__law_same : mg "_law_same" = some (.ref (He.ga K "_law_same"))
  g_added : mg "added" = some (.ref (He.ga K "added"))
  g_built : mg "built" = some (.ref (He.ga K "built"))
  g_check_table : mg "check_table" = some (.ref (He.ga K "check_table"))
  g_check_tables : mg "check_tables" = some (.ref (He.ga K "check_tables"))
  g_is_between : mg "is_between" = some (.ref (He.ga K "is_between"))
  g_is_integer : mg "is_integer" = some (.ref (He.ga K "is_integer"))
  g_is_row : mg "is_row" = some (.ref (He.ga K "is_row"))
  g_law : mg "law" = some (.ref (He.ga K "law"))
  g_lessened : mg "lessened" = some (.ref (He.ga K "lessened"))
  g_lot_of : mg "lot_of" = some (.ref (He.ga K "lot_of"))
  g_of_row : mg "of_row" = some (.ref (He.ga K "of_row"))
  g_of_sizes : mg "of_sizes" = some (.ref (He.ga K "of_sizes"))
  g_other_side : mg "other_side" = some (.ref (He.ga K "other_side"))
  g_row_sum : mg "row_sum" = some (.ref (He.ga K "row_sum"))
  g_times : mg "times" = some (.ref (He.ga K "times"))
  c_MOST_THINGS : ∃ t, mg "MOST_THINGS" = some (.int 7 t)
  d_POWERS : ∀ H0, Den (G K) H0 c_POWERS (.ref (He.ga K "POWERS"))
  F_is_integer : ∃ fd, FunD K "is_integer" "is_integer" (defArgs (top 12)) (defBody (top 12)) (defScope (top 12)) [] [] (He.fAd K ("is_integer", none)) fd
  F_is_between : ∃ fd, FunD K "is_between" "is_between" (defArgs (top 13)) (defBody (top 13)) (defScope (top 13)) [] [] (He.fAd K ("is_between", none)) fd
  F_lot_of : ∃ fd, FunD K "lot_of" "lot_of" (defArgs (top 16)) (defBody (top 16)) (defScope (top 16)) [] [] (He.fAd K ("lot_of", none)) fd
  F_Table_init : ∃ fd, FunD K "__init__" "Table.__init__" (defArgs (mth 17 0)) (defBody (mth 17 0)) (defScope (mth 17 0)) [] [] (He.fAd K ("Table", some "__init__")) fd
  F_Table_eq : ∃ fd, FunD K "__eq__" "Table.__eq__" (defArgs (mth 17 1)) (defBody (mth 17 1)) (defScope (mth 17 1)) [] [] (He.fAd K ("Table", some "__eq__")) fd
  m_Table_eq : Meth K (He.ga K "Table") "__eq__" (He.fAd K ("Table", some "__eq__"))
  F_check_table : ∃ fd, FunD K "check_table" "check_table" (defArgs (top 18)) (defBody (top 18)) (defScope (top 18)) [] [] (He.fAd K ("check_table", none)) fd
  F_check_tables : ∃ fd, FunD K "check_tables" "check_tables" (defArgs (top 19)) (defBody (top 19)) (defScope (top 19)) [] [] (He.fAd K ("check_tables", none)) fd
  F_built : ∃ fd, FunD K "built" "built" (defArgs (top 20)) (defBody (top 20)) (defScope (top 20)) [] [] (He.fAd K ("built", none)) fd
  F_added : ∃ fd, FunD K "added" "added" (defArgs (top 21)) (defBody (top 21)) (defScope (top 21)) [] [] (He.fAd K ("added", none)) fd
  F_lessened : ∃ fd, FunD K "lessened" "lessened" (defArgs (top 22)) (defBody (top 22)) (defScope (top 22)) [] [] (He.fAd K ("lessened", none)) fd
  F_times : ∃ fd, FunD K "times" "times" (defArgs (top 23)) (defBody (top 23)) (defScope (top 23)) [] [] (He.fAd K ("times", none)) fd
  F_is_row : ∃ fd, FunD K "is_row" "is_row" (defArgs (top 24)) (defBody (top 24)) (defScope (top 24)) [] [] (He.fAd K ("is_row", none)) fd
  F_row_sum : ∃ fd, FunD K "row_sum" "row_sum" (defArgs (top 25)) (defBody (top 25)) (defScope (top 25)) [] [] (He.fAd K ("row_sum", none)) fd
  F_of_row : ∃ fd, FunD K "of_row" "of_row" (defArgs (top 26)) (defBody (top 26)) (defScope (top 26)) [] [] (He.fAd K ("of_row", none)) fd
  F_of_sizes : ∃ fd, FunD K "of_sizes" "of_sizes" (defArgs (top 27)) (defBody (top 27)) (defScope (top 27)) [] [] (He.fAd K ("of_sizes", none)) fd
  F_other_side : ∃ fd, FunD K "other_side" "other_side" (defArgs (top 28)) (defBody (top 28)) (defScope (top 28)) [] [] (He.fAd K ("other_side", none)) fd
  F__law_hand : ∃ fd, FunD K "_law_hand" "_law_hand" (defArgs (top 30)) (defBody (top 30)) (defScope (top 30)) [] [] (He.fAd K ("_law_hand", none)) fd
  F__law_draw : ∃ fd, FunD K "_law_draw" "_law_draw" (defArgs (top 31)) (defBody (top 31)) (defScope (top 31)) [] [] (He.fAd K ("_law_draw", none)) fd
  F__law_any : ∃ fd, FunD K "_law_any" "_law_any" (defArgs (top 32)) (defBody (top 32)) (defScope (top 32)) [] [] (He.fAd K ("_law_any", none)) fd
  F__law_same : ∃ fd, FunD K "_law_same" "_law_same" (defArgs (top 33)) (defBody (top 33)) (defScope (top 33)) [] [] (He.fAd K ("_law_same", none)) fd
  F__law_lots : ∃ fd, FunD K "_law_lots" "_law_lots" (defArgs (top 34)) (defBody (top 34)) (defScope (top 34)) [] [] (He.fAd K ("_law_lots", none)) fd
  F__law_drawn : ∃ fd, FunD K "_law_drawn" "_law_drawn" (defArgs (top 35)) (defBody (top 35)) (defScope (top 35)) [] [] (He.fAd K ("_law_drawn", none)) fd
  F__law_is_told : ∃ fd, FunD K "_law_is_told" "_law_is_told" (defArgs (top 36)) (defBody (top 36)) (defScope (top 36)) [] [] (He.fAd K ("_law_is_told", none)) fd
  F__law_other_side : ∃ fd, FunD K "_law_other_side" "_law_other_side" (defArgs (top 37)) (defBody (top 37)) (defScope (top 37)) [] [] (He.fAd K ("_law_other_side", none)) fd
  F__law_is_pair_right : ∃ fd, FunD K "_law_is_pair_right" "_law_is_pair_right" (defArgs (top 38)) (defBody (top 38)) (defScope (top 38)) [] [] (He.fAd K ("_law_is_pair_right", none)) fd
  F_law : ∃ fd, FunD K "law" "law" (defArgs (top 39)) (defBody (top 39)) (defScope (top 39)) [] [] (He.fAd K ("law", none)) fd
  mk_Table : Mk K (He.ga K "Table") (He.fAd K ("Table", some "__init__"))
  t_added : LamX.TabB base mg (He.cT K ("added", none)).1 (He.cT K ("added", none)).2
  t_lessened : LamX.TabB base mg (He.cT K ("lessened", none)).1 (He.cT K ("lessened", none)).2
  t_of_row : LamX.TabB base mg (He.cT K ("of_row", none)).1 (He.cT K ("of_row", none)).2
  t_of_sizes : LamX.TabB base mg (He.cT K ("of_sizes", none)).1 (He.cT K ("of_sizes", none)).2
  t_other_side : LamX.TabB base mg (He.cT K ("other_side", none)).1 (He.cT K ("other_side", none)).2
  t_times : LamX.TabB base mg (He.cT K ("times", none)).1 (He.cT K ("times", none)).2
section
variable {P : Program} {w : World} {K : PySem.W.Frag} {mg : Str → Option Value} {base : Heap}
theorem nd_is_integer : (["thing"] : List Str).Nodup := by decide
theorem sc_is_integer : FnScope ["thing"] ["thing"] (defScope (top 12)) := ⟨rfl, rfl, rfl, by decide +kernel, rfl, by decide +kernel, by decide +kernel⟩
theorem v_is_integer (M : Md K mg base) : FnH P w (G K) mg base "is_integer" 1 2 s_is_integer := by
  obtain ⟨fd, F⟩ := M.F_is_integer
  refine fnH_of (N := ["thing"]) (ps := ["thing"]) (k := 1) F sc_is_integer M.g_is_integer (fun _ _ _ _ _ _ us hl => match us, hl with | [_], _ => rfl) (by decide) fun cdv A outer s0 H E H0 ED hcd hr hp bok => ?_
  exact ⟨_, (dss_one (ds_ret (de_and (de_isi (c := .ty "int") rfl M.gok rfl M.b_isinstance (de_var 0) (.ty rfl M.b_int boot_int (by decide) (by decide))) (de_one (de_not (de_isi (c := .ty "bool") rfl M.gok rfl M.b_isinstance (de_var 0) (.ty rfl M.b_bool boot_bool (by decide) (by decide)))))))), fun ds Q hl h => m_is_integer (gs (K := K)) ds Q ED h⟩
theorem nd_is_between : (["thing", "low", "high"] : List Str).Nodup := by decide
theorem sc_is_between : FnScope ["thing", "low", "high"] ["thing", "low", "high"] (defScope (top 13)) := ⟨rfl, rfl, rfl, by decide +kernel, rfl, by decide +kernel, by decide +kernel⟩
theorem v_is_between (M : Md K mg base) (h_is_integer : FnH P w (G K) mg base "is_integer" 1 2 s_is_integer) : FnH P w (G K) mg base "is_between" 3 3 s_is_between := by
  obtain ⟨fd, F⟩ := M.F_is_between
  refine fnH_of (N := ["thing", "low", "high"]) (ps := ["thing", "low", "high"]) (k := 2) F sc_is_between M.g_is_between (fun _ _ _ _ _ _ us hl => match us, hl with | [_, _, _], _ => rfl) (by decide) fun cdv A outer s0 H E H0 ED hcd hr hp bok => ?_
  exact ⟨_, (dss_one (ds_ret (de_and (de_call (h_is_integer.mono (by decide : 2 ≤ 2)) rfl hr hp bok rfl (da_cons (de_var 0) da_nil)) (de_one (de_chain op_le op_le d_le d_le (de_var 1) (de_var 0) (de_var 2)))))), fun ds Q hl h => m_is_between (gs (K := K)) ds Q ED h⟩
theorem nd_lot_of : (["mask", "at"] : List Str).Nodup := by decide
theorem sc_lot_of : FnScope ["mask", "at"] ["mask"] (defScope (top 16)) := ⟨rfl, rfl, rfl, by decide +kernel, rfl, by decide +kernel, by decide +kernel⟩
theorem v_lot_of (M : Md K mg base) (EQ : EqsH P w (G K) mg base 2 eqS) : FnH P w (G K) mg base "lot_of" 1 4 s_lot_of := by
  obtain ⟨fd, F⟩ := M.F_lot_of
  refine fnH_of (N := ["mask", "at"]) (ps := ["mask"]) (k := 3) F sc_lot_of M.g_lot_of (fun _ _ _ _ _ _ us hl => match us, hl with | [_], _ => rfl) (by decide) fun cdv A outer s0 H E H0 ED hcd hr hp bok => ?_
  exact ⟨_, (dss_one (ds_ret (de_callTy call_tuple_of (d_tuple rfl) rfl M.b_tuple boot_tuple (da_cons (de_new (dn_lc rfl nd_lot_of (di_range1 rfl M.b_range (da_cons (de_glob (d := .int 7) (fun _ => of_int) rfl (Classical.choose_spec M.c_MOST_THINGS) ⟨_, rfl⟩) da_nil)) (blkOk_by (own := [("at", 1)]) (by kernel_rfl)) (fun _ _ _ _ _ => (dg_name 1 nd_lot_of)) (fun _ _ _ _ _ => (dts_one (dt_eq rfl hr (EQ.mono (by decide : 2 ≤ 2)) (nomark _) (de_mod (de_div (de_var 0) (de_ix rfl (de_glob (d := c_POWERS) M.d_POWERS rfl M.g_POWERS rfl) (de_var 1))) de_int) de_int))) (fun _ _ _ _ _ => (de_var 1)))) da_nil)))), fun ds Q hl h => m_lot_of (gs (K := K)) ds Q ED h⟩
theorem nd_Table_init : (["self", "many", "values", "at", "value"] : List Str).Nodup := by decide
theorem sc_Table_init : FnScope ["self", "many", "values", "at", "value"] ["self", "many", "values"] (defScope (mth 17 0)) := ⟨rfl, rfl, rfl, by decide +kernel, rfl, by decide +kernel, by decide +kernel⟩
theorem v_Table_init (M : Md K mg base) (EQ : EqsH P w (G K) mg base 2 eqS) (h_is_between : FnH P w (G K) mg base "is_between" 3 3 s_is_between) (h_is_integer : FnH P w (G K) mg base "is_integer" 1 2 s_is_integer) : MkH P w (G K) mg base "Table" 0 2 4 mk_Table := by
  obtain ⟨fd, F⟩ := M.F_Table_init
  refine mkH_of (N := ["many", "values", "at", "value"]) (ps := ["many", "values"]) (k := 3) (c := 0) F sc_Table_init M.g_Table M.mk_Table (fun _ _ _ _ _ _ us hl => match us, hl with | [_, _, _], _ => rfl) (by decide) fun cdv A outer s0 H E Hm H0 ED hr hp bok => ?_
  exact ⟨_, (dss_cons (ds_if (dt_not (dt_truth rfl (de_call (h_is_between.mono (by decide : 3 ≤ 3)) rfl hr hp bok rfl (da_cons (de_var 1) (da_cons de_int (da_cons (de_glob (d := .int 7) (fun _ => of_int) rfl (Classical.choose_spec M.c_MOST_THINGS) ⟨_, rfl⟩) da_nil)))))) (dss_one ds_stuck) dss_nil) (dss_cons (ds_if (PW.pt (dt_or (dt_not (dt_truth rfl (de_isi (c := .ty "tuple") rfl M.gok rfl M.b_isinstance (de_var 2) (.ty rfl M.b_tuple boot_tuple (by decide) (by decide))))) (dt_or1 (dt_ne rfl hr (EQ.mono (by decide : 2 ≤ 2)) (nomark _) (de_len rfl rfl M.b_len (da_cons (de_var 2) da_nil)) (de_ix rfl (de_glob (d := c_POWERS) M.d_POWERS rfl M.g_POWERS rfl) (de_var 1)))))) (dss_one ds_stuck) dss_nil) (dss_cons (ds_for (passes_of rfl) rfl (di_enum rfl rfl M.b_enumerate (da_cons (de_var 2) da_nil)) (dg_tup rfl rfl (dgs_cons (dg_name 3 nd_Table_init) (dgs_cons (dg_name 4 nd_Table_init) dgs_nil))) (dss_one (ds_if (PW.pt (dt_or (dt_not (dt_truth rfl (de_call (h_is_integer.mono (by decide : 2 ≤ 3)) rfl hr hp bok rfl (da_cons (de_var 4) da_nil)))) (dt_or1 (PW.pt (dt_and (dt_eq rfl hr (EQ.mono (by decide : 2 ≤ 2)) (nomark _) (de_var 3) de_int) (dt_and1 (dt_ne rfl hr (EQ.mono (by decide : 2 ≤ 2)) (nomark _) (de_var 4) de_int))))))) (dss_one ds_stuck) dss_nil))) (dss_cons (ds_fld 0 rfl M.gok (de_var 1)) (dss_one (ds_fld 0 rfl M.gok (de_var 2))))))), fun a ds Q hl h => m_Table_init (gs (K := K)) a ds Q ED h⟩
theorem nd_Table_eq : (["self", "other"] : List Str).Nodup := by decide
theorem sc_Table_eq : FnScope ["self", "other"] ["self", "other"] (defScope (mth 17 1)) := ⟨rfl, rfl, rfl, by decide +kernel, rfl, by decide +kernel, by decide +kernel⟩
theorem v_Table_eq (M : Md K mg base) : MtH P w (G K) mg base 0 "__eq__" 2 2 (fun ds => s_Table_eq ds) := by
  obtain ⟨fd, F⟩ := M.F_Table_eq
  refine ⟨_, fd, ["self", "other"], rfl, M.m_Table_eq.at_, M.m_Table_eq.fn, M.m_Table_eq.kp, F.bindsN (fun _ _ _ _ _ _ us hl => match us, hl with | [_, _], _ => rfl), ?_⟩
  refine fnOk_of (N := ["self", "other"]) (ps := ["self", "other"]) (k := 1) F sc_Table_eq (by decide) fun cdv A outer s0 H E H0 ED hcd hr hp bok => ?_
  exact ⟨_, (dss_cons (ds_if (dt_not (dt_truth rfl (de_isi (c := .own 0) rfl M.gok rfl M.b_isinstance (de_var 1) (.own rfl M.g_Table (by decide))))) (dss_one (ds_ret de_bl)) dss_nil) (dss_one (ds_ret (de_and (de_eq rfl hr EQ0 (nomark _) (de_fld rfl M.gok (de_var 0)) (de_fld rfl M.gok (de_var 1))) (de_one (de_eq rfl hr EQ0 (nomark _) (de_fld rfl M.gok (de_var 0)) (de_fld rfl M.gok (de_var 1)))))))), fun ds Q hl h => m_Table_eq (gs (K := K)) ds Q ED h⟩
theorem nd_check_table : (["thing"] : List Str).Nodup := by decide
theorem sc_check_table : FnScope ["thing"] ["thing"] (defScope (top 18)) := ⟨rfl, rfl, rfl, by decide +kernel, rfl, by decide +kernel, by decide +kernel⟩
theorem v_check_table (M : Md K mg base) : FnH P w (G K) mg base "check_table" 1 2 s_check_table := by
  obtain ⟨fd, F⟩ := M.F_check_table
  refine fnH_of (N := ["thing"]) (ps := ["thing"]) (k := 1) F sc_check_table M.g_check_table (fun _ _ _ _ _ _ us hl => match us, hl with | [_], _ => rfl) (by decide) fun cdv A outer s0 H E H0 ED hcd hr hp bok => ?_
  exact ⟨_, (dss_one (ds_if (dt_not (dt_truth rfl (de_isi (c := .own 0) rfl M.gok rfl M.b_isinstance (de_var 0) (.own rfl M.g_Table (by decide))))) (dss_one ds_stuck) dss_nil)), fun ds Q hl h => m_check_table (gs (K := K)) ds Q ED h⟩
theorem nd_check_tables : (["one", "other"] : List Str).Nodup := by decide
theorem sc_check_tables : FnScope ["one", "other"] ["one", "other"] (defScope (top 19)) := ⟨rfl, rfl, rfl, by decide +kernel, rfl, by decide +kernel, by decide +kernel⟩
theorem v_check_tables (M : Md K mg base) (EQ : EqsH P w (G K) mg base 2 eqS) (h_check_table : FnH P w (G K) mg base "check_table" 1 2 s_check_table) : FnH P w (G K) mg base "check_tables" 2 4 s_check_tables := by
  obtain ⟨fd, F⟩ := M.F_check_tables
  refine fnH_of (N := ["one", "other"]) (ps := ["one", "other"]) (k := 3) F sc_check_tables M.g_check_tables (fun _ _ _ _ _ _ us hl => match us, hl with | [_, _], _ => rfl) (by decide) fun cdv A outer s0 H E H0 ED hcd hr hp bok => ?_
  exact ⟨_, (dss_cons (ds_expr (de_call (h_check_table.mono (by decide : 2 ≤ 3)) rfl hr hp bok rfl (da_cons (de_var 0) da_nil))) (dss_cons (ds_expr (de_call (h_check_table.mono (by decide : 2 ≤ 3)) rfl hr hp bok rfl (da_cons (de_var 1) da_nil))) (dss_one (ds_if (dt_ne rfl hr (EQ.mono (by decide : 2 ≤ 2)) (nomark _) (de_fld rfl M.gok (de_var 0)) (de_fld rfl M.gok (de_var 1))) (dss_one ds_stuck) dss_nil)))), fun ds Q hl h => m_check_tables (gs (K := K)) ds Q ED h⟩
theorem nd_built : (["many", "value_of", "mask"] : List Str).Nodup := by decide
theorem sc_built : FnScope ["many", "value_of", "mask"] ["many", "value_of"] (defScope (top 20)) := ⟨rfl, rfl, rfl, by decide +kernel, rfl, by decide +kernel, by decide +kernel⟩
theorem v_built (M : Md K mg base) (h_Table : MkH P w (G K) mg base "Table" 0 2 4 mk_Table) (CK : CloH P w (G K) mg base 6) : FnH P w (G K) mg base "built" 2 7 s_built := by
  obtain ⟨fd, F⟩ := M.F_built
  refine fnH_of (N := ["many", "value_of", "mask"]) (ps := ["many", "value_of"]) (k := 6) F sc_built M.g_built (fun _ _ _ _ _ _ us hl => match us, hl with | [_, _], _ => rfl) (by decide) fun cdv A outer s0 H E H0 ED hcd hr hp bok => ?_
  exact ⟨_, (dss_one (ds_ret (de_make (h_Table.mono (by decide : 4 ≤ 5)) rfl hr hp bok rfl (da_cons (de_var 0) (da_cons (de_callTy call_tuple_of (d_tuple rfl) rfl M.b_tuple boot_tuple (da_cons (de_new (dn_lc rfl nd_built (di_range1 rfl M.b_range (da_cons (de_ix rfl (de_glob (d := c_POWERS) M.d_POWERS rfl M.g_POWERS rfl) (de_var 0)) da_nil)) (blkOk_by (own := [("mask", 2)]) (by kernel_rfl)) (fun _ _ _ _ _ => (dg_name 2 nd_built)) (fun _ _ _ _ _ => dts_nil) (fun _ _ _ _ _ => (de_callC 1 (CK.mono (by decide : 6 ≤ 6)) rfl hr (da_cons (de_var 2) da_nil))))) da_nil)) da_nil))))), fun ds Q hl h => m_built (gs (K := K)) ds Q ED h⟩
theorem nd_added : (["one", "other"] : List Str).Nodup := by decide
theorem sc_added : FnScope ["one", "other"] ["one", "other"] (defScope (top 21)) := ⟨rfl, rfl, rfl, by decide +kernel, rfl, by decide +kernel, by decide +kernel⟩
theorem v_added (M : Md K mg base) (h_built : FnH P w (G K) mg base "built" 2 7 s_built) (h_check_tables : FnH P w (G K) mg base "check_tables" 2 4 s_check_tables) : FnH P w (G K) mg base "added" 2 8 s_added := by
  obtain ⟨fd, F⟩ := M.F_added
  refine fnH_of (N := ["one", "other"]) (ps := ["one", "other"]) (k := 7) F sc_added M.g_added (fun _ _ _ _ _ _ us hl => match us, hl with | [_, _], _ => rfl) (by decide) fun cdv A outer s0 H E H0 ED hcd hr hp bok => ?_
  have TB := M.t_added
  have hc := (code_of F).symm.trans hcd |>.symm
  exact ⟨_, (dss_cons (ds_expr (de_call (h_check_tables.mono (by decide : 4 ≤ 7)) rfl hr hp bok rfl (da_cons (de_var 0) (da_cons (de_var 1) da_nil)))) (dss_one (ds_ret (de_callL (js := [0, 1]) (L := lam0) (j := 0) (h_built.mono (by decide : 7 ≤ 7)) rfl hr rfl rfl rfl rfl (NdefX.ndef_free (fr := lam0.fr) (by kernel_rfl)) (by decide +kernel) (by decide +kernel) (by kernel_rfl) (dal_cons (de_fld rfl M.gok (de_var 0)) (dal_lam (L := lam0) (nm := nmAll) TB hc (T_mem_added) (by kernel_rfl) (by kernel_rfl) T_nm (by rfl) (NdefX.ndef_free (fr := lam0.fr) (by kernel_rfl)))))))), fun ds Q hl h => m_added (gs (K := K)) ds Q ED h⟩
theorem nd_lessened : (["one", "other"] : List Str).Nodup := by decide
theorem sc_lessened : FnScope ["one", "other"] ["one", "other"] (defScope (top 22)) := ⟨rfl, rfl, rfl, by decide +kernel, rfl, by decide +kernel, by decide +kernel⟩
theorem v_lessened (M : Md K mg base) (h_built : FnH P w (G K) mg base "built" 2 7 s_built) (h_check_tables : FnH P w (G K) mg base "check_tables" 2 4 s_check_tables) : FnH P w (G K) mg base "lessened" 2 8 s_lessened := by
  obtain ⟨fd, F⟩ := M.F_lessened
  refine fnH_of (N := ["one", "other"]) (ps := ["one", "other"]) (k := 7) F sc_lessened M.g_lessened (fun _ _ _ _ _ _ us hl => match us, hl with | [_, _], _ => rfl) (by decide) fun cdv A outer s0 H E H0 ED hcd hr hp bok => ?_
  have TB := M.t_lessened
  have hc := (code_of F).symm.trans hcd |>.symm
  exact ⟨_, (dss_cons (ds_expr (de_call (h_check_tables.mono (by decide : 4 ≤ 7)) rfl hr hp bok rfl (da_cons (de_var 0) (da_cons (de_var 1) da_nil)))) (dss_one (ds_ret (de_callL (js := [0, 1]) (L := lam1) (j := 1) (h_built.mono (by decide : 7 ≤ 7)) rfl hr rfl rfl rfl rfl (NdefX.ndef_free (fr := lam1.fr) (by kernel_rfl)) (by decide +kernel) (by decide +kernel) (by kernel_rfl) (dal_cons (de_fld rfl M.gok (de_var 0)) (dal_lam (L := lam1) (nm := nmAll) TB hc (T_mem_lessened) (by kernel_rfl) (by kernel_rfl) T_nm (by rfl) (NdefX.ndef_free (fr := lam1.fr) (by kernel_rfl)))))))), fun ds Q hl h => m_lessened (gs (K := K)) ds Q ED h⟩
theorem nd_times : (["table", "number"] : List Str).Nodup := by decide
theorem sc_times : FnScope ["table", "number"] ["table", "number"] (defScope (top 23)) := ⟨rfl, rfl, rfl, by decide +kernel, rfl, by decide +kernel, by decide +kernel⟩
theorem v_times (M : Md K mg base) (h_built : FnH P w (G K) mg base "built" 2 7 s_built) (h_check_table : FnH P w (G K) mg base "check_table" 1 2 s_check_table) (h_is_integer : FnH P w (G K) mg base "is_integer" 1 2 s_is_integer) : FnH P w (G K) mg base "times" 2 8 s_times := by
  obtain ⟨fd, F⟩ := M.F_times
  refine fnH_of (N := ["table", "number"]) (ps := ["table", "number"]) (k := 7) F sc_times M.g_times (fun _ _ _ _ _ _ us hl => match us, hl with | [_, _], _ => rfl) (by decide) fun cdv A outer s0 H E H0 ED hcd hr hp bok => ?_
  have TB := M.t_times
  have hc := (code_of F).symm.trans hcd |>.symm
  exact ⟨_, (dss_cons (ds_expr (de_call (h_check_table.mono (by decide : 2 ≤ 7)) rfl hr hp bok rfl (da_cons (de_var 0) da_nil))) (dss_cons (ds_if (dt_not (dt_truth rfl (de_call (h_is_integer.mono (by decide : 2 ≤ 7)) rfl hr hp bok rfl (da_cons (de_var 1) da_nil)))) (dss_one ds_stuck) dss_nil) (dss_one (ds_ret (de_callL (js := [1, 0]) (L := lam2) (j := 2) (h_built.mono (by decide : 7 ≤ 7)) rfl hr rfl rfl rfl rfl (NdefX.ndef_free (fr := lam2.fr) (by kernel_rfl)) (by decide +kernel) (by decide +kernel) (by kernel_rfl) (dal_cons (de_fld rfl M.gok (de_var 0)) (dal_lam (L := lam2) (nm := nmAll) TB hc (T_mem_times) (by kernel_rfl) (by kernel_rfl) T_nm (by rfl) (NdefX.ndef_free (fr := lam2.fr) (by kernel_rfl))))))))), fun ds Q hl h => m_times (gs (K := K)) ds Q ED h⟩
theorem nd_is_row : (["thing", "one"] : List Str).Nodup := by decide
theorem sc_is_row : FnScope ["thing", "one"] ["thing"] (defScope (top 24)) := ⟨rfl, rfl, rfl, by decide +kernel, rfl, by decide +kernel, by decide +kernel⟩
theorem v_is_row (M : Md K mg base) (h_is_integer : FnH P w (G K) mg base "is_integer" 1 2 s_is_integer) : FnH P w (G K) mg base "is_row" 1 3 s_is_row := by
  obtain ⟨fd, F⟩ := M.F_is_row
  refine fnH_of (N := ["thing", "one"]) (ps := ["thing"]) (k := 2) F sc_is_row M.g_is_row (fun _ _ _ _ _ _ us hl => match us, hl with | [_], _ => rfl) (by decide) fun cdv A outer s0 H E H0 ED hcd hr hp bok => ?_
  exact ⟨_, (dss_cons (ds_if (PW.pt (dt_or (dt_not (dt_truth rfl (de_isi (c := .ty "tuple") rfl M.gok rfl M.b_isinstance (de_var 0) (.ty rfl M.b_tuple boot_tuple (by decide) (by decide))))) (dt_or1 (dt_not (dt_chain op_le op_le d_le d_le de_int (de_len rfl rfl M.b_len (da_cons (de_var 0) da_nil)) (de_glob (d := .int 7) (fun _ => of_int) rfl (Classical.choose_spec M.c_MOST_THINGS) ⟨_, rfl⟩)))))) (dss_one (ds_ret de_bl)) dss_nil) (dss_one (ds_ret (de_callB (cr_all rfl) d_all rfl M.b_all boot_all (da_cons (de_new (dn_lc rfl nd_is_row (di_seq rfl (de_var 0)) (blkOk_by (own := [("one", 1)]) (by kernel_rfl)) (fun _ _ _ _ _ => (dg_name 1 nd_is_row)) (fun _ _ _ _ _ => dts_nil) (fun _ _ _ _ _ => (de_call (h_is_integer.mono (by decide : 2 ≤ 2)) rfl hr passL (Bx.no_ok _) rfl (da_cons (de_var 1) da_nil))))) da_nil))))), fun ds Q hl h => m_is_row (gs (K := K)) ds Q ED h⟩
theorem nd_row_sum : (["row", "mask", "at"] : List Str).Nodup := by decide
theorem sc_row_sum : FnScope ["row", "mask", "at"] ["row", "mask"] (defScope (top 25)) := ⟨rfl, rfl, rfl, by decide +kernel, rfl, by decide +kernel, by decide +kernel⟩
theorem v_row_sum (M : Md K mg base) (h_lot_of : FnH P w (G K) mg base "lot_of" 1 4 s_lot_of) : FnH P w (G K) mg base "row_sum" 2 5 s_row_sum := by
  obtain ⟨fd, F⟩ := M.F_row_sum
  refine fnH_of (N := ["row", "mask", "at"]) (ps := ["row", "mask"]) (k := 4) F sc_row_sum M.g_row_sum (fun _ _ _ _ _ _ us hl => match us, hl with | [_, _], _ => rfl) (by decide) fun cdv A outer s0 H E H0 ED hcd hr hp bok => ?_
  exact ⟨_, (dss_one (ds_ret (de_callB (cr_sum rfl) d_sum rfl M.b_sum boot_sum (da_cons (de_new (dn_lc rfl nd_row_sum (di_seq rfl (de_call (h_lot_of.mono (by decide : 4 ≤ 4)) rfl hr hp bok rfl (da_cons (de_var 1) da_nil))) (blkOk_by (own := [("at", 2)]) (by kernel_rfl)) (fun _ _ _ _ _ => (dg_name 2 nd_row_sum)) (fun _ _ _ _ _ => dts_nil) (fun _ _ _ _ _ => (de_ix rfl (de_var 0) (de_var 2))))) da_nil)))), fun ds Q hl h => m_row_sum (gs (K := K)) ds Q ED h⟩
theorem nd_of_row : (["row"] : List Str).Nodup := by decide
theorem sc_of_row : FnScope ["row"] ["row"] (defScope (top 26)) := ⟨rfl, rfl, rfl, by decide +kernel, rfl, by decide +kernel, by decide +kernel⟩
theorem v_of_row (M : Md K mg base) (h_built : FnH P w (G K) mg base "built" 2 7 s_built) (h_is_row : FnH P w (G K) mg base "is_row" 1 3 s_is_row) : FnH P w (G K) mg base "of_row" 1 8 s_of_row := by
  obtain ⟨fd, F⟩ := M.F_of_row
  refine fnH_of (N := ["row"]) (ps := ["row"]) (k := 7) F sc_of_row M.g_of_row (fun _ _ _ _ _ _ us hl => match us, hl with | [_], _ => rfl) (by decide) fun cdv A outer s0 H E H0 ED hcd hr hp bok => ?_
  have TB := M.t_of_row
  have hc := (code_of F).symm.trans hcd |>.symm
  exact ⟨_, (dss_cons (ds_if (dt_not (dt_truth rfl (de_call (h_is_row.mono (by decide : 3 ≤ 7)) rfl hr hp bok rfl (da_cons (de_var 0) da_nil)))) (dss_one ds_stuck) dss_nil) (dss_one (ds_ret (de_callL (js := [0]) (L := lam3) (j := 3) (h_built.mono (by decide : 7 ≤ 7)) rfl hr rfl rfl rfl rfl (NdefX.ndef_free (fr := lam3.fr) (by kernel_rfl)) (by decide +kernel) (by decide +kernel) (by kernel_rfl) (dal_cons (de_len rfl rfl M.b_len (da_cons (de_var 0) da_nil)) (dal_lam (L := lam3) (nm := nmAll) TB hc (T_mem_of_row) (by kernel_rfl) (by kernel_rfl) T_nm (by rfl) (NdefX.ndef_free (fr := lam3.fr) (by kernel_rfl)))))))), fun ds Q hl h => m_of_row (gs (K := K)) ds Q ED h⟩
theorem nd_of_sizes : (["sizes", "one"] : List Str).Nodup := by decide
theorem sc_of_sizes : FnScope ["sizes", "one"] ["sizes"] (defScope (top 27)) := ⟨rfl, rfl, rfl, by decide +kernel, rfl, by decide +kernel, by decide +kernel⟩
theorem v_of_sizes (M : Md K mg base) (EQ : EqsH P w (G K) mg base 2 eqS) (h_built : FnH P w (G K) mg base "built" 2 7 s_built) (h_is_integer : FnH P w (G K) mg base "is_integer" 1 2 s_is_integer) : FnH P w (G K) mg base "of_sizes" 1 8 s_of_sizes := by
  obtain ⟨fd, F⟩ := M.F_of_sizes
  refine fnH_of (N := ["sizes", "one"]) (ps := ["sizes"]) (k := 7) F sc_of_sizes M.g_of_sizes (fun _ _ _ _ _ _ us hl => match us, hl with | [_], _ => rfl) (by decide) fun cdv A outer s0 H E H0 ED hcd hr hp bok => ?_
  have TB := M.t_of_sizes
  have hc := (code_of F).symm.trans hcd |>.symm
  exact ⟨_, (dss_cons (ds_if (PW.pt (dt_or (dt_not (dt_truth rfl (de_isi (c := .ty "tuple") rfl M.gok rfl M.b_isinstance (de_var 0) (.ty rfl M.b_tuple boot_tuple (by decide) (by decide))))) (dt_or1 (dt_not (dt_chain op_le op_le d_le d_le de_int (de_len rfl rfl M.b_len (da_cons (de_var 0) da_nil)) (de_add rfl (de_glob (d := .int 7) (fun _ => of_int) rfl (Classical.choose_spec M.c_MOST_THINGS) ⟨_, rfl⟩) de_int)))))) (dss_one ds_stuck) dss_nil) (dss_cons (ds_if (PW.pt (dt_or (dt_not (dt_truth rfl (de_callB (cr_all rfl) d_all rfl M.b_all boot_all (da_cons (de_new (dn_lc rfl nd_of_sizes (di_seq rfl (de_var 0)) (blkOk_by (own := [("one", 1)]) (by kernel_rfl)) (fun _ _ _ _ _ => (dg_name 1 nd_of_sizes)) (fun _ _ _ _ _ => dts_nil) (fun _ _ _ _ _ => (de_call (h_is_integer.mono (by decide : 2 ≤ 7)) rfl hr passL (Bx.no_ok _) rfl (da_cons (de_var 1) da_nil))))) da_nil)))) (dt_or1 (dt_ne rfl hr (EQ.mono (by decide : 2 ≤ 6)) (nomark _) (de_ix rfl (de_var 0) de_int) de_int)))) (dss_one ds_stuck) dss_nil) (dss_one (ds_ret (de_callL (js := [0]) (L := lam4) (j := 4) (h_built.mono (by decide : 7 ≤ 7)) rfl hr rfl rfl rfl rfl (NdefX.ndef_free (fr := lam4.fr) (by kernel_rfl)) (by decide +kernel) (by decide +kernel) (by kernel_rfl) (dal_cons (de_sub (de_len rfl rfl M.b_len (da_cons (de_var 0) da_nil)) de_int) (dal_lam (L := lam4) (nm := nmAll) TB hc (T_mem_of_sizes) (by kernel_rfl) (by kernel_rfl) T_nm (by rfl) (NdefX.ndef_free (fr := lam4.fr) (by kernel_rfl))))))))), fun ds Q hl h => m_of_sizes (gs (K := K)) ds Q ED h⟩
theorem nd_other_side : (["table", "whole"] : List Str).Nodup := by decide
theorem sc_other_side : FnScope ["table", "whole"] ["table"] (defScope (top 28)) := ⟨rfl, rfl, rfl, by decide +kernel, rfl, by decide +kernel, by decide +kernel⟩
theorem v_other_side (M : Md K mg base) (h_built : FnH P w (G K) mg base "built" 2 7 s_built) (h_check_table : FnH P w (G K) mg base "check_table" 1 2 s_check_table) : FnH P w (G K) mg base "other_side" 1 8 s_other_side := by
  obtain ⟨fd, F⟩ := M.F_other_side
  refine fnH_of (N := ["table", "whole"]) (ps := ["table"]) (k := 7) F sc_other_side M.g_other_side (fun _ _ _ _ _ _ us hl => match us, hl with | [_], _ => rfl) (by decide) fun cdv A outer s0 H E H0 ED hcd hr hp bok => ?_
  have TB := M.t_other_side
  have hc := (code_of F).symm.trans hcd |>.symm
  exact ⟨_, (dss_cons (ds_expr (de_call (h_check_table.mono (by decide : 2 ≤ 7)) rfl hr hp bok rfl (da_cons (de_var 0) da_nil))) (dss_cons (ds_set 1 nd_other_side (de_sub (de_ix rfl (de_glob (d := c_POWERS) M.d_POWERS rfl M.g_POWERS rfl) (de_fld rfl M.gok (de_var 0))) de_int)) (dss_one (ds_ret (de_callL (js := [0, 1]) (L := lam5) (j := 5) (h_built.mono (by decide : 7 ≤ 7)) rfl hr rfl rfl rfl rfl (NdefX.ndef_free (fr := lam5.fr) (by kernel_rfl)) (by decide +kernel) (by decide +kernel) (by kernel_rfl) (dal_cons (de_fld rfl M.gok (de_var 0)) (dal_lam (L := lam5) (nm := nmAll) TB hc (T_mem_other_side) (by kernel_rfl) (by kernel_rfl) T_nm (by rfl) (NdefX.ndef_free (fr := lam5.fr) (by kernel_rfl))))))))), fun ds Q hl h => m_other_side (gs (K := K)) ds Q ED h⟩
theorem nd__law_hand : (["script", "cell"] : List Str).Nodup := by decide
theorem sc__law_hand : FnScope ["script", "cell"] ["script"] (defScope (top 30)) := ⟨rfl, rfl, rfl, by decide +kernel, rfl, by decide +kernel, by decide +kernel⟩
theorem v__law_hand (M : Md K mg base) : FnH P w (G K) mg base "_law_hand" 1 2 s__law_hand := by
  obtain ⟨fd, F⟩ := M.F__law_hand
  refine fnH_of (N := ["script", "cell"]) (ps := ["script"]) (k := 1) F sc__law_hand M.g__law_hand (fun _ _ _ _ _ _ us hl => match us, hl with | [_], _ => rfl) (by decide) fun cdv A outer s0 H E H0 ED hcd hr hp bok => ?_
  exact ⟨_, (dss_one (ds_ret (de_hand (da_cons (de_new (dn_lc rfl nd__law_hand (di_seq rfl (de_slice rfl (de_var 0) do_none (do_some de_int))) (blkOk_by (own := [("cell", 1)]) (by kernel_rfl)) (fun _ _ _ _ _ => (dg_name 1 nd__law_hand)) (fun _ _ _ _ _ => dts_nil) (fun _ _ _ _ _ => (de_callB call_abs d_abs rfl M.b_abs boot_abs (da_cons (de_callTy call_int1 d_int rfl M.b_int boot_int (da_cons (de_var 1) da_nil)) da_nil))))) (da_cons de_int (da_cons de_int (da_cons (de_add rfl de_int (de_mul rfl de_int (de_len rfl rfl M.b_len (da_cons (de_slice rfl (de_var 0) do_none (do_some de_int)) da_nil)))) (da_cons de_int da_nil)))))))), fun ds Q hl h => m__law_hand (gs (K := K)) ds Q ED h⟩
theorem nd__law_draw : (["hand", "many", "cell", "digit", "number"] : List Str).Nodup := by decide
theorem sc__law_draw : FnScope ["hand", "many", "cell", "digit", "number"] ["hand", "many"] (defScope (top 31)) := ⟨rfl, rfl, rfl, by decide +kernel, rfl, by decide +kernel, by decide +kernel⟩
theorem v__law_draw (M : Md K mg base) (EQ : EqsH P w (G K) mg base 2 eqS) : FnH P w (G K) mg base "_law_draw" 2 4 s__law_draw := by
  obtain ⟨fd, F⟩ := M.F__law_draw
  refine draw_of (N := ["hand", "many", "cell", "digit", "number"]) (k := 3) F sc__law_draw M.g__law_draw (fun _ _ _ _ _ _ us hl => match us, hl with | [_, _], _ => rfl) (by decide) fun cdv A outer s0 H He Z hr => ⟨_, (dss_cons (ds_if (PW.pt (dt_and (dt_eq rfl hr (EQ.mono (by decide : 2 ≤ 2)) (nomark _) (de_hix 0 (k := 2) rfl) de_int) (dt_and1 (dt_cmp op_lt d_lt (nomark _) (de_hix 0 (k := 1) rfl) (de_len rfl rfl M.b_len (da_cons (de_hix 0 (k := 0) rfl) da_nil)))))) (dss_cons (ds_set 2 nd__law_draw (de_ix rfl (de_hix 0 (k := 0) rfl) (de_hix 0 (k := 1) rfl))) (dss_cons (ds_hset 0 (k := 0) (de_add rfl (de_hix 0 (k := 1) rfl) de_int)) (dss_cons (ds_hset 0 (k := 2) (de_mod (de_callTy call_int1 d_int rfl M.b_int boot_int (da_cons (de_add rfl (de_add rfl (de_mul rfl (de_hix 0 (k := 3) rfl) de_int) (de_mul rfl (de_var 2) de_int)) de_int) da_nil)) de_int)) (dss_one (ds_if (dt_cmp op_ge d_ge (nomark _) (de_var 2) (de_pow de_int de_int)) (dss_one (ds_hset 0 (k := 1) (de_var 2))) dss_nil))))) dss_nil) (dss_cons (ds_if (dt_cmp op_gt d_gt (nomark _) (de_hix 0 (k := 2) rfl) de_int) (dss_cons (ds_set 3 nd__law_draw (de_mod (de_callTy call_int1 d_int rfl M.b_int boot_int (da_cons (de_hix 0 (k := 2) rfl) da_nil)) (de_var 1))) (dss_cons (ds_hset 0 (k := 1) (de_div (de_hix 0 (k := 2) rfl) (de_var 1))) (dss_one (ds_ret (de_var 3))))) dss_nil) (dss_cons (ds_hset 0 (k := 3) (de_add rfl (de_hix 0 (k := 4) rfl) de_int)) (dss_cons (ds_set 4 nd__law_draw (de_mod (de_callTy call_int1 d_int rfl M.b_int boot_int (da_cons (de_mul rfl (de_callTy call_int1 d_int rfl M.b_int boot_int (da_cons (de_add rfl (de_hix 0 (k := 3) rfl) (de_mul rfl de_int (de_hix 0 (k := 4) rfl))) da_nil)) de_int) da_nil)) de_int)) (dss_cons (ds_set 4 nd__law_draw (de_mod (de_callTy call_int1 d_int rfl M.b_int boot_int (da_cons (de_mul rfl (de_var 4) (de_add rfl (de_div (de_var 4) de_int) de_int)) da_nil)) de_int)) (dss_cons (ds_set 4 nd__law_draw (de_mod (de_callTy call_int1 d_int rfl M.b_int boot_int (da_cons (de_mul rfl (de_var 4) (de_add rfl (de_div (de_var 4) de_int) de_int)) da_nil)) de_int)) (dss_one (ds_ret (de_mod (de_callTy call_int1 d_int rfl M.b_int boot_int (da_cons (de_div (de_var 4) de_int) da_nil)) (de_var 1)))))))))), fun a c ns i g m kk many Q h1 h2 h3 h4 h5 h6 h7 h8 hQ => m__law_draw (G K) a c ns i g m kk many Q h1 h2 h3 h4 h5 h6 h7 h8 hQ⟩
theorem nd__law_any : (["hand", "some"] : List Str).Nodup := by decide
theorem sc__law_any : FnScope ["hand", "some"] ["hand", "some"] (defScope (top 32)) := ⟨rfl, rfl, rfl, by decide +kernel, rfl, by decide +kernel, by decide +kernel⟩
theorem v__law_any (M : Md K mg base) (h__law_draw : FnH P w (G K) mg base "_law_draw" 2 4 s__law_draw) : FnH P w (G K) mg base "_law_any" 2 5 s__law_any := by
  obtain ⟨fd, F⟩ := M.F__law_any
  refine fnH_of (N := ["hand", "some"]) (ps := ["hand", "some"]) (k := 4) F sc__law_any M.g__law_any (fun _ _ _ _ _ _ us hl => match us, hl with | [_, _], _ => rfl) (by decide) fun cdv A outer s0 H E H0 ED hcd hr hp bok => ?_
  exact ⟨_, (dss_one (ds_ret (de_ix rfl (de_var 1) (de_call (h__law_draw.mono (by decide : 4 ≤ 4)) rfl hr hp bok rfl (da_cons (de_var 0) (da_cons (de_len rfl rfl M.b_len (da_cons (de_var 1) da_nil)) da_nil)))))), fun ds Q hl h => m__law_any (gs (K := K)) ds Q ED h⟩
theorem nd__law_same : (["one", "due", "a", "b"] : List Str).Nodup := by decide
theorem sc__law_same : FnScope ["one", "due", "a", "b"] ["one", "due"] (defScope (top 33)) := ⟨rfl, rfl, rfl, by decide +kernel, rfl, by decide +kernel, by decide +kernel⟩
theorem v__law_same (M : Md K mg base) (EQ : EqsH P w (G K) mg base 2 eqS) {s__law_same : List D → W D} (h__law_same : FnH P w (G K) mg base "_law_same" 2 6 s__law_same) : FnH P w (G K) mg base "_law_same" 2 7 (fun ds => endW (W__law_same (G K) s__law_same (env0 4 ds))) := by
  obtain ⟨fd, F⟩ := M.F__law_same
  refine fnH_of (N := ["one", "due", "a", "b"]) (ps := ["one", "due"]) (k := 6) F sc__law_same M.g__law_same (fun _ _ _ _ _ _ us hl => match us, hl with | [_, _], _ => rfl) (by decide) fun cdv A outer s0 H E H0 ED hcd hr hp bok => ?_
  exact ⟨_, (dss_cons (ds_if (dt_truth rfl (de_isiA (cs := [.ty "tuple", .ty "list"]) rfl M.gok rfl M.b_isinstance (de_var 1) (pa_cons (ClsE.pe (B := ⟨G K, H, H0, ED, E⟩) (.ty rfl M.b_tuple boot_tuple (by decide) (by decide))) (pa_cons (ClsE.pe (B := ⟨G K, H, H0, ED, E⟩) (.ty rfl M.b_list boot_list (by decide) (by decide))) pa_nil)))) (dss_cons (ds_if (PW.pt (dt_or (dt_ne rfl hr (EQ.mono (by decide : 2 ≤ 5)) (nomark _) (de_isi (c := .ty "tuple") rfl M.gok rfl M.b_isinstance (de_var 0) (.ty rfl M.b_tuple boot_tuple (by decide) (by decide))) (de_isi (c := .ty "tuple") rfl M.gok rfl M.b_isinstance (de_var 1) (.ty rfl M.b_tuple boot_tuple (by decide) (by decide)))) (dt_or1 (dt_not (dt_truth rfl (de_isiA (cs := [.ty "tuple", .ty "list"]) rfl M.gok rfl M.b_isinstance (de_var 0) (pa_cons (ClsE.pe (B := ⟨G K, H, H0, ED, E⟩) (.ty rfl M.b_tuple boot_tuple (by decide) (by decide))) (pa_cons (ClsE.pe (B := ⟨G K, H, H0, ED, E⟩) (.ty rfl M.b_list boot_list (by decide) (by decide))) pa_nil)))))))) (dss_one (ds_ret de_bl)) dss_nil) (dss_one (ds_ret (de_and (de_eq rfl hr (EQ.mono (by decide : 2 ≤ 5)) (nomark _) (de_len rfl rfl M.b_len (da_cons (de_var 0) da_nil)) (de_len rfl rfl M.b_len (da_cons (de_var 1) da_nil))) (de_one (de_callB (cr_all rfl) d_all rfl M.b_all boot_all (da_cons (de_new (dn_lc rfl nd__law_same (di_zip rfl rfl M.b_zip (da_cons (de_var 0) (da_cons (de_var 1) da_nil))) (blkOk_by (own := [("a", 2), ("b", 3)]) (by kernel_rfl)) (fun _ _ _ _ _ => (dg_tup rfl rfl (dgs_cons (dg_name 2 nd__law_same) (dgs_cons (dg_name 3 nd__law_same) dgs_nil)))) (fun _ _ _ _ _ => dts_nil) (fun _ _ _ _ _ => (de_call (h__law_same.mono (by decide : 6 ≤ 6)) rfl hr passL (Bx.no_ok _) rfl (da_cons (de_var 2) (da_cons (de_var 3) da_nil)))))) da_nil))))))) dss_nil) (dss_cons (ds_if (PW.pt (dt_or (dt_truth rfl (de_isi (c := .ty "bool") rfl M.gok rfl M.b_isinstance (de_var 1) (.ty rfl M.b_bool boot_bool (by decide) (by decide)))) (dt_or (dt_truth rfl (de_isi (c := .ty "bool") rfl M.gok rfl M.b_isinstance (de_var 0) (.ty rfl M.b_bool boot_bool (by decide) (by decide)))) (dt_or (dt_cmp op_isN d_is (nomark _) (de_var 1) de_non) (dt_or1 (dt_cmp op_isN d_is (nomark _) (de_var 0) de_non)))))) (dss_one (ds_ret (de_and (de_eq rfl hr (EQ.mono (by decide : 2 ≤ 5)) (nomark _) (de_isi (c := .ty "bool") rfl M.gok rfl M.b_isinstance (de_var 0) (.ty rfl M.b_bool boot_bool (by decide) (by decide))) (de_isi (c := .ty "bool") rfl M.gok rfl M.b_isinstance (de_var 1) (.ty rfl M.b_bool boot_bool (by decide) (by decide)))) (de_and (de_eq rfl hr (EQ.mono (by decide : 2 ≤ 5)) (nomark _) (de_cmp op_isN d_is (nomark _) (de_var 0) de_non) (de_cmp op_isN d_is (nomark _) (de_var 1) de_non)) (de_one (de_eq rfl hr (EQ.mono (by decide : 2 ≤ 5)) (nomark _) (de_var 0) (de_var 1))))))) dss_nil) (dss_one (ds_ret (de_and (de_eq rfl hr (EQ.mono (by decide : 2 ≤ 5)) (nomark _) (de_isi (c := .ty "str") rfl M.gok rfl M.b_isinstance (de_var 0) (.ty rfl M.b_str boot_str (by decide) (by decide))) (de_isi (c := .ty "str") rfl M.gok rfl M.b_isinstance (de_var 1) (.ty rfl M.b_str boot_str (by decide) (by decide)))) (de_and (de_isiA (cs := [.ty "int", .ty "str"]) rfl M.gok rfl M.b_isinstance (de_var 0) (pa_cons (ClsE.pe (B := ⟨G K, H, H0, ED, E⟩) (.ty rfl M.b_int boot_int (by decide) (by decide))) (pa_cons (ClsE.pe (B := ⟨G K, H, H0, ED, E⟩) (.ty rfl M.b_str boot_str (by decide) (by decide))) pa_nil))) (de_one (de_eq rfl hr (EQ.mono (by decide : 2 ≤ 5)) (nomark _) (de_var 0) (de_var 1))))))))), fun ds Q hl h => h⟩
theorem v__law_same_7 (M : Md K mg base) (EQ : EqsH P w (G K) mg base 2 eqS) {s__law_same : List D → W D} (h__law_same : FnH P w (G K) mg base "_law_same" 2 7 s__law_same) : FnH P w (G K) mg base "_law_same" 2 8 (fun ds => endW (W__law_same (G K) s__law_same (env0 4 ds))) := by
  obtain ⟨fd, F⟩ := M.F__law_same
  refine fnH_of (N := ["one", "due", "a", "b"]) (ps := ["one", "due"]) (k := 7) F sc__law_same M.g__law_same (fun _ _ _ _ _ _ us hl => match us, hl with | [_, _], _ => rfl) (by decide) fun cdv A outer s0 H E H0 ED hcd hr hp bok => ?_
  exact ⟨_, (dss_cons (ds_if (dt_truth rfl (de_isiA (cs := [.ty "tuple", .ty "list"]) rfl M.gok rfl M.b_isinstance (de_var 1) (pa_cons (ClsE.pe (B := ⟨G K, H, H0, ED, E⟩) (.ty rfl M.b_tuple boot_tuple (by decide) (by decide))) (pa_cons (ClsE.pe (B := ⟨G K, H, H0, ED, E⟩) (.ty rfl M.b_list boot_list (by decide) (by decide))) pa_nil)))) (dss_cons (ds_if (PW.pt (dt_or (dt_ne rfl hr (EQ.mono (by decide : 2 ≤ 6)) (nomark _) (de_isi (c := .ty "tuple") rfl M.gok rfl M.b_isinstance (de_var 0) (.ty rfl M.b_tuple boot_tuple (by decide) (by decide))) (de_isi (c := .ty "tuple") rfl M.gok rfl M.b_isinstance (de_var 1) (.ty rfl M.b_tuple boot_tuple (by decide) (by decide)))) (dt_or1 (dt_not (dt_truth rfl (de_isiA (cs := [.ty "tuple", .ty "list"]) rfl M.gok rfl M.b_isinstance (de_var 0) (pa_cons (ClsE.pe (B := ⟨G K, H, H0, ED, E⟩) (.ty rfl M.b_tuple boot_tuple (by decide) (by decide))) (pa_cons (ClsE.pe (B := ⟨G K, H, H0, ED, E⟩) (.ty rfl M.b_list boot_list (by decide) (by decide))) pa_nil)))))))) (dss_one (ds_ret de_bl)) dss_nil) (dss_one (ds_ret (de_and (de_eq rfl hr (EQ.mono (by decide : 2 ≤ 6)) (nomark _) (de_len rfl rfl M.b_len (da_cons (de_var 0) da_nil)) (de_len rfl rfl M.b_len (da_cons (de_var 1) da_nil))) (de_one (de_callB (cr_all rfl) d_all rfl M.b_all boot_all (da_cons (de_new (dn_lc rfl nd__law_same (di_zip rfl rfl M.b_zip (da_cons (de_var 0) (da_cons (de_var 1) da_nil))) (blkOk_by (own := [("a", 2), ("b", 3)]) (by kernel_rfl)) (fun _ _ _ _ _ => (dg_tup rfl rfl (dgs_cons (dg_name 2 nd__law_same) (dgs_cons (dg_name 3 nd__law_same) dgs_nil)))) (fun _ _ _ _ _ => dts_nil) (fun _ _ _ _ _ => (de_call (h__law_same.mono (by decide : 7 ≤ 7)) rfl hr passL (Bx.no_ok _) rfl (da_cons (de_var 2) (da_cons (de_var 3) da_nil)))))) da_nil))))))) dss_nil) (dss_cons (ds_if (PW.pt (dt_or (dt_truth rfl (de_isi (c := .ty "bool") rfl M.gok rfl M.b_isinstance (de_var 1) (.ty rfl M.b_bool boot_bool (by decide) (by decide)))) (dt_or (dt_truth rfl (de_isi (c := .ty "bool") rfl M.gok rfl M.b_isinstance (de_var 0) (.ty rfl M.b_bool boot_bool (by decide) (by decide)))) (dt_or (dt_cmp op_isN d_is (nomark _) (de_var 1) de_non) (dt_or1 (dt_cmp op_isN d_is (nomark _) (de_var 0) de_non)))))) (dss_one (ds_ret (de_and (de_eq rfl hr (EQ.mono (by decide : 2 ≤ 6)) (nomark _) (de_isi (c := .ty "bool") rfl M.gok rfl M.b_isinstance (de_var 0) (.ty rfl M.b_bool boot_bool (by decide) (by decide))) (de_isi (c := .ty "bool") rfl M.gok rfl M.b_isinstance (de_var 1) (.ty rfl M.b_bool boot_bool (by decide) (by decide)))) (de_and (de_eq rfl hr (EQ.mono (by decide : 2 ≤ 6)) (nomark _) (de_cmp op_isN d_is (nomark _) (de_var 0) de_non) (de_cmp op_isN d_is (nomark _) (de_var 1) de_non)) (de_one (de_eq rfl hr (EQ.mono (by decide : 2 ≤ 6)) (nomark _) (de_var 0) (de_var 1))))))) dss_nil) (dss_one (ds_ret (de_and (de_eq rfl hr (EQ.mono (by decide : 2 ≤ 6)) (nomark _) (de_isi (c := .ty "str") rfl M.gok rfl M.b_isinstance (de_var 0) (.ty rfl M.b_str boot_str (by decide) (by decide))) (de_isi (c := .ty "str") rfl M.gok rfl M.b_isinstance (de_var 1) (.ty rfl M.b_str boot_str (by decide) (by decide)))) (de_and (de_isiA (cs := [.ty "int", .ty "str"]) rfl M.gok rfl M.b_isinstance (de_var 0) (pa_cons (ClsE.pe (B := ⟨G K, H, H0, ED, E⟩) (.ty rfl M.b_int boot_int (by decide) (by decide))) (pa_cons (ClsE.pe (B := ⟨G K, H, H0, ED, E⟩) (.ty rfl M.b_str boot_str (by decide) (by decide))) pa_nil))) (de_one (de_eq rfl hr (EQ.mono (by decide : 2 ≤ 6)) (nomark _) (de_var 0) (de_var 1))))))))), fun ds Q hl h => h⟩
theorem v__law_same_8 (M : Md K mg base) (EQ : EqsH P w (G K) mg base 2 eqS) {s__law_same : List D → W D} (h__law_same : FnH P w (G K) mg base "_law_same" 2 8 s__law_same) : FnH P w (G K) mg base "_law_same" 2 9 (fun ds => endW (W__law_same (G K) s__law_same (env0 4 ds))) := by
  obtain ⟨fd, F⟩ := M.F__law_same
  refine fnH_of (N := ["one", "due", "a", "b"]) (ps := ["one", "due"]) (k := 8) F sc__law_same M.g__law_same (fun _ _ _ _ _ _ us hl => match us, hl with | [_, _], _ => rfl) (by decide) fun cdv A outer s0 H E H0 ED hcd hr hp bok => ?_
  exact ⟨_, (dss_cons (ds_if (dt_truth rfl (de_isiA (cs := [.ty "tuple", .ty "list"]) rfl M.gok rfl M.b_isinstance (de_var 1) (pa_cons (ClsE.pe (B := ⟨G K, H, H0, ED, E⟩) (.ty rfl M.b_tuple boot_tuple (by decide) (by decide))) (pa_cons (ClsE.pe (B := ⟨G K, H, H0, ED, E⟩) (.ty rfl M.b_list boot_list (by decide) (by decide))) pa_nil)))) (dss_cons (ds_if (PW.pt (dt_or (dt_ne rfl hr (EQ.mono (by decide : 2 ≤ 7)) (nomark _) (de_isi (c := .ty "tuple") rfl M.gok rfl M.b_isinstance (de_var 0) (.ty rfl M.b_tuple boot_tuple (by decide) (by decide))) (de_isi (c := .ty "tuple") rfl M.gok rfl M.b_isinstance (de_var 1) (.ty rfl M.b_tuple boot_tuple (by decide) (by decide)))) (dt_or1 (dt_not (dt_truth rfl (de_isiA (cs := [.ty "tuple", .ty "list"]) rfl M.gok rfl M.b_isinstance (de_var 0) (pa_cons (ClsE.pe (B := ⟨G K, H, H0, ED, E⟩) (.ty rfl M.b_tuple boot_tuple (by decide) (by decide))) (pa_cons (ClsE.pe (B := ⟨G K, H, H0, ED, E⟩) (.ty rfl M.b_list boot_list (by decide) (by decide))) pa_nil)))))))) (dss_one (ds_ret de_bl)) dss_nil) (dss_one (ds_ret (de_and (de_eq rfl hr (EQ.mono (by decide : 2 ≤ 7)) (nomark _) (de_len rfl rfl M.b_len (da_cons (de_var 0) da_nil)) (de_len rfl rfl M.b_len (da_cons (de_var 1) da_nil))) (de_one (de_callB (cr_all rfl) d_all rfl M.b_all boot_all (da_cons (de_new (dn_lc rfl nd__law_same (di_zip rfl rfl M.b_zip (da_cons (de_var 0) (da_cons (de_var 1) da_nil))) (blkOk_by (own := [("a", 2), ("b", 3)]) (by kernel_rfl)) (fun _ _ _ _ _ => (dg_tup rfl rfl (dgs_cons (dg_name 2 nd__law_same) (dgs_cons (dg_name 3 nd__law_same) dgs_nil)))) (fun _ _ _ _ _ => dts_nil) (fun _ _ _ _ _ => (de_call (h__law_same.mono (by decide : 8 ≤ 8)) rfl hr passL (Bx.no_ok _) rfl (da_cons (de_var 2) (da_cons (de_var 3) da_nil)))))) da_nil))))))) dss_nil) (dss_cons (ds_if (PW.pt (dt_or (dt_truth rfl (de_isi (c := .ty "bool") rfl M.gok rfl M.b_isinstance (de_var 1) (.ty rfl M.b_bool boot_bool (by decide) (by decide)))) (dt_or (dt_truth rfl (de_isi (c := .ty "bool") rfl M.gok rfl M.b_isinstance (de_var 0) (.ty rfl M.b_bool boot_bool (by decide) (by decide)))) (dt_or (dt_cmp op_isN d_is (nomark _) (de_var 1) de_non) (dt_or1 (dt_cmp op_isN d_is (nomark _) (de_var 0) de_non)))))) (dss_one (ds_ret (de_and (de_eq rfl hr (EQ.mono (by decide : 2 ≤ 7)) (nomark _) (de_isi (c := .ty "bool") rfl M.gok rfl M.b_isinstance (de_var 0) (.ty rfl M.b_bool boot_bool (by decide) (by decide))) (de_isi (c := .ty "bool") rfl M.gok rfl M.b_isinstance (de_var 1) (.ty rfl M.b_bool boot_bool (by decide) (by decide)))) (de_and (de_eq rfl hr (EQ.mono (by decide : 2 ≤ 7)) (nomark _) (de_cmp op_isN d_is (nomark _) (de_var 0) de_non) (de_cmp op_isN d_is (nomark _) (de_var 1) de_non)) (de_one (de_eq rfl hr (EQ.mono (by decide : 2 ≤ 7)) (nomark _) (de_var 0) (de_var 1))))))) dss_nil) (dss_one (ds_ret (de_and (de_eq rfl hr (EQ.mono (by decide : 2 ≤ 7)) (nomark _) (de_isi (c := .ty "str") rfl M.gok rfl M.b_isinstance (de_var 0) (.ty rfl M.b_str boot_str (by decide) (by decide))) (de_isi (c := .ty "str") rfl M.gok rfl M.b_isinstance (de_var 1) (.ty rfl M.b_str boot_str (by decide) (by decide)))) (de_and (de_isiA (cs := [.ty "int", .ty "str"]) rfl M.gok rfl M.b_isinstance (de_var 0) (pa_cons (ClsE.pe (B := ⟨G K, H, H0, ED, E⟩) (.ty rfl M.b_int boot_int (by decide) (by decide))) (pa_cons (ClsE.pe (B := ⟨G K, H, H0, ED, E⟩) (.ty rfl M.b_str boot_str (by decide) (by decide))) pa_nil))) (de_one (de_eq rfl hr (EQ.mono (by decide : 2 ≤ 7)) (nomark _) (de_var 0) (de_var 1))))))))), fun ds Q hl h => h⟩
theorem nd__law_lots : (["many", "found", "thing", "lot"] : List Str).Nodup := by decide
theorem sc__law_lots : FnScope ["many", "found", "thing", "lot"] ["many"] (defScope (top 34)) := ⟨rfl, rfl, rfl, by decide +kernel, rfl, by decide +kernel, by decide +kernel⟩
theorem v__law_lots (M : Md K mg base) : FnH P w (G K) mg base "_law_lots" 1 2 s__law_lots := by
  obtain ⟨fd, F⟩ := M.F__law_lots
  refine fnH_of (N := ["many", "found", "thing", "lot"]) (ps := ["many"]) (k := 1) F sc__law_lots M.g__law_lots (fun _ _ _ _ _ _ us hl => match us, hl with | [_], _ => rfl) (by decide) fun cdv A outer s0 H E H0 ED hcd hr hp bok => ?_
  exact ⟨_, (dss_cons (ds_set 1 nd__law_lots (de_lst (da_cons (de_tup da_nil) da_nil))) (dss_cons (ds_for (passes_of rfl) rfl (di_range1 rfl M.b_range (da_cons (de_var 0) da_nil)) (dg_name 2 nd__law_lots) (dss_one (ds_set 1 nd__law_lots (de_add rfl (de_var 1) (de_new (dn_lc rfl nd__law_lots (di_seq rfl (de_var 1)) (blkOk_by (own := [("lot", 3)]) (by kernel_rfl)) (fun _ _ _ _ _ => (dg_name 3 nd__law_lots)) (fun _ _ _ _ _ => dts_nil) (fun _ _ _ _ _ => (de_add rfl (de_var 3) (de_tup (da_cons (de_var 2) da_nil)))))))))) (dss_one (ds_ret (de_var 1))))), fun ds Q hl h => m__law_lots (gs (K := K)) ds Q ED h⟩
theorem nd__law_drawn : (["hand", "many", "way", "most", "weights", "covers", "found", "lot", "worth", "times_here", "cover", "thing", "k"] : List Str).Nodup := by decide
theorem sc__law_drawn : FnScope ["hand", "many", "way", "most", "weights", "covers", "found", "lot", "worth", "times_here", "cover", "thing", "k"] ["hand", "many"] (defScope (top 35)) := ⟨rfl, rfl, rfl, by decide +kernel, rfl, by decide +kernel, by decide +kernel⟩
theorem v__law_drawn (M : Md K mg base) (EQ : EqsH P w (G K) mg base 2 eqS) (h__law_any : FnH P w (G K) mg base "_law_any" 2 5 s__law_any) (h__law_draw : FnH P w (G K) mg base "_law_draw" 2 4 s__law_draw) (h__law_lots : FnH P w (G K) mg base "_law_lots" 1 2 s__law_lots) : FnH P w (G K) mg base "_law_drawn" 2 6 s__law_drawn := by
  obtain ⟨fd, F⟩ := M.F__law_drawn
  refine fnH_of (N := ["hand", "many", "way", "most", "weights", "covers", "found", "lot", "worth", "times_here", "cover", "thing", "k"]) (ps := ["hand", "many"]) (k := 5) F sc__law_drawn M.g__law_drawn (fun _ _ _ _ _ _ us hl => match us, hl with | [_, _], _ => rfl) (by decide) fun cdv A outer s0 H E H0 ED hcd hr hp bok => ?_
  exact ⟨_, (dss_cons (ds_asg (de_tup (da_cons (de_call (h__law_draw.mono (by decide : 4 ≤ 5)) rfl hr hp bok rfl (da_cons (de_var 0) (da_cons de_int da_nil))) (da_cons (de_call (h__law_any.mono (by decide : 5 ≤ 5)) rfl hr hp bok rfl (da_cons (de_var 0) (da_cons (de_lst (da_cons de_int (da_cons de_int (da_cons de_int (da_cons (de_pow de_int de_int) da_nil))))) da_nil))) da_nil))) (dg_tup rfl rfl (dgs_cons (dg_name 2 nd__law_drawn) (dgs_cons (dg_name 3 nd__law_drawn) dgs_nil)))) (dss_cons (ds_if (dt_eq rfl hr (EQ.mono (by decide : 2 ≤ 4)) (nomark _) (de_var 2) de_int) (dss_one (ds_ret (de_add rfl (de_tup (da_cons de_int da_nil)) (de_callTy call_tuple_of (d_tuple rfl) rfl M.b_tuple boot_tuple (da_cons (de_new (dn_lc rfl nd__law_drawn (di_seq rfl (de_slice rfl (de_call (h__law_lots.mono (by decide : 2 ≤ 5)) rfl hr hp bok rfl (da_cons (de_var 1) da_nil)) (do_some de_int) do_none)) (blkOk_by (own := [("lot", 7)]) (by kernel_rfl)) (fun _ _ _ _ _ => (dg_name 7 nd__law_drawn)) (fun _ _ _ _ _ => dts_nil) (fun _ _ _ _ _ => (de_sub (de_call (h__law_draw.mono (by decide : 4 ≤ 5)) rfl hr passL (Bx.no_ok _) rfl (da_cons (de_var 0) (da_cons (de_add rfl (de_mul rfl de_int (de_var 3)) de_int) da_nil))) (de_var 3))))) da_nil))))) dss_nil) (dss_cons (ds_set 4 nd__law_drawn (de_new (dn_lc rfl nd__law_drawn (di_range1 rfl M.b_range (da_cons (de_var 1) da_nil)) (blkOk_by (own := [("thing", 11)]) (by kernel_rfl)) (fun _ _ _ _ _ => (dg_name 11 nd__law_drawn)) (fun _ _ _ _ _ => dts_nil) (fun _ _ _ _ _ => (de_sub (de_call (h__law_draw.mono (by decide : 4 ≤ 5)) rfl hr passL (Bx.no_ok _) rfl (da_cons (de_var 0) (da_cons de_int da_nil))) de_int))))) (dss_cons (ds_setLc 5 rfl nd__law_drawn (di_range1 rfl M.b_range (da_cons de_int da_nil)) (blkOk_by (own := [("k", 12)]) (by kernel_rfl)) (fun _ _ _ _ _ => (dg_name 12 nd__law_drawn)) (fun _ _ _ _ _ => dts_nil) (fun _ _ _ _ _ => (de_tup (da_cons (de_add rfl de_int (de_call (h__law_draw.mono (by decide : 4 ≤ 5)) rfl hr passL (Bx.no_ok _) rfl (da_cons (de_var 0) (da_cons de_int da_nil)))) (da_cons (de_new (dn_lc rfl nd__law_drawn (di_range1 rfl M.b_range (da_cons (de_var 1) da_nil)) (blkOk_by (own := [("thing", 11)]) (by kernel_rfl)) (fun _ _ _ _ _ => (dg_name 11 nd__law_drawn)) (fun _ _ _ _ _ => (dts_one (dt_eq rfl hr (EQ.mono (by decide : 2 ≤ 4)) (nomark _) (de_call (h__law_draw.mono (by decide : 4 ≤ 5)) rfl hr passL (Bx.no_ok _) rfl (da_cons (de_var 0) (da_cons de_int da_nil))) de_int))) (fun _ _ _ _ _ => (de_var 11)))) da_nil))))) (dss_cons (ds_own 6 nd__law_drawn (dn_lst da_nil)) (dss_cons (ds_for (passes_of rfl) rfl (di_seq rfl (de_call (h__law_lots.mono (by decide : 2 ≤ 5)) rfl hr hp bok rfl (da_cons (de_var 1) da_nil))) (dg_name 7 nd__law_drawn) (dss_cons (ds_set 8 nd__law_drawn (de_if (dt_ne rfl hr (EQ.mono (by decide : 2 ≤ 4)) (nomark _) (de_var 2) de_int) (de_callB (cr_sum rfl) d_sum rfl M.b_sum boot_sum (da_cons (de_new (dn_lc rfl nd__law_drawn (di_seq rfl (de_var 7)) (blkOk_by (own := [("thing", 11)]) (by kernel_rfl)) (fun _ _ _ _ _ => (dg_name 11 nd__law_drawn)) (fun _ _ _ _ _ => dts_nil) (fun _ _ _ _ _ => (de_ix rfl (de_var 4) (de_var 11))))) da_nil)) de_int)) (dss_cons (ds_for (passes_of rfl) rfl (di_seq rfl (de_if (dt_cmp op_gt d_gt (nomark _) (de_var 2) de_int) (de_var 5) (de_lst da_nil))) (dg_tup rfl rfl (dgs_cons (dg_name 9 nd__law_drawn) (dgs_cons (dg_name 10 nd__law_drawn) dgs_nil))) (dss_one (ds_set 8 nd__law_drawn (de_add rfl (de_var 8) (de_if (dt_truth rfl (de_callB (cr_any rfl) d_any rfl M.b_any boot_any (da_cons (de_new (dn_lc rfl nd__law_drawn (di_seq rfl (de_var 7)) (blkOk_by (own := [("thing", 11)]) (by kernel_rfl)) (fun _ _ _ _ _ => (dg_name 11 nd__law_drawn)) (fun _ _ _ _ _ => dts_nil) (fun _ _ _ _ _ => (de_in rfl hr (by with_unfolding_all rfl) (de_var 11) (de_var 10))))) da_nil))) (de_var 9) de_int))))) (dss_one (ds_append 6 (de_var 8)))))) (dss_one (ds_frz 6 (ds_ret (de_callTy call_tuple_of (d_tuple rfl) rfl M.b_tuple boot_tuple (da_cons (de_var 6) da_nil))))))))))), fun ds Q hl h => m__law_drawn (gs (K := K)) ds Q ED h⟩
theorem nd__law_is_told : (["told", "many", "numbers"] : List Str).Nodup := by decide
theorem sc__law_is_told : FnScope ["told", "many", "numbers"] ["told", "many", "numbers"] (defScope (top 36)) := ⟨rfl, rfl, rfl, by decide +kernel, rfl, by decide +kernel, by decide +kernel⟩
theorem v__law_is_told (M : Md K mg base) (h__law_same : FnH P w (G K) mg base "_law_same" 2 9 s__law_same) : FnH P w (G K) mg base "_law_is_told" 3 10 s__law_is_told := by
  obtain ⟨fd, F⟩ := M.F__law_is_told
  refine fnH_of (N := ["told", "many", "numbers"]) (ps := ["told", "many", "numbers"]) (k := 9) F sc__law_is_told M.g__law_is_told (fun _ _ _ _ _ _ us hl => match us, hl with | [_, _, _], _ => rfl) (by decide) fun cdv A outer s0 H E H0 ED hcd hr hp bok => ?_
  exact ⟨_, (dss_one (ds_ret (de_and (de_isi (c := .own 0) rfl M.gok rfl M.b_isinstance (de_var 0) (.own rfl M.g_Table (by decide))) (de_one (de_call (h__law_same.mono (by decide : 9 ≤ 9)) rfl hr hp bok rfl (da_cons (de_tup (da_cons (de_fld rfl M.gok (de_var 0)) (da_cons (de_fld rfl M.gok (de_var 0)) da_nil))) (da_cons (de_tup (da_cons (de_var 1) (da_cons (de_callTy call_tuple_of (d_tuple rfl) rfl M.b_tuple boot_tuple (da_cons (de_var 2) da_nil)) da_nil))) da_nil))))))), fun ds Q hl h => m__law_is_told (gs (K := K)) ds Q ED h⟩
theorem nd__law_other_side : (["many", "numbers", "whole", "at"] : List Str).Nodup := by decide
theorem sc__law_other_side : FnScope ["many", "numbers", "whole", "at"] ["many", "numbers"] (defScope (top 37)) := ⟨rfl, rfl, rfl, by decide +kernel, rfl, by decide +kernel, by decide +kernel⟩
theorem v__law_other_side (M : Md K mg base) : FnH P w (G K) mg base "_law_other_side" 2 2 s__law_other_side := by
  obtain ⟨fd, F⟩ := M.F__law_other_side
  refine fnH_of (N := ["many", "numbers", "whole", "at"]) (ps := ["many", "numbers"]) (k := 1) F sc__law_other_side M.g__law_other_side (fun _ _ _ _ _ _ us hl => match us, hl with | [_, _], _ => rfl) (by decide) fun cdv A outer s0 H E H0 ED hcd hr hp bok => ?_
  exact ⟨_, (dss_cons (ds_set 2 nd__law_other_side (de_sub (de_shl de_int (de_var 0)) de_int)) (dss_one (ds_ret (de_new (dn_lc rfl nd__law_other_side (di_range1 rfl M.b_range (da_cons (de_add rfl (de_var 2) de_int) da_nil)) (blkOk_by (own := [("at", 3)]) (by kernel_rfl)) (fun _ _ _ _ _ => (dg_name 3 nd__law_other_side)) (fun _ _ _ _ _ => dts_nil) (fun _ _ _ _ _ => (de_sub (de_ix rfl (de_var 1) (de_var 2)) (de_ix rfl (de_var 1) (de_sub (de_var 2) (de_var 3)))))))))), fun ds Q hl h => m__law_other_side (gs (K := K)) ds Q ED h⟩
theorem nd__law_is_pair_right : (["many", "one", "other", "number", "first", "last", "here", "there"] : List Str).Nodup := by decide
theorem sc__law_is_pair_right : FnScope ["many", "one", "other", "number", "first", "last", "here", "there"] ["many", "one", "other", "number"] (defScope (top 38)) := ⟨rfl, rfl, rfl, by decide +kernel, rfl, by decide +kernel, by decide +kernel⟩
theorem v__law_is_pair_right (M : Md K mg base) (EQ : EqsH P w (G K) mg base 2 eqS) (h__law_is_told : FnH P w (G K) mg base "_law_is_told" 3 10 s__law_is_told) (h_added : FnH P w (G K) mg base "added" 2 8 s_added) (h_lessened : FnH P w (G K) mg base "lessened" 2 8 s_lessened) (h_other_side : FnH P w (G K) mg base "other_side" 1 8 s_other_side) (h_times : FnH P w (G K) mg base "times" 2 8 s_times) (h_Table : MkH P w (G K) mg base "Table" 0 2 4 mk_Table) : FnH P w (G K) mg base "_law_is_pair_right" 4 11 s__law_is_pair_right := by
  obtain ⟨fd, F⟩ := M.F__law_is_pair_right
  refine fnH_of (N := ["many", "one", "other", "number", "first", "last", "here", "there"]) (ps := ["many", "one", "other", "number"]) (k := 10) F sc__law_is_pair_right M.g__law_is_pair_right (fun _ _ _ _ _ _ us hl => match us, hl with | [_, _, _, _], _ => rfl) (by decide) fun cdv A outer s0 H E H0 ED hcd hr hp bok => ?_
  exact ⟨_, (dss_cons (ds_par 4 5 rfl nd__law_is_pair_right (da_cons (de_make (h_Table.mono (by decide : 4 ≤ 9)) rfl hr hp bok rfl (da_cons (de_var 0) (da_cons (de_var 1) da_nil))) (da_cons (de_make (h_Table.mono (by decide : 4 ≤ 9)) rfl hr hp bok rfl (da_cons (de_var 0) (da_cons (de_var 2) da_nil))) da_nil))) (dss_cons (ds_if (dt_not (dt_truth rfl (de_call (h__law_is_told.mono (by decide : 10 ≤ 10)) rfl hr hp bok rfl (da_cons (de_call (h_added.mono (by decide : 8 ≤ 10)) rfl hr hp bok rfl (da_cons (de_var 4) (da_cons (de_var 5) da_nil))) (da_cons (de_var 0) (da_cons (de_new (dn_lc rfl nd__law_is_pair_right (di_zip rfl rfl M.b_zip (da_cons (de_var 1) (da_cons (de_var 2) da_nil))) (blkOk_by (own := [("here", 6), ("there", 7)]) (by kernel_rfl)) (fun _ _ _ _ _ => (dg_tup rfl rfl (dgs_cons (dg_name 6 nd__law_is_pair_right) (dgs_cons (dg_name 7 nd__law_is_pair_right) dgs_nil)))) (fun _ _ _ _ _ => dts_nil) (fun _ _ _ _ _ => (de_add rfl (de_var 6) (de_var 7))))) da_nil)))))) (dss_one (ds_ret de_bl)) dss_nil) (dss_cons (ds_if (dt_not (dt_truth rfl (de_call (h__law_is_told.mono (by decide : 10 ≤ 10)) rfl hr hp bok rfl (da_cons (de_call (h_lessened.mono (by decide : 8 ≤ 10)) rfl hr hp bok rfl (da_cons (de_var 4) (da_cons (de_var 5) da_nil))) (da_cons (de_var 0) (da_cons (de_new (dn_lc rfl nd__law_is_pair_right (di_zip rfl rfl M.b_zip (da_cons (de_var 1) (da_cons (de_var 2) da_nil))) (blkOk_by (own := [("here", 6), ("there", 7)]) (by kernel_rfl)) (fun _ _ _ _ _ => (dg_tup rfl rfl (dgs_cons (dg_name 6 nd__law_is_pair_right) (dgs_cons (dg_name 7 nd__law_is_pair_right) dgs_nil)))) (fun _ _ _ _ _ => dts_nil) (fun _ _ _ _ _ => (de_sub (de_var 6) (de_var 7))))) da_nil)))))) (dss_one (ds_ret de_bl)) dss_nil) (dss_cons (ds_if (dt_not (dt_truth rfl (de_call (h__law_is_told.mono (by decide : 10 ≤ 10)) rfl hr hp bok rfl (da_cons (de_call (h_times.mono (by decide : 8 ≤ 10)) rfl hr hp bok rfl (da_cons (de_var 4) (da_cons (de_var 3) da_nil))) (da_cons (de_var 0) (da_cons (de_new (dn_lc rfl nd__law_is_pair_right (di_seq rfl (de_var 1)) (blkOk_by (own := [("here", 6)]) (by kernel_rfl)) (fun _ _ _ _ _ => (dg_name 6 nd__law_is_pair_right)) (fun _ _ _ _ _ => dts_nil) (fun _ _ _ _ _ => (de_mul rfl (de_var 3) (de_var 6))))) da_nil)))))) (dss_one (ds_ret de_bl)) dss_nil) (dss_cons (ds_if (PW.pt (dt_or (dt_ne rfl hr (EQ.mono (by decide : 2 ≤ 9)) (nomark _) (de_call (h_added.mono (by decide : 8 ≤ 10)) rfl hr hp bok rfl (da_cons (de_call (h_lessened.mono (by decide : 8 ≤ 10)) rfl hr hp bok rfl (da_cons (de_var 4) (da_cons (de_var 5) da_nil))) (da_cons (de_var 5) da_nil))) (de_var 4)) (dt_or1 (dt_ne rfl hr (EQ.mono (by decide : 2 ≤ 9)) (nomark _) (de_call (h_added.mono (by decide : 8 ≤ 10)) rfl hr hp bok rfl (da_cons (de_var 4) (da_cons (de_var 5) da_nil))) (de_call (h_added.mono (by decide : 8 ≤ 10)) rfl hr hp bok rfl (da_cons (de_var 5) (da_cons (de_var 4) da_nil))))))) (dss_one (ds_ret de_bl)) dss_nil) (dss_cons (ds_if (PW.pt (dt_or (dt_ne rfl hr (EQ.mono (by decide : 2 ≤ 9)) (nomark _) (de_call (h_lessened.mono (by decide : 8 ≤ 10)) rfl hr hp bok rfl (da_cons (de_var 4) (da_cons (de_var 5) da_nil))) (de_call (h_added.mono (by decide : 8 ≤ 10)) rfl hr hp bok rfl (da_cons (de_var 4) (da_cons (de_call (h_times.mono (by decide : 8 ≤ 10)) rfl hr hp bok rfl (da_cons (de_var 5) (da_cons (de_neg de_int) da_nil))) da_nil)))) (dt_or1 (dt_ne rfl hr (EQ.mono (by decide : 2 ≤ 9)) (nomark _) (de_call (h_times.mono (by decide : 8 ≤ 10)) rfl hr hp bok rfl (da_cons (de_var 4) (da_cons de_int da_nil))) (de_call (h_lessened.mono (by decide : 8 ≤ 10)) rfl hr hp bok rfl (da_cons (de_var 5) (da_cons (de_var 5) da_nil))))))) (dss_one (ds_ret de_bl)) dss_nil) (dss_cons (ds_if (dt_ne rfl hr (EQ.mono (by decide : 2 ≤ 9)) (nomark _) (de_call (h_times.mono (by decide : 8 ≤ 10)) rfl hr hp bok rfl (da_cons (de_call (h_added.mono (by decide : 8 ≤ 10)) rfl hr hp bok rfl (da_cons (de_var 4) (da_cons (de_var 5) da_nil))) (da_cons (de_var 3) da_nil))) (de_call (h_added.mono (by decide : 8 ≤ 10)) rfl hr hp bok rfl (da_cons (de_call (h_times.mono (by decide : 8 ≤ 10)) rfl hr hp bok rfl (da_cons (de_var 4) (da_cons (de_var 3) da_nil))) (da_cons (de_call (h_times.mono (by decide : 8 ≤ 10)) rfl hr hp bok rfl (da_cons (de_var 5) (da_cons (de_var 3) da_nil))) da_nil)))) (dss_one (ds_ret de_bl)) dss_nil) (dss_one (ds_ret (de_eq rfl hr (EQ.mono (by decide : 2 ≤ 9)) (nomark _) (de_call (h_other_side.mono (by decide : 8 ≤ 10)) rfl hr hp bok rfl (da_cons (de_call (h_added.mono (by decide : 8 ≤ 10)) rfl hr hp bok rfl (da_cons (de_var 4) (da_cons (de_var 5) da_nil))) da_nil)) (de_call (h_added.mono (by decide : 8 ≤ 10)) rfl hr hp bok rfl (da_cons (de_call (h_other_side.mono (by decide : 8 ≤ 10)) rfl hr hp bok rfl (da_cons (de_var 4) da_nil)) (da_cons (de_call (h_other_side.mono (by decide : 8 ≤ 10)) rfl hr hp bok rfl (da_cons (de_var 5) da_nil)) da_nil))))))))))))), fun ds Q hl h => m__law_is_pair_right (gs (K := K)) ds Q ED h⟩
theorem nd_law : (["script", "hand", "turn", "many", "one", "other", "every", "number", "board", "row", "sizes", "thing", "lot"] : List Str).Nodup := by decide
theorem sc_law : FnScope ["script", "hand", "turn", "many", "one", "other", "every", "number", "board", "row", "sizes", "thing", "lot"] ["script"] (defScope (top 39)) := ⟨rfl, rfl, rfl, by decide +kernel, rfl, by decide +kernel, by decide +kernel⟩
theorem v_law {fd : FuncData} (M : Md K mg base) (EQ : EqsH P w (G K) mg base 2 eqS) (h__law_any : FnH P w (G K) mg base "_law_any" 2 5 s__law_any) (h__law_draw : FnH P w (G K) mg base "_law_draw" 2 4 s__law_draw) (h__law_drawn : FnH P w (G K) mg base "_law_drawn" 2 6 s__law_drawn) (h__law_hand : FnH P w (G K) mg base "_law_hand" 1 2 s__law_hand) (h__law_is_pair_right : FnH P w (G K) mg base "_law_is_pair_right" 4 11 s__law_is_pair_right) (h__law_is_told : FnH P w (G K) mg base "_law_is_told" 3 10 s__law_is_told) (h__law_lots : FnH P w (G K) mg base "_law_lots" 1 2 s__law_lots) (h__law_other_side : FnH P w (G K) mg base "_law_other_side" 2 2 s__law_other_side) (h_of_row : FnH P w (G K) mg base "of_row" 1 8 s_of_row) (h_of_sizes : FnH P w (G K) mg base "of_sizes" 1 8 s_of_sizes) (h_other_side : FnH P w (G K) mg base "other_side" 1 8 s_other_side) (h_Table : MkH P w (G K) mg base "Table" 0 2 4 mk_Table) (F : FunD K "law" "law" (defArgs (top 39)) (defBody (top 39)) (defScope (top 39)) [] [] (He.fAd K ("law", none)) fd) : FnOk P w (G K).K mg base (L2.CX P w) 12 (He.fAd K ("law", none)) fd ["script"] (liftSp (G K) 1 s_law) := by
  refine fnOk_of (N := ["script", "hand", "turn", "many", "one", "other", "every", "number", "board", "row", "sizes", "thing", "lot"]) (ps := ["script"]) (k := 11) F sc_law (by decide) fun cdv A outer s0 H E H0 ED hcd hr hp bok => ?_
  exact ⟨_, (dss_cons (ds_set 1 nd_law (de_call (h__law_hand.mono (by decide : 2 ≤ 11)) rfl hr hp bok rfl (da_cons (de_var 0) da_nil))) (dss_cons (ds_for (passes_of rfl) rfl (di_range1 rfl M.b_range (da_cons de_int da_nil)) (dg_name 2 nd_law) (dss_cons (ds_set 3 nd_law (de_add rfl de_int (de_call (h__law_draw.mono (by decide : 4 ≤ 11)) rfl hr hp bok rfl (da_cons (de_var 1) (da_cons (de_call (h__law_any.mono (by decide : 5 ≤ 11)) rfl hr hp bok rfl (da_cons (de_var 1) (da_cons (de_lst (da_cons de_int (da_cons de_int (da_cons de_int da_nil)))) da_nil))) da_nil))))) (dss_cons (ds_par3 4 5 6 rfl nd_law (da_cons (de_call (h__law_drawn.mono (by decide : 6 ≤ 11)) rfl hr hp bok rfl (da_cons (de_var 1) (da_cons (de_var 3) da_nil))) (da_cons (de_call (h__law_drawn.mono (by decide : 6 ≤ 11)) rfl hr hp bok rfl (da_cons (de_var 1) (da_cons (de_var 3) da_nil))) (da_cons (de_call (h__law_lots.mono (by decide : 2 ≤ 11)) rfl hr hp bok rfl (da_cons (de_var 3) da_nil)) da_nil)))) (dss_cons (ds_set 7 nd_law (de_call (h__law_any.mono (by decide : 5 ≤ 11)) rfl hr hp bok rfl (da_cons (de_var 1) (da_cons (de_lst (da_cons de_int (da_cons de_int (da_cons (de_neg de_int) (da_cons de_int (da_cons (de_sub (de_call (h__law_draw.mono (by decide : 4 ≤ 11)) rfl hr hp bok rfl (da_cons (de_var 1) (da_cons de_int da_nil))) de_int) (da_cons (de_pow de_int de_int) da_nil))))))) da_nil)))) (dss_cons (ds_if (dt_not (dt_truth rfl (de_call (h__law_is_pair_right.mono (by decide : 11 ≤ 11)) rfl hr hp bok rfl (da_cons (de_var 3) (da_cons (de_var 4) (da_cons (de_var 5) (da_cons (de_var 7) da_nil))))))) (dss_one (ds_ret de_bl)) dss_nil) (dss_cons (ds_set 8 nd_law (de_make (h_Table.mono (by decide : 4 ≤ 10)) rfl hr hp bok rfl (da_cons (de_var 3) (da_cons (de_var 4) da_nil)))) (dss_cons (ds_if (dt_not (dt_truth rfl (de_call (h__law_is_told.mono (by decide : 10 ≤ 11)) rfl hr hp bok rfl (da_cons (de_call (h_other_side.mono (by decide : 8 ≤ 11)) rfl hr hp bok rfl (da_cons (de_var 8) da_nil)) (da_cons (de_var 3) (da_cons (de_call (h__law_other_side.mono (by decide : 2 ≤ 11)) rfl hr hp bok rfl (da_cons (de_var 3) (da_cons (de_var 4) da_nil))) da_nil)))))) (dss_one (ds_ret de_bl)) dss_nil) (dss_cons (ds_if (dt_ne rfl hr (EQ.mono (by decide : 2 ≤ 10)) (nomark _) (de_call (h_other_side.mono (by decide : 8 ≤ 11)) rfl hr hp bok rfl (da_cons (de_call (h_other_side.mono (by decide : 8 ≤ 11)) rfl hr hp bok rfl (da_cons (de_var 8) da_nil)) da_nil)) (de_var 8)) (dss_one (ds_ret de_bl)) dss_nil) (dss_cons (ds_set 9 nd_law (de_callTy call_tuple_of (d_tuple rfl) rfl M.b_tuple boot_tuple (da_cons (de_new (dn_lc rfl nd_law (di_range1 rfl M.b_range (da_cons (de_var 3) da_nil)) (blkOk_by (own := [("thing", 11)]) (by kernel_rfl)) (fun _ _ _ _ _ => (dg_name 11 nd_law)) (fun _ _ _ _ _ => dts_nil) (fun _ _ _ _ _ => (de_sub (de_call (h__law_draw.mono (by decide : 4 ≤ 11)) rfl hr passL (Bx.no_ok _) rfl (da_cons (de_var 1) (da_cons de_int da_nil))) de_int)))) da_nil))) (dss_cons (ds_if (dt_not (dt_truth rfl (de_call (h__law_is_told.mono (by decide : 10 ≤ 11)) rfl hr hp bok rfl (da_cons (de_call (h_of_row.mono (by decide : 8 ≤ 11)) rfl hr hp bok rfl (da_cons (de_var 9) da_nil)) (da_cons (de_var 3) (da_cons (de_new (dn_lc rfl nd_law (di_seq rfl (de_var 6)) (blkOk_by (own := [("lot", 12)]) (by kernel_rfl)) (fun _ _ _ _ _ => (dg_name 12 nd_law)) (fun _ _ _ _ _ => dts_nil) (fun _ _ _ _ _ => (de_callB (cr_sum rfl) d_sum rfl M.b_sum boot_sum (da_cons (de_new (dn_lc rfl nd_law (di_seq rfl (de_var 12)) (blkOk_by (own := [("thing", 11)]) (by kernel_rfl)) (fun _ _ _ _ _ => (dg_name 11 nd_law)) (fun _ _ _ _ _ => dts_nil) (fun _ _ _ _ _ => (de_ix rfl (de_var 9) (de_var 11))))) da_nil))))) da_nil)))))) (dss_one (ds_ret de_bl)) dss_nil) (dss_cons (ds_if (dt_ne rfl hr (EQ.mono (by decide : 2 ≤ 10)) (nomark _) (de_call (h_other_side.mono (by decide : 8 ≤ 11)) rfl hr hp bok rfl (da_cons (de_call (h_of_row.mono (by decide : 8 ≤ 11)) rfl hr hp bok rfl (da_cons (de_var 9) da_nil)) da_nil)) (de_call (h_of_row.mono (by decide : 8 ≤ 11)) rfl hr hp bok rfl (da_cons (de_var 9) da_nil))) (dss_one (ds_ret de_bl)) dss_nil) (dss_cons (ds_set 10 nd_law (de_add rfl (de_tup (da_cons de_int da_nil)) (de_callTy call_tuple_of (d_tuple rfl) rfl M.b_tuple boot_tuple (da_cons (de_new (dn_lc rfl nd_law (di_range1 rfl M.b_range (da_cons (de_var 3) da_nil)) (blkOk_by (own := [("thing", 11)]) (by kernel_rfl)) (fun _ _ _ _ _ => (dg_name 11 nd_law)) (fun _ _ _ _ _ => dts_nil) (fun _ _ _ _ _ => (de_sub (de_call (h__law_draw.mono (by decide : 4 ≤ 11)) rfl hr passL (Bx.no_ok _) rfl (da_cons (de_var 1) (da_cons de_int da_nil))) de_int)))) da_nil)))) (dss_cons (ds_if (dt_not (dt_truth rfl (de_call (h__law_is_told.mono (by decide : 10 ≤ 11)) rfl hr hp bok rfl (da_cons (de_call (h_of_sizes.mono (by decide : 8 ≤ 11)) rfl hr hp bok rfl (da_cons (de_var 10) da_nil)) (da_cons (de_var 3) (da_cons (de_new (dn_lc rfl nd_law (di_seq rfl (de_var 6)) (blkOk_by (own := [("lot", 12)]) (by kernel_rfl)) (fun _ _ _ _ _ => (dg_name 12 nd_law)) (fun _ _ _ _ _ => dts_nil) (fun _ _ _ _ _ => (de_ix rfl (de_var 10) (de_len rfl rfl M.b_len (da_cons (de_var 12) da_nil)))))) da_nil)))))) (dss_one (ds_ret de_bl)) dss_nil) (dss_one (ds_if (dt_ne rfl hr (EQ.mono (by decide : 2 ≤ 10)) (nomark _) (de_call (h_of_sizes.mono (by decide : 8 ≤ 11)) rfl hr hp bok rfl (da_cons (de_callTy call_tuple_of (d_tuple rfl) rfl M.b_tuple boot_tuple (da_cons (de_listRg rfl rfl M.b_list rfl M.b_range (de_add rfl (de_var 3) de_int)) da_nil)) da_nil)) (de_call (h_of_row.mono (by decide : 8 ≤ 11)) rfl hr hp bok rfl (da_cons (de_mul rfl (de_tup (da_cons de_int da_nil)) (de_var 3)) da_nil))) (dss_one (ds_ret de_bl)) dss_nil))))))))))))))) (dss_one (ds_ret de_bl)))), fun ds Q hl h => m_law (gs (K := K)) ds Q ED h⟩
theorem ndL_0 : (["mask", "one", "other"] : List Str).Nodup := by decide
theorem vl_0 (M : Md K mg base) : LamOk P w (G K) mg base 6 0 := by
  refine lam_of (N := ["mask", "one", "other"]) (k := 5) (NdefX.nscope_by (by kernel_rfl)) (fun _ _ _ _ us hl => match us, hl with | [_], _ => rfl) fun A outer s H H0 f cl c hr => ?_
  exact ⟨_, (de_add rfl (de_ix rfl (de_fld rfl M.gok (de_var 1)) (de_var 0)) (de_ix rfl (de_fld rfl M.gok (de_var 2)) (de_var 0))), fun cs ds Q hl1 hl2 h => mL_0 (gs (K := K)) cs ds Q h⟩
theorem ndL_1 : (["mask", "one", "other"] : List Str).Nodup := by decide
theorem vl_1 (M : Md K mg base) : LamOk P w (G K) mg base 6 1 := by
  refine lam_of (N := ["mask", "one", "other"]) (k := 5) (NdefX.nscope_by (by kernel_rfl)) (fun _ _ _ _ us hl => match us, hl with | [_], _ => rfl) fun A outer s H H0 f cl c hr => ?_
  exact ⟨_, (de_sub (de_ix rfl (de_fld rfl M.gok (de_var 1)) (de_var 0)) (de_ix rfl (de_fld rfl M.gok (de_var 2)) (de_var 0))), fun cs ds Q hl1 hl2 h => mL_1 (gs (K := K)) cs ds Q h⟩
theorem ndL_2 : (["mask", "number", "table"] : List Str).Nodup := by decide
theorem vl_2 (M : Md K mg base) : LamOk P w (G K) mg base 6 2 := by
  refine lam_of (N := ["mask", "number", "table"]) (k := 5) (NdefX.nscope_by (by kernel_rfl)) (fun _ _ _ _ us hl => match us, hl with | [_], _ => rfl) fun A outer s H H0 f cl c hr => ?_
  exact ⟨_, (de_mul rfl (de_ix rfl (de_fld rfl M.gok (de_var 2)) (de_var 0)) (de_var 1)), fun cs ds Q hl1 hl2 h => mL_2 (gs (K := K)) cs ds Q h⟩
theorem ndL_3 : (["mask", "row"] : List Str).Nodup := by decide
theorem vl_3 (M : Md K mg base) (h_row_sum : FnH P w (G K) mg base "row_sum" 2 5 s_row_sum) : LamOk P w (G K) mg base 6 3 := by
  refine lam_of (N := ["mask", "row"]) (k := 5) (NdefX.nscope_by (by kernel_rfl)) (fun _ _ _ _ us hl => match us, hl with | [_], _ => rfl) fun A outer s H H0 f cl c hr => ?_
  exact ⟨_, (de_call (h_row_sum.mono (by decide : 5 ≤ 5)) rfl hr passL (Bx.no_ok ⟨G K, H, H0, fun _ => False, E0⟩) rfl (da_cons (de_var 1) (da_cons (de_var 0) da_nil))), fun cs ds Q hl1 hl2 h => mL_3 (gs (K := K)) cs ds Q h⟩
theorem ndL_4 : (["mask", "sizes"] : List Str).Nodup := by decide
theorem vl_4 (M : Md K mg base) (h_lot_of : FnH P w (G K) mg base "lot_of" 1 4 s_lot_of) : LamOk P w (G K) mg base 6 4 := by
  refine lam_of (N := ["mask", "sizes"]) (k := 5) (NdefX.nscope_by (by kernel_rfl)) (fun _ _ _ _ us hl => match us, hl with | [_], _ => rfl) fun A outer s H H0 f cl c hr => ?_
  exact ⟨_, (de_ix rfl (de_var 1) (de_len rfl rfl M.b_len (da_cons (de_call (h_lot_of.mono (by decide : 4 ≤ 5)) rfl hr passL (Bx.no_ok ⟨G K, H, H0, fun _ => False, E0⟩) rfl (da_cons (de_var 0) da_nil)) da_nil))), fun cs ds Q hl1 hl2 h => mL_4 (gs (K := K)) cs ds Q h⟩
theorem ndL_5 : (["mask", "table", "whole"] : List Str).Nodup := by decide
theorem vl_5 (M : Md K mg base) : LamOk P w (G K) mg base 6 5 := by
  refine lam_of (N := ["mask", "table", "whole"]) (k := 5) (NdefX.nscope_by (by kernel_rfl)) (fun _ _ _ _ us hl => match us, hl with | [_], _ => rfl) fun A outer s H H0 f cl c hr => ?_
  exact ⟨_, (de_sub (de_ix rfl (de_fld rfl M.gok (de_var 1)) (de_var 2)) (de_ix rfl (de_fld rfl M.gok (de_var 1)) (de_sub (de_var 2) (de_var 0)))), fun cs ds Q hl1 hl2 h => mL_5 (gs (K := K)) cs ds Q h⟩
end
end K02
end
section
set_option Elab.async false
set_option linter.all false
set_option maxRecDepth 100000
set_option maxHeartbeats 4000000
set_option autoImplicit false
set_option maxHeartbeats 0
namespace K02
open PySem PySem.Spec L2 DL PyProof.Rows

abbrev R : PySem.W.OpenRow := PySem.W.OpenLaw.row PySem.Challenge.rw_bringsless_k02_whole_tables_summed
def dd_is_integer : He.DefD := ⟨("is_integer", none), "is_integer", "is_integer", defArgs (top 12), defBody (top 12), defScope (top 12), [], []⟩
def dd_is_between : He.DefD := ⟨("is_between", none), "is_between", "is_between", defArgs (top 13), defBody (top 13), defScope (top 13), [], []⟩
def dd_lot_of : He.DefD := ⟨("lot_of", none), "lot_of", "lot_of", defArgs (top 16), defBody (top 16), defScope (top 16), [], []⟩
def dd_Table_init : He.DefD := ⟨("Table", some "__init__"), "__init__", "Table.__init__", defArgs (mth 17 0), defBody (mth 17 0), defScope (mth 17 0), [], []⟩
def dd_Table_eq : He.DefD := ⟨("Table", some "__eq__"), "__eq__", "Table.__eq__", defArgs (mth 17 1), defBody (mth 17 1), defScope (mth 17 1), [], []⟩
def dd_check_table : He.DefD := ⟨("check_table", none), "check_table", "check_table", defArgs (top 18), defBody (top 18), defScope (top 18), [], []⟩
def dd_check_tables : He.DefD := ⟨("check_tables", none), "check_tables", "check_tables", defArgs (top 19), defBody (top 19), defScope (top 19), [], []⟩
def dd_built : He.DefD := ⟨("built", none), "built", "built", defArgs (top 20), defBody (top 20), defScope (top 20), [], []⟩
def dd_added : He.DefD := ⟨("added", none), "added", "added", defArgs (top 21), defBody (top 21), defScope (top 21), [], []⟩
def dd_lessened : He.DefD := ⟨("lessened", none), "lessened", "lessened", defArgs (top 22), defBody (top 22), defScope (top 22), [], []⟩
def dd_times : He.DefD := ⟨("times", none), "times", "times", defArgs (top 23), defBody (top 23), defScope (top 23), [], []⟩
def dd_is_row : He.DefD := ⟨("is_row", none), "is_row", "is_row", defArgs (top 24), defBody (top 24), defScope (top 24), [], []⟩
def dd_row_sum : He.DefD := ⟨("row_sum", none), "row_sum", "row_sum", defArgs (top 25), defBody (top 25), defScope (top 25), [], []⟩
def dd_of_row : He.DefD := ⟨("of_row", none), "of_row", "of_row", defArgs (top 26), defBody (top 26), defScope (top 26), [], []⟩
def dd_of_sizes : He.DefD := ⟨("of_sizes", none), "of_sizes", "of_sizes", defArgs (top 27), defBody (top 27), defScope (top 27), [], []⟩
def dd_other_side : He.DefD := ⟨("other_side", none), "other_side", "other_side", defArgs (top 28), defBody (top 28), defScope (top 28), [], []⟩
def dd__law_hand : He.DefD := ⟨("_law_hand", none), "_law_hand", "_law_hand", defArgs (top 30), defBody (top 30), defScope (top 30), [], []⟩
def dd__law_draw : He.DefD := ⟨("_law_draw", none), "_law_draw", "_law_draw", defArgs (top 31), defBody (top 31), defScope (top 31), [], []⟩
def dd__law_any : He.DefD := ⟨("_law_any", none), "_law_any", "_law_any", defArgs (top 32), defBody (top 32), defScope (top 32), [], []⟩
def dd__law_same : He.DefD := ⟨("_law_same", none), "_law_same", "_law_same", defArgs (top 33), defBody (top 33), defScope (top 33), [], []⟩
def dd__law_lots : He.DefD := ⟨("_law_lots", none), "_law_lots", "_law_lots", defArgs (top 34), defBody (top 34), defScope (top 34), [], []⟩
def dd__law_drawn : He.DefD := ⟨("_law_drawn", none), "_law_drawn", "_law_drawn", defArgs (top 35), defBody (top 35), defScope (top 35), [], []⟩
def dd__law_is_told : He.DefD := ⟨("_law_is_told", none), "_law_is_told", "_law_is_told", defArgs (top 36), defBody (top 36), defScope (top 36), [], []⟩
def dd__law_other_side : He.DefD := ⟨("_law_other_side", none), "_law_other_side", "_law_other_side", defArgs (top 37), defBody (top 37), defScope (top 37), [], []⟩
def dd__law_is_pair_right : He.DefD := ⟨("_law_is_pair_right", none), "_law_is_pair_right", "_law_is_pair_right", defArgs (top 38), defBody (top 38), defScope (top 38), [], []⟩
def dd_law : He.DefD := ⟨("law", none), "law", "law", defArgs (top 39), defBody (top 39), defScope (top 39), [], []⟩
def fn : List He.DefD := [dd_is_integer, dd_is_between, dd_lot_of, dd_Table_init, dd_Table_eq, dd_check_table, dd_check_tables, dd_built, dd_added, dd_lessened, dd_times, dd_is_row, dd_row_sum, dd_of_row, dd_of_sizes, dd_other_side, dd__law_hand, dd__law_draw, dd__law_any, dd__law_same, dd__law_lots, dd__law_drawn, dd__law_is_told, dd__law_other_side, dd__law_is_pair_right, dd_law]
def fa0 : List He.Fa := [.glo "POWERS", .glo "Table", .glo "_law_any", .glo "_law_draw", .glo "_law_drawn", .glo "_law_hand", .glo "_law_is_pair_right", .glo "_law_is_told", .glo "_law_lots", .glo "_law_other_side", .glo "_law_same", .glo "added", .glo "built", .glo "check_table", .glo "check_tables"]
def fa1 : List He.Fa := [.glo "is_between", .glo "is_integer", .glo "is_row", .glo "law", .glo "lessened", .glo "lot_of", .glo "of_row", .glo "of_sizes", .glo "other_side", .glo "row_sum", .glo "times", .free "abs", .free "all", .free "any", .free "bool"]
def fa2 : List He.Fa := [.free "enumerate", .free "int", .free "isinstance", .free "len", .free "list", .free "range", .free "str", .free "sum", .free "tuple", .free "zip", .int "MOST_THINGS" 7, .cls "Table", .mkr "Table", .noat "Table" "many", .noat "Table" "numbers"]
def fa3 : List He.Fa := [.meth "Table" "__eq__"]
def fa : List He.Fa := fa0 ++ fa1 ++ fa2 ++ fa3
def ex (K : PySem.W.Frag) : Bool := clsIB K (He.ga K "Table") && (He.tupB K "POWERS" (powers.map He.Dv.int))
def nm0 : List PySem.Str := ["TableError", "BadTable", "NoTable", "NoLot", "Unlike", "NoInteger", "NoRow", "NoSizes", "MOST_THINGS", "POWERS", "is_integer", "is_between", "is_lot", "mask_of", "lot_of"]
def nm1 : List PySem.Str := ["Table", "check_table", "check_tables", "built", "added", "lessened", "times", "is_row", "row_sum", "of_row", "of_sizes", "other_side", "_law_hand", "_law_draw", "_law_any"]
def nm2 : List PySem.Str := ["_law_same", "_law_lots", "_law_drawn", "_law_is_told", "_law_other_side", "_law_is_pair_right"]
def loose : List PySem.Str := nm0 ++ nm1 ++ nm2
abbrev hk : PySem.W.Hook := He.hookX 7 fa fn [] tfs ex
def ob (s : PySem.W.SharedT) : He.AlX := He.obsX 7 fa fn [] tfs ex (HandSHeadRun.getT s)
theorem ob_eq (s : PySem.W.SharedT) : ob s = hk.obs s.abs := He.obsX_eq (HandSHeadRun.getT_eq s)
theorem run (w : World) : HandSHeadRun.RunEq R (PySem.W.view R.prog [39]) hk ob 9000 loose w := by
  intro os
  kernel_rfl
section
variable {P : Program} {w : World} {K : PySem.W.Frag} {mg : Str → Option Value} {base h : Heap}
theorem gok (c : He.SaysX fa fn [] tfs ex w h K) : GOk (G K) := by
  have cf := c.t.d
  have cl0 : Cls K (He.ga K "Table") := He.cls_ok (cf.fact 41 (f := .cls "Table") rfl)
  have ci0 : ClsI (G K) 0 := clsI_of (G := G K) (c := 0) ((He.ba c.more).1) cl0
  refine ⟨fun c hc => ?_, fun c f hf => ?_, fun c => ?_, fun c => ?_, fun c hc => ?_, fun c c2 h1 h2 h3 => ?_⟩
  · match c, hc with
    | 0, _ => exact cl0
    | _ + 1, h => exact absurd rfl h
  · match c, hf with
    | 0, hf =>
      have hf : f ∈ (["many", "numbers"] : List Str) := hf
      simp only [List.mem_cons, List.not_mem_nil, or_false] at hf
      rcases hf with rfl | rfl
      · exact He.noat_ok (cf.fact 43 (f := .noat "Table" "many") rfl)
      · exact He.noat_ok (cf.fact 44 (f := .noat "Table" "numbers") rfl)
    | _ + 1, h => cases h
  · match c with
    | 0 => exact (by decide : (flds 0).Nodup)
    | _ + 1 => exact List.nodup_nil
  · match c with
    | 0 => exact (by decide : (flds 0).length ≤ 100)
    | _ + 1 => exact Nat.zero_le _
  · match c, hc with
    | 0, _ => exact ci0
    | _ + 1, h => exact absurd rfl h
  · match c, c2, h1, h2, h3 with
    | 0, 0, _, _, h => exact absurd rfl h
    | 0, _ + 1, _, h, _ => exact absurd rfl h
    | _ + 1, _, h, _, _ => exact absurd rfl h
theorem md_of {h' : Heap} (X : K.In h') (Y : h'.Ns mainGlobals mg) (c : He.SaysX fa fn [] tfs ex w h K) (hT : ∀ p ∈ tfs, LamX.TabB base mg (He.cT K p).1 (He.cT K p).2) : Md K mg base where
  gok := gok c
  b_abs := He.free_ok X Y (c.t.d.fact 26 (f := .free "abs") rfl)
  b_all := He.free_ok X Y (c.t.d.fact 27 (f := .free "all") rfl)
  b_any := He.free_ok X Y (c.t.d.fact 28 (f := .free "any") rfl)
  b_bool := He.free_ok X Y (c.t.d.fact 29 (f := .free "bool") rfl)
  b_enumerate := He.free_ok X Y (c.t.d.fact 30 (f := .free "enumerate") rfl)
  b_int := He.free_ok X Y (c.t.d.fact 31 (f := .free "int") rfl)
  b_isinstance := He.free_ok X Y (c.t.d.fact 32 (f := .free "isinstance") rfl)
  b_len := He.free_ok X Y (c.t.d.fact 33 (f := .free "len") rfl)
  b_list := He.free_ok X Y (c.t.d.fact 34 (f := .free "list") rfl)
  b_range := He.free_ok X Y (c.t.d.fact 35 (f := .free "range") rfl)
  b_str := He.free_ok X Y (c.t.d.fact 36 (f := .free "str") rfl)
  b_sum := He.free_ok X Y (c.t.d.fact 37 (f := .free "sum") rfl)
  b_tuple := He.free_ok X Y (c.t.d.fact 38 (f := .free "tuple") rfl)
  b_zip := He.free_ok X Y (c.t.d.fact 39 (f := .free "zip") rfl)
  g_POWERS := He.glo_ok X Y (c.t.d.fact 0 (f := .glo "POWERS") rfl)
  g_Table := He.glo_ok X Y (c.t.d.fact 1 (f := .glo "Table") rfl)
  g__law_any := He.glo_ok X Y (c.t.d.fact 2 (f := .glo "_law_any") rfl)
  g__law_draw := He.glo_ok X Y (c.t.d.fact 3 (f := .glo "_law_draw") rfl)
  g__law_drawn := He.glo_ok X Y (c.t.d.fact 4 (f := .glo "_law_drawn") rfl)
  g__law_hand := He.glo_ok X Y (c.t.d.fact 5 (f := .glo "_law_hand") rfl)
  g__law_is_pair_right := He.glo_ok X Y (c.t.d.fact 6 (f := .glo "_law_is_pair_right") rfl)
  g__law_is_told := He.glo_ok X Y (c.t.d.fact 7 (f := .glo "_law_is_told") rfl)
  g__law_lots := He.glo_ok X Y (c.t.d.fact 8 (f := .glo "_law_lots") rfl)
  g__law_other_side := He.glo_ok X Y (c.t.d.fact 9 (f := .glo "_law_other_side") rfl)
  g__law_same := He.glo_ok X Y (c.t.d.fact 10 (f := .glo "_law_same") rfl)
  g_added := He.glo_ok X Y (c.t.d.fact 11 (f := .glo "added") rfl)
  g_built := He.glo_ok X Y (c.t.d.fact 12 (f := .glo "built") rfl)
  g_check_table := He.glo_ok X Y (c.t.d.fact 13 (f := .glo "check_table") rfl)
  g_check_tables := He.glo_ok X Y (c.t.d.fact 14 (f := .glo "check_tables") rfl)
  g_is_between := He.glo_ok X Y (c.t.d.fact 15 (f := .glo "is_between") rfl)
  g_is_integer := He.glo_ok X Y (c.t.d.fact 16 (f := .glo "is_integer") rfl)
  g_is_row := He.glo_ok X Y (c.t.d.fact 17 (f := .glo "is_row") rfl)
  g_law := He.glo_ok X Y (c.t.d.fact 18 (f := .glo "law") rfl)
  g_lessened := He.glo_ok X Y (c.t.d.fact 19 (f := .glo "lessened") rfl)
  g_lot_of := He.glo_ok X Y (c.t.d.fact 20 (f := .glo "lot_of") rfl)
  g_of_row := He.glo_ok X Y (c.t.d.fact 21 (f := .glo "of_row") rfl)
  g_of_sizes := He.glo_ok X Y (c.t.d.fact 22 (f := .glo "of_sizes") rfl)
  g_other_side := He.glo_ok X Y (c.t.d.fact 23 (f := .glo "other_side") rfl)
  g_row_sum := He.glo_ok X Y (c.t.d.fact 24 (f := .glo "row_sum") rfl)
  g_times := He.glo_ok X Y (c.t.d.fact 25 (f := .glo "times") rfl)
  c_MOST_THINGS := He.int_ok X Y (c.t.d.fact 40 (f := .int "MOST_THINGS" 7) rfl)
  d_POWERS := den_consts (G := G K) ((He.ba c.more).2)
  F_is_integer := c.t.d.def_ 0 (d := dd_is_integer) rfl
  F_is_between := c.t.d.def_ 1 (d := dd_is_between) rfl
  F_lot_of := c.t.d.def_ 2 (d := dd_lot_of) rfl
  F_Table_init := c.t.d.def_ 3 (d := dd_Table_init) rfl
  F_Table_eq := c.t.d.def_ 4 (d := dd_Table_eq) rfl
  F_check_table := c.t.d.def_ 5 (d := dd_check_table) rfl
  F_check_tables := c.t.d.def_ 6 (d := dd_check_tables) rfl
  F_built := c.t.d.def_ 7 (d := dd_built) rfl
  F_added := c.t.d.def_ 8 (d := dd_added) rfl
  F_lessened := c.t.d.def_ 9 (d := dd_lessened) rfl
  F_times := c.t.d.def_ 10 (d := dd_times) rfl
  F_is_row := c.t.d.def_ 11 (d := dd_is_row) rfl
  F_row_sum := c.t.d.def_ 12 (d := dd_row_sum) rfl
  F_of_row := c.t.d.def_ 13 (d := dd_of_row) rfl
  F_of_sizes := c.t.d.def_ 14 (d := dd_of_sizes) rfl
  F_other_side := c.t.d.def_ 15 (d := dd_other_side) rfl
  F__law_hand := c.t.d.def_ 16 (d := dd__law_hand) rfl
  F__law_draw := c.t.d.def_ 17 (d := dd__law_draw) rfl
  F__law_any := c.t.d.def_ 18 (d := dd__law_any) rfl
  F__law_same := c.t.d.def_ 19 (d := dd__law_same) rfl
  F__law_lots := c.t.d.def_ 20 (d := dd__law_lots) rfl
  F__law_drawn := c.t.d.def_ 21 (d := dd__law_drawn) rfl
  F__law_is_told := c.t.d.def_ 22 (d := dd__law_is_told) rfl
  F__law_other_side := c.t.d.def_ 23 (d := dd__law_other_side) rfl
  F__law_is_pair_right := c.t.d.def_ 24 (d := dd__law_is_pair_right) rfl
  F_law := c.t.d.def_ 25 (d := dd_law) rfl
  m_Table_eq := He.meth_ok (c.t.d.fact 45 (f := .meth "Table" "__eq__") rfl)
  mk_Table := He.mkr_ok (c.t.d.fact 42 (f := .mkr "Table") rfl)
  t_added := hT ("added", none) (by decide)
  t_lessened := hT ("lessened", none) (by decide)
  t_of_row := hT ("of_row", none) (by decide)
  t_of_sizes := hT ("of_sizes", none) (by decide)
  t_other_side := hT ("other_side", none) (by decide)
  t_times := hT ("times", none) (by decide)
theorem law_run {fd : FuncData} (M : Md K mg base) (F : FunD K "law" "law" (defArgs (top 39)) (defBody (top 39)) (defScope (top 39)) [] [] (He.fAd K ("law", none)) fd) : FnOk P w (G K).K mg base (L2.CX P w) 12 (He.fAd K ("law", none)) fd ["script"] (liftSp (G K) 1 s_law) := by
  have EQ : EqsH P w (G K) mg base 2 eqS := fun c Q E x y q => match c, q with | 0, _ => ⟨(v_Table_eq M).mono (by decide), M.gok.ty 0 (List.cons_ne_nil _ _)⟩ | _ + 1, q => (eqS_no q).elim
  have h__law_draw : FnH P w (G K) mg base "_law_draw" 2 4 s__law_draw := v__law_draw M EQ
  have h__law_any : FnH P w (G K) mg base "_law_any" 2 5 s__law_any := v__law_any M h__law_draw
  have h__law_lots : FnH P w (G K) mg base "_law_lots" 1 2 s__law_lots := v__law_lots M
  have h__law_drawn : FnH P w (G K) mg base "_law_drawn" 2 6 s__law_drawn := v__law_drawn M EQ h__law_any h__law_draw h__law_lots
  have h__law_hand : FnH P w (G K) mg base "_law_hand" 1 2 s__law_hand := v__law_hand M
  have h0 : FnH P w (G K) mg base "_law_same" 2 6 (s__law_same_n 0) := (by
    obtain ⟨fd, F⟩ := M.F__law_same
    exact (fnH_of (N := ["one", "due", "a", "b"]) (ps := ["one", "due"]) (k := 5) (s := fun _ => stk) F sc__law_same M.g__law_same (fun _ _ _ _ _ _ us hl => match us, hl with | [_, _], _ => rfl) (by decide) fun _ _ _ _ _ _ _ _ _ _ _ _ => ⟨_, dss_stuck, fun _ _ _ h => (show False from h).elim⟩).imp fun ds Q E q => s__law_same_0 q)
  have h1 : FnH P w (G K) mg base "_law_same" 2 7 (s__law_same_n 1) := (v__law_same M EQ h0).imp fun ds Q E q => m__law_same (gs (K := K)) 0 ds Q E q
  have h2 : FnH P w (G K) mg base "_law_same" 2 8 (s__law_same_n 2) := (v__law_same_7 M EQ h1).imp fun ds Q E q => m__law_same (gs (K := K)) 1 ds Q E q
  have h3 : FnH P w (G K) mg base "_law_same" 2 9 (s__law_same_n 3) := (v__law_same_8 M EQ h2).imp fun ds Q E q => m__law_same (gs (K := K)) 2 ds Q E q
  have h__law_same := h3
  have h__law_is_told : FnH P w (G K) mg base "_law_is_told" 3 10 s__law_is_told := v__law_is_told M h__law_same
  have h_is_integer : FnH P w (G K) mg base "is_integer" 1 2 s_is_integer := v_is_integer M
  have h_is_between : FnH P w (G K) mg base "is_between" 3 3 s_is_between := v_is_between M h_is_integer
  have h_Table : MkH P w (G K) mg base "Table" 0 2 4 mk_Table := v_Table_init M EQ h_is_between h_is_integer
  have h_lot_of : FnH P w (G K) mg base "lot_of" 1 4 s_lot_of := v_lot_of M EQ
  have h_row_sum : FnH P w (G K) mg base "row_sum" 2 5 s_row_sum := v_row_sum M h_lot_of
  have CK : CloH P w (G K) mg base 6 := fun j cs ds Q E q => match j, q with | 0, _ => vl_0 M | 1, _ => vl_1 M | 2, _ => vl_2 M | 3, _ => vl_3 M h_row_sum | 4, _ => vl_4 M h_lot_of | 5, _ => vl_5 M | n + 6, q => (cloW_no (j := n) (cs := cs) (ds := ds) (Q := Q) (E := E) q).elim
  have h_built : FnH P w (G K) mg base "built" 2 7 s_built := v_built M h_Table CK
  have h_check_table : FnH P w (G K) mg base "check_table" 1 2 s_check_table := v_check_table M
  have h_check_tables : FnH P w (G K) mg base "check_tables" 2 4 s_check_tables := v_check_tables M EQ h_check_table
  have h_added : FnH P w (G K) mg base "added" 2 8 s_added := v_added M h_built h_check_tables
  have h_lessened : FnH P w (G K) mg base "lessened" 2 8 s_lessened := v_lessened M h_built h_check_tables
  have h_other_side : FnH P w (G K) mg base "other_side" 1 8 s_other_side := v_other_side M h_built h_check_table
  have h_times : FnH P w (G K) mg base "times" 2 8 s_times := v_times M h_built h_check_table h_is_integer
  have h__law_is_pair_right : FnH P w (G K) mg base "_law_is_pair_right" 4 11 s__law_is_pair_right := v__law_is_pair_right M EQ h__law_is_told h_added h_lessened h_other_side h_times h_Table
  have h__law_other_side : FnH P w (G K) mg base "_law_other_side" 2 2 s__law_other_side := v__law_other_side M
  have h_is_row : FnH P w (G K) mg base "is_row" 1 3 s_is_row := v_is_row M h_is_integer
  have h_of_row : FnH P w (G K) mg base "of_row" 1 8 s_of_row := v_of_row M h_built h_is_row
  have h_of_sizes : FnH P w (G K) mg base "of_sizes" 1 8 s_of_sizes := v_of_sizes M EQ h_built h_is_integer
  exact v_law M EQ h__law_any h__law_draw h__law_drawn h__law_hand h__law_is_pair_right h__law_is_told h__law_lots h__law_other_side h_of_row h_of_sizes h_other_side h_Table F
end
end K02
open PySem PySem.W PySem.Calls PyProof.Rows
theorem PySem.Challenge.cw_bringsless_k02_whole_tables_summed_holds : PySem.Challenge.rw_bringsless_k02_whole_tables_summed.Holds := by
  w_on; o_law
  refine HandSHeadRun.head_any (r := OpenLaw.row PySem.Challenge.rw_bringsless_k02_whole_tables_summed) (q := view (OpenLaw.row PySem.Challenge.rw_bringsless_k02_whole_tables_summed).prog [39]) (H := K02.hk) (ob := K02.ob) (M := 9000) (loose := K02.loose) (d := HandSHeadRun.topDef (OpenLaw.row PySem.Challenge.rw_bringsless_k02_whole_tables_summed).prog 39) (kwd := []) K02.ob_eq
    (by kernel_rfl) (fun s => by kernel_rfl) K02.run (by kernel_rfl) (by kernel_rfl) (by kernel_rfl) (by rfl) (by first | assumption | decide +kernel) (by decide +kernel) ⟨rfl, rfl, rfl, rfl, rfl, by decide +kernel⟩ ?hw ?hc
  case hw => w_witness2
  case hc =>
    refine DL.walk_ofTE (l := PySem.Challenge.rw_bringsless_k02_whole_tables_summed) (n := 63) (k := 12) (x := "script") (CX := fun w => L2.CX (PySem.Challenge.rw_bringsless_k02_whole_tables_summed).prog w) rfl (by decide) (by kernel_rfl) ⟨rfl, by decide, by decide⟩ ?F (fun w H s e s' z => by
      obtain ⟨_, _, _, _, _, _, _, _, _, _, _, _, y⟩ := z
      exact y)
    intro w mg fa h Y G hmg0
    obtain ⟨K, KX, c⟩ := Y
    have hmg : mg ("law" : PySem.Str) = some (.ref fa) := by
      have e : (HandSHeadRun.topDef (OpenLaw.row PySem.Challenge.rw_bringsless_k02_whole_tables_summed).prog 39).name = ("law" : PySem.Str) := by kernel_rfl
      rw [← e]
      exact hmg0
    have g1 : mg ("law" : PySem.Str) = some (.ref (He.ga K "law")) := He.glo_ok KX G (c.t.d.fact 18 (f := .glo "law") rfl)
    have ef : fa = He.fAd K ("law", none) := by
      rw [hmg] at g1
      cases g1
      rfl
    subst ef
    obtain ⟨fd, F⟩ := c.t.d.def_ 25 (d := K02.dd_law) rfl
    exact ⟨K, KX, DL.law_at (G := K02.G K) (s := K02.s_law) KX c rfl rfl F (fun _ _ _ _ _ _ us hl => match us, hl with | [_], _ => rfl) hmg (fun base h1 h2 h3 => K02.law_run (K02.md_of h1 h2 c h3) F) fun ns hl => K02.law_fin ns hl⟩
#print axioms PySem.Challenge.cw_bringsless_k02_whole_tables_summed_holds
end
