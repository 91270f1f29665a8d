import PyProof.Rows.All
import Wide.All
import OpenK.AllK
import Wide.FinOn
import HandS.ForMost
import HandS.ForExc
import HandS.Property
import HandS.Defaults
import HandS.Star
import HandS.MakeKw
import HandS.ClsMeth
import HandS.OwnEq
import HandS.DeepEq
import HandS.DictEq
import HandS.IsInst
import HandS.Flow
import HandS.Wide
import HandS.Lambda
import HandS.DictTup
import HandS.TupLen
import KE.KDictCopyH
import KE.KDictKeyed
import PyProof.InstNe
import PyProof.Rows.FactsN_isinstance
import HandS.Conv
import HandS.Style
import HandS.ExcInit
import HandS.ExcField
import HandS.EndBits
import PySem.Challenge.RW_passplaces_k01_ways_checked
import PyProof.Rows.ReprOcc
import PyProof.Rows.RegFStrParts
import KE.RegKIsAll
set_option Elab.async false
set_option linter.all false
set_option maxRecDepth 100001
set_option maxHeartbeats 4000001
/-! Mi 1: values, the small heap, what they mean in the abstract heap of HandS. -/
namespace Mi
open PySem L2

/-- a caught exception that is kept: its class, its dict -/
def exnO (a : Addr) (cls : Value) (d : Option Addr) : HO := .ext fun h => ∃ oe : PySem.Obj, h.get? a = some oe ∧ Zc cls d oe ∧ ∃ vs, oe.data = .fields vs
/-- pure values: trees -/
inductive D where
  | non | bl (b : Bool) | int (i : Int) | str (x : Str)
  | tup (l : List D) | lst (l : List D) | scr (l : List D)
  | dK (ks : List Key) (vs : List D)
  | dT (ks : List (List Key)) (vs : List D)
  | ins (c : Nat) (fs : List Nat) (vs : List D)
  | cls (c : Nat)
  | exn (c : Nat) (fs : List Nat) (vs : List D)
  | clo (k : Nat) (vs : List D)

/-- values: a tree, or an object of the small heap -/
inductive W where
  | d (x : D)
  | r (n : Nat)

/-- objects of the small heap -/
inductive MO where
  | lst (l : List W)
  | dK (ks : List Key) (vs : List W)
  | dT (ks : List (List Key)) (vs : List W)
  | ins (c : Nat) (fs : List Nat) (vs : List W)
  | dead

abbrev Hm := List MO

structure Ex where
  cls : Nat
  fs : List Nat
  vs : List W

inductive R (α : Type) where
  | ok (a : α) (h : Hm)
  | ex (e : Ex) (h : Hm)
  | no

def R.bind {α β : Type} : R α → (α → Hm → R β) → R β
  | .ok a h, f => f a h
  | .ex e h, _ => .ex e h
  | .no, _ => .no

/-- the program's names: addresses of the classes, names of fields -/
structure LamT where
  qual : Str
  params : PySem.Arguments
  body : PySem.Expr
  scope : PySem.Scope
  N : List Str
structure Sig where
  K : PySem.W.Frag
  ca : Nat → Addr
  fn : Nat → Str
  fi : ∀ i j, fn i = fn j → i = j
  /-- closures, their cells: objects that are known and never change -/
  ko : Addr → Option PySem.Obj := fun _ => none
  /-- code objects of lambdas -/
  cd : Addr → Option Str := fun _ => none
  /-- the tables of code objects -/
  tb : List (Addr × Str) := []
  lam : Nat → LamT → Prop := fun _ _ => False
/-- more closures are known -/
abbrev Sig.ext (S : Sig) (ko : Addr → Option PySem.Obj) (cd : Addr → Option Str) : Sig := { S with ko := ko, cd := cd }
/-- the cells of a closure hold vs -/
structure CellsAt (S : Sig) (N : List Str) (cells : List (Str × Addr)) (vs : List V) : Prop where
  inj : ∀ x y c, cells.lookup x = some c → cells.lookup y = some c → x = y
  len : vs.length = N.length
  get : ∀ (i : Nat) (y : Str) (v : V), N[i]? = some y → vs[i]? = some v → ∃ (c : Addr) (oc : PySem.Obj) (u : PySem.Value), cells.lookup y = some c ∧ S.ko c = some oc ∧ oc.data = .cell (some u) ∧ RelV v u
  dom : ∀ y c, cells.lookup y = some c → ∃ (oc : PySem.Obj) (u : Option PySem.Value), S.ko c = some oc ∧ oc.data = .cell u

section
variable (S : Sig)

mutual
/-- the tree x is what v is in the frozen part F -/
def IsD (F : Hp) : D → V → Prop
  | .non, v => v = .non
  | .bl b, v => v = .bl b
  | .int i, v => v = .int i
  | .str x, v => v = .str x
  | .tup l, v => ∃ a vs, v = .ref a ∧ F a = some (.tup vs) ∧ IsDs F l vs
  | .lst l, v => ∃ a vs, v = .ref a ∧ F a = some (.lst vs) ∧ IsDs F l vs
  | .scr l, v => ∃ a vs, v = .ref a ∧ SqL S.K F a vs ∧ IsDs F l vs
  | .dK ks l, v => ∃ a o vs, v = .ref a ∧ ks.length = vs.length ∧ F a = some (.frz o (.dK (ks.zip vs))) ∧ IsDs F l vs
  | .dT ks l, v => ∃ a o vs, v = .ref a ∧ ks.length = vs.length ∧ F a = some (.frz o (.dT (ks.zip vs))) ∧ IsDs F l vs
  | .ins c fs l, v => ∃ a dx vs, v = .ref a ∧ fs.length = vs.length ∧ F a = some (.ins (S.ca c) dx ((fs.map S.fn).zip vs)) ∧ IsDs F l vs
  | .cls c, v => v = .ref (S.ca c)
  | .exn c fs l, v => ∃ a dx vs, v = .ref a ∧ fs.length = vs.length ∧ F a = some (exnO a (.ref (S.ca c)) (some dx)) ∧ F dx = some (.xd ((fs.map S.fn).zip vs)) ∧ IsDs F l vs
  | .clo k l, v => ∃ (f c' : Addr) (pm ctv : PySem.Value) (L : LamT) (cells : List (Str × Addr)) (vs : List V), v = .ref f ∧ S.lam k L ∧ S.ko f = some (PySem.W.kla_obj "<lambda>" L.qual L.params L.body L.scope cells pm c' ctv) ∧ S.cd c' = some L.qual ∧ CellsAt S L.N cells vs ∧ IsDs F l vs
def IsDs (F : Hp) : List D → List V → Prop
  | [], vs => vs = []
  | x :: l, vs => ∃ v r, vs = v :: r ∧ IsD F x v ∧ IsDs F l r
end

/-- the addresses of the small heap's objects, the frozen part, the small heap's size; P: what is kept for others -/
structure C where
  ι : Nat → Addr
  F : Hp
  n : Nat
  P : Hp

def IsW (c : C) : W → V → Prop
  | .d x, v => IsD S c.F x v
  | .r m, v => m < c.n ∧ v = .ref (c.ι m)
def IsWs (c : C) : List W → List V → Prop
  | [], vs => vs = []
  | x :: l, vs => ∃ v r, vs = v :: r ∧ IsW S c x v ∧ IsWs c l r

/-- the object o stands at a -/
def IsO (c : C) (H : Hp) (a : Addr) : MO → Prop
  | .lst l => ∃ vs, H a = some (.lst vs) ∧ IsWs S c l vs
  | .dK ks l => ∃ vs, ks.length = vs.length ∧ H a = some (.dK (ks.zip vs)) ∧ IsWs S c l vs
  | .dT ks l => ∃ vs, ks.length = vs.length ∧ H a = some (.dT (ks.zip vs)) ∧ IsWs S c l vs
  | .ins k fs l => ∃ dx vs, fs.length = vs.length ∧ H a = some (.ins (S.ca k) dx ((fs.map S.fn).zip vs)) ∧ IsWs S c l vs
  | .dead => True

def MO.live : MO → Bool
  | .dead => false
  | _ => true

/-- the tables, the code objects -/
structure Amb (S : Sig) (H : Hp) : Prop where
  tb : LamX.Tabs S.tb H
  cd : ∀ a q, S.cd a = some q → H a = some (LamX.CodeO a q)
structure Rel (c : C) (h : Hm) (H : Hp) : Prop where
  sz : c.n = h.length
  fz : ∀ a o, c.F a = some o → H a = some o
  mu : ∀ n o, h[n]? = some o → IsO S c H (c.ι n) o
  nf : ∀ n o, h[n]? = some o → o.live = true → c.F (c.ι n) = none
  inj : ∀ m n o u, h[m]? = some o → h[n]? = some u → o.live = true → u.live = true → c.ι m = c.ι n → m = n
  pr : ∀ a o, c.P a = some o → H a = some o
  pf : ∀ a o, c.P a = some o → c.F a = none
  pm : ∀ n o, h[n]? = some o → o.live = true → c.P (c.ι n) = none
  pt : ∀ a vs, c.P a ≠ some (.tup vs)
  am : Amb S H
  nt : (∀ a ps, c.F a ≠ some (.tbl ps)) ∧ ∀ a ps, c.P a ≠ some (.tbl ps)

structure Sub (c c' : C) : Prop where
  ι : ∀ m, m < c.n → c'.ι m = c.ι m
  F : ∀ a o, c.F a = some o → c'.F a = some o
  n : c.n ≤ c'.n
structure Ext (c c' : C) : Prop where
  P : c'.P = c.P
  sub : Sub c c'
end
/-- a thing that is no table and no code object -/
def NoTb (o : HO) : Prop := (∀ ps, o ≠ .tbl ps) ∧ ∀ a q, o ≠ LamX.CodeO a q
theorem Amb.keep {S : Sig} {H H' : Hp} (a : Amb S H) (k : ∀ b o, H b = some o → ¬ NoTb o → H' b = some o) : Amb S H' := by
  have kc : ∀ c q, H c = some (LamX.CodeO c q) → H' c = some (LamX.CodeO c q) := fun c q e => k c _ e fun z => z.2 c q rfl
  refine ⟨fun p hp => ?_, fun b q e => kc b q (a.cd b q e)⟩
  obtain ⟨ps, h1, h2, h3⟩ := a.tb p hp
  refine ⟨ps, k _ _ h1 fun z => z.1 ps rfl, h2, fun pos cv hc => ?_⟩
  obtain ⟨c, e1, e2⟩ := h3 pos cv hc
  exact ⟨c, e1, kc _ _ e2⟩
theorem Amb.more {S : Sig} {H H' : Hp} (a : Amb S H) (k : ∀ b o, H b = some o → H' b = some o) : Amb S H' := a.keep fun b o e _ => k b o e
theorem Amb.fresh {S : Sig} {H : Hp} {p : Addr} {o : HO} (a : Amb S H) (hp : H p = none) : Amb S (upd H p o) := a.more fun b u e => by rw [upd_ne (ne_of_none e hp)]; exact e
theorem Amb.put {S : Sig} {H : Hp} {p : Addr} {o u : HO} (a : Amb S H) (hp : H p = some u) (hu : NoTb u) : Amb S (upd H p o) := a.keep fun b v e hv => by
  by_cases hb : b = p
  · rw [hb, hp] at e
    cases e
    exact (hv hu).elim
  · rw [upd_ne hb]; exact e
theorem plain_lst {xs : List V} : NoTb (.lst xs) := ⟨fun ps z => (by cases z), fun a q z => (by unfold LamX.CodeO at z; cases z)⟩
theorem plain_dK {xs : List (Key × V)} : NoTb (.dK xs) := ⟨fun ps z => (by cases z), fun a q z => (by unfold LamX.CodeO at z; cases z)⟩
theorem plain_dT {xs : List (List Key × V)} : NoTb (.dT xs) := ⟨fun ps z => (by cases z), fun a q z => (by unfold LamX.CodeO at z; cases z)⟩
theorem plain_ins {C dx : Addr} {fs : List (Str × V)} : NoTb (.ins C dx fs) := ⟨fun ps z => (by cases z), fun a q z => (by unfold LamX.CodeO at z; cases z)⟩
theorem plain_own {x : Addr} : NoTb (.own x) := ⟨fun ps z => (by cases z), fun a q z => (by unfold LamX.CodeO at z; cases z)⟩
theorem IsO.plain {S : Sig} {c : C} {H : Hp} {a : Addr} {m : MO} (lv : m.live = true) (q : IsO S c H a m) : ∃ u, H a = some u ∧ NoTb u := by
  cases m with
  | lst l => obtain ⟨_, e, _⟩ := q; exact ⟨_, e, plain_lst⟩
  | dK ks l => obtain ⟨_, _, e, _⟩ := q; exact ⟨_, e, plain_dK⟩
  | dT ks l => obtain ⟨_, _, e, _⟩ := q; exact ⟨_, e, plain_dT⟩
  | ins k fs l => obtain ⟨_, _, _, e, _⟩ := q; exact ⟨_, e, plain_ins⟩
  | dead => cases lv
theorem upd_nt {F : Hp} {p : Addr} {o : HO} (h : ∀ a ps, F a ≠ some (.tbl ps)) (ho : ∀ ps, o ≠ .tbl ps) : ∀ a ps, upd F p o a ≠ some (.tbl ps) := fun a ps z => by
  by_cases hb : a = p
  · rw [hb, upd_same] at z
    exact ho ps (Option.some.inj z)
  · rw [upd_ne hb] at z
    exact h a ps z
/-- a table is no other thing -/
theorem Rel.tne {S : Sig} {c : C} {h : Hm} {H : Hp} (r : Rel S c h H) {p : Addr} (hp : ∀ ps, H p ≠ some (.tbl ps)) : ∀ q ∈ S.tb, q.1 ≠ p := fun q hq z => by
  obtain ⟨ps, e, _⟩ := r.am.tb q hq
  rw [z] at e
  exact hp ps e
theorem Rel.tnn {S : Sig} {c : C} {h : Hm} {H : Hp} (r : Rel S c h H) {p : Addr} (hp : H p = none) : ∀ q ∈ S.tb, q.1 ≠ p := r.tne fun ps z => by rw [hp] at z; cases z
theorem Rel.tni {S : Sig} {c : C} {h : Hm} {H : Hp} (r : Rel S c h H) {n : Nat} {m : MO} (e : h[n]? = some m) (lv : m.live = true) : ∀ q ∈ S.tb, q.1 ≠ c.ι n := r.tne fun ps z => by
  obtain ⟨u, e1, e2⟩ := (r.mu n m e).plain lv
  rw [e1] at z
  exact e2.1 ps (Option.some.inj z)
theorem Ext.ι {c c' : C} (x : Ext c c') : ∀ m, m < c.n → c'.ι m = c.ι m := x.sub.ι
theorem Ext.F {c c' : C} (x : Ext c c') : ∀ a o, c.F a = some o → c'.F a = some o := x.sub.F
theorem Ext.n {c c' : C} (x : Ext c c') : c.n ≤ c'.n := x.sub.n

theorem Ext.refl (c : C) : Ext c c := ⟨rfl, fun _ _ => rfl, fun _ _ h => h, Nat.le_refl _⟩
theorem Ext.trans {a b c : C} (x : Ext a b) (y : Ext b c) : Ext a c :=
  ⟨y.P.trans x.P, fun m h => (y.ι m (Nat.lt_of_lt_of_le h x.n)).trans (x.ι m h), fun p o h => y.F p o (x.F p o h), Nat.le_trans x.n y.n⟩
theorem Sub.refl (c : C) : Sub c c := (Ext.refl c).sub
theorem Sub.trans {a b c : C} (x : Sub a b) (y : Sub b c) : Sub a c :=
  ⟨fun m h => (y.ι m (Nat.lt_of_lt_of_le h x.n)).trans (x.ι m h), fun p o h => y.F p o (x.F p o h), Nat.le_trans x.n y.n⟩

section
variable {S : Sig} {F F' : Hp}
theorem Rd.mono (k : ∀ a o, F a = some o → F' a = some o) {a : Addr} {u : HO} (h : Rd F a u) : Rd F' a u := by
  rcases h with h | ⟨o, h⟩
  · exact .inl (k _ _ h)
  · exact .inr ⟨o, k _ _ h⟩
theorem SqL.mono (k : ∀ a o, F a = some o → F' a = some o) {K : PySem.W.Frag} {a : Addr} {xs : List V} (h : SqL K F a xs) : SqL K F' a xs := by
  rcases h with h | h
  · exact .inl (Rd.mono k h)
  · exact .inr h
theorem SqT.mono (k : ∀ a o, F a = some o → F' a = some o) {K : PySem.W.Frag} {a : Addr} {xs : List V} (h : SqT K F a xs) : SqT K F' a xs := by
  rcases h with h | h
  · exact .inl (Rd.mono k h)
  · exact .inr h
mutual
theorem IsD.mono (k : ∀ a o, F a = some o → F' a = some o) : ∀ {x : D} {v : V}, IsD S F x v → IsD S F' x v
  | .non, _, h => by simpa only [IsD] using h
  | .bl _, _, h => by simpa only [IsD] using h
  | .int _, _, h => by simpa only [IsD] using h
  | .str _, _, h => by simpa only [IsD] using h
  | .cls _, _, h => by simpa only [IsD] using h
  | .exn c fs l, v, h => by
    simp only [IsD] at h ⊢
    obtain ⟨a, dx, vs, e, z, q, q2, r⟩ := h
    exact ⟨a, dx, vs, e, z, k _ _ q, k _ _ q2, IsDs.mono k r⟩
  | .clo _ l, v, h => by
    simp only [IsD] at h ⊢
    obtain ⟨f, c', pm, ctv, L, cells, vs, e, q1, q2, q3, q4, r⟩ := h
    exact ⟨f, c', pm, ctv, L, cells, vs, e, q1, q2, q3, q4, IsDs.mono k r⟩
  | .tup l, v, h => by
    simp only [IsD] at h ⊢
    obtain ⟨a, vs, e, q, r⟩ := h
    exact ⟨a, vs, e, k _ _ q, IsDs.mono k r⟩
  | .lst l, v, h => by
    simp only [IsD] at h ⊢
    obtain ⟨a, vs, e, q, r⟩ := h
    exact ⟨a, vs, e, k _ _ q, IsDs.mono k r⟩
  | .scr l, v, h => by
    simp only [IsD] at h ⊢
    obtain ⟨a, vs, e, q, r⟩ := h
    exact ⟨a, vs, e, SqL.mono k q, IsDs.mono k r⟩
  | .dK ks l, v, h => by
    simp only [IsD] at h ⊢
    obtain ⟨a, o, vs, e, z, q, r⟩ := h
    exact ⟨a, o, vs, e, z, k _ _ q, IsDs.mono k r⟩
  | .dT ks l, v, h => by
    simp only [IsD] at h ⊢
    obtain ⟨a, o, vs, e, z, q, r⟩ := h
    exact ⟨a, o, vs, e, z, k _ _ q, IsDs.mono k r⟩
  | .ins c fs l, v, h => by
    simp only [IsD] at h ⊢
    obtain ⟨a, dx, vs, e, z, q, r⟩ := h
    exact ⟨a, dx, vs, e, z, k _ _ q, IsDs.mono k r⟩
theorem IsDs.mono (k : ∀ a o, F a = some o → F' a = some o) : ∀ {l : List D} {vs : List V}, IsDs S F l vs → IsDs S F' l vs
  | [], _, h => by simpa only [IsDs] using h
  | x :: l, vs, h => by
    simp only [IsDs] at h ⊢
    obtain ⟨v, r, e, q, t⟩ := h
    exact ⟨v, r, e, IsD.mono k q, IsDs.mono k t⟩
end
theorem IsW.monoS {c c' : C} (x : Sub c c') : ∀ {w : W} {v : V}, IsW S c w v → IsW S c' w v
  | .d _, _, h => IsD.mono x.F h
  | .r m, _, ⟨h, e⟩ => ⟨Nat.lt_of_lt_of_le h x.n, by rw [x.ι m h]; exact e⟩
theorem IsWs.monoS {c c' : C} (x : Sub c c') : ∀ {l : List W} {vs : List V}, IsWs S c l vs → IsWs S c' l vs
  | [], _, h => h
  | _ :: _, _, ⟨v, r, e, q, t⟩ => ⟨v, r, e, q.monoS x, IsWs.monoS x t⟩
theorem IsW.mono {c c' : C} (x : Ext c c') {w : W} {v : V} (h : IsW S c w v) : IsW S c' w v := h.monoS x.sub
theorem IsWs.mono {c c' : C} (x : Ext c c') {l : List W} {vs : List V} (h : IsWs S c l vs) : IsWs S c' l vs := h.monoS x.sub
theorem IsWs.length {c : C} : ∀ {l : List W} {vs : List V}, IsWs S c l vs → l.length = vs.length
  | [], _, h => by
    cases (show _ = [] from h)
    rfl
  | _ :: _, _, ⟨v, r, e, q, t⟩ => by rw [e, List.length_cons, List.length_cons, IsWs.length t]
theorem IsDs.length : ∀ {l : List D} {vs : List V}, IsDs S F l vs → l.length = vs.length
  | [], _, h => by
    simp only [IsDs] at h
    cases h
    rfl
  | _ :: _, _, h => by
    simp only [IsDs] at h
    obtain ⟨v, r, e, q, t⟩ := h
    rw [e, List.length_cons, List.length_cons, IsDs.length t]
theorem IsDs.toW {c : C} : ∀ {l : List D} {vs : List V}, IsDs S c.F l vs → IsWs S c (l.map W.d) vs
  | [], _, h => by
    simp only [IsDs] at h
    exact h
  | _ :: _, _, h => by
    simp only [IsDs] at h
    obtain ⟨v, r, e, q, t⟩ := h
    exact ⟨v, r, e, q, IsDs.toW t⟩
theorem IsDs.get : ∀ {l : List D} {vs : List V} {i : Nat} {x : D}, IsDs S F l vs → l[i]? = some x → ∃ v, vs[i]? = some v ∧ IsD S F x v
  | [], _, _, _, _, e => by simp at e
  | y :: l, vs, 0, x, h, e => by
    simp only [IsDs] at h
    obtain ⟨v, r, rfl, q, t⟩ := h
    simp at e
    subst e
    exact ⟨v, rfl, q⟩
  | y :: l, vs, i + 1, x, h, e => by
    simp only [IsDs] at h
    obtain ⟨v, r, rfl, q, t⟩ := h
    simpa using IsDs.get (i := i) t (by simpa using e)
theorem IsWs.get {c : C} : ∀ {l : List W} {vs : List V} {i : Nat} {x : W}, IsWs S c l vs → l[i]? = some x → ∃ v, vs[i]? = some v ∧ IsW S c x v
  | [], _, _, _, _, e => by simp at e
  | y :: l, _, 0, x, ⟨v, r, rfl, q, t⟩, e => by
    simp at e
    subst e
    exact ⟨v, rfl, q⟩
  | y :: l, _, i + 1, x, ⟨v, r, rfl, q, t⟩, e => by
    simpa using IsWs.get (i := i) t (by simpa using e)
theorem IsWs.append {c : C} : ∀ {l : List W} {vs : List V} {l' : List W} {vs' : List V}, IsWs S c l vs → IsWs S c l' vs' → IsWs S c (l ++ l') (vs ++ vs')
  | [], _, _, _, h, h' => by rw [show _ = [] from h]; exact h'
  | _ :: _, _, _, _, ⟨v, r, rfl, q, t⟩, h' => ⟨v, r ++ _, rfl, q, IsWs.append t h'⟩
theorem IsDs.append : ∀ {l : List D} {vs : List V} {l' : List D} {vs' : List V}, IsDs S F l vs → IsDs S F l' vs' → IsDs S F (l ++ l') (vs ++ vs')
  | [], _, _, _, h, h' => by
    simp only [IsDs] at h
    subst h
    exact h'
  | _ :: _, _, _, _, h, h' => by
    simp only [IsDs] at h
    obtain ⟨v, r, rfl, q, t⟩ := h
    simp only [List.cons_append, IsDs]
    exact ⟨v, r ++ _, rfl, q, IsDs.append t h'⟩
theorem IsWs.set {c : C} {w : W} {v : V} (q : IsW S c w v) : ∀ {l : List W} {vs : List V} (i : Nat), IsWs S c l vs → IsWs S c (l.set i w) (vs.set i v)
  | [], _, _, h => by rw [show _ = [] from h]; exact rfl
  | _ :: _, _, 0, ⟨u, r, rfl, _, t⟩ => ⟨v, r, rfl, q, t⟩
  | _ :: _, _, i + 1, ⟨u, r, rfl, p, t⟩ => ⟨u, _, rfl, p, IsWs.set q i t⟩
end

/-- the trees of values, where all are trees -/
def pures : List W → Option (List D)
  | [] => some []
  | .d x :: l => (pures l).map (x :: ·)
  | .r _ :: _ => none
theorem pures_map (l : List D) : pures (l.map W.d) = some l := by
  induction l with
  | nil => rfl
  | cons x l ih => simp [pures, ih]
theorem pures_is {S : Sig} {c : C} : ∀ {l : List W} {ds : List D} {vs : List V}, pures l = some ds → IsWs S c l vs → IsDs S c.F ds vs
  | [], ds, vs, e, h => by
    cases e
    simp only [IsDs]
    exact h
  | .d x :: l, ds, vs, e, ⟨v, r, e1, q, t⟩ => by
    unfold pures at e
    cases e2 : pures l with
    | none => rw [e2] at e; cases e
    | some l' =>
      rw [e2] at e
      cases e
      simp only [IsDs]
      exact ⟨v, r, e1, q, pures_is e2 t⟩
  | .r _ :: l, ds, vs, e, _ => by cases e

/-! ### what is wanted of a run's end -/
section
variable (S : Sig)
/-- an exception as HandS tells it -/
def IsEx (c : C) (e : Ex) (cls : Value) (d : Option Addr) (H : Hp) : Prop :=
  cls = .ref (S.ca e.cls) ∧ ∃ dx vs, d = some dx ∧ e.fs.length = vs.length ∧ c.F dx = some (.xd ((e.fs.map S.fn).zip vs)) ∧ IsWs S c e.vs vs
def Aft {α : Type} (c : C) (r : R α) (Qo : C → α → Hm → Hp → Prop) (Qe : Value → Option Addr → Hp → Prop) : Prop :=
  match r with
  | .ok a h => ∀ c' H, Ext c c' → Rel S c' h H → Qo c' a h H
  | .ex e h => ∀ c' H cls d, Ext c c' → Rel S c' h H → IsEx S c' e cls d H → Qe cls d H
  | .no => False
abbrev En := List (Option W)
structure EnvOk (c : C) (env : En) (σ : List (Option V)) : Prop where
  len : env.length = σ.length
  get : ∀ (i : Nat) (w : W), env[i]? = some (some w) → ∃ v : V, σ[i]? = some (some v) ∧ IsW S c w v
end
section
variable {S : Sig} {α β : Type} {c c' : C} {Qo Qo' : C → α → Hm → Hp → Prop} {Qe Qe' : Value → Option Addr → Hp → Prop}
theorem Aft.mono {r : R α} (h : Aft S c r Qo Qe) (x : Ext c c') (ho : ∀ c2 a h2 H, Ext c' c2 → Rel S c2 h2 H → Qo c2 a h2 H → Qo' c2 a h2 H) (he : ∀ v d H, Qe v d H → Qe' v d H) : Aft S c' r Qo' Qe' := by
  cases r with
  | ok a h1 => exact fun c2 H y z => ho c2 a h1 H y z (h c2 H (x.trans y) z)
  | ex e h1 => exact fun c2 H cls d y z w => he _ _ _ (h c2 H cls d (x.trans y) z w)
  | no => exact h
theorem Aft.up {r : R α} (h : Aft S c r Qo Qe) (x : Ext c c') : Aft S c' r Qo Qe := h.mono x (fun _ _ _ _ _ _ q => q) fun _ _ _ q => q
theorem Aft.bind {r : R α} {f : α → Hm → R β} {Qo : C → β → Hm → Hp → Prop} (h : Aft S c (r.bind f) Qo Qe) : Aft S c r (fun c1 a h1 _ => Aft S c1 (f a h1) Qo Qe) Qe := by
  cases r with
  | ok a h1 => exact fun c1 H y z => Aft.up (show Aft S c (f a h1) Qo Qe from h) y
  | ex e h1 => exact h
  | no => exact h
theorem EnvOk.up {env : En} {σ : List (Option V)} (h : EnvOk S c env σ) (x : Ext c c') : EnvOk S c' env σ :=
  ⟨h.len, fun i w e => let ⟨v, a, b⟩ := h.get i w e; ⟨v, a, b.mono x⟩⟩
theorem EnvOk.upS {env : En} {σ : List (Option V)} (h : EnvOk S c env σ) (x : Sub c c') : EnvOk S c' env σ :=
  ⟨h.len, fun i w e => let ⟨v, a, b⟩ := h.get i w e; ⟨v, a, b.monoS x⟩⟩
theorem EnvOk.set {env : En} {σ : List (Option V)} (h : EnvOk S c env σ) {i : Nat} {w : W} {v : V} (q : IsW S c w v) : EnvOk S c (env.set i (some w)) (σ.set i (some v)) := by
  refine ⟨by simp [h.len], fun j u e => ?_⟩
  by_cases hj : i = j
  · subst hj
    rw [List.getElem?_set] at e
    simp only [if_true] at e
    split at e
    · cases e
      rename_i hl
      rw [h.len] at hl
      exact ⟨v, by rw [List.getElem?_set_self hl], q⟩
    · cases e
  · rw [List.getElem?_set_ne hj] at e ⊢
    exact h.get j u e
end

/-- a wish of a body about exceptions, without the slots -/
abbrev XW := Value → Option Addr → Hp → Prop
/-- the reading of an expression that the evaluator knows -/
def TEof (S : Sig) (Wx : WX) (f : En → Hm → R W) : TE := fun σ H Q => ∃ c env h, EnvOk S c env σ ∧ Rel S c h H ∧ Aft S c (f env h) (fun c' w _ H' => ∀ v, IsW S c' w v → Q v H') (fun cls d H' => Wx cls d σ H')
def TTof (S : Sig) (Wx : WX) (f : En → Hm → R Bool) : TT := fun σ H Q => ∃ c env h, EnvOk S c env σ ∧ Rel S c h H ∧ Aft S c (f env h) (fun _ b _ H' => Q b H') (fun cls d H' => Wx cls d σ H')
def TAof (S : Sig) (Wx : WX) (f : En → Hm → R (List W)) : TA := fun σ H Q => ∃ c env h, EnvOk S c env σ ∧ Rel S c h H ∧ Aft S c (f env h) (fun c' ws _ H' => ∀ vs, IsWs S c' ws vs → Q vs H') (fun cls d H' => Wx cls d σ H')

/-- a statement's end -/
inductive Fl where
  | nx | rt (w : W) | bk | ct | xc (e : Ex)
abbrev Fs := En → Hm → R (Fl × En)
def SPost (S : Sig) (Wx : WX) (D : Ends) (c : C) (p : Fl × En) (H : Hp) : Prop := match p.1 with
  | .nx => ∀ σ, EnvOk S c p.2 σ → D.nx σ H
  | .rt w => ∀ v, IsW S c w v → D.rt v H
  | .bk => ∀ σ, EnvOk S c p.2 σ → D.bk σ H
  | .ct => ∀ σ, EnvOk S c p.2 σ → D.ct σ H
  | .xc e => ∀ σ cls d, EnvOk S c p.2 σ → IsEx S c e cls d H → Wx cls d σ H
def TSof (S : Sig) (Wx : WX) (f : Fs) : TS := fun D σ H => ∃ c env h, EnvOk S c env σ ∧ Rel S c h H ∧ Aft S c (f env h) (fun c' p _ H' => SPost S Wx D c' p H') (fun _ _ _ => False)
end Mi

/-! Mi 2: the small heap grows and changes; the first rules. -/
namespace Mi
open PySem L2

/-! ### the heap -/
def C.addF (c : C) (p : Addr) (o : HO) : C := { c with F := upd c.F p o }
def C.addM (c : C) (p : Addr) : C := { c with ι := fun m => if m = c.n then p else c.ι m, n := c.n + 1 }
section
variable {S : Sig} {c c' : C} {h : Hm} {H H' : Hp} {p a : Addr} {o : HO} {m : MO}
theorem IsO.up (x : Ext c c') (k : H' a = H a) (q : IsO S c H a m) : IsO S c' H' a m := by
  cases m with
  | lst l => obtain ⟨vs, e, r⟩ := q; exact ⟨vs, k.trans e, r.mono x⟩
  | dK ks l => obtain ⟨vs, z, e, r⟩ := q; exact ⟨vs, z, k.trans e, r.mono x⟩
  | dT ks l => obtain ⟨vs, z, e, r⟩ := q; exact ⟨vs, z, k.trans e, r.mono x⟩
  | ins t fs l => obtain ⟨dx, vs, z, e, r⟩ := q; exact ⟨dx, vs, z, k.trans e, r.mono x⟩
  | dead => trivial
theorem IsO.isSome (lv : m.live = true) (q : IsO S c H a m) : ∃ u, H a = some u := by
  cases m with
  | lst l => obtain ⟨vs, e, r⟩ := q; exact ⟨_, e⟩
  | dK ks l => obtain ⟨vs, z, e, r⟩ := q; exact ⟨_, e⟩
  | dT ks l => obtain ⟨vs, z, e, r⟩ := q; exact ⟨_, e⟩
  | ins t fs l => obtain ⟨dx, vs, z, e, r⟩ := q; exact ⟨_, e⟩
  | dead => cases lv
theorem Ext.addF (hp : c.F p = none) : Ext c (c.addF p o) :=
  ⟨rfl, fun _ _ => rfl, fun b u e => by show upd c.F p o b = _; rw [upd_ne (ne_of_none e hp)]; exact e, Nat.le_refl _⟩
theorem Ext.addM : Ext c (c.addM p) :=
  ⟨rfl, fun m hm => by show (if m = c.n then p else c.ι m) = _; rw [if_neg (Nat.ne_of_lt hm)], fun _ _ e => e, Nat.le_succ _⟩
theorem Rel.nonF (r : Rel S c h H) (hp : H p = Option.none) : c.F p = Option.none := by
  cases e : c.F p with
  | none => rfl
  | some u => rw [r.fz _ _ e] at hp; cases hp
theorem Rel.neq (r : Rel S c h H) (hp : H p = Option.none) {n : Nat} {m : MO} (e : h[n]? = Option.some m) (lv : m.live = true) : c.ι n ≠ p := fun z => by
  obtain ⟨u, q⟩ := (r.mu n m e).isSome lv
  rw [z, hp] at q
  cases q
/-- a new frozen object -/
theorem Rel.addF (r : Rel S c h H) (hp : H p = Option.none) (ho : ∀ ps, o ≠ .tbl ps := by intro ps z; cases z) : Rel S (c.addF p o) h (upd H p o) := by
  have x : Ext c (c.addF p o) := Ext.addF (r.nonF hp)
  refine ⟨r.sz, fun b u e => ?_, fun n m e => ?_, fun n m e lv => ?_, r.inj, fun b u e => ?_, fun b u e => ?_, r.pm, r.pt, r.am.fresh hp, ⟨upd_nt r.nt.1 ho, r.nt.2⟩⟩
  · by_cases hb : b = p
    · subst hb
      rw [show (c.addF b o).F b = upd c.F b o b from rfl, upd_same] at e
      rw [upd_same]; exact e
    · rw [show (c.addF p o).F b = upd c.F p o b from rfl, upd_ne hb] at e
      rw [upd_ne hb]; exact r.fz _ _ e
  · cases lv : m.live with
    | true => exact (r.mu n m e).up x (show upd H p o (c.ι n) = H (c.ι n) from upd_ne (r.neq hp e lv))
    | false => cases m <;> first | trivial | cases lv
  · show upd c.F p o (c.ι n) = _
    rw [upd_ne (r.neq hp e lv)]
    exact r.nf n m e lv
  · have e : c.P b = some u := e
    rw [upd_ne (ne_of_none (r.pr _ _ e) hp)]
    exact r.pr _ _ e
  · have e : c.P b = some u := e
    show upd c.F p o b = _
    rw [upd_ne (ne_of_none (r.pr _ _ e) hp)]
    exact r.pf _ _ e
/-- a new object of the small heap -/
theorem Rel.addM (r : Rel S c h H) (hp : H p = Option.none) (q : IsO S (c.addM p) (upd H p o) p m) : Rel S (c.addM p) (h ++ [m]) (upd H p o) := by
  have x : Ext c (c.addM p) := Ext.addM
  have at_ : (c.addM p).ι h.length = p := by show (if h.length = c.n then p else c.ι h.length) = _; rw [if_pos r.sz.symm]
  have old : ∀ n, n < h.length → (c.addM p).ι n = c.ι n := fun n hn => x.ι n (by rw [r.sz]; exact hn)
  have cs : ∀ n u, (h ++ [m])[n]? = some u → (n < h.length ∧ h[n]? = some u) ∨ (n = h.length ∧ u = m) := fun n u e => by
    rcases Nat.lt_or_ge n h.length with hn | hn
    · rw [List.getElem?_append_left hn] at e
      exact .inl ⟨hn, e⟩
    · rw [List.getElem?_append_right hn] at e
      have hz : n - h.length = 0 := by
        rcases Nat.eq_zero_or_pos (n - h.length) with z | z
        · exact z
        · rw [List.getElem?_eq_none (by simp; omega)] at e; cases e
      rw [hz] at e
      exact .inr ⟨by omega, (Option.some.inj e).symm⟩
  refine ⟨by show c.n + 1 = _; rw [r.sz]; simp, fun b u e => ?_, fun n u e => ?_, fun n u e lv => ?_, fun a b u v ea eb la lb z => ?_, fun b u e => ?_, r.pf, fun n u e lv => ?_, r.pt, r.am.fresh hp, r.nt⟩
  · rw [upd_ne (ne_of_none (r.fz _ _ e) hp)]; exact r.fz _ _ e
  · rcases cs n u e with ⟨hn, e'⟩ | ⟨rfl, rfl⟩
    · rw [old n hn]
      cases lv : u.live with
      | true => exact (r.mu n u e').up x (by rw [upd_ne (r.neq hp e' lv)])
      | false => cases u <;> first | trivial | cases lv
    · rw [at_]; exact q
  · rcases cs n u e with ⟨hn, e'⟩ | ⟨rfl, rfl⟩
    · rw [old n hn]; exact r.nf n u e' lv
    · rw [at_]; exact r.nonF hp
  · rcases cs a u ea with ⟨ha, ea'⟩ | ⟨rfl, rfl⟩ <;> rcases cs b v eb with ⟨hb, eb'⟩ | ⟨rfl, rfl⟩
    · rw [old a ha, old b hb] at z
      exact r.inj a b u v ea' eb' la lb z
    · rw [old a ha, at_] at z
      exact absurd z (r.neq hp ea' la)
    · rw [old b hb, at_] at z
      exact absurd z.symm (r.neq hp eb' lb)
    · rfl
  · have e : c.P b = some u := e
    rw [upd_ne (ne_of_none (r.pr _ _ e) hp)]
    exact r.pr _ _ e
  · show c.P _ = _
    rcases cs n u e with ⟨hn, e'⟩ | ⟨rfl, rfl⟩
    · rw [old n hn]; exact r.pm n u e' lv
    · rw [at_]
      cases q : c.P p with
      | none => rfl
      | some v => rw [r.pr _ _ q] at hp; cases hp
/-- an object of the small heap is changed -/
theorem Rel.set (r : Rel S c h H) {n : Nat} {u : MO} (e : h[n]? = Option.some u) (lv : u.live = true) (q : IsO S c (upd H (c.ι n) o) (c.ι n) m) : Rel S c (h.set n m) (upd H (c.ι n) o) := by
  have hn : n < h.length := (List.getElem?_eq_some_iff.mp e).1
  have cs : ∀ k v, (h.set n m)[k]? = Option.some v → (k ≠ n ∧ h[k]? = some v) ∨ (k = n ∧ v = m) := fun k v e => by
    by_cases hk : n = k
    · subst hk
      rw [List.getElem?_set_self hn] at e
      exact .inr ⟨rfl, (Option.some.inj e).symm⟩
    · rw [List.getElem?_set_ne hk] at e
      exact .inl ⟨fun z => hk z.symm, e⟩
  refine ⟨by rw [List.length_set]; exact r.sz, fun b v eb => ?_, fun k v ek => ?_, fun k v ek lk => ?_, fun a b v w ea eb la lb z => ?_, fun b v eb => ?_, r.pf, fun k v ek lk => ?_, r.pt, (by obtain ⟨w, e1, e2⟩ := (r.mu n u e).plain lv; exact r.am.put e1 e2), r.nt⟩
  · rw [upd_ne (ne_of_none eb (r.nf n u e lv))]; exact r.fz _ _ eb
  · rcases cs k v ek with ⟨hk, e'⟩ | ⟨rfl, rfl⟩
    · cases lk : v.live with
      | true => exact (r.mu k v e').up (Ext.refl c) (by rw [upd_ne fun z => hk (r.inj k n v u e' e lk lv z)])
      | false => cases v <;> first | trivial | cases lk
    · exact q
  · rcases cs k v ek with ⟨hk, e'⟩ | ⟨rfl, rfl⟩
    · exact r.nf k v e' lk
    · exact r.nf k u e lv
  · rcases cs a v ea with ⟨ha, ea'⟩ | ⟨rfl, rfl⟩ <;> rcases cs b w eb with ⟨hb, eb'⟩ | ⟨rfl, rfl⟩
    · exact r.inj a b v w ea' eb' la lb z
    · exact r.inj a b v u ea' e la lv z
    · exact r.inj a b u w e eb' lv lb z
    · rfl
  · rw [upd_ne (ne_of_none eb (r.pm n u e lv))]; exact r.pr _ _ eb
  · rcases cs k v ek with ⟨hk, e'⟩ | ⟨rfl, rfl⟩
    · exact r.pm k v e' lk
    · exact r.pm k u e lv
/-- refs below n alone -/
def W.below (n : Nat) : W → Bool
  | .d _ => true
  | .r m => decide (m < n)
def MO.below (n : Nat) : MO → Bool
  | .lst l => l.all (W.below n)
  | .dK _ l => l.all (W.below n)
  | .dT _ l => l.all (W.below n)
  | .ins _ _ l => l.all (W.below n)
  | .dead => true
theorem IsW.cut {n : Nat} {w : W} {v : V} (b : w.below n = true) (q : IsW S c w v) : IsW S { c with n := n } w v := by
  cases w with
  | d x => exact q
  | r m => exact ⟨of_decide_eq_true b, q.2⟩
theorem IsWs.cut {n : Nat} : ∀ {l : List W} {vs : List V}, l.all (W.below n) = true → IsWs S c l vs → IsWs S { c with n := n } l vs
  | [], _, _, h => h
  | _ :: _, _, b, ⟨v, r, e, q, t⟩ => by
    rw [List.all_cons, Bool.and_eq_true] at b
    exact ⟨v, r, e, q.cut b.1, IsWs.cut b.2 t⟩
theorem IsO.cut {n : Nat} (b : m.below n = true) (q : IsO S c H a m) : IsO S { c with n := n } H a m := by
  cases m with
  | lst l => obtain ⟨vs, e, r⟩ := q; exact ⟨vs, e, r.cut b⟩
  | dK ks l => obtain ⟨vs, z, e, r⟩ := q; exact ⟨vs, z, e, r.cut b⟩
  | dT ks l => obtain ⟨vs, z, e, r⟩ := q; exact ⟨vs, z, e, r.cut b⟩
  | ins t fs l => obtain ⟨dx, vs, z, e, r⟩ := q; exact ⟨dx, vs, z, e, r.cut b⟩
  | dead => trivial
/-- objects at the end are forgotten -/
theorem Rel.cut (r : Rel S c h H) {n : Nat} (hn : n ≤ h.length) (b : (h.take n).all (MO.below n) = true) : Rel S { c with n := n } (h.take n) H := by
  have cs : ∀ (k : Nat) (v : MO), (h.take n)[k]? = Option.some v → h[k]? = some v := fun k v e => by
    rw [List.getElem?_take] at e
    split at e
    · exact e
    · cases e
  refine ⟨by show n = _; rw [List.length_take]; omega, r.fz, fun k v e => (r.mu k v (cs k v e)).cut ?_, fun k v e => r.nf k v (cs k v e), fun j k u v eu ev => r.inj j k u v (cs j u eu) (cs k v ev), r.pr, r.pf, fun k v e => r.pm k v (cs k v e), r.pt, r.am, r.nt⟩
  exact List.all_eq_true.mp b v (List.mem_of_getElem? e)
end
end Mi

/-! Mi 3: expressions. -/
namespace Mi
open PySem L2

theorem pe_mono {X : Cx} {e : Expr} {t t' : TE} (h : PE X e t) (k : ∀ σ H Q, t' σ H Q → t σ H Q) : PE X e t' :=
  ⟨fun pins s σ H Q I q => h.run pins s σ H Q I (k σ H Q q)⟩
theorem pt_mono {X : Cx} {e : Expr} {t t' : TT} (h : PT X e t) (k : ∀ σ H Q, t' σ H Q → t σ H Q) : PT X e t' :=
  ⟨fun pins s σ H Q I q => h.run pins s σ H Q I (k σ H Q q)⟩
theorem pw_mono {X : Cx} {e : Expr} {t t' : TT} (h : PW X e t) (k : ∀ σ H Q, t' σ H Q → t σ H Q) : PW X e t' :=
  ⟨fun w pins s σ H Q I q => h.run w pins s σ H Q I (k σ H Q q)⟩
theorem pa_mono {X : Cx} {e : List Expr} {t t' : TA} (h : PA X e t) (k : ∀ σ H Q, t' σ H Q → t σ H Q) : PA X e t' :=
  ⟨fun w pins s σ H Q I q => h.run w pins s σ H Q I (k σ H Q q)⟩

/-- what the context brings -/
structure Qx (X : Cx) (S : Sig) (k : Nat) (Wx : WX) : Prop where
  K : S.K = X.K
  calm : X.calm = true
  nd : X.N.Nodup
  room : Room k X.A
  tk : Takes X Wx

abbrev Fe := En → Hm → R W
abbrev Ft := En → Hm → R Bool
abbrev Fa := En → Hm → R (List W)

def vVar (i : Nat) : Fe := fun env h => match env[i]? with
  | some (some w) => .ok w h
  | _ => .no
def vC (x : D) : Fe := fun _ h => .ok (.d x) h
def v2 (sem : W → W → Hm → R W) (fa fb : Fe) : Fe := fun env h => (fa env h).bind fun x h1 => (fb env h1).bind fun y h2 => sem x y h2

section
variable {X : Cx} {S : Sig} {k : Nat} {Wx : WX} {a b e : Expr} {fa fb : Fe} {pos : Pos}
theorem me_var {i : Nat} {x : Str} (hN : X.N[i]? = some x) (hv : Vis X.env.scope x) (hd : (x == ("__debug__" : Str)) = false) (hcd : (x == ("__classdict__" : Str)) = false) : PE X (.Name x pos) (TEof S Wx (vVar i)) := by
  refine pe_mono (pe_var hN hv hd hcd) fun σ H Q ⟨c, env, h, ev, r, q⟩ => ?_
  unfold vVar at q
  split at q
  · rename_i w e
    obtain ⟨v, e1, w1⟩ := ev.get i w e
    exact ⟨v, e1, q c H (Ext.refl c) r v w1⟩
  · exact q.elim
theorem me_c {x : D} {v : V} (h : PE X e (tC v)) (hx : ∀ F, IsD S F x v) : PE X e (TEof S Wx (vC x)) :=
  pe_mono h fun σ H Q ⟨c, env, h, ev, r, q⟩ => q c H (Ext.refl c) r v (hx c.F)
theorem me_int {i : Int} {j : Nat} : PE X (.Constant (.int i) j pos) (TEof S Wx (vC (.int i))) := me_c pe_int fun F => by simp only [IsD]
theorem me_bl {i : Bool} {j : Nat} : PE X (.Constant (.bool i) j pos) (TEof S Wx (vC (.bl i))) := me_c pe_bl fun F => by simp only [IsD]
theorem me_non {j : Nat} : PE X (.Constant .none j pos) (TEof S Wx (vC .non)) := me_c pe_non fun F => by simp only [IsD]
theorem me_str {x : Str} {j : Nat} : PE X (.Constant (.str x) j pos) (TEof S Wx (vC (.str x))) := me_c pe_str fun F => by simp only [IsD]

/-- the reading of a two-place operation by its meaning -/
def rS (S : Sig) (sem : W → W → Hm → R W) : R2 := fun x y H Q => ∃ c h w1 w2, Rel S c h H ∧ IsW S c w1 x ∧ IsW S c w2 y ∧ Aft S c (sem w1 w2 h) (fun c' w _ H' => ∀ v, IsW S c' w v → Q v H') (fun _ _ _ => True)
theorem top_of {sem : W → W → Hm → R W} : ∀ σ H Q, TEof S Wx (v2 sem fa fb) σ H Q → tOp (rS S sem) (TEof S Wx fa) (TEof S Wx fb) σ H Q := fun σ H Q ⟨c, env, h, ev, r, q⟩ =>
  ⟨c, env, h, ev, r, q.bind.mono (Ext.refl c) (fun c1 w1 h1 H1 x1 r1 q1 v1 i1 => ⟨c1, env, h1, ev.up x1, r1, q1.bind.mono (Ext.refl c1) (fun c2 w2 h2 H2 x2 r2 q2 v2 i2 => ⟨c2, h2, w1, w2, r2, i1.mono x2, i2, q2.mono (Ext.refl c2) (fun _ _ _ _ _ _ q => q) fun _ _ _ _ => trivial⟩) fun _ _ _ q => q⟩) fun _ _ _ q => q⟩
theorem me_op {op : Operator} {sem : W → W → Hm → R W} (ho : OpR X (binaryOp op) (rS S sem)) (ha : PE X a (TEof S Wx fa)) (hb : PE X b (TEof S Wx fb)) : PE X (.BinOp a op b pos) (TEof S Wx (v2 sem fa fb)) :=
  pe_mono (pe_op ho ha hb) top_of
theorem me_cmp {op : CmpOp} {sem : W → W → Hm → R W} (ho : OpR X (compareOp op) (rS S sem)) (ha : PE X a (TEof S Wx fa)) (hb : PE X b (TEof S Wx fb)) (hm : behindInMarks op b = false) : PE X (.Compare a [op] [b] pos) (TEof S Wx (v2 sem fa fb)) :=
  pe_mono (pe_cmpR ho ha hb hm) top_of
theorem OpR.imp {f : Value → Value → Sem Value} {r r' : R2} (h : OpR X f r) (k : ∀ x y H Q, r' x y H Q → r x y H Q) : OpR X f r' :=
  fun pins s σ H x y v u Q I rx ry q => h pins s σ H x y v u Q I rx ry (k x y H Q q)

/-! ### ints -/
def sI (C : Int → Int → Bool) (g : Int → Int → D) : W → W → Hm → R W := fun a b h => match a, b with
  | .d (.int i), .d (.int j) => if C i j = true then .ok (.d (g i j)) h else .no
  | _, _ => .no
theorem sI_of {C : Int → Int → Bool} {g : Int → Int → D} {x y : V} {H : Hp} {Q : VK} (q : rS S (sI C g) x y H Q) : ∃ i j, x = .int i ∧ y = .int j ∧ C i j = true ∧ ∀ v, (∀ F, IsD S F (g i j) v) → Q v H := by
  obtain ⟨c, h, w1, w2, r, i1, i2, q⟩ := q
  unfold sI at q
  split at q
  · rename_i i j
    have i1 : IsD S c.F (.int i) x := i1
    have i2 : IsD S c.F (.int j) y := i2
    simp only [IsD] at i1 i2
    split at q
    · rename_i hc
      exact ⟨i, j, i1, i2, hc, fun v hv => q c H (Ext.refl c) r v (hv _)⟩
    · exact q.elim
  · exact q.elim
def cT : Int → Int → Bool := fun _ _ => true
def cDiv : Int → Int → Bool := fun _ j => decide (0 < j) && decide (j < 1073741824)
def cMod : Int → Int → Bool := fun _ j => decide (0 < j)
def cMul : Int → Int → Bool := fun i j => (decide (-(2 ^ 64) < i) && decide (i < 2 ^ 64)) || (decide (-(2 ^ 64) < j) && decide (j < 2 ^ 64))
def cPow : Int → Int → Bool := fun i j => decide (0 ≤ j) && decide (j ≤ 1000000) && decide (i.natAbs < 2 ^ 64)
theorem o_add : OpR X (binaryOp .Add) (rS S (sI cT fun i j => .int (i + j))) := OpR.imp op_add fun x y H Q q => by
  obtain ⟨i, j, e1, e2, _, q⟩ := sI_of q
  exact ⟨i, j, e1, e2, q _ fun F => by simp only [IsD]⟩
theorem o_sub : OpR X (binaryOp .Sub) (rS S (sI cT fun i j => .int (i - j))) := OpR.imp op_sub fun x y H Q q => by
  obtain ⟨i, j, e1, e2, _, q⟩ := sI_of q
  exact ⟨i, j, e1, e2, q _ fun F => by simp only [IsD]⟩
theorem o_mul : OpR X (binaryOp .Mult) (rS S (sI cMul fun i j => .int (i * j))) := OpR.imp op_mul fun x y H Q q => by
  obtain ⟨i, j, e1, e2, c, q⟩ := sI_of q
  refine ⟨i, j, e1, e2, ?_, q _ fun F => by simp only [IsD]⟩
  simp only [cMul, Bool.or_eq_true, Bool.and_eq_true, decide_eq_true_eq] at c
  exact c
theorem o_fdiv : OpR X (binaryOp .FloorDiv) (rS S (sI cDiv fun i j => .int (i / j))) := OpR.imp op_fdiv fun x y H Q q => by
  obtain ⟨i, j, e1, e2, c, q⟩ := sI_of q
  refine ⟨i, j, e1, e2, ?_, q _ fun F => by simp only [IsD]⟩
  simp only [cDiv, Bool.and_eq_true, decide_eq_true_eq] at c
  exact c
theorem o_mod : OpR X (binaryOp .Mod) (rS S (sI cMod fun i j => .int (i % j))) := OpR.imp op_mod fun x y H Q q => by
  obtain ⟨i, j, e1, e2, c, q⟩ := sI_of q
  refine ⟨i, j, e1, e2, ?_, q _ fun F => by simp only [IsD]⟩
  simp only [cMod, decide_eq_true_eq] at c
  exact c
theorem o_pow : OpR X (binaryOp .Pow) (rS S (sI cPow fun i j => .int (i ^ j.toNat))) := OpR.imp op_pow fun x y H Q q => by
  obtain ⟨i, j, e1, e2, c, q⟩ := sI_of q
  refine ⟨i, j, e1, e2, ?_, q _ fun F => by simp only [IsD]⟩
  simp only [cPow, Bool.and_eq_true, decide_eq_true_eq] at c
  exact ⟨c.1.1, c.1.2, c.2⟩
theorem o_lt : OpR X (compareOp .Lt) (rS S (sI cT fun i j => .bl (decide (i < j)))) := OpR.imp op_lt fun x y H Q q => by
  obtain ⟨i, j, e1, e2, _, q⟩ := sI_of q
  exact ⟨i, j, e1, e2, q _ fun F => by simp only [IsD]⟩
theorem o_le : OpR X (compareOp .LtE) (rS S (sI cT fun i j => .bl (decide (i ≤ j)))) := OpR.imp op_le fun x y H Q q => by
  obtain ⟨i, j, e1, e2, _, q⟩ := sI_of q
  exact ⟨i, j, e1, e2, q _ fun F => by simp only [IsD]⟩
theorem o_gt : OpR X (compareOp .Gt) (rS S (sI cT fun i j => .bl (decide (j < i)))) := OpR.imp op_gt fun x y H Q q => by
  obtain ⟨i, j, e1, e2, _, q⟩ := sI_of q
  exact ⟨i, j, e1, e2, q _ fun F => by simp only [IsD]⟩
theorem o_ge : OpR X (compareOp .GtE) (rS S (sI cT fun i j => .bl (decide (j ≤ i)))) := OpR.imp op_ge fun x y H Q q => by
  obtain ⟨i, j, e1, e2, _, q⟩ := sI_of q
  exact ⟨i, j, e1, e2, q _ fun F => by simp only [IsD]⟩

/-! ### displays -/
def vTup (f : Fa) : Fe := fun env h => (f env h).bind fun ws h1 => match pures ws with
  | some ds => if ws.length ≤ sizeLine then .ok (.d (.tup ds)) h1 else .no
  | none => .no
/-- a list whose items are trees, never changed -/
def vLst (f : Fa) : Fe := fun env h => (f env h).bind fun ws h1 => match pures ws with
  | some ds => if ws.length ≤ sizeLine then .ok (.d (.lst ds)) h1 else .no
  | none => .no
/-- a list of the small heap -/
def vLstM (f : Fa) : Fe := fun env h => (f env h).bind fun ws h1 => if ws.length ≤ sizeLine then .ok (.r h1.length) (h1 ++ [.lst ws]) else .no
def aNil : Fa := fun _ h => .ok [] h
def aCons (f : Fe) (g : Fa) : Fa := fun env h => (f env h).bind fun w h1 => (g env h1).bind fun ws h2 => .ok (w :: ws) h2
theorem ma_nil : PA X [] (TAof S Wx aNil) := pa_mono pa_nil fun σ H Q ⟨c, env, h, ev, r, q⟩ => q c H (Ext.refl c) r [] rfl
theorem ma_cons {es : List Expr} {g : Fa} (ha : PE X e (TEof S Wx fa)) (hr : PA X es (TAof S Wx g)) (hs : starEach (e :: es) X.env = (false, eval e X.env) :: starEach es X.env) : PA X (e :: es) (TAof S Wx (aCons fa g)) :=
  pa_mono (pa_cons ha hr hs) fun σ H Q ⟨c, env, h, ev, r, q⟩ =>
    ⟨c, env, h, ev, r, q.bind.mono (Ext.refl c) (fun c1 w1 h1 H1 x1 r1 q1 v1 i1 => ⟨c1, env, h1, ev.up x1, r1, q1.bind.mono (Ext.refl c1) (fun c2 ws h2 H2 x2 r2 q2 vs i2 => q2 c2 H2 (Ext.refl c2) r2 (v1 :: vs) ⟨v1, vs, rfl, i1.mono x2, i2⟩) fun _ _ _ q => q⟩) fun _ _ _ q => q⟩
theorem me_tup {es : List Expr} {g : Fa} {x1 : Nat} (hg : PA X es (TAof S Wx g)) : PE X (.Tuple es x1 pos) (TEof S Wx (vTup g)) :=
  pe_mono (pe_tup hg) fun σ H Q ⟨c, env, h, ev, r, q⟩ => ⟨c, env, h, ev, r, q.bind.mono (Ext.refl c) (fun c1 ws h1 H1 x1 r1 q1 vs i1 => by
    split at q1
    · rename_i ds e
      split at q1
      · rename_i hz
        refine ⟨by rw [← i1.length]; exact hz, fun p hp => ?_⟩
        have x2 : Ext c1 (c1.addF p (.tup vs)) := Ext.addF (r1.nonF hp)
        refine q1 _ _ x2 (r1.addF hp) _ ?_
        show IsD S _ (.tup ds) _
        simp only [IsD]
        exact ⟨p, vs, rfl, upd_same, (pures_is e i1).mono x2.F⟩
      · exact q1.elim
    · exact q1.elim) fun _ _ _ q => q⟩
theorem me_lst {es : List Expr} {g : Fa} (hg : PA X es (TAof S Wx g)) : PE X (.List es pos) (TEof S Wx (vLst g)) :=
  pe_mono (pe_lst hg) fun σ H Q ⟨c, env, h, ev, r, q⟩ => ⟨c, env, h, ev, r, q.bind.mono (Ext.refl c) (fun c1 ws h1 H1 x1 r1 q1 vs i1 => by
    split at q1
    · rename_i ds e
      split at q1
      · rename_i hz
        refine ⟨by rw [← i1.length]; exact hz, fun p hp => ?_⟩
        have x2 : Ext c1 (c1.addF p (.lst vs)) := Ext.addF (r1.nonF hp)
        refine q1 _ _ x2 (r1.addF hp) _ ?_
        show IsD S _ (.lst ds) _
        simp only [IsD]
        exact ⟨p, vs, rfl, upd_same, (pures_is e i1).mono x2.F⟩
      · exact q1.elim
    · exact q1.elim) fun _ _ _ q => q⟩
theorem me_lstM {es : List Expr} {g : Fa} (hg : PA X es (TAof S Wx g)) : PE X (.List es pos) (TEof S Wx (vLstM g)) :=
  pe_mono (pe_lst hg) fun σ H Q ⟨c, env, h, ev, r, q⟩ => ⟨c, env, h, ev, r, q.bind.mono (Ext.refl c) (fun c1 ws h1 H1 x1 r1 q1 vs i1 => by
    split at q1
    · rename_i hz
      refine ⟨by rw [← i1.length]; exact hz, fun p hp => ?_⟩
      refine q1 _ _ Ext.addM (r1.addM (m := .lst ws) hp ⟨vs, upd_same, i1.mono Ext.addM⟩) _ ⟨?_, ?_⟩
      · show h1.length < c1.n + 1
        rw [r1.sz]; exact Nat.lt_succ_self _
      · show V.ref p = .ref (if h1.length = c1.n then p else c1.ι h1.length)
        rw [if_pos r1.sz.symm]
    · exact q1.elim) fun _ _ _ q => q⟩
end
end Mi

/-! Mi 4: calls of defs. -/
namespace Mi
open PySem L2

/-- what a callable does with positional values and keywords -/
abbrev Fn := List W → List (Str × W) → Hm → R W

structure Calls (P : Program) (w : World) (mg : Str → Option Value) (base : Heap) (S : Sig) (k : Nat) (f : Addr) (g : Fn) : Prop where
  run : ∀ (A : Around) (outer : List Env) (s : Shared) (H : Hp) (us : List Value) (kw : List (Str × Value)) (c : C) (h : Hm) (ws : List W) (vs : List V) (kws : List (Str × W)) (kvs : List V) (Q : VK) (E : XK),
    Room k A → A.guards = some [] → Env0 P w S.K mg base A outer s H → IsWs S c ws vs → Vals vs us → kw.map (·.1) = kws.map (·.1) → IsWs S c (kws.map (·.2)) kvs → Vals kvs (kw.map (·.2)) → Rel S c h H →
    Aft S c (g ws kws h) (fun c' w _ H' => ∀ v, IsW S c' w v → Q v H') E → codeAny (model P w) A (.call (.ref f) ⟨us, kw⟩) (CR (L2.CX P w) outer P w H s Q E) s
theorem Calls.mono {P : Program} {w : World} {mg : Str → Option Value} {base : Heap} {S : Sig} {j k : Nat} {f : Addr} {g : Fn} (F : Calls P w mg base S j f g) (h : j ≤ k) : Calls P w mg base S k f g :=
  ⟨fun A outer s H us kw c hh ws vs kws kvs Q E hr => F.run A outer s H us kw c hh ws vs kws kvs Q E (hr.mono h)⟩

section
variable {X : Cx} {S : Sig} {k : Nat} {Wx : WX} {pins : List (Addr × Obj)} {σ : L2.St} {H : Hp} {s : Shared}
/-- the callee runs -/
theorem run_g {f : Addr} {g : Fn} {us : List Value} {kw : List (Str × Value)} {c : C} {h : Hm} {ws : List W} {vs : List V} {kws : List (Str × W)} {kvs : List V} {Q : VK} (hK : S.K = X.K) (F : Calls X.prog X.w X.mg X.base S k f g) (hr : Room k X.A) (gd : X.A.guards = some []) (tk : Takes X Wx)
    (I : Inv X pins σ H s) (iw : IsWs S c ws vs) (r : Vals vs us) (e1 : kw.map (·.1) = kws.map (·.1)) (iw2 : IsWs S c (kws.map (·.2)) kvs) (r2 : Vals kvs (kw.map (·.2))) (rel : Rel S c h H)
    (q : Aft S c (g ws kws h) (fun c' w _ H' => ∀ v, IsW S c' w v → Q v H') (fun cls d H' => Wx cls d σ H')) : wpAny (model X.prog X.w) X.A (call (.ref f) us kw) (EP X pins σ Q) X.xe s := by
  refine wpAny_call (codeAny_mono (F.run X.A X.stack s H us kw c h ws vs kws kvs Q (fun cls d H' => Wx cls d σ H') hr gd (by rw [hK]; exact I.env0) iw r e1 iw2 r2 rel q) fun r s' hq => ?_)
  cases r with
  | error e => exact tk e s' (XE.of_call I (fun _ _ _ z => z) hq)
  | ok fl => rcases fl with _ | _ | _ | u <;> first | exact I.after hq | exact False.elim hq

end

/-- a value that runs as g -/
def Runs (X : Cx) (S : Sig) (Wx : WX) (fv : Value) (g : Fn) : Prop :=
  ∀ (pins : List (Addr × Obj)) (σ : L2.St) (H : Hp) (s : Shared) (us : List Value) (kw : List (Str × Value)) (c : C) (h : Hm) (ws : List W) (vs : List V) (kws : List (Str × W)) (kvs : List V) (Q : VK), Inv X pins σ H s → IsWs S c ws vs → Vals vs us → kw.map (·.1) = kws.map (·.1) →
    IsWs S c (kws.map (·.2)) kvs → Vals kvs (kw.map (·.2)) → Rel S c h H → Aft S c (g ws kws h) (fun c' w _ H' => ∀ v, IsW S c' w v → Q v H') (fun cls d H' => Wx cls d σ H') → wpAny (model X.prog X.w) X.A (call fv us kw) (EP X pins σ Q) X.xe s
theorem runs_g {X : Cx} {S : Sig} {k : Nat} {Wx : WX} {f : Addr} {g : Fn} (qx : Qx X S k Wx) (gd : X.A.guards = some []) (F : Calls X.prog X.w X.mg X.base S k f g) : Runs X S Wx (.ref f) g :=
  fun pins σ H s us kw c h ws vs kws kvs Q I iw r e1 iw2 r2 rel q => run_g qx.K F qx.room gd qx.tk I iw r e1 iw2 r2 rel q

/-! ### the call's arguments -/
def noStar : List Expr → Bool
  | [] => true
  | .Starred _ _ :: _ => false
  | _ :: r => noStar r
theorem noStar_each {env : Env} : ∀ {es : List Expr}, noStar es = true → starEach es env = es.map fun e => (false, eval e env)
  | [], _ => rfl
  | e :: r, h => by
    have hr : noStar r = true := by
      cases e <;> first | exact h | cases h
    rw [List.map_cons, ← noStar_each hr]
    cases e <;> first | rfl | cases h
theorem noStar_back {env : Env} {pos : Pos} : ∀ {es : List Expr}, noStar es = true → (backTo pos (starEach es env)).any (·.1) = false
  | [], _ => rfl
  | e :: r, h => by
    have hr : noStar r = true := by
      cases e <;> first | exact h | cases h
    have e1 : starEach (e :: r) env = (false, eval e env) :: starEach r env := by rw [noStar_each h, noStar_each hr]; rfl
    rw [e1]
    exact noStar_back (es := r) hr
theorem noStar_cons {env : Env} {e : Expr} {r : List Expr} (h : noStar (e :: r) = true) : starEach (e :: r) env = (false, eval e env) :: starEach r env ∧ noStar r = true := by
  have hr : noStar r = true := by
    cases e <;> first | exact h | cases h
  exact ⟨by rw [noStar_each h, noStar_each hr]; rfl, hr⟩
/-- the keywords' names -/
def kwNames : List Keyword → Option (List Str)
  | [] => some []
  | ⟨some n, _, _⟩ :: r => (kwNames r).map (n :: ·)
  | ⟨none, _, _⟩ :: _ => none
theorem kwNames_all {env : Env} {pos : Pos} : ∀ {kws : List Keyword} {ns : List Str}, kwNames kws = some ns → (backToKw pos (keywordEach kws env)).all (·.1.isSome) = true ∧ (backToKw pos (keywordEach kws env)).filterMap (·.1) = ns ∧ (backToKw pos (keywordEach kws env)).any (·.1.isNone) = false
  | [], ns, h => by cases h; exact ⟨rfl, rfl, rfl⟩
  | ⟨none, _, _⟩ :: _, ns, h => by cases h
  | ⟨some n, v, p⟩ :: r, ns, h => by
    unfold kwNames at h
    cases e : kwNames r with
    | none => rw [e] at h; cases h
    | some ms =>
      rw [e] at h
      cases h
      obtain ⟨h1, h2, h3⟩ := kwNames_all (env := env) (pos := pos) e
      have e1 : backToKw pos (keywordEach (⟨some n, v, p⟩ :: r) env) = (some n, (do let v ← eval v env; standAt pos; pure v)) :: backToKw pos (keywordEach r env) := rfl
      rw [e1]
      exact ⟨by rw [List.all_cons, h1]; rfl, by rw [List.filterMap_cons]; show n :: _ = _; rw [h2], by rw [List.any_cons, h3]; rfl⟩
section
variable {M : Model} {A : Around} {E : Value → Shared → Prop} {s : Shared} {env : Env} {K : PySem.W.Frag} {f : Value} {first : List Value} {pos : Pos} {Q : Value → Shared → Prop}
theorem with_pos {h₀ : Heap} (X : K.In h₀) (hk : PySem.W.keepIn K f = true) {es : List Expr} (hs : noStar es = true)
    (h : wpAny M A (spliced (backTo pos (starEach es env))) (fun vs s₁ => K.In s₁.heap ∧ wpAny M A (call f (first ++ vs)) Q E s₁) E s) (h0 : K.In s.heap) (h1 : es = [] → wpAny M A (call f (first ++ [])) Q E s) : wpAny M A (callWith pos f first (backTo pos (starEach es env)) []) Q E s := by
  cases es with
  | nil => exact PySem.W.callWith_K0 h0 hk (h1 rfl)
  | cons e r => exact PySem.W.callWith_K X hk h (noStar_cons hs).1 (noStar_back (noStar_cons (env := env) hs).2)
theorem with_kw {h₀ : Heap} (X : K.In h₀) (hk : PySem.W.keepIn K f = true) {e : Expr} {r : List Expr} {kws : List Keyword} {ns : List Str} (hs : noStar (e :: r) = true) (hn : kwNames kws = some ns)
    (h : wpAny M A (spliced (backTo pos (starEach (e :: r) env))) (fun vs s₁ => wpAny M A (evalAll ((backToKw pos (keywordEach kws env)).map (·.2))) (fun ks s₂ => K.In s₂.heap ∧ wpAny M A (call f (first ++ vs) (ns.zip ks)) Q E s₂) E s₁) E s) :
    wpAny M A (callWith pos f first (backTo pos (starEach (e :: r) env)) (backToKw pos (keywordEach kws env))) Q E s := by
  obtain ⟨h1, h2, h3⟩ := kwNames_all (env := env) (pos := pos) hn
  refine PySem.W.callWith_KW X hk h1 (by rw [h2]; exact h) ?_ (noStar_cons hs).1
  rw [noStar_back hs, h3]
  rfl
theorem with_kw0 {h₀ : Heap} (X : K.In h₀) (hk : PySem.W.keepIn K f = true) {kws : List Keyword} {ns : List Str} (hn : kwNames kws = some ns)
    (h : wpAny M A (evalAll ((backToKw pos (keywordEach kws env)).map (·.2))) (fun ks s₂ => K.In s₂.heap ∧ wpAny M A (call f (first ++ []) (ns.zip ks)) Q E s₂) E s) :
    wpAny M A (callWith pos f first (backTo pos (starEach [] env)) (backToKw pos (keywordEach kws env))) Q E s := by
  obtain ⟨h1, h2, h3⟩ := kwNames_all (env := env) (pos := pos) hn
  refine PySem.W.callWith_KW0 X hk h1 (by rw [h2]; exact h) ?_
  rw [h3]
  rfl
end
/-- the keywords' values as the evaluator knows them -/
theorem mk_nil {S : Sig} {X : Cx} {Wx : WX} : PK X [] (TAof S Wx aNil) := ⟨fun pos pins s σ H Q I ⟨c, env, h, ev, r, q⟩ => pk_nil.run pos pins s σ H Q I (q c H (Ext.refl c) r [] rfl)⟩
theorem mk_cons {S : Sig} {X : Cx} {Wx : WX} {e : Expr} {f : Fe} {g : Fa} {kws : List Keyword} {nm : Option Str} {kpos : Pos} (ha : PE X e (TEof S Wx f)) (hr : PK X kws (TAof S Wx g)) : PK X (⟨nm, e, kpos⟩ :: kws) (TAof S Wx (aCons f g)) :=
  ⟨fun pos pins s σ H Q I ⟨c, env, h, ev, r, q⟩ => (pk_cons ha hr).run pos pins s σ H Q I
    ⟨c, env, h, ev, r, q.bind.mono (Ext.refl c) (fun c1 w1 h1 H1 x1 r1 q1 v1 i1 => ⟨c1, env, h1, ev.up x1, r1, q1.bind.mono (Ext.refl c1) (fun c2 ws h2 H2 x2 r2 q2 vs i2 => q2 c2 H2 (Ext.refl c2) r2 (v1 :: vs) ⟨v1, vs, rfl, i1.mono x2, i2⟩) fun _ _ _ q => q⟩) fun _ _ _ q => q⟩⟩

/-- positional values, keywords -/
def vArgs (fa fk : Fa) (ks : List Str) (g : Fn) (first : List W) : En → Hm → R W := fun env h => (fa env h).bind fun ws h1 => (fk env h1).bind fun zs h2 => if zs.length = ks.length then g (first ++ ws) (ks.zip zs) h2 else .no
section
variable {X : Cx} {S : Sig} {k : Nat} {Wx : WX}
/-- a known function is called with written arguments -/
theorem args_ok {pins : List (Addr × Obj)} {σ : L2.St} {H : Hp} {s : Shared} {fv : Value} {g : Fn} {es : List Expr} {kws : List Keyword} {ns : List Str} {fa fk : Fa} {pos : Pos} {fws : List W} {fvs : List V} {first : List Value} {c : C} {env : En} {h : Hm} {Q : VK}
    (F : Runs X S Wx fv g) (hk : PySem.W.keepIn X.K fv = true) (hs : noStar es = true) (hn : kwNames kws = some ns) (ha : PA X es (TAof S Wx fa)) (hkw : PK X kws (TAof S Wx fk)) (a0 : es = [] → fa = aNil) (k0 : kws = [] → fk = aNil)
    (I : Inv X pins σ H s) (ev : EnvOk S c env σ) (r : Rel S c h H) (iw : IsWs S c fws fvs) (rf : Vals fvs first) (q : Aft S c (vArgs fa fk ns g fws env h) (fun c' w _ H' => ∀ v, IsW S c' w v → Q v H') (fun cls d H' => Wx cls d σ H')) :
    wpAny (model X.prog X.w) X.A (callWith pos fv first (backTo pos (starEach es X.env)) (backToKw pos (keywordEach kws X.env))) (EP X pins σ Q) X.xe s := by
  have go : ∀ {s2 : Shared} {H2 : Hp} {c2 : C} {h2 : Hm} {ws zs : List W} {vs zvs : List V} {us zus : List Value}, Inv X pins σ H2 s2 → Ext c c2 → Rel S c2 h2 H2 → IsWs S c2 ws vs → Vals vs us → IsWs S c2 zs zvs → Vals zvs zus →
      Aft S c2 (if zs.length = ns.length then g (fws ++ ws) (ns.zip zs) h2 else .no) (fun c' w _ H' => ∀ v, IsW S c' w v → Q v H') (fun cls d H' => Wx cls d σ H') →
      wpAny (model X.prog X.w) X.A (call fv (first ++ us) (ns.zip zus)) (EP X pins σ Q) X.xe s2 := fun {s2 H2 c2 h2 ws zs vs zvs us zus} I2 x r2 i1 v1 i2 v2 q => by
    split at q
    · rename_i hl
      have l1 := i2.length
      have l2 := v2.length
      refine F pins σ H2 s2 (first ++ us) (ns.zip zus) c2 h2 (fws ++ ws) (fvs ++ vs) (ns.zip zs) zvs Q I2 (IsWs.append (iw.mono x) i1) (rf.append v1) ?_ ?_ ?_ r2 q
      · rw [List.map_fst_zip (by omega), List.map_fst_zip (by omega)]
      · rw [List.map_snd_zip (by omega)]; exact i2
      · rw [List.map_snd_zip (by omega)]; exact v2
    · exact q.elim
  -- the keywords, behind the positional values
  let Cont : C → List W → Hm → Prop := fun c1 ws h1 => Aft S c1 ((fk env h1).bind fun zs h2 => if zs.length = ns.length then g (fws ++ ws) (ns.zip zs) h2 else .no) (fun c' w _ H' => ∀ v, IsW S c' w v → Q v H') (fun cls d H' => Wx cls d σ H')
  have pos_ : wpAny (model X.prog X.w) X.A (spliced (backTo pos (starEach es X.env))) (fun us s1 => ∃ c1 ws h1 vs H1, Inv X pins σ H1 s1 ∧ Ext c c1 ∧ Rel S c1 h1 H1 ∧ IsWs S c1 ws vs ∧ Vals vs us ∧ Cont c1 ws h1) X.xe s :=
    thn (ha.run pos pins s σ H (fun vs H1 => ∃ c1 ws h1, Ext c c1 ∧ Rel S c1 h1 H1 ∧ IsWs S c1 ws vs ∧ Cont c1 ws h1) I ⟨c, env, h, ev, r, q.bind.mono (Ext.refl c) (fun c1 ws h1 H1 x1 r1 q1 vs i1 => ⟨c1, ws, h1, x1, r1, i1, q1⟩) fun _ _ _ q => q⟩)
      fun us s1 ⟨vs, H1, I1, v1, c1, ws, h1, x1, r1, i1, q1⟩ => ⟨c1, ws, h1, vs, H1, I1, x1, r1, i1, v1, q1⟩
  have kw_ : ∀ {s1 : Shared} {H1 : Hp} {c1 : C} {h1 : Hm} {ws : List W} {vs : List V} {us : List Value}, Inv X pins σ H1 s1 → Ext c c1 → Rel S c1 h1 H1 → IsWs S c1 ws vs → Vals vs us → Cont c1 ws h1 →
      wpAny (model X.prog X.w) X.A (evalAll ((backToKw pos (keywordEach kws X.env)).map (·.2))) (fun ks s₂ => X.K.In s₂.heap ∧ wpAny (model X.prog X.w) X.A (call fv (first ++ us) (ns.zip ks)) (EP X pins σ Q) X.xe s₂) X.xe s1 := fun {s1 H1 c1 h1 ws vs us} I1 x1 r1 i1 v1 q1 =>
    thn (hkw.run pos pins s1 σ H1 (fun zvs H2 => ∃ c2 zs h2, Ext c1 c2 ∧ Rel S c2 h2 H2 ∧ IsWs S c2 zs zvs ∧ Aft S c2 (if zs.length = ns.length then g (fws ++ ws) (ns.zip zs) h2 else .no) (fun c' w _ H' => ∀ v, IsW S c' w v → Q v H') (fun cls d H' => Wx cls d σ H')) I1
        ⟨c1, env, h1, ev.up x1, r1, q1.bind.mono (Ext.refl c1) (fun c2 zs h2 H2 x2 r2 q2 zvs i2 => ⟨c2, zs, h2, x2, r2, i2, q2⟩) fun _ _ _ q => q⟩)
      fun zus s2 ⟨zvs, H2, I2, v2, c2, zs, h2, x2, r2, i2, q2⟩ => ⟨I2.kIn, go I2 (x1.trans x2) r2 (i1.mono x2) v1 i2 v2 q2⟩
  cases kws with
  | nil =>
    cases hn
    rw [k0 rfl] at q
    have k1 := k0 rfl
    refine with_pos I.ok.mod.kin hk hs (thn pos_ fun us s1 ⟨c1, ws, h1, vs, H1, I1, x1, r1, i1, v1, q1⟩ => ⟨I1.kIn, ?_⟩) I.kIn fun e0 => ?_
    · have q2 : Aft S c1 ((fk env h1).bind fun zs h2 => if zs.length = 0 then g (fws ++ ws) (List.zip [] zs) h2 else .no) _ _ := q1
      rw [k1] at q2
      exact go (zus := []) (zs := []) (zvs := []) I1 x1 r1 i1 v1 rfl .nil q2
    · rw [a0 e0] at q
      exact go (us := []) (ws := []) (vs := []) (zus := []) (zs := []) (zvs := []) I (Ext.refl c) r rfl .nil rfl .nil q
  | cons kw kr =>
    cases es with
    | nil =>
      rw [a0 rfl] at q
      exact with_kw0 I.ok.mod.kin hk hn (kw_ (us := []) (ws := []) (vs := []) I (Ext.refl c) r rfl .nil q)
    | cons e er => exact with_kw I.ok.mod.kin hk hs hn (thn pos_ fun us s1 ⟨c1, ws, h1, vs, H1, I1, x1, r1, i1, v1, q1⟩ => kw_ I1 x1 r1 i1 v1 q1)
end

/-! ### f(..) -/
def vCall (fa fk : Fa) (ns : List Str) (g : Fn) : Fe := vArgs fa fk ns g []
section
variable {X : Cx} {S : Sig} {k : Nat} {Wx : WX} {x : Str} {p pos : Pos} {fv : Value} {g : Fn} {es : List Expr} {kws : List Keyword} {ns : List Str} {fa fk : Fa}
theorem me_call (F : Runs X S Wx fv g) (hk : PySem.W.keepIn X.K fv = true) (hg : Gl X x) (hm : X.mg x = some fv) (hdb : (x == ("__debug__" : Str)) = false)
    (hs : noStar es = true) (hn : kwNames kws = some ns) (ha : PA X es (TAof S Wx fa)) (hkw : PK X kws (TAof S Wx fk)) (a0 : es = [] → fa = aNil) (k0 : kws = [] → fk = aNil) : PE X (.Call (.Name x p) es kws pos) (TEof S Wx (vCall fa fk ns g)) := by
  refine ⟨fun pins s σ H Q I ⟨c, env, h, ev, r, q⟩ => ?_⟩
  exact wpAny_Call_Name_kw (ld_glob I hg hm (args_ok (fws := []) (fvs := []) (first := []) F hk hs hn ha hkw a0 k0 I ev r rfl .nil q) hdb)
end
end Mi

/-! Mi 5: instances: attributes, methods, properties, making. -/
namespace Mi
open PySem L2

/-! ### fields by number -/
def getF {α : Type} : List Nat → List α → Nat → Option α
  | i :: is, x :: xs, f => if i = f then some x else getF is xs f
  | _, _, _ => none
/-- a field set: in its place, or behind -/
def setF {α : Type} : List Nat → List α → Nat → α → List Nat × List α
  | i :: is, x :: xs, f, y => if i = f then (i :: is, y :: xs) else let r := setF is xs f y; (i :: r.1, x :: r.2)
  | _, _, f, y => ([f], [y])
/-- an instance: its class, its fields -/
def insOf (w : W) (h : Hm) : Option (Nat × List Nat × List W) := match w with
  | .d (.ins c fs l) => some (c, fs, l.map W.d)
  | .r n => match h[n]? with
    | some (.ins c fs l) => some (c, fs, l)
    | _ => none
  | _ => none
section
variable {S : Sig} {c : C} {h : Hm} {H : Hp}
theorem getF_look : ∀ {fs : List Nat} {l : List W} {vs : List V} {f : Nat} {w : W}, fs.length = vs.length → IsWs S c l vs → getF fs l f = some w → ∃ v, ((fs.map S.fn).zip vs).lookup (S.fn f) = some v ∧ IsW S c w v
  | [], _, _, _, _, _, _, e => by cases e
  | i :: is, [], _, _, _, _, _, e => by cases e
  | i :: is, x :: xs, vs, f, w, hl, ⟨v, r, ev, q, t⟩, e => by
    subst ev
    unfold getF at e
    by_cases hi : i = f
    · rw [if_pos hi] at e
      cases e
      subst hi
      exact ⟨v, by simp [List.lookup], q⟩
    · rw [if_neg hi] at e
      obtain ⟨u, e1, q1⟩ := getF_look (by simpa using hl) t e
      refine ⟨u, ?_, q1⟩
      have : (S.fn f == S.fn i) = false := by simpa using fun z => hi (S.fi _ _ z).symm
      simpa [List.lookup, this] using e1
theorem getF_none : ∀ {fs : List Nat} {l : List W} {vs : List V} {f : Nat}, fs.length = vs.length → IsWs S c l vs → getF fs l f = none → ((fs.map S.fn).zip vs).lookup (S.fn f) = none
  | [], _, _, _, _, _, _ => rfl
  | i :: is, [], _, _, hl, h, e => by
    cases (show _ = [] from h)
    cases hl
  | i :: is, x :: xs, vs, f, hl, ⟨v, r, ev, q, t⟩, e => by
    subst ev
    unfold getF at e
    by_cases hi : i = f
    · rw [if_pos hi] at e; cases e
    · rw [if_neg hi] at e
      have e1 := getF_none (by simpa using hl) t e
      have : (S.fn f == S.fn i) = false := by simpa using fun z => hi (S.fi _ _ z).symm
      simpa [List.lookup, this] using e1
theorem setF_put {w : W} {v : V} (q : IsW S c w v) : ∀ {fs : List Nat} {l : List W} {vs : List V} {f : Nat}, fs.length = vs.length → IsWs S c l vs →
    ∃ vs', (setF fs l f w).1.length = vs'.length ∧ putF (S.fn f) v ((fs.map S.fn).zip vs) = ((setF fs l f w).1.map S.fn).zip vs' ∧ IsWs S c (setF fs l f w).2 vs'
  | [], l, vs, f, hl, h => by
    cases vs with
    | cons _ _ => cases hl
    | nil =>
      refine ⟨[v], ?_⟩
      cases l with
      | cons _ _ => obtain ⟨_, _, z, _⟩ := h; cases z
      | nil => exact ⟨rfl, rfl, v, [], rfl, q, rfl⟩
  | i :: is, [], vs, f, hl, h => by
    cases (show _ = [] from h)
    cases hl
  | i :: is, x :: xs, vs, f, hl, ⟨u, r, ev, p, t⟩ => by
    subst ev
    unfold setF
    by_cases hi : i = f
    · rw [if_pos hi]
      subst hi
      refine ⟨v :: r, hl, ?_, v, r, rfl, q, t⟩
      show (if S.fn i = S.fn i then _ else _) = _
      rw [if_pos rfl]
      rfl
    · rw [if_neg hi]
      obtain ⟨vs', e1, e2, e3⟩ := setF_put (f := f) q (by simpa using hl : is.length = r.length) t
      refine ⟨u :: vs', by simp [e1], ?_, u, vs', rfl, p, e3⟩
      show (if S.fn i = S.fn f then _ else _) = _
      rw [if_neg fun z => hi (S.fi _ _ z)]
      show _ :: putF (S.fn f) v ((is.map S.fn).zip r) = _
      rw [e2]
      rfl
theorem insOf_at {w : W} {v : V} {k : Nat} {fs : List Nat} {l : List W} (r : Rel S c h H) (i : IsW S c w v) (e : insOf w h = some (k, fs, l)) :
    ∃ a dx vs, v = .ref a ∧ fs.length = vs.length ∧ H a = some (.ins (S.ca k) dx ((fs.map S.fn).zip vs)) ∧ IsWs S c l vs := by
  unfold insOf at e
  split at e
  · cases e
    have i : IsD S c.F _ v := i
    simp only [IsD] at i
    obtain ⟨a, dx, vs, e1, e2, e3, e4⟩ := i
    exact ⟨a, dx, vs, e1, e2, r.fz _ _ e3, e4.toW⟩
  · rename_i n
    obtain ⟨hn, ev⟩ := i
    split at e
    · rename_i e0
      cases e
      obtain ⟨dx, vs, e1, e2, e3⟩ := r.mu n _ e0
      exact ⟨_, dx, vs, ev, e1, e2, e3⟩
    · cases e
  · cases e
/-- an object of no concern -/
theorem Rel.skip {p : Addr} {o : HO} (r : Rel S c h H) (hp : H p = Option.none) : Rel S c h (upd H p o) := by
  refine ⟨r.sz, fun b u e => ?_, fun n m e => ?_, r.nf, r.inj, fun b u e => ?_, r.pf, r.pm, r.pt, r.am.fresh hp, r.nt⟩
  · rw [upd_ne (ne_of_none (r.fz _ _ e) hp)]; exact r.fz _ _ e
  · cases lv : m.live with
    | true => exact (r.mu n m e).up (Ext.refl c) (upd_ne (r.neq hp e lv))
    | false => cases m <;> first | trivial | cases lv
  · rw [upd_ne (ne_of_none (r.pr _ _ e) hp)]; exact r.pr _ _ e
end

/-! ### what the program's classes have -/
structure Tab where
  isC : Nat → Bool
  fld : Nat → Nat → Bool
  meth : Nat → Nat → Option Nat
  prop : Nat → Nat → Option Nat
  con : Nat → Nat → Option D
  init : Nat → Option Nat
structure TabOk (S : Sig) (T : Tab) (fa : Nat → Addr) : Prop where
  cls : ∀ c, T.isC c = true → Cls S.K (S.ca c)
  fld : ∀ c f, T.fld c f = true → NoAttr S.K (S.ca c) (S.fn f)
  meth : ∀ c m f, T.meth c m = some f → Meth S.K (S.ca c) (S.fn m) (fa f)
  prop : ∀ c m f, T.prop c m = some f → ∃ p, PropOf S.K (S.ca c) (S.fn m) p (fa f)
  con : ∀ c m d, T.con c m = some d → ∃ v u, Con S.K (S.ca c) (S.fn m) v u ∧ ∀ F, IsD S F d v
  init : ∀ c f, T.init c = some f → Mk S.K (S.ca c) (fa f)

def R.noEx {α : Type} : R α → R α
  | .ex _ _ => .no
  | r => r
theorem Aft.noEx {α : Type} {S : Sig} {c : C} {r : R α} {Qo : C → α → Hm → Hp → Prop} {Qe Qe' : Value → Option Addr → Hp → Prop} (q : Aft S c r.noEx Qo Qe) : Aft S c r Qo Qe' := by
  cases r with
  | ok a h => exact q
  | ex e h => exact q.elim
  | no => exact q

/-! ### e.f -/
def vFld (T : Tab) (Γ : Nat → Fn) (f : Nat) (fa : Fe) : Fe := fun env h => (fa env h).bind fun w h1 => match insOf w h1 with
  | none => .no
  | some (c, fs, ws) => if T.isC c = true then
      match T.prop c f with
      | some g => (Γ g [w] [] h1).noEx
      | none => match getF fs ws f with
        | some x => if T.fld c f = true then .ok x h1 else .no
        | none => match T.con c f with
          | some d => .ok (.d d) h1
          | none => .no
    else .no
/-- super() alone is looked at otherwise -/
def noSuper : Expr → Bool
  | .Call (.Name id _) [] [] _ => id != "super"
  | _ => true
theorem noSuper_base {o : Expr} {attr : Str} {env : Env} {whole : Sem Value} (h : noSuper o = true) : attributeBase o attr env whole = whole := by
  unfold attributeBase
  split
  · rename_i id p pos
    have h : (id != ("super" : Str)) = true := h
    simp only [h, Bool.true_or, if_true, bind_pure]
  · rfl
section
variable {X : Cx} {S : Sig} {k : Nat} {Wx : WX} {T : Tab} {fa : Nat → Addr} {Γ : Nat → Fn} {e : Expr} {f : Nat} {fe : Fe} {pos : Pos}
theorem prop_g {pins : List (Addr × Obj)} {σ : L2.St} {H : Hp} {s : Shared} {Q : VK} {b : Bool} {E' : Value → Shared → Prop} {a dx C p g0 : Addr} {fs : List (Str × V)} {nm : Str} {g : Fn} {c : Mi.C} {h : Hm} {w : W} (hK : S.K = X.K) (I : Inv X pins σ H s) (ea : H a = some (.ins C dx fs)) (cl : Cls X.K C)
    (hp : PropOf X.K C nm p g0) (F : Calls X.prog X.w X.mg X.base S k g0 g) (hr : Room (k + 1) X.A) (gd : X.A.guards = some []) (r : Rel S c h H) (iw : IsW S c w (.ref a))
    (q : Aft S c (g [w] [] h) (fun c' w _ H' => ∀ v, IsW S c' w v → Q v H') (fun _ _ _ => False)) : wpAny (model X.prog X.w) X.A (getAttr (.ref a) nm b) (EP X pins σ Q) E' s := by
  obtain ⟨mA, O, _⟩ := ins_get I.hok ea
  obtain ⟨od, J, _⟩ := O.look
  obtain ⟨rest, hrec⟩ := hp.rec_
  have J1 := I.tok (s.toks + 1)
  have hcl : (PySem.W.clsIn X.K C).isSome = true := by
    obtain ⟨cd, z, _⟩ := PySem.W.any_some cl.hd
    rw [z]; rfl
  have pg := PySem.W.plainGet_of (cl.get nm)
  refine PySem.W.get_bind I.kIn J pg.1 (PySem.W.findObj_data hcl hp.at_ hp.get hp.tak) pg.2 (wpAny_call (PySem.W.prop_get (s := { s with toks := s.toks + 1 }) J1.kIn hrec ?_))
  refine codeAny_mono (F.run X.A.in1 X.stack { s with toks := s.toks + 1 } H [.ref a] [] c h [w] [.ref a] [] [] Q (fun _ _ _ => False) hr.in1 gd (by rw [hK]; exact J1.env0.in1) ⟨_, _, rfl, iw, rfl⟩ (.cons rfl .nil) rfl rfl .nil r q) fun res s' hq => ?_
  cases res with
  | error er =>
    obtain ⟨_, _, _, _, _, _, _, _, _, _, _, _, z⟩ := hq
    exact z.elim
  | ok fl =>
    cases fl with
    | ret u =>
      obtain ⟨v, H', J2, rv, q3⟩ := J1.after hq
      show wpAny _ _ (handedOut u) _ _ _
      rw [PySem.W.handedOut_of (handed_of rv)]
      exact wpAny_pure ⟨v, H', J2, rv, q3⟩
    | next => exact False.elim hq
    | brk => exact False.elim hq
    | cont => exact False.elim hq
theorem me_fld (qx : Qx X S (k + 1) Wx) (gd : X.A.guards = some []) (ok : TabOk S T fa) (G : ∀ g, Calls X.prog X.w X.mg X.base S k (fa g) (Γ g)) (he : PE X e (TEof S Wx fe)) (hb : noSuper e = true) : PE X (.Attribute e (S.fn f) pos) (TEof S Wx (vFld T Γ f fe)) := by
  refine ⟨fun pins s σ H Q I ⟨c, env, h, ev, r, q⟩ => ?_⟩
  refine attr_of (noSuper_base hb) (thn (he.run pins s σ H (fun v H1 => ∃ c1 w h1, Ext c c1 ∧ Rel S c1 h1 H1 ∧ IsW S c1 w v ∧ Aft S c1 (match insOf w h1 with
      | none => .no
      | some (c, fs, ws) => if T.isC c = true then
          match T.prop c f with
          | some g => (Γ g [w] [] h1).noEx
          | none => match getF fs ws f with
            | some x => if T.fld c f = true then .ok x h1 else .no
            | none => match T.con c f with
              | some d => .ok (.d d) h1
              | none => .no
        else .no) (fun c' w _ H' => ∀ v, IsW S c' w v → Q v H') (fun cls d H' => Wx cls d σ H')) I ⟨c, env, h, ev, r, q.bind.mono (Ext.refl c) (fun c1 w h1 H1 x1 r1 q1 v i1 => ⟨c1, w, h1, x1, r1, i1, q1⟩) fun _ _ _ q => q⟩)
    fun u s1 ⟨v, H1, I1, rv, c1, w, h1, x1, r1, i1, q1⟩ => ?_)
  split at q1
  · exact q1.elim
  · rename_i kc fs ws ein
    split at q1
    · rename_i hC
      obtain ⟨a, dx, vs, rfl, hl, ea, iws⟩ := insOf_at r1 i1 ein
      obtain rfl : u = Value.ref a := rv
      have cl : Cls X.K (S.ca kc) := by rw [← qx.K]; exact ok.cls kc hC
      split at q1
      · rename_i g ep
        obtain ⟨p, hp⟩ := ok.prop _ _ _ ep
        exact prop_g qx.K I1 ea cl (by rw [← qx.K]; exact hp) (G g) qx.room gd r1 i1 q1.noEx
      · split at q1
        · rename_i x ex
          split at q1
          · rename_i hf
            obtain ⟨v, e1, i2⟩ := getF_look hl iws ex
            exact getattr_ok I1 ea cl (by rw [← qx.K]; exact ok.fld _ _ hf) e1 fun u s' I' ru => ⟨v, H1, I', ru, q1 c1 H1 (Ext.refl c1) r1 v i2⟩
          · exact q1.elim
        · rename_i ex
          split at q1
          · rename_i d ed
            obtain ⟨v, u, hc, hv⟩ := ok.con _ _ _ ed
            rw [qx.K] at hc
            exact getcon_ok I1 ea cl hc (getF_none hl iws ex) fun s' I' => ⟨v, H1, I', hc.rel, q1 c1 H1 (Ext.refl c1) r1 v (hv _)⟩
          · exact q1.elim
    · exact q1.elim
end

/-! ### o.m(..) -/
def vMeth (T : Tab) (Γ : Nat → Fn) (m : Nat) (fo : Fe) (fa fk : Fa) (ns : List Str) : Fe := fun env h => (fo env h).bind fun w h1 => match insOf w h1 with
  | none => .no
  | some (c, fs, ws) => match T.isC c, T.meth c m, getF fs ws m with
    | true, some g, none => vArgs fa fk ns (Γ g) [w] env h1
    | _, _, _ => .no
def methForm (o : Expr) (es : List Expr) (kws : List Keyword) (apos pos : Pos) : Bool := noSuper o && noStar es && (kwNames kws).isSome && decide (apos.endLine = pos.line) && decide (es.length + kws.length + 1 < 30)
theorem back_all {env : Env} {pos : Pos} : ∀ {es : List Expr}, noStar es = true → (backTo pos (starEach es env)).all (!·.1) = true
  | [], _ => rfl
  | e :: r, h => by
    obtain ⟨h1, h2⟩ := noStar_cons (env := env) h
    rw [h1]
    exact back_all (es := r) h2
theorem methForm_eval {o : Expr} {m : Str} {es : List Expr} {kws : List Keyword} {apos pos : Pos} {env : Env} (h : methForm o es kws apos pos = true) :
    eval (.Call (.Attribute o m apos) es kws pos) env = (do
      let ov ← eval o env
      standAt apos.atName
      let (f, first) ← holding [ov] (getMethod ov m (do return (← importBound o env).getD true))
      callWith pos f first (backTo pos (starEach es env)) (backToKw pos (keywordEach kws env))) := by
  unfold methForm at h
  simp only [Bool.and_eq_true, decide_eq_true_eq] at h
  obtain ⟨⟨⟨⟨h1, h2⟩, h3⟩, h4⟩, h5⟩ := h
  obtain ⟨ns, h3⟩ := Option.isSome_iff_exists.mp h3
  have f1 : methodCallForm (es.length + kws.length) (backTo pos (starEach es env)) (backToKw pos (keywordEach kws env)) = true := by
    unfold methodCallForm
    rw [back_all h2, (kwNames_all h3).1]
    simp only [Bool.true_and, decide_eq_true_eq]
    split <;> omega
  rw [eval]
  rw [noSuper_base h1]
  unfold methodCall calleeOf methodCallPos
  rw [f1]
  simp only [if_true, Bool.not_true, Bool.false_or, h4, beq_self_eq_true, pure_bind]
section
variable {X : Cx} {S : Sig} {k : Nat} {Wx : WX} {T : Tab} {fa : Nat → Addr} {Γ : Nat → Fn} {o : Expr} {m : Nat} {fo : Fe} {apos pos : Pos} {es : List Expr} {kws : List Keyword} {ns : List Str} {ga gk : Fa}
theorem me_meth (qx : Qx X S (k + 1) Wx) (gd : X.A.guards = some []) (ok : TabOk S T fa) (G : ∀ g, Calls X.prog X.w X.mg X.base S k (fa g) (Γ g)) (ho : PE X o (TEof S Wx fo)) (hf : methForm o es kws apos pos = true) (hn : kwNames kws = some ns)
    (ha : PA X es (TAof S Wx ga)) (hkw : PK X kws (TAof S Wx gk)) (a0 : es = [] → ga = aNil) (k0 : kws = [] → gk = aNil) : PE X (.Call (.Attribute o (S.fn m) apos) es kws pos) (TEof S Wx (vMeth T Γ m fo ga gk ns)) := by
  refine ⟨fun pins s σ H Q I ⟨c, env, h, ev, r, q⟩ => ?_⟩
  refine PySem.W.methodCall_KW (thn (ho.run pins s σ H (fun v H1 => ∃ c1 w h1, Ext c c1 ∧ Rel S c1 h1 H1 ∧ IsW S c1 w v ∧ Aft S c1 (match insOf w h1 with
      | none => .no
      | some (c, fs, ws) => match T.isC c, T.meth c m, getF fs ws m with
        | true, some g, none => vArgs ga gk ns (Γ g) [w] env h1
        | _, _, _ => .no) (fun c' w _ H' => ∀ v, IsW S c' w v → Q v H') (fun cls d H' => Wx cls d σ H')) I ⟨c, env, h, ev, r, q.bind.mono (Ext.refl c) (fun c1 w h1 H1 x1 r1 q1 v i1 => ⟨c1, w, h1, x1, r1, i1, q1⟩) fun _ _ _ q => q⟩)
    fun u s1 ⟨v, H1, I1, rv, c1, w, h1, x1, r1, i1, q1⟩ => ?_) (methForm_eval hf)
  split at q1
  · exact q1.elim
  · rename_i kc fs ws ein
    split at q1
    · rename_i g hC hg hnone
      obtain ⟨a, dx, vs, rfl, hl, ea, iws⟩ := insOf_at r1 i1 ein
      obtain rfl : u = Value.ref a := rv
      have cl : Cls X.K (S.ca kc) := by rw [← qx.K]; exact ok.cls kc hC
      have hm : Meth X.K (S.ca kc) (S.fn m) (fa g) := by rw [← qx.K]; exact ok.meth _ _ _ hg
      refine getmeth_ok I1 ea cl hm (getF_none hl iws hnone) ?_
      have hs : noStar es = true := by
        unfold methForm at hf
        simp only [Bool.and_eq_true] at hf
        exact hf.1.1.1.2
      exact args_ok (fws := [w]) (fvs := [.ref a]) (runs_g (Qx.mk qx.K qx.calm qx.nd (qx.room.mono (Nat.le_succ k)) qx.tk) gd (G g)) hm.kp hs hn ha hkw a0 k0 I1 (ev.up x1) r1 ⟨_, _, rfl, i1, rfl⟩ (.cons rfl .nil) q1
    · exact q1.elim
end

/-! ### C(..) -/
/-- how making a class is told: as a function of the arguments -/
def mkFn (Γ : Nat → Fn) (c f : Nat) : Fn := fun ws kws h => (Γ f (.r h.length :: ws) kws (h ++ [.ins c [] []])).bind fun w h3 => match w with
    | .d .non => .ok (.r h.length) h3
    | _ => .no
section
variable {S : Sig} {c : C} {h : Hm} {H : Hp}
theorem Rel.newIns (r : Rel S c h H) {x dx : Addr} {k : Nat} (nx : H x = Option.none) (nd : H dx = Option.none) (ne : dx ≠ x) :
    Rel S (c.addM x) (h ++ [.ins k [] []]) (upd (upd H dx (.own x)) x (.ins (S.ca k) dx [])) := by
  have r1 : Rel S c h (upd H dx (.own x)) := r.skip nd
  exact r1.addM (m := .ins k [] []) (by rw [upd_ne ne.symm]; exact nx) ⟨dx, [], rfl, upd_same, rfl⟩
theorem isW_new (r : Rel S c h H) {x : Addr} : IsW S (c.addM x) (.r h.length) (.ref x) := by
  refine ⟨by show h.length < c.n + 1; rw [r.sz]; exact Nat.lt_succ_self _, ?_⟩
  show V.ref x = .ref (if h.length = c.n then x else c.ι h.length)
  rw [if_pos r.sz.symm]
end
section
variable {X : Cx} {S : Sig} {k : Nat} {Wx : WX} {fa : Nat → Addr} {Γ : Nat → Fn}
theorem guards_under {A : Around} {C : Addr} {us : List Value} {kw : List (Str × Value)} (h : A.guards = some []) : (A.under (.builtin "type.__call__" ⟨.ref C :: us, kw⟩)).guards = some [] := by
  simpa [Around.under, Code.guards, Code.isGuard, pushGuards, guardIds] using h
theorem run_mk {pins : List (Addr × Obj)} {σ : L2.St} {H : Hp} {s : Shared} {ci f : Nat} {us : List Value} {kw : List (Str × Value)} {c : C} {h : Hm} {ws : List W} {vs : List V} {kws : List (Str × W)} {kvs : List V} {Q : VK} (qx : Qx X S (k + 1) Wx) (gd : X.A.guards = some []) (M : Mk X.K (S.ca ci) (fa f)) (F : Calls X.prog X.w X.mg X.base S k (fa f) (Γ f))
    (I : Inv X pins σ H s) (iw : IsWs S c ws vs) (rv : Vals vs us) (e1 : kw.map (·.1) = kws.map (·.1)) (iw2 : IsWs S c (kws.map (·.2)) kvs) (r2 : Vals kvs (kw.map (·.2))) (r : Rel S c h H)
    (q : Aft S c (mkFn Γ ci f ws kws h) (fun c' w _ H' => ∀ v, IsW S c' w v → Q v H') (fun cls d H' => Wx cls d σ H')) : wpAny (model X.prog X.w) X.A (call (.ref (S.ca ci)) us kw) (EP X pins σ Q) X.xe s := by
  have n1 : H (s.heap.objs.size + 1) = Option.none := I.hok.fresh (Nat.le_succ _)
  have n2 : H s.heap.objs.size = Option.none := I.hok.fresh (Nat.le_refl _)
  have J := Inv.made (C := S.ca ci) I
  have rn := r.newIns (k := ci) n1 n2 (Nat.ne_of_lt (Nat.lt_succ_self _))
  have xn : Ext c (c.addM (s.heap.objs.size + 1)) := Ext.addM
  refine wpAny_call (make_map (f := fa f) I.kIn M.makes M.init (beq_iff_eq.mp M.fn) (codeAny_mono (F.run _ X.stack _ _ (Value.ref (s.heap.objs.size + 1) :: us) kw (c.addM (s.heap.objs.size + 1)) _ (.r h.length :: ws) (V.ref (s.heap.objs.size + 1) :: vs) kws kvs
    (fun v H2 => ∃ c2 w h2, Ext c c2 ∧ v = .non ∧ Rel S c2 h2 H2 ∧ IsW S c2 (.r h.length) (.ref (s.heap.objs.size + 1)) ∧ Q (.ref (s.heap.objs.size + 1)) H2 ∧ w = W.d .non) (fun cls d H' => Wx cls d σ H') (qx.room.make (S.ca ci) us kw) (guards_under gd) (by rw [qx.K]; exact J.env0.make (S.ca ci) us kw)
    ⟨_, _, rfl, isW_new r, iw.mono xn⟩ (.cons rfl rv) e1 (iw2.mono xn) r2 rn ((show Aft S c (R.bind _ _) _ _ from q).bind.mono xn (fun c2 w h2 H2 x2 rel2 q2 v iv => ?_) fun _ _ _ z => z)) fun res s' hq => ?_))
  · have x3 : Ext c c2 := xn.trans x2
    split at q2
    · have iv : IsD S c2.F .non v := iv
      simp only [IsD] at iv
      have i3 : IsW S c2 (.r h.length) (.ref (s.heap.objs.size + 1)) := (isW_new r).mono x2
      exact ⟨c2, _, h2, x3, iv, rel2, i3, q2 c2 H2 (Ext.refl c2) rel2 _ i3, rfl⟩
    · exact q2.elim
  · cases res with
    | error er => exact qx.tk er s' (XE.of_call J (fun _ _ _ z => z) hq)
    | ok fl =>
      cases fl with
      | ret u =>
        obtain ⟨v, H', J3, ru, c2, w, h2, x2, ev, rel2, i3, q3, _⟩ := J.after hq
        subst ev
        exact ⟨ru, ⟨V.ref (s.heap.objs.size + 1), H', J3, rfl, q3⟩⟩
      | next => exact False.elim hq
      | brk => exact False.elim hq
      | cont => exact False.elim hq
theorem runs_mk {ci f : Nat} (qx : Qx X S (k + 1) Wx) (gd : X.A.guards = some []) (M : Mk X.K (S.ca ci) (fa f)) (F : Calls X.prog X.w X.mg X.base S k (fa f) (Γ f)) : Runs X S Wx (.ref (S.ca ci)) (mkFn Γ ci f) :=
  fun pins σ H s us kw c h ws vs kws kvs Q I iw r e1 iw2 r2 rel q => run_mk qx gd M F I iw r e1 iw2 r2 rel q
end
end Mi

/-! Mi 6: statements. -/
namespace Mi
open PySem L2

theorem ps_mono {X : Cx} {e : Stmt} {t t' : TS} (h : PS X e t) (k : ∀ D σ H, t' D σ H → t D σ H) : PS X e t' :=
  ⟨fun pins s σ H Q I q => h.run pins s σ H Q I (k Q σ H q)⟩
theorem pss_mono {X : Cx} {e : List Stmt} {t t' : TS} (h : PSs X e t) (k : ∀ D σ H, t' D σ H → t D σ H) : PSs X e t' :=
  ⟨fun pins s σ H Q I q => h.run pins s σ H Q I (k Q σ H q)⟩

/-- an expression within a statement -/
def liftX {α : Type} (env : En) (r : R α) (f : α → Hm → R (Fl × En)) : R (Fl × En) := match r with
  | .ok a h => f a h
  | .ex e h => .ok (.xc e, env) h
  | .no => .no
def sNil : Fs := fun env h => .ok (.nx, env) h
def sSeq (f g : Fs) : Fs := fun env h => (f env h).bind fun p h1 => match p.1 with
  | .nx => g p.2 h1
  | _ => .ok p h1
def sExpr (f : Fe) : Fs := fun env h => liftX env (f env h) fun _ h1 => .ok (.nx, env) h1
def sRet (f : Fe) : Fs := fun env h => liftX env (f env h) fun w h1 => .ok (.rt w, env) h1
def sRetN : Fs := fun env h => .ok (.rt (.d .non), env) h
def sIf (t : Ft) (f g : Fs) : Fs := fun env h => liftX env (t env h) fun b h1 => if b = true then f env h1 else g env h1
def sBrk : Fs := fun env h => .ok (.bk, env) h
def sCnt : Fs := fun env h => .ok (.ct, env) h
/-- a store that never fails -/
def sNo : Fs := fun _ _ => .no

section
variable {X : Cx} {S : Sig} {k : Nat} {Wx : WX} {pos : Pos} {f g : Fs} {fe : Fe} {ft : Ft} {c : C}
theorem Aft.liftX {α : Type} {env : En} {r : R α} {f : α → Hm → R (Fl × En)} {D : Ends} {σ : L2.St} (ev : EnvOk S c env σ) (q : Aft S c (liftX env r f) (fun c' p _ H' => SPost S Wx D c' p H') (fun _ _ _ => False)) :
    Aft S c r (fun c1 a h1 _ => Aft S c1 (f a h1) (fun c' p _ H' => SPost S Wx D c' p H') (fun _ _ _ => False)) (fun cls d H' => Wx cls d σ H') := by
  cases r with
  | ok a h => exact fun c1 H x r1 => Aft.up (show Aft S c (f a h) _ _ from q) x
  | ex e h => exact fun c1 H cls d x r1 ie => q c1 H x r1 σ cls d (ev.up x) ie
  | no => exact q
theorem ms_nil : PSs X [] (TSof S Wx sNil) := pss_mono pss_nil fun D σ H ⟨c, env, h, ev, r, q⟩ => q c H (Ext.refl c) r σ ev
theorem ms_cons {st : Stmt} {rest : List Stmt} (h1 : PS X st (TSof S Wx f)) (h2 : PSs X rest (TSof S Wx g)) : PSs X (st :: rest) (TSof S Wx (sSeq f g)) :=
  pss_mono (pss_cons h1 h2) fun D σ H ⟨c, env, h, ev, r, q⟩ => ⟨c, env, h, ev, r, q.bind.mono (Ext.refl c) (fun c1 p h1 H1 x1 r1 q1 => by
    obtain ⟨fl, env1⟩ := p
    cases fl with
    | nx => exact fun σ' ev' => ⟨c1, env1, h1, ev', r1, q1⟩
    | rt w => exact q1 c1 H1 (Ext.refl c1) r1
    | bk => exact q1 c1 H1 (Ext.refl c1) r1
    | ct => exact q1 c1 H1 (Ext.refl c1) r1
    | xc e => exact q1 c1 H1 (Ext.refl c1) r1) fun _ _ _ q => q⟩
theorem ms_expr {e : Expr} (he : PE X e (TEof S Wx fe)) (hs : swapsWith e none pos.line X.env = pure false) : PS X (.Expr e pos) (TSof S Wx (sExpr fe)) :=
  ps_mono (ps_expr he hs) fun D σ H ⟨c, env, h, ev, r, q⟩ => ⟨c, env, h, ev, r, (q.liftX ev).mono (Ext.refl c) (fun c1 w h1 H1 x1 r1 q1 v i1 => q1 c1 H1 (Ext.refl c1) r1 σ (ev.up x1)) fun _ _ _ q => q⟩
theorem ms_ret {e : Expr} (he : PE X e (TEof S Wx fe)) : PS X (.Return (some e) pos) (TSof S Wx (sRet fe)) :=
  ps_mono (ps_ret he) fun D σ H ⟨c, env, h, ev, r, q⟩ => ⟨c, env, h, ev, r, (q.liftX ev).mono (Ext.refl c) (fun c1 w h1 H1 x1 r1 q1 v i1 => q1 c1 H1 (Ext.refl c1) r1 v i1) fun _ _ _ q => q⟩
theorem ms_retN : PS X (.Return none pos) (TSof S Wx sRetN) :=
  ps_mono ps_retN fun D σ H ⟨c, env, h, ev, r, q⟩ => q c H (Ext.refl c) r .non (by show IsD S c.F .non _; simp only [IsD])
theorem ms_pass : PS X (.Pass pos) (TSof S Wx sNil) := ps_mono ps_pass fun D σ H ⟨c, env, h, ev, r, q⟩ => q c H (Ext.refl c) r σ ev
theorem ms_brk : PS X (.Break pos) (TSof S Wx sBrk) := ps_mono ps_break fun D σ H ⟨c, env, h, ev, r, q⟩ => q c H (Ext.refl c) r σ ev
theorem ms_cnt : PS X (.Continue pos) (TSof S Wx sCnt) := ps_mono ps_continue fun D σ H ⟨c, env, h, ev, r, q⟩ => q c H (Ext.refl c) r σ ev
theorem ms_doc {x : Str} {j : Nat} {p : Pos} : PS X (.Expr (.Constant (.str x) j p) pos) (TSof S Wx sNil) := ps_mono ps_doc fun D σ H ⟨c, env, h, ev, r, q⟩ => q c H (Ext.refl c) r σ ev
theorem ms_no {st : Stmt} : PS X st (TSof S Wx sNo) := ps_mono ps_never fun D σ H ⟨c, env, h, ev, r, q⟩ => q
theorem ms_if {e : Expr} {a b : List Stmt} (hc : PT X e (TTof S Wx ft)) (ha : PSs X a (TSof S Wx f)) (hb : PSs X b (TSof S Wx g)) : PS X (.If e a b pos) (TSof S Wx (sIf ft f g)) :=
  ps_mono (ps_if hc ha hb) fun D σ H ⟨c, env, h, ev, r, q⟩ => ⟨c, env, h, ev, r, (q.liftX ev).mono (Ext.refl c) (fun c1 b h1 H1 x1 r1 q1 => by
    cases b with
    | true => exact ⟨c1, env, h1, ev.up x1, r1, q1⟩
    | false => exact ⟨c1, env, h1, ev.up x1, r1, q1⟩) fun _ _ _ q => q⟩

/-! ### targets -/
inductive Tg where
  | nm (i : Nat)
  | tp (l : List Tg)
mutual
def bindT : Tg → W → En → Option En
  | .nm i, w, env => if i < env.length then some (env.set i (some w)) else none
  | .tp l, .d (.tup ds), env => bindTs l ds env
  | .tp _, _, _ => none
def bindTs : List Tg → List D → En → Option En
  | [], [], env => some env
  | t :: l, x :: ds, env => (bindT t (.d x) env).bind fun env' => bindTs l ds env'
  | _, _, _ => none
end
mutual
def Tg.slots : Tg → List Nat
  | .nm i => [i]
  | .tp l => slotsL l
def slotsL : List Tg → List Nat
  | [] => []
  | t :: l => t.slots ++ slotsL l
end
/-- all but the slots vs are as they were -/
def Keeps (vs : List Nat) (σ σ' : L2.St) : Prop := ∀ us, (∀ i ∈ vs, i ∈ us) → wipe σ' us = wipe σ us
theorem wipe_get : ∀ {us : List Nat} {σ : L2.St} {j : Nat}, (wipe σ us)[j]? = if j ∈ us then (if j < σ.length then some none else none) else σ[j]?
  | [], σ, j => by simp [wipe]
  | u :: us, σ, j => by
    unfold wipe
    by_cases hj : u = j
    · subst hj
      rw [List.getElem?_set]
      simp [wipe_length]
    · rw [List.getElem?_set_ne hj, wipe_get]
      have : ¬ j = u := fun z => hj z.symm
      simp [this]
theorem Keeps.refl (vs : List Nat) (σ : L2.St) : Keeps vs σ σ := fun _ _ => rfl
theorem Keeps.set {σ : L2.St} {i : Nat} {o : Option V} : Keeps [i] σ (σ.set i o) := fun us h => by
  have hi := h i (by simp)
  apply List.ext_getElem?
  intro j
  rw [wipe_get, wipe_get, List.length_set]
  by_cases hj : j ∈ us
  · rw [if_pos hj, if_pos hj]
  · rw [if_neg hj, if_neg hj, List.getElem?_set_ne (fun z : i = j => hj (by rw [← z]; exact hi))]
theorem Keeps.trans {vs us : List Nat} {σ σ1 σ2 : L2.St} (a : Keeps vs σ σ1) (b : Keeps us σ1 σ2) : Keeps (vs ++ us) σ σ2 := fun ws h =>
  (b ws fun i hi => h i (by simp [hi])).trans (a ws fun i hi => h i (by simp [hi]))
def TGof (S : Sig) (t : Tg) : TG := fun v σ H Q => ∃ c env w h, EnvOk S c env σ ∧ Rel S c h H ∧ IsW S c w v ∧ ∃ env', bindT t w env = some env' ∧ ∀ σ', EnvOk S c env' σ' → Keeps t.slots σ σ' → Q σ' H
def TGsof (S : Sig) (l : List Tg) : TGs := fun vs σ H Q => ∃ c env ds h, EnvOk S c env σ ∧ Rel S c h H ∧ IsDs S c.F ds vs ∧ ∃ env', bindTs l ds env = some env' ∧ ∀ σ', EnvOk S c env' σ' → Keeps (slotsL l) σ σ' → Q σ' H
theorem pg_mono {e : Expr} {t t' : TG} (h : PG X e t) (k : ∀ v σ H Q, t' v σ H Q → t v σ H Q) : PG X e t' := ⟨fun pins s σ H v u Q I rv q => h.run pins s σ H v u Q I rv (k v σ H Q q)⟩
theorem pgs_mono {e : List Expr} {t t' : TGs} (h : PGs X e t) (k : ∀ v σ H Q, t' v σ H Q → t v σ H Q) : PGs X e t' := ⟨fun pins s σ H v u Q I rv q => h.run pins s σ H v u Q I rv (k v σ H Q q)⟩
theorem mg_name {i : Nat} {x : Str} (hN : X.N.Nodup) (hi : X.N[i]? = some x) (hx : Loc X.env.scope x) (hf : X.fn x = true ∨ X.env.scope.names.lookup x = some .local) : PG X (.Name x pos) (TGof S (.nm i)) :=
  pg_mono (pg_name hN hi hx hf) fun v σ H Q ⟨c, env, w, h, ev, r, iw, env', e, q⟩ => by
    unfold bindT at e
    split at e
    · cases e
      refine q _ (ev.set iw) ?_
      unfold Tg.slots
      exact Keeps.set
    · cases e
theorem mgs_nil : PGs X [] (TGsof S []) := pgs_mono pgs_nil fun v σ H Q ⟨c, env, ds, h, ev, r, iw, env', e, q⟩ => by
  cases ds with
  | cons _ _ => cases e
  | nil =>
    simp only [IsDs] at iw
    cases e
    exact ⟨iw, q σ ev (Keeps.refl _ _)⟩
theorem mgs_cons {e : Expr} {es : List Expr} {t : Tg} {l : List Tg} (h1 : PG X e (TGof S t)) (h2 : PGs X es (TGsof S l)) (hs : (assignEach (e :: es) X.env).map (·.2) = assign e X.env :: (assignEach es X.env).map (·.2)) : PGs X (e :: es) (TGsof S (t :: l)) :=
  pgs_mono (pgs_cons h1 h2 hs) fun vs σ H Q ⟨c, env, ds, h, ev, r, iw, env', e, q⟩ => by
    cases ds with
    | nil => cases e
    | cons x ds =>
      simp only [IsDs] at iw
      obtain ⟨v, vr, rfl, ix, ir⟩ := iw
      unfold bindTs at e
      cases e1 : bindT t (.d x) env with
      | none => rw [e1] at e; cases e
      | some env1 =>
        rw [e1] at e
        exact ⟨v, vr, rfl, c, env, .d x, h, ev, r, ix, env1, e1, fun σ1 ev1 k1 => ⟨c, env1, ds, h, ev1, r, ir, env', e, fun σ2 ev2 k2 => q σ2 ev2 (by unfold slotsL; exact k1.trans k2)⟩⟩
theorem mg_tup {es : List Expr} {j : Nat} {l : List Tg} {n : Nat} (hK : S.K = X.K) (hc : X.calm = true) (h : PGs X es (TGsof S l)) (hn : (assignEach es X.env).length = l.length) (hst : (assignEach es X.env).findIdx? (·.1) = none) : PG X (.Tuple es j pos) (TGof S (.tp l)) :=
  pg_mono (pg_tup hc h hn hst) fun v σ H Q ⟨c, env, w, h, ev, r, iw, env', e, q⟩ => by
    cases w with
    | r _ => cases e
    | d x =>
      cases x <;> first
        | cases e
        | (rename_i ds
           have iw : IsD S c.F (.tup ds) v := iw
           simp only [IsD] at iw
           obtain ⟨a, vs, rfl, sq, is⟩ := iw
           have sq' : SqT X.K H a vs := .inl (.inl (r.fz _ _ sq))
           have hl : vs.length = l.length := by
             rw [← is.length]
             have go : ∀ (l : List Tg) (ds : List D) (env env' : En), bindTs l ds env = some env' → ds.length = l.length := by
               intro l
               induction l with
               | nil => intro ds env env' e; cases ds <;> first | rfl | cases e
               | cons t l ih =>
                 intro ds env env' e
                 cases ds with
                 | nil => cases e
                 | cons x ds =>
                   unfold bindTs at e
                   cases e1 : bindT t (.d x) env with
                   | none => rw [e1] at e; cases e
                   | some env1 =>
                     rw [e1] at e
                     rw [List.length_cons, List.length_cons, ih ds env1 env' e]
             exact go l ds env env' (by unfold bindT at e; exact e)
           exact ⟨a, vs, rfl, sq', hl, c, env, ds, h, ev, r, is, env', by unfold bindT at e; exact e, fun σ2 ev2 k2 => q σ2 ev2 (by unfold Tg.slots; exact k2)⟩)

/-! ### stores -/
def sSet (t : Tg) (f : Fe) : Fs := fun env h => liftX env (f env h) fun w h1 => match bindT t w env with
  | some env' => .ok (.nx, env') h1
  | none => .no
theorem ms_asg {tg e : Expr} {t : Tg} (he : PE X e (TEof S Wx fe)) (hg : PG X tg (TGof S t)) (hs : swapsWithSole [tg] e pos.line X.env = pure false) (hw : swappedStores [tg] e X.env = pure none) (h1 : (assignEach [tg] X.env).map (·.2) = [assign tg X.env]) : PS X (.Assign [tg] e pos) (TSof S Wx (sSet t fe)) :=
  ps_mono (ps_asg he hg hs hw h1) fun D σ H ⟨c, env, h, ev, r, q⟩ => ⟨c, env, h, ev, r, (q.liftX ev).mono (Ext.refl c) (fun c1 w h1 H1 x1 r1 q1 v i1 => by
    split at q1
    · rename_i env' e
      exact ⟨c1, env, w, h1, ev.up x1, r1, i1, env', e, fun σ' ev' _ => q1 c1 H1 (Ext.refl c1) r1 σ' ev'⟩
    · exact q1.elim) fun _ _ _ q => q⟩
theorem ms_set {i : Nat} {x : Str} {e : Expr} {p : Pos} (hN : X.N.Nodup) (hi : X.N[i]? = some x) (hx : Loc X.env.scope x) (hf : X.fn x = true ∨ X.env.scope.names.lookup x = some .local) (he : PE X e (TEof S Wx fe)) (hs : swapsWith e (some (.Name x p)) pos.line X.env = pure false) : PS X (.Assign [.Name x p] e pos) (TSof S Wx (sSet (.nm i) fe)) :=
  ps_mono (ps_set hN hi hx he hs hf) fun D σ H ⟨c, env, h, ev, r, q⟩ => ⟨c, env, h, ev, r, (q.liftX ev).mono (Ext.refl c) (fun c1 w h1 H1 x1 r1 q1 v i1 => by
    unfold bindT at q1
    split at q1
    · rename_i env' e
      split at e
      · cases e
        exact q1 c1 H1 (Ext.refl c1) r1 _ ((ev.up x1).set i1)
      · cases e
    · exact q1.elim) fun _ _ _ q => q⟩
/-- o.f = e; here the object is of the small heap -/
def sFld (T : Tab) (f : Nat) (fo fe : Fe) : Fs := fun env h => liftX env (fe env h) fun w h1 => liftX env (fo env h1) fun o h2 => match o with
  | .r n => match h2[n]? with
    | some (.ins c fs ws) => if T.isC c = true ∧ T.fld c f = true ∧ fs.length < 1000 then .ok (.nx, env) (h2.set n (.ins c (setF fs ws f w).1 (setF fs ws f w).2)) else .no
    | _ => .no
  | _ => .no
theorem ms_fld {T : Tab} {fa : Nat → Addr} {o e : Expr} {n : Nat} {p : Pos} {fo : Fe} (hK : S.K = X.K) (ok : TabOk S T fa) (ho : PE X o (TEof S Wx fo)) (he : PE X e (TEof S Wx fe)) (hs : swapsWith e (some (.Attribute o (S.fn n) p)) pos.line X.env = pure false) : PS X (.Assign [.Attribute o (S.fn n) p] e pos) (TSof S Wx (sFld T n fo fe)) :=
  ps_mono (ps_fld ho he hs) fun D σ H ⟨c, env, h, ev, r, q⟩ => ⟨c, env, h, ev, r, (q.liftX ev).mono (Ext.refl c) (fun c1 w h1 H1 x1 r1 q1 y iy => ⟨c1, env, h1, ev.up x1, r1, (q1.liftX (ev.up x1)).mono (Ext.refl c1) (fun c2 o h2 H2 x2 r2 q2 v iv => by
    split at q2
    · rename_i m
      split at q2
      · rename_i kc fs ws e0
        split at q2
        · rename_i hc
          obtain ⟨hC, hF, hl⟩ := hc
          obtain ⟨hm, rfl⟩ := iv
          obtain ⟨dx, vs, e1, e2, e3⟩ := r2.mu m _ e0
          obtain ⟨vs', p1, p2, p3⟩ := setF_put (f := n) (iy.mono x2) e1 e3
          refine ⟨c2.ι m, S.ca kc, dx, _, rfl, e2, by rw [← hK]; exact ok.cls kc hC, by rw [← hK]; exact ok.fld _ _ hF, ?_, ?_⟩
          · rw [List.length_zip, List.length_map]; omega
          · rw [p2]
            have lv : MO.live (.ins kc fs ws) = true := rfl
            have r3 := r2.set (m := .ins kc (setF fs ws n w).1 (setF fs ws n w).2) (o := .ins (S.ca kc) dx (((setF fs ws n w).1.map S.fn).zip vs')) e0 lv ⟨dx, vs', p1, upd_same, p3⟩
            exact q2 c2 _ (Ext.refl c2) r3 σ ((ev.up x1).up x2)
        · exact q2.elim
      · exact q2.elim
    · exact q2.elim) fun _ _ _ q => q⟩) fun _ _ _ q => q⟩

/-! ### what is walked -/
/-- the iterator J yields the values ws, one after another, whatever happens to the small heap -/
structure ItOk (S : Sig) (c : C) (J : It) (ws : List W) : Prop where
  stop : ∀ i, ws.length ≤ i → ∀ c' h' H', Sub c c' → Rel S c' h' H' → J.stop i H'
  go : ∀ i w, ws[i]? = some w → ∀ c' h' H', Sub c c' → Rel S c' h' H' → J.go i H' ∧ ∀ x H2, J.yld i H' x H2 → ∃ c2, Ext c' c2 ∧ Rel S c2 h' H2 ∧ IsW S c2 w x
def TIof (S : Sig) (Wx : WX) (f : Fa) : TI := fun σ H R => ∃ c env h, EnvOk S c env σ ∧ Rel S c h H ∧ Aft S c (f env h) (fun c' ws _ H' => ∀ J, ItOk S c' J ws → R J H') (fun cls d H' => Wx cls d σ H')
/-- the turns of a for -/
def forL (t : Tg) (f : Fs) : List W → En → Hm → R (Fl × En)
  | [], env, h => .ok (.nx, env) h
  | w :: ws, env, h => match bindT t w env with
    | none => .no
    | some env1 => (f env1 h).bind fun p h1 => match p.1 with
      | .nx => forL t f ws p.2 h1
      | .ct => forL t f ws p.2 h1
      | .bk => .ok (.nx, p.2) h1
      | .rt w => .ok (.rt w, p.2) h1
      | .xc e => .ok (.xc e, p.2) h1
def sFor (t : Tg) (it : Fa) (f : Fs) : Fs := fun env h => liftX env (it env h) fun ws h1 => forL t f ws env h1
theorem ms_for {tg iter : Expr} {body : List Stmt} {t : Tg} {it : Fa} (hp : PassesOwn (model X.prog X.w) X.A X.env X.xe) (hc : X.calm = true) (hi : PI X tg iter (TIof S Wx it)) (hg : PG X tg (TGof S t)) (hb : PSs X body (TSof S Wx f)) (hs : ∀ x, foldedSetIterable iter X.env x = pure x) :
    PS X (.For tg iter body [] pos) (TSof S Wx (sFor t it f)) :=
  ps_mono (ps_for hp hc hi hg hb hs) fun D σ H ⟨c, env, h, ev, r, q⟩ => ⟨c, env, h, ev, r, (q.liftX ev).mono (Ext.refl c) (fun c1 ws h1 H1 x1 r1 q1 J ij => by
    refine ⟨fun i m σ H => m = ws.length - i ∧ i ≤ ws.length ∧ ∃ c2 env h, Ext c1 c2 ∧ EnvOk S c2 env σ ∧ Rel S c2 h H ∧ Aft S c2 (forL t f (ws.drop i) env h) (fun c' p _ H' => SPost S Wx D c' p H') (fun _ _ _ => False),
      ⟨ws.length, rfl, Nat.zero_le _, c1, env, h1, Ext.refl c1, ev.up x1, r1, q1⟩, ?_⟩
    rintro i m σ2 H2 ⟨rfl, hi, c2, env2, h2, x2, ev2, r2, q2⟩
    by_cases hlt : i < ws.length
    · have e0 : ws[i]? = some ws[i] := List.getElem?_eq_getElem hlt
      obtain ⟨g1, g2⟩ := ij.go i _ e0 c2 h2 H2 x2.sub r2
      refine .inr ⟨g1, fun σ' H' => ws.length - (i + 1) = ws.length - (i + 1) ∧ i + 1 ≤ ws.length ∧ ∃ c2 env h, Ext c1 c2 ∧ EnvOk S c2 env σ' ∧ Rel S c2 h H' ∧ Aft S c2 (forL t f (ws.drop (i + 1)) env h) (fun c' p _ H' => SPost S Wx D c' p H') (fun _ _ _ => False),
        fun σ' H' p => ⟨ws.length - (i + 1), by omega, p⟩, fun x H3 y => ?_⟩
      obtain ⟨c3, x3, r3, i3⟩ := g2 x H3 y
      rw [List.drop_eq_getElem_cons hlt] at q2
      unfold forL at q2
      cases eb : bindT t ws[i] env2 with
      | none => rw [eb] at q2; exact q2.elim
      | some env3 =>
        rw [eb] at q2
        refine ⟨c3, env2, ws[i], h2, ev2.up x3, r3, i3, env3, eb, fun σ3 ev3 _ => ⟨c3, env3, h2, ev3, r3, q2.bind.mono x3 (fun c4 p h4 H4 x4 r4 q4 => ?_) fun _ _ _ q => q⟩⟩
        obtain ⟨fl, env4⟩ := p
        have x5 := (x2.trans x3).trans x4
        cases fl with
        | nx => exact fun σ4 ev4 => ⟨rfl, hlt, c4, env4, h4, x5, ev4, r4, q4⟩
        | ct => exact fun σ4 ev4 => ⟨rfl, hlt, c4, env4, h4, x5, ev4, r4, q4⟩
        | bk => exact q4 c4 H4 (Ext.refl c4) r4
        | rt w => exact q4 c4 H4 (Ext.refl c4) r4
        | xc e => exact q4 c4 H4 (Ext.refl c4) r4
    · have e0 : i = ws.length := by omega
      subst e0
      refine .inl ⟨ij.stop _ (Nat.le_refl _) c2 h2 H2 x2.sub r2, ?_⟩
      rw [List.drop_length] at q2
      exact q2 c2 H2 (Ext.refl c2) r2 σ2 ev2) fun _ _ _ q => q⟩

/-! ### while: by a bound on the turns -/
def whileN (t : Ft) (f : Fs) : Nat → En → Hm → R (Fl × En)
  | 0, _, _ => .no
  | n + 1, env, h => liftX env (t env h) fun b h1 => if b = true then (f env h1).bind fun p h2 => match p.1 with
      | .nx => whileN t f n p.2 h2
      | .ct => whileN t f n p.2 h2
      | .bk => .ok (.nx, p.2) h2
      | .rt w => .ok (.rt w, p.2) h2
      | .xc e => .ok (.xc e, p.2) h2
    else .ok (.nx, env) h1
def sWhile (n : Nat) (t : Ft) (f : Fs) : Fs := whileN t f n
theorem ms_while {test : Expr} {body : List Stmt} {n : Nat} (hp : PassesOwn (model X.prog X.w) X.A X.env X.xe) (hc : PT X test (TTof S Wx ft)) (hb : PSs X body (TSof S Wx f)) : PS X (.While test body [] pos) (TSof S Wx (sWhile n ft f)) :=
  ps_mono (ps_while hp hc hb) fun D σ H ⟨c, env, h, ev, r, q⟩ => by
    refine ⟨fun m σ H => ∃ c2 env h, EnvOk S c2 env σ ∧ Rel S c2 h H ∧ Aft S c2 (whileN ft f m env h) (fun c' p _ H' => SPost S Wx D c' p H') (fun _ _ _ => False), ⟨n, c, env, h, ev, r, q⟩, ?_⟩
    rintro m σ2 H2 ⟨c2, env2, h2, ev2, r2, q2⟩
    cases m with
    | zero => exact q2.elim
    | succ m =>
      unfold whileN at q2
      refine ⟨c2, env2, h2, ev2, r2, (q2.liftX ev2).mono (Ext.refl c2) (fun c3 b h3 H3 x3 r3 q3 => ?_) fun _ _ _ q => q⟩
      cases b with
      | false => exact q3 c3 H3 (Ext.refl c3) r3 σ2 (ev2.up x3)
      | true =>
        refine ⟨fun σ' H' => ∃ c2 env h, EnvOk S c2 env σ' ∧ Rel S c2 h H' ∧ Aft S c2 (whileN ft f m env h) (fun c' p _ H' => SPost S Wx D c' p H') (fun _ _ _ => False), fun σ' H' p => ⟨m, Nat.lt_succ_self _, p⟩, ?_⟩
        refine ⟨c3, env2, h3, ev2.up x3, r3, (Aft.bind (show Aft S c3 (R.bind (f env2 h3) _) _ _ from q3)).mono (Ext.refl c3) (fun c4 p h4 H4 x4 r4 q4 => ?_) fun _ _ _ q => q⟩
        obtain ⟨fl, env4⟩ := p
        cases fl with
        | nx => exact fun σ4 ev4 => ⟨c4, env4, h4, ev4, r4, q4⟩
        | ct => exact fun σ4 ev4 => ⟨c4, env4, h4, ev4, r4, q4⟩
        | bk => exact q4 c4 H4 (Ext.refl c4) r4
        | rt w => exact q4 c4 H4 (Ext.refl c4) r4
        | xc e => exact q4 c4 H4 (Ext.refl c4) r4
end
end Mi

/-! Mi 7: a def by its body. -/
namespace Mi
open PySem L2 StX

/-- the context of a def's body -/
structure DefX (P : Program) (w : World) (mg : Str → Option Value) (base : Heap) (S : Sig) (k : Nat) (N : List Str) (scope : Scope) (X : Cx) (Wx : WX) : Prop where
  prog : X.prog = P
  w : X.w = w
  mg : X.mg = mg
  base : X.base = base
  N : X.N = N
  sc : X.env.scope = scope
  qx : Qx X S k Wx
  gd : X.A.guards = some []
  own : PassesOwn (model X.prog X.w) X.A X.env X.xe
  stk : X.stack = X.env :: X.outer
  frm : X.env.frame = some X.env.locals
  fn : ∀ x, X.fn x = true
  ex : X.ex = []

/-- how arguments come to the parameters -/
def BndOk (P : Program) (w : World) (mg : Str → Option Value) (base : Heap) (S : Sig) (fd : FuncData) (ps : List Str) (bind : List W → List (Str × W) → Option (List W)) : Prop :=
  ∀ (A : Around) (outer : List Env) (s : Shared) (H : Hp) (us : List Value) (kw : List (Str × Value)) (c : C) (h : Hm) (ws : List W) (vs : List V) (kws : List (Str × W)) (kvs : List V) (E : XK) (ws' : List W), Env0 P w S.K mg base A outer s H → IsWs S c ws vs → Vals vs us →
    kw.map (·.1) = kws.map (·.1) → IsWs S c (kws.map (·.2)) kvs → Vals kvs (kw.map (·.2)) → Rel S c h H → bind ws kws = some ws' →
    Bnd (L2.CX P w) P w S.K mg base fd ⟨us, kw⟩ ps A outer s H E fun xs H2 => ∃ c2, Ext c c2 ∧ Rel S c2 h H2 ∧ IsWs S c2 ws' xs
/-- every parameter is given, by position -/
def bindP (n : Nat) : List W → List (Str × W) → Option (List W) := fun ws kws => if ws.length = n ∧ kws = [] then some ws else none
theorem bndP {P : Program} {w : World} {mg : Str → Option Value} {base : Heap} {S : Sig} {fd : FuncData} {ps : List Str} (hb : ∀ us : List Value, us.length = ps.length → bindArgs fd ⟨us, []⟩ = pure (ps.zip us)) : BndOk P w mg base S fd ps (bindP ps.length) := by
  intro A outer s H us kw c h ws vs kws kvs E ws' e0 iw rv e1 iw2 r2 r hbd A' Ex Q k
  unfold bindP at hbd
  split at hbd
  · rename_i hc
    obtain ⟨hl, hk⟩ := hc
    cases hbd
    subst hk
    have hk : kw = [] := by
      cases kw with
      | nil => rfl
      | cons _ _ => cases e1
    subst hk
    have l1 := iw.length
    have l2 := rv.length
    rw [hb us (by omega)]
    exact wpAny_pure (k s H vs us e0 Un.refl rfl (fun _ _ z => z) rv (by omega) ⟨c, Ext.refl c, r, iw⟩)
  · cases hbd

def bodyEnd : R (Fl × En) → R W
  | .ok (.nx, _) h => .ok (.d .non) h
  | .ok (.rt w, _) h => .ok w h
  | .ok (.xc e, _) h => .ex e h
  | _ => .no
def startEnv (n : Nat) (ws : List W) : En := ws.map some ++ List.replicate (n - ws.length) none
def defFn (bind : List W → List (Str × W) → Option (List W)) (n : Nat) (fb : Fs) : Fn := fun ws kws h => match bind ws kws with
  | some ws' => bodyEnd (fb (startEnv n ws') h)
  | none => .no
theorem envOk_start {S : Sig} {c : C} {ws : List W} {vs : List V} {N : List Str} (i : IsWs S c ws vs) : EnvOk S c (startEnv N.length ws) (L2.start N vs) := by
  have hl := i.length
  refine ⟨by unfold startEnv L2.start; simp [hl], fun j w e => ?_⟩
  unfold startEnv at e
  unfold L2.start
  by_cases hj : j < ws.length
  · rw [List.getElem?_append_left (by simpa using hj), List.getElem?_map] at e
    cases e1 : ws[j]? with
    | none => rw [e1] at e; cases e
    | some w' =>
      rw [e1] at e
      cases e
      obtain ⟨v, e2, iv⟩ := i.get e1
      exact ⟨v, by rw [List.getElem?_append_left (by simp; omega), List.getElem?_map, e2]; rfl, iv⟩
  · rw [List.getElem?_append_right (by simp; omega)] at e
    rw [List.getElem?_replicate] at e
    split at e <;> cases e
theorem calls_def {P : Program} {w : World} {mg : Str → Option Value} {base : Heap} {S : Sig} {k : Nat} {f : Addr} {name qual : Str} {params : Arguments} {body : List Stmt} {scope : Scope} {dV kV doc pm cdv ct oc : Value} {an od : Option Addr} {osl : Array (Option Value)} {N ps : List Str}
    {bind : List W → List (Str × W) → Option (List W)} {fb : Fs} (lk : S.K.lookup f = some ⟨oc, od, .func (PySem.W.fnOf name qual params body scope dV kV doc pm an cdv ct), osl⟩) (hcd : PySem.W.codeIn S.K cdv qual = true) (Sc : FnScope N ps scope)
    (hb : BndOk P w mg base S (PySem.W.fnOf name qual params body scope dV kV doc pm an cdv ct) ps bind) (hbody : ∀ X Wx, DefX P w mg base S k N scope X Wx → X.env.code = cdv → X.env.qual = qual ++ ".<locals>." → PSs X body (TSof S Wx fb)) : Calls P w mg base S (k + 1) f (defFn bind N.length fb) := by
  refine ⟨fun A outer s H us kw c h ws vs kws kvs Q E hr gd e0 iw rv e1 iw2 r2 r q => ?_⟩
  unfold defFn at q
  split at q
  · rename_i ws' eb
    refine run_bnd lk hcd Sc hr e0 (hb A outer s H us kw c h ws vs kws kvs E ws' e0 iw rv e1 iw2 r2 r eb) fun s2 H2 xs ⟨c2, x2, rel2, i2⟩ hr2 => ?_
    have dx : DefX P w mg base S k N scope (cxOf (L2.CX P w) P w S.K mg base N qual scope f cdv A outer s2 H2 E) (fun cls d _ H => E cls d H) :=
      ⟨rfl, rfl, rfl, rfl, rfl, rfl, ⟨rfl, rfl, Sc.nd, hr2, takes_of rfl rfl rfl rfl⟩, gd, passes_of rfl, rfl, rfl, fun _ => rfl, rfl⟩
    refine ⟨_, hbody _ _ dx rfl rfl, c2, startEnv N.length ws', h, envOk_start i2, rel2, ?_⟩
    revert q
    cases fb (startEnv N.length ws') h with
    | no => exact fun q => q
    | ex e h1 => exact fun q => q.elim
    | ok p h1 =>
      obtain ⟨fl, env1⟩ := p
      intro q c3 H3 x3 r3
      cases fl with
      | nx => exact fun σ ev => q c3 H3 (x2.trans x3) r3 .non (by show IsD S c3.F .non _; simp only [IsD])
      | rt w' => exact q c3 H3 (x2.trans x3) r3
      | bk => exact q.elim
      | ct => exact q.elim
      | xc e => exact fun σ cls d ev ie => q c3 H3 cls d (x2.trans x3) r3 ie
  · exact q.elim

/-! ### a call for itself: pure values in, a pure value out -/
noncomputable def isoP (c : C) (h : Hm) (H : Hp) : Hp := fun a => @ite _ (∃ (n : Nat) (o : MO), h[n]? = some o ∧ o.live = true ∧ c.ι n = a) (Classical.propDecidable _) (H a) (c.P a)
section
variable {S : Sig} {c c' : C} {h h' : Hm} {H H' : Hp}
theorem isoP_live {n : Nat} {o : MO} (e : h[n]? = some o) (lv : o.live = true) : isoP c h H (c.ι n) = H (c.ι n) := by
  unfold isoP
  rw [if_pos ⟨n, o, e, lv, rfl⟩]
theorem Rel.iso (r : Rel S c h H) : Rel S { c with n := 0, P := isoP c h H } [] H := by
  refine ⟨rfl, r.fz, fun n o e => by simp at e, fun n o e => by simp at e, fun m n o u e => by simp at e, fun a o e => ?_, fun a o e => ?_, fun n o e => by simp at e, fun a vs e => ?_, r.am, ⟨r.nt.1, fun a ps z => (by
    have z : isoP c h H a = some (.tbl ps) := z
    unfold isoP at z
    split at z
    · rename_i hx
      obtain ⟨n, u, e1, lv, rfl⟩ := hx
      obtain ⟨w, e2, e3⟩ := (r.mu n u e1).plain lv
      rw [e2] at z
      exact e3.1 ps (Option.some.inj z)
    · exact r.nt.2 a ps z)⟩⟩
  rotate_left 2
  · have e : isoP c h H a = some (.tup vs) := e
    unfold isoP at e
    split at e
    · rename_i hx
      obtain ⟨n, u, e1, lv, rfl⟩ := hx
      have q := r.mu n u e1
      cases u with
      | lst l => obtain ⟨_, q, _⟩ := q; rw [q] at e; cases e
      | dK ks l => obtain ⟨_, _, q, _⟩ := q; rw [q] at e; cases e
      | dT ks l => obtain ⟨_, _, q, _⟩ := q; rw [q] at e; cases e
      | ins t fs l => obtain ⟨_, _, _, q, _⟩ := q; rw [q] at e; cases e
      | dead => cases lv
    · exact r.pt _ _ e
  · have e : isoP c h H a = some o := e
    unfold isoP at e
    split at e
    · exact e
    · exact r.pr _ _ e
  · have e : isoP c h H a = some o := e
    unfold isoP at e
    split at e
    · rename_i hx
      obtain ⟨n, u, e1, lv, rfl⟩ := hx
      exact r.nf n u e1 lv
    · exact r.pf _ _ e
theorem Rel.unIso (r : Rel S c h H) (r' : Rel S c' h' H') (hF : ∀ a o, c.F a = some o → c'.F a = some o) (hP : c'.P = isoP c h H) : Ext c { c with F := c'.F } ∧ Rel S { c with F := c'.F } h H' := by
  have x : Ext c { c with F := c'.F } := ⟨rfl, fun _ _ => rfl, hF, Nat.le_refl _⟩
  have at_ : ∀ n o, h[n]? = some o → o.live = true → H' (c.ι n) = H (c.ι n) := fun n o e lv => by
    obtain ⟨u, eu⟩ := (r.mu n o e).isSome lv
    rw [eu]
    exact r'.pr _ _ (by rw [hP, isoP_live e lv]; exact eu)
  have pp : ∀ a o, c.P a = some o → c'.P a = some o := fun a o e => by
    rw [hP]
    unfold isoP
    split
    · rename_i hx
      obtain ⟨n, u, e1, lv, rfl⟩ := hx
      rw [r.pm n u e1 lv] at e
      cases e
    · exact e
  refine ⟨x, r.sz, r'.fz, fun n o e => ?_, fun n o e lv => ?_, r.inj, fun a o e => r'.pr _ _ (pp a o e), fun a o e => r'.pf _ _ (pp a o e), r.pm, r.pt, r'.am, ⟨r'.nt.1, r.nt.2⟩⟩
  · cases lv : o.live with
    | true => exact (r.mu n o e).up x (at_ n o e lv)
    | false => cases o <;> first | trivial | cases lv
  · obtain ⟨u, eu⟩ := (r.mu n o e).isSome lv
    exact r'.pf _ u (by rw [hP, isoP_live e lv]; exact eu)
end
/-- a value of the small heap as a tree -/
def reW : Nat → Hm → W → Option D
  | _, _, .d x => some x
  | 0, _, .r _ => none
  | k + 1, h, .r n => match h[n]? with
    | some (.lst l) => (l.mapM (reW k h)).map D.lst
    | some (.ins c fs l) => (l.mapM (reW k h)).map (D.ins c fs)
    | _ => none
/-- all of the small heap is frozen -/
noncomputable def allF (c : C) (h : Hm) (H : Hp) : Hp := fun a => @ite _ (∃ (n : Nat) (o : MO), h[n]? = some o ∧ o.live = true ∧ c.ι n = a) (Classical.propDecidable _) (H a) (c.F a)
section
variable {S : Sig} {c c' : C} {h h' : Hm} {H H' : Hp}
theorem allF_live {n : Nat} {o : MO} (e : h[n]? = some o) (lv : o.live = true) : allF c h H (c.ι n) = H (c.ι n) := by
  unfold allF
  rw [if_pos ⟨n, o, e, lv, rfl⟩]
theorem allF_old (r : Rel S c h H) : ∀ a o, c.F a = some o → allF c h H a = some o := fun a o e => by
  unfold allF
  split
  · rename_i hx
    obtain ⟨n, u, e1, lv, rfl⟩ := hx
    rw [r.nf n u e1 lv] at e
    cases e
  · exact e
theorem Rel.allF (r : Rel S c h H) : Rel S { c with n := 0, F := allF c h H } [] H := by
  refine ⟨rfl, fun a o e => ?_, fun n o e => by simp at e, fun n o e => by simp at e, fun m n o u e => by simp at e, r.pr, fun a o e => ?_, fun n o e => by simp at e, r.pt, r.am, ⟨fun a ps z => (by
    have z : Mi.allF c h H a = some (.tbl ps) := z
    unfold Mi.allF at z
    split at z
    · rename_i hx
      obtain ⟨n, u, e1, lv, rfl⟩ := hx
      obtain ⟨w, e2, e3⟩ := (r.mu n u e1).plain lv
      rw [e2] at z
      exact e3.1 ps (Option.some.inj z)
    · exact r.nt.1 a ps z), r.nt.2⟩⟩
  · have e : Mi.allF c h H a = some o := e
    unfold Mi.allF at e
    split at e
    · exact e
    · exact r.fz _ _ e
  · show Mi.allF c h H a = _
    unfold Mi.allF
    split
    · rename_i hx
      obtain ⟨n, u, e1, lv, rfl⟩ := hx
      rw [r.pm n u e1 lv] at e
      cases e
    · exact r.pf _ _ e
theorem reW_is (r : Rel S c h H) : ∀ (k : Nat) (w : W) (d : D) (v : V), reW k h w = some d → IsW S c w v → IsD S (Mi.allF c h H) d v
  | _, .d x, d, v, e, i => by
    have : some x = some d := by cases ‹Nat› <;> exact e
    cases this
    exact IsD.mono (allF_old r) i
  | 0, .r _, d, v, e, i => by cases e
  | k + 1, .r n, d, v, e, i => by
    obtain ⟨hn, rfl⟩ := i
    have go : ∀ (l : List W) (ds : List D) (vs : List V), l.mapM (reW k h) = some ds → IsWs S c l vs → IsDs S (Mi.allF c h H) ds vs := by
      intro l
      induction l with
      | nil =>
        intro ds vs e1 i1
        cases e1
        show IsDs S _ [] vs
        simp only [IsDs]
        exact i1
      | cons w l ih =>
        intro ds vs e1 i1
        obtain ⟨u, us, rfl, iu, ius⟩ := i1
        rw [List.mapM_cons] at e1
        cases ew : reW k h w with
        | none => rw [ew] at e1; cases e1
        | some d1 =>
          rw [ew] at e1
          cases el : l.mapM (reW k h) with
          | none => rw [el] at e1; cases e1
          | some ds1 =>
            rw [el] at e1
            cases e1
            simp only [IsDs]
            exact ⟨u, us, rfl, reW_is r k w d1 u ew iu, ih ds1 us el ius⟩
    unfold reW at e
    split at e
    · rename_i l e0
      obtain ⟨vs, e1, e2⟩ := r.mu n _ e0
      cases em : l.mapM (reW k h) with
      | none => rw [em] at e; cases e
      | some ds =>
        rw [em] at e; cases e
        simp only [IsD]
        exact ⟨_, vs, rfl, by rw [allF_live e0 rfl]; exact e1, go l ds vs em e2⟩
    · rename_i kc fs l e0
      obtain ⟨dx, vs, e1, e2, e3⟩ := r.mu n _ e0
      cases em : l.mapM (reW k h) with
      | none => rw [em] at e; cases e
      | some ds =>
        rw [em] at e; cases e
        simp only [IsD]
        exact ⟨_, dx, vs, rfl, e1, by rw [allF_live e0 rfl]; exact e2, go l ds vs em e3⟩
    · cases e
end
def Ex.pure? (e : Ex) : Option (List D) := pures e.vs
def isoFn (g : Fn) : Fn := fun ws kws h => match pures ws, pures (kws.map (·.2)) with
  | some _, some _ => match g ws kws [] with
    | .ok w h2 => match reW 4 h2 w with
      | some d => .ok (.d d) h
      | none => .no
    | .ex e h2 => match pures e.vs with
      | some _ => .ex e h
      | none => .no
    | .no => .no
  | _, _ => .no
theorem pures_W {S : Sig} {c c' : C} : ∀ {l : List W} {ds : List D} {vs : List V}, pures l = some ds → IsWs S c l vs → (∀ a o, c.F a = some o → c'.F a = some o) → IsWs S c' l vs
  | [], _, _, _, h, _ => h
  | .d x :: l, ds, vs, e, ⟨v, r, e1, q, t⟩, k => by
    unfold pures at e
    cases e2 : pures l with
    | none => rw [e2] at e; cases e
    | some l' => exact ⟨v, r, e1, IsD.mono k q, pures_W e2 t k⟩
  | .r _ :: l, ds, vs, e, _, _ => by cases e
theorem calls_iso {P : Program} {w : World} {mg : Str → Option Value} {base : Heap} {S : Sig} {k : Nat} {f : Addr} {g : Fn} (F : Calls P w mg base S k f g) : Calls P w mg base S k f (isoFn g) := by
  refine ⟨fun A outer s H us kw c h ws vs kws kvs Q E hr gd e0 iw rv e1 iw2 r2 r q => ?_⟩
  unfold isoFn at q
  split at q
  · rename_i ds ks ed ek
    have hF : ∀ a o, c.F a = some o → ({ c with n := 0, P := isoP c h H } : C).F a = some o := fun _ _ e => e
    refine F.run A outer s H us kw { c with n := 0, P := isoP c h H } [] ws vs kws kvs Q E hr gd e0 (pures_W ed iw hF) rv e1 (pures_W ek iw2 hF) r2 r.iso ?_
    revert q
    cases g ws kws [] with
    | no => exact fun q => q
    | ex e h2 =>
      intro q c2 H2 cls d x2 rel2 ie
      simp only at q
      split at q
      · rename_i es ee
        obtain ⟨x3, r3⟩ := r.unIso rel2 x2.F x2.P
        refine q _ H2 cls d x3 r3 ?_
        obtain ⟨i1, dx, vs', i2, i3, i4, i5⟩ := ie
        exact ⟨i1, dx, vs', i2, i3, i4, pures_W ee i5 fun _ _ e => e⟩
      · exact q.elim
    | ok w2 h2 =>
      intro q c2 H2 x2 rel2 v iv
      simp only at q
      split at q
      · rename_i d ed2
        have rel3 := rel2.allF
        obtain ⟨x3, r3⟩ := r.unIso rel3 (fun a o e => allF_old rel2 a o (x2.F a o e)) x2.P
        exact q _ H2 x3 r3 v (reW_is rel2 4 w2 d v ed2 iv)
      · exact q.elim
  · exact q.elim
end Mi

/-! Mi 8: tests. -/
namespace Mi
open PySem L2

theorem pe_or2 {X : Cx} {e : Expr} {t t' : TE} (h : PE X e t) (h' : PE X e t') : PE X e (fun σ H Q => t σ H Q ∨ t' σ H Q) :=
  ⟨fun pins s σ H Q I q => q.elim (h.run pins s σ H Q I) (h'.run pins s σ H Q I)⟩

def asB : W → Hm → R Bool
  | .d (.bl b), h => .ok b h
  | _, _ => .no
def tVal (f : Fe) : Ft := fun env h => (f env h).bind asB
def tNot' (t : Ft) : Ft := fun env h => (t env h).bind fun b h1 => .ok (!b) h1
def tAnd' (t u : Ft) : Ft := fun env h => (t env h).bind fun b h1 => if b = true then u env h1 else .ok false h1
def tOr' (t u : Ft) : Ft := fun env h => (t env h).bind fun b h1 => if b = true then .ok true h1 else u env h1
def vNot (f : Fe) : Fe := fun env h => (f env h).bind fun w h1 => (asB w h1).bind fun b h2 => .ok (.d (.bl (!b))) h2
def vAnd (f g : Fe) : Fe := fun env h => (f env h).bind fun w h1 => (asB w h1).bind fun b h2 => if b = true then g env h2 else .ok (.d (.bl false)) h2
def vOr (f g : Fe) : Fe := fun env h => (f env h).bind fun w h1 => (asB w h1).bind fun b h2 => if b = true then .ok (.d (.bl true)) h2 else g env h2
def vIf (t : Ft) (f g : Fe) : Fe := fun env h => (t env h).bind fun b h1 => if b = true then f env h1 else g env h1
def vChn (s1 s2 : W → W → Hm → R W) (fa fb fc : Fe) : Fe := fun env h => (fa env h).bind fun x h1 => (fb env h1).bind fun y h2 => (s1 x y h2).bind fun z h3 => (asB z h3).bind fun b h4 => if b = true then (fc env h4).bind fun w h5 => s2 y w h5 else .ok (.d (.bl false)) h4
section
variable {X : Cx} {S : Sig} {k : Nat} {Wx : WX} {pos : Pos} {a b e : Expr} {rest : List Expr} {fa fb fc : Fe} {ta tb : Ft} {c : C}
theorem asB_of {w : W} {h h2 : Hm} {Qo : C → Bool → Hm → Hp → Prop} {Qe : Value → Option Addr → Hp → Prop} (q : Aft S c (asB w h) Qo Qe) : ∃ b, w = .d (.bl b) ∧ ∀ H, Rel S c h H → Qo c b h H := by
  unfold asB at q
  split at q
  · exact ⟨_, rfl, fun H r => q c H (Ext.refl c) r⟩
  · exact q.elim
theorem isW_bl {b : Bool} {v : V} (i : IsW S c (.d (.bl b)) v) : v = .bl b := by
  have i : IsD S c.F (.bl b) v := i
  simpa only [IsD] using i
theorem isW_mkbl {b : Bool} : IsW S c (.d (.bl b)) (.bl b) := by
  show IsD S c.F (.bl b) _
  simp only [IsD]
/-- a value that is a bool, as a test -/
theorem tval_of : ∀ σ H Q, TTof S Wx (tVal fa) σ H Q → tB (TEof S Wx fa) σ H Q := fun σ H Q ⟨c, env, h, ev, r, q⟩ => ⟨c, env, h, ev, r, q.bind.mono (Ext.refl c) (fun c1 w h1 H1 x1 r1 q1 v iv => by
    obtain ⟨b, rfl, k⟩ := asB_of (h2 := h1) q1
    exact ⟨b, isW_bl iv, k H1 r1⟩) fun _ _ _ q => q⟩
theorem mt_cmp {op : CmpOp} {sem : W → W → Hm → R W} (ho : OpR X (compareOp op) (rS S sem)) (ha : PE X a (TEof S Wx fa)) (hb : PE X b (TEof S Wx fb)) (hm : behindInMarks op b = false) : PT X (.Compare a [op] [b] pos) (TTof S Wx (tVal (v2 sem fa fb))) :=
  pt_mono (pt_cmpR ho ha hb hm) fun σ H Q q => by
    obtain ⟨c, env, h, ev, r, q⟩ := tval_of σ H Q q
    exact top_of σ H _ ⟨c, env, h, ev, r, q⟩
/-- what is no not, and, or, if, comparison -/
def plainTest : Expr → Bool
  | .UnaryOp .Not _ _ => false
  | .BoolOp _ _ _ => false
  | .IfExp _ _ _ _ => false
  | .Compare _ _ _ _ => false
  | _ => true
theorem plainTest_is {env : Env} (h : plainTest e = true) (whole : Sem Value) : isTrue e env whole = (do let v ← whole; standAt e.pos; holding [v] (truthy v)) := by
  cases e <;> first | rfl | cases h | skip
  rename_i op x p
  cases op <;> first | rfl | cases h
theorem mt_val (he : PE X e (TEof S Wx fa)) (hp : plainTest e = true) : PT X e (TTof S Wx (tVal fa)) := pt_mono (pt_val he (plainTest_is hp)) tval_of
theorem mt_not (ha : PT X a (TTof S Wx ta)) : PT X (.UnaryOp .Not a pos) (TTof S Wx (tNot' ta)) :=
  pt_mono (pt_not ha) fun σ H Q ⟨c, env, h, ev, r, q⟩ => ⟨c, env, h, ev, r, q.bind.mono (Ext.refl c) (fun c1 b h1 H1 x1 r1 q1 => q1 c1 H1 (Ext.refl c1) r1) fun _ _ _ q => q⟩
theorem mw_and1 (ha : PT X a (TTof S Wx ta)) : PW X (.BoolOp .And [a] pos) (TTof S Wx ta) := pw_and1 ha
theorem mw_or1 (ha : PT X a (TTof S Wx ta)) : PW X (.BoolOp .Or [a] pos) (TTof S Wx ta) := pw_or1 ha
theorem mw_and (ha : PT X a (TTof S Wx ta)) (hb : PW X (.BoolOp .And (b :: rest) pos) (TTof S Wx tb)) : PW X (.BoolOp .And (a :: b :: rest) pos) (TTof S Wx (tAnd' ta tb)) :=
  pw_mono (pw_and ha hb) fun σ H Q ⟨c, env, h, ev, r, q⟩ => ⟨c, env, h, ev, r, q.bind.mono (Ext.refl c) (fun c1 b h1 H1 x1 r1 q1 => by
    cases b with
    | true => exact ⟨c1, env, h1, ev.up x1, r1, q1⟩
    | false => exact q1 c1 H1 (Ext.refl c1) r1) fun _ _ _ q => q⟩
theorem mw_or (ha : PT X a (TTof S Wx ta)) (hb : PW X (.BoolOp .Or (b :: rest) pos) (TTof S Wx tb)) : PW X (.BoolOp .Or (a :: b :: rest) pos) (TTof S Wx (tOr' ta tb)) :=
  pw_mono (pw_or ha hb) fun σ H Q ⟨c, env, h, ev, r, q⟩ => ⟨c, env, h, ev, r, q.bind.mono (Ext.refl c) (fun c1 b h1 H1 x1 r1 q1 => by
    cases b with
    | false => exact ⟨c1, env, h1, ev.up x1, r1, q1⟩
    | true => exact q1 c1 H1 (Ext.refl c1) r1) fun _ _ _ q => q⟩
theorem me_not (ha : PE X a (TEof S Wx fa)) : PE X (.UnaryOp .Not a pos) (TEof S Wx (vNot fa)) :=
  pe_mono (pe_not ha) fun σ H Q ⟨c, env, h, ev, r, q⟩ => ⟨c, env, h, ev, r, q.bind.mono (Ext.refl c) (fun c1 w h1 H1 x1 r1 q1 v iv => by
    obtain ⟨b, rfl, k⟩ := asB_of (h2 := h1) q1.bind
    exact ⟨b, isW_bl iv, k H1 r1 c1 H1 (Ext.refl c1) r1 _ isW_mkbl⟩) fun _ _ _ q => q⟩
theorem me_and (ha : PE X a (TEof S Wx fa)) (hb : PE X (.BoolOp .And (b :: rest) pos) (TEof S Wx fb)) : PE X (.BoolOp .And (a :: b :: rest) pos) (TEof S Wx (vAnd fa fb)) :=
  pe_mono (pe_and ha hb) fun σ H Q ⟨c, env, h, ev, r, q⟩ => ⟨c, env, h, ev, r, q.bind.mono (Ext.refl c) (fun c1 w h1 H1 x1 r1 q1 v iv => by
    obtain ⟨b, rfl, k⟩ := asB_of (h2 := h1) q1.bind
    refine ⟨b, isW_bl iv, ?_⟩
    have k := k H1 r1
    cases b with
    | true => exact ⟨c1, env, h1, ev.up x1, r1, k⟩
    | false => exact k c1 H1 (Ext.refl c1) r1 _ isW_mkbl) fun _ _ _ q => q⟩
theorem me_or (ha : PE X a (TEof S Wx fa)) (hb : PE X (.BoolOp .Or (b :: rest) pos) (TEof S Wx fb)) : PE X (.BoolOp .Or (a :: b :: rest) pos) (TEof S Wx (vOr fa fb)) :=
  pe_mono (pe_or ha hb) fun σ H Q ⟨c, env, h, ev, r, q⟩ => ⟨c, env, h, ev, r, q.bind.mono (Ext.refl c) (fun c1 w h1 H1 x1 r1 q1 v iv => by
    obtain ⟨b, rfl, k⟩ := asB_of (h2 := h1) q1.bind
    refine ⟨b, isW_bl iv, ?_⟩
    have k := k H1 r1
    cases b with
    | false => exact ⟨c1, env, h1, ev.up x1, r1, k⟩
    | true => exact k c1 H1 (Ext.refl c1) r1 _ isW_mkbl) fun _ _ _ q => q⟩
theorem me_if {t : Expr} (ht : PT X t (TTof S Wx ta)) (ha : PE X a (TEof S Wx fa)) (hb : PE X b (TEof S Wx fb)) : PE X (.IfExp t a b pos) (TEof S Wx (vIf ta fa fb)) :=
  pe_mono (pe_ifExp ht ha hb) fun σ H Q ⟨c, env, h, ev, r, q⟩ => ⟨c, env, h, ev, r, q.bind.mono (Ext.refl c) (fun c1 b h1 H1 x1 r1 q1 => by
    cases b with
    | true => exact ⟨c1, env, h1, ev.up x1, r1, q1⟩
    | false => exact ⟨c1, env, h1, ev.up x1, r1, q1⟩) fun _ _ _ q => q⟩
/-! ### chains -/
theorem tchain_of {s1 s2 : W → W → Hm → R W} {Q : VK} : ∀ σ H, TEof S Wx (vChn s1 s2 fa fb fc) σ H Q → tChain (rS S s1) (rS S s2) (TEof S Wx fa) (TEof S Wx fb) (TEof S Wx fc) σ H Q := fun σ H ⟨c, env, h, ev, r, q⟩ =>
  ⟨c, env, h, ev, r, q.bind.mono (Ext.refl c) (fun c1 w1 h1 H1 x1 r1 q1 v1 i1 => ⟨c1, env, h1, ev.up x1, r1, q1.bind.mono (Ext.refl c1) (fun c2 w2 h2 H2 x2 r2 q2 v2 i2 => by
    refine ⟨c2, h2, w1, w2, r2, i1.mono x2, i2, q2.bind.mono (Ext.refl c2) (fun c3 z h3 H3 x3 r3 q3 v3 i3 => ?_) fun _ _ _ _ => trivial⟩
    obtain ⟨b, rfl, k⟩ := asB_of (h2 := h3) q3.bind
    refine ⟨b, isW_bl i3, ?_⟩
    have k := k H3 r3
    cases b with
    | false => exact k c3 H3 (Ext.refl c3) r3 _ isW_mkbl
    | true => exact ⟨c3, env, h3, ((ev.up x1).up x2).up x3, r3, (Aft.bind k).mono (Ext.refl c3) (fun c4 w h4 H4 x4 r4 q4 v4 i4 => ⟨c4, h4, w2, w, r4, i2.mono (x3.trans x4), i4, q4.mono (Ext.refl c4) (fun _ _ _ _ _ _ q => q) fun _ _ _ _ => trivial⟩) fun _ _ _ q => q⟩) fun _ _ _ q => q⟩) fun _ _ _ q => q⟩
theorem me_chn {op op' : CmpOp} {d : Expr} {s1 s2 : W → W → Hm → R W} (ho : OpR X (compareOp op) (rS S s1)) (ho' : OpR X (compareOp op') (rS S s2)) (ha : PE X a (TEof S Wx fa)) (hb : PE X b (TEof S Wx fb)) (hc : PE X d (TEof S Wx fc)) (hm : lastMarks [op, op'] [b, d] = false) :
    PE X (.Compare a [op, op'] [b, d] pos) (TEof S Wx (vChn s1 s2 fa fb fc)) := pe_mono (pe_chain ho ho' ha hb hc hm) fun σ H Q q => tchain_of σ H q
theorem mt_chn {op op' : CmpOp} {d : Expr} {s1 s2 : W → W → Hm → R W} (ho : OpR X (compareOp op) (rS S s1)) (ho' : OpR X (compareOp op') (rS S s2)) (ha : PE X a (TEof S Wx fa)) (hb : PE X b (TEof S Wx fb)) (hc : PE X d (TEof S Wx fc)) (hm : lastMarks [op, op'] [b, d] = false) :
    PT X (.Compare a [op, op'] [b, d] pos) (TTof S Wx (tVal (vChn s1 s2 fa fb fc))) := pt_mono (pt_chain ho ho' ha hb hc hm) fun σ H Q q => by
  obtain ⟨c, env, h, ev, r, q⟩ := tval_of σ H Q q
  exact tchain_of σ H ⟨c, env, h, ev, r, q⟩

/-! ### is None -/
def sIsN (neg : Bool) : W → W → Hm → R W := fun x y h => match y with
  | .d .non => match x with
    | .d .non => .ok (.d (.bl (!neg))) h
    | _ => .ok (.d (.bl neg)) h
  | _ => .no
theorem isN_non {w : W} {v : V} (i : IsW S c w v) : (v = .non ↔ w = .d .non) := by
  cases w with
  | r n => exact ⟨fun e => by rw [i.2] at e; (cases e), fun e => by cases e⟩
  | d x =>
    have i : IsD S c.F x v := i
    cases x <;> simp only [IsD] at i <;> (constructor <;> intro e) <;> first | rfl | exact i | (cases e; done) | (subst e; cases i; done) | (obtain ⟨a, vs, rfl, _⟩ := i; cases e; done) | (obtain ⟨a, dx, vs, rfl, _⟩ := i; cases e; done) | (obtain ⟨a, b1, b2, b3, b4, b5, b6, rfl, _⟩ := i; cases e; done)
theorem o_isN : OpR X (compareOp .Is) (rS S (sIsN false)) := OpR.imp op_isN fun x y H Q ⟨c, h, w1, w2, r, i1, i2, q⟩ => by
  unfold sIsN at q
  split at q
  · have e2 := (isN_non i2).mpr rfl
    refine ⟨e2, ?_⟩
    split at q
    · rw [(isN_non i1).mpr rfl]
      exact q c H (Ext.refl c) r _ isW_mkbl
    · rename_i hne
      rw [decide_eq_false fun e => hne ((isN_non i1).mp e)]
      exact q c H (Ext.refl c) r _ isW_mkbl
  · exact q.elim
theorem o_notN : OpR X (compareOp .IsNot) (rS S (sIsN true)) := OpR.imp op_notN fun x y H Q ⟨c, h, w1, w2, r, i1, i2, q⟩ => by
  unfold sIsN at q
  split at q
  · have e2 := (isN_non i2).mpr rfl
    refine ⟨e2, ?_⟩
    split at q
    · rw [(isN_non i1).mpr rfl]
      exact q c H (Ext.refl c) r _ isW_mkbl
    · rename_i hne
      rw [decide_eq_false fun e => hne ((isN_non i1).mp e)]
      exact q c H (Ext.refl c) r _ isW_mkbl
  · exact q.elim
end
end Mi

/-! Mi 9: items, dicts, lists that change. -/
namespace Mi
open PySem L2

/-! ### keys -/
def keyD : D → Option Key
  | .int i => some (.inl i)
  | .str x => some (.inr x)
  | _ => none
def keysD : List D → Option (List Key)
  | [] => some []
  | x :: l => match keyD x, keysD l with
    | some k, some r => some (k :: r)
    | _, _ => none
section
variable {S : Sig} {c : C} {F : Hp}
theorem keyD_is {x : D} {v : V} {k : Key} (e : keyD x = some k) (i : IsD S F x v) : v = kV k := by
  cases x <;> first | (cases e; done) | (simp only [IsD] at i; cases e; exact i)
theorem keysD_is : ∀ {l : List D} {vs : List V} {k : List Key}, keysD l = some k → IsDs S F l vs → vs = k.map kV
  | [], vs, k, e, i => by
    cases e
    simp only [IsDs] at i
    exact i
  | x :: l, vs, k, e, i => by
    simp only [IsDs] at i
    obtain ⟨v, r, rfl, i1, i2⟩ := i
    unfold keysD at e
    cases e1 : keyD x with
    | none => rw [e1] at e; cases e
    | some k1 =>
      cases e2 : keysD l with
      | none => rw [e1, e2] at e; cases e
      | some k2 =>
        rw [e1, e2] at e
        cases e
        rw [keyD_is e1 i1, keysD_is e2 i2]
        rfl
end
/-- the value at a key -/
def lookK {κ α : Type} [DecidableEq κ] : List κ → List α → κ → Option α
  | k :: ks, x :: xs, y => if k = y then some x else lookK ks xs y
  | _, _, _ => none
/-- a key set: in its place, or behind -/
def storeK {κ α : Type} [DecidableEq κ] : List κ → List α → κ → α → List κ × List α
  | k :: ks, x :: xs, y, z => if k = y then (k :: ks, z :: xs) else ((k :: (storeK ks xs y z).1), (x :: (storeK ks xs y z).2))
  | _, _, y, z => ([y], [z])
section
variable {S : Sig} {c : C} {κ : Type} [DecidableEq κ]
theorem lookK_is : ∀ {ks : List κ} {l : List W} {vs : List V} {y : κ}, ks.length = vs.length → IsWs S c l vs → (lookK ks l y = none → valV (ks.zip vs) y = none) ∧ ∀ w, lookK ks l y = some w → ∃ v, valV (ks.zip vs) y = some v ∧ IsW S c w v
  | [], l, vs, y, _, _ => ⟨fun _ => rfl, fun w e => nomatch e⟩
  | k :: ks, [], vs, y, hl, h => by
    cases (show _ = [] from h)
    cases hl
  | k :: ks, x :: xs, vs, y, hl, ⟨v, r, ev, q, t⟩ => by
    subst ev
    unfold lookK
    by_cases hk : k = y
    · rw [if_pos hk]
      refine ⟨fun e => (by cases e), fun w e => ?_⟩
      cases e
      exact ⟨v, (by rw [List.zip_cons_cons]; exact valV_pos hk), q⟩
    · rw [if_neg hk]
      have ih := lookK_is (y := y) (by simpa using hl : ks.length = r.length) t
      have e0 : valV ((k :: ks).zip (v :: r)) y = valV (ks.zip r) y := by simp [valV, List.find?_cons, hk]
      rw [e0]
      exact ih
theorem storeK_fst_len {α : Type} {z : α} : ∀ {ks : List κ} {l : List α} {y : κ}, ks.length = l.length → (storeK ks l y z).1.length = (storeK ks l y z).2.length
  | [], [], y, _ => rfl
  | [], x :: l, y, h => by cases h
  | k :: ks, [], y, h => by cases h
  | k :: ks, x :: l, y, h => by
    unfold storeK
    by_cases hk : k = y
    · rw [if_pos hk]; simpa using h
    · rw [if_neg hk]
      simp only [List.length_cons]
      rw [storeK_fst_len (by simpa using h)]
theorem storeK_put {w : W} {v : V} (q : IsW S c w v) : ∀ {ks : List κ} {l : List W} {vs : List V} {y : κ}, ks.Nodup → ks.length = vs.length → IsWs S c l vs →
    ∃ vs', (storeK ks l y w).1.length = vs'.length ∧ putK (ks.zip vs) y v = (storeK ks l y w).1.zip vs' ∧ IsWs S c (storeK ks l y w).2 vs'
  | [], l, vs, y, _, hl, h => by
    cases vs with
    | cons _ _ => cases hl
    | nil =>
      cases l with
      | cons _ _ => obtain ⟨_, _, z, _⟩ := h; cases z
      | nil => exact ⟨[v], rfl, rfl, v, [], rfl, q, rfl⟩
  | k :: ks, [], vs, y, _, hl, h => by
    cases (show _ = [] from h)
    cases hl
  | k :: ks, x :: xs, vs, y, nd, hl, ⟨u, r, ev, p, t⟩ => by
    subst ev
    unfold storeK
    obtain ⟨n1, n2⟩ := List.nodup_cons.mp nd
    by_cases hk : k = y
    · rw [if_pos hk]
      subst hk
      refine ⟨v :: r, hl, ?_, v, r, rfl, q, t⟩
      unfold putK
      rw [List.zip_cons_cons, List.any_cons]
      simp only [decide_true, Bool.true_or, if_true, List.map_cons]
      have : ∀ p ∈ ks.zip r, ¬ p.1 = k := fun p hp z => n1 (z ▸ (List.of_mem_zip hp).1)
      rw [List.map_congr_left (g := id) (fun p hp => by rw [if_neg (this p hp)]; rfl), List.map_id]
      rfl
    · rw [if_neg hk]
      obtain ⟨vs', e1, e2, e3⟩ := storeK_put (y := y) q n2 (by simpa using hl : ks.length = r.length) t
      refine ⟨u :: vs', by simp [e1], ?_, u, vs', rfl, p, e3⟩
      rw [List.zip_cons_cons, List.zip_cons_cons, ← e2]
      unfold putK
      rw [List.any_cons]
      simp only [decide_eq_false hk, Bool.false_or, List.map_cons, if_neg hk]
      split <;> rfl
end

/-! ### items -/
/-- what asks a dict -/
def isDct : W → Hm → Bool
  | .d (.dK _ _), _ => true
  | .d (.dT _ _), _ => true
  | .r n, h => match h[n]? with
    | some (.dK _ _) => true
    | some (.dT _ _) => true
    | _ => false
  | _, _ => false
/-- a sequence's items -/
def seqOf : W → Hm → Option (List W)
  | .d (.tup l), _ => some (l.map W.d)
  | .d (.lst l), _ => some (l.map W.d)
  | .d (.scr l), _ => some (l.map W.d)
  | .r n, h => match h[n]? with
    | some (.lst l) => some l
    | _ => none
  | _, _ => none
def isTupW : W → Bool
  | .d (.tup _) => true
  | _ => false
/-- a dict's value at a key, if it is one -/
def dctAt : W → W → Hm → Option (Option W)
  | .d (.dK ks l), .d k, _ => (keyD k).map fun k => lookK ks (l.map W.d) k
  | .d (.dT ks l), .d (.tup k), _ => (keysD k).map fun k => lookK ks (l.map W.d) k
  | .r n, .d k, h => match h[n]? with
    | some (.dK ks l) => (keyD k).map fun k => lookK ks l k
    | some (.dT ks l) => match k with
      | .tup k => (keysD k).map fun k => lookK ks l k
      | _ => none
    | _ => none
  | _, _, _ => none
def sIxL : W → W → Hm → R W := fun x y h => match seqOf x h, y with
  | some l, .d (.int i) => match atI l i with
    | some w => .ok w h
    | none => .no
  | _, _ => .no
def sIxD : W → W → Hm → R W := fun x y h => match dctAt x y h with
  | some (some w) => .ok w h
  | _ => .no
def sIx : W → W → Hm → R W := fun x y h => if isDct x h = true then sIxD x y h else sIxL x y h
section
variable {S : Sig} {c : C} {h : Hm} {H : Hp} {Q : VK} {F : Hp}
theorem IsDs.at {l : List D} {vs : List V} {i : Int} {x : D} (h : IsDs S F l vs) (e : atI l i = some x) : ∃ v, atI vs i = some v ∧ IsD S F x v := by
  unfold atI at e ⊢
  rw [← h.length]
  cases e1 : ixN l.length i with
  | none => rw [e1] at e; cases e
  | some j =>
    rw [e1] at e
    exact h.get e
theorem IsWs.at {l : List W} {vs : List V} {i : Int} {x : W} (h : IsWs S c l vs) (e : atI l i = some x) : ∃ v, atI vs i = some v ∧ IsW S c x v := by
  unfold atI at e ⊢
  rw [← h.length]
  cases e1 : ixN l.length i with
  | none => rw [e1] at e; cases e
  | some j =>
    rw [e1] at e
    exact h.get e
theorem lookK_map {κ : Type} [DecidableEq κ] : ∀ {ks : List κ} {l : List D} {y : κ} {d : D}, lookK ks l y = some d → lookK ks (l.map W.d) y = some (.d d)
  | [], l, y, d, e => by cases e
  | k :: ks, [], y, d, e => by cases e
  | k :: ks, x :: xs, y, d, e => by
    unfold lookK at e
    show (if k = y then some (W.d x) else _) = _
    by_cases hk : k = y
    · rw [if_pos hk] at e ⊢; cases e; rfl
    · rw [if_neg hk] at e ⊢; exact lookK_map e
theorem seqOf_at {w : W} {v : V} {l : List W} {K : PySem.W.Frag} (hK : S.K = K) (r : Rel S c h H) (i : IsW S c w v) (e : seqOf w h = some l) : ∃ a vs, v = .ref a ∧ (if isTupW w = true then SqT K H a vs else SqL K H a vs) ∧ IsWs S c l vs := by
  subst hK
  unfold seqOf at e
  split at e
  · cases e
    have i : IsD S c.F (.tup _) v := i
    simp only [IsD] at i
    obtain ⟨a, vs, e1, e2, e3⟩ := i
    exact ⟨a, vs, e1, .inl (.inl (r.fz _ _ e2)), e3.toW⟩
  · cases e
    have i : IsD S c.F (.lst _) v := i
    simp only [IsD] at i
    obtain ⟨a, vs, e1, e2, e3⟩ := i
    exact ⟨a, vs, e1, .inl (.inl (r.fz _ _ e2)), e3.toW⟩
  · cases e
    have i : IsD S c.F (.scr _) v := i
    simp only [IsD] at i
    obtain ⟨a, vs, e1, e2, e3⟩ := i
    exact ⟨a, vs, e1, SqL.mono r.fz e2, e3.toW⟩
  · rename_i n
    obtain ⟨hn, rfl⟩ := i
    split at e
    · rename_i e0
      cases e
      obtain ⟨vs, e1, e2⟩ := r.mu n _ e0
      exact ⟨_, vs, rfl, .inl (.inl e1), e2⟩
    · cases e
  · cases e
theorem dctAt_is {x y : V} {w1 w2 : W} {o : Option W} (r : Rel S c h H) (i1 : IsW S c w1 x) (i2 : IsW S c w2 y) (e : dctAt w1 w2 h = some o) :
    ∃ a ov, x = .ref a ∧ DGet H a y ov ∧ (o = none → ov = none) ∧ ∀ w, o = some w → ∃ v, ov = some v ∧ IsW S c w v := by
  have fin : ∀ {κ : Type} [DecidableEq κ] {ks : List κ} {l : List W} {vs : List V} {k : κ}, ks.length = vs.length → IsWs S c l vs → (lookK ks l k = none → valV (ks.zip vs) k = none) ∧ ∀ w, lookK ks l k = some w → ∃ v, valV (ks.zip vs) k = some v ∧ IsW S c w v := fun hl i => lookK_is hl i
  unfold dctAt at e
  split at e
  · rename_i ks l k
    have i1 : IsD S c.F (.dK ks l) x := i1
    simp only [IsD] at i1
    obtain ⟨a, o, vs, rfl, hl, e1, e2⟩ := i1
    cases ek : keyD k with
    | none => rw [ek] at e; cases e
    | some k' =>
      rw [ek] at e; cases e
      obtain ⟨f1, f2⟩ := fin (k := k') hl e2.toW
      exact ⟨a, _, rfl, .inl ⟨_, k', .inr ⟨o, r.fz _ _ e1⟩, keyD_is ek i2, rfl⟩, f1, f2⟩
  · rename_i ks l k
    have i1 : IsD S c.F (.dT ks l) x := i1
    have i2 : IsD S c.F (.tup k) y := i2
    simp only [IsD] at i1 i2
    obtain ⟨a, o, vs, rfl, hl, e1, e2⟩ := i1
    obtain ⟨b, us, rfl, e4, e5⟩ := i2
    cases ek : keysD k with
    | none => rw [ek] at e; cases e
    | some k' =>
      rw [ek] at e; cases e
      obtain ⟨f1, f2⟩ := fin (k := k') hl e2.toW
      exact ⟨a, _, rfl, .inr ⟨_, k', b, .inr ⟨o, r.fz _ _ e1⟩, rfl, by rw [r.fz _ _ e4, keysD_is ek e5], rfl⟩, f1, f2⟩
  · rename_i n k
    obtain ⟨hn, rfl⟩ := i1
    split at e
    · rename_i ks l e0
      obtain ⟨vs, hl, e1, e2⟩ := r.mu n _ e0
      cases ek : keyD k with
      | none => rw [ek] at e; cases e
      | some k' =>
        rw [ek] at e; cases e
        obtain ⟨f1, f2⟩ := fin (k := k') hl e2
        exact ⟨_, _, rfl, .inl ⟨_, k', .inl e1, keyD_is ek i2, rfl⟩, f1, f2⟩
    · rename_i ks l e0
      obtain ⟨vs, hl, e1, e2⟩ := r.mu n _ e0
      split at e
      · rename_i k0
        have i2 : IsD S c.F (.tup k0) y := i2
        simp only [IsD] at i2
        obtain ⟨b, us, rfl, e4, e5⟩ := i2
        cases ek : keysD k0 with
        | none => rw [ek] at e; cases e
        | some k' =>
          rw [ek] at e; cases e
          obtain ⟨f1, f2⟩ := fin (k := k') hl e2
          exact ⟨_, _, rfl, .inr ⟨_, k', b, .inl e1, rfl, by rw [r.fz _ _ e4, keysD_is ek e5], rfl⟩, f1, f2⟩
      · cases e
    · cases e
  · cases e
end
def noSlice : Expr → Bool
  | .Slice _ _ _ _ => false
  | _ => true
theorem noSlice_is {b : Expr} (h : noSlice b = true) (o i : Value) : subscripted b false o i = operate [o, i] (getItem o i) := by
  cases b <;> first | rfl | cases h
section
variable {X : Cx} {S : Sig} {k : Nat} {Wx : WX} {pos : Pos} {a b e : Expr} {fa fb fc : Fe}
theorem me_ix (qx : Qx X S k Wx) (ha : PE X a (TEof S Wx fa)) (hb : PE X b (TEof S Wx fb)) (hs : noSlice b = true) : PE X (.Subscript a b pos) (TEof S Wx (v2 sIx fa fb)) := by
  have hu : X.A.units + 1 < cLine := hu_of qx.room
  refine pe_mono (pe_or2 (pe_ix ix_seq ha hb fun o i => noSlice_is hs o i) (pe_dget hu ha hb fun o i => noSlice_is hs o i)) fun σ H Q ⟨c, env, h, ev, r, q⟩ => ?_
  have go : ∀ {c1 : C} {w1 w2 : W} {h2 : Hm} {H2 : Hp} {x y : V}, Rel S c1 h2 H2 → IsW S c1 w1 x → IsW S c1 w2 y → Aft S c1 (sIx w1 w2 h2) (fun c' w _ H' => ∀ v, IsW S c' w v → Q v H') (fun cls d H' => Wx cls d σ H') →
      if isDct w1 h2 = true then ∃ a v, x = .ref a ∧ DGet H2 a y (some v) ∧ Q v H2 else rIx X.K x y H2 Q := fun {c1 w1 w2 h2 H2 x y} r i1 i2 q => by
    unfold sIx at q
    split
    · rename_i hd
      rw [if_pos hd] at q
      unfold sIxD at q
      split at q
      · rename_i w ew
        obtain ⟨a, ov, e1, e2, _, e3⟩ := dctAt_is r i1 i2 ew
        obtain ⟨v, rfl, iv⟩ := e3 w rfl
        exact ⟨a, v, e1, e2, q c1 H2 (Ext.refl c1) r v iv⟩
      · exact q.elim
    · rename_i hd
      rw [if_neg hd] at q
      unfold sIxL at q
      split at q
      · rename_i l i el
        have i2 : IsD S c1.F (.int i) y := i2
        simp only [IsD] at i2
        obtain ⟨a, vs, rfl, sq, il⟩ := seqOf_at qx.K r i1 el
        split at q
        · rename_i w ew
          obtain ⟨v, e3, iv⟩ := il.at ew
          have fq := q c1 H2 (Ext.refl c1) r v iv
          cases ht : isTupW w1 with
          | true =>
            rw [ht] at sq
            exact .inr (.inl ⟨a, vs, i, v, rfl, i2, sq, e3, fq⟩)
          | false =>
            rw [ht] at sq
            exact .inl ⟨a, vs, i, v, rfl, i2, sq, e3, fq⟩
        · exact q.elim
      · exact q.elim
  cases ea : fa env h with
  | no => rw [show v2 sIx fa fb env h = R.bind (fa env h) _ from rfl, ea] at q; exact q.elim
  | ex e h1 => exact .inl ⟨c, env, h, ev, r, by rw [ea]; rw [show v2 sIx fa fb env h = R.bind (fa env h) _ from rfl, ea] at q; exact q⟩
  | ok w1 h1 =>
    rw [show v2 sIx fa fb env h = R.bind (fa env h) _ from rfl, ea] at q
    have q : Aft S c ((fb env h1).bind fun y h2 => sIx w1 y h2) _ _ := q
    cases eb : fb env h1 with
    | no => rw [eb] at q; exact q.elim
    | ex e h2 =>
      rw [eb] at q
      refine .inl ⟨c, env, h, ev, r, ?_⟩
      rw [ea]
      exact fun c1 H1 x1 r1 v1 i1 => ⟨c1, env, h1, ev.up x1, r1, by rw [eb]; exact Aft.up (show Aft S c (R.ex e h2) _ _ from q) x1⟩
    | ok w2 h2 =>
      rw [eb] at q
      have q : Aft S c (sIx w1 w2 h2) _ _ := q
      cases hd : isDct w1 h2 with
      | true =>
        refine .inr ⟨c, env, h, ev, r, ?_⟩
        rw [ea]
        refine fun c1 H1 x1 r1 v1 i1 => ⟨c1, env, h1, ev.up x1, r1, ?_⟩
        rw [eb]
        intro c2 H2 x2 r2 v2 i2
        have z := go r2 (i1.mono x2) i2 (q.up (x1.trans x2))
        rw [hd] at z
        exact z
      | false =>
        refine .inl ⟨c, env, h, ev, r, ?_⟩
        rw [ea]
        refine fun c1 H1 x1 r1 v1 i1 => ⟨c1, env, h1, ev.up x1, r1, ?_⟩
        rw [eb]
        intro c2 H2 x2 r2 v2 i2
        have z := go r2 (i1.mono x2) i2 (q.up (x1.trans x2))
        rw [hd] at z
        exact z
end
end Mi

/-! Mi 10: what loops and comprehensions walk. -/
namespace Mi
open PySem L2

section
variable {S : Sig} {c : C} {K : PySem.W.Frag}
/-- a value stays what it is -/
theorem sq_up {w : W} {h : Hm} {l : List W} {H : Hp} (hK : S.K = K) (r : Rel S c h H) {v : V} (i : IsW S c w v) (e : seqOf w h = some l) (hp : ∀ n, w ≠ .r n) : ∃ a vs, v = .ref a ∧ IsWs S c l vs ∧ ∀ c' h' H', Sub c c' → Rel S c' h' H' → (if isTupW w = true then SqT K H' a vs else SqL K H' a vs) := by
  cases w with
  | r n => exact absurd rfl (hp n)
  | d x =>
    subst hK
    have i : IsD S c.F x v := i
    cases x with
    | tup l0 =>
      cases e
      simp only [IsD] at i
      obtain ⟨a, vs, e1, e2, e3⟩ := i
      exact ⟨a, vs, e1, e3.toW, fun c' h' H' x r' => .inl (.inl (r'.fz _ _ (x.F _ _ e2)))⟩
    | lst l0 =>
      cases e
      simp only [IsD] at i
      obtain ⟨a, vs, e1, e2, e3⟩ := i
      exact ⟨a, vs, e1, e3.toW, fun c' h' H' x r' => .inl (.inl (r'.fz _ _ (x.F _ _ e2)))⟩
    | scr l0 =>
      cases e
      simp only [IsD] at i
      obtain ⟨a, vs, e1, e2, e3⟩ := i
      exact ⟨a, vs, e1, e3.toW, fun c' h' H' x r' => SqL.mono r'.fz (SqL.mono x.F e2)⟩
    | _ => cases e
theorem itl_ok {a : Addr} {vs : List V} {l : List W} (il : IsWs S c l vs) (k : ∀ c' h' H', Sub c c' → Rel S c' h' H' → SqL K H' a vs) : ItOk S c (Itl K a) l := by
  refine ⟨fun i hi c' h' H' x r' => ⟨vs, k c' h' H' x r', by rw [← il.length]; exact hi⟩, fun i w e c' h' H' x r' => ?_⟩
  obtain ⟨v, e1, iv⟩ := il.get e
  refine ⟨⟨vs, v, k c' h' H' x r', e1⟩, fun y H2 ⟨z, yq⟩ => ?_⟩
  subst z
  have e2 := yq vs (k c' h' H2 x r')
  rw [e1] at e2
  cases e2
  exact ⟨c', Ext.refl c', r', iv.monoS x⟩
theorem itt_ok {a : Addr} {vs : List V} {l : List W} (il : IsWs S c l vs) (k : ∀ c' h' H', Sub c c' → Rel S c' h' H' → SqT K H' a vs) : ItOk S c (Itt K a) l := by
  refine ⟨fun i hi c' h' H' x r' => ⟨vs, k c' h' H' x r', by rw [← il.length]; exact hi⟩, fun i w e c' h' H' x r' => ?_⟩
  obtain ⟨v, e1, iv⟩ := il.get e
  refine ⟨⟨vs, v, k c' h' H' x r', e1⟩, fun y H2 ⟨z, yq⟩ => ?_⟩
  subst z
  have e2 := yq vs (k c' h' H2 x r')
  rw [e1] at e2
  cases e2
  exact ⟨c', Ext.refl c', r', iv.monoS x⟩
/-- lo, lo + 1, .. -/
def rngW (lo : Int) (n : Nat) : List W := (List.range n).map fun i => .d (.int (lo + (i : Nat)))
theorem itr_ok {lo : Int} {n : Nat} : ItOk S c (Itr lo n) (rngW lo n) := by
  have hl : (rngW lo n).length = n := by unfold rngW; simp
  refine ⟨fun i hi c' h' H' x r' => by rw [hl] at hi; exact hi, fun i w e c' h' H' x r' => ?_⟩
  have hi : i < n := by
    have := (List.getElem?_eq_some_iff.mp e).1
    rwa [hl] at this
  refine ⟨hi, fun y H2 ⟨z, yq⟩ => ?_⟩
  subst z yq
  unfold rngW at e
  rw [List.getElem?_map, List.getElem?_range hi] at e
  cases e
  refine ⟨c', Ext.refl c', r', ?_⟩
  show IsD S c'.F (.int _) _
  simp only [IsD]
end
theorem pi_mono {X : Cx} {tg e : Expr} {t t' : TI} (h : PI X tg e t) (k : ∀ σ H R, t' σ H R → t σ H R) : PI X tg e t' := ⟨fun pins s σ H R I q => h.run pins s σ H R I (k σ H R q)⟩
theorem pi_or2 {X : Cx} {tg e : Expr} {t t' : TI} (h : PI X tg e t) (h' : PI X tg e t') : PI X tg e (fun σ H Q => t σ H Q ∨ t' σ H Q) := ⟨fun pins s σ H Q I q => q.elim (h.run pins s σ H Q I) (h'.run pins s σ H Q I)⟩
def W.pure : W → Bool
  | .d _ => true
  | .r _ => false
/-- a frozen list, a tuple, the script -/
def iSeq (f : Fe) : Fa := fun env h => (f env h).bind fun w h1 => if w.pure = true then (match seqOf w h1 with
  | some l => .ok l h1
  | none => .no) else .no
/-- range(j), range(i, j) -/
def iRng1' (g : Fa) : Fa := fun env h => (g env h).bind fun ws h1 => match ws with
  | [.d (.int j)] => if -(2 ^ 62) ≤ j ∧ j < 2 ^ 62 then .ok (rngW 0 j.toNat) h1 else .no
  | _ => .no
def iRng2' (g : Fa) : Fa := fun env h => (g env h).bind fun ws h1 => match ws with
  | [.d (.int i), .d (.int j)] => if -(2 ^ 62) ≤ i ∧ i < 2 ^ 62 ∧ -(2 ^ 62) ≤ j ∧ j < 2 ^ 62 then .ok (rngW i (j - i).toNat) h1 else .no
  | _ => .no
/-- enumerate(a list) -/
def enumW : Nat → List W → List W
  | _, [] => []
  | i, .d x :: l => .d (.tup [.int i, x]) :: enumW (i + 1) l
  | i, .r _ :: l => []
def iEnum' (g : Fa) : Fa := fun env h => (g env h).bind fun ws h1 => match ws with
  | [w] => if w.pure = true ∧ isTupW w = false then (match (seqOf w h1).bind pures with
    | some l => .ok (l.zipIdx.map fun p => .d (.tup [.int (p.2 : Nat), p.1])) h1
    | none => .no) else .no
  | _ => .no
/-- zip(a list, a list) -/
def iZip' (g : Fa) : Fa := fun env h => (g env h).bind fun ws h1 => match ws with
  | [w, u] => if w.pure = true ∧ isTupW w = false ∧ u.pure = true ∧ isTupW u = false then (match (seqOf w h1).bind pures, (seqOf u h1).bind pures with
    | some l, some m => .ok ((l.zip m).map fun p => .d (.tup [p.1, p.2])) h1
    | _, _ => .no) else .no
  | _ => .no
section
variable {X : Cx} {S : Sig} {k : Nat} {Wx : WX} {pos : Pos} {a b e tg : Expr} {fa fb : Fe}
theorem mi_seq (qx : Qx X S k Wx) (he : PE X e (TEof S Wx fa)) : PI X tg e (TIof S Wx (iSeq fa)) := by
  refine pi_mono (pi_or2 (pi_list he) (pi_tup he)) fun σ H Rr ⟨c, env, h, ev, r, q⟩ => ?_
  cases ea : fa env h with
  | no => rw [show iSeq fa env h = R.bind (fa env h) _ from rfl, ea] at q; exact q.elim
  | ex e h1 => exact .inl ⟨c, env, h, ev, r, by rw [ea]; rw [show iSeq fa env h = R.bind (fa env h) _ from rfl, ea] at q; exact q⟩
  | ok w h1 =>
    rw [show iSeq fa env h = R.bind (fa env h) _ from rfl, ea] at q
    have q : Aft S c (if w.pure = true then (match seqOf w h1 with
      | some l => .ok l h1
      | none => .no) else .no) _ _ := q
    split at q
    · rename_i hp
      split at q
      · rename_i l el
        have np : ∀ n, w ≠ .r n := fun n z => by rw [z] at hp; cases hp
        cases ht : isTupW w with
        | true =>
          refine .inr ⟨c, env, h, ev, r, ?_⟩
          rw [ea]
          intro c1 H1 x1 r1 v i1
          obtain ⟨a, vs, rfl, il, k⟩ := sq_up qx.K r1 i1 el np
          rw [ht] at k
          exact ⟨a, rfl, ⟨vs, k c1 h1 H1 (Sub.refl c1) r1⟩, q c1 H1 x1 r1 _ (itt_ok il k)⟩
        | false =>
          refine .inl ⟨c, env, h, ev, r, ?_⟩
          rw [ea]
          intro c1 H1 x1 r1 v i1
          obtain ⟨a, vs, rfl, il, k⟩ := sq_up qx.K r1 i1 el np
          rw [ht] at k
          exact ⟨a, rfl, ⟨vs, k c1 h1 H1 (Sub.refl c1) r1⟩, q c1 H1 x1 r1 _ (itl_ok il k)⟩
      · exact q.elim
    · exact q.elim
theorem mi_r1 {p : Pos} {g : Fa} (hg : Gl X "range") (hm : X.mg "range" = none) (ha : PA X [a] (TAof S Wx g)) (hs : noStar [a] = true) : PI X tg (.Call (.Name "range" p) [a] [] pos) (TIof S Wx (iRng1' g)) :=
  pi_mono (pi_range1 hg hm ha (by rw [noStar_each hs]; rfl)) fun σ H Rr ⟨c, env, h, ev, r, q⟩ => ⟨c, env, h, ev, r, q.bind.mono (Ext.refl c) (fun c1 ws h1 H1 x1 r1 q1 vs iw => by
    split at q1
    · rename_i j
      split at q1
      · rename_i hj
        obtain ⟨v, vr, rfl, iv, ir⟩ := iw
        cases (show vr = [] from ir)
        have iv : IsD S c1.F (.int j) v := iv
        simp only [IsD] at iv
        exact ⟨j, by rw [iv], hj.1, hj.2, q1 c1 H1 (Ext.refl c1) r1 _ itr_ok⟩
      · exact q1.elim
    · exact q1.elim) fun _ _ _ q => q⟩
theorem mi_r2 {p : Pos} {g : Fa} (hg : Gl X "range") (hm : X.mg "range" = none) (ha : PA X [a, b] (TAof S Wx g)) (hs : noStar [a, b] = true) : PI X tg (.Call (.Name "range" p) [a, b] [] pos) (TIof S Wx (iRng2' g)) :=
  pi_mono (pi_range2 hg hm ha (by rw [noStar_each hs]; rfl) (by rw [noStar_each (noStar_cons (env := X.env) hs).2]; rfl)) fun σ H Rr ⟨c, env, h, ev, r, q⟩ => ⟨c, env, h, ev, r, q.bind.mono (Ext.refl c) (fun c1 ws h1 H1 x1 r1 q1 vs iw => by
    split at q1
    · rename_i i j
      split at q1
      · rename_i hj
        obtain ⟨v, vr, rfl, iv, v2, vr2, rfl, iv2, ir⟩ := iw
        cases (show vr2 = [] from ir)
        have iv : IsD S c1.F (.int i) v := iv
        have iv2 : IsD S c1.F (.int j) v2 := iv2
        simp only [IsD] at iv iv2
        exact ⟨i, j, by rw [iv, iv2], hj, q1 c1 H1 (Ext.refl c1) r1 _ itr_ok⟩
      · exact q1.elim
    · exact q1.elim) fun _ _ _ q => q⟩
/-- enumerate -/
theorem ite_ok {c : C} {a : Addr} {vs : List V} {l : List D} {K : PySem.W.Frag} (il : IsDs S c.F l vs) (k : ∀ c' h' H', Sub c c' → Rel S c' h' H' → SqL K H' a vs) : ItOk S c (Ite K a) (l.zipIdx.map fun p => .d (.tup [.int (p.2 : Nat), p.1])) := by
  refine ⟨fun i hi c' h' H' x r' => ⟨vs, k c' h' H' x r', by rw [← il.length]; simpa using hi⟩, fun i w e c' h' H' x r' => ?_⟩
  rw [List.getElem?_map, List.getElem?_zipIdx] at e
  cases e0 : l[i]? with
  | none => rw [e0] at e; cases e
  | some d =>
    rw [e0] at e
    cases e
    obtain ⟨v, e1, iv⟩ := il.get e0
    refine ⟨⟨vs, v, k c' h' H' x r', e1⟩, fun y H2 ⟨T, z, ey, hT, eH, yq⟩ => ?_⟩
    subst ey eH
    have e2 := yq vs (k c' h' H' x r')
    rw [e1] at e2
    cases e2
    refine ⟨c'.addF T _, Ext.addF (r'.nonF hT), r'.addF hT, ?_⟩
    show IsD S _ (.tup _) _
    simp only [IsD, IsDs]
    exact ⟨T, _, rfl, upd_same, _, _, rfl, by simp, _, _, rfl, IsD.mono (Ext.addF (r'.nonF hT)).F (IsD.mono x.F iv), rfl⟩
theorem sqD_up {c : C} {K : PySem.W.Frag} {w : W} {h : Hm} {l : List D} {H : Hp} (hK : S.K = K) (r : Rel S c h H) {v : V} (i : IsW S c w v) (e : (seqOf w h).bind pures = some l) (hp : w.pure = true) (ht : isTupW w = false) :
    ∃ a vs, v = .ref a ∧ IsDs S c.F l vs ∧ ∀ c' h' H', Sub c c' → Rel S c' h' H' → SqL K H' a vs := by
  cases e0 : seqOf w h with
  | none => rw [e0] at e; cases e
  | some l0 =>
    rw [e0] at e
    obtain ⟨a, vs, ev, il, k⟩ := sq_up hK r i e0 (fun n z => by rw [z] at hp; cases hp)
    rw [ht] at k
    exact ⟨a, vs, ev, pures_is e il, k⟩
theorem mi_enum {p tpos : Pos} {elts : List Expr} {kk : Nat} {g : Fa} (qx : Qx X S k Wx) (hg : Gl X "enumerate") (hm : X.mg "enumerate" = none) (ha : PA X [a] (TAof S Wx g)) (hs : noStar [a] = true) : PI X (.Tuple elts kk tpos) (.Call (.Name "enumerate" p) [a] [] pos) (TIof S Wx (iEnum' g)) :=
  pi_mono (pi_enum hg hm ha (by rw [noStar_each hs]; rfl)) fun σ H Rr ⟨c, env, h, ev, r, q⟩ => ⟨c, env, h, ev, r, q.bind.mono (Ext.refl c) (fun c1 ws h1 H1 x1 r1 q1 vs iw => by
    split at q1
    · rename_i w
      split at q1
      · rename_i hc
        split at q1
        · rename_i l el
          obtain ⟨v, vr, rfl, iv, ir⟩ := iw
          cases (show vr = [] from ir)
          obtain ⟨a, us, rfl, il, k⟩ := sqD_up qx.K r1 iv el hc.1 hc.2
          exact ⟨a, us, rfl, k c1 h1 H1 (Sub.refl c1) r1, q1 c1 H1 (Ext.refl c1) r1 _ (ite_ok il k)⟩
        · exact q1.elim
      · exact q1.elim
    · exact q1.elim) fun _ _ _ q => q⟩
theorem itz_ok {c : C} {a b : Addr} {vs us : List V} {l m : List D} {K : PySem.W.Frag} (il : IsDs S c.F l vs) (im : IsDs S c.F m us) (k : ∀ c' h' H', Sub c c' → Rel S c' h' H' → SqL K H' a vs) (k2 : ∀ c' h' H', Sub c c' → Rel S c' h' H' → SqL K H' b us) :
    ItOk S c (Itz K a b) ((l.zip m).map fun p => .d (.tup [p.1, p.2])) := by
  refine ⟨fun i hi c' h' H' x r' => ⟨vs, us, k c' h' H' x r', k2 c' h' H' x r', ?_⟩, fun i w e c' h' H' x r' => ?_⟩
  · rw [← il.length, ← im.length]
    simp at hi
    omega
  · rw [List.getElem?_map] at e
    cases e0 : (l.zip m)[i]? with
    | none => rw [e0] at e; cases e
    | some d =>
      rw [e0] at e
      cases e
      rw [List.getElem?_zip_eq_some] at e0
      obtain ⟨e1, e2⟩ := e0
      obtain ⟨v, e3, iv⟩ := il.get e1
      obtain ⟨u, e4, iu⟩ := im.get e2
      refine ⟨⟨vs, us, v, u, k c' h' H' x r', k2 c' h' H' x r', e3, e4⟩, fun y H2 ⟨T, z, t, ey, hT, eH, yq, yq2⟩ => ?_⟩
      subst ey eH
      have e5 := yq vs (k c' h' H' x r')
      have e6 := yq2 us (k2 c' h' H' x r')
      rw [e3] at e5
      rw [e4] at e6
      cases e5
      cases e6
      have x2 : Ext c' (c'.addF T (.tup [v, u])) := Ext.addF (r'.nonF hT)
      refine ⟨c'.addF T _, x2, r'.addF hT, ?_⟩
      show IsD S _ (.tup _) _
      simp only [IsD, IsDs]
      exact ⟨T, _, rfl, upd_same, _, _, rfl, IsD.mono x2.F (IsD.mono x.F iv), _, _, rfl, IsD.mono x2.F (IsD.mono x.F iu), rfl⟩
theorem mi_zip {p tpos : Pos} {elts : List Expr} {kk : Nat} {g : Fa} (qx : Qx X S k Wx) (hg : Gl X "zip") (hm : X.mg "zip" = none) (ha : PA X [a, b] (TAof S Wx g)) (hs : noStar [a, b] = true) : PI X (.Tuple elts kk tpos) (.Call (.Name "zip" p) [a, b] [] pos) (TIof S Wx (iZip' g)) :=
  pi_mono (pi_zip hg hm ha (noStar_cons hs).1 (noStar_back (noStar_cons (env := X.env) hs).2)) fun σ H Rr ⟨c, env, h, ev, r, q⟩ => ⟨c, env, h, ev, r, q.bind.mono (Ext.refl c) (fun c1 ws h1 H1 x1 r1 q1 vs iw => by
    split at q1
    · rename_i w u
      split at q1
      · rename_i hc
        split at q1
        · rename_i l m el em
          obtain ⟨v, vr, rfl, iv, v2, vr2, rfl, iv2, ir⟩ := iw
          cases (show vr2 = [] from ir)
          obtain ⟨a, us, rfl, il, k⟩ := sqD_up qx.K r1 iv el hc.1 hc.2.1
          obtain ⟨b, us2, rfl, im, k2⟩ := sqD_up qx.K r1 iv2 em hc.2.2.1 hc.2.2.2
          exact ⟨a, b, us, us2, rfl, k c1 h1 H1 (Sub.refl c1) r1, k2 c1 h1 H1 (Sub.refl c1) r1, q1 c1 H1 (Ext.refl c1) r1 _ (itz_ok il im k k2)⟩
        · exact q1.elim
      · exact q1.elim
    · exact q1.elim) fun _ _ _ q => q⟩
end
end Mi

/-! Mi 11: list comprehensions. -/
namespace Mi
open PySem L2

section
variable {S : Sig} {c : C} {h : Hm} {H : Hp} {p : Addr} {o o' : HO}
def C.withP (c : C) (P : Hp) : C := { c with P := P }
theorem subP (c : C) (P : Hp) : Sub c (c.withP P) := ⟨fun _ _ => rfl, fun _ _ e => e, Nat.le_refl _⟩
theorem isO_P {P : Hp} {H' : Hp} {a : Addr} {m : MO} (k : H' a = H a) (q : IsO S c H a m) : IsO S (c.withP P) H' a m := by
  have x : Sub c (c.withP P) := subP c P
  cases m with
  | lst l => obtain ⟨vs, e, q⟩ := q; exact ⟨vs, k.trans e, q.monoS x⟩
  | dK ks l => obtain ⟨vs, z, e, q⟩ := q; exact ⟨vs, z, k.trans e, q.monoS x⟩
  | dT ks l => obtain ⟨vs, z, e, q⟩ := q; exact ⟨vs, z, k.trans e, q.monoS x⟩
  | ins t fs l => obtain ⟨dx, vs, z, e, q⟩ := q; exact ⟨dx, vs, z, k.trans e, q.monoS x⟩
  | dead => trivial
theorem Rel.newP (r : Rel S c h H) (hp : H p = none) (ho : ∀ vs, o ≠ .tup vs) (ht : ∀ ps, o ≠ .tbl ps := by intro ps z; cases z) : Rel S (c.withP (upd c.P p o)) h (upd H p o) := by
  have s := r.skip (o := o) hp
  refine ⟨s.sz, s.fz, fun n m e => ?_, s.nf, s.inj, fun b u e => ?_, fun b u e => ?_, fun n m e lv => ?_, fun b vs e => ?_, s.am, ⟨r.nt.1, upd_nt r.nt.2 ht⟩⟩
  · exact isO_P rfl (s.mu n m e)
  · have e : upd c.P p o b = some u := e
    by_cases hb : b = p
    · subst hb; rw [upd_same] at e; rw [upd_same]; exact e
    · rw [upd_ne hb] at e
      exact s.pr b u e
  · have e : upd c.P p o b = some u := e
    by_cases hb : b = p
    · subst hb; exact r.nonF hp
    · rw [upd_ne hb] at e
      exact r.pf b u e
  · show upd c.P p o (c.ι n) = none
    rw [upd_ne (r.neq hp e lv)]
    exact r.pm n m e lv
  · have e : upd c.P p o b = some (.tup vs) := e
    by_cases hb : b = p
    · subst hb; rw [upd_same] at e; exact ho _ (Option.some.inj e)
    · rw [upd_ne hb] at e; exact r.pt _ _ e
theorem Rel.neP (r : Rel S c h H) (hp : c.P p = some o) {n : Nat} {m : MO} (e : h[n]? = some m) (lv : m.live = true) : c.ι n ≠ p := fun z => by
  have := r.pm n m e lv
  rw [z, hp] at this
  cases this
/-- what is kept for others is changed by them -/
theorem Rel.updP (r : Rel S c h H) (hp : c.P p = some o) (hn : NoTb o) (ho : ∀ vs, o' ≠ .tup vs) (ht : ∀ ps, o' ≠ .tbl ps := by intro ps z; cases z) : Rel S (c.withP (upd c.P p o')) h (upd H p o') := by
  refine ⟨r.sz, fun b u e => ?_, fun n m e => ?_, r.nf, r.inj, fun b u e => ?_, fun b u e => ?_, fun n m e lv => ?_, fun b vs e => ?_, r.am.put (r.pr _ _ hp) hn, ⟨r.nt.1, upd_nt r.nt.2 ht⟩⟩
  · have hb : b ≠ p := fun z => by
      have e : c.F b = some u := e
      rw [z, r.pf p o hp] at e
      cases e
    rw [upd_ne hb]; exact r.fz b u e
  · cases lv : m.live with
    | true => exact isO_P (upd_ne (r.neP hp e lv)) (r.mu n m e)
    | false => cases m <;> first | trivial | cases lv
  · have e : upd c.P p o' b = some u := e
    by_cases hb : b = p
    · subst hb; rw [upd_same] at e; rw [upd_same]; exact e
    · rw [upd_ne hb] at e; rw [upd_ne hb]; exact r.pr b u e
  · have e : upd c.P p o' b = some u := e
    by_cases hb : b = p
    · subst hb; exact r.pf b o hp
    · rw [upd_ne hb] at e; exact r.pf b u e
  · show upd c.P p o' (c.ι n) = none
    rw [upd_ne (r.neP hp e lv)]
    exact r.pm n m e lv
  · have e : upd c.P p o' b = some (.tup vs) := e
    by_cases hb : b = p
    · subst hb; rw [upd_same] at e; exact ho _ (Option.some.inj e)
    · rw [upd_ne hb] at e; exact r.pt _ _ e
/-- what was kept is frozen now -/
theorem Rel.PtoF (r : Rel S c h H) {P0 : Hp} (hp : c.P = upd P0 p o) (h0 : P0 p = none) : Rel S ((c.withP P0).addF p o) h H := by
  have cp : c.P p = some o := by rw [hp, upd_same]
  have fp : c.F p = none := r.pf p o cp
  have x : Sub c ((c.withP P0).addF p o) := ⟨fun _ _ => rfl, fun b u e => by show upd c.F p o b = _; rw [upd_ne (ne_of_none e fp)]; exact e, Nat.le_refl _⟩
  refine ⟨r.sz, fun b u e => ?_, fun n m e => ?_, fun n m e lv => ?_, r.inj, fun b u e => ?_, fun b u e => ?_, fun n m e lv => ?_, fun b vs e => ?_, r.am, ⟨upd_nt r.nt.1 (fun ps z => r.nt.2 p ps (by rw [cp, z])), fun a ps z => r.nt.2 a ps (by have z : P0 a = some (.tbl ps) := z; rw [hp, upd_ne (fun e => (by rw [e, h0] at z; cases z))]; exact z)⟩⟩
  · have e : upd c.F p o b = some u := e
    by_cases hb : b = p
    · subst hb; rw [upd_same] at e; cases e; exact r.pr b o cp
    · rw [upd_ne hb] at e; exact r.fz b u e
  · have q := r.mu n m e
    cases m with
    | lst l => obtain ⟨vs, e, q⟩ := q; exact ⟨vs, e, q.monoS x⟩
    | dK ks l => obtain ⟨vs, z, e, q⟩ := q; exact ⟨vs, z, e, q.monoS x⟩
    | dT ks l => obtain ⟨vs, z, e, q⟩ := q; exact ⟨vs, z, e, q.monoS x⟩
    | ins t fs l => obtain ⟨dx, vs, z, e, q⟩ := q; exact ⟨dx, vs, z, e, q.monoS x⟩
    | dead => trivial
  · show upd c.F p o (c.ι n) = none
    rw [upd_ne (r.neP cp e lv)]
    exact r.nf n m e lv
  · have e : P0 b = some u := e
    exact r.pr b u (by rw [hp, upd_ne (ne_of_none e h0)]; exact e)
  · have e : P0 b = some u := e
    show upd c.F p o b = none
    rw [upd_ne (ne_of_none e h0)]
    exact r.pf b u (by rw [hp, upd_ne (ne_of_none e h0)]; exact e)
  · show P0 (c.ι n) = none
    have := r.pm n m e lv
    rw [hp, upd_ne (r.neP cp e lv)] at this
    exact this
  · have e : P0 b = some (.tup vs) := e
    exact r.pt b vs (by rw [hp, upd_ne (ne_of_none e h0)]; exact e)
/-- what was kept is an object of the small heap now -/
theorem Rel.PtoM (r : Rel S c h H) {P0 : Hp} {m : MO} (hp : c.P = upd P0 p o) (h0 : P0 p = none) (q : IsO S ((c.withP P0).addM p) H p m) : Rel S ((c.withP P0).addM p) (h ++ [m]) H := by
  have cp : c.P p = some o := by rw [hp, upd_same]
  have x : Sub c ((c.withP P0).addM p) := (subP c P0).trans (Ext.addM (c := c.withP P0)).sub
  have at_ : ((c.withP P0).addM p).ι h.length = p := by show (if h.length = c.n then p else c.ι h.length) = _; rw [if_pos r.sz.symm]
  have old : ∀ n, n < h.length → ((c.withP P0).addM p).ι n = c.ι n := fun n hn => x.ι n (by rw [r.sz]; exact hn)
  have cs : ∀ n u, (h ++ [m])[n]? = some u → (n < h.length ∧ h[n]? = some u) ∨ (n = h.length ∧ u = m) := fun n u e => by
    rcases Nat.lt_or_ge n h.length with hn | hn
    · rw [List.getElem?_append_left hn] at e
      exact .inl ⟨hn, e⟩
    · rw [List.getElem?_append_right hn] at e
      have hz : n - h.length = 0 := by
        rcases Nat.eq_zero_or_pos (n - h.length) with z | z
        · exact z
        · rw [List.getElem?_eq_none (by simp; omega)] at e; cases e
      rw [hz] at e
      exact .inr ⟨by omega, (Option.some.inj e).symm⟩
  refine ⟨by show c.n + 1 = _; rw [r.sz]; simp, r.fz, fun n u e => ?_, fun n u e lv => ?_, fun a b u v ea eb la lb z => ?_, fun b u e => ?_, fun b u e => ?_, fun n u e lv => ?_, fun b vs e => ?_, r.am, ⟨r.nt.1, fun a ps z => r.nt.2 a ps (by have z : P0 a = some (.tbl ps) := z; rw [hp, upd_ne (fun e => (by rw [e, h0] at z; cases z))]; exact z)⟩⟩
  · rcases cs n u e with ⟨hn, e'⟩ | ⟨rfl, rfl⟩
    · rw [old n hn]
      have q := r.mu n u e'
      cases u with
      | lst l => obtain ⟨vs, e, q⟩ := q; exact ⟨vs, e, q.monoS x⟩
      | dK ks l => obtain ⟨vs, z, e, q⟩ := q; exact ⟨vs, z, e, q.monoS x⟩
      | dT ks l => obtain ⟨vs, z, e, q⟩ := q; exact ⟨vs, z, e, q.monoS x⟩
      | ins t fs l => obtain ⟨dx, vs, z, e, q⟩ := q; exact ⟨dx, vs, z, e, q.monoS x⟩
      | dead => trivial
    · rw [at_]; exact q
  · rcases cs n u e with ⟨hn, e'⟩ | ⟨rfl, rfl⟩
    · rw [old n hn]; exact r.nf n u e' lv
    · rw [at_]; exact r.pf p o cp
  · rcases cs a u ea with ⟨ha, ea'⟩ | ⟨rfl, rfl⟩ <;> rcases cs b v eb with ⟨hb, eb'⟩ | ⟨rfl, rfl⟩
    · rw [old a ha, old b hb] at z
      exact r.inj a b u v ea' eb' la lb z
    · rw [old a ha, at_] at z
      exact absurd z (r.neP cp ea' la)
    · rw [old b hb, at_] at z
      exact absurd z.symm (r.neP cp eb' lb)
    · rfl
  · have e : P0 b = some u := e
    exact r.pr b u (by rw [hp, upd_ne (ne_of_none e h0)]; exact e)
  · have e : P0 b = some u := e
    exact r.pf b u (by rw [hp, upd_ne (ne_of_none e h0)]; exact e)
  · show P0 _ = none
    rcases cs n u e with ⟨hn, e'⟩ | ⟨rfl, rfl⟩
    · rw [old n hn]
      have := r.pm n u e' lv
      rw [hp, upd_ne (r.neP cp e' lv)] at this
      exact this
    · rw [at_]; exact h0
  · have e : P0 b = some (.tup vs) := e
    exact r.pt b vs (by rw [hp, upd_ne (ne_of_none e h0)]; exact e)
end

/-- the block's own slots forgotten -/
def wipeE (env : En) : List Nat → En
  | [] => env
  | v :: vs => (wipeE env vs).set v none
theorem wipe_ok {S : Sig} {c : C} {env : En} {σ : L2.St} (h : EnvOk S c env σ) : ∀ vs : List Nat, EnvOk S c (wipeE env vs) (wipe σ vs)
  | [] => h
  | v :: vs => by
    have ih := wipe_ok h vs
    refine ⟨by unfold wipeE wipe; rw [List.length_set, List.length_set]; exact ih.len, fun i w e => ?_⟩
    unfold wipeE at e
    unfold wipe
    by_cases hi : v = i
    · subst hi
      rw [List.getElem?_set] at e
      simp only [if_true] at e
      split at e <;> cases e
    · rw [List.getElem?_set_ne hi] at e ⊢
      exact ih.get i w e
theorem wipe_wipe {σ : L2.St} {vs : List Nat} : wipe (wipe σ vs) vs = wipe σ vs := by
  apply List.ext_getElem?
  intro j
  rw [wipe_get, wipe_get, wipe_length]
  by_cases hj : j ∈ vs
  · rw [if_pos hj, if_pos hj]
  · rw [if_neg hj, if_neg hj]
/-- the turns -/
def lcL (t : Tg) (tt : Ft) (fe : Fe) (env : En) : List W → Hm → R (List W)
  | [], h => .ok [] h
  | w :: ws, h => match bindT t w env with
    | none => .no
    | some env1 => match tt env1 h with
      | .ok true h1 => match fe env1 h1 with
        | .ok x h2 => match lcL t tt fe env ws h2 with
          | .ok xs h3 => .ok (x :: xs) h3
          | _ => .no
        | _ => .no
      | .ok false h1 => lcL t tt fe env ws h1
      | _ => .no
def vLc (mu : Bool) (own : List Nat) (t : Tg) (it : Fa) (tt : Ft) (fe : Fe) : Fe := fun env h => (it env h).bind fun ws h1 => match lcL t tt fe (wipeE env own) ws h1 with
  | .ok xs h2 => if xs.length ≤ sizeLine then (if mu = true then .ok (.r h2.length) (h2 ++ [.lst xs]) else match pures xs with
    | some ds => .ok (.d (.lst ds)) h2
    | none => .no) else .no
  | _ => .no
def xF : WX := fun _ _ _ _ => False
section
variable {X : Cx} {S : Sig} {k : Nat} {Wx : WX} {pos : Pos} {t : Tg} {tt : Ft} {fe : Fe} {it : Fa} {own : List Nat} {mu : Bool}
theorem tlc_of (hsl : ∀ i ∈ t.slots, i ∈ own) : ∀ σ H Q, TEof S Wx (vLc mu own t it tt fe) σ H Q → tLc (TIof S Wx it) (TGof S t) (TTof S xF tt) (TEof S xF fe) own σ H Q := fun σ H Q ⟨c, env, h, ev, r, q⟩ =>
  ⟨c, env, h, ev, r, q.bind.mono (Ext.refl c) (fun c1 ws h1 H1 x1 r1 q1 J ij => by
    intro D hD
    have ev1 := ev.up x1
    cases el : lcL t tt fe (wipeE env own) ws h1 with
    | no => rw [el] at q1; exact q1.elim
    | ex e h2 => rw [el] at q1; exact q1.elim
    | ok all hE =>
      rw [el] at q1
      have q1 : Aft S c1 (if all.length ≤ sizeLine then (if mu = true then .ok (.r hE.length) (hE ++ [.lst all]) else match pures all with
        | some ds => .ok (.d (.lst ds)) hE
        | none => .no) else .no) (fun c' w _ H' => ∀ v, IsW S c' w v → Q v H') (fun cls d H' => Wx cls d σ H') := q1
      split at q1
      case isFalse => exact q1.elim
      case isTrue hz =>
      have pD : c1.P D = none := by
        cases e : c1.P D with
        | none => rfl
        | some u => rw [r1.pr _ _ e] at hD; cases hD
      refine ⟨fun i m H => m = ws.length - i ∧ i ≤ ws.length ∧ ∃ (ci : C) (hi : Hm) (acc rest : List W) (vs : List V), Sub c1 ci ∧ ci.P = upd c1.P D (.lst vs) ∧ Rel S ci hi H ∧ IsWs S ci acc vs ∧ lcL t tt fe (wipeE env own) (ws.drop i) hi = .ok rest hE ∧ acc ++ rest = all,
        ⟨ws.length, rfl, Nat.zero_le _, c1.withP (upd c1.P D (.lst [])), h1, [], all, [], ⟨fun _ _ => rfl, fun _ _ e => e, Nat.le_refl _⟩, rfl, r1.newP hD (fun _ z => (by cases z)), rfl, el, rfl⟩, ?_⟩
      rintro i m H2 ⟨rfl, hi, ci, h2, acc, rest, vs, sb, eP, r2, ia, e2, ea⟩
      by_cases hlt : i < ws.length
      · have e0 : ws[i]? = some ws[i] := List.getElem?_eq_getElem hlt
        obtain ⟨g1, g2⟩ := ij.go i _ e0 ci h2 H2 sb r2
        refine .inr ⟨g1, fun H' => ws.length - (i + 1) = ws.length - (i + 1) ∧ i + 1 ≤ ws.length ∧ ∃ (ci : C) (hi : Hm) (acc rest : List W) (vs : List V), Sub c1 ci ∧ ci.P = upd c1.P D (.lst vs) ∧ Rel S ci hi H' ∧ IsWs S ci acc vs ∧ lcL t tt fe (wipeE env own) (ws.drop (i + 1)) hi = .ok rest hE ∧ acc ++ rest = all,
          fun H' p => ⟨ws.length - (i + 1), by omega, p⟩, fun x H3 y => ?_⟩
        obtain ⟨c3, x3, r3, i3⟩ := g2 x H3 y
        rw [List.drop_eq_getElem_cons hlt] at e2
        unfold lcL at e2
        cases eb : bindT t ws[i] (wipeE env own) with
        | none => rw [eb] at e2; cases e2
        | some env3 =>
          rw [eb] at e2
          have evw : EnvOk S c3 (wipeE env own) (wipe σ own) := wipe_ok ((ev1.upS sb).up x3) own
          refine ⟨c3, wipeE env own, ws[i], h2, evw, r3, i3, env3, eb, fun σ3 ev3 k3 => ⟨?_, c3, env3, h2, ev3, r3, ?_⟩⟩
          · rw [k3 own hsl, wipe_wipe]
          · simp only at e2
            cases et : tt env3 h2 with
            | no => rw [et] at e2; cases e2
            | ex e h => rw [et] at e2; cases e2
            | ok b h4 =>
              rw [et] at e2
              intro c4 H4 x4 r4
              have s4 : Sub c1 c4 := sb.trans (x3.sub.trans x4.sub)
              have eP4 : c4.P = upd c1.P D (.lst vs) := by rw [x4.P, x3.P, eP]
              cases b with
              | false => exact ⟨rfl, hlt, c4, h4, acc, rest, vs, s4, eP4, r4, (ia.mono x3).mono x4, e2, ea⟩
              | true =>
                refine ⟨c4, env3, h4, ev3.up x4, r4, ?_⟩
                simp only at e2
                cases ef : fe env3 h4 with
                | no => rw [ef] at e2; cases e2
                | ex e h => rw [ef] at e2; cases e2
                | ok w5 h5 =>
                  rw [ef] at e2
                  simp only at e2
                  intro c5 H5 x5 r5 v5 i5
                  cases er : lcL t tt fe (wipeE env own) (ws.drop (i + 1)) h5 with
                  | no => rw [er] at e2; cases e2
                  | ex e h => rw [er] at e2; cases e2
                  | ok xs h6 =>
                    rw [er] at e2
                    cases e2
                    have eP5 : c5.P = upd c1.P D (.lst vs) := by rw [x5.P, eP4]
                    have cD : c5.P D = some (.lst vs) := by rw [eP5, upd_same]
                    have la : acc.length + 1 ≤ all.length := by rw [← ea]; simp
                    have ia5 := ((ia.mono x3).mono x4).mono x5
                    refine ⟨vs, r5.pr _ _ cD, by rw [← ia5.length]; exact Nat.lt_of_lt_of_le (Nat.lt_of_succ_le la) hz, rfl, hlt, c5.withP (upd c5.P D (.lst (vs ++ [v5]))), h5, acc ++ [w5], xs, vs ++ [v5], ?_, ?_, r5.updP cD plain_lst (fun _ z => (by cases z)), ?_, er, by rw [← ea]; simp⟩
                    · exact s4.trans (x5.sub.trans (subP c5 _))
                    · show upd c5.P D _ = _
                      rw [eP5, upd_upd]
                    · exact IsWs.monoS (subP c5 _) (ia5.append (show IsWs S c5 [w5] [v5] from ⟨v5, [], rfl, i5, rfl⟩))
      · have e0 : i = ws.length := by omega
        subst e0
        refine .inl ⟨ij.stop _ (Nat.le_refl _) ci h2 H2 sb r2, ?_⟩
        rw [List.drop_length] at e2
        cases e2
        rw [List.append_nil] at ea
        subst ea
        split at q1
        · rename_i hm
          have e1 : Ext c1 ((ci.withP c1.P).addM D) := ⟨rfl, sb.trans ((subP ci c1.P).trans (Ext.addM (c := ci.withP c1.P)).sub)⟩
          have r6 := r2.PtoM (m := .lst acc) eP pD ⟨vs, r2.pr _ _ (by rw [eP, upd_same]), ia.monoS ((subP ci c1.P).trans (Ext.addM (c := ci.withP c1.P)).sub)⟩
          refine q1 _ H2 e1 r6 _ ⟨?_, ?_⟩
          · show hE.length < ci.n + 1
            rw [r2.sz]; exact Nat.lt_succ_self _
          · show V.ref D = .ref (if hE.length = ci.n then D else ci.ι hE.length)
            rw [if_pos r2.sz.symm]
        · split at q1
          · rename_i ds ed
            have r6 := r2.PtoF eP pD
            have s6 : Sub ci ((ci.withP c1.P).addF D (.lst vs)) := ⟨fun _ _ => rfl, fun b u e => by
              show upd ci.F D (.lst vs) b = some u
              rw [upd_ne (ne_of_none e (r2.pf _ _ (by rw [eP, upd_same])))]; exact e, Nat.le_refl _⟩
            refine q1 ((ci.withP c1.P).addF D (.lst vs)) H2 ⟨rfl, sb.trans s6⟩ r6 _ ?_
            show IsD S _ (.lst ds) _
            simp only [IsD]
            exact ⟨D, vs, rfl, upd_same, (pures_is ed ia).mono s6.F⟩
          · exact q1.elim) fun _ _ _ q => q⟩
end
end Mi

/-! Mi 17: dicts with tuple keys: copied, compared. -/
namespace Mi
open PySem L2 StX PySem.Spec PyProof.Rows

section
variable {prog : Program} {w : World} {K : Type} [DecidableEq K] {knd : HeapKind prog w K} {A : Around} {E : Value → Shared → Prop} {s : Shared}
/-- dict(d), the keys tuples -/
theorem dictH_copy {d : Addr} {es : List (K × Addr × Value)} {Q : Value → Shared → Prop} (hu : knd.room A.in1.in1) (big : (d == sysModules) = false) (at_ : s.heap.DictOfH knd d es) (few : es.length ≤ sizeLine) (tys : ∀ x ∈ es, s.TypeIs (.ref x.2.1) "tuple")
    (apart : (es.map fun x => knd.hash x.1).Nodup) (st : ∀ h', (∀ b o, s.heap.get? b = some o → h'.get? b = some o) → ∀ x ∈ es, knd.is h' x.1 x.2.1) (then_ : ∀ h', h'.DictOfH knd s.heap.objs.size es → Heap.SameBut s.heap.objs.size (s.heap.push { cls := .type "dict", data := .dict #[] }) h' → Q (.ref s.heap.objs.size) { s with heap := h' }) :
    wpAny (model prog w) A (call (.type "dict") [.ref d]) Q E s := by
  refine callType_codes (Q₁ := fun v s' => v = .ref s.heap.objs.size ∧ s' = { s with heap := s.heap.push { cls := .type "dict", data := .dict #[] } }) F.kt_called_dict (F.kt_typeCall_dict_1 _) F.entry_dict_init (kt_code_dict_new _ ⟨rfl, rfl⟩) fun v s' hv => ?_
  obtain ⟨rfl, rfl⟩ := hv
  have fresh : (s.heap.push { cls := .type "dict", data := .dict #[] }).DictOfH knd s.heap.objs.size [] := Heap.DictOfH.new s.heap
  have keep : ∀ b o, s.heap.get? b = some o → (s.heap.push { cls := .type "dict", data := .dict #[] }).get? b = some o := fun b o e => Heap.get?_push_of_some _ e
  have old : (s.heap.push { cls := .type "dict", data := .dict #[] }).DictOfH knd d es := at_.at' (fun o e => keep _ _ e) (st _ keep)
  have ne : s.heap.objs.size ≠ d := fun z => absurd at_.lt_size (by rw [z]; exact Nat.lt_irrefl _)
  have nd := at_.nodup
  refine ⟨fresh.typeIs, by exact F.args_dict_init_2 _ _, ?_⟩
  unfold Builtin.«dict.__init__»
  refine wpAny_bind (m := Builtin.Dict.selfAndRest _ _) ?_
  unfold Builtin.Dict.selfAndRest
  refine wpAny_bind (wpAny_notOrdered_dict fresh.typeIs (show wpAny _ _ (pure (s.heap.objs.size, [Value.ref d])) _ _ _ from wpAny_pure ?_))
  have up := updateFrom_dictH (prog := prog) (w := w) (A := A.in1) (s := { s with heap := s.heap.push { cls := .type "dict", data := .dict #[] } }) (knd := knd) (R := wants (fun r s₂ => r = Value.none ∧ Q (Value.ref s.heap.objs.size) s₂) E) (nm := "dict.__init__") (kvs := []) .none hu ne big fresh old
    (.inr ⟨fun x hx => by obtain ⟨o, e, c⟩ := tys x hx; exact ⟨o, keep _ _ e, c⟩, apart⟩) (by simpa using few) fun h' k1 k2 k3 => by
      rw [storedAllH_nil_of_nodup es nd] at k1
      exact ⟨rfl, then_ h' k1 k3⟩
  exact up
end

section
variable {X : Cx}
theorem kt_keys {H : Hp} {kvs : List (List Key × V)} {xs : List (List Key × Addr × Value)} (r : KT H kvs xs) : xs.map (·.1) = kvs.map (·.1) := by
  induction r with
  | nil => rfl
  | cons h t ih => rw [List.map_cons, List.map_cons, ih, h.1]
def hashT (P : Program) (w : World) (k : List Key) : Int := tupleKeyHash (mixKind P w) k
def rDictT (P : Program) (w : World) : List V → Hp → VK → Prop := fun xs H Q => ∃ (a : Addr) (kvs : List (List Key × V)), xs = [.ref a] ∧ Rd H a (.dT kvs) ∧ ((kvs.map (·.1)).map (hashT P w)).Nodup ∧ ∀ p, H p = none → Q (.ref p) (upd H p (.dT kvs))
theorem call_dictT (hu : X.A.units + 2 < cLine) : CallR X (.type "dict") (rDictT X.prog X.w) := by
  intro pins s σ H vs us Q I r q
  obtain ⟨a, kvs, rfl, hd, hn, q⟩ := q
  obtain ⟨u, rfl, rx⟩ := vals1 r
  cases rx
  obtain ⟨z, lo, xs, rel, dd⟩ := dt_rd I.hok hd
  have hl : xs.length = kvs.length := by have := congrArg List.length (kt_keys rel); simpa using this
  have ii : ∀ x ∈ xs, (tupleKind (mixKind X.prog X.w)).is s.heap x.1 x.2.1 := let ⟨_, _, _, _, _, _, _, k, _⟩ := dd; k
  have fr : H s.heap.objs.size = none := I.hok.fresh (Nat.le_refl _)
  refine dictH_copy (knd := tupleKind (mixKind X.prog X.w)) (by show X.A.units + 1 + 1 < cLine; omega) lo dd (by rw [hl]; exact z) (fun x hx => (PySem.tupleKind_stays (prog := X.prog) (w := X.w) (knd := mixKind X.prog X.w)).tuple (ii x hx)) ?_ (fun h' k x hx => (PySem.tupleKind_stays (prog := X.prog) (w := X.w) (knd := mixKind X.prog X.w)).stays (fun b o _ _ e _ => k b o e) (ii x hx)) fun h' d' sb => ?_
  · rw [show (xs.map fun x => (tupleKind (mixKind X.prog X.w)).hash x.1) = ((kvs.map (·.1)).map (hashT X.prog X.w)) by rw [← kt_keys rel, List.map_map]; rfl]
    exact hn
  · have big : (s.heap.objs.size == sysModules) = false := beq_eq_false_iff_ne.mpr (Nat.ne_of_gt I.big)
    obtain ⟨o, es, ep, g1, g2, g3, g4, _, g5⟩ := d'
    refine ⟨.ref s.heap.objs.size, upd H s.heap.objs.size (.dT kvs), I.laid (t' := s.toks) (fun b u e => (sb.2 b (Nat.ne_of_lt (Heap.lt_size e))).trans (Heap.get?_push_of_some _ e)) (Nat.le_refl _) ?_, rfl, q _ fr⟩
    exact ⟨z, big, xs, rel.keeps fun b ys e => by rw [upd_ne (ne_of_none e fr)]; exact e, o, es, ep, g1, g2, g3, g4, g5⟩
end

/-! ### == -/
section
variable {prog : Program} {w : World} {K : Type} [DecidableEq K] {knd : HeapKind prog w K} {A : Around} {E : Value → Shared → Prop} {s : Shared}
/-- the items of a, from one on, asked of b -/
inductive Ask (prog : Program) (w : World) (A : Around) (s : Shared) (kb : List (K × Addr × Value)) : List (K × Addr × Value) → Bool → Prop
  | nil : Ask prog w A s kb [] true
  | no {x : K × Addr × Value} {l : List (K × Addr × Value)} : (∀ (j : Nat) (p : Addr × Value), kb[j]? ≠ some (x.1, p)) → Ask prog w A s kb (x :: l) false
  | yes {x : K × Addr × Value} {l : List (K × Addr × Value)} {j : Nat} {p : Addr × Value} {e b : Bool} : kb[j]? = some (x.1, p) → SeqAt.EqP prog w A s x.2.2 p.2 e → Ask prog w A s kb l b → Ask prog w A s kb (x :: l) (e && b)
theorem idx_one {kb : List (K × Addr × Value)} (hn : (kb.map (·.1)).Nodup) {j i : Nat} {k : K} {p q : Addr × Value} (h1 : kb[j]? = some (k, p)) (h2 : kb[i]? = some (k, q)) : j = i ∧ p = q := by
  have z := idxH_unique hn h1 h2
  subst z
  rw [h1] at h2
  cases h2
  exact ⟨rfl, rfl⟩
theorem ask_pairs {nm : String} {a b : Addr} {ka kb : List (K × Addr × Value)} {r : Bool} {Q : Bool → Shared → Prop} (hu : knd.room A) (ha : (a == sysModules) = false) (hb : (b == sysModules) = false) (da : s.heap.DictOfH knd a ka) (db : s.heap.DictOfH knd b kb)
    (hits : ka.length = kb.length → Ask prog w A s kb ka r) (h : Q (ka.length == kb.length && r) s) : wpAny (model prog w) A (Builtin.Dict.samePairs nm a b) Q E s := by
  obtain ⟨o1, e1, p1, g1, _, d1, f1, i1, n1⟩ := da
  obtain ⟨o2, e2, p2, g2, _, d2, f2, i2, n2⟩ := db
  have z1 := size_of_entries f1
  have z2 := size_of_entries f2
  unfold Builtin.Dict.samePairs Builtin.Dict.showsAll
  rw [if_neg (show ¬ (a == sysModules) = true by simp [ha]), if_neg (show ¬ (b == sysModules) = true by simp [hb])]
  refine wpAny_bind (wpAny_pure (wpAny_bind (wpAny_pure (wpAny_bind (wpAny_dictEntries g1 d1 ?_)))))
  dsimp only
  refine wpAny_bind (wpAny_dictEntries g2 d2 ?_)
  by_cases sz : e1.size = e2.size
  · have hl : ka.length = kb.length := by rw [← z1, ← z2, sz]
    have hr : Q r s := by simpa [hl] using h
    rw [if_neg (show ¬ (e1.size != e2.size) = true by simp [sz])]
    refine wpAny_bind (wpAny_dictEpoch g1 d1 (wpAny_bind ?_))
    rw [Std.Legacy.Range.forIn_eq_forIn_range', show ([:e1.size] : Std.Legacy.Range).size = e1.size by simp [Std.Legacy.Range.size]]
    show wpAny _ _ (forIn (List.range' 0 e1.size 1) _ _) _ _ _
    refine wpAny_forIn_list _ (fun rest q s' => s' = s ∧ q = (none, ()) ∧ ∃ i, rest = List.range' i (e1.size - i) ∧ i ≤ e1.size ∧ Ask prog w A s kb (ka.drop i) r) _ ?_ ?_ _ _ ⟨rfl, rfl, 0, by simp, Nat.zero_le _, hits hl⟩
    · rintro x rest q s' ⟨rfl, rfl, i, er, li, ask⟩
      have lt : i < e1.size := Nat.lt_of_not_le fun z => by
        rw [Nat.sub_eq_zero_of_le z] at er
        cases er
      rw [show e1.size - i = (e1.size - (i + 1)) + 1 by omega, List.range'_succ] at er
      obtain ⟨rfl, rfl⟩ := List.cons.inj er
      have lt2 : x < ka.length := by omega
      obtain ⟨k, c, v, ek⟩ : ∃ k c v, ka[x] = (k, c, v) := ⟨_, _, _, rfl⟩
      have eg : e1[x]? = some (entryOfKey knd (k, c, v)) := by rw [entry_at f1 x, List.getElem?_eq_getElem lt2, ek]; rfl
      have ik : knd.is s'.heap k c := by
        have := i1 ka[x] (List.getElem_mem lt2)
        rw [ek] at this
        exact this
      rw [List.drop_eq_getElem_cons lt2, ek] at ask
      refine wpAny_bind (wpAny_dictEntries g1 d1 ?_)
      rw [eg]
      show wpAny _ _ (holding [Value.ref c, v] _ >>= _) _ _ _
      refine wpAny_bind (wpAny_holding (wpAny_bind ?_))
      refine wpAny_dictFind_heap hu ik g2 d2 f2 i2 n2 (fun hno => ?_) fun j p hj => ?_
      · cases ask with
        | no _ =>
          refine wpAny_pure ?_
          rw [if_pos (show (!false) = true from rfl)]
          exact wpAny_pure (wpAny_pure hr)
        | yes hj _ _ => exact absurd hj (hno _ _)
      · have eh : e2[j]? = some (entryOfKey knd (k, p)) := by rw [entry_at f2 j, hj]; rfl
        refine wpAny_bind (wpAny_dictEntries g2 d2 ?_)
        rw [eh]
        cases ask with
        | no hno => exact absurd hj (hno _ _)
        | @yes _ _ j' p' e bb hj' he rest =>
          obtain ⟨rfl, rfl⟩ := idx_one n2 hj hj'
          refine wpAny_holding (he _ _ ?_)
          cases e with
          | false =>
            rw [if_pos (show (!false) = true from rfl)]
            exact wpAny_pure (wpAny_pure hr)
          | true =>
            rw [if_neg (show ¬ (!true) = true by decide)]
            refine wpAny_bind (wpAny_dictEpoch g1 d1 ?_)
            rw [if_neg (show ¬ (p1 != p1) = true by simp)]
            exact wpAny_pure ⟨rfl, rfl, x + 1, rfl, lt, by simpa using rest⟩
    · rintro q s' ⟨rfl, rfl, i, er, li, ask⟩
      have e0 : i = e1.size := Nat.le_antisymm li (Nat.le_of_sub_eq_zero (by have := congrArg List.length er; simpa using this.symm))
      rw [e0, z1, List.drop_length] at ask
      cases ask
      exact wpAny_pure hr
  · rw [if_pos (show (e1.size != e2.size) = true by simp [sz])]
    have hf : (ka.length == kb.length) = false := by rw [← z1, ← z2]; simpa using sz
    rw [hf] at h
    exact wpAny_bind (wpAny_rule (wpAny_pure h))
end

section
variable {prog : Program} {w : World} {K : Type} [DecidableEq K] {knd : HeapKind prog w K} {A : Around} {s : Shared}
theorem dictH_cmp (neg : Bool) {a b : Addr} {ka kb : List (K × Addr × Value)} {r : Bool} (hr : knd.room A.in1) (hu : A.units < cLine) (ha : (a == sysModules) = false) (hb : (b == sysModules) = false) (da : s.heap.DictOfH knd a ka) (db : s.heap.DictOfH knd b kb)
    (hits : ka.length = kb.length → Ask prog w A.in1 s kb ka r) (E Q : Value → Shared → Prop) (h : Q (.bool (if neg = true then !(ka.length == kb.length && r) else (ka.length == kb.length && r))) s) :
    wpAny (model prog w) A (richCompare (if neg = true then .NotEq else .Eq) (.ref a) (.ref b)) Q E s := by
  cases neg with
  | false =>
    refine wpAny_richCompare_same_room (op := CmpOp.Eq) da.typeIs db.typeIs F.slot_dict_eq (wpAny_call_entry F.slot_dict_eq da.typeIs F.entry_dict_eq ?_ (F.args_dict_eq_2 _ _)) hu
    refine wpAny_bind (m := Builtin.Dict.dictSlotArgs _ _) ?_
    unfold Builtin.Dict.dictSlotArgs
    refine wpAny_bind (wpAny_notOrdered_dict da.typeIs (show wpAny _ _ (pure (Value.ref a, Value.ref b)) _ _ s from wpAny_pure (wpAny_bind (wpAny_isInstance (T := "dict") db.typeIs F.sub_dict_dict ?_))))
    rw [if_neg (show ¬ (!true) = true by decide)]
    refine wpAny_bind (wpAny_pure (wpAny_bind (wpAny_pure (wpAny_bind (ask_pairs hr ha hb da db hits ?_)))))
    exact wpAny_pure ⟨_, rfl, fun z => (nomatch z), by simpa using h⟩
  | true =>
    refine wpAny_richCompare_same_room (op := CmpOp.NotEq) da.typeIs db.typeIs F.slot_dict_ne (wpAny_call_entry F.slot_dict_ne da.typeIs F.entry_dict_ne ?_ (F.args_dict_ne_2 _ _)) hu
    refine wpAny_bind (m := Builtin.Dict.dictSlotArgs _ _) ?_
    unfold Builtin.Dict.dictSlotArgs
    refine wpAny_bind (wpAny_notOrdered_dict da.typeIs (show wpAny _ _ (pure (Value.ref a, Value.ref b)) _ _ s from wpAny_pure (wpAny_bind (wpAny_isInstance (T := "dict") db.typeIs F.sub_dict_dict ?_))))
    rw [if_neg (show ¬ (!true) = true by decide)]
    refine wpAny_bind (wpAny_pure (wpAny_bind (wpAny_pure (wpAny_bind (ask_pairs hr ha hb da db hits ?_)))))
    exact wpAny_pure ⟨_, rfl, fun z => (nomatch z), by simpa using h⟩
end
/-- the same keys, the values equal -/
def askD {κ : Type} [DecidableEq κ] (kl : List κ) (dl : List PyData) : List κ → List PyData → Bool
  | k :: ks, d :: ds => match lookK kl dl k with
    | some e => PyData.eqv d e && askD kl dl ks ds
    | none => false
  | _, _ => true
section
variable {X : Cx} {pins : List (Addr × Obj)} {σ : L2.St} {H : Hp} {s : Shared}
theorem lookT {ls : List (List Key × V)} {ys : List (List Key × Addr × Value)} (r : KT H ls ys) : ∀ {dl : List PyData}, DpAll X.K H (ls.map (·.2)) dl → ∀ k, (lookK (ls.map (·.1)) dl k = none → ∀ (j : Nat) (p : Addr × Value), ys[j]? ≠ some (k, p)) ∧
    ∀ e, lookK (ls.map (·.1)) dl k = some e → e ∈ dl ∧ ∃ (j : Nat) (p : Addr × Value) (v : V), ys[j]? = some (k, p) ∧ Dp X.K H v e ∧ RelV v p.2 := by
  induction r with
  | nil => exact fun _ k => ⟨fun _ j p z => by simp at z, fun e z => by cases z⟩
  | @cons p q ps qs h t ih =>
    intro dl ad k
    rw [List.map_cons] at ad
    cases ad with
    | @cons _ _ d ds h1 h2 =>
      obtain ⟨i1, i2⟩ := ih h2 k
      obtain ⟨g1, g2, g3⟩ := h
      obtain ⟨qk, qa, qv⟩ := q
      have g1 : p.1 = qk := g1
      rw [List.map_cons]
      show ((if p.1 = k then some d else lookK (ps.map (·.1)) ds k) = none → _) ∧ ∀ e, (if p.1 = k then some d else lookK (ps.map (·.1)) ds k) = some e → _
      by_cases hk : p.1 = k
      · rw [if_pos hk]
        refine ⟨fun z => (by cases z), fun e z => ?_⟩
        cases z
        exact ⟨List.mem_cons_self, 0, (qa, qv), p.2, by rw [← hk, g1]; rfl, h1, g3⟩
      · rw [if_neg hk]
        refine ⟨fun z j p' e => ?_, fun e z => ?_⟩
        · cases j with
          | zero => exact hk (by have e : some (qk, qa, qv) = some (k, p') := e; cases e; exact g1)
          | succ j => exact i1 z j p' (by simpa using e)
        · obtain ⟨m, j, p', v, e1, e2, e3⟩ := i2 e z
          exact ⟨List.mem_cons_of_mem _ m, j + 1, p', v, by simpa using e1, e2, e3⟩
theorem ask_of (I : Inv X pins σ H s) {A : Around} (hu : A.in1.units + 64 < cLine) {ls : List (List Key × V)} {ys : List (List Key × Addr × Value)} (rl : KT H ls ys) {dl : List PyData} (al : DpAll X.K H (ls.map (·.2)) dl) (sl : dl.all SeqAt.shaped = true)
    {ks : List (List Key × V)} {xs : List (List Key × Addr × Value)} (rk : KT H ks xs) : ∀ {dk : List PyData}, DpAll X.K H (ks.map (·.2)) dk → dk.all SeqAt.shaped = true → Ask X.prog X.w A.in1 s ys xs (askD (ls.map (·.1)) dl (ks.map (·.1)) dk) := by
  induction rk with
  | nil => exact fun _ _ => .nil
  | @cons p q ps qs h t ih =>
    intro dk ad sd
    rw [List.map_cons] at ad
    cases ad with
    | @cons _ _ d ds h1 h2 =>
      rw [List.all_cons, Bool.and_eq_true] at sd
      obtain ⟨g1, g2, g3⟩ := h
      obtain ⟨l1, l2⟩ := lookT rl al p.1
      rw [List.map_cons]
      show Ask _ _ _ _ _ _ (match lookK (ls.map (·.1)) dl p.1 with
        | some e => PyData.eqv d e && askD (ls.map (·.1)) dl (ps.map (·.1)) ds
        | none => false)
      cases e : lookK (ls.map (·.1)) dl p.1 with
      | none => exact .no fun j p' => by rw [← g1]; exact l1 e j p'
      | some e' =>
        obtain ⟨m, j, p', v, e1, e2, e3⟩ := l2 e' e
        obtain ⟨as, r1⟩ := Dp.reads I d p.2 q.2.2 h1 g3
        obtain ⟨bs, r2⟩ := Dp.reads I e' v p'.2 e2 e3
        exact .yes (by rw [← g1]; exact e1) (PySem.W.keq_at r1 r2 sd.1 (List.all_eq_true.mp sl _ m) hu).eqP (ih h2 sd.2)
end
def rCmpT (neg : Bool) (K : PySem.W.Frag) : R2 := fun x y H Q => ∃ a b ks ls dk dl, x = .ref a ∧ y = .ref b ∧ Rd H a (.dT ks) ∧ Rd H b (.dT ls) ∧ DpAll K H (ks.map (·.2)) dk ∧ DpAll K H (ls.map (·.2)) dl ∧ dk.all SeqAt.shaped = true ∧ dl.all SeqAt.shaped = true ∧
  Q (.bl (if neg = true then !(ks.length == ls.length && askD (ls.map (·.1)) dl (ks.map (·.1)) dk) else (ks.length == ls.length && askD (ls.map (·.1)) dl (ks.map (·.1)) dk))) H
theorem op_cmpT {X : Cx} (neg : Bool) (hu : X.A.units + 66 < cLine) : OpR X (compareOp (if neg = true then .NotEq else .Eq)) (rCmpT neg X.K) := by
  intro pins s σ H x y v u Q I rx ry h
  obtain ⟨a, b, ks, ls, dk, dl, rfl, rfl, ea, eb, ad, al, sd, sl, q⟩ := h
  obtain rfl : v = Value.ref a := rx
  obtain rfl : u = Value.ref b := ry
  obtain ⟨z1, lo1, xs, rk, d1⟩ := dt_rd I.hok ea
  obtain ⟨z2, lo2, ys, rl, d2⟩ := dt_rd I.hok eb
  have l1 : xs.length = ks.length := by have := congrArg List.length (kt_keys rk); simpa using this
  have l2 : ys.length = ls.length := by have := congrArg List.length (kt_keys rl); simpa using this
  have run := dictH_cmp (A := X.A) (prog := X.prog) (w := X.w) neg (knd := tupleKind (mixKind X.prog X.w)) (by show X.A.units + 1 < cLine; omega) (by omega) lo1 lo2 d1 d2 (fun _ => ask_of I (A := X.A) (by show X.A.units + 1 + 64 < cLine; omega) rl al sl rk ad sd) X.xe (EP X pins σ Q) ⟨.bl _, H, I, rfl, by rw [l1, l2]; exact q⟩
  cases neg
  · exact run
  · exact run
end Mi

/-! Mi 18: for k, v in d.items(), the keys tuples. -/
namespace Mi
open PySem L2 StX PySem.Spec PyProof.Rows

section
variable {X : Cx} {pins : List (Addr × Obj)} {σ : L2.St} {H : Hp} {s : Shared} {d : Addr} {o : Obj}
theorem frz_items {kvs : List (List Key × V)} (I : Inv X pins σ H s) (h : H d = some (.frz o (.dT kvs))) : (d == sysModules) = false ∧ ∃ (es : Array DictEntry) (ep : Nat), o.data = .dict es ep ∧ DT.Raw s.heap d es ep ∧ es.size = kvs.length ∧
    ∀ (i : Nat) (k : List Key) (v : V), kvs[i]? = some (k, v) → ∃ (en : DictEntry) (q : Addr), es[i]? = some en ∧ en.key = .ref q ∧ H q = some (.tup (k.map kV)) ∧ RelV v en.val := by
  obtain ⟨g0, _, g1, xs, pr, o', es, ep, g2, g3, g4, g5, _⟩ := I.hok d _ h
  rw [g0] at g2
  obtain rfl := Option.some.inj g2
  have l1 : es.size = xs.length := size_of_entries g5
  have l2 := Paired.length pr
  refine ⟨g1, es, ep, g4, ⟨o, g0, g3, g4⟩, by omega, fun i k v e => ?_⟩
  obtain ⟨y, e1, _, e3, e4⟩ := paired_get pr e
  exact ⟨entryOfKey _ y, y.2.1, by rw [entry_at g5, e1]; rfl, rfl, e3, e4⟩
end

/-- the pairs, each a new tuple of the key's own tuple and the value -/
def Itp (d : Addr) (o : Obj) (kvs : List (List Key × V)) : It where
  go := fun i H => H d = some (.frz o (.dT kvs)) ∧ i < kvs.length
  yld := fun i H x H' => ∃ T k v q, kvs[i]? = some (k, v) ∧ x = .ref T ∧ H T = none ∧ H q = some (.tup (k.map kV)) ∧ H' = upd H T (.tup [.ref q, v])
  stop := fun i H => H d = some (.frz o (.dT kvs)) ∧ kvs.length ≤ i
theorem turn_pairs {P : Program} {w : World} {K : PySem.W.Frag} {d : Addr} {o : Obj} {es : Array DictEntry} {ep : Nat} {kvs : List (List Key × V)} {elts : List Expr} {kk : Nat} {tpos : Pos} (it : Addr) (hod : o.data = .dict es ep) :
    Turn P w K (.Tuple elts kk tpos) (Itp d o kvs) [it] it (fun i h => ∃ ok ov, IsItemIter h it d i es.size ep ok ov) where
  mem := List.mem_singleton.mpr rfl
  obj := fun i h ⟨ok, ov, e⟩ b hb => by
    obtain rfl := List.mem_singleton.mp hb
    exact ⟨_, e, fun v z => (nomatch z)⟩
  keep := fun i h h' ⟨ok, ov, e⟩ k => ⟨ok, ov, k it (List.mem_singleton.mpr rfl) _ e⟩
  item := by
    intro X hP hw hK hc i pins s σ H E I hf ⟨ok, ov, he⟩ ⟨hd, hi⟩
    subst hP hw hK
    obtain ⟨_, es', ep', g1, g2, g3, g4⟩ := frz_items I hd
    rw [hod] at g1
    cases g1
    obtain ⟨⟨k, v⟩, ek⟩ : ∃ p, kvs[i]? = some p := ⟨_, List.getElem?_eq_getElem hi⟩
    obtain ⟨en, q, e1, e2, e3, e4⟩ := g4 i k v ek
    obtain ⟨lt, e1⟩ := List.getElem?_eq_some_iff.mp ((Array.getElem?_toList ..).trans e1)
    have lt : i < es.size := by simpa using lt
    have e1 : es[i] = en := by simpa using e1
    have old : it < s.heap.objs.size := Heap.lt_size he
    have fr : H s.heap.objs.size = none := I.hok.fresh (Nat.le_refl _)
    refine DT.nextI he g2 lt fun h1 ho hT _ hk => ⟨_, rfl, wpAny_letOwnedTupleGo_items (s := { s with heap := h1 }) ho fun h2 he2 sb => ?_⟩
    rw [e1, e2] at hT
    have tup : ObjOk X.prog X.w (upd H s.heap.objs.size (.tup [.ref q, v])) h2 s.heap.objs.size (.tup [.ref q, v]) :=
      ⟨by show 2 ≤ sizeLine; decide, [.ref q, en.val], .cons rfl (.cons e4 .nil), ⟨_, (sb.2 _ (Nat.ne_of_gt old)).trans hT, rfl, _, rfl⟩⟩
    have I2 : Inv X pins σ (upd H s.heap.objs.size (.tup [.ref q, v])) { s with heap := h2 } :=
      I.turnedNew (t' := s.toks) (ch := [it]) (fun b ob hb e => (sb.2 b fun z => hb (List.mem_singleton.mpr z)).trans (hk b ob (fun z => hb (List.mem_singleton.mpr z)) e)) hf (Nat.le_refl _) tup
    refine ⟨.ref s.heap.objs.size, _, I2, rfl, ⟨_, k, v, q, ek, rfl, fr, e3, rfl⟩, ⟨_, _, he2⟩, fun b hb => ?_⟩
    obtain rfl := List.mem_singleton.mp hb
    rw [upd_ne (Nat.ne_of_lt old)]
    exact (hf b hb).1
  done := by
    intro X hP hw hK hc i pins s σ H E I hf ⟨ok, ov, he⟩ ⟨hd, hi⟩
    subst hP hw hK
    obtain ⟨f0, f1, f2, f3, f4, f5⟩ := hf it (List.mem_singleton.mpr rfl)
    obtain ⟨_, es', ep', g1, g2, g3, _⟩ := frz_items I hd
    rw [hod] at g1
    cases g1
    exact DT.endI (I.ok.hd hc) he g2 (by omega) fun h1 eb => ⟨rfl, I.turned (t' := s.toks) (fun b ob hb e => eb b ob hb e) f0 f1 f3 f4 f5⟩
  self := fun A i s Q E ⟨_, _, e⟩ h => PySem.W.kcp_self e h
def iPairs (td : TE) : TI := fun σ H R => td σ H fun x H1 => ∃ d o kvs, x = .ref d ∧ H1 d = some (.frz o (.dT kvs)) ∧ R (Itp d o kvs) H1
theorem pi_pairs {X : Cx} {e : Expr} {td : TE} {apos cpos : Pos} {elts : List Expr} {kk : Nat} {tpos : Pos} (he : PE X e td) (hb : attributeBase e "items" X.env (eval e X.env) = eval e X.env) (hl : (apos.endLine == cpos.line) = true) : PI X (.Tuple elts kk tpos) (.Call (.Attribute e "items" apos) [] [] cpos) (iPairs td) := by
  refine ⟨fun pins s σ H R I h => ?_⟩
  refine wpAny_Call_method (T := "dict") (id := "dict.items") hb rfl hl F.plainAttrs_dict F.slot_dict_items F.type_dict_items (thn (he.run pins s σ H _ I h) fun u s1 ⟨x, H1, I1, rx, d, o, kvs, ex, hd, q⟩ => ?_)
  subst ex
  obtain rfl : u = Value.ref d := rx
  obtain ⟨lo, es, ep, g1, g2, g3, _⟩ := frz_items I1 hd
  have no : ∀ b, Value.ref d = .ref b → ∃ ob, s1.heap.get? b = some ob ∧ ob.dict = none := fun b z => by
    cases z
    obtain ⟨oo, h1, h2, _⟩ := g2
    exact ⟨oo, h1, h2.2.1⟩
  refine ⟨g2.typeIs, no, ?_⟩
  refine method_meetsIn F.slot_dict_items F.entry_dict_items rfl (PySem.evalArgs_none ⟨rfl, g2.typeIs, F.args_dict_items_1 _, _, DT.meetsItems (es := es) (ep := ep) lo, g2, ?_⟩)
  have I2 : Inv X pins σ H1 { s1 with heap := s1.heap.push { cls := .type "dict_items", data := .fields #[.ref d] } } := I1.kept (t' := s1.toks) fun b ob q => Heap.get?_push_of_some _ q
  refine DT.iterI (d := d) (es := es) (ep := ep) ⟨_, Heap.get?_push_size _ rfl, rfl, rfl⟩ (g2.push _) (pi_one (tk := s1.toks) I2 _ (turn_pairs _ g1) ⟨.none, .none, ?_⟩ q)
  exact Heap.get?_push_size _ rfl
end Mi

/-! Ma 3: an object of the small heap becomes a tree. -/
namespace Mi
open PySem L2

def frzO : MO → Option D
  | .lst l => (pures l).map D.lst
  | .dK ks l => (pures l).map (D.dK ks)
  | .dT ks l => (pures l).map (D.dT ks)
  | .ins c fs l => (pures l).map (D.ins c fs)
  | .dead => none
def frzAt (h : Hm) (n : Nat) : Option (D × Hm) := match h[n]? with
  | some m => (frzO m).map fun d => (d, h.set n .dead)
  | none => none
section
variable {S : Sig} {c : C} {h : Hm} {H H' : Hp}
/-- a live object leaves the small heap for the frozen part -/
theorem Rel.leave (r : Rel S c h H) {n : Nat} {m : MO} {o : HO} (e : h[n]? = Option.some m) (lv : m.live = true) (k : ∀ b, b ≠ c.ι n → H' b = H b) (ko : H' (c.ι n) = Option.some o) (ho : ∀ ps, o ≠ .tbl ps := by intro ps z; cases z) : Ext c (c.addF (c.ι n) o) ∧ Rel S (c.addF (c.ι n) o) (h.set n .dead) H' := by
  have x : Ext c (c.addF (c.ι n) o) := Ext.addF (r.nf n m e lv)
  have hn : n < h.length := (List.getElem?_eq_some_iff.mp e).1
  have cs : ∀ (j : Nat) (u : MO), (h.set n MO.dead)[j]? = Option.some u → u.live = true → j ≠ n ∧ h[j]? = Option.some u := fun j u q l => by
    by_cases hj : n = j
    · subst hj
      rw [List.getElem?_set_self hn] at q
      cases q
      cases l
    · rw [List.getElem?_set_ne hj] at q
      exact ⟨fun z => hj z.symm, q⟩
  have ne : ∀ (j : Nat) (u : MO), j ≠ n → h[j]? = Option.some u → u.live = true → c.ι j ≠ c.ι n := fun j u hj q l z => hj (r.inj j n u m q e l lv z)
  refine ⟨x, by rw [List.length_set]; exact r.sz, fun b u q => ?_, fun j u q => ?_, fun j u q l => ?_, fun i j u v qi qj li lj z => ?_, fun b u q => ?_, fun b u q => ?_, fun j u q l => ?_, r.pt, r.am.keep fun b u q hq => (by
    by_cases hb : b = c.ι n
    · obtain ⟨w, e1, e2⟩ := (r.mu n m e).plain lv
      rw [hb, e1] at q
      cases q
      exact (hq e2).elim
    · rw [k b hb]; exact q), ⟨upd_nt r.nt.1 ho, r.nt.2⟩⟩
  · have q : upd c.F (c.ι n) o b = Option.some u := q
    by_cases hb : b = c.ι n
    · subst hb
      rw [upd_same] at q
      rw [ko]; exact q
    · rw [upd_ne hb] at q
      rw [k b hb]; exact r.fz b u q
  · cases l : u.live with
    | false => cases u <;> first | trivial | cases l
    | true =>
      obtain ⟨hj, q⟩ := cs j u q l
      exact (r.mu j u q).up x (k _ (ne j u hj q l))
  · obtain ⟨hj, q⟩ := cs j u q l
    show upd c.F (c.ι n) o (c.ι j) = Option.none
    rw [upd_ne (ne j u hj q l)]
    exact r.nf j u q l
  · exact r.inj i j u v (cs i u qi li).2 (cs j v qj lj).2 li lj z
  · have q : c.P b = Option.some u := q
    rw [k b fun z => by have := r.pm n m e lv; rw [← z, q] at this; cases this]
    exact r.pr b u q
  · have q : c.P b = Option.some u := q
    show upd c.F (c.ι n) o b = Option.none
    rw [upd_ne fun z => by have := r.pm n m e lv; rw [← z, q] at this; cases this]
    exact r.pf b u q
  · obtain ⟨hj, q⟩ := cs j u q l
    exact r.pm j u q l
theorem frz_ok {X : Cx} {pins : List (Addr × Obj)} {σ : L2.St} {s : Shared} (I : Inv X pins σ H s) (r : Rel S c h H) {n : Nat} {d : D} {h' : Hm} (e : frzAt h n = Option.some (d, h')) :
    ∃ c' H', Inv X pins σ H' s ∧ Ext c c' ∧ Rel S c' h' H' ∧ IsD S c'.F d (.ref (c.ι n)) ∧ ∀ a, a ≠ c.ι n → H' a = H a := by
  unfold frzAt at e
  split at e
  · rename_i m em
    cases ef : frzO m with
    | none => rw [ef] at e; cases e
    | some d0 =>
      rw [ef] at e
      cases e
      have q := r.mu n m em
      have lockD : ∀ u : HO, H (c.ι n) = Option.some u → Mut (Option.some u) → m.live = true → ∃ od c', c' = c.addF (c.ι n) (.frz od u) ∧ Inv X pins σ (upd H (c.ι n) (.frz od u)) s ∧ Ext c c' ∧ Rel S c' (h.set n .dead) (upd H (c.ι n) (.frz od u)) := fun u hu mu lv => by
        obtain ⟨od, I1⟩ := I.lock hu mu
        obtain ⟨x, r1⟩ := r.leave (H' := upd H (c.ι n) (.frz od u)) em lv (fun b hb => upd_ne hb) upd_same
        exact ⟨od, _, rfl, I1, x, r1⟩
      cases m with
      | dead => cases ef
      | lst l =>
        cases ep : pures l with
        | none => rw [show frzO (.lst l) = (pures l).map D.lst from rfl, ep] at ef; cases ef
        | some ds =>
          rw [show frzO (.lst l) = (pures l).map D.lst from rfl, ep] at ef
          cases ef
          obtain ⟨vs, e1, e2⟩ := q
          obtain ⟨x, r1⟩ := r.leave em rfl (fun b hb => rfl) e1
          refine ⟨_, H, I, x, r1, ?_, fun _ _ => rfl⟩
          simp only [IsD]
          exact ⟨_, vs, rfl, upd_same, (pures_is ep e2).mono x.F⟩
      | ins cc fs l =>
        cases ep : pures l with
        | none => rw [show frzO (.ins cc fs l) = (pures l).map (D.ins cc fs) from rfl, ep] at ef; cases ef
        | some ds =>
          rw [show frzO (.ins cc fs l) = (pures l).map (D.ins cc fs) from rfl, ep] at ef
          cases ef
          obtain ⟨dx, vs, e0, e1, e2⟩ := q
          obtain ⟨x, r1⟩ := r.leave em rfl (fun b hb => rfl) e1
          refine ⟨_, H, I, x, r1, ?_, fun _ _ => rfl⟩
          simp only [IsD]
          exact ⟨_, dx, vs, rfl, e0, upd_same, (pures_is ep e2).mono x.F⟩
      | dK ks l =>
        cases ep : pures l with
        | none => rw [show frzO (.dK ks l) = (pures l).map (D.dK ks) from rfl, ep] at ef; cases ef
        | some ds =>
          rw [show frzO (.dK ks l) = (pures l).map (D.dK ks) from rfl, ep] at ef
          cases ef
          obtain ⟨vs, e0, e1, e2⟩ := q
          obtain ⟨od, c', rfl, I1, x, r1⟩ := lockD _ e1 True.intro rfl
          refine ⟨_, _, I1, x, r1, ?_, fun a ha => upd_ne ha⟩
          simp only [IsD]
          exact ⟨_, od, vs, rfl, e0, upd_same, (pures_is ep e2).mono x.F⟩
      | dT ks l =>
        cases ep : pures l with
        | none => rw [show frzO (.dT ks l) = (pures l).map (D.dT ks) from rfl, ep] at ef; cases ef
        | some ds =>
          rw [show frzO (.dT ks l) = (pures l).map (D.dT ks) from rfl, ep] at ef
          cases ef
          obtain ⟨vs, e0, e1, e2⟩ := q
          obtain ⟨od, c', rfl, I1, x, r1⟩ := lockD _ e1 True.intro rfl
          refine ⟨_, _, I1, x, r1, ?_, fun a ha => upd_ne ha⟩
          simp only [IsD]
          exact ⟨_, od, vs, rfl, e0, upd_same, (pures_is ep e2).mono x.F⟩
  · cases e
/-- an object told otherwise -/
theorem Rel.same (r : Rel S c h H) {n : Nat} {m m' : MO} (e : h[n]? = Option.some m) (lv : m.live = true) (q : IsO S c H (c.ι n) m') : Rel S c (h.set n m') H := by
  have hn : n < h.length := (List.getElem?_eq_some_iff.mp e).1
  have cs : ∀ (j : Nat) (u : MO), (h.set n m')[j]? = Option.some u → (j = n ∧ u = m') ∨ h[j]? = Option.some u := fun j u q => by
    by_cases hj : n = j
    · subst hj
      rw [List.getElem?_set_self hn] at q
      exact .inl ⟨rfl, (Option.some.inj q).symm⟩
    · rw [List.getElem?_set_ne hj] at q
      exact .inr q
  have old : ∀ (j : Nat) (u : MO), (h.set n m')[j]? = Option.some u → u.live = true → ∃ u', h[j]? = Option.some u' ∧ u'.live = true := fun j u q l => by
    rcases cs j u q with ⟨rfl, rfl⟩ | q
    · exact ⟨m, e, lv⟩
    · exact ⟨u, q, l⟩
  refine ⟨by rw [List.length_set]; exact r.sz, r.fz, fun j u q' => ?_, fun j u q' l => ?_, fun i j u v qi qj li lj z => ?_, r.pr, r.pf, fun j u q' l => ?_, r.pt, r.am, r.nt⟩
  · rcases cs j u q' with ⟨rfl, rfl⟩ | q'
    · exact q
    · exact r.mu j u q'
  · obtain ⟨u', q1, l1⟩ := old j u q' l
    exact r.nf j u' q1 l1
  · obtain ⟨u', q1, l1⟩ := old i u qi li
    obtain ⟨v', q2, l2⟩ := old j v qj lj
    exact r.inj i j u' v' q1 q2 l1 l2 z
  · obtain ⟨u', q1, l1⟩ := old j u q' l
    exact r.pm j u' q1 l1
end
/-- the slot's object as a tree -/
def sFrz (i : Nat) : Fs := fun env h => match env[i]? with
  | some (some (.r n)) => match frzAt h n with
    | some (d, h') => .ok (.nx, env.set i (some (.d d))) h'
    | none => .no
  | _ => .no
/-- the object in a field of the slot's object as a tree -/
def sFrzF (i f : Nat) : Fs := fun env h => match env[i]? with
  | some (some (.r m)) => match h[m]? with
    | some (.ins c fs ws) => match getF fs ws f with
      | some (.r n) => match frzAt h n with
        | some (d, h') => match h'[m]? with
          | some (.ins c fs ws) => .ok (.nx, env) (h'.set m (.ins c fs (setF fs ws f (.d d)).2))
          | _ => .no
        | none => .no
      | _ => .no
    | _ => .no
  | _ => .no
section
variable {X : Cx} {S : Sig} {Wx : WX} {f g : Fs}
/-- what is known of a step without text -/
def Ghost (S : Sig) (f : Fs) : Prop := ∀ (X : Cx) (pins : List (Addr × Obj)) (σ : L2.St) (s : Shared) (H : Hp) (c : C) (env : En) (h : Hm) (p : Fl × En) (h' : Hm), Inv X pins σ H s → EnvOk S c env σ → Rel S c h H → f env h = .ok p h' → p.1 = .nx ∧ ∃ c' H', Inv X pins σ H' s ∧ Ext c c' ∧ EnvOk S c' p.2 σ ∧ Rel S c' h' H'
theorem mss_ghost {ss : List Stmt} (hn : ∀ env h e h', f env h ≠ .ex e h') (hf : Ghost S f) (hg : PSs X ss (TSof S Wx g)) : PSs X ss (TSof S Wx (sSeq f g)) := by
  refine ⟨fun pins s σ H D I ⟨c, env, h, ev, r, q⟩ => ?_⟩
  cases e : f env h with
  | no => rw [show sSeq f g env h = (f env h).bind _ from rfl, e] at q; exact q.elim
  | ex e' h' => exact absurd e (hn _ _ _ _)
  | ok p h' =>
    rw [show sSeq f g env h = (f env h).bind _ from rfl, e] at q
    obtain ⟨e1, c', H', I1, x, ev1, r1⟩ := hf X pins σ s H c env h p h' I ev r e
    obtain ⟨fl, env1⟩ := p
    cases e1
    exact hg.run pins s σ H' D I1 ⟨c', env1, h', ev1, r1, Aft.up (show Aft S c (g env1 h') _ _ from q) x⟩
theorem ghost_frz {i : Nat} : Ghost S (sFrz i) := by
  intro X pins σ s H c env h p h' I ev r e
  unfold sFrz at e
  split at e
  · rename_i n ei
    split at e
    · rename_i d h2 ef
      cases e
      obtain ⟨c', H', I1, x, r1, id1, _⟩ := frz_ok I r ef
      obtain ⟨v, e1, _, rfl⟩ := ev.get i _ ei
      refine ⟨rfl, c', H', I1, x, ⟨by rw [List.length_set]; exact ev.len, fun j w q => ?_⟩, r1⟩
      by_cases hj : i = j
      · subst hj
        have hi : i < env.length := (List.getElem?_eq_some_iff.mp ei).1
        rw [List.getElem?_set_self hi] at q
        cases q
        exact ⟨_, e1, id1⟩
      · rw [List.getElem?_set_ne hj] at q
        obtain ⟨v, e2, i2⟩ := ev.get j w q
        exact ⟨v, e2, i2.mono x⟩
    · cases e
  · cases e
theorem frz_nx {i : Nat} {env : En} {h : Hm} {e : Ex} {h' : Hm} : sFrz i env h ≠ .ex e h' := fun z => by
  unfold sFrz at z
  split at z
  · split at z <;> cases z
  · cases z
theorem setF_is {c : C} {f : Nat} {w : W} : ∀ {fs : List Nat} {ws : List W} {vs : List V} {x : W} (hx : ∀ v, IsW S c x v → IsW S c w v), getF fs ws f = some x → IsWs S c ws vs → IsWs S c (setF fs ws f w).2 vs
  | [], ws, vs, x, hx, e, i => by cases ws <;> cases e
  | a :: fs, [], vs, x, hx, e, i => by cases e
  | a :: fs, y :: ws, vs, x, hx, e, ⟨v, r, ev, q, t⟩ => by
    unfold getF at e
    unfold setF
    by_cases ha : a = f
    · rw [if_pos ha] at e ⊢
      cases e
      exact ⟨v, r, ev, hx v q, t⟩
    · rw [if_neg ha] at e ⊢
      exact ⟨v, r, ev, q, setF_is hx e t⟩
theorem ghost_frzF {i f : Nat} : Ghost S (sFrzF i f) := by
  intro X pins σ s H c env h p h' I ev r e
  unfold sFrzF at e
  split at e
  · rename_i m ei
    split at e
    · rename_i cc fs ws em
      split at e
      · rename_i n eg
        split at e
        · rename_i d h2 ef
          split at e
          · rename_i cc2 fs2 ws2 em2
            cases e
            obtain ⟨c', H', I1, x, r1, id1, _⟩ := frz_ok I r ef
            refine ⟨rfl, c', H', I1, x, ev.up x, ?_⟩
            have hmn : m ≠ n := fun z => by
              subst z
              unfold frzAt at ef
              rw [em] at ef
              have ef : (frzO (.ins cc fs ws)).map (fun d => (d, h.set m .dead)) = some (d, h2) := ef
              cases q : frzO (.ins cc fs ws) with
              | none => rw [q] at ef; cases ef
              | some d0 =>
                rw [q] at ef
                cases ef
                rw [List.getElem?_set_self (List.getElem?_eq_some_iff.mp em).1] at em2
                cases em2
            have e2 : h2[m]? = h[m]? := by
              unfold frzAt at ef
              split at ef
              · rename_i m0 _
                cases q : frzO m0 with
                | none => rw [q] at ef; cases ef
                | some d0 =>
                  rw [q] at ef
                  cases ef
                  exact List.getElem?_set_ne fun z => hmn z.symm
              · cases ef
            rw [e2, em] at em2
            cases em2
            obtain ⟨dx, vs, h1, h3, h4⟩ := r1.mu m _ (e2.trans em)
            have hlen : ∀ (fs : List Nat) (ws : List W) (x : W), getF fs ws f = some x → (setF fs ws f (.d d)).1 = fs := by
              intro fs
              induction fs with
              | nil => intro ws x e; cases ws <;> cases e
              | cons a fs ih =>
                intro ws x e
                cases ws with
                | nil => cases e
                | cons y ws =>
                  unfold getF at e
                  unfold setF
                  by_cases ha : a = f
                  · rw [if_pos ha]
                  · rw [if_neg ha] at e ⊢
                    show a :: _ = _
                    rw [ih ws x e]
            refine r1.same (m' := .ins cc fs (setF fs ws f (.d d)).2) (e2.trans em) rfl ⟨dx, vs, h1, h3, ?_⟩
            refine setF_is (fun v iv => ?_) eg h4
            obtain ⟨hn, rfl⟩ := iv
            have hn0 : n < c.n := by
              unfold frzAt at ef
              split at ef
              · rename_i em0
                rw [r.sz]
                exact (List.getElem?_eq_some_iff.mp em0).1
              · cases ef
            rw [x.ι n hn0]
            exact id1
          · cases e
        · cases e
      · cases e
    · cases e
  · cases e
theorem frzF_nx {i f : Nat} {env : En} {h : Hm} {e : Ex} {h' : Hm} : sFrzF i f env h ≠ .ex e h' := fun z => by
  unfold sFrzF at z
  split at z
  · split at z
    · split at z
      · split at z
        · split at z <;> cases z
        · cases z
      · cases z
    · cases z
  · cases z
end
end Mi

/-! Ma 4: an own __eq__, asked by == and by !=; an own __len__. -/
namespace Mi
open PySem L2 PySem.Spec PyProof.Rows PySem.W

section
variable {prog : Program} {w : World} {A : Around} {E : Value → Shared → Prop} {s : Shared} {K : Frag} {x C f L : Addr} {h₀ : Heap} {m : Str → Option Value} {ox : Obj} {od : Option Obj} {b tb : Value}
theorem check_ne (X : K.In s.heap) (I : InstAt s.heap x ox C od) (sub : subIn K (.ref C) (.type "object") = some true) {Q : Unit → Shared → Prop} (q : Q () s) : wpAny (model prog w) A (checkBuiltinCall "object.__ne__" ⟨[.ref x, b], []⟩) Q E s := by
  have ar := PySem.F.cmpArgs_ne (.ref x) b
  simp only [checkBuiltinCall, PySem.F.cmpKind_ne, PySem.F.cmpSplit_ne]
  refine wpAny_bind ?_
  unfold isInstance
  refine wpAny_bind (I.type.here ((looks_subIn X sub).here ?_))
  cases sig : Manifest.signature? "object.__ne__" with
  | none => exact wpAny_pure q
  | some g =>
    simp only [argsOk, sig] at ar
    show wpAny _ _ (Bind.checkArgs "object.__ne__" g ⟨[.ref x, b], []⟩) _ _ _
    rw [show Bind.checkArgs "object.__ne__" g ⟨[.ref x, b], []⟩ = pure () from ar]
    exact wpAny_pure q
def AnsB (Q : Bool → Shared → Prop) (v : Value) (s' : Shared) : Prop := ∃ r, v = .bool r ∧ Q r s'
/-- x != b by x's own __eq__ -/
theorem ne_own {Q : Value → Shared → Prop} (hu : A.in1.units < cLine) (F : Fr h₀ L s.heap m) (X₀ : K.In h₀) (I : InstAt s.heap x ox C od) (hb : Looks (model prog w) s.heap (typeOf b) tb) (hn : notFirst K C tb = true)
    (hs : findIn K (.ref C) "__eq__" = some (some (.ref f))) (hf : isFn K (.ref f) = true) (hne : findIn K (.ref C) "__ne__" = some (some (.builtin "object.__ne__"))) (sub : subIn K (.ref C) (.type "object") = some true)
    (h : wpAny (model prog w) A.in1 (call (.ref f) [.ref x, b]) (AnsB fun r s' => Q (.bool (!r)) s') E s) : wpAny (model prog w) A (richCompare .NotEq (.ref x) b) Q E s := by
  have X := X₀.keeps F.keep
  have hu0 : A.units < cLine := Nat.lt_of_succ_lt hu
  have body : wpAny (model prog w) A.in1 (Builtin.«object.__ne__» ⟨[.ref x, b], []⟩) (fun fin s' => match fin with | .done f => wants (fun v s' => ∃ r, v = Value.bool r ∧ Q v s') E (.ok f) s' | .again c' => c'.quiet = true ∧ codeAny (model prog w) A c' (wants (fun v s' => ∃ r, v = Value.bool r ∧ Q v s') E) s') (fun e s' => wants (fun v s' => ∃ r, v = Value.bool r ∧ Q v s') E (.error e) s') s := by
    unfold Builtin.«object.__ne__»
    refine wpAny_bind (wpAny_pure ?_)
    refine wpAny_bind (wpAny_cRoomFor hu ?_)
    refine wpAny_bind (m := callSpecialIfBound? (.ref x) (Str.ofString "__eq__") _) (ifBound_K X I hs hf (wpAny_mono h (fun v s' hv => ?_) fun _ _ e => e))
    obtain ⟨r, rfl, q⟩ := hv
    refine wpAny_bind (m := truthy (.bool _)) (wpAny_truthy_bool ?_)
    exact wpAny_pure ⟨_, rfl, q⟩
  have one : wpAny (model prog w) A (tryCompare (.ref x) (cmpInfo .NotEq).2.1 b) (fun r s' => ∃ v, r = some v ∧ Q v s') E s := by
    simp only [tryCompare, callSpecialIfBound?, bindSpecialIfBound?]
    refine wpAny_bind (wpAny_holding (wpAny_bind (wpAny_bind (wpAny_bind (I.type.here ((looks_findIn X hne).here ?_))))))
    have bd : bindSpecial (.builtin "object.__ne__") (.ref x) = pure (.builtin "object.__ne__", [.ref x]) := PySem.F.slot_zip_ne.bind (.ref x)
    have go : wpAny (model prog w) A (do
        let v ← call (.builtin "object.__ne__") ([.ref x] ++ [b])
        pure (some v)) (fun r s' => ∃ z, r = some (Value.bool z) ∧ Q (.bool z) s') E s := by
      refine wpAny_bind (wpAny_call (codeAny_mono (codeAny_call_builtin PySem.F.slot_zip_ne.plain PySem.F.cmpEntry_ne (check_ne X I sub body)) fun r s' hr => ?_))
      cases r with
      | error e => exact hr
      | ok fl =>
        cases fl with
        | ret v =>
          obtain ⟨z, rfl, q⟩ := hr
          exact wpAny_pure ⟨z, rfl, q⟩
        | next => exact hr.elim
        | brk => exact hr.elim
        | cont => exact hr.elim
    have last : ∀ (r : Option Value) (s' : Shared), (∃ z, r = some (Value.bool z) ∧ Q (.bool z) s') → wpAny (model prog w) A (match r with
        | some Value.notImplemented => pure none
        | none => pure none
        | some v => pure (some v) : Sem (Option Value)) (fun r s' => ∃ v, r = some v ∧ Q v s') E s' := fun r s' ⟨z, e, q⟩ => by
      subst e
      exact wpAny_pure ⟨_, rfl, q⟩
    refine wpAny_bind (wpAny_askSetting (wpAny_ite ?_))
    split
    · rw [bd]
      exact wpAny_bind (wpAny_pure (wpAny_pure (by exact wpAny_mono go last fun _ _ e => e)))
    · rw [bd]
      exact wpAny_tryCatch (wpAny_bind (wpAny_pure (wpAny_pure (by exact wpAny_mono go last fun _ _ e => e))))
  unfold richCompare
  simp only [oneThing_ref]
  refine wpAny_holding (wpAny_bind (wpAny_cRoomFor hu0 (wpAny_bind (I.type.here (wpAny_bind (hb.here ?_))))))
  have fin : ∀ {k : Option Value → Sem Value}, (∀ v, k (some v) = pure v) → wpAny (model prog w) A (tryCompare (.ref x) (cmpInfo .NotEq).2.1 b >>= k) Q E s := fun {k} hk => wpAny_bind (wpAny_mono one (fun r s' ⟨v, e, q⟩ => by subst e; rw [hk]; exact wpAny_pure q) fun _ _ e => e)
  split
  · rename_i q
    have e : subIn K tb (.ref C) = some false := (Bool.or_eq_true_iff.mp hn).elim (fun e => by rw [beq_iff_eq.mp e] at q; simp at q) fun e => beq_iff_eq.mp e
    refine wpAny_bind ((looks_subIn X e).here ?_)
    rw [if_neg Bool.false_ne_true]
    exact fin fun v => rfl
  · refine wpAny_bind (wpAny_pure ?_)
    rw [if_neg Bool.false_ne_true]
    exact fin fun v => rfl
end
end Mi

/-! Ma 5: types of values, isinstance, == and != and len by the text's own methods. -/
namespace Mi
open PySem L2 PySem.Spec PyProof.Rows

inductive Ty where
  | non | bl | int | str | tup | lst | dct | ins (c : Nat)
  deriving DecidableEq
def tyU (S : Sig) : Ty → Value
  | .non => .type "NoneType"
  | .bl => .type "bool"
  | .int => .type "int"
  | .str => .type "str"
  | .tup => .type "tuple"
  | .lst => .type "list"
  | .dct => .type "dict"
  | .ins c => .ref (S.ca c)
def tyW : W → Hm → Option Ty
  | .d .non, _ => some .non
  | .d (.bl _), _ => some .bl
  | .d (.int _), _ => some .int
  | .d (.str _), _ => some .str
  | .d (.tup _), _ => some .tup
  | .d (.lst _), _ => some .lst
  | .d (.scr _), _ => some .lst
  | .d (.dK _ _), _ => some .dct
  | .d (.ins c _ _), _ => some (.ins c)
  | .r n, h => match h[n]? with
    | some (.lst _) => some .lst
    | some (.dK _ _) => some .dct
    | some (.dT _ _) => some .dct
    | some (.ins c _ _) => some (.ins c)
    | _ => none
  | _, _ => none
structure InsTy (K : PySem.W.Frag) (C : Addr) : Prop where
  cl : Cls K C
  ha : PySem.W.findIn K (.ref C) "__class__" = some (some (.builtin "object.__class__"))
  hn : PySem.W.specialIn K (.builtin "object.__class__") "__get__" = some (some (.builtin "getset_descriptor.__get__"))
  htk : PySem.W.takesIn K (.builtin "object.__class__") = some true
  hm : PySem.W.mroIn K C (.type "object") = some true
theorem tyX_is {S : Sig} {c : C} {h : Hm} {H : Hp} {w : W} {v : V} {t : Ty} (r : Rel S c h H) (i : IsW S c w v) (e : tyW w h = some t) (hi : ∀ k, t = .ins k → InsTy S.K (S.ca k)) : TyX S.K H v (tyU S t) := by
  unfold tyW at e
  split at e
  · cases e
    have i : IsD S c.F .non v := i
    simp only [IsD] at i
    subst i
    exact .base .non
  · cases e
    have i : IsD S c.F (.bl _) v := i
    simp only [IsD] at i
    subst i
    exact .base (.bl _)
  · cases e
    have i : IsD S c.F (.int _) v := i
    simp only [IsD] at i
    subst i
    exact .base (.int _)
  · cases e
    have i : IsD S c.F (.str _) v := i
    simp only [IsD] at i
    subst i
    exact .base (.str _)
  · cases e
    have i : IsD S c.F (.tup _) v := i
    simp only [IsD] at i
    obtain ⟨a, vs, rfl, e1, _⟩ := i
    exact .base (.tup (r.fz _ _ e1))
  · cases e
    have i : IsD S c.F (.lst _) v := i
    simp only [IsD] at i
    obtain ⟨a, vs, rfl, e1, _⟩ := i
    exact .base (.lst (r.fz _ _ e1))
  · cases e
    have i : IsD S c.F (.scr _) v := i
    simp only [IsD] at i
    obtain ⟨a, vs, rfl, e1, _⟩ := i
    rcases e1 with (e1 | ⟨o, e1⟩) | ⟨o, its, n, e1, e2, _⟩
    · exact .base (.lst (r.fz _ _ e1))
    · exact .base (.frz (r.fz _ _ e1))
    · exact .kList e1 e2
  · cases e
    have i : IsD S c.F (.dK _ _) v := i
    simp only [IsD] at i
    obtain ⟨a, o, vs, rfl, _, e1, _⟩ := i
    exact .fDict (r.fz _ _ e1)
  · cases e
    have i : IsD S c.F (.ins _ _ _) v := i
    simp only [IsD] at i
    obtain ⟨a, dx, vs, rfl, _, e1, _⟩ := i
    obtain ⟨h1, h2, h3, h4, h5⟩ := hi _ rfl
    exact .base (.ins (r.fz _ _ e1) h1 h2 h3 h4 h5)
  · rename_i n
    obtain ⟨hn, rfl⟩ := i
    split at e
    · rename_i em
      cases e
      obtain ⟨vs, e1, _⟩ := r.mu n _ em
      exact .base (.lst e1)
    · rename_i em
      cases e
      obtain ⟨vs, _, e1, _⟩ := r.mu n _ em
      exact .base (.dK e1)
    · rename_i em
      cases e
      obtain ⟨vs, _, e1, _⟩ := r.mu n _ em
      exact .base (.dT e1)
    · rename_i em
      cases e
      obtain ⟨dx, vs, _, e1, _⟩ := r.mu n _ em
      obtain ⟨h1, h2, h3, h4, h5⟩ := hi _ rfl
      exact .base (.ins e1 h1 h2 h3 h4 h5)
    · cases e
  · cases e

/-! ### isinstance -/
/-- what is known of types and of own methods -/
structure Kn where
  isi : Ty → Ty → Option Bool
  eqm : Nat → Option Nat
  nf : Nat → Ty → Bool
  lenm : Nat → Option Nat
structure KnOk (S : Sig) (N : Kn) (fa : Nat → Addr) : Prop where
  isi : ∀ t u b, N.isi t u = some b → PySem.W.kitOne S.K (tyU S t) (tyU S u) = some b
  ins : ∀ k u b, N.isi (.ins k) u = some b → InsTy S.K (S.ca k)
  eqm : ∀ k f, N.eqm k = some f → PySem.W.findIn S.K (.ref (S.ca k)) "__eq__" = some (some (.ref (fa f))) ∧ PySem.W.isFn S.K (.ref (fa f)) = true ∧ PySem.W.findIn S.K (.ref (S.ca k)) "__ne__" = some (some (.builtin "object.__ne__")) ∧ PySem.W.subIn S.K (.ref (S.ca k)) (.type "object") = some true
  nf : ∀ k t, N.nf k t = true → PySem.W.notFirst S.K (S.ca k) (tyU S t) = true ∧ ∀ k', t = .ins k' → InsTy S.K (S.ca k')
  lenm : ∀ k f, N.lenm k = some f → PySem.W.findIn S.K (.ref (S.ca k)) "__len__" = some (some (.ref (fa f))) ∧ PySem.W.isFn S.K (.ref (fa f)) = true
def vIsi (N : Kn) (u : Ty) (f : Fe) : Fe := fun env h => (f env h).bind fun w h1 => match tyW w h1 with
  | some t => match N.isi t u with
    | some b => .ok (.d (.bl b)) h1
    | none => .no
  | none => .no
section
variable {X : Cx} {S : Sig} {k : Nat} {Wx : WX} {N : Kn} {fad : Nat → Addr} {Γ : Nat → Fn} {pos p1 p2 : Pos} {a : Expr} {f : Fe}
theorem me_isi {tn : Str} {u : Ty} {cv : V} (hK : S.K = X.K) (ok : KnOk S N fad) (hg : Gl X "isinstance") (hm : X.mg "isinstance" = none) (ha : PE X a (TEof S Wx f)) (hs : noStar [a] = true) (h2 : PE X (.Name tn p2) (tC cv)) (hc : ClsV cv (tyU S u)) :
    PE X (.Call (.Name "isinstance" p1) [a, .Name tn p2] [] pos) (TEof S Wx (vIsi N u f)) := by
  have hs2 : noStar [a, .Name tn p2] = true := by cases a <;> first | rfl | cases hs
  obtain ⟨s1, s2⟩ := noStar_cons (env := X.env) hs2
  refine pe_mono (pe_callB (call_isi (X := X)) hg hm boot_isinstance (pa_cons ha (pa_cons h2 pa_nil rfl) s1) (by decide) (by decide) s1 (noStar_back s2)) fun σ H Q ⟨c, env, h, ev, r, q⟩ => ?_
  refine ⟨c, env, h, ev, r, q.bind.mono (Ext.refl c) (fun c1 w h1 H1 x1 r1 q1 v iv => ?_) fun _ _ _ q => q⟩
  split at q1
  · rename_i t et
    split at q1
    · rename_i b eb
      refine ⟨v, cv, tyU S t, tyU S u, b, rfl, hc, ?_, ?_, ?_⟩
      · rw [← hK]
        exact tyX_is r1 iv et fun k' z => by subst z; exact ok.ins _ _ _ eb
      · rw [← hK]; exact ok.isi _ _ _ eb
      · exact q1 c1 H1 (Ext.refl c1) r1 _ isW_mkbl
    · exact q1.elim
  · exact q1.elim

/-! ### == and != by an own __eq__ -/
def sOwn (N : Kn) (Γ : Nat → Fn) (neg : Bool) : W → W → Hm → R W := fun x y h => match insOf x h with
  | some (kc, _, _) => match N.eqm kc, tyW y h with
    | some g, some t => if N.nf kc t = true then (Γ g [x, y] [] h).noEx.bind fun z h1 => (asB z h1).bind fun b h2 => .ok (.d (.bl (if neg = true then !b else b))) h2 else .no
    | _, _ => .no
  | none => .no
theorem o_own (neg : Bool) (qx : Qx X S (k + 1) Wx) (gd : X.A.guards = some []) (ok : KnOk S N fad) (G : ∀ g, Calls X.prog X.w X.mg X.base S k (fad g) (Γ g)) : OpR X (compareOp (if neg = true then .NotEq else .Eq)) (rS S (sOwn N Γ neg)) := by
  intro pins s σ H x y v u Q I rx ry ⟨c, h, w1, w2, r, i1, i2, q⟩
  unfold sOwn at q
  split at q
  · rename_i kc fs ws ei
    split at q
    · rename_i g t eg et
      split at q
      · rename_i hnf
        obtain ⟨a, dx, vs, rfl, _, ea, _⟩ := insOf_at r i1 ei
        obtain rfl : v = Value.ref a := rx
        obtain ⟨f1, f2, f3, f4⟩ := ok.eqm _ _ eg
        obtain ⟨n1, n2⟩ := ok.nf _ _ hnf
        rw [qx.K] at f1 f2 f3 f4 n1
        have ty : TyX X.K H y (tyU S t) := by rw [← qx.K]; exact tyX_is r i2 et n2
        obtain ⟨P, kx, hp, _⟩ := kit_of I ry ty
        obtain ⟨mA, O, _⟩ := ins_get I.hok ea
        obtain ⟨od, J, _⟩ := O.look
        obtain ⟨m, hF⟩ := I.fr
        have lk := kx.ty (model X.prog X.w) s.heap I.kIn hp
        -- the own __eq__ runs
        have run : ∀ (A : Around), Room k A → A.guards = some [] → Env0 X.prog X.w S.K X.mg X.base A X.stack s H → wpAny (model X.prog X.w) A (call (.ref (fad g)) [.ref a, u]) (fun z s' => ∃ b, z = .bool b ∧ EP X pins σ Q (.bool (if neg = true then !b else b)) s') X.xe s := by
          intro A hr hgd e0
          refine wpAny_call (codeAny_mono ((G g).run A X.stack s H [.ref a, u] [] c h [w1, w2] [.ref a, y] [] [] (fun z H' => ∃ b, z = .bl b ∧ Q (.bl (if neg = true then !b else b)) H') (fun _ _ _ => False) hr hgd e0 ⟨_, _, rfl, i1, _, _, rfl, i2, rfl⟩ (.cons rfl (.cons ry .nil)) rfl rfl .nil r ?_) fun res s' hq => ?_)
          · have q0 := Aft.bind (S := S) (c := c) (r := (Γ g [w1, w2] [] h).noEx) q
            refine Aft.noEx (q0.mono (Ext.refl c) (fun c1 z h1 H1 x1 r1 q1 zv iz => ?_) fun _ _ _ _ => trivial)
            obtain ⟨b, rfl, kk⟩ := asB_of (h2 := h1) q1.bind
            exact ⟨b, isW_bl iz, kk H1 r1 c1 H1 (Ext.refl c1) r1 _ isW_mkbl⟩
          · cases res with
            | error er => obtain ⟨_, _, _, _, _, _, _, _, _, _, _, _, z⟩ := hq; exact z.elim
            | ok fl =>
              cases fl with
              | ret z =>
                obtain ⟨zv, H', I', rz, b, rfl, q3⟩ := I.after hq
                cases (show z = Value.bool b from rz)
                exact ⟨b, rfl, .bl _, H', I', rfl, q3⟩
              | next => exact False.elim hq
              | brk => exact False.elim hq
              | cont => exact False.elim hq
        have e0 : Env0 X.prog X.w S.K X.mg X.base X.A X.stack s H := by rw [qx.K]; exact I.env0
        cases neg with
        | false =>
          refine PySem.W.cmp_K (op := .Eq) (tb := tyU S t) (by have := qx.room.un; omega) hF I.ok.mod.kin J lk n1 f1 f2 (wpAny_mono (run X.A (qx.room.mono (Nat.le_succ k)) gd e0) (fun z s' hz => ?_) fun _ _ e => e)
          obtain ⟨b, rfl, e⟩ := hz
          exact e
        | true =>
          refine ne_own (tb := tyU S t) (by have := qx.room.un; show X.A.units + 1 < cLine; omega) hF I.ok.mod.kin J lk n1 f1 f2 f3 f4 (wpAny_mono (run X.A.in1 qx.room.in1 gd e0.in1) (fun z s' hz => ?_) fun _ _ e => e)
          obtain ⟨b, rfl, e⟩ := hz
          exact ⟨b, rfl, e⟩
      · exact q.elim
    · exact q.elim
  · exact q.elim
end
end Mi

/-! Ma 6: len. -/
namespace Mi
open PySem L2 PySem.Spec PyProof.Rows

def rSs0 (S : Sig) (sem : List W → Hm → R W) : List V → Hp → VK → Prop := fun vs H Q => ∃ c h ws, Rel S c h H ∧ IsWs S c ws vs ∧ Aft S c (sem ws h) (fun c' w _ H' => ∀ v, IsW S c' w v → Q v H') (fun _ _ _ => True)
def dctLen : W → Hm → Option Nat
  | .d (.dK ks _), _ => some ks.length
  | .d (.dT ks _), _ => some ks.length
  | .r n, h => match h[n]? with
    | some (.dK ks _) => some ks.length
    | some (.dT ks _) => some ks.length
    | _ => none
  | _, _ => none
def strLen : W → Option Nat
  | .d (.str x) => if x.length ≤ sizeLine then some x.length else none
  | _ => none
def sLen (N : Kn) (Γ : Nat → Fn) : List W → Hm → R W := fun ws h => match ws with
  | [w] => match seqOf w h with
    | some l => .ok (.d (.int l.length)) h
    | none => match dctLen w h with
      | some n => .ok (.d (.int n)) h
      | none => match strLen w with
        | some n => .ok (.d (.int n)) h
        | none => match insOf w h with
          | some (kc, _, _) => match N.lenm kc with
            | some g => (Γ g [w] [] h).noEx.bind fun z h1 => match z with
              | .d (.int n) => if 0 ≤ n ∧ n < 2 ^ 63 then .ok (.d (.int n)) h1 else .no
              | _ => .no
            | none => .no
          | none => .no
  | _ => .no
section
variable {X : Cx} {S : Sig} {k : Nat} {Wx : WX} {N : Kn} {fad : Nat → Addr} {Γ : Nat → Fn}
theorem isW_mkint {S : Sig} {c : C} {i : Int} : IsW S c (.d (.int i)) (.int i) := by
  show IsD S c.F (.int i) _
  simp only [IsD]
theorem dct_rd {S : Sig} {c : C} {h : Hm} {H : Hp} {w : W} {v : V} {n : Nat} (r : Rel S c h H) (i : IsW S c w v) (e : dctLen w h = some n) : ∃ a, v = .ref a ∧ ((∃ kvs, Rd H a (.dK kvs) ∧ kvs.length = n) ∨ ∃ kvs, Rd H a (.dT kvs) ∧ kvs.length = n) := by
  unfold dctLen at e
  split at e
  · cases e
    have i : IsD S c.F (.dK _ _) v := i
    simp only [IsD] at i
    obtain ⟨a, o, vs, rfl, hl, e1, _⟩ := i
    exact ⟨a, rfl, .inl ⟨_, .inr ⟨o, r.fz _ _ e1⟩, by rw [List.length_zip]; omega⟩⟩
  · cases e
    have i : IsD S c.F (.dT _ _) v := i
    simp only [IsD] at i
    obtain ⟨a, o, vs, rfl, hl, e1, _⟩ := i
    exact ⟨a, rfl, .inr ⟨_, .inr ⟨o, r.fz _ _ e1⟩, by rw [List.length_zip]; omega⟩⟩
  · rename_i m
    obtain ⟨hn, rfl⟩ := i
    split at e
    · rename_i em
      cases e
      obtain ⟨vs, hl, e1, _⟩ := r.mu m _ em
      exact ⟨_, rfl, .inl ⟨_, .inl e1, by rw [List.length_zip]; omega⟩⟩
    · rename_i em
      cases e
      obtain ⟨vs, hl, e1, _⟩ := r.mu m _ em
      exact ⟨_, rfl, .inr ⟨_, .inl e1, by rw [List.length_zip]; omega⟩⟩
    · cases e
  · cases e
theorem c_len (qx : Qx X S (k + 1) Wx) (gd : X.A.guards = some []) (ok : KnOk S N fad) (G : ∀ g, Calls X.prog X.w X.mg X.base S k (fad g) (Γ g)) : CallR X (.builtin "len") (rSs0 S (sLen N Γ)) := by
  intro pins s σ H vs us Q I rv ⟨c, h, ws, r, iw, q⟩
  unfold sLen at q
  split at q
  · rename_i w
    obtain ⟨v, vr, rfl, iv, ir⟩ := iw
    cases (show vr = [] from ir)
    split at q
    · rename_i l el
      obtain ⟨a, xs, rfl, sq, il⟩ := seqOf_at qx.K r iv el
      have fin := q c H (Ext.refl c) r (.int xs.length) (by rw [← il.length]; exact isW_mkint)
      refine call_len_seq pins s σ H _ us Q I rv ⟨a, xs, rfl, ?_, fin⟩
      cases ht : isTupW w with
      | true => rw [ht] at sq; exact .inr sq
      | false => rw [ht] at sq; exact .inl sq
    · split at q
      · rename_i n en
        obtain ⟨a, rfl, hd⟩ := dct_rd r iv en
        obtain ⟨u, rfl, rx⟩ := vals1 rv
        obtain rfl : u = Value.ref a := rx
        have fin := q c H (Ext.refl c) r (.int n) isW_mkint
        rcases hd with ⟨kvs, e1, e2⟩ | ⟨kvs, e1, e2⟩
        · exact d_len I e1 fun t s' I' => ⟨.int n, H, I', ⟨t, by rw [e2]⟩, fin⟩
        · obtain ⟨z, hs, ys, rel, dd⟩ := dt_rd I.hok e1
          have hl : kvs.length = ys.length := Paired.length rel
          refine call_len_dictH hs dd (by rw [← hl]; rw [sizeLine_eq] at z; omega) ⟨.int n, H, I.tok _, ⟨_, by rw [← hl, e2]⟩, fin⟩
      · split at q
        · rename_i n en
          unfold strLen at en
          split at en
          · split at en
            · rename_i hz
              cases en
              have iv : IsD S c.F (.str _) v := iv
              simp only [IsD] at iv
              subst iv
              exact call_len pins s σ H _ us Q I rv ⟨.str _, _, rfl, ⟨hz, rfl⟩, q c H (Ext.refl c) r _ isW_mkint⟩
            · cases en
          · cases en
        · split at q
          · rename_i kc fs wf ei
            split at q
            · rename_i g eg
              obtain ⟨a, dx, vf, rfl, _, ea, _⟩ := insOf_at r iv ei
              obtain ⟨u, rfl, rx⟩ := vals1 rv
              obtain rfl : u = Value.ref a := rx
              obtain ⟨f1, f2⟩ := ok.lenm _ _ eg
              rw [qx.K] at f1 f2
              obtain ⟨mA, O, _⟩ := ins_get I.hok ea
              obtain ⟨od, J, _⟩ := O.look
              obtain ⟨m, hF⟩ := I.fr
              have e0 : Env0 X.prog X.w S.K X.mg X.base X.A X.stack s H := by rw [qx.K]; exact I.env0
              refine PySem.W.len_K hF I.ok.mod.kin J f1 f2 (wpAny_call (codeAny_mono ((G g).run X.A.in1 X.stack s H [.ref a] [] c h [w] [.ref a] [] [] (fun z H' => ∃ n : Int, z = .int n ∧ (0 ≤ n ∧ n < 2 ^ 63) ∧ Q (.int n) H') (fun _ _ _ => False) qx.room.in1 gd e0.in1 ⟨_, _, rfl, iv, rfl⟩ (.cons rfl .nil) rfl rfl .nil r ?_) fun res s' hq => ?_))
              · have q0 := Aft.bind (S := S) (c := c) (r := (Γ g [w] [] h).noEx) q
                refine Aft.noEx (q0.mono (Ext.refl c) (fun c1 z h1 H1 x1 r1 q1 zv iz => ?_) fun _ _ _ _ => trivial)
                split at q1
                · rename_i n
                  split at q1
                  · rename_i hn
                    have iz : IsD S c1.F (.int n) zv := iz
                    simp only [IsD] at iz
                    exact ⟨n, iz, hn, q1 c1 H1 (Ext.refl c1) r1 _ isW_mkint⟩
                  · exact q1.elim
                · exact q1.elim
              · cases res with
                | error er => obtain ⟨_, _, _, _, _, _, _, _, _, _, _, _, z⟩ := hq; exact z.elim
                | ok fl =>
                  cases fl with
                  | ret z =>
                    obtain ⟨zv, H', I', rz, n, rfl, hn, q3⟩ := I.after hq
                    obtain ⟨t, rfl⟩ := (show ∃ t, z = Value.int n t from rz)
                    exact ⟨hn, .int n, H', I'.tok _, ⟨_, rfl⟩, q3⟩
                  | next => exact False.elim hq
                  | brk => exact False.elim hq
                  | cont => exact False.elim hq
            · exact q.elim
          · exact q.elim
  · exact q.elim
end
end Mi

/-! Ma 7: data compared and shown; +, *, in. -/
namespace Mi
open PySem L2 PySem.Spec PyProof.Rows

mutual
def pyD : D → Option PyData
  | .non => some .none
  | .bl b => some (.bool b)
  | .int i => some (.int i)
  | .str x => some (.str x)
  | .tup l => (pyDs l).map .tuple
  | .lst l => (pyDs l).map .list
  | .scr l => (pyDs l).map .list
  | _ => none
def pyDs : List D → Option (List PyData)
  | [] => some []
  | x :: l => match pyD x, pyDs l with
    | some p, some r => some (p :: r)
    | _, _ => none
end
def pyW : Nat → Hm → W → Option PyData
  | _, _, .d x => pyD x
  | 0, _, .r _ => none
  | k + 1, h, .r n => match h[n]? with
    | some (.lst l) => (l.mapM (pyW k h)).map .list
    | _ => none
section
variable {S : Sig} {c : C} {h : Hm} {H : Hp}
mutual
theorem pyD_is (r : Rel S c h H) : ∀ (x : D) (v : V) (p : PyData), pyD x = some p → IsD S c.F x v → Dp S.K H v p
  | .non, v, p, e, i => by
    simp only [IsD] at i
    cases e
    subst i
    exact .non
  | .bl b, v, p, e, i => by
    simp only [IsD] at i
    cases e
    subst i
    exact .bl b
  | .int b, v, p, e, i => by
    simp only [IsD] at i
    cases e
    subst i
    exact .int b
  | .str b, v, p, e, i => by
    simp only [IsD] at i
    cases e
    subst i
    exact .str b
  | .tup l, v, p, e, i => by
    simp only [IsD] at i
    obtain ⟨a, vs, rfl, e1, e2⟩ := i
    simp only [pyD] at e
    cases el : pyDs l with
    | none => rw [el] at e; cases e
    | some ps =>
      rw [el] at e
      cases e
      exact .tup (.inl (.inl (r.fz _ _ e1))) (pyDs_is r l vs ps el e2)
  | .lst l, v, p, e, i => by
    simp only [IsD] at i
    obtain ⟨a, vs, rfl, e1, e2⟩ := i
    simp only [pyD] at e
    cases el : pyDs l with
    | none => rw [el] at e; cases e
    | some ps =>
      rw [el] at e
      cases e
      exact .lst (.inl (.inl (r.fz _ _ e1))) (pyDs_is r l vs ps el e2)
  | .scr l, v, p, e, i => by
    simp only [IsD] at i
    obtain ⟨a, vs, rfl, e1, e2⟩ := i
    simp only [pyD] at e
    cases el : pyDs l with
    | none => rw [el] at e; cases e
    | some ps =>
      rw [el] at e
      cases e
      exact .lst (SqL.mono r.fz e1) (pyDs_is r l vs ps el e2)
  | .dK _ _, v, p, e, i => by simp [pyD] at e
  | .dT _ _, v, p, e, i => by simp [pyD] at e
  | .ins _ _ _, v, p, e, i => by simp [pyD] at e
  | .cls _, v, p, e, i => by simp [pyD] at e
  | .exn _ _ _, v, p, e, i => by simp [pyD] at e
  | .clo _ _, v, p, e, i => by simp [pyD] at e
theorem pyDs_is (r : Rel S c h H) : ∀ (l : List D) (vs : List V) (ps : List PyData), pyDs l = some ps → IsDs S c.F l vs → DpAll S.K H vs ps
  | [], vs, ps, e, i => by
    simp only [IsDs] at i
    cases e
    subst i
    exact .nil
  | x :: l, vs, ps, e, i => by
    simp only [IsDs] at i
    obtain ⟨v, rr, rfl, i1, i2⟩ := i
    simp only [pyDs] at e
    cases e1 : pyD x with
    | none => rw [e1] at e; cases e
    | some p =>
      cases e2 : pyDs l with
      | none => rw [e1, e2] at e; cases e
      | some q =>
        rw [e1, e2] at e
        cases e
        exact .cons (pyD_is r x v p e1 i1) (pyDs_is r l rr q e2 i2)
end
theorem mapM_dp {f : W → Option PyData} (hf : ∀ w p v, f w = some p → IsW S c w v → Dp S.K H v p) : ∀ {l : List W} {ps : List PyData} {vs : List V}, l.mapM f = some ps → IsWs S c l vs → DpAll S.K H vs ps
  | [], ps, vs, e, i => by
    cases e
    cases (show vs = [] from i)
    exact .nil
  | w :: l, ps, vs, e, i => by
    obtain ⟨v, r, rfl, i1, i2⟩ := i
    rw [List.mapM_cons] at e
    cases e1 : f w with
    | none => rw [e1] at e; cases e
    | some p =>
      rw [e1] at e
      cases e2 : l.mapM f with
      | none => rw [e2] at e; cases e
      | some q =>
        rw [e2] at e
        cases e
        exact .cons (hf w p v e1 i1) (mapM_dp hf e2 i2)
theorem pyW_is (r : Rel S c h H) : ∀ (k : Nat) (w : W) (p : PyData) (v : V), pyW k h w = some p → IsW S c w v → Dp S.K H v p
  | _, .d x, p, v, e, i => pyD_is r x v p (by cases ‹Nat› <;> exact e) i
  | 0, .r n, p, v, e, i => by cases e
  | k + 1, .r n, p, v, e, i => by
    obtain ⟨hn, rfl⟩ := i
    unfold pyW at e
    split at e
    · rename_i l em
      obtain ⟨vs, e1, e2⟩ := r.mu n _ em
      cases el : l.mapM (pyW k h) with
      | none => rw [el] at e; cases e
      | some ps =>
        rw [el] at e
        cases e
        exact .lst (.inl (.inl e1)) (mapM_dp (fun w p v => pyW_is r k w p v) el e2)
    · cases e
end
/-! ### ==, != -/
def sEqD (neg : Bool) : W → W → Hm → R W := fun x y h => match pyW 8 h x, pyW 8 h y with
  | some p, some q => if SeqAt.shaped p = true ∧ SeqAt.shaped q = true then .ok (.d (.bl (if neg = true then !PyData.eqv p q else PyData.eqv p q))) h else .no
  | _, _ => .no
def asT : W → Hm → Option (List (List Key) × List W)
  | .d (.dT ks l), _ => some (ks, l.map W.d)
  | .r n, h => match h[n]? with
    | some (.dT ks l) => some (ks, l)
    | _ => none
  | _, _ => none
def sEqT (neg : Bool) : W → W → Hm → R W := fun x y h => match asT x h, asT y h with
  | some (ks, l), some (js, m) => match l.mapM (pyW 8 h), m.mapM (pyW 8 h) with
    | some dk, some dl => if dk.all SeqAt.shaped = true ∧ dl.all SeqAt.shaped = true then .ok (.d (.bl (if neg = true then !(ks.length == js.length && askD js dl ks dk) else (ks.length == js.length && askD js dl ks dk)))) h else .no
    | _, _ => .no
  | _, _ => .no
/-- an instance; two dicts with tuple keys; data -/
def sEq (N : Kn) (Γ : Nat → Fn) (neg : Bool) : W → W → Hm → R W := fun x y h => if (insOf x h).isSome = true then sOwn N Γ neg x y h else if (asT x h).isSome = true then sEqT neg x y h else sEqD neg x y h
section
variable {X : Cx} {S : Sig} {k : Nat} {Wx : WX} {N : Kn} {fad : Nat → Addr} {Γ : Nat → Fn}
theorem asT_is {S : Sig} {c : C} {h : Hm} {H : Hp} {w : W} {v : V} {ks : List (List Key)} {l : List W} (r : Rel S c h H) (i : IsW S c w v) (e : asT w h = some (ks, l)) : ∃ a vs, v = .ref a ∧ ks.length = vs.length ∧ Rd H a (.dT (ks.zip vs)) ∧ IsWs S c l vs := by
  unfold asT at e
  split at e
  · cases e
    have i : IsD S c.F (.dT _ _) v := i
    simp only [IsD] at i
    obtain ⟨a, o, vs, rfl, hl, e1, e2⟩ := i
    exact ⟨a, vs, rfl, hl, .inr ⟨o, r.fz _ _ e1⟩, e2.toW⟩
  · rename_i n
    obtain ⟨hn, rfl⟩ := i
    split at e
    · rename_i em
      cases e
      obtain ⟨vs, hl, e1, e2⟩ := r.mu n _ em
      exact ⟨_, vs, rfl, hl, .inl e1, e2⟩
    · cases e
  · cases e
theorem o_eqD (neg : Bool) (qx : Qx X S k Wx) : OpR X (compareOp (if neg = true then .NotEq else .Eq)) (rS S (sEqD neg)) := by
  have hu : X.A.units + 64 < cLine := by have := qx.room.un; omega
  have go : ∀ x y H Q, rS S (sEqD neg) x y H Q → ∃ d e, Dp X.K H x d ∧ Dp X.K H y e ∧ SeqAt.shaped d = true ∧ SeqAt.shaped e = true ∧ Q (.bl (if neg = true then !PyData.eqv d e else PyData.eqv d e)) H := fun x y H Q ⟨c, h, w1, w2, r, i1, i2, q⟩ => by
    unfold sEqD at q
    split at q
    · rename_i p p2 e1 e2
      split at q
      · rename_i hs
        exact ⟨p, p2, by rw [← qx.K]; exact pyW_is r 8 _ _ _ e1 i1, by rw [← qx.K]; exact pyW_is r 8 _ _ _ e2 i2, hs.1, hs.2, q c H (Ext.refl c) r _ isW_mkbl⟩
      · exact q.elim
    · exact q.elim
  cases neg with
  | false => exact OpR.imp (op_eqD hu) go
  | true => exact OpR.imp (op_neD hu) go
theorem o_eqT (neg : Bool) (qx : Qx X S k Wx) : OpR X (compareOp (if neg = true then .NotEq else .Eq)) (rS S (sEqT neg)) := by
  have hu : X.A.units + 66 < cLine := by have := qx.room.un; omega
  refine OpR.imp (op_cmpT neg hu) fun x y H Q ⟨c, h, w1, w2, r, i1, i2, q⟩ => ?_
  unfold sEqT at q
  split at q
  · rename_i ks l js m e1 e2
    split at q
    · rename_i dk dl e3 e4
      split at q
      · rename_i hs
        obtain ⟨a, vs, rfl, l1, r1, j1⟩ := asT_is r i1 e1
        obtain ⟨b, us, rfl, l2, r2, j2⟩ := asT_is r i2 e2
        have m1 : (ks.zip vs).map (·.2) = vs := List.map_snd_zip (by omega)
        have m2 : (js.zip us).map (·.2) = us := List.map_snd_zip (by omega)
        have n1 : (ks.zip vs).map (·.1) = ks := List.map_fst_zip (by omega)
        have n2 : (js.zip us).map (·.1) = js := List.map_fst_zip (by omega)
        refine ⟨a, b, ks.zip vs, js.zip us, dk, dl, rfl, rfl, r1, r2, ?_, ?_, hs.1, hs.2, ?_⟩
        · rw [m1, ← qx.K]; exact mapM_dp (fun w p v => pyW_is r 8 w p v) e3 j1
        · rw [m2, ← qx.K]; exact mapM_dp (fun w p v => pyW_is r 8 w p v) e4 j2
        · rw [n1, n2, List.length_zip, List.length_zip, ← l1, ← l2, Nat.min_self, Nat.min_self]
          exact q c H (Ext.refl c) r _ isW_mkbl
      · exact q.elim
    · exact q.elim
  · exact q.elim
theorem o_eq (neg : Bool) (qx : Qx X S (k + 1) Wx) (gd : X.A.guards = some []) (ok : KnOk S N fad) (G : ∀ g, Calls X.prog X.w X.mg X.base S k (fad g) (Γ g)) : OpR X (compareOp (if neg = true then .NotEq else .Eq)) (rS S (sEq N Γ neg)) := by
  intro pins s σ H x y v u Q I rx ry ⟨c, h, w1, w2, r, i1, i2, q⟩
  unfold sEq at q
  split at q
  · exact o_own neg qx gd ok G pins s σ H x y v u Q I rx ry ⟨c, h, w1, w2, r, i1, i2, q⟩
  · split at q
    · exact o_eqT neg qx pins s σ H x y v u Q I rx ry ⟨c, h, w1, w2, r, i1, i2, q⟩
    · exact o_eqD neg qx pins s σ H x y v u Q I rx ry ⟨c, h, w1, w2, r, i1, i2, q⟩
/-! ### repr -/
def isRefW : W → Bool
  | .d (.tup _) => true
  | .d (.lst _) => true
  | .d (.scr _) => true
  | .r _ => true
  | _ => false
def sRepr : List W → Hm → R W := fun ws h => match ws with
  | [w] => match pyW 8 h w with
    | some p => if isRefW w = true ∧ p.showable = true ∧ p.hasDict = false ∧ p.depth ≤ 60 ∧ p.shown.length ≤ sizeLine then .ok (.d (.str p.shown)) h else .no
    | none => .no
  | _ => .no
theorem c_repr (qx : Qx X S k Wx) (gd : X.A.guards = some []) : CallR X (.builtin "repr") (rSs0 S sRepr) := by
  intro pins s σ H vs us Q I rv ⟨c, h, ws, r, iw, q⟩
  unfold sRepr at q
  split at q
  · rename_i w
    obtain ⟨v, vr, rfl, iv, ir⟩ := iw
    cases (show vr = [] from ir)
    split at q
    · rename_i p ep
      split at q
      · rename_i hc
        obtain ⟨h1, h2, h3, h4, h5⟩ := hc
        obtain ⟨u, rfl, rx⟩ := vals1 rv
        obtain ⟨as, rd⟩ := Dp.reads I p v u (by rw [← qx.K]; exact pyW_is r 8 w p v ep iv) rx
        obtain ⟨a, rfl⟩ : ∃ a, v = .ref a := by
          cases w with
          | r n => exact ⟨_, iv.2⟩
          | d x =>
            have iv : IsD S c.F x v := iv
            cases x <;> first
              | (cases h1; done)
              | (simp only [IsD] at iv; obtain ⟨a, _, e, _⟩ := iv; exact ⟨a, e⟩)
        obtain rfl : u = Value.ref a := rx
        refine repr_of_reads' rd h2 (fun e => by rw [h3] at e; cases e) gd (by have := qx.room.un; omega) (fun _ _ e => e) (fun h' u tk hk => ⟨.str p.shown, H, I.kept hk, ⟨u, rfl⟩, q c H (Ext.refl c) r _ ?_⟩) h5
        show IsD S c.F (.str _) _
        simp only [IsD]
      · exact q.elim
    · exact q.elim
  · exact q.elim
end
end Mi

/-! Ma 8: +, *, in, append, tuple, list, min, max, dict. -/
namespace Mi
open PySem L2 PySem.Spec PyProof.Rows

/-- a list's items; the list itself is tracked -/
def lstOf : W → Hm → Option (List W)
  | .d (.lst l), _ => some (l.map W.d)
  | .r n, h => match h[n]? with
    | some (.lst l) => some l
    | _ => none
  | _, _ => none
section
variable {S : Sig} {c : C} {h : Hm} {H : Hp}
theorem lstOf_at {w : W} {v : V} {l : List W} (r : Rel S c h H) (i : IsW S c w v) (e : lstOf w h = some l) : ∃ a vs, v = .ref a ∧ H a = some (.lst vs) ∧ IsWs S c l vs := by
  unfold lstOf at e
  split at e
  · cases e
    have i : IsD S c.F (.lst _) v := i
    simp only [IsD] at i
    obtain ⟨a, vs, e1, e2, e3⟩ := i
    exact ⟨a, vs, e1, r.fz _ _ e2, e3.toW⟩
  · rename_i n
    obtain ⟨hn, rfl⟩ := i
    split at e
    · rename_i e0
      cases e
      obtain ⟨vs, e1, e2⟩ := r.mu n _ e0
      exact ⟨_, vs, rfl, e1, e2⟩
    · cases e
  · cases e
/-- a new list of the small heap -/
theorem new_lst {Q : C → W → Hm → Hp → Prop} {Qe : Value → Option Addr → Hp → Prop} {l : List W} {vs : List V} (r : Rel S c h H) (i : IsWs S c l vs) (q : Aft S c (.ok (.r h.length) (h ++ [.lst l])) (fun c' w _ H' => ∀ v, IsW S c' w v → ∀ H2, H2 = H' → Q c' w h H') Qe) : True := True.intro
theorem laid_lst {P : V → Hp → Prop} {Qe : Value → Option Addr → Hp → Prop} {l : List W} {vs : List V} (r : Rel S c h H) (i : IsWs S c l vs) (q : Aft S c (.ok (.r h.length) (h ++ [.lst l]) : R W) (fun c' w _ H' => ∀ v, IsW S c' w v → P v H') Qe) : ∀ p, H p = none → P (.ref p) (upd H p (.lst vs)) := fun p hp => by
  refine q _ _ Ext.addM (r.addM (m := .lst l) hp ⟨vs, upd_same, i.mono Ext.addM⟩) _ ⟨?_, ?_⟩
  · show h.length < c.n + 1
    rw [r.sz]; exact Nat.lt_succ_self _
  · show V.ref p = .ref (if h.length = c.n then p else c.ι h.length)
    rw [if_pos r.sz.symm]
theorem laid_tup {P : V → Hp → Prop} {Qe : Value → Option Addr → Hp → Prop} {l : List D} {vs : List V} (r : Rel S c h H) (i : IsDs S c.F l vs) (q : Aft S c (.ok (.d (.tup l)) h : R W) (fun c' w _ H' => ∀ v, IsW S c' w v → P v H') Qe) : ∀ p, H p = none → P (.ref p) (upd H p (.tup vs)) := fun p hp => by
  have x : Ext c (c.addF p (.tup vs)) := Ext.addF (r.nonF hp)
  refine q _ _ x (r.addF hp) _ ?_
  show IsD S _ (.tup l) _
  simp only [IsD]
  exact ⟨p, vs, rfl, upd_same, i.mono x.F⟩
theorem isWs_rep {l : List W} {vs : List V} (i : IsWs S c l vs) : ∀ n : Nat, IsWs S c (List.replicate n l).flatten (List.replicate n vs).flatten
  | 0 => rfl
  | n + 1 => by rw [List.replicate_succ, List.replicate_succ, List.flatten_cons, List.flatten_cons]; exact i.append (isWs_rep i n)
end
/-! ### + -/
def sAdd : W → W → Hm → R W := fun x y h => match x, y with
  | .d (.int i), .d (.int j) => .ok (.d (.int (i + j))) h
  | .d (.tup l), .d (.tup m) => if l ≠ [] ∧ l.length + m.length ≤ sizeLine then .ok (.d (.tup (l ++ m))) h else .no
  | x, y => match lstOf x h, lstOf y h with
    | some l, some m => if l.length + m.length ≤ sizeLine then .ok (.r h.length) (h ++ [.lst (l ++ m)]) else .no
    | _, _ => .no
section
variable {X : Cx} {S : Sig} {k : Nat} {Wx : WX}
theorem isDs_nil {F : Hp} {l : List D} {vs : List V} (i : IsDs S F l vs) (h : vs = []) : l = [] := by
  have := i.length
  rw [h] at this
  exact List.eq_nil_of_length_eq_zero this
theorem o_addA (qx : Qx X S k Wx) : OpR X (binaryOp .Add) (rS S sAdd) := by
  intro pins s σ H x y v u Q I rx ry ⟨c, h, w1, w2, r, i1, i2, q⟩
  unfold sAdd at q
  split at q
  · rename_i i j
    exact o_add pins s σ H x y v u Q I rx ry ⟨c, h, .d (.int i), .d (.int j), r, i1, i2, q⟩
  · rename_i l m
    split at q
    · rename_i hc
      have i1 : IsD S c.F (.tup l) x := i1
      have i2 : IsD S c.F (.tup m) y := i2
      simp only [IsD] at i1 i2
      obtain ⟨a, vs, rfl, e1, j1⟩ := i1
      obtain ⟨b, us, rfl, e2, j2⟩ := i2
      have l1 := j1.length
      have l2 := j2.length
      refine op_catT pins s σ H _ _ v u Q I rx ry ⟨a, b, vs, us, rfl, rfl, .inl (.inl (r.fz _ _ e1)), .inl (.inl (r.fz _ _ e2)), fun z => hc.1 (isDs_nil j1 z), by omega, fun z => ?_, fun _ => laid_tup r (j1.append j2) q⟩
      have hm := isDs_nil j2 z
      subst hm
      rw [List.append_nil] at q
      refine q c H (Ext.refl c) r _ ?_
      show IsD S c.F (.tup l) _
      simp only [IsD]
      exact ⟨a, vs, rfl, e1, j1⟩
    · exact q.elim
  · split at q
    · rename_i l m e1 e2
      split at q
      · rename_i hz
        obtain ⟨a, vs, rfl, h1, j1⟩ := lstOf_at r i1 e1
        obtain ⟨b, us, rfl, h2, j2⟩ := lstOf_at r i2 e2
        have l1 := j1.length
        have l2 := j2.length
        exact op_cat pins s σ H _ _ v u Q I rx ry ⟨a, b, vs, us, rfl, rfl, h1, h2, by omega, laid_lst r (j1.append j2) q⟩
      · exact q.elim
    · exact q.elim
/-! ### * -/
def sMul : W → W → Hm → R W := fun x y h => match x, y with
  | .d (.int i), .d (.int j) => if cMul i j = true then .ok (.d (.int (i * j))) h else .no
  | x, .d (.int j) => match lstOf x h with
    | some l => if -(2 ^ 63) ≤ j ∧ j < 2 ^ 63 ∧ l.length * j.toNat ≤ sizeLine then .ok (.r h.length) (h ++ [.lst (List.replicate j.toNat l).flatten]) else .no
    | none => .no
  | _, _ => .no
theorem o_mulA (qx : Qx X S k Wx) : OpR X (binaryOp .Mult) (rS S sMul) := by
  intro pins s σ H x y v u Q I rx ry ⟨c, h, w1, w2, r, i1, i2, q⟩
  unfold sMul at q
  split at q
  · rename_i i j
    exact o_mul pins s σ H x y v u Q I rx ry ⟨c, h, .d (.int i), .d (.int j), r, i1, i2, q⟩
  · rename_i j _
    split at q
    · rename_i l e1
      split at q
      · rename_i hc
        obtain ⟨a, vs, rfl, h1, j1⟩ := lstOf_at r i1 e1
        have i2 : IsD S c.F (.int j) y := i2
        simp only [IsD] at i2
        subst i2
        exact op_rep pins s σ H _ _ v u Q I rx ry ⟨a, j, vs, rfl, rfl, h1, hc.1, hc.2.1, by rw [← j1.length]; exact hc.2.2, laid_lst r (isWs_rep j1 _) q⟩
      · exact q.elim
    · exact q.elim
  · exact q.elim
/-! ### in -/
def flD : D → Option V
  | .non => some .non
  | .bl b => some (.bl b)
  | .int i => some (.int i)
  | .str x => some (.str x)
  | _ => none
def flW : W → Option V
  | .d x => flD x
  | .r _ => none
theorem flD_is {F : Hp} {x : D} {v u : V} (e : flD x = some u) (i : IsD S F x v) : v = u ∧ flatV v = true := by
  cases x <;> first
    | (cases e; done)
    | (cases e; simp only [IsD] at i; subst i; exact ⟨rfl, rfl⟩)
theorem flW_is {c : C} {w : W} {v u : V} (e : flW w = some u) (i : IsW S c w v) : v = u ∧ flatV v = true := by
  cases w with
  | r n => cases e
  | d x => exact flD_is e i
theorem flWs_is {c : C} : ∀ {l : List W} {us vs : List V}, l.mapM flW = some us → IsWs S c l vs → vs = us ∧ vs.all flatV = true
  | [], us, vs, e, i => by
    cases e
    cases (show vs = [] from i)
    exact ⟨rfl, rfl⟩
  | w :: l, us, vs, e, ⟨v, r, ev, i1, i2⟩ => by
    subst ev
    rw [List.mapM_cons] at e
    cases e1 : flW w with
    | none => rw [e1] at e; cases e
    | some p =>
      rw [e1] at e
      cases e2 : l.mapM flW with
      | none => rw [e2] at e; cases e
      | some q =>
        rw [e2] at e
        cases e
        obtain ⟨rfl, f1⟩ := flW_is e1 i1
        obtain ⟨rfl, f2⟩ := flWs_is e2 i2
        exact ⟨rfl, by rw [List.all_cons, f1, f2]; rfl⟩
def sIn (neg : Bool) : W → W → Hm → R W := fun x y h => if isDct y h = true then (match dctAt y x h with
    | some o => .ok (.d (.bl (if neg = true then !o.isSome else o.isSome))) h
    | none => .no) else match seqOf y h, flW x with
    | some l, some u => match l.mapM flW with
      | some us => .ok (.d (.bl (if neg = true then !inV u us else inV u us))) h
      | none => .no
    | _, _ => .no
theorem o_in (neg : Bool) (qx : Qx X S k Wx) : OpR X (compareOp (if neg = true then .NotIn else .In)) (rS S (sIn neg)) := by
  intro pins s σ H x y v u Q I rx ry ⟨c, h, w1, w2, r, i1, i2, q⟩
  unfold sIn at q
  split at q
  · split at q
    · rename_i o eo
      obtain ⟨a, ov, rfl, g, n1, n2⟩ := dctAt_is r i2 i1 eo
      obtain rfl : u = Value.ref a := ry
      have hs : ov.isSome = o.isSome := by
        cases o with
        | none => rw [n1 rfl]; rfl
        | some w => obtain ⟨vv, rfl, _⟩ := n2 w rfl; rfl
      have fin := q c H (Ext.refl c) r _ isW_mkbl
      have hu := hu_of qx.room
      cases neg with
      | false => exact d_in hu I g rx fun s' I' => ⟨.bl ov.isSome, H, I', rfl, by rw [hs]; exact fin⟩
      | true => exact d_notIn hu I g rx fun s' I' => ⟨.bl (!ov.isSome), H, I', rfl, by rw [hs]; exact fin⟩
    · exact q.elim
  · split at q
    · rename_i l u1 el e1
      split at q
      · rename_i us eu
        obtain ⟨a, vs, rfl, sq, il⟩ := seqOf_at qx.K r i2 el
        obtain ⟨rfl, f1⟩ := flW_is e1 i1
        obtain ⟨rfl, f2⟩ := flWs_is eu il
        have sq' : SqL X.K H a vs ∨ SqT X.K H a vs := by
          cases ht : isTupW w2 with
          | true => rw [ht] at sq; exact .inr sq
          | false => rw [ht] at sq; exact .inl sq
        have fin := q c H (Ext.refl c) r _ isW_mkbl
        cases neg with
        | false => exact op_in_seq pins s σ H _ _ v u Q I rx ry ⟨a, vs, rfl, sq', f1, f2, fin⟩
        | true => exact op_notIn_seq pins s σ H _ _ v u Q I rx ry ⟨a, vs, rfl, sq', f1, f2, fin⟩
      · exact q.elim
    · exact q.elim
/-! ### append, tuple, list, dict, min, max -/
def sAppend : W → List W → Hm → R W := fun w ws h => match w, ws with
  | .r n, [y] => match h[n]? with
    | some (.lst l) => if l.length < sizeLine then .ok (.d .non) (h.set n (.lst (l ++ [y]))) else .no
    | _ => .no
  | _, _ => .no
def rSm0 (S : Sig) (sem : W → List W → Hm → R W) : V → List V → Hp → VK → Prop := fun x vs H Q => ∃ c h w ws, Rel S c h H ∧ IsW S c w x ∧ IsWs S c ws vs ∧ Aft S c (sem w ws h) (fun c' w _ H' => ∀ v, IsW S c' w v → Q v H') (fun _ _ _ => True)
theorem isW_non {c : C} : IsW S c (.d .non) .non := by
  show IsD S c.F .non _
  simp only [IsD]
theorem m_append : MtR X "list.append" (rSm0 S sAppend) := by
  intro pins s σ H x vs v us Q I rx rv ⟨c, h, w, ws, r, iw, iws, q⟩
  unfold sAppend at q
  split at q
  · rename_i n y
    split at q
    · rename_i l em
      split at q
      · rename_i hz
        obtain ⟨hn, rfl⟩ := iw
        obtain ⟨yv, vr, rfl, iy, ir⟩ := iws
        cases (show vr = [] from ir)
        obtain ⟨xs, e1, e2⟩ := r.mu n _ em
        refine mt_append pins s σ H _ _ v us Q I rx rv ⟨_, xs, yv, rfl, rfl, e1, by rw [← e2.length]; exact hz, ?_⟩
        exact q c _ (Ext.refl c) (r.set (m := .lst (l ++ [y])) em rfl ⟨_, upd_same, e2.append ⟨yv, [], rfl, iy, rfl⟩⟩) _ isW_non
      · exact q.elim
    · exact q.elim
  · exact q.elim
def sTuple : List W → Hm → R W := fun ws h => match ws with
  | [.d (.tup l)] => .ok (.d (.tup l)) h
  | [w] => match seqOf w h with
    | some l => match pures l with
      | some ds => .ok (.d (.tup ds)) h
      | none => .no
    | none => .no
  | _ => .no
theorem c_tuple (qx : Qx X S k Wx) : CallR X (.type "tuple") (rSs0 S sTuple) := by
  intro pins s σ H vs us Q I rv ⟨c, h, ws, r, iw, q⟩
  unfold sTuple at q
  split at q
  · rename_i l
    obtain ⟨v, vr, rfl, iv, ir⟩ := iw
    cases (show vr = [] from ir)
    have iv' : IsD S c.F (.tup l) v := iv
    simp only [IsD] at iv'
    obtain ⟨a, xs, rfl, e1, e2⟩ := iv'
    exact call_tuple_of pins s σ H _ us Q I rv ⟨a, xs, rfl, .inr ⟨.inl (.inl (r.fz _ _ e1)), q c H (Ext.refl c) r _ iv⟩⟩
  · rename_i w hne
    obtain ⟨v, vr, rfl, iv, ir⟩ := iw
    cases (show vr = [] from ir)
    split at q
    · rename_i l el
      split at q
      · rename_i ds ed
        obtain ⟨a, xs, rfl, sq, il⟩ := seqOf_at qx.K r iv el
        have ht : isTupW w = false := by
          cases w with
          | r n => rfl
          | d x => cases x <;> first | rfl | exact absurd rfl (hne _)
        rw [ht] at sq
        exact call_tuple_of pins s σ H _ us Q I rv ⟨a, xs, rfl, .inl ⟨sq, laid_tup r (pures_is ed il) q⟩⟩
      · exact q.elim
    · exact q.elim
  · exact q.elim
def sList : List W → Hm → R W := fun ws h => match ws with
  | [w] => match seqOf w h with
    | some l => .ok (.r h.length) (h ++ [.lst l])
    | none => .no
  | _ => .no
theorem c_list (qx : Qx X S k Wx) : CallR X (.type "list") (rSs0 S sList) := by
  intro pins s σ H vs us Q I rv ⟨c, h, ws, r, iw, q⟩
  unfold sList at q
  split at q
  · rename_i w
    obtain ⟨v, vr, rfl, iv, ir⟩ := iw
    cases (show vr = [] from ir)
    split at q
    · rename_i l el
      obtain ⟨a, xs, rfl, sq, il⟩ := seqOf_at qx.K r iv el
      refine call_list_of pins s σ H _ us Q I rv ⟨a, xs, rfl, ?_, laid_lst r il q⟩
      cases ht : isTupW w with
      | true => rw [ht] at sq; exact .inr sq
      | false => rw [ht] at sq; exact .inl sq
    · exact q.elim
  · exact q.elim
def sMM (mx : Bool) : List W → Hm → R W := fun ws h => match ws with
  | [.d (.int i), .d (.int j)] => .ok (.d (.int (if mx = true then (if j > i then j else i) else (if j < i then j else i)))) h
  | _ => .no
theorem c_mm (mx : Bool) (qx : Qx X S k Wx) : CallR X (.builtin (if mx = true then "max" else "min")) (rSs0 S (sMM mx)) := by
  intro pins s σ H vs us Q I rv ⟨c, h, ws, r, iw, q⟩
  unfold sMM at q
  split at q
  · rename_i i j
    obtain ⟨v, vr, rfl, iv, v2, vr2, rfl, iv2, ir⟩ := iw
    cases (show vr2 = [] from ir)
    have iv : IsD S c.F (.int i) v := iv
    have iv2 : IsD S c.F (.int j) v2 := iv2
    simp only [IsD] at iv iv2
    subst iv iv2
    have fin := q c H (Ext.refl c) r _ isW_mkint
    cases mx with
    | true => exact call_max2 qx.calm pins s σ H _ us Q I rv ⟨i, j, rfl, fin⟩
    | false => exact call_min2 qx.calm pins s σ H _ us Q I rv ⟨i, j, rfl, fin⟩
  · exact q.elim
end
end Mi

/-! Ma 9: dict(d), tuple(range(n)), d.items(), displays of dicts, is. -/
namespace Mi
open PySem L2 PySem.Spec PyProof.Rows

/-! ### the hashes of small pairs differ -/
def hash2 (i j : Int) : Int := reduceHash (Builtin.Tuple.tupleHashOf [hashInt i, hashInt j])
def i8 : List Int := [0, 1, 2, 3, 4, 5, 6, 7]
def pairs8 : List (Int × Int) := i8.flatMap fun i => i8.map fun j => (i, j)
theorem apart8 : (pairs8.map fun p => hash2 p.1 p.2).Nodup := by decide +kernel
theorem mem8 {i j : Int} (h1 : 0 ≤ i) (h2 : i < 8) (h3 : 0 ≤ j) (h4 : j < 8) : (i, j) ∈ pairs8 := by
  have m : ∀ x : Int, 0 ≤ x → x < 8 → x ∈ i8 := fun x a b => by
    unfold i8
    simp only [List.mem_cons, List.not_mem_nil, or_false]
    omega
  unfold pairs8
  rw [List.mem_flatMap]
  exact ⟨i, m i h1 h2, List.mem_map.mpr ⟨j, m j h3 h4, rfl⟩⟩
def small2 : List Key → Bool
  | [.inl i, .inl j] => decide (0 ≤ i) && decide (i < 8) && decide (0 ≤ j) && decide (j < 8)
  | _ => false
theorem nodup_inj {α β : Type} {f : α → β} : ∀ {l : List α}, (l.map f).Nodup → ∀ x ∈ l, ∀ y ∈ l, f x = f y → x = y
  | [], _, x, hx, _, _, _ => by cases hx
  | a :: l, h, x, hx, y, hy, e => by
    rw [List.map_cons, List.nodup_cons] at h
    rcases List.mem_cons.mp hx with hx | hx <;> rcases List.mem_cons.mp hy with hy | hy
    · rw [hx, hy]
    · rw [hx] at e; exact absurd (List.mem_map.mpr ⟨y, hy, e.symm⟩) h.1
    · rw [hy] at e; exact absurd (List.mem_map.mpr ⟨x, hx, e⟩) h.1
    · exact nodup_inj h.2 x hx y hy e
theorem hash_inj {P : Program} {w : World} {a b : List Key} (ha : small2 a = true) (hb : small2 b = true) (e : hashT P w a = hashT P w b) : a = b := by
  unfold small2 at ha
  split at ha
  · rename_i i j
    unfold small2 at hb
    split at hb
    · rename_i i' j'
      simp only [Bool.and_eq_true, decide_eq_true_eq] at ha hb
      have e : hash2 i j = hash2 i' j' := e
      have := nodup_inj apart8 (i, j) (mem8 ha.1.1.1 ha.1.1.2 ha.1.2 ha.2) (i', j') (mem8 hb.1.1.1 hb.1.1.2 hb.1.2 hb.2) e
      cases this
      rfl
    · cases hb
  · cases ha
theorem hash_nodup {P : Program} {w : World} : ∀ {ks : List (List Key)}, ks.all small2 = true → ks.Nodup → (ks.map (hashT P w)).Nodup
  | [], _, _ => List.nodup_nil
  | k :: ks, h, n => by
    rw [List.all_cons, Bool.and_eq_true] at h
    rw [List.nodup_cons] at n
    rw [List.map_cons, List.nodup_cons]
    refine ⟨fun z => ?_, hash_nodup h.2 n.2⟩
    obtain ⟨k', hk, e⟩ := List.mem_map.mp z
    exact n.1 (hash_inj h.1 (List.all_eq_true.mp h.2 _ hk) e.symm ▸ hk)
/-! ### dict(d) -/
def asK : W → Hm → Option (List Key × List W)
  | .d (.dK ks l), _ => some (ks, l.map W.d)
  | .r n, h => match h[n]? with
    | some (.dK ks l) => some (ks, l)
    | _ => none
  | _, _ => none
def sDict : List W → Hm → R W := fun ws h => match ws with
  | [w] => match asT w h with
    | some (ks, l) => if ks.all small2 = true ∧ ks.Nodup then .ok (.r h.length) (h ++ [.dT ks l]) else .no
    | none => match asK w h with
      | some (ks, l) => .ok (.r h.length) (h ++ [.dK ks l])
      | none => .no
  | _ => .no
section
variable {S : Sig} {c : C} {h : Hm} {H : Hp}
theorem asK_is {w : W} {v : V} {ks : List Key} {l : List W} (r : Rel S c h H) (i : IsW S c w v) (e : asK w h = some (ks, l)) : ∃ a vs, v = .ref a ∧ ks.length = vs.length ∧ Rd H a (.dK (ks.zip vs)) ∧ IsWs S c l vs := by
  unfold asK at e
  split at e
  · cases e
    have i : IsD S c.F (.dK _ _) v := i
    simp only [IsD] at i
    obtain ⟨a, o, vs, rfl, hl, e1, e2⟩ := i
    exact ⟨a, vs, rfl, hl, .inr ⟨o, r.fz _ _ e1⟩, e2.toW⟩
  · rename_i n
    obtain ⟨hn, rfl⟩ := i
    split at e
    · rename_i em
      cases e
      obtain ⟨vs, hl, e1, e2⟩ := r.mu n _ em
      exact ⟨_, vs, rfl, hl, .inl e1, e2⟩
    · cases e
  · cases e
theorem laidM {P : V → Hp → Prop} {Qe : Value → Option Addr → Hp → Prop} {m : MO} {o : HO} (r : Rel S c h H) (i : ∀ c' H' p, Ext c c' → H' p = some o → IsO S c' H' p m) (q : Aft S c (.ok (.r h.length) (h ++ [m]) : R W) (fun c' w _ H' => ∀ v, IsW S c' w v → P v H') Qe) : ∀ p, H p = none → P (.ref p) (upd H p o) := fun p hp => by
  refine q _ _ Ext.addM (r.addM (m := m) hp (i _ _ _ Ext.addM upd_same)) _ ⟨?_, ?_⟩
  · show h.length < c.n + 1
    rw [r.sz]; exact Nat.lt_succ_self _
  · show V.ref p = .ref (if h.length = c.n then p else c.ι h.length)
    rw [if_pos r.sz.symm]
end
section
variable {X : Cx} {S : Sig} {k : Nat} {Wx : WX} {pos : Pos}
theorem c_dict (qx : Qx X S k Wx) : CallR X (.type "dict") (rSs0 S sDict) := by
  intro pins s σ H vs us Q I rv ⟨c, h, ws, r, iw, q⟩
  unfold sDict at q
  split at q
  · rename_i w
    obtain ⟨v, vr, rfl, iv, ir⟩ := iw
    cases (show vr = [] from ir)
    split at q
    · rename_i ks l et
      split at q
      · rename_i hc
        obtain ⟨a, xs, rfl, hl, rd, il⟩ := asT_is r iv et
        have n1 : (ks.zip xs).map (·.1) = ks := List.map_fst_zip (by omega)
        refine call_dictT (by have := qx.room.un; omega) pins s σ H _ us Q I rv ⟨a, _, rfl, rd, by rw [n1]; exact hash_nodup hc.1 hc.2, laidM (m := .dT ks l) r (fun c' H' p x e => ⟨xs, hl, e, il.mono x⟩) q⟩
      · exact q.elim
    · split at q
      · rename_i ks l et
        obtain ⟨a, xs, rfl, hl, rd, il⟩ := asK_is r iv et
        exact call_dictD pins s σ H _ us Q I rv ⟨a, _, rfl, rd, laidM (m := .dK ks l) r (fun c' H' p x e => ⟨xs, hl, e, il.mono x⟩) q⟩
      · exact q.elim
  · exact q.elim
/-! ### tuple(range(n)), list(range(n)) -/
def rngD (a b : Int) : List D := (List.range (b - a).toNat).map fun i => .int (a + (i : Nat))
def rgB (a b : Int) : Bool := decide (-(2 ^ 62) ≤ a) && decide (a < 2 ^ 62) && decide (-(2 ^ 62) ≤ b) && decide (b < 2 ^ 62) && decide ((b - a).toNat ≤ 2 ^ 24)
def vTupR (f : Fe) : Fe := fun env h => (f env h).bind fun w h1 => match w with
  | .d (.int n) => if rgB 0 n = true then .ok (.d (.tup (rngD 0 n))) h1 else .no
  | _ => .no
def vLstR (f : Fe) : Fe := fun env h => (f env h).bind fun w h1 => match w with
  | .d (.int n) => if rgB 0 n = true then .ok (.r h1.length) (h1 ++ [.lst ((rngD 0 n).map W.d)]) else .no
  | _ => .no
theorem isDs_rng {S : Sig} {F : Hp} {a b : Int} : IsDs S F (rngD a b) (rgV a b) := by
  unfold rngD rgV
  generalize (List.range (b - a).toNat) = l
  induction l with
  | nil => simp [IsDs]
  | cons x l ih =>
    simp only [List.map_cons, IsDs, IsD]
    exact ⟨_, _, rfl, rfl, ih⟩
theorem rgB_is {a b : Int} (h : rgB a b = true) : RgOk a b := by
  unfold rgB at h
  simp only [Bool.and_eq_true, decide_eq_true_eq] at h
  exact ⟨h.1.1.1.1, h.1.1.1.2, h.1.1.2, h.1.2, h.2⟩
theorem rng_noStar {e : Expr} {es : List Expr} {p pos : Pos} {env : Env} : starEach [.Call e es [] pos] env = (false, eval (.Call e es [] pos) env) :: starEach [] env := rfl
theorem me_tupR {e : Expr} {p1 p2 p3 : Pos} {f : Fe} (qx : Qx X S k Wx) (hg : Gl X "tuple") (hm : X.mg "tuple" = none) (hg2 : Gl X "range") (hm2 : X.mg "range" = none) (he : PE X e (TEof S Wx f)) (hs : noStar [e] = true) : PE X (.Call (.Name "tuple" p1) [.Call (.Name "range" p2) [e] [] p3] [] pos) (TEof S Wx (vTupR f)) :=
  pe_mono (pe_tupRg qx.calm hg hm (prg_1 hg2 hm2 he (noStar_cons hs).1) rfl) fun σ H Q ⟨c, env, h, ev, r, q⟩ => ⟨c, env, h, ev, r, q.bind.mono (Ext.refl c) (fun c1 w h1 H1 x1 r1 q1 v iv => by
    split at q1
    · rename_i n
      split at q1
      · rename_i hb
        have iv : IsD S c1.F (.int n) v := iv
        simp only [IsD] at iv
        exact ⟨n, iv, rgB_is hb, laid_tup r1 isDs_rng q1⟩
      · exact q1.elim
    · exact q1.elim) fun _ _ _ q => q⟩
theorem me_lstR {e : Expr} {p1 p2 p3 : Pos} {f : Fe} (qx : Qx X S k Wx) (hg : Gl X "list") (hm : X.mg "list" = none) (hg2 : Gl X "range") (hm2 : X.mg "range" = none) (he : PE X e (TEof S Wx f)) (hs : noStar [e] = true) : PE X (.Call (.Name "list" p1) [.Call (.Name "range" p2) [e] [] p3] [] pos) (TEof S Wx (vLstR f)) :=
  pe_mono (pe_listRg qx.calm hg hm (prg_1 hg2 hm2 he (noStar_cons hs).1) rfl) fun σ H Q ⟨c, env, h, ev, r, q⟩ => ⟨c, env, h, ev, r, q.bind.mono (Ext.refl c) (fun c1 w h1 H1 x1 r1 q1 v iv => by
    split at q1
    · rename_i n
      split at q1
      · rename_i hb
        have iv : IsD S c1.F (.int n) v := iv
        simp only [IsD] at iv
        exact ⟨n, iv, rgB_is hb, laid_lst r1 isDs_rng.toW q1⟩
      · exact q1.elim
    · exact q1.elim) fun _ _ _ q => q⟩
/-! ### for k, v in d.items(), d a tree with tuple keys -/
def keyT (k : List Key) : D := .tup (k.map fun x => match x with
  | .inl i => .int i
  | .inr s => .str s)
def iItems' (f : Fe) : Fa := fun env h => (f env h).bind fun w h1 => match w with
  | .d (.dT ks l) => .ok ((ks.zip l).map fun p => .d (.tup [keyT p.1, p.2])) h1
  | _ => .no
theorem isDs_keys {F : Hp} : ∀ k : List Key, IsDs S F (k.map fun x => match x with
  | .inl i => D.int i
  | .inr s => D.str s) (k.map kV)
  | [] => by simp [IsDs]
  | .inl i :: k => by
    simp only [List.map_cons, IsDs, IsD]
    exact ⟨_, _, rfl, rfl, isDs_keys k⟩
  | .inr i :: k => by
    simp only [List.map_cons, IsDs, IsD]
    exact ⟨_, _, rfl, rfl, isDs_keys k⟩
/-- the key's own tuple is tracked: it joins the frozen part -/
theorem Rel.joinF {c : C} {h : Hm} {H : Hp} {q : Addr} {o : HO} (r : Rel S c h H) (hq : H q = Option.some o) (ho : ∀ ps, o ≠ .tbl ps) (free : ∀ n m, h[n]? = Option.some m → m.live = true → c.ι n ≠ q) (hP : c.P q = Option.none) (hF : c.F q = Option.none ∨ c.F q = Option.some o) : Ext c (c.addF q o) ∧ Rel S (c.addF q o) h H := by
  have x : Ext c (c.addF q o) := ⟨rfl, fun _ _ => rfl, fun b u e => by
    show upd c.F q o b = _
    by_cases hb : b = q
    · subst hb
      rw [upd_same]
      rcases hF with z | z
      · rw [z] at e; cases e
      · rw [z] at e; exact e
    · rw [upd_ne hb]; exact e, Nat.le_refl _⟩
  refine ⟨x, r.sz, fun b u e => ?_, fun n m e => ?_, fun n m e lv => ?_, r.inj, r.pr, fun b u e => ?_, r.pm, r.pt, r.am, ⟨upd_nt r.nt.1 ho, r.nt.2⟩⟩
  · have e : upd c.F q o b = Option.some u := e
    by_cases hb : b = q
    · subst hb; rw [upd_same] at e; rw [hq]; exact e
    · rw [upd_ne hb] at e; exact r.fz b u e
  · exact (r.mu n m e).up x rfl
  · show upd c.F q o (c.ι n) = Option.none
    rw [upd_ne (free n m e lv)]
    exact r.nf n m e lv
  · have e : c.P b = Option.some u := e
    show upd c.F q o b = Option.none
    rw [upd_ne fun z => by rw [z, hP] at e; cases e]
    exact r.pf b u e

theorem itp_ok {c : C} {d : Addr} {o : Obj} {ks : List (List Key)} {l : List D} {vs : List V} (hl : ks.length = vs.length) (hF : c.F d = some (.frz o (.dT (ks.zip vs)))) (il : IsDs S c.F l vs) : ItOk S c (Itp d o (ks.zip vs)) ((ks.zip l).map fun p => .d (.tup [keyT p.1, p.2])) := by
  have l2 := il.length
  refine ⟨fun i hi c' h' H' x r' => ⟨r'.fz _ _ (x.F _ _ hF), ?_⟩, fun i w e c' h' H' x r' => ?_⟩
  · rw [List.length_map, List.length_zip] at hi
    rw [List.length_zip]
    omega
  · rw [List.getElem?_map] at e
    cases e0 : (ks.zip l)[i]? with
    | none => rw [e0] at e; cases e
    | some p =>
      rw [e0] at e
      cases e
      obtain ⟨k, x0⟩ := p
      rw [List.getElem?_zip_eq_some] at e0
      obtain ⟨e1, e2⟩ := e0
      obtain ⟨v, e3, iv⟩ := il.get e2
      have e4 : (ks.zip vs)[i]? = some (k, v) := by rw [List.getElem?_zip_eq_some]; exact ⟨e1, e3⟩
      refine ⟨⟨r'.fz _ _ (x.F _ _ hF), (List.getElem?_eq_some_iff.mp e4).1⟩, fun y H2 ⟨T, k', v', q, g1, g2, g3, g4, g5⟩ => ?_⟩
      rw [e4] at g1
      cases g1
      subst g2 g5
      have free : ∀ n m, h'[n]? = some m → m.live = true → c'.ι n ≠ q := fun n m em lv z => by
        have iso := r'.mu n m em
        rw [z] at iso
        cases m with
        | lst l => obtain ⟨_, w, _⟩ := iso; rw [g4] at w; cases w
        | dK ks l => obtain ⟨_, _, w, _⟩ := iso; rw [g4] at w; cases w
        | dT ks l => obtain ⟨_, _, w, _⟩ := iso; rw [g4] at w; cases w
        | ins t fs l => obtain ⟨_, _, _, w, _⟩ := iso; rw [g4] at w; cases w
        | dead => cases lv
      have hP : c'.P q = none := by
        cases ep : c'.P q with
        | none => rfl
        | some u =>
          have := r'.pr _ _ ep
          rw [g4] at this
          cases this
          exact absurd ep (r'.pt _ _)
      have hFq : c'.F q = none ∨ c'.F q = some (.tup (k.map kV)) := by
        cases ef : c'.F q with
        | none => exact .inl rfl
        | some u =>
          have := r'.fz _ _ ef
          rw [g4] at this
          cases this
          exact .inr rfl
      obtain ⟨x1, r1⟩ := Rel.joinF r' g4 (fun ps z => (by cases z)) free hP hFq
      have x2 : Ext (c'.addF q (.tup (k.map kV))) ((c'.addF q (.tup (k.map kV))).addF T (.tup [.ref q, v])) := Ext.addF (r1.nonF g3)
      refine ⟨_, x1.trans x2, r1.addF g3, ?_⟩
      show IsD S _ (.tup [keyT k, x0]) _
      simp only [IsD, IsDs]
      refine ⟨T, _, rfl, upd_same, _, _, rfl, ?_, _, _, rfl, IsD.mono (fun a o e => x2.F a o (x1.F a o (x.F a o e))) iv, rfl⟩
      unfold keyT
      simp only [IsD]
      exact ⟨q, k.map kV, rfl, x2.F _ _ upd_same, isDs_keys k⟩
theorem mi_items {X : Cx} {Wx : WX} {e : Expr} {f : Fe} {apos cpos tpos : Pos} {elts : List Expr} {kk : Nat} (he : PE X e (TEof S Wx f)) (hb : noSuper e = true) (hl : (apos.endLine == cpos.line) = true) : PI X (.Tuple elts kk tpos) (.Call (.Attribute e "items" apos) [] [] cpos) (TIof S Wx (iItems' f)) :=
  pi_mono (pi_pairs he (noSuper_base hb) hl) fun σ H Rr ⟨c, env, h, ev, r, q⟩ => ⟨c, env, h, ev, r, q.bind.mono (Ext.refl c) (fun c1 w h1 H1 x1 r1 q1 v iv => by
    split at q1
    · rename_i ks l
      have iv : IsD S c1.F (.dT ks l) v := iv
      simp only [IsD] at iv
      obtain ⟨a, o, vs, rfl, hl, e1, e2⟩ := iv
      exact ⟨a, o, _, rfl, r1.fz _ _ e1, q1 c1 H1 (Ext.refl c1) r1 _ (itp_ok hl e1 e2)⟩
    · exact q1.elim) fun _ _ _ q => q⟩
/-! ### is, is not: None, bools -/
def sIs (neg : Bool) : W → W → Hm → R W := fun x y h => match x, y with
  | .d (.bl a), .d (.bl b) => .ok (.d (.bl (if neg = true then !decide (a = b) else decide (a = b)))) h
  | x, y => sIsN neg x y h
theorem o_is (neg : Bool) {X : Cx} : OpR X (compareOp (if neg = true then .IsNot else .Is)) (rS S (sIs neg)) := by
  intro pins s σ H x y v u Q I rx ry ⟨c, h, w1, w2, r, i1, i2, q⟩
  unfold sIs at q
  split at q
  · rename_i a b
    have e1 := isW_bl i1
    have e2 := isW_bl i2
    have fin := q c H (Ext.refl c) r _ isW_mkbl
    cases neg with
    | false => exact op_isBl pins s σ H x y v u Q I rx ry ⟨a, b, e1, e2, fin⟩
    | true => exact op_notBl pins s σ H x y v u Q I rx ry ⟨a, b, e1, e2, fin⟩
  · cases neg with
    | false => exact o_isN pins s σ H x y v u Q I rx ry ⟨c, h, w1, w2, r, i1, i2, q⟩
    | true => exact o_notN pins s σ H x y v u Q I rx ry ⟨c, h, w1, w2, r, i1, i2, q⟩
end
end Mi

/-! Mb 1: displays of dicts. -/
namespace Mi
open PySem L2 PySem.Spec PyProof.Rows

def vDnew (tk : Bool) : Fe := fun _ h => .ok (.r h.length) (h ++ [if tk = true then .dT [] [] else .dK [] []])
theorem me_dnew {X : Cx} {S : Sig} {Wx : WX} {pos : Pos} (tk : Bool) : PE X (.Dict [] [] pos) (TEof S Wx (vDnew tk)) := by
  cases tk with
  | true => exact pe_mono pe_dnewT fun σ H Q ⟨c, env, h, ev, r, q⟩ => laidM (m := .dT [] []) r (fun c' H' p x e => ⟨[], rfl, e, rfl⟩) q
  | false => exact pe_mono pe_dnewK fun σ H Q ⟨c, env, h, ev, r, q⟩ => laidM (m := .dK [] []) r (fun c' H' p x e => ⟨[], rfl, e, rfl⟩) q
def aL : List Fe → Fa
  | [] => aNil
  | f :: fs => aCons f (aL fs)
def vDct (ks : List Key) (fs : List Fe) : Fe := fun env h => ((aL fs env h).noEx).bind fun ws h1 => if ks.Nodup ∧ ks.length ≤ 15 ∧ ws.length = ks.length then .ok (.r h1.length) (h1 ++ [.dK ks ws]) else .no
def trsOf (S : Sig) (Wx : WX) : List Key → List Fe → List (TE × TE)
  | k :: ks, f :: fs => (tC (kV k), TEof S Wx f) :: trsOf S Wx ks fs
  | _, _ => []
section
variable {X : Cx} {S : Sig} {Wx : WX} {pos : Pos}
theorem putK_new {kvs : List (Key × V)} {k : Key} {v : V} (h : k ∉ kvs.map (·.1)) : putK kvs k v = kvs ++ [(k, v)] := by
  unfold putK
  rw [if_neg]
  intro z
  rw [List.any_eq_true] at z
  obtain ⟨p, hp, e⟩ := z
  exact h (List.mem_map.mpr ⟨p, hp, of_decide_eq_true e⟩)
theorem mergeK_nd : ∀ (more acc : List (Key × V)), ((acc ++ more).map (·.1)).Nodup → mergeK acc more = acc ++ more
  | [], acc, _ => by rw [List.append_nil]; rfl
  | p :: r, acc, h => by
    have e : acc ++ p :: r = (acc ++ [p]) ++ r := by simp
    have hp : p.1 ∉ acc.map (·.1) := fun z => by
      rw [List.map_append, List.map_cons, List.nodup_append] at h
      exact h.2.2 _ z _ List.mem_cons_self rfl
    show mergeK (putK acc p.1 p.2) r = _
    rw [putK_new hp, e]
    exact mergeK_nd r (acc ++ [p]) (by rw [← e]; exact h)
theorem pairs_of {σ : L2.St} {env : En} : ∀ {fs : List Fe} {ks : List Key} {c : C} {h : Hm} {H : Hp} {Q : List (V × V) → Hp → Prop} {Qe : Value → Option Addr → Hp → Prop}, fs.length = ks.length → EnvOk S c env σ → Rel S c h H →
    Aft S c ((aL fs env h).noEx) (fun c' ws h' H' => ∀ vs, IsWs S c' ws vs → Q ((ks.map kV).zip vs) H') Qe → tPairs (trsOf S Wx ks fs) σ H Q
  | [], [], c, h, H, Q, Qe, _, ev, r, q => q c H (Ext.refl c) r [] rfl
  | f :: fs, k :: ks, c, h, H, Q, Qe, hl, ev, r, q => by
    refine ⟨c, env, h, ev, r, ?_⟩
    have q : Aft S c (((f env h).bind fun w h1 => (aL fs env h1).bind fun ws h2 => .ok (w :: ws) h2).noEx) _ _ := q
    cases ef : f env h with
    | no => rw [ef] at q; exact q.elim
    | ex e h1 => rw [ef] at q; exact q.elim
    | ok w h1 =>
      rw [ef] at q
      intro c1 H1 x1 r1 v iv
      refine pairs_of (Qe := Qe) (by simpa using hl) (ev.up x1) r1 ?_
      have q : Aft S c (((aL fs env h1).bind fun ws h2 => .ok (w :: ws) h2).noEx) _ _ := q
      cases el : aL fs env h1 with
      | no => rw [el] at q; exact q.elim
      | ex e h2 => rw [el] at q; exact q.elim
      | ok ws h2 =>
        rw [el] at q
        intro c2 H2 x2 r2 vs iws
        exact q c2 H2 (x1.trans x2) r2 (v :: vs) ⟨v, vs, rfl, iv.mono x2, iws⟩
  | [], _ :: _, _, _, _, _, _, hl, _, _, _ => by cases hl
  | _ :: _, [], _, _, _, _, _, hl, _, _, _ => by cases hl
theorem me_dct {keys : List (Option Expr)} {values : List Expr} {ks : List Key} {fs : List Fe} (hp : PPs X pos keys values (trsOf S Wx ks fs)) (hall : keys.all (·.isSome) = true) (hl : keys.length = values.length) (h0 : keys ≠ []) (h15 : keys.length ≤ 15) (hf : fs.length = ks.length) : PE X (.Dict keys values pos) (TEof S Wx (vDct ks fs)) := by
  refine pe_mono (pe_disp hp hall hl h0 h15) fun σ H Q ⟨c, env, h, ev, r, q⟩ p hn => ?_
  have rP : Rel S (c.withP (upd c.P p (.dK []))) h (upd H p (.dK [])) := r.newP hn (fun _ z => by cases z)
  have pD : c.P p = none := by
    cases e : c.P p with
    | none => rfl
    | some u => rw [r.pr _ _ e] at hn; cases hn
  refine pairs_of (Qe := fun _ _ _ => True) hf (ev.upS (subP c _)) rP ?_
  unfold vDct at q
  cases el : (aL fs env h).noEx with
  | no => rw [el] at q; exact q.elim
  | ex e h1 =>
    cases e2 : aL fs env h with
    | ok _ _ => rw [e2] at el; cases el
    | ex _ _ => rw [e2] at el; cases el
    | no => rw [e2] at el; cases el
  | ok ws h1 =>
    rw [el] at q
    have q : Aft S c ((if ks.Nodup ∧ ks.length ≤ 15 ∧ ws.length = ks.length then .ok (.r h1.length) (h1 ++ [.dK ks ws]) else .no) : R W) _ _ := q
    split at q
    · rename_i hc
      intro c1 H1 x1 r1 vs iws
      have e1 : c1.P = upd c.P p (.dK []) := x1.P
      have l1 := iws.length
      have nd : ((ks.zip vs).map (·.1)).Nodup := by rw [List.map_fst_zip (by omega)]; exact hc.1
      refine ⟨r1.pr _ _ (by rw [e1, upd_same]), ks.zip vs, ?_, by rw [List.length_zip]; omega, ?_⟩
      · rw [List.zip_map_left]
        exact List.map_congr_left fun x _ => rfl
      · rw [mergeK_nd (ks.zip vs) [] (by simpa using nd), List.nil_append]
        -- the dict at p, now filled, joins the small heap
        have r2 := r1.updP (p := p) (o := .dK []) (o' := .dK (ks.zip vs)) (by rw [e1, upd_same]) plain_dK (fun _ z => by cases z)
        have sb : Sub c ((c1.withP c.P).addM p) := (subP c (upd c.P p (.dK []))).trans (x1.sub.trans ((subP c1 c.P).trans (Ext.addM (c := c1.withP c.P)).sub))
        have e2 : upd c1.P p (.dK (ks.zip vs)) = upd c.P p (.dK (ks.zip vs)) := by rw [e1, upd_upd]
        have r3 := r2.PtoM (P0 := c.P) (m := .dK ks ws) (o := .dK (ks.zip vs)) e2 pD ⟨vs, by omega, upd_same, iws.monoS ((subP c1 c.P).trans (Ext.addM (c := c1.withP c.P)).sub)⟩
        refine q ((c1.withP c.P).addM p) _ ⟨rfl, sb⟩ r3 _ ⟨?_, ?_⟩
        · show h1.length < c1.n + 1
          rw [r1.sz]; exact Nat.lt_succ_self _
        · show V.ref p = .ref (if h1.length = c1.n then p else c1.ι h1.length)
          rw [if_pos r1.sz.symm]
    · exact q.elim
end
end Mi

/-! Mb 2: how arguments come to parameters: by position, by name, the rest as a tuple. -/
namespace Mi
open PySem L2 StX PySem.Spec PyProof.Rows

/-- a way of calling: n values by position, the keywords, which of them the parameters take; whether the rest is a tuple -/
structure Fm where
  n : Nat
  ks : List Str
  perm : List Nat
  star : Bool
def pick {α : Type} (xs : List α) : List Nat → Option (List α)
  | [] => some []
  | i :: r => match xs[i]?, pick xs r with
    | some x, some l => some (x :: l)
    | _, _ => none
def fmB {α : Type} (ws : List α) (ks : List Str) (f : Fm) : Bool := decide (f.ks = ks) && (if f.star = true then decide (f.n ≤ ws.length) else decide (f.n = ws.length))
def bindF (fs : List Fm) : List W → List (Str × W) → Option (List W) := fun ws kws => match fs.find? (fmB ws (kws.map (·.1))) with
  | none => none
  | some f => match pick (ws.take f.n ++ kws.map (·.2)) f.perm with
    | none => none
    | some xs => if f.star = true then (match pures (ws.drop f.n) with
      | some ds => if ds.length ≤ sizeLine then some (xs ++ [.d (.tup ds)]) else none
      | none => none) else some xs
/-- what the interpreter does in this way of calling -/
def FmOk (fd : FuncData) (ps : List Str) (f : Fm) : Prop :=
  if f.star = true then ∃ qs pv, ps = qs ++ [pv] ∧ qs.length = f.perm.length ∧ ∀ us rest zs xs : List Value, us.length = f.n → zs.length = f.ks.length → pick (us ++ zs) f.perm = some xs → bindArgs fd ⟨us ++ rest, f.ks.zip zs⟩ = (newTuple rest >>= fun t => pure (qs.zip xs ++ [(pv, t)]))
  else ps.length = f.perm.length ∧ ∀ us zs xs : List Value, us.length = f.n → zs.length = f.ks.length → pick (us ++ zs) f.perm = some xs → bindArgs fd ⟨us, f.ks.zip zs⟩ = pure (ps.zip xs)
theorem pick_len {α : Type} {xs : List α} : ∀ {p : List Nat} {l : List α}, pick xs p = some l → l.length = p.length
  | [], l, e => by cases e; rfl
  | i :: r, l, e => by
    unfold pick at e
    split at e
    · rename_i h2
      cases e
      rw [List.length_cons, List.length_cons, pick_len h2]
    · cases e
theorem pick_ws {S : Sig} {c : C} {xs : List W} {vs : List V} (i : IsWs S c xs vs) : ∀ {p : List Nat} {l : List W}, pick xs p = some l → ∃ l', pick vs p = some l' ∧ IsWs S c l l'
  | [], l, e => by cases e; exact ⟨[], rfl, rfl⟩
  | j :: r, l, e => by
    unfold pick at e
    split at e
    · rename_i x l0 h1 h2
      cases e
      obtain ⟨v, e1, iv⟩ := i.get h1
      obtain ⟨l', e2, il⟩ := pick_ws i h2
      exact ⟨v :: l', by unfold pick; rw [e1, e2], v, l', rfl, iv, il⟩
    · cases e
theorem pick_vals {vs : List V} {us : List Value} (r : Vals vs us) : ∀ {p : List Nat} {l : List V}, pick vs p = some l → ∃ l', pick us p = some l' ∧ Vals l l'
  | [], l, e => by cases e; exact ⟨[], rfl, .nil⟩
  | j :: q, l, e => by
    unfold pick at e
    split at e
    · rename_i x l0 h1 h2
      cases e
      obtain ⟨u, e1, ru⟩ := r.get h1
      obtain ⟨l', e2, rl⟩ := pick_vals r h2
      exact ⟨u :: l', by unfold pick; rw [e1, e2], .cons ru rl⟩
    · cases e
theorem isWs_take {S : Sig} {c : C} : ∀ {l : List W} {vs : List V} (n : Nat), IsWs S c l vs → IsWs S c (l.take n) (vs.take n) ∧ IsWs S c (l.drop n) (vs.drop n)
  | [], vs, n, i => by
    cases (show vs = [] from i)
    simp only [List.take_nil, List.drop_nil]
    exact ⟨rfl, rfl⟩
  | w :: l, vs, 0, i => ⟨rfl, i⟩
  | w :: l, vs, n + 1, ⟨v, r, e, iv, il⟩ => by
    subst e
    obtain ⟨h1, h2⟩ := isWs_take n il
    exact ⟨⟨v, _, rfl, iv, h1⟩, h2⟩
theorem vals_take : ∀ {vs : List V} {us : List Value} (n : Nat), Vals vs us → Vals (vs.take n) (us.take n) ∧ Vals (vs.drop n) (us.drop n)
  | [], [], n, .nil => by simp only [List.take_nil, List.drop_nil]; exact ⟨.nil, .nil⟩
  | v :: vs, u :: us, 0, h => ⟨.nil, h⟩
  | v :: vs, u :: us, n + 1, .cons h t => by
    obtain ⟨h1, h2⟩ := vals_take n t
    exact ⟨.cons h h1, h2⟩
theorem zip_fst {kw : List (Str × Value)} {ks : List Str} (h : kw.map (·.1) = ks) : kw = ks.zip (kw.map (·.2)) := by
  subst h
  induction kw with
  | nil => rfl
  | cons p r ih => rw [List.map_cons, List.map_cons, List.zip_cons_cons, ← ih]
theorem bndF {P : Program} {w : World} {mg : Str → Option Value} {base : Heap} {S : Sig} {fd : FuncData} {ps : List Str} {fs : List Fm} (hf : ∀ f ∈ fs, FmOk fd ps f) : BndOk P w mg base S fd ps (bindF fs) := by
  intro A outer s H us kw c h ws vs kws kvs E ws' e0 iw rv e1 iw2 r2 r hb A' Ex Q k
  unfold bindF at hb
  split at hb
  · cases hb
  · rename_i f ef
    have hmem := List.mem_of_find?_eq_some ef
    have hok := hf f hmem
    have hq := List.find?_some ef
    unfold fmB at hq
    rw [Bool.and_eq_true, decide_eq_true_eq] at hq
    obtain ⟨hk, hn⟩ := hq
    have lw := iw.length
    have lu := rv.length
    have lk : (kw.map (·.2)).length = f.ks.length := by rw [hk, ← e1, List.length_map, List.length_map]
    have ekw : kw = f.ks.zip (kw.map (·.2)) := zip_fst (by rw [e1, hk])
    split at hb
    · cases hb
    · rename_i xs ep
      obtain ⟨t1, t2⟩ := isWs_take f.n iw
      obtain ⟨v1, v2⟩ := vals_take f.n rv
      obtain ⟨xv, p1, ix⟩ := pick_ws (t1.append iw2) ep
      obtain ⟨xu, p2, rx⟩ := pick_vals (v1.append r2) p1
      have lx : xv.length = f.perm.length := pick_len p1
      unfold FmOk at hok
      by_cases hs : f.star = true
      · rw [if_pos hs] at hb hok hn
        obtain ⟨qs, pv, eps, lq, hbind⟩ := hok
        split at hb
        · rename_i ds ed
          split at hb
          · rename_i hz
            cases hb
            have hn : f.n ≤ ws.length := of_decide_eq_true hn
            have hsplit : us = us.take f.n ++ us.drop f.n := (List.take_append_drop _ _).symm
            rw [ekw, hsplit, hbind (us.take f.n) (us.drop f.n) _ xu (by rw [List.length_take]; omega) lk p2]
            have id_ := pures_is ed t2
            have ld := id_.length
            have hr : (us.drop f.n).length ≤ sizeLine := by rw [← v2.length, ← ld]; exact hz
            have fr : H s.heap.objs.size = none := e0.hok.fresh (Nat.le_refl _)
            refine wpAny_bind (wpAny_newTuple (wpAny_pure ?_) hr)
            have new : ObjOk P w (upd H s.heap.objs.size (.tup (vs.drop f.n))) (s.heap.push ({ cls := .type "tuple", data := .seq (us.drop f.n).toArray } : Obj)) s.heap.objs.size (.tup (vs.drop f.n)) :=
              ⟨by rw [← ld]; exact hz, us.drop f.n, v2, ⟨_, Heap.get?_push_size _ rfl, rfl, _, rfl⟩⟩
            have un := un_laid (fs := frs outer) (s := s) (o := ({ cls := .type "tuple", data := .seq (us.drop f.n).toArray } : Obj)) (u := .tup (vs.drop f.n)) fr
            have x : Ext c (c.addF s.heap.objs.size (.tup (vs.drop f.n))) := Ext.addF (r.nonF fr)
            have z := k { s with heap := s.heap.push ({ cls := .type "tuple", data := .seq (us.drop f.n).toArray } : Obj) } _ (xv ++ [V.ref s.heap.objs.size]) (xu ++ [Value.ref s.heap.objs.size]) (env0_laid e0 new) un rfl (fun e s' => cxUp outer s H _ _ E e s' un (fun b o q => Heap.get?_push_of_some _ q) rfl) (rx.append (.cons rfl .nil))
              (by rw [eps, List.length_append, List.length_append, lx, lq]; rfl) ⟨_, x, r.addF fr, (ix.mono x).append ⟨_, _, rfl, ?_, rfl⟩⟩
            · rw [eps, List.zip_append (by rw [lq, ← lx]; exact rx.length)] at z
              exact z
            · show IsD S _ (.tup ds) _
              simp only [IsD]
              exact ⟨_, _, rfl, upd_same, id_.mono x.F⟩
          · cases hb
        · cases hb
      · rw [if_neg hs] at hb hok hn
        cases hb
        obtain ⟨lp, hbind⟩ := hok
        have hn : f.n = ws.length := of_decide_eq_true hn
        have ht : us.take f.n = us := List.take_of_length_le (by omega)
        rw [ht] at p2
        rw [ekw, hbind us _ xu (by omega) lk p2]
        exact wpAny_pure (k s H xv xu e0 Un.refl rfl (fun _ _ z => z) rx (by rw [lp, lx]) ⟨c, Ext.refl c, r, ix⟩)
end Mi

/-! Mb 3: an expression's value, and all that it refers to, becomes a tree. -/
namespace Mi
open PySem L2 PySem.Spec PyProof.Rows

def MO.kids : MO → List W
  | .lst l => l
  | .dK _ l => l
  | .dT _ l => l
  | .ins _ _ l => l
  | .dead => []
def MO.tree : MO → List D → Option D
  | .lst _, ds => some (.lst ds)
  | .dK ks _, ds => some (.dK ks ds)
  | .dT ks _, ds => some (.dT ks ds)
  | .ins c fs _, ds => some (.ins c fs ds)
  | .dead, _ => none
def MO.withK : MO → List W → MO
  | .lst _, l => .lst l
  | .dK ks _, l => .dK ks l
  | .dT ks _, l => .dT ks l
  | .ins c fs _, l => .ins c fs l
  | .dead, _ => .dead
def mapH {α : Type} (f : Hm → W → Option (α × Hm)) : Hm → List W → Option (List α × Hm)
  | h, [] => some ([], h)
  | h, w :: l => match f h w with
    | some (d, h1) => match mapH f h1 l with
      | some (ds, h2) => some (d :: ds, h2)
      | none => none
    | none => none
def dfz : Nat → Hm → W → Option (D × Hm)
  | _, h, .d x => some (x, h)
  | 0, _, .r _ => none
  | k + 1, h, .r n => match h[n]? with
    | some m => match mapH (dfz k) h m.kids with
      | some (ds, h1) => match h1[n]? with
        | some m1 => if m1.live = true then (m.tree ds).map fun d => (d, h1.set n .dead) else none
        | none => none
      | none => none
    | none => none
/-- only deaths -/
def Dies (h h' : Hm) : Prop := ∀ j : Nat, h'[j]? = h[j]? ∨ h'[j]? = some MO.dead
theorem Dies.refl (h : Hm) : Dies h h := fun _ => .inl rfl
theorem Dies.trans {a b c : Hm} (x : Dies a b) (y : Dies b c) : Dies a c := fun j => by
  rcases y j with e | e
  · rcases x j with e2 | e2
    · exact .inl (e.trans e2)
    · exact .inr (e.trans e2)
  · exact .inr e
theorem Dies.set {h : Hm} {n : Nat} : Dies h (h.set n MO.dead) := fun j => by
  by_cases hj : n = j
  · subst hj
    by_cases hl : n < h.length
    · exact .inr (List.getElem?_set_self hl)
    · exact .inl (by rw [List.getElem?_eq_none (by simpa using hl), List.getElem?_eq_none (by simpa using hl)])
  · exact .inl (List.getElem?_set_ne hj)
theorem mapH_dies {α : Type} {f : Hm → W → Option (α × Hm)} (hf : ∀ (h : Hm) (w : W) (d : α) (h' : Hm), f h w = some (d, h') → Dies h h') : ∀ {l : List W} {h : Hm} {ds : List α} {h' : Hm}, mapH f h l = some (ds, h') → Dies h h'
  | [], h, ds, h', e => by cases e; exact Dies.refl h
  | w :: l, h, ds, h', e => by
    unfold mapH at e
    split at e
    · rename_i d h1 e1
      split at e
      · rename_i ds2 h2 e2
        cases e
        exact (hf _ _ _ _ e1).trans (mapH_dies hf e2)
      · cases e
    · cases e
theorem dfz_dies : ∀ (k : Nat) (h : Hm) (w : W) (d : D) (h' : Hm), dfz k h w = some (d, h') → Dies h h'
  | _, h, .d x, d, h', e => by
    have e : some (x, h) = some (d, h') := by cases ‹Nat› <;> exact e
    cases e
    exact Dies.refl h
  | 0, h, .r n, d, h', e => by cases e
  | k + 1, h, .r n, d, h', e => by
    unfold dfz at e
    split at e
    · split at e
      · rename_i ds h1 e1
        split at e
        · split at e
          · obtain ⟨d0, _, e2⟩ := Option.map_eq_some_iff.mp e
            cases e2
            exact (mapH_dies (dfz_dies k) e1).trans Dies.set
          · cases e
        · cases e
      · cases e
    · cases e
section
variable {X : Cx} {pins : List (Addr × Obj)} {σ : L2.St} {s : Shared} {S : Sig}
/-- the step -/
def Fz (X : Cx) (pins : List (Addr × Obj)) (σ : L2.St) (s : Shared) (S : Sig) (f : Hm → W → Option (D × Hm)) : Prop := ∀ (c : C) (h : Hm) (H : Hp) (w : W) (d : D) (h' : Hm) (v : V), Inv X pins σ H s → Rel S c h H → IsW S c w v → f h w = some (d, h') → ∃ c' H', Inv X pins σ H' s ∧ Ext c c' ∧ Rel S c' h' H' ∧ IsD S c'.F d v ∧ ∀ j m, h'[j]? = some m → MO.live m = true → j < c.n → H' (c.ι j) = H (c.ι j)
theorem fz_all {f : Hm → W → Option (D × Hm)} (hf : Fz X pins σ s S f) (hd : ∀ (h : Hm) (w : W) (d : D) (h' : Hm), f h w = some (d, h') → Dies h h') : ∀ {l : List W} {c : C} {h : Hm} {H : Hp} {ds : List D} {h' : Hm} {vs : List V}, Inv X pins σ H s → Rel S c h H → IsWs S c l vs → mapH f h l = some (ds, h') → ∃ c' H', Inv X pins σ H' s ∧ Ext c c' ∧ Rel S c' h' H' ∧ IsDs S c'.F ds vs ∧ ∀ j m, h'[j]? = some m → MO.live m = true → j < c.n → H' (c.ι j) = H (c.ι j)
  | [], c, h, H, ds, h', vs, I, r, i, e => by
    cases e
    cases (show vs = [] from i)
    exact ⟨c, H, I, Ext.refl c, r, by simp only [IsDs], fun _ _ _ _ _ => rfl⟩
  | w :: l, c, h, H, ds, h', vs, I, r, ⟨v, rr, ev, iv, il⟩, e => by
    subst ev
    unfold mapH at e
    split at e
    · rename_i d h1 e1
      split at e
      · rename_i ds2 h2 e2
        cases e
        obtain ⟨c1, H1, I1, x1, r1, d1, k1⟩ := hf c h H w d h1 v I r iv e1
        obtain ⟨c2, H2, I2, x2, r2, d2, k2⟩ := fz_all hf hd I1 r1 (il.mono x1) e2
        refine ⟨c2, H2, I2, x1.trans x2, r2, ?_, fun j m ej lv hj => ?_⟩
        · simp only [IsDs]
          exact ⟨v, rr, rfl, IsD.mono x2.F d1, d2⟩
        · have e3 : h1[j]? = some m := by
            rcases mapH_dies hd e2 j with z | z
            · rw [← z]; exact ej
            · rw [ej] at z; cases z; cases lv
          have a1 := k1 j m e3 lv hj
          have a2 := k2 j m ej lv (Nat.lt_of_lt_of_le hj x1.n)
          rw [x1.ι j hj] at a2
          rw [a2, a1]
      · cases e
    · cases e
theorem kids_is {c : C} {H : Hp} {a : Addr} {m : MO} (q : IsO S c H a m) (lv : m.live = true) : ∃ vs, IsWs S c m.kids vs ∧ ∀ c' H' l, H' a = H a → IsWs S c' l vs → IsO S c' H' a (m.withK l) := by
  cases m with
  | lst l => obtain ⟨vs, e, i⟩ := q; exact ⟨vs, i, fun c' H' l k i' => ⟨vs, k.trans e, i'⟩⟩
  | dK ks l => obtain ⟨vs, z, e, i⟩ := q; exact ⟨vs, i, fun c' H' l k i' => ⟨vs, z, k.trans e, i'⟩⟩
  | dT ks l => obtain ⟨vs, z, e, i⟩ := q; exact ⟨vs, i, fun c' H' l k i' => ⟨vs, z, k.trans e, i'⟩⟩
  | ins t fs l => obtain ⟨dx, vs, z, e, i⟩ := q; exact ⟨vs, i, fun c' H' l k i' => ⟨dx, vs, z, k.trans e, i'⟩⟩
  | dead => cases lv
theorem tree_frz {m : MO} {ds : List D} {d : D} (e : m.tree ds = some d) : frzO (m.withK (ds.map W.d)) = some d ∧ m.live = true ∧ (m.withK (ds.map W.d)).live = true := by
  cases m with
  | lst l => exact ⟨by show (pures (ds.map W.d)).map D.lst = _; rw [pures_map]; exact e, rfl, rfl⟩
  | dK ks l => exact ⟨by show (pures (ds.map W.d)).map (D.dK ks) = _; rw [pures_map]; exact e, rfl, rfl⟩
  | dT ks l => exact ⟨by show (pures (ds.map W.d)).map (D.dT ks) = _; rw [pures_map]; exact e, rfl, rfl⟩
  | ins t fs l => exact ⟨by show (pures (ds.map W.d)).map (D.ins t fs) = _; rw [pures_map]; exact e, rfl, rfl⟩
  | dead => cases e
theorem dfz_ok : ∀ k : Nat, Fz X pins σ s S (dfz k)
  | k, c, h, H, .d x, d, h', v, I, r, i, e => by
    have e : some (x, h) = some (d, h') := by cases k <;> exact e
    cases e
    exact ⟨c, H, I, Ext.refl c, r, i, fun _ _ _ _ _ => rfl⟩
  | 0, c, h, H, .r n, d, h', v, I, r, i, e => by cases e
  | k + 1, c, h, H, .r n, d, h', v, I, r, i, e => by
    obtain ⟨hn, rfl⟩ := i
    unfold dfz at e
    split at e
    · rename_i m em
      split at e
      · rename_i ds h1 e1
        split at e
        · rename_i m1 em1
          split at e
          · rename_i lv1
            cases et : m.tree ds with
            | none => rw [et] at e; cases e
            | some d0 =>
              rw [et] at e
              cases e
              obtain ⟨f1, lv, lv2⟩ := tree_frz et
              have hm1 : m1 = m := by
                rcases mapH_dies (dfz_dies k) e1 n with z | z
                · rw [em1, em] at z; exact Option.some.inj z
                · rw [em1] at z
                  cases z
                  cases lv1
              subst hm1
              obtain ⟨vs, iv, back⟩ := kids_is (r.mu n m1 em) lv
              obtain ⟨c1, H1, I1, x1, r1, d1, k1⟩ := fz_all (dfz_ok k) (dfz_dies k) I r iv e1
              have hn1 : n < h1.length := (List.getElem?_eq_some_iff.mp em1).1
              have hv : H1 (c1.ι n) = H (c.ι n) := by rw [x1.ι n hn]; exact k1 n m1 em1 lv1 hn
              have r2 : Rel S c1 (h1.set n (m1.withK (ds.map W.d))) H1 := r1.same em1 lv1 (by
                rw [x1.ι n hn]
                exact back c1 H1 _ (by rw [x1.ι n hn] at hv; exact hv) d1.toW)
              have e3 : (h1.set n (m1.withK (ds.map W.d)))[n]? = some (m1.withK (ds.map W.d)) := List.getElem?_set_self hn1
              have fa : frzAt (h1.set n (m1.withK (ds.map W.d))) n = some (d, h1.set n .dead) := by
                unfold frzAt
                rw [e3]
                show (frzO (m1.withK (ds.map W.d))).map _ = _
                rw [f1]
                show some (d, _) = _
                rw [List.set_set]
              obtain ⟨c2, H2, I2, x2, r3, d2, k2⟩ := frz_ok I1 r2 fa
              refine ⟨c2, H2, I2, x1.trans x2, r3, ?_, fun j m ej lv3 hj => ?_⟩
              · rw [x1.ι n hn] at d2
                exact d2
              · have hjn : n ≠ j := fun z => by
                  subst z
                  rw [List.getElem?_set_self hn1] at ej
                  cases ej
                  cases lv3
                rw [List.getElem?_set_ne hjn] at ej
                have ne : c1.ι j ≠ c1.ι n := fun z => hjn (r1.inj j n m m1 ej em1 lv3 lv1 z).symm
                have a2 := k2 _ ne
                rw [x1.ι j hj] at a2
                rw [a2, k1 j m ej lv3 hj]
          · cases e
        · cases e
      · cases e
    · cases e
end
def vFrz (f : Fe) : Fe := fun env h => (f env h).bind fun w h1 => match dfz 8 h1 w with
  | some (d, h2) => .ok (.d d) h2
  | none => .no
theorem me_frz {X : Cx} {S : Sig} {Wx : WX} {e : Expr} {f : Fe} (he : PE X e (TEof S Wx f)) : PE X e (TEof S Wx (vFrz f)) := by
  refine ⟨fun pins s σ H Q I ⟨c, env, h, ev, r, q⟩ => ?_⟩
  refine thn (he.run pins s σ H (fun v H1 => ∃ c1 w h1, Rel S c1 h1 H1 ∧ IsW S c1 w v ∧ Aft S c1 ((match dfz 8 h1 w with
    | some (d, h2) => .ok (.d d) h2
    | none => .no) : R W) (fun c' w _ H' => ∀ v, IsW S c' w v → Q v H') (fun cls d H' => Wx cls d σ H')) I
    ⟨c, env, h, ev, r, q.bind.mono (Ext.refl c) (fun c1 w h1 H1 x1 r1 q1 v iv => ⟨c1, w, h1, r1, iv, q1⟩) fun _ _ _ q => q⟩) fun u s1 ⟨v, H1, I1, rv, c1, w, h1, r1, iv, q1⟩ => ?_
  split at q1
  · rename_i d h2 ed
    obtain ⟨c2, H2, I2, x2, r2, d2, _⟩ := dfz_ok 8 c1 h1 H1 w d h2 v I1 r1 iv ed
    exact ⟨v, H2, I2, rv, q1 c2 H2 x2 r2 v d2⟩
  · exact q1.elim
end Mi

/-! Mx 1: exceptions over HandS: made, caught and kept, their fields read. -/
namespace Mi
open PySem L2 StX PySem.Spec PyProof.Rows

theorem exnO_ok {P : Program} {w : World} {H : Hp} {h : Heap} {a : Addr} {cls : Value} {d : Option Addr} {oe : Obj} {vs : Array Value} (e : h.get? a = some oe) (z : Zc cls d oe) (hd : oe.data = .fields vs) : ObjOk P w H h a (exnO a cls d) :=
  ⟨⟨oe, e, z, vs, hd⟩, ⟨oe, e⟩, fun h1 h2 ⟨o, e1, z1, hd1⟩ k => ⟨o, k _ e1, z1, hd1⟩⟩
section
variable {X : Cx} {pins : List (Addr × Obj)} {σ : L2.St} {H : Hp} {s : Shared}
/-- a thing of ours that nobody tracks is told from now on -/
theorem Inv_gain {a : Addr} {o : HO} (I : Inv X pins σ H s) (hn : H a = none) (h0 : X.s_0.heap.get? a = none) (nL : a ≠ X.env.locals) (nc : ∀ v, ¬ s.heap.IsCell a v) (np : ∀ p ∈ X.pn ++ pins, p.1 ≠ a) (new : ObjOk X.prog X.w (upd H a o) s.heap a o) : Inv X pins σ (upd H a o) s := by
  have ne : ∀ {b : Addr} {u : HO}, H b = some u → b ≠ a := fun e => ne_of_none e hn
  refine ⟨I.ok, I.os, I.bare, ⟨I.base.keep, I.base.slot, fun b u e n hx => ?_, I.base.there, fun b xs e => ?_, fun b u v e => ?_, fun b ps e => ?_⟩, I.loc, I.cell, ?_, fun x c e => ?_, fun p hp => ?_, fun b u e => ?_, I.len⟩
  · rw [upd_ne (fun z => by rw [z, h0] at e; cases e)]
    exact I.base.free b u e n hx
  · have q := I.base.tups b xs e
    rw [upd_ne (ne q)]; exact q
  · have q := I.base.frzs b u v e
    rw [upd_ne (ne q)]; exact q
  · obtain ⟨more, q⟩ := I.base.tbls b ps e
    exact ⟨more, by rw [upd_ne (ne q)]; exact q⟩
  · rw [upd_ne (Ne.symm nL)]; exact I.free
  · have : c ≠ a := fun z => by
      obtain ⟨v, q⟩ := I.cell x c e
      exact nc v (z ▸ q)
    rw [upd_ne this]; exact I.freeC x c e
  · obtain ⟨e1, e2, e3⟩ := I.pin p hp
    exact ⟨e1, by rw [upd_ne (np p hp)]; exact e2, e3⟩
  · by_cases hb : b = a
    · rw [hb, upd_same] at e
      cases e
      rw [hb]
      exact new
    · rw [upd_ne hb] at e
      exact (I.hok b u e).stay (fun c v hc q => q) (fun c q => by rw [upd_ne (ne q)]; exact q) fun c xs q => by rw [upd_ne (ne q)]; exact q
/-- the context of an except suite that tells the exception by H -/
abbrev suiteK (X : Cx) (a : Addr) (pn : List (Addr × Obj)) : Cx := { X with A := X.A.mark (some (.ref a)), calm := false, pn := pn, xe := fun _ _ => False }
theorem Inv_suiteK (I : Inv X pins σ H s) (a : Addr) : Inv (suiteK X a (X.pn ++ pins)) [] σ H s :=
  ⟨I.ok.suite _ _, I.os, I.bare, I.base, I.loc, I.cell, I.free, I.freeC, fun p hp => I.pin p (by rw [List.append_nil] at hp; exact hp), I.hok, I.len⟩
theorem Inv_unsuiteK {a : Addr} (I : Inv (suiteK X a (X.pn ++ pins)) [] σ H s) (ok : X.Ok) : Inv X pins σ H s :=
  ⟨ok, I.os, I.bare, I.base, I.loc, I.cell, I.free, I.freeC, fun p hp => I.pin p (by rw [List.append_nil]; exact hp), I.hok, I.len⟩
end
/-- what 'except x as n: y = n' wishes of an exception of the body: slot i is n's, slot j is y's -/
def wKp (K : PySem.W.Frag) (c : Value) (i j : Nat) (Wout : WX) (D : Ends) : WX := fun cls d σ H =>
  ∃ b, PySem.W.exmOne K cls c = some b ∧ (b = true → ∀ a, H a = none → D.nx (((σ.set i (some (.ref a))).set j (some (.ref a))).set i none) (upd H a (exnO a cls d))) ∧ (b = false → Wout cls d σ H)
/-- the run of the clauses on an exception: noted, landed, tested -/
def Catch (X : Cx) (pins : List (Addr × Obj)) (D : Ends) (cl : List ExceptHandler) (u : Value) (s : Shared) : Prop :=
  wpAny (model X.prog X.w) X.A (noteFrame u X.env) (fun _ t => wpAny (model X.prog X.w) X.A (setFlight u none) (fun _ r => wpAny (model X.prog X.w) X.A (handleBy u X.env cl) (SP X pins D) X.xe r) X.xe t) X.xe s
/-- an exception that came down in X's frame: the state is one of ours, and so was the one before it was made -/
structure Land (X : Cx) (pins : List (Addr × Obj)) (B : Heap) (a : Addr) (cls : Value) (d : Option Addr) (σ : L2.St) (H : Hp) (s₀ s : Shared) : Prop where
  was : Inv X pins σ H s₀
  kept : ∀ b o, s₀.heap.get? b = some o → b ∉ frs X.stack → B.get? b = some o
  fly : HandSPX.FlyingZ B (X.env :: X.outer) a (Zc cls d) s.heap
  up : s₀.heap.UpToSlots s.heap
  new : H a = none
  oss : s.os = s₀.os
  gens : AllBare s.gens
namespace Land
section
variable {X : Cx} {pins : List (Addr × Obj)} {B : Heap} {a : Addr} {cls : Value} {d : Option Addr} {σ : L2.St} {H : Hp} {s₀ s : Shared} (l : Land X pins B a cls d σ H s₀ s)
include l
theorem inv : Inv X pins σ H s := Inv.landed l.was l.kept l.fly.1 l.up l.oss l.gens
theorem move {h : Heap} (f : HandSPX.FlyingZ B (X.env :: X.outer) a (Zc cls d) h) (u : s.heap.UpToSlots h) : Land X pins B a cls d σ H s₀ { s with heap := h } :=
  { was := l.was, kept := l.kept, fly := f, up := l.up.trans u, new := l.new, oss := l.oss, gens := l.gens }
theorem off : a ∉ frs (X.env :: X.outer) := by
  obtain ⟨o, vs, e, -, q⟩ := l.fly.there
  intro m
  obtain ⟨-, o', e', no⟩ := l.fly.2.2.1.mem m
  cases e.symm.trans e'
  exact no vs q
theorem offL (hf : X.env.frame = some X.env.locals) : a ≠ X.env.locals := by
  rintro rfl
  exact l.off (List.mem_filterMap.mpr ⟨X.env, .head _, hf⟩)
theorem offF : a ∉ X.fs := by
  intro m
  obtain ⟨e, i, q⟩ := List.mem_filterMap.mp m
  exact l.off (List.mem_filterMap.mpr ⟨e, .tail _ i, q⟩)
theorem young (hs : X.stack = X.env :: X.outer) : s₀.heap.get? a = none := by
  rcases e : s₀.heap.get? a with _ | o
  · rfl
  · exact absurd (l.kept a o e (hs ▸ l.off)) (by rw [l.fly.2.1]; nofun)
/-- from now on H tells it -/
theorem told (hs : X.stack = X.env :: X.outer) (hf : X.env.frame = some X.env.locals) (hex : X.ex = []) : Inv X pins σ (upd H a (exnO a cls d)) s := by
  have no := l.young hs
  obtain ⟨o, vs, e, z, q⟩ := l.fly.there
  have old : X.s_0.heap.get? a = none := by
    rcases e0 : X.s_0.heap.get? a with _ | u
    · rfl
    · obtain ⟨u', k⟩ := l.was.base.there a u e0 (by rw [hex]; nofun)
      cases no.symm.trans k
  refine Inv_gain l.inv l.new old (l.offL hf) ?_ ?_ (exnO_ok e z q)
  · rintro v ⟨o', e', q'⟩
    cases e.symm.trans e'
    cases q.symm.trans q'
  · rintro p m rfl
    cases no.symm.trans (l.was.pin p m).1
/-- and up again -/
theorem lift {W : WX} {h : Heap} (hs : X.stack = X.env :: X.outer) (f : HandSPX.HeldZ B (X.env :: X.outer) a (Zc cls d) X.env.locals h) (u : s.heap.UpToSlots h) (w : W cls d σ H) : XE X W (.ref a) { s with heap := h } :=
  ⟨a, B, s₀, pins, σ, H, cls, d, rfl, l.was, l.kept, l.up.trans u, .inr (.inr (hs ▸ f)), l.new, l.oss, l.gens, w⟩
end
end Land
section
variable {X : Cx} {x n y : Str} {c : Value} {i j : Nat} {body : List Stmt} {np pos pos' yp mp ap : Pos} {tb : WX → TS} {Wout : WX}
variable {pins : List (Addr × Obj)} {B : Heap} {a : Addr} {cls : Value} {d : Option Addr} {σ : L2.St} {H : Hp} {s₀ s : Shared} {D : Ends}
/-- no clause is left -/
theorem catch_none (l : Land X pins B a cls d σ H s₀ s) (hs : X.stack = X.env :: X.outer) (hf : X.env.frame = some X.env.locals) (tk : Takes X Wout) (w : Wout cls d σ H) : wpAny (model X.prog X.w) X.A (handleBy (.ref a) X.env []) (SP X pins D) X.xe s := by
  obtain ⟨-, -, -, o, vs, T, oT, ts, e, -, q, e1, rest⟩ := id l.fly
  apply wpAny_handleBy_nil
  unfold PySem.passOn
  apply wpAny_bind
  apply wpAny_field e q e1
  rw [if_neg (by simp : ¬ ((Value.ref T == Value.none) = true))]
  have go : wpAny (model X.prog X.w) X.A (setFlight (.ref a) X.env.frame) (fun _ t => wpAny (model X.prog X.w) X.A (throw (.ref a) : Sem Flow) (SP X pins D) X.xe t) X.xe s := by
    rw [hf]
    exact HandSPX.setFlight_upZ l.fly fun h f u => wpAny_throw (tk _ _ (l.lift hs f u w))
  first
    | exact wpAny_bind (wpAny_pure (wpAny_bind go))
    | exact wpAny_bind go
/-- the suite 'y = n' and the name's end -/
theorem catch_keep (l : Land X pins B a cls d σ H s₀ s) (hex : X.ex = []) (hs : X.stack = X.env :: X.outer) (hf : X.env.frame = some X.env.locals) (hN : X.N.Nodup) (hi : X.N[i]? = some n) (hj : X.N[j]? = some y) (hln : X.env.scope.names.lookup n = some .local) (hly : X.env.scope.names.lookup y = some .local)
    (hd1 : (n == ("__debug__" : Str)) = false) (hd2 : (n == ("__classdict__" : Str)) = false) (hsw : ∀ a pn, swapsWith (.Name n mp) (some (.Name y yp)) ap.line (suiteK X a pn).env = pure false)
    (hn : D.nx (((σ.set i (some (.ref a))).set j (some (.ref a))).set i none) (upd H a (exnO a cls d))) {E₁ : Value → Shared → Prop} :
    wpAny (model X.prog X.w) (X.A.mark (some (.ref a))) (storeName X.env n (.ref a)) (fun _ t => wpAny (model X.prog X.w) (X.A.mark (some (.ref a))) (execs [.Assign [.Name y yp] (.Name n mp) ap] X.env) (fun f t' => wpAny (model X.prog X.w) X.A (do bindName X.env n .none; unbindBehindTheSuite X.env n pos') (fun _ r => SP X pins D f r) X.xe t') E₁ t) (fun _ _ => False) s := by
  have ok := l.was.ok
  have nσ : i < σ.length := l.was.len ▸ (List.getElem?_eq_some_iff.mp hi).1
  have bare := pss_one (ps_set (X := suiteK X a (X.pn ++ pins)) (pos := ap) (pos' := yp) hN hj (.inl hly) (pe_var (X := suiteK X a (X.pn ++ pins)) (pos := mp) (i := i) hi (.inl hln) hd1 hd2) (hsw a _) (.inr hly))
  have back {σ' : L2.St} {H' : Hp} {t : Shared} {Q : Shared → Prop} (S : Inv (suiteK X a (X.pn ++ pins)) [] σ' H' t) (q : ∀ r, Inv X pins (σ'.set i none) H' r → Q r) : wpAny (model X.prog X.w) X.A (do bindName X.env n .none; unbindBehindTheSuite X.env n pos') (fun _ r => Q r) X.xe t :=
    gone_ok (Inv_unsuiteK S ok) hN hi hln q
  apply store_ok (X := suiteK X a (X.pn ++ pins)) (v := .ref a) (Inv_suiteK (l.told hs hf hex) a) hN hi (.inl hln) rfl _ (.inr hln)
  intro t S
  let D' : Ends := ⟨fun σ' H' => D.nx (σ'.set i none) H', D.rt, fun σ' H' => D.bk (σ'.set i none) H', fun σ' H' => D.ct (σ'.set i none) H'⟩
  refine wpAny_mono (bare.run [] t _ _ D' S ⟨.ref a, by rw [List.getElem?_set_self nσ], hn⟩) ?_ (fun _ _ no => no.elim)
  rintro (_ | _ | _ | u) t' sp
  case ret =>
    obtain ⟨v, σ', H', S', r, q⟩ := sp
    exact back S' fun _ J => ⟨v, _, H', J, r, q⟩
  all_goals
    obtain ⟨σ', H', S', q⟩ := sp
    exact back S' fun _ J => ⟨_, H', J, q⟩
theorem ps_try_keep (hex : X.ex = []) (hs : X.stack = X.env :: X.outer) (hf : X.env.frame = some X.env.locals) (hN : X.N.Nodup) (hi : X.N[i]? = some n) (hj : X.N[j]? = some y) (hln : X.env.scope.names.lookup n = some .local) (hly : X.env.scope.names.lookup y = some .local) (hc : Names X x c) (tk : Takes X Wout)
    (hb : ∀ (W : WX) (pn : List (Addr × Obj)) (xe : Value → Shared → Prop), Takes (X.tr pn xe) W → PassesOwn (model X.prog X.w) X.A X.env xe → PSs (X.tr pn xe) body (tb W))
    (hd1 : (n == ("__debug__" : Str)) = false) (hd2 : (n == ("__classdict__" : Str)) = false) (hsw : ∀ a pn, swapsWith (.Name n mp) (some (.Name y yp)) ap.line (suiteK X a pn).env = pure false) :
    PS X (.Try body [.ExceptHandler (some (.Name x np)) (some n) [.Assign [.Name y yp] (.Name n mp) ap] pos'] [] [] pos) (fun D σ H => tb (wKp X.K c i j Wout D) D σ H) := by
  constructor
  intro pins s σ H D I h
  have ok := I.ok
  have frames : X.A.frames = some (X.env :: X.outer) := ok.frames.trans (by rw [hs])
  let cl : List ExceptHandler := [.ExceptHandler (some (.Name x np)) (some n) [.Assign [.Name y yp] (.Name n mp) ap] pos']
  have lands : Takes (X.tr (X.pn ++ pins) (Catch X pins D cl)) (wKp X.K c i j Wout D) := by
    rintro _ t ⟨a, B, s₀, pins', σ', H', cls, d, rfl, J, kept, up, sky, new, oss, gens, b, hb1, yes, no⟩
    have J0 : Inv X pins σ' H' s₀ := J.ofTry ok
    have st : ∀ h', HandSPX.FlyingZ B (X.env :: X.outer) a (Zc cls d) h' → t.heap.UpToSlots h' → Land X pins B a cls d σ' H' s₀ { t with heap := h' } := fun h' f u => ⟨J0, kept, f, up.trans u, new, oss, gens⟩
    apply Sky.land Zc.steady frames hf (hs ▸ sky : Sky B (X.env :: X.outer) a (Zc cls d) X.env.locals t.heap)
    intro h1 f1 u1
    have l := st h1 f1 u1
    obtain ⟨o, vs, e, z, q⟩ := l.fly.there
    have S := l.inv.suite e q new (l.offL hf) l.offF
    have kind : PySem.W.Looks (model X.prog X.w) h1 (typeOf (.ref a)) cls := fun _ _ _ _ k g => wpAny_typeOf_ref (k _ _ e) (by rw [z.1]; exact g)
    have mt := PySem.W.exm_one (M := model X.prog X.w) (Inv.kIn l.inv) kind hb1
    have name : ∀ {Q E : Value → Shared → Prop}, Q c { t with heap := h1 } → wpAny (model X.prog X.w) (X.A.mark (some (.ref a))) (eval (.Name x np) X.env) Q E { t with heap := h1 } := by
      intro Q E g
      rcases hc with ⟨gl, db, m | ⟨m, v, nn⟩⟩
      · exact ld_glob (X := X.suite a ((a, o) :: (X.pn ++ pins))) S gl m g db
      · exact ld_blt (X := X.suite a ((a, o) :: (X.pn ++ pins))) S gl m v g nn db
    apply wpAny_handleBy_cons (codeAny_handlers_test (name (mt.here _))) nofun
    rcases b with _ | _
    · exact catch_none l hs hf tk (no rfl)
    · apply codeAny_handlers_suite_as
      apply HandSPX.lands_againZ l.fly
      intro h2 f2 u2
      exact wpAny_mono (catch_keep (l.move f2 u2) hex hs hf hN hi hj hln hly hd1 hd2 hsw (yes rfl a new)) (fun _ _ g => g) (fun _ _ g => g.elim)
  apply wpAny_Try_except
  refine wpAny_mono ((hb _ (X.pn ++ pins) (Catch X pins D cl) lands PassesOwn.looking).run [] s σ H D (I.toTry _) h) ?_ (fun _ _ g => g)
  rintro (_ | _ | _ | u) t sp
  case ret =>
    obtain ⟨v, σ', H', J, r, q⟩ := sp
    exact ⟨v, σ', H', J.ofTry ok, r, q⟩
  case next =>
    obtain ⟨σ', H', J, q⟩ := sp
    exact wpAny_execs_nil ⟨σ', H', J.ofTry ok, q⟩
  all_goals
    obtain ⟨σ', H', J, q⟩ := sp
    exact ⟨σ', H', J.ofTry ok, q⟩
end
end Mi

/-! Mx 2: exceptions over HandS: fields read, made with one field. -/
namespace Mi
open PySem L2 StX PySem.Spec PyProof.Rows

/-- e.f, e a kept exception -/
def tXfK (K : PySem.W.Frag) (f : Str) (te : TE) : TE := fun σ H Q => te σ H fun x H1 => ∃ (a C dd : Addr) (fs : List (Str × V)) (v : V), x = .ref a ∧ XfC K C ∧ PySem.W.findIn K (.ref C) f = some none ∧ H1 a = some (exnO a (.ref C) (some dd)) ∧ H1 dd = some (.xd fs) ∧ fs.lookup f = some v ∧ Q v H1
theorem pe_xfK {X : Cx} {e : Expr} {te : TE} {pos : Pos} {n : Str} (he : PE X e te) (hb : attributeBase e n X.env (eval e X.env) = eval e X.env := by rfl) : PE X (.Attribute e n pos) (tXfK X.K n te) := by
  refine ⟨fun pins s σ H Q I h => ?_⟩
  refine attr_of hb (thn (he.run pins s σ H _ I h) fun u s1 hh => ?_)
  obtain ⟨x, H1, I1, rx, a, C, dd, fs, v, ex, T, hno, eo, ea, l, q⟩ := hh
  subst ex
  obtain rfl : u = Value.ref a := rx
  have ho : ObjOk X.prog X.w H1 s1.heap a (exnO a (.ref C) (some dd)) := I1.hok a _ eo
  obtain ⟨⟨oe, ha, hz, vs, hd⟩, _, _⟩ := ho
  have hx : ObjOk X.prog X.w H1 s1.heap dd (.xd fs) := I1.hok dd _ ea
  obtain ⟨mA, hns, hr⟩ := hx
  obtain ⟨od, hod, hl⟩ := lookIn_ns hns
  obtain ⟨u, hu, ru⟩ := RelO.some_of (v := v) (o := mA n) (by rw [← l]; exact hr n)
  have J : PySem.W.InstAt s1.heap a oe C (some od) := ⟨ha, hz.1, by unfold PySem.W.notCls; rw [hd] <;> rfl, by rw [hz.2]; exact hod⟩
  exact HandSPX.exc_get I1.kIn J T.ga T.gg T.exC (PySem.W.findObj_own T.hdC hno rfl (by rw [hl, hu])) (handed_of ru) ⟨v, H1, I1.tok _, ru, q⟩

/-- B.__init__(self, ..), B a class over ValueError that has no __init__ of its own -/
theorem pe_binit {X : Cx} {B : Str} {CB : Addr} {mc : Value} {e : Expr} {es : List Expr} {ta : TA} {p1 p2 pos : Pos} {pl : Sem Bool} (hg : Gl X B) (hm : X.mg B = some (.ref CB)) (hdb : (B == ("__debug__" : Str)) = false) (rd : ClX.CRead X.K CB mc) (at_ : PySem.W.findCls X.K (.ref CB) mc "__init__" = some (.val (.builtin "ValueError.__init__"))) (ha : PA X (e :: es) ta)
    (hc : eval (.Call (.Attribute (.Name B p1) "__init__" p2) (e :: es) [] pos) X.env = (do
      let ov ← eval (.Name B p1) X.env
      standAt p2.atName
      let (f, first) ← holding [ov] (getMethod ov "__init__" pl)
      callWith pos f first (backTo pos (starEach (e :: es) X.env)) (backToKw pos (keywordEach [] X.env))) := by rfl)
    (he : starEach (e :: es) X.env = (false, eval e X.env) :: starEach es X.env := by rfl) (hpl : (backTo pos (starEach es X.env)).any (·.1) = false := by rfl) :
    PE X (.Call (.Attribute (.Name B p1) "__init__" p2) (e :: es) [] pos) (tVeI X.K ta) := by
  constructor
  intro pins s0 σ H Q J0 h0
  apply PySem.W.methodCall_KW (ld_glob J0 hg hm _ hdb) hc
  apply PySem.W.method_cls J0.kIn rd.ga
  apply PySem.W.cls_value J0.kIn rd.rd at_ (by decide +kernel)
  change wpAny _ _ (callWith pos (Value.builtin "ValueError.__init__") [] (backTo pos (starEach (e :: es) X.env)) []) _ _ _
  refine PyProof.Rows.callWith_method1 (thn (ha.run pos pins _ σ H _ (J0.tok _) h0) ?_) he hpl
  rintro us t1 ⟨vs, H1, J1, rel, a, C, ws, rfl, le, own, at_a, done⟩
  rcases rel with _ | ⟨rself, rest⟩
  cases rself
  exact oinit_ok own J1 at_a (by have same := Paired.length rest; rw [sizeLine_eq]; omega) fun s' J => ⟨.non, H1, J, rfl, done⟩

/-- what the __init__ of an exception with one field does -/
def spX1 (K : PySem.W.Frag) (f : Str) : Sp := fun vs H Q _ => ∃ (a C : Addr) (v : V), vs = [.ref a, v] ∧ OexC K C ∧ PySem.W.findIn K (.ref C) f = some none ∧ H a = some (exo a C none) ∧ ∀ dx, H dx = none → dx ≠ a → Q .non (upd (upd H dx (exd dx [(f, v)])) a (exo a C (some dx)))
theorem fnX1 {P : Program} {w : World} {K : PySem.W.Frag} {mg : Str → Option Value} {base : Heap} {f : Addr} {name qual fl slf prm B m : Str} {params : Arguments} {scope : Scope} {dV kV doc pm cdv ct oc mc : Value} {an od : Option Addr} {osl : Array (Option Value)} {CB : Addr} {j : Nat} {p1 p2 p3 p4 p5 p6 q1 q2 q3 q4 : Pos} {pre : List Stmt}
    (lk : K.lookup f = some ⟨oc, od, .func (PySem.W.fnOf name qual params (pre ++ [.Expr (.Call (.Attribute (.Name B p1) "__init__" p2) [.Name slf p3, .Constant (.str m) j p4] [] p5) p6, .Assign [.Attribute (.Name slf q1) fl q2] (.Name prm q3) q4]) scope dV kV doc pm an cdv ct), osl⟩)
    (hcd : PySem.W.codeIn K cdv qual = true) (Sc : FnScope [slf, prm] [slf, prm] scope) (hpre : pre = [] ∨ ∃ x jj a b, pre = [.Expr (.Constant (.str x) jj a) b]) (hB : scope.names.lookup B = some .globalImplicit) (hm : mg B = some (.ref CB)) (hdb : (B == ("__debug__" : Str)) = false) (rd : ClX.CRead K CB mc) (at_ : PySem.W.findCls K (.ref CB) mc "__init__" = some (.val (.builtin "ValueError.__init__")))
    (d1 : (slf == ("__debug__" : Str)) = false) (d2 : (slf == ("__classdict__" : Str)) = false) (d3 : (prm == ("__debug__" : Str)) = false) (d4 : (prm == ("__classdict__" : Str)) = false) (hsw : ∀ env : Env, swapsWith (.Name prm q3) (some (.Attribute (.Name slf q1) fl q2)) q4.line env = pure false) (hfm : methForm (.Name B p1) [.Name slf p3, .Constant (.str m) j p4] [] p2 p5 = true) (hsw2 : ∀ env : Env, swapsWith (.Call (.Attribute (.Name B p1) "__init__" p2) [.Name slf p3, .Constant (.str m) j p4] [] p5) none p6.line env = pure false) :
    FnOk P w K mg base (L2.CX P w) 1 f (PySem.W.fnOf name qual params (pre ++ [.Expr (.Call (.Attribute (.Name B p1) "__init__" p2) [.Name slf p3, .Constant (.str m) j p4] [] p5) p6, .Assign [.Attribute (.Name slf q1) fl q2] (.Name prm q3) q4]) scope dV kV doc pm an cdv ct) [slf, prm] (spX1 K fl) := by
  refine ⟨fun vs H Q E ⟨a, C, v, e, _⟩ => by rw [e]; rfl, fun A outer s H args us vs Q E hr e0 hb r ⟨a, C, v, e, T, hno, ha, hq⟩ => ?_⟩
  subst e
  refine LamX.run_ofS (N := [slf, prm]) (ps := [slf, prm]) (k := 0) lk hcd Sc hr e0 hb r rfl fun hr' => ?_
  have v1 : ∀ x, x ∈ [slf, prm] → Vis scope x := fun x hx => by
    rcases Sc.par x hx with q | q
    · exact .inl q
    · exact .inr (.inl q)
  have core : PSs (cxOf (L2.CX P w) P w K mg base [slf, prm] qual scope f cdv A outer s H E) [.Expr (.Call (.Attribute (.Name B p1) "__init__" p2) [.Name slf p3, .Constant (.str m) j p4] [] p5) p6, .Assign [.Attribute (.Name slf q1) fl q2] (.Name prm q3) q4] _ :=
    pss_cons (ps_expr (pe_binit (X := cxOf (L2.CX P w) P w K mg base [slf, prm] qual scope f cdv A outer s H E) hB hm hdb rd at_ (pa_cons (pe_var (i := 0) rfl (v1 slf (by simp)) d1 d2) (pa_cons pe_str pa_nil)) (methForm_eval hfm)) (hsw2 _)) (pss_one (ps_ost (f := fl) (pe_var (X := cxOf (L2.CX P w) P w K mg base [slf, prm] qual scope f cdv A outer s H E) (i := 0) rfl (v1 slf (by simp)) d1 d2) (pe_var (i := 1) rfl (v1 prm (by simp)) d3 d4) (hsw _)))
  have fin : ∀ D : Ends, D.nx = (fun _ H' => Q .non H') → (tSeq (tDrop (tVeI K (tCons (tVar 0) (tCons (tC (.str m)) tNil)))) (tOst K fl (tVar 0) (tVar 1))) D (L2.start [slf, prm] [.ref a, v]) H := fun D hD => by
    refine ⟨.ref a, rfl, a, C, [.str m], rfl, by show 1 ≤ 1000; omega, T, ha, ?_⟩
    refine ⟨v, rfl, .ref a, rfl, a, C, rfl, T, hno, .inl ⟨ha, fun dx h1 h2 => ?_⟩⟩
    show D.nx _ _
    rw [hD]
    exact hq dx h1 h2
  rcases hpre with rfl | ⟨x, jj, pa, pb, rfl⟩
  · exact ⟨_, core, fin { nx := fun _ H' => Q .non H', rt := Q } rfl⟩
  · exact ⟨_, pss_cons ps_doc core, fin { nx := fun _ H' => Q .non H', rt := Q } rfl⟩
end Mi

/-! Mx 4: closures: more of them known; values without closures. -/
namespace Mi
open PySem L2 StX PySem.Spec PyProof.Rows

mutual
/-- no closure within -/
def noClo : D → Bool
  | .tup l => noClos l
  | .lst l => noClos l
  | .scr l => noClos l
  | .dK _ l => noClos l
  | .dT _ l => noClos l
  | .ins _ _ l => noClos l
  | .exn _ _ l => noClos l
  | .clo _ _ => false
  | _ => true
def noClos : List D → Bool
  | [] => true
  | x :: l => noClo x && noClos l
end
section
variable {S : Sig} {ko : Addr → Option Obj} {cd : Addr → Option Str} {F : Hp}
theorem CellsAt.ext {N : List Str} {cells : List (Str × Addr)} {vs : List V} (h : CellsAt S N cells vs) (hk : ∀ a o, S.ko a = some o → ko a = some o) : CellsAt (S.ext ko cd) N cells vs :=
  ⟨h.inj, h.len, fun i y v e1 e2 => by
    obtain ⟨c, oc, u, a1, a2, a3, a4⟩ := h.get i y v e1 e2
    exact ⟨c, oc, u, a1, hk _ _ a2, a3, a4⟩, fun y c e => by
    obtain ⟨oc, u, a1, a2⟩ := h.dom y c e
    exact ⟨oc, u, hk _ _ a1, a2⟩⟩
mutual
theorem IsD.ext (hk : ∀ a o, S.ko a = some o → ko a = some o) (hc : ∀ a q, S.cd a = some q → cd a = some q) : ∀ {x : D} {v : V}, IsD S F x v → IsD (S.ext ko cd) F x v
  | .non, _, h => by simpa only [IsD] using h
  | .bl _, _, h => by simpa only [IsD] using h
  | .int _, _, h => by simpa only [IsD] using h
  | .str _, _, h => by simpa only [IsD] using h
  | .cls _, _, h => by simpa only [IsD] using h
  | .tup l, v, h => by
    simp only [IsD] at h ⊢
    obtain ⟨a, vs, e, q, r⟩ := h
    exact ⟨a, vs, e, q, IsDs.ext hk hc r⟩
  | .lst l, v, h => by
    simp only [IsD] at h ⊢
    obtain ⟨a, vs, e, q, r⟩ := h
    exact ⟨a, vs, e, q, IsDs.ext hk hc r⟩
  | .scr l, v, h => by
    simp only [IsD] at h ⊢
    obtain ⟨a, vs, e, q, r⟩ := h
    exact ⟨a, vs, e, q, IsDs.ext hk hc r⟩
  | .dK ks l, v, h => by
    simp only [IsD] at h ⊢
    obtain ⟨a, o, vs, e, z, q, r⟩ := h
    exact ⟨a, o, vs, e, z, q, IsDs.ext hk hc r⟩
  | .dT ks l, v, h => by
    simp only [IsD] at h ⊢
    obtain ⟨a, o, vs, e, z, q, r⟩ := h
    exact ⟨a, o, vs, e, z, q, IsDs.ext hk hc r⟩
  | .ins c fs l, v, h => by
    simp only [IsD] at h ⊢
    obtain ⟨a, dx, vs, e, z, q, r⟩ := h
    exact ⟨a, dx, vs, e, z, q, IsDs.ext hk hc r⟩
  | .exn c fs l, v, h => by
    simp only [IsD] at h ⊢
    obtain ⟨a, dx, vs, e, z, q, q2, r⟩ := h
    exact ⟨a, dx, vs, e, z, q, q2, IsDs.ext hk hc r⟩
  | .clo k l, v, h => by
    simp only [IsD] at h ⊢
    obtain ⟨f, c', pm, ctv, L, cells, vs, e, q1, q2, q3, q4, r⟩ := h
    exact ⟨f, c', pm, ctv, L, cells, vs, e, q1, hk _ _ q2, hc _ _ q3, q4.ext hk, IsDs.ext hk hc r⟩
theorem IsDs.ext (hk : ∀ a o, S.ko a = some o → ko a = some o) (hc : ∀ a q, S.cd a = some q → cd a = some q) : ∀ {l : List D} {vs : List V}, IsDs S F l vs → IsDs (S.ext ko cd) F l vs
  | [], _, h => by simpa only [IsDs] using h
  | x :: l, vs, h => by
    simp only [IsDs] at h ⊢
    obtain ⟨v, r, e, q, t⟩ := h
    exact ⟨v, r, e, IsD.ext hk hc q, IsDs.ext hk hc t⟩
end
mutual
theorem IsD.unext : ∀ {x : D} {v : V}, noClo x = true → IsD (S.ext ko cd) F x v → IsD S F x v
  | .non, _, _, h => by simpa only [IsD] using h
  | .bl _, _, _, h => by simpa only [IsD] using h
  | .int _, _, _, h => by simpa only [IsD] using h
  | .str _, _, _, h => by simpa only [IsD] using h
  | .cls _, _, _, h => by simpa only [IsD] using h
  | .tup l, v, n, h => by
    simp only [IsD, noClo] at h n ⊢
    obtain ⟨a, vs, e, q, r⟩ := h
    exact ⟨a, vs, e, q, IsDs.unext n r⟩
  | .lst l, v, n, h => by
    simp only [IsD, noClo] at h n ⊢
    obtain ⟨a, vs, e, q, r⟩ := h
    exact ⟨a, vs, e, q, IsDs.unext n r⟩
  | .scr l, v, n, h => by
    simp only [IsD, noClo] at h n ⊢
    obtain ⟨a, vs, e, q, r⟩ := h
    exact ⟨a, vs, e, q, IsDs.unext n r⟩
  | .dK ks l, v, n, h => by
    simp only [IsD, noClo] at h n ⊢
    obtain ⟨a, o, vs, e, z, q, r⟩ := h
    exact ⟨a, o, vs, e, z, q, IsDs.unext n r⟩
  | .dT ks l, v, n, h => by
    simp only [IsD, noClo] at h n ⊢
    obtain ⟨a, o, vs, e, z, q, r⟩ := h
    exact ⟨a, o, vs, e, z, q, IsDs.unext n r⟩
  | .ins c fs l, v, n, h => by
    simp only [IsD, noClo] at h n ⊢
    obtain ⟨a, dx, vs, e, z, q, r⟩ := h
    exact ⟨a, dx, vs, e, z, q, IsDs.unext n r⟩
  | .exn c fs l, v, n, h => by
    simp only [IsD, noClo] at h n ⊢
    obtain ⟨a, dx, vs, e, z, q, q2, r⟩ := h
    exact ⟨a, dx, vs, e, z, q, q2, IsDs.unext n r⟩
  | .clo k l, v, n, h => by cases n
theorem IsDs.unext : ∀ {l : List D} {vs : List V}, noClos l = true → IsDs (S.ext ko cd) F l vs → IsDs S F l vs
  | [], _, _, h => by simpa only [IsDs] using h
  | x :: l, vs, n, h => by
    simp only [IsDs, noClos, Bool.and_eq_true] at h n ⊢
    obtain ⟨v, r, e, q, t⟩ := h
    exact ⟨v, r, e, IsD.unext n.1 q, IsDs.unext n.2 t⟩
end
variable {c c' : C} {h h' : Hm} {H H' : Hp}
theorem IsW.ext (hk : ∀ a o, S.ko a = some o → ko a = some o) (hc : ∀ a q, S.cd a = some q → cd a = some q) {w : W} {v : V} (q : IsW S c w v) : IsW (S.ext ko cd) c w v := by
  cases w with
  | d x => exact IsD.ext hk hc (show IsD S c.F x v from q)
  | r n => exact q
theorem IsWs.ext (hk : ∀ a o, S.ko a = some o → ko a = some o) (hc : ∀ a q, S.cd a = some q → cd a = some q) : ∀ {l : List W} {vs : List V}, IsWs S c l vs → IsWs (S.ext ko cd) c l vs
  | [], _, q => q
  | x :: l, _, ⟨v, r, e, q, t⟩ => ⟨v, r, e, IsW.ext hk hc q, IsWs.ext hk hc t⟩
/-- the empty small heap, more closures known -/
theorem Rel.ext0 (hc : ∀ a q, cd a = some q → H a = some (LamX.CodeO a q)) (r : Rel S c [] H) : Rel (S.ext ko cd) c [] H :=
  ⟨r.sz, r.fz, fun n o e => by simp at e, fun n o e => by simp at e, fun m n o u e => by simp at e, r.pr, r.pf, fun n o e => by simp at e, r.pt, ⟨r.am.tb, hc⟩, r.nt⟩
/-- back from a run for itself in which more closures were known -/
theorem Rel.unIsoX (hc : ∀ a q, S.cd a = some q → cd a = some q) (r : Rel S c h H) (r' : Rel (S.ext ko cd) c' h' H') (hF : ∀ a o, c.F a = some o → c'.F a = some o) (hP : c'.P = isoP c h H) : Ext c { c with F := c'.F } ∧ Rel S { c with F := c'.F } h H' := by
  have x : Ext c { c with F := c'.F } := ⟨rfl, fun _ _ => rfl, hF, Nat.le_refl _⟩
  have at_ : ∀ n o, h[n]? = some o → o.live = true → H' (c.ι n) = H (c.ι n) := fun n o e lv => by
    obtain ⟨u, eu⟩ := (r.mu n o e).isSome lv
    rw [eu]
    exact r'.pr _ _ (by rw [hP, isoP_live e lv]; exact eu)
  have pp : ∀ a o, c.P a = some o → c'.P a = some o := fun a o e => by
    rw [hP]
    unfold isoP
    split
    · rename_i hx
      obtain ⟨n, u, e1, lv, rfl⟩ := hx
      rw [r.pm n u e1 lv] at e
      cases e
    · exact e
  refine ⟨x, r.sz, r'.fz, fun n o e => ?_, fun n o e lv => ?_, r.inj, fun a o e => r'.pr _ _ (pp a o e), fun a o e => r'.pf _ _ (pp a o e), r.pm, r.pt, ⟨r'.am.tb, fun a q e => r'.am.cd a q (hc a q e)⟩, ⟨r'.nt.1, r.nt.2⟩⟩
  · cases lv : o.live with
    | true => exact (r.mu n o e).up x (at_ n o e lv)
    | false => cases o <;> first | trivial | cases lv
  · obtain ⟨u, eu⟩ := (r.mu n o e).isSome lv
    exact r'.pf _ u (by rw [hP, isoP_live e lv]; exact eu)
end
end Mi

/-! Mx 5: f(lambda: e): the closure made, f run for itself in a world that knows the closure. -/
namespace Mi
open PySem L2 StX PySem.Spec PyProof.Rows

theorem Rel.extN {S : Sig} {c : C} {h : Hm} {H H1 : Hp} (r : Rel S c h H) (eN : LamX.ExtN H H1) (T1 : LamX.Tabs S.tb H1) : Rel S c h H1 := by
  refine ⟨r.sz, fun a o e => eN a o (r.fz a o e) fun ps z => r.nt.1 a ps (z ▸ e), fun n m e => ?_, r.nf, r.inj, fun a o e => eN a o (r.pr a o e) fun ps z => r.nt.2 a ps (z ▸ e), r.pf, r.pm, r.pt, ⟨T1, fun a q e => eN a _ (r.am.cd a q e) LamX.codeO_ne⟩, r.nt⟩
  cases lv : m.live with
  | true =>
    obtain ⟨u, e1, e2⟩ := (r.mu n m e).plain lv
    exact (r.mu n m e).up (Ext.refl c) ((eN _ u e1 e2.1).trans e1.symm)
  | false => cases m <;> first | trivial | cases lv
/-- what the closure takes along: trees -/
def caps (env : En) : List Nat → Option (List D)
  | [] => some []
  | i :: l => match env[i]?, caps env l with
    | some (some (.d x)), some ds => some (x :: ds)
    | _, _ => none
def vLamc (slots : List Nat) (kl : Nat) (g : Fn) : Fe := fun env h => match caps env slots with
  | some ds => match g [.d (.clo kl ds)] [] [] with
    | .ok w h2 => match reW 4 h2 w with
      | some d => if noClo d = true then .ok (.d d) h else .no
      | none => .no
    | _ => .no
  | none => .no
theorem caps_at {S : Sig} {c : C} {env : En} {σ : List (Option V)} (ev : EnvOk S c env σ) : ∀ {slots : List Nat} {ds : List D}, caps env slots = some ds → ∃ vs : List V, IsDs S c.F ds vs ∧ vs.length = slots.length ∧ ∀ (j : Nat) (i : Nat) (v : V), slots[j]? = some i → vs[j]? = some v → σ[i]? = some (some v)
  | [], ds, e => by
    cases e
    exact ⟨[], by simp only [IsDs], rfl, fun j i v e => by simp at e⟩
  | i :: l, ds, e => by
    unfold caps at e
    split at e
    · rename_i x ds' e1 e2
      cases e
      obtain ⟨v, e3, iv⟩ := ev.get i _ e1
      obtain ⟨vs, iq, hl, hg⟩ := caps_at ev e2
      refine ⟨v :: vs, ?_, by rw [List.length_cons, List.length_cons, hl], fun j k u h1 h2 => ?_⟩
      · simp only [IsDs]
        exact ⟨v, vs, rfl, iv, iq⟩
      · cases j with
        | zero =>
          rw [List.getElem?_cons_zero] at h1 h2
          cases h1
          cases h2
          exact e3
        | succ j =>
          rw [List.getElem?_cons_succ] at h1 h2
          exact hg j k u h1 h2
    · cases e
/-- the world that knows all that nobody tracks, but the frames -/
def known (h : Heap) (H : Hp) (fs : List Addr) : Heap := PySem.W.hideAll (hidT h H) fs
theorem known_get {h : Heap} {H : Hp} {fs : List Addr} {b : Addr} {o : Obj} (e : h.get? b = some o) (n : H b = none) (hf : b ∉ fs) : (known h H fs).get? b = some o := PySem.W.hideAll_get _ (hidT_get e n) hf
theorem of_known {h : Heap} {H : Hp} {fs : List Addr} {b : Addr} {o : Obj} (e : (known h H fs).get? b = some o) : h.get? b = some o ∧ H b = none ∧ b ∉ fs := by
  have e1 := PySem.W.of_hideAll _ e
  obtain ⟨e2, e3⟩ := of_hidT e1
  refine ⟨e2, e3, fun hf => ?_⟩
  rw [show (known h H fs).get? b = _ from PySem.W.hideAll_none _ hf] at e
  cases e
section
variable {X : Cx} {pins : List (Addr × Obj)} {σ : L2.St} {H : Hp} {s : Shared}
theorem Inv_known (I : Inv X pins σ H s) : (∀ b o, X.base.get? b = some o → (known s.heap H (frs X.stack)).get? b = some o) ∧ Env0 X.prog X.w X.K X.mg (known s.heap H (frs X.stack)) X.A X.stack s H := by
  have e0 := I.env0
  have nf : ∀ b o, X.base.get? b = some o → b ∉ frs X.stack := fun b o e hb => by
    have := (I.stack.mem hb).1
    rw [e] at this
    cases this
  have k : ∀ b o, X.base.get? b = some o → (known s.heap H (frs X.stack)).get? b = some o := fun b o e => known_get (I.bs b o e).1 (I.bs b o e).2 (nf b o e)
  obtain ⟨mb, hb, hbb⟩ := e0.mod.blt
  refine ⟨k, e0.frames, ⟨e0.mod.kin.keeps k, e0.mod.glob.keeps k, ⟨mb, hb.keeps k, hbb⟩, e0.mod.nolimit.keeps k⟩, fun b o e => ?_, ?_, ?_, e0.frf, e0.hok, e0.bare⟩
  · obtain ⟨a, b, _⟩ := of_known e
    exact ⟨a, b⟩
  · show (known s.heap H (frs X.stack)).objs.size ≤ _
    unfold known
    rw [PySem.W.hideAll_size, hidT_size]
    exact Nat.le_refl _
  · refine funFrames_none I.stack fun L hL => ?_
    exact PySem.W.hideAll_none _ hL
end
section
variable {X : Cx} {S : Sig} {k : Nat} {Wx : WX}
theorem pe_lamc {fa : Addr} {g : Fn} {c P : Addr} {x : Str} {params : Arguments} {body : Expr} {scope : Scope} {p lpos pos : Pos} {kl : Nat} {Nl : List Str} {slots : List Nat}
    (hK : S.K = X.K) (hko : ∀ a o, S.ko a = some o → X.base.get? a = some o) (hr : Room k X.A) (gd : X.A.guards = some [])
    (G : ∀ (ko : Addr → Option Obj) (cd : Addr → Option Str) (base' : Heap), (∀ a o, S.ko a = some o → ko a = some o) → (∀ a q, S.cd a = some q → cd a = some q) → (∀ b o, X.base.get? b = some o → base'.get? b = some o) → (∀ a o, ko a = some o → base'.get? a = some o) → Calls X.prog X.w X.mg base' (S.ext ko cd) k fa g)
    (hg : Gl X x) (hm : X.mg x = some (.ref fa)) (hk : PySem.W.keepIn X.K (.ref fa) = true) (hdb : (x == ("__debug__" : Str)) = false)
    (TB : LamX.TabB X.base X.mg c P) (hcode : X.env.code = .ref c) (hmT : (P, X.env.qual ++ "<lambda>") ∈ S.tb) (hu : ∀ p ∈ S.tb, p.1 = P → p.2 = X.env.qual ++ "<lambda>")
    (L : LamX.LamS X.env.scope scope) (hdef : defaultsOf params X.env = ([], [])) (hlam : S.lam kl ⟨X.env.qual ++ "<lambda>", params, body, scope, Nl⟩)
    (hN : ∀ y, y ∈ Nl → scope.names.lookup y = some .free) (hsl : slots.length = Nl.length) (hat : ∀ (j i : Nat) (y : Str), slots[j]? = some i → Nl[j]? = some y → X.N[i]? = some y) (hfn0 : ∀ y, X.fn y = true) :
    PE X (.Call (.Name x p) [.Lambda params body scope lpos] [] pos) (TEof S Wx (vLamc slots kl g)) := by
  refine ⟨fun pins s σ H Q I ⟨c0, env, h, ev, r, q⟩ => ?_⟩
  unfold vLamc at q
  split at q
  rotate_left
  · exact q.elim
  rename_i ds eds
  obtain ⟨vs, ids, hvl, hvs⟩ := caps_at ev eds
  refine wpAny_Call_Name_kw (ld_glob I hg hm ?_ hdb)
  refine PySem.W.callWith_K (h₀ := X.base) I.ok.mod.kin hk ?_ (by rfl) (by rfl)
  show wpAny _ _ (spliced ((false, eval (.Lambda params body scope lpos) X.env) :: backTo pos (starEach [] X.env))) _ _ s
  refine Calls.spliced_cons (LamX.lam_make2 I TB hcode hmT hu r.am.tb hdef (L.has I.ok) fun f c' pm ctv H1 s' I1 eN T1 hf hfn hfr hco => ?_)
  refine Calls.spliced_nil ⟨I1.kIn, ?_⟩
  have r1 := r.extN eN T1
  obtain ⟨kb, e0⟩ := Inv_known I1
  -- what the closure's cells hold
  have hfree := L.has I1.ok
  have cm : ∀ {y ca}, (cloFrom X.env.cells scope.names []).lookup y = some ca → X.env.cells.lookup y = some ca := fun {y ca} e => by
    rcases cloFrom_mem (PySem.mem_of_lookup e) with hm | ⟨h1, h2⟩
    · cases hm
    · obtain ⟨c1, hc⟩ := hfree _ h1 rfl
      have hc : X.env.cells.lookup y = some c1 := hc
      rw [hc] at h2
      rw [hc, h2]
      rfl
  have nfr : ∀ {y ca}, X.env.cells.lookup y = some ca → ca ∉ frs X.stack := fun {y ca} e hb => by
    rcases List.mem_cons.mp (I1.stkSub ca hb) with z | z
    · exact I1.cne y ca e z
    · have h1 := I1.ok.cab y ca (hfn0 y) e
      obtain ⟨_, o, ho, _⟩ := I1.ok.funs.mem z
      exact absurd (Nat.lt_of_lt_of_le (Heap.lt_size ho) h1) (Nat.lt_irrefl _)
  have cellKn : ∀ {y ca}, X.env.cells.lookup y = some ca → ∀ {oc : Obj}, s'.heap.get? ca = some oc → (known s'.heap H1 (frs X.stack)).get? ca = some oc := fun {y ca} e {oc} h1 => known_get h1 (I1.freeC y ca e) (nfr e)
  obtain ⟨m, hns, hlook⟩ := I1.loc
  have cat : CellsAt (S.ext (known s'.heap H1 (frs X.stack)).get? (fun a => if a = c' then some (X.env.qual ++ "<lambda>") else S.cd a)) Nl (cloFrom X.env.cells scope.names []) vs := by
    refine ⟨fun y z ca e1 e2 => I1.ok.inj y z ca (cm e1) (cm e2), by rw [hvl, hsl], fun i y v e1 e2 => ?_, fun y ca e => ?_⟩
    · have hy := hN y (List.mem_of_getElem? e1)
      have hi : i < slots.length := by rw [hsl]; exact (List.getElem?_eq_some_iff.mp e1).1
      have e3 : slots[i]? = some (slots[i]'hi) := List.getElem?_eq_getElem hi
      have e4 := hvs i _ v e3 e2
      have e5 := hat i _ y e3 e1
      have hmem : (y, NameKind.free) ∈ scope.names := PySem.mem_of_lookup hy
      obtain ⟨ca, eca⟩ := mem_lookup (cloFrom_has (cells := X.env.cells) (acc := []) hmem)
      have hvis : Vis X.env.scope y := (L.free _ hmem rfl).elim (fun k => .inr (.inl k)) (fun k => .inr (.inr k))
      obtain ⟨u, ru, lk⟩ := hlook _ y v e5 e4 hvis
      rcases lk with ⟨k', _⟩ | ⟨_, c3, e', oc, z1, z2⟩
      · have k' : X.env.scope.names.lookup y = some .local := k'
        rcases L.free _ hmem rfl with k2 | k2 <;> rw [show X.env.scope.names.lookup y = _ from k2] at k' <;> cases k'
      · have c1 := cm eca
        rw [c1] at e'
        cases e'
        exact ⟨ca, oc, u, eca, cellKn c1 z1, z2, ru⟩
    · obtain ⟨v, oc, z1, z2⟩ := I1.cell y ca (cm e)
      exact ⟨oc, v, cellKn (cm e) z1, z2⟩
  have hkx : ∀ a o, S.ko a = some o → (known s'.heap H1 (frs X.stack)).get? a = some o := fun a o e => kb a o (hko a o e)
  have hcx : ∀ a q, S.cd a = some q → (fun a => if a = c' then some (X.env.qual ++ "<lambda>") else S.cd a) a = some q := fun a q e => by
    show (if a = c' then _ else _) = _
    by_cases hac : a = c'
    · rw [if_pos hac]
      have e1 := r1.am.cd a q e
      rw [hac] at e1
      have o1 : ObjOk X.prog X.w H1 s'.heap c' (LamX.CodeO c' q) := I1.hok c' _ e1
      have o2 : ObjOk X.prog X.w H1 s'.heap c' (LamX.CodeO c' (X.env.qual ++ "<lambda>")) := I1.hok c' _ hco
      obtain ⟨⟨oc, us, t, a1, a2, a3⟩, _, _⟩ := o1
      obtain ⟨⟨oc', us', t', b1, b2, b3⟩, _, _⟩ := o2
      rw [a1] at b1
      cases b1
      rw [a2] at b2
      cases b2
      rw [a3] at b3
      cases b3
      rfl
    · rw [if_neg hac]; exact e
  have iclo : IsD (S.ext (known s'.heap H1 (frs X.stack)).get? (fun a => if a = c' then some (X.env.qual ++ "<lambda>") else S.cd a)) c0.F (.clo kl ds) (.ref f) := by
    simp only [IsD]
    exact ⟨f, c', pm, ctv, _, _, vs, rfl, hlam, known_get hf hfn hfr, if_pos rfl, cat, IsDs.ext hkx hcx ids⟩
  have F := G (known s'.heap H1 (frs X.stack)).get? (fun a => if a = c' then some (X.env.qual ++ "<lambda>") else S.cd a) (known s'.heap H1 (frs X.stack)) hkx hcx kb (fun a o e => e)
  have rI : Rel (S.ext (known s'.heap H1 (frs X.stack)).get? (fun a => if a = c' then some (X.env.qual ++ "<lambda>") else S.cd a)) { c0 with n := 0, P := isoP c0 h H1 } [] H1 := Rel.ext0 (fun a q e => by
    by_cases hac : a = c'
    · rw [if_pos hac] at e
      cases e
      rw [hac]; exact hco
    · rw [if_neg hac] at e
      exact r1.am.cd a q e) r1.iso
  refine wpAny_call (codeAny_mono (F.run X.A X.stack s' H1 [.ref f] [] { c0 with n := 0, P := isoP c0 h H1 } [] [.d (.clo kl ds)] [.ref f] [] [] Q (fun _ _ _ => False) hr gd (by rw [show (S.ext (known s'.heap H1 (frs X.stack)).get? (fun a => if a = c' then some (X.env.qual ++ "<lambda>") else S.cd a)).K = X.K from hK]; exact e0) ⟨_, _, rfl, iclo, rfl⟩ (.cons rfl .nil) rfl rfl .nil rI ?_) fun res s2 hq => ?_)
  · revert q
    cases g [.d (.clo kl ds)] [] [] with
    | no => exact fun q => q
    | ex e h2 => exact fun q => q.elim
    | ok w2 h2 =>
      intro q c2 H2 x2 rel2 v iv
      simp only at q
      split at q
      · rename_i d ed2
        split at q
        · rename_i hnc
          have rel3 := rel2.allF
          obtain ⟨x3, r3⟩ := Rel.unIsoX hcx r1 rel3 (fun a o e => allF_old rel2 a o (x2.F a o e)) x2.P
          exact q _ H2 x3 r3 v (IsD.unext hnc (reW_is rel2 4 w2 d v ed2 iv))
        · exact q.elim
      · exact q.elim
  · cases res with
    | error er =>
      obtain ⟨_, _, _, _, _, _, _, _, _, _, _, _, z⟩ := hq
      exact z.elim
    | ok fl => rcases fl with _ | _ | _ | u <;> first | exact I1.after hq | exact False.elim hq
end
end Mi

/-! Mx 6: a closure that is known is called. -/
namespace Mi
open PySem L2 StX PySem.Spec PyProof.Rows

/-- what a lambda's text must be -/
structure LamOk (L : LamT) : Prop where
  kind : L.scope.kind = .function
  co : L.scope.isCoroutine = false
  gen : L.scope.isGenerator = false
  own : ∀ y ∈ L.scope.names, y.2 ≠ .local ∧ y.2 ≠ .cell
  free : ∀ y, L.scope.names.lookup y = some .free → y ∈ L.N
  nd : L.N.Nodup
  bind : ∀ (q : Str) (cl : List (Str × Addr)) (pm cv ctv : Value), bindArgs (PySem.W.kla_fn "<lambda>" q L.params L.body L.scope cl pm cv ctv) ⟨[], []⟩ = pure []
/-- the frame of a lambda -/
abbrev lamE (L : LamT) (cells : List (Str × Addr)) (n f c' : Addr) : Env := PySem.W.envX L.qual L.scope n f (.ref c') cells
/-- the context of a lambda's body -/
def lamX (P : Program) (w : World) (K : PySem.W.Frag) (mg : Str → Option Value) (base : Heap) (L : LamT) (cells : List (Str × Addr)) (f c' : Addr) (A : Around) (outer : List Env) (s : Shared) (H : Hp) (E : XK) : Cx where
  prog := P
  w := w
  K := K
  mg := mg
  base := base
  A := A.deeper (lamE L cells s.heap.objs.size f c')
  N := L.N
  s_0 := s
  H_0 := H
  env := lamE L cells s.heap.objs.size f c'
  outer := outer
  stack := lamE L cells s.heap.objs.size f c' :: outer
  ex := []
  calm := true
  fn := fun _ => false
  pn := []
  xe := fun e s' => wpAny (model P w) (A.deeper (lamE L cells s.heap.objs.size f c')) (leaving (lamE L cells s.heap.objs.size f c') e) (fun _ s'' => L2.CX P w outer H s E e s'') (fun e' s'' => L2.CX P w outer H s E e' s'') s'
/-- calls of closures of the text L run as g over what they took along -/
structure LamCalls (P : Program) (w : World) (mg : Str → Option Value) (base : Heap) (S : Sig) (k : Nat) (L : LamT) (g : List W → Hm → R W) : Prop where
  run : ∀ (A : Around) (outer : List Env) (s : Shared) (H : Hp) (f c' : Addr) (pm ctv : Value) (cells : List (Str × Addr)) (c : C) (h : Hm) (ws : List W) (vs : List V) (Q : VK) (E : XK), Room k A → A.guards = some [] → Env0 P w S.K mg base A outer s H →
    S.ko f = some (PySem.W.kla_obj "<lambda>" L.qual L.params L.body L.scope cells pm c' ctv) → S.cd c' = some L.qual → CellsAt S L.N cells vs → IsWs S c ws vs → Rel S c h H →
    Aft S c (g ws h) (fun c' w _ H' => ∀ v, IsW S c' w v → Q v H') E → codeAny (model P w) A (.call (.ref f) ⟨[], []⟩) (CR (L2.CX P w) outer P w H s Q E) s
theorem envOk_some {S : Sig} {c : C} : ∀ {ws : List W} {vs : List V}, IsWs S c ws vs → EnvOk S c (ws.map some) (vs.map some)
  | ws, vs, i => by
    refine ⟨by rw [List.length_map, List.length_map, i.length], fun j w e => ?_⟩
    rw [List.getElem?_map] at e
    cases e1 : ws[j]? with
    | none => rw [e1] at e; cases e
    | some u =>
      rw [e1] at e
      cases e
      obtain ⟨v, e2, iv⟩ := i.get e1
      exact ⟨v, by rw [List.getElem?_map, e2]; rfl, iv⟩
theorem lamCalls {P : Program} {w : World} {mg : Str → Option Value} {base : Heap} {S : Sig} {k : Nat} {L : LamT} {fe : Fe} (lo : LamOk L) (hko : ∀ a o, S.ko a = some o → base.get? a = some o)
    (hbody : ∀ (cells : List (Str × Addr)) (f c' : Addr) (A : Around) (outer : List Env) (s : Shared) (H : Hp) (E : XK), Room k (lamX P w S.K mg base L cells f c' A outer s H E).A → (lamX P w S.K mg base L cells f c' A outer s H E).A.guards = some [] → Takes (lamX P w S.K mg base L cells f c' A outer s H E) (fun cls d _ H' => E cls d H') →
      PE (lamX P w S.K mg base L cells f c' A outer s H E) L.body (TEof S (fun cls d _ H' => E cls d H') fe)) : LamCalls P w mg base S (k + 1) L fun ws h => fe (ws.map some) h := by
  refine ⟨fun A outer s H f c' pm ctv cells c h ws vs Q E hr gd e0 kf kc ca iw r q => ?_⟩
  have of1 : s.heap.get? f = some (PySem.W.kla_obj "<lambda>" L.qual L.params L.body L.scope cells pm c' ctv) := (e0.bs f _ (hko f _ kf)).1
  have hco : ObjOk P w H s.heap c' (LamX.CodeO c' L.qual) := e0.hok c' _ (r.am.cd c' _ kc)
  obtain ⟨⟨oc, us, t, hoc, hdc, hvc⟩, _, _⟩ := hco
  refine PySem.W.kla_callFunE hr.depth of1 rfl lo.co lo.gen rfl ⟨c', oc, us, t, rfl, hoc, hdc, hvc⟩ ?_
  rw [lo.bind]
  have nl : s.heap.NoLimit := e0.mod.nolimit.keeps fun b o e => (e0.bs b o e).1
  refine wpAny_pure (wpAny_newFunctionEnv (fun y hy => (lo.own y hy).2) (fun y hy => absurd hy (by simp)) (fun h₁ hns hsb => ⟨nl.fresh _ hsb, ?_⟩) lo.kind)
  show codeAny _ _ (.expr L.body (lamE L cells s.heap.objs.size f c')) _ _
  have kp : ∀ b o, s.heap.get? b = some o → h₁.get? b = some o := fun b o e => hsb.extBut b o (Nat.ne_of_lt (Heap.lt_size e)) (Heap.get?_push_of_some _ e)
  have known : ∀ {a : Addr} {o : Obj}, S.ko a = some o → s.heap.get? a = some o ∧ H a = none := fun {a o} e => e0.bs a o (hko a o e)
  have fv : ∀ y, L.scope.names.lookup y = some .free → ∃ (ca : Addr) (oc : Obj) (u : Option Value), cells.lookup y = some ca ∧ S.ko ca = some oc ∧ oc.data = .cell u := fun y hy => by
    obtain ⟨i, hi⟩ := List.getElem?_of_mem (lo.free y hy)
    have hlt : i < vs.length := by rw [ca.len]; exact (List.getElem?_eq_some_iff.mp hi).1
    obtain ⟨a1, oc1, u, b1, b2, b3, _⟩ := ca.get i y _ hi (List.getElem?_eq_getElem hlt)
    exact ⟨a1, oc1, some u, b1, b2, b3⟩
  have nol : ∀ y, L.scope.names.lookup y ≠ some .local ∧ L.scope.names.lookup y ≠ some .cell := fun y => ⟨fun e => (lo.own _ (PySem.mem_of_lookup e)).1 rfl, fun e => (lo.own _ (PySem.mem_of_lookup e)).2 rfl⟩
  have ok : (lamX P w S.K mg base L cells f c' A outer s H E).Ok := by
    refine ⟨e0.mod, lo.kind, rfl, rfl, Nat.le_refl _, ca.inj, fun y hy => ?_, fun y z e => ?_, fun _ => hr.hd, Around.frames_deeper e0.frames, .inr ⟨rfl, rfl⟩, fun b z => (nomatch z), e0.bs, e0.bsz, fun b _ _ z => (nomatch z), fun b z => (nomatch z), e0.funs, e0.frf⟩
    · have hy : L.scope.names.lookup y = some .cell ∨ L.scope.names.lookup y = some .free := hy
      rcases hy with hy | hy
      · exact ((nol y).2 hy).elim
      · obtain ⟨a1, _, _, b1, _⟩ := fv y hy
        exact ⟨a1, b1⟩
    · exact fun z => by
        have e : false = true := e
        cases e
  have J : Inv (lamX P w S.K mg base L cells f c' A outer s H E) [] (vs.map some) H { s with heap := h₁, toks := s.toks + ([] : List (Str × Value)).length } := by
    refine ⟨ok, rfl, e0.bare, Un.kept kp, ⟨_, hns, fun i y v e1 e2 e3 => ?_⟩, fun y z e => ?_, e0.hok.fresh (Nat.le_refl _), fun y z e => ?_, fun p hp => (nomatch hp), e0.hok.kept kp, by rw [List.length_map]; exact ca.len⟩
    · have e3 : Vis L.scope y := e3
      rcases e3 with z | z | z
      · exact ((nol y).1 z).elim
      · exact ((nol y).2 z).elim
      · rw [List.getElem?_map] at e2
        cases e4 : vs[i]? with
        | none => rw [e4] at e2; cases e2
        | some v' =>
          rw [e4] at e2
          cases e2
          obtain ⟨a1, oc1, u, b1, b2, b3, b4⟩ := ca.get i y _ e1 e4
          exact ⟨u, b4, .inr ⟨.inr z, a1, b1, oc1, kp _ _ (known b2).1, b3⟩⟩
    · obtain ⟨oc1, u, b1, b2⟩ := ca.dom y z e
      exact ⟨u, oc1, kp _ _ (known b1).1, b2⟩
    · obtain ⟨oc1, u, b1, b2⟩ := ca.dom y z e
      exact (known b1).2
  have pb := hbody cells f c' A outer s H E (hr.deeper _) gd (takes_of rfl rfl rfl rfl)
  refine PySem.W.kla_codeExpr (wpAny_mono (pb.run [] _ _ H Q J ⟨c, ws.map some, h, envOk_some iw, r, q⟩) (fun v s' hq => ?_) fun e s' hq => hq)
  obtain ⟨w', H', J', rv, q'⟩ := hq
  exact ⟨w', H', J'.os, J'.bare, J'.base, J'.hok, rv, q'⟩
end Mi

/-! Mx 7: x(), x a closure. -/
namespace Mi
open PySem L2 StX PySem.Spec PyProof.Rows

def vAct (la : Nat → List W → Hm → R W) (i : Nat) : Fe := fun env h => match env[i]? with
  | some (some (.d (.clo k ds))) => la k (ds.map W.d) h
  | _ => .no
theorem pe_clo {X : Cx} {S : Sig} {k : Nat} {Wx : WX} {la : Nat → List W → Hm → R W} {i : Nat} {a : Str} {p1 p2 : Pos} (hK : S.K = X.K) (hko : ∀ a o, S.ko a = some o → X.base.get? a = some o) (hr : Room k X.A) (gd : X.A.guards = some []) (tk : Takes X Wx)
    (GL : ∀ kl L, S.lam kl L → LamCalls X.prog X.w X.mg X.base S k L (la kl)) (hi : X.N[i]? = some a) (hv : Vis X.env.scope a) (hd : (a == ("__debug__" : Str)) = false) (hcd : (a == ("__classdict__" : Str)) = false) :
    PE X (.Call (.Name a p1) [] [] p2) (TEof S Wx (vAct la i)) := by
  refine ⟨fun pins s σ H Q I ⟨c0, env, h, ev, r, q⟩ => ?_⟩
  unfold vAct at q
  split at q
  rotate_left
  · exact q.elim
  rename_i kl ds ei
  obtain ⟨v, ev2, iv⟩ := ev.get i _ ei
  have iv : IsD S c0.F (.clo kl ds) v := iv
  simp only [IsD] at iv
  obtain ⟨f, c', pm, ctv, L, cells, vs, rfl, hl, kf, kc, ca, ids⟩ := iv
  refine wpAny_Call_Name_kw (thn ((pe_var (pos := p1) (i := i) hi hv hd hcd).run pins s σ H (fun v H1 => v = .ref f ∧ H1 = H) I ⟨.ref f, ev2, rfl, rfl⟩) fun u s1 ⟨v, H1, I1, r1, q1⟩ => ?_)
  obtain ⟨rfl, rfl⟩ := q1
  obtain rfl : u = Value.ref f := r1
  have of1 := I1.bk f _ (hko f _ kf)
  refine PySem.W.callWith_F0 ⟨_, _, _, _, of1⟩ ?_
  refine wpAny_call (codeAny_mono ((GL kl L hl).run X.A X.stack s1 H1 f c' pm ctv cells c0 h (ds.map W.d) vs Q (fun cls d H' => Wx cls d σ H') hr gd (by rw [hK]; exact I1.env0) kf kc ca ids.toW r q) fun res s2 hq => ?_)
  cases res with
  | error er => exact tk er s2 (XE.of_call I1 (fun _ _ _ z => z) hq)
  | ok fl => rcases fl with _ | _ | _ | u <;> first | exact I1.after hq | exact False.elim hq
end Mi

/-! Mx 8: static methods and class methods, of a class and of an instance; C(..) where C is a parameter. -/
namespace Mi
open PySem L2 StX PySem.Spec PyProof.Rows

/-- what stands at P: a call of fv keeps the frame -/
def KeepF (M : Model) (P : Heap → Prop) (fv : Value) : Prop := ∀ h, P h → ∃ k, (k = Keeper.frame ∨ k = Keeper.machine ∨ k = Keeper.boundFrame) ∧ PySem.W.Looks M h (keeperOf fv) k
section
variable {M : Model} {A : Around} {E : Value → Shared → Prop} {s : Shared} {env : Env} {P : Heap → Prop} {f : Value} {first : List Value} {pos : Pos} {Q : Value → Shared → Prop}
theorem posP (hk : KeepF M P f) {es : List Expr} (hs : noStar es = true) (h0 : P s.heap) (h1 : es = [] → wpAny M A (call f (first ++ [])) Q E s)
    (h : wpAny M A (spliced (backTo pos (starEach es env))) (fun us t => P t.heap ∧ wpAny M A (call f (first ++ us)) Q E t) E s) : wpAny M A (callWith pos f first (backTo pos (starEach es env)) []) Q E s := by
  cases es with
  | nil => exact PySem.W.callWith_of rfl hk (evalArgs_nil3 ⟨h0, h1 rfl⟩)
  | cons e r =>
    have he := (noStar_cons (env := env) hs).1
    have hp := noStar_back (env := env) (pos := pos) (noStar_cons (env := env) hs).2
    rw [he] at h ⊢
    refine PySem.W.callWith_of ?_ hk (PySem.Calls.evalArgs_plain h)
    show ((false || (backTo pos (starEach r env)).any (·.1)) || false) = false
    rw [hp]
    rfl
theorem kwP (hk : KeepF M P f) {e : Expr} {r : List Expr} {kws : List Keyword} {ns : List Str} (hs : noStar (e :: r) = true) (hn : kwNames kws = some ns)
    (h : wpAny M A (spliced (backTo pos (starEach (e :: r) env))) (fun us t => wpAny M A (evalAll ((backToKw pos (keywordEach kws env)).map (·.2))) (fun zs t2 => P t2.heap ∧ wpAny M A (call f (first ++ us) (ns.zip zs)) Q E t2) E t) E s) :
    wpAny M A (callWith pos f first (backTo pos (starEach (e :: r) env)) (backToKw pos (keywordEach kws env))) Q E s := by
  obtain ⟨h1, h2, h3⟩ := kwNames_all (env := env) (pos := pos) hn
  refine PySem.W.callWith_of ?_ hk (evalArgs_kw2 h1 (by rw [h2]; exact h) (noStar_cons hs).1)
  rw [noStar_back hs, h3]
  rfl
theorem kwP0 (hk : KeepF M P f) {kws : List Keyword} {ns : List Str} (hn : kwNames kws = some ns)
    (h : wpAny M A (evalAll ((backToKw pos (keywordEach kws env)).map (·.2))) (fun zs t2 => P t2.heap ∧ wpAny M A (call f (first ++ []) (ns.zip zs)) Q E t2) E s) :
    wpAny M A (callWith pos f first (backTo pos (starEach [] env)) (backToKw pos (keywordEach kws env))) Q E s := by
  obtain ⟨h1, h2, h3⟩ := kwNames_all (env := env) (pos := pos) hn
  refine PySem.W.callWith_of ?_ hk (evalArgs_kw2_nil h1 (by rw [h2]; exact h))
  rw [h3]
  rfl
end
/-- a value that runs as g, at these pins -/
def RunsAt (X : Cx) (S : Sig) (Wx : WX) (pins : List (Addr × Obj)) (fv : Value) (g : Fn) : Prop :=
  ∀ (σ : L2.St) (H : Hp) (s : Shared) (us : List Value) (kw : List (Str × Value)) (c : C) (h : Hm) (ws : List W) (vs : List V) (kws : List (Str × W)) (kvs : List V) (Q : VK), Inv X pins σ H s → IsWs S c ws vs → Vals vs us → kw.map (·.1) = kws.map (·.1) →
    IsWs S c (kws.map (·.2)) kvs → Vals kvs (kw.map (·.2)) → Rel S c h H → Aft S c (g ws kws h) (fun c' w _ H' => ∀ v, IsW S c' w v → Q v H') (fun cls d H' => Wx cls d σ H') → wpAny (model X.prog X.w) X.A (call fv us kw) (EP X pins σ Q) X.xe s
section
variable {X : Cx} {S : Sig} {k : Nat} {Wx : WX} {P : Heap → Prop}
theorem argsP {pins : List (Addr × Obj)} {σ : L2.St} {H : Hp} {s : Shared} {fv : Value} {g : Fn} {es : List Expr} {kws : List Keyword} {ns : List Str} {fa fk : Fa} {pos : Pos} {fws : List W} {fvs : List V} {first : List Value} {c : C} {env : En} {h : Hm} {Q : VK}
    (F : RunsAt X S Wx pins fv g) (hP : ∀ {σ H s}, Inv X pins σ H s → P s.heap) (hk : KeepF (model X.prog X.w) P fv) (hs : noStar es = true) (hn : kwNames kws = some ns) (ha : PA X es (TAof S Wx fa)) (hkw : PK X kws (TAof S Wx fk)) (a0 : es = [] → fa = aNil) (k0 : kws = [] → fk = aNil)
    (I : Inv X pins σ H s) (ev : EnvOk S c env σ) (r : Rel S c h H) (iw : IsWs S c fws fvs) (rf : Vals fvs first) (q : Aft S c (vArgs fa fk ns g fws env h) (fun c' w _ H' => ∀ v, IsW S c' w v → Q v H') (fun cls d H' => Wx cls d σ H')) :
    wpAny (model X.prog X.w) X.A (callWith pos fv first (backTo pos (starEach es X.env)) (backToKw pos (keywordEach kws X.env))) (EP X pins σ Q) X.xe s := by
  have go : ∀ {s2 : Shared} {H2 : Hp} {c2 : C} {h2 : Hm} {ws zs : List W} {vs zvs : List V} {us zus : List Value}, Inv X pins σ H2 s2 → Ext c c2 → Rel S c2 h2 H2 → IsWs S c2 ws vs → Vals vs us → IsWs S c2 zs zvs → Vals zvs zus →
      Aft S c2 (if zs.length = ns.length then g (fws ++ ws) (ns.zip zs) h2 else .no) (fun c' w _ H' => ∀ v, IsW S c' w v → Q v H') (fun cls d H' => Wx cls d σ H') →
      wpAny (model X.prog X.w) X.A (call fv (first ++ us) (ns.zip zus)) (EP X pins σ Q) X.xe s2 := fun {s2 H2 c2 h2 ws zs vs zvs us zus} I2 x r2 i1 v1 i2 v2 q => by
    split at q
    · rename_i hl
      have l1 := i2.length
      have l2 := v2.length
      refine F σ H2 s2 (first ++ us) (ns.zip zus) c2 h2 (fws ++ ws) (fvs ++ vs) (ns.zip zs) zvs Q I2 (IsWs.append (iw.mono x) i1) (rf.append v1) ?_ ?_ ?_ r2 q
      · rw [List.map_fst_zip (by omega), List.map_fst_zip (by omega)]
      · rw [List.map_snd_zip (by omega)]; exact i2
      · rw [List.map_snd_zip (by omega)]; exact v2
    · exact q.elim
  let Cont : C → List W → Hm → Prop := fun c1 ws h1 => Aft S c1 ((fk env h1).bind fun zs h2 => if zs.length = ns.length then g (fws ++ ws) (ns.zip zs) h2 else .no) (fun c' w _ H' => ∀ v, IsW S c' w v → Q v H') (fun cls d H' => Wx cls d σ H')
  have pos_ : wpAny (model X.prog X.w) X.A (spliced (backTo pos (starEach es X.env))) (fun us s1 => ∃ c1 ws h1 vs H1, Inv X pins σ H1 s1 ∧ Ext c c1 ∧ Rel S c1 h1 H1 ∧ IsWs S c1 ws vs ∧ Vals vs us ∧ Cont c1 ws h1) X.xe s :=
    thn (ha.run pos pins s σ H (fun vs H1 => ∃ c1 ws h1, Ext c c1 ∧ Rel S c1 h1 H1 ∧ IsWs S c1 ws vs ∧ Cont c1 ws h1) I ⟨c, env, h, ev, r, q.bind.mono (Ext.refl c) (fun c1 ws h1 H1 x1 r1 q1 vs i1 => ⟨c1, ws, h1, x1, r1, i1, q1⟩) fun _ _ _ q => q⟩)
      fun us s1 ⟨vs, H1, I1, v1, c1, ws, h1, x1, r1, i1, q1⟩ => ⟨c1, ws, h1, vs, H1, I1, x1, r1, i1, v1, q1⟩
  have kw_ : ∀ {s1 : Shared} {H1 : Hp} {c1 : C} {h1 : Hm} {ws : List W} {vs : List V} {us : List Value}, Inv X pins σ H1 s1 → Ext c c1 → Rel S c1 h1 H1 → IsWs S c1 ws vs → Vals vs us → Cont c1 ws h1 →
      wpAny (model X.prog X.w) X.A (evalAll ((backToKw pos (keywordEach kws X.env)).map (·.2))) (fun ks s₂ => P s₂.heap ∧ wpAny (model X.prog X.w) X.A (call fv (first ++ us) (ns.zip ks)) (EP X pins σ Q) X.xe s₂) X.xe s1 := fun {s1 H1 c1 h1 ws vs us} I1 x1 r1 i1 v1 q1 =>
    thn (hkw.run pos pins s1 σ H1 (fun zvs H2 => ∃ c2 zs h2, Ext c1 c2 ∧ Rel S c2 h2 H2 ∧ IsWs S c2 zs zvs ∧ Aft S c2 (if zs.length = ns.length then g (fws ++ ws) (ns.zip zs) h2 else .no) (fun c' w _ H' => ∀ v, IsW S c' w v → Q v H') (fun cls d H' => Wx cls d σ H')) I1
        ⟨c1, env, h1, ev.up x1, r1, q1.bind.mono (Ext.refl c1) (fun c2 zs h2 H2 x2 r2 q2 zvs i2 => ⟨c2, zs, h2, x2, r2, i2, q2⟩) fun _ _ _ q => q⟩)
      fun zus s2 ⟨zvs, H2, I2, v2, c2, zs, h2, x2, r2, i2, q2⟩ => ⟨hP I2, go I2 (x1.trans x2) r2 (i1.mono x2) v1 i2 v2 q2⟩
  cases kws with
  | nil =>
    cases hn
    rw [k0 rfl] at q
    have k1 := k0 rfl
    refine posP hk hs (hP I) (fun e0 => ?_) (thn pos_ fun us s1 ⟨c1, ws, h1, vs, H1, I1, x1, r1, i1, v1, q1⟩ => ⟨hP I1, ?_⟩)
    · rw [a0 e0] at q
      exact go (us := []) (ws := []) (vs := []) (zus := []) (zs := []) (zvs := []) I (Ext.refl c) r rfl .nil rfl .nil q
    · have q2 : Aft S c1 ((fk env h1).bind fun zs h2 => if zs.length = 0 then g (fws ++ ws) (List.zip [] zs) h2 else .no) _ _ := q1
      rw [k1] at q2
      exact go (zus := []) (zs := []) (zvs := []) I1 x1 r1 i1 v1 rfl .nil q2
  | cons kw kr =>
    cases es with
    | nil =>
      rw [a0 rfl] at q
      exact kwP0 hk hn (kw_ (us := []) (ws := []) (vs := []) I (Ext.refl c) r rfl .nil q)
    | cons e er => exact kwP hk hs hn (thn pos_ fun us s1 ⟨c1, ws, h1, vs, H1, I1, x1, r1, i1, v1, q1⟩ => kw_ I1 x1 r1 i1 v1 q1)
end
/-! ### the records -/
/-- C.m is a static method: its def at f -/
structure StC (K : PySem.W.Frag) (Ca : Addr) (m : Str) (f : Addr) : Prop where
  at_ : ∃ mc p rest, ClX.CRead K Ca mc ∧ PySem.W.findCls K (.ref Ca) mc m = some (.get (.builtin "staticmethod.__get__") (.ref p) .none (.ref Ca)) ∧ PySem.W.recIn K p "staticmethod" = some (.ref f :: rest)
  kp : PySem.W.keepIn K (.ref f) = true
/-- .. of an instance -/
structure StI (K : PySem.W.Frag) (Ca : Addr) (m : Str) (f : Addr) : Prop where
  pg : PySem.W.plainGet K Ca Str.empty = true
  ic : PySem.W.isClsIn K Ca = true
  at_ : ∃ p rest, PySem.W.findIn K (.ref Ca) m = some (some (.ref p)) ∧ PySem.W.typeIn K (.ref p) = some (.type "staticmethod") ∧ PySem.W.specialIn K (.ref p) "__get__" = some (some (.builtin "staticmethod.__get__")) ∧ PySem.W.takesIn K (.ref p) = some false ∧ PySem.W.recIn K p "staticmethod" = some (.ref f :: rest)
  cp : PySem.W.copiedNames.contains m = false
  kp : PySem.W.keepIn K (.ref f) = true
/-- C.m is a class method -/
structure CmC (K : PySem.W.Frag) (Ca : Addr) (m : Str) (f : Addr) : Prop where
  at_ : ∃ mc p, ClX.CRead K Ca mc ∧ ClX.CMet K Ca mc m p f
structure CmI (K : PySem.W.Frag) (Ca : Addr) (m : Str) (f : Addr) : Prop where
  at_ : ∃ p, ClX.CInst K Ca m p f
/-- what C.m is: a static method's def, or a class method's -/
inductive Mk2 where
  | st (f : Nat) | cm (f : Nat)
def ClM (K : PySem.W.Frag) (fa : Nat → Addr) (Ca : Addr) (m : Str) : Mk2 → Prop
  | .st f => StC K Ca m (fa f)
  | .cm f => CmC K Ca m (fa f)
def InM (K : PySem.W.Frag) (fa : Nat → Addr) (Ca : Addr) (m : Str) : Mk2 → Prop
  | .st f => StI K Ca m (fa f)
  | .cm f => CmI K Ca m (fa f)
/-- C.m(..) -/
def vMk2 (Γ : Nat → Fn) (c : Nat) (fa fk : Fa) (ns : List Str) : Option Mk2 → Fe
  | some (.st f) => vArgs fa fk ns (Γ f) []
  | some (.cm f) => vArgs fa fk ns (fun ws kws h => Γ f (.d (.cls c) :: ws) kws h) []
  | none => fun _ _ => .no
/-- o.m(..) -/
def vIm2 (Γ : Nat → Fn) (im : Nat → Nat → Option Mk2) (m : Nat) (fo : Fe) (fa fk : Fa) (ns : List Str) : Fe := fun env h => (fo env h).bind fun w h1 => match insOf w h1 with
  | none => .no
  | some (c, fs, ws) => match getF fs ws m with
    | none => vMk2 Γ c fa fk ns (im c m) env h1
    | some _ => .no
/-- x(..), x a class -/
def vMkV (T : Tab) (Γ : Nat → Fn) (i : Nat) (fa fk : Fa) (ns : List Str) : Fe := fun env h => match env[i]? with
  | some (some (.d (.cls c))) => match T.init c with
    | some f => vCall fa fk ns (mkFn Γ c f) env h
    | none => .no
  | _ => .no
section
variable {X : Cx} {S : Sig} {k : Nat} {Wx : WX} {T : Tab} {fa : Nat → Addr} {Γ : Nat → Fn} {apos pos xpos : Pos} {es : List Expr} {kws : List Keyword} {ns : List Str} {ga gk : Fa} {x : Str}
/-- the bound method of a class -/
theorem bound_run {pins : List (Addr × Obj)} {σ : L2.St} {H : Hp} {s : Shared} {Ca f q : Addr} {ci : Nat} {g : Fn} {c : C} {env : En} {h : Hm} {Q : VK} (qx : Qx X S (k + 1) Wx) (gd : X.A.guards = some []) (F : Calls X.prog X.w X.mg X.base S k f g) (hC : Ca = S.ca ci) (fi : PySem.W.fnIn X.K f = true)
    (hs : noStar es = true) (hn : kwNames kws = some ns) (ha : PA X es (TAof S Wx ga)) (hkw : PK X kws (TAof S Wx gk)) (a0 : es = [] → ga = aNil) (k0 : kws = [] → gk = aNil)
    (I : Inv X ((q, PySem.W.methodObj (.ref f) (.ref Ca)) :: pins) σ H s) (ev : EnvOk S c env σ) (r : Rel S c h H) (qq : Aft S c (vArgs ga gk ns (fun ws kws h => g (.d (.cls ci) :: ws) kws h) [] env h) (fun c' w _ H' => ∀ v, IsW S c' w v → Q v H') (fun cls d H' => Wx cls d σ H')) :
    wpAny (model X.prog X.w) X.A (callWith pos (.ref q) [] (backTo pos (starEach es X.env)) (backToKw pos (keywordEach kws X.env))) (EP X pins σ Q) X.xe s := by
  subst hC
  refine thn (argsP (P := PySem.W.MethP X.K q f (.ref (S.ca ci))) (g := fun ws kws h => g (.d (.cls ci) :: ws) kws h) (fun σ2 H2 s2 us kw c2 h2 ws vs kws kvs Q2 I2 i1 v1 e1 i2 v2 r2 q2 => ?_) (fun I2 => ⟨ClX.pin_at I2, I2.kIn⟩) (PySem.W.keeps_M fi) hs hn ha hkw a0 k0 I ev r (fws := []) (fvs := []) (first := []) rfl .nil qq) fun _ _ y => ClX.unpinE y
  refine wpAny_call (PySem.W.method_call (ClX.pin_at I2) (codeAny_mono (F.run X.A X.stack s2 H2 (.ref (S.ca ci) :: us) kw c2 h2 (.d (.cls ci) :: ws) (.ref (S.ca ci) :: vs) kws kvs Q2 (fun cls d H' => Wx cls d σ2 H') (qx.room.mono (Nat.le_succ k)) gd (by rw [qx.K]; exact I2.env0)
    ⟨_, _, rfl, (show IsD S c2.F (.cls ci) (.ref (S.ca ci)) by simp only [IsD]), i1⟩ (.cons rfl v1) e1 i2 v2 r2 q2) fun res s' hq => ?_))
  cases res with
  | error e => exact qx.tk e s' (XE.of_call I2 (fun _ _ _ z => z) hq)
  | ok fl => rcases fl with _ | _ | _ | u <;> first | exact I2.after hq | exact False.elim hq
/-- C.m(..), written arguments, behind getMethod -/
theorem mk2_run {pl : Sem Bool} {pins : List (Addr × Obj)} {σ : L2.St} {H : Hp} {s : Shared} {ci m : Nat} {o : Option Mk2} {c : C} {env : En} {h : Hm} {Q : VK} (qx : Qx X S (k + 1) Wx) (gd : X.A.guards = some []) (G : ∀ g, Calls X.prog X.w X.mg X.base S k (fa g) (Γ g)) (ok : ∀ q, o = some q → ClM X.K fa (S.ca ci) (S.fn m) q)
    (hs : noStar es = true) (hn : kwNames kws = some ns) (ha : PA X es (TAof S Wx ga)) (hkw : PK X kws (TAof S Wx gk)) (a0 : es = [] → ga = aNil) (k0 : kws = [] → gk = aNil)
    (I : Inv X pins σ H s) (ev : EnvOk S c env σ) (r : Rel S c h H) (q : Aft S c (vMk2 Γ ci ga gk ns o env h) (fun c' w _ H' => ∀ v, IsW S c' w v → Q v H') (fun cls d H' => Wx cls d σ H')) :
    wpAny (model X.prog X.w) X.A (getMethod (.ref (S.ca ci)) (S.fn m) pl) (fun fx s2 => wpAny (model X.prog X.w) X.A (callWith pos fx.1 fx.2 (backTo pos (starEach es X.env)) (backToKw pos (keywordEach kws X.env))) (EP X pins σ Q) X.xe s2) X.xe s := by
  have qx0 : Qx X S k Wx := ⟨qx.K, qx.calm, qx.nd, qx.room.mono (Nat.le_succ k), qx.tk⟩
  cases o with
  | none => exact q.elim
  | some u =>
    have z := ok u rfl
    cases u with
    | st f =>
      obtain ⟨⟨mc, p, rest, rd, e1, e2⟩, kp⟩ := z
      refine PySem.W.method_cls I.kIn rd.ga (PySem.W.cls_bind I.kIn rd.rd e1 (wpAny_call (PySem.W.sm_get (s := { s with toks := s.toks + 1 }) I.kIn e2 (PySem.W.handed_on rfl ?_))))
      exact args_ok (fws := []) (fvs := []) (first := []) (runs_g qx0 gd (G f)) kp hs hn ha hkw a0 k0 (I.tok _) ev r rfl .nil q
    | cm f =>
      obtain ⟨mc, p, rd, cm⟩ := z
      refine ClX.getmethcm_ok I rd cm fun s2 I2 => ?_
      exact bound_run qx gd (G f) rfl cm.fi hs hn ha hkw a0 k0 I2 ev r q
theorem me_cmth {ci m : Nat} {o : Option Mk2} (qx : Qx X S (k + 1) Wx) (gd : X.A.guards = some []) (G : ∀ g, Calls X.prog X.w X.mg X.base S k (fa g) (Γ g)) (ok : ∀ q, o = some q → ClM X.K fa (S.ca ci) (S.fn m) q) (hg : Gl X x) (hm : X.mg x = some (.ref (S.ca ci))) (hdb : (x == ("__debug__" : Str)) = false)
    (hf : methForm (.Name x xpos) es kws apos pos = true) (hn : kwNames kws = some ns) (ha : PA X es (TAof S Wx ga)) (hkw : PK X kws (TAof S Wx gk)) (a0 : es = [] → ga = aNil) (k0 : kws = [] → gk = aNil) :
    PE X (.Call (.Attribute (.Name x xpos) (S.fn m) apos) es kws pos) (TEof S Wx (vMk2 Γ ci ga gk ns o)) := by
  refine ⟨fun pins s σ H Q I ⟨c, env, h, ev, r, q⟩ => ?_⟩
  have hs : noStar es = true := by
    unfold methForm at hf
    simp only [Bool.and_eq_true] at hf
    exact hf.1.1.1.2
  exact PySem.W.methodCall_KW (ld_glob I hg hm (mk2_run qx gd G ok hs hn ha hkw a0 k0 I ev r q) hdb) (methForm_eval hf)
theorem find_stat {K : PySem.W.Frag} {Ca p : Addr} {m : Str} {od : Obj} (hc : PySem.W.isClsIn K Ca = true) (h1 : PySem.W.findIn K (.ref Ca) m = some (some (.ref p))) (h2 : PySem.W.specialIn K (.ref p) "__get__" = some (some (.builtin "staticmethod.__get__")))
    (h3 : PySem.W.takesIn K (.ref p) = some false) (h4 : PySem.W.copiedNames.contains m = false) (h5 : PySem.W.lookIn m od = some none) : PySem.W.findObj K Ca (some od) m = some (.bind (.builtin "staticmethod.__get__") (.ref p)) := ClX.find_cm hc h1 h2 h3 h4 h5
theorem me_imth {o : Expr} {m : Nat} {im : Nat → Nat → Option Mk2} {fo : Fe} (qx : Qx X S (k + 1) Wx) (gd : X.A.guards = some []) (G : ∀ g, Calls X.prog X.w X.mg X.base S k (fa g) (Γ g)) (ok : ∀ c m q, im c m = some q → InM X.K fa (S.ca c) (S.fn m) q) (ho : PE X o (TEof S Wx fo))
    (hf : methForm o es kws apos pos = true) (hn : kwNames kws = some ns) (ha : PA X es (TAof S Wx ga)) (hkw : PK X kws (TAof S Wx gk)) (a0 : es = [] → ga = aNil) (k0 : kws = [] → gk = aNil) :
    PE X (.Call (.Attribute o (S.fn m) apos) es kws pos) (TEof S Wx (vIm2 Γ im m fo ga gk ns)) := by
  have qx0 : Qx X S k Wx := ⟨qx.K, qx.calm, qx.nd, qx.room.mono (Nat.le_succ k), qx.tk⟩
  refine ⟨fun pins s σ H Q I ⟨c, env, h, ev, r, q⟩ => ?_⟩
  have hs : noStar es = true := by
    unfold methForm at hf
    simp only [Bool.and_eq_true] at hf
    exact hf.1.1.1.2
  refine PySem.W.methodCall_KW (thn (ho.run pins s σ H (fun v H1 => ∃ c1 w h1, Ext c c1 ∧ Rel S c1 h1 H1 ∧ IsW S c1 w v ∧ Aft S c1 (match insOf w h1 with
      | none => .no
      | some (c, fs, ws) => match getF fs ws m with
        | none => vMk2 Γ c ga gk ns (im c m) env h1
        | some _ => .no) (fun c' w _ H' => ∀ v, IsW S c' w v → Q v H') (fun cls d H' => Wx cls d σ H')) I ⟨c, env, h, ev, r, q.bind.mono (Ext.refl c) (fun c1 w h1 H1 x1 r1 q1 v i1 => ⟨c1, w, h1, x1, r1, i1, q1⟩) fun _ _ _ q => q⟩)
    fun u s1 ⟨v, H1, I1, rv, c1, w, h1, x1, r1, i1, q1⟩ => ?_) (methForm_eval hf)
  split at q1
  · exact q1.elim
  · rename_i kc fs ws ein
    split at q1
    · rename_i hnone
      obtain ⟨a, dx, vs, rfl, hl, ea, iws⟩ := insOf_at r1 i1 ein
      obtain rfl : u = Value.ref a := rv
      have l0 := getF_none hl iws hnone
      obtain ⟨mA, O, rr, _, _, _⟩ := ins_get I1.hok ea
      have hn0 : mA (S.fn m) = none := RelO.none_of (by rw [← l0]; exact rr (S.fn m))
      obtain ⟨od, J, hl2⟩ := O.look
      cases ei : im kc m with
      | none => rw [ei] at q1; exact q1.elim
      | some t =>
        rw [ei] at q1
        have z := ok _ _ _ ei
        cases t with
        | st f =>
          obtain ⟨pg, ic, ⟨p, rest, e1, e2, e3, e4, e5⟩, cp, kp⟩ := z
          refine PySem.W.method_usual (r := some (.ref p)) I1.kIn J (PySem.W.plainGet_of (show PySem.W.plainGet X.K (S.ca kc) (S.fn m) = true from pg)).1 (PySem.W.plainGet_of (show PySem.W.plainGet X.K (S.ca kc) (S.fn m) = true from pg)).2 e1 ?_ ?_
          · show ((PySem.W.typeIn X.K (.ref p)).any fun t => t != .type "function" && t != .type "method_descriptor" && t != .type "wrapper_descriptor") = true
            rw [e2]
            first
            | rfl
            | decide +kernel
          · refine PySem.W.get_bind I1.kIn J (PySem.W.plainGet_of (show PySem.W.plainGet X.K (S.ca kc) (S.fn m) = true from pg)).1 (find_stat ic e1 e3 e4 cp (by rw [hl2, hn0])) (PySem.W.plainGet_of (show PySem.W.plainGet X.K (S.ca kc) (S.fn m) = true from pg)).2 ?_
            refine wpAny_call (PySem.W.sm_get (s := { s1 with toks := s1.toks + 1 }) I1.kIn e5 (PySem.W.handed_on rfl ?_))
            exact args_ok (fws := []) (fvs := []) (first := []) (runs_g qx0 gd (G f)) kp hs hn ha hkw a0 k0 (I1.tok _) (ev.up x1) r1 rfl .nil q1
        | cm f =>
          obtain ⟨p, ci⟩ := z
          refine ClX.getmethim_ok I1 J (by rw [hl2, hn0]) ci fun s2 I2 => ?_
          exact bound_run qx gd (G f) rfl ci.fi hs hn ha hkw a0 k0 I2 (ev.up x1) r1 q1
    · exact q1.elim
theorem me_mkv {i : Nat} {x : Str} {p1 : Pos} (qx : Qx X S (k + 1) Wx) (gd : X.A.guards = some []) (ok : ∀ c f, T.init c = some f → Mk X.K (S.ca c) (fa f)) (G : ∀ g, Calls X.prog X.w X.mg X.base S k (fa g) (Γ g)) (hi : X.N[i]? = some x) (hv : Vis X.env.scope x) (hd : (x == ("__debug__" : Str)) = false) (hcd : (x == ("__classdict__" : Str)) = false)
    (hs : noStar es = true) (hn : kwNames kws = some ns) (ha : PA X es (TAof S Wx ga)) (hkw : PK X kws (TAof S Wx gk)) (a0 : es = [] → ga = aNil) (k0 : kws = [] → gk = aNil) : PE X (.Call (.Name x p1) es kws pos) (TEof S Wx (vMkV T Γ i ga gk ns)) := by
  refine ⟨fun pins s σ H Q I ⟨c, env, h, ev, r, q⟩ => ?_⟩
  unfold vMkV at q
  split at q
  rotate_left
  · exact q.elim
  rename_i ci ei
  split at q
  rotate_left
  · exact q.elim
  rename_i f ef
  obtain ⟨v, ev2, iv⟩ := ev.get i _ ei
  have iv : IsD S c.F (.cls ci) v := iv
  simp only [IsD] at iv
  subst iv
  have mk := ok ci f ef
  refine wpAny_Call_Name_kw (thn ((pe_var (pos := p1) (i := i) hi hv hd hcd).run pins s σ H (fun v H1 => v = .ref (S.ca ci) ∧ H1 = H) I ⟨.ref (S.ca ci), ev2, rfl, rfl⟩) fun u s1 ⟨v, H1, I1, r1, q1⟩ => ?_)
  obtain ⟨rfl, rfl⟩ := q1
  obtain rfl : u = Value.ref (S.ca ci) := r1
  exact args_ok (fws := []) (fvs := []) (first := []) (runs_mk qx gd mk (G f)) mk.kp hs hn ha hkw a0 k0 I1 ev r rfl .nil q
end
end Mi

/-! Mi 12: the language. -/
namespace Mi
open PySem L2

def rSu (S : Sig) (sem : W → Hm → R W) : V → Hp → VK → Prop := fun x H Q => ∃ c h w, Rel S c h H ∧ IsW S c w x ∧ Aft S c (sem w h) (fun c' w _ H' => ∀ v, IsW S c' w v → Q v H') (fun _ _ _ => True)

/-- a binary operator -/
structure P2 where
  op : Operator
  sem : W → W → Hm → R W
  ok : ∀ (X : Cx) (S : Sig) (k : Nat) (Wx : WX), Qx X S k Wx → OpR X (binaryOp op) (rS S sem)
/-- a comparison -/
structure PCm where
  op : CmpOp
  sem : W → W → Hm → R W
  ok : ∀ (X : Cx) (S : Sig) (k : Nat) (Wx : WX), Qx X S k Wx → OpR X (compareOp op) (rS S sem)
structure P1 where
  op : UnaryOp
  sem : W → Hm → R W
  ok : ∀ (X : Cx) (S : Sig) (k : Nat) (Wx : WX), Qx X S k Wx → UnR X (unaryOp op) (rSu S sem)
/-- a built-in function or type, called by its name -/
structure PF where
  nm : Str
  val : Value
  isT : (∃ id, val = .builtin id) ∨ ∃ t, val = .type t
  boot : bootBuiltins nm = some val
  nn : nm ≠ "__name__"
  nd : (nm == ("__debug__" : Str)) = false
  sem : List W → Hm → R W
  ok : ∀ (X : Cx) (S : Sig) (k : Nat) (Wx : WX), Qx X S k Wx → X.A.guards = some [] → CallR X val (rSs0 S sem)
/-- a method of a built-in type -/
structure PM where
  nm : Str
  T : String
  id : String
  pa : PlainAttrs T
  slot : Slot T nm id
  hty : typeOf (.builtin id) = pure (.type "method_descriptor")
  ty : W → Hm → Bool
  sem : W → List W → Hm → R W
  tyOk : ∀ (S : Sig) (c : C) (h : Hm) (H : Hp) (w : W) (x : V), Rel S c h H → IsW S c w x → ty w h = true → tyV S.K T x H
  ok : ∀ (X : Cx) (S : Sig) (k : Nat) (Wx : WX), Qx X S k Wx → MtR X id (rSm0 S sem)

/-- what is walked -/
inductive IK where
  | seq | r1 | r2 | enum | zip | items
  deriving DecidableEq

inductive E where
  | var (i : Nat) | int (i : Int) | bl (b : Bool) | non | str (x : Str)
  | con (x : Str)
  | op2 (p : P2) (a b : E) | op1 (p : P1) (a : E)
  | cmp (p : PCm) (a b : E) | chn (p q : PCm) (a b c : E)
  | and (a b : E) | or (a b : E) | not (a : E) | ife (t a b : E)
  | tup (l : List E) | lst (mu : Bool) (l : List E)
  | ix (a i : E)
  | fld (a : E) (f : Nat)
  | call (f : Nat) (l : List E) (ns : List Str) (kl : List E)
  | make (c f : Nat) (l : List E) (ns : List Str) (kl : List E)
  | meth (o : E) (m : Nat) (l : List E) (ns : List Str) (kl : List E)
  | bf (p : PF) (a : E) (l : List E)
  | bm (p : PM) (o : E) (a : E) (l : List E)
  | isi (a : E) (u : Ty)
  | eq (neg : Bool) (a b : E)
  | len (a : E)
  | rng (tu : Bool) (a : E)
  | dnew (tk : Bool)
  | dct (ks : List Key) (l : List E)
  | makeS (c f : Nat) (a : E)
  | ccon (c m : Nat)
  | frz (a : E)
  | xfl (a : E) (f : Nat)
  | lamc (f k : Nat) (slots : List Nat)
  | act (i : Nat)
  | cmth (c m : Nat) (l : List E) (ns : List Str) (kl : List E)
  | imth (o : E) (m : Nat) (l : List E) (ns : List Str) (kl : List E)
  | mkv (i : Nat) (l : List E) (ns : List Str) (kl : List E)
  | lc (mu : Bool) (elt : E) (t : Tg) (ik : IK) (ia : List E) (ifs : List E) (own : List (Str × Nat))

/-- what a program brings to the evaluator -/
structure Ps where
  T : Tab
  fn : Nat → Str
  gf : Nat → Str
  gc : Nat → Str
  con : Str → Option D
  nf : Nat
  blt : List Str
  kn : Kn
  ccon : Nat → Nat → Option D
  xf : Nat → Nat → Bool := fun _ _ => false
  exm : Nat → Nat → Option Bool := fun _ _ => none
  xi : Nat → Option Nat := fun _ => none
  cm : Nat → Nat → Option Mk2 := fun _ _ => none
  im : Nat → Nat → Option Mk2 := fun _ _ => none
  lmN : Nat → List Str := fun _ => []
  lmB : Nat → Arguments → Scope → Expr → Bool := fun _ _ _ _ => false
/-- .. and what changes from level to level: the closures' runs; whether closures are made here -/
structure Pr extends Ps where
  la : Nat → List W → Hm → R W := fun _ _ _ => .no
  lamOn : Bool := false
  lmE : Nat → Option E := fun _ => none
abbrev Pr.off (M : Pr) : Pr := { M with lamOn := false }

def vCon : Option D → Fe
  | some d => vC d
  | none => fun _ _ => .no
def tTrue : Ft := fun _ h => .ok true h
def v1 (sem : W → Hm → R W) (f : Fe) : Fe := fun env h => (f env h).bind sem
def vBf (sem : List W → Hm → R W) (f : Fa) : Fe := fun env h => (f env h).bind sem
def vBm (ty : W → Hm → Bool) (sem : W → List W → Hm → R W) (fo : Fe) (f : Fa) : Fe := fun env h => (fo env h).bind fun w h1 => if ty w h1 = true then (f env h1).bind fun ws h2 => sem w ws h2 else .no
def iOf : IK → List Fe → Fa → Fa
  | .seq, f :: _, _ => iSeq f
  | .r1, _, g => iRng1' g
  | .r2, _, g => iRng2' g
  | .enum, _, g => iEnum' g
  | .zip, _, g => iZip' g
  | .items, f :: _, _ => iItems' f
  | _, _, _ => fun _ _ => .no
/-- e.f, e a kept exception -/
def vXf (xf : Nat → Nat → Bool) (f : Nat) (fe : Fe) : Fe := fun env h => (fe env h).bind fun w h1 => match w with
  | .d (.exn c fs l) => match xf c f, getF fs l f with
    | true, some x => .ok (.d x) h1
    | _, _ => .no
  | _ => .no
def vStar (f : Fe) (g : Fn) : Fe := fun env h => (f env h).bind fun w h1 => match seqOf w h1 with
  | some l => g l [] h1
  | none => .no
mutual
def ev : Pr → (Nat → Fn) → E → Fe
  | M, Γ, .var i => vVar i
  | M, Γ, .int i => vC (.int i)
  | M, Γ, .bl b => vC (.bl b)
  | M, Γ, .non => vC .non
  | M, Γ, .str x => vC (.str x)
  | M, Γ, .con x => vCon (M.con x)
  | M, Γ, .op2 p a b => v2 p.sem (ev M Γ a) (ev M Γ b)
  | M, Γ, .op1 p a => v1 p.sem (ev M Γ a)
  | M, Γ, .cmp p a b => v2 p.sem (ev M Γ a) (ev M Γ b)
  | M, Γ, .chn p q a b c => vChn p.sem q.sem (ev M Γ a) (ev M Γ b) (ev M Γ c)
  | M, Γ, .and a b => vAnd (ev M Γ a) (ev M Γ b)
  | M, Γ, .or a b => vOr (ev M Γ a) (ev M Γ b)
  | M, Γ, .not a => vNot (ev M Γ a)
  | M, Γ, .ife t a b => vIf (tst M Γ t) (ev M Γ a) (ev M Γ b)
  | M, Γ, .tup l => vTup (evs M Γ l)
  | M, Γ, .lst true l => vLstM (evs M Γ l)
  | M, Γ, .lst false l => vLst (evs M Γ l)
  | M, Γ, .ix a i => v2 sIx (ev M Γ a) (ev M Γ i)
  | M, Γ, .fld a f => vFld M.T Γ f (ev M Γ a)
  | M, Γ, .call f l ns kl => vCall (evs M Γ l) (evs M Γ kl) ns (Γ f)
  | M, Γ, .make c f l ns kl => vCall (evs M Γ l) (evs M Γ kl) ns (mkFn Γ c f)
  | M, Γ, .meth o m l ns kl => vMeth M.T Γ m (ev M Γ o) (evs M Γ l) (evs M Γ kl) ns
  | M, Γ, .bf p a l => vBf p.sem (aCons (ev M Γ a) (evs M Γ l))
  | M, Γ, .bm p o a l => vBm p.ty p.sem (ev M Γ o) (aCons (ev M Γ a) (evs M Γ l))
  | M, Γ, .isi a u => vIsi M.kn u (ev M Γ a)
  | M, Γ, .eq neg a b => v2 (sEq M.kn Γ neg) (ev M Γ a) (ev M Γ b)
  | M, Γ, .len a => vBf (sLen M.kn Γ) (aCons (ev M Γ a) aNil)
  | M, Γ, .rng true a => vTupR (ev M Γ a)
  | M, Γ, .rng false a => vLstR (ev M Γ a)
  | M, Γ, .dnew tk => vDnew tk
  | M, Γ, .dct ks l => vDct ks (fes M Γ l)
  | M, Γ, .makeS c f a => vStar (ev M Γ a) (mkFn Γ c f)
  | M, Γ, .ccon c m => vCon (M.ccon c m)
  | M, Γ, .frz a => vFrz (ev M Γ a)
  | M, Γ, .xfl a f => vXf M.xf f (ev M Γ a)
  | M, Γ, .lamc f k slots => if M.lamOn = true then vLamc slots k (Γ f) else fun _ _ => .no
  | M, _, .act i => vAct M.la i
  | M, Γ, .cmth c m l ns kl => vMk2 Γ c (evs M Γ l) (evs M Γ kl) ns (M.cm c m)
  | M, Γ, .imth o m l ns kl => vIm2 Γ M.im m (ev M Γ o) (evs M Γ l) (evs M Γ kl) ns
  | M, Γ, .mkv i l ns kl => vMkV M.T Γ i (evs M Γ l) (evs M Γ kl) ns
  | M, Γ, .lc mu elt t ik ia ifs own => vLc mu (own.map (·.2)) t (iOf ik (fes M Γ ia) (evs M Γ ia)) (tsts M.off Γ ifs) (ev M.off Γ elt)
def evs : Pr → (Nat → Fn) → List E → Fa
  | M, Γ, [] => aNil
  | M, Γ, a :: l => aCons (ev M Γ a) (evs M Γ l)
def fes : Pr → (Nat → Fn) → List E → List Fe
  | M, Γ, [] => []
  | M, Γ, a :: l => ev M Γ a :: fes M Γ l
def tst : Pr → (Nat → Fn) → E → Ft
  | M, Γ, .not a => tNot' (tst M Γ a)
  | M, Γ, .and a b => tAnd' (tst M Γ a) (tst M Γ b)
  | M, Γ, .or a b => tOr' (tst M Γ a) (tst M Γ b)
  | M, Γ, .cmp p a b => tVal (v2 p.sem (ev M Γ a) (ev M Γ b))
  | M, Γ, .chn p q a b c => tVal (vChn p.sem q.sem (ev M Γ a) (ev M Γ b) (ev M Γ c))
  | M, Γ, .var i => tVal (vVar i)
  | M, Γ, .bl b => tVal (vC (.bl b))
  | M, Γ, .fld a f => tVal (vFld M.T Γ f (ev M Γ a))
  | M, Γ, .ix a i => tVal (v2 sIx (ev M Γ a) (ev M Γ i))
  | M, Γ, .call f l ns kl => tVal (vCall (evs M Γ l) (evs M Γ kl) ns (Γ f))
  | M, Γ, .meth o m l ns kl => tVal (vMeth M.T Γ m (ev M Γ o) (evs M Γ l) (evs M Γ kl) ns)
  | M, Γ, .cmth c m l ns kl => tVal (vMk2 Γ c (evs M Γ l) (evs M Γ kl) ns (M.cm c m))
  | M, Γ, .imth o m l ns kl => tVal (vIm2 Γ M.im m (ev M Γ o) (evs M Γ l) (evs M Γ kl) ns)
  | M, Γ, .bf p a l => tVal (vBf p.sem (aCons (ev M Γ a) (evs M Γ l)))
  | M, Γ, .isi a u => tVal (vIsi M.kn u (ev M Γ a))
  | M, Γ, .eq neg a b => tVal (v2 (sEq M.kn Γ neg) (ev M Γ a) (ev M Γ b))
  | M, Γ, .bm p o a l => tVal (vBm p.ty p.sem (ev M Γ o) (aCons (ev M Γ a) (evs M Γ l)))
  | _, _, _ => fun _ _ => .no
def tsts : Pr → (Nat → Fn) → List E → Ft
  | M, Γ, [] => tTrue
  | M, Γ, [a] => tst M Γ a
  | _, _, _ => fun _ _ => .no
end

/-! ### the same text -/
def visB (sc : Scope) (x : Str) : Bool := match sc.names.lookup x with
  | some .local => true
  | some .cell => true
  | some .free => true
  | _ => false
def glB (sc : Scope) (x : Str) : Bool := decide (sc.names.lookup x = some .globalImplicit)
def locB (sc : Scope) (x : Str) : Bool := match sc.names.lookup x with
  | some .local => true
  | some .cell => true
  | _ => false
mutual
/-- a target; all: also names that are cells may be stored -/
def embT (N : List Str) (sc : Scope) : Tg → Expr → Bool
  | .nm i, .Name x _ => decide (N[i]? = some x) && locB sc x
  | .tp l, .Tuple es _ _ => embTs N sc l es
  | _, _ => false
def embTs (N : List Str) (sc : Scope) : List Tg → List Expr → Bool
  | [], [] => true
  | t :: l, e :: es => noStar [e] && embT N sc t e && embTs N sc l es
  | _, _ => false
end
def notSet : Expr → Bool
  | .Set _ _ _ => false
  | _ => true
def isTupE : Expr → Bool
  | .Tuple _ _ _ => true
  | _ => false
def IK.pairs : IK → Bool
  | .enum => true
  | .zip => true
  | .items => true
  | _ => false
def tyNm : Ty → Option Str
  | .bl => some "bool"
  | .int => some "int"
  | .str => some "str"
  | .tup => some "tuple"
  | .lst => some "list"
  | .dct => some "dict"
  | _ => none
def tyB (M : Ps) (sc : Scope) (u : Ty) (x : Str) : Bool := glB sc x && (x != "__debug__") && (match u with
  | .ins c => M.T.isC c && decide (M.gc c = x)
  | u => decide (tyNm u = some x) && M.blt.contains x)
def eqOp (neg : Bool) : CmpOp := if neg = true then .NotEq else .Eq
def keyB : List Key → List (Option Expr) → Bool
  | [], [] => true
  | .inl i :: ks, some (.Constant (.int j) _ _) :: es => decide (i = j) && keyB ks es
  | .inr x :: ks, some (.Constant (.str y) _ _) :: es => decide (x = y) && keyB ks es
  | _, _ => false
/-- a lambda without parameters -/
def noPar : Arguments → Bool
  | ⟨[], [], none, [], [], none, []⟩ => true
  | _ => false
def slotsB (N : List Str) : List Nat → List Str → Bool
  | [], [] => true
  | i :: l, y :: ys => decide (N[i]? = some y) && slotsB N l ys
  | _, _ => false
def freeB (sc : Scope) (N : List Str) : Bool := N.all fun y => decide (sc.names.lookup y = some .free)
mutual
def embE (M : Ps) (N : List Str) : Scope → E → Expr → Bool
  | sc, .frz a, pe => embE M N sc a pe
  | sc, .var i, .Name x _ => decide (N[i]? = some x) && visB sc x && (x != "__debug__") && (x != "__classdict__")
  | _, .int i, .Constant (.int j) _ _ => decide (i = j)
  | _, .bl b, .Constant (.bool c) _ _ => decide (b = c)
  | _, .non, .Constant .none _ _ => true
  | _, .str x, .Constant (.str y) _ _ => decide (x = y)
  | sc, .con x, .Name y _ => decide (x = y) && glB sc x && (x != "__debug__")
  | sc, .op2 p a b, .BinOp pa op pb _ => decide (p.op = op) && embE M N sc a pa && embE M N sc b pb
  | sc, .op1 p a, .UnaryOp op pa _ => decide (p.op = op) && embE M N sc a pa
  | sc, .cmp p a b, .Compare pa [op] [pb] _ => decide (p.op = op) && !behindInMarks op pb && embE M N sc a pa && embE M N sc b pb
  | sc, .chn p q a b c, .Compare pa [o1, o2] [pb, pc] _ => decide (p.op = o1) && decide (q.op = o2) && !lastMarks [o1, o2] [pb, pc] && embE M N sc a pa && embE M N sc b pb && embE M N sc c pc
  | sc, .and a b, .BoolOp .And [pa, pb] _ => embE M N sc a pa && embE M N sc b pb
  | sc, .and a b, .BoolOp .And (pa :: pb :: pc :: pr) pos => embE M N sc a pa && embE M N sc b (.BoolOp .And (pb :: pc :: pr) pos)
  | sc, .or a b, .BoolOp .Or [pa, pb] _ => embE M N sc a pa && embE M N sc b pb
  | sc, .or a b, .BoolOp .Or (pa :: pb :: pc :: pr) pos => embE M N sc a pa && embE M N sc b (.BoolOp .Or (pb :: pc :: pr) pos)
  | sc, .not a, .UnaryOp .Not pa _ => embE M N sc a pa
  | sc, .ife t a b, .IfExp pt pa pb _ => embE M N sc t pt && embE M N sc a pa && embE M N sc b pb
  | sc, .tup l, .Tuple es _ _ => noStar es && embEs M N sc l es
  | sc, .lst _ l, .List es _ => noStar es && embEs M N sc l es
  | sc, .ix a i, .Subscript pa pi _ => noSlice pi && embE M N sc a pa && embE M N sc i pi
  | sc, .fld a f, .Attribute pa x _ => decide (M.fn f = x) && noSuper pa && embE M N sc a pa
  | sc, .xfl a f, .Attribute pa x _ => decide (M.fn f = x) && noSuper pa && embE M N sc a pa
  | sc, .lamc f k slots, .Call (.Name x _) [.Lambda params body lsc _] [] _ => decide (f < M.nf) && decide (M.gf f = x) && glB sc x && (x != "__debug__") && LamX.lamSB sc lsc && M.lmB k params lsc body && freeB lsc (M.lmN k) && slotsB N slots (M.lmN k)
  | sc, .act i, .Call (.Name x _) [] [] _ => decide (N[i]? = some x) && visB sc x && (x != "__debug__") && (x != "__classdict__")
  | sc, .call f l ns kl, .Call (.Name x _) es kws _ => decide (f < M.nf) && decide (M.gf f = x) && glB sc x && (x != "__debug__") && noStar es && decide (kwNames kws = some ns) && embEs M N sc l es && embKs M N sc kl kws
  | sc, .make c f l ns kl, .Call (.Name x _) es kws _ => decide (M.T.init c = some f) && decide (M.gc c = x) && glB sc x && (x != "__debug__") && noStar es && decide (kwNames kws = some ns) && embEs M N sc l es && embKs M N sc kl kws
  | sc, .meth o m l ns kl, .Call (.Attribute po x apos) es kws pos => decide (M.fn m = x) && methForm po es kws apos pos && decide (kwNames kws = some ns) && embE M N sc o po && embEs M N sc l es && embKs M N sc kl kws
  | sc, .cmth c m l ns kl, .Call (.Attribute (.Name x xp) y apos) es kws pos => decide (M.fn m = y) && decide (M.gc c = x) && glB sc x && (x != "__debug__") && methForm (.Name x xp) es kws apos pos && decide (kwNames kws = some ns) && embEs M N sc l es && embKs M N sc kl kws
  | sc, .imth o m l ns kl, .Call (.Attribute po x apos) es kws pos => decide (M.fn m = x) && methForm po es kws apos pos && decide (kwNames kws = some ns) && embE M N sc o po && embEs M N sc l es && embKs M N sc kl kws
  | sc, .mkv i l ns kl, .Call (.Name x _) es kws _ => decide (N[i]? = some x) && visB sc x && (x != "__debug__") && (x != "__classdict__") && noStar es && decide (kwNames kws = some ns) && embEs M N sc l es && embKs M N sc kl kws
  | sc, .bf p a l, .Call (.Name x _) (pa :: es) [] _ => M.blt.contains x && decide (p.nm = x) && glB sc x && noStar (pa :: es) && embE M N sc a pa && embEs M N sc l es
  | sc, .bm p o a l, .Call (.Attribute po x apos) (pa :: es) [] pos => decide (p.nm = x) && noSuper po && noStar (pa :: es) && decide (apos.endLine = pos.line) && decide (es.length < 20) && embE M N sc o po && embE M N sc a pa && embEs M N sc l es
  | sc, .isi a u, .Call (.Name x _) [pa, .Name tn _] [] _ => M.blt.contains x && decide (x = "isinstance") && glB sc x && noStar [pa] && tyB M sc u tn && embE M N sc a pa
  | sc, .eq neg a b, .Compare pa [op] [pb] _ => decide (eqOp neg = op) && embE M N sc a pa && embE M N sc b pb
  | sc, .len a, .Call (.Name x _) [pa] [] _ => M.blt.contains x && decide (x = "len") && glB sc x && noStar [pa] && embE M N sc a pa
  | sc, .rng tu a, .Call (.Name x _) [.Call (.Name y _) [pa] [] _] [] _ => M.blt.contains x && decide (x = (if tu = true then "tuple" else "list")) && glB sc x && M.blt.contains y && decide (y = "range") && glB sc y && noStar [pa] && embE M N sc a pa
  | _, .dnew _, .Dict [] [] _ => true
  | sc, .dct ks l, .Dict keys values _ => keyB ks keys && decide (values.length = keys.length) && decide (0 < keys.length) && decide (keys.length ≤ 15) && embEs M N sc l values
  | sc, .makeS c f a, .Call (.Name x _) [.Starred pa _] [] _ => decide (M.T.init c = some f) && decide (M.gc c = x) && glB sc x && (x != "__debug__") && embE M N sc a pa
  | sc, .ccon c m, .Attribute (.Name x _) y _ => decide (M.gc c = x) && glB sc x && (x != "__debug__") && decide (M.fn m = y) && (M.ccon c m).isSome
  | sc, .lc _ elt t ik ia ifs own, .ListComp pe [⟨ptg, pit, pifs, 0⟩] scope _ =>
    blkC N sc scope own && (t.slots.all fun i => (own.map (·.2)).contains i) && embI M N sc ik ia pit && (isTupE ptg || !ik.pairs) && embT N scope t ptg && decide (ifs.length < 2) && embEs M N (relS scope sc) ifs pifs && embE M N (relS scope sc) elt pe
  | _, _, _ => false
def embEs (M : Ps) (N : List Str) : Scope → List E → List Expr → Bool
  | _, [], [] => true
  | sc, a :: l, e :: es => embE M N sc a e && embEs M N sc l es
  | _, _, _ => false
def embKs (M : Ps) (N : List Str) : Scope → List E → List Keyword → Bool
  | _, [], [] => true
  | sc, a :: l, ⟨_, e, _⟩ :: es => embE M N sc a e && embKs M N sc l es
  | _, _, _ => false
def embI (M : Ps) (N : List Str) : Scope → IK → List E → Expr → Bool
  | sc, .seq, [a], e => notSet e && embE M N sc a e
  | sc, .r1, [a], .Call (.Name x _) [pa] [] _ => M.blt.contains x && decide (x = "range") && glB sc x && noStar [pa] && embE M N sc a pa
  | sc, .r2, [a, b], .Call (.Name x _) [pa, pb] [] _ => M.blt.contains x && decide (x = "range") && glB sc x && noStar [pa, pb] && embE M N sc a pa && embE M N sc b pb
  | sc, .enum, [a], .Call (.Name x _) [pa] [] _ => M.blt.contains x && decide (x = "enumerate") && glB sc x && noStar [pa] && embE M N sc a pa
  | sc, .zip, [a, b], .Call (.Name x _) [pa, pb] [] _ => M.blt.contains x && decide (x = "zip") && glB sc x && noStar [pa, pb] && embE M N sc a pa && embE M N sc b pb
  | sc, .items, [a], .Call (.Attribute po x apos) [] [] pos => decide (x = "items") && noSuper po && (apos.endLine == pos.line) && embE M N sc a po
  | _, _, _, _ => false
end
/-! ### what the place brings -/
/-- an exception class whose __init__ keeps one field -/
structure MkX1 (P : Program) (w : World) (mg : Str → Option Value) (base : Heap) (K : PySem.W.Frag) (C : Addr) (f : Str) : Prop where
  ex : ∃ (fI : Addr) (fd : FuncData) (ps : List Str), PySem.W.findIn K (.ref C) "__init__" = some (some (.ref fI)) ∧ PySem.W.typeIn K (.ref fI) = some (.type "function") ∧ FnOk P w K mg base (L2.CX P w) 1 fI fd ps (spX1 K f) ∧ Binds K fd ps []
  oex : OexC K C
  no : PySem.W.findIn K (.ref C) f = some none
structure Good (X : Cx) (S : Sig) (k : Nat) (Wx : WX) (M : Pr) (Γ : Nat → Fn) (fa : Nat → Addr) : Prop where
  qx : Qx X S (k + 1) Wx
  gd : X.A.guards = some []
  fn : S.fn = M.fn
  ok : TabOk S M.T fa
  G : ∀ g, Calls X.prog X.w X.mg X.base S k (fa g) (Γ g)
  gf : ∀ f, f < M.nf → X.mg (M.gf f) = some (.ref (fa f)) ∧ PySem.W.keepIn X.K (.ref (fa f)) = true
  gc : ∀ c f, M.T.init c = some f → X.mg (M.gc c) = some (.ref (S.ca c))
  blt : ∀ x ∈ M.blt, X.mg x = none
  con : ∀ x d, M.con x = some d → ∃ v u, X.mg x = some u ∧ RelV v u ∧ ∀ F, IsD S F d v
  kn : KnOk S M.kn fa
  gk : ∀ c, M.T.isC c = true → X.mg (M.gc c) = some (.ref (S.ca c))
  ccon : ∀ c m d, M.ccon c m = some d → X.mg (M.gc c) = some (.ref (S.ca c)) ∧ ∃ mc v u, ClX.CRead S.K (S.ca c) mc ∧ ClX.CVal S.K (S.ca c) mc (M.fn m) v u ∧ ∀ F, IsD S F d v
  xf : ∀ c f, M.xf c f = true → XfC S.K (S.ca c) ∧ PySem.W.findIn S.K (.ref (S.ca c)) (M.fn f) = some none
  xm : ∀ c c' b, M.exm c c' = some b → PySem.W.exmOne S.K (.ref (S.ca c)) (.ref (S.ca c')) = some b ∧ X.mg (M.gc c') = some (.ref (S.ca c'))
  xi : ∀ c f, M.xi c = some f → MkX1 X.prog X.w X.mg X.base S.K (S.ca c) (M.fn f) ∧ X.mg (M.gc c) = some (.ref (S.ca c))
  cmo : ∀ c m q, M.cm c m = some q → ClM S.K fa (S.ca c) (M.fn m) q ∧ X.mg (M.gc c) = some (.ref (S.ca c))
  imo : ∀ c m q, M.im c m = some q → InM S.K fa (S.ca c) (M.fn m) q
  ko : ∀ a o, S.ko a = some o → X.base.get? a = some o
  lq : M.lamOn = true → (∀ y, X.fn y = true) ∧ ∃ c P, X.env.code = .ref c ∧ LamX.TabB X.base X.mg c P ∧ (P, X.env.qual ++ "<lambda>") ∈ S.tb ∧ ∀ p ∈ S.tb, p.1 = P → p.2 = X.env.qual ++ "<lambda>"
  lam : ∀ kl q params sc body, M.lmB kl params sc body = true → S.lam kl ⟨q, params, body, sc, M.lmN kl⟩ ∧ ∀ env, defaultsOf params env = ([], [])
  GL : ∀ kl L, S.lam kl L → LamCalls X.prog X.w X.mg X.base S k L (M.la kl)
  GX : ∀ (ko : Addr → Option Obj) (cd : Addr → Option Str) (base' : Heap), (∀ a o, S.ko a = some o → ko a = some o) → (∀ a q, S.cd a = some q → cd a = some q) → (∀ b o, X.base.get? b = some o → base'.get? b = some o) → (∀ a o, ko a = some o → base'.get? a = some o) → ∀ g, Calls X.prog X.w X.mg base' (S.ext ko cd) k (fa g) (Γ g)
end Mi

/-! Mi 13: expressions are sound. -/
namespace Mi
open PySem L2 StX

theorem visB_is {X : Cx} {x : Str} (h : visB X.env.scope x = true) : Vis X.env.scope x := by
  unfold visB at h
  split at h
  · exact .inl ‹_›
  · exact .inr (.inl ‹_›)
  · exact .inr (.inr ‹_›)
  · cases h
theorem locB_isS {sc : Scope} {x : Str} (h : locB sc x = true) : sc.names.lookup x = some .local ∨ sc.names.lookup x = some .cell := by
  unfold locB at h
  split at h
  · exact .inl ‹_›
  · exact .inr ‹_›
  · cases h
theorem locB_is {X : Cx} {x : Str} (h : locB X.env.scope x = true) : Loc X.env.scope x := by
  unfold locB at h
  split at h
  · exact .inl ‹_›
  · exact .inr ‹_›
  · cases h
theorem glB_is {X : Cx} {x : Str} (h : glB X.env.scope x = true) : Gl X x := by
  show X.env.scope.names.lookup x = _
  exact of_decide_eq_true h
theorem bne_is {x y : Str} (h : (x != y) = true) : (x == y) = false := by
  simpa [bne] using h
theorem me_con {X : Cx} {S : Sig} {Wx : WX} {x : Str} {pos : Pos} {o : Option D} (hg : Gl X x) (hd : (x == ("__debug__" : Str)) = false) (h : ∀ d, o = some d → ∃ v u, X.mg x = some u ∧ RelV v u ∧ ∀ F, IsD S F d v) : PE X (.Name x pos) (TEof S Wx (vCon o)) := by
  cases o with
  | none => exact ⟨fun _ _ _ _ _ _ ⟨_, _, _, _, _, q⟩ => q.elim⟩
  | some d =>
    obtain ⟨v, u, h1, h2, h3⟩ := h d rfl
    exact me_c (pe_glob hg h1 h2 hd) h3
theorem me_1 {X : Cx} {S : Sig} {Wx : WX} {op : UnaryOp} {a : Expr} {pos : Pos} {sem : W → Hm → R W} {f : Fe} (ho : UnR X (unaryOp op) (rSu S sem)) (ha : PE X a (TEof S Wx f)) : PE X (.UnaryOp op a pos) (TEof S Wx (v1 sem f)) :=
  pe_mono (pe_un ho ha) fun σ H Q ⟨c, env, h, ev, r, q⟩ => ⟨c, env, h, ev, r, q.bind.mono (Ext.refl c) (fun c1 w h1 H1 x1 r1 q1 v i1 => ⟨c1, h1, w, r1, i1, q1.mono (Ext.refl c1) (fun _ _ _ _ _ _ q => q) fun _ _ _ _ => trivial⟩) fun _ _ _ q => q⟩
theorem me_cb {X : Cx} {S : Sig} {Wx : WX} {id : String} {sem : List W → Hm → R W} {nm : Str} {e : Expr} {es : List Expr} {pos ps : Pos} {f : Fa} (hok : CallR X (.builtin id) (rSs0 S sem)) (hb : bootBuiltins nm = some (.builtin id)) (nn : nm ≠ "__name__") (nd : (nm == ("__debug__" : Str)) = false) (hg : Gl X nm) (hm : X.mg nm = none) (hs : noStar (e :: es) = true) (ha : PA X (e :: es) (TAof S Wx f)) : PE X (.Call (.Name nm ps) (e :: es) [] pos) (TEof S Wx (vBf sem f)) := by
  obtain ⟨h1, h2⟩ := noStar_cons (env := X.env) hs
  exact pe_mono (pe_callB hok hg hm hb ha nn nd h1 (noStar_back h2)) fun σ H Q ⟨c, env, h, ev, r, q⟩ => ⟨c, env, h, ev, r, q.bind.mono (Ext.refl c) (fun c1 ws h1 H1 x1 r1 q1 vs i1 => ⟨c1, h1, ws, r1, i1, q1.mono (Ext.refl c1) (fun _ _ _ _ _ _ q => q) fun _ _ _ _ => trivial⟩) fun _ _ _ q => q⟩
theorem boot_ty {u : Ty} {x : Str} (h : tyNm u = some x) (S : Sig) : ∃ n, bootBuiltins x = some (.type n) ∧ tyU S u = .type n ∧ x ≠ "__name__" := by
  cases u <;> first
    | (cases h; done)
    | (cases h; exact ⟨_, by decide +kernel, rfl, by decide +kernel⟩)
/-- C(*e) -/
theorem me_starC {X : Cx} {S : Sig} {Wx : WX} {fv : Value} {g : Fn} {x : Str} {a : Expr} {p1 p2 pos : Pos} {f : Fe} (hK : S.K = X.K) (F : Runs X S Wx fv g) (hk : PySem.W.keepIn X.K fv = true) (hg : Gl X x) (hm : X.mg x = some fv) (hd : (x == ("__debug__" : Str)) = false) (ha : PE X a (TEof S Wx f)) :
    PE X (.Call (.Name x p1) [.Starred a p2] [] pos) (TEof S Wx (vStar f g)) := by
  refine ⟨fun pins s σ H Q I ⟨c, env, h, ev, r, q⟩ => ?_⟩
  refine wpAny_Call_Name_kw (ld_glob I hg hm ?_ hd)
  have run := ha.run pins s σ H (fun y H1 => ∃ a xs c1 h1 l, y = V.ref a ∧ (SqT X.K H1 a xs ∨ SqL X.K H1 a xs) ∧ Rel S c1 h1 H1 ∧ IsWs S c1 l xs ∧ Aft S c1 (g l [] h1) (fun c' w _ H' => ∀ v, IsW S c' w v → Q v H') (fun cls d H' => Wx cls d σ H')) I
    ⟨c, env, h, ev, r, q.bind.mono (Ext.refl c) (fun c1 w h1 H1 x1 r1 q1 v iv => by
      split at q1
      · rename_i l el
        obtain ⟨a, xs, rfl, sq, il⟩ := seqOf_at hK r1 iv el
        refine ⟨a, xs, c1, h1, l, rfl, ?_, r1, il, q1⟩
        cases ht : isTupW w with
        | true => rw [ht] at sq; exact .inl sq
        | false => rw [ht] at sq; exact .inr sq
      · exact q1.elim) fun _ _ _ q => q⟩
  refine PySem.W.callWith_S (h₀ := X.base) I.ok.mod.kin hk (thn run fun v s1 ⟨y, H1, I1, ry, a, xs, c1, h1, l, ey, hxs, r1, il, q1⟩ => ?_) rfl
  subst ey
  obtain rfl : v = Value.ref a := ry
  exact star_any I1 hxs fun us s2 I2 rv => ⟨I2.kIn, F pins σ H1 s2 us [] c1 h1 l xs [] [] Q I2 il rv rfl rfl .nil r1 q1⟩
theorem me_bf {X : Cx} {S : Sig} {k : Nat} {Wx : WX} (p : PF) {e : Expr} {es : List Expr} {pos ps : Pos} {f : Fa} (qx : Qx X S k Wx) (gd : X.A.guards = some []) (hg : Gl X p.nm) (hm : X.mg p.nm = none) (hs : noStar (e :: es) = true) (ha : PA X (e :: es) (TAof S Wx f)) : PE X (.Call (.Name p.nm ps) (e :: es) [] pos) (TEof S Wx (vBf p.sem f)) := by
  obtain ⟨h1, h2⟩ := noStar_cons (env := X.env) hs
  have tcb : ∀ σ H Q, TEof S Wx (vBf p.sem f) σ H Q → tCB (rSs0 S p.sem) (TAof S Wx f) σ H Q := fun σ H Q ⟨c, env, h, ev, r, q⟩ => ⟨c, env, h, ev, r, q.bind.mono (Ext.refl c) (fun c1 ws h1 H1 x1 r1 q1 vs i1 => ⟨c1, h1, ws, r1, i1, q1.mono (Ext.refl c1) (fun _ _ _ _ _ _ q => q) fun _ _ _ _ => trivial⟩) fun _ _ _ q => q⟩
  have hok := p.ok X S k Wx qx gd
  have hb := p.boot
  rcases p.isT with ⟨id, e1⟩ | ⟨t, e1⟩
  · rw [e1] at hok hb
    exact pe_mono (pe_callB hok hg hm hb ha p.nn p.nd h1 (noStar_back h2)) tcb
  · rw [e1] at hok hb
    exact pe_mono (pe_callTy hok hg hm hb ha p.nn p.nd h1 (noStar_back h2)) tcb
theorem me_bm {X : Cx} {S : Sig} {k : Nat} {Wx : WX} (p : PM) {o e : Expr} {es : List Expr} {apos pos : Pos} {fo : Fe} {f : Fa} (qx : Qx X S k Wx) (hb : noSuper o = true) (hl : apos.endLine = pos.line) (hn : es.length < 20) (hs : noStar (e :: es) = true) (ho : PE X o (TEof S Wx fo)) (ha : PA X (e :: es) (TAof S Wx f)) :
    PE X (.Call (.Attribute o p.nm apos) (e :: es) [] pos) (TEof S Wx (vBm p.ty p.sem fo f)) := by
  obtain ⟨h1, h2⟩ := noStar_cons (env := X.env) hs
  refine pe_mono (pe_bm p.pa p.slot p.hty (p.ok X S k Wx qx) ho ha (noSuper_base hb) ?_ (by rw [hl]; exact beq_self_eq_true _) h1 (noStar_back h2)) fun σ H Q ⟨c, env, h, ev, r, q⟩ => ⟨c, env, h, ev, r, q.bind.mono (Ext.refl c) (fun c1 w h1 H1 x1 r1 q1 v i1 => ?_) fun _ _ _ q => q⟩
  · rw [back_all hs]
    show (true && (true && decide (es.length + 1 + 0 + 0 < 30))) = true
    simp only [Bool.true_and, decide_eq_true_eq]
    omega
  · split at q1
    · rename_i ht
      rw [← qx.K]
      exact ⟨p.tyOk S c1 h1 H1 w v r1 i1 ht, c1, env, h1, ev.up x1, r1, q1.bind.mono (Ext.refl c1) (fun c2 ws h2 H2 x2 r2 q2 vs i2 => ⟨c2, h2, w, ws, r2, i1.mono x2, i2, q2.mono (Ext.refl c2) (fun _ _ _ _ _ _ q => q) fun _ _ _ _ => trivial⟩) fun _ _ _ q => q⟩
    · exact q1.elim
theorem getF_map {f : Nat} {x : D} : ∀ {fs : List Nat} {l : List D}, getF fs l f = some x → getF fs (l.map W.d) f = some (.d x)
  | [], _, e => by cases e
  | _ :: _, [], e => by cases e
  | i :: is, y :: ys, e => by
    unfold getF at e
    rw [List.map_cons]
    unfold getF
    by_cases hi : i = f
    · rw [if_pos hi] at e ⊢
      cases e
      rfl
    · rw [if_neg hi] at e ⊢
      exact getF_map e
/-- e.f, e a kept exception -/
theorem me_xfl {X : Cx} {S : Sig} {k : Nat} {Wx : WX} {M : Pr} {Γ : Nat → Fn} {fa : Nat → Addr} (g : Good X S k Wx M Γ fa) {e : Expr} {f : Nat} {fe : Fe} {pos : Pos} (he : PE X e (TEof S Wx fe)) (hb : noSuper e = true) : PE X (.Attribute e (M.fn f) pos) (TEof S Wx (vXf M.xf f fe)) :=
  pe_mono (pe_xfK he (noSuper_base hb)) fun σ H Q ⟨c, env, h, ev, r, q⟩ => ⟨c, env, h, ev, r, q.bind.mono (Ext.refl c) (fun c1 w h1 H1 x1 r1 q1 v i1 => by
    split at q1
    · rename_i c0 fs l
      split at q1
      · rename_i x e1 e2
        have i1 : IsD S c1.F (.exn c0 fs l) v := i1
        simp only [IsD] at i1
        obtain ⟨a, dx, us, rfl, hl, ea, ed, il⟩ := i1
        obtain ⟨T, hno⟩ := g.xf c0 f e1
        have e3 : getF fs (l.map W.d) f = some (.d x) := getF_map e2
        obtain ⟨v', lk, iv⟩ := getF_look (S := S) (c := c1) hl il.toW e3
        refine ⟨a, S.ca c0, dx, _, v', rfl, by rw [← g.qx.K]; exact T, by rw [← g.qx.K]; exact hno, r1.fz _ _ ea, r1.fz _ _ ed, ?_, q1 c1 H1 (Ext.refl c1) r1 v' iv⟩
        rw [← g.fn]
        exact lk
      · exact q1.elim
    · exact q1.elim) fun _ _ _ q => q⟩
/-- the place of a comprehension's block -/
theorem Good.blk {X : Cx} {S : Sig} {k : Nat} {Wx : WX} {M : Pr} {Γ : Nat → Fn} {fa : Nat → Addr} (g : Good X S k Wx M Γ fa) (s : Shared) (H : Hp) (scope : Scope) (cenv : Env) (fp : List Addr) : Good (X.blk s H scope cenv fp) S k xF M.off Γ fa :=
  ⟨⟨g.qx.K, g.qx.calm, g.qx.nd, g.qx.room, takes0⟩, g.gd, g.fn, g.ok, g.G, g.gf, g.gc, g.blt, g.con, g.kn, g.gk, g.ccon, g.xf, g.xm, g.xi, g.cmo, g.imo, g.ko, fun z => (by cases z), g.lam, g.GL, g.GX⟩

section
variable {S : Sig} {M : Pr} {Γ : Nat → Fn} {fa : Nat → Addr}
mutual
theorem sndT : ∀ (t : Tg) {X : Cx} {pe : Expr} {sc : Scope}, S.K = X.K → X.calm = true → X.N.Nodup → (∀ x, locB sc x = true → Loc X.env.scope x ∧ (X.fn x = true ∨ X.env.scope.names.lookup x = some .local)) → embT X.N sc t pe = true → PG X pe (TGof S t)
  | .nm i, X, pe, sc, hK, hc, hN, hf, h => by
    cases pe <;> try (simp [embT] at h; done)
    simp only [embT, Bool.and_eq_true, decide_eq_true_eq] at h
    have hl := hf _ h.2
    exact mg_name hN h.1 hl.1 hl.2
  | .tp l, X, pe, sc, hK, hc, hN, hf, h => by
    cases pe <;> try (simp [embT] at h; done)
    simp only [embT] at h
    obtain ⟨h1, h2, h3, h4⟩ := sndTs l hK hc hN hf h
    exact mg_tup (n := 0) hK hc h1 h2 h3
theorem sndTs : ∀ (l : List Tg) {X : Cx} {es : List Expr} {sc : Scope}, S.K = X.K → X.calm = true → X.N.Nodup → (∀ x, locB sc x = true → Loc X.env.scope x ∧ (X.fn x = true ∨ X.env.scope.names.lookup x = some .local)) → embTs X.N sc l es = true →
    PGs X es (TGsof S l) ∧ (assignEach es X.env).length = l.length ∧ (assignEach es X.env).findIdx? (·.1) = none ∧ True
  | [], X, es, sc, hK, hc, hN, hf, h => by
    cases es with
    | cons _ _ => simp [embTs] at h
    | nil => exact ⟨mgs_nil, rfl, rfl, trivial⟩
  | t :: l, X, es, sc, hK, hc, hN, hf, h => by
    cases es with
    | nil => simp [embTs] at h
    | cons e es =>
      simp only [embTs, Bool.and_eq_true] at h
      obtain ⟨⟨h0, h1⟩, h2⟩ := h
      obtain ⟨g1, g2, g3, _⟩ := sndTs l hK hc hN hf h2
      have e1 : assignEach (e :: es) X.env = (false, assign e X.env) :: assignEach es X.env := by
        cases e <;> first | rfl | cases h0
      refine ⟨mgs_cons (sndT t hK hc hN hf h1) g1 (by rw [e1]; rfl), by rw [e1, List.length_cons, List.length_cons, g2], ?_, trivial⟩
      rw [e1, List.findIdx?_cons, g3]
      rfl
end

theorem pt_no {X : Cx} {Wx : WX} {pe : Expr} : PT X pe (TTof S Wx fun _ _ => .no) := ⟨fun _ _ _ _ _ _ ⟨_, _, _, _, _, q⟩ => q.elim⟩
theorem pts_monoT {X : Cx} {es : List Expr} {t t' : TT} (h : PTs X es t) (k : ∀ σ H Q, t' σ H Q → t σ H Q) : PTs X es t' := ⟨fun pins s σ H Q I q => h.run pins s σ H Q I (k σ H Q q)⟩
theorem evs_nil {l : List E} {sc : Scope} {N : List Str} : embEs M.toPs N sc l [] = true → evs M Γ l = aNil := fun h => by
  cases l with
  | nil => simp only [evs]
  | cons _ _ => simp [embEs] at h
theorem evk_nil {l : List E} {sc : Scope} {N : List Str} : embKs M.toPs N sc l [] = true → evs M Γ l = aNil := fun h => by
  cases l with
  | nil => simp only [evs]
  | cons _ _ => simp [embKs] at h
theorem rangeOk {X : Cx} {k : Nat} {Wx : WX} (g : Good X S k Wx M Γ fa) {x : Str} (h : M.blt.contains x = true) : X.mg x = none := g.blt x (by simpa using h)
theorem blk_loc {X : Cx} {scope : Scope} {x : Str} (hx : locB scope x = true) : Loc (relS scope X.env.scope) x ∧ ((scope.names.lookup x == some NameKind.cell) = true ∨ (relS scope X.env.scope).names.lookup x = some .local) := by
  have key : ∀ kk, kk ≠ NameKind.free → scope.names.lookup x = some kk → (relS scope X.env.scope).names.lookup x = some kk := fun kk h1 h2 => lookup_relS_keep h1 h2
  rcases locB_isS hx with hx | hx
  · have := key _ (by decide) hx
    exact ⟨.inl this, .inr this⟩
  · have := key _ (by decide) hx
    exact ⟨.inr this, .inl (by rw [hx]; rfl)⟩
/-- a comprehension, from its parts -/
theorem me_lc {X : Cx} {k : Nat} {Wx : WX} (g : Good X S k Wx M Γ fa) {mu : Bool} {t : Tg} {own : List (Str × Nat)} {pe ptg pit : Expr} {pifs : List Expr} {scope : Scope} {pos : Pos} {it : Fa} {tt : Ft} {fe : Fe}
    (hb : blkC X.N X.env.scope scope own = true) (hsl : (t.slots.all fun i => (own.map (·.2)).contains i) = true) (hi : PI X ptg pit (TIof S Wx it)) (hns : notSet pit = true) (ht : embT X.N scope t ptg = true)
    (hifs : ∀ s H C cl fp, PTs (X.blk s H scope (compEnvC scope cl C X.env) fp) pifs (TTof S xF tt)) (he : ∀ s H C cl fp, PE (X.blk s H scope (compEnvC scope cl C X.env) fp) pe (TEof S xF fe)) :
    PE X (.ListComp pe [⟨ptg, pit, pifs, 0⟩] scope pos) (TEof S Wx (vLc mu (own.map (·.2)) t it tt fe)) := by
  have bk := blkOk_by hb
  refine pe_mono (pe_lc g.qx.calm g.qx.nd hi bk (fun s H C cl fp => ?_) hifs he (fun x => by cases pit <;> first | rfl | cases hns)) (tlc_of fun i hi => by
    have := List.all_eq_true.mp hsl i hi
    simpa using this)
  refine sndT t (X := X.blk s H scope (compEnvC scope cl C X.env) fp) (sc := scope) g.qx.K g.qx.calm g.qx.nd (fun x hx => ?_) ht
  have key : ∀ kk, kk ≠ NameKind.free → scope.names.lookup x = some kk → (relS scope X.env.scope).names.lookup x = some kk := fun kk h1 h2 => lookup_relS_keep h1 h2
  rcases locB_isS hx with hx | hx
  · have := key _ (by decide) hx
    exact ⟨.inl this, .inr this⟩
  · have := key _ (by decide) hx
    exact ⟨.inr this, .inl (by show (scope.names.lookup x == some NameKind.cell) = true; rw [hx]; rfl)⟩
def isBoolOp : Expr → Bool
  | .BoolOp _ _ _ => true
  | _ => false
/-- an expression, as a value and as a test -/
def Snd (X : Cx) (S : Sig) (Wx : WX) (pe : Expr) (f : Fe) (t : Ft) : Prop := PE X pe (TEof S Wx f) ∧ PT X pe (TTof S Wx t) ∧ (isBoolOp pe = true → PW X pe (TTof S Wx t))
theorem plain_nb {pe : Expr} (h : isBoolOp pe = true) (hp : plainTest pe = true) : False := by
  cases pe <;> first | (cases h; done) | (cases hp; done)
theorem sLeaf {X : Cx} {Wx : WX} {pe : Expr} {f : Fe} {t : Ft} (he : PE X pe (TEof S Wx f)) (h2 : t = tVal f) (hp : plainTest pe = true) : Snd X S Wx pe f t :=
  ⟨he, by rw [h2]; exact mt_val he hp, fun h => (plain_nb h hp).elim⟩
theorem pw_no {X : Cx} {Wx : WX} {pe : Expr} : PW X pe (TTof S Wx fun _ _ => .no) := ⟨fun _ _ _ _ _ _ _ ⟨_, _, _, _, _, q⟩ => q.elim⟩
theorem sNot {X : Cx} {Wx : WX} {pe : Expr} {f : Fe} {t : Ft} (he : PE X pe (TEof S Wx f)) (h2 : t = fun _ _ => .no) (hp : isBoolOp pe = false) : Snd X S Wx pe f t :=
  ⟨he, by rw [h2]; exact pt_no, fun h => by rw [hp] at h; cases h⟩
theorem slotsB_is {N : List Str} : ∀ {l : List Nat} {ys : List Str}, slotsB N l ys = true → l.length = ys.length ∧ ∀ (j i : Nat) (y : Str), l[j]? = some i → ys[j]? = some y → N[i]? = some y
  | [], [], _ => ⟨rfl, fun j i y e => by simp at e⟩
  | [], _ :: _, h => by cases h
  | _ :: _, [], h => by cases h
  | i :: l, y :: ys, h => by
    simp only [slotsB, Bool.and_eq_true, decide_eq_true_eq] at h
    obtain ⟨a, b⟩ := slotsB_is h.2
    refine ⟨by rw [List.length_cons, List.length_cons, a], fun j k z e1 e2 => ?_⟩
    cases j with
    | zero =>
      rw [List.getElem?_cons_zero] at e1 e2
      cases e1
      cases e2
      exact h.1
    | succ j =>
      rw [List.getElem?_cons_succ] at e1 e2
      exact b j k z e1 e2
mutual
theorem snd : ∀ (e : E) {M : Pr} {X : Cx} {k : Nat} {Wx : WX} {pe : Expr}, Good X S k Wx M Γ fa → embE M.toPs X.N X.env.scope e pe = true → Snd X S Wx pe (ev M Γ e) (tst M Γ e)
  | .var i, M, X, k, Wx, pe, g, h => by
    cases pe <;> try (simp [embE] at h; done)
    simp only [embE, Bool.and_eq_true, decide_eq_true_eq] at h
    refine sLeaf ?_ (by simp only [tst, ev]) rfl
    simp only [ev]
    exact me_var h.1.1.1 (visB_is h.1.1.2) (bne_is h.1.2) (bne_is h.2)
  | .int i, M, X, k, Wx, pe, g, h => by
    cases pe <;> try (simp [embE] at h; done)
    rename_i v _ _
    cases v <;> try (simp [embE] at h; done)
    simp only [embE, decide_eq_true_eq] at h
    subst h
    refine sNot ?_ (by simp only [tst]) rfl
    simp only [ev]
    exact me_int
  | .bl i, M, X, k, Wx, pe, g, h => by
    cases pe <;> try (simp [embE] at h; done)
    rename_i v _ _
    cases v <;> try (simp [embE] at h; done)
    simp only [embE, decide_eq_true_eq] at h
    subst h
    refine sLeaf ?_ (by simp only [tst, ev]) rfl
    simp only [ev]
    exact me_bl
  | .non, M, X, k, Wx, pe, g, h => by
    cases pe <;> try (simp [embE] at h; done)
    rename_i v _ _
    cases v <;> try (simp [embE] at h; done)
    refine sNot ?_ (by simp only [tst]) rfl
    simp only [ev]
    exact me_non
  | .str x, M, X, k, Wx, pe, g, h => by
    cases pe <;> try (simp [embE] at h; done)
    rename_i v _ _
    cases v <;> try (simp [embE] at h; done)
    simp only [embE, decide_eq_true_eq] at h
    subst h
    refine sNot ?_ (by simp only [tst]) rfl
    simp only [ev]
    exact me_str
  | .con x, M, X, k, Wx, pe, g, h => by
    cases pe <;> try (simp [embE] at h; done)
    simp only [embE, Bool.and_eq_true, decide_eq_true_eq] at h
    obtain ⟨⟨h1, h2⟩, h3⟩ := h
    subst h1
    refine sNot ?_ (by simp only [tst]) rfl
    simp only [ev]
    exact me_con (glB_is h2) (bne_is h3) (g.con x)
  | .op2 p a b, M, X, k, Wx, pe, g, h => by
    cases pe <;> try (simp [embE] at h; done)
    simp only [embE, Bool.and_eq_true, decide_eq_true_eq] at h
    obtain ⟨⟨h1, h2⟩, h3⟩ := h
    subst h1
    refine sNot ?_ (by simp only [tst]) rfl
    simp only [ev]
    exact me_op (p.ok X S _ Wx g.qx) (snd a g h2).1 (snd b g h3).1
  | .op1 p a, M, X, k, Wx, pe, g, h => by
    cases pe <;> try (simp [embE] at h; done)
    simp only [embE, Bool.and_eq_true, decide_eq_true_eq] at h
    obtain ⟨h1, h2⟩ := h
    subst h1
    refine sNot ?_ (by simp only [tst]) rfl
    simp only [ev]
    exact me_1 (p.ok X S _ Wx g.qx) (snd a g h2).1
  | .cmp p a b, M, X, k, Wx, pe, g, h => by
    cases pe <;> try (simp [embE] at h; done)
    rename_i pa ops cs pos
    rcases ops with _ | ⟨o1, _ | ⟨_, _⟩⟩ <;> rcases cs with _ | ⟨c1, _ | ⟨_, _⟩⟩ <;> try (simp [embE] at h; done)
    simp only [embE, Bool.and_eq_true, decide_eq_true_eq, Bool.not_eq_true'] at h
    obtain ⟨⟨⟨h1, h2⟩, h3⟩, h4⟩ := h
    subst h1
    simp only [ev, tst]
    have ho := p.ok X S _ Wx g.qx
    exact ⟨me_cmp ho (snd a g h3).1 (snd b g h4).1 h2, mt_cmp ho (snd a g h3).1 (snd b g h4).1 h2, fun h => by cases h⟩
  | .chn p q a b c, M, X, k, Wx, pe, g, h => by
    cases pe <;> try (simp [embE] at h; done)
    rename_i pa ops cs pos
    rcases ops with _ | ⟨o1, _ | ⟨o2, _ | ⟨_, _⟩⟩⟩ <;> rcases cs with _ | ⟨c1, _ | ⟨c2, _ | ⟨_, _⟩⟩⟩ <;> try (simp [embE] at h; done)
    simp only [embE, Bool.and_eq_true, decide_eq_true_eq, Bool.not_eq_true'] at h
    obtain ⟨⟨⟨⟨⟨h1, h2⟩, h3⟩, h4⟩, h5⟩, h6⟩ := h
    subst h1 h2
    simp only [ev, tst]
    have ho := p.ok X S _ Wx g.qx
    have ho2 := q.ok X S _ Wx g.qx
    exact ⟨me_chn ho ho2 (snd a g h4).1 (snd b g h5).1 (snd c g h6).1 h3, mt_chn ho ho2 (snd a g h4).1 (snd b g h5).1 (snd c g h6).1 h3, fun h => by cases h⟩
  | .and a b, M, X, k, Wx, pe, g, h => by
    cases pe <;> try (simp [embE] at h; done)
    rename_i op vs pos
    cases op <;> rcases vs with _ | ⟨v1, _ | ⟨v2, _ | ⟨v3, vr⟩⟩⟩ <;> try (simp [embE] at h; done)
    all_goals
      simp only [embE, Bool.and_eq_true] at h
      obtain ⟨ha, hb⟩ := h
      simp only [ev, tst]
      have ga := snd a g ha
      have gb := snd b g hb
    · have gw := mw_and (pos := pos) ga.2.1 (mw_and1 gb.2.1)
      exact ⟨me_and ga.1 (pe_one gb.1), gw.pt, fun _ => gw⟩
    · have gw := mw_and (pos := pos) ga.2.1 (gb.2.2 rfl)
      exact ⟨me_and ga.1 gb.1, gw.pt, fun _ => gw⟩
  | .or a b, M, X, k, Wx, pe, g, h => by
    cases pe <;> try (simp [embE] at h; done)
    rename_i op vs pos
    cases op <;> rcases vs with _ | ⟨v1, _ | ⟨v2, _ | ⟨v3, vr⟩⟩⟩ <;> try (simp [embE] at h; done)
    all_goals
      simp only [embE, Bool.and_eq_true] at h
      obtain ⟨ha, hb⟩ := h
      simp only [ev, tst]
      have ga := snd a g ha
      have gb := snd b g hb
    · have gw := mw_or (pos := pos) ga.2.1 (mw_or1 gb.2.1)
      exact ⟨me_or ga.1 (pe_one gb.1), gw.pt, fun _ => gw⟩
    · have gw := mw_or (pos := pos) ga.2.1 (gb.2.2 rfl)
      exact ⟨me_or ga.1 gb.1, gw.pt, fun _ => gw⟩
  | .not a, M, X, k, Wx, pe, g, h => by
    cases pe <;> try (simp [embE] at h; done)
    rename_i op v pos
    cases op <;> try (simp [embE] at h; done)
    simp only [embE] at h
    simp only [ev, tst]
    have ga := snd a g h
    exact ⟨me_not ga.1, mt_not ga.2.1, fun h => by cases h⟩
  | .ife t a b, M, X, k, Wx, pe, g, h => by
    cases pe <;> try (simp [embE] at h; done)
    simp only [embE, Bool.and_eq_true] at h
    refine sNot ?_ (by simp only [tst]) rfl
    simp only [ev]
    exact me_if (snd t g h.1.1).2.1 (snd a g h.1.2).1 (snd b g h.2).1
  | .tup l, M, X, k, Wx, pe, g, h => by
    cases pe <;> try (simp [embE] at h; done)
    simp only [embE, Bool.and_eq_true] at h
    refine sNot ?_ (by simp only [tst]) rfl
    simp only [ev]
    exact me_tup (snds l g h.1 h.2)
  | .lst mu l, M, X, k, Wx, pe, g, h => by
    cases pe <;> try (simp [embE] at h; done)
    simp only [embE, Bool.and_eq_true] at h
    refine sNot ?_ (by cases mu <;> simp only [tst]) rfl
    cases mu <;> simp only [ev]
    · exact me_lst (snds l g h.1 h.2)
    · exact me_lstM (snds l g h.1 h.2)
  | .ix a i, M, X, k, Wx, pe, g, h => by
    cases pe <;> try (simp [embE] at h; done)
    simp only [embE, Bool.and_eq_true] at h
    refine sLeaf ?_ (by simp only [tst, ev]) rfl
    simp only [ev]
    exact me_ix g.qx (snd a g h.1.2).1 (snd i g h.2).1 h.1.1
  | .fld a f, M, X, k, Wx, pe, g, h => by
    cases pe <;> try (simp [embE] at h; done)
    simp only [embE, Bool.and_eq_true, decide_eq_true_eq] at h
    obtain ⟨⟨h1, h2⟩, h3⟩ := h
    subst h1
    refine sLeaf ?_ (by simp only [tst, ev]) rfl
    simp only [ev]
    rw [← g.fn]
    exact me_fld g.qx g.gd g.ok g.G (snd a g h3).1 h2
  | .xfl a f, M, X, k, Wx, pe, g, h => by
    cases pe <;> try (simp [embE] at h; done)
    simp only [embE, Bool.and_eq_true, decide_eq_true_eq] at h
    obtain ⟨⟨h1, h2⟩, h3⟩ := h
    subst h1
    refine sNot ?_ (by simp only [tst]) rfl
    simp only [ev]
    exact me_xfl g (snd a g h3).1 h2
  | .lamc f kl slots, M, X, k, Wx, pe, g, h => by
    cases pe <;> try (simp [embE] at h; done)
    rename_i fe es kws pos
    cases fe <;> try (simp [embE] at h; done)
    rcases es with _ | ⟨e1, _ | ⟨_, _⟩⟩ <;> rcases kws with _ | ⟨_, _⟩ <;> try (simp [embE] at h; done)
    cases e1 <;> try (simp [embE] at h; done)
    simp only [embE, Bool.and_eq_true, decide_eq_true_eq] at h
    obtain ⟨⟨⟨⟨⟨⟨⟨h0, h1⟩, h2⟩, h3⟩, h4⟩, h5⟩, h6⟩, h7⟩ := h
    subst h1
    refine sNot ?_ (by simp only [tst]) rfl
    simp only [ev]
    by_cases ho : M.lamOn = true
    · rw [if_pos ho]
      obtain ⟨fn, c, P, q1, q2, q3, q4⟩ := g.lq ho
      have hf := g.gf f h0
      obtain ⟨l1, l2⟩ := slotsB_is h7
      exact pe_lamc g.qx.K g.ko (g.qx.room.mono (Nat.le_succ k)) g.gd (fun ko cd b a1 a2 a3 a4 => g.GX ko cd b a1 a2 a3 a4 f) (glB_is h2) hf.1 hf.2 (bne_is h3) q2 q1 q3 q4 (LamX.lamS_by h4) ((g.lam kl X.env.qual _ _ _ h5).2 X.env) (g.lam kl _ _ _ _ h5).1 (fun y hy => by
        have := List.all_eq_true.mp h6 y hy
        simpa using this) l1 l2 fn
    · rw [if_neg ho]
      exact ⟨fun _ _ _ _ _ _ ⟨_, _, _, _, _, q⟩ => q.elim⟩
  | .act i, M, X, k, Wx, pe, g, h => by
    cases pe <;> try (simp [embE] at h; done)
    rename_i fe es kws pos
    cases fe <;> try (simp [embE] at h; done)
    rcases es with _ | ⟨_, _⟩ <;> rcases kws with _ | ⟨_, _⟩ <;> try (simp [embE] at h; done)
    simp only [embE, Bool.and_eq_true, decide_eq_true_eq] at h
    refine sNot ?_ (by simp only [tst]) rfl
    simp only [ev]
    exact pe_clo g.qx.K g.ko (g.qx.room.mono (Nat.le_succ k)) g.gd g.qx.tk g.GL h.1.1.1 (visB_is h.1.1.2) (bne_is h.1.2) (bne_is h.2)
  | .call f l ns kl, M, X, k, Wx, pe, g, h => by
    cases pe <;> try (simp [embE] at h; done)
    rename_i fe es kws pos
    cases fe <;> try (simp [embE] at h; done)
    simp only [embE, Bool.and_eq_true, decide_eq_true_eq] at h
    obtain ⟨⟨⟨⟨⟨⟨⟨h0, h1⟩, h2⟩, h3⟩, h4⟩, h5⟩, h6⟩, h7⟩ := h
    subst h1
    refine sLeaf ?_ (by simp only [tst, ev]) rfl
    simp only [ev]
    have hf := g.gf f h0
    exact me_call (runs_g (Qx.mk g.qx.K g.qx.calm g.qx.nd (g.qx.room.mono (Nat.le_succ k)) g.qx.tk) g.gd (g.G f)) hf.2 (glB_is h2) hf.1 (bne_is h3) h4 h5 (snds l g h4 h6) (sndk kl g h7) (fun e => by subst e; exact evs_nil h6) (fun e => by subst e; exact evk_nil h7)
  | .make c f l ns kl, M, X, k, Wx, pe, g, h => by
    cases pe <;> try (simp [embE] at h; done)
    rename_i fe es kws pos
    cases fe <;> try (simp [embE] at h; done)
    simp only [embE, Bool.and_eq_true, decide_eq_true_eq] at h
    obtain ⟨⟨⟨⟨⟨⟨⟨h0, h1⟩, h2⟩, h3⟩, h4⟩, h5⟩, h6⟩, h7⟩ := h
    subst h1
    refine sNot ?_ (by simp only [tst]) rfl
    simp only [ev]
    have mk : Mk X.K (S.ca c) (fa f) := by rw [← g.qx.K]; exact g.ok.init c f h0
    exact me_call (runs_mk g.qx g.gd mk (g.G f)) mk.kp (glB_is h2) (g.gc c f h0) (bne_is h3) h4 h5 (snds l g h4 h6) (sndk kl g h7) (fun e => by subst e; exact evs_nil h6) (fun e => by subst e; exact evk_nil h7)
  | .meth o m l ns kl, M, X, k, Wx, pe, g, h => by
    cases pe <;> try (simp [embE] at h; done)
    rename_i fe es kws pos
    cases fe <;> try (simp [embE] at h; done)
    simp only [embE, Bool.and_eq_true, decide_eq_true_eq] at h
    obtain ⟨⟨⟨⟨⟨h1, h2⟩, h3⟩, h4⟩, h5⟩, h6⟩ := h
    subst h1
    refine sLeaf ?_ (by simp only [tst, ev]) rfl
    simp only [ev]
    rw [← g.fn]
    have hs : noStar es = true := by
      unfold methForm at h2
      simp only [Bool.and_eq_true] at h2
      exact h2.1.1.1.2
    exact me_meth g.qx g.gd g.ok g.G (snd o g h4).1 h2 h3 (snds l g hs h5) (sndk kl g h6) (fun e => by subst e; exact evs_nil h5) (fun e => by subst e; exact evk_nil h6)
  | .cmth c m l ns kl, M, X, k, Wx, pe, g, h => by
    cases pe <;> try (simp [embE] at h; done)
    rename_i fe es kws pos
    cases fe <;> try (simp [embE] at h; done)
    rename_i po y apos
    cases po <;> try (simp [embE] at h; done)
    simp only [embE, Bool.and_eq_true, decide_eq_true_eq] at h
    obtain ⟨⟨⟨⟨⟨⟨⟨h0, h1⟩, h2⟩, h3⟩, h4⟩, h5⟩, h6⟩, h7⟩ := h
    subst h0
    subst h1
    refine sLeaf ?_ (by simp only [tst, ev]) rfl
    simp only [ev]
    have hs : noStar es = true := by
      unfold methForm at h4
      simp only [Bool.and_eq_true] at h4
      exact h4.1.1.1.2
    cases e : M.cm c m with
    | none => exact ⟨fun _ _ _ _ _ _ ⟨_, _, _, _, _, q⟩ => q.elim⟩
    | some t =>
      have z := g.cmo c m t e
      rw [← g.fn]
      exact me_cmth g.qx g.gd g.G (fun q hq => by cases hq; rw [← g.qx.K, g.fn]; exact z.1) (glB_is h2) z.2 (bne_is h3) h4 h5 (snds l g hs h6) (sndk kl g h7) (fun e => by subst e; exact evs_nil h6) (fun e => by subst e; exact evk_nil h7)
  | .imth o m l ns kl, M, X, k, Wx, pe, g, h => by
    cases pe <;> try (simp [embE] at h; done)
    rename_i fe es kws pos
    cases fe <;> try (simp [embE] at h; done)
    simp only [embE, Bool.and_eq_true, decide_eq_true_eq] at h
    obtain ⟨⟨⟨⟨⟨h1, h2⟩, h3⟩, h4⟩, h5⟩, h6⟩ := h
    subst h1
    refine sLeaf ?_ (by simp only [tst, ev]) rfl
    simp only [ev]
    rw [← g.fn]
    have hs : noStar es = true := by
      unfold methForm at h2
      simp only [Bool.and_eq_true] at h2
      exact h2.1.1.1.2
    exact me_imth g.qx g.gd g.G (fun c m q hq => by rw [← g.qx.K, g.fn]; exact g.imo c m q hq) (snd o g h4).1 h2 h3 (snds l g hs h5) (sndk kl g h6) (fun e => by subst e; exact evs_nil h5) (fun e => by subst e; exact evk_nil h6)
  | .mkv i l ns kl, M, X, k, Wx, pe, g, h => by
    cases pe <;> try (simp [embE] at h; done)
    rename_i fe es kws pos
    cases fe <;> try (simp [embE] at h; done)
    simp only [embE, Bool.and_eq_true, decide_eq_true_eq] at h
    obtain ⟨⟨⟨⟨⟨⟨⟨h0, h1⟩, h2⟩, h3⟩, h4⟩, h5⟩, h6⟩, h7⟩ := h
    refine sNot ?_ (by simp only [tst]) rfl
    simp only [ev]
    exact me_mkv g.qx g.gd (fun c f e => by rw [← g.qx.K]; exact g.ok.init c f e) g.G h0 (visB_is h1) (bne_is h2) (bne_is h3) h4 h5 (snds l g h4 h6) (sndk kl g h7) (fun e => by subst e; exact evs_nil h6) (fun e => by subst e; exact evk_nil h7)
  | .bf p a l, M, X, k, Wx, pe, g, h => by
    cases pe <;> try (simp [embE] at h; done)
    rename_i fe es kws pos
    cases fe <;> try (simp [embE] at h; done)
    rcases es with _ | ⟨e1, es⟩ <;> rcases kws with _ | ⟨_, _⟩ <;> try (simp [embE] at h; done)
    simp only [embE, Bool.and_eq_true, decide_eq_true_eq] at h
    obtain ⟨⟨⟨⟨⟨h0, h1⟩, h2⟩, h3⟩, h4⟩, h5⟩ := h
    subst h1
    refine sLeaf ?_ (by simp only [tst, ev]) rfl
    simp only [ev]
    exact me_bf p g.qx g.gd (glB_is h2) (rangeOk g h0) h3 (ma_cons (snd a g h4).1 (snds l g (noStar_cons (env := X.env) h3).2 h5) (noStar_cons h3).1)
  | .bm p o a l, M, X, k, Wx, pe, g, h => by
    cases pe <;> try (simp [embE] at h; done)
    rename_i fe es kws pos
    cases fe <;> try (simp [embE] at h; done)
    rcases es with _ | ⟨e1, es⟩ <;> rcases kws with _ | ⟨_, _⟩ <;> try (simp [embE] at h; done)
    simp only [embE, Bool.and_eq_true, decide_eq_true_eq] at h
    obtain ⟨⟨⟨⟨⟨⟨⟨h1, h2⟩, h3⟩, h4⟩, h5⟩, h6⟩, h7⟩, h8⟩ := h
    subst h1
    refine sLeaf ?_ (by simp only [tst, ev]) rfl
    simp only [ev]
    exact me_bm p g.qx h2 h4 h5 h3 (snd o g h6).1 (ma_cons (snd a g h7).1 (snds l g (noStar_cons (env := X.env) h3).2 h8) (noStar_cons h3).1)
  | .isi a u, M, X, k, Wx, pe, g, h => by
    cases pe <;> try (simp [embE] at h; done)
    rename_i fe es kws pos
    cases fe <;> try (simp [embE] at h; done)
    rcases es with _ | ⟨e1, _ | ⟨e2, _ | ⟨_, _⟩⟩⟩ <;> rcases kws with _ | ⟨_, _⟩ <;> try (simp [embE] at h; done)
    · cases e2 <;> try (simp [embE] at h; done)
      rename_i x p1 tn p2
      simp only [embE, tyB, Bool.and_eq_true, decide_eq_true_eq] at h
      obtain ⟨⟨⟨⟨⟨h0, h1⟩, h2⟩, h3⟩, ⟨⟨h4, h5⟩, h6⟩⟩, h7⟩ := h
      subst h1
      refine sLeaf ?_ (by simp only [tst, ev]) rfl
      simp only [ev]
      have ha := (snd a g h7).1
      cases u <;> first
        | (simp only [Bool.and_eq_true, decide_eq_true_eq] at h6
           exact me_isi (cv := .ref (S.ca _)) g.qx.K g.kn (glB_is h2) (rangeOk g h0) ha h3 (by rw [← h6.2]; exact pe_glob (glB_is (by rw [h6.2]; exact h4)) (g.gk _ h6.1) rfl (bne_is (by rw [h6.2]; exact h5))) (.own _))
        | (simp only [Bool.and_eq_true, decide_eq_true_eq] at h6
           obtain ⟨n, b1, b2, b3⟩ := boot_ty h6.1 S
           exact me_isi (cv := .ty n) g.qx.K g.kn (glB_is h2) (rangeOk g h0) ha h3 (pe_bltn (glB_is h4) (rangeOk g h6.2) b1 rfl b3 (bne_is h5)) (by rw [b2]; exact .ty n))
  | .eq neg a b, M, X, k, Wx, pe, g, h => by
    cases pe <;> try (simp [embE] at h; done)
    rename_i pa ops cs pos
    rcases ops with _ | ⟨o1, _ | ⟨_, _⟩⟩ <;> rcases cs with _ | ⟨c1, _ | ⟨_, _⟩⟩ <;> try (simp [embE] at h; done)
    simp only [embE, Bool.and_eq_true, decide_eq_true_eq] at h
    obtain ⟨⟨h1, h3⟩, h4⟩ := h
    subst h1
    have ho := o_eq neg g.qx g.gd g.kn g.G
    have hb : behindInMarks (eqOp neg) c1 = false := by
      cases neg
      · exact nobehind _ (by decide) (by decide)
      · exact nobehind _ (by decide) (by decide)
    simp only [ev, tst]
    exact ⟨me_cmp ho (snd a g h3).1 (snd b g h4).1 hb, mt_cmp ho (snd a g h3).1 (snd b g h4).1 hb, fun h => by cases h⟩
  | .len a, M, X, k, Wx, pe, g, h => by
    cases pe <;> try (simp [embE] at h; done)
    rename_i fe es kws pos
    cases fe <;> try (simp [embE] at h; done)
    rcases es with _ | ⟨e1, _ | ⟨_, _⟩⟩ <;> rcases kws with _ | ⟨_, _⟩ <;> try (simp [embE] at h; done)
    simp only [embE, Bool.and_eq_true, decide_eq_true_eq] at h
    obtain ⟨⟨⟨⟨h0, h1⟩, h2⟩, h3⟩, h4⟩ := h
    subst h1
    refine sNot ?_ (by simp only [tst]) rfl
    simp only [ev]
    exact me_cb (c_len g.qx g.gd g.kn g.G) PySem.boot_len (by decide +kernel) (by decide +kernel) (glB_is h2) (rangeOk g h0) h3 (ma_cons (snd a g h4).1 ma_nil (noStar_cons h3).1)
  | .rng tu a, M, X, k, Wx, pe, g, h => by
    cases pe <;> try (simp [embE] at h; done)
    rename_i fe es kws pos
    cases fe <;> try (simp [embE] at h; done)
    rcases es with _ | ⟨e1, _ | ⟨_, _⟩⟩ <;> rcases kws with _ | ⟨_, _⟩ <;> try (simp [embE] at h; done)
    · cases e1 <;> try (simp [embE] at h; done)
      rename_i fe2 es2 kws2 pos2
      cases fe2 <;> try (simp [embE] at h; done)
      rcases es2 with _ | ⟨e3, _ | ⟨_, _⟩⟩ <;> rcases kws2 with _ | ⟨_, _⟩ <;> try (simp [embE] at h; done)
      simp only [embE, Bool.and_eq_true, decide_eq_true_eq] at h
      obtain ⟨⟨⟨⟨⟨⟨⟨h0, h1⟩, h2⟩, h3⟩, h4⟩, h5⟩, h6⟩, h7⟩ := h
      subst h1 h4
      refine sNot ?_ (by simp only [tst]) rfl
      cases tu <;> simp only [ev]
      · exact me_lstR g.qx (glB_is h2) (rangeOk g h0) (glB_is h5) (rangeOk g h3) (snd a g h7).1 h6
      · exact me_tupR g.qx (glB_is h2) (rangeOk g h0) (glB_is h5) (rangeOk g h3) (snd a g h7).1 h6
  | .dnew tk, M, X, k, Wx, pe, g, h => by
    cases pe <;> try (simp [embE] at h; done)
    rename_i keys values pos
    rcases keys with _ | ⟨_, _⟩ <;> rcases values with _ | ⟨_, _⟩ <;> try (simp [embE] at h; done)
    refine sNot ?_ (by simp only [tst]) rfl
    simp only [ev]
    exact me_dnew tk
  | .dct ks l, M, X, k, Wx, pe, g, h => by
    cases pe <;> try (simp [embE] at h; done)
    rename_i keys values pos
    simp only [embE, Bool.and_eq_true, decide_eq_true_eq] at h
    obtain ⟨⟨⟨⟨h1, h2⟩, h3⟩, h4⟩, h5⟩ := h
    refine sNot ?_ (by simp only [tst]) rfl
    simp only [ev]
    obtain ⟨d1, d2, d3⟩ := sndd l ks g h1 h2 h5
    exact me_dct d1 d2 h2.symm (fun z => by rw [z] at h3; exact absurd h3 (by decide)) h4 d3
  | .makeS c f a, M, X, k, Wx, pe, g, h => by
    cases pe <;> try (simp [embE] at h; done)
    rename_i fe es kws pos
    cases fe <;> try (simp [embE] at h; done)
    rcases es with _ | ⟨e1, _ | ⟨_, _⟩⟩ <;> rcases kws with _ | ⟨_, _⟩ <;> try (simp [embE] at h; done)
    · cases e1 <;> try (simp [embE] at h; done)
      simp only [embE, Bool.and_eq_true, decide_eq_true_eq] at h
      obtain ⟨⟨⟨⟨h0, h1⟩, h2⟩, h3⟩, h4⟩ := h
      subst h1
      refine sNot ?_ (by simp only [tst]) rfl
      simp only [ev]
      have mk : Mk X.K (S.ca c) (fa f) := by rw [← g.qx.K]; exact g.ok.init c f h0
      exact me_starC g.qx.K (runs_mk g.qx g.gd mk (g.G f)) mk.kp (glB_is h2) (g.gc c f h0) (bne_is h3) (snd a g h4).1
  | .frz a, M, X, k, Wx, pe, g, h => by
    simp only [embE] at h
    simp only [ev, tst]
    exact ⟨me_frz (snd a g h).1, pt_no, fun _ => pw_no⟩
  | .ccon c m, M, X, k, Wx, pe, g, h => by
    cases pe <;> try (simp [embE] at h; done)
    rename_i e y pos
    cases e <;> try (simp [embE] at h; done)
    simp only [embE, Bool.and_eq_true, decide_eq_true_eq] at h
    obtain ⟨⟨⟨⟨h1, h2⟩, h3⟩, h4⟩, h5⟩ := h
    subst h1 h4
    refine sNot ?_ (by simp only [tst]) rfl
    simp only [ev]
    cases ed : M.ccon c m with
    | none => rw [ed] at h5; cases h5
    | some d =>
      obtain ⟨k1, mc, v, u, k2, k3, k4⟩ := g.ccon c m d ed
      refine pe_mono (ClX.pe_cval (f := M.fn m) (pe_glob (v := .ref (S.ca c)) (glB_is h2) k1 rfl (bne_is h3)) (noSuper_base rfl)) fun σ H Q ⟨c1, env, h, ev, r, q⟩ => ?_
      rw [← g.qx.K]
      exact ⟨_, mc, v, u, rfl, k2, k3, q c1 H (Ext.refl c1) r v (k4 _)⟩
  | .lc mu elt t ik ia ifs own, M, X, k, Wx, pe, g, h => by
    cases pe <;> try (simp [embE] at h; done)
    rename_i pe gs scope pos
    rcases gs with _ | ⟨⟨ptg, pit, pifs, na⟩, _ | ⟨_, _⟩⟩ <;> try (simp [embE] at h; done)
    by_cases hna : na = 0
    · subst hna
      simp only [embE, Bool.and_eq_true, decide_eq_true_eq] at h
      obtain ⟨⟨⟨⟨⟨⟨⟨h1, h2⟩, h3⟩, h4⟩, h5⟩, h6⟩, h7⟩, h8⟩ := h
      refine sNot ?_ (by simp only [tst]) rfl
      simp only [ev]
      obtain ⟨i1, i2⟩ := sndi ik ia g h3 h4
      refine me_lc g h1 h2 i1 i2 h5 (fun s H C cl fp => ?_) (fun s H C cl fp => (snd elt (g.blk s H scope (compEnvC scope cl C X.env) fp) h8).1)
      exact sndts ifs (g.blk s H scope (compEnvC scope cl C X.env) fp) h6 h7
    · simp [embE, hna] at h
theorem snds : ∀ (l : List E) {M : Pr} {X : Cx} {k : Nat} {Wx : WX} {es : List Expr}, Good X S k Wx M Γ fa → noStar es = true → embEs M.toPs X.N X.env.scope l es = true → PA X es (TAof S Wx (evs M Γ l))
  | [], M, X, k, Wx, es, g, hs, h => by
    cases es with
    | cons _ _ => simp [embEs] at h
    | nil => simp only [evs]; exact ma_nil
  | a :: l, M, X, k, Wx, es, g, hs, h => by
    cases es with
    | nil => simp [embEs] at h
    | cons e es =>
      simp only [embEs, Bool.and_eq_true] at h
      simp only [evs]
      exact ma_cons (snd a g h.1).1 (snds l g (noStar_cons (env := X.env) hs).2 h.2) (noStar_cons hs).1
theorem sndd : ∀ (l : List E) (ks : List Key) {M : Pr} {X : Cx} {k : Nat} {Wx : WX} {keys : List (Option Expr)} {values : List Expr} {pos : Pos}, Good X S k Wx M Γ fa → keyB ks keys = true → values.length = keys.length → embEs M.toPs X.N X.env.scope l values = true →
    PPs X pos keys values (trsOf S Wx ks (fes M Γ l)) ∧ keys.all (·.isSome) = true ∧ (fes M Γ l).length = ks.length
  | [], ks, M, X, k, Wx, keys, values, pos, g, hk, hl, h => by
    cases values with
    | cons _ _ => simp [embEs] at h
    | nil =>
      cases keys with
      | cons _ _ => cases hl
      | nil =>
        cases ks with
        | cons q _ => cases q <;> cases hk
        | nil => simp only [fes]; exact ⟨pps_nil, rfl, rfl⟩
  | a :: l, ks, M, X, k, Wx, keys, values, pos, g, hk, hl, h => by
    cases values with
    | nil => simp [embEs] at h
    | cons v values =>
      cases keys with
      | nil => cases hl
      | cons key keys =>
        cases ks with
        | nil => cases hk
        | cons q ks =>
          simp only [embEs, Bool.and_eq_true] at h
          simp only [fes]
          have go : ∀ ke, key = some ke → PE X ke (tC (kV q)) → keyB ks keys = true → PPs X pos (key :: keys) (v :: values) (trsOf S Wx (q :: ks) (ev M Γ a :: fes M Γ l)) ∧ (key :: keys).all (·.isSome) = true ∧ (ev M Γ a :: fes M Γ l).length = (q :: ks).length := fun ke e p hk2 => by
            subst e
            obtain ⟨d1, d2, d3⟩ := sndd l ks (pos := pos) g hk2 (by simpa using hl) h.2
            exact ⟨pps_cons p (snd a g h.1).1 d1, by rw [List.all_cons, d2]; rfl, by rw [List.length_cons, List.length_cons, d3]⟩
          cases q with
          | inl i =>
            unfold keyB at hk
            split at hk <;> try (cases hk; done)
            · rename_i e1 e2
              cases e1
            · rename_i e1 e2
              cases e1
              cases e2
              rw [Bool.and_eq_true, decide_eq_true_eq] at hk
              rw [hk.1]
              rw [hk.1] at go
              exact go _ rfl pe_int hk.2
            · rename_i e1 e2
              cases e1
          | inr i =>
            unfold keyB at hk
            split at hk <;> try (cases hk; done)
            · rename_i e1 e2
              cases e1
            · rename_i e1 e2
              cases e1
            · rename_i e1 e2
              cases e1
              cases e2
              rw [Bool.and_eq_true, decide_eq_true_eq] at hk
              rw [hk.1]
              rw [hk.1] at go
              exact go _ rfl pe_str hk.2
theorem sndk : ∀ (l : List E) {M : Pr} {X : Cx} {k : Nat} {Wx : WX} {es : List Keyword}, Good X S k Wx M Γ fa → embKs M.toPs X.N X.env.scope l es = true → PK X es (TAof S Wx (evs M Γ l))
  | [], M, X, k, Wx, es, g, h => by
    cases es with
    | cons _ _ => simp [embKs] at h
    | nil => simp only [evs]; exact mk_nil
  | a :: l, M, X, k, Wx, es, g, h => by
    cases es with
    | nil => simp [embKs] at h
    | cons e es =>
      obtain ⟨nm, e, p⟩ := e
      simp only [embKs, Bool.and_eq_true] at h
      simp only [evs]
      exact mk_cons (snd a g h.1).1 (sndk l g h.2)
theorem sndts : ∀ (l : List E) {M : Pr} {X : Cx} {k : Nat} {Wx : WX} {es : List Expr}, Good X S k Wx M Γ fa → l.length < 2 → embEs M.toPs X.N X.env.scope l es = true → PTs X es (TTof S Wx (tsts M Γ l))
  | [], M, X, k, Wx, es, g, hl, h => by
    cases es with
    | cons _ _ => simp [embEs] at h
    | nil =>
      simp only [tsts]
      exact pts_monoT pts_nil fun σ H Q ⟨c, env, h, ev, r, q⟩ => q c H (Ext.refl c) r
  | [a], M, X, k, Wx, es, g, hl, h => by
    rcases es with _ | ⟨e, _ | ⟨_, _⟩⟩
    · simp [embEs] at h
    · simp only [embEs, Bool.and_true] at h
      simp only [tsts]
      exact pts_one (snd a g h).2.1
    · simp [embEs] at h
  | a :: b :: l, M, X, k, Wx, es, g, hl, h => by
    rcases es with _ | ⟨e, _ | ⟨_, _⟩⟩
    · simp [embEs] at h
    · simp [embEs] at h
    · exact absurd hl (by simp)
theorem sndi : ∀ (ik : IK) (ia : List E) {M : Pr} {X : Cx} {k : Nat} {Wx : WX} {tg e : Expr}, Good X S k Wx M Γ fa → embI M.toPs X.N X.env.scope ik ia e = true → (isTupE tg || !ik.pairs) = true → PI X tg e (TIof S Wx (iOf ik (fes M Γ ia) (evs M Γ ia))) ∧ notSet e = true
  | ik, [a], M, X, k, Wx, tg, e, g, h, ht => by
    cases ik with
    | seq =>
      simp only [embI, Bool.and_eq_true] at h
      simp only [iOf, fes]
      exact ⟨mi_seq g.qx (snd a g h.2).1, h.1⟩
    | r2 => simp [embI] at h
    | zip => simp [embI] at h
    | items =>
      cases e <;> try (simp [embI] at h; done)
      rename_i fe es kws pos
      cases fe <;> try (simp [embI] at h; done)
      rcases es with _ | ⟨_, _⟩ <;> rcases kws with _ | ⟨_, _⟩ <;> try (simp [embI] at h; done)
      simp only [embI, Bool.and_eq_true, decide_eq_true_eq] at h
      obtain ⟨⟨⟨h0, h1⟩, h2⟩, h3⟩ := h
      subst h0
      simp only [iOf, fes]
      cases tg <;> try (simp [isTupE, IK.pairs] at ht; done)
      exact ⟨mi_items (snd a g h3).1 h1 h2, rfl⟩
    | r1 =>
      cases e <;> try (simp [embI] at h; done)
      rename_i fe es kws pos
      cases fe <;> try (simp [embI] at h; done)
      rcases es with _ | ⟨e1, _ | ⟨e2, es⟩⟩ <;> rcases kws with _ | ⟨_, _⟩ <;> try (simp [embI] at h; done)
      simp only [embI, Bool.and_eq_true, decide_eq_true_eq] at h
      obtain ⟨⟨⟨⟨h0, h1⟩, h2⟩, h3⟩, h4⟩ := h
      subst h1
      simp only [iOf, evs]
      exact ⟨mi_r1 (glB_is h2) (rangeOk g h0) (ma_cons (snd a g h4).1 ma_nil (noStar_cons h3).1) h3, rfl⟩
    | enum =>
      cases e <;> try (simp [embI] at h; done)
      rename_i fe es kws pos
      cases fe <;> try (simp [embI] at h; done)
      rcases es with _ | ⟨e1, _ | ⟨e2, es⟩⟩ <;> rcases kws with _ | ⟨_, _⟩ <;> try (simp [embI] at h; done)
      simp only [embI, Bool.and_eq_true, decide_eq_true_eq] at h
      obtain ⟨⟨⟨⟨h0, h1⟩, h2⟩, h3⟩, h4⟩ := h
      subst h1
      simp only [iOf, evs]
      cases tg <;> try (simp [isTupE, IK.pairs] at ht; done)
      exact ⟨mi_enum g.qx (glB_is h2) (rangeOk g h0) (ma_cons (snd a g h4).1 ma_nil (noStar_cons h3).1) h3, rfl⟩
  | ik, [a, b], M, X, k, Wx, tg, e, g, h, ht => by
    cases ik with
    | seq => simp [embI] at h
    | items => simp [embI] at h
    | r1 => simp [embI] at h
    | enum => simp [embI] at h
    | r2 =>
      cases e <;> try (simp [embI] at h; done)
      rename_i fe es kws pos
      cases fe <;> try (simp [embI] at h; done)
      rcases es with _ | ⟨e1, _ | ⟨e2, _ | ⟨e3, es⟩⟩⟩ <;> rcases kws with _ | ⟨_, _⟩ <;> try (simp [embI] at h; done)
      simp only [embI, Bool.and_eq_true, decide_eq_true_eq] at h
      obtain ⟨⟨⟨⟨⟨h0, h1⟩, h2⟩, h3⟩, h4⟩, h5⟩ := h
      subst h1
      simp only [iOf, evs]
      exact ⟨mi_r2 (glB_is h2) (rangeOk g h0) (ma_cons (snd a g h4).1 (ma_cons (snd b g h5).1 ma_nil (noStar_cons (noStar_cons (env := X.env) h3).2).1) (noStar_cons h3).1) h3, rfl⟩
    | zip =>
      cases e <;> try (simp [embI] at h; done)
      rename_i fe es kws pos
      cases fe <;> try (simp [embI] at h; done)
      rcases es with _ | ⟨e1, _ | ⟨e2, _ | ⟨e3, es⟩⟩⟩ <;> rcases kws with _ | ⟨_, _⟩ <;> try (simp [embI] at h; done)
      simp only [embI, Bool.and_eq_true, decide_eq_true_eq] at h
      obtain ⟨⟨⟨⟨⟨h0, h1⟩, h2⟩, h3⟩, h4⟩, h5⟩ := h
      subst h1
      simp only [iOf, evs]
      cases tg <;> try (simp [isTupE, IK.pairs] at ht; done)
      exact ⟨mi_zip g.qx (glB_is h2) (rangeOk g h0) (ma_cons (snd a g h4).1 (ma_cons (snd b g h5).1 ma_nil (noStar_cons (noStar_cons (env := X.env) h3).2).1) (noStar_cons h3).1) h3, rfl⟩
  | ik, [], M, X, k, Wx, tg, e, g, h, ht => by cases ik <;> simp [embI] at h
  | ik, a :: b :: d :: l, M, X, k, Wx, tg, e, g, h, ht => by cases ik <;> simp [embI] at h
end
end
end Mi

/-! Mi 14: statements, deep. -/
namespace Mi
open PySem L2

/-! ### o[i] = w -/
def putW {κ : Type} [DecidableEq κ] (ks : List κ) (l : List W) (y : κ) (z : W) : List κ × List W := if (ks.any fun k => decide (k = y)) = true then (ks, (ks.zip l).map fun p => if p.1 = y then z else p.2) else (ks ++ [y], l ++ [z])
section
variable {S : Sig} {c : C} {κ : Type} [DecidableEq κ]
theorem any_zip {α : Type} {y : κ} : ∀ {ks : List κ} {vs : List α}, ks.length = vs.length → ((ks.zip vs).any fun kv => decide (kv.1 = y)) = ks.any fun k => decide (k = y)
  | [], [], _ => rfl
  | k :: ks, v :: vs, h => by
    rw [List.zip_cons_cons, List.any_cons, List.any_cons, any_zip (by simpa using h)]
theorem putMap {y : κ} {z : W} {v : V} (q : IsW S c z v) : ∀ {ks : List κ} {l : List W} {vs : List V}, ks.length = vs.length → IsWs S c l vs → ∃ vs' : List V, ks.length = vs'.length ∧ (ks.zip vs).map (fun kv => if kv.1 = y then (kv.1, v) else kv) = ks.zip vs' ∧ IsWs S c ((ks.zip l).map fun p => if p.1 = y then z else p.2) vs'
  | [], l, vs, hl, i => ⟨[], rfl, rfl, rfl⟩
  | k :: ks, l, [], hl, i => by cases hl
  | k :: ks, l, u :: us, hl, i => by
    cases l with
    | nil => cases (show u :: us = [] from i)
    | cons x l =>
      obtain ⟨v1, r, e, ix, il⟩ := i
      cases e
      obtain ⟨vs', h1, h2, h3⟩ := putMap q (by simpa using hl : ks.length = us.length) il
      by_cases hk : k = y
      · refine ⟨v :: vs', by simp [h1], ?_, ?_⟩
        · rw [List.zip_cons_cons, List.zip_cons_cons, List.map_cons, h2, if_pos hk]
        · rw [List.zip_cons_cons, List.map_cons, if_pos hk]
          exact ⟨v, vs', rfl, q, h3⟩
      · refine ⟨u :: vs', by simp [h1], ?_, ?_⟩
        · rw [List.zip_cons_cons, List.zip_cons_cons, List.map_cons, h2, if_neg hk]
        · rw [List.zip_cons_cons, List.map_cons, if_neg hk]
          exact ⟨u, vs', rfl, ix, h3⟩
theorem putW_is {y : κ} {z : W} {v : V} (q : IsW S c z v) {ks : List κ} {l : List W} {vs : List V} (hl : ks.length = vs.length) (i : IsWs S c l vs) : ∃ vs' : List V, (putW ks l y z).1.length = vs'.length ∧ putK (ks.zip vs) y v = (putW ks l y z).1.zip vs' ∧ IsWs S c (putW ks l y z).2 vs' := by
  unfold putW putK
  rw [any_zip hl]
  by_cases ha : (ks.any fun k => decide (k = y)) = true
  · rw [if_pos ha, if_pos ha]
    exact putMap q hl i
  · rw [if_neg ha, if_neg ha]
    refine ⟨vs ++ [v], by simp [hl], ?_, i.append ⟨v, [], rfl, q, rfl⟩⟩
    rw [List.zip_append hl]
    rfl
end
/-- the object o with w at i -/
def putM : MO → D → W → Option MO
  | .lst l, .int j, w => (ixN l.length j).map fun j => .lst (l.set j w)
  | .dK ks l, k, w => if ks.length < sizeLine then (keyD k).map fun k => .dK (putW ks l k w).1 (putW ks l k w).2 else none
  | .dT ks l, .tup k, w => if ks.length < sizeLine then (keysD k).map fun k => .dT (putW ks l k w).1 (putW ks l k w).2 else none
  | _, _, _ => none
def sPut (fo fi fv : Fe) : Fs := fun env h => liftX env (fv env h) fun w h1 => liftX env (fo env h1) fun o h2 => liftX env (fi env h2) fun i h3 => match o, i with
  | .r n, .d k => match h3[n]? with
    | some m => match putM m k w with
      | some m' => .ok (.nx, env) (h3.set n m')
      | none => .no
    | none => .no
  | _, _ => .no
section
variable {X : Cx} {S : Sig} {k : Nat} {Wx : WX} {pos : Pos}
theorem ps_or2 {e : Stmt} {t t' : TS} (h : PS X e t) (h' : PS X e t') : PS X e (fun D σ H => t D σ H ∨ t' D σ H) := ⟨fun pins s σ H Q I q => q.elim (h.run pins s σ H Q I) (h'.run pins s σ H Q I)⟩
def isLstM : MO → Bool
  | .lst _ => true
  | _ => false
def isLstAt : W → Hm → Bool
  | .r n, h => match h[n]? with
    | some m => isLstM m
    | none => false
  | _, _ => false
theorem swE {e : Expr} {t : Expr} {l : Nat} {env : Env} (h : ∀ x p, t ≠ .Name x p) : swapsWith e (some t) l env = pure false := by
  cases t <;> first | (exact absurd rfl (h _ _)) | (cases e <;> rfl)
theorem aft_exX {α β : Type} {c : C} {env : En} {σ : L2.St} {e : Ex} {h : Hm} {D : Ends} {f : β → Hm → R (Fl × En)} {Qo : C → α → Hm → Hp → Prop} (ev : EnvOk S c env σ) (q : Aft S c (liftX env (.ex e h) f) (fun c' p _ H' => SPost S Wx D c' p H') (fun _ _ _ => False)) : Aft S c (.ex e h : R α) Qo (fun cls d H' => Wx cls d σ H') :=
  fun c1 H cls d x r1 ie => q c1 H x r1 σ cls d (ev.up x) ie
theorem ms_put {o i e : Expr} {p : Pos} {fo fi fv : Fe} (qx : Qx X S k Wx) (ho : PE X o (TEof S Wx fo)) (hi : PE X i (TEof S Wx fi)) (hv : PE X e (TEof S Wx fv)) (hns : noSlice i = true) (hnt : isTupE e = false) : PS X (.Assign [.Subscript o i p] e pos) (TSof S Wx (sPut fo fi fv)) := by
  have hsw : swapsWith e (some (.Subscript o i p)) pos.line X.env = pure false := by cases e <;> rfl
  have hsw2 : swapsWithSole [.Subscript o i p] e pos.line X.env = pure false := hsw
  have hw : swappedStores [.Subscript o i p] e X.env = pure none := by cases e <;> rfl
  have hu : X.A.units + 1 < cLine := hu_of qx.room
  have ha : ∀ v, assign (.Subscript o i p) X.env v = (do
      let ov ← holding [v] (eval o X.env)
      let iv ← holding [v, ov] (eval i X.env)
      standAt p
      holding [v, ov, iv] (setItem ov iv v)
      release [v, ov, iv] []) := by intro v; cases i <;> first | rfl | cases hns
  refine ps_mono (ps_or2 (ps_asg hv (pg_sub ho hi set_list ha) hsw2 hw rfl) (ps_dput hu ho hi hv hsw)) fun D σ H ⟨c, env, h, ev, r, q⟩ => ?_
  have key : ∀ (c3 : C) (h3 : Hm) (H3 : Hp) (w wo wi : W) (v x y : V), EnvOk S c3 env σ → Rel S c3 h3 H3 → IsW S c3 w v → IsW S c3 wo x → IsW S c3 wi y →
      Aft S c3 ((match wo, wi with
        | .r n, .d k => match h3[n]? with
          | some m => match putM m k w with
            | some m' => .ok (.nx, env) (h3.set n m')
            | none => .no
          | none => .no
        | _, _ => .no) : R (Fl × En)) (fun c' p _ H' => SPost S Wx D c' p H') (fun _ _ _ => False) →
      (isLstAt wo h3 = true → rSetL x y v H3 fun H4 => D.nx σ H4) ∧ (isLstAt wo h3 = false → ∃ a H4, x = .ref a ∧ DPut H3 a y v H4 ∧ D.nx σ H4) := by
    intro c3 h3 H3 w wo wi v x y ev r3 iv io ii q
    split at q
    · rename_i n k
      obtain ⟨hn, rfl⟩ := io
      split at q
      · rename_i m em
        split at q
        · rename_i m' ep
          have ism := r3.mu n m em
          have hl0 : isLstAt (.r n) h3 = isLstM m := by
            show (match h3[n]? with
              | some m => isLstM m
              | none => false) = _
            rw [em]
          rw [hl0]
          cases m with
          | ins _ _ _ => cases ep
          | dead => cases ep
          | lst l =>
            cases k <;> try (cases ep; done)
            rename_i j
            have ep : (ixN l.length j).map (fun j => MO.lst (l.set j w)) = some m' := ep
            refine ⟨fun _ => ?_, fun z => by cases z⟩
            have ii : IsD S c3.F (.int j) y := ii
            simp only [IsD] at ii
            obtain ⟨vs, e1, e2⟩ := ism
            cases ej : ixN l.length j with
            | none => rw [ej] at ep; cases ep
            | some jj =>
              rw [ej] at ep
              cases ep
              refine ⟨_, vs, j, jj, rfl, ii, e1, by rw [← e2.length]; exact ej, ?_⟩
              exact q c3 _ (Ext.refl c3) (r3.set em rfl ⟨_, upd_same, e2.set iv jj⟩) σ ev
          | dK ks l =>
            have ep : (if ks.length < sizeLine then (keyD k).map fun k => MO.dK (putW ks l k w).1 (putW ks l k w).2 else none) = some m' := ep
            refine ⟨fun z => (by cases z), fun _ => ?_⟩
            split at ep
            · rename_i hl
              cases ek : keyD k with
              | none => rw [ek] at ep; cases ep
              | some kk =>
                rw [ek] at ep
                cases ep
                obtain ⟨vs, z, e1, e2⟩ := ism
                obtain ⟨vs', p1, p2, p3⟩ := putW_is (y := kk) iv z e2
                refine ⟨_, _, rfl, .inl ⟨_, kk, e1, keyD_is ek ii, by rw [List.length_zip]; omega, rfl⟩, ?_⟩
                exact q c3 _ (Ext.refl c3) (r3.set em rfl ⟨vs', p1, by rw [upd_same, p2], p3⟩) σ ev
            · cases ep
          | dT ks l =>
            cases k <;> try (cases ep; done)
            rename_i k
            have ep : (if ks.length < sizeLine then (keysD k).map fun k => MO.dT (putW ks l k w).1 (putW ks l k w).2 else none) = some m' := ep
            refine ⟨fun z => (by cases z), fun _ => ?_⟩
            split at ep
            · rename_i hl
              cases ek : keysD k with
              | none => rw [ek] at ep; cases ep
              | some kk =>
                rw [ek] at ep
                cases ep
                have ii : IsD S c3.F (.tup k) y := ii
                simp only [IsD] at ii
                obtain ⟨b, us, rfl, e4, e5⟩ := ii
                obtain ⟨vs, z, e1, e2⟩ := ism
                obtain ⟨vs', p1, p2, p3⟩ := putW_is (y := kk) iv z e2
                refine ⟨_, _, rfl, .inr ⟨_, kk, b, e1, rfl, by rw [r3.fz _ _ e4, keysD_is ek e5], by rw [List.length_zip]; omega, rfl⟩, ?_⟩
                exact q c3 _ (Ext.refl c3) (r3.set em rfl ⟨vs', p1, by rw [upd_same, p2], p3⟩) σ ev
            · cases ep
        · exact q.elim
      · exact q.elim
    · exact q.elim
  have hq : Aft S c (liftX env (fv env h) fun w h1 => liftX env (fo env h1) fun o h2 => liftX env (fi env h2) fun i h3 => match o, i with
    | .r n, .d k => match h3[n]? with
      | some m => match putM m k w with
        | some m' => .ok (.nx, env) (h3.set n m')
        | none => .no
      | none => .no
    | _, _ => .no) _ _ := q
  cases e1 : fv env h with
  | no => rw [e1] at hq; exact hq.elim
  | ex e h1 => exact .inl ⟨c, env, h, ev, r, by rw [e1]; rw [e1] at hq; exact aft_exX ev hq⟩
  | ok w h1 =>
    rw [e1] at hq
    cases e2 : fo env h1 with
    | no => rw [show liftX env (.ok w h1) _ = liftX env (fo env h1) _ from rfl, e2] at hq; exact hq.elim
    | ex e h2 =>
      rw [show liftX env (.ok w h1) _ = liftX env (fo env h1) _ from rfl, e2] at hq
      refine .inl ⟨c, env, h, ev, r, ?_⟩
      rw [e1]
      exact fun c1 H1 x1 r1 v1 i1 => ⟨c1, env, h1, ev.up x1, r1, by rw [e2]; exact aft_exX (ev.up x1) (hq.up x1)⟩
    | ok o h2 =>
      rw [show liftX env (.ok w h1) _ = liftX env (fo env h1) _ from rfl, e2] at hq
      cases e3 : fi env h2 with
      | no => rw [show liftX env (.ok o h2) _ = liftX env (fi env h2) _ from rfl, e3] at hq; exact hq.elim
      | ex e h3 =>
        rw [show liftX env (.ok o h2) _ = liftX env (fi env h2) _ from rfl, e3] at hq
        refine .inl ⟨c, env, h, ev, r, ?_⟩
        rw [e1]
        exact fun c1 H1 x1 r1 v1 i1 => ⟨c1, env, h1, ev.up x1, r1, by
          rw [e2]
          exact fun c2 H2 x2 r2 v2 i2 => ⟨c2, env, h2, (ev.up x1).up x2, r2, by rw [e3]; exact aft_exX ((ev.up x1).up x2) ((hq.up x1).up x2)⟩⟩
      | ok i h3 =>
        rw [show liftX env (.ok o h2) _ = liftX env (fi env h2) _ from rfl, e3] at hq
        cases hd : isLstAt o h3 with
        | true =>
          refine .inl ⟨c, env, h, ev, r, ?_⟩
          rw [e1]
          exact fun c1 H1 x1 r1 v1 i1 => ⟨c1, env, h1, ev.up x1, r1, by
            rw [e2]
            exact fun c2 H2 x2 r2 v2 i2 => ⟨c2, env, h2, (ev.up x1).up x2, r2, by
              rw [e3]
              exact fun c3 H3 x3 r3 v3 i3 => (key c3 h3 H3 w o i v1 v2 v3 (((ev.up x1).up x2).up x3) r3 ((i1.mono x2).mono x3) (i2.mono x3) i3 (Aft.up (show Aft S c _ _ _ from hq) (x1.trans (x2.trans x3)))).1 hd⟩⟩
        | false =>
          refine .inr ⟨c, env, h, ev, r, ?_⟩
          rw [e1]
          exact fun c1 H1 x1 r1 v1 i1 => ⟨c1, env, h1, ev.up x1, r1, by
            rw [e2]
            exact fun c2 H2 x2 r2 v2 i2 => ⟨c2, env, h2, (ev.up x1).up x2, r2, by
              rw [e3]
              exact fun c3 H3 x3 r3 v3 i3 => (key c3 h3 H3 w o i v1 v2 v3 (((ev.up x1).up x2).up x3) r3 ((i1.mono x2).mono x3) (i2.mono x3) i3 (Aft.up (show Aft S c _ _ _ from hq) (x1.trans (x2.trans x3)))).2 hd⟩⟩
end
end Mi

/-! Mx 3: raise and try in the evaluator. -/
namespace Mi
open PySem L2 StX PySem.Spec PyProof.Rows

def sRaise (xi : Nat → Option Nat) (c : Nat) (fe : Fe) : Fs := fun env h => liftX env (fe env h) fun w h1 => match xi c with
  | some f => .ok (.xc ⟨c, [f], [w]⟩, env) h1
  | none => .no
/-- try: b / except c as i: j = i -/
def sTryK (xm : Nat → Nat → Option Bool) (f : Fs) (c i j : Nat) : Fs := fun env h => match f env h with
  | .ok (.xc e, env1) h1 => match xm e.cls c with
    | some true => match pures e.vs with
      | some ds => .ok (.nx, ((env1.set i (some (.d (.exn e.cls e.fs ds)))).set j (some (.d (.exn e.cls e.fs ds)))).set i none) h1
      | none => .no
    | some false => .ok (.xc e, env1) h1
    | none => .no
  | .ok p h1 => .ok p h1
  | .ex e h1 => .ex e h1
  | .no => .no
theorem EnvOk.unset {S : Sig} {c : C} {env : En} {σ : List (Option V)} (h : EnvOk S c env σ) {i : Nat} : EnvOk S c (env.set i none) (σ.set i none) := by
  refine ⟨by simp [h.len], fun j u e => ?_⟩
  by_cases hj : i = j
  · subst hj
    rw [List.getElem?_set] at e
    simp only [if_true] at e
    split at e <;> cases e
  · rw [List.getElem?_set_ne hj] at e ⊢
    exact h.get j u e
section
variable {X : Cx} {S : Sig} {k : Nat} {Wx : WX} {M : Pr} {Γ : Nat → Fn} {fa : Nat → Addr}
theorem ms_raise (g : Good X S k Wx M Γ fa) (hk : 1 ≤ k) {c f : Nat} {x : Str} {e : Expr} {fe : Fe} {p pos pos' : Pos} (ei : M.xi c = some f) (hc : M.gc c = x) (hg : Gl X x) (hdb : (x == ("__debug__" : Str)) = false) (he : PE X e (TEof S Wx fe)) (hs : starEach [e] X.env = (false, eval e X.env) :: starEach [] X.env) :
    PS X (.Raise (some (.Call (.Name x p) [e] [] pos)) none pos') (TSof S Wx (sRaise M.xi c fe)) := by
  obtain ⟨mk, hm⟩ := g.xi c f ei
  obtain ⟨fI, fd, ps, i1, i2, i3, i4⟩ := mk.ex
  subst hc
  have T : OexC X.K (S.ca c) := by rw [← g.qx.K]; exact mk.oex
  have hno : PySem.W.findIn X.K (.ref (S.ca c)) (M.fn f) = some none := by rw [← g.qx.K]; exact mk.no
  rw [g.qx.K] at i1 i2 i3 i4
  refine ps_mono (ps_raise g.qx.calm g.qx.tk (pmk_oex (ds := []) (dvs := []) T i1 i2 i3 (g.qx.room.mono (by omega)) i4 .nil (fun pins σ H s e s' I hx => by
    obtain ⟨_, _, _, _, _, _, _, _, _, _, _, _, z⟩ := hx
    exact z.elim) hg hm (pa_cons he pa_nil hs) hdb hs rfl)) fun D σ H ⟨c0, env, h, ev, r, q⟩ => ?_
  unfold sRaise at q
  refine ⟨c0, env, h, ev, r, (q.liftX ev).mono (Ext.refl c0) (fun c1 w h1 H1 x1 r1 q1 v i1 => ?_) fun _ _ _ q => q⟩
  rw [ei] at q1
  refine ⟨by show 1 ≤ 1000; omega, fun a na => ⟨a, S.ca c, v, rfl, T, hno, upd_same, fun dx hdx hne => ⟨rfl, dx, [(M.fn f, v)], upd_same, by rw [upd_ne hne, upd_same], ?_, ?_⟩⟩⟩
  · rw [upd_ne hne] at hdx
    exact hdx
  · rw [upd_ne hne] at hdx
    have eH : upd (del (upd (upd (upd H1 a (exo a (S.ca c) none)) dx (exd dx [(M.fn f, v)])) a (exo a (S.ca c) (some dx))) a) dx (.xd [(M.fn f, v)]) = upd H1 dx (.xd [(M.fn f, v)]) := by
      funext b
      by_cases hb : b = dx
      · rw [hb, upd_same, upd_same]
      · rw [upd_ne hb, upd_ne hb]
        by_cases ha : b = a
        · rw [ha, del_same, na]
        · rw [del_ne ha, upd_ne ha, upd_ne hb, upd_ne ha]
    rw [eH]
    have x2 : Ext c1 (c1.addF dx (.xd [(M.fn f, v)])) := Ext.addF (r1.nonF hdx)
    refine q1 _ _ x2 (r1.addF hdx) σ _ _ ((ev.up x1).up x2) ⟨rfl, dx, [v], rfl, rfl, ?_, ⟨v, [], rfl, i1.mono x2, rfl⟩⟩
    show upd c1.F dx (.xd [(M.fn f, v)]) dx = some (.xd [(S.fn f, v)])
    rw [upd_same, g.fn]
theorem ms_tryK (g : Good X S k Wx M Γ fa) (hex : X.ex = []) (hst : X.stack = X.env :: X.outer) (hf : X.env.frame = some X.env.locals) {fb : Fs} {c i j : Nat} {x n y : Str} {body : List Stmt} {np pos pos' yp mp ap : Pos} (hi : X.N[i]? = some n) (hj : X.N[j]? = some y) (hln : X.env.scope.names.lookup n = some .local) (hly : X.env.scope.names.lookup y = some .local) (hm : X.mg x = some (.ref (S.ca c))) (hg : Gl X x) (hdb : (x == ("__debug__" : Str)) = false)
    (hb : ∀ (W : WX) (pn : List (Addr × Obj)) (xe : Value → Shared → Prop), Takes (X.tr pn xe) W → PassesOwn (model X.prog X.w) X.A X.env xe → PSs (X.tr pn xe) body (TSof S W fb))
    (hd1 : (n == ("__debug__" : Str)) = false) (hd2 : (n == ("__classdict__" : Str)) = false) (hsw : ∀ a pn, swapsWith (.Name n mp) (some (.Name y yp)) ap.line (suiteK X a pn).env = pure false) :
    PS X (.Try body [.ExceptHandler (some (.Name x np)) (some n) [.Assign [.Name y yp] (.Name n mp) ap] pos'] [] [] pos) (TSof S Wx (sTryK M.exm fb c i j)) := by
  refine ps_mono (ps_try_keep (Wout := Wx) (tb := fun W => TSof S W fb) hex hst hf g.qx.nd hi hj hln hly ⟨hg, hdb, .inl hm⟩ g.qx.tk hb hd1 hd2 hsw) fun D σ H ⟨c0, env, h, ev, r, q⟩ => ⟨c0, env, h, ev, r, ?_⟩
  unfold sTryK at q
  cases e1 : fb env h with
  | no => rw [e1] at q; exact q.elim
  | ex e h1 => rw [e1] at q; exact fun c' H' cls d x1 r1 ie => (q c' H' cls d x1 r1 ie).elim
  | ok p h1 =>
    obtain ⟨fl, env1⟩ := p
    rw [e1] at q
    intro c' H' x1 r1
    cases fl with
    | nx => exact q c' H' x1 r1
    | rt w => exact q c' H' x1 r1
    | bk => exact q c' H' x1 r1
    | ct => exact q c' H' x1 r1
    | xc e =>
      have q : Aft S c0 (match M.exm e.cls c with
        | some true => match pures e.vs with
          | some ds => R.ok (Fl.nx, ((env1.set i (some (.d (.exn e.cls e.fs ds)))).set j (some (.d (.exn e.cls e.fs ds)))).set i none) h1
          | none => .no
        | some false => R.ok (Fl.xc e, env1) h1
        | none => .no) _ _ := q
      intro σ' cls d ev1 ie
      cases e2 : M.exm e.cls c with
      | none => rw [e2] at q; exact q.elim
      | some b =>
        rw [e2] at q
        obtain ⟨m1, _⟩ := g.xm _ _ _ e2
        obtain ⟨rfl, dx, vs, rfl, hl, hF, iw⟩ := ie
        refine ⟨b, by rw [← g.qx.K]; exact m1, fun hb2 a na => ?_, fun hb2 => ?_⟩
        · subst hb2
          cases e3 : pures e.vs with
          | none =>
            rw [e3] at q
            exact q.elim
          | some ds =>
            rw [e3] at q
            have x2 : Ext c' (c'.addF a (exnO a (.ref (S.ca e.cls)) (some dx))) := Ext.addF (r1.nonF na)
            have iv : IsW S (c'.addF a (exnO a (.ref (S.ca e.cls)) (some dx))) (.d (.exn e.cls e.fs ds)) (.ref a) := by
              show IsD S _ _ _
              simp only [IsD]
              exact ⟨a, dx, vs, rfl, hl, upd_same, x2.F _ _ hF, pures_is e3 (iw.mono x2)⟩
            exact q _ _ (x1.trans x2) (r1.addF na) _ ((((ev1.up x2).set iv).set iv).unset)
        · subst hb2
          exact q c' H' x1 r1 σ' _ _ ev1 ⟨rfl, dx, vs, rfl, hl, hF, iw⟩
end
end Mi

/-! Mi 15: statements are sound. -/
namespace Mi
open PySem L2

inductive Z where
  | no | pas | brk | cnt | retN
  | expr (e : E) | ret (e : E)
  | ife (t : E) (a b : List Z)
  | set (t : Tg) (e : E)
  | par2 (i j : Nat) (a b : E)
  | par3 (i j l : Nat) (a b c : E)
  | fld (o : E) (f : Nat) (e : E)
  | put (o i e : E)
  | for (t : Tg) (ik : IK) (ia : List E) (b : List Z)
  | while (n : Nat) (t : E) (b : List Z)
  | frz (i : Nat)
  | frzF (i f : Nat)
  | raise (c : Nat) (e : E)
  | tryK (b : List Z) (c i j : Nat)

def sPar2 (i j : Nat) (f : Fa) : Fs := fun env h => liftX env (f env h) fun ws h1 => match ws with
  | [a, b] => .ok (.nx, (env.set i (some a)).set j (some b)) h1
  | _ => .no
def sPar3 (i j l : Nat) (f : Fa) : Fs := fun env h => liftX env (f env h) fun ws h1 => match ws with
  | [a, b, d] => .ok (.nx, ((env.set i (some a)).set j (some b)).set l (some d)) h1
  | _ => .no
mutual
def exZ (M : Pr) (Γ : Nat → Fn) : Z → Fs
  | .no => sNo
  | .pas => sNil
  | .brk => sBrk
  | .cnt => sCnt
  | .retN => sRetN
  | .expr e => sExpr (ev M Γ e)
  | .ret e => sRet (ev M Γ e)
  | .ife t a b => sIf (tst M Γ t) (exZs M Γ a) (exZs M Γ b)
  | .set t e => sSet t (ev M Γ e)
  | .par2 i j a b => sPar2 i j (evs M Γ [a, b])
  | .par3 i j l a b c => sPar3 i j l (evs M Γ [a, b, c])
  | .fld o f e => sFld M.T f (ev M Γ o) (ev M Γ e)
  | .put o i e => sPut (ev M Γ o) (ev M Γ i) (ev M Γ e)
  | .for t ik ia b => sFor t (iOf ik (fes M Γ ia) (evs M Γ ia)) (exZs M Γ b)
  | .while n t b => sWhile n (tst M Γ t) (exZs M Γ b)
  | .frz i => sFrz i
  | .frzF i f => sFrzF i f
  | .raise c e => sRaise M.xi c (ev M Γ e)
  | .tryK b c i j => sTryK M.exm (exZs M Γ b) c i j
def exZs (M : Pr) (Γ : Nat → Fn) : List Z → Fs
  | [] => sNil
  | z :: l => sSeq (exZ M Γ z) (exZs M Γ l)
end

/-! ### the same text -/
def notComp : Expr → Bool
  | .ListComp _ _ _ _ => false
  | .SetComp _ _ _ _ => false
  | .DictComp _ _ _ _ _ => false
  | _ => true
theorem swF {e : Expr} {t : Option Expr} {l : Nat} {env : Env} (h : notComp e = true) : swapsWith e t l env = pure false := by
  cases e <;> first | (cases h; done) | rfl
def locO (sc : Scope) (x : Str) : Bool := decide (sc.names.lookup x = some .local)
/-- whether the stores go from the right -/
def parB (vs : List Expr) : Bool := noStar vs && !(vs.all (foldedForSure 8)) && !(vs.all (constantsAlone 8))
theorem noStar_any : ∀ {vs : List Expr}, noStar vs = true → (vs.any fun | .Starred .. => true | _ => false) = false
  | [], _ => rfl
  | v :: vs, h => by
    cases v <;> first
      | (cases h; done)
      | exact noStar_any (vs := vs) h
theorem par2_is {env : Env} {x y : Str} {px py : Pos} {a b : Expr} {kt k2 : Nat} {p p2 : Pos} (hk : env.scope.kind = .function) (hx : env.scope.names.lookup x = some .local) (hy : env.scope.names.lookup y = some .local) (hl : py.line = px.line) (hxy : x ≠ y) (h : parB [a, b] = true) :
    swappedStores [.Tuple [.Name x px, .Name y py] kt p] (.Tuple [a, b] k2 p2) env = pure (some [x, y]) := by
  unfold parB at h
  simp only [Bool.and_eq_true, Bool.not_eq_true'] at h
  obtain ⟨⟨h1, h2⟩, h3⟩ := h
  have hb : env.blockKind = .function := by unfold Env.blockKind; rw [hk]; rfl
  have kx : env.kindOf x = some .local := hx
  have ky : env.kindOf y = some .local := hy
  have h1 := noStar_any h1
  have e1 : (List.eraseDups [x, y]).length = 2 := by
    have : (y == x) = false := beq_eq_false_iff_ne.mpr fun z => hxy z.symm
    simp [List.eraseDups_cons, this]
  unfold swappedStores
  simp [hb, kx, ky, h2, h3, hl, e1, Expr.pos]
  simp only [List.any_cons, List.any_nil, Bool.or_false, Bool.or_eq_false_iff] at h1
  intro hh
  rcases hh with hh | hh
  · exact absurd (hh.symm.trans h1.1) (by decide)
  · exact absurd (hh.symm.trans h1.2) (by decide)
theorem par3_is {env : Env} {x y z : Str} {px py pz : Pos} {a b c : Expr} {kt k2 : Nat} {p p2 : Pos} (hk : env.scope.kind = .function) (hx : env.scope.names.lookup x = some .local) (hy : env.scope.names.lookup y = some .local) (hz : env.scope.names.lookup z = some .local) (hl : py.line = px.line) (hl2 : pz.line = px.line)
    (hxy : x ≠ y) (hxz : x ≠ z) (hyz : y ≠ z) (h : parB [a, b, c] = true) :
    swappedStores [.Tuple [.Name x px, .Name y py, .Name z pz] kt p] (.Tuple [a, b, c] k2 p2) env = pure (some [x, y, z]) := by
  unfold parB at h
  simp only [Bool.and_eq_true, Bool.not_eq_true'] at h
  obtain ⟨⟨h1, h2⟩, h3⟩ := h
  have hb : env.blockKind = .function := by unfold Env.blockKind; rw [hk]; rfl
  have kx : env.kindOf x = some .local := hx
  have ky : env.kindOf y = some .local := hy
  have kz : env.kindOf z = some .local := hz
  have h1 := noStar_any h1
  have e1 : (List.eraseDups [x, y, z]).length = 3 := by
    have n1 : (y == x) = false := beq_eq_false_iff_ne.mpr fun z => hxy z.symm
    have n2 : (z == x) = false := beq_eq_false_iff_ne.mpr fun z => hxz z.symm
    have n3 : (z == y) = false := beq_eq_false_iff_ne.mpr fun z => hyz z.symm
    simp [List.eraseDups_cons, n1, n2, n3]
  unfold swappedStores
  simp [hb, kx, ky, kz, h2, h3, hl, hl2, e1, Expr.pos]
  simp only [List.any_cons, List.any_nil, Bool.or_false, Bool.or_eq_false_iff] at h1
  intro hh
  rcases hh with hh | hh | hh
  · exact absurd (hh.symm.trans h1.1) (by decide)
  · exact absurd (hh.symm.trans h1.2.1) (by decide)
  · exact absurd (hh.symm.trans h1.2.2) (by decide)

section
variable {X : Cx} {S : Sig} {k : Nat} {Wx : WX} {pos : Pos} {fe : Fe} {fa : Fa}
theorem set_te {i : Nat} {D : Ends} {σ : L2.St} {H : Hp} : TSof S Wx (sSet (.nm i) fe) D σ H → TEof S Wx fe σ H (fun x H1 => gName i x σ H1 D.nx) := fun ⟨c, env, h, ev, r, q⟩ => ⟨c, env, h, ev, r, (q.liftX ev).mono (Ext.refl c) (fun c1 w h1 H1 x1 r1 q1 v i1 => by
    unfold bindT at q1
    split at q1
    · rename_i env' e
      split at e
      · cases e
        exact q1 c1 H1 (Ext.refl c1) r1 _ ((ev.up x1).set i1)
      · cases e
    · exact q1.elim) fun _ _ _ q => q⟩
theorem ms_par2 {i j : Nat} {x y : Str} {a b : Expr} {px py pt : Pos} {kt k2 : Nat} {pt2 : Pos} (hc : X.calm = true) (hN : X.N.Nodup) (hi : X.N[i]? = some x) (hj : X.N[j]? = some y) (hij : i ≠ j) (hk : X.env.scope.kind = .function)
    (hx : X.env.scope.names.lookup x = some .local) (hy : X.env.scope.names.lookup y = some .local) (hl : py.line = px.line) (hxy : x ≠ y) (hp : parB [a, b] = true) (ha : PA X [a, b] (TAof S Wx fa)) :
    PS X (.Assign [.Tuple [.Name x px, .Name y py] kt pt] (.Tuple [a, b] k2 pt2) pos) (TSof S Wx (sPar2 i j fa)) :=
  ps_mono (ps_par hc hN hi hj hij hx hy ha (par2_is hk hx hy hl hxy hp) rfl) fun D σ H ⟨c, env, h, ev, r, q⟩ => ⟨c, env, h, ev, r, (q.liftX ev).mono (Ext.refl c) (fun c1 ws h1 H1 x1 r1 q1 vs iw => by
    split at q1
    · obtain ⟨v, vr, rfl, iv, v2, vr2, rfl, iv2, ir⟩ := iw
      cases (show vr2 = [] from ir)
      exact ⟨v, v2, rfl, q1 c1 H1 (Ext.refl c1) r1 _ (((ev.up x1).set iv).set iv2)⟩
    · exact q1.elim) fun _ _ _ q => q⟩
theorem ms_par3 {i j l : Nat} {x y z : Str} {a b d : Expr} {px py pz pt : Pos} {kt k2 : Nat} {pt2 : Pos} (hc : X.calm = true) (hN : X.N.Nodup) (hi : X.N[i]? = some x) (hj : X.N[j]? = some y) (hl' : X.N[l]? = some z) (hij : i ≠ j) (hil : i ≠ l) (hjl : j ≠ l) (hk : X.env.scope.kind = .function)
    (hx : X.env.scope.names.lookup x = some .local) (hy : X.env.scope.names.lookup y = some .local) (hz : X.env.scope.names.lookup z = some .local) (hl : py.line = px.line) (hl2 : pz.line = px.line) (hxy : x ≠ y) (hxz : x ≠ z) (hyz : y ≠ z) (hp : parB [a, b, d] = true) (ha : PA X [a, b, d] (TAof S Wx fa)) :
    PS X (.Assign [.Tuple [.Name x px, .Name y py, .Name z pz] kt pt] (.Tuple [a, b, d] k2 pt2) pos) (TSof S Wx (sPar3 i j l fa)) :=
  ps_mono (ps_par3 hc hN hi hj hl' hij hil hjl hx hy hz ha (par3_is hk hx hy hz hl hl2 hxy hxz hyz hp) rfl) fun D σ H ⟨c, env, h, ev, r, q⟩ => ⟨c, env, h, ev, r, (q.liftX ev).mono (Ext.refl c) (fun c1 ws h1 H1 x1 r1 q1 vs iw => by
    split at q1
    · obtain ⟨v, vr, rfl, iv, v2, vr2, rfl, iv2, v3, vr3, rfl, iv3, ir⟩ := iw
      cases (show vr3 = [] from ir)
      exact ⟨v, v2, v3, rfl, q1 c1 H1 (Ext.refl c1) r1 _ ((((ev.up x1).set iv).set iv2).set iv3)⟩
    · exact q1.elim) fun _ _ _ q => q⟩
end

/-- the place of a body -/
structure GoodS (X : Cx) (S : Sig) (k : Nat) (Wx : WX) (M : Pr) (Γ : Nat → Fn) (fa : Nat → Addr) : Prop where
  g : Good X S k Wx M Γ fa
  own : PassesOwn (model X.prog X.w) X.A X.env X.xe
  fn : ∀ x, X.fn x = true
  kd : X.env.scope.kind = .function
  stk : X.stack = X.env :: X.outer
  frm : X.env.frame = some X.env.locals
  ex : X.ex = []
  k1 : 1 ≤ k
/-- name = [..] -/
def lcB (sc : Scope) (x : Str) (px : Pos) : Expr → Bool
  | .ListComp _ _ scope pos => locO sc x && decide (px.line = pos.line) && !(scope.names.any fun (n, k) => n == x && (k == .local || k == .cell))
  | _ => false
def notTup : Expr → Bool
  | .Tuple vs _ _ => false
  | _ => true
theorem swNone {t e : Expr} {env : Env} (h : notTup e = true) : swappedStores [t] e env = pure none := by
  cases e <;> first | (cases h; done) | (cases t <;> rfl)
theorem fm_le {α β : Type} (f : α → Option β) : ∀ l : List α, (l.filterMap f).length ≤ l.length
  | [] => Nat.le_refl _
  | a :: l => by
    rw [List.filterMap_cons]
    have := fm_le f l
    split
    · simp only [List.length_cons]; omega
    · simp only [List.length_cons]; omega
theorem fm_lt {α β : Type} (f : α → Option β) : ∀ {l : List α} {a : α}, a ∈ l → f a = none → (l.filterMap f).length < l.length
  | b :: l, a, h, e => by
    rw [List.filterMap_cons]
    rcases List.mem_cons.mp h with rfl | h
    · have := fm_le f l
      split
      · simp only [List.length_cons]; omega
      · rename_i q; rw [e] at q; cases q
    · have := fm_lt f h e
      split
      · simp only [List.length_cons]; omega
      · simp only [List.length_cons]; omega
/-- a name that is a cell, or no name at all -/
def cellT (sc : Scope) : List Expr → Bool
  | [.Tuple ts _ _] => ts.any fun t => match t with
    | .Name id _ => !(sc.names.lookup id == some .local)
    | _ => true
  | _ => false
theorem swCell {t e : Expr} {env : Env} (h : cellT env.scope [t] = true) : swappedStores [t] e env = pure none := by
  cases t <;> try (cases h; done)
  rename_i ts k p
  cases e <;> try rfl
  rename_i vs k2 p2
  have h : (ts.any fun t => match t with
    | .Name id _ => !(env.scope.names.lookup id == some .local)
    | _ => true) = true := h
  obtain ⟨t, ht, hc⟩ := List.any_eq_true.mp h
  unfold swappedStores
  have key : ∀ line : Nat, ((ts.filterMap fun
    | .Name id pos => if env.kindOf id == some .local && pos.line == line then some id else none
    | _ => none).length != ts.length) = true := fun line => by
    have := fm_lt (fun
      | .Name id pos => if env.kindOf id == some .local && pos.line == line then some id else none
      | _ => none : Expr → Option Str) ht (by
        cases t <;> try rfl
        rename_i id pos
        have hc : (!(env.scope.names.lookup id == some .local)) = true := hc
        have hk : env.kindOf id = env.scope.names.lookup id := rfl
        show (if env.kindOf id == some .local && pos.line == line then some id else none) = none
        rw [hk]
        have hc : (env.scope.names.lookup id == some .local) = false := by simpa using hc
        rw [hc]
        rfl)
    simp only [bne_iff_ne, ne_eq]
    omega
  dsimp only
  split
  · rfl
  · split
    · rfl
    · exact if_pos (Bool.or_eq_true_iff.mpr (.inl (key _)))
def isLcE : E → Bool
  | .lc _ _ _ _ _ _ _ => true
  | _ => false
def embSet (M : Ps) (N : List Str) (sc : Scope) (e : E) (pe : Expr) : Tg → List Expr → Bool
  | .nm i, [.Name x px] => decide (N[i]? = some x) && locB sc x && (notComp pe || (isLcE e && lcB sc x px pe)) && embE M N sc e pe
  | .tp l, [.Tuple ts k p] => (notTup pe || cellT sc [.Tuple ts k p]) && embT N sc (.tp l) (.Tuple ts k p) && embE M N sc e pe
  | _, _ => false
def embP2 (M : Ps) (N : List Str) (sc : Scope) (i j : Nat) (a b : E) : List Expr → Expr → Bool
  | [.Tuple [.Name x px, .Name y py] _ _], .Tuple [pa, pb] _ _ => decide (N[i]? = some x) && decide (N[j]? = some y) && decide (i ≠ j) && locO sc x && locO sc y && decide (py.line = px.line) && decide (x ≠ y) && parB [pa, pb] && embE M N sc a pa && embE M N sc b pb
  | _, _ => false
def embP3 (M : Ps) (N : List Str) (sc : Scope) (i j l : Nat) (a b c : E) : List Expr → Expr → Bool
  | [.Tuple [.Name x px, .Name y py, .Name z pz] _ _], .Tuple [pa, pb, pc] _ _ => decide (N[i]? = some x) && decide (N[j]? = some y) && decide (N[l]? = some z) && decide (i ≠ j) && decide (i ≠ l) && decide (j ≠ l) && locO sc x && locO sc y && locO sc z && decide (py.line = px.line) && decide (pz.line = px.line) && decide (x ≠ y) && decide (x ≠ z) && decide (y ≠ z) && parB [pa, pb, pc] && embE M N sc a pa && embE M N sc b pb && embE M N sc c pc
  | _, _ => false
def embFld (M : Ps) (N : List Str) (sc : Scope) (o : E) (f : Nat) (e : E) (pe : Expr) : List Expr → Bool
  | [.Attribute po x _] => decide (M.fn f = x) && embE M N sc o po && embE M N sc e pe
  | _ => false
def embPut (M : Ps) (N : List Str) (sc : Scope) (o i e : E) (pe : Expr) : List Expr → Bool
  | [.Subscript po pi _] => noSlice pi && !isTupE pe && embE M N sc o po && embE M N sc i pi && embE M N sc e pe
  | _ => false
def isDocE : Expr → Bool
  | .Constant (.str _) _ _ => true
  | _ => false
def isGh : Z → Bool
  | .frz _ => true
  | .frzF _ _ => true
  | _ => false
def tryB (M : Ps) (N : List Str) (sc : Scope) (c i j : Nat) : List ExceptHandler → List Stmt → List Stmt → Bool
  | [.ExceptHandler (some (.Name x _)) (some n) [.Assign [.Name y _] (.Name m _) _] _], [], [] => (M.exm c c).isSome && decide (M.gc c = x) && glB sc x && (x != "__debug__") && decide (N[i]? = some n) && decide (N[j]? = some y) && locO sc n && locO sc y && decide (m = n) && (n != "__debug__") && (n != "__classdict__")
  | _, _, _ => false
mutual
def embZ (M : Ps) (N : List Str) (sc : Scope) : Z → Stmt → Bool
  | .no, _ => true
  | .pas, .Pass _ => true
  | .pas, .Expr e _ => isDocE e
  | .brk, .Break _ => true
  | .cnt, .Continue _ => true
  | .retN, .Return none _ => true
  | .expr e, .Expr pe _ => notComp pe && embE M N sc e pe
  | .ret e, .Return (some pe) _ => embE M N sc e pe
  | .ife t a b, .If pt pa pb _ => embE M N sc t pt && embZs M N sc a pa && embZs M N sc b pb
  | .set t e, .Assign ts pe _ => embSet M N sc e pe t ts
  | .par2 i j a b, .Assign ts pe _ => embP2 M N sc i j a b ts pe
  | .par3 i j l a b c, .Assign ts pe _ => embP3 M N sc i j l a b c ts pe
  | .fld o f e, .Assign ts pe _ => embFld M N sc o f e pe ts
  | .put o i e, .Assign ts pe _ => embPut M N sc o i e pe ts
  | .for t ik ia b, .For tg it body orelse _ => orelse.isEmpty && (isTupE tg || !ik.pairs) && embT N sc t tg && embI M N sc ik ia it && embZs M N sc b body
  | .while _ t b, .While pt body orelse _ => orelse.isEmpty && embE M N sc t pt && embZs M N sc b body
  | .raise c e, .Raise (some (.Call (.Name x _) [pe] [] _)) none _ => (M.xi c).isSome && decide (M.gc c = x) && glB sc x && (x != "__debug__") && noStar [pe] && embE M N sc e pe
  | .tryK b c i j, .Try body hds orelse fin _ => tryB M N sc c i j hds orelse fin && embZs M N sc b body
  | _, _ => false
def embZs (M : Ps) (N : List Str) (sc : Scope) : List Z → List Stmt → Bool
  | [], [] => true
  | [], _ :: _ => false
  | z :: l, ss => if isGh z = true then embZs M N sc l ss else match ss with
    | s :: ss => embZ M N sc z s && embZs M N sc l ss
    | [] => false
end
section
variable {S : Sig} {M : Pr} {Γ : Nat → Fn} {fa : Nat → Addr} {X : Cx} {k : Nat} {Wx : WX}
theorem GoodS.lc (g : GoodS X S k Wx M Γ fa) {i : Nat} {x : Str} {px : Pos} {pe : Expr} {pos : Pos} {e : E} (hi : X.N[i]? = some x) (hl : locB X.env.scope x = true) (hl2 : isLcE e = true) (hb : lcB X.env.scope x px pe = true) (h : embE M.toPs X.N X.env.scope e pe = true) : PS X (.Assign [.Name x px] pe pos) (TSof S Wx (sSet (.nm i) (ev M Γ e))) := by
  cases pe <;> try (cases hb; done)
  rename_i pe gs scope p
  cases e <;> try (cases hl2; done)
  rename_i mu elt t ik ia ifs own
  rcases gs with _ | ⟨⟨ptg, pit, pifs, na⟩, _ | ⟨_, _⟩⟩ <;> try (simp [embE] at h; done)
  by_cases hna : na = 0
  · subst hna
    simp only [embE, Bool.and_eq_true, decide_eq_true_eq] at h
    obtain ⟨⟨⟨⟨⟨⟨⟨h1, h2⟩, h3⟩, h4⟩, h5⟩, h6⟩, h7⟩, h8⟩ := h
    simp only [lcB, locO, Bool.and_eq_true, decide_eq_true_eq, Bool.not_eq_true'] at hb
    obtain ⟨⟨b1, b2⟩, b3⟩ := hb
    obtain ⟨i1, i2⟩ := sndi ik ia g.g h3 h4
    have bk := blkOk_by h1
    refine ps_mono (ps_setLc g.g.qx.calm g.g.qx.nd hi b1 (sw_true g.kd b1 (by simp [b2]) b3) i1 bk (fun s H C cl fp => sndT t (X := X.blk s H scope (compEnvC scope cl C X.env) fp) (sc := scope) g.g.qx.K g.g.qx.calm g.g.qx.nd (fun x hx => ?_) h5)
      (fun s H C cl fp => sndts ifs (g.g.blk s H scope (compEnvC scope cl C X.env) fp) h6 h7) (fun s H C cl fp => (snd elt (g.g.blk s H scope (compEnvC scope cl C X.env) fp) h8).1) (fun x => by cases pit <;> first | rfl | cases i2)) fun D σ H q => ?_
    · exact blk_loc hx
    · have q1 := set_te q
      simp only [ev] at q1
      exact tlc_of (fun i hi => by have := List.all_eq_true.mp h2 i hi; simpa using this) σ H _ q1
  · simp [embE, hna] at h

theorem swSole {t e : Expr} {l : Nat} {env : Env} (h : swapsWith e (some t) l env = pure false) : swapsWithSole [t] e l env = pure false := h
theorem GoodS.st (g : GoodS X S k Wx M Γ fa) {t : Tg} {e : E} {ts : List Expr} {pe : Expr} {pos : Pos} (h : embSet M.toPs X.N X.env.scope e pe t ts = true) : PS X (.Assign ts pe pos) (TSof S Wx (sSet t (ev M Γ e))) := by
  unfold embSet at h
  split at h
  · simp only [Bool.and_eq_true, decide_eq_true_eq, Bool.or_eq_true] at h
    obtain ⟨⟨⟨h1, h2⟩, h3⟩, h4⟩ := h
    rcases h3 with h3 | ⟨h0, h3⟩
    · exact ms_set g.g.qx.nd h1 (locB_is h2) (.inl (g.fn _)) (snd e g.g h4).1 (swF h3)
    · exact g.lc h1 h2 h0 h3 h4
  · simp only [Bool.and_eq_true, Bool.or_eq_true] at h
    obtain ⟨⟨h1, h2⟩, h3⟩ := h
    have h1 := h1.elim (fun z => swNone z) fun z => swCell z
    exact ms_asg (snd e g.g h3).1 (sndT _ g.g.qx.K g.g.qx.calm g.g.qx.nd (fun x hx => ⟨locB_is hx, .inl (g.fn _)⟩) h2) (swSole (swE (fun x p hh => by cases hh))) h1 rfl
  · cases h
theorem GoodS.p2 (g : GoodS X S k Wx M Γ fa) {i j : Nat} {a b : E} {ts : List Expr} {pe : Expr} {pos : Pos} (h : embP2 M.toPs X.N X.env.scope i j a b ts pe = true) : PS X (.Assign ts pe pos) (TSof S Wx (sPar2 i j (evs M Γ [a, b]))) := by
  unfold embP2 at h
  split at h
  · simp only [Bool.and_eq_true, decide_eq_true_eq, locO] at h
    obtain ⟨⟨⟨⟨⟨⟨⟨⟨⟨h1, h2⟩, h3⟩, h4⟩, h5⟩, h6⟩, h7⟩, h8⟩, h9⟩, h10⟩ := h
    have hs := h8
    unfold parB at hs
    simp only [Bool.and_eq_true] at hs
    exact ms_par2 g.g.qx.calm g.g.qx.nd h1 h2 h3 g.kd h4 h5 h6 h7 h8 (snds [a, b] g.g hs.1.1 (by simp only [embEs, h9, h10, Bool.and_self]))
  · cases h
theorem GoodS.p3 (g : GoodS X S k Wx M Γ fa) {i j l : Nat} {a b c : E} {ts : List Expr} {pe : Expr} {pos : Pos} (h : embP3 M.toPs X.N X.env.scope i j l a b c ts pe = true) : PS X (.Assign ts pe pos) (TSof S Wx (sPar3 i j l (evs M Γ [a, b, c]))) := by
  unfold embP3 at h
  split at h
  · simp only [Bool.and_eq_true, decide_eq_true_eq, locO] at h
    obtain ⟨⟨⟨⟨⟨⟨⟨⟨⟨⟨⟨⟨⟨⟨⟨⟨⟨h1, h2⟩, h3⟩, h4⟩, h5⟩, h6⟩, h7⟩, h8⟩, h9⟩, h10⟩, h11⟩, h12⟩, h13⟩, h14⟩, h15⟩, h16⟩, h17⟩, h18⟩ := h
    have hs := h15
    unfold parB at hs
    simp only [Bool.and_eq_true] at hs
    exact ms_par3 g.g.qx.calm g.g.qx.nd h1 h2 h3 h4 h5 h6 g.kd h7 h8 h9 h10 h11 h12 h13 h14 h15 (snds [a, b, c] g.g hs.1.1 (by simp only [embEs, h16, h17, h18, Bool.and_self]))
  · cases h
theorem GoodS.fl (g : GoodS X S k Wx M Γ fa) {o e : E} {f : Nat} {ts : List Expr} {pe : Expr} {pos : Pos} (h : embFld M.toPs X.N X.env.scope o f e pe ts = true) : PS X (.Assign ts pe pos) (TSof S Wx (sFld M.T f (ev M Γ o) (ev M Γ e))) := by
  unfold embFld at h
  split at h
  · simp only [Bool.and_eq_true, decide_eq_true_eq] at h
    obtain ⟨⟨h1, h2⟩, h3⟩ := h
    subst h1
    rw [← g.g.fn]
    exact ms_fld g.g.qx.K g.g.ok (snd o g.g h2).1 (snd e g.g h3).1 (swE fun x p hh => by cases hh)
  · cases h
theorem GoodS.pu (g : GoodS X S k Wx M Γ fa) {o i e : E} {ts : List Expr} {pe : Expr} {pos : Pos} (h : embPut M.toPs X.N X.env.scope o i e pe ts = true) : PS X (.Assign ts pe pos) (TSof S Wx (sPut (ev M Γ o) (ev M Γ i) (ev M Γ e))) := by
  unfold embPut at h
  split at h
  · simp only [Bool.and_eq_true, Bool.not_eq_true'] at h
    obtain ⟨⟨⟨⟨h1, h2⟩, h3⟩, h4⟩, h5⟩ := h
    exact ms_put g.g.qx (snd o g.g h3).1 (snd i g.g h4).1 (snd e g.g h5).1 h1 h2
  · cases h
theorem GoodS.tr {X : Cx} {S : Sig} {k : Nat} {Wx W : WX} {M : Pr} {Γ : Nat → Fn} {fa : Nat → Addr} (g : GoodS X S k Wx M Γ fa) {pn : List (Addr × Obj)} {xe : Value → Shared → Prop} (tk : Takes (X.tr pn xe) W) (ow : PassesOwn (model X.prog X.w) X.A X.env xe) : GoodS (X.tr pn xe) S k W M Γ fa :=
  ⟨⟨⟨g.g.qx.K, g.g.qx.calm, g.g.qx.nd, g.g.qx.room, tk⟩, g.g.gd, g.g.fn, g.g.ok, g.g.G, g.g.gf, g.g.gc, g.g.blt, g.g.con, g.g.kn, g.g.gk, g.g.ccon, g.g.xf, g.g.xm, g.g.xi, g.g.cmo, g.g.imo, g.g.ko, g.g.lq, g.g.lam, g.g.GL, g.g.GX⟩, ow, g.fn, g.kd, g.stk, g.frm, g.ex, g.k1⟩
mutual
theorem sndZ : ∀ (z : Z) {X : Cx} {k : Nat} {Wx : WX} {st : Stmt}, GoodS X S k Wx M Γ fa → embZ M.toPs X.N X.env.scope z st = true → PS X st (TSof S Wx (exZ M Γ z))
  | .no, X, k, Wx, st, g, h => by simp only [exZ]; exact ms_no
  | .pas, X, k, Wx, st, g, h => by
    simp only [exZ]
    cases st <;> try (simp [embZ] at h; done)
    · rename_i e p
      simp only [embZ] at h
      unfold isDocE at h
      split at h
      · exact ms_doc
      · cases h
    · exact ms_pass
  | .brk, X, k, Wx, st, g, h => by
    simp only [exZ]
    cases st <;> try (simp [embZ] at h; done)
    exact ms_brk
  | .cnt, X, k, Wx, st, g, h => by
    simp only [exZ]
    cases st <;> try (simp [embZ] at h; done)
    exact ms_cnt
  | .retN, X, k, Wx, st, g, h => by
    simp only [exZ]
    cases st <;> try (simp [embZ] at h; done)
    rename_i o p
    cases o <;> try (simp [embZ] at h; done)
    exact ms_retN
  | .expr e, X, k, Wx, st, g, h => by
    cases st <;> try (simp [embZ] at h; done)
    simp only [embZ, Bool.and_eq_true] at h
    simp only [exZ]
    exact ms_expr (snd e g.g h.2).1 (swF h.1)
  | .ret e, X, k, Wx, st, g, h => by
    cases st <;> try (simp [embZ] at h; done)
    rename_i o p
    cases o <;> try (simp [embZ] at h; done)
    simp only [embZ] at h
    simp only [exZ]
    exact ms_ret (snd e g.g h).1
  | .ife t a b, X, k, Wx, st, g, h => by
    cases st <;> try (simp [embZ] at h; done)
    simp only [embZ, Bool.and_eq_true] at h
    simp only [exZ]
    exact ms_if (snd t g.g h.1.1).2.1 (sndZs a g h.1.2) (sndZs b g h.2)
  | .set t e, X, k, Wx, st, g, h => by
    cases st <;> try (simp [embZ] at h; done)
    simp only [embZ] at h
    simp only [exZ]
    exact g.st h
  | .par2 i j a b, X, k, Wx, st, g, h => by
    cases st <;> try (simp [embZ] at h; done)
    simp only [embZ] at h
    simp only [exZ]
    exact g.p2 h
  | .par3 i j l a b c, X, k, Wx, st, g, h => by
    cases st <;> try (simp [embZ] at h; done)
    simp only [embZ] at h
    simp only [exZ]
    exact g.p3 h
  | .fld o f e, X, k, Wx, st, g, h => by
    cases st <;> try (simp [embZ] at h; done)
    simp only [embZ] at h
    simp only [exZ]
    exact g.fl h
  | .put o i e, X, k, Wx, st, g, h => by
    cases st <;> try (simp [embZ] at h; done)
    simp only [embZ] at h
    simp only [exZ]
    exact g.pu h
  | .for t ik ia b, X, k, Wx, st, g, h => by
    cases st <;> try (simp [embZ] at h; done)
    rename_i tg it body orelse pos
    simp only [embZ, Bool.and_eq_true, List.isEmpty_iff] at h
    obtain ⟨⟨⟨⟨h0, h1⟩, h2⟩, h3⟩, h4⟩ := h
    subst h0
    simp only [exZ]
    obtain ⟨i1, i2⟩ := sndi ik ia g.g h3 h1
    exact ms_for g.own g.g.qx.calm i1 (sndT t g.g.qx.K g.g.qx.calm g.g.qx.nd (fun x hx => ⟨locB_is hx, .inl (g.fn _)⟩) h2) (sndZs b g h4) (fun x => by cases it <;> first | rfl | cases i2)
  | .while n t b, X, k, Wx, st, g, h => by
    cases st <;> try (simp [embZ] at h; done)
    rename_i pt body orelse pos
    simp only [embZ, Bool.and_eq_true, List.isEmpty_iff] at h
    obtain ⟨⟨h0, h1⟩, h2⟩ := h
    subst h0
    simp only [exZ]
    exact ms_while g.own (snd t g.g h1).2.1 (sndZs b g h2)
  | .raise c e, X, k, Wx, st, g, h => by
    cases st <;> try (simp [embZ] at h; done)
    rename_i ex cause pos
    rcases ex with _ | ex <;> try (simp [embZ] at h; done)
    cases ex <;> try (simp [embZ] at h; done)
    rename_i fe es kws p2
    cases fe <;> try (simp [embZ] at h; done)
    rcases es with _ | ⟨e1, _ | ⟨_, _⟩⟩ <;> rcases kws with _ | ⟨_, _⟩ <;> rcases cause with _ | _ <;> try (simp [embZ] at h; done)
    simp only [embZ, Bool.and_eq_true, decide_eq_true_eq] at h
    obtain ⟨⟨⟨⟨⟨h1, h2⟩, h3⟩, h4⟩, h5⟩, h6⟩ := h
    simp only [exZ]
    obtain ⟨f, ef⟩ := Option.isSome_iff_exists.mp h1
    exact ms_raise g.g g.k1 ef h2 (glB_is h3) (bne_is h4) (snd e g.g h6).1 (noStar_cons h5).1
  | .tryK b c i j, X, k, Wx, st, g, h => by
    cases st <;> try (simp [embZ] at h; done)
    rename_i body hds orelse fin pos
    simp only [embZ, Bool.and_eq_true] at h
    obtain ⟨h1, h2⟩ := h
    simp only [exZ]
    unfold tryB at h1
    split at h1
    · simp only [locO, Bool.and_eq_true, decide_eq_true_eq] at h1
      obtain ⟨⟨⟨⟨⟨⟨⟨⟨⟨⟨a1, a2⟩, a3⟩, a4⟩, a5⟩, a6⟩, a7⟩, a8⟩, a9⟩, a10⟩, a11⟩ := h1
      obtain ⟨bb, eb⟩ := Option.isSome_iff_exists.mp a1
      have hm := (g.g.xm _ _ _ eb).2
      subst a9
      rw [a2] at hm
      exact ms_tryK g.g g.ex g.stk g.frm a5 a6 a7 a8 hm (glB_is a3) (bne_is a4) (fun W pn xe tk ow => sndZs b (g.tr tk ow) h2) (bne_is a10) (bne_is a11) (fun a pn => swF rfl)
    · cases h1
  | .frz i, X, k, Wx, st, g, h => by simp [embZ] at h
  | .frzF i f, X, k, Wx, st, g, h => by simp [embZ] at h
theorem sndZs : ∀ (l : List Z) {X : Cx} {k : Nat} {Wx : WX} {ss : List Stmt}, GoodS X S k Wx M Γ fa → embZs M.toPs X.N X.env.scope l ss = true → PSs X ss (TSof S Wx (exZs M Γ l))
  | [], X, k, Wx, ss, g, h => by
    cases ss <;> try (simp [embZs] at h; done)
    simp only [exZs]
    exact ms_nil
  | z :: l, X, k, Wx, ss, g, h => by
    simp only [embZs] at h
    simp only [exZs]
    by_cases hg : isGh z = true
    · rw [if_pos hg] at h
      have ih := sndZs l g h
      cases z <;> first
        | (cases hg; done)
        | (simp only [exZ]; exact mss_ghost (fun _ _ _ _ => frz_nx) ghost_frz ih)
        | (simp only [exZ]; exact mss_ghost (fun _ _ _ _ => frzF_nx) ghost_frzF ih)
    · rw [if_neg hg] at h
      cases ss with
      | nil => cases h
      | cons st ss =>
        simp only [Bool.and_eq_true] at h
        exact ms_cons (sndZ z g h.1) (sndZs l g h.2)
end
end
end Mi

/-! Mi 16: a program of defs, level by level; the law's head. -/
namespace Mi
open PySem L2 StX PySem.Spec PyProof.Rows

/-- a def, deep -/
structure Df where
  N : List Str
  ps : List Str
  iso : Bool
  bind : List W → List (Str × W) → Option (List W)
  body : List Z
  /-- lambdas are made here -/
  lam : Bool := false
/-- no lambdas in here -/
abbrev Ps.nl (M : Ps) : Ps := { M with lmB := fun _ _ _ _ => false }
abbrev Pr.nl (M : Pr) : Pr := { M with toPs := M.toPs.nl, lamOn := false }
/-- the functions and the lambdas, callable so many calls deep -/
def lvls (M : Pr) (ds : Nat → Option Df) : Nat → (Nat → Fn) × (Nat → List W → Hm → R W)
  | 0 => (fun _ _ _ _ => .no, fun _ _ _ => .no)
  | j + 1 => (fun i => match ds i with
    | some d => if d.iso = true then isoFn (defFn d.bind d.N.length (exZs { M with la := (lvls M ds j).2, lamOn := d.lam } (lvls M ds j).1 d.body)) else defFn d.bind d.N.length (exZs { M with la := (lvls M ds j).2, lamOn := d.lam } (lvls M ds j).1 d.body)
    | none => fun _ _ _ => .no, fun kl => match M.lmE kl with
    | some e => fun ws h => ev (Pr.nl { M with la := (lvls M ds j).2 }) (lvls M ds j).1 e (ws.map some) h
    | none => fun _ _ => .no)
def lvl (M : Pr) (ds : Nat → Option Df) (j : Nat) : Nat → Fn := (lvls M ds j).1
def lamF (M : Pr) (ds : Nat → Option Df) (j : Nat) : Nat → List W → Hm → R W := (lvls M ds j).2
/-- what the bodies at a level see -/
abbrev Pr.at (M : Pr) (ds : Nat → Option Df) (j : Nat) (on : Bool) : Pr := { M with la := lamF M ds j, lamOn := on }
/-- the def as the top has made it -/
structure DfAt (P : Program) (w : World) (mg : Str → Option Value) (base : Heap) (S : Sig) (M : Pr) (f : Addr) (d : Df) : Prop where
  ex : ∃ (name qual : Str) (params : Arguments) (pbody : List Stmt) (scope : Scope) (dV kV doc pm cdv ct oc : Value) (an od : Option Addr) (osl : Array (Option Value)),
    S.K.lookup f = some ⟨oc, od, .func (PySem.W.fnOf name qual params pbody scope dV kV doc pm an cdv ct), osl⟩ ∧ PySem.W.codeIn S.K cdv qual = true ∧ FnScope d.N d.ps scope ∧ scope.kind = .function ∧
    BndOk P w mg base S (PySem.W.fnOf name qual params pbody scope dV kV doc pm an cdv ct) d.ps d.bind ∧ embZs M.toPs d.N scope d.body pbody = true ∧
    (d.lam = true → ∃ c Pt, cdv = .ref c ∧ LamX.TabB base mg c Pt ∧ (Pt, (qual ++ ".<locals>.") ++ "<lambda>") ∈ S.tb ∧ ∀ p ∈ S.tb, p.1 = Pt → p.2 = (qual ++ ".<locals>.") ++ "<lambda>")
/-- what is known of the module's names -/
structure Nms (mg : Str → Option Value) (S : Sig) (M : Pr) (fa : Nat → Addr) : Prop where
  fn : S.fn = M.fn
  ok : TabOk S M.T fa
  gf : ∀ f, f < M.nf → mg (M.gf f) = some (.ref (fa f)) ∧ PySem.W.keepIn S.K (.ref (fa f)) = true
  gc : ∀ c f, M.T.init c = some f → mg (M.gc c) = some (.ref (S.ca c))
  blt : ∀ x ∈ M.blt, mg x = none
  con : ∀ x d, M.con x = some d → ∃ v u, mg x = some u ∧ RelV v u ∧ ∀ F, IsD S F d v
  kn : KnOk S M.kn fa
  gk : ∀ c, M.T.isC c = true → mg (M.gc c) = some (.ref (S.ca c))
  ccon : ∀ c m d, M.ccon c m = some d → mg (M.gc c) = some (.ref (S.ca c)) ∧ ∃ mc v u, ClX.CRead S.K (S.ca c) mc ∧ ClX.CVal S.K (S.ca c) mc (M.fn m) v u ∧ ∀ F, IsD S F d v
  xf : ∀ c f, M.xf c f = true → XfC S.K (S.ca c) ∧ PySem.W.findIn S.K (.ref (S.ca c)) (M.fn f) = some none
  xm : ∀ c c' b, M.exm c c' = some b → PySem.W.exmOne S.K (.ref (S.ca c)) (.ref (S.ca c')) = some b ∧ mg (M.gc c') = some (.ref (S.ca c'))
  xi : ∀ c f, M.xi c = some f → (∀ P w base, MkX1 P w mg base S.K (S.ca c) (M.fn f)) ∧ mg (M.gc c) = some (.ref (S.ca c))
  cmo : ∀ c m q, M.cm c m = some q → ClM S.K fa (S.ca c) (M.fn m) q ∧ mg (M.gc c) = some (.ref (S.ca c))
  imo : ∀ c m q, M.im c m = some q → InM S.K fa (S.ca c) (M.fn m) q
  lam : ∀ kl q params sc body, M.lmB kl params sc body = true → S.lam kl ⟨q, params, body, sc, M.lmN kl⟩ ∧ ∀ env, defaultsOf params env = ([], [])
  lamx : ∀ kl L, S.lam kl L → LamOk L ∧ ∃ e, M.lmE kl = some e ∧ embE M.toPs.nl L.N L.scope e L.body = true
theorem TabOk.ext {S : Sig} {T : Tab} {fa : Nat → Addr} {ko : Addr → Option Obj} {cd : Addr → Option Str} (h : TabOk S T fa) (hk : ∀ a o, S.ko a = some o → ko a = some o) (hc : ∀ a q, S.cd a = some q → cd a = some q) : TabOk (S.ext ko cd) T fa :=
  ⟨h.cls, h.fld, h.meth, h.prop, fun c m d e => by
    obtain ⟨v, u, a1, a2⟩ := h.con c m d e
    exact ⟨v, u, a1, fun F => (a2 F).ext hk hc⟩, h.init⟩
theorem KnOk.ext {S : Sig} {N : Kn} {fa : Nat → Addr} {ko : Addr → Option Obj} {cd : Addr → Option Str} (h : KnOk S N fa) : KnOk (S.ext ko cd) N fa :=
  ⟨fun t u b e => by
    have q := h.isi t u b e
    cases t <;> cases u <;> exact q, h.ins, h.eqm, fun k t e => by
    have q := h.nf k t e
    cases t <;> exact q, h.lenm⟩
theorem lvl_ok {P : Program} {w : World} {mg : Str → Option Value} {base0 : Heap} {S : Sig} {M : Pr} {fa : Nat → Addr} {ds : Nat → Option Df} (nm : Nms mg S M fa)
    (hd : ∀ (base : Heap) (ko : Addr → Option Obj) (cd : Addr → Option Str), (∀ b o, base0.get? b = some o → base.get? b = some o) → ∀ i d, ds i = some d → DfAt P w mg base (S.ext ko cd) M (fa i) d) :
    ∀ (j : Nat) (base : Heap) (ko : Addr → Option Obj) (cd : Addr → Option Str), (∀ b o, base0.get? b = some o → base.get? b = some o) → (∀ a o, S.ko a = some o → ko a = some o) → (∀ a q, S.cd a = some q → cd a = some q) → (∀ a o, ko a = some o → base.get? a = some o) →
      (∀ i, Calls P w mg base (S.ext ko cd) (2 * j + 2) (fa i) (lvl M ds j i)) ∧ ∀ kl L, S.lam kl L → LamCalls P w mg base (S.ext ko cd) (2 * j + 2) L (lamF M ds j kl)
  | 0, base, ko, cd, hb, hk, hc, hkb => ⟨fun i => ⟨fun A outer s H us kw c h ws vs kws kvs Q E hr gd e0 iw rv e1 iw2 r2 r q => q.elim⟩, fun kl L hl => ⟨fun A outer s H f c' pm ctv cells c h ws vs Q E hr gd e0 kf kc ca iw r q => q.elim⟩⟩
  | j + 1, base, ko, cd, hb, hk, hc, hkb => by
    have ih := lvl_ok nm hd j
    have good : ∀ (X : Cx) (Wx : WX) (on : Bool), X.prog = P → X.w = w → X.mg = mg → X.base = base → Qx X (S.ext ko cd) (2 * j + 3) Wx → X.A.guards = some [] →
        (on = true → (∀ y, X.fn y = true) ∧ ∃ c P, X.env.code = .ref c ∧ LamX.TabB X.base X.mg c P ∧ (P, X.env.qual ++ "<lambda>") ∈ S.tb ∧ ∀ p ∈ S.tb, p.1 = P → p.2 = X.env.qual ++ "<lambda>") →
        Good X (S.ext ko cd) (2 * j + 2) Wx (M.at ds j on) (lvl M ds j) fa := fun X Wx on x1 x2 x3 x4 x7 x8 lq =>
      ⟨x7, x8, nm.fn, nm.ok.ext hk hc, fun g => by rw [x1, x2, x3, x4]; exact (ih base ko cd hb hk hc hkb).1 g, fun f hf => by rw [x3, ← x7.K]; exact nm.gf f hf, fun c f hf => by rw [x3]; exact nm.gc c f hf, fun x hx => by rw [x3]; exact nm.blt x hx,
        fun x d hx => by
          obtain ⟨v, u, a1, a2, a3⟩ := nm.con x d hx
          rw [x3]; exact ⟨v, u, a1, a2, fun F => (a3 F).ext hk hc⟩, nm.kn.ext, fun c hc => by rw [x3]; exact nm.gk c hc,
        fun c m d hx => by
          obtain ⟨a0, mc, v, u, a1, a2, a3⟩ := nm.ccon c m d hx
          rw [x3]; exact ⟨a0, mc, v, u, a1, a2, fun F => (a3 F).ext hk hc⟩, nm.xf, fun c c' b hc => by rw [x3]; exact nm.xm c c' b hc, fun c f hc => by rw [x1, x2, x3, x4]; exact ⟨(nm.xi c f hc).1 _ _ _, (nm.xi c f hc).2⟩,
        fun c m q e => by rw [x3]; exact nm.cmo c m q e, nm.imo,
        fun a o e => by rw [x4]; exact hkb a o e, lq, nm.lam, fun kl L hl => by rw [x1, x2, x3, x4]; exact (ih base ko cd hb hk hc hkb).2 kl L hl,
        fun ko2 cd2 base2 a1 a2 a3 a4 g => by
          rw [x1, x2, x3]
          rw [x4] at a3
          exact (ih base2 ko2 cd2 (fun b o e => a3 b o (hb b o e)) (fun a o e => a1 a o (hk a o e)) (fun a q e => a2 a q (hc a q e)) a4).1 g⟩
    refine ⟨fun i => ?_, fun kl L hl => ?_⟩
    · have stuck : Calls P w mg base (S.ext ko cd) (2 * (j + 1) + 2) (fa i) (fun _ _ _ => .no) := ⟨fun A outer s H us kw c h ws vs kws kvs Q E hr gd e0 iw rv e1 iw2 r2 r q => q.elim⟩
      show Calls P w mg base (S.ext ko cd) (2 * (j + 1) + 2) (fa i) (match ds i with
        | some d => if d.iso = true then isoFn (defFn d.bind d.N.length (exZs (M.at ds j d.lam) (lvl M ds j) d.body)) else defFn d.bind d.N.length (exZs (M.at ds j d.lam) (lvl M ds j) d.body)
        | none => fun _ _ _ => .no)
      cases e : ds i with
      | none => exact stuck
      | some d =>
        obtain ⟨name, qual, params, pbody, scope, dV, kV, doc, pm, cdv, ct, oc, an, od, osl, h1, h2, h3, h4, h5, h6, h7⟩ := (hd base ko cd hb i d e).ex
        have key : Calls P w mg base (S.ext ko cd) (2 * j + 3 + 1) (fa i) (defFn d.bind d.N.length (exZs (M.at ds j d.lam) (lvl M ds j) d.body)) := by
          refine calls_def h1 h2 h3 h5 fun X Wx dx xc xq => ?_
          obtain ⟨x1, x2, x3, x4, x5, x6, x7, x8, x9, x10, x11, x12, x13⟩ := dx
          have g := good X Wx d.lam x1 x2 x3 x4 x7 x8 fun ho => by
            obtain ⟨c, Pt, a1, a2, a3, a4⟩ := h7 ho
            exact ⟨x12, c, Pt, by rw [xc, a1], by rw [x3, x4]; exact a2, by rw [xq]; exact a3, by rw [xq]; exact a4⟩
          refine sndZs d.body ⟨g, x9, x12, by rw [x6]; exact h4, x10, x11, x13, by omega⟩ ?_
          rw [x5, x6]
          exact h6
        show Calls P w mg base (S.ext ko cd) (2 * j + 3 + 1) (fa i) (if d.iso = true then _ else _)
        by_cases hi : d.iso = true
        · rw [if_pos hi]; exact calls_iso key
        · rw [if_neg hi]; exact key
    · obtain ⟨lo, e, e1, e2⟩ := nm.lamx kl L hl
      show LamCalls P w mg base (S.ext ko cd) (2 * j + 3 + 1) L (match M.lmE kl with
        | some e => fun ws h => ev (M.at ds j false).nl (lvl M ds j) e (ws.map some) h
        | none => fun _ _ => .no)
      rw [e1]
      refine lamCalls lo hkb fun cells f c' A outer s H E hr gd tk => ?_
      have g := good (lamX P w (S.ext ko cd).K mg base L cells f c' A outer s H E) (fun cls d _ H' => E cls d H') false rfl rfl rfl rfl ⟨rfl, rfl, lo.nd, hr, tk⟩ gd fun z => by cases z
      have g' : Good (lamX P w (S.ext ko cd).K mg base L cells f c' A outer s H E) (S.ext ko cd) (2 * j + 2) (fun cls d _ H' => E cls d H') (M.at ds j false).nl (lvl M ds j) fa :=
        ⟨g.qx, g.gd, g.fn, g.ok, g.G, g.gf, g.gc, g.blt, g.con, g.kn, g.gk, g.ccon, g.xf, g.xm, g.xi, g.cmo, g.imo, g.ko, fun z => (by cases z), fun kl q params sc body z => (by cases z), g.GL, g.GX⟩
      exact (snd e g' e2).1

/-! ### the law's head, over a callable -/
section
variable {P : Program} {w : World} {K : PySem.W.Frag} {mg mb : Str → Option Value} {k : Nat} {fa a : Addr} {s₁ : Shared} {vs : List Value} {ns : List Int}
theorem scr_is {S : Sig} {H : Hp} {a : Addr} {ns : List Int} (h : SqL S.K H a (ns.map V.int)) : IsD S H (.scr (ns.map .int)) (.ref a) := by
  simp only [IsD]
  refine ⟨a, _, rfl, h, ?_⟩
  induction ns with
  | nil => simp [IsDs]
  | cons n l ih =>
    simp only [List.map_cons, IsDs, IsD]
    refine ⟨_, _, rfl, rfl, ?_⟩
    have go : ∀ l : List Int, IsDs S H (l.map D.int) (l.map V.int) := by
      intro l
      induction l with
      | nil => simp [IsDs]
      | cons n l ih => simp only [List.map_cons, IsDs, IsD]; exact ⟨_, _, rfl, rfl, ih⟩
    exact go l
/-- from an abstract heap that tracks the script alone, frozen -/
theorem law_at {S : Sig} (hSK : S.K = K) (hT : S.tb = [] ∧ ∀ a, S.cd a = none) (KX : K.In s₁.heap) (hns : s₁.heap.Ns mainGlobals mg) (hb : s₁.heap.Ns builtinsNs mb) (hbb : ∀ x : Str, x ≠ "__name__" → mb x = bootBuiltins x) (hlim : s₁.heap.NoLimit) (hg : s₁.gens = #[])
    (ha : s₁.heap.get? a = some { cls := .type "list", data := .seq vs.toArray }) (hr : Room k callerA) {g : Fn} (G : ∀ base : Heap, K.In base → base.Ns mainGlobals mg → Calls P w mg base S k fa g)
    (hgo : ∃ h', g [.d (.scr (ns.map .int))] [] [] = .ok (.d (.bl true)) h') {H : Hp} (sq : SqL K H a (ns.map V.int)) (hok : HOk P w H s₁.heap) (alone : ∀ b u, H b = some u → b = a ∧ K.lookup a = none ∧ ∃ ob xs, u = .frz ob (.lst xs)) :
    codeAny (model P w) callerA (.call (.ref fa) ⟨[.ref a], []⟩) (fun r s' => r = .ok (.ret (.bool true)) ∧ OldK s₁.heap s'.heap ∧ s'.os = s₁.os ∧ AllBare s'.gens) s₁ := by
  have untracked : ∀ {b : Addr} {o : Obj}, s₁.heap.get? b = some o → (b = a → K.lookup a = none → False) → (hidT s₁.heap H).get? b = some o := fun {b o} e hne => hidT_get e (by
    cases q : H b with
    | none => rfl
    | some u =>
      obtain ⟨z1, z2, _⟩ := alone b u q
      exact (hne z1 z2).elim)
  have dicts : ∀ {b : Addr} {o : Obj} {es : Array DictEntry} {ep : Nat}, s₁.heap.get? b = some o → o.data = .dict es ep → (hidT s₁.heap H).get? b = some o := fun {b o es ep} e d => untracked e fun z _ => by
    rw [z, ha] at e
    cases e
    cases d
  have spaces : ∀ {b : Addr} {m : Str → Option Value}, s₁.heap.Ns b m → (hidT s₁.heap H).Ns b m := fun ⟨o, es, ep, e, d, q⟩ => ⟨o, es, ep, dicts e d, d, q⟩
  have inK : K.In (hidT s₁.heap H) := fun b o e => untracked (KX b o e) fun z1 z2 => by
    rw [z1, z2] at e
    cases e
  obtain ⟨mc, l1, l2⟩ := hlim
  have place : Env0 P w S.K mg (hidT s₁.heap H) callerA [] s₁ H := ⟨rfl, by rw [hSK]; exact ⟨inK, spaces hns, ⟨mb, spaces hb, hbb⟩, ⟨mc, spaces l1, l2⟩⟩, fun b o e => of_hidT e, Nat.le_of_eq (hidT_size _ _), trivial, fun b hb => (nomatch hb), hok, .of_eq hg⟩
  obtain ⟨h', hgo⟩ := hgo
  have rel : Rel S ⟨fun _ => 0, H, 0, fun _ => none⟩ [] H := ⟨rfl, fun _ _ e => e, fun n o e => (nomatch e), fun n o e => (nomatch e), fun m n o u e => (nomatch e), fun _ _ e => (nomatch e), fun _ _ e => (nomatch e), fun n o e => (nomatch e), fun _ _ e => (nomatch e), ⟨fun p hp => (by rw [hT.1] at hp; cases hp), fun a q e => (by rw [hT.2] at e; cases e)⟩, ⟨fun a ps z => (by obtain ⟨_, _, ob, xs, e⟩ := alone a _ z; cases e), fun a ps z => (nomatch z)⟩⟩
  have run := (G _ inK (spaces hns)).run callerA [] s₁ H [.ref a] [] ⟨fun _ => 0, H, 0, fun _ => none⟩ [] [.d (.scr (ns.map .int))] [.ref a] [] [] (fun v _ => v = .bl true) (fun _ _ _ => False) hr rfl place
    ⟨_, [], rfl, scr_is (S := S) (by rw [hSK]; exact sq), rfl⟩ (.cons rfl .nil) rfl rfl .nil rel (by rw [hgo]; exact fun c1 H1 x1 r1 v iv => isW_bl iv)
  refine codeAny_mono run fun r s' hq => ?_
  cases r with
  | error e => obtain ⟨_, _, _, _, _, _, _, _, _, _, _, _, z⟩ := hq; exact z.elim
  | ok fl =>
    cases fl with
    | next => exact hq.elim
    | brk => exact hq.elim
    | cont => exact hq.elim
    | ret u =>
      obtain ⟨v, H2, q1, q2, q3, q4, q5, rfl⟩ := hq
      have eu : u = Value.bool true := q5
      refine ⟨by rw [eu], OldK.of_keep fun b o e => ?_, q1, q2⟩
      cases q : H b with
      | none => exact q3.keep b o e q (fun z => (nomatch z)) (fun z => (nomatch z))
      | some u =>
        obtain ⟨_, _, ob, xs, rfl⟩ := alone b u q
        have t1 := (hok b _ q).1
        have t2 := (q4 b _ (q3.frzs b ob _ q)).1
        rw [t1] at e
        cases e
        exact t2
/-- the law's call -/
theorem law_run {S : Sig} (hSK : S.K = K) (hT : S.tb = [] ∧ ∀ a, S.cd a = none) (KX : K.In s₁.heap) (hns : s₁.heap.Ns mainGlobals mg) (hb : s₁.heap.Ns builtinsNs mb) (hbb : ∀ x : Str, x ≠ "__name__" → mb x = bootBuiltins x) (hlim : s₁.heap.NoLimit) (hg : s₁.gens = #[])
    (ha : s₁.heap.get? a = some { cls := .type "list", data := .seq vs.toArray }) (hi : IntsAre vs ns) (hl : ns.length ≤ sizeLine) (hr : Room k callerA) {g : Fn} (G : ∀ base : Heap, K.In base → base.Ns mainGlobals mg → Calls P w mg base S k fa g)
    (hgo : ∃ h', g [.d (.scr (ns.map .int))] [] [] = .ok (.d (.bl true)) h') :
    codeAny (model P w) callerA (.call (.ref fa) ⟨[.ref a], []⟩) (fun r s' => r = .ok (.ret (.bool true)) ∧ OldK s₁.heap s'.heap ∧ s'.os = s₁.os ∧ AllBare s'.gens) s₁ := by
  have vals := vals_ints hi
  have size := hi.length
  cases hk : K.lookup a with
  | some o =>
    have e := KX a o hk
    rw [ha] at e
    cases e
    exact law_at hSK hT KX hns hb hbb hlim hg ha hr G hgo (H := fun _ => none) (.inr ⟨_, vs.toArray, _, hk, rfl, rfl, rfl, by rw [List.size_toArray, size]; exact hl, by simpa using vals⟩) (fun b u z => (nomatch z)) fun b u z => (nomatch z)
  | none =>
    have at_ : ∀ {b u}, (upd (fun _ => none) a (.frz { cls := .type "list", data := .seq vs.toArray } (.lst (ns.map V.int))) : Hp) b = some u → b = a ∧ u = .frz { cls := .type "list", data := .seq vs.toArray } (.lst (ns.map V.int)) := fun {b u} z => by
      by_cases hab : b = a
      · subst hab
        rw [upd_same] at z
        exact ⟨rfl, (Option.some.inj z).symm⟩
      · rw [upd_ne hab] at z
        cases z
    refine law_at hSK hT KX hns hb hbb hlim hg ha hr G hgo (H := upd (fun _ => none) a (.frz { cls := .type "list", data := .seq vs.toArray } (.lst (ns.map V.int)))) (.inl (.inr ⟨_, upd_same⟩)) (fun b u z => ?_) fun b u z => ?_
    · obtain ⟨rfl, rfl⟩ := at_ z
      exact ⟨ha, by rw [List.length_map]; exact hl, vs, _, vals, ha⟩
    · obtain ⟨z1, z2⟩ := at_ z
      exact ⟨z1, hk, _, _, z2⟩
end
theorem walkM {l : PySem.W.OpenLaw} {q : Program} {loose : List Str} {XP : (Str → Option Value) → Heap → Prop} {YP : World → Heap → Prop} {d : DefRec} {K : Params → PySem.W.Frag} {n : Nat} (hn : l.most = some n) (hn2 : n ≤ sizeLine) (hdf : d.params.defaults = [])
    (hY : ∀ (w : World) (h : Heap), YP w h → (K w.params).In h)
    (F : ∀ (w : World) (mg : Str → Option Value) (fa : Addr) (h : Heap), (K w.params).In h → h.Ns mainGlobals mg → mg d.name = some (.ref fa) → ∃ (S : Sig) (k : Nat) (g : Fn), (S.K = K w.params ∧ S.tb = [] ∧ ∀ a, S.cd a = none) ∧ Room k callerA ∧ (∀ base : Heap, (K w.params).In base → base.Ns mainGlobals mg → Calls l.prog w mg base S k fa g) ∧
      ∀ ns : List Int, ns.length ≤ n → (∀ z ∈ ns, Builtin.Int.intBits z ≤ 1048576) → ∃ h', g [.d (.scr (ns.map .int))] [] [] = .ok (.d (.bl true)) h') :
    PySem.W.WalkO q loose XP YP l.row.toRowW d [] (fun f vs => PySem.call f vs) := by
  refine Att.attach_callB hn hdf fun w s₀ s₁ mg mb fa o pm cd doc a vs ns G Y ho hd hcd hmg hobj hints hlen hbits hg => ?_
  obtain ⟨S, k, g, h1, h2, h3, h4⟩ := F w mg fa _ (hY w _ Y) G.T.g hmg
  exact law_run h1.1 h1.2 (hY w _ Y) G.T.g G.T.b G.T.builtins G.T.nolimit hg hobj hints (Nat.le_trans hlen hn2) h2 h3 (h4 ns hlen hbits)
end Mi

/-! Mi 17: the packs. -/
namespace Mi
open PySem L2 PySem.Spec PyProof.Rows

def pAdd : P2 := ⟨.Add, sAdd, fun X S k Wx qx => o_addA qx⟩
def pSub : P2 := ⟨.Sub, sI cT fun i j => .int (i - j), fun X S k Wx qx => o_sub⟩
def pMul : P2 := ⟨.Mult, sMul, fun X S k Wx qx => o_mulA qx⟩
def pDiv : P2 := ⟨.FloorDiv, sI cDiv fun i j => .int (i / j), fun X S k Wx qx => o_fdiv⟩
def pMod : P2 := ⟨.Mod, sI cMod fun i j => .int (i % j), fun X S k Wx qx => o_mod⟩
def pPow : P2 := ⟨.Pow, sI cPow fun i j => .int (i ^ j.toNat), fun X S k Wx qx => o_pow⟩
def sNeg : W → Hm → R W := fun x h => match x with
  | .d (.int i) => .ok (.d (.int (-i))) h
  | _ => .no
theorem o_neg {X : Cx} {S : Sig} : UnR X (unaryOp .USub) (rSu S sNeg) := by
  intro pins s σ H x v Q I rx ⟨c, h, w, r, i, q⟩
  unfold sNeg at q
  split at q
  · rename_i j
    have i : IsD S c.F (.int j) x := i
    simp only [IsD] at i
    exact un_neg pins s σ H x v Q I rx ⟨j, i, q c H (Ext.refl c) r _ isW_mkint⟩
  · exact q.elim
def pNeg : P1 := ⟨.USub, sNeg, fun X S k Wx qx => o_neg⟩
def pLt : PCm := ⟨.Lt, sI cT fun i j => .bl (decide (i < j)), fun X S k Wx qx => o_lt⟩
def pLe : PCm := ⟨.LtE, sI cT fun i j => .bl (decide (i ≤ j)), fun X S k Wx qx => o_le⟩
def pGt : PCm := ⟨.Gt, sI cT fun i j => .bl (decide (j < i)), fun X S k Wx qx => o_gt⟩
def pGe : PCm := ⟨.GtE, sI cT fun i j => .bl (decide (j ≤ i)), fun X S k Wx qx => o_ge⟩
def pIn : PCm := ⟨.In, sIn false, fun X S k Wx qx => o_in false qx⟩
def pNotIn : PCm := ⟨.NotIn, sIn true, fun X S k Wx qx => o_in true qx⟩
def pIs : PCm := ⟨.Is, sIs false, fun X S k Wx qx => o_is false⟩
def pIsNot : PCm := ⟨.IsNot, sIs true, fun X S k Wx qx => o_is true⟩
theorem boot_tupleT : bootBuiltins "tuple" = some (.type "tuple") := by decide +kernel
theorem boot_listT : bootBuiltins "list" = some (.type "list") := by decide +kernel
theorem boot_dictT : bootBuiltins "dict" = some (.type "dict") := by decide +kernel
theorem boot_max2 : bootBuiltins "max" = some (.builtin "max") := by decide +kernel
theorem boot_min2 : bootBuiltins "min" = some (.builtin "min") := by decide +kernel
theorem boot_repr2 : bootBuiltins "repr" = some (.builtin "repr") := by decide +kernel
def fTuple : PF := ⟨"tuple", .type "tuple", .inr ⟨_, rfl⟩, boot_tupleT, by decide +kernel, by decide +kernel, sTuple, fun X S k Wx qx gd => c_tuple qx⟩
def fList : PF := ⟨"list", .type "list", .inr ⟨_, rfl⟩, boot_listT, by decide +kernel, by decide +kernel, sList, fun X S k Wx qx gd => c_list qx⟩
def fDict : PF := ⟨"dict", .type "dict", .inr ⟨_, rfl⟩, boot_dictT, by decide +kernel, by decide +kernel, sDict, fun X S k Wx qx gd => c_dict qx⟩
def fMax : PF := ⟨"max", .builtin "max", .inl ⟨_, rfl⟩, boot_max2, by decide +kernel, by decide +kernel, sMM true, fun X S k Wx qx gd => c_mm true qx⟩
def fMin : PF := ⟨"min", .builtin "min", .inl ⟨_, rfl⟩, boot_min2, by decide +kernel, by decide +kernel, sMM false, fun X S k Wx qx gd => c_mm false qx⟩
def fRepr : PF := ⟨"repr", .builtin "repr", .inl ⟨_, rfl⟩, boot_repr2, by decide +kernel, by decide +kernel, sRepr, fun X S k Wx qx gd => c_repr qx gd⟩
theorem isLstAt_ty {S : Sig} {c : C} {h : Hm} {H : Hp} {w : W} {x : V} (r : Rel S c h H) (i : IsW S c w x) (e : isLstAt w h = true) : tyV S.K "list" x H := by
  cases w with
  | d _ => cases e
  | r n =>
    obtain ⟨hn, rfl⟩ := i
    have e : (match h[n]? with
      | some m => isLstM m
      | none => false) = true := e
    cases em : h[n]? with
    | none => rw [em] at e; cases e
    | some m =>
      rw [em] at e
      cases m with
      | lst l =>
        obtain ⟨vs, e1, _⟩ := r.mu n _ em
        exact .inl ⟨rfl, vs, .inl (.inl e1)⟩
      | dK _ _ => cases e
      | dT _ _ => cases e
      | ins _ _ _ => cases e
      | dead => cases e
/-- repr, of atoms too -/
def sReprA : List W → Hm → R W
  | [.d (.bl b)], h => .ok (.d (.str (if b = true then "True" else "False"))) h
  | [.d .non], h => .ok (.d (.str "None")) h
  | [.d (.int i)], h => if i.natAbs.log2 < 1920 then .ok (.d (.str (toString i))) h else .no
  | [.d (.str x)], h => if (reprText x).length ≤ sizeLine then .ok (.d (.str (reprText x))) h else .no
  | ws, h => sRepr ws h
theorem c_reprA {X : Cx} {S : Sig} {k : Nat} {Wx : WX} (qx : Qx X S k Wx) (gd : X.A.guards = some []) : CallR X (.builtin "repr") (rSs0 S sReprA) := by
  intro pins s σ H vs us Q I rv ⟨c, h, ws, r, iw, q⟩
  have str_ : ∀ x : Str, IsW S c (.d (.str x)) (.str x) := fun x => by show IsD S c.F (.str x) _; simp only [IsD]
  unfold sReprA at q
  split at q
  · obtain ⟨v, vr, rfl, iv, ir⟩ := iw
    cases (show vr = [] from ir)
    rename_i b
    have iv : IsD S c.F (.bl b) v := iv
    simp only [IsD] at iv
    subst iv
    obtain ⟨u, rfl, rx⟩ := vals1 rv
    obtain rfl : u = Value.bool b := rx
    exact PySem.P.repr_of_bool ⟨.str _, H, I.tok _, ⟨_, rfl⟩, q c H (Ext.refl c) r _ (by cases b <;> exact str_ _)⟩
  · obtain ⟨v, vr, rfl, iv, ir⟩ := iw
    cases (show vr = [] from ir)
    have iv : IsD S c.F .non v := iv
    simp only [IsD] at iv
    subst iv
    obtain ⟨u, rfl, rx⟩ := vals1 rv
    obtain rfl : u = Value.none := rx
    exact PySem.P.repr_of_none ⟨.str _, H, I.tok _, ⟨_, rfl⟩, q c H (Ext.refl c) r _ (str_ _)⟩
  · obtain ⟨v, vr, rfl, iv, ir⟩ := iw
    cases (show vr = [] from ir)
    rename_i i
    split at q
    · rename_i hz
      have iv : IsD S c.F (.int i) v := iv
      simp only [IsD] at iv
      subst iv
      obtain ⟨u, rfl, rx⟩ := vals1 rv
      obtain ⟨t, rfl⟩ := rx
      exact PySem.P.repr_of_int hz ⟨.str _, H, I.tok _, ⟨_, rfl⟩, q c H (Ext.refl c) r _ (str_ _)⟩
    · exact q.elim
  · obtain ⟨v, vr, rfl, iv, ir⟩ := iw
    cases (show vr = [] from ir)
    rename_i x
    split at q
    · rename_i hz
      have iv : IsD S c.F (.str x) v := iv
      simp only [IsD] at iv
      subst iv
      obtain ⟨u, rfl, rx⟩ := vals1 rv
      obtain ⟨t, rfl⟩ := rx
      exact PySem.P.repr_of_str ⟨.str _, H, I.tok _, ⟨_, rfl⟩, q c H (Ext.refl c) r _ (str_ _)⟩ hz
    · exact q.elim
  · exact c_repr qx gd pins s σ H vs us Q I rv ⟨c, h, ws, r, iw, q⟩
def fReprA : PF := ⟨"repr", .builtin "repr", .inl ⟨_, rfl⟩, boot_repr2, by decide +kernel, by decide +kernel, sReprA, fun X S k Wx qx gd => c_reprA qx gd⟩
def mAppend : PM := ⟨"append", "list", "list.append", PySem.F.plainAttrs_list, PySem.F.slot_list_append, PySem.F.type_list_append, isLstAt, sAppend, fun S c h H w x r i e => isLstAt_ty r i e, fun X S k Wx qx => m_append⟩
end Mi

/-! Mi 18: names by number, facts by lists. -/
namespace Mi
open PySem L2

def nameOf (l : List Str) (i : Nat) : Str := match l[i]? with
  | some x => x
  | none => ⟨(List.replicate (1000 + i) 35).toArray⟩
theorem nameOf_inj {l : List Str} (nd : l.Nodup) (hs : l.all (fun x => decide (x.cps.size < 1000)) = true) : ∀ i j, nameOf l i = nameOf l j → i = j := by
  intro i j e
  unfold nameOf at e
  have sz : ∀ (k : Nat) (x : Str), l[k]? = some x → x.cps.size < 1000 := fun k x h => of_decide_eq_true (List.all_eq_true.mp hs x (List.mem_of_getElem? h))
  cases hi : l[i]? with
  | none =>
    cases hj : l[j]? with
    | none =>
      rw [hi, hj] at e
      have := congrArg (fun x : Str => x.cps.size) e
      simp at this
      omega
    | some y =>
      rw [hi, hj] at e
      have q := sz j y hj
      have e : (⟨(List.replicate (1000 + i) 35).toArray⟩ : Str) = y := e
      rw [← e] at q
      simp at q
      omega
  | some x =>
    cases hj : l[j]? with
    | none =>
      rw [hi, hj] at e
      have q := sz i x hi
      have e : x = (⟨(List.replicate (1000 + j) 35).toArray⟩ : Str) := e
      rw [e] at q
      simp at q
      omega
    | some y =>
      rw [hi, hj] at e
      have e : x = y := e
      subst e
      obtain ⟨h1, g1⟩ := List.getElem?_eq_some_iff.mp hi
      obtain ⟨h2, g2⟩ := List.getElem?_eq_some_iff.mp hj
      exact (List.getElem_inj nd).mp (g1.trans g2.symm)
/-- all of a list, one by one -/
def Each {α : Type} (P : α → Prop) : List α → Prop
  | [] => True
  | x :: l => P x ∧ Each P l
theorem Each.mem {α : Type} {P : α → Prop} : ∀ {l : List α}, Each P l → ∀ x ∈ l, P x
  | [], _, x, hx => by cases hx
  | y :: l, ⟨h1, h2⟩, x, hx => by
    rcases List.mem_cons.mp hx with rfl | hx
    · exact h1
    · exact Each.mem h2 x hx
theorem lookup_mem {β : Type} : ∀ {l : List (Nat × β)} {a : Nat} {b : β}, l.lookup a = some b → (a, b) ∈ l
  | [], a, b, h => by cases h
  | (c, x) :: l, a, b, h => by
    rw [List.lookup_cons] at h
    cases e : a == c with
    | true =>
      rw [e] at h
      have e : a = c := by simpa using e
      subst e
      cases h
      exact List.mem_cons_self
    | false =>
      rw [e] at h
      exact List.mem_cons_of_mem _ (lookup_mem h)
end Mi

/-! Mi 19: the evaluator, step by step. -/
namespace Mi
open PySem L2

section
variable {α β : Type} {a : α} {h : Hm} {env : En}
theorem bind_ok {f : α → Hm → R β} : (R.ok a h).bind f = f a h := rfl
theorem bind_no {f : α → Hm → R β} : (R.no : R α).bind f = .no := rfl
theorem liftX_ok {f : α → Hm → R (Fl × En)} : liftX env (.ok a h) f = f a h := rfl
theorem asB_ok {b : Bool} : asB (.d (.bl b)) h = .ok b h := rfl
theorem noEx_ok : (R.ok a h).noEx = .ok a h := rfl
theorem end_nx : bodyEnd (.ok (.nx, env) h) = .ok (.d .non) h := rfl
theorem end_rt {w : W} : bodyEnd (.ok (.rt w, env) h) = .ok w h := rfl
theorem seq_nx {f g : Fs} {env' : En} {h' : Hm} (e : f env h = .ok (.nx, env') h') : sSeq f g env h = g env' h' := by
  show R.bind (f env h) _ = _
  rw [e]
  rfl
theorem seq_rt {f g : Fs} {env' : En} {h' : Hm} {w : W} (e : f env h = .ok (.rt w, env') h') : sSeq f g env h = .ok (.rt w, env') h' := by
  show R.bind (f env h) _ = _
  rw [e]
  rfl
theorem var_ok {i : Nat} {w : W} (e : env[i]? = some (some w)) : vVar i env h = .ok w h := by
  unfold vVar
  rw [e]
/-- a for: by an invariant over the values still to come -/
theorem forL_inv {t : Tg} {f : Fs} (I : List W → En → Hm → Prop) : ∀ (ws : List W) (env : En) (h : Hm), I ws env h →
    (∀ w ws env h, I (w :: ws) env h → ∃ env1, bindT t w env = some env1 ∧ ∃ env2 h2, (f env1 h = .ok (.nx, env2) h2 ∨ f env1 h = .ok (.ct, env2) h2) ∧ I ws env2 h2) → ∃ env2 h2, forL t f ws env h = .ok (.nx, env2) h2 ∧ I [] env2 h2
  | [], env, h, i, _ => ⟨env, h, rfl, i⟩
  | w :: ws, env, h, i, k => by
    obtain ⟨env1, e1, env2, h2, e2, i2⟩ := k w ws env h i
    obtain ⟨env3, h3, e3, i3⟩ := forL_inv I ws env2 h2 i2 k
    refine ⟨env3, h3, ?_, i3⟩
    unfold forL
    rw [e1]
    show R.bind (f env1 h) _ = _
    rcases e2 with e2 | e2
    · rw [e2]; exact e3
    · rw [e2]; exact e3
/-- a list comprehension without a filter -/
theorem lcL_map {t : Tg} {fe : Fe} {tt : Ft} (ht : ∀ env h, tt env h = .ok true h) (I : List W → List W → Hm → Prop) : ∀ (ws : List W) (env : En) (h : Hm) (acc : List W), I ws acc h →
    (∀ w ws acc h, I (w :: ws) acc h → ∃ env1, bindT t w env = some env1 ∧ ∃ x h2, fe env1 h = .ok x h2 ∧ I ws (acc ++ [x]) h2) → ∃ xs h2, lcL t tt fe env ws h = .ok xs h2 ∧ I [] (acc ++ xs) h2
  | [], env, h, acc, i, _ => ⟨[], h, rfl, by rw [List.append_nil]; exact i⟩
  | w :: ws, env, h, acc, i, k => by
    obtain ⟨env1, e1, x, h2, e2, i2⟩ := k w ws acc h i
    obtain ⟨xs, h3, e3, i3⟩ := lcL_map ht I ws env h2 (acc ++ [x]) i2 k
    refine ⟨x :: xs, h3, ?_, by rw [List.append_assoc] at i3; exact i3⟩
    unfold lcL
    rw [e1]
    simp only [ht, e2, e3]
/-- .. with one -/
theorem lcL_filter {t : Tg} {fe : Fe} {tt : Ft} (I : List W → List W → Hm → Prop) : ∀ (ws : List W) (env : En) (h : Hm) (acc : List W), I ws acc h →
    (∀ w ws acc h, I (w :: ws) acc h → ∃ env1, bindT t w env = some env1 ∧ ∃ b h1, tt env1 h = .ok b h1 ∧ if b = true then ∃ x h2, fe env1 h1 = .ok x h2 ∧ I ws (acc ++ [x]) h2 else I ws acc h1) → ∃ xs h2, lcL t tt fe env ws h = .ok xs h2 ∧ I [] (acc ++ xs) h2
  | [], env, h, acc, i, _ => ⟨[], h, rfl, by rw [List.append_nil]; exact i⟩
  | w :: ws, env, h, acc, i, k => by
    obtain ⟨env1, e1, b, h1, e2, i2⟩ := k w ws acc h i
    cases b with
    | false =>
      obtain ⟨xs, h3, e3, i3⟩ := lcL_filter I ws env h1 acc i2 k
      refine ⟨xs, h3, ?_, i3⟩
      unfold lcL
      rw [e1]
      simp only [e2, e3]
    | true =>
      obtain ⟨x, h2, e4, i4⟩ := i2
      obtain ⟨xs, h3, e3, i3⟩ := lcL_filter I ws env h2 (acc ++ [x]) i4 k
      refine ⟨x :: xs, h3, ?_, by rw [List.append_assoc] at i3; exact i3⟩
      unfold lcL
      rw [e1]
      simp only [e2, e4, e3]
end
/-- an isolated def by its body's run -/
theorem iso_ok {g : Fn} {ws : List W} {kws : List (Str × W)} {h h2 : Hm} {d : D} {ds ks : List D} (e1 : pures ws = some ds) (e2 : pures (kws.map (·.2)) = some ks) (e : g ws kws [] = .ok (.d d) h2) : isoFn g ws kws h = .ok (.d d) h := by
  unfold isoFn
  rw [e1, e2, e]
  rfl
theorem iso_r {g : Fn} {ws : List W} {kws : List (Str × W)} {h h2 : Hm} {w : W} {d : D} {ds ks : List D} (e1 : pures ws = some ds) (e2 : pures (kws.map (·.2)) = some ks) (e : g ws kws [] = .ok w h2) (e3 : reW 4 h2 w = some d) : isoFn g ws kws h = .ok (.d d) h := by
  unfold isoFn
  rw [e1, e2, e]
  show ((match reW 4 h2 w with
    | some d => R.ok (W.d d) h
    | none => .no) : R W) = _
  rw [e3]
theorem lvl_iso {M : Pr} {ds : Nat → Option Df} {j i : Nat} {d : Df} (e : ds i = some d) (hi : d.iso = true) : lvl M ds (j + 1) i = isoFn (defFn d.bind d.N.length (exZs (M.at ds j d.lam) (lvl M ds j) d.body)) := by
  show (match ds i with
    | some d => if d.iso = true then isoFn (defFn d.bind d.N.length (exZs (M.at ds j d.lam) (lvl M ds j) d.body)) else defFn d.bind d.N.length (exZs (M.at ds j d.lam) (lvl M ds j) d.body)
    | none => fun _ _ _ => .no) = _
  rw [e]
  exact if_pos hi
theorem lvl_no {M : Pr} {ds : Nat → Option Df} {j i : Nat} {d : Df} (e : ds i = some d) (hi : d.iso = false) : lvl M ds (j + 1) i = defFn d.bind d.N.length (exZs (M.at ds j d.lam) (lvl M ds j) d.body) := by
  show (match ds i with
    | some d => if d.iso = true then isoFn (defFn d.bind d.N.length (exZs (M.at ds j d.lam) (lvl M ds j) d.body)) else defFn d.bind d.N.length (exZs (M.at ds j d.lam) (lvl M ds j) d.body)
    | none => fun _ _ _ => .no) = _
  rw [e]
  exact if_neg (by rw [hi]; decide)
theorem lam_at {M : Pr} {ds : Nat → Option Df} {j kl : Nat} {e : E} (h : M.lmE kl = some e) (ws : List W) (hp : Hm) : lamF M ds (j + 1) kl ws hp = ev (M.at ds j false).nl (lvl M ds j) e (ws.map some) hp := by
  show (match M.lmE kl with
    | some e => fun ws h => ev (M.at ds j false).nl (lvl M ds j) e (ws.map some) h
    | none => fun _ _ => .no : List W → Hm → R W) ws hp = _
  rw [h]
end Mi

/-! Mi 20: the law's head where lambdas are made: the tables of code objects are tracked from the start. -/
namespace Mi
open PySem L2 StX PySem.Spec PyProof.Rows

/-- an empty table -/
abbrev tab0 : Obj := { cls := .none, data := .fields #[] }
/-- what is known of the tables cs at the head's heap -/
structure TbOk (K : PySem.W.Frag) (h : Heap) (cs : List (Addr × Addr)) : Prop where
  at_ : ∀ p ∈ cs, h.get? p.2 = some tab0
  nK : ∀ p ∈ cs, K.lookup p.2 = none
  hd : ∀ p ∈ cs, PySem.W.CodeHd h p.1 p.2
def BmAt (mg : Str → Option Value) (h : Heap) : Prop := ∃ (bm : Addr) (ob : Obj), mg "__builtins__" = some (.ref bm) ∧ bm ≠ builtinsNs ∧ h.get? bm = some ob ∧ ob.cls = .type "module" ∧ ob.dict = some builtinsNs ∧ ob.data = .plain
/-- what is tracked at the start: the script, the tables -/
def Hst (cs : List (Addr × Addr)) (H0 : Hp) : Hp := fun b => if b ∈ cs.map (·.2) then some (.tbl #[]) else H0 b
section
variable {P : Program} {w : World} {K : PySem.W.Frag} {mg mb : Str → Option Value} {k : Nat} {fa a : Addr} {s₁ : Shared} {vs : List Value} {ns : List Int} {cs : List (Addr × Addr)}
theorem law_atT {S : Sig} (hSK : S.K = K) (hT : (∀ p ∈ S.tb, p.1 ∈ cs.map (·.2)) ∧ ∀ b, S.cd b = none) (KX : K.In s₁.heap) (hns : s₁.heap.Ns mainGlobals mg) (hb : s₁.heap.Ns builtinsNs mb) (hbb : ∀ x : Str, x ≠ "__name__" → mb x = bootBuiltins x) (hlim : s₁.heap.NoLimit) (hg : s₁.gens = #[])
    (hbm : BmAt mg s₁.heap) (tk : TbOk K s₁.heap cs) (ha : s₁.heap.get? a = some { cls := .type "list", data := .seq vs.toArray }) (hr : Room k callerA) {g : Fn}
    (G : ∀ base : Heap, K.In base → base.Ns mainGlobals mg → (∀ p ∈ cs, LamX.TabB base mg p.1 p.2) → Calls P w mg base S k fa g)
    (hgo : ∃ h', g [.d (.scr (ns.map .int))] [] [] = .ok (.d (.bl true)) h') {H : Hp} (sq : SqL K H a (ns.map V.int)) (hok : HOk P w H s₁.heap) (alone : ∀ b u, H b = some u → b = a ∧ K.lookup a = none ∧ ∃ ob xs, u = .frz ob (.lst xs)) :
    codeAny (model P w) callerA (.call (.ref fa) ⟨[.ref a], []⟩) (fun r s' => r = .ok (.ret (.bool true)) ∧ OldK s₁.heap s'.heap ∧ s'.os = s₁.os ∧ AllBare s'.gens) s₁ := by
  have inT : ∀ {b : Addr}, b ∈ cs.map (·.2) → s₁.heap.get? b = some tab0 ∧ K.lookup b = none := fun {b} m => by
    obtain ⟨p, hp, rfl⟩ := List.mem_map.mp m
    exact ⟨tk.at_ p hp, tk.nK p hp⟩
  have aT : ¬ a ∈ cs.map (·.2) := fun m => by
    have e := (inT m).1
    rw [ha] at e
    cases e
  have st1 : ∀ {b : Addr}, b ∈ cs.map (·.2) → Hst cs H b = some (.tbl #[]) := fun m => if_pos m
  have st2 : ∀ {b : Addr}, ¬ b ∈ cs.map (·.2) → Hst cs H b = H b := fun m => if_neg m
  have hokT : HOk P w (Hst cs H) s₁.heap := fun b u e => by
    by_cases m : b ∈ cs.map (·.2)
    · rw [st1 m] at e
      cases e
      exact (inT m).1
    · rw [st2 m] at e
      obtain ⟨_, _, ob, xs, rfl⟩ := alone b u e
      exact hok b _ e
  have sees : ∀ {b : Addr} {o : Obj}, s₁.heap.get? b = some o → o ≠ tab0 → (b = a → K.lookup a = none → False) → (hidT s₁.heap (Hst cs H)).get? b = some o := fun {b o} e n0 na => hidT_get e (by
    rw [st2 fun m => n0 (Option.some.inj (e.symm.trans (inT m).1))]
    cases q : H b with
    | none => rfl
    | some u =>
      obtain ⟨z1, z2, _⟩ := alone b u q
      exact (na z1 z2).elim)
  have notA : ∀ {b : Addr} {o : Obj}, s₁.heap.get? b = some o → (∀ xs n, o.data ≠ .seq xs n) → b ≠ a := fun {b o} e hd z => by
    rw [z, ha] at e
    cases e
    exact hd _ _ rfl
  have dicts : ∀ {b : Addr} {o : Obj} {es : Array DictEntry} {ep : Nat}, s₁.heap.get? b = some o → o.data = .dict es ep → (hidT s₁.heap (Hst cs H)).get? b = some o := fun {b o es ep} e d =>
    sees e (fun z => by rw [z] at d; cases d) fun z _ => notA e (fun xs n z => by rw [d] at z; cases z) z
  have spaces : ∀ {b : Addr} {m : Str → Option Value}, s₁.heap.Ns b m → (hidT s₁.heap (Hst cs H)).Ns b m := fun ⟨o, es, ep, e, d, q⟩ => ⟨o, es, ep, dicts e d, d, q⟩
  have inK : K.In (hidT s₁.heap (Hst cs H)) := fun b o e => by
    refine hidT_get (KX b o e) ?_
    rw [st2 fun m => by rw [(inT m).2] at e; cases e]
    cases q : H b with
    | none => rfl
    | some u =>
      obtain ⟨z1, z2, _⟩ := alone b u q
      rw [z1, z2] at e
      cases e
  have tabs : ∀ p ∈ cs, LamX.TabB (hidT s₁.heap (Hst cs H)) mg p.1 p.2 := fun p hp => by
    refine ⟨?_, ?_, fun z => ?_⟩
    · obtain ⟨o, us, f1, f2, f3, f4, f5, f6, f7, e, q1, q2, q3, q⟩ := tk.hd p hp
      refine ⟨o, us, f1, f2, f3, f4, f5, f6, f7, sees e (fun z => ?_) (fun z _ => notA e (fun xs n z => by rw [q2] at z; cases z) z), q1, q2, q3, q⟩
      rw [z] at q1
      cases q1
    · obtain ⟨bm, ob, b1, b2, b3, b4, b5, b6⟩ := hbm
      refine ⟨bm, ob, b1, b2, fun z => ?_, fun z => ?_, sees b3 (fun z => by rw [z] at b6; cases b6) (fun z _ => notA b3 (fun xs n z => by rw [b6] at z; cases z) z), b4, b5, b6⟩
      · obtain ⟨o, es, ep, e, d, _⟩ := hns
        rw [z, e] at b3
        cases b3
        rw [d] at b6
        cases b6
      · have e := tk.at_ p hp
        rw [← z, b3] at e
        cases e
        cases b6
    · obtain ⟨o, es, ep, e, d, _⟩ := hns
      rw [z, tk.at_ p hp] at e
      cases e
      cases d
  obtain ⟨mc, l1, l2⟩ := hlim
  have place : Env0 P w S.K mg (hidT s₁.heap (Hst cs H)) callerA [] s₁ (Hst cs H) := ⟨rfl, by rw [hSK]; exact ⟨inK, spaces hns, ⟨mb, spaces hb, hbb⟩, ⟨mc, spaces l1, l2⟩⟩, fun b o e => of_hidT e, Nat.le_of_eq (hidT_size _ _), trivial, fun b hb => (nomatch hb), hokT, .of_eq hg⟩
  obtain ⟨h', hgo⟩ := hgo
  have noT : ∀ b ps, H b ≠ some (.tbl ps) := fun b ps z => by
    obtain ⟨_, _, ob, xs, e⟩ := alone b _ z
    cases e
  have apart : ∀ b u, H b = some u → ¬ b ∈ cs.map (·.2) := fun b u e m => by
    obtain ⟨z, _⟩ := alone b u e
    exact aT (z ▸ m)
  have amb : Amb S (Hst cs H) := ⟨fun p hp => ⟨#[], st1 (hT.1 p hp), by first | exact trivial | simp [TriplesOk] | constructor, fun pos cv hc => by first | cases hc | simp at hc⟩, fun b q e => by rw [hT.2] at e; cases e⟩
  have rel : Rel S ⟨fun _ => 0, H, 0, fun _ => none⟩ [] (Hst cs H) := ⟨rfl, fun b u e => (st2 (apart b u e)).trans e, fun n o e => (nomatch e), fun n o e => (nomatch e), fun m n o u e => (nomatch e), fun _ _ e => (nomatch e), fun _ _ e => (nomatch e), fun n o e => (nomatch e), fun _ _ e => (nomatch e), amb, ⟨noT, fun b ps z => (nomatch z)⟩⟩
  have run := (G _ inK (spaces hns) tabs).run callerA [] s₁ (Hst cs H) [.ref a] [] ⟨fun _ => 0, H, 0, fun _ => none⟩ [] [.d (.scr (ns.map .int))] [.ref a] [] [] (fun v _ => v = .bl true) (fun _ _ _ => False) hr rfl place
    ⟨_, [], rfl, scr_is (S := S) (by rw [hSK]; exact sq), rfl⟩ (.cons rfl .nil) rfl rfl .nil rel (by rw [hgo]; exact fun c1 H1 x1 r1 v iv => isW_bl iv)
  refine codeAny_mono run fun r s' hq => ?_
  cases r with
  | error e => obtain ⟨_, _, _, _, _, _, _, _, _, _, _, _, z⟩ := hq; exact z.elim
  | ok fl =>
    cases fl with
    | next => exact hq.elim
    | brk => exact hq.elim
    | cont => exact hq.elim
    | ret u =>
      obtain ⟨v, H2, q1, q2, q3, q4, q5, rfl⟩ := hq
      have eu : u = Value.bool true := q5
      have kept : ∀ b o, ¬ b ∈ cs.map (·.2) → s₁.heap.get? b = some o → s'.heap.get? b = some o := fun b o m e => by
        cases q : H b with
        | none => exact q3.keep b o e ((st2 m).trans q) (fun z => (nomatch z)) (fun z => (nomatch z))
        | some u =>
          obtain ⟨_, _, ob, xs, rfl⟩ := alone b u q
          have t1 := (hok b _ q).1
          have t2 := (q4 b _ (q3.frzs b ob _ ((st2 m).trans q))).1
          rw [t1] at e
          cases e
          exact t2
      have longer : ∀ b, b ∈ cs.map (·.2) → ∃ more : Array Value, s'.heap.get? b = some { cls := .none, data := .fields more } := fun b m => by
        obtain ⟨more, z⟩ := q3.tbls b #[] (st1 m)
        exact ⟨_, q4 b _ z⟩
      refine ⟨by rw [eu], ⟨fun b o e => ?_, fun b o e => ?_⟩, q1, q2⟩
      · by_cases m : b ∈ cs.map (·.2)
        · obtain ⟨more, z⟩ := longer b m
          obtain ⟨p, hp, rfl⟩ := List.mem_map.mp m
          rw [tk.at_ p hp] at e
          cases e
          refine .inr (.inl ⟨((tk.hd p hp).tab (tk.at_ p hp)).isCodeTable, rfl, #[], more, rfl, ?_⟩)
          rw [Array.empty_append]
          exact z
        · exact .inl (kept b o m e)
      · by_cases m : b ∈ cs.map (·.2)
        · obtain ⟨more, z⟩ := longer b m
          exact ⟨_, z⟩
        · exact ⟨o, kept b o m e⟩
theorem law_runT {S : Sig} (hSK : S.K = K) (hT : (∀ p ∈ S.tb, p.1 ∈ cs.map (·.2)) ∧ ∀ b, S.cd b = none) (KX : K.In s₁.heap) (hns : s₁.heap.Ns mainGlobals mg) (hb : s₁.heap.Ns builtinsNs mb) (hbb : ∀ x : Str, x ≠ "__name__" → mb x = bootBuiltins x) (hlim : s₁.heap.NoLimit) (hg : s₁.gens = #[])
    (hbm : BmAt mg s₁.heap) (tk : TbOk K s₁.heap cs) (ha : s₁.heap.get? a = some { cls := .type "list", data := .seq vs.toArray }) (hi : IntsAre vs ns) (hl : ns.length ≤ sizeLine) (hr : Room k callerA) {g : Fn}
    (G : ∀ base : Heap, K.In base → base.Ns mainGlobals mg → (∀ p ∈ cs, LamX.TabB base mg p.1 p.2) → Calls P w mg base S k fa g) (hgo : ∃ h', g [.d (.scr (ns.map .int))] [] [] = .ok (.d (.bl true)) h') :
    codeAny (model P w) callerA (.call (.ref fa) ⟨[.ref a], []⟩) (fun r s' => r = .ok (.ret (.bool true)) ∧ OldK s₁.heap s'.heap ∧ s'.os = s₁.os ∧ AllBare s'.gens) s₁ := by
  have vals := vals_ints hi
  have size := hi.length
  cases hk : K.lookup a with
  | some o =>
    have e := KX a o hk
    rw [ha] at e
    cases e
    exact law_atT hSK hT KX hns hb hbb hlim hg hbm tk ha hr G hgo (H := fun _ => none) (.inr ⟨_, vs.toArray, _, hk, rfl, rfl, rfl, by rw [List.size_toArray, size]; exact hl, by simpa using vals⟩) (fun b u z => (nomatch z)) fun b u z => (nomatch z)
  | none =>
    have at_ : ∀ {b u}, (upd (fun _ => none) a (.frz { cls := .type "list", data := .seq vs.toArray } (.lst (ns.map V.int))) : Hp) b = some u → b = a ∧ u = .frz { cls := .type "list", data := .seq vs.toArray } (.lst (ns.map V.int)) := fun {b u} z => by
      by_cases hab : b = a
      · subst hab
        rw [upd_same] at z
        exact ⟨rfl, (Option.some.inj z).symm⟩
      · rw [upd_ne hab] at z
        cases z
    refine law_atT hSK hT KX hns hb hbb hlim hg hbm tk ha hr G hgo (H := upd (fun _ => none) a (.frz { cls := .type "list", data := .seq vs.toArray } (.lst (ns.map V.int)))) (.inl (.inr ⟨_, upd_same⟩)) (fun b u z => ?_) fun b u z => ?_
    · obtain ⟨rfl, rfl⟩ := at_ z
      exact ⟨ha, by rw [List.length_map]; exact hl, vs, _, vals, ha⟩
    · obtain ⟨z1, z2⟩ := at_ z
      exact ⟨z1, hk, _, _, z2⟩
end
/-- the top's defs by name: code object and empty table -/
def TopTabs (q : Program) (K : PySem.W.Frag) (h : Heap) : Prop := ∀ x c P, ((recsOf q).any fun e => e.name == x) = true → PySem.W.tabIn K x = some (c, P) → PySem.W.CodeHd h c P ∧ h.get? P = some tab0
theorem walkT {l : PySem.W.OpenLaw} {q : Program} {loose : List Str} {XP : (Str → Option Value) → Heap → Prop} {YP : World → Heap → Prop} {d : DefRec} {K : Params → PySem.W.Frag} {n : Nat} (hn : l.most = some n) (hn2 : n ≤ sizeLine) (hdf : d.params.defaults = [])
    (hY : ∀ (w : World) (h : Heap), YP w h → (K w.params).In h)
    (F : ∀ (w : World) (mg : Str → Option Value) (fa : Addr) (h : Heap), (K w.params).In h → h.Ns mainGlobals mg → mg d.name = some (.ref fa) → TopTabs q (K w.params) h → ∃ (S : Sig) (k : Nat) (g : Fn) (cs : List (Addr × Addr)),
      (S.K = K w.params ∧ (∀ p ∈ S.tb, p.1 ∈ cs.map (·.2)) ∧ ∀ a, S.cd a = none) ∧ Room k callerA ∧ TbOk (K w.params) h cs ∧ (∀ base : Heap, (K w.params).In base → base.Ns mainGlobals mg → (∀ p ∈ cs, LamX.TabB base mg p.1 p.2) → Calls l.prog w mg base S k fa g) ∧
      ∀ ns : List Int, ns.length ≤ n → (∀ z ∈ ns, Builtin.Int.intBits z ≤ 1048576) → ∃ h', g [.d (.scr (ns.map .int))] [] [] = .ok (.d (.bl true)) h') :
    PySem.W.WalkO q loose XP YP l.row.toRowW d [] (fun f vs => PySem.call f vs) := by
  refine Att.attach_callB hn hdf fun w s₀ s₁ mg mb fa o pm cd doc a vs ns G Y ho hd hcd hmg hobj hints hlen hbits hg => ?_
  have KX := hY w _ Y
  have tt : TopTabs q (K w.params) s₁.heap := fun x c P hx ht => by
    cases e : (recsOf q).find? fun e => e.name == x with
    | none =>
      obtain ⟨dL, hm, hn1⟩ := List.any_eq_true.mp hx
      exact absurd hn1 (List.find?_eq_none.mp e dL hm)
    | some dr => exact PySem.W.tab_of G.T KX e ht
  obtain ⟨S, k, g, cs, h1, h2, h3, h4, h5⟩ := F w mg fa _ KX G.T.g hmg tt
  exact law_runT h1.1 h1.2 KX G.T.g G.T.b G.T.builtins G.T.nolimit hg G.T.bmain h3 hobj hints (Nat.le_trans hlen hn2) h2 h4 (h5 ns hlen hbits)
end Mi

/-! Mi 21: the lambdas of a program, by number. -/
namespace Mi
open PySem L2 StX PySem.Spec PyProof.Rows

/-- a lambda without parameters, its free names N, its body e -/
def lamTxtB (M : Ps) (e : E) (N : List Str) (params : Arguments) (sc : Scope) (body : Expr) : Bool :=
  noPar params && decide (sc.kind = .function) && !sc.isCoroutine && !sc.isGenerator && (sc.names.all fun y => !decide (y.2 = .local) && !decide (y.2 = .cell) && (!decide (y.2 = .free) || N.contains y.1)) && decide N.Nodup && embE M N sc e body
theorem noPar_is {params : Arguments} (h : noPar params = true) : params = ⟨[], [], none, [], [], none, []⟩ := by
  unfold noPar at h
  split at h
  · rfl
  · cases h
theorem lamTxt_ok {M : Ps} {e : E} {N : List Str} {params : Arguments} {sc : Scope} {body : Expr} (h : lamTxtB M e N params sc body = true) (q : Str) :
    LamOk ⟨q, params, body, sc, N⟩ ∧ (∀ env, defaultsOf params env = ([], [])) ∧ embE M N sc e body = true := by
  unfold lamTxtB at h
  simp only [Bool.and_eq_true, decide_eq_true_eq, Bool.not_eq_true', List.all_eq_true, Bool.or_eq_true, decide_eq_false_iff_not] at h
  obtain ⟨⟨⟨⟨⟨⟨h1, h2⟩, h3⟩, h4⟩, h5⟩, h6⟩, h7⟩ := h
  have hp := noPar_is h1
  subst hp
  refine ⟨⟨h2, h3, h4, fun y hy => ⟨(h5 y hy).1.1, (h5 y hy).1.2⟩, fun y e => ?_, h6, fun q cl pm cv ctv => by rfl⟩, fun env => by rfl, h7⟩
  rcases (h5 (y, .free) (PySem.mem_of_lookup e)).2 with z | z
  · exact absurd rfl z
  · exact List.contains_iff_mem.mp z
def Ps.withLam (M : Ps) (le : Nat → Option E) : Ps := { M with lmB := fun kl params sc body => match le kl with
  | some e => lamTxtB M e (M.lmN kl) params sc body
  | none => false }
def lamR (M : Ps) (le : Nat → Option E) : Nat → LamT → Prop := fun kl L => LamOk L ∧ ∃ e, le kl = some e ∧ embE M L.N L.scope e L.body = true
theorem lam_nms {M : Ps} {le : Nat → Option E} : ∀ kl q params sc body, (M.withLam le).lmB kl params sc body = true → lamR M le kl ⟨q, params, body, sc, M.lmN kl⟩ ∧ ∀ env, defaultsOf params env = ([], []) := fun kl q params sc body h => by
  have h : (match le kl with
    | some e => lamTxtB M e (M.lmN kl) params sc body
    | none => false) = true := h
  split at h
  · rename_i e el
    obtain ⟨h1, h2, h3⟩ := lamTxt_ok h q
    exact ⟨⟨h1, e, el, h3⟩, h2⟩
  · cases h
theorem lamx_nms {M : Ps} {le : Nat → Option E} (h0 : M.lmB = fun _ _ _ _ => false) : ∀ kl L, lamR M le kl L → LamOk L ∧ ∃ e, le kl = some e ∧ embE (M.withLam le).nl L.N L.scope e L.body = true := fun kl L ⟨h1, e, h2, h3⟩ => by
  have eq : (M.withLam le).nl = M := by
    cases M
    simp only at h0
    subst h0
    rfl
  exact ⟨h1, e, h2, by rw [eq]; exact h3⟩
end Mi

/-! Mi 22: what the top has made of the exception classes, by one check each. -/
namespace Mi
open PySem L2 StX PySem.Spec PyProof.Rows

/-- an own exception class over ValueError, read off its record -/
def oexB (K : PySem.W.Frag) (Ca : Addr) : Bool := (match K.lookup Ca with
  | some ⟨.type "type", _, .cls rec, slots⟩ => (match rec.mro, slots.toList with
    | .ref Cb :: up, [_, _, _, _, some (.builtin nw), _] => Cb == Ca && nw == "ValueError.__new__" && rec.hasDict && !rec.hasDel && PySem.HandSPX.refsVE up
    | _, _ => false)
  | _ => false) && (decide (PySem.W.findIn K (.ref Ca) "__setattr__" = some (some (.builtin "object.__setattr__"))) && (decide (PySem.W.subIn K (.ref Ca) (.type "BaseException") = some true) && (decide (PySem.W.typeIn K (.ref Ca) = some (.type "type")) && PySem.W.keepIn K (.ref Ca))))
theorem oexB_ok {K : PySem.W.Frag} {Ca : Addr} (h : oexB K Ca = true) : OexC K Ca := by
  unfold oexB at h
  rw [Bool.and_eq_true] at h
  obtain ⟨h0, h⟩ := h
  simp only [Bool.and_eq_true, decide_eq_true_eq] at h
  obtain ⟨h1, h2, h3, h4⟩ := h
  refine ⟨?_, h1, h2, h3, h4⟩
  split at h0
  rotate_left
  · cases h0
  rename_i dd rec slots el
  split at h0
  rotate_left
  · cases h0
  rename_i Cb up s0 s1 s2 s3 nw s5 em es
  simp only [Bool.and_eq_true, beq_iff_eq, Bool.not_eq_true'] at h0
  obtain ⟨⟨⟨⟨e1, e2⟩, e3⟩, e4⟩, e5⟩ := h0
  subst e1 e2
  obtain ⟨r1, r2, r3, r4, r5, r6, r7, r8, r9, r10, r11⟩ := rec
  dsimp only at em e3 e4
  subst em e3 e4
  obtain ⟨sl⟩ := slots
  have es : sl = _ := es
  subst es
  exact ⟨r1, r5, r4, r2, up, r7, r8, r9, r10, dd, s0, s1, s2, s3, s5, el, e5⟩
/-- .. whose __init__ hands a text to the base and keeps one field -/
structure X1F (K : PySem.W.Frag) (mg : Str → Option Value) (Ca CB fI : Addr) (mc : Value) (name qual fl slf prm B m : Str) (params : Arguments) (scope : Scope) : Prop where
  oex : oexB K Ca = true
  ini : PySem.W.findIn K (.ref Ca) "__init__" = some (some (.ref fI))
  ty : PySem.W.typeIn K (.ref fI) = some (.type "function")
  no : PySem.W.findIn K (.ref Ca) fl = some none
  mgB : mg B = some (.ref CB)
  rd : ClX.CRead K CB mc
  at_ : PySem.W.findCls K (.ref CB) mc "__init__" = some (.val (.builtin "ValueError.__init__"))
theorem mkX1_of {K : PySem.W.Frag} {mg : Str → Option Value} {Ca CB fI : Addr} {mc : Value} {name qual fl slf prm B m : Str} {params : Arguments} {scope : Scope} {kV doc pm cdv ct oc : Value} {an od : Option Addr} {osl : Array (Option Value)} {j : Nat} {p1 p2 p3 p4 p5 p6 q1 q2 q3 q4 : Pos} {body : List Stmt}
    (F : X1F K mg Ca CB fI mc name qual fl slf prm B m params scope) (eb : body = [.Expr (.Call (.Attribute (.Name B p1) "__init__" p2) [.Name slf p3, .Constant (.str m) j p4] [] p5) p6, .Assign [.Attribute (.Name slf q1) fl q2] (.Name prm q3) q4])
    (lk : K.lookup fI = some ⟨oc, od, .func (PySem.W.fnOf name qual params body scope .none kV doc pm an cdv ct), osl⟩) (hcd : PySem.W.codeIn K cdv qual = true) (Sc : FnScope [slf, prm] [slf, prm] scope) (hB : scope.names.lookup B = some .globalImplicit) (hdb : (B == ("__debug__" : Str)) = false)
    (d1 : (slf == ("__debug__" : Str)) = false) (d2 : (slf == ("__classdict__" : Str)) = false) (d3 : (prm == ("__debug__" : Str)) = false) (d4 : (prm == ("__classdict__" : Str)) = false) (hsw : ∀ env : Env, swapsWith (.Name prm q3) (some (.Attribute (.Name slf q1) fl q2)) q4.line env = pure false) (hfm : methForm (.Name B p1) [.Name slf p3, .Constant (.str m) j p4] [] p2 p5 = true)
    (hsw2 : ∀ env : Env, swapsWith (.Call (.Attribute (.Name B p1) "__init__" p2) [.Name slf p3, .Constant (.str m) j p4] [] p5) none p6.line env = pure false) (hbd : Binds K (PySem.W.fnOf name qual params body scope .none kV doc pm an cdv ct) [slf, prm] []) :
    ∀ (P : Program) (w : World) (base : Heap), MkX1 P w mg base K Ca fl := fun P w base => by
  subst eb
  exact ⟨⟨fI, _, _, F.ini, F.ty, fnX1 (pre := []) lk hcd Sc (.inl rfl) hB F.mgB hdb F.rd F.at_ d1 d2 d3 d4 hsw hfm hsw2, hbd⟩, oexB_ok F.oex, F.no⟩
theorem tabIn_of {K : PySem.W.Frag} {x : Str} {f c P : Addr} {oc tc : Value} {od td : Option Addr} {sl ts : Array (Option Value)} {fd : FuncData} {vs : Array Value} (a : PySem.W.nsIn K mainGlobals x = some (some (.ref f))) (l : K.lookup f = some ⟨oc, od, .func fd, sl⟩) (hc : fd.code = .ref c)
    (lc : K.lookup c = some ⟨tc, td, .fields vs, ts⟩) (pc : vs[11]? = some (.ref P)) : PySem.W.tabIn K x = some (c, P) := by
  unfold PySem.W.tabIn
  rw [a]
  dsimp only
  rw [l]
  dsimp only
  rw [hc]
  dsimp only
  rw [lc]
  dsimp only
  rw [pc]
theorem tb_one : ∀ {l : List (Addr × Str)} {Pt : Addr} {q : Str}, (l.map (·.1)).Nodup → (Pt, q) ∈ l → ∀ p ∈ l, p.1 = Pt → p.2 = q
  | [], _, _, _, h, _, _, _ => by cases h
  | x :: l, Pt, q, nd, h, p, hp, e => by
    rw [List.map_cons, List.nodup_cons] at nd
    rcases List.mem_cons.mp h with e1 | h1
    · rcases List.mem_cons.mp hp with e2 | h2
      · rw [e2, ← e1]
      · exact (nd.1 (List.mem_map.mpr ⟨p, h2, by rw [e, ← e1]⟩)).elim
    · rcases List.mem_cons.mp hp with e2 | h2
      · exact (nd.1 (List.mem_map.mpr ⟨(Pt, q), h1, by rw [← e2, e]⟩)).elim
      · exact tb_one nd.2 h1 p h2 e
theorem lookup_memG {α β : Type} [BEq α] [LawfulBEq α] : ∀ {l : List (α × β)} {a : α} {b : β}, l.lookup a = some b → (a, b) ∈ l
  | [], a, b, h => by cases h
  | (c, x) :: l, a, b, h => by
    rw [List.lookup_cons] at h
    cases e : a == c with
    | true =>
      rw [e] at h
      cases h
      rw [eq_of_beq e]
      exact List.mem_cons_self
    | false =>
      rw [e] at h
      exact List.mem_cons_of_mem _ (lookup_memG h)
theorem tabB_up {base base2 : Heap} {mg : Str → Option Value} {c P : Addr} (hb : ∀ b o, base.get? b = some o → base2.get? b = some o) (T : LamX.TabB base mg c P) : LamX.TabB base2 mg c P := ⟨T.code.keeps hb, T.bm.keeps hb, T.gP⟩
end Mi

namespace K01
open PySem L2 StX Mi PySem.Spec PyProof.Rows
def top (i : Nat) : Stmt := PySem.Challenge.pw_passplaces_k01_ways_checked.main.body.getD i (.Pass ⟨0, 0, 0, 0⟩)
def nms : List Str := ["part", "is_size", "square", "MAX_WALKERS", "MAX_PLACES", "size", "lists", "need_pair", "rights", "lefts", "places", "allowed"]
def gfs : List Str := ["is_integer", "is_below", "problem_of", "_law_mixed", "_law_folded", "_law_draw", "_law_begun", "_law_doubled", "_law_is_from", "_law_due", "_law_part", "_law_checked", "_law_by_names", "_law_square_right", "_law_doubled_right", "law"]
def blts : List Str := ["bool", "enumerate", "int", "isinstance", "len", "range", "repr", "tuple"]
def n_is_integer : List Str := ["value"]
def b_is_integer : List Z := [(.ret (.and (.isi (.var 0) .int) (.not (.isi (.var 0) .bl))))]
def d_is_integer : Df := ⟨n_is_integer, ["value"], true, bindF [⟨1, [], [0], false⟩], b_is_integer, false⟩
def n_is_below : List Str := ["value", "limit"]
def b_is_below : List Z := [(.ret (.and (.call 0 [(.var 0)] [] []) (.chn pLe pLt (.int 0) (.var 0) (.var 1))))]
def d_is_below : Df := ⟨n_is_below, ["value", "limit"], false, bindF [⟨2, [], [0, 1], false⟩], b_is_below, false⟩
def n_problem_of : List Str := ["rights", "lefts", "places", "most_walkers", "most_places"]
def b_problem_of : List Z := [(.ife (.or (.not (.call 0 [(.var 0)] [] [])) (.not (.chn pLe pLe (.int 1) (.var 0) (.var 3)))) [(.ret (.str "rights"))] []),
    (.ife (.or (.not (.call 0 [(.var 1)] [] [])) (.not (.chn pLe pLe (.int 1) (.var 1) (.var 3)))) [(.ret (.str "lefts"))] []),
    (.ife (.or (.not (.call 0 [(.var 2)] [] [])) (.not (.chn pLe pLe (.int 1) (.var 2) (.var 4)))) [(.ret (.str "places"))] []),
    (.ret .non)]
def d_problem_of : Df := ⟨n_problem_of, ["rights", "lefts", "places", "most_walkers", "most_places"], true, bindF [⟨5, [], [0, 1, 2, 3, 4], false⟩], b_problem_of, false⟩
def n__law_mixed : List Str := ["_law_cell", "_law_n", "_law_turned"]
def b__law_mixed : List Z := [(.set (.nm 2) (.op2 pAdd (.op2 pAdd (.op2 pMod (.op2 pMul (.op2 pMul (.var 0) (.op2 pAdd (.int 1) (.op2 pMul (.int 2) (.var 1)))) (.int 48271)) (.int 2147483647)) (.op2 pMul (.op2 pMul (.int 7919) (.var 1)) (.var 1))) (.op2 pMul (.int 104729) (.var 1)))),
    (.ret (.op2 pDiv (.op2 pMod (.op2 pMul (.var 2) (.int 69621)) (.int 2147483629)) (.int 7)))]
def d__law_mixed : Df := ⟨n__law_mixed, ["_law_cell", "_law_n"], true, bindF [⟨2, [], [0, 1], false⟩], b__law_mixed, false⟩
def n__law_folded : List Str := ["_law_script", "_law_found", "_law_n", "_law_cell"]
def b__law_folded : List Z := [(.set (.nm 1) (.lc true (.op2 pAdd (.int 17) (.var 2)) (.nm 2) .r1 [(.int 64)] [] [("_law_n", 2)])),
    (.for (.tp [(.nm 2), (.nm 3)]) .enum [(.var 0)] [(.put (.var 1) (.op2 pMod (.var 2) (.int 64)) (.op2 pMod (.op2 pAdd (.op2 pMul (.ix (.var 1) (.op2 pMod (.var 2) (.int 64))) (.int 48271)) (.var 3)) (.int 2147483647)))]),
    (.for (.nm 2) .r2 [(.int 1), (.int 64)] [(.put (.var 1) (.var 2) (.op2 pMod (.op2 pAdd (.ix (.var 1) (.var 2)) (.op2 pMul (.ix (.var 1) (.op2 pSub (.var 2) (.int 1))) (.int 16807))) (.int 2147483647)))]),
    (.ret (.var 1))]
def d__law_folded : Df := ⟨n__law_folded, ["_law_script"], false, bindF [⟨1, [], [0], false⟩], b__law_folded, false⟩
def n__law_draw : List Str := ["_law_m", "_law_top", "_law_n", "_law_at", "_law_cell"]
def b__law_draw : List Z := [(.set (.nm 2) (.ix (.var 0) (.str "spot"))),
    (.put (.var 0) (.str "spot") (.op2 pAdd (.var 2) (.int 1))),
    (.ife (.eq true (.ix (.var 0) (.str "great")) (.lst false [])) [(.set (.nm 3) (.op2 pMod (.var 2) (.len (.ix (.var 0) (.str "great"))))),
    (.set (.nm 4) (.ix (.ix (.var 0) (.str "great")) (.var 3))),
    (.ife (.cmp pGt (.var 4) (.int 0)) [(.put (.ix (.var 0) (.str "great")) (.var 3) (.op2 pDiv (.var 4) (.var 1))),
    (.ret (.op2 pMod (.var 4) (.var 1)))] [])] []),
    (.ret (.op2 pMod (.call 3 [(.call 3 [(.op2 pAdd (.ix (.ix (.var 0) (.str "cells")) (.op2 pMod (.var 2) (.int 64))) (.op2 pMul (.int 31) (.op2 pDiv (.var 2) (.int 64)))), (.var 2)] [] []), (.op2 pAdd (.var 2) (.int 7))] [] []) (.var 1)))]
def d__law_draw : Df := ⟨n__law_draw, ["_law_m", "_law_top"], false, bindF [⟨2, [], [0, 1], false⟩], b__law_draw, false⟩
def n__law_begun : List Str := ["_law_script", "_law_m", "_law_cell"]
def b__law_begun : List Z := [(.set (.nm 1) (.dct [(Sum.inr "cells"), (Sum.inr "great"), (Sum.inr "spot")] [(.call 4 [(.var 0)] [] []), (.lst false []), (.int 0)])),
    (.put (.var 1) (.str "great") (.lc true (.ife (.cmp pGe (.var 2) (.op2 pPow (.int 10) (.int 18))) (.var 2) (.int 0)) (.nm 2) .seq [(.var 0)] [] [("_law_cell", 2)])),
    (.ret (.var 1))]
def d__law_begun : Df := ⟨n__law_begun, ["_law_script"], false, bindF [⟨1, [], [0], false⟩], b__law_begun, false⟩
def n__law_doubled : List Str := ["_law_kind", "_law_found", "_law_n"]
def b__law_doubled : List Z := [(.set (.nm 1) (.tup [])),
    (.for (.nm 2) .r1 [(.int 60)] [(.set (.nm 1) (.ix (.lst false [(.tup [(.var 1), (.var 1)]), (.lst false [(.var 1), (.var 1)])]) (.var 0)))]),
    (.ret (.var 1))]
def d__law_doubled : Df := ⟨n__law_doubled, ["_law_kind"], true, bindF [⟨1, [], [0], false⟩], b__law_doubled, false⟩
def n__law_is_from : List Str := ["_law_thing_here", "_law_top"]
def b__law_is_from : List Z := [(.ret (.and (.isi (.var 0) .int) (.and (.not (.isi (.var 0) .bl)) (.chn pLe pLe (.int 1) (.var 0) (.var 1)))))]
def d__law_is_from : Df := ⟨n__law_is_from, ["_law_thing_here", "_law_top"], true, bindF [⟨2, [], [0, 1], false⟩], b__law_is_from, false⟩
def n__law_due : List Str := ["_law_east", "_law_west", "_law_spots"]
def b__law_due : List Z := [(.ife (.not (.call 8 [(.var 0), (.int 6)] [] [])) [(.ret (.lst false [(.str "rights")]))] []),
    (.ife (.not (.call 8 [(.var 1), (.int 6)] [] [])) [(.ret (.lst false [(.str "lefts")]))] []),
    (.ret (.ife (.call 8 [(.var 2), (.int 12)] [] []) (.lst false []) (.lst false [(.str "places")])))]
def d__law_due : Df := ⟨n__law_due, ["_law_east", "_law_west", "_law_spots"], true, bindF [⟨3, [], [0, 1, 2], false⟩], b__law_due, false⟩
def n__law_part : List Str := ["_law_call", "_law_error", "e"]
def b__law_part : List Z := [(.set (.nm 1) .non),
    (.tryK [(.expr (.act 0))] 1 2 1),
    (.ret (.ife (.cmp pIs (.var 1) .non) (.lst false []) (.lst false [(.xfl (.var 1) 0)])))]
def d__law_part : Df := ⟨n__law_part, ["_law_call"], false, bindF [⟨1, [], [0], false⟩], b__law_part, false⟩
def n__law_checked : List Str := ["_law_east", "_law_west", "_law_spots", "_law_due_here"]
def b__law_checked : List Z := [(.set (.nm 3) (.call 9 [(.var 0), (.var 1), (.var 2)] [] [])),
    (.ife (.eq true (.lamc 10 0 [0, 1, 2]) (.var 3)) [(.ret (.bl false))] []),
    (.ret (.eq false (.bf fReprA (.cmth 0 1 [(.var 0), (.var 1), (.var 2)] [] []) []) (.bf fReprA (.eq false (.var 3) (.lst false [])) [])))]
def d__law_checked : Df := ⟨n__law_checked, ["_law_east", "_law_west", "_law_spots"], true, bindF [⟨3, [], [0, 1, 2], false⟩], b__law_checked, true⟩
def n__law_by_names : List Str := ["_law_road", "_law_east", "_law_west", "_law_spots", "_law_due_here", "_law_told"]
def b__law_by_names : List Z := [(.set (.nm 4) (.call 9 [(.var 1), (.var 2), (.var 3)] [] [])),
    (.ife (.eq true (.lamc 10 1 [3, 2, 1]) (.var 4)) [(.ret (.bl false))] []),
    (.set (.nm 5) (.lst false [(.cmth 0 1 [] ["places", "lefts", "rights"] [(.var 3), (.var 2), (.var 1)]), (.imth (.var 0) 1 [(.var 1), (.var 2), (.var 3)] [] [])])),
    (.ret (.eq false (.bf fReprA (.var 5) []) (.bf fReprA (.op2 pMul (.lst false [(.eq false (.var 4) (.lst false []))]) (.int 2)) [])))]
def d__law_by_names : Df := ⟨n__law_by_names, ["_law_road", "_law_east", "_law_west", "_law_spots"], true, bindF [⟨4, [], [0, 1, 2, 3], false⟩], b__law_by_names, true⟩
def n__law_square_right : List Str := ["_law_road", "_law_walkers_here", "_law_due_here", "_law_told", "_law_same"]
def b__law_square_right : List Z := [(.set (.nm 2) (.call 9 [(.var 1), (.var 1), (.var 1)] [] [])),
    (.set (.nm 3) (.lst true [(.lamc 10 2 [1])])),
    (.expr (.bm mAppend (.var 3) (.lamc 10 3 [1]) [])),
    (.expr (.bm mAppend (.var 3) (.lamc 10 4 [1, 0]) [])),
    (.ife (.eq true (.frz (.var 3)) (.op2 pMul (.lst false [(.var 2)]) (.int 3))) [(.ret (.bl false))] []),
    (.ife (.eq true (.var 2) (.lst false [])) [(.ret (.bl true))] []),
    (.set (.nm 4) (.make 0 16 [(.var 1), (.var 1), (.var 1)] [] [])),
    (.ret (.and (.eq false (.cmth 0 2 [(.var 1)] [] []) (.var 4)) (.eq false (.imth (.var 0) 2 [(.var 1)] [] []) (.var 4))))]
def d__law_square_right : Df := ⟨n__law_square_right, ["_law_road", "_law_walkers_here"], true, bindF [⟨2, [], [0, 1], false⟩], b__law_square_right, true⟩
def n__law_doubled_right : List Str := ["_law_way_here", "_law_far", "_law_told"]
def b__law_doubled_right : List Z := [(.for (.nm 0) .r1 [(.int 2)] [(.set (.nm 1) (.call 7 [(.var 0)] [] [])),
    (.set (.nm 2) (.lst true [(.lamc 10 5 [1])])),
    (.expr (.bm mAppend (.var 2) (.lamc 10 6 [1]) [])),
    (.expr (.bm mAppend (.var 2) (.lamc 10 7 [1]) [])),
    (.expr (.bm mAppend (.var 2) (.lamc 10 8 [1]) [])),
    (.ife (.eq true (.frz (.var 2)) (.lst false [(.lst false [(.str "rights")]), (.lst false [(.str "lefts")]), (.lst false [(.str "places")]), (.lst false [(.str "rights")])])) [(.ret (.bl false))] []),
    (.ife (.eq true (.lst false [(.cmth 0 1 [(.var 1), (.int 1), (.int 1)] [] []), (.cmth 0 1 [(.int 1), (.var 1), (.int 1)] [] []), (.cmth 0 1 [(.int 1), (.int 1), (.var 1)] [] [])]) (.op2 pMul (.lst false [(.bl false)]) (.int 3))) [(.ret (.bl false))] [])]),
    (.ret (.bl true))]
def d__law_doubled_right : Df := ⟨n__law_doubled_right, [], true, bindF [⟨0, [], [], false⟩], b__law_doubled_right, true⟩
def n_law : List Str := ["_law_script", "_law_m", "_law_odds", "_law_east", "_law_road", "_law_west", "_law_spots"]
def b_law : List Z := [(.set (.nm 1) (.call 6 [(.var 0)] [] [])),
    (.set (.nm 2) (.lst false [(.int 0), (.int 1), (.int 2), (.int 6), (.int 7), (.int 12), (.int 13), (.op2 pSub (.int 0) (.int 1)), (.bl true), (.bl false), .non, (.str "3"), (.tup [(.int 3)]), (.lst false [(.int 3)])])),
    (.for (.nm 3) .seq [(.var 2)] [(.for (.nm 5) .seq [(.var 2)] [(.ife (.eq true (.lc false (.var 6) (.nm 6) .seq [(.var 2)] [(.not (.call 11 [(.var 3), (.var 5), (.var 6)] [] []))] [("_law_spots", 6)]) (.lst false [])) [(.ret (.bl false))] [])])]),
    (.set (.nm 4) (.frz (.make 0 16 [(.op2 pAdd (.int 1) (.call 5 [(.var 1), (.int 6)] [] [])), (.op2 pAdd (.int 1) (.call 5 [(.var 1), (.int 6)] [] [])), (.op2 pAdd (.int 1) (.call 5 [(.var 1), (.int 12)] [] []))] [] []))),
    (.for (.nm 3) .seq [(.frz (.op2 pAdd (.var 2) (.lst false [(.frz (.dnew false)), (.op2 pPow (.int 10) (.int 30)), (.tup []), (.str ""), (.op2 pSub (.int 0) (.op2 pPow (.int 10) (.int 30))), (.int 3), (.int 4), (.int 5)])))] [(.set (.tp [(.nm 5), (.nm 6)]) (.tup [(.ix (.var 2) (.call 5 [(.var 1), (.int 14)] [] [])), (.op2 pAdd (.int 1) (.call 5 [(.var 1), (.int 12)] [] []))])),
    (.ife (.or (.not (.call 12 [(.var 4), (.var 3), (.var 5), (.var 6)] [] [])) (.not (.call 12 [(.var 4), (.op2 pAdd (.int 1) (.call 5 [(.var 1), (.int 6)] [] [])), (.var 3), (.var 5)] [] []))) [(.ret (.bl false))] []),
    (.ife (.or (.not (.call 12 [(.var 4), (.op2 pAdd (.int 1) (.call 5 [(.var 1), (.int 6)] [] [])), (.op2 pAdd (.int 1) (.call 5 [(.var 1), (.int 6)] [] [])), (.var 3)] [] [])) (.not (.call 13 [(.var 4), (.var 3)] [] []))) [(.ret (.bl false))] [])]),
    (.ret (.and (.call 14 [] [] []) (.eq false (.lst false [(.ccon 0 3), (.ccon 0 4), (.fld (.var 4) 3), (.fld (.var 4) 4)]) (.op2 pMul (.lst false [(.int 6), (.int 12)]) (.int 2)))))]
def d_law : Df := ⟨n_law, ["_law_script"], false, bindF [⟨1, [], [0], false⟩], b_law, false⟩
def n_Way___init__ : List Str := ["self", "rights", "lefts", "places", "problem", "right", "left"]
def b_Way___init__ : List Z := [(.set (.nm 4) (.call 2 [(.var 1), (.var 2), (.var 3), (.ccon 0 3), (.ccon 0 4)] [] [])),
    (.ife (.cmp pIsNot (.var 4) .non) [(.raise 1 (.var 4))] []),
    (.fld (.var 0) 5 (.tup [(.var 1), (.var 2), (.var 3)])),
    (.fld (.var 0) 6 (.dnew true)),
    (.for (.nm 5) .r1 [(.var 1)] [(.for (.nm 6) .r1 [(.var 2)] [(.put (.fld (.var 0) 6) (.tup [(.var 5), (.var 6)]) (.rng true (.var 3)))])])]
def d_Way___init__ : Df := ⟨n_Way___init__, ["self", "rights", "lefts", "places"], false, bindF [⟨4, [], [0, 1, 2, 3], false⟩, ⟨1, ["places", "lefts", "rights"], [0, 3, 2, 1], false⟩], b_Way___init__, false⟩
def n_Way_is_size : List Str := ["rights", "lefts", "places"]
def b_Way_is_size : List Z := [(.ret (.cmp pIs (.call 2 [(.var 0), (.var 1), (.var 2), (.ccon 0 3), (.ccon 0 4)] [] []) .non))]
def d_Way_is_size : Df := ⟨n_Way_is_size, ["rights", "lefts", "places"], true, bindF [⟨3, [], [0, 1, 2], false⟩, ⟨0, ["places", "lefts", "rights"], [2, 1, 0], false⟩], b_Way_is_size, false⟩
def n_Way_square : List Str := ["cls", "walkers"]
def b_Way_square : List Z := [(.ret (.mkv 0 [(.var 1), (.var 1), (.var 1)] [] []))]
def d_Way_square : Df := ⟨n_Way_square, ["cls", "walkers"], false, bindF [⟨2, [], [0, 1], false⟩, ⟨1, ["walkers"], [0, 1], false⟩], b_Way_square, false⟩
def n_Way_rights : List Str := ["self"]
def b_Way_rights : List Z := [(.ret (.ix (.fld (.var 0) 5) (.int 0)))]
def d_Way_rights : Df := ⟨n_Way_rights, ["self"], false, bindF [⟨1, [], [0], false⟩], b_Way_rights, false⟩
def n_Way_lefts : List Str := ["self"]
def b_Way_lefts : List Z := [(.ret (.ix (.fld (.var 0) 5) (.int 1)))]
def d_Way_lefts : Df := ⟨n_Way_lefts, ["self"], false, bindF [⟨1, [], [0], false⟩], b_Way_lefts, false⟩
def n_Way_places : List Str := ["self"]
def b_Way_places : List Z := [(.ret (.ix (.fld (.var 0) 5) (.int 2)))]
def d_Way_places : Df := ⟨n_Way_places, ["self"], false, bindF [⟨1, [], [0], false⟩], b_Way_places, false⟩
def n_Way___len__ : List Str := ["self"]
def b_Way___len__ : List Z := [(.ret (.len (.fld (.var 0) 6)))]
def d_Way___len__ : Df := ⟨n_Way___len__, ["self"], false, bindF [⟨1, [], [0], false⟩], b_Way___len__, false⟩
def n_Way___eq__ : List Str := ["self", "other"]
def b_Way___eq__ : List Z := [(.ret (.and (.isi (.var 1) (.ins 0)) (.and (.eq false (.fld (.var 0) 5) (.fld (.var 1) 5)) (.eq false (.fld (.var 0) 6) (.fld (.var 1) 6)))))]
def d_Way___eq__ : Df := ⟨n_Way___eq__, ["self", "other"], false, bindF [⟨2, [], [0, 1], false⟩], b_Way___eq__, false⟩
def n_Way_need_pair : List Str := ["self", "right", "left"]
def b_Way_need_pair : List Z := [(.ife (.not (.call 1 [(.var 1), (.ix (.fld (.var 0) 5) (.int 0))] [] [])) [.no] []),
    (.ife (.not (.call 1 [(.var 2), (.ix (.fld (.var 0) 5) (.int 1))] [] [])) [.no] [])]
def d_Way_need_pair : Df := ⟨n_Way_need_pair, ["self", "right", "left"], false, bindF [⟨3, [], [0, 1, 2], false⟩], b_Way_need_pair, false⟩
def n_Way_allowed : List Str := ["self", "right", "left"]
def b_Way_allowed : List Z := [(.expr (.meth (.var 0) 7 [(.var 1), (.var 2)] [] [])),
    (.ret (.ix (.fld (.var 0) 6) (.tup [(.var 1), (.var 2)])))]
def d_Way_allowed : Df := ⟨n_Way_allowed, ["self", "right", "left"], false, bindF [⟨3, [], [0, 1, 2], false⟩], b_Way_allowed, false⟩
def defs : List Df := [d_is_integer, d_is_below, d_problem_of, d__law_mixed, d__law_folded, d__law_draw, d__law_begun, d__law_doubled, d__law_is_from, d__law_due, d__law_part, d__law_checked, d__law_by_names, d__law_square_right, d__law_doubled_right, d_law, d_Way___init__, d_Way_is_size, d_Way_square, d_Way_rights, d_Way_lefts, d_Way_places, d_Way___len__, d_Way___eq__, d_Way_need_pair, d_Way_allowed]
def dfs (i : Nat) : Option Df := defs[i]?
def flds : List (List Nat) := [[5, 6]]
def meths : List (List (Nat × Nat)) := [[(7, 24), (11, 25)]]
def props : List (List (Nat × Nat)) := [[(8, 19), (9, 20), (10, 21)]]
def cons : List (List (Nat × D)) := [[(3, (.int 6)), (4, (.int 12))]]
def inits : List (Option Nat) := [some 16]
def eqms : List (Option Nat) := [some 23]
def lenms : List (Option Nat) := [some 22]
def isis : List (Ty × Ty × Bool) := [(.non, .int, false), (.non, .bl, false), (.non, (.ins 0), false), (.bl, .int, true), (.bl, .bl, true), (.bl, (.ins 0), false), (.int, .int, true), (.int, .bl, false), (.int, (.ins 0), false), (.str, .int, false), (.str, .bl, false), (.str, (.ins 0), false), (.tup, .int, false), (.tup, .bl, false), (.tup, (.ins 0), false), (.lst, .int, false), (.lst, .bl, false), (.lst, (.ins 0), false), (.dct, .int, false), (.dct, .bl, false), (.dct, (.ins 0), false), ((.ins 0), .int, false), ((.ins 0), .bl, false), ((.ins 0), (.ins 0), true)]
def nfs : List (List Ty) := [[.non, .bl, .int, .str, .tup, .lst, .dct, (.ins 0)]]
def gcs : List Str := ["Way", "InvalidWay"]
def sms : List (List (Nat × Mk2)) := [[(1, .st 17), (2, .cm 18)]]
def xfs : List (Nat × Nat) := [(1, 0)]
def xms : List ((Nat × Nat) × Bool) := [((1, 1), true)]
def lmNs : List (List Str) := [["_law_east", "_law_west", "_law_spots"], ["_law_spots", "_law_west", "_law_east"], ["_law_walkers_here"], ["_law_walkers_here"], ["_law_walkers_here", "_law_road"], ["_law_far"], ["_law_far"], ["_law_far"], ["_law_far"]]
def lam0 : E := (.make 0 16 [(.var 0), (.var 1), (.var 2)] [] [])
def lam1 : E := (.make 0 16 [] ["places", "lefts", "rights"] [(.var 0), (.var 1), (.var 2)])
def lam2 : E := (.cmth 0 2 [(.var 0)] [] [])
def lam3 : E := (.cmth 0 2 [] ["walkers"] [(.var 0)])
def lam4 : E := (.imth (.var 1) 2 [(.var 0)] [] [])
def lam5 : E := (.make 0 16 [(.var 0), (.var 0), (.var 0)] [] [])
def lam6 : E := (.make 0 16 [(.int 1), (.var 0), (.var 0)] [] [])
def lam7 : E := (.make 0 16 [(.int 1), (.int 6), (.var 0)] [] [])
def lam8 : E := (.cmth 0 2 [(.var 0)] [] [])
def lmEs : List E := [lam0, lam1, lam2, lam3, lam4, lam5, lam6, lam7, lam8]
def ccons : List (List (Nat × D)) := [[(3, (.int 6)), (4, (.int 12))]]
def tab : Tab where
  isC := fun c => decide (c < 1)
  fld := fun c f => (flds.getD c []).contains f
  meth := fun c m => (meths.getD c []).lookup m
  prop := fun c m => (props.getD c []).lookup m
  con := fun c m => (cons.getD c []).lookup m
  init := fun c => inits.getD c none
def kns : Kn where
  isi := fun t u => (isis.find? fun q => decide (q.1 = t) && decide (q.2.1 = u)).map fun q => q.2.2
  eqm := fun c => eqms.getD c none
  nf := fun c t => (nfs.getD c []).contains t
  lenm := fun c => lenms.getD c none
def mo : Ps where
  T := tab
  fn := nameOf nms
  gf := fun i => gfs.getD i ""
  gc := fun c => gcs.getD c ""
  con := fun _ => none
  nf := 16
  blt := blts
  kn := kns
  ccon := fun c m => (ccons.getD c []).lookup m
  xf := fun c f => xfs.contains (c, f)
  exm := fun c d => xms.lookup (c, d)
  xi := fun c => xfs.lookup c
  cm := fun c m => (sms.getD c []).lookup m
  im := fun c m => (sms.getD c []).lookup m
  lmN := fun k => lmNs.getD k []
def le (k : Nat) : Option E := lmEs[k]?
def prg : Pr := { toPs := mo.withLam le, lmE := le }
/-! the same text -/
theorem nms_nd : nms.Nodup := by decide +kernel
theorem nms_sz : nms.all (fun x => decide (x.cps.size < 1000)) = true := by decide +kernel
theorem e_is_integer : embZs prg.toPs n_is_integer (defScope (top 6)) b_is_integer (defBody (top 6)) = true := by decide +kernel
theorem s_is_integer : FnScope n_is_integer ["value"] (defScope (top 6)) := ⟨rfl, rfl, rfl, by decide +kernel, rfl, by decide +kernel, by decide +kernel⟩
theorem f_is_integer {dV : Value} {kV doc pm cd ct : Value} {an : Option Addr} (hd : dV = .none) : ∀ f ∈ ([⟨1, [], [0], false⟩] : List Fm), FmOk (PySem.W.fnOf "is_integer" "is_integer" (defArgs (top 6)) (defBody (top 6)) (defScope (top 6)) dV kV doc pm an cd ct) ["value"] f := by
  subst hd
  exact Each.mem ⟨(by unfold FmOk; rw [if_neg (by decide)]; exact ⟨rfl, fun us zs xs hu hz hp => by match us, zs, hu, hz with
    | [_], [], _, _ => cases hp; rfl⟩), trivial⟩
theorem e_is_below : embZs prg.toPs n_is_below (defScope (top 7)) b_is_below (defBody (top 7)) = true := by decide +kernel
theorem s_is_below : FnScope n_is_below ["value", "limit"] (defScope (top 7)) := ⟨rfl, rfl, rfl, by decide +kernel, rfl, by decide +kernel, by decide +kernel⟩
theorem f_is_below {dV : Value} {kV doc pm cd ct : Value} {an : Option Addr} (hd : dV = .none) : ∀ f ∈ ([⟨2, [], [0, 1], false⟩] : List Fm), FmOk (PySem.W.fnOf "is_below" "is_below" (defArgs (top 7)) (defBody (top 7)) (defScope (top 7)) dV kV doc pm an cd ct) ["value", "limit"] f := by
  subst hd
  exact Each.mem ⟨(by unfold FmOk; rw [if_neg (by decide)]; exact ⟨rfl, fun us zs xs hu hz hp => by match us, zs, hu, hz with
    | [_, _], [], _, _ => cases hp; rfl⟩), trivial⟩
theorem e_problem_of : embZs prg.toPs n_problem_of (defScope (top 8)) b_problem_of (defBody (top 8)) = true := by decide +kernel
theorem s_problem_of : FnScope n_problem_of ["rights", "lefts", "places", "most_walkers", "most_places"] (defScope (top 8)) := ⟨rfl, rfl, rfl, by decide +kernel, rfl, by decide +kernel, by decide +kernel⟩
theorem f_problem_of {dV : Value} {kV doc pm cd ct : Value} {an : Option Addr} (hd : dV = .none) : ∀ f ∈ ([⟨5, [], [0, 1, 2, 3, 4], false⟩] : List Fm), FmOk (PySem.W.fnOf "problem_of" "problem_of" (defArgs (top 8)) (defBody (top 8)) (defScope (top 8)) dV kV doc pm an cd ct) ["rights", "lefts", "places", "most_walkers", "most_places"] f := by
  subst hd
  exact Each.mem ⟨(by unfold FmOk; rw [if_neg (by decide)]; exact ⟨rfl, fun us zs xs hu hz hp => by match us, zs, hu, hz with
    | [_, _, _, _, _], [], _, _ => cases hp; rfl⟩), trivial⟩
theorem e__law_mixed : embZs prg.toPs n__law_mixed (defScope (top 11)) b__law_mixed (defBody (top 11)) = true := by decide +kernel
theorem s__law_mixed : FnScope n__law_mixed ["_law_cell", "_law_n"] (defScope (top 11)) := ⟨rfl, rfl, rfl, by decide +kernel, rfl, by decide +kernel, by decide +kernel⟩
theorem f__law_mixed {dV : Value} {kV doc pm cd ct : Value} {an : Option Addr} (hd : dV = .none) : ∀ f ∈ ([⟨2, [], [0, 1], false⟩] : List Fm), FmOk (PySem.W.fnOf "_law_mixed" "_law_mixed" (defArgs (top 11)) (defBody (top 11)) (defScope (top 11)) dV kV doc pm an cd ct) ["_law_cell", "_law_n"] f := by
  subst hd
  exact Each.mem ⟨(by unfold FmOk; rw [if_neg (by decide)]; exact ⟨rfl, fun us zs xs hu hz hp => by match us, zs, hu, hz with
    | [_, _], [], _, _ => cases hp; rfl⟩), trivial⟩
theorem e__law_folded : embZs prg.toPs n__law_folded (defScope (top 12)) b__law_folded (defBody (top 12)) = true := by decide +kernel
theorem s__law_folded : FnScope n__law_folded ["_law_script"] (defScope (top 12)) := ⟨rfl, rfl, rfl, by decide +kernel, rfl, by decide +kernel, by decide +kernel⟩
theorem f__law_folded {dV : Value} {kV doc pm cd ct : Value} {an : Option Addr} (hd : dV = .none) : ∀ f ∈ ([⟨1, [], [0], false⟩] : List Fm), FmOk (PySem.W.fnOf "_law_folded" "_law_folded" (defArgs (top 12)) (defBody (top 12)) (defScope (top 12)) dV kV doc pm an cd ct) ["_law_script"] f := by
  subst hd
  exact Each.mem ⟨(by unfold FmOk; rw [if_neg (by decide)]; exact ⟨rfl, fun us zs xs hu hz hp => by match us, zs, hu, hz with
    | [_], [], _, _ => cases hp; rfl⟩), trivial⟩
theorem e__law_draw : embZs prg.toPs n__law_draw (defScope (top 13)) b__law_draw (defBody (top 13)) = true := by decide +kernel
theorem s__law_draw : FnScope n__law_draw ["_law_m", "_law_top"] (defScope (top 13)) := ⟨rfl, rfl, rfl, by decide +kernel, rfl, by decide +kernel, by decide +kernel⟩
theorem f__law_draw {dV : Value} {kV doc pm cd ct : Value} {an : Option Addr} (hd : dV = .none) : ∀ f ∈ ([⟨2, [], [0, 1], false⟩] : List Fm), FmOk (PySem.W.fnOf "_law_draw" "_law_draw" (defArgs (top 13)) (defBody (top 13)) (defScope (top 13)) dV kV doc pm an cd ct) ["_law_m", "_law_top"] f := by
  subst hd
  exact Each.mem ⟨(by unfold FmOk; rw [if_neg (by decide)]; exact ⟨rfl, fun us zs xs hu hz hp => by match us, zs, hu, hz with
    | [_, _], [], _, _ => cases hp; rfl⟩), trivial⟩
theorem e__law_begun : embZs prg.toPs n__law_begun (defScope (top 14)) b__law_begun (defBody (top 14)) = true := by decide +kernel
theorem s__law_begun : FnScope n__law_begun ["_law_script"] (defScope (top 14)) := ⟨rfl, rfl, rfl, by decide +kernel, rfl, by decide +kernel, by decide +kernel⟩
theorem f__law_begun {dV : Value} {kV doc pm cd ct : Value} {an : Option Addr} (hd : dV = .none) : ∀ f ∈ ([⟨1, [], [0], false⟩] : List Fm), FmOk (PySem.W.fnOf "_law_begun" "_law_begun" (defArgs (top 14)) (defBody (top 14)) (defScope (top 14)) dV kV doc pm an cd ct) ["_law_script"] f := by
  subst hd
  exact Each.mem ⟨(by unfold FmOk; rw [if_neg (by decide)]; exact ⟨rfl, fun us zs xs hu hz hp => by match us, zs, hu, hz with
    | [_], [], _, _ => cases hp; rfl⟩), trivial⟩
theorem e__law_doubled : embZs prg.toPs n__law_doubled (defScope (top 15)) b__law_doubled (defBody (top 15)) = true := by decide +kernel
theorem s__law_doubled : FnScope n__law_doubled ["_law_kind"] (defScope (top 15)) := ⟨rfl, rfl, rfl, by decide +kernel, rfl, by decide +kernel, by decide +kernel⟩
theorem f__law_doubled {dV : Value} {kV doc pm cd ct : Value} {an : Option Addr} (hd : dV = .none) : ∀ f ∈ ([⟨1, [], [0], false⟩] : List Fm), FmOk (PySem.W.fnOf "_law_doubled" "_law_doubled" (defArgs (top 15)) (defBody (top 15)) (defScope (top 15)) dV kV doc pm an cd ct) ["_law_kind"] f := by
  subst hd
  exact Each.mem ⟨(by unfold FmOk; rw [if_neg (by decide)]; exact ⟨rfl, fun us zs xs hu hz hp => by match us, zs, hu, hz with
    | [_], [], _, _ => cases hp; rfl⟩), trivial⟩
theorem e__law_is_from : embZs prg.toPs n__law_is_from (defScope (top 16)) b__law_is_from (defBody (top 16)) = true := by decide +kernel
theorem s__law_is_from : FnScope n__law_is_from ["_law_thing_here", "_law_top"] (defScope (top 16)) := ⟨rfl, rfl, rfl, by decide +kernel, rfl, by decide +kernel, by decide +kernel⟩
theorem f__law_is_from {dV : Value} {kV doc pm cd ct : Value} {an : Option Addr} (hd : dV = .none) : ∀ f ∈ ([⟨2, [], [0, 1], false⟩] : List Fm), FmOk (PySem.W.fnOf "_law_is_from" "_law_is_from" (defArgs (top 16)) (defBody (top 16)) (defScope (top 16)) dV kV doc pm an cd ct) ["_law_thing_here", "_law_top"] f := by
  subst hd
  exact Each.mem ⟨(by unfold FmOk; rw [if_neg (by decide)]; exact ⟨rfl, fun us zs xs hu hz hp => by match us, zs, hu, hz with
    | [_, _], [], _, _ => cases hp; rfl⟩), trivial⟩
theorem e__law_due : embZs prg.toPs n__law_due (defScope (top 17)) b__law_due (defBody (top 17)) = true := by decide +kernel
theorem s__law_due : FnScope n__law_due ["_law_east", "_law_west", "_law_spots"] (defScope (top 17)) := ⟨rfl, rfl, rfl, by decide +kernel, rfl, by decide +kernel, by decide +kernel⟩
theorem f__law_due {dV : Value} {kV doc pm cd ct : Value} {an : Option Addr} (hd : dV = .none) : ∀ f ∈ ([⟨3, [], [0, 1, 2], false⟩] : List Fm), FmOk (PySem.W.fnOf "_law_due" "_law_due" (defArgs (top 17)) (defBody (top 17)) (defScope (top 17)) dV kV doc pm an cd ct) ["_law_east", "_law_west", "_law_spots"] f := by
  subst hd
  exact Each.mem ⟨(by unfold FmOk; rw [if_neg (by decide)]; exact ⟨rfl, fun us zs xs hu hz hp => by match us, zs, hu, hz with
    | [_, _, _], [], _, _ => cases hp; rfl⟩), trivial⟩
theorem e__law_part : embZs prg.toPs n__law_part (defScope (top 18)) b__law_part (defBody (top 18)) = true := by decide +kernel
theorem s__law_part : FnScope n__law_part ["_law_call"] (defScope (top 18)) := ⟨rfl, rfl, rfl, by decide +kernel, rfl, by decide +kernel, by decide +kernel⟩
theorem f__law_part {dV : Value} {kV doc pm cd ct : Value} {an : Option Addr} (hd : dV = .none) : ∀ f ∈ ([⟨1, [], [0], false⟩] : List Fm), FmOk (PySem.W.fnOf "_law_part" "_law_part" (defArgs (top 18)) (defBody (top 18)) (defScope (top 18)) dV kV doc pm an cd ct) ["_law_call"] f := by
  subst hd
  exact Each.mem ⟨(by unfold FmOk; rw [if_neg (by decide)]; exact ⟨rfl, fun us zs xs hu hz hp => by match us, zs, hu, hz with
    | [_], [], _, _ => cases hp; rfl⟩), trivial⟩
theorem e__law_checked : embZs prg.toPs n__law_checked (defScope (top 19)) b__law_checked (defBody (top 19)) = true := by decide +kernel
theorem s__law_checked : FnScope n__law_checked ["_law_east", "_law_west", "_law_spots"] (defScope (top 19)) := ⟨rfl, rfl, rfl, by decide +kernel, rfl, by decide +kernel, by decide +kernel⟩
theorem f__law_checked {dV : Value} {kV doc pm cd ct : Value} {an : Option Addr} (hd : dV = .none) : ∀ f ∈ ([⟨3, [], [0, 1, 2], false⟩] : List Fm), FmOk (PySem.W.fnOf "_law_checked" "_law_checked" (defArgs (top 19)) (defBody (top 19)) (defScope (top 19)) dV kV doc pm an cd ct) ["_law_east", "_law_west", "_law_spots"] f := by
  subst hd
  exact Each.mem ⟨(by unfold FmOk; rw [if_neg (by decide)]; exact ⟨rfl, fun us zs xs hu hz hp => by match us, zs, hu, hz with
    | [_, _, _], [], _, _ => cases hp; rfl⟩), trivial⟩
theorem e__law_by_names : embZs prg.toPs n__law_by_names (defScope (top 20)) b__law_by_names (defBody (top 20)) = true := by decide +kernel
theorem s__law_by_names : FnScope n__law_by_names ["_law_road", "_law_east", "_law_west", "_law_spots"] (defScope (top 20)) := ⟨rfl, rfl, rfl, by decide +kernel, rfl, by decide +kernel, by decide +kernel⟩
theorem f__law_by_names {dV : Value} {kV doc pm cd ct : Value} {an : Option Addr} (hd : dV = .none) : ∀ f ∈ ([⟨4, [], [0, 1, 2, 3], false⟩] : List Fm), FmOk (PySem.W.fnOf "_law_by_names" "_law_by_names" (defArgs (top 20)) (defBody (top 20)) (defScope (top 20)) dV kV doc pm an cd ct) ["_law_road", "_law_east", "_law_west", "_law_spots"] f := by
  subst hd
  exact Each.mem ⟨(by unfold FmOk; rw [if_neg (by decide)]; exact ⟨rfl, fun us zs xs hu hz hp => by match us, zs, hu, hz with
    | [_, _, _, _], [], _, _ => cases hp; rfl⟩), trivial⟩
theorem e__law_square_right : embZs prg.toPs n__law_square_right (defScope (top 21)) b__law_square_right (defBody (top 21)) = true := by decide +kernel
theorem s__law_square_right : FnScope n__law_square_right ["_law_road", "_law_walkers_here"] (defScope (top 21)) := ⟨rfl, rfl, rfl, by decide +kernel, rfl, by decide +kernel, by decide +kernel⟩
theorem f__law_square_right {dV : Value} {kV doc pm cd ct : Value} {an : Option Addr} (hd : dV = .none) : ∀ f ∈ ([⟨2, [], [0, 1], false⟩] : List Fm), FmOk (PySem.W.fnOf "_law_square_right" "_law_square_right" (defArgs (top 21)) (defBody (top 21)) (defScope (top 21)) dV kV doc pm an cd ct) ["_law_road", "_law_walkers_here"] f := by
  subst hd
  exact Each.mem ⟨(by unfold FmOk; rw [if_neg (by decide)]; exact ⟨rfl, fun us zs xs hu hz hp => by match us, zs, hu, hz with
    | [_, _], [], _, _ => cases hp; rfl⟩), trivial⟩
theorem e__law_doubled_right : embZs prg.toPs n__law_doubled_right (defScope (top 22)) b__law_doubled_right (defBody (top 22)) = true := by decide +kernel
theorem s__law_doubled_right : FnScope n__law_doubled_right [] (defScope (top 22)) := ⟨rfl, rfl, rfl, by decide +kernel, rfl, by decide +kernel, by decide +kernel⟩
theorem f__law_doubled_right {dV : Value} {kV doc pm cd ct : Value} {an : Option Addr} (hd : dV = .none) : ∀ f ∈ ([⟨0, [], [], false⟩] : List Fm), FmOk (PySem.W.fnOf "_law_doubled_right" "_law_doubled_right" (defArgs (top 22)) (defBody (top 22)) (defScope (top 22)) dV kV doc pm an cd ct) [] f := by
  subst hd
  exact Each.mem ⟨(by unfold FmOk; rw [if_neg (by decide)]; exact ⟨rfl, fun us zs xs hu hz hp => by match us, zs, hu, hz with
    | [], [], _, _ => cases hp; rfl⟩), trivial⟩
theorem e_law : embZs prg.toPs n_law (defScope (top 23)) b_law (defBody (top 23)) = true := by decide +kernel
theorem s_law : FnScope n_law ["_law_script"] (defScope (top 23)) := ⟨rfl, rfl, rfl, by decide +kernel, rfl, by decide +kernel, by decide +kernel⟩
theorem f_law {dV : Value} {kV doc pm cd ct : Value} {an : Option Addr} (hd : dV = .none) : ∀ f ∈ ([⟨1, [], [0], false⟩] : List Fm), FmOk (PySem.W.fnOf "law" "law" (defArgs (top 23)) (defBody (top 23)) (defScope (top 23)) dV kV doc pm an cd ct) ["_law_script"] f := by
  subst hd
  exact Each.mem ⟨(by unfold FmOk; rw [if_neg (by decide)]; exact ⟨rfl, fun us zs xs hu hz hp => by match us, zs, hu, hz with
    | [_], [], _, _ => cases hp; rfl⟩), trivial⟩
theorem e_Way___init__ : embZs prg.toPs n_Way___init__ (defScope (inClass (top 9) 2)) b_Way___init__ (defBody (inClass (top 9) 2)) = true := by decide +kernel
theorem s_Way___init__ : FnScope n_Way___init__ ["self", "rights", "lefts", "places"] (defScope (inClass (top 9) 2)) := ⟨rfl, rfl, rfl, by decide +kernel, rfl, by decide +kernel, by decide +kernel⟩
theorem f_Way___init__ {dV : Value} {kV doc pm cd ct : Value} {an : Option Addr} (hd : dV = .none) : ∀ f ∈ ([⟨4, [], [0, 1, 2, 3], false⟩, ⟨1, ["places", "lefts", "rights"], [0, 3, 2, 1], false⟩] : List Fm), FmOk (PySem.W.fnOf "__init__" "Way.__init__" (defArgs (inClass (top 9) 2)) (defBody (inClass (top 9) 2)) (defScope (inClass (top 9) 2)) dV kV doc pm an cd ct) ["self", "rights", "lefts", "places"] f := by
  subst hd
  exact Each.mem ⟨(by unfold FmOk; rw [if_neg (by decide)]; exact ⟨rfl, fun us zs xs hu hz hp => by match us, zs, hu, hz with
    | [_, _, _, _], [], _, _ => cases hp; rfl⟩), (by unfold FmOk; rw [if_neg (by decide)]; exact ⟨rfl, fun us zs xs hu hz hp => by match us, zs, hu, hz with
    | [_], [_, _, _], _, _ => cases hp; rfl⟩), trivial⟩
theorem e_Way_is_size : embZs prg.toPs n_Way_is_size (defScope (inClass (top 9) 3)) b_Way_is_size (defBody (inClass (top 9) 3)) = true := by decide +kernel
theorem s_Way_is_size : FnScope n_Way_is_size ["rights", "lefts", "places"] (defScope (inClass (top 9) 3)) := ⟨rfl, rfl, rfl, by decide +kernel, rfl, by decide +kernel, by decide +kernel⟩
theorem f_Way_is_size {dV : Value} {kV doc pm cd ct : Value} {an : Option Addr} (hd : dV = .none) : ∀ f ∈ ([⟨3, [], [0, 1, 2], false⟩, ⟨0, ["places", "lefts", "rights"], [2, 1, 0], false⟩] : List Fm), FmOk (PySem.W.fnOf "is_size" "Way.is_size" (defArgs (inClass (top 9) 3)) (defBody (inClass (top 9) 3)) (defScope (inClass (top 9) 3)) dV kV doc pm an cd ct) ["rights", "lefts", "places"] f := by
  subst hd
  exact Each.mem ⟨(by unfold FmOk; rw [if_neg (by decide)]; exact ⟨rfl, fun us zs xs hu hz hp => by match us, zs, hu, hz with
    | [_, _, _], [], _, _ => cases hp; rfl⟩), (by unfold FmOk; rw [if_neg (by decide)]; exact ⟨rfl, fun us zs xs hu hz hp => by match us, zs, hu, hz with
    | [], [_, _, _], _, _ => cases hp; rfl⟩), trivial⟩
theorem e_Way_square : embZs prg.toPs n_Way_square (defScope (inClass (top 9) 4)) b_Way_square (defBody (inClass (top 9) 4)) = true := by decide +kernel
theorem s_Way_square : FnScope n_Way_square ["cls", "walkers"] (defScope (inClass (top 9) 4)) := ⟨rfl, rfl, rfl, by decide +kernel, rfl, by decide +kernel, by decide +kernel⟩
theorem f_Way_square {dV : Value} {kV doc pm cd ct : Value} {an : Option Addr} (hd : dV = .none) : ∀ f ∈ ([⟨2, [], [0, 1], false⟩, ⟨1, ["walkers"], [0, 1], false⟩] : List Fm), FmOk (PySem.W.fnOf "square" "Way.square" (defArgs (inClass (top 9) 4)) (defBody (inClass (top 9) 4)) (defScope (inClass (top 9) 4)) dV kV doc pm an cd ct) ["cls", "walkers"] f := by
  subst hd
  exact Each.mem ⟨(by unfold FmOk; rw [if_neg (by decide)]; exact ⟨rfl, fun us zs xs hu hz hp => by match us, zs, hu, hz with
    | [_, _], [], _, _ => cases hp; rfl⟩), (by unfold FmOk; rw [if_neg (by decide)]; exact ⟨rfl, fun us zs xs hu hz hp => by match us, zs, hu, hz with
    | [_], [_], _, _ => cases hp; rfl⟩), trivial⟩
theorem e_Way_rights : embZs prg.toPs n_Way_rights (defScope (inClass (top 9) 5)) b_Way_rights (defBody (inClass (top 9) 5)) = true := by decide +kernel
theorem s_Way_rights : FnScope n_Way_rights ["self"] (defScope (inClass (top 9) 5)) := ⟨rfl, rfl, rfl, by decide +kernel, rfl, by decide +kernel, by decide +kernel⟩
theorem f_Way_rights {dV : Value} {kV doc pm cd ct : Value} {an : Option Addr} (hd : dV = .none) : ∀ f ∈ ([⟨1, [], [0], false⟩] : List Fm), FmOk (PySem.W.fnOf "rights" "Way.rights" (defArgs (inClass (top 9) 5)) (defBody (inClass (top 9) 5)) (defScope (inClass (top 9) 5)) dV kV doc pm an cd ct) ["self"] f := by
  subst hd
  exact Each.mem ⟨(by unfold FmOk; rw [if_neg (by decide)]; exact ⟨rfl, fun us zs xs hu hz hp => by match us, zs, hu, hz with
    | [_], [], _, _ => cases hp; rfl⟩), trivial⟩
theorem e_Way_lefts : embZs prg.toPs n_Way_lefts (defScope (inClass (top 9) 6)) b_Way_lefts (defBody (inClass (top 9) 6)) = true := by decide +kernel
theorem s_Way_lefts : FnScope n_Way_lefts ["self"] (defScope (inClass (top 9) 6)) := ⟨rfl, rfl, rfl, by decide +kernel, rfl, by decide +kernel, by decide +kernel⟩
theorem f_Way_lefts {dV : Value} {kV doc pm cd ct : Value} {an : Option Addr} (hd : dV = .none) : ∀ f ∈ ([⟨1, [], [0], false⟩] : List Fm), FmOk (PySem.W.fnOf "lefts" "Way.lefts" (defArgs (inClass (top 9) 6)) (defBody (inClass (top 9) 6)) (defScope (inClass (top 9) 6)) dV kV doc pm an cd ct) ["self"] f := by
  subst hd
  exact Each.mem ⟨(by unfold FmOk; rw [if_neg (by decide)]; exact ⟨rfl, fun us zs xs hu hz hp => by match us, zs, hu, hz with
    | [_], [], _, _ => cases hp; rfl⟩), trivial⟩
theorem e_Way_places : embZs prg.toPs n_Way_places (defScope (inClass (top 9) 7)) b_Way_places (defBody (inClass (top 9) 7)) = true := by decide +kernel
theorem s_Way_places : FnScope n_Way_places ["self"] (defScope (inClass (top 9) 7)) := ⟨rfl, rfl, rfl, by decide +kernel, rfl, by decide +kernel, by decide +kernel⟩
theorem f_Way_places {dV : Value} {kV doc pm cd ct : Value} {an : Option Addr} (hd : dV = .none) : ∀ f ∈ ([⟨1, [], [0], false⟩] : List Fm), FmOk (PySem.W.fnOf "places" "Way.places" (defArgs (inClass (top 9) 7)) (defBody (inClass (top 9) 7)) (defScope (inClass (top 9) 7)) dV kV doc pm an cd ct) ["self"] f := by
  subst hd
  exact Each.mem ⟨(by unfold FmOk; rw [if_neg (by decide)]; exact ⟨rfl, fun us zs xs hu hz hp => by match us, zs, hu, hz with
    | [_], [], _, _ => cases hp; rfl⟩), trivial⟩
theorem e_Way___len__ : embZs prg.toPs n_Way___len__ (defScope (inClass (top 9) 9)) b_Way___len__ (defBody (inClass (top 9) 9)) = true := by decide +kernel
theorem s_Way___len__ : FnScope n_Way___len__ ["self"] (defScope (inClass (top 9) 9)) := ⟨rfl, rfl, rfl, by decide +kernel, rfl, by decide +kernel, by decide +kernel⟩
theorem f_Way___len__ {dV : Value} {kV doc pm cd ct : Value} {an : Option Addr} (hd : dV = .none) : ∀ f ∈ ([⟨1, [], [0], false⟩] : List Fm), FmOk (PySem.W.fnOf "__len__" "Way.__len__" (defArgs (inClass (top 9) 9)) (defBody (inClass (top 9) 9)) (defScope (inClass (top 9) 9)) dV kV doc pm an cd ct) ["self"] f := by
  subst hd
  exact Each.mem ⟨(by unfold FmOk; rw [if_neg (by decide)]; exact ⟨rfl, fun us zs xs hu hz hp => by match us, zs, hu, hz with
    | [_], [], _, _ => cases hp; rfl⟩), trivial⟩
theorem e_Way___eq__ : embZs prg.toPs n_Way___eq__ (defScope (inClass (top 9) 10)) b_Way___eq__ (defBody (inClass (top 9) 10)) = true := by decide +kernel
theorem s_Way___eq__ : FnScope n_Way___eq__ ["self", "other"] (defScope (inClass (top 9) 10)) := ⟨rfl, rfl, rfl, by decide +kernel, rfl, by decide +kernel, by decide +kernel⟩
theorem f_Way___eq__ {dV : Value} {kV doc pm cd ct : Value} {an : Option Addr} (hd : dV = .none) : ∀ f ∈ ([⟨2, [], [0, 1], false⟩] : List Fm), FmOk (PySem.W.fnOf "__eq__" "Way.__eq__" (defArgs (inClass (top 9) 10)) (defBody (inClass (top 9) 10)) (defScope (inClass (top 9) 10)) dV kV doc pm an cd ct) ["self", "other"] f := by
  subst hd
  exact Each.mem ⟨(by unfold FmOk; rw [if_neg (by decide)]; exact ⟨rfl, fun us zs xs hu hz hp => by match us, zs, hu, hz with
    | [_, _], [], _, _ => cases hp; rfl⟩), trivial⟩
theorem e_Way_need_pair : embZs prg.toPs n_Way_need_pair (defScope (inClass (top 9) 11)) b_Way_need_pair (defBody (inClass (top 9) 11)) = true := by decide +kernel
theorem s_Way_need_pair : FnScope n_Way_need_pair ["self", "right", "left"] (defScope (inClass (top 9) 11)) := ⟨rfl, rfl, rfl, by decide +kernel, rfl, by decide +kernel, by decide +kernel⟩
theorem f_Way_need_pair {dV : Value} {kV doc pm cd ct : Value} {an : Option Addr} (hd : dV = .none) : ∀ f ∈ ([⟨3, [], [0, 1, 2], false⟩] : List Fm), FmOk (PySem.W.fnOf "need_pair" "Way.need_pair" (defArgs (inClass (top 9) 11)) (defBody (inClass (top 9) 11)) (defScope (inClass (top 9) 11)) dV kV doc pm an cd ct) ["self", "right", "left"] f := by
  subst hd
  exact Each.mem ⟨(by unfold FmOk; rw [if_neg (by decide)]; exact ⟨rfl, fun us zs xs hu hz hp => by match us, zs, hu, hz with
    | [_, _, _], [], _, _ => cases hp; rfl⟩), trivial⟩
theorem e_Way_allowed : embZs prg.toPs n_Way_allowed (defScope (inClass (top 9) 13)) b_Way_allowed (defBody (inClass (top 9) 13)) = true := by decide +kernel
theorem s_Way_allowed : FnScope n_Way_allowed ["self", "right", "left"] (defScope (inClass (top 9) 13)) := ⟨rfl, rfl, rfl, by decide +kernel, rfl, by decide +kernel, by decide +kernel⟩
theorem f_Way_allowed {dV : Value} {kV doc pm cd ct : Value} {an : Option Addr} (hd : dV = .none) : ∀ f ∈ ([⟨3, [], [0, 1, 2], false⟩] : List Fm), FmOk (PySem.W.fnOf "allowed" "Way.allowed" (defArgs (inClass (top 9) 13)) (defBody (inClass (top 9) 13)) (defScope (inClass (top 9) 13)) dV kV doc pm an cd ct) ["self", "right", "left"] f := by
  subst hd
  exact Each.mem ⟨(by unfold FmOk; rw [if_neg (by decide)]; exact ⟨rfl, fun us zs xs hu hz hp => by match us, zs, hu, hz with
    | [_, _, _], [], _, _ => cases hp; rfl⟩), trivial⟩
def sg (K : PySem.W.Frag) (C0 C1 : Addr) (tb : List (Addr × Str)) : Sig := { K := K, ca := fun c => [C0, C1].getD c C0, fn := nameOf nms, fi := nameOf_inj nms_nd nms_sz, tb := tb, lam := lamR mo le }
theorem mk {P : Program} {q : Program} {w : World} {K : PySem.W.Frag} {h : Heap} {mg : Str → Option Value} {fa0 : Addr} (X : K.In h) (G : h.Ns mainGlobals mg) (tt : TopTabs q K h) (hfa : mg "law" = some (.ref fa0))
    (hrq : ((recsOf q).any fun e => e.name == ("_law_checked" : Str)) = true ∧ ((recsOf q).any fun e => e.name == ("_law_by_names" : Str)) = true ∧ ((recsOf q).any fun e => e.name == ("_law_square_right" : Str)) = true ∧ ((recsOf q).any fun e => e.name == ("_law_doubled_right" : Str)) = true)
    {C0 : Addr} {t0_3 : Tok} {t0_4 : Tok} {mc0 : Value} {f0 : Addr} {od0 an0 : Option Addr} {sl0 : Array (Option Value)} {oc0 kV0 dc0 pm0 cd0 ct0 : Value} {f1 : Addr} {od1 an1 : Option Addr} {sl1 : Array (Option Value)} {oc1 kV1 dc1 pm1 cd1 ct1 : Value} {f2 : Addr} {od2 an2 : Option Addr} {sl2 : Array (Option Value)} {oc2 kV2 dc2 pm2 cd2 ct2 : Value} {f3 : Addr} {od3 an3 : Option Addr} {sl3 : Array (Option Value)} {oc3 kV3 dc3 pm3 cd3 ct3 : Value} {f4 : Addr} {od4 an4 : Option Addr} {sl4 : Array (Option Value)} {oc4 kV4 dc4 pm4 cd4 ct4 : Value} {f5 : Addr} {od5 an5 : Option Addr} {sl5 : Array (Option Value)} {oc5 kV5 dc5 pm5 cd5 ct5 : Value} {f6 : Addr} {od6 an6 : Option Addr} {sl6 : Array (Option Value)} {oc6 kV6 dc6 pm6 cd6 ct6 : Value} {f7 : Addr} {od7 an7 : Option Addr} {sl7 : Array (Option Value)} {oc7 kV7 dc7 pm7 cd7 ct7 : Value} {f8 : Addr} {od8 an8 : Option Addr} {sl8 : Array (Option Value)} {oc8 kV8 dc8 pm8 cd8 ct8 : Value} {f9 : Addr} {od9 an9 : Option Addr} {sl9 : Array (Option Value)} {oc9 kV9 dc9 pm9 cd9 ct9 : Value} {f10 : Addr} {od10 an10 : Option Addr} {sl10 : Array (Option Value)} {oc10 kV10 dc10 pm10 cd10 ct10 : Value} {f11 : Addr} {od11 an11 : Option Addr} {sl11 : Array (Option Value)} {oc11 kV11 dc11 pm11 ct11 : Value} {cc11 P11 : Addr} {tc11 : Value} {td11 : Option Addr} {tv11 : Array Value} {ts11 : Array (Option Value)} {f12 : Addr} {od12 an12 : Option Addr} {sl12 : Array (Option Value)} {oc12 kV12 dc12 pm12 ct12 : Value} {cc12 P12 : Addr} {tc12 : Value} {td12 : Option Addr} {tv12 : Array Value} {ts12 : Array (Option Value)} {f13 : Addr} {od13 an13 : Option Addr} {sl13 : Array (Option Value)} {oc13 kV13 dc13 pm13 ct13 : Value} {cc13 P13 : Addr} {tc13 : Value} {td13 : Option Addr} {tv13 : Array Value} {ts13 : Array (Option Value)} {f14 : Addr} {od14 an14 : Option Addr} {sl14 : Array (Option Value)} {oc14 kV14 dc14 pm14 ct14 : Value} {cc14 P14 : Addr} {tc14 : Value} {td14 : Option Addr} {tv14 : Array Value} {ts14 : Array (Option Value)} {f15 : Addr} {od15 an15 : Option Addr} {sl15 : Array (Option Value)} {oc15 kV15 dc15 pm15 cd15 ct15 : Value} {f16 : Addr} {od16 an16 : Option Addr} {sl16 : Array (Option Value)} {oc16 kV16 dc16 pm16 cd16 ct16 : Value} {f17 : Addr} {od17 an17 : Option Addr} {sl17 : Array (Option Value)} {oc17 kV17 dc17 pm17 cd17 ct17 : Value} {p17 : Addr} {rs17 : List Value} {f18 : Addr} {od18 an18 : Option Addr} {sl18 : Array (Option Value)} {oc18 kV18 dc18 pm18 cd18 ct18 : Value} {p18 : Addr} {rs18 : List Value} {f19 : Addr} {od19 an19 : Option Addr} {sl19 : Array (Option Value)} {oc19 kV19 dc19 pm19 cd19 ct19 : Value} {p19 : Addr} {rs19 : List Value} {f20 : Addr} {od20 an20 : Option Addr} {sl20 : Array (Option Value)} {oc20 kV20 dc20 pm20 cd20 ct20 : Value} {p20 : Addr} {rs20 : List Value} {f21 : Addr} {od21 an21 : Option Addr} {sl21 : Array (Option Value)} {oc21 kV21 dc21 pm21 cd21 ct21 : Value} {p21 : Addr} {rs21 : List Value} {f22 : Addr} {od22 an22 : Option Addr} {sl22 : Array (Option Value)} {oc22 kV22 dc22 pm22 cd22 ct22 : Value} {f23 : Addr} {od23 an23 : Option Addr} {sl23 : Array (Option Value)} {oc23 kV23 dc23 pm23 cd23 ct23 : Value} {f24 : Addr} {od24 an24 : Option Addr} {sl24 : Array (Option Value)} {oc24 kV24 dc24 pm24 cd24 ct24 : Value} {f25 : Addr} {od25 an25 : Option Addr} {sl25 : Array (Option Value)} {oc25 kV25 dc25 pm25 cd25 ct25 : Value} {B_PassplacesError : Addr} {bc_PassplacesError : Value} {C1 I1 : Addr} {od1_ an1_ : Option Addr} {sl1_ : Array (Option Value)} {oc1_ kV1_ dc1_ pm1_ cd1_ ct1_ : Value}
    (aC0 : PySem.W.nsIn K mainGlobals "Way" = some (some (.ref C0)))
    (pg0 : PySem.W.plainGet K C0 Str.empty = true)
    (hd0 : PySem.W.hasDictIn K C0 = true)
    (po0 : PySem.W.plainOver K C0 = true)
    (sa0 : PySem.W.findIn K (.ref C0) "__setattr__" = some (some (.builtin "object.__setattr__")))
    (mk0 : PySem.W.makesIn K C0 = true)
    (kc0 : PySem.W.keepIn K (.ref C0) = true)
    (ha0 : PySem.W.findIn K (.ref C0) "__class__" = some (some (.builtin "object.__class__")))
    (hm0 : PySem.W.mroIn K C0 (.type "object") = some true)
    (su0 : PySem.W.subIn K (.ref C0) (.type "object") = some true)
    (nf0_5 : PySem.W.findIn K (.ref C0) "size" = some none)
    (nf0_6 : PySem.W.findIn K (.ref C0) "lists" = some none)
    (co0_3 : PySem.W.findIn K (.ref C0) "MAX_WALKERS" = some (some (.int 6 t0_3)))
    (cg0_3 : PySem.W.specialIn K ((.int 6 t0_3) : Value) "__get__" = some none)
    (co0_4 : PySem.W.findIn K (.ref C0) "MAX_PLACES" = some (some (.int 12 t0_4)))
    (cg0_4 : PySem.W.specialIn K ((.int 12 t0_4) : Value) "__get__" = some none)
    (rd0 : PySem.W.readsIn K C0 mc0 = true)
    (ga0 : PySem.W.specialIn K (.ref C0) "__getattribute__" = some (some (.builtin "type.__getattribute__")))
    (cv0_3 : PySem.W.findCls K (.ref C0) mc0 "MAX_WALKERS" = some (.val (.int 6 t0_3)))
    (cv0_4 : PySem.W.findCls K (.ref C0) mc0 "MAX_PLACES" = some (.val (.int 12 t0_4)))
    (ne0 : PySem.W.findIn K (.ref C0) "__ne__" = some (some (.builtin "object.__ne__")))
    (hn : PySem.W.specialIn K (.builtin "object.__class__") "__get__" = some (some (.builtin "getset_descriptor.__get__")))
    (htk : PySem.W.takesIn K (.builtin "object.__class__") = some true)
    (a0 : PySem.W.nsIn K mainGlobals "is_integer" = some (some (.ref f0)))
    (l0 : K.lookup f0 = some ⟨oc0, od0, .func (PySem.W.fnOf "is_integer" "is_integer" (defArgs (top 6)) (defBody (top 6)) (defScope (top 6)) .none kV0 dc0 pm0 an0 cd0 ct0), sl0⟩)
    (c0 : PySem.W.codeIn K cd0 "is_integer" = true)
    (k0 : PySem.W.keepIn K (.ref f0) = true)
    (a1 : PySem.W.nsIn K mainGlobals "is_below" = some (some (.ref f1)))
    (l1 : K.lookup f1 = some ⟨oc1, od1, .func (PySem.W.fnOf "is_below" "is_below" (defArgs (top 7)) (defBody (top 7)) (defScope (top 7)) .none kV1 dc1 pm1 an1 cd1 ct1), sl1⟩)
    (c1 : PySem.W.codeIn K cd1 "is_below" = true)
    (k1 : PySem.W.keepIn K (.ref f1) = true)
    (a2 : PySem.W.nsIn K mainGlobals "problem_of" = some (some (.ref f2)))
    (l2 : K.lookup f2 = some ⟨oc2, od2, .func (PySem.W.fnOf "problem_of" "problem_of" (defArgs (top 8)) (defBody (top 8)) (defScope (top 8)) .none kV2 dc2 pm2 an2 cd2 ct2), sl2⟩)
    (c2 : PySem.W.codeIn K cd2 "problem_of" = true)
    (k2 : PySem.W.keepIn K (.ref f2) = true)
    (a3 : PySem.W.nsIn K mainGlobals "_law_mixed" = some (some (.ref f3)))
    (l3 : K.lookup f3 = some ⟨oc3, od3, .func (PySem.W.fnOf "_law_mixed" "_law_mixed" (defArgs (top 11)) (defBody (top 11)) (defScope (top 11)) .none kV3 dc3 pm3 an3 cd3 ct3), sl3⟩)
    (c3 : PySem.W.codeIn K cd3 "_law_mixed" = true)
    (k3 : PySem.W.keepIn K (.ref f3) = true)
    (a4 : PySem.W.nsIn K mainGlobals "_law_folded" = some (some (.ref f4)))
    (l4 : K.lookup f4 = some ⟨oc4, od4, .func (PySem.W.fnOf "_law_folded" "_law_folded" (defArgs (top 12)) (defBody (top 12)) (defScope (top 12)) .none kV4 dc4 pm4 an4 cd4 ct4), sl4⟩)
    (c4 : PySem.W.codeIn K cd4 "_law_folded" = true)
    (k4 : PySem.W.keepIn K (.ref f4) = true)
    (a5 : PySem.W.nsIn K mainGlobals "_law_draw" = some (some (.ref f5)))
    (l5 : K.lookup f5 = some ⟨oc5, od5, .func (PySem.W.fnOf "_law_draw" "_law_draw" (defArgs (top 13)) (defBody (top 13)) (defScope (top 13)) .none kV5 dc5 pm5 an5 cd5 ct5), sl5⟩)
    (c5 : PySem.W.codeIn K cd5 "_law_draw" = true)
    (k5 : PySem.W.keepIn K (.ref f5) = true)
    (a6 : PySem.W.nsIn K mainGlobals "_law_begun" = some (some (.ref f6)))
    (l6 : K.lookup f6 = some ⟨oc6, od6, .func (PySem.W.fnOf "_law_begun" "_law_begun" (defArgs (top 14)) (defBody (top 14)) (defScope (top 14)) .none kV6 dc6 pm6 an6 cd6 ct6), sl6⟩)
    (c6 : PySem.W.codeIn K cd6 "_law_begun" = true)
    (k6 : PySem.W.keepIn K (.ref f6) = true)
    (a7 : PySem.W.nsIn K mainGlobals "_law_doubled" = some (some (.ref f7)))
    (l7 : K.lookup f7 = some ⟨oc7, od7, .func (PySem.W.fnOf "_law_doubled" "_law_doubled" (defArgs (top 15)) (defBody (top 15)) (defScope (top 15)) .none kV7 dc7 pm7 an7 cd7 ct7), sl7⟩)
    (c7 : PySem.W.codeIn K cd7 "_law_doubled" = true)
    (k7 : PySem.W.keepIn K (.ref f7) = true)
    (a8 : PySem.W.nsIn K mainGlobals "_law_is_from" = some (some (.ref f8)))
    (l8 : K.lookup f8 = some ⟨oc8, od8, .func (PySem.W.fnOf "_law_is_from" "_law_is_from" (defArgs (top 16)) (defBody (top 16)) (defScope (top 16)) .none kV8 dc8 pm8 an8 cd8 ct8), sl8⟩)
    (c8 : PySem.W.codeIn K cd8 "_law_is_from" = true)
    (k8 : PySem.W.keepIn K (.ref f8) = true)
    (a9 : PySem.W.nsIn K mainGlobals "_law_due" = some (some (.ref f9)))
    (l9 : K.lookup f9 = some ⟨oc9, od9, .func (PySem.W.fnOf "_law_due" "_law_due" (defArgs (top 17)) (defBody (top 17)) (defScope (top 17)) .none kV9 dc9 pm9 an9 cd9 ct9), sl9⟩)
    (c9 : PySem.W.codeIn K cd9 "_law_due" = true)
    (k9 : PySem.W.keepIn K (.ref f9) = true)
    (a10 : PySem.W.nsIn K mainGlobals "_law_part" = some (some (.ref f10)))
    (l10 : K.lookup f10 = some ⟨oc10, od10, .func (PySem.W.fnOf "_law_part" "_law_part" (defArgs (top 18)) (defBody (top 18)) (defScope (top 18)) .none kV10 dc10 pm10 an10 cd10 ct10), sl10⟩)
    (c10 : PySem.W.codeIn K cd10 "_law_part" = true)
    (k10 : PySem.W.keepIn K (.ref f10) = true)
    (a11 : PySem.W.nsIn K mainGlobals "_law_checked" = some (some (.ref f11)))
    (l11 : K.lookup f11 = some ⟨oc11, od11, .func (PySem.W.fnOf "_law_checked" "_law_checked" (defArgs (top 19)) (defBody (top 19)) (defScope (top 19)) .none kV11 dc11 pm11 an11 (.ref cc11) ct11), sl11⟩)
    (c11 : PySem.W.codeIn K (.ref cc11) "_law_checked" = true)
    (lc11 : K.lookup cc11 = some ⟨tc11, td11, .fields tv11, ts11⟩)
    (pc11 : tv11[11]? = some (.ref P11))
    (nk11 : K.lookup P11 = none)
    (k11 : PySem.W.keepIn K (.ref f11) = true)
    (a12 : PySem.W.nsIn K mainGlobals "_law_by_names" = some (some (.ref f12)))
    (l12 : K.lookup f12 = some ⟨oc12, od12, .func (PySem.W.fnOf "_law_by_names" "_law_by_names" (defArgs (top 20)) (defBody (top 20)) (defScope (top 20)) .none kV12 dc12 pm12 an12 (.ref cc12) ct12), sl12⟩)
    (c12 : PySem.W.codeIn K (.ref cc12) "_law_by_names" = true)
    (lc12 : K.lookup cc12 = some ⟨tc12, td12, .fields tv12, ts12⟩)
    (pc12 : tv12[11]? = some (.ref P12))
    (nk12 : K.lookup P12 = none)
    (k12 : PySem.W.keepIn K (.ref f12) = true)
    (a13 : PySem.W.nsIn K mainGlobals "_law_square_right" = some (some (.ref f13)))
    (l13 : K.lookup f13 = some ⟨oc13, od13, .func (PySem.W.fnOf "_law_square_right" "_law_square_right" (defArgs (top 21)) (defBody (top 21)) (defScope (top 21)) .none kV13 dc13 pm13 an13 (.ref cc13) ct13), sl13⟩)
    (c13 : PySem.W.codeIn K (.ref cc13) "_law_square_right" = true)
    (lc13 : K.lookup cc13 = some ⟨tc13, td13, .fields tv13, ts13⟩)
    (pc13 : tv13[11]? = some (.ref P13))
    (nk13 : K.lookup P13 = none)
    (k13 : PySem.W.keepIn K (.ref f13) = true)
    (a14 : PySem.W.nsIn K mainGlobals "_law_doubled_right" = some (some (.ref f14)))
    (l14 : K.lookup f14 = some ⟨oc14, od14, .func (PySem.W.fnOf "_law_doubled_right" "_law_doubled_right" (defArgs (top 22)) (defBody (top 22)) (defScope (top 22)) .none kV14 dc14 pm14 an14 (.ref cc14) ct14), sl14⟩)
    (c14 : PySem.W.codeIn K (.ref cc14) "_law_doubled_right" = true)
    (lc14 : K.lookup cc14 = some ⟨tc14, td14, .fields tv14, ts14⟩)
    (pc14 : tv14[11]? = some (.ref P14))
    (nk14 : K.lookup P14 = none)
    (k14 : PySem.W.keepIn K (.ref f14) = true)
    (a15 : PySem.W.nsIn K mainGlobals "law" = some (some (.ref f15)))
    (l15 : K.lookup f15 = some ⟨oc15, od15, .func (PySem.W.fnOf "law" "law" (defArgs (top 23)) (defBody (top 23)) (defScope (top 23)) .none kV15 dc15 pm15 an15 cd15 ct15), sl15⟩)
    (c15 : PySem.W.codeIn K cd15 "law" = true)
    (k15 : PySem.W.keepIn K (.ref f15) = true)
    (a16 : PySem.W.findIn K (.ref C0) "__init__" = some (some (.ref f16)))
    (l16 : K.lookup f16 = some ⟨oc16, od16, .func (PySem.W.fnOf "__init__" "Way.__init__" (defArgs (inClass (top 9) 2)) (defBody (inClass (top 9) 2)) (defScope (inClass (top 9) 2)) .none kV16 dc16 pm16 an16 cd16 ct16), sl16⟩)
    (c16 : PySem.W.codeIn K cd16 "Way.__init__" = true)
    (i16 : PySem.W.isFn K (.ref f16) = true)
    (k16 : PySem.W.keepIn K (.ref f16) = true)
    (a17 : PySem.W.findIn K (.ref C0) "is_size" = some (some (.ref p17)))
    (sc17 : PySem.W.findCls K (.ref C0) mc0 "is_size" = some (.get (.builtin "staticmethod.__get__") (.ref p17) .none (.ref C0)))
    (r17 : PySem.W.recIn K p17 "staticmethod" = some (.ref f17 :: rs17))
    (y17 : PySem.W.typeIn K (.ref p17) = some (.type "staticmethod"))
    (g17 : PySem.W.specialIn K (.ref p17) "__get__" = some (some (.builtin "staticmethod.__get__")))
    (t17 : PySem.W.takesIn K (.ref p17) = some false)
    (l17 : K.lookup f17 = some ⟨oc17, od17, .func (PySem.W.fnOf "is_size" "Way.is_size" (defArgs (inClass (top 9) 3)) (defBody (inClass (top 9) 3)) (defScope (inClass (top 9) 3)) .none kV17 dc17 pm17 an17 cd17 ct17), sl17⟩)
    (c17 : PySem.W.codeIn K cd17 "Way.is_size" = true)
    (k17 : PySem.W.keepIn K (.ref f17) = true)
    (a18 : PySem.W.findIn K (.ref C0) "square" = some (some (.ref p18)))
    (sc18 : PySem.W.findCls K (.ref C0) mc0 "square" = some (.get (.builtin "classmethod.__get__") (.ref p18) .none (.ref C0)))
    (r18 : PySem.W.recIn K p18 "classmethod" = some (.ref f18 :: rs18))
    (y18 : PySem.W.typeIn K (.ref p18) = some (.type "classmethod"))
    (g18 : PySem.W.specialIn K (.ref p18) "__get__" = some (some (.builtin "classmethod.__get__")))
    (t18 : PySem.W.takesIn K (.ref p18) = some false)
    (fi18 : PySem.W.fnIn K f18 = true)
    (l18 : K.lookup f18 = some ⟨oc18, od18, .func (PySem.W.fnOf "square" "Way.square" (defArgs (inClass (top 9) 4)) (defBody (inClass (top 9) 4)) (defScope (inClass (top 9) 4)) .none kV18 dc18 pm18 an18 cd18 ct18), sl18⟩)
    (c18 : PySem.W.codeIn K cd18 "Way.square" = true)
    (k18 : PySem.W.keepIn K (.ref f18) = true)
    (a19 : PySem.W.findIn K (.ref C0) "rights" = some (some (.ref p19)))
    (g19 : PySem.W.specialIn K (.ref p19) "__get__" = some (some (.builtin "property.__get__")))
    (t19 : PySem.W.takesIn K (.ref p19) = some true)
    (r19 : PySem.W.recIn K p19 "property" = some (.ref f19 :: rs19))
    (l19 : K.lookup f19 = some ⟨oc19, od19, .func (PySem.W.fnOf "rights" "Way.rights" (defArgs (inClass (top 9) 5)) (defBody (inClass (top 9) 5)) (defScope (inClass (top 9) 5)) .none kV19 dc19 pm19 an19 cd19 ct19), sl19⟩)
    (c19 : PySem.W.codeIn K cd19 "Way.rights" = true)
    (a20 : PySem.W.findIn K (.ref C0) "lefts" = some (some (.ref p20)))
    (g20 : PySem.W.specialIn K (.ref p20) "__get__" = some (some (.builtin "property.__get__")))
    (t20 : PySem.W.takesIn K (.ref p20) = some true)
    (r20 : PySem.W.recIn K p20 "property" = some (.ref f20 :: rs20))
    (l20 : K.lookup f20 = some ⟨oc20, od20, .func (PySem.W.fnOf "lefts" "Way.lefts" (defArgs (inClass (top 9) 6)) (defBody (inClass (top 9) 6)) (defScope (inClass (top 9) 6)) .none kV20 dc20 pm20 an20 cd20 ct20), sl20⟩)
    (c20 : PySem.W.codeIn K cd20 "Way.lefts" = true)
    (a21 : PySem.W.findIn K (.ref C0) "places" = some (some (.ref p21)))
    (g21 : PySem.W.specialIn K (.ref p21) "__get__" = some (some (.builtin "property.__get__")))
    (t21 : PySem.W.takesIn K (.ref p21) = some true)
    (r21 : PySem.W.recIn K p21 "property" = some (.ref f21 :: rs21))
    (l21 : K.lookup f21 = some ⟨oc21, od21, .func (PySem.W.fnOf "places" "Way.places" (defArgs (inClass (top 9) 7)) (defBody (inClass (top 9) 7)) (defScope (inClass (top 9) 7)) .none kV21 dc21 pm21 an21 cd21 ct21), sl21⟩)
    (c21 : PySem.W.codeIn K cd21 "Way.places" = true)
    (a22 : PySem.W.findIn K (.ref C0) "__len__" = some (some (.ref f22)))
    (l22 : K.lookup f22 = some ⟨oc22, od22, .func (PySem.W.fnOf "__len__" "Way.__len__" (defArgs (inClass (top 9) 9)) (defBody (inClass (top 9) 9)) (defScope (inClass (top 9) 9)) .none kV22 dc22 pm22 an22 cd22 ct22), sl22⟩)
    (c22 : PySem.W.codeIn K cd22 "Way.__len__" = true)
    (i22 : PySem.W.isFn K (.ref f22) = true)
    (k22 : PySem.W.keepIn K (.ref f22) = true)
    (a23 : PySem.W.findIn K (.ref C0) "__eq__" = some (some (.ref f23)))
    (l23 : K.lookup f23 = some ⟨oc23, od23, .func (PySem.W.fnOf "__eq__" "Way.__eq__" (defArgs (inClass (top 9) 10)) (defBody (inClass (top 9) 10)) (defScope (inClass (top 9) 10)) .none kV23 dc23 pm23 an23 cd23 ct23), sl23⟩)
    (c23 : PySem.W.codeIn K cd23 "Way.__eq__" = true)
    (i23 : PySem.W.isFn K (.ref f23) = true)
    (k23 : PySem.W.keepIn K (.ref f23) = true)
    (a24 : PySem.W.findIn K (.ref C0) "need_pair" = some (some (.ref f24)))
    (l24 : K.lookup f24 = some ⟨oc24, od24, .func (PySem.W.fnOf "need_pair" "Way.need_pair" (defArgs (inClass (top 9) 11)) (defBody (inClass (top 9) 11)) (defScope (inClass (top 9) 11)) .none kV24 dc24 pm24 an24 cd24 ct24), sl24⟩)
    (c24 : PySem.W.codeIn K cd24 "Way.need_pair" = true)
    (i24 : PySem.W.isFn K (.ref f24) = true)
    (k24 : PySem.W.keepIn K (.ref f24) = true)
    (a25 : PySem.W.findIn K (.ref C0) "allowed" = some (some (.ref f25)))
    (l25 : K.lookup f25 = some ⟨oc25, od25, .func (PySem.W.fnOf "allowed" "Way.allowed" (defArgs (inClass (top 9) 13)) (defBody (inClass (top 9) 13)) (defScope (inClass (top 9) 13)) .none kV25 dc25 pm25 an25 cd25 ct25), sl25⟩)
    (c25 : PySem.W.codeIn K cd25 "Way.allowed" = true)
    (i25 : PySem.W.isFn K (.ref f25) = true)
    (k25 : PySem.W.keepIn K (.ref f25) = true)
    (is0 : PySem.W.kitOne K (.type "NoneType") (.type "int") = some false)
    (is1 : PySem.W.kitOne K (.type "NoneType") (.type "bool") = some false)
    (is2 : PySem.W.kitOne K (.type "NoneType") (.ref C0) = some false)
    (is3 : PySem.W.kitOne K (.type "bool") (.type "int") = some true)
    (is4 : PySem.W.kitOne K (.type "bool") (.type "bool") = some true)
    (is5 : PySem.W.kitOne K (.type "bool") (.ref C0) = some false)
    (is6 : PySem.W.kitOne K (.type "int") (.type "int") = some true)
    (is7 : PySem.W.kitOne K (.type "int") (.type "bool") = some false)
    (is8 : PySem.W.kitOne K (.type "int") (.ref C0) = some false)
    (is9 : PySem.W.kitOne K (.type "str") (.type "int") = some false)
    (is10 : PySem.W.kitOne K (.type "str") (.type "bool") = some false)
    (is11 : PySem.W.kitOne K (.type "str") (.ref C0) = some false)
    (is12 : PySem.W.kitOne K (.type "tuple") (.type "int") = some false)
    (is13 : PySem.W.kitOne K (.type "tuple") (.type "bool") = some false)
    (is14 : PySem.W.kitOne K (.type "tuple") (.ref C0) = some false)
    (is15 : PySem.W.kitOne K (.type "list") (.type "int") = some false)
    (is16 : PySem.W.kitOne K (.type "list") (.type "bool") = some false)
    (is17 : PySem.W.kitOne K (.type "list") (.ref C0) = some false)
    (is18 : PySem.W.kitOne K (.type "dict") (.type "int") = some false)
    (is19 : PySem.W.kitOne K (.type "dict") (.type "bool") = some false)
    (is20 : PySem.W.kitOne K (.type "dict") (.ref C0) = some false)
    (is21 : PySem.W.kitOne K (.ref C0) (.type "int") = some false)
    (is22 : PySem.W.kitOne K (.ref C0) (.type "bool") = some false)
    (is23 : PySem.W.kitOne K (.ref C0) (.ref C0) = some true)
    (nt0_0 : PySem.W.notFirst K C0 (.type "NoneType") = true)
    (nt0_1 : PySem.W.notFirst K C0 (.type "bool") = true)
    (nt0_2 : PySem.W.notFirst K C0 (.type "int") = true)
    (nt0_3 : PySem.W.notFirst K C0 (.type "str") = true)
    (nt0_4 : PySem.W.notFirst K C0 (.type "tuple") = true)
    (nt0_5 : PySem.W.notFirst K C0 (.type "list") = true)
    (nt0_6 : PySem.W.notFirst K C0 (.type "dict") = true)
    (nt0_7 : PySem.W.notFirst K C0 (.ref C0) = true)
    (ic0 : PySem.W.isClsIn K C0 = true)
    (ab_PassplacesError : PySem.W.nsIn K mainGlobals "PassplacesError" = some (some (.ref B_PassplacesError)))
    (br_PassplacesError : PySem.W.readsIn K B_PassplacesError bc_PassplacesError = true)
    (bg_PassplacesError : PySem.W.specialIn K (.ref B_PassplacesError) "__getattribute__" = some (some (.builtin "type.__getattribute__")))
    (bi_PassplacesError : PySem.W.findCls K (.ref B_PassplacesError) bc_PassplacesError "__init__" = some (.val (.builtin "ValueError.__init__")))
    (aC1 : PySem.W.nsIn K mainGlobals "InvalidWay" = some (some (.ref C1)))
    (ox1 : oexB K C1 = true)
    (xb1 : xfB K C1 = true)
    (xi1 : PySem.W.findIn K (.ref C1) "__init__" = some (some (.ref I1)))
    (xy1 : PySem.W.typeIn K (.ref I1) = some (.type "function"))
    (xn1 : PySem.W.findIn K (.ref C1) "part" = some none)
    (xl1 : K.lookup I1 = some ⟨oc1_, od1_, .func (PySem.W.fnOf "__init__" "InvalidWay.__init__" (defArgs (inClass (top 3) 0)) (defBody (inClass (top 3) 0)) (defScope (inClass (top 3) 0)) .none kV1_ dc1_ pm1_ an1_ cd1_ ct1_), sl1_⟩)
    (xc1 : PySem.W.codeIn K cd1_ "InvalidWay.__init__" = true)
    (em0 : PySem.W.exmOne K (.ref C1) (.ref C1) = some true)
    (pnd : [P11, P12, P13, P14].Nodup)
    (b0 : PySem.W.nsIn K mainGlobals "bool" = some none)
    (b1 : PySem.W.nsIn K mainGlobals "enumerate" = some none)
    (b2 : PySem.W.nsIn K mainGlobals "int" = some none)
    (b3 : PySem.W.nsIn K mainGlobals "isinstance" = some none)
    (b4 : PySem.W.nsIn K mainGlobals "len" = some none)
    (b5 : PySem.W.nsIn K mainGlobals "range" = some none)
    (b6 : PySem.W.nsIn K mainGlobals "repr" = some none)
    (b7 : PySem.W.nsIn K mainGlobals "tuple" = some none)
    : ∃ (S : Sig) (k : Nat) (g : Fn) (cs : List (Addr × Addr)), (S.K = K ∧ (∀ p ∈ S.tb, p.1 ∈ cs.map (·.2)) ∧ ∀ a, S.cd a = none) ∧ Room k PySem.callerA ∧ TbOk K h cs ∧ (∀ base : Heap, K.In base → base.Ns mainGlobals mg → (∀ p ∈ cs, LamX.TabB base mg p.1 p.2) → Calls P w mg base S k fa0 g) ∧ g = lvl prg dfs 14 15 := by
  have e : f15 = fa0 := by
    have z := (PySem.W.mg_of X G a15).symm.trans hfa
    injection z with z
    injection z
  subst e
  have nm : Nms mg (sg K C0 C1 [(P11, (("_law_checked" : Str) ++ ".<locals>.") ++ "<lambda>"), (P12, (("_law_by_names" : Str) ++ ".<locals>.") ++ "<lambda>"), (P13, (("_law_square_right" : Str) ++ ".<locals>.") ++ "<lambda>"), (P14, (("_law_doubled_right" : Str) ++ ".<locals>.") ++ "<lambda>")]) prg (fun i => [f0, f1, f2, f3, f4, f5, f6, f7, f8, f9, f10, f11, f12, f13, f14, f15, f16, f17, f18, f19, f20, f21, f22, f23, f24, f25].getD i f0) := by
    refine ⟨rfl, ⟨?cls, ?fld, ?meth, ?prop, ?con, ?init⟩, ?gf, ?gc, ?blt, fun x d e => (by cases e), ⟨?isi, ?ins, ?eqm, ?nff, ?lenm⟩, ?gk, ?ccon, ?xf, ?xm, ?xi, ?cmo, ?imo, lam_nms, lamx_nms rfl⟩
    case cls =>
      intro c e
      match c, e with
      | 0, _ => exact ⟨pg0, hd0, po0, sa0⟩
      | n + 1, e => exact absurd (show n + 1 < 1 from of_decide_eq_true e) (by omega)
    case fld =>
      intro c f e
      have e : f ∈ flds.getD c [] := List.contains_iff_mem.mp (show (flds.getD c []).contains f = true from e)
      match c, e with
      | 0, e => exact Each.mem (l := [5, 6]) (P := fun f => NoAttr K C0 (nameOf nms f)) ⟨nf0_5, nf0_6, trivial⟩ f e
      | n + 1, e => cases e
    case meth =>
      intro c m f e
      match c, e with
      | 0, e => exact Each.mem (l := [(7, 24), (11, 25)]) (P := fun q : Nat × Nat => Meth K C0 (nameOf nms q.1) ([f0, f1, f2, f3, f4, f5, f6, f7, f8, f9, f10, f11, f12, f13, f14, f15, f16, f17, f18, f19, f20, f21, f22, f23, f24, f25].getD q.2 f0)) ⟨⟨a24, i24, k24⟩, ⟨a25, i25, k25⟩, trivial⟩ (m, f) (lookup_mem e)
      | n + 1, e => cases e
    case prop =>
      intro c m f e
      match c, e with
      | 0, e => exact Each.mem (l := [(8, 19), (9, 20), (10, 21)]) (P := fun q : Nat × Nat => ∃ pp, PropOf K C0 (nameOf nms q.1) pp ([f0, f1, f2, f3, f4, f5, f6, f7, f8, f9, f10, f11, f12, f13, f14, f15, f16, f17, f18, f19, f20, f21, f22, f23, f24, f25].getD q.2 f0)) ⟨⟨_, a19, g19, t19, _, r19⟩, ⟨_, a20, g20, t20, _, r20⟩, ⟨_, a21, g21, t21, _, r21⟩, trivial⟩ (m, f) (lookup_mem e)
      | n + 1, e => cases e
    case con =>
      intro c m d e
      match c, e with
      | 0, e => exact Each.mem (l := [(3, (.int 6)), (4, (.int 12))]) (P := fun q : Nat × D => ∃ v u, Con K C0 (nameOf nms q.1) v u ∧ ∀ F, Mi.IsD (sg K C0 C1 [(P11, (("_law_checked" : Str) ++ ".<locals>.") ++ "<lambda>"), (P12, (("_law_by_names" : Str) ++ ".<locals>.") ++ "<lambda>"), (P13, (("_law_square_right" : Str) ++ ".<locals>.") ++ "<lambda>"), (P14, (("_law_doubled_right" : Str) ++ ".<locals>.") ++ "<lambda>")]) F q.2 v) ⟨⟨.int 6, _, ⟨co0_3, ⟨_, rfl⟩, cg0_3, by decide +kernel⟩, fun F => by simp only [Mi.IsD]⟩, ⟨.int 12, _, ⟨co0_4, ⟨_, rfl⟩, cg0_4, by decide +kernel⟩, fun F => by simp only [Mi.IsD]⟩, trivial⟩ (m, d) (lookup_mem e)
      | n + 1, e => cases e
    case init =>
      intro c f e
      match c, e with
      | 0, e => cases e; exact ⟨mk0, a16, i16, kc0⟩
      | n + 1, e => cases e
    case gf =>
      intro f hf
      have hf : f < 16 := hf
      match f, hf with
      | 0, _ => exact ⟨PySem.W.mg_of X G a0, k0⟩
      | 1, _ => exact ⟨PySem.W.mg_of X G a1, k1⟩
      | 2, _ => exact ⟨PySem.W.mg_of X G a2, k2⟩
      | 3, _ => exact ⟨PySem.W.mg_of X G a3, k3⟩
      | 4, _ => exact ⟨PySem.W.mg_of X G a4, k4⟩
      | 5, _ => exact ⟨PySem.W.mg_of X G a5, k5⟩
      | 6, _ => exact ⟨PySem.W.mg_of X G a6, k6⟩
      | 7, _ => exact ⟨PySem.W.mg_of X G a7, k7⟩
      | 8, _ => exact ⟨PySem.W.mg_of X G a8, k8⟩
      | 9, _ => exact ⟨PySem.W.mg_of X G a9, k9⟩
      | 10, _ => exact ⟨PySem.W.mg_of X G a10, k10⟩
      | 11, _ => exact ⟨PySem.W.mg_of X G a11, k11⟩
      | 12, _ => exact ⟨PySem.W.mg_of X G a12, k12⟩
      | 13, _ => exact ⟨PySem.W.mg_of X G a13, k13⟩
      | 14, _ => exact ⟨PySem.W.mg_of X G a14, k14⟩
      | 15, _ => exact ⟨PySem.W.mg_of X G a15, k15⟩
      | n + 16, h => omega
    case gc =>
      intro c f e
      match c, e with
      | 0, e => exact PySem.W.mg_of X G aC0
      | n + 1, e => cases e
    case blt => exact Each.mem (P := fun x => mg x = none) ⟨PySem.W.mg_none_of X G b0, PySem.W.mg_none_of X G b1, PySem.W.mg_none_of X G b2, PySem.W.mg_none_of X G b3, PySem.W.mg_none_of X G b4, PySem.W.mg_none_of X G b5, PySem.W.mg_none_of X G b6, PySem.W.mg_none_of X G b7, trivial⟩
    case isi =>
      intro t u b e
      obtain ⟨q, hq, rfl⟩ := Option.map_eq_some_iff.mp e
      have hm := List.mem_of_find?_eq_some hq
      have hs := List.find?_some hq
      simp only [Bool.and_eq_true, decide_eq_true_eq] at hs
      obtain ⟨rfl, rfl⟩ := hs
      exact Each.mem (l := isis) (P := fun q : Ty × Ty × Bool => PySem.W.kitOne K (tyU (sg K C0 C1 [(P11, (("_law_checked" : Str) ++ ".<locals>.") ++ "<lambda>"), (P12, (("_law_by_names" : Str) ++ ".<locals>.") ++ "<lambda>"), (P13, (("_law_square_right" : Str) ++ ".<locals>.") ++ "<lambda>"), (P14, (("_law_doubled_right" : Str) ++ ".<locals>.") ++ "<lambda>")]) q.1) (tyU (sg K C0 C1 [(P11, (("_law_checked" : Str) ++ ".<locals>.") ++ "<lambda>"), (P12, (("_law_by_names" : Str) ++ ".<locals>.") ++ "<lambda>"), (P13, (("_law_square_right" : Str) ++ ".<locals>.") ++ "<lambda>"), (P14, (("_law_doubled_right" : Str) ++ ".<locals>.") ++ "<lambda>")]) q.2.1) = some q.2.2) ⟨is0, is1, is2, is3, is4, is5, is6, is7, is8, is9, is10, is11, is12, is13, is14, is15, is16, is17, is18, is19, is20, is21, is22, is23, trivial⟩ q hm
    case ins =>
      intro c u b e
      match c, e with
      | 0, _ => exact ⟨⟨pg0, hd0, po0, sa0⟩, ha0, hn, htk, hm0⟩
      | n + 1, e => exact (nomatch e)
    case eqm =>
      intro c f e
      match c, e with
      | 0, e => cases e; exact ⟨a23, i23, ne0, su0⟩
      | n + 1, e => cases e
    case nff =>
      intro c t e
      have e : t ∈ nfs.getD c [] := List.contains_iff_mem.mp (show (nfs.getD c []).contains t = true from e)
      match c, e with
      | 0, e => exact Each.mem (l := [.non, .bl, .int, .str, .tup, .lst, .dct, (.ins 0)]) (P := fun t => PySem.W.notFirst K C0 (tyU (sg K C0 C1 [(P11, (("_law_checked" : Str) ++ ".<locals>.") ++ "<lambda>"), (P12, (("_law_by_names" : Str) ++ ".<locals>.") ++ "<lambda>"), (P13, (("_law_square_right" : Str) ++ ".<locals>.") ++ "<lambda>"), (P14, (("_law_doubled_right" : Str) ++ ".<locals>.") ++ "<lambda>")]) t) = true ∧ ∀ k', t = .ins k' → InsTy K ((sg K C0 C1 [(P11, (("_law_checked" : Str) ++ ".<locals>.") ++ "<lambda>"), (P12, (("_law_by_names" : Str) ++ ".<locals>.") ++ "<lambda>"), (P13, (("_law_square_right" : Str) ++ ".<locals>.") ++ "<lambda>"), (P14, (("_law_doubled_right" : Str) ++ ".<locals>.") ++ "<lambda>")]).ca k')) ⟨⟨nt0_0, fun k' z => by cases z⟩, ⟨nt0_1, fun k' z => by cases z⟩, ⟨nt0_2, fun k' z => by cases z⟩, ⟨nt0_3, fun k' z => by cases z⟩, ⟨nt0_4, fun k' z => by cases z⟩, ⟨nt0_5, fun k' z => by cases z⟩, ⟨nt0_6, fun k' z => by cases z⟩, ⟨nt0_7, fun k' z => by cases z; exact ⟨⟨pg0, hd0, po0, sa0⟩, ha0, hn, htk, hm0⟩⟩, trivial⟩ t e
      | n + 1, e => cases e
    case lenm =>
      intro c f e
      match c, e with
      | 0, e => cases e; exact ⟨a22, i22⟩
      | n + 1, e => cases e
    case gk =>
      intro c e
      match c, e with
      | 0, _ => exact PySem.W.mg_of X G aC0
      | n + 1, e => exact absurd (show n + 1 < 1 from of_decide_eq_true e) (by omega)
    case ccon =>
      intro c m d e
      match c, e with
      | 0, e => exact ⟨PySem.W.mg_of X G aC0, Each.mem (l := [(3, (.int 6)), (4, (.int 12))]) (P := fun q : Nat × D => ∃ mc v u, ClX.CRead K C0 mc ∧ ClX.CVal K C0 mc (nameOf nms q.1) v u ∧ ∀ F, Mi.IsD (sg K C0 C1 [(P11, (("_law_checked" : Str) ++ ".<locals>.") ++ "<lambda>"), (P12, (("_law_by_names" : Str) ++ ".<locals>.") ++ "<lambda>"), (P13, (("_law_square_right" : Str) ++ ".<locals>.") ++ "<lambda>"), (P14, (("_law_doubled_right" : Str) ++ ".<locals>.") ++ "<lambda>")]) F q.2 v) ⟨⟨_, .int 6, _, ⟨rd0, ga0⟩, ⟨cv0_3, ⟨_, rfl⟩⟩, fun F => by simp only [Mi.IsD]⟩, ⟨_, .int 12, _, ⟨rd0, ga0⟩, ⟨cv0_4, ⟨_, rfl⟩⟩, fun F => by simp only [Mi.IsD]⟩, trivial⟩ (m, d) (lookup_mem e)⟩
      | n + 1, e => cases e
    case xf =>
      intro c f e
      have e : (c, f) ∈ xfs := List.contains_iff_mem.mp (show xfs.contains (c, f) = true from e)
      exact Each.mem (l := xfs) (P := fun q : Nat × Nat => XfC K ((sg K C0 C1 [(P11, (("_law_checked" : Str) ++ ".<locals>.") ++ "<lambda>"), (P12, (("_law_by_names" : Str) ++ ".<locals>.") ++ "<lambda>"), (P13, (("_law_square_right" : Str) ++ ".<locals>.") ++ "<lambda>"), (P14, (("_law_doubled_right" : Str) ++ ".<locals>.") ++ "<lambda>")]).ca q.1) ∧ PySem.W.findIn K (.ref ((sg K C0 C1 [(P11, (("_law_checked" : Str) ++ ".<locals>.") ++ "<lambda>"), (P12, (("_law_by_names" : Str) ++ ".<locals>.") ++ "<lambda>"), (P13, (("_law_square_right" : Str) ++ ".<locals>.") ++ "<lambda>"), (P14, (("_law_doubled_right" : Str) ++ ".<locals>.") ++ "<lambda>")]).ca q.1)) (nameOf nms q.2) = some none) ⟨⟨xfB_ok xb1, xn1⟩, trivial⟩ (c, f) e
    case xm =>
      intro c d b e
      have e : xms.lookup (c, d) = some b := e
      exact Each.mem (l := xms) (P := fun q : (Nat × Nat) × Bool => PySem.W.exmOne K (.ref ((sg K C0 C1 [(P11, (("_law_checked" : Str) ++ ".<locals>.") ++ "<lambda>"), (P12, (("_law_by_names" : Str) ++ ".<locals>.") ++ "<lambda>"), (P13, (("_law_square_right" : Str) ++ ".<locals>.") ++ "<lambda>"), (P14, (("_law_doubled_right" : Str) ++ ".<locals>.") ++ "<lambda>")]).ca q.1.1)) (.ref ((sg K C0 C1 [(P11, (("_law_checked" : Str) ++ ".<locals>.") ++ "<lambda>"), (P12, (("_law_by_names" : Str) ++ ".<locals>.") ++ "<lambda>"), (P13, (("_law_square_right" : Str) ++ ".<locals>.") ++ "<lambda>"), (P14, (("_law_doubled_right" : Str) ++ ".<locals>.") ++ "<lambda>")]).ca q.1.2)) = some q.2 ∧ mg (prg.gc q.1.2) = some (.ref ((sg K C0 C1 [(P11, (("_law_checked" : Str) ++ ".<locals>.") ++ "<lambda>"), (P12, (("_law_by_names" : Str) ++ ".<locals>.") ++ "<lambda>"), (P13, (("_law_square_right" : Str) ++ ".<locals>.") ++ "<lambda>"), (P14, (("_law_doubled_right" : Str) ++ ".<locals>.") ++ "<lambda>")]).ca q.1.2))) ⟨⟨em0, PySem.W.mg_of X G aC1⟩, trivial⟩ ((c, d), b) (lookup_memG e)
    case xi =>
      intro c f e
      have e : xfs.lookup c = some f := e
      exact Each.mem (l := xfs) (P := fun q : Nat × Nat => (∀ P w base, MkX1 P w mg base K ((sg K C0 C1 [(P11, (("_law_checked" : Str) ++ ".<locals>.") ++ "<lambda>"), (P12, (("_law_by_names" : Str) ++ ".<locals>.") ++ "<lambda>"), (P13, (("_law_square_right" : Str) ++ ".<locals>.") ++ "<lambda>"), (P14, (("_law_doubled_right" : Str) ++ ".<locals>.") ++ "<lambda>")]).ca q.1) (nameOf nms q.2)) ∧ mg (prg.gc q.1) = some (.ref ((sg K C0 C1 [(P11, (("_law_checked" : Str) ++ ".<locals>.") ++ "<lambda>"), (P12, (("_law_by_names" : Str) ++ ".<locals>.") ++ "<lambda>"), (P13, (("_law_square_right" : Str) ++ ".<locals>.") ++ "<lambda>"), (P14, (("_law_doubled_right" : Str) ++ ".<locals>.") ++ "<lambda>")]).ca q.1))) ⟨⟨mkX1_of (K := K) (mg := mg) ⟨ox1, xi1, xy1, xn1, PySem.W.mg_of X G ab_PassplacesError, ⟨br_PassplacesError, bg_PassplacesError⟩, bi_PassplacesError⟩ (by rfl) xl1 xc1 ⟨rfl, rfl, rfl, by decide +kernel, rfl, by decide +kernel, by decide +kernel⟩ (by decide +kernel) (by decide) (by decide) (by decide) (by decide) (by decide) (fun _ => by rfl) (by decide +kernel) (fun _ => by rfl) (Binds.all fun us hl => by match us, hl with | [_, _], _ => rfl), PySem.W.mg_of X G aC1⟩, trivial⟩ (c, f) (lookup_mem e)
    case cmo =>
      intro c m u e
      have e : (sms.getD c []).lookup m = some u := e
      match c, e with
      | 0, e => exact ⟨Each.mem (l := sms.getD 0 []) (P := fun q : Nat × Mk2 => ClM K (fun i => [f0, f1, f2, f3, f4, f5, f6, f7, f8, f9, f10, f11, f12, f13, f14, f15, f16, f17, f18, f19, f20, f21, f22, f23, f24, f25].getD i f0) C0 (nameOf nms q.1) q.2) ⟨(show StC K C0 _ _ from ⟨⟨_, _, _, ⟨rd0, ga0⟩, sc17, r17⟩, k17⟩), (show CmC K C0 _ _ from ⟨⟨_, _, ⟨rd0, ga0⟩, ⟨sc18, ⟨_, r18⟩, fi18⟩⟩⟩), trivial⟩ (m, u) (lookup_mem e), PySem.W.mg_of X G aC0⟩
      | n + 1, e => cases e
    case imo =>
      intro c m u e
      have e : (sms.getD c []).lookup m = some u := e
      match c, e with
      | 0, e => exact Each.mem (l := sms.getD 0 []) (P := fun q : Nat × Mk2 => InM K (fun i => [f0, f1, f2, f3, f4, f5, f6, f7, f8, f9, f10, f11, f12, f13, f14, f15, f16, f17, f18, f19, f20, f21, f22, f23, f24, f25].getD i f0) C0 (nameOf nms q.1) q.2) ⟨(show StI K C0 _ _ from ⟨pg0, ic0, ⟨_, _, a17, y17, g17, t17, r17⟩, by decide +kernel, k17⟩), (show CmI K C0 _ _ from ⟨_, ⟨pg0, ic0, a18, y18, g18, t18, by decide +kernel, ⟨_, r18⟩, fi18⟩⟩), trivial⟩ (m, u) (lookup_mem e)
      | n + 1, e => cases e
  have ti11 := tabIn_of a11 l11 rfl lc11 pc11
  have ti12 := tabIn_of a12 l12 rfl lc12 pc12
  have ti13 := tabIn_of a13 l13 rfl lc13 pc13
  have ti14 := tabIn_of a14 l14 rfl lc14 pc14
  refine ⟨(sg K C0 C1 [(P11, (("_law_checked" : Str) ++ ".<locals>.") ++ "<lambda>"), (P12, (("_law_by_names" : Str) ++ ".<locals>.") ++ "<lambda>"), (P13, (("_law_square_right" : Str) ++ ".<locals>.") ++ "<lambda>"), (P14, (("_law_doubled_right" : Str) ++ ".<locals>.") ++ "<lambda>")]), 2 * 14 + 2, _, [(cc11, P11), (cc12, P12), (cc13, P13), (cc14, P14)], ⟨rfl, ?tbs, fun _ => rfl⟩, ⟨rfl, by decide, by decide⟩, ?tok, fun base KB GB TB => (lvl_ok (base0 := base) nm ?hd 14 base (fun _ => none) (fun _ => none) (fun _ _ z => z) (fun _ _ z => z) (fun _ _ z => z) (fun _ _ z => nomatch z)).1 15, rfl⟩
  case tbs => exact Each.mem (l := [(P11, (("_law_checked" : Str) ++ ".<locals>.") ++ "<lambda>"), (P12, (("_law_by_names" : Str) ++ ".<locals>.") ++ "<lambda>"), (P13, (("_law_square_right" : Str) ++ ".<locals>.") ++ "<lambda>"), (P14, (("_law_doubled_right" : Str) ++ ".<locals>.") ++ "<lambda>")]) (P := fun p : Addr × Str => p.1 ∈ ([(cc11, P11), (cc12, P12), (cc13, P13), (cc14, P14)] : List (Addr × Addr)).map (·.2)) ⟨(.head _), (.tail _ (.head _)), (.tail _ (.tail _ (.head _))), (.tail _ (.tail _ (.tail _ (.head _)))), trivial⟩
  case tok =>
    obtain ⟨hr11, hr12, hr13, hr14⟩ := hrq
    exact ⟨Each.mem (P := fun p : Addr × Addr => h.get? p.2 = some tab0) ⟨(tt _ _ _ hr11 ti11).2, (tt _ _ _ hr12 ti12).2, (tt _ _ _ hr13 ti13).2, (tt _ _ _ hr14 ti14).2, trivial⟩, Each.mem (P := fun p : Addr × Addr => K.lookup p.2 = none) ⟨nk11, nk12, nk13, nk14, trivial⟩, Each.mem (P := fun p : Addr × Addr => PySem.W.CodeHd h p.1 p.2) ⟨(tt _ _ _ hr11 ti11).1, (tt _ _ _ hr12 ti12).1, (tt _ _ _ hr13 ti13).1, (tt _ _ _ hr14 ti14).1, trivial⟩⟩
  case hd =>
    intro base2 ko cd hb i d e
    match i, e with
    | 0, e =>
      cases e
      refine ⟨⟨_, _, _, _, _, _, _, _, _, _, _, _, _, _, _, l0, c0, s_is_integer, rfl, bndF (f_is_integer rfl), e_is_integer, fun z => nomatch z⟩⟩
    | 1, e =>
      cases e
      refine ⟨⟨_, _, _, _, _, _, _, _, _, _, _, _, _, _, _, l1, c1, s_is_below, rfl, bndF (f_is_below rfl), e_is_below, fun z => nomatch z⟩⟩
    | 2, e =>
      cases e
      refine ⟨⟨_, _, _, _, _, _, _, _, _, _, _, _, _, _, _, l2, c2, s_problem_of, rfl, bndF (f_problem_of rfl), e_problem_of, fun z => nomatch z⟩⟩
    | 3, e =>
      cases e
      refine ⟨⟨_, _, _, _, _, _, _, _, _, _, _, _, _, _, _, l3, c3, s__law_mixed, rfl, bndF (f__law_mixed rfl), e__law_mixed, fun z => nomatch z⟩⟩
    | 4, e =>
      cases e
      refine ⟨⟨_, _, _, _, _, _, _, _, _, _, _, _, _, _, _, l4, c4, s__law_folded, rfl, bndF (f__law_folded rfl), e__law_folded, fun z => nomatch z⟩⟩
    | 5, e =>
      cases e
      refine ⟨⟨_, _, _, _, _, _, _, _, _, _, _, _, _, _, _, l5, c5, s__law_draw, rfl, bndF (f__law_draw rfl), e__law_draw, fun z => nomatch z⟩⟩
    | 6, e =>
      cases e
      refine ⟨⟨_, _, _, _, _, _, _, _, _, _, _, _, _, _, _, l6, c6, s__law_begun, rfl, bndF (f__law_begun rfl), e__law_begun, fun z => nomatch z⟩⟩
    | 7, e =>
      cases e
      refine ⟨⟨_, _, _, _, _, _, _, _, _, _, _, _, _, _, _, l7, c7, s__law_doubled, rfl, bndF (f__law_doubled rfl), e__law_doubled, fun z => nomatch z⟩⟩
    | 8, e =>
      cases e
      refine ⟨⟨_, _, _, _, _, _, _, _, _, _, _, _, _, _, _, l8, c8, s__law_is_from, rfl, bndF (f__law_is_from rfl), e__law_is_from, fun z => nomatch z⟩⟩
    | 9, e =>
      cases e
      refine ⟨⟨_, _, _, _, _, _, _, _, _, _, _, _, _, _, _, l9, c9, s__law_due, rfl, bndF (f__law_due rfl), e__law_due, fun z => nomatch z⟩⟩
    | 10, e =>
      cases e
      refine ⟨⟨_, _, _, _, _, _, _, _, _, _, _, _, _, _, _, l10, c10, s__law_part, rfl, bndF (f__law_part rfl), e__law_part, fun z => nomatch z⟩⟩
    | 11, e =>
      cases e
      refine ⟨⟨_, _, _, _, _, _, _, _, _, _, _, _, _, _, _, l11, c11, s__law_checked, rfl, bndF (f__law_checked rfl), e__law_checked, fun _ => ⟨_, _, rfl, tabB_up hb (TB (cc11, P11) (.head _)), (show _ ∈ [(P11, (("_law_checked" : Str) ++ ".<locals>.") ++ "<lambda>"), (P12, (("_law_by_names" : Str) ++ ".<locals>.") ++ "<lambda>"), (P13, (("_law_square_right" : Str) ++ ".<locals>.") ++ "<lambda>"), (P14, (("_law_doubled_right" : Str) ++ ".<locals>.") ++ "<lambda>")] from (.head _)), tb_one (l := [(P11, (("_law_checked" : Str) ++ ".<locals>.") ++ "<lambda>"), (P12, (("_law_by_names" : Str) ++ ".<locals>.") ++ "<lambda>"), (P13, (("_law_square_right" : Str) ++ ".<locals>.") ++ "<lambda>"), (P14, (("_law_doubled_right" : Str) ++ ".<locals>.") ++ "<lambda>")]) pnd (.head _)⟩⟩⟩
    | 12, e =>
      cases e
      refine ⟨⟨_, _, _, _, _, _, _, _, _, _, _, _, _, _, _, l12, c12, s__law_by_names, rfl, bndF (f__law_by_names rfl), e__law_by_names, fun _ => ⟨_, _, rfl, tabB_up hb (TB (cc12, P12) (.tail _ (.head _))), (show _ ∈ [(P11, (("_law_checked" : Str) ++ ".<locals>.") ++ "<lambda>"), (P12, (("_law_by_names" : Str) ++ ".<locals>.") ++ "<lambda>"), (P13, (("_law_square_right" : Str) ++ ".<locals>.") ++ "<lambda>"), (P14, (("_law_doubled_right" : Str) ++ ".<locals>.") ++ "<lambda>")] from (.tail _ (.head _))), tb_one (l := [(P11, (("_law_checked" : Str) ++ ".<locals>.") ++ "<lambda>"), (P12, (("_law_by_names" : Str) ++ ".<locals>.") ++ "<lambda>"), (P13, (("_law_square_right" : Str) ++ ".<locals>.") ++ "<lambda>"), (P14, (("_law_doubled_right" : Str) ++ ".<locals>.") ++ "<lambda>")]) pnd (.tail _ (.head _))⟩⟩⟩
    | 13, e =>
      cases e
      refine ⟨⟨_, _, _, _, _, _, _, _, _, _, _, _, _, _, _, l13, c13, s__law_square_right, rfl, bndF (f__law_square_right rfl), e__law_square_right, fun _ => ⟨_, _, rfl, tabB_up hb (TB (cc13, P13) (.tail _ (.tail _ (.head _)))), (show _ ∈ [(P11, (("_law_checked" : Str) ++ ".<locals>.") ++ "<lambda>"), (P12, (("_law_by_names" : Str) ++ ".<locals>.") ++ "<lambda>"), (P13, (("_law_square_right" : Str) ++ ".<locals>.") ++ "<lambda>"), (P14, (("_law_doubled_right" : Str) ++ ".<locals>.") ++ "<lambda>")] from (.tail _ (.tail _ (.head _)))), tb_one (l := [(P11, (("_law_checked" : Str) ++ ".<locals>.") ++ "<lambda>"), (P12, (("_law_by_names" : Str) ++ ".<locals>.") ++ "<lambda>"), (P13, (("_law_square_right" : Str) ++ ".<locals>.") ++ "<lambda>"), (P14, (("_law_doubled_right" : Str) ++ ".<locals>.") ++ "<lambda>")]) pnd (.tail _ (.tail _ (.head _)))⟩⟩⟩
    | 14, e =>
      cases e
      refine ⟨⟨_, _, _, _, _, _, _, _, _, _, _, _, _, _, _, l14, c14, s__law_doubled_right, rfl, bndF (f__law_doubled_right rfl), e__law_doubled_right, fun _ => ⟨_, _, rfl, tabB_up hb (TB (cc14, P14) (.tail _ (.tail _ (.tail _ (.head _))))), (show _ ∈ [(P11, (("_law_checked" : Str) ++ ".<locals>.") ++ "<lambda>"), (P12, (("_law_by_names" : Str) ++ ".<locals>.") ++ "<lambda>"), (P13, (("_law_square_right" : Str) ++ ".<locals>.") ++ "<lambda>"), (P14, (("_law_doubled_right" : Str) ++ ".<locals>.") ++ "<lambda>")] from (.tail _ (.tail _ (.tail _ (.head _))))), tb_one (l := [(P11, (("_law_checked" : Str) ++ ".<locals>.") ++ "<lambda>"), (P12, (("_law_by_names" : Str) ++ ".<locals>.") ++ "<lambda>"), (P13, (("_law_square_right" : Str) ++ ".<locals>.") ++ "<lambda>"), (P14, (("_law_doubled_right" : Str) ++ ".<locals>.") ++ "<lambda>")]) pnd (.tail _ (.tail _ (.tail _ (.head _))))⟩⟩⟩
    | 15, e =>
      cases e
      refine ⟨⟨_, _, _, _, _, _, _, _, _, _, _, _, _, _, _, l15, c15, s_law, rfl, bndF (f_law rfl), e_law, fun z => nomatch z⟩⟩
    | 16, e =>
      cases e
      refine ⟨⟨_, _, _, _, _, _, _, _, _, _, _, _, _, _, _, l16, c16, s_Way___init__, rfl, bndF (f_Way___init__ rfl), e_Way___init__, fun z => nomatch z⟩⟩
    | 17, e =>
      cases e
      refine ⟨⟨_, _, _, _, _, _, _, _, _, _, _, _, _, _, _, l17, c17, s_Way_is_size, rfl, bndF (f_Way_is_size rfl), e_Way_is_size, fun z => nomatch z⟩⟩
    | 18, e =>
      cases e
      refine ⟨⟨_, _, _, _, _, _, _, _, _, _, _, _, _, _, _, l18, c18, s_Way_square, rfl, bndF (f_Way_square rfl), e_Way_square, fun z => nomatch z⟩⟩
    | 19, e =>
      cases e
      refine ⟨⟨_, _, _, _, _, _, _, _, _, _, _, _, _, _, _, l19, c19, s_Way_rights, rfl, bndF (f_Way_rights rfl), e_Way_rights, fun z => nomatch z⟩⟩
    | 20, e =>
      cases e
      refine ⟨⟨_, _, _, _, _, _, _, _, _, _, _, _, _, _, _, l20, c20, s_Way_lefts, rfl, bndF (f_Way_lefts rfl), e_Way_lefts, fun z => nomatch z⟩⟩
    | 21, e =>
      cases e
      refine ⟨⟨_, _, _, _, _, _, _, _, _, _, _, _, _, _, _, l21, c21, s_Way_places, rfl, bndF (f_Way_places rfl), e_Way_places, fun z => nomatch z⟩⟩
    | 22, e =>
      cases e
      refine ⟨⟨_, _, _, _, _, _, _, _, _, _, _, _, _, _, _, l22, c22, s_Way___len__, rfl, bndF (f_Way___len__ rfl), e_Way___len__, fun z => nomatch z⟩⟩
    | 23, e =>
      cases e
      refine ⟨⟨_, _, _, _, _, _, _, _, _, _, _, _, _, _, _, l23, c23, s_Way___eq__, rfl, bndF (f_Way___eq__ rfl), e_Way___eq__, fun z => nomatch z⟩⟩
    | 24, e =>
      cases e
      refine ⟨⟨_, _, _, _, _, _, _, _, _, _, _, _, _, _, _, l24, c24, s_Way_need_pair, rfl, bndF (f_Way_need_pair rfl), e_Way_need_pair, fun z => nomatch z⟩⟩
    | 25, e =>
      cases e
      refine ⟨⟨_, _, _, _, _, _, _, _, _, _, _, _, _, _, _, l25, c25, s_Way_allowed, rfl, bndF (f_Way_allowed rfl), e_Way_allowed, fun z => nomatch z⟩⟩
    | n + 26, e => cases e
end K01

namespace K01
open PySem L2 StX Mi
/-- the answer True -/
def isT : R W → Bool
  | .ok (.d (.bl true)) _ => true
  | _ => false
theorem isT_ok {r : R W} (h : isT r = true) : ∃ g, r = .ok (.d (.bl true)) g := by
  unfold isT at h
  split at h
  · exact ⟨_, rfl⟩
  · cases h
theorem iso_any {g : Fn} {ws : List W} {kws : List (Str × W)} {w : W} {h0 h1 : Hm} (e : isoFn g ws kws h0 = .ok w h1) (h : Hm) : isoFn g ws kws h = .ok w h := by
  unfold isoFn at e ⊢
  cases e1 : pures ws with
  | none => rw [e1] at e; cases e
  | some ds =>
    rw [e1] at e
    cases e2 : pures (kws.map (·.2)) with
    | none => rw [e2] at e; cases e
    | some ks =>
      rw [e2] at e
      dsimp only at e ⊢
      cases e3 : g ws kws [] with
      | no => rw [e3] at e; cases e
      | ok w2 h2 =>
        rw [e3] at e
        dsimp only at e ⊢
        cases e4 : reW 4 h2 w2 with
        | none => rw [e4] at e; cases e
        | some d => rw [e4] at e; cases e; rfl
      | ex x h2 =>
        rw [e3] at e
        dsimp only at e
        cases e5 : pures x.vs with
        | none => rw [e5] at e; cases e
        | some _ => rw [e5] at e; cases e
theorem iso_T {i j : Nat} {d : Df} {ws : List W} (e : dfs i = some d) (hi : d.iso = true) (q : isT (lvl prg dfs (j + 1) i ws [] []) = true) (h : Hm) : lvl prg dfs (j + 1) i ws [] h = .ok (.d (.bl true)) h := by
  obtain ⟨g, q⟩ := isT_ok q
  rw [lvl_iso e hi] at q ⊢
  exact iso_any q h
def odd : List D := [.int 0, .int 1, .int 2, .int 6, .int 7, .int 12, .int 13, .int (-1), .bl true, .bl false, .non, .str "3", .tup [.int 3], .lst [.int 3]]
def xtr : List D := [.dK [] [], .int (10 ^ 30), .tup [], .str "", .int (-(10 ^ 30)), .int 3, .int 4, .int 5]
def more : List D := odd ++ xtr
def gd3 : List D := [.int 1, .int 2, .int 6]
def bd3 : List D := [.int 0, .int 7, .int 12, .int 13, .int (-1), .bl true, .bl false, .non, .str "3", .tup [.int 3], .lst [.int 3]]
def gd6 : List D := [.int 1, .int 2, .int 6, .int 3, .int 4, .int 5]
def bd6 : List D := bd3 ++ [.dK [] [], .int (10 ^ 30), .tup [], .str "", .int (-(10 ^ 30))]
theorem odd_gb : ∀ e ∈ odd, e ∈ gd3 ∨ e ∈ bd3 := by
  intro e he
  simp only [odd, List.mem_cons, List.not_mem_nil, or_false] at he
  rcases he with rfl | rfl | rfl | rfl | rfl | rfl | rfl | rfl | rfl | rfl | rfl | rfl | rfl | rfl <;> simp [gd3, bd3]
theorem more_gb : ∀ e ∈ more, e ∈ gd6 ∨ e ∈ bd6 := by
  intro e he
  rcases List.mem_append.mp he with he | he
  · rcases odd_gb e he with z | z
    · refine .inl ?_
      simp only [gd3, List.mem_cons, List.not_mem_nil, or_false] at z
      rcases z with rfl | rfl | rfl <;> simp [gd6]
    · exact .inr (List.mem_append_left _ z)
  · simp only [xtr, List.mem_cons, List.not_mem_nil, or_false] at he
    rcases he with rfl | rfl | rfl | rfl | rfl | rfl | rfl | rfl <;> simp [gd6, bd6]
theorem triA (w s : D) : (bd3.all fun e => isT (lvl prg dfs 13 11 [.d e, .d w, .d s] [] [])) = true := by kernel_rfl
theorem triB (s : D) : (gd3.all fun e => bd3.all fun w => isT (lvl prg dfs 13 11 [.d e, .d w, .d s] [] [])) = true := by kernel_rfl
theorem triC : (gd3.all fun e => gd3.all fun w => odd.all fun s => isT (lvl prg dfs 13 11 [.d e, .d w, .d s] [] [])) = true := by kernel_rfl
theorem tri : ∀ e ∈ odd, ∀ w ∈ odd, ∀ s ∈ odd, isT (lvl prg dfs 13 11 [.d e, .d w, .d s] [] []) = true := by
  intro e he w hw s hs
  rcases odd_gb e he with z | z
  · rcases odd_gb w hw with y | y
    · exact List.all_eq_true.mp (List.all_eq_true.mp (List.all_eq_true.mp triC e z) w y) s hs
    · exact List.all_eq_true.mp (List.all_eq_true.mp (triB s) e z) w y
  · exact List.all_eq_true.mp (triA w s) e z
theorem dbl : isT (lvl prg dfs 13 14 [] [] []) = true := by decide +kernel
end K01

namespace K01
open PySem L2 StX Mi
theorem sqr (x y : D) : (more.all fun e => isT (lvl prg dfs 13 13 [.d (.ins 0 [5, 6] [x, y]), .d e] [] [])) = true := by kernel_rfl
theorem namA (x y w s : D) : (bd6.all fun e => isT (lvl prg dfs 13 12 [.d (.ins 0 [5, 6] [x, y]), .d e, .d w, .d s] [] [])) = true := by kernel_rfl
theorem namB (x y s : D) : (gd6.all fun e => bd6.all fun w => isT (lvl prg dfs 13 12 [.d (.ins 0 [5, 6] [x, y]), .d e, .d w, .d s] [] [])) = true := by kernel_rfl
theorem namC_1 (x y : D) : (gd6.all fun w => bd6.all fun s => isT (lvl prg dfs 13 12 [.d (.ins 0 [5, 6] [x, y]), .d (.int 1), .d w, .d s] [] [])) = true := by kernel_rfl
theorem namC_2 (x y : D) : (gd6.all fun w => bd6.all fun s => isT (lvl prg dfs 13 12 [.d (.ins 0 [5, 6] [x, y]), .d (.int 2), .d w, .d s] [] [])) = true := by kernel_rfl
theorem namC_6 (x y : D) : (gd6.all fun w => bd6.all fun s => isT (lvl prg dfs 13 12 [.d (.ins 0 [5, 6] [x, y]), .d (.int 6), .d w, .d s] [] [])) = true := by kernel_rfl
theorem namC_3 (x y : D) : (gd6.all fun w => bd6.all fun s => isT (lvl prg dfs 13 12 [.d (.ins 0 [5, 6] [x, y]), .d (.int 3), .d w, .d s] [] [])) = true := by kernel_rfl
theorem namC_4 (x y : D) : (gd6.all fun w => bd6.all fun s => isT (lvl prg dfs 13 12 [.d (.ins 0 [5, 6] [x, y]), .d (.int 4), .d w, .d s] [] [])) = true := by kernel_rfl
theorem namC_5 (x y : D) : (gd6.all fun w => bd6.all fun s => isT (lvl prg dfs 13 12 [.d (.ins 0 [5, 6] [x, y]), .d (.int 5), .d w, .d s] [] [])) = true := by kernel_rfl
theorem namC (x y : D) : (gd6.all fun e => gd6.all fun w => bd6.all fun s => isT (lvl prg dfs 13 12 [.d (.ins 0 [5, 6] [x, y]), .d e, .d w, .d s] [] [])) = true := by
  rw [List.all_eq_true]
  intro e he
  simp only [gd6, List.mem_cons, List.not_mem_nil, or_false] at he
  rcases he with rfl | rfl | rfl | rfl | rfl | rfl
  · exact namC_1 x y
  · exact namC_2 x y
  · exact namC_6 x y
  · exact namC_3 x y
  · exact namC_4 x y
  · exact namC_5 x y
theorem namD0 (x y : D) : (gd6.all fun w => (List.range 12).all fun (k : Nat) => isT (lvl prg dfs 13 12 [.d (.ins 0 [5, 6] [x, y]), .d (.int 1), .d w, .d (.int (1 + (k : Int)))] [] [])) = true := by kernel_rfl
theorem namD1 (x y : D) : (gd6.all fun w => (List.range 12).all fun (k : Nat) => isT (lvl prg dfs 13 12 [.d (.ins 0 [5, 6] [x, y]), .d (.int 2), .d w, .d (.int (1 + (k : Int)))] [] [])) = true := by kernel_rfl
theorem namD2 (x y : D) : (gd6.all fun w => (List.range 12).all fun (k : Nat) => isT (lvl prg dfs 13 12 [.d (.ins 0 [5, 6] [x, y]), .d (.int 6), .d w, .d (.int (1 + (k : Int)))] [] [])) = true := by kernel_rfl
theorem namD3 (x y : D) : (gd6.all fun w => (List.range 12).all fun (k : Nat) => isT (lvl prg dfs 13 12 [.d (.ins 0 [5, 6] [x, y]), .d (.int 3), .d w, .d (.int (1 + (k : Int)))] [] [])) = true := by kernel_rfl
theorem namD4 (x y : D) : (gd6.all fun w => (List.range 12).all fun (k : Nat) => isT (lvl prg dfs 13 12 [.d (.ins 0 [5, 6] [x, y]), .d (.int 4), .d w, .d (.int (1 + (k : Int)))] [] [])) = true := by kernel_rfl
theorem namD5 (x y : D) : (gd6.all fun w => (List.range 12).all fun (k : Nat) => isT (lvl prg dfs 13 12 [.d (.ins 0 [5, 6] [x, y]), .d (.int 5), .d w, .d (.int (1 + (k : Int)))] [] [])) = true := by kernel_rfl
theorem namD (x y : D) : ∀ e ∈ gd6, (gd6.all fun w => (List.range 12).all fun (k : Nat) => isT (lvl prg dfs 13 12 [.d (.ins 0 [5, 6] [x, y]), .d e, .d w, .d (.int (1 + (k : Int)))] [] [])) = true := by
  intro e he
  simp only [gd6, List.mem_cons, List.not_mem_nil, or_false] at he
  rcases he with rfl | rfl | rfl | rfl | rfl | rfl
  · exact namD0 x y
  · exact namD1 x y
  · exact namD2 x y
  · exact namD3 x y
  · exact namD4 x y
  · exact namD5 x y
/-- a number from 1 to 6 -/
theorem six_gd (k : Nat) (hk : k < 6) : D.int (1 + (k : Int)) ∈ gd6 := by
  match k, hk with
  | 0, _ => simp [gd6]
  | 1, _ => simp [gd6]
  | 2, _ => simp [gd6]
  | 3, _ => simp [gd6]
  | 4, _ => simp [gd6]
  | 5, _ => simp [gd6]
  | k + 6, h => omega
theorem gd6_pl : ∀ s ∈ gd6, ∃ k ∈ List.range 12, s = D.int (1 + (k : Int)) := by
  intro e he
  simp only [gd6, List.mem_cons, List.not_mem_nil, or_false] at he
  rcases he with rfl | rfl | rfl | rfl | rfl | rfl
  · exact ⟨0, by decide, rfl⟩
  · exact ⟨1, by decide, rfl⟩
  · exact ⟨5, by decide, rfl⟩
  · exact ⟨2, by decide, rfl⟩
  · exact ⟨3, by decide, rfl⟩
  · exact ⟨4, by decide, rfl⟩
/-- any two walkers' values, a place's value that is odd or a place -/
theorem nam (x y e w s : D) (he : e ∈ gd6 ∨ e ∈ bd6) (hw : w ∈ gd6 ∨ w ∈ bd6) (hs : (∃ k ∈ List.range 12, s = D.int (1 + (k : Int))) ∨ s ∈ bd6) : isT (lvl prg dfs 13 12 [.d (.ins 0 [5, 6] [x, y]), .d e, .d w, .d s] [] []) = true := by
  rcases he with he | he
  · rcases hw with hw | hw
    · rcases hs with ⟨k, hk, rfl⟩ | hs
      · exact List.all_eq_true.mp (List.all_eq_true.mp (namD x y e he) w hw) k hk
      · exact List.all_eq_true.mp (List.all_eq_true.mp (List.all_eq_true.mp (namC x y) e he) w hw) s hs
    · exact List.all_eq_true.mp (List.all_eq_true.mp (namB x y s) e he) w hw
  · exact List.all_eq_true.mp (namA x y w s) e he
theorem more_s (s : D) (h : s ∈ gd6 ∨ s ∈ bd6) : (∃ k ∈ List.range 12, s = D.int (1 + (k : Int))) ∨ s ∈ bd6 := h.imp (gd6_pl s) id
theorem odd_more {e : D} (h : e ∈ odd) : e ∈ more := List.mem_append_left _ h
end K01

namespace K01
open PySem L2 StX Mi
theorem p_is_integer0 (j : Nat) (i : Int) (h : Hm) : lvl prg dfs (j + 1) 0 [.d (.int i)] [] h = .ok (.d (.bl true)) h := rfl
end K01
namespace K01
open PySem L2 StX Mi
theorem or_no {f g : Ft} {env : En} {h h1 : Hm} (e : f env h = .ok false h1) : tOr' f g env h = g env h1 := by
  show R.bind _ _ = _
  rw [e]; rfl
theorem p_problem_of (j : Nat) (r l p a b : Int) (h : Hm) (h1 : 1 ≤ r ∧ r ≤ a) (h2 : 1 ≤ l ∧ l ≤ a) (h3 : 1 ≤ p ∧ p ≤ b) : lvl prg dfs (j + 2) 2 [.d (.int r), .d (.int l), .d (.int p), .d (.int a), .d (.int b)] [] h = .ok (.d .non) h := by
  rw [lvl_iso (d := d_problem_of) rfl rfl]
  refine iso_ok (h2 := []) rfl rfl ?_
  show bodyEnd (exZs (prg.at dfs (j + 1) false) (lvl prg dfs (j + 1)) b_problem_of [some (.d (.int r)), some (.d (.int l)), some (.d (.int p)), some (.d (.int a)), some (.d (.int b))] []) = _
  simp [b_problem_of, exZs, exZ, ev, evs, tst, sSeq, sRet, sIf, sNil, vAnd, vCall, vArgs, aCons, aNil, vVar, vChn, vC, v2, tOr', tNot', tVal, bind_ok, liftX_ok, p_is_integer0, asB_ok, pLe, pLt, sI, cT, end_rt, h1.1, h1.2, h2.1, h2.2, h3.1, h3.2]
def mix (c n : Int) : Int := (c * (1 + 2 * n) * 48271 % 2147483647 + 7919 * n * n + 104729 * n) * 69621 % 2147483629 / 7
theorem mix_nn (c n : Int) : 0 ≤ mix c n := Int.ediv_nonneg (Int.emod_nonneg _ (by decide)) (by decide)
theorem cMul_r {i j : Int} (a : 0 ≤ j) (b : j < 2 ^ 64) : cMul i j = true := by
  simp [cMul]
  omega
theorem cMul_l {i j : Int} (a : 0 ≤ i) (b : i < 2 ^ 64) : cMul i j = true := by
  simp [cMul]
  omega
theorem p_mixed (j : Nat) (c n : Int) (h : Hm) (h0 : 0 ≤ n) (h1 : n < 2 ^ 32) : lvl prg dfs (j + 1) 3 [.d (.int c), .d (.int n)] [] h = .ok (.d (.int (mix c n))) h := by
  rw [lvl_iso (d := d__law_mixed) rfl rfl]
  refine iso_ok (h2 := []) rfl rfl ?_
  show bodyEnd (exZs (prg.at dfs j false) (lvl prg dfs j) b__law_mixed [some (.d (.int c)), some (.d (.int n)), none] []) = _
  have m1 : cMul 2 n = true := cMul_l (by decide) (by decide)
  have m2 : cMul c (1 + 2 * n) = true := cMul_r (by omega) (by omega)
  have m3 : ∀ x, cMul x 48271 = true := fun x => cMul_r (by decide) (by decide)
  have m4 : cMul 7919 n = true := cMul_l (by decide) (by decide)
  have m5 : ∀ x, cMul x n = true := fun x => cMul_r h0 (by omega)
  have m6 : ∀ x, cMul x 69621 = true := fun x => cMul_r (by decide) (by decide)
  simp [b__law_mixed, exZs, exZ, ev, evs, tst, sSeq, sRet, sIf, sSet, bindT, sNil, vVar, vC, v2, bind_ok, liftX_ok, pAdd, pMul, pMod, pDiv, sAdd, sMul, sI, cMod, cDiv, end_rt, mix, m1, m2, m3, m4, m5, m6]
/-- the state: a dict of a list of 64 numbers, a list of numbers and the spot -/
structure St (h : Hm) (m : W) (n : Int) : Prop where
  ex : ∃ (a b c : Nat) (cs gs : List Int), m = .r a ∧ h[a]? = some (.dK [.inr "cells", .inr "great", .inr "spot"] [.r b, .r c, .d (.int n)]) ∧ h[b]? = some (.lst (cs.map fun i => .d (.int i))) ∧ h[c]? = some (.lst (gs.map fun i => .d (.int i))) ∧ a ≠ b ∧ a ≠ c ∧ b ≠ c ∧ cs.length = 64 ∧ gs.length ≤ 63 ∧ (∀ z ∈ cs, 0 ≤ z) ∧ ∀ z ∈ gs, 0 ≤ z
end K01
namespace K01
open PySem L2 StX Mi
def wI (l : List Int) : List W := l.map fun i => .d (.int i)
theorem pyInts {k : Nat} {h : Hm} : ∀ gs : List Int, (wI gs).mapM (pyW k h) = some (gs.map PyData.int)
  | [] => rfl
  | g :: gs => by
    show ((W.d (.int g)) :: wI gs).mapM (pyW k h) = _
    rw [List.mapM_cons, pyInts gs]
    cases k <;> rfl
theorem layInts : ∀ gs : List Int, PyData.canLayAll0 (gs.map PyData.int) = true
  | [] => rfl
  | g :: gs => by
    show (true && PyData.canLayAll0 (gs.map PyData.int)) = true
    rw [layInts gs]; rfl
theorem at_wI {l : List Int} {i : Int} {n : Nat} (h0 : 0 ≤ i) (h1 : i.toNat < l.length) : atI (wI l) i = some (.d (.int (l[i.toNat]'h1))) := by
  unfold atI ixN
  have : i < ((wI l).length : Nat) := by
    show i < ((l.map _).length : Nat)
    rw [List.length_map]; omega
  rw [if_pos h0, if_pos this]
  show (wI l)[i.toNat]? = _
  unfold wI
  rw [List.getElem?_map, List.getElem?_eq_getElem h1]
  rfl
end K01
namespace K01
open PySem L2 StX Mi
def KS : List Key := [.inr "cells", .inr "great", .inr "spot"]
theorem lk1 {x y z : W} : lookK KS [x, y, z] (.inr "cells") = some x := rfl
theorem lk2 {x y z : W} : lookK KS [x, y, z] (.inr "great") = some y := rfl
theorem lk3 {x y z : W} : lookK KS [x, y, z] (.inr "spot") = some z := rfl
theorem pm3 {x y z w : W} : putM (.dK KS [x, y, z]) (.str "spot") w = some (.dK KS [x, y, w]) := rfl
theorem pm2 {x y z w : W} : putM (.dK KS [x, y, z]) (.str "great") w = some (.dK KS [x, w, z]) := rfl
section
variable {h : Hm} {a : Nat} {x y z : W}
theorem ix1 (e : h[a]? = some (.dK KS [x, y, z])) : sIx (.r a) (.d (.str "cells")) h = .ok x h := by
  simp only [sIx, isDct, sIxD, dctAt, e, if_true]; rfl
theorem ix2 (e : h[a]? = some (.dK KS [x, y, z])) : sIx (.r a) (.d (.str "great")) h = .ok y h := by
  simp only [sIx, isDct, sIxD, dctAt, e, if_true]; rfl
theorem ix3 (e : h[a]? = some (.dK KS [x, y, z])) : sIx (.r a) (.d (.str "spot")) h = .ok z h := by
  simp only [sIx, isDct, sIxD, dctAt, e, if_true]; rfl
theorem ixL {l : List Int} {i : Int} (e : h[a]? = some (.lst (wI l))) (h0 : 0 ≤ i) (h1 : i.toNat < l.length) : sIx (.r a) (.d (.int i)) h = .ok (.d (.int (l[i.toNat]'h1))) h := by
  simp only [sIx, isDct, sIxL, seqOf, e, at_wI (n := 0) h0 h1]; rfl
theorem depInts : ∀ gs : List Int, PyData.depthAll (gs.map PyData.int) = 0
  | [] => rfl
  | g :: gs => by
    show max 0 (PyData.depthAll (gs.map PyData.int)) = 0
    rw [depInts gs]; rfl
theorem shInts (gs : List Int) : SeqAt.shaped (.list (gs.map PyData.int)) = true := by
  show (PyData.canLayAll0 (gs.map PyData.int) && decide (PyData.depthAll (gs.map PyData.int) + 1 ≤ 64)) = true
  rw [layInts, depInts]; rfl
theorem ne_nil {N : Kn} {Γ : Nat → Fn} {gs : List Int} (e : h[a]? = some (.lst (wI gs))) : sEq N Γ true (.r a) (.d (.lst [])) h = .ok (.d (.bl (decide (gs ≠ [])))) h := by
  have p1 : pyW 8 h (.r a) = some (.list (gs.map PyData.int)) := by
    show (match h[a]? with
      | some (.lst l) => (l.mapM (pyW 7 h)).map PyData.list
      | _ => none) = _
    rw [e]
    show ((wI gs).mapM (pyW 7 h)).map PyData.list = _
    rw [pyInts]; rfl
  have p2 : pyW 8 h (.d (.lst [])) = some (.list (([] : List Int).map PyData.int)) := rfl
  have i1 : insOf (.r a) h = none := by simp only [insOf, e]
  have i2 : asT (.r a) h = none := by simp only [asT, e]
  simp only [sEq, sEqD, i1, i2, p1, p2, shInts]
  cases gs <;> rfl
end
end K01
namespace K01
open PySem L2 StX Mi
/-- m's objects -/
structure Sm (h : Hm) (a b c : Nat) (cs gs : List Int) (n : Int) : Prop where
  ha : h[a]? = some (.dK KS [.r b, .r c, .d (.int n)])
  hb : h[b]? = some (.lst (wI cs))
  hc : h[c]? = some (.lst (wI gs))
  ab : a ≠ b
  ac : a ≠ c
  bc : b ≠ c
  cl : cs.length = 64
  c0 : ∀ z ∈ cs, 0 ≤ z
  gl : gs.length ≤ 63
  g0 : ∀ z ∈ gs, 0 ≤ z
  n0 : 0 ≤ n
theorem wI_set {l : List Int} {i : Nat} {z : Int} : (wI l).set i (.d (.int z)) = wI (l.set i z) := by
  unfold wI
  rw [List.map_set]
theorem Sm.spot {h : Hm} {a b c : Nat} {cs gs : List Int} {n : Int} (s : Sm h a b c cs gs n) : Sm (h.set a (.dK KS [.r b, .r c, .d (.int (n + 1))])) a b c cs gs (n + 1) := by
  have hl : a < h.length := (List.getElem?_eq_some_iff.mp s.ha).1
  exact ⟨List.getElem?_set_self hl, by rw [List.getElem?_set_ne s.ab]; exact s.hb, by rw [List.getElem?_set_ne s.ac]; exact s.hc, s.ab, s.ac, s.bc, s.cl, s.c0, s.gl, s.g0, by have := s.n0; omega⟩
theorem Sm.great {h : Hm} {a b c : Nat} {cs gs : List Int} {n : Int} (s : Sm h a b c cs gs n) (i : Nat) (z : Int) (z0 : 0 ≤ z) : Sm (h.set c (.lst (wI (gs.set i z)))) a b c cs (gs.set i z) n := by
  have hl : c < h.length := (List.getElem?_eq_some_iff.mp s.hc).1
  refine ⟨by rw [List.getElem?_set_ne (Ne.symm s.ac)]; exact s.ha, by rw [List.getElem?_set_ne (Ne.symm s.bc)]; exact s.hb, List.getElem?_set_self hl, s.ab, s.ac, s.bc, s.cl, s.c0, by rw [List.length_set]; exact s.gl, fun w hw => ?_, s.n0⟩
  rcases List.mem_or_eq_of_mem_set hw with q | q
  · exact s.g0 w q
  · rw [q]; exact z0
theorem put_wI {l : List Int} {i z : Int} (h0 : 0 ≤ i) (h1 : i < l.length) : putM (.lst (wI l)) (.int i) (.d (.int z)) = some (.lst (wI (l.set i.toNat z))) := by
  have : (wI l).length = l.length := List.length_map _
  show (ixN (wI l).length i).map (fun j => MO.lst ((wI l).set j (.d (.int z)))) = _
  unfold ixN
  rw [this, if_pos h0, if_pos h1, ← wI_set]
  rfl
theorem p_draw (j : Nat) {h : Hm} {a b c : Nat} {cs gs : List Int} {n t : Int} (s : Sm h a b c cs gs n) (hn : n < 2 ^ 31) (t0 : 0 < t) (t1 : t < 1000) : ∃ z h' gs', 0 ≤ z ∧ z < t ∧ lvl prg dfs (j + 2) 5 [.r a, .d (.int t)] [] h = .ok (.d (.int z)) h' ∧ Sm h' a b c cs gs' (n + 1) ∧ h'.length = h.length ∧ ∀ i, i ≠ a → i ≠ c → h'[i]? = h[i]? := by
  have s1 := s.spot
  have n0 := s.n0
  rw [lvl_no (d := d__law_draw) rfl rfl]
  show ∃ z h' gs', 0 ≤ z ∧ z < t ∧ bodyEnd (exZs (prg.at dfs (j + 1) false) (lvl prg dfs (j + 1)) b__law_draw [some (.r a), some (.d (.int t)), none, none, none] h) = _ ∧ _
  have e1 : exZs (prg.at dfs (j + 1) false) (lvl prg dfs (j + 1)) b__law_draw [some (.r a), some (.d (.int t)), none, none, none] h = exZs (prg.at dfs (j + 1) false) (lvl prg dfs (j + 1)) (b__law_draw.drop 2) [some (.r a), some (.d (.int t)), some (.d (.int n)), none, none] (h.set a (.dK KS [.r b, .r c, .d (.int (n + 1))])) := by
    simp [b__law_draw, exZs, exZ, ev, sSeq, sSet, sPut, bindT, vVar, vC, v2, bind_ok, liftX_ok, ix3 s.ha, pAdd, sAdd, s.ha, pm3]
  rw [e1]
  have f1 : ∀ i, i ≠ a → (h.set a (.dK KS [.r b, .r c, .d (.int (n + 1))]))[i]? = h[i]? := fun i hi => List.getElem?_set_ne (Ne.symm hi)
  have f2 : (h.set a (.dK KS [.r b, .r c, .d (.int (n + 1))])).length = h.length := List.length_set
  generalize h.set a (.dK KS [.r b, .r c, .d (.int (n + 1))]) = h1 at s1 f1 f2 ⊢
  have m64 : (n % 64).toNat < cs.length := by rw [s.cl]; omega
  have m640 : 0 ≤ n % 64 := by omega
  have fin : ∀ p q : Option W, ∃ z, 0 ≤ z ∧ z < t ∧ exZs (prg.at dfs (j + 1) false) (lvl prg dfs (j + 1)) (b__law_draw.drop 3) [some (.r a), some (.d (.int t)), some (.d (.int n)), p, q] h1 = .ok (.rt (.d (.int z)), [some (.r a), some (.d (.int t)), some (.d (.int n)), p, q]) h1 := fun p q => by
    refine ⟨mix (mix (cs[(n % 64).toNat]'m64 + 31 * (n / 64)) n) (n + 7) % t, Int.emod_nonneg _ (by omega), Int.emod_lt_of_pos _ t0, ?_⟩
    have c1 : cMul 31 (n / 64) = true := cMul_l (by decide) (by decide)
    have x1 : sIx (.r b) (.d (.int (n % 64))) h1 = .ok (.d (.int (cs[(n % 64).toNat]'m64))) h1 := ixL s1.hb m640 m64
    have y1 : ∀ x, lvl prg dfs (j + 1) 3 [.d (.int x), .d (.int n)] [] h1 = .ok (.d (.int (mix x n))) h1 := fun x => p_mixed j x n h1 n0 (by omega)
    have y2 : ∀ x, lvl prg dfs (j + 1) 3 [.d (.int x), .d (.int (n + 7))] [] h1 = .ok (.d (.int (mix x (n + 7)))) h1 := fun x => p_mixed j x (n + 7) h1 (by omega) (by omega)
    simp [b__law_draw, exZs, exZ, ev, evs, sSeq, sRet, vCall, vArgs, aCons, aNil, vVar, vC, v2, bind_ok, liftX_ok, ix1 s1.ha, pAdd, pMod, pDiv, pMul, sAdd, sMul, sI, cMod, cDiv, x1, y1, y2, c1, t0]
  by_cases hg : gs = []
  · obtain ⟨z, z0, z1, ez⟩ := fin none none
    refine ⟨z, h1, gs, z0, z1, ?_, s1, f2, fun i h1 _ => f1 i h1⟩
    have e2 : exZs (prg.at dfs (j + 1) false) (lvl prg dfs (j + 1)) (b__law_draw.drop 2) [some (.r a), some (.d (.int t)), some (.d (.int n)), none, none] h1 = exZs (prg.at dfs (j + 1) false) (lvl prg dfs (j + 1)) (b__law_draw.drop 3) [some (.r a), some (.d (.int t)), some (.d (.int n)), none, none] h1 := by
      refine seq_nx ?_
      simp [exZ, exZs, tst, tVal, sIf, ev, evs, vLst, aNil, pures, v2, vVar, vC, bind_ok, liftX_ok, ix2 s1.ha, ne_nil s1.hc, hg, asB_ok, sNil]
    rw [e2, ez]
    rfl
  · have gp : 0 < gs.length := List.length_pos_iff.mpr hg
    have gi0 : 0 ≤ n % (gs.length : Int) := Int.emod_nonneg _ (by omega)
    have gi1 : n % (gs.length : Int) < gs.length := Int.emod_lt_of_pos _ (by omega)
    have gi : (n % (gs.length : Int)).toNat < gs.length := by omega
    have gp' : (0 : Int) < gs.length := by omega
    have x2 : sIx (.r c) (.d (.int (n % (gs.length : Int)))) h1 = .ok (.d (.int (gs[(n % (gs.length : Int)).toNat]'gi))) h1 := ixL s1.hc gi0 gi
    have hz := s.g0 _ (List.getElem_mem gi)
    have sq : seqOf (.r c) h1 = some (wI gs) := by simp only [seqOf, s1.hc]
    have ln : sLen prg.kn (lvl prg dfs (j + 1)) [.r c] h1 = .ok (.d (.int (gs.length : Int))) h1 := by
      simp [sLen, sq, wI]
    have pt := put_wI (z := gs[(n % (gs.length : Int)).toNat]'gi / t) gi0 gi1
    by_cases hp : 0 < gs[(n % (gs.length : Int)).toNat]'gi
    · refine ⟨gs[(n % (gs.length : Int)).toNat]'gi % t, _, _, Int.emod_nonneg _ (by omega), Int.emod_lt_of_pos _ t0, ?_, s1.great (n % (gs.length : Int)).toNat (gs[(n % (gs.length : Int)).toNat]'gi / t) (Int.ediv_nonneg hz (by omega)), by rw [List.length_set]; exact f2, fun i h1 h2 => by rw [List.getElem?_set_ne (Ne.symm h2)]; exact f1 i h1⟩
      have e2 : exZs (prg.at dfs (j + 1) false) (lvl prg dfs (j + 1)) (b__law_draw.drop 2) [some (.r a), some (.d (.int t)), some (.d (.int n)), none, none] h1 = .ok (.rt (.d (.int (gs[(n % (gs.length : Int)).toNat]'gi % t))), [some (.r a), some (.d (.int t)), some (.d (.int n)), some (.d (.int (n % (gs.length : Int)))), some (.d (.int (gs[(n % (gs.length : Int)).toNat]'gi)))]) (h1.set c (.lst (wI (gs.set (n % (gs.length : Int)).toNat (gs[(n % (gs.length : Int)).toNat]'gi / t))))) := by
        refine seq_rt ?_
        have d30 : t < 1073741824 := by omega
        simp [exZ, exZs, tst, tVal, sIf, sSeq, sSet, sRet, sPut, bindT, ev, evs, vLst, vBf, aCons, aNil, pures, v2, vVar, vC, bind_ok, liftX_ok, ix2 s1.ha, ne_nil s1.hc, hg, asB_ok, sNil, pMod, pDiv, pGt, sI, cMod, cDiv, cT, ln, gp, gp', x2, hp, t0, d30, s1.hc, pt]
      rw [e2]
      rfl
    · obtain ⟨z, z0, z1, ez⟩ := fin (some (.d (.int (n % (gs.length : Int))))) (some (.d (.int (gs[(n % (gs.length : Int)).toNat]'gi))))
      refine ⟨z, h1, gs, z0, z1, ?_, s1, f2, fun i h1 _ => f1 i h1⟩
      have e2 : exZs (prg.at dfs (j + 1) false) (lvl prg dfs (j + 1)) (b__law_draw.drop 2) [some (.r a), some (.d (.int t)), some (.d (.int n)), none, none] h1 = exZs (prg.at dfs (j + 1) false) (lvl prg dfs (j + 1)) (b__law_draw.drop 3) [some (.r a), some (.d (.int t)), some (.d (.int n)), some (.d (.int (n % (gs.length : Int)))), some (.d (.int (gs[(n % (gs.length : Int)).toNat]'gi)))] h1 := by
        refine seq_nx ?_
        simp [exZ, exZs, tst, tVal, sIf, sSeq, sSet, sRet, bindT, ev, evs, vLst, vBf, aCons, aNil, pures, v2, vVar, vC, bind_ok, liftX_ok, ix2 s1.ha, ne_nil s1.hc, hg, asB_ok, sNil, pMod, pDiv, pGt, sI, cMod, cDiv, cT, ln, gp, gp', x2, hp]
      rw [e2, ez]
      rfl
end K01
namespace K01
open PySem L2 StX Mi
def wN (l : List Nat) : List W := l.map fun (k : Nat) => .d (.int (k : Int))
end K01
namespace K01
open PySem L2 StX Mi
def dN (l : List Nat) : List D := l.map fun (k : Nat) => .int (k : Int)
theorem pures_wN : ∀ l : List Nat, pures (wN l) = some (dN l)
  | [] => rfl
  | k :: l => by
    show pures (W.d (.int (k : Int)) :: wN l) = _
    unfold pures
    rw [pures_wN l]
    rfl
theorem dW_dN (l : List Nat) : (dN l).map W.d = wN l := by
  unfold dN wN
  rw [List.map_map]
  rfl
theorem pyDs_dN : ∀ l : List Nat, pyDs (dN l) = some ((l.map Int.ofNat).map PyData.int)
  | [] => rfl
  | k :: l => by
    show pyDs (D.int (k : Int) :: dN l) = _
    simp only [pyDs, pyD, pyDs_dN l]
    rfl
theorem rngW_N (m : Nat) : rngW 0 m = wN (List.range m) := by
  unfold rngW wN
  congr 1
  funext i
  rw [Int.zero_add]
theorem ne_nilD {N : Kn} {Γ : Nat → Fn} {xs : List Nat} {h : Hm} : sEq N Γ true (.d (.lst (dN xs))) (.d (.lst [])) h = .ok (.d (.bl (decide (xs ≠ [])))) h := by
  have p1 : pyW 8 h (.d (.lst (dN xs))) = some (.list ((xs.map Int.ofNat).map PyData.int)) := by
    show pyD (.lst (dN xs)) = _
    simp only [pyD, pyDs_dN]
    rfl
  have p2 : pyW 8 h (.d (.lst [])) = some (.list (([] : List Int).map PyData.int)) := rfl
  have i1 : insOf (.d (.lst (dN xs))) h = none := rfl
  have i2 : asT (.d (.lst (dN xs))) h = none := rfl
  simp only [sEq, sEqD, i1, i2, p1, p2, shInts]
  cases xs <;> rfl
theorem tup_dN {xs : List Nat} {h : Hm} : sTuple [.d (.lst (dN xs))] h = .ok (.d (.tup (dN xs))) h := by
  have e : seqOf (.d (.lst (dN xs))) h = some (wN xs) := by
    show some ((dN xs).map W.d) = _
    rw [dW_dN]
  show (match seqOf (.d (.lst (dN xs))) h with
    | some l => match pures l with
      | some ds => R.ok (W.d (D.tup ds)) h
      | none => R.no
    | none => R.no) = _
  rw [e]
  show (match pures (wN xs) with
      | some ds => R.ok (W.d (D.tup ds)) h
      | none => R.no) = _
  rw [pures_wN]
end K01
namespace K01
open PySem L2 StX Mi
/-- a way's tree -/
def wayD (r l p : Int) (ks : List (List Key)) (vs : List D) : D := .ins 0 [5, 6] [.tup [.int r, .int l, .int p], .dT ks vs]
section
variable {j : Nat} {r l p : Int} {ks : List (List Key)} {vs : List D} {h : Hm}
theorem f_size {f : Fe} {env : En} (e : f env h = .ok (.d (wayD r l p ks vs)) h) : vFld tab (lvl prg dfs j) 5 f env h = .ok (.d (.tup [.int r, .int l, .int p])) h := by
  unfold vFld
  rw [e]
  rfl
theorem f_lists {f : Fe} {env : En} (e : f env h = .ok (.d (wayD r l p ks vs)) h) : vFld tab (lvl prg dfs j) 6 f env h = .ok (.d (.dT ks vs)) h := by
  unfold vFld
  rw [e]
  rfl
end
end K01
namespace Mi
open PySem L2 StX
section
variable {α : Type} {t : Tg} {fe : Fe} {tt : Ft} {env : En} {h : Hm} {c g : α → W} {f : Fs}
theorem lcL_pure : ∀ L : List α, (∀ a ∈ L, ∃ env1, bindT t (c a) env = some env1 ∧ fe env1 h = .ok (g a) h) → lcL t tTrue fe env (L.map c) h = .ok (L.map g) h
  | [], _ => rfl
  | a :: L, k => by
    obtain ⟨env1, e1, e2⟩ := k a (List.mem_cons_self ..)
    have ih := lcL_pure L fun x hx => k x (List.mem_cons_of_mem _ hx)
    rw [List.map_cons, List.map_cons]
    unfold lcL
    rw [e1]
    simp only [tTrue, e2, ih]
theorem lcL_filt {b : α → Bool} : ∀ L : List α, (∀ a ∈ L, ∃ env1, bindT t (c a) env = some env1 ∧ tt env1 h = .ok (b a) h ∧ fe env1 h = .ok (g a) h) → lcL t tt fe env (L.map c) h = .ok ((L.filter b).map g) h
  | [], _ => rfl
  | a :: L, k => by
    obtain ⟨env1, e1, e2, e3⟩ := k a (List.mem_cons_self ..)
    have ih := lcL_filt L fun x hx => k x (List.mem_cons_of_mem _ hx)
    rw [List.map_cons]
    unfold lcL
    rw [e1]
    simp only [e2]
    cases hb : b a with
    | false =>
      rw [List.filter_cons_of_neg (by rw [hb]; decide)]
      exact ih
    | true =>
      rw [List.filter_cons_of_pos hb, List.map_cons]
      simp only [e3, ih]
theorem forL_map (I : List α → En → Hm → Prop) : ∀ (L : List α) (env : En) (h : Hm), I L env h →
    (∀ a L env h, I (a :: L) env h → ∃ env1, bindT t (c a) env = some env1 ∧ ∃ env2 h2, f env1 h = .ok (.nx, env2) h2 ∧ I L env2 h2) → ∃ env2 h2, forL t f (L.map c) env h = .ok (.nx, env2) h2 ∧ I [] env2 h2
  | [], env, h, i, _ => ⟨env, h, rfl, i⟩
  | a :: L, env, h, i, k => by
    obtain ⟨env1, e1, env2, h2, e2, i2⟩ := k a L env h i
    obtain ⟨env3, h3, e3, i3⟩ := forL_map I L env2 h2 i2 k
    refine ⟨env3, h3, ?_, i3⟩
    rw [List.map_cons]
    unfold forL
    rw [e1]
    show R.bind (f env1 h) _ = _
    rw [e2]
    exact e3
theorem app_get {m : MO} : (h ++ [m])[h.length]? = some m := by simp
theorem app_set {m m' : MO} : (h ++ [m]).set h.length m' = h ++ [m'] := by simp
end
theorem rng1_ok {g : Fa} {env : En} {h : Hm} {m : Nat} (e : g env h = .ok [.d (.int (m : Int))] h) (hm : m < 1000000) : iRng1' g env h = .ok ((List.range m).map fun (k : Nat) => .d (.int (k : Int))) h := by
  unfold iRng1'
  rw [e, bind_ok]
  show (if -(2 ^ 62 : Int) ≤ (m : Int) ∧ (m : Int) < 2 ^ 62 then R.ok (rngW 0 (m : Int).toNat) h else .no) = _
  rw [if_pos (by omega), Int.toNat_natCast]
  unfold rngW
  congr 1
  apply List.map_congr_left
  intro k _
  rw [Int.zero_add]
/-- a comprehension's value, as data -/
theorem lc_ok {own : List Nat} {t : Tg} {it : Fa} {tt : Ft} {fe : Fe} {env : En} {h h1 h2 : Hm} {ws xs : List W} {ds : List D} (e1 : it env h = .ok ws h1) (e2 : lcL t tt fe (wipeE env own) ws h1 = .ok xs h2) (hl : xs.length ≤ sizeLine) (hp : pures xs = some ds) : vLc false own t it tt fe env h = .ok (.d (.lst ds)) h2 := by
  unfold vLc
  rw [e1, bind_ok, e2]
  show (if xs.length ≤ sizeLine then _ else _) = _
  rw [if_pos hl, if_neg (by decide), hp]
/-- .. as a list that may change -/
theorem lc_okM {own : List Nat} {t : Tg} {it : Fa} {tt : Ft} {fe : Fe} {env : En} {h h1 h2 : Hm} {ws xs : List W} (e1 : it env h = .ok ws h1) (e2 : lcL t tt fe (wipeE env own) ws h1 = .ok xs h2) (hl : xs.length ≤ sizeLine) : vLc true own t it tt fe env h = .ok (.r h2.length) (h2 ++ [.lst xs]) := by
  unfold vLc
  rw [e1, bind_ok, e2]
  show (if xs.length ≤ sizeLine then _ else _) = _
  rw [if_pos hl, if_pos rfl]
theorem set_ok {t : Tg} {f : Fe} {env env' : En} {h h1 : Hm} {w : W} (e : f env h = .ok w h1) (b : bindT t w env = some env') : sSet t f env h = .ok (.nx, env') h1 := by
  unfold sSet
  rw [e, liftX_ok, b]
theorem for_ok {t : Tg} {it : Fa} {f : Fs} {env env' : En} {h h1 h2 : Hm} {ws : List W} {fl : Fl} (e : it env h = .ok ws h1) (e2 : forL t f ws env h1 = .ok (fl, env') h2) : sFor t it f env h = .ok (fl, env') h2 := by
  unfold sFor
  rw [e, liftX_ok, e2]
theorem put_ok {fo fi fv : Fe} {env : En} {h h1 h2 h3 : Hm} {w : W} {n : Nat} {k : D} {m m' : MO} (e1 : fv env h = .ok w h1) (e2 : fo env h1 = .ok (.r n) h2) (e3 : fi env h2 = .ok (.d k) h3) (e4 : h3[n]? = some m) (e5 : putM m k w = some m') : sPut fo fi fv env h = .ok (.nx, env) (h3.set n m') := by
  unfold sPut
  rw [e1, liftX_ok, e2, liftX_ok, e3, liftX_ok]
  show (match h3[n]? with
    | some m => _
    | none => _) = _
  rw [e4]
  show (match putM m k w with
    | some m' => _
    | none => _) = _
  rw [e5]
theorem v2_ok {sem : W → W → Hm → R W} {fa fb : Fe} {env : En} {h h1 h2 : Hm} {x y : W} {r : R W} (e1 : fa env h = .ok x h1) (e2 : fb env h1 = .ok y h2) (e3 : sem x y h2 = r) : v2 sem fa fb env h = r := by
  unfold v2
  rw [e1, bind_ok, e2, bind_ok, e3]
theorem ac_ok {f : Fe} {g : Fa} {env : En} {h h1 h2 : Hm} {w : W} {ws : List W} (e1 : f env h = .ok w h1) (e2 : g env h1 = .ok ws h2) : aCons f g env h = .ok (w :: ws) h2 := by
  unfold aCons
  rw [e1, bind_ok, e2, bind_ok]
theorem call_ok {fa : Fa} {g : Fn} {env : En} {h h1 : Hm} {ws : List W} {r : R W} (e1 : fa env h = .ok ws h1) (e2 : g ws [] h1 = r) : vCall fa aNil [] g env h = r := by
  unfold vCall vArgs
  rw [e1, bind_ok]
  exact e2
theorem tv_ok {f : Fe} {env : En} {h h1 : Hm} {b : Bool} (e : f env h = .ok (.d (.bl b)) h1) : tVal f env h = .ok b h1 := by
  unfold tVal
  rw [e, bind_ok, asB_ok]
theorem if_t {t : Ft} {f g : Fs} {env : En} {h h1 : Hm} (e : t env h = .ok true h1) : sIf t f g env h = f env h1 := by
  unfold sIf
  rw [e, liftX_ok, if_pos rfl]
theorem if_f {t : Ft} {f g : Fs} {env : En} {h h1 : Hm} (e : t env h = .ok false h1) : sIf t f g env h = g env h1 := by
  unfold sIf
  rw [e, liftX_ok, if_neg (by decide)]
theorem vif_t {t : Ft} {f g : Fe} {env : En} {h h1 : Hm} (e : t env h = .ok true h1) : vIf t f g env h = f env h1 := by
  unfold vIf
  rw [e, bind_ok, if_pos rfl]
theorem vif_f {t : Ft} {f g : Fe} {env : En} {h h1 : Hm} (e : t env h = .ok false h1) : vIf t f g env h = g env h1 := by
  unfold vIf
  rw [e, bind_ok, if_neg (by decide)]
theorem bf_ok {sem : List W → Hm → R W} {f : Fa} {env : En} {h h1 : Hm} {ws : List W} {r : R W} (e1 : f env h = .ok ws h1) (e2 : sem ws h1 = r) : vBf sem f env h = r := by
  unfold vBf
  rw [e1, bind_ok, e2]
theorem bm_ok {ty : W → Hm → Bool} {sem : W → List W → Hm → R W} {fo : Fe} {f : Fa} {env : En} {h h1 h2 : Hm} {w : W} {ws : List W} {r : R W} (e1 : fo env h = .ok w h1) (et : ty w h1 = true) (e2 : f env h1 = .ok ws h2) (e3 : sem w ws h2 = r) : vBm ty sem fo f env h = r := by
  unfold vBm
  rw [e1, bind_ok, if_pos et, e2, bind_ok, e3]
theorem ex_ok {f : Fe} {env : En} {h h1 : Hm} {w : W} (e : f env h = .ok w h1) : sExpr f env h = .ok (.nx, env) h1 := by
  unfold sExpr
  rw [e, liftX_ok]
theorem ret_ok {f : Fe} {env : En} {h h1 : Hm} {w : W} (e : f env h = .ok w h1) : sRet f env h = .ok (.rt w, env) h1 := by
  unfold sRet
  rw [e, liftX_ok]
theorem tup_ok {f : Fa} {env : En} {h h1 : Hm} {ds : List D} (e : f env h = .ok (ds.map W.d) h1) (hl : ds.length ≤ sizeLine) : vTup f env h = .ok (.d (.tup ds)) h1 := by
  unfold vTup
  rw [e, bind_ok, pures_map]
  show (if _ then _ else _) = _
  rw [if_pos (by rw [List.length_map]; exact hl)]
theorem lst_ok {f : Fa} {env : En} {h h1 : Hm} {ds : List D} (e : f env h = .ok (ds.map W.d) h1) (hl : ds.length ≤ sizeLine) : vLst f env h = .ok (.d (.lst ds)) h1 := by
  unfold vLst
  rw [e, bind_ok, pures_map]
  show (if _ then _ else _) = _
  rw [if_pos (by rw [List.length_map]; exact hl)]
theorem lstM_ok {f : Fa} {env : En} {h h1 : Hm} {ws : List W} (e : f env h = .ok ws h1) (hl : ws.length ≤ sizeLine) : vLstM f env h = .ok (.r h1.length) (h1 ++ [.lst ws]) := by
  unfold vLstM
  rw [e, bind_ok, if_pos hl]
end Mi
namespace K01
open PySem L2 StX Mi
theorem ten18 : ((10 : Int) ^ (18 : Int).toNat) = 1000000000000000000 := by decide
theorem p_folded (j : Nat) (ns : List Int) (h : Hm) : ∃ cs : List Int, cs.length = 64 ∧ (∀ z ∈ cs, 0 ≤ z) ∧ lvl prg dfs (j + 1) 4 [.d (.scr (ns.map .int))] [] h = .ok (.r h.length) (h ++ [.lst (wI cs)]) := by
  rw [lvl_no (d := d__law_folded) rfl rfl]
  show ∃ cs : List Int, cs.length = 64 ∧ (∀ z ∈ cs, 0 ≤ z) ∧ bodyEnd (exZs (prg.at dfs j false) (lvl prg dfs j) b__law_folded [some (.d (.scr (ns.map .int))), none, none, none] h) = _
  generalize hs : W.d (.scr (ns.map .int)) = s
  -- the list
  have e1 : exZ (prg.at dfs j false) (lvl prg dfs j) (.set (.nm 1) (.lc true (.op2 pAdd (.int 17) (.var 2)) (.nm 2) .r1 [(.int 64)] [] [("_law_n", 2)])) [some s, none, none, none] h = .ok (.nx, [some s, some (.r h.length), none, none]) (h ++ [.lst (wI ((List.range 64).map fun (k : Nat) => 17 + (k : Int)))]) := by
    simp only [exZ, ev, iOf, tsts, List.map]
    refine (set_ok (env' := [some s, some (.r h.length), none, none]) (lc_okM (rng1_ok (m := 64) rfl (by decide)) (lcL_pure (g := fun k : Nat => .d (.int (17 + (k : Int)))) _ fun a _ => ⟨[some s, none, some (.d (.int (a : Int))), none], rfl, rfl⟩) (by rw [List.length_map, List.length_range]; unfold sizeLine; omega)) rfl).trans ?_
    unfold wI
    rw [List.map_map]
    rfl
  -- a number changed
  have upd : ∀ {b : List Z} {env : En} {cs : List Int} {i : Int} {z : Int} {o iE vE : E}, b = [.put o iE vE] → cs.length = 64 → (∀ z ∈ cs, 0 ≤ z) → 0 ≤ i → i < 64 → 0 ≤ z → ev (prg.at dfs j false) (lvl prg dfs j) vE env (h ++ [.lst (wI cs)]) = .ok (.d (.int z)) (h ++ [.lst (wI cs)]) → ev (prg.at dfs j false) (lvl prg dfs j) o env (h ++ [.lst (wI cs)]) = .ok (.r h.length) (h ++ [.lst (wI cs)]) → ev (prg.at dfs j false) (lvl prg dfs j) iE env (h ++ [.lst (wI cs)]) = .ok (.d (.int i)) (h ++ [.lst (wI cs)]) → ∃ cs' : List Int, cs'.length = 64 ∧ (∀ z ∈ cs', 0 ≤ z) ∧ exZs (prg.at dfs j false) (lvl prg dfs j) b env (h ++ [.lst (wI cs)]) = .ok (.nx, env) (h ++ [.lst (wI cs')]) := by
    intro b env cs i z o iE vE hb hl h0 i0 i1 z0 e1 e2 e3
    refine ⟨cs.set i.toNat z, by rw [List.length_set]; exact hl, fun w hw => ?_, ?_⟩
    · rcases List.mem_or_eq_of_mem_set hw with q | q
      · exact h0 w q
      · rw [q]; exact z0
    · subst hb
      simp only [exZs, exZ]
      rw [seq_nx (put_ok e1 e2 e3 app_get (put_wI i0 (by omega)))]
      rw [app_set]
      rfl
  -- the script's turns
  have e2 : ∀ cs : List Int, cs.length = 64 → (∀ z ∈ cs, 0 ≤ z) → ∃ cs' : List Int, cs'.length = 64 ∧ (∀ z ∈ cs', 0 ≤ z) ∧ ∃ x y, exZ (prg.at dfs j false) (lvl prg dfs j) (.for (.tp [(.nm 2), (.nm 3)]) .enum [(.var 0)] [(.put (.var 1) (.op2 pMod (.var 2) (.int 64)) (.op2 pMod (.op2 pAdd (.op2 pMul (.ix (.var 1) (.op2 pMod (.var 2) (.int 64))) (.int 48271)) (.var 3)) (.int 2147483647)))]) [some s, some (.r h.length), none, none] (h ++ [.lst (wI cs)]) = .ok (.nx, [some s, some (.r h.length), x, y]) (h ++ [.lst (wI cs')]) := by
    intro cs hl h0
    have it : iEnum' (evs (prg.at dfs j false) (lvl prg dfs j) [.var 0]) [some s, some (.r h.length), none, none] (h ++ [.lst (wI cs)]) = .ok (ns.zipIdx.map fun p : Int × Nat => .d (.tup [.int (p.2 : Nat), .int p.1])) (h ++ [.lst (wI cs)]) := by
      subst hs
      have c2 : evs (prg.at dfs j false) (lvl prg dfs j) [.var 0] [some (.d (.scr (ns.map .int))), some (.r h.length), none, none] (h ++ [.lst (wI cs)]) = .ok [.d (.scr (ns.map .int))] (h ++ [.lst (wI cs)]) := rfl
      unfold iEnum'
      rw [c2, bind_ok]
      show (match pures ((ns.map D.int).map W.d) with
        | some l => R.ok (l.zipIdx.map fun p : D × Nat => W.d (.tup [.int (p.2 : Nat), p.1])) _
        | none => _) = _
      rw [pures_map]
      show R.ok _ _ = _
      rw [List.zipIdx_map, List.map_map]
      rfl
    obtain ⟨env2, h2, q1, x, y, cs', q2, q3, q4, q5⟩ := forL_map (t := .tp [(.nm 2), (.nm 3)]) (f := exZs (prg.at dfs j false) (lvl prg dfs j) [(.put (.var 1) (.op2 pMod (.var 2) (.int 64)) (.op2 pMod (.op2 pAdd (.op2 pMul (.ix (.var 1) (.op2 pMod (.var 2) (.int 64))) (.int 48271)) (.var 3)) (.int 2147483647)))]) (c := fun p : Int × Nat => .d (.tup [.int (p.2 : Nat), .int p.1]))
      (fun L env h1 => ∃ x y cs', env = [some s, some (.r h.length), x, y] ∧ cs'.length = 64 ∧ (∀ z ∈ cs', 0 ≤ z) ∧ h1 = h ++ [.lst (wI cs')]) ns.zipIdx [some s, some (.r h.length), none, none] (h ++ [.lst (wI cs)]) ⟨none, none, cs, rfl, hl, h0, rfl⟩ (by
        rintro ⟨z, n⟩ L env h1 ⟨x, y, cs', rfl, q3, q4, rfl⟩
        refine ⟨[some s, some (.r h.length), some (.d (.int (n : Int))), some (.d (.int z))], rfl, ?_⟩
        have m0 : 0 ≤ (n : Int) % 64 := by omega
        have m1 : ((n : Int) % 64).toNat < cs'.length := by rw [q3]; omega
        have x1 := ixL (h := h ++ [.lst (wI cs')]) (a := h.length) app_get m0 m1
        have m3 : ∀ x, cMul x 48271 = true := fun x => cMul_r (by decide) (by decide)
        obtain ⟨cs2, r1, r2, r3⟩ := upd (b := [(.put (.var 1) (.op2 pMod (.var 2) (.int 64)) (.op2 pMod (.op2 pAdd (.op2 pMul (.ix (.var 1) (.op2 pMod (.var 2) (.int 64))) (.int 48271)) (.var 3)) (.int 2147483647)))]) (env := [some s, some (.r h.length), some (.d (.int (n : Int))), some (.d (.int z))]) (i := (n : Int) % 64) (z := (cs'[((n : Int) % 64).toNat]'m1 * 48271 + z) % 2147483647) rfl q3 q4 m0 (by omega) (Int.emod_nonneg _ (by decide)) (by simp [ev, v2, vVar, vC, bind_ok, pMod, pAdd, pMul, sI, sAdd, sMul, cMod, x1, m3]) rfl rfl
        exact ⟨_, _, r3, _, _, cs2, rfl, r1, r2, rfl⟩)
    subst q2 q5
    refine ⟨cs', q3, q4, x, y, ?_⟩
    simp only [exZ, iOf]
    exact for_ok it q1
  have e3 : ∀ (cs : List Int) (x y : Option W), cs.length = 64 → (∀ z ∈ cs, 0 ≤ z) → ∃ cs' : List Int, cs'.length = 64 ∧ (∀ z ∈ cs', 0 ≤ z) ∧ ∃ x' y', exZ (prg.at dfs j false) (lvl prg dfs j) (.for (.nm 2) .r2 [(.int 1), (.int 64)] [(.put (.var 1) (.var 2) (.op2 pMod (.op2 pAdd (.ix (.var 1) (.var 2)) (.op2 pMul (.ix (.var 1) (.op2 pSub (.var 2) (.int 1))) (.int 16807))) (.int 2147483647)))]) [some s, some (.r h.length), x, y] (h ++ [.lst (wI cs)]) = .ok (.nx, [some s, some (.r h.length), x', y']) (h ++ [.lst (wI cs')]) := by
    intro cs x y hl h0
    obtain ⟨env2, h2, q1, x, y, cs', q2, q3, q4, q5, _⟩ := forL_map (t := .nm 2) (f := exZs (prg.at dfs j false) (lvl prg dfs j) [(.put (.var 1) (.var 2) (.op2 pMod (.op2 pAdd (.ix (.var 1) (.var 2)) (.op2 pMul (.ix (.var 1) (.op2 pSub (.var 2) (.int 1))) (.int 16807))) (.int 2147483647)))]) (c := fun k : Nat => .d (.int (1 + (k : Int))))
      (fun L env h1 => ∃ x y cs', env = [some s, some (.r h.length), x, y] ∧ cs'.length = 64 ∧ (∀ z ∈ cs', 0 ≤ z) ∧ h1 = h ++ [.lst (wI cs')] ∧ ∀ k ∈ L, k < 63) (List.range 63) [some s, some (.r h.length), x, y] (h ++ [.lst (wI cs)]) ⟨x, y, cs, rfl, hl, h0, rfl, fun k hk => List.mem_range.mp hk⟩ (by
        rintro k L env h1 ⟨x, y, cs', rfl, q3, q4, rfl, q6⟩
        have hk := q6 k (List.mem_cons_self ..)
        refine ⟨[some s, some (.r h.length), some (.d (.int (1 + (k : Int)))), y], rfl, ?_⟩
        have m1 : (1 + (k : Int)).toNat < cs'.length := by rw [q3]; omega
        have m2 : (1 + (k : Int) - 1).toNat < cs'.length := by rw [q3]; omega
        have x1 := ixL (h := h ++ [.lst (wI cs')]) (a := h.length) app_get (by omega) m1
        have x2 := ixL (h := h ++ [.lst (wI cs')]) (a := h.length) app_get (by omega) m2
        have m3 : ∀ x, cMul x 16807 = true := fun x => cMul_r (by decide) (by decide)
        obtain ⟨cs2, r1, r2, r3⟩ := upd (b := [(.put (.var 1) (.var 2) (.op2 pMod (.op2 pAdd (.ix (.var 1) (.var 2)) (.op2 pMul (.ix (.var 1) (.op2 pSub (.var 2) (.int 1))) (.int 16807))) (.int 2147483647)))]) (env := [some s, some (.r h.length), some (.d (.int (1 + (k : Int)))), y]) (i := 1 + (k : Int)) (z := (cs'[(1 + (k : Int)).toNat]'m1 + cs'[(1 + (k : Int) - 1).toNat]'m2 * 16807) % 2147483647) rfl q3 q4 (by omega) (by omega) (Int.emod_nonneg _ (by decide)) (by simp only [ev, v2, vVar, vC, bind_ok, pMod, pAdd, pMul, pSub, sI, sAdd, sMul, cMod, cT, x1, x2, m3, List.getElem?_cons_zero, List.getElem?_cons_succ, if_true]; rfl) rfl rfl
        exact ⟨_, _, r3, _, _, cs2, rfl, r1, r2, rfl, fun a ha => q6 a (List.mem_cons_of_mem _ ha)⟩)
    subst q2 q5
    refine ⟨cs', q3, q4, x, y, ?_⟩
    simp only [exZ, iOf]
    exact for_ok rfl q1
  obtain ⟨c2, a1, a2, x, y, a3⟩ := e2 ((List.range 64).map fun (k : Nat) => 17 + (k : Int)) (by rw [List.length_map, List.length_range]) fun z hz => by
    obtain ⟨k, _, rfl⟩ := List.mem_map.mp hz
    omega
  obtain ⟨c3, b1, b2, x', y', b3⟩ := e3 c2 x y a1 a2
  refine ⟨c3, b1, b2, ?_⟩
  simp only [b__law_folded, exZs]
  rw [seq_nx e1, seq_nx a3, seq_nx b3]
  rfl
end K01
namespace K01
open PySem L2 StX Mi
theorem p_begun (j : Nat) (ns : List Int) (hn : ns.length ≤ 63) : ∃ cs gs : List Int, lvl prg dfs (j + 2) 6 [.d (.scr (ns.map .int))] [] [] = .ok (.r 1) [.lst (wI cs), .dK KS [.r 0, .r 2, .d (.int 0)], .lst (wI gs)] ∧ Sm [.lst (wI cs), .dK KS [.r 0, .r 2, .d (.int 0)], .lst (wI gs)] 1 0 2 cs gs 0 := by
  obtain ⟨cs, c1, c2, c3⟩ := p_folded j ns []
  refine ⟨cs, ns.map fun z => if 1000000000000000000 ≤ z then z else 0, ?_, ⟨rfl, rfl, rfl, by decide, by decide, by decide, c1, c2, by rw [List.length_map]; exact hn, fun z hz => ?_, by decide⟩⟩
  · rw [lvl_no (d := d__law_begun) rfl rfl]
    show bodyEnd (exZs (prg.at dfs (j + 1) false) (lvl prg dfs (j + 1)) b__law_begun [some (.d (.scr (ns.map .int))), none, none] []) = _
    generalize hs : W.d (.scr (ns.map .int)) = s at c3 ⊢
    have e0 : aL (fes (prg.at dfs (j + 1) false) (lvl prg dfs (j + 1)) [(.call 4 [(.var 0)] [] []), (.lst false []), (.int 0)]) [some s, none, none] [] = .ok [.r 0, .d (.lst []), .d (.int 0)] [.lst (wI cs)] := by
      show R.bind (lvl prg dfs (j + 1) 4 [s] [] []) _ = _
      rw [c3]
      rfl
    have e1 : exZ (prg.at dfs (j + 1) false) (lvl prg dfs (j + 1)) (.set (.nm 1) (.dct [(Sum.inr "cells"), (Sum.inr "great"), (Sum.inr "spot")] [(.call 4 [(.var 0)] [] []), (.lst false []), (.int 0)])) [some s, none, none] [] = .ok (.nx, [some s, some (.r 1), none]) [.lst (wI cs), .dK KS [.r 0, .d (.lst []), .d (.int 0)]] := by
      simp only [exZ, ev]
      refine set_ok (w := .r 1) (h1 := [.lst (wI cs), .dK KS [.r 0, .d (.lst []), .d (.int 0)]]) ?_ rfl
      unfold vDct
      rw [e0]
      rfl
    have e2 : exZ (prg.at dfs (j + 1) false) (lvl prg dfs (j + 1)) (.put (.var 1) (.str "great") (.lc true (.ife (.cmp pGe (.var 2) (.op2 pPow (.int 10) (.int 18))) (.var 2) (.int 0)) (.nm 2) .seq [(.var 0)] [] [("_law_cell", 2)])) [some s, some (.r 1), none] [.lst (wI cs), .dK KS [.r 0, .d (.lst []), .d (.int 0)]] = .ok (.nx, [some s, some (.r 1), none]) [.lst (wI cs), .dK KS [.r 0, .r 2, .d (.int 0)], .lst (wI (ns.map fun z => if 1000000000000000000 ≤ z then z else 0))] := by
      simp only [exZ, ev, tst, iOf, fes, tsts, List.map]
      generalize hh : [MO.lst (wI cs), .dK KS [.r 0, .d (.lst []), .d (.int 0)]] = h1
      have it : iSeq (vVar 0) [some s, some (.r 1), none] h1 = .ok (ns.map fun z => .d (.int z)) h1 := by
        subst hs
        show R.ok ((ns.map D.int).map W.d) h1 = _
        rw [List.map_map]
        rfl
      have pw : ∀ env, v2 pPow.sem (vC (.int 10)) (vC (.int 18)) env h1 = .ok (.d (.int 1000000000000000000)) h1 := fun env => by
        show (if cPow 10 18 = true then R.ok (W.d (.int ((10 : Int) ^ (18 : Int).toNat))) h1 else .no) = _
        rw [ten18]
        rfl
      have lc := lc_okM (own := [2]) it (lcL_pure (t := .nm 2) (fe := vIf (tVal (v2 pGe.sem (vVar 2) (v2 pPow.sem (vC (.int 10)) (vC (.int 18))))) (vVar 2) (vC (.int 0))) (g := fun z : Int => .d (.int (if 1000000000000000000 ≤ z then z else 0))) ns fun z _ => ⟨[some s, some (.r 1), some (.d (.int z))], rfl, by
        have g1 : v2 pGe.sem (vVar 2) (v2 pPow.sem (vC (.int 10)) (vC (.int 18))) [some s, some (.r 1), some (.d (.int z))] h1 = .ok (.d (.bl (decide (1000000000000000000 ≤ z)))) h1 := by
          exact v2_ok rfl (pw _) rfl
        unfold vIf tVal
        rw [g1]
        show (if decide (1000000000000000000 ≤ z) = true then _ else _) = _
        by_cases hz : 1000000000000000000 ≤ z
        · rw [if_pos (decide_eq_true hz), if_pos hz]
          rfl
        · rw [if_neg (by rw [decide_eq_false hz]; decide), if_neg hz]
          rfl⟩) (by rw [List.length_map]; unfold sizeLine; omega)
      refine (put_ok (n := 1) (m := .dK KS [.r 0, .d (.lst []), .d (.int 0)]) lc rfl rfl ?_ pm2).trans ?_
      · rw [← hh]; rfl
      · rw [← hh]
        unfold wI
        rw [List.map_map]
        rfl
    simp only [b__law_begun, exZs]
    rw [seq_nx e1, seq_nx e2]
    rfl
  · obtain ⟨w, _, rfl⟩ := List.mem_map.mp hz
    show 0 ≤ if 1000000000000000000 ≤ w then w else 0
    split <;> omega
end K01
namespace Mi
open PySem L2 StX
theorem mapH_pure {k : Nat} {h : Hm} : ∀ ds : List D, mapH (dfz k) h (ds.map W.d) = some (ds, h)
  | [] => rfl
  | d :: ds => by
    have e : dfz k h (.d d) = some (d, h) := by cases k <;> rfl
    rw [List.map_cons]
    unfold mapH
    rw [e]
    simp only [mapH_pure ds]
theorem dfz_lst {k : Nat} {h : Hm} {r : Nat} {ds : List D} (e : h[r]? = some (.lst (ds.map W.d))) : dfz (k + 1) h (.r r) = some (.lst ds, h.set r .dead) := by
  unfold dfz
  rw [e]
  show (match mapH (dfz k) h (ds.map W.d) with
    | some (ds, h1) => _
    | none => _) = _
  rw [mapH_pure]
  simp only [e]
  rfl
theorem vfrz_ok {f : Fe} {env : En} {h h1 h2 : Hm} {w : W} {d : D} (e1 : f env h = .ok w h1) (e2 : dfz 8 h1 w = some (d, h2)) : vFrz f env h = .ok (.d d) h2 := by
  unfold vFrz
  rw [e1, bind_ok, e2]
theorem app_ok {h : Hm} {n : Nat} {l : List W} {y : W} (e : h[n]? = some (.lst l)) (hl : l.length < sizeLine) : sAppend (.r n) [y] h = .ok (.d .non) (h.set n (.lst (l ++ [y]))) := by
  show (match h[n]? with
    | some (.lst l) => if l.length < sizeLine then R.ok (W.d D.non) (h.set n (.lst (l ++ [y]))) else .no
    | _ => .no) = _
  rw [e]
  show (if _ then _ else _) = _
  rw [if_pos hl]
theorem isl_ok {h : Hm} {n : Nat} {l : List W} (e : h[n]? = some (.lst l)) : isLstAt (.r n) h = true := by
  show (match h[n]? with
    | some m => isLstM m
    | none => false) = true
  rw [e]
  rfl
end Mi
namespace K01
open PySem L2 StX Mi
def tpW (t : List Nat) : W := .d (.tup (dN t))
theorem rngD_N (s : Nat) : rngD 0 (s : Int) = dN (List.range s) := by
  unfold rngD dN
  rw [Int.sub_zero, Int.toNat_natCast]
  apply List.map_congr_left
  intro k _
  rw [Int.zero_add]
theorem tupR_ok {f : Fe} {env : En} {h h1 : Hm} {s : Nat} (e : f env h = .ok (.d (.int (s : Int))) h1) (hs : s < 1000) : vTupR f env h = .ok (tpW (List.range s)) h1 := by
  unfold vTupR
  rw [e, bind_ok]
  show (if rgB 0 (s : Int) = true then R.ok (W.d (.tup (rngD 0 (s : Int)))) h1 else .no) = _
  rw [if_pos (by
    unfold rgB
    simp only [Bool.and_eq_true, decide_eq_true_eq]
    omega), rngD_N]
  rfl
end K01
namespace K01
open PySem L2 StX Mi
theorem sz {n : Nat} (h : n ≤ 10000) : n ≤ sizeLine := by unfold sizeLine; omega
theorem sz' {n : Nat} (h : n ≤ 10000) : n < sizeLine := by unfold sizeLine; omega
def tpD (t : List Nat) : D := .tup (dN t)
end K01
namespace Mi
open PySem L2 StX
section
variable {κ α : Type} [DecidableEq κ] {β : Type} {c : β → κ} (inj : ∀ x y, c x = c y → x = y)
include inj
theorem lookK_mapI {g : β → α} : ∀ {L : List β} {a : β}, a ∈ L → lookK (L.map c) (L.map g) (c a) = some (g a)
  | b :: L, a, h => by
    rw [List.map_cons, List.map_cons]
    unfold lookK
    by_cases e : c b = c a
    · rw [if_pos e, inj _ _ e]
    · rw [if_neg e]
      rcases List.mem_cons.mp h with h | h
      · exact (e (by rw [h])).elim
      · exact lookK_mapI h
theorem any_map {L : List β} {a : β} : ((L.map c).any fun k => decide (k = c a)) = true ↔ a ∈ L := by
  rw [List.any_eq_true]
  constructor
  · rintro ⟨k, hk, e⟩
    obtain ⟨b, hb, rfl⟩ := List.mem_map.mp hk
    rw [← inj _ _ (of_decide_eq_true e)]
    exact hb
  · exact fun h => ⟨c a, List.mem_map.mpr ⟨a, h, rfl⟩, decide_eq_true rfl⟩
theorem putW_in [DecidableEq β] {g : β → W} {L : List β} {a : β} {z : W} (h : a ∈ L) : putW (L.map c) (L.map g) (c a) z = (L.map c, L.map fun b => if b = a then z else g b) := by
  unfold putW
  rw [if_pos ((any_map inj).mpr h), List.zip_map', List.map_map]
  congr 1
  apply List.map_congr_left
  intro b _
  show (if c b = c a then z else g b) = _
  by_cases e : b = a
  · rw [if_pos e, if_pos (by rw [e])]
  · rw [if_neg e, if_neg fun q => e (inj _ _ q)]
theorem putW_out {L : List β} {l : List W} {a : β} {z : W} (h : a ∉ L) : putW (L.map c) l (c a) z = ((L ++ [a]).map c, l ++ [z]) := by
  unfold putW
  rw [if_neg fun q => h ((any_map inj).mp q), List.map_append]
  rfl
theorem nodup_mapI {L : List β} (h : L.Nodup) : (L.map c).Nodup := by
  induction L with
  | nil => exact List.nodup_nil
  | cons a L ih =>
    rw [List.nodup_cons] at h
    rw [List.map_cons, List.nodup_cons]
    refine ⟨fun z => ?_, ih h.2⟩
    obtain ⟨b, hb, e⟩ := List.mem_map.mp z
    exact h.1 (inj _ _ e ▸ hb)
end
end Mi
namespace K01
open PySem L2 StX Mi
def prow (l i : Nat) : List (Nat × Nat) := (List.range l).map fun k => (i, k)
def prs (r l : Nat) : List (Nat × Nat) := (List.range r).flatMap (prow l)
def kp (q : Nat × Nat) : List Key := [.inl (q.1 : Int), .inl (q.2 : Int)]
theorem kp_inj (x y : Nat × Nat) (h : kp x = kp y) : x = y := by
  unfold kp at h
  injection h with h1 h2
  injection h1 with h1
  injection h2 with h2 _
  injection h2 with h2
  exact Prod.ext (by exact_mod_cast h1) (by exact_mod_cast h2)
theorem mem_prs {r l : Nat} {q : Nat × Nat} : q ∈ prs r l ↔ q.1 < r ∧ q.2 < l := by
  unfold prs prow
  simp only [List.mem_flatMap, List.mem_map, List.mem_range]
  constructor
  · rintro ⟨i, hi, k, hk, rfl⟩
    exact ⟨hi, hk⟩
  · exact fun h => ⟨q.1, h.1, q.2, h.2, rfl⟩
theorem nodup_rows {l : Nat} : ∀ {L : List Nat}, L.Nodup → (L.flatMap (prow l)).Nodup
  | [], _ => List.nodup_nil
  | i :: L, h => by
    rw [List.nodup_cons] at h
    rw [List.flatMap_cons, List.nodup_append]
    refine ⟨nodup_mapI (fun x y e => by injection e) List.nodup_range, nodup_rows h.2, ?_⟩
    rintro a ha b hb rfl
    obtain ⟨_, _, rfl⟩ := List.mem_map.mp ha
    obtain ⟨i', hi, hk⟩ := List.mem_flatMap.mp hb
    obtain ⟨_, _, e⟩ := List.mem_map.mp hk
    injection e with e _
    exact h.1 (e ▸ hi)
theorem nodup_prs {r l : Nat} : (prs r l).Nodup := nodup_rows List.nodup_range
theorem len_rows {l : Nat} : ∀ L : List Nat, (L.flatMap (prow l)).length = L.length * l
  | [] => by simp
  | i :: L => by
    rw [List.flatMap_cons, List.length_append, len_rows L, List.length_cons, Nat.succ_mul]
    unfold prow
    rw [List.length_map, List.length_range]
    omega
theorem len_prs {r l : Nat} : (prs r l).length = r * l := by
  unfold prs
  rw [len_rows, List.length_range]
/-- a way: its numbers, its places -/
def wayT (r l p : Nat) (F : Nat × Nat → List Nat) : D := wayD r l p ((prs r l).map kp) ((prs r l).map fun q => tpD (F q))
theorem tpW_map {L : List (Nat × Nat)} {F : Nat × Nat → List Nat} : (L.map fun q => tpD (F q)).map W.d = L.map fun q => tpW (F q) := by
  rw [List.map_map]
  rfl
section
variable {h : Hm} {x y z : MO}
theorem two_get0 : (h ++ [x, y])[h.length]? = some x := by simp
theorem two_get1 : (h ++ [x, y])[h.length + 1]? = some y := by simp
theorem two_set0 : (h ++ [x, y]).set h.length z = h ++ [z, y] := by simp
theorem two_set1 : (h ++ [x, y]).set (h.length + 1) z = h ++ [x, z] := by simp
end
theorem ef1 {M : Pr} {Γ : Nat → Fn} {t : Tg} {v : Nat} {b : List Z} {env : En} {h : Hm} : exZ M Γ (.for t .r1 [.var v] b) env h = sFor t (iRng1' (aCons (vVar v) aNil)) (exZs M Γ b) env h := by
  simp only [exZ, iOf, evs, ev]
theorem p_init (j : Nat) {r l p : Nat} (h : Hm) (hr1 : 1 ≤ r) (hr6 : r ≤ 6) (hl1 : 1 ≤ l) (hl6 : l ≤ 6) (hp1 : 1 ≤ p) (hp12 : p ≤ 12) : mkFn (lvl prg dfs (j + 3)) 0 16 [.d (.int (r : Int)), .d (.int (l : Int)), .d (.int (p : Int))] [] h = .ok (.r h.length) (h ++ [.ins 0 [5, 6] [.d (.tup [.int (r : Int), .int (l : Int), .int (p : Int)]), .r (h.length + 1)], .dT ((prs r l).map kp) ((prs r l).map fun _ => tpW (List.range p))]) := by
  have body : lvl prg dfs (j + 3) 16 [.r h.length, .d (.int (r : Int)), .d (.int (l : Int)), .d (.int (p : Int))] [] (h ++ [.ins 0 [] []]) = .ok (.d .non) (h ++ [.ins 0 [5, 6] [.d (.tup [.int (r : Int), .int (l : Int), .int (p : Int)]), .r (h.length + 1)], .dT ((prs r l).map kp) ((prs r l).map fun _ => tpW (List.range p))]) := by
    rw [lvl_no (d := d_Way___init__) rfl rfl]
    show bodyEnd (exZs (prg.at dfs (j + 2) false) (lvl prg dfs (j + 2)) b_Way___init__ [some (.r h.length), some (.d (.int (r : Int))), some (.d (.int (l : Int))), some (.d (.int (p : Int))), none, none, none] (h ++ [.ins 0 [] []])) = _
    have t1 : exZ (prg.at dfs (j + 2) false) (lvl prg dfs (j + 2)) (.set (.nm 4) (.call 2 [(.var 1), (.var 2), (.var 3), (.ccon 0 3), (.ccon 0 4)] [] [])) [some (.r h.length), some (.d (.int (r : Int))), some (.d (.int (l : Int))), some (.d (.int (p : Int))), none, none, none] (h ++ [.ins 0 [] []]) = .ok (.nx, [some (.r h.length), some (.d (.int (r : Int))), some (.d (.int (l : Int))), some (.d (.int (p : Int))), some (.d .non), none, none]) (h ++ [.ins 0 [] []]) := by
      simp only [exZ, ev, evs]
      exact set_ok (call_ok (ws := [.d (.int (r : Int)), .d (.int (l : Int)), .d (.int (p : Int)), .d (.int 6), .d (.int 12)]) rfl (p_problem_of j r l p 6 12 _ (by omega) (by omega) (by omega))) rfl
    have t2 : exZ (prg.at dfs (j + 2) false) (lvl prg dfs (j + 2)) (.ife (.cmp pIsNot (.var 4) .non) [(.raise 1 (.var 4))] []) [some (.r h.length), some (.d (.int (r : Int))), some (.d (.int (l : Int))), some (.d (.int (p : Int))), some (.d .non), none, none] (h ++ [.ins 0 [] []]) = .ok (.nx, [some (.r h.length), some (.d (.int (r : Int))), some (.d (.int (l : Int))), some (.d (.int (p : Int))), some (.d .non), none, none]) (h ++ [.ins 0 [] []]) := by
      simp only [exZ]
      exact (if_f rfl).trans rfl
    have t3 : exZ (prg.at dfs (j + 2) false) (lvl prg dfs (j + 2)) (.fld (.var 0) 5 (.tup [(.var 1), (.var 2), (.var 3)])) [some (.r h.length), some (.d (.int (r : Int))), some (.d (.int (l : Int))), some (.d (.int (p : Int))), some (.d .non), none, none] (h ++ [.ins 0 [] []]) = .ok (.nx, [some (.r h.length), some (.d (.int (r : Int))), some (.d (.int (l : Int))), some (.d (.int (p : Int))), some (.d .non), none, none]) (h ++ [.ins 0 [5] [.d (.tup [.int (r : Int), .int (l : Int), .int (p : Int)])]]) := by
      simp only [exZ, ev, evs]
      unfold Mi.sFld
      rw [tup_ok (ds := [.int (r : Int), .int (l : Int), .int (p : Int)]) rfl (sz (by show 3 ≤ 10000; omega)), liftX_ok]
      show (match (h ++ [MO.ins 0 [] []])[h.length]? with
        | some (.ins c fs ws) => _
        | _ => _) = _
      rw [app_get]
      show (if _ then R.ok _ _ else _) = _
      rw [if_pos ⟨rfl, rfl, by decide⟩, app_set]
      rfl
    have t4 : exZ (prg.at dfs (j + 2) false) (lvl prg dfs (j + 2)) (.fld (.var 0) 6 (.dnew true)) [some (.r h.length), some (.d (.int (r : Int))), some (.d (.int (l : Int))), some (.d (.int (p : Int))), some (.d .non), none, none] (h ++ [.ins 0 [5] [.d (.tup [.int (r : Int), .int (l : Int), .int (p : Int)])]]) = .ok (.nx, [some (.r h.length), some (.d (.int (r : Int))), some (.d (.int (l : Int))), some (.d (.int (p : Int))), some (.d .non), none, none]) (h ++ [.ins 0 [5, 6] [.d (.tup [.int (r : Int), .int (l : Int), .int (p : Int)]), .r (h.length + 1)], .dT [] []]) := by
      simp only [exZ, ev]
      have e : vDnew true [some (.r h.length), some (.d (.int (r : Int))), some (.d (.int (l : Int))), some (.d (.int (p : Int))), some (.d .non), none, none] (h ++ [.ins 0 [5] [.d (.tup [.int (r : Int), .int (l : Int), .int (p : Int)])]]) = .ok (.r (h.length + 1)) (h ++ [.ins 0 [5] [.d (.tup [.int (r : Int), .int (l : Int), .int (p : Int)])], .dT [] []]) := by
        show R.ok (W.r (h ++ [_]).length) ((h ++ [_]) ++ [_]) = _
        rw [List.length_append, List.append_assoc]
        rfl
      unfold Mi.sFld
      rw [e, liftX_ok]
      show (match (h ++ [MO.ins 0 [5] [.d (.tup [.int (r : Int), .int (l : Int), .int (p : Int)])], .dT [] []])[h.length]? with
        | some (.ins c fs ws) => _
        | _ => _) = _
      rw [two_get0]
      show (if _ then R.ok _ _ else _) = _
      rw [if_pos ⟨rfl, rfl, by decide⟩, two_set0]
      rfl
    generalize hI : MO.ins 0 [5, 6] [.d (.tup [.int (r : Int), .int (l : Int), .int (p : Int)]), .r (h.length + 1)] = I at t4 ⊢
    have put1 : ∀ (P : List (Nat × Nat)) (i k : Nat), P.length < 1000 → (i, k) ∉ P → exZs (prg.at dfs (j + 2) false) (lvl prg dfs (j + 2)) [(.put (.fld (.var 0) 6) (.tup [(.var 5), (.var 6)]) (.rng true (.var 3)))] [some (.r h.length), some (.d (.int (r : Int))), some (.d (.int (l : Int))), some (.d (.int (p : Int))), some (.d .non), some (.d (.int (i : Int))), some (.d (.int (k : Int)))] (h ++ [I, .dT (P.map kp) (P.map fun _ => tpW (List.range p))]) = .ok (.nx, [some (.r h.length), some (.d (.int (r : Int))), some (.d (.int (l : Int))), some (.d (.int (p : Int))), some (.d .non), some (.d (.int (i : Int))), some (.d (.int (k : Int)))]) (h ++ [I, .dT ((P ++ [(i, k)]).map kp) ((P ++ [(i, k)]).map fun _ => tpW (List.range p))]) := by
      intro P i k hl hn
      simp only [exZs, exZ, ev, evs]
      have f1 : vFld prg.T (lvl prg dfs (j + 2)) 6 (vVar 0) [some (.r h.length), some (.d (.int (r : Int))), some (.d (.int (l : Int))), some (.d (.int (p : Int))), some (.d .non), some (.d (.int (i : Int))), some (.d (.int (k : Int)))] (h ++ [I, .dT (P.map kp) (P.map fun _ => tpW (List.range p))]) = .ok (.r (h.length + 1)) (h ++ [I, .dT (P.map kp) (P.map fun _ => tpW (List.range p))]) := by
        have io : insOf (.r h.length) (h ++ [I, .dT (P.map kp) (P.map fun _ => tpW (List.range p))]) = some (0, [5, 6], [.d (.tup [.int (r : Int), .int (l : Int), .int (p : Int)]), .r (h.length + 1)]) := by
          unfold insOf
          rw [← hI]
          simp only [two_get0]
        show (match insOf (.r h.length) (h ++ [I, .dT (P.map kp) (P.map fun _ => tpW (List.range p))]) with
          | none => R.no
          | some (c, fs, ws) => _) = _
        rw [io]
        rfl
      have hk : putM (.dT (P.map kp) (P.map fun _ => tpW (List.range p))) (.tup [.int (i : Int), .int (k : Int)]) (tpW (List.range p)) = some (.dT ((P ++ [(i, k)]).map kp) ((P ++ [(i, k)]).map fun _ => tpW (List.range p))) := by
        show (if (P.map kp).length < sizeLine then some (MO.dT (putW (P.map kp) _ (kp (i, k)) _).1 (putW (P.map kp) _ (kp (i, k)) _).2) else none) = _
        rw [if_pos (sz' (by rw [List.length_map]; omega)), putW_out kp_inj hn, List.map_append (l₁ := P) (f := fun _ => tpW (List.range p))]
        rfl
      refine (seq_nx (put_ok (tupR_ok rfl (by omega)) f1 (tup_ok (ds := [.int (i : Int), .int (k : Int)]) rfl (sz (by show 2 ≤ 10000; omega))) two_get1 hk)).trans ?_
      rw [two_set1]
      rfl
    have inner : ∀ (i : Nat) (P R : List (Nat × Nat)) (y : Option W), P ++ prow l i ++ R = prs r l → ∃ y', sFor (.nm 6) (iRng1' (aCons (vVar 2) aNil)) (exZs (prg.at dfs (j + 2) false) (lvl prg dfs (j + 2)) [(.put (.fld (.var 0) 6) (.tup [(.var 5), (.var 6)]) (.rng true (.var 3)))]) [some (.r h.length), some (.d (.int (r : Int))), some (.d (.int (l : Int))), some (.d (.int (p : Int))), some (.d .non), some (.d (.int (i : Int))), y] (h ++ [I, .dT (P.map kp) (P.map fun _ => tpW (List.range p))]) = .ok (.nx, [some (.r h.length), some (.d (.int (r : Int))), some (.d (.int (l : Int))), some (.d (.int (p : Int))), some (.d .non), some (.d (.int (i : Int))), y']) (h ++ [I, .dT ((P ++ prow l i).map kp) ((P ++ prow l i).map fun _ => tpW (List.range p))]) := by
      intro i P R y hP
      have fm := forL_map (t := .nm 6) (f := exZs (prg.at dfs (j + 2) false) (lvl prg dfs (j + 2)) [(.put (.fld (.var 0) 6) (.tup [(.var 5), (.var 6)]) (.rng true (.var 3)))]) (c := fun (k : Nat) => .d (.int (k : Int)))
        (fun L env g => ∃ y P2, env = [some (.r h.length), some (.d (.int (r : Int))), some (.d (.int (l : Int))), some (.d (.int (p : Int))), some (.d .non), some (.d (.int (i : Int))), y] ∧ g = h ++ [I, .dT (P2.map kp) (P2.map fun _ => tpW (List.range p))] ∧ P2 ++ L.map (fun k => (i, k)) = P ++ prow l i) (List.range l) [some (.r h.length), some (.d (.int (r : Int))), some (.d (.int (l : Int))), some (.d (.int (p : Int))), some (.d .non), some (.d (.int (i : Int))), y] (h ++ [I, .dT (P.map kp) (P.map fun _ => tpW (List.range p))]) ⟨y, P, rfl, rfl, rfl⟩
        (by
          rintro k L env g ⟨y, P2, rfl, rfl, q⟩
          have nd : (P2 ++ (i, k) :: L.map (fun k => (i, k)) ++ R).Nodup := by
            have := nodup_prs (r := r) (l := l)
            rw [← hP, ← q] at this
            exact this
          have hn : (i, k) ∉ P2 := fun z => by
            rw [List.append_assoc, List.nodup_append] at nd
            exact nd.2.2 _ z _ (List.mem_append_left _ (List.mem_cons_self ..)) rfl
          have hlen : P2.length < 1000 := by
            have := congrArg List.length hP
            rw [← q, len_prs] at this
            have m : r * l ≤ 6 * 6 := Nat.mul_le_mul hr6 hl6
            simp only [List.length_append] at this
            omega
          refine ⟨_, rfl, _, _, put1 P2 i k hlen hn, some (.d (.int (k : Int))), P2 ++ [(i, k)], rfl, rfl, ?_⟩
          rw [List.append_assoc]
          exact q)
      obtain ⟨env2, g, q1, y', P2, rfl, rfl, q2⟩ := fm
      rw [List.map_nil, List.append_nil] at q2
      subst q2
      exact ⟨y', for_ok (rng1_ok (m := l) rfl (by omega)) q1⟩
    have fm := forL_map (t := .nm 5) (f := exZs (prg.at dfs (j + 2) false) (lvl prg dfs (j + 2)) [(.for (.nm 6) .r1 [(.var 2)] [(.put (.fld (.var 0) 6) (.tup [(.var 5), (.var 6)]) (.rng true (.var 3)))])]) (c := fun (k : Nat) => .d (.int (k : Int)))
      (fun L env g => ∃ x y P, env = [some (.r h.length), some (.d (.int (r : Int))), some (.d (.int (l : Int))), some (.d (.int (p : Int))), some (.d .non), x, y] ∧ g = h ++ [I, .dT (P.map kp) (P.map fun _ => tpW (List.range p))] ∧ P ++ L.flatMap (prow l) = prs r l) (List.range r) [some (.r h.length), some (.d (.int (r : Int))), some (.d (.int (l : Int))), some (.d (.int (p : Int))), some (.d .non), none, none] (h ++ [I, .dT [] []]) ⟨none, none, [], rfl, rfl, rfl⟩
      (by
        rintro i L env g ⟨x, y, P, rfl, rfl, q⟩
        rw [List.flatMap_cons, ← List.append_assoc] at q
        obtain ⟨y', hy⟩ := inner i P (L.flatMap (prow l)) y q
        refine ⟨_, rfl, _, _, ?_, some (.d (.int (i : Int))), y', P ++ prow l i, rfl, rfl, q⟩
        simp only [exZs, exZ, iOf, evs, ev] at hy ⊢
        exact (seq_nx hy).trans rfl)
    obtain ⟨env2, g, q1, x, y, P, rfl, rfl, q2⟩ := fm
    rw [List.flatMap_nil, List.append_nil] at q2
    subst q2
    have t5 := for_ok (t := .nm 5) (it := iRng1' (aCons (vVar 1) aNil)) (f := exZs (prg.at dfs (j + 2) false) (lvl prg dfs (j + 2)) [(.for (.nm 6) .r1 [(.var 2)] [(.put (.fld (.var 0) 6) (.tup [(.var 5), (.var 6)]) (.rng true (.var 3)))])]) (env := [some (.r h.length), some (.d (.int (r : Int))), some (.d (.int (l : Int))), some (.d (.int (p : Int))), some (.d .non), none, none]) (h := h ++ [I, .dT [] []]) (rng1_ok (m := r) rfl (by omega)) q1
    simp only [b_Way___init__, exZs]
    rw [seq_nx t1, seq_nx t2, seq_nx t3, seq_nx t4, seq_nx (ef1.trans t5)]
    rfl
  unfold mkFn
  rw [body]
  rfl
end K01
namespace K01
open PySem L2 StX Mi
theorem mapH_two {α : Type} {f : Hm → W → Option (α × Hm)} {h h1 h2 : Hm} {a b : W} {x y : α} (e1 : f h a = some (x, h1)) (e2 : f h1 b = some (y, h2)) : mapH f h [a, b] = some ([x, y], h2) := by
  simp only [mapH, e1, e2]
end K01
namespace K01
open PySem L2 StX Mi
theorem frz_way {r l p : Nat} {F : Nat × Nat → List Nat} (h : Hm) : dfz 8 (h ++ [.ins 0 [5, 6] [.d (.tup [.int (r : Int), .int (l : Int), .int (p : Int)]), .r (h.length + 1)], .dT ((prs r l).map kp) ((prs r l).map fun q => tpW (F q))]) (.r h.length) = some (wayT r l p F, h ++ [.dead, .dead]) := by
  rw [← tpW_map]
  generalize hI : MO.ins 0 [5, 6] [.d (.tup [.int (r : Int), .int (l : Int), .int (p : Int)]), .r (h.length + 1)] = I
  have d7 : dfz 7 (h ++ [I, .dT ((prs r l).map kp) (((prs r l).map fun q => tpD (F q)).map W.d)]) (.r (h.length + 1)) = some (.dT ((prs r l).map kp) ((prs r l).map fun q => tpD (F q)), h ++ [I, .dead]) := by
    unfold dfz
    rw [two_get1]
    show (match mapH (dfz 6) _ (((prs r l).map fun q => tpD (F q)).map W.d) with
      | some (ds, h1) => _
      | none => _) = _
    rw [mapH_pure]
    simp only [two_get1, two_set1]
    rfl
  unfold dfz
  rw [two_get0]
  subst hI
  have mh : mapH (dfz 7) (h ++ [.ins 0 [5, 6] [.d (.tup [.int (r : Int), .int (l : Int), .int (p : Int)]), .r (h.length + 1)], .dT ((prs r l).map kp) (((prs r l).map fun q => tpD (F q)).map W.d)]) [.d (.tup [.int (r : Int), .int (l : Int), .int (p : Int)]), .r (h.length + 1)] = some ([.tup [.int (r : Int), .int (l : Int), .int (p : Int)], .dT ((prs r l).map kp) ((prs r l).map fun q => tpD (F q))], h ++ [.ins 0 [5, 6] [.d (.tup [.int (r : Int), .int (l : Int), .int (p : Int)]), .r (h.length + 1)], .dead]) := mapH_two rfl d7
  show (match mapH (dfz 7) _ [.d (.tup [.int (r : Int), .int (l : Int), .int (p : Int)]), .r (h.length + 1)] with
    | some (ds, h1) => _
    | none => _) = _
  rw [mh]
  simp only [two_get0, two_set0]
  rfl
end K01
namespace Mi
open PySem L2 StX
mutual
def okP : PyData → Bool
  | .none => true
  | .bool _ => true
  | .int i => decide (i.natAbs < 10 ^ 12)
  | .str _ => false
  | .list xs => okPs xs
  | .tuple xs => okPs xs
  | .dict _ => false
def okPs : List PyData → Bool
  | [] => true
  | x :: xs => okP x && okPs xs
end
theorem log2_small {n : Nat} (h : n < 10 ^ 12) : n.log2 < 40 := by
  by_cases z : n = 0
  · rw [z]; decide
  · exact (Nat.log2_lt z).mpr (by omega)
mutual
theorem okP_all : ∀ d : PyData, okP d = true → d.canLay0 = true ∧ d.intsShort 13 = true ∧ d.showable = true ∧ d.hasDict = false
  | .none, _ => by simp [PyData.canLay0, PyData.intsShort, PyData.showable, PyData.hasDict]
  | .bool _, _ => by simp [PyData.canLay0, PyData.intsShort, PyData.showable, PyData.hasDict]
  | .int i, h => by
    simp only [okP, decide_eq_true_eq] at h
    have := log2_small h
    simp only [PyData.canLay0, PyData.intsShort, PyData.showable, PyData.hasDict, decide_eq_true_eq, true_and, and_true]
    exact ⟨PyData.shown_int_le h, by omega⟩
  | .str _, h => by simp [okP] at h
  | .list xs, h => by
    simp only [okP] at h
    simp only [PyData.canLay0, PyData.intsShort, PyData.showable, PyData.hasDict]
    exact okPs_all xs h
  | .tuple xs, h => by
    simp only [okP] at h
    simp only [PyData.canLay0, PyData.intsShort, PyData.showable, PyData.hasDict]
    exact okPs_all xs h
  | .dict _, h => by simp [okP] at h
theorem okPs_all : ∀ xs : List PyData, okPs xs = true → PyData.canLayAll0 xs = true ∧ PyData.intsShortAll 13 xs = true ∧ PyData.showableAll xs = true ∧ PyData.hasDictAll xs = false
  | [], _ => by simp [PyData.canLayAll0, PyData.intsShortAll, PyData.showableAll, PyData.hasDictAll]
  | x :: xs, h => by
    simp only [okPs, Bool.and_eq_true] at h
    obtain ⟨a1, a2, a3, a4⟩ := okP_all x h.1
    obtain ⟨b1, b2, b3, b4⟩ := okPs_all xs h.2
    simp [PyData.canLayAll0, PyData.intsShortAll, PyData.showableAll, PyData.hasDictAll, a1, a2, a3, a4, b1, b2, b3, b4]
end
mutual
theorem shown_sm {k : Nat} (hk : 0x110000 ≤ k) : ∀ d : PyData, okP d = true → k ∉ d.shown.cps.toList
  | .none, _ => fun hm => by
    have all : (("None" : String) : Str).cps.toList.all (fun c => decide (c < 0x110000)) = true := by decide
    rw [PyData.shown_none] at hm
    have := of_decide_eq_true (List.all_eq_true.mp all k hm)
    omega
  | .bool b, _ => fun hm => by
    have all : ∀ b : Bool, (Str.ofString (if b = true then "True" else "False")).cps.toList.all (fun c => decide (c < 0x110000)) = true := by decide
    rw [PyData.shown_bool] at hm
    have := of_decide_eq_true (List.all_eq_true.mp (all b) k (by cases b <;> exact hm))
    omega
  | .int i, _ => PyProof.Rows.shown_int_free' ⟨by omega, by omega⟩ i
  | .str _, h => by simp [okP] at h
  | .list xs, h => by
    simp only [okP] at h
    have ih := shown_sms hk xs h
    rw [PyData.shown_list, PyProof.Rows.mem_cps_append, PyProof.Rows.mem_cps_append, PyProof.Rows.signs_lbrack, PyProof.Rows.signs_rbrack, PyProof.Rows.mem_join, PyProof.Rows.signs_sep]
    simp only [List.mem_cons, List.not_mem_nil, or_false]
    rintro ((hm | (⟨t, ht, hc⟩ | ⟨_, hm⟩)) | hm)
    · omega
    · exact ih t ht hc
    · omega
    · omega
  | .tuple xs, h => by
    simp only [okP] at h
    have ih := shown_sms hk xs h
    rw [PyData.shown_tuple, PyProof.Rows.mem_cps_append, PyProof.Rows.mem_cps_append, PyProof.Rows.signs_lparen, PyProof.Rows.mem_join, PyProof.Rows.signs_sep, PyProof.Rows.signs_tuple_end]
    rintro ((hm | (⟨t, ht, hc⟩ | ⟨_, hm⟩)) | hm)
    · simp only [List.mem_cons, List.not_mem_nil, or_false] at hm; omega
    · exact ih t ht hc
    · simp only [List.mem_cons, List.not_mem_nil, or_false] at hm; omega
    · split at hm <;> simp only [List.mem_cons, List.not_mem_nil, or_false] at hm <;> omega
  | .dict _, h => by simp [okP] at h
theorem shown_sms {k : Nat} (hk : 0x110000 ≤ k) : ∀ xs : List PyData, okPs xs = true → ∀ t ∈ PyData.shownAll xs, k ∉ t.cps.toList
  | [], _, t, ht => by rw [PyData.shownAll_nil] at ht; exact absurd ht (by simp)
  | x :: r, h, t, ht => by
    simp only [okPs, Bool.and_eq_true] at h
    rw [PyData.shownAll_cons, List.mem_cons] at ht
    rcases ht with e | ht
    · rw [e]; exact shown_sm hk x h.1
    · exact shown_sms hk r h.2 t ht
end
theorem strOk_shown {d : PyData} (h : okP d = true) : PyData.strOk d.shown = true := by
  unfold PyData.strOk
  rw [Array.all_eq_true]
  intro i hi
  rw [decide_eq_true_eq]
  by_cases hk : 0x110000 ≤ d.shown.cps[i]
  · exact absurd (Array.mem_toList_iff.mpr (Array.getElem_mem hi)) (shown_sm hk d h)
  · omega
/-- bounds of data -/
structure Bd (d : PyData) (n k : Nat) : Prop where
  ok : okP d = true
  wt : d.weight ≤ n
  dp : d.depth ≤ k
theorem Bd.mono {d : PyData} {n k n' k' : Nat} (b : Bd d n k) (h1 : n ≤ n') (h2 : k ≤ k') : Bd d n' k' := ⟨b.ok, Nat.le_trans b.wt h1, Nat.le_trans b.dp h2⟩
theorem bd_int {i : Int} (h : i.natAbs < 10 ^ 12) : Bd (.int i) 41 0 := by
  refine ⟨by simp only [okP, decide_eq_true_eq]; exact h, ?_, by simp only [PyData.depth]; omega⟩
  simp only [PyData.weight]
  have := log2_small h
  split <;> omega
theorem bds {n k : Nat} : ∀ {xs : List PyData}, (∀ x ∈ xs, Bd x n k) → okPs xs = true ∧ PyData.weightAll xs ≤ xs.length * (n + 1) ∧ PyData.depthAll xs ≤ k
  | [], _ => by simp [okPs, PyData.weightAll, PyData.depthAll]
  | x :: xs, h => by
    obtain ⟨a1, a2, a3⟩ := h x (List.mem_cons_self ..)
    obtain ⟨b1, b2, b3⟩ := bds (xs := xs) fun y hy => h y (List.mem_cons_of_mem _ hy)
    refine ⟨by simp [okPs, a1, b1], ?_, by simp only [PyData.depthAll]; omega⟩
    simp only [PyData.weightAll, List.length_cons, Nat.succ_mul]
    omega
theorem bd_list {n k : Nat} {xs : List PyData} (h : ∀ x ∈ xs, Bd x n k) : Bd (.list xs) (xs.length * (n + 1)) (k + 1) := by
  obtain ⟨a, b, c⟩ := bds h
  exact ⟨by simp only [okP]; exact a, by simp only [PyData.weight]; exact b, by simp only [PyData.depth]; omega⟩
theorem bd_tup {n k : Nat} {xs : List PyData} (h : ∀ x ∈ xs, Bd x n k) : Bd (.tuple xs) (xs.length * (n + 1)) (k + 1) := by
  obtain ⟨a, b, c⟩ := bds h
  exact ⟨by simp only [okP]; exact a, by simp only [PyData.weight]; exact b, by simp only [PyData.depth]; omega⟩
theorem Bd.shaped {d : PyData} {n : Nat} (b : Bd d n 60) : SeqAt.shaped d = true := by
  show (d.canLay0 && decide (d.depth ≤ 64)) = true
  rw [(okP_all d b.ok).1, Bool.true_and]
  exact decide_eq_true (by have := b.dp; omega)
theorem repr_ok {w : W} {h : Hm} {d : PyData} (e : pyW 8 h w = some d) (hr : isRefW w = true) (b : Bd d 1048576 60) : sRepr [w] h = .ok (.d (.str d.shown)) h := by
  obtain ⟨a1, a2, a3, a4⟩ := okP_all d b.ok
  have dp := b.dp
  show (match pyW 8 h w with
    | some p => if isRefW w = true ∧ p.showable = true ∧ p.hasDict = false ∧ p.depth ≤ 60 ∧ p.shown.length ≤ sizeLine then R.ok (W.d (.str p.shown)) h else .no
    | none => .no) = _
  rw [e]
  show (if _ then R.ok _ _ else _) = _
  have ly : PyData.layable0 d = true := by
    show (d.canLay0 && decide (d.depth ≤ 64) && decide (d.weight ≤ 2 ^ 20)) = true
    rw [a1, decide_eq_true (by omega : d.depth ≤ 64), decide_eq_true (by have := b.wt; omega : d.weight ≤ 2 ^ 20)]
    rfl
  have := PyProof.Rows.shown_le13 ly a2
  rw [if_pos ⟨hr, a3, a4, dp, by unfold sizeLine; omega⟩]
/-- two equal texts -/
theorem eq_str {N : Kn} {Γ : Nat → Fn} {h : Hm} {neg : Bool} {x : Str} (hx : PyData.strOk x = true) : sEq N Γ neg (.d (.str x)) (.d (.str x)) h = .ok (.d (.bl (!neg))) h := by
  have i1 : insOf (.d (.str x)) h = none := rfl
  have i2 : asT (.d (.str x)) h = none := rfl
  have p1 : pyW 8 h (.d (.str x)) = some (.str x) := rfl
  have s1 : SeqAt.shaped (.str x) = true := by
    show (PyData.canLay0 (.str x) && decide (PyData.depth (.str x) ≤ 64)) = true
    simp [PyData.canLay0, PyData.depth, hx]
  have e1 : PyData.eqv (.str x) (.str x) = true := by simp [PyData.eqv]
  simp only [sEq, sEqD, i1, i2, p1, s1, e1]
  cases neg <;> rfl
/-- data, equal -/
theorem eq_same {N : Kn} {Γ : Nat → Fn} {h : Hm} {neg : Bool} {x y : W} {d : PyData} (i1 : insOf x h = none) (i2 : asT x h = none) (p1 : pyW 8 h x = some d) (p2 : pyW 8 h y = some d) (b : Bd d 1048576 60) : sEq N Γ neg x y h = .ok (.d (.bl (!neg))) h := by
  have e1 : PyData.eqv d d = true := SeqAt.eqv_refl d (okP_all d b.ok).1
  simp only [sEq, sEqD, i1, i2, p1, p2, b.shaped, e1]
  cases neg <;> rfl
theorem pyDs_map {α : Type} {f : α → D} {g : α → PyData} : ∀ {L : List α}, (∀ a ∈ L, pyD (f a) = some (g a)) → pyDs (L.map f) = some (L.map g)
  | [], _ => rfl
  | a :: L, h => by
    have ih := pyDs_map (L := L) fun x hx => h x (List.mem_cons_of_mem _ hx)
    rw [List.map_cons, List.map_cons]
    unfold pyDs
    rw [h a (List.mem_cons_self ..), ih]
end Mi
namespace Mi
open PySem L2 StX
theorem add_lst {x y : W} {h : Hm} {l m : List W} (e1 : lstOf x h = some l) (e2 : lstOf y h = some m) (hl : l.length + m.length ≤ sizeLine) : pAdd.sem x y h = .ok (.r h.length) (h ++ [.lst (l ++ m)]) := by
  show sAdd x y h = _
  have key : (match lstOf x h, lstOf y h with
    | some l, some m => if l.length + m.length ≤ sizeLine then R.ok (W.r h.length) (h ++ [.lst (l ++ m)]) else .no
    | _, _ => .no) = R.ok (W.r h.length) (h ++ [.lst (l ++ m)]) := by
    rw [e1, e2]
    exact if_pos hl
  cases x with
  | r n => exact key
  | d x =>
    cases x with
    | lst l => exact key
    | _ => cases e1
theorem mul_two {t : D} {h : Hm} : pMul.sem (.d (.lst [t])) (.d (.int 2)) h = .ok (.r h.length) (h ++ [.lst [.d t, .d t]]) := by
  show sMul (.d (.lst [t])) (.d (.int 2)) h = _
  have e : lstOf (.d (.lst [t])) h = some [.d t] := rfl
  unfold sMul
  simp only [e]
  refine (if_pos ⟨by omega, by omega, ?_⟩).trans rfl
  unfold sizeLine
  show 1 * 2 ≤ 2 ^ 24
  omega
theorem reW_lst {w : W} {h : Hm} {ds : List D} (e : lstOf w h = some (ds.map W.d)) : reW 4 h w = some (.lst ds) := by
  have go : ∀ ds : List D, (ds.map W.d).mapM (reW 3 h) = some ds := by
    intro ds
    induction ds with
    | nil => rfl
    | cons d ds ih => rw [List.map_cons, List.mapM_cons, ih]; rfl
  cases w with
  | d x =>
    cases x with
    | lst l =>
      have e' : pures (l.map W.d) = pures (ds.map W.d) := congrArg pures (Option.some.inj e)
      rw [pures_map, pures_map] at e'
      rw [Option.some.inj e']
      rfl
    | _ => cases e
  | r n =>
    have e' : (match h[n]? with
      | some (.lst l) => some l
      | _ => none) = some (ds.map W.d) := e
    show (match h[n]? with
      | some (.lst l) => (l.mapM (reW 3 h)).map D.lst
      | some (.ins c fs l) => (l.mapM (reW 3 h)).map (D.ins c fs)
      | _ => none) = _
    cases e1 : h[n]? with
    | none => rw [e1] at e'; cases e'
    | some m =>
      rw [e1] at e'
      cases m with
      | lst l =>
        cases e'
        show ((ds.map W.d).mapM (reW 3 h)).map D.lst = _
        rw [go]
        rfl
      | _ => cases e'
end Mi
namespace K01
open PySem L2 StX Mi
def tpP (t : List Nat) : PyData := .tuple ((t.map Int.ofNat).map PyData.int)
theorem py_tp {t : List Nat} : pyD (tpD t) = some (tpP t) := by
  unfold tpD tpP
  simp only [pyD, pyDs_dN]
  rfl
end K01
namespace Mi
open PySem L2 StX
mutual
def okN : PyData → Bool
  | .int _ => true
  | .list xs => okNs xs
  | .tuple xs => okNs xs
  | _ => false
def okNs : List PyData → Bool
  | [] => true
  | x :: xs => okN x && okNs xs
end
mutual
theorem eqv_N : ∀ d e : PyData, okN d = true → okN e = true → (PyData.eqv d e = true ↔ d = e)
  | .int i, .int j, _, _ => by simp [PyData.eqv]
  | .list xs, .list ys, h1, h2 => by
    simp only [okN] at h1 h2
    have := eqv_Ns xs ys h1 h2
    simp [PyData.eqv, this]
  | .tuple xs, .tuple ys, h1, h2 => by
    simp only [okN] at h1 h2
    have := eqv_Ns xs ys h1 h2
    simp [PyData.eqv, this]
  | .int _, .list _, _, _ => by simp [PyData.eqv]
  | .int _, .tuple _, _, _ => by simp [PyData.eqv]
  | .list _, .int _, _, _ => by simp [PyData.eqv]
  | .list _, .tuple _, _, _ => by simp [PyData.eqv]
  | .tuple _, .int _, _, _ => by simp [PyData.eqv]
  | .tuple _, .list _, _, _ => by simp [PyData.eqv]
  | .none, _, h, _ => by simp [okN] at h
  | .bool _, _, h, _ => by simp [okN] at h
  | .str _, _, h, _ => by simp [okN] at h
  | .dict _, _, h, _ => by simp [okN] at h
  | .int _, .none, _, h => by simp [okN] at h
  | .int _, .bool _, _, h => by simp [okN] at h
  | .int _, .str _, _, h => by simp [okN] at h
  | .int _, .dict _, _, h => by simp [okN] at h
  | .list _, .none, _, h => by simp [okN] at h
  | .list _, .bool _, _, h => by simp [okN] at h
  | .list _, .str _, _, h => by simp [okN] at h
  | .list _, .dict _, _, h => by simp [okN] at h
  | .tuple _, .none, _, h => by simp [okN] at h
  | .tuple _, .bool _, _, h => by simp [okN] at h
  | .tuple _, .str _, _, h => by simp [okN] at h
  | .tuple _, .dict _, _, h => by simp [okN] at h
theorem eqv_Ns : ∀ xs ys : List PyData, okNs xs = true → okNs ys = true → (PyData.eqvAll xs ys = true ↔ xs = ys)
  | [], [], _, _ => by simp [PyData.eqvAll]
  | [], _ :: _, _, _ => by simp [PyData.eqvAll]
  | _ :: _, [], _, _ => by simp [PyData.eqvAll]
  | x :: xs, y :: ys, h1, h2 => by
    simp only [okNs, Bool.and_eq_true] at h1 h2
    have a := eqv_N x y h1.1 h2.1
    have b := eqv_Ns xs ys h1.2 h2.2
    simp [PyData.eqvAll, a, b]
end
theorem okNs_map {α : Type} {f : α → PyData} : ∀ {L : List α}, (∀ a ∈ L, okN (f a) = true) → okNs (L.map f) = true
  | [], _ => rfl
  | a :: L, h => by
    rw [List.map_cons]
    simp only [okNs, h a (List.mem_cons_self ..), okNs_map fun x hx => h x (List.mem_cons_of_mem _ hx), Bool.and_self]
/-- data, compared -/
theorem eq_data {N : Kn} {Γ : Nat → Fn} {h : Hm} {x y : W} {d e : PyData} (i1 : insOf x h = none) (i2 : asT x h = none) (p1 : pyW 8 h x = some d) (p2 : pyW 8 h y = some e) (b1 : SeqAt.shaped d = true) (b2 : SeqAt.shaped e = true) (o1 : okN d = true) (o2 : okN e = true) : ∃ b, sEq N Γ false x y h = .ok (.d (.bl b)) h ∧ (b = true ↔ d = e) := by
  refine ⟨PyData.eqv d e, ?_, eqv_N d e o1 o2⟩
  simp only [sEq, sEqD, i1, i2, p1, p2, b1, b2]
  rfl
theorem and_ok {f g : Fe} {env : En} {h h1 : Hm} {r : R W} (e1 : f env h = .ok (.d (.bl true)) h1) (e2 : g env h1 = r) : vAnd f g env h = r := by
  unfold vAnd
  rw [e1, bind_ok, asB_ok, bind_ok, if_pos rfl, e2]
theorem and_no {f g : Fe} {env : En} {h h1 : Hm} (e1 : f env h = .ok (.d (.bl false)) h1) : vAnd f g env h = .ok (.d (.bl false)) h1 := by
  unfold vAnd
  rw [e1, bind_ok, asB_ok, bind_ok, if_neg (by decide)]
end Mi
namespace K01
open PySem L2 StX Mi
end K01

namespace K01
open PySem L2 StX Mi
theorem Sm.app {h : Hm} {a b c : Nat} {cs gs : List Int} {n : Int} (s : Sm h a b c cs gs n) (m : Hm) : Sm (h ++ m) a b c cs gs n := by
  have ha := (List.getElem?_eq_some_iff.mp s.ha).1
  have hb := (List.getElem?_eq_some_iff.mp s.hb).1
  have hc := (List.getElem?_eq_some_iff.mp s.hc).1
  exact ⟨by rw [List.getElem?_append_left ha]; exact s.ha, by rw [List.getElem?_append_left hb]; exact s.hb, by rw [List.getElem?_append_left hc]; exact s.hc, s.ab, s.ac, s.bc, s.cl, s.c0, s.gl, s.g0, s.n0⟩
theorem ixl {ds : List D} {n : Nat} {x : D} {g : Hm} (e : ds[n]? = some x) : sIx (.d (.lst ds)) (.d (.int (n : Int))) g = .ok (.d x) g := by
  have hn : n < ds.length := (List.getElem?_eq_some_iff.mp e).1
  have e2 : atI (ds.map W.d) (n : Int) = some (.d x) := by
    unfold atI ixN
    rw [if_pos (by omega), if_pos (by rw [List.length_map]; omega)]
    show (ds.map W.d)[n]? = _
    rw [List.getElem?_map, e]
    rfl
  show (match atI (ds.map W.d) (n : Int) with
    | some w => R.ok w g
    | none => .no) = _
  rw [e2]
theorem frz_lst {h : Hm} {ds : List D} : dfz 8 (h ++ [.lst (ds.map W.d)]) (.r h.length) = some (.lst ds, h ++ [.dead]) := by
  rw [dfz_lst (h := h ++ [MO.lst (ds.map W.d)]) (ds := ds) app_get, app_set]
theorem py_four {a b : D} {P Q : PyData} (e1 : pyD a = some P) (e2 : pyD b = some Q) {g : Hm} : pyW 8 (g ++ [MO.lst [.d a, .d b, .d a, .d b]]) (.r g.length) = some (.list [P, Q, P, Q]) := by
  show (match (g ++ [MO.lst [.d a, .d b, .d a, .d b]])[g.length]? with
    | some (.lst l) => (l.mapM (pyW 7 (g ++ [MO.lst [.d a, .d b, .d a, .d b]]))).map PyData.list
    | _ => none) = _
  rw [app_get]
  have e1' : pyW 7 (g ++ [MO.lst [.d a, .d b, .d a, .d b]]) (.d a) = some P := e1
  have e2' : pyW 7 (g ++ [MO.lst [.d a, .d b, .d a, .d b]]) (.d b) = some Q := e2
  show ([W.d a, W.d b, W.d a, W.d b].mapM (pyW 7 (g ++ [MO.lst [.d a, .d b, .d a, .d b]]))).map PyData.list = _
  rw [List.mapM_cons, List.mapM_cons, List.mapM_cons, List.mapM_cons, List.mapM_nil, e1', e2']
  rfl
theorem mul_22 {a b : D} {h : Hm} : pMul.sem (.d (.lst [a, b])) (.d (.int 2)) h = .ok (.r h.length) (h ++ [.lst [.d a, .d b, .d a, .d b]]) := by
  show sMul (.d (.lst [a, b])) (.d (.int 2)) h = _
  have e : lstOf (.d (.lst [a, b])) h = some [.d a, .d b] := rfl
  unfold sMul
  simp only [e]
  refine (if_pos ⟨by omega, by omega, ?_⟩).trans rfl
  unfold sizeLine
  show 2 * 2 ≤ 2 ^ 24
  omega
theorem one {f : Fe} {env : En} {h h1 : Hm} {z : Int} (e : f env h = .ok (.d (.int z)) h1) : v2 pAdd.sem (vC (.int 1)) f env h = .ok (.d (.int (1 + z))) h1 := v2_ok rfl e rfl
theorem not_T {i : Nat} {fa : Fa} {g : Fn} {env : En} {h h1 : Hm} {ws : List W} (e : fa env h = .ok ws h1) (e2 : g ws [] h1 = .ok (.d (.bl true)) h1) : tNot' (tVal (vCall fa aNil [] g)) env h = .ok false h1 := by
  unfold tNot'
  rw [tv_ok (call_ok e e2)]
  rfl
theorem make_ok {j : Nat} {fa : Fa} {env : En} {g g1 : Hm} {r l p : Nat} (hr1 : 1 ≤ r) (hr6 : r ≤ 6) (hl1 : 1 ≤ l) (hl6 : l ≤ 6) (hp1 : 1 ≤ p) (hp12 : p ≤ 12) (e : fa env g = .ok [.d (.int (r : Int)), .d (.int (l : Int)), .d (.int (p : Int))] g1) : vFrz (vCall fa aNil [] (mkFn (lvl prg dfs (j + 3)) 0 16)) env g = .ok (.d (wayT r l p fun _ => List.range p)) (g1 ++ [.dead, .dead]) :=
  vfrz_ok (call_ok e (p_init j g1 hr1 hr6 hl1 hl6 hp1 hp12)) (frz_way (F := fun _ => List.range p) g1)
/-- the loops over all triples -/
theorem law_tri {s : W} {h : Hm} : ∃ x y, exZ (prg.at dfs 13 false) (lvl prg dfs 13) (.for (.nm 3) .seq [(.var 2)] [(.for (.nm 5) .seq [(.var 2)] [(.ife (.eq true (.lc false (.var 6) (.nm 6) .seq [(.var 2)] [(.not (.call 11 [(.var 3), (.var 5), (.var 6)] [] []))] [("_law_spots", 6)]) (.lst false [])) [(.ret (.bl false))] [])])]) [some s, some (.r 1), some (.d (.lst odd)), none, none, none, none] h = .ok (.nx, [some s, some (.r 1), some (.d (.lst odd)), x, none, y, none]) h := by
  have inner : ∀ e ∈ odd, ∀ w ∈ odd, exZs (prg.at dfs 13 false) (lvl prg dfs 13) [(.ife (.eq true (.lc false (.var 6) (.nm 6) .seq [(.var 2)] [(.not (.call 11 [(.var 3), (.var 5), (.var 6)] [] []))] [("_law_spots", 6)]) (.lst false [])) [(.ret (.bl false))] [])] [some s, some (.r 1), some (.d (.lst odd)), some (.d e), none, some (.d w), none] h = .ok (.nx, [some s, some (.r 1), some (.d (.lst odd)), some (.d e), none, some (.d w), none]) h := by
    intro e he w hw
    simp only [exZs, exZ, ev, evs, tst, tsts, iOf]
    refine (seq_nx ((if_f (h1 := h) (tv_ok (v2_ok (x := .d (.lst [])) (y := .d (.lst [])) (lc_ok (ds := []) (ws := odd.map W.d) (xs := []) (h1 := h) ?_ ?_ (Nat.zero_le _) rfl) (lst_ok (ds := []) rfl (Nat.zero_le _)) rfl))).trans rfl)).trans rfl
    · rfl
    · refine (lcL_filt (c := W.d) (g := W.d) (b := fun _ => false) odd fun a ha => ⟨[some s, some (.r 1), some (.d (.lst odd)), some (.d e), none, some (.d w), some (.d a)], rfl, ?_, rfl⟩).trans ?_
      · have q := iso_T (i := 11) (d := d__law_checked) (j := 12) (ws := [.d e, .d w, .d a]) rfl rfl (tri e he w hw a ha) h
        exact not_T (i := 0) (ws := [.d e, .d w, .d a]) rfl q
      · rfl
  have ez : ∀ (t : Nat) (b : List Z) (env : En) (h : Hm), exZ (prg.at dfs 13 false) (lvl prg dfs 13) (.for (.nm t) .seq [(.var 2)] b) env h = sFor (.nm t) (iSeq (vVar 2)) (exZs (prg.at dfs 13 false) (lvl prg dfs 13) b) env h := fun t b env h => by simp only [exZ, iOf, evs, ev, fes]
  have mid : ∀ e ∈ odd, ∀ y, ∃ z, exZs (prg.at dfs 13 false) (lvl prg dfs 13) [(.for (.nm 5) .seq [(.var 2)] [(.ife (.eq true (.lc false (.var 6) (.nm 6) .seq [(.var 2)] [(.not (.call 11 [(.var 3), (.var 5), (.var 6)] [] []))] [("_law_spots", 6)]) (.lst false [])) [(.ret (.bl false))] [])])] [some s, some (.r 1), some (.d (.lst odd)), some (.d e), none, y, none] h = .ok (.nx, [some s, some (.r 1), some (.d (.lst odd)), some (.d e), none, z, none]) h := by
    intro e he y
    have fm := forL_map (t := .nm 5) (f := exZs (prg.at dfs 13 false) (lvl prg dfs 13) [(.ife (.eq true (.lc false (.var 6) (.nm 6) .seq [(.var 2)] [(.not (.call 11 [(.var 3), (.var 5), (.var 6)] [] []))] [("_law_spots", 6)]) (.lst false [])) [(.ret (.bl false))] [])]) (c := W.d)
      (fun L env g => (∃ z, env = [some s, some (.r 1), some (.d (.lst odd)), some (.d e), none, z, none]) ∧ g = h ∧ ∀ a ∈ L, a ∈ odd) odd [some s, some (.r 1), some (.d (.lst odd)), some (.d e), none, y, none] h
      ⟨⟨y, rfl⟩, rfl, fun a ha => ha⟩
      (by
        rintro w L env g ⟨⟨z, rfl⟩, rfl, hm⟩
        exact ⟨_, rfl, _, _, inner e he w (hm w (List.mem_cons_self ..)), ⟨_, rfl⟩, rfl, fun a ha => hm a (List.mem_cons_of_mem _ ha)⟩)
    obtain ⟨env2, g, q1, ⟨z, rfl⟩, rfl, _⟩ := fm
    refine ⟨z, ?_⟩
    rw [exZs, seq_nx ((ez 5 _ _ _).trans (for_ok (ws := odd.map W.d) rfl q1))]
    rfl
  have fm := forL_map (t := .nm 3) (f := exZs (prg.at dfs 13 false) (lvl prg dfs 13) [(.for (.nm 5) .seq [(.var 2)] [(.ife (.eq true (.lc false (.var 6) (.nm 6) .seq [(.var 2)] [(.not (.call 11 [(.var 3), (.var 5), (.var 6)] [] []))] [("_law_spots", 6)]) (.lst false [])) [(.ret (.bl false))] [])])]) (c := W.d)
    (fun L env g => (∃ x z, env = [some s, some (.r 1), some (.d (.lst odd)), x, none, z, none]) ∧ g = h ∧ ∀ a ∈ L, a ∈ odd) odd [some s, some (.r 1), some (.d (.lst odd)), none, none, none, none] h
    ⟨⟨none, none, rfl⟩, rfl, fun a ha => ha⟩
    (by
      rintro e L env g ⟨⟨x, y, rfl⟩, rfl, hm⟩
      obtain ⟨z, q⟩ := mid e (hm e (List.mem_cons_self ..)) y
      exact ⟨_, rfl, _, _, q, ⟨_, _, rfl⟩, rfl, fun a ha => hm a (List.mem_cons_of_mem _ ha)⟩)
  obtain ⟨env2, g, q1, ⟨x, z, rfl⟩, rfl, _⟩ := fm
  exact ⟨x, z, (ez 3 _ _ _).trans (for_ok (ws := odd.map W.d) rfl q1)⟩
/-- a turn of the last loop -/
theorem law_turn {s : W} {h : Hm} {cs gs : List Int} {n : Int} {x y : D} {e : D} {q5 q6 : Option W} (he : e ∈ more) (sm : Sm h 1 0 2 cs gs n) (hn : n < 1000) : ∃ h' gs' n' w5 w6, n' = n + 5 ∧ Sm h' 1 0 2 cs gs' n' ∧ exZs (prg.at dfs 13 false) (lvl prg dfs 13) [(.set (.tp [(.nm 5), (.nm 6)]) (.tup [(.ix (.var 2) (.call 5 [(.var 1), (.int 14)] [] [])), (.op2 pAdd (.int 1) (.call 5 [(.var 1), (.int 12)] [] []))])),
    (.ife (.or (.not (.call 12 [(.var 4), (.var 3), (.var 5), (.var 6)] [] [])) (.not (.call 12 [(.var 4), (.op2 pAdd (.int 1) (.call 5 [(.var 1), (.int 6)] [] [])), (.var 3), (.var 5)] [] []))) [(.ret (.bl false))] []),
    (.ife (.or (.not (.call 12 [(.var 4), (.op2 pAdd (.int 1) (.call 5 [(.var 1), (.int 6)] [] [])), (.op2 pAdd (.int 1) (.call 5 [(.var 1), (.int 6)] [] [])), (.var 3)] [] [])) (.not (.call 13 [(.var 4), (.var 3)] [] []))) [(.ret (.bl false))] [])] [some s, some (.r 1), some (.d (.lst odd)), some (.d e), some (.d (.ins 0 [5, 6] [x, y])), q5, q6] h = .ok (.nx, [some s, some (.r 1), some (.d (.lst odd)), some (.d e), some (.d (.ins 0 [5, 6] [x, y])), w5, w6]) h' := by
  have nn := sm.n0
  obtain ⟨z1, h1, gs1, a1, b1, d1, sm1, _, _⟩ := p_draw 11 (t := 14) sm (by omega) (by omega) (by omega)
  obtain ⟨z2, h2, gs2, a2, b2, d2, sm2, _, _⟩ := p_draw 11 (t := 12) sm1 (by omega) (by omega) (by omega)
  obtain ⟨z3, h3, gs3, a3, b3, d3, sm3, _, _⟩ := p_draw 11 (t := 6) sm2 (by omega) (by omega) (by omega)
  obtain ⟨z4, h4, gs4, a4, b4, d4, sm4, _, _⟩ := p_draw 11 (t := 6) sm3 (by omega) (by omega) (by omega)
  obtain ⟨z5, h5, gs5, a5, b5, d5, sm5, _, _⟩ := p_draw 11 (t := 6) sm4 (by omega) (by omega) (by omega)
  obtain ⟨k1, rfl⟩ := Int.eq_ofNat_of_zero_le a1
  obtain ⟨k2, rfl⟩ := Int.eq_ofNat_of_zero_le a2
  obtain ⟨k3, rfl⟩ := Int.eq_ofNat_of_zero_le a3
  obtain ⟨k4, rfl⟩ := Int.eq_ofNat_of_zero_le a4
  obtain ⟨k5, rfl⟩ := Int.eq_ofNat_of_zero_le a5
  have l1 : k1 < odd.length := by show k1 < 14; omega
  generalize hw : odd[k1]'l1 = w
  have mw : w ∈ odd := by rw [← hw]; exact List.getElem_mem l1
  have gw : odd[k1]? = some w := by rw [List.getElem?_eq_getElem l1, hw]
  have e5 : n + 1 + 1 + 1 + 1 + 1 = n + 5 := by omega
  rw [e5] at sm5
  refine ⟨h5, gs5, n + 5, some (.d w), some (.d (.int (1 + (k2 : Int)))), rfl, sm5, ?_⟩
  simp only [exZs, exZ, ev, evs, tst]
  rw [seq_nx (set_ok (tup_ok (ds := [w, .int (1 + (k2 : Int))]) (ac_ok (v2_ok rfl (call_ok (ac_ok rfl (ac_ok rfl rfl)) d1) (ixl gw)) (ac_ok (one (call_ok (ac_ok rfl (ac_ok rfl rfl)) d2)) rfl)) (sz (by show 2 ≤ 10000; omega))) rfl)]
  show sSeq _ _ [some s, some (.r 1), some (.d (.lst odd)), some (.d e), some (.d (.ins 0 [5, 6] [x, y])), some (.d w), some (.d (.int (1 + (k2 : Int))))] h2 = _
  generalize hE : [some s, some (.r 1), some (.d (.lst odd)), some (.d e), some (.d (.ins 0 [5, 6] [x, y])), some (.d w), some (.d (.int (1 + (k2 : Int))))] = E0
  have v1 : ∀ g, vVar 1 E0 g = .ok (.r 1) g := fun g => by subst hE; rfl
  have v3 : ∀ g, vVar 3 E0 g = .ok (.d e) g := fun g => by subst hE; rfl
  have v4 : ∀ g, vVar 4 E0 g = .ok (.d (.ins 0 [5, 6] [x, y])) g := fun g => by subst hE; rfl
  have v5 : ∀ g, vVar 5 E0 g = .ok (.d w) g := fun g => by subst hE; rfl
  have v6 : ∀ g, vVar 6 E0 g = .ok (.d (.int (1 + (k2 : Int)))) g := fun g => by subst hE; rfl
  have m2 : k2 ∈ List.range 12 := List.mem_range.mpr (by omega)
  have m3 : k3 < 6 := by omega
  have m4 : k4 < 6 := by omega
  have m5 : k5 < 6 := by omega
  have c1 := iso_T (i := 12) (d := d__law_by_names) (j := 12) rfl rfl (nam x y e w _ (more_gb e he) (more_gb w (odd_more mw)) (.inl ⟨k2, m2, rfl⟩)) h2
  have c2 := iso_T (i := 12) (d := d__law_by_names) (j := 12) rfl rfl (nam x y _ e w (.inl (six_gd k3 m3)) (more_gb e he) (more_s _ (more_gb w (odd_more mw)))) h3
  have c3 := iso_T (i := 12) (d := d__law_by_names) (j := 12) rfl rfl (nam x y _ _ e (.inl (six_gd k4 m4)) (.inl (six_gd k5 m5)) (more_s _ (more_gb e he))) h5
  have c4 := iso_T (i := 13) (d := d__law_square_right) (j := 12) rfl rfl (List.all_eq_true.mp (sqr x y) e he) h5
  have u1 := not_T (i := 0) (env := E0) (ac_ok (v4 h2) (ac_ok (v3 h2) (ac_ok (v5 h2) (ac_ok (v6 h2) (g := aNil) rfl)))) c1
  have u2 := not_T (i := 0) (env := E0) (h := h2) (ac_ok (v4 h2) (ac_ok (one (call_ok (ac_ok (v1 h2) (ac_ok (f := vC (.int 6)) rfl (g := aNil) rfl)) d3)) (ac_ok (v3 h3) (ac_ok (v5 h3) (g := aNil) rfl)))) c2
  have u3 := not_T (i := 0) (env := E0) (h := h3) (ac_ok (v4 h3) (ac_ok (one (call_ok (ac_ok (v1 h3) (ac_ok (f := vC (.int 6)) rfl (g := aNil) rfl)) d4)) (ac_ok (one (call_ok (ac_ok (v1 h4) (ac_ok (f := vC (.int 6)) rfl (g := aNil) rfl)) d5)) (ac_ok (v3 h5) (g := aNil) rfl)))) c3
  have u4 := not_T (i := 0) (env := E0) (ac_ok (v4 h5) (ac_ok (v3 h5) (g := aNil) rfl)) c4
  rw [seq_nx ((if_f ((or_no u1).trans u2)).trans rfl), seq_nx ((if_f ((or_no u3).trans u4)).trans rfl)]
  subst hE
  rfl
theorem law_true : ∀ ns : List Int, ns.length ≤ 63 → (∀ z ∈ ns, Builtin.Int.intBits z ≤ 1048576) → ∃ h', lvl prg dfs 14 15 [.d (.scr (ns.map .int))] [] [] = .ok (.d (.bl true)) h' := by
  intro ns hns _
  obtain ⟨cs, gs0, e6, sm0⟩ := p_begun 11 ns hns
  rw [lvl_no (d := d_law) rfl rfl]
  show ∃ h', bodyEnd (exZs (prg.at dfs 13 false) (lvl prg dfs 13) b_law [some (.d (.scr (ns.map .int))), none, none, none, none, none, none] []) = _
  generalize W.d (.scr (ns.map .int)) = s at e6 ⊢
  generalize hh0 : [MO.lst (wI cs), MO.dK KS [.r 0, .r 2, .d (.int 0)], MO.lst (wI gs0)] = h0 at e6 sm0
  have t1 : exZ (prg.at dfs 13 false) (lvl prg dfs 13) (.set (.nm 1) (.call 6 [(.var 0)] [] [])) [some s, none, none, none, none, none, none] [] = .ok (.nx, [some s, some (.r 1), none, none, none, none, none]) h0 := by
    simp only [exZ, ev, evs]
    exact set_ok (call_ok rfl e6) rfl
  have t2 : exZ (prg.at dfs 13 false) (lvl prg dfs 13) (.set (.nm 2) (.lst false [(.int 0), (.int 1), (.int 2), (.int 6), (.int 7), (.int 12), (.int 13), (.op2 pSub (.int 0) (.int 1)), (.bl true), (.bl false), .non, (.str "3"), (.tup [(.int 3)]), (.lst false [(.int 3)])])) [some s, some (.r 1), none, none, none, none, none] h0 = .ok (.nx, [some s, some (.r 1), some (.d (.lst odd)), none, none, none, none]) h0 := by
    simp only [exZ, ev, evs]
    refine set_ok (lst_ok (ds := odd) ?_ (sz (by show 14 ≤ 10000; omega))) rfl
    have s1 : vTup (aCons (vC (.int 3)) aNil) [some s, some (.r 1), none, none, none, none, none] h0 = .ok (.d (.tup [.int 3])) h0 := tup_ok (ds := [.int 3]) rfl (sz (by show 1 ≤ 10000; omega))
    have s2 : vLst (aCons (vC (.int 3)) aNil) [some s, some (.r 1), none, none, none, none, none] h0 = .ok (.d (.lst [.int 3])) h0 := lst_ok (ds := [.int 3]) rfl (sz (by show 1 ≤ 10000; omega))
    have s3 : v2 pSub.sem (vC (.int 0)) (vC (.int 1)) [some s, some (.r 1), none, none, none, none, none] h0 = .ok (.d (.int (-1))) h0 := v2_ok rfl rfl rfl
    exact ac_ok rfl (ac_ok rfl (ac_ok rfl (ac_ok rfl (ac_ok rfl (ac_ok rfl (ac_ok rfl (ac_ok s3 (ac_ok rfl (ac_ok rfl (ac_ok rfl (ac_ok rfl (ac_ok s1 (ac_ok s2 rfl)))))))))))))
  obtain ⟨x3, y3, t3⟩ := law_tri (s := s) (h := h0)
  obtain ⟨z1, h1, gs1, a1, b1, d1, sm1, _, _⟩ := p_draw 11 (t := 6) sm0 (by omega) (by omega) (by omega)
  obtain ⟨z2, h2, gs2, a2, b2, d2, sm2, _, _⟩ := p_draw 11 (t := 6) sm1 (by omega) (by omega) (by omega)
  obtain ⟨z3, h3, gs3, a3, b3, d3, sm3, _, _⟩ := p_draw 11 (t := 12) sm2 (by omega) (by omega) (by omega)
  obtain ⟨k1, rfl⟩ := Int.eq_ofNat_of_zero_le a1
  obtain ⟨k2, rfl⟩ := Int.eq_ofNat_of_zero_le a2
  obtain ⟨k3, rfl⟩ := Int.eq_ofNat_of_zero_le a3
  have t4 : exZ (prg.at dfs 13 false) (lvl prg dfs 13) (.set (.nm 4) (.frz (.make 0 16 [(.op2 pAdd (.int 1) (.call 5 [(.var 1), (.int 6)] [] [])), (.op2 pAdd (.int 1) (.call 5 [(.var 1), (.int 6)] [] [])), (.op2 pAdd (.int 1) (.call 5 [(.var 1), (.int 12)] [] []))] [] []))) [some s, some (.r 1), some (.d (.lst odd)), x3, none, y3, none] h0 = .ok (.nx, [some s, some (.r 1), some (.d (.lst odd)), x3, some (.d (wayT (1 + k1) (1 + k2) (1 + k3) fun _ => List.range (1 + k3))), y3, none]) (h3 ++ [.dead, .dead]) := by
    simp only [exZ, ev, evs]
    refine set_ok (make_ok (j := 10) (r := 1 + k1) (l := 1 + k2) (p := 1 + k3) (g1 := h3) (by omega) (by omega) (by omega) (by omega) (by omega) (by omega) ?_) rfl
    have c : ∀ k : Nat, ((1 + k : Nat) : Int) = 1 + (k : Int) := fun k => by push_cast; rfl
    rw [c, c, c]
    exact ac_ok (one (call_ok (ac_ok rfl (ac_ok rfl rfl)) d1)) (ac_ok (one (call_ok (ac_ok rfl (ac_ok rfl rfl)) d2)) (ac_ok (one (call_ok (ac_ok rfl (ac_ok rfl rfl)) d3)) rfl))
  have sm4 := sm3.app [.dead, .dead]
  generalize h3 ++ [MO.dead, MO.dead] = h4 at t4 sm4
  obtain ⟨X, Y, eW⟩ : ∃ X Y, wayT (1 + k1) (1 + k2) (1 + k3) (fun _ => List.range (1 + k3)) = .ins 0 [5, 6] [X, Y] := ⟨_, _, rfl⟩
  rw [eW] at t4
  have fm := forL_map (t := .nm 3) (f := exZs (prg.at dfs 13 false) (lvl prg dfs 13) [(.set (.tp [(.nm 5), (.nm 6)]) (.tup [(.ix (.var 2) (.call 5 [(.var 1), (.int 14)] [] [])), (.op2 pAdd (.int 1) (.call 5 [(.var 1), (.int 12)] [] []))])),
    (.ife (.or (.not (.call 12 [(.var 4), (.var 3), (.var 5), (.var 6)] [] [])) (.not (.call 12 [(.var 4), (.op2 pAdd (.int 1) (.call 5 [(.var 1), (.int 6)] [] [])), (.var 3), (.var 5)] [] []))) [(.ret (.bl false))] []),
    (.ife (.or (.not (.call 12 [(.var 4), (.op2 pAdd (.int 1) (.call 5 [(.var 1), (.int 6)] [] [])), (.op2 pAdd (.int 1) (.call 5 [(.var 1), (.int 6)] [] [])), (.var 3)] [] [])) (.not (.call 13 [(.var 4), (.var 3)] [] []))) [(.ret (.bl false))] [])]) (c := W.d)
    (fun L env g => ∃ x5 x6 x7 gs n, env = [some s, some (.r 1), some (.d (.lst odd)), x5, some (.d (.ins 0 [5, 6] [X, Y])), x6, x7] ∧ Sm g 1 0 2 cs gs n ∧ n + 5 * (L.length : Int) = 0 + 1 + 1 + 1 + 5 * 22 ∧ ∀ a ∈ L, a ∈ more) more [some s, some (.r 1), some (.d (.lst odd)), x3, some (.d (.ins 0 [5, 6] [X, Y])), y3, none] (h4 ++ [.dead] ++ [.dead])
    ⟨x3, y3, none, gs3, 0 + 1 + 1 + 1, rfl, (sm4.app _).app _, rfl, fun a ha => ha⟩
    (by
      rintro e L env g ⟨x5, x6, x7, gs, n, rfl, sm, hn, hm⟩
      rw [List.length_cons] at hn
      push_cast at hn
      obtain ⟨h', gs', n', w5, w6, rfl, sm', q⟩ := law_turn (s := s) (x := X) (y := Y) (e := e) (q5 := x6) (q6 := x7) (hm e (List.mem_cons_self ..)) sm (by omega)
      exact ⟨_, rfl, _, _, q, _, _, _, gs', n + 5, rfl, sm', by omega, fun a ha => hm a (List.mem_cons_of_mem _ ha)⟩)
  obtain ⟨env5, h5, q1, x5, x6, x7, gs5, n5, rfl, sm5, hn5, _⟩ := fm
  have t5 : exZ (prg.at dfs 13 false) (lvl prg dfs 13) (.for (.nm 3) .seq [(.frz (.op2 pAdd (.var 2) (.lst false [(.frz (.dnew false)), (.op2 pPow (.int 10) (.int 30)), (.tup []), (.str ""), (.op2 pSub (.int 0) (.op2 pPow (.int 10) (.int 30))), (.int 3), (.int 4), (.int 5)])))] [(.set (.tp [(.nm 5), (.nm 6)]) (.tup [(.ix (.var 2) (.call 5 [(.var 1), (.int 14)] [] [])), (.op2 pAdd (.int 1) (.call 5 [(.var 1), (.int 12)] [] []))])),
    (.ife (.or (.not (.call 12 [(.var 4), (.var 3), (.var 5), (.var 6)] [] [])) (.not (.call 12 [(.var 4), (.op2 pAdd (.int 1) (.call 5 [(.var 1), (.int 6)] [] [])), (.var 3), (.var 5)] [] []))) [(.ret (.bl false))] []),
    (.ife (.or (.not (.call 12 [(.var 4), (.op2 pAdd (.int 1) (.call 5 [(.var 1), (.int 6)] [] [])), (.op2 pAdd (.int 1) (.call 5 [(.var 1), (.int 6)] [] [])), (.var 3)] [] [])) (.not (.call 13 [(.var 4), (.var 3)] [] []))) [(.ret (.bl false))] [])]) [some s, some (.r 1), some (.d (.lst odd)), x3, some (.d (.ins 0 [5, 6] [X, Y])), y3, none] h4 = .ok (.nx, [some s, some (.r 1), some (.d (.lst odd)), x5, some (.d (.ins 0 [5, 6] [X, Y])), x6, x7]) h5 := by
    have ez : ∀ (a : E) (b : List Z) (env : En) (h : Hm), exZ (prg.at dfs 13 false) (lvl prg dfs 13) (.for (.nm 3) .seq [a] b) env h = sFor (.nm 3) (iSeq (ev (prg.at dfs 13 false) (lvl prg dfs 13) a)) (exZs (prg.at dfs 13 false) (lvl prg dfs 13) b) env h := fun a b env h => by simp only [exZ, iOf, evs, ev, fes]
    rw [ez]
    refine for_ok (ws := more.map W.d) ?_ q1
    have c1 : ev (prg.at dfs 13 false) (lvl prg dfs 13) (.frz (.op2 pAdd (.var 2) (.lst false [(.frz (.dnew false)), (.op2 pPow (.int 10) (.int 30)), (.tup []), (.str ""), (.op2 pSub (.int 0) (.op2 pPow (.int 10) (.int 30))), (.int 3), (.int 4), (.int 5)]))) [some s, some (.r 1), some (.d (.lst odd)), x3, some (.d (.ins 0 [5, 6] [X, Y])), y3, none] h4 = .ok (.d (.lst more)) (h4 ++ [.dead] ++ [.dead]) := by
      simp only [ev, evs]
      refine vfrz_ok (v2_ok (x := .d (.lst odd)) (y := .d (.lst xtr)) (h2 := h4 ++ [.dead]) rfl (lst_ok (ds := xtr) ?_ (sz (by show 8 ≤ 10000; omega))) (add_lst (l := odd.map W.d) (m := xtr.map W.d) rfl rfl (sz (by show 14 + 8 ≤ 10000; omega)))) ?_
      · have f1 : vFrz (vDnew false) [some s, some (.r 1), some (.d (.lst odd)), x3, some (.d (.ins 0 [5, 6] [X, Y])), y3, none] h4 = .ok (.d (.dK [] [])) (h4 ++ [.dead]) := vfrz_ok (h1 := h4 ++ [.dK [] []]) (w := .r h4.length) rfl (by
          unfold dfz
          rw [app_get]
          simp only [MO.kids, mapH, app_get, app_set]
          rfl)
        have f2 : ∀ g, v2 pPow.sem (vC (.int 10)) (vC (.int 30)) [some s, some (.r 1), some (.d (.lst odd)), x3, some (.d (.ins 0 [5, 6] [X, Y])), y3, none] g = .ok (.d (.int (10 ^ 30))) g := fun g => v2_ok rfl rfl rfl
        have f3 : ∀ g, vTup aNil [some s, some (.r 1), some (.d (.lst odd)), x3, some (.d (.ins 0 [5, 6] [X, Y])), y3, none] g = .ok (.d (.tup [])) g := fun g => tup_ok (ds := []) rfl (Nat.zero_le _)
        have f4 : ∀ g, v2 pSub.sem (vC (.int 0)) (v2 pPow.sem (vC (.int 10)) (vC (.int 30))) [some s, some (.r 1), some (.d (.lst odd)), x3, some (.d (.ins 0 [5, 6] [X, Y])), y3, none] g = .ok (.d (.int (-(10 ^ 30)))) g := fun g => v2_ok rfl (f2 g) rfl
        exact ac_ok f1 (ac_ok (f2 _) (ac_ok (f3 _) (ac_ok rfl (ac_ok (f4 _) (ac_ok rfl (ac_ok rfl (ac_ok rfl rfl)))))))
      · have e : odd.map W.d ++ xtr.map W.d = more.map W.d := by rw [← List.map_append]; rfl
        rw [e]
        exact frz_lst
    unfold iSeq
    rw [c1, bind_ok]
    rfl
  have t6 : exZ (prg.at dfs 13 false) (lvl prg dfs 13) (.ret (.and (.call 14 [] [] []) (.eq false (.lst false [(.ccon 0 3), (.ccon 0 4), (.fld (.var 4) 3), (.fld (.var 4) 4)]) (.op2 pMul (.lst false [(.int 6), (.int 12)]) (.int 2))))) [some s, some (.r 1), some (.d (.lst odd)), x5, some (.d (.ins 0 [5, 6] [X, Y])), x6, x7] h5 = .ok (.rt (.d (.bl true)), [some s, some (.r 1), some (.d (.lst odd)), x5, some (.d (.ins 0 [5, 6] [X, Y])), x6, x7]) (h5 ++ [MO.lst [.d (.int 6), .d (.int 12), .d (.int 6), .d (.int 12)]]) := by
    simp only [exZ, ev, evs]
    refine ret_ok (and_ok (h1 := h5) (call_ok rfl (iso_T (i := 14) (d := d__law_doubled_right) (j := 12) rfl rfl dbl h5)) ?_)
    have bb : Bd (.list [.int 6, .int 12, .int 6, .int 12]) 1048576 60 := (bd_list (n := 41) (k := 0) (xs := [.int 6, .int 12, .int 6, .int 12]) fun x hx => by
      simp only [List.mem_cons, List.not_mem_nil, or_false] at hx
      rcases hx with rfl | rfl | rfl | rfl <;> exact bd_int (by decide)).mono (by show 4 * 42 ≤ 1048576; omega) (by omega)
    refine v2_ok (x := .d (.lst [.int 6, .int 12, .int 6, .int 12])) (h1 := h5) (lst_ok (ds := [.int 6, .int 12, .int 6, .int 12]) ?_ (sz (by show 4 ≤ 10000; omega))) (v2_ok (lst_ok (ds := [.int 6, .int 12]) rfl (sz (by show 2 ≤ 10000; omega))) rfl mul_22) (eq_same (neg := false) rfl rfl (d := .list [.int 6, .int 12, .int 6, .int 12]) rfl (py_four (a := .int 6) (b := .int 12) (P := .int 6) (Q := .int 12) rfl rfl) bb)
    rfl
  refine ⟨h5 ++ [MO.lst [.d (.int 6), .d (.int 12), .d (.int 6), .d (.int 12)]], ?_⟩
  unfold b_law
  rw [exZs, seq_nx t1, exZs, seq_nx t2, exZs, seq_nx t3, exZs, seq_nx t4, exZs, seq_nx t5, exZs, seq_rt t6]
  rfl
end K01

namespace K01
open PySem L2 StX Mi PySem.Spec PyProof.Rows
theorem walk {l : PySem.W.OpenLaw} {q : Program} {loose : List Str} {XP : (Str → Option Value) → Heap → Prop} {YP : World → Heap → Prop} {d : DefRec} {K : Params → PySem.W.Frag} (hn : l.most = some 63) (hdf : d.params.defaults = [])
    (hY : ∀ (w : World) (h : Heap), YP w h → (K w.params).In h)
    (F : ∀ (w : World) (mg : Str → Option Value) (fa : Addr) (h : Heap), (K w.params).In h → h.Ns mainGlobals mg → mg d.name = some (.ref fa) → TopTabs q (K w.params) h → ∃ (S : Sig) (k : Nat) (g : Fn) (cs : List (Addr × Addr)), (S.K = K w.params ∧ (∀ p ∈ S.tb, p.1 ∈ cs.map (·.2)) ∧ ∀ a, S.cd a = none) ∧ Room k PySem.callerA ∧ TbOk (K w.params) h cs ∧ (∀ base : Heap, (K w.params).In base → base.Ns mainGlobals mg → (∀ p ∈ cs, LamX.TabB base mg p.1 p.2) → Calls l.prog w mg base S k fa g) ∧ g = lvl prg dfs 14 15) :
    PySem.W.WalkO q loose XP YP l.row.toRowW d [] (fun f vs => PySem.call f vs) :=
  walkT hn (by decide) hdf hY fun w mg fa h KX G hm tt => by
    obtain ⟨S, k, g, cs, h1, h2, h3, h4, h5⟩ := F w mg fa h KX G hm tt
    subst h5
    exact ⟨S, k, _, cs, h1, h2, h3, h4, law_true⟩
end K01
open PySem PySem.W PyProof.Rows
set_option maxRecDepth 100000 in
set_option maxHeartbeats 0 in
theorem PySem.Challenge.cw_passplaces_k01_ways_checked_holds : PySem.Challenge.rw_passplaces_k01_ways_checked.Holds := by
  w_on; o_law; k_head; (case hw => w_witness2)
  k_fill
  refine K01.walk (l := PySem.Challenge.rw_passplaces_k01_ways_checked) rfl rfl (fun w h Y => PySem.W.km_in_of Y) ?F
  case F =>
    intro w mg fa h KX G hmg tt
    refine' K01.mk (mc0 := .type "type") (bc_PassplacesError := .type "type") KX G tt hmg (by decide +kernel) ?aC0 ?pg0 ?hd0 ?po0 ?sa0 ?mk0 ?kc0 ?ha0 ?hm0 ?su0 ?nf0_5 ?nf0_6 ?co0_3 ?cg0_3 ?co0_4 ?cg0_4 ?rd0 ?ga0 ?cv0_3 ?cv0_4 ?ne0 ?hn ?htk ?a0 ?l0 ?c0 ?k0 ?a1 ?l1 ?c1 ?k1 ?a2 ?l2 ?c2 ?k2 ?a3 ?l3 ?c3 ?k3 ?a4 ?l4 ?c4 ?k4 ?a5 ?l5 ?c5 ?k5 ?a6 ?l6 ?c6 ?k6 ?a7 ?l7 ?c7 ?k7 ?a8 ?l8 ?c8 ?k8 ?a9 ?l9 ?c9 ?k9 ?a10 ?l10 ?c10 ?k10 ?a11 ?l11 ?c11 ?lc11 ?pc11 ?nk11 ?k11 ?a12 ?l12 ?c12 ?lc12 ?pc12 ?nk12 ?k12 ?a13 ?l13 ?c13 ?lc13 ?pc13 ?nk13 ?k13 ?a14 ?l14 ?c14 ?lc14 ?pc14 ?nk14 ?k14 ?a15 ?l15 ?c15 ?k15 ?a16 ?l16 ?c16 ?i16 ?k16 ?a17 ?sc17 ?r17 ?y17 ?g17 ?t17 ?l17 ?c17 ?k17 ?a18 ?sc18 ?r18 ?y18 ?g18 ?t18 ?fi18 ?l18 ?c18 ?k18 ?a19 ?g19 ?t19 ?r19 ?l19 ?c19 ?a20 ?g20 ?t20 ?r20 ?l20 ?c20 ?a21 ?g21 ?t21 ?r21 ?l21 ?c21 ?a22 ?l22 ?c22 ?i22 ?k22 ?a23 ?l23 ?c23 ?i23 ?k23 ?a24 ?l24 ?c24 ?i24 ?k24 ?a25 ?l25 ?c25 ?i25 ?k25 ?is0 ?is1 ?is2 ?is3 ?is4 ?is5 ?is6 ?is7 ?is8 ?is9 ?is10 ?is11 ?is12 ?is13 ?is14 ?is15 ?is16 ?is17 ?is18 ?is19 ?is20 ?is21 ?is22 ?is23 ?nt0_0 ?nt0_1 ?nt0_2 ?nt0_3 ?nt0_4 ?nt0_5 ?nt0_6 ?nt0_7 ?ic0 ?ab_PassplacesError ?br_PassplacesError ?bg_PassplacesError ?bi_PassplacesError ?aC1 ?ox1 ?xb1 ?xi1 ?xy1 ?xn1 ?xl1 ?xc1 ?em0 ?pnd ?b0 ?b1 ?b2 ?b3 ?b4 ?b5 ?b6 ?b7
    (case aC0 => k_is)
    (case pg0 => k_is)
    (case hd0 => k_is)
    (case po0 => k_is)
    (case sa0 => k_is)
    (case mk0 => k_is)
    (case kc0 => k_is)
    (case ha0 => k_is)
    (case hm0 => k_is)
    (case su0 => k_is)
    (case nf0_5 => k_is)
    (case nf0_6 => k_is)
    (case co0_3 => k_is)
    (case cg0_3 => k_is)
    (case co0_4 => k_is)
    (case cg0_4 => k_is)
    (case rd0 => k_is)
    (case ga0 => k_is)
    (case cv0_3 => k_is)
    (case cv0_4 => k_is)
    (case ne0 => k_is)
    (case hn => k_is)
    (case htk => k_is)
    (case a0 => k_is)
    (case l0 => k_is)
    (case c0 => k_is)
    (case k0 => k_is)
    (case a1 => k_is)
    (case l1 => k_is)
    (case c1 => k_is)
    (case k1 => k_is)
    (case a2 => k_is)
    (case l2 => k_is)
    (case c2 => k_is)
    (case k2 => k_is)
    (case a3 => k_is)
    (case l3 => k_is)
    (case c3 => k_is)
    (case k3 => k_is)
    (case a4 => k_is)
    (case l4 => k_is)
    (case c4 => k_is)
    (case k4 => k_is)
    (case a5 => k_is)
    (case l5 => k_is)
    (case c5 => k_is)
    (case k5 => k_is)
    (case a6 => k_is)
    (case l6 => k_is)
    (case c6 => k_is)
    (case k6 => k_is)
    (case a7 => k_is)
    (case l7 => k_is)
    (case c7 => k_is)
    (case k7 => k_is)
    (case a8 => k_is)
    (case l8 => k_is)
    (case c8 => k_is)
    (case k8 => k_is)
    (case a9 => k_is)
    (case l9 => k_is)
    (case c9 => k_is)
    (case k9 => k_is)
    (case a10 => k_is)
    (case l10 => k_is)
    (case c10 => k_is)
    (case k10 => k_is)
    (case a11 => k_is)
    (case l11 => k_is)
    (case c11 => k_is)
    (case lc11 => k_is)
    (case pc11 => rfl)
    (case nk11 => kernel_rfl)
    (case k11 => k_is)
    (case a12 => k_is)
    (case l12 => k_is)
    (case c12 => k_is)
    (case lc12 => k_is)
    (case pc12 => rfl)
    (case nk12 => kernel_rfl)
    (case k12 => k_is)
    (case a13 => k_is)
    (case l13 => k_is)
    (case c13 => k_is)
    (case lc13 => k_is)
    (case pc13 => rfl)
    (case nk13 => kernel_rfl)
    (case k13 => k_is)
    (case a14 => k_is)
    (case l14 => k_is)
    (case c14 => k_is)
    (case lc14 => k_is)
    (case pc14 => rfl)
    (case nk14 => kernel_rfl)
    (case k14 => k_is)
    (case a15 => k_is)
    (case l15 => k_is)
    (case c15 => k_is)
    (case k15 => k_is)
    (case a16 => k_is)
    (case l16 => k_is)
    (case c16 => k_is)
    (case i16 => k_is)
    (case k16 => k_is)
    (case a17 => k_is)
    (case sc17 => k_is)
    (case r17 => k_is)
    (case y17 => k_is)
    (case g17 => k_is)
    (case t17 => k_is)
    (case l17 => k_is)
    (case c17 => k_is)
    (case k17 => k_is)
    (case a18 => k_is)
    (case sc18 => k_is)
    (case r18 => k_is)
    (case y18 => k_is)
    (case g18 => k_is)
    (case t18 => k_is)
    (case fi18 => k_is)
    (case l18 => k_is)
    (case c18 => k_is)
    (case k18 => k_is)
    (case a19 => k_is)
    (case g19 => k_is)
    (case t19 => k_is)
    (case r19 => k_is)
    (case l19 => k_is)
    (case c19 => k_is)
    (case a20 => k_is)
    (case g20 => k_is)
    (case t20 => k_is)
    (case r20 => k_is)
    (case l20 => k_is)
    (case c20 => k_is)
    (case a21 => k_is)
    (case g21 => k_is)
    (case t21 => k_is)
    (case r21 => k_is)
    (case l21 => k_is)
    (case c21 => k_is)
    (case a22 => k_is)
    (case l22 => k_is)
    (case c22 => k_is)
    (case i22 => k_is)
    (case k22 => k_is)
    (case a23 => k_is)
    (case l23 => k_is)
    (case c23 => k_is)
    (case i23 => k_is)
    (case k23 => k_is)
    (case a24 => k_is)
    (case l24 => k_is)
    (case c24 => k_is)
    (case i24 => k_is)
    (case k24 => k_is)
    (case a25 => k_is)
    (case l25 => k_is)
    (case c25 => k_is)
    (case i25 => k_is)
    (case k25 => k_is)
    (case is0 => kit_is)
    (case is1 => kit_is)
    (case is2 => kit_is)
    (case is3 => kit_is)
    (case is4 => kit_is)
    (case is5 => kit_is)
    (case is6 => kit_is)
    (case is7 => kit_is)
    (case is8 => kit_is)
    (case is9 => kit_is)
    (case is10 => kit_is)
    (case is11 => kit_is)
    (case is12 => kit_is)
    (case is13 => kit_is)
    (case is14 => kit_is)
    (case is15 => kit_is)
    (case is16 => kit_is)
    (case is17 => kit_is)
    (case is18 => kit_is)
    (case is19 => kit_is)
    (case is20 => kit_is)
    (case is21 => kit_is)
    (case is22 => kit_is)
    (case is23 => kit_is)
    (case nt0_0 => k_is)
    (case nt0_1 => k_is)
    (case nt0_2 => k_is)
    (case nt0_3 => k_is)
    (case nt0_4 => k_is)
    (case nt0_5 => k_is)
    (case nt0_6 => k_is)
    (case nt0_7 => k_is)
    (case ic0 => k_is)
    (case ab_PassplacesError => k_is)
    (case br_PassplacesError => k_is)
    (case bg_PassplacesError => k_is)
    (case bi_PassplacesError => k_is)
    (case aC1 => k_is)
    (case ox1 => kernel_rfl)
    (case xb1 => kernel_rfl)
    (case xi1 => k_is)
    (case xy1 => k_is)
    (case xn1 => k_is)
    (case xl1 => k_is)
    (case xc1 => k_is)
    (case em0 => kernel_rfl)
    (case pnd => decide)
    (case b0 => k_is)
    (case b1 => k_is)
    (case b2 => k_is)
    (case b3 => k_is)
    (case b4 => k_is)
    (case b5 => k_is)
    (case b6 => k_is)
    (case b7 => k_is)

