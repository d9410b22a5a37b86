import PyProof.Rows.All
import HandS.ForMost
import HandS.ForExc
import HandS.Flow
import HandS.IsInst
import HandS.Deep
import HandS.TryOnly
import HandS.TryMany
import KE.KeyNested
import HandS.Conv
import HandS.TupLen
import HandS.Zip
import KE.KDictWalk
import HandS.TupAny
import HandS.TupMul
import HandS.More
import KE.LtData
import HandS.Set
import HandS.SetFor
import HandS.Strs
import HandS.TupSets
import KE.SortData
import KE.KRevSl
import KE.KDictDisplayH
import HandS.ExcOwn
import PyProof.ExcBaseAll.ValueError
import HandS.DictComp
import HandS.Words
import HandS.WordsExc
import HandS.Defaults
import HandS.Ends
import HandS.EndBits
import HandS.HeadEnd
import HandS.Head0
import HandS.Head1
import HandS.Head2
import HandS.HeadHook1
import HandS.HeadHook2
import PySem.Challenge.RW_doneahead_k52_commands_that_stop_others
import PyProof.StrLawsIn
set_option Elab.async false
set_option linter.all false
set_option autoImplicit false
set_option maxRecDepth 100000
set_option maxHeartbeats 0
/-! D1: values, state, relation with the abstract heap. -/
namespace DL
open PySem PySem.Spec L2

abbrev P := PyData

/-- the world that the run is in (texts' hashes) -/
class WorldC where
  w : World
variable [WorldC]

mutual
/-- data as a key of a dict: no bools, no lists -/
def nk : P → Option NestedKey
  | .none => some .none
  | .int i => some (.num i)
  | .str x => some (.text x)
  | .tuple ds => (nks ds).map .tup
  | .bool _ => none
  | .list _ => none
  | .dict _ => none
def nks : List P → Option (List NestedKey)
  | [] => some []
  | d :: ds => match nk d, nks ds with
    | some k, some ks => some (k :: ks)
    | _, _ => none
end
mutual
/-- no dict lies within -/
def nod : P → Bool
  | .dict _ => false
  | .list ds => nods ds
  | .tuple ds => nods ds
  | .none => true
  | .bool _ => true
  | .int _ => true
  | .str _ => true
def nods : List P → Bool
  | [] => true
  | d :: ds => nod d && nods ds
end
/-- the object at a, exactly -/
def DcO (a : Addr) (o : Obj) : HO := .ext fun h => h.get? a = some o

/-- who owns a mutable object: a slot of the frame, or a place of the store -/
inductive Owner where
  | loc (i : Nat)
  | mem (n : Nat)
  deriving DecidableEq

/-- a value: plain data, or a mutable object -/
inductive DV where
  | d (p : P)
  | ob (w : Owner)
  | scr (ns : List Int)

/-- a mutable object -/
inductive DO where
  | lst (xs : List P)
  | lsv (xs : List DV)
  | dct (kvs : List (P × P))

inductive Cel where
  | no
  | val (v : DV)
  | obj (o : DO)

abbrev Env := List Cel
abbrev Hh := List DO

inductive R (α : Type) where
  | ok (a : α) (e : Env) (h : Hh)
  | ex (c : Nat) (p : P) (e : Env) (h : Hh)
  | stuck

abbrev M (α : Type) := Env → Hh → R α

/-! ### the relation -/
abbrev Fg := PySem.W.Frag

/-- a list, a tuple that nobody writes -/
def FL (H : Hp) (Wr : Addr → Prop) (a : Addr) (xs : List V) : Prop := H a = some (.lst xs) ∧ ¬ Wr a
def FT (K : Fg) (H : Hp) (Wr : Addr → Prop) (a : Addr) (xs : List V) : Prop := (H a = some (.tup xs) ∧ ¬ Wr a) ∨ SqT K (fun _ => none) a xs

def Gr (H : Hp) (Wr : Addr → Prop) (H' : Hp) (Wr' : Addr → Prop) : Prop := ∀ a u, H a = some u → ¬ Wr a → H' a = some u ∧ ¬ Wr' a

theorem Gr.refl {H : Hp} {Wr : Addr → Prop} : Gr H Wr H Wr := fun _ _ h k => ⟨h, k⟩
theorem Gr.trans {H H1 H2 : Hp} {W W1 W2 : Addr → Prop} (a : Gr H W H1 W1) (b : Gr H1 W1 H2 W2) : Gr H W H2 W2 := fun x u h k =>
  let ⟨h1, k1⟩ := a x u h k; b x u h1 k1
theorem Gr.weak {H : Hp} {W W1 : Addr → Prop} (s : ∀ a, W1 a → W a) : Gr H W H W1 := fun _ _ h k => ⟨h, fun z => k (s _ z)⟩

theorem FL.mono {H H' : Hp} {W W' : Addr → Prop} {a : Addr} {xs : List V} (g : Gr H W H' W') (h : FL H W a xs) : FL H' W' a xs := g a _ h.1 h.2
theorem FT.mono {K : Fg} {H H' : Hp} {W W' : Addr → Prop} {a : Addr} {xs : List V} (g : Gr H W H' W') (h : FT K H W a xs) : FT K H' W' a xs := by
  rcases h with ⟨r, k⟩ | h
  · exact .inl (g a _ r k)
  · exact .inr h
theorem no_rd {a : Addr} {u : HO} (h : Rd (fun _ => none) a u) : False := by
  rcases h with h | ⟨o, h⟩ <;> cases h
theorem FL.sq {K : Fg} {H : Hp} {W : Addr → Prop} {a : Addr} {xs : List V} (h : FL H W a xs) : SqL K H a xs := .of h.1
theorem FT.sq {K : Fg} {H : Hp} {W : Addr → Prop} {a : Addr} {xs : List V} (h : FT K H W a xs) : SqT K H a xs := by
  rcases h with ⟨r, _⟩ | h
  · exact .of r
  · exact h.elim (fun z => (no_rd z).elim) .inr

mutual
inductive RP (K : Fg) (H : Hp) (W : Addr → Prop) : P → V → Prop
  | non : RP K H W .none .non
  | bl (b : Bool) : RP K H W (.bool b) (.bl b)
  | int (i : Int) : RP K H W (.int i) (.int i)
  | str {x : Str} : PyData.strOk x = true → x.length ≤ 16777216 → RP K H W (.str x) (.str x)
  | lst {a : Addr} {xs : List V} {ds : List P} : FL H W a xs → ds.length ≤ 16777216 → RPs K H W ds xs → RP K H W (.list ds) (.ref a)
  | tup {a : Addr} {xs : List V} {ds : List P} : FT K H W a xs → ds.length ≤ 16777216 → RPs K H W ds xs → RP K H W (.tuple ds) (.ref a)
  | dct {a : Addr} {o : Obj} {es : Array DictEntry} {ep : Nat} {kd : Bool} {kvs : List (P × P)} : H a = some (DcO a o) → ¬ W a → o.ExactDict → o.data = .dict es ep → (a == sysModules) = false → kvs.length ≤ 16777216 → (kvs.map fun z => nk z.1).Nodup →
      RPe K H W kd kvs es.toList → RP K H W (.dict kvs) (.ref a)
inductive RPs (K : Fg) (H : Hp) (W : Addr → Prop) : List P → List V → Prop
  | nil : RPs K H W [] []
  | cons {d : P} {ds : List P} {v : V} {vs : List V} : RP K H W d v → RPs K H W ds vs → RPs K H W (d :: ds) (v :: vs)
/-- a dict's entries: its keys all texts, or all tuples -/
inductive RPe (K : Fg) (H : Hp) (W : Addr → Prop) : Bool → List (P × P) → List DictEntry → Prop
  | nil {kd : Bool} : RPe K H W kd [] []
  | txt {x : Str} {d : P} {v : V} {e : DictEntry} {kvs : List (P × P)} {es : List DictEntry} : PyData.strOk x = true → x.length ≤ 16777216 → e.hash = (NestedKey.text x).hash WorldC.w → RelV (.str x) e.key → RP K H W d v → RelV v e.val →
      RPe K H W false kvs es → RPe K H W false ((.str x, d) :: kvs) (e :: es)
  | tup {ds : List P} {d : P} {n : NestedKey} {b : Addr} {v : V} {e : DictEntry} {kvs : List (P × P)} {es : List DictEntry} : nk (.tuple ds) = some n → n.depth ≤ 8 → e.hash = n.hash WorldC.w → e.key = .ref b → RP K H W (.tuple ds) (.ref b) → RP K H W d v → RelV v e.val →
      RPe K H W true kvs es → RPe K H W true ((.tuple ds, d) :: kvs) (e :: es)
end

section
variable {K : Fg} {H H' : Hp} {W W' : Addr → Prop}
mutual
theorem RP.mono (g : Gr H W H' W') : ∀ {p : P} {x : V}, RP K H W p x → RP K H' W' p x
  | _, _, .non => .non
  | _, _, .bl b => .bl b
  | _, _, .int i => .int i
  | _, _, .str h l => .str h l
  | _, _, .lst f l r => .lst (f.mono g) l (RPs.mono g r)
  | _, _, .tup f l r => .tup (f.mono g) l (RPs.mono g r)
  | _, _, .dct q n a b c l u r => .dct (g _ _ q n).1 (g _ _ q n).2 a b c l u (RPe.mono g r)
theorem RPs.mono (g : Gr H W H' W') : ∀ {ps : List P} {xs : List V}, RPs K H W ps xs → RPs K H' W' ps xs
  | _, _, .nil => .nil
  | _, _, .cons a b => .cons (RP.mono g a) (RPs.mono g b)
theorem RPe.mono (g : Gr H W H' W') : ∀ {kd : Bool} {ps : List (P × P)} {es : List DictEntry}, RPe K H W kd ps es → RPe K H' W' kd ps es
  | _, _, _, .nil => .nil
  | _, _, _, .txt a b c d e f r => .txt a b c d (RP.mono g e) f (RPe.mono g r)
  | _, _, _, .tup a b c d k e f r => .tup a b c d (RP.mono g k) (RP.mono g e) f (RPe.mono g r)
end

mutual
theorem RP.dp : ∀ {p : P} {x : V}, RP K H W p x → nod p = true → Dp K H x p
  | _, _, .non, _ => .non
  | _, _, .bl b, _ => .bl b
  | _, _, .int i, _ => .int i
  | _, _, .str h _, _ => .str _
  | _, _, .lst f _ r, n => .lst f.sq (RPs.dp r n)
  | _, _, .tup f _ r, n => .tup f.sq (RPs.dp r n)
  | _, _, .dct _ _ _ _ _ _ _ _, n => by simp [nod] at n
theorem RPs.dp : ∀ {ps : List P} {xs : List V}, RPs K H W ps xs → nods ps = true → DpAll K H xs ps
  | _, _, .nil, _ => .nil
  | _, _, .cons a b, n => by
    simp only [nods, Bool.and_eq_true] at n
    exact .cons (RP.dp a n.1) (RPs.dp b n.2)
end
mutual
theorem RP.lay : ∀ {p : P} {x : V}, RP K H W p x → nod p = true → p.canLay0 = true
  | _, _, .non, _ => by simp [PyData.canLay0]
  | _, _, .bl b, _ => by simp [PyData.canLay0]
  | _, _, .int i, _ => by simp [PyData.canLay0]
  | _, _, .str h _, _ => by simpa [PyData.canLay0] using h
  | _, _, .lst f _ r, n => by simpa [PyData.canLay0] using RPs.lay r n
  | _, _, .tup f _ r, n => by simpa [PyData.canLay0] using RPs.lay r n
  | _, _, .dct _ _ _ _ _ _ _ _, n => by simp [nod] at n
theorem RPs.lay : ∀ {ps : List P} {xs : List V}, RPs K H W ps xs → nods ps = true → PyData.canLayAll0 ps = true
  | _, _, .nil, _ => by simp [PyData.canLayAll0]
  | _, _, .cons a b, n => by
    simp only [nods, Bool.and_eq_true] at n
    simp [PyData.canLayAll0, RP.lay a n.1, RPs.lay b n.2]
end
theorem RPs.length : ∀ {ps : List P} {xs : List V}, RPs K H W ps xs → ps.length = xs.length
  | _, _, .nil => rfl
  | _, _, .cons _ b => by simp [RPs.length b]
theorem RPs.get : ∀ {ps : List P} {xs : List V} {i : Nat} {p : P}, RPs K H W ps xs → ps[i]? = some p → ∃ x, xs[i]? = some x ∧ RP K H W p x
  | _, _, _, _, .nil, h => by simp at h
  | _, _, 0, _, .cons a b, h => by simp at h; subst h; exact ⟨_, rfl, a⟩
  | _, _, i + 1, _, .cons a b, h => by
    obtain ⟨x, e, r⟩ := RPs.get (i := i) b (by simpa using h)
    exact ⟨x, by simpa using e, r⟩
theorem RPs.get' : ∀ {ps : List P} {xs : List V} {i : Nat} {x : V}, RPs K H W ps xs → xs[i]? = some x → ∃ p, ps[i]? = some p ∧ RP K H W p x
  | _, _, _, _, .nil, h => by simp at h
  | _, _, 0, _, .cons a b, h => by simp at h; subst h; exact ⟨_, rfl, a⟩
  | _, _, i + 1, _, .cons a b, h => by
    obtain ⟨x, e, r⟩ := RPs.get' (i := i) b (by simpa using h)
    exact ⟨x, by simpa using e, r⟩
theorem RPs.append : ∀ {ps qs : List P} {xs ys : List V}, RPs K H W ps xs → RPs K H W qs ys → RPs K H W (ps ++ qs) (xs ++ ys)
  | _, _, _, _, .nil, s => s
  | _, _, _, _, .cons r t, s => .cons r (RPs.append t s)
theorem RPs.take : ∀ {ps : List P} {xs : List V} (n : Nat), RPs K H W ps xs → RPs K H W (ps.take n) (xs.take n)
  | _, _, 0, _ => .nil
  | _, _, _ + 1, .nil => .nil
  | _, _, n + 1, .cons r t => .cons r (RPs.take n t)
theorem RPs.drop : ∀ {ps : List P} {xs : List V} (n : Nat), RPs K H W ps xs → RPs K H W (ps.drop n) (xs.drop n)
  | _, _, 0, r => r
  | _, _, _ + 1, .nil => .nil
  | _, _, n + 1, .cons _ t => RPs.drop n t
theorem RPs.set {p : P} {x : V} (r : RP K H W p x) : ∀ {ps : List P} {xs : List V} (i : Nat), RPs K H W ps xs → RPs K H W (ps.set i p) (xs.set i x)
  | _, _, _, .nil => .nil
  | _, _, 0, .cons _ t => .cons r t
  | _, _, i + 1, .cons q t => .cons q (RPs.set r i t)
theorem RPs.reverse {ps : List P} {xs : List V} (r : RPs K H W ps xs) : RPs K H W ps.reverse xs.reverse := by
  have go : ∀ {ps : List P} {xs : List V}, RPs K H W ps xs → RPs K H W ps.reverse xs.reverse := by
    intro ps
    induction ps with
    | nil => intro xs r; cases r; exact .nil
    | cons p ps ih =>
      intro xs r
      cases r with
      | cons a b =>
        rw [List.reverse_cons, List.reverse_cons]
        exact (ih b).append (.cons a .nil)
  exact go r
theorem RPs.eraseIdx : ∀ {ps : List P} {xs : List V} (i : Nat), RPs K H W ps xs → RPs K H W (ps.eraseIdx i) (xs.eraseIdx i)
  | _, _, _, .nil => by simp; exact .nil
  | _, _, 0, .cons _ t => by simpa using t
  | _, _, i + 1, .cons q t => by simpa using RPs.cons q (RPs.eraseIdx i t)
theorem RPs.dropLast {ps : List P} {xs : List V} (r : RPs K H W ps xs) : RPs K H W ps.dropLast xs.dropLast := by
  rw [List.dropLast_eq_take, List.dropLast_eq_take, r.length]
  exact r.take _
end

/-! ### the state -/
def oa (σ : St) (φ : List Addr) : Owner → Option Addr
  | .loc i => match σ[i]? with
    | some (some (.ref a)) => some a
    | _ => none
  | .mem n => φ[n]?
def oc (e : Env) (h : Hh) : Owner → Option DO
  | .loc i => match e[i]? with
    | some (.obj o) => some o
    | _ => none
  | .mem n => h[n]?
def setO (w : Owner) (o : DO) (e : Env) (h : Hh) : Env × Hh :=
  match w with
  | .loc i => (e.set i (.obj o), h)
  | .mem n => (e, h.set n o)

def Wrt (B : Addr → Prop) (σ : St) (φ : List Addr) (e : Env) (h : Hh) : Addr → Prop := fun a => B a ∨ ∃ w o, oc e h w = some o ∧ oa σ φ w = some a

def RV (K : Fg) (H : Hp) (W : Addr → Prop) (σ : St) (φ : List Addr) : DV → V → Prop
  | .d p, x => RP K H W p x
  | .ob w, x => ∃ a, oa σ φ w = some a ∧ x = .ref a
  | .scr ns, x => ∃ a, x = .ref a ∧ ((∃ o, H a = some (.frz o (.lst (ns.map V.int))) ∧ ¬ W a) ∨ SqL K (fun _ => none) a (ns.map V.int))
inductive RVs (K : Fg) (H : Hp) (W : Addr → Prop) (σ : St) (φ : List Addr) : List DV → List V → Prop
  | nil : RVs K H W σ φ [] []
  | cons {d : DV} {ds : List DV} {v : V} {vs : List V} : RV K H W σ φ d v → RVs K H W σ φ ds vs → RVs K H W σ φ (d :: ds) (v :: vs)
/-- what the dict at a holds -/
def RD (K : Fg) (H : Hp) (W : Addr → Prop) (a : Addr) (kvs : List (P × P)) : Prop := ∃ (o : Obj) (es : Array DictEntry) (ep : Nat) (kd : Bool), H a = some (DcO a o) ∧ o.ExactDict ∧ o.data = .dict es ep ∧ (a == sysModules) = false ∧ kvs.length ≤ 16777216 ∧ (kvs.map fun z => nk z.1).Nodup ∧ RPe K H W kd kvs es.toList
def RO (K : Fg) (H : Hp) (W : Addr → Prop) (σ : St) (φ : List Addr) (a : Addr) : DO → Prop
  | .lst ds => ∃ xs, H a = some (.lst xs) ∧ ds.length ≤ 16777216 ∧ RPs K H W ds xs
  | .lsv ds => ∃ xs, H a = some (.lst xs) ∧ ds.length ≤ 16777216 ∧ RVs K H W [] φ ds xs
  | .dct kvs => RD K H W a kvs

/-- not a slot's own object -/
def DV.ok : DV → Bool
  | .ob (.loc _) => false
  | _ => true

structure RS (K : Fg) (B : Addr → Prop) (φ : List Addr) (σ : St) (H : Hp) (e : Env) (h : Hh) : Prop where
  len : e.length = σ.length
  hlen : φ.length = h.length
  bN : ∀ a, B a → H a ≠ none
  val : ∀ (i : Nat) (v : DV), e[i]? = some (Cel.val v) → ∃ x, σ[i]? = some (some x) ∧ RV K H (Wrt B σ φ e h) σ φ v x ∧ v.ok = true
  obj : ∀ (w : Owner) (o : DO), oc e h w = some o → ∃ a, oa σ φ w = some a ∧ RO K H (Wrt B σ φ e h) σ φ a o ∧ ¬ B a
  inj : ∀ (w w' : Owner) (a : Addr), (∃ o, oc e h w = some o) → (∃ o, oc e h w' = some o) → oa σ φ w = some a → oa σ φ w' = some a → w = w'

/-- what a step keeps -/
structure Step (B : Addr → Prop) (σ : St) (φ : List Addr) (H : Hp) (e : Env) (h : Hh) (φ' : List Addr) (H' : Hp) (e' : Env) (h' : Hh) : Prop where
  phi : φ <+: φ'
  gr : Gr H (Wrt B σ φ e h) H' (Wrt B σ φ' e' h')
  tr : ∀ a, H a ≠ none → H' a ≠ none
  bk : ∀ a, B a → H' a = H a

section
variable {K : Fg} {B B' : Addr → Prop} {φ φ1 φ2 : List Addr} {σ : St} {H H1 H2 H' : Hp} {e e1 e2 : Env} {h h1 h2 : Hh} {W W' : Addr → Prop}

theorem Step.refl : Step B σ φ H e h φ H e h := ⟨List.prefix_rfl, Gr.refl, fun _ z => z, fun _ _ => rfl⟩
theorem Step.trans (a : Step B σ φ H e h φ1 H1 e1 h1) (b : Step B σ φ1 H1 e1 h1 φ2 H2 e2 h2) : Step B σ φ H e h φ2 H2 e2 h2 :=
  ⟨a.phi.trans b.phi, a.gr.trans b.gr, fun x z => b.tr x (a.tr x z), fun x z => (b.bk x z).trans (a.bk x z)⟩

theorem oa_pre (p : φ <+: φ1) {w : Owner} {a : Addr} (q : oa σ φ w = some a) : oa σ φ1 w = some a := by
  cases w with
  | loc i => exact q
  | mem n =>
    obtain ⟨t, rfl⟩ := p
    have q' : φ[n]? = some a := q
    have hn : n < φ.length := (List.getElem?_eq_some_iff.mp q').1
    show (φ ++ t)[n]? = some a
    rw [List.getElem?_append_left hn]
    exact q'
theorem RV.mono (g : Gr H W H' W') (p : φ <+: φ1) {v : DV} {x : V} (r : RV K H W σ φ v x) : RV K H' W' σ φ1 v x := by
  cases v with
  | d q => exact RP.mono g r
  | ob w =>
    obtain ⟨a, q, e⟩ := r
    exact ⟨a, oa_pre p q, e⟩
  | scr ns =>
    obtain ⟨a, e, r⟩ := r
    rcases r with ⟨o, q, k⟩ | r
    · exact ⟨a, e, .inl ⟨o, g a _ q k⟩⟩
    · exact ⟨a, e, .inr r⟩
theorem scr_sq {K : Fg} {H : Hp} {W : Addr → Prop} {a : Addr} {xs : List V} (r : (∃ o, H a = some (.frz o (.lst xs)) ∧ ¬ W a) ∨ SqL K (fun _ => none) a xs) : SqL K H a xs := by
  rcases r with ⟨o, q, _⟩ | r
  · exact .inl (.inr ⟨o, q⟩)
  · rcases r with r | r
    · rcases r with r | ⟨_, r⟩ <;> cases r
    · exact .inr r
theorem RVs.mono (g : Gr H W H' W') (p : φ <+: φ1) : ∀ {vs : List DV} {xs : List V}, RVs K H W σ φ vs xs → RVs K H' W' σ φ1 vs xs
  | _, _, .nil => .nil
  | _, _, .cons a b => .cons (a.mono g p) (RVs.mono g p b)
theorem RVs.length : ∀ {vs : List DV} {xs : List V}, RVs K H W σ φ vs xs → vs.length = xs.length
  | _, _, .nil => rfl
  | _, _, .cons _ b => by simp [RVs.length b]
theorem RD.mono' (g : Gr H W H' W') {a : Addr} (ea : H' a = H a) {kvs : List (P × P)} (r : RD K H W a kvs) : RD K H' W' a kvs := by
  obtain ⟨o, es, ep, kd, h1, h2, h3, h4, h5, h6, h7⟩ := r
  exact ⟨o, es, ep, kd, by rw [ea]; exact h1, h2, h3, h4, h5, h6, h7.mono g⟩
theorem RO.mono (g : Gr H W H' W') (p : φ <+: φ1) {a : Addr} (ea : H' a = H a) {o : DO} (r : RO K H W σ φ a o) : RO K H' W' σ φ1 a o := by
  cases o with
  | lst ds =>
    obtain ⟨xs, q, l, r⟩ := r
    exact ⟨xs, by rw [ea]; exact q, l, r.mono g⟩
  | lsv ds =>
    obtain ⟨xs, q, l, r⟩ := r
    exact ⟨xs, by rw [ea]; exact q, l, r.mono g p⟩
  | dct kvs =>
    exact RD.mono' g ea r
theorem RO.tracked {a : Addr} {o : DO} (r : RO K H W σ φ a o) : ∃ u, H a = some u ∧ Mut (some u) := by
  cases o with
  | lst ds => obtain ⟨xs, q, _, _⟩ := r; exact ⟨_, q, trivial⟩
  | lsv ds => obtain ⟨xs, q, _, _⟩ := r; exact ⟨_, q, trivial⟩
  | dct kvs =>
    obtain ⟨o, es, ep, kd, q, _⟩ := r
    exact ⟨_, q, trivial⟩

theorem RS.wN (s : RS K B φ σ H e h) : ∀ a, Wrt B σ φ e h a → H a ≠ none := by
  intro a z
  rcases z with z | ⟨w, o, q, r⟩
  · exact s.bN a z
  · obtain ⟨a', q', ro, _⟩ := s.obj w o q
    rw [q'] at r
    cases r
    obtain ⟨xs, q, _⟩ := ro.tracked
    rw [q]
    intro z
    cases z

/-- the heap has grown by new objects alone -/
theorem RS.ext (s : RS K B φ σ H e h) (x : ∀ a u, H a = some u → H1 a = some u) : RS K B φ σ H1 e h ∧ Step B σ φ H e h φ H1 e h := by
  have g : Gr H (Wrt B σ φ e h) H1 (Wrt B σ φ e h) := fun a u q k => ⟨x a u q, k⟩
  have tr : ∀ a, H a ≠ none → H1 a ≠ none := fun a z => by
    cases q : H a with
    | none => exact absurd q z
    | some u => rw [x a u q]; intro z; cases z
  have eq : ∀ a, H a ≠ none → H1 a = H a := fun a z => by
    cases q : H a with
    | none => exact absurd q z
    | some u => exact x a u q
  refine ⟨⟨s.len, s.hlen, fun a z => tr a (s.bN a z), fun i v q => ?_, fun w o q => ?_, s.inj⟩, ⟨List.prefix_rfl, g, tr, fun a z => eq a (s.bN a z)⟩⟩
  · obtain ⟨x, q1, r, k⟩ := s.val i v q
    exact ⟨x, q1, r.mono g List.prefix_rfl, k⟩
  · obtain ⟨a, q1, r, nb⟩ := s.obj w o q
    obtain ⟨xs, hx, _⟩ := r.tracked
    exact ⟨a, q1, r.mono g List.prefix_rfl (by rw [hx]; exact x a _ hx), nb⟩
end
end DL
/-! D2: what is read off a run of the plain evaluator: readings for the layer's judgements. -/
namespace DL
open PySem PySem.Spec L2
variable [WorldC]

def R.bind {α β : Type} (m : R α) (f : α → M β) : R β := match m with
  | .ok a e h => f a e h
  | .ex c p e h => .ex c p e h
  | .stuck => .stuck
@[simp] theorem R.bind_ok {α β : Type} (a : α) (e : Env) (h : Hh) (f : α → M β) : (R.ok a e h).bind f = f a e h := (rfl)
@[simp] theorem R.bind_ex {α β : Type} (c : Nat) (p : P) (e : Env) (h : Hh) (f : α → M β) : (R.ex c p e h : R α).bind f = .ex c p e h := (rfl)
@[simp] theorem R.bind_stuck {α β : Type} (f : α → M β) : (R.stuck : R α).bind f = .stuck := (rfl)

structure Ct where
  K : Fg
  cls : Nat → Value
  W : WX

/-- the own dict of an exception with data -/
def ExD (c : Nat) (p : P) (d : Option Addr) (H : Hp) : Prop := match p with
  | .none => d = none
  | .int n => ∃ a, d = some a ∧ H a = some (.xd [(Str.ofString "line", .int n)])
  | _ => False

def PostG {α β : Type} (C : Ct) (Rel : Hp → (Addr → Prop) → List Addr → α → β → Prop) (B : Addr → Prop) (φ : List Addr) (σ : St) (H : Hp) (e : Env) (h : Hh) (r : R α) (Q : β → Hp → Prop) : Prop := match r with
  | .ok v e' h' => ∀ φ' H' x, RS C.K B φ' σ H' e' h' → Step B σ φ H e h φ' H' e' h' → Rel H' (Wrt B σ φ' e' h') φ' v x → Q x H'
  | .ex c p e' h' => ∀ φ' H' d, RS C.K B φ' σ H' e' h' → Step B σ φ H e h φ' H' e' h' → ExD c p d H' → C.W (C.cls c) d σ H'
  | .stuck => False

section
variable {C : Ct} {B : Addr → Prop} {φ φ1 : List Addr} {σ : St} {H H1 : Hp} {e e1 : Env} {h h1 : Hh} {α β γ δ : Type}
  {Rel : Hp → (Addr → Prop) → List Addr → α → β → Prop} {Rel2 : Hp → (Addr → Prop) → List Addr → γ → δ → Prop}
theorem PostG.shift {r : R α} {Q : β → Hp → Prop} (p : PostG C Rel B φ σ H e h r Q) (s : Step B σ φ H e h φ1 H1 e1 h1) : PostG C Rel B φ1 σ H1 e1 h1 r Q := by
  cases r with
  | ok v e' h' => exact fun φ' H' x a b c => p φ' H' x a (s.trans b) c
  | ex c q e' h' => exact fun φ' H' d a b c => p φ' H' d a (s.trans b) c
  | stuck => exact p
theorem PostG.bind {m : R α} {f : α → M γ} {Q : δ → Hp → Prop} {Q1 : β → Hp → Prop} (p : PostG C Rel2 B φ σ H e h (m.bind f) Q)
    (k : ∀ a e1 h1 φ1 H1 b, m = .ok a e1 h1 → RS C.K B φ1 σ H1 e1 h1 → Step B σ φ H e h φ1 H1 e1 h1 → Rel H1 (Wrt B σ φ1 e1 h1) φ1 a b → PostG C Rel2 B φ1 σ H1 e1 h1 (f a e1 h1) Q → Q1 b H1) :
    PostG C Rel B φ σ H e h m Q1 := by
  cases m with
  | ok a e1 h1 => exact fun φ1 H1 b r s t => k a e1 h1 φ1 H1 b rfl r s t (PostG.shift (show PostG C Rel2 B φ σ H e h (f a e1 h1) Q from p) s)
  | ex c q e1 h1 => exact p
  | stuck => exact p
/-- at an end -/
theorem PostG.ret {v : α} {x : β} {Q : β → Hp → Prop} (p : PostG C Rel B φ σ H e h (.ok v e h) Q) (s : RS C.K B φ σ H e h) (r : Rel H (Wrt B σ φ e h) φ v x) : Q x H := p φ H x s Step.refl r
end

/-! ### readings -/
abbrev RelV1 (K : Fg) (σ : St) : Hp → (Addr → Prop) → List Addr → DV → V → Prop := fun H W φ v x => RV K H W σ φ v x
abbrev RelVs1 (K : Fg) (σ : St) : Hp → (Addr → Prop) → List Addr → List DV → List V → Prop := fun H W φ v x => RVs K H W σ φ v x
def TEd (C : Ct) (m : M DV) : TE := fun σ H Q => ∃ B φ e h, RS C.K B φ σ H e h ∧ PostG C (RelV1 C.K σ) B φ σ H e h (m e h) Q
def TAd (C : Ct) (m : M (List DV)) : TA := fun σ H Q => ∃ B φ e h, RS C.K B φ σ H e h ∧ PostG C (RelVs1 C.K σ) B φ σ H e h (m e h) Q
/-- a test -/
def TTd (C : Ct) (m : M Bool) : TT := fun σ H Q => ∃ B φ e h, RS C.K B φ σ H e h ∧ PostG C (fun _ _ _ (b c : Bool) => b = c) B φ σ H e h (m e h) Q

/-- a value made new: a list is nobody's yet -/
def FV (K : Fg) (H0 : Hp) (B : Addr → Prop) (φ : List Addr) (σ : St) (H : Hp) (e : Env) (h : Hh) (v : DV) (x : V) : Prop := match v with
  | .d (.list ds) => ∃ a xs, x = .ref a ∧ H0 a = none ∧ ¬ B a ∧ H a = some (.lst xs) ∧ ds.length ≤ 16777216 ∧ RS K (fun b => B b ∨ b = a) φ σ H e h ∧ RPs K H (Wrt (fun b => B b ∨ b = a) σ φ e h) ds xs
  | .d (.dict kvs) => ∃ a, x = .ref a ∧ H0 a = none ∧ ¬ B a ∧ RS K (fun b => B b ∨ b = a) φ σ H e h ∧ RD K H (Wrt (fun b => B b ∨ b = a) σ φ e h) a kvs
  | v => RV K H (Wrt B σ φ e h) σ φ v x
def PostF (C : Ct) (B : Addr → Prop) (φ : List Addr) (σ : St) (H : Hp) (e : Env) (h : Hh) (r : R DV) (Q : VK) (H0 : Hp) : Prop := match r with
  | .ok v e' h' => ∀ φ' H' x, RS C.K B φ' σ H' e' h' → Step B σ φ H e h φ' H' e' h' → FV C.K H0 B φ' σ H' e' h' v x → Q x H'
  | .ex c p e' h' => ∀ φ' H' d, RS C.K B φ' σ H' e' h' → Step B σ φ H e h φ' H' e' h' → ExD c p d H' → C.W (C.cls c) d σ H'
  | .stuck => False
def TEf (C : Ct) (m : M DV) : TE := fun σ H Q => ∃ B φ e h, RS C.K B φ σ H e h ∧ PostF C B φ σ H e h (m e h) Q H
section
variable {C : Ct} {B : Addr → Prop} {φ φ1 : List Addr} {σ : St} {H H1 H0 : Hp} {e e1 : Env} {h h1 : Hh} {α β : Type} {Rel : Hp → (Addr → Prop) → List Addr → α → β → Prop}
theorem Step.back (s : Step B σ φ H e h φ1 H1 e1 h1) : ∀ a, H1 a = none → H a = none := fun a n => by
  cases q : H a with
  | none => rfl
  | some u => exact absurd n (s.tr a (by rw [q]; intro z; cases z))
theorem PostF.shift {r : R DV} {Q : VK} (p : PostF C B φ σ H e h r Q H0) (s : Step B σ φ H e h φ1 H1 e1 h1) : PostF C B φ1 σ H1 e1 h1 r Q H0 := by
  cases r with
  | ok v e' h' => exact fun φ' H' x a b c => p φ' H' x a (s.trans b) c
  | ex c q e' h' => exact fun φ' H' d a b c => p φ' H' d a (s.trans b) c
  | stuck => exact p
theorem PostF.bind {m : R α} {f : α → M DV} {Q : VK} {Q1 : β → Hp → Prop} (p : PostF C B φ σ H e h (m.bind f) Q H0)
    (k : ∀ a e1 h1 φ1 H1 b, m = .ok a e1 h1 → RS C.K B φ1 σ H1 e1 h1 → Step B σ φ H e h φ1 H1 e1 h1 → Rel H1 (Wrt B σ φ1 e1 h1) φ1 a b → PostF C B φ1 σ H1 e1 h1 (f a e1 h1) Q H0 → Q1 b H1) :
    PostG C Rel B φ σ H e h m Q1 := by
  cases m with
  | ok a e1 h1 => exact fun φ1 H1 b r s t => k a e1 h1 φ1 H1 b rfl r s t (PostF.shift (show PostF C B φ σ H e h (f a e1 h1) Q H0 from p) s)
  | ex c q e1 h1 => exact p
  | stuck => exact p
theorem R.bind_assoc {α β γ : Type} (m : R α) (f : α → M β) (g : β → M γ) : (m.bind f).bind g = m.bind fun a e h => (f a e h).bind g := by
  cases m <;> rfl
end

section
variable {X : Cx}
theorem PE.imp {e : Expr} {t t' : TE} (p : PE X e t) (i : ∀ σ H Q, t' σ H Q → t σ H Q) : PE X e t' := ⟨fun pins s σ H Q I h => p.run pins s σ H Q I (i σ H Q h)⟩
theorem PA.imp {es : List Expr} {t t' : TA} (p : PA X es t) (i : ∀ σ H Q, t' σ H Q → t σ H Q) : PA X es t' := ⟨fun pos pins s σ H Q I h => p.run pos pins s σ H Q I (i σ H Q h)⟩
theorem PT.imp {e : Expr} {t t' : TT} (p : PT X e t) (i : ∀ σ H Q, t' σ H Q → t σ H Q) : PT X e t' := ⟨fun pins s σ H Q I h => p.run pins s σ H Q I (i σ H Q h)⟩
theorem PW.imp {e : Expr} {t t' : TT} (p : PW X e t) (i : ∀ σ H Q, t' σ H Q → t σ H Q) : PW X e t' := ⟨fun wh pins s σ H Q I h => p.run wh pins s σ H Q I (i σ H Q h)⟩
theorem PS.imp {st : Stmt} {t t' : TS} (p : PS X st t) (i : ∀ D σ H, t' D σ H → t D σ H) : PS X st t' := ⟨fun pins s σ H D I h => p.run pins s σ H D I (i D σ H h)⟩
theorem PSs.imp {st : List Stmt} {t t' : TS} (p : PSs X st t) (i : ∀ D σ H, t' D σ H → t D σ H) : PSs X st t' := ⟨fun pins s σ H D I h => p.run pins s σ H D I (i D σ H h)⟩
end

section
variable {K : Fg} {B B' : Addr → Prop} {φ : List Addr} {σ : St} {H H' : Hp} {e : Env} {h : Hh}
theorem Wrt.weak (s : ∀ a, B a → B' a) : ∀ a, Wrt B σ φ e h a → Wrt B' σ φ e h a := fun a z => z.elim (fun q => .inl (s a q)) .inr
theorem RS.weakB (r : RS K B' φ σ H e h) (s : ∀ a, B a → B' a) : RS K B φ σ H e h := by
  have g : Gr H (Wrt B' σ φ e h) H (Wrt B σ φ e h) := Gr.weak (Wrt.weak s)
  refine ⟨r.len, r.hlen, fun a z => r.bN a (s a z), fun i v q => ?_, fun w o q => ?_, r.inj⟩
  · obtain ⟨x, q1, q2, q3⟩ := r.val i v q
    exact ⟨x, q1, q2.mono g List.prefix_rfl, q3⟩
  · obtain ⟨a, q1, q2, q3⟩ := r.obj w o q
    exact ⟨a, q1, q2.mono g List.prefix_rfl rfl, fun z => q3 (s a z)⟩
theorem FV.rv {H0 : Hp} {v : DV} {x : V} (f : FV K H0 B φ σ H e h v x) (s : RS K B φ σ H e h) : RV K H (Wrt B σ φ e h) σ φ v x := by
  cases v with
  | d p =>
    cases p with
    | list ds =>
      obtain ⟨a, xs, rfl, n, nb, q, l, r, rs⟩ := f
      refine .lst ⟨q, fun z => ?_⟩ l (rs.mono (Gr.weak (Wrt.weak fun b z => .inl z)))
      rcases z with z | ⟨w, o, q1, q2⟩
      · exact nb z
      · obtain ⟨a', q3, _, q4⟩ := r.obj w o q1
        rw [q2] at q3
        cases q3
        exact q4 (.inr rfl)
    | dict kvs =>
      obtain ⟨a, rfl, n, nb, r, o, es, ep, kd, h1, h2, h3, h4, h5, h6, h7⟩ := f
      have na : ¬ Wrt B σ φ e h a := fun z => by
        rcases z with z | ⟨w, o, q1, q2⟩
        · exact nb z
        · obtain ⟨a', q3, _, q4⟩ := r.obj w o q1
          rw [q2] at q3
          cases q3
          exact q4 (.inr rfl)
      have g : Gr H (Wrt (fun b => B b ∨ b = a) σ φ e h) H (Wrt B σ φ e h) := Gr.weak (Wrt.weak fun b z => .inl z)
      exact .dct h1 na h2 h3 h4 h5 h6 (h7.mono g)
    | _ => exact f
  | ob w => exact f
  | scr ns => exact f
end

theorem TEd.of_f {C : Ct} {m : M DV} {σ : St} {H : Hp} {Q : VK} (t : TEd C m σ H Q) : TEf C m σ H Q := by
  obtain ⟨B, φ, e, h, s, p⟩ := t
  refine ⟨B, φ, e, h, s, ?_⟩
  cases q : m e h with
  | ok v e' h' =>
    rw [q] at p
    exact fun φ' H' x a b c => p φ' H' x a b (c.rv a)
  | ex c r e' h' => rw [q] at p; exact p
  | stuck => rw [q] at p; exact p
theorem pe_f {X : Cx} {C : Ct} {ex : Expr} {m : M DV} (p : PE X ex (TEf C m)) : PE X ex (TEd C m) := PE.imp p fun _ _ _ t => t.of_f
end DL
/-! D3: operations on plain data, argument lists. -/
namespace DL
open PySem PySem.Spec L2
variable [WorldC]

/-! ### dicts as plain data -/
def kEq (p q : P) : Bool := match nk p, nk q with
  | some a, some b => decide (a = b)
  | _, _ => false
def depth8 (k : P) : Bool := match nk k with
  | some n => decide (n.depth ≤ 8)
  | none => false
/-- may k be asked for in a dict with these pairs -/
def keyOk (kvs : List (P × P)) (k : P) : Bool := match k with
  | .str x => (match kvs with
    | [] => true
    | (.str _, _) :: _ => true
    | _ => false) && PyData.strOk x && decide (x.length ≤ 16777216)
  | .tuple _ => depth8 k && (match kvs with
    | [] => true
    | (.tuple _, _) :: _ => true
    | _ => false)
  | _ => false
def dget (kvs : List (P × P)) (k : P) : Option P := (kvs.find? fun z => kEq z.1 k).map (·.2)
def dput (kvs : List (P × P)) (k v : P) : List (P × P) := if (kvs.any fun z => kEq z.1 k) = true then kvs.map fun z => if kEq z.1 k = true then (z.1, v) else z else kvs ++ [(k, v)]

def look (v : DV) (e : Env) (h : Hh) : Option P := match v with
  | .d p => some p
  | .ob w => match oc e h w with
    | some (.lst xs) => some (.list xs)
    | some (.dct kvs) => some (.dict kvs)
    | _ => none
  | .scr _ => none
def looks : List DV → Env → Hh → Option (List P)
  | [], _, _ => some []
  | v :: vs, e, h => match look v e h, looks vs e h with
    | some p, some ps => some (p :: ps)
    | _, _ => none

def RL (K : Fg) (H : Hp) (W : Addr → Prop) (p : P) (x : V) : Prop := match p with
  | .list ds => ∃ a xs, x = .ref a ∧ H a = some (.lst xs) ∧ ds.length ≤ 16777216 ∧ RPs K H W ds xs
  | .dict kvs => ∃ a, x = .ref a ∧ RD K H W a kvs
  | p => RP K H W p x
inductive RLs (K : Fg) (H : Hp) (W : Addr → Prop) : List P → List V → Prop
  | nil : RLs K H W [] []
  | cons {p : P} {ps : List P} {x : V} {xs : List V} : RL K H W p x → RLs K H W ps xs → RLs K H W (p :: ps) (x :: xs)

section
variable {K : Fg} {B : Addr → Prop} {φ : List Addr} {σ : St} {H H' : Hp} {e : Env} {h : Hh} {W W' : Addr → Prop}
theorem RP.rl {p : P} {x : V} (r : RP K H W p x) : RL K H W p x := by
  cases r with
  | lst f l r => exact ⟨_, _, rfl, f.1, l, r⟩
  | non => exact .non
  | bl b => exact .bl b
  | int i => exact .int i
  | str z l => exact .str z l
  | tup f l r => exact .tup f l r
  | dct q n h2 h3 h4 h5 h6 h7 => exact ⟨_, rfl, _, _, _, _, q, h2, h3, h4, h5, h6, h7⟩
theorem RL.dp {p : P} {x : V} (r : RL K H W p x) (n : nod p = true) : Dp K H x p := by
  cases p with
  | list ds =>
    obtain ⟨a, xs, rfl, q, _, r⟩ := r
    exact .lst (.of q) (r.dp n)
  | dict kvs => simp [nod] at n
  | _ => exact RP.dp r n
theorem RL.lay {p : P} {x : V} (r : RL K H W p x) (n : nod p = true) : p.canLay0 = true := by
  cases p with
  | list ds =>
    obtain ⟨a, xs, rfl, q, _, r⟩ := r
    simpa [PyData.canLay0] using r.lay n
  | dict kvs => simp [nod] at n
  | _ => exact RP.lay r n
theorem look_rl (s : RS K B φ σ H e h) {v : DV} {x : V} {p : P} (r : RV K H (Wrt B σ φ e h) σ φ v x) (l : look v e h = some p) : RL K H (Wrt B σ φ e h) p x := by
  cases v with
  | d q =>
    cases l
    exact RP.rl r
  | ob w =>
    obtain ⟨a, q, rfl⟩ := r
    cases c : oc e h w with
    | none => simp [look, c] at l
    | some o =>
      cases o with
      | lst ds =>
        simp [look, c] at l
        subst l
        obtain ⟨a', q1, ⟨xs, q2, l2, q3⟩, _⟩ := s.obj w _ c
        rw [q] at q1
        cases q1
        exact ⟨a, xs, rfl, q2, l2, q3⟩
      | lsv ds => simp [look, c] at l
      | dct kvs =>
        simp [look, c] at l
        subst l
        obtain ⟨a', q1, q2, _⟩ := s.obj w _ c
        rw [q] at q1
        cases q1
        exact ⟨a, rfl, q2⟩
  | scr ns => cases l
theorem looks_rl (s : RS K B φ σ H e h) : ∀ {vs : List DV} {xs : List V} {ps : List P}, RVs K H (Wrt B σ φ e h) σ φ vs xs → looks vs e h = some ps → RLs K H (Wrt B σ φ e h) ps xs
  | [], _, _, r, l => by
    cases r
    cases l
    exact .nil
  | v :: vs, _, _, r, l => by
    cases r with
    | cons a b =>
      cases c : look v e h with
      | none => simp [looks, c] at l
      | some p =>
        cases c2 : looks vs e h with
        | none => simp [looks, c, c2] at l
        | some ps =>
          simp [looks, c, c2] at l
          subst l
          exact .cons (look_rl s a c) (looks_rl s b c2)
/-- one more new object that nobody owns -/
theorem RS.grow (s : RS K B φ σ H e h) {a : Addr} (x : ∀ a u, H a = some u → H' a = some u) (n : H a = none) (t : H' a ≠ none) : RS K (fun b => B b ∨ b = a) φ σ H' e h := by
  have s1 := (s.ext x).1
  have g : Gr H (Wrt B σ φ e h) H' (Wrt (fun b => B b ∨ b = a) σ φ e h) := fun b u q k => ⟨x b u q, fun z => by
    rcases z with (z | z) | z
    · exact k (.inl z)
    · subst z; rw [n] at q; cases q
    · exact k (.inr z)⟩
  refine ⟨s.len, s.hlen, fun b z => ?_, fun i v q => ?_, fun w o q => ?_, s.inj⟩
  · rcases z with z | z
    · exact s1.bN b z
    · rw [z]; exact t
  · obtain ⟨y, q1, r, k⟩ := s.val i v q
    exact ⟨y, q1, r.mono g List.prefix_rfl, k⟩
  · obtain ⟨b, q1, r, nb⟩ := s.obj w o q
    obtain ⟨xs, hx, _⟩ := r.tracked
    refine ⟨b, q1, r.mono g List.prefix_rfl (by rw [hx]; exact x b _ hx), fun z => ?_⟩
    rcases z with z | z
    · exact nb z
    · subst z; rw [n] at hx; cases hx
end

abbrev RsT := Fg → Hp → Hp → (Addr → Prop) → P → V → Prop
def resN : RsT := fun K H H' W r z => RP K H' W r z
def resF : RsT := fun K H H' W r z => match r with
  | .list ds => ∃ a xs, z = .ref a ∧ H a = none ∧ H' a = some (.lst xs) ∧ ds.length ≤ 16777216 ∧ RPs K H' (fun b => W b ∨ b = a) ds xs
  | .dict kvs => ∃ a, z = .ref a ∧ H a = none ∧ H' a ≠ none ∧ RD K H' (fun b => W b ∨ b = a) a kvs
  | r => RP K H' W r z
/-- an operation on plain data: its reading by values -/
def rN (K : Fg) (Rs : RsT) (f : List P → Option P) : List V → Hp → VK → Prop := fun xs H Q => ∃ W ps r, (∀ a, W a → H a ≠ none) ∧ RLs K H W ps xs ∧ f ps = some r ∧
  ∀ z H', (∀ a u, H a = some u → H' a = some u) → Rs K H H' W r z → Q z H'

def mNil : M (List DV) := fun e h => .ok [] e h
def mCons (m : M DV) (ms : M (List DV)) : M (List DV) := fun e h => (m e h).bind fun v e h => (ms e h).bind fun vs e h => .ok (v :: vs) e h
def opEnd (f : List P → Option P) (vs : List DV) : M DV := fun e h => match looks vs e h with
  | some ps => match f ps with
    | some r => .ok (.d r) e h
    | none => .stuck
  | none => .stuck
def mOp (f : List P → Option P) (ms : M (List DV)) : M DV := fun e h => (ms e h).bind (opEnd f)

section
variable {C : Ct} {B : Addr → Prop} {φ : List Addr} {σ : St} {H H1 : Hp} {e : Env} {h : Hh}
theorem end_N {f : List P → Option P} {vs : List DV} {xs : List V} {Q : VK} (s : RS C.K B φ σ H e h) (r : RVs C.K H (Wrt B σ φ e h) σ φ vs xs) (p : PostG C (RelV1 C.K σ) B φ σ H e h (opEnd f vs e h) Q) : rN C.K resN f xs H Q := by
  unfold opEnd at p
  cases c : looks vs e h with
  | none => rw [c] at p; exact p.elim
  | some ps =>
    rw [c] at p
    cases c2 : f ps with
    | none => simp only [c2] at p; exact p.elim
    | some q =>
      simp only [c2] at p
      refine ⟨_, ps, q, s.wN, looks_rl s r c, c2, fun z H' x k => ?_⟩
      obtain ⟨s1, st⟩ := s.ext x
      exact p φ H' z s1 st k
theorem end_F {f : List P → Option P} {vs : List DV} {xs : List V} {Q : VK} {H0 : Hp} (s : RS C.K B φ σ H e h) (r : RVs C.K H (Wrt B σ φ e h) σ φ vs xs) (p : PostF C B φ σ H e h (opEnd f vs e h) Q H0) (hn : ∀ a, H a = none → H0 a = none) : rN C.K resF f xs H Q := by
  unfold opEnd at p
  cases c : looks vs e h with
  | none => rw [c] at p; exact p.elim
  | some ps =>
    rw [c] at p
    cases c2 : f ps with
    | none => simp only [c2] at p; exact p.elim
    | some q =>
      simp only [c2] at p
      refine ⟨_, ps, q, s.wN, looks_rl s r c, c2, fun z H' x k => ?_⟩
      obtain ⟨s1, st⟩ := s.ext x
      refine p φ H' z s1 st ?_
      cases q with
      | list ds =>
        obtain ⟨a, ys, rfl, n, t, l, rs⟩ := k
        have g := s.grow (a := a) x n (by rw [t]; intro z; cases z)
        refine ⟨a, ys, rfl, hn a n, fun z => s.bN a z n, t, l, g, rs.mono (Gr.weak fun b z => ?_)⟩
        rcases z with (z | z) | z
        · exact .inl (.inl z)
        · exact .inr z
        · exact .inl (.inr z)
      | dict kvs =>
        obtain ⟨a, rfl, n, t, rd⟩ := k
        have g := s.grow (a := a) x n t
        refine ⟨a, rfl, hn a n, fun z => s.bN a z n, g, rd.mono' (Gr.weak fun b z => ?_) rfl⟩
        rcases z with (z | z) | z
        · exact .inl (.inl z)
        · exact .inr z
        · exact .inl (.inr z)
      | _ => exact k
end

section
variable {X : Cx} {C : Ct} {a b : Expr} {es : List Expr} {m ma mb : M DV} {ms : M (List DV)} {f : List P → Option P} {pos : Pos}
theorem da_nil : PA X [] (TAd C mNil) := PA.imp pa_nil fun σ H Q ⟨B, φ, e, h, s, p⟩ => PostG.ret (v := []) (x := []) p s .nil
theorem da_cons (ha : PE X a (TEd C m)) (hr : PA X es (TAd C ms)) (hs : starEach (a :: es) X.env = (false, eval a X.env) :: starEach es X.env) : PA X (a :: es) (TAd C (mCons m ms)) := by
  refine PA.imp (pa_cons ha hr hs) fun σ H Q ⟨B, φ, e, h, s, p⟩ => ?_
  refine ⟨B, φ, e, h, s, PostG.bind (f := fun v e h => (ms e h).bind fun vs e h => .ok (v :: vs) e h) p fun v e1 h1 φ1 H1 x _ s1 st1 r1 p1 => ?_⟩
  refine ⟨B, φ1, e1, h1, s1, p1.bind fun vs e2 h2 φ2 H2 xs _ s2 st2 r2 p2 => ?_⟩
  exact p2.ret s2 (.cons (r1.mono st2.gr st2.phi) r2)
theorem d_bin {op : Operator} (ho : OpR X (binaryOp op) fun x y => rN C.K resF f [x, y]) (ha : PE X a (TEd C ma)) (hb : PE X b (TEd C mb)) : PE X (.BinOp a op b pos) (TEf C (mOp f (mCons ma (mCons mb mNil)))) := by
  refine PE.imp (pe_op ho ha hb) fun σ H Q ⟨B, φ, e, h, s, p⟩ => ?_
  simp only [mOp, mCons, mNil, R.bind_assoc, R.bind_ok] at p
  refine ⟨B, φ, e, h, s, p.bind fun v e1 h1 φ1 H1 x _ s1 st1 r1 p1 => ?_⟩
  refine ⟨B, φ1, e1, h1, s1, p1.bind fun w e2 h2 φ2 H2 y _ s2 st2 r2 p2 => ?_⟩
  exact end_F s2 (.cons (r1.mono st2.gr st2.phi) (.cons r2 .nil)) p2 fun a n => st1.back a (st2.back a n)
theorem d_cmp {op : CmpOp} (ho : OpR X (compareOp op) fun x y => rN C.K resF f [x, y]) (ha : PE X a (TEd C ma)) (hb : PE X b (TEd C mb)) (hm : behindInMarks op b = false) : PE X (.Compare a [op] [b] pos) (TEf C (mOp f (mCons ma (mCons mb mNil)))) := by
  refine PE.imp (pe_cmpR ho ha hb hm) fun σ H Q ⟨B, φ, e, h, s, p⟩ => ?_
  simp only [mOp, mCons, mNil, R.bind_assoc, R.bind_ok] at p
  refine ⟨B, φ, e, h, s, p.bind fun v e1 h1 φ1 H1 x _ s1 st1 r1 p1 => ?_⟩
  refine ⟨B, φ1, e1, h1, s1, p1.bind fun w e2 h2 φ2 H2 y _ s2 st2 r2 p2 => ?_⟩
  exact end_F s2 (.cons (r1.mono st2.gr st2.phi) (.cons r2 .nil)) p2 fun a n => st1.back a (st2.back a n)
theorem d_una {op : UnaryOp} (ho : UnR X (unaryOp op) fun x => rN C.K resF f [x]) (ha : PE X a (TEd C ma)) : PE X (.UnaryOp op a pos) (TEf C (mOp f (mCons ma mNil))) := by
  refine PE.imp (pe_un ho ha) fun σ H Q ⟨B, φ, e, h, s, p⟩ => ?_
  simp only [mOp, mCons, mNil, R.bind_assoc, R.bind_ok] at p
  refine ⟨B, φ, e, h, s, p.bind fun v e1 h1 φ1 H1 x _ s1 st1 r1 p1 => ?_⟩
  exact end_F s1 (.cons r1 .nil) p1 fun a n => st1.back a n
/-- an item -/
theorem d_idx (ho : IxR X fun x y => rN C.K resN f [x, y]) (ha : PE X a (TEd C ma)) (hb : PE X b (TEd C mb)) (hs : PlainIx b) : PE X (.Subscript a b pos) (TEd C (mOp f (mCons ma (mCons mb mNil)))) := by
  refine PE.imp (pe_ix ho ha hb hs) fun σ H Q ⟨B, φ, e, h, s, p⟩ => ?_
  simp only [mOp, mCons, mNil, R.bind_assoc, R.bind_ok] at p
  refine ⟨B, φ, e, h, s, p.bind fun v e1 h1 φ1 H1 x _ s1 st1 r1 p1 => ?_⟩
  refine ⟨B, φ1, e1, h1, s1, p1.bind fun w e2 h2 φ2 H2 y _ s2 st2 r2 p2 => ?_⟩
  exact end_N s2 (.cons (r1.mono st2.gr st2.phi) (.cons r2 .nil)) p2
/-- f(..) of a built-in function or type -/
theorem d_bif {id : String} {x : Str} {p' : Pos} (hc : CallR X (.builtin id) (rN C.K resF f)) (hg : Gl X x) (hm : X.mg x = none) (hv : bootBuiltins x = some (.builtin id)) (ha : PA X (a :: es) (TAd C ms)) (hn : x ≠ "__name__") (hdb : (x == ("__debug__" : Str)) = false)
    (he : starEach (a :: es) X.env = (false, eval a X.env) :: starEach es X.env) (hpl : (backTo pos (starEach es X.env)).any (·.1) = false) : PE X (.Call (.Name x p') (a :: es) [] pos) (TEf C (mOp f ms)) := by
  refine PE.imp (pe_callB hc hg hm hv ha hn hdb he hpl) fun σ H Q ⟨B, φ, e, h, s, p⟩ => ?_
  exact ⟨B, φ, e, h, s, PostF.bind (f := opEnd f) p fun vs e1 h1 φ1 H1 xs _ s1 st1 r1 p1 => end_F s1 r1 p1 fun a n => st1.back a n⟩
theorem d_bty {id : String} {x : Str} {p' : Pos} (hc : CallR X (.type id) (rN C.K resF f)) (hg : Gl X x) (hm : X.mg x = none) (hv : bootBuiltins x = some (.type id)) (ha : PA X (a :: es) (TAd C ms)) (hn : x ≠ "__name__") (hdb : (x == ("__debug__" : Str)) = false)
    (he : starEach (a :: es) X.env = (false, eval a X.env) :: starEach es X.env) (hpl : (backTo pos (starEach es X.env)).any (·.1) = false) : PE X (.Call (.Name x p') (a :: es) [] pos) (TEf C (mOp f ms)) := by
  refine PE.imp (pe_callTy hc hg hm hv ha hn hdb he hpl) fun σ H Q ⟨B, φ, e, h, s, p⟩ => ?_
  exact ⟨B, φ, e, h, s, PostF.bind (f := opEnd f) p fun vs e1 h1 φ1 H1 xs _ s1 st1 r1 p1 => end_F s1 r1 p1 fun a n => st1.back a n⟩
end
end DL
/-! D4: changes of the state: a slot is set, an object made, written, frozen. -/
namespace DL
open PySem PySem.Spec L2
variable [WorldC]

section
variable {K : Fg} {B : Addr → Prop} {φ : List Addr} {σ σ' : St} {H H' : Hp} {e e' : Env} {h h' : Hh} {W W' : Addr → Prop}
theorem RV.sig {v : DV} {x : V} (k : v.ok = true) (r : RV K H W σ φ v x) : RV K H W σ' φ v x := by
  cases v with
  | d p => exact r
  | ob w =>
    cases w with
    | loc i => cases k
    | mem n => exact r
  | scr ns => exact r
theorem RO.sig {a : Addr} {o : DO} (r : RO K H W σ φ a o) : RO K H W σ' φ a o := by
  cases o <;> exact r
theorem oa_set_ne {i j : Nat} {y : Option V} (n : i ≠ j) : oa (σ.set i y) φ (.loc j) = oa σ φ (.loc j) := by
  show (match (σ.set i y)[j]? with | some (some (.ref a)) => some a | _ => none) = _
  rw [List.getElem?_set_ne n]
  rfl
theorem oa_set_mem {i n : Nat} {y : Option V} : oa (σ.set i y) φ (.mem n) = oa σ φ (.mem n) := rfl
theorem oc_set_ne {i j : Nat} {y : Cel} (n : i ≠ j) : oc (e.set i y) h (.loc j) = oc e h (.loc j) := by
  show (match (e.set i y)[j]? with | some (.obj o) => some o | _ => none) = _
  rw [List.getElem?_set_ne n]
  rfl
theorem oc_set_val {i : Nat} {v : DV} : oc (e.set i (.val v)) h (.loc i) = none := by
  show (match (e.set i (.val v))[i]? with | some (.obj o) => some o | _ => none) = _
  by_cases q : i < e.length
  · rw [List.getElem?_set_self q]
  · rw [List.getElem?_eq_none (by simpa using q)]
theorem oc_set_no {i : Nat} : oc (e.set i .no) h (.loc i) = none := by
  show (match (e.set i .no)[i]? with | some (.obj o) => some o | _ => none) = _
  by_cases q : i < e.length
  · rw [List.getElem?_set_self q]
  · rw [List.getElem?_eq_none (by simpa using q)]

/-- other slots' owners, when slot i is no owner any more -/
theorem Wrt.drop {i : Nat} {y : Option V} {z : Cel} (hz : oc (e.set i z) h (.loc i) = none) : ∀ a, Wrt B (σ.set i y) φ (e.set i z) h a → Wrt B σ φ e h a := by
  intro a q
  rcases q with q | ⟨w, o, q1, q2⟩
  · exact .inl q
  · cases w with
    | loc j =>
      by_cases n : i = j
      · subst n; rw [hz] at q1; cases q1
      · rw [oc_set_ne n] at q1
        rw [oa_set_ne n] at q2
        exact .inr ⟨.loc j, o, q1, q2⟩
    | mem m => exact .inr ⟨.mem m, o, q1, q2⟩

theorem RS.setVal (s : RS K B φ σ H e h) {i : Nat} {v : DV} {x : V} (r : RV K H (Wrt B σ φ e h) σ φ v x) (k : v.ok = true) :
    RS K B φ (σ.set i (some x)) H (e.set i (.val v)) h := by
  have g : Gr H (Wrt B σ φ e h) H (Wrt B (σ.set i (some x)) φ (e.set i (.val v)) h) := Gr.weak (Wrt.drop oc_set_val)
  refine ⟨by simpa using s.len, s.hlen, s.bN, fun j u q => ?_, fun w o q => ?_, fun w w' a q1 q2 q3 q4 => ?_⟩
  · by_cases n : i = j
    · subst n
      by_cases l : i < e.length
      · rw [List.getElem?_set_self l] at q
        cases q
        exact ⟨x, by rw [List.getElem?_set_self (by rw [← s.len]; exact l)], (r.sig k).mono g List.prefix_rfl, k⟩
      · rw [List.getElem?_eq_none (by simpa using l)] at q; cases q
    · rw [List.getElem?_set_ne n] at q
      obtain ⟨y, q1, q2, q3⟩ := s.val j u q
      exact ⟨y, by rw [List.getElem?_set_ne n]; exact q1, (q2.sig q3).mono g List.prefix_rfl, q3⟩
  · cases w with
    | loc j =>
      by_cases n : i = j
      · subst n; rw [oc_set_val] at q; cases q
      · rw [oc_set_ne n] at q
        obtain ⟨a, q1, q2, q3⟩ := s.obj _ _ q
        exact ⟨a, by rw [oa_set_ne n]; exact q1, q2.sig.mono g List.prefix_rfl rfl, q3⟩
    | mem m =>
      obtain ⟨a, q1, q2, q3⟩ := s.obj (.mem m) _ q
      exact ⟨a, q1, q2.sig.mono g List.prefix_rfl rfl, q3⟩
  · have old : ∀ w, (∃ o, oc (e.set i (.val v)) h w = some o) → (∃ o, oc e h w = some o) ∧ oa (σ.set i (some x)) φ w = oa σ φ w := by
      rintro w ⟨o, q⟩
      cases w with
      | loc j =>
        by_cases n : i = j
        · subst n; rw [oc_set_val] at q; cases q
        · rw [oc_set_ne n] at q
          exact ⟨⟨o, q⟩, oa_set_ne n⟩
      | mem m => exact ⟨⟨o, q⟩, rfl⟩
    obtain ⟨p1, p2⟩ := old w q1
    obtain ⟨p3, p4⟩ := old w' q2
    rw [p2] at q3
    rw [p4] at q4
    exact s.inj w w' a p1 p3 q3 q4

/-- slot i forgotten -/
theorem RS.setNo (s : RS K B φ σ H e h) {i : Nat} {y : Option V} : RS K B φ (σ.set i y) H (e.set i .no) h := by
  have g : Gr H (Wrt B σ φ e h) H (Wrt B (σ.set i y) φ (e.set i .no) h) := Gr.weak (Wrt.drop oc_set_no)
  refine ⟨by simpa using s.len, s.hlen, s.bN, fun j u q => ?_, fun w o q => ?_, fun w w' a q1 q2 q3 q4 => ?_⟩
  · by_cases n : i = j
    · subst n
      by_cases l : i < e.length
      · rw [List.getElem?_set_self l] at q
        cases q
      · rw [List.getElem?_eq_none (by simpa using l)] at q; cases q
    · rw [List.getElem?_set_ne n] at q
      obtain ⟨y, q1, q2, q3⟩ := s.val j u q
      exact ⟨y, by rw [List.getElem?_set_ne n]; exact q1, (q2.sig q3).mono g List.prefix_rfl, q3⟩
  · cases w with
    | loc j =>
      by_cases n : i = j
      · subst n; rw [oc_set_no] at q; cases q
      · rw [oc_set_ne n] at q
        obtain ⟨a, q1, q2, q3⟩ := s.obj _ _ q
        exact ⟨a, by rw [oa_set_ne n]; exact q1, q2.sig.mono g List.prefix_rfl rfl, q3⟩
    | mem m =>
      obtain ⟨a, q1, q2, q3⟩ := s.obj (.mem m) _ q
      exact ⟨a, q1, q2.sig.mono g List.prefix_rfl rfl, q3⟩
  · have old : ∀ w, (∃ o, oc (e.set i .no) h w = some o) → (∃ o, oc e h w = some o) ∧ oa (σ.set i y) φ w = oa σ φ w := by
      rintro w ⟨o, q⟩
      cases w with
      | loc j =>
        by_cases n : i = j
        · subst n; rw [oc_set_no] at q; cases q
        · rw [oc_set_ne n] at q
          exact ⟨⟨o, q⟩, oa_set_ne n⟩
      | mem m => exact ⟨⟨o, q⟩, rfl⟩
    obtain ⟨p1, p2⟩ := old w q1
    obtain ⟨p3, p4⟩ := old w' q2
    rw [p2] at q3
    rw [p4] at q4
    exact s.inj w w' a p1 p3 q3 q4

/-- slot i owns the new object at a -/
theorem RS.setObj {a : Addr} {o : DO} (s : RS K (fun b => B b ∨ b = a) φ σ H e h) {i : Nat} (l : i < σ.length) (nB : ¬ B a) (r : RO K H (Wrt (fun b => B b ∨ b = a) σ φ e h) σ φ a o) :
    RS K B φ (σ.set i (some (.ref a))) H (e.set i (.obj o)) h := by
  have le : i < e.length := by rw [s.len]; exact l
  have oai : oa (σ.set i (some (.ref a))) φ (.loc i) = some a := by
    show (match (σ.set i (some (V.ref a)))[i]? with | some (some (.ref a)) => some a | _ => none) = _
    rw [List.getElem?_set_self l]
  have oci : oc (e.set i (.obj o)) h (.loc i) = some o := by
    show (match (e.set i (.obj o))[i]? with | some (.obj o) => some o | _ => none) = _
    rw [List.getElem?_set_self le]
  have g : Gr H (Wrt (fun b => B b ∨ b = a) σ φ e h) H (Wrt B (σ.set i (some (.ref a))) φ (e.set i (.obj o)) h) := Gr.weak fun b q => by
    rcases q with q | ⟨w, o', q1, q2⟩
    · exact .inl (.inl q)
    · cases w with
      | loc j =>
        by_cases n : i = j
        · subst n; rw [oai] at q2; cases q2; exact .inl (.inr rfl)
        · rw [oc_set_ne n] at q1
          rw [oa_set_ne n] at q2
          exact .inr ⟨.loc j, o', q1, q2⟩
      | mem m => exact .inr ⟨.mem m, o', q1, q2⟩
  refine ⟨by simpa using s.len, s.hlen, fun b z => s.bN b (.inl z), fun j u q => ?_, fun w o' q => ?_, fun w w' b q1 q2 q3 q4 => ?_⟩
  · by_cases n : i = j
    · subst n; rw [List.getElem?_set_self le] at q; cases q
    · rw [List.getElem?_set_ne n] at q
      obtain ⟨y, q1, q2, q3⟩ := s.val j u q
      exact ⟨y, by rw [List.getElem?_set_ne n]; exact q1, (q2.sig q3).mono g List.prefix_rfl, q3⟩
  · cases w with
    | loc j =>
      by_cases n : i = j
      · subst n
        rw [oci] at q
        cases q
        exact ⟨a, oai, r.sig.mono g List.prefix_rfl rfl, nB⟩
      · rw [oc_set_ne n] at q
        obtain ⟨b, q1, q2, q3⟩ := s.obj _ _ q
        exact ⟨b, by rw [oa_set_ne n]; exact q1, q2.sig.mono g List.prefix_rfl rfl, fun z => q3 (.inl z)⟩
    | mem m =>
      obtain ⟨b, q1, q2, q3⟩ := s.obj (.mem m) _ q
      exact ⟨b, q1, q2.sig.mono g List.prefix_rfl rfl, fun z => q3 (.inl z)⟩
  · have old : ∀ w, w ≠ .loc i → (∃ o', oc (e.set i (.obj o)) h w = some o') → (∃ o, oc e h w = some o) ∧ oa (σ.set i (some (.ref a))) φ w = oa σ φ w := by
      rintro w n ⟨o, q⟩
      cases w with
      | loc j =>
        have n' : i ≠ j := fun z => n (by rw [z])
        rw [oc_set_ne n'] at q
        exact ⟨⟨o, q⟩, oa_set_ne n'⟩
      | mem m => exact ⟨⟨o, q⟩, rfl⟩
    have nota : ∀ w, (∃ o, oc e h w = some o) → oa σ φ w ≠ some a := by
      rintro w ⟨o, q⟩ z
      obtain ⟨b, q1, _, q3⟩ := s.obj w o q
      rw [z] at q1
      cases q1
      exact q3 (.inr rfl)
    by_cases e1 : w = .loc i
    · by_cases e2 : w' = .loc i
      · rw [e1, e2]
      · obtain ⟨p1, p2⟩ := old w' e2 q2
        rw [e1, oai] at q3
        cases q3
        rw [p2] at q4
        exact absurd q4 (nota w' p1)
    · obtain ⟨p1, p2⟩ := old w e1 q1
      by_cases e2 : w' = .loc i
      · rw [e2, oai] at q4
        cases q4
        rw [p2] at q3
        exact absurd q3 (nota w p1)
      · obtain ⟨p3, p4⟩ := old w' e2 q2
        rw [p2] at q3
        rw [p4] at q4
        exact s.inj w w' b p1 p3 q3 q4

/-- an owned list of plain data is frozen -/
theorem RS.freeze (s : RS K B φ σ H e h) {i : Nat} {ds : List P} (q : e[i]? = some (.obj (.lst ds))) :
    ∃ a xs, σ[i]? = some (some (.ref a)) ∧ RP K H (Wrt B σ φ (e.set i (.val (.d (.list ds)))) h) (.list ds) (.ref a) ∧ RS K B φ σ H (e.set i (.val (.d (.list ds)))) h ∧ Step B σ φ H e h φ H (e.set i (.val (.d (.list ds)))) h ∧ H a = some (.lst xs) := by
  have le : i < e.length := (List.getElem?_eq_some_iff.mp q).1
  have c : oc e h (.loc i) = some (.lst ds) := by
    show (match e[i]? with | some (.obj o) => some o | _ => none) = _
    rw [q]
  obtain ⟨a, q1, ⟨xs, q2, l3, q3⟩, q4⟩ := s.obj _ _ c
  have sg : σ[i]? = some (some (.ref a)) := by
    have q1' : (match σ[i]? with | some (some (.ref a)) => some a | _ => none) = some a := q1
    split at q1'
    · cases q1'; assumption
    · cases q1'
  have sset : σ.set i (some (.ref a)) = σ := by
    apply List.ext_getElem?
    intro j
    by_cases n : i = j
    · subst n; rw [List.getElem?_set_self (by rw [← s.len]; exact le), sg]
    · rw [List.getElem?_set_ne n]
  have wd : ∀ b, Wrt B σ φ (e.set i (.val (.d (.list ds)))) h b → Wrt B σ φ e h b := by
    have := Wrt.drop (B := B) (σ := σ) (φ := φ) (e := e) (h := h) (i := i) (y := some (.ref a)) (z := .val (.d (.list ds))) oc_set_val
    rw [sset] at this
    exact this
  have na : ¬ Wrt B σ φ (e.set i (.val (.d (.list ds)))) h a := by
    rintro (z | ⟨w, o, z1, z2⟩)
    · exact q4 z
    · have hw : (∃ o, oc e h w = some o) ∧ w ≠ .loc i := by
        cases w with
        | loc j =>
          by_cases n : i = j
          · subst n; rw [oc_set_val] at z1; cases z1
          · rw [oc_set_ne n] at z1
            exact ⟨⟨o, z1⟩, fun z => n (by cases z; rfl)⟩
        | mem m => exact ⟨⟨o, z1⟩, fun z => by cases z⟩
      exact hw.2 (s.inj w (.loc i) a hw.1 ⟨_, c⟩ z2 q1)
  have g : Gr H (Wrt B σ φ e h) H (Wrt B σ φ (e.set i (.val (.d (.list ds)))) h) := Gr.weak wd
  have rp : RP K H (Wrt B σ φ (e.set i (.val (.d (.list ds)))) h) (.list ds) (.ref a) := .lst ⟨q2, na⟩ l3 (q3.mono g)
  refine ⟨a, xs, sg, rp, ?_, ⟨List.prefix_rfl, g, fun _ z => z, fun _ _ => rfl⟩, q2⟩
  refine ⟨by simpa using s.len, s.hlen, s.bN, fun j u q => ?_, fun w o q => ?_, fun w w' b p1 p2 p3 p4 => ?_⟩
  · by_cases n : i = j
    · subst n
      rw [List.getElem?_set_self le] at q
      cases q
      exact ⟨_, sg, rp, rfl⟩
    · rw [List.getElem?_set_ne n] at q
      obtain ⟨y, p1, p2, p3⟩ := s.val j u q
      exact ⟨y, p1, p2.mono g List.prefix_rfl, p3⟩
  · cases w with
    | loc j =>
      by_cases n : i = j
      · subst n; rw [oc_set_val] at q; cases q
      · rw [oc_set_ne n] at q
        obtain ⟨b, p1, p2, p3⟩ := s.obj _ _ q
        exact ⟨b, p1, p2.mono g List.prefix_rfl rfl, p3⟩
    | mem m =>
      obtain ⟨b, p1, p2, p3⟩ := s.obj (.mem m) _ q
      exact ⟨b, p1, p2.mono g List.prefix_rfl rfl, p3⟩
  · have old : ∀ w, (∃ o, oc (e.set i (.val (.d (.list ds)))) h w = some o) → ∃ o, oc e h w = some o := by
      rintro w ⟨o, q⟩
      cases w with
      | loc j =>
        by_cases n : i = j
        · subst n; rw [oc_set_val] at q; cases q
        · rw [oc_set_ne n] at q
          exact ⟨o, q⟩
      | mem m => exact ⟨o, q⟩
    exact s.inj w w' b (old w p1) (old w' p2) p3 p4
theorem RS.freezeD (s : RS K B φ σ H e h) {i : Nat} {kvs : List (P × P)} (q : e[i]? = some (.obj (.dct kvs))) :
    ∃ a, σ[i]? = some (some (.ref a)) ∧ RP K H (Wrt B σ φ (e.set i (.val (.d (.dict kvs)))) h) (.dict kvs) (.ref a) ∧ RS K B φ σ H (e.set i (.val (.d (.dict kvs)))) h ∧ Step B σ φ H e h φ H (e.set i (.val (.d (.dict kvs)))) h := by
  have le : i < e.length := (List.getElem?_eq_some_iff.mp q).1
  have c : oc e h (.loc i) = some (.dct kvs) := by
    show (match e[i]? with | some (.obj o) => some o | _ => none) = _
    rw [q]
  obtain ⟨a, q1, rd, q4⟩ := s.obj _ _ c
  have rd : RD K H (Wrt B σ φ e h) a kvs := rd
  have sg : σ[i]? = some (some (.ref a)) := by
    have q1' : (match σ[i]? with | some (some (.ref a)) => some a | _ => none) = some a := q1
    split at q1'
    · cases q1'; assumption
    · cases q1'
  have sset : σ.set i (some (.ref a)) = σ := by
    apply List.ext_getElem?
    intro j
    by_cases n : i = j
    · subst n; rw [List.getElem?_set_self (by rw [← s.len]; exact le), sg]
    · rw [List.getElem?_set_ne n]
  have wd : ∀ b, Wrt B σ φ (e.set i (.val (.d (.dict kvs)))) h b → Wrt B σ φ e h b := by
    have := Wrt.drop (B := B) (σ := σ) (φ := φ) (e := e) (h := h) (i := i) (y := some (.ref a)) (z := .val (.d (.dict kvs))) oc_set_val
    rw [sset] at this
    exact this
  have na : ¬ Wrt B σ φ (e.set i (.val (.d (.dict kvs)))) h a := by
    rintro (z | ⟨w, o, z1, z2⟩)
    · exact q4 z
    · have hw : (∃ o, oc e h w = some o) ∧ w ≠ .loc i := by
        cases w with
        | loc j =>
          by_cases n : i = j
          · subst n; rw [oc_set_val] at z1; cases z1
          · rw [oc_set_ne n] at z1
            exact ⟨⟨o, z1⟩, fun z => n (by cases z; rfl)⟩
        | mem m => exact ⟨⟨o, z1⟩, fun z => by cases z⟩
      exact hw.2 (s.inj w (.loc i) a hw.1 ⟨_, c⟩ z2 q1)
  have g : Gr H (Wrt B σ φ e h) H (Wrt B σ φ (e.set i (.val (.d (.dict kvs)))) h) := Gr.weak wd
  have rp : RP K H (Wrt B σ φ (e.set i (.val (.d (.dict kvs)))) h) (.dict kvs) (.ref a) := by
    obtain ⟨o, es, ep, kd, h1, h2, h3, h4, h5, h6, h7⟩ := rd
    exact .dct h1 na h2 h3 h4 h5 h6 (h7.mono g)
  refine ⟨a, sg, rp, ?_, ⟨List.prefix_rfl, g, fun _ z => z, fun _ _ => rfl⟩⟩
  refine ⟨by simpa using s.len, s.hlen, s.bN, fun j u q => ?_, fun w o q => ?_, fun w w' b p1 p2 p3 p4 => ?_⟩
  · by_cases n : i = j
    · subst n
      rw [List.getElem?_set_self le] at q
      cases q
      exact ⟨_, sg, rp, rfl⟩
    · rw [List.getElem?_set_ne n] at q
      obtain ⟨y, p1, p2, p3⟩ := s.val j u q
      exact ⟨y, p1, p2.mono g List.prefix_rfl, p3⟩
  · cases w with
    | loc j =>
      by_cases n : i = j
      · subst n; rw [oc_set_val] at q; cases q
      · rw [oc_set_ne n] at q
        obtain ⟨b, p1, p2, p3⟩ := s.obj _ _ q
        exact ⟨b, p1, p2.mono g List.prefix_rfl rfl, p3⟩
    | mem m =>
      obtain ⟨b, p1, p2, p3⟩ := s.obj (.mem m) _ q
      exact ⟨b, p1, p2.mono g List.prefix_rfl rfl, p3⟩
  · have old : ∀ w, (∃ o, oc (e.set i (.val (.d (.dict kvs)))) h w = some o) → ∃ o, oc e h w = some o := by
      rintro w ⟨o, q⟩
      cases w with
      | loc j =>
        by_cases n : i = j
        · subst n; rw [oc_set_val] at q; cases q
        · rw [oc_set_ne n] at q
          exact ⟨o, q⟩
      | mem m => exact ⟨o, q⟩
    exact s.inj w w' b (old w p1) (old w' p2) p3 p4
end
end DL
namespace DL
open PySem PySem.Spec L2
variable [WorldC]
section
variable {K : Fg} {B : Addr → Prop} {φ : List Addr} {σ σ' : St} {H H' : Hp} {e e' : Env} {h h' : Hh} {W W' : Addr → Prop}
theorem oc_setO {w w' : Owner} {o o0 : DO} (c : oc e h w = some o0) : oc (setO w o e h).1 (setO w o e h).2 w' = if w' = w then some o else oc e h w' := by
  cases w with
  | loc i =>
    have le : i < e.length := by
      have c' : (match e[i]? with | some (.obj o) => some o | _ => none) = some o0 := c
      by_cases q : i < e.length
      · exact q
      · rw [List.getElem?_eq_none (by omega)] at c'; cases c'
    cases w' with
    | loc j =>
      show oc (e.set i (.obj o)) h (.loc j) = _
      by_cases n : i = j
      · subst n
        rw [if_pos rfl]
        show (match (e.set i (.obj o))[i]? with | some (.obj o) => some o | _ => none) = _
        rw [List.getElem?_set_self le]
      · rw [oc_set_ne n, if_neg (fun z => n (by cases z; rfl))]
    | mem m =>
      rw [if_neg (fun z => by cases z)]
      rfl
  | mem n =>
    have c' : h[n]? = some o0 := c
    have lt : n < h.length := (List.getElem?_eq_some_iff.mp c').1
    cases w' with
    | loc j =>
      rw [if_neg (fun z => by cases z)]
      rfl
    | mem m =>
      show (h.set n o)[m]? = _
      by_cases q : n = m
      · subst q
        rw [if_pos rfl, List.getElem?_set_self lt]
      · rw [List.getElem?_set_ne q, if_neg (fun z => q (by cases z; rfl))]
        rfl
theorem setO_len {w : Owner} {o : DO} : (setO w o e h).1.length = e.length ∧ (setO w o e h).2.length = h.length := by
  cases w <;> simp [setO]
theorem Wrt.put {w : Owner} {o o0 : DO} (c : oc e h w = some o0) (a : Addr) : Wrt B σ φ (setO w o e h).1 (setO w o e h).2 a ↔ Wrt B σ φ e h a := by
  constructor
  · rintro (z | ⟨w', o', z1, z2⟩)
    · exact .inl z
    · rw [oc_setO c] at z1
      split at z1
      · rename_i q; subst q; exact .inr ⟨_, o0, c, z2⟩
      · exact .inr ⟨_, o', z1, z2⟩
  · rintro (z | ⟨w', o', z1, z2⟩)
    · exact .inl z
    · by_cases q : w' = w
      · subst q; exact .inr ⟨_, o, by rw [oc_setO c, if_pos rfl], z2⟩
      · exact .inr ⟨_, o', by rw [oc_setO c, if_neg q]; exact z1, z2⟩
/-- an owned object is written -/
theorem RS.put (s : RS K B φ σ H e h) {w : Owner} {a : Addr} {u : HO} {o o0 : DO} (c : oc e h w = some o0) (q : oa σ φ w = some a) (r : RO K (upd H a u) (Wrt B σ φ e h) σ φ a o) :
    RS K B φ σ (upd H a u) (setO w o e h).1 (setO w o e h).2 ∧ Step B σ φ H e h φ (upd H a u) (setO w o e h).1 (setO w o e h).2 := by
  have wa : Wrt B σ φ e h a := .inr ⟨w, o0, c, q⟩
  obtain ⟨a', q', _, nB⟩ := s.obj w o0 c
  rw [q] at q'
  cases q'
  have g : Gr H (Wrt B σ φ e h) (upd H a u) (Wrt B σ φ (setO w o e h).1 (setO w o e h).2) := fun b v p k => by
    have n : b ≠ a := fun z => k (by rw [z]; exact wa)
    exact ⟨by rw [upd_ne n]; exact p, fun z => k ((Wrt.put c b).mp z)⟩
  have tr : ∀ b, H b ≠ none → upd H a u b ≠ none := fun b z => by
    by_cases n : b = a
    · rw [n, upd_same]; intro z; cases z
    · rw [upd_ne n]; exact z
  have bk : ∀ b, B b → upd H a u b = H b := fun b z => upd_ne fun n => nB (by rw [← n]; exact z)
  have g2 : Gr (upd H a u) (Wrt B σ φ e h) (upd H a u) (Wrt B σ φ (setO w o e h).1 (setO w o e h).2) := fun b v p k => ⟨p, fun z => k ((Wrt.put c b).mp z)⟩
  refine ⟨⟨by rw [setO_len.1]; exact s.len, by rw [setO_len.2]; exact s.hlen, fun b z => tr b (s.bN b z), fun i v p => ?_, fun w' o' p => ?_, fun w1 w2 b p1 p2 p3 p4 => ?_⟩, ⟨List.prefix_rfl, g, tr, bk⟩⟩
  · have p' : e[i]? = some (.val v) := by
      cases w with
      | loc j =>
        have p1 : (e.set j (.obj o))[i]? = some (.val v) := p
        by_cases n : j = i
        · subst n
          by_cases l : j < e.length
          · rw [List.getElem?_set_self l] at p1; cases p1
          · rw [List.getElem?_eq_none (by simpa using l)] at p1; cases p1
        · rw [List.getElem?_set_ne n] at p1; exact p1
      | mem m => exact p
    obtain ⟨x, p1, p2, p3⟩ := s.val i v p'
    exact ⟨x, p1, p2.mono g List.prefix_rfl, p3⟩
  · rw [oc_setO c] at p
    split at p
    · rename_i z
      cases p
      subst z
      exact ⟨a, q, r.mono g2 List.prefix_rfl rfl, nB⟩
    · rename_i z
      obtain ⟨b, p1, p2, p3⟩ := s.obj w' o' p
      refine ⟨b, p1, p2.mono g List.prefix_rfl (upd_ne fun n => z ?_), p3⟩
      subst n
      exact s.inj w' w b ⟨_, p⟩ ⟨_, c⟩ p1 q
  · have old : ∀ w', (∃ o', oc (setO w o e h).1 (setO w o e h).2 w' = some o') → ∃ o', oc e h w' = some o' := by
      rintro w' ⟨o', z⟩
      rw [oc_setO c] at z
      split at z
      · rename_i y; subst y; exact ⟨_, c⟩
      · exact ⟨_, z⟩
    exact s.inj w1 w2 b (old w1 p1) (old w2 p2) p3 p4
/-- a new object goes to the store's end -/
theorem RS.push {a : Addr} {o : DO} (s : RS K (fun b => B b ∨ b = a) φ σ H e h) (nB : ¬ B a) (r : RO K H (Wrt (fun b => B b ∨ b = a) σ φ e h) σ φ a o) :
    RS K B (φ ++ [a]) σ H e (h ++ [o]) ∧ oa σ (φ ++ [a]) (.mem h.length) = some a := by
  have hl := s.hlen
  have oam : ∀ w, w ≠ .mem h.length → oa σ (φ ++ [a]) w = oa σ φ w := fun w n => by
    cases w with
    | loc i => rfl
    | mem m =>
      have nm : m ≠ h.length := fun z => n (by rw [z])
      show (φ ++ [a])[m]? = φ[m]?
      by_cases l : m < φ.length
      · rw [List.getElem?_append_left l]
      · rw [List.getElem?_eq_none (by simp; omega), List.getElem?_eq_none (by omega)]
  have ocm : ∀ w, w ≠ .mem h.length → oc e (h ++ [o]) w = oc e h w := fun w n => by
    cases w with
    | loc i => rfl
    | mem m =>
      have nm : m ≠ h.length := fun z => n (by rw [z])
      show (h ++ [o])[m]? = h[m]?
      by_cases l : m < h.length
      · rw [List.getElem?_append_left l]
      · rw [List.getElem?_eq_none (by simp; omega), List.getElem?_eq_none (by omega)]
  have oan : oa σ (φ ++ [a]) (.mem h.length) = some a := by
    show (φ ++ [a])[h.length]? = some a
    rw [← hl]; simp
  have ocn : oc e (h ++ [o]) (.mem h.length) = some o := by
    show (h ++ [o])[h.length]? = some o
    simp
  have pre : φ <+: φ ++ [a] := List.prefix_append _ _
  have g : Gr H (Wrt (fun b => B b ∨ b = a) σ φ e h) H (Wrt B σ (φ ++ [a]) e (h ++ [o])) := Gr.weak fun b q => by
    rcases q with q | ⟨w, o', q1, q2⟩
    · exact .inl (.inl q)
    · by_cases n : w = .mem h.length
      · subst n; rw [oan] at q2; cases q2; exact .inl (.inr rfl)
      · rw [ocm w n] at q1
        rw [oam w n] at q2
        exact .inr ⟨w, o', q1, q2⟩
  refine ⟨⟨s.len, by simp [hl], fun b z => s.bN b (.inl z), fun i v q => ?_, fun w o' q => ?_, fun w w' b q1 q2 q3 q4 => ?_⟩, oan⟩
  · obtain ⟨x, p1, p2, p3⟩ := s.val i v q
    exact ⟨x, p1, p2.mono g pre, p3⟩
  · by_cases n : w = .mem h.length
    · subst n
      rw [ocn] at q
      cases q
      exact ⟨a, oan, r.mono g pre rfl, nB⟩
    · rw [ocm w n] at q
      obtain ⟨b, p1, p2, p3⟩ := s.obj w o' q
      exact ⟨b, by rw [oam w n]; exact p1, p2.mono g pre rfl, fun z => p3 (.inl z)⟩
  · have nota : ∀ w, (∃ o, oc e h w = some o) → oa σ φ w ≠ some a := by
      rintro w ⟨o, q⟩ z
      obtain ⟨b, q1, _, q3⟩ := s.obj w o q
      rw [z] at q1
      cases q1
      exact q3 (.inr rfl)
    by_cases e1 : w = .mem h.length
    · by_cases e2 : w' = .mem h.length
      · rw [e1, e2]
      · rw [e1, oan] at q3
        cases q3
        rw [ocm w' e2] at q2
        rw [oam w' e2] at q4
        exact absurd q4 (nota w' q2)
    · rw [ocm w e1] at q1
      rw [oam w e1] at q3
      by_cases e2 : w' = .mem h.length
      · rw [e2, oan] at q4
        cases q4
        exact absurd q3 (nota w q1)
      · rw [ocm w' e2] at q2
        rw [oam w' e2] at q4
        exact s.inj w w' b q1 q2 q3 q4
end
end DL
/-! DA: dicts: their objects read, asked, written. -/
namespace DL
open PySem PySem.Spec L2
variable [WorldC]

mutual
theorem nk_nod : ∀ {p : P} {n : NestedKey}, nk p = some n → nod p = true
  | .none, _, _ => rfl
  | .int _, _, _ => rfl
  | .str _, _, _ => rfl
  | .bool _, _, h => by simp [nk] at h
  | .list _, _, h => by simp [nk] at h
  | .dict _, _, h => by simp [nk] at h
  | .tuple ds, _, h => by
    simp only [nk, Option.map_eq_some_iff] at h
    obtain ⟨ks, h, _⟩ := h
    exact nks_nod h
theorem nks_nod : ∀ {ps : List P} {ns : List NestedKey}, nks ps = some ns → nods ps = true
  | [], _, _ => rfl
  | p :: ps, _, h => by
    simp only [nks] at h
    split at h
    · rename_i h1 h2
      simp only [nods, nk_nod h1, nks_nod h2, Bool.and_self]
    · cases h
end
mutual
theorem reads_nested {h : Heap} : ∀ {p : P} {v : Value} {n : NestedKey} {as : List Addr}, Reads h v p as → nk p = some n → NestedIs h n v
  | .none, _, _, _, r, q => by cases r; simp only [nk, Option.some.injEq] at q; subst q; exact .none
  | .int _, _, _, _, r, q => by cases r; simp only [nk, Option.some.injEq] at q; subst q; exact .int _ _
  | .str _, _, _, _, r, q => by cases r; simp only [nk, Option.some.injEq] at q; subst q; exact .text _ _
  | .bool _, _, _, _, _, q => by simp [nk] at q
  | .list _, _, _, _, _, q => by simp [nk] at q
  | .dict _, _, _, _, _, q => by simp [nk] at q
  | .tuple ds, _, _, _, r, q => by
    simp only [nk, Option.map_eq_some_iff] at q
    obtain ⟨ks, q, rfl⟩ := q
    cases r with
    | tuple h1 h2 h3 h4 => exact .tup h1 h2 h3 (reads_nesteds h4 q)
theorem reads_nesteds {h : Heap} : ∀ {ps : List P} {vs : List Value} {ns : List NestedKey} {as : List Addr}, ReadsAll h vs ps as → nks ps = some ns → NestedAll h ns vs
  | [], _, _, _, r, q => by cases r; simp only [nks, Option.some.injEq] at q; subst q; exact .nil
  | p :: ps, _, _, _, r, q => by
    simp only [nks] at q
    split at q
    · rename_i h1 h2
      cases q
      cases r with
      | cons r1 r2 => exact .cons (reads_nested r1 h1) (reads_nesteds r2 h2)
    · cases q
end

section
variable {X : Cx} {pins : List (Addr × Obj)} {σ : St} {H : Hp} {s : Shared} {W : Addr → Prop} {a b : Addr} {kvs : List (P × P)} {k d : P} {n : NestedKey}
theorem rp_nested (I : Inv X pins σ H s) {x : V} {v : Value} (r : RP X.K H W k x) (q : nk k = some n) (rx : RelV x v) : NestedIs s.heap n v := by
  obtain ⟨as, rd⟩ := Dp.reads I k x v (r.dp (nk_nod q)) rx
  exact reads_nested rd q
theorem obj_of (I : Inv X pins σ H s) {o : Obj} (e : H a = some (DcO a o)) : s.heap.get? a = some o := (show ObjOk X.prog X.w H s.heap a (DcO a o) from I.hok a _ e).1
theorem dc_ok {P : Program} {w : World} {h : Heap} {o : Obj} {H' : Hp} (e : h.get? a = some o) : ObjOk P w H' h a (DcO a o) := ⟨e, ⟨o, e⟩, fun h1 h2 q st => st _ q⟩
abbrev nKind (X : Cx) := nestedKind X.prog X.w
abbrev tKind (X : Cx) := mixKind X.prog X.w
/-- text keys -/
def TPr (K : Fg) (H : Hp) (W : Addr → Prop) (p : P × P) (q : Key × Value) : Prop := ∃ x v, p.1 = .str x ∧ q.1 = .inr x ∧ PyData.strOk x = true ∧ x.length ≤ 16777216 ∧ RP K H W p.2 v ∧ RelV v q.2
abbrev TPs (K : Fg) (H : Hp) (W : Addr → Prop) : List (P × P) → List (Key × Value) → Prop := Paired (TPr K H W)
/-- tuple keys -/
def NPr (K : Fg) (H : Hp) (W : Addr → Prop) (p : P × P) (q : NestedKey × Addr × Value) : Prop := ∃ ds v, p.1 = .tuple ds ∧ nk p.1 = some q.1 ∧ q.1.depth ≤ 8 ∧ RP K H W p.1 (.ref q.2.1) ∧ RP K H W p.2 v ∧ RelV v q.2.2
abbrev NPs (K : Fg) (H : Hp) (W : Addr → Prop) : List (P × P) → List (NestedKey × Addr × Value) → Prop := Paired (NPr K H W)
theorem rpe_text {K : Fg} (hw : X.w = WorldC.w) : ∀ {kvs : List (P × P)} {ens : List DictEntry}, RPe K H W false kvs ens → ∃ vs : List (Key × Value), Pairs (tKind X) ens vs ∧ (∀ e ∈ ens, ∃ k, (tKind X).is k e.key = true ∧ e.hash = (tKind X).hash k) ∧ TPs K H W kvs vs
  | _, _, .nil => ⟨[], .nil, fun e he => (by cases he), .nil⟩
  | _, _, .txt (x := x) (e := e) (v := v) h1 h2 h3 h4 h5 h6 r => by
    obtain ⟨vs, a, b, c⟩ := rpe_text hw r
    have ik : (tKind X).is (.inr x) e.key = true := kV_is (k := .inr x) h4
    refine ⟨(.inr x, e.val) :: vs, .cons ik rfl a, fun e' he => ?_, .cons ⟨x, v, rfl, rfl, h1, h2, h5, h6⟩ c⟩
    rcases List.mem_cons.mp he with z | z
    · subst z
      exact ⟨_, ik, by rw [h3, ← hw]; rfl⟩
    · exact b e' z
theorem text_rpe {K : Fg} (hw : X.w = WorldC.w) : ∀ {kvs : List (P × P)} {ens : List DictEntry} {vs : List (Key × Value)}, Pairs (tKind X) ens vs → (∀ e ∈ ens, ∃ k, (tKind X).is k e.key = true ∧ e.hash = (tKind X).hash k) → TPs K H W kvs vs → RPe K H W false kvs ens
  | _, _, _, .nil, _, .nil => .nil
  | p :: _, _, _, .cons p1 p2 p3, hs, .cons t1 t2 => by
    obtain ⟨x, v, e1, e2, o, l, rp, rv⟩ := t1
    obtain ⟨k', z1, z2⟩ := hs _ List.mem_cons_self
    rw [e2] at p1
    have := (tKind X).inj _ _ _ z1 p1
    subst this
    obtain ⟨p1', p2'⟩ := p
    cases e1
    have kr : RelV (kV (.inr x)) _ := keyIs_rel p1
    refine .txt o l (by rw [z2, ← hw]; rfl) kr rp (by rw [p2]; exact rv) (text_rpe hw p3 (fun e he => hs e (List.mem_cons_of_mem _ he)) t2)
theorem rpe_tup {K : Fg} (hw : X.w = WorldC.w) : ∀ {kvs : List (P × P)} {ens : List DictEntry}, RPe K H W true kvs ens → ∃ xs : List (NestedKey × Addr × Value), ens = xs.map (entryOfKey (nKind X)) ∧ NPs K H W kvs xs
  | _, _, .nil => ⟨[], rfl, .nil⟩
  | _, _, .tup (ds := ds) (n := n) (b := b) (e := e) (v := v) h1 h2 h3 h4 h5 h6 h7 r => by
    obtain ⟨xs, rfl, c⟩ := rpe_tup hw r
    refine ⟨(n, b, e.val) :: xs, ?_, .cons ⟨ds, v, rfl, h1, h2, h5, h6, h7⟩ c⟩
    rw [List.map_cons]
    congr 1
    obtain ⟨eh, ek, ev⟩ := e
    simp only at h3 h4
    rw [h3, h4, ← hw]
    rfl
theorem tup_rpe {K : Fg} (hw : X.w = WorldC.w) : ∀ {kvs : List (P × P)} {xs : List (NestedKey × Addr × Value)}, NPs K H W kvs xs → RPe K H W true kvs (xs.map (entryOfKey (nKind X)))
  | _, _, .nil => .nil
  | _, _, .cons (a := p) (b := q) t1 t2 => by
    obtain ⟨ds, v, e1, h1, h2, h3, h4, h5⟩ := t1
    obtain ⟨p1, p2⟩ := p
    cases e1
    rw [List.map_cons]
    exact .tup h1 h2 (by rw [← hw]; rfl) rfl h3 h4 h5 (tup_rpe hw t2)
theorem nkeys_is (I : Inv X pins σ H s) : ∀ {kvs : List (P × P)} {xs : List (NestedKey × Addr × Value)}, NPs X.K H W kvs xs → ∀ x ∈ xs, (nKind X).is s.heap x.1 x.2.1
  | _, _, .nil, x, hx => by cases hx
  | _, _, .cons t1 t2, x, hx => by
    rcases List.mem_cons.mp hx with e | hx
    · subst e
      obtain ⟨ds, v, e1, h1, h2, h3, h4, h5⟩ := t1
      exact ⟨rp_nested I (v := .ref _) h3 h1 rfl, h2⟩
    · exact nkeys_is I t2 x hx
theorem tps_nk {K : Fg} : ∀ {kvs : List (P × P)} {vs : List (Key × Value)}, TPs K H W kvs vs → (kvs.map fun z => nk z.1) = (vs.map (·.1)).map fun q => match q with | .inr x => some (.text x) | .inl i => some (.num i)
  | _, _, .nil => rfl
  | _, _, .cons t1 t2 => by
    obtain ⟨x, v, e1, e2, _⟩ := t1
    rw [List.map_cons, List.map_cons, List.map_cons, tps_nk t2, e1, e2]
    rfl
theorem nps_nk {K : Fg} : ∀ {kvs : List (P × P)} {xs : List (NestedKey × Addr × Value)}, NPs K H W kvs xs → (kvs.map fun z => nk z.1) = (xs.map (·.1)).map some
  | _, _, .nil => rfl
  | _, _, .cons t1 t2 => by
    obtain ⟨ds, v, e1, h1, _⟩ := t1
    rw [List.map_cons, List.map_cons, List.map_cons, nps_nk t2, h1]
theorem key_inj {a b : Key} (h : (match a with | .inr x => some (NestedKey.text x) | .inl i => some (.num i)) = (match b with | .inr x => some (NestedKey.text x) | .inl i => some (.num i))) : a = b := by
  cases a <;> cases b <;> simp at h <;> simp [h]
theorem nodup_map {α β : Type} {f : α → β} (hf : ∀ a b, f a = f b → a = b) {l : List α} (h : l.Nodup) : (l.map f).Nodup := by
  refine List.pairwise_map.mpr (h.imp fun {a b} n z => n (hf a b z))
theorem nodup_of {α β : Type} {f : α → β} {l : List α} (h : (l.map f).Nodup) : l.Nodup := (List.pairwise_map.mp h).imp fun {a b} n z => n (by rw [z])
/-! what is looked up, both ways -/
theorem kEq_text {x : Str} {p : P} : kEq p (.str x) = true ↔ p = .str x := by
  unfold kEq
  cases p <;> simp [nk]
  rename_i ds
  cases nks ds <;> simp
theorem kEq_n {p q : P} {n m : NestedKey} (h1 : nk p = some n) (h2 : nk q = some m) : kEq p q = decide (n = m) := by
  unfold kEq
  rw [h1, h2]
def RelOQ (K : Fg) (H : Hp) (W : Addr → Prop) : Option P → Option Value → Prop
  | some d, some u => ∃ v, RP K H W d v ∧ RelV v u
  | none, none => True
  | _, _ => False
theorem RelOQ.isSome {K : Fg} {o : Option P} {o' : Option Value} (r : RelOQ K H W o o') : o.isSome = o'.isSome := by
  cases o <;> cases o' <;> first | rfl | exact r.elim
theorem RelOQ.some {K : Fg} {o : Option Value} (r : RelOQ K H W (some d) o) : ∃ v u, o = some u ∧ RP K H W d v ∧ RelV v u := by
  cases o with
  | none => exact r.elim
  | some u => obtain ⟨v, r1, r2⟩ := r; exact ⟨v, u, rfl, r1, r2⟩
theorem dget_c {p d : P} {kvs : List (P × P)} {k : P} : dget ((p, d) :: kvs) k = if kEq p k = true then some d else dget kvs k := by
  unfold dget
  rw [List.find?_cons]
  by_cases c : kEq p k = true
  · simp [c]
  · simp [c]
theorem tps_get {K : Fg} {x : Str} : ∀ {kvs : List (P × P)} {vs : List (Key × Value)}, TPs K H W kvs vs → RelOQ K H W (dget kvs (.str x)) (valueAt vs (.inr x))
  | _, _, .nil => trivial
  | _, _, .cons (a := p) (b := q) (l₂ := qs) t1 t2 => by
    have ih := tps_get (x := x) t2
    obtain ⟨y, v, e1, e2, o, l, rp, rv⟩ := t1
    obtain ⟨p1, p2⟩ := p
    obtain ⟨q1, q2⟩ := q
    cases e1; cases e2
    rw [dget_c]
    by_cases e : y = x
    · subst e
      have b : valueAt ((Sum.inr y, q2) :: qs : List (Key × Value)) (.inr y) = some q2 := by simp [valueAt, List.find?_cons]
      rw [if_pos (kEq_text.mpr rfl), b]
      exact ⟨v, rp, rv⟩
    · have b : valueAt ((Sum.inr y, q2) :: qs : List (Key × Value)) (.inr x) = valueAt qs (.inr x) := by simp [valueAt, List.find?_cons, e]
      rw [if_neg (fun z => e (by have := kEq_text.mp z; cases this; rfl)), b]
      exact ih
theorem nps_get {K : Fg} (hk : nk k = some n) : ∀ {kvs : List (P × P)} {xs : List (NestedKey × Addr × Value)}, NPs K H W kvs xs → RelOQ K H W (dget kvs k) ((atKey xs n).map (·.2))
  | _, _, .nil => trivial
  | _, _, .cons (a := p) (b := q) (l₂ := qs) t1 t2 => by
    have ih := nps_get hk t2
    obtain ⟨ds, v, e1, h1, h2, h3, h4, h5⟩ := t1
    obtain ⟨p1, p2⟩ := p
    rw [dget_c, kEq_n h1 hk]
    by_cases e : q.1 = n
    · have b : atKey (q :: qs) n = some q.2 := by simp [atKey, List.find?_cons, e]
      rw [b, if_pos (decide_eq_true e)]
      exact ⟨v, h4, h5⟩
    · have b : atKey (q :: qs) n = atKey qs n := by simp [atKey, List.find?_cons, e]
      rw [b, if_neg (by simpa using e)]
      exact ih
end

/-- the key of a text -/
theorem keyOk_str {kvs : List (P × P)} {x : Str} (h : keyOk kvs (.str x) = true) : PyData.strOk x = true ∧ x.length ≤ 16777216 ∧ (kvs = [] ∨ ∃ y d r, kvs = (.str y, d) :: r) := by
  simp only [keyOk, Bool.and_eq_true, decide_eq_true_eq] at h
  refine ⟨h.1.2, h.2, ?_⟩
  have h := h.1.1
  split at h
  · exact .inl rfl
  · exact .inr ⟨_, _, _, rfl⟩
  · cases h
theorem keyOk_tup {kvs : List (P × P)} {ds : List P} (h : keyOk kvs (.tuple ds) = true) : (∃ n, nk (.tuple ds) = some n ∧ n.depth ≤ 8) ∧ (kvs = [] ∨ ∃ es d r, kvs = (.tuple es, d) :: r) := by
  simp only [keyOk, Bool.and_eq_true] at h
  refine ⟨?_, ?_⟩
  · have h := h.1
    unfold depth8 at h
    split at h
    · rename_i n q
      exact ⟨n, q, of_decide_eq_true h⟩
    · cases h
  · have h := h.2
    split at h
    · exact .inl rfl
    · exact .inr ⟨_, _, _, rfl⟩
    · cases h
theorem keyOk_kind {kvs : List (P × P)} {k : P} (h : keyOk kvs k = true) : (∃ x, k = .str x) ∨ ∃ ds, k = .tuple ds := by
  cases k with
  | str x => exact .inl ⟨x, rfl⟩
  | tuple ds => exact .inr ⟨ds, rfl⟩
  | _ => cases h
section
variable {X : Cx} {pins : List (Addr × Obj)} {σ : St} {H : Hp} {s : Shared} {W : Addr → Prop} {a b : Addr} {kvs : List (P × P)} {k d : P} {n : NestedKey}
theorem rpe_str {K : Fg} {kd : Bool} {ens : List DictEntry} {x : Str} (ko : keyOk kvs (.str x) = true) (r : RPe K H W kd kvs ens) : RPe K H W false kvs ens := by
  rcases (keyOk_str ko).2.2 with q | ⟨y, d, t, q⟩
  · subst q; cases r; exact .nil
  · subst q; cases r with | txt a b c d e f g => exact .txt a b c d e f g
theorem rpe_tpl {K : Fg} {kd : Bool} {ens : List DictEntry} {ds : List P} (ko : keyOk kvs (.tuple ds) = true) (r : RPe K H W kd kvs ens) : RPe K H W true kvs ens := by
  rcases (keyOk_tup ko).2 with q | ⟨y, d, t, q⟩
  · subst q; cases r; exact .nil
  · subst q; cases r with | tup a b c d e f g h => exact .tup a b c d e f g h
/-- a dict that is asked with a text: its table -/
theorem rd_text (hw : X.w = WorldC.w) (I : Inv X pins σ H s) (r : RD X.K H W a kvs) {x : Str} (ko : keyOk kvs (.str x) = true) :
    ∃ vs : List (Key × Value), TPs X.K H W kvs vs ∧ s.heap.DictOf (tKind X) a vs ∧ (a == sysModules) = false := by
  obtain ⟨o, es, ep, kd, h1, h2, h3, h4, h5, h6, h7⟩ := r
  obtain ⟨vs, p1, p2, p3⟩ := rpe_text hw (rpe_str ko h7)
  refine ⟨vs, p3, ⟨o, es, ep, obj_of I h1, h2, h3, fun e he => p2 e (Array.mem_toList_iff.mpr he), p1, ?_⟩, h4⟩
  rw [tps_nk p3] at h6
  exact nodup_of h6
theorem rd_tup (hw : X.w = WorldC.w) (I : Inv X pins σ H s) (r : RD X.K H W a kvs) {ds : List P} (ko : keyOk kvs (.tuple ds) = true) :
    ∃ xs : List (NestedKey × Addr × Value), NPs X.K H W kvs xs ∧ s.heap.DictOfH (nKind X) a xs ∧ (a == sysModules) = false := by
  obtain ⟨o, es, ep, kd, h1, h2, h3, h4, h5, h6, h7⟩ := r
  obtain ⟨xs, p1, p3⟩ := rpe_tup hw (rpe_tpl ko h7)
  refine ⟨xs, p3, ⟨o, es, ep, obj_of I h1, h2, h3, p1, nkeys_is I p3, ?_⟩, h4⟩
  rw [nps_nk p3] at h6
  exact nodup_of h6
/-- and back -/
theorem text_rd (hw : X.w = WorldC.w) {h' : Heap} {K : Fg} {vs : List (Key × Value)} (dd : h'.DictOf (tKind X) a vs) (hs : (a == sysModules) = false) (l : kvs.length ≤ 16777216) :
    ∃ o, h'.get? a = some o ∧ ∀ H', TPs K H' W kvs vs → H' a = some (DcO a o) → RD K H' W a kvs := by
  obtain ⟨o, es, ep, h1, h2, h3, h4, h5, h6⟩ := dd
  refine ⟨o, h1, fun H' t q => ⟨o, es, ep, false, q, h2, h3, hs, l, ?_, text_rpe hw h5 (fun e he => h4 e (Array.mem_toList_iff.mp he)) t⟩⟩
  rw [tps_nk t]
  exact nodup_map (fun a b => key_inj) h6
theorem tup_rd (hw : X.w = WorldC.w) {h' : Heap} {K : Fg} {xs : List (NestedKey × Addr × Value)} (dd : h'.DictOfH (nKind X) a xs) (hs : (a == sysModules) = false) (l : kvs.length ≤ 16777216) :
    ∃ o, h'.get? a = some o ∧ ∀ H', NPs K H' W kvs xs → H' a = some (DcO a o) → RD K H' W a kvs := by
  obtain ⟨o, es, ep, h1, h2, h3, h4, h5, h6⟩ := dd
  refine ⟨o, h1, fun H' t q => ⟨o, es, ep, true, q, h2, h3, hs, l, ?_, by rw [h4]; exact tup_rpe hw t⟩⟩
  rw [nps_nk t]
  exact nodup_map (fun a b z => Option.some.inj z) h6
end
end DL
/-! DB: d[k], k in d, d[k] = v, len(d), if d, list(d): at the machine's level. -/
namespace DL
open PySem PySem.Spec L2
variable [WorldC]

section
variable {X : Cx} {pins : List (Addr × Obj)} {σ : St} {H : Hp} {s : Shared} {W : Addr → Prop} {a b : Addr} {kvs : List (P × P)} {k d : P} {n : NestedKey} {A : Around} {E : Value → Shared → Prop} {y v : V} {u u2 : Value}
theorem n_room (hu : A.units + 10 < cLine) : (nKind X).room A.in1 := by
  show A.units + 1 + 8 < cLine
  omega
theorem rl_key (I : Inv X pins σ H s) {ds : List P} (r : RP X.K H W (.tuple ds) y) (ry : RelV y u) (hn : nk (.tuple ds) = some n) (h8 : n.depth ≤ 8) : ∃ b, y = .ref b ∧ u = .ref b ∧ (nKind X).is s.heap n b := by
  have q := rp_nested I r hn ry
  cases r with
  | tup f l r => cases ry; exact ⟨_, rfl, rfl, q, h8⟩
theorem dd_getItem {Q : Value → Shared → Prop} (hu : A.units + 10 < cLine) (hw : X.w = WorldC.w) (I : Inv X pins σ H s) (r : RD X.K H W a kvs) (ko : keyOk kvs k = true) (rk : RP X.K H W k y) (ry : RelV y u) (g : dget kvs k = some d)
    (h : ∀ w' s' v, Inv X pins σ H s' → RelV v w' → RP X.K H W d v → Q w' s') : wpAny (model X.prog X.w) A (getItem (.ref a) u) Q E s := by
  rcases keyOk_kind ko with ⟨x, rfl⟩ | ⟨ds, rfl⟩
  · obtain ⟨vs, tp, dd, _⟩ := rd_text hw I r ko
    cases rk
    have q := tps_get (x := x) tp
    rw [g] at q
    obtain ⟨v, w', hw', r1, r2⟩ := q.some
    exact wpAny_getItem_of (kV_is (k := .inr x) ry) dd.mapOf hw' (h w' _ v (I.tok _) r2 r1)
  · obtain ⟨xs, np, dd, _⟩ := rd_tup hw I r ko
    obtain ⟨⟨n, hn, h8⟩, _⟩ := keyOk_tup ko
    obtain ⟨b, rfl, rfl, hk⟩ := rl_key I rk ry hn h8
    have q := nps_get hn np
    rw [g] at q
    obtain ⟨v, w', hw', r1, r2⟩ := q.some
    obtain ⟨p, hp, rfl⟩ := Option.map_eq_some_iff.mp hw'
    exact wpAny_getItem_heap (n_room hu) hk dd hp (h _ _ v (I.tok _) r2 r1)
theorem dd_in {Q : Value → Shared → Prop} (hu : A.units + 10 < cLine) (hw : X.w = WorldC.w) (I : Inv X pins σ H s) (r : RD X.K H W a kvs) (ko : keyOk kvs k = true) (rk : RP X.K H W k y) (ry : RelV y u)
    (h : ∀ s', Inv X pins σ H s' → Q (.bool (dget kvs k).isSome) s') : wpAny (model X.prog X.w) A (compareOp .In u (.ref a)) Q E s := by
  rcases keyOk_kind ko with ⟨x, rfl⟩ | ⟨ds, rfl⟩
  · obtain ⟨vs, tp, dd, hd⟩ := rd_text hw I r ko
    cases rk
    refine wpAny_in_of (kV_is (k := .inr x) ry) hd dd.mapOf ?_
    rw [← (tps_get (x := x) tp).isSome]
    exact h _ (I.tok _)
  · obtain ⟨xs, np, dd, hd⟩ := rd_tup hw I r ko
    obtain ⟨⟨n, hn, h8⟩, _⟩ := keyOk_tup ko
    obtain ⟨b, rfl, rfl, hk⟩ := rl_key I rk ry hn h8
    refine wpAny_in_heap (n_room hu) hk hd dd ?_
    have q := (nps_get hn np).isSome
    rw [Option.isSome_map] at q
    rw [← q]
    exact h _ (I.tok _)
theorem dd_notin {Q : Value → Shared → Prop} (hu : A.units + 10 < cLine) (hw : X.w = WorldC.w) (I : Inv X pins σ H s) (r : RD X.K H W a kvs) (ko : keyOk kvs k = true) (rk : RP X.K H W k y) (ry : RelV y u)
    (h : ∀ s', Inv X pins σ H s' → Q (.bool (!(dget kvs k).isSome)) s') : wpAny (model X.prog X.w) A (compareOp .NotIn u (.ref a)) Q E s := by
  rcases keyOk_kind ko with ⟨x, rfl⟩ | ⟨ds, rfl⟩
  · obtain ⟨vs, tp, dd, hd⟩ := rd_text hw I r ko
    cases rk
    refine wpAny_notIn_of (kV_is (k := .inr x) ry) hd dd.mapOf ?_
    rw [← (tps_get (x := x) tp).isSome]
    exact h _ (I.tok _)
  · obtain ⟨xs, np, dd, hd⟩ := rd_tup hw I r ko
    obtain ⟨⟨n, hn, h8⟩, _⟩ := keyOk_tup ko
    obtain ⟨b, rfl, rfl, hk⟩ := rl_key I rk ry hn h8
    refine PyProof.Rows.wpAny_notIn_heap (n_room hu) hk hd dd ?_
    have q := (nps_get hn np).isSome
    rw [Option.isSome_map] at q
    rw [← q]
    exact h _ (I.tok _)
/-- the dict, whatever its keys -/
theorem rd_any (hw : X.w = WorldC.w) (I : Inv X pins σ H s) (r : RD X.K H W a kvs) : (a == sysModules) = false ∧ s.TypeIs (.ref a) "dict" ∧ ((∃ vs, s.heap.DictOf (tKind X) a vs ∧ vs.length = kvs.length) ∨ ∃ xs, s.heap.DictOfH (nKind X) a xs ∧ xs.length = kvs.length) := by
  obtain ⟨o, es, ep, kd, h1, h2, h3, h4, h5, h6, h7⟩ := r
  have ho := obj_of I h1
  cases kd with
  | false =>
    obtain ⟨vs, p1, p2, p3⟩ := rpe_text hw h7
    have dd : s.heap.DictOf (tKind X) a vs := ⟨o, es, ep, ho, h2, h3, fun e he => p2 e (Array.mem_toList_iff.mpr he), p1, by rw [tps_nk p3] at h6; exact nodup_of h6⟩
    exact ⟨h4, dd.typeIs, .inl ⟨vs, dd, (Paired.length p3).symm⟩⟩
  | true =>
    obtain ⟨xs, p1, p3⟩ := rpe_tup hw h7
    have dd : s.heap.DictOfH (nKind X) a xs := ⟨o, es, ep, ho, h2, h3, p1, nkeys_is I p3, by rw [nps_nk p3] at h6; exact nodup_of h6⟩
    exact ⟨h4, dd.typeIs, .inr ⟨xs, dd, (Paired.length p3).symm⟩⟩
theorem rd_le {K : Fg} (r : RD K H W a kvs) : kvs.length ≤ 16777216 := let ⟨_, _, _, _, _, _, _, _, h, _⟩ := r; h
theorem dd_len {Q : Value → Shared → Prop} (hw : X.w = WorldC.w) (I : Inv X pins σ H s) (r : RD X.K H W a kvs) (h : ∀ t s', Inv X pins σ H s' → Q (.int kvs.length t) s') : wpAny (model X.prog X.w) A (call (.builtin "len") [.ref a]) Q E s := by
  have l := rd_le r
  obtain ⟨hd, _, ⟨vs, dd, e⟩ | ⟨xs, dd, e⟩⟩ := rd_any hw I r
  · refine call_len_dict hd dd (by omega) ?_
    rw [e]
    exact h _ _ (I.tok _)
  · refine call_len_dictH hd dd (by omega) ?_
    rw [e]
    exact h _ _ (I.tok _)
theorem truthy_dN {xs : List (NestedKey × Addr × Value)} {Q : Bool → Shared → Prop} (hd : (a == sysModules) = false) (dd : s.heap.DictOfH (nKind X) a xs) (l : xs.length ≤ 16777216) (h : ∀ t, Q (!xs.isEmpty) { s with toks := t }) : wpAny (model X.prog X.w) A (truthy (.ref a)) Q E s := by
  have ne : ((xs.length : Int) != 0) = !xs.isEmpty := by cases xs with
    | nil => rfl
    | cons p r => simp only [List.length_cons, List.isEmpty_cons, Bool.not_false, bne_iff_ne, ne_eq]; omega
  have ask : wpAny (model X.prog X.w) A (runValue (.builtin "len" ⟨[.ref a], []⟩)) (fun r s1 => (∃ t, r = .int xs.length t) ∧ Q (!xs.isEmpty) s1) E s := by
    refine wpAny_runValue (codeAny_builtin entry_len ?_)
    rw [Around.under_plainId plain_len _]
    refine wpAny_mono (wpAny_len_body_dictH (Q := fun r s1 => (∃ t, r = .int xs.length t) ∧ Q (!xs.isEmpty) s1) hd dd (by omega) ⟨⟨_, rfl⟩, h _⟩) ?_ fun _ _ z => z
    rintro fin s1 ⟨r, rfl, q⟩
    exact q
  have fin : ∀ r s1, ((∃ t, r = Value.int xs.length t) ∧ Q (!xs.isEmpty) s1) → wpAny (model X.prog X.w) A (match r with | .int n _ => pure (n != 0) | _ => pure true : Sem Bool) Q E s1 := by
    rintro r s1 ⟨⟨t, rfl⟩, q⟩
    exact wpAny_pure (by rw [ne]; exact q)
  unfold truthy
  refine wpAny_bind (wpAny_callSpecial?_none (name := Str.ofString "__bool__") dd.typeIs noBool_dict ?_)
  refine wpAny_bind (wpAny_specialOf (name := Str.ofString "__len__") dd.typeIs F.slot_dict_len.lookup ?_)
  refine wpAny_bind (wpAny_mono ask (fun r s1 z => ?_) fun _ _ z => z)
  obtain ⟨⟨t, rfl⟩, q⟩ := z
  exact wpAny_pure (by rw [← ne] at q; exact q)
theorem dd_truth {Q : Bool → Shared → Prop} (hw : X.w = WorldC.w) (I : Inv X pins σ H s) (r : RD X.K H W a kvs) (h : ∀ s', Inv X pins σ H s' → Q (!kvs.isEmpty) s') : wpAny (model X.prog X.w) A (truthy (.ref a)) Q E s := by
  have l := rd_le r
  have em : ∀ {α : Type} {xs : List α}, xs.length = kvs.length → xs.isEmpty = kvs.isEmpty := fun {α xs} e => by
    cases xs <;> cases kvs <;> first | rfl | simp at e
  obtain ⟨hd, _, ⟨vs, dd, e⟩ | ⟨xs, dd, e⟩⟩ := rd_any hw I r
  · refine wpAny_truthy_dict hd dd (by omega) ?_
    rw [em e]
    exact h _ (I.tok _)
  · refine truthy_dN hd dd (by omega) fun t => ?_
    rw [em e]
    exact h _ (I.tok _)
/-! ### d[k] = v -/
theorem tps_any {K : Fg} {x : Str} : ∀ {kvs : List (P × P)} {vs : List (Key × Value)}, TPs K H W kvs vs → (kvs.any fun z => kEq z.1 (.str x)) = vs.any fun kv => decide (kv.1 = .inr x)
  | _, _, .nil => rfl
  | _, _, .cons t1 t2 => by
    obtain ⟨y, v, e1, e2, _⟩ := t1
    rw [List.any_cons, List.any_cons, tps_any t2, e1, e2]
    congr 1
    rw [Bool.eq_iff_iff, kEq_text, decide_eq_true_eq]
    constructor
    · intro z; cases z; rfl
    · intro z; cases z; rfl
theorem tps_map {K : Fg} {x : Str} (rd : RP K H W d v) (rv : RelV v u2) : ∀ {kvs : List (P × P)} {vs : List (Key × Value)}, TPs K H W kvs vs → TPs K H W (kvs.map fun z => if kEq z.1 (.str x) = true then (z.1, d) else z) (vs.map fun kv => if kv.1 = .inr x then (kv.1, u2) else kv)
  | _, _, .nil => .nil
  | _, _, .cons (a := p) (b := q) t1 t2 => by
    have ih := tps_map (x := x) rd rv t2
    have t1' := t1
    obtain ⟨y, v', e1, e2, o, l, _, _⟩ := t1'
    rw [List.map_cons, List.map_cons]
    refine .cons ?_ ih
    by_cases e : y = x
    · subst e
      rw [if_pos (by rw [e1]; exact kEq_text.mpr rfl), if_pos e2]
      exact ⟨y, v, e1, e2, o, l, rd, rv⟩
    · rw [if_neg (by rw [e1]; exact fun z => e (by have := kEq_text.mp z; cases this; rfl)), if_neg (by rw [e2]; exact fun z => e (by cases z; rfl))]
      exact t1
theorem tps_put {K : Fg} {x : Str} (ox : PyData.strOk x = true) (lx : x.length ≤ 16777216) (rd : RP K H W d v) (rv : RelV v u2) {kvs : List (P × P)} {vs : List (Key × Value)} (r : TPs K H W kvs vs) : TPs K H W (dput kvs (.str x) d) (stored vs (.inr x) u2) := by
  unfold dput stored
  rw [tps_any r]
  by_cases c : (vs.any fun kv => decide (kv.1 = .inr x)) = true
  · rw [if_pos c, if_pos c]; exact tps_map rd rv r
  · rw [if_neg c, if_neg c]; exact Paired.snoc r ⟨x, v, rfl, rfl, ox, lx, rd, rv⟩
theorem nps_any {K : Fg} (hk : nk k = some n) : ∀ {kvs : List (P × P)} {xs : List (NestedKey × Addr × Value)}, NPs K H W kvs xs → (kvs.any fun z => kEq z.1 k) = (atKey xs n).isSome
  | _, _, .nil => rfl
  | _, _, .cons (a := p) (b := q) (l₂ := qs) t1 t2 => by
    obtain ⟨ds, v, e1, h1, _⟩ := t1
    rw [List.any_cons, nps_any hk t2, kEq_n h1 hk]
    by_cases e : q.1 = n
    · have b : atKey (q :: qs) n = some q.2 := by simp [atKey, List.find?_cons, e]
      rw [b, decide_eq_true e]; rfl
    · have b : atKey (q :: qs) n = atKey qs n := by simp [atKey, List.find?_cons, e]
      rw [b, decide_eq_false e, Bool.false_or]
theorem nps_map {K : Fg} (hk : nk k = some n) (rd : RP K H W d v) (rv : RelV v u2) : ∀ {kvs : List (P × P)} {xs : List (NestedKey × Addr × Value)}, NPs K H W kvs xs → NPs K H W (kvs.map fun z => if kEq z.1 k = true then (z.1, d) else z) (xs.map (putAt n u2))
  | _, _, .nil => .nil
  | _, _, .cons (a := p) (b := q) t1 t2 => by
    have ih := nps_map hk rd rv t2
    have t1' := t1
    obtain ⟨ds, v', e1, h1, h2, h3, _, _⟩ := t1'
    rw [List.map_cons, List.map_cons]
    refine .cons ?_ ih
    unfold putAt
    rw [kEq_n h1 hk]
    by_cases e : q.1 = n
    · rw [if_pos (decide_eq_true e), if_pos e]; exact ⟨ds, v, e1, h1, h2, h3, rd, rv⟩
    · rw [if_neg (by simpa using e), if_neg e]; exact t1
theorem nps_put {K : Fg} {ds : List P} (hk : nk (.tuple ds) = some n) (h8 : n.depth ≤ 8) (rk : RP K H W (.tuple ds) (.ref b)) (rd : RP K H W d v) (rv : RelV v u2) {kvs : List (P × P)} {xs : List (NestedKey × Addr × Value)} (r : NPs K H W kvs xs) : NPs K H W (dput kvs (.tuple ds) d) (storedH xs n b u2) := by
  unfold dput storedH
  rw [nps_any hk r]
  by_cases c : (atKey xs n).isSome = true
  · rw [if_pos c, if_pos c]; exact nps_map hk rd rv r
  · rw [if_neg c, if_neg c]; exact Paired.snoc r ⟨ds, v, rfl, hk, h8, rk, rd, rv⟩
theorem dput_le (kvs : List (P × P)) (k d : P) : (dput kvs k d).length ≤ kvs.length + 1 := by
  unfold dput
  split
  · rw [List.length_map]; omega
  · rw [List.length_append, List.length_cons, List.length_nil]; omega
theorem gr_upd {o : HO} (wa : W a) : Gr H W (upd H a o) W := fun b u q n => ⟨by rw [upd_ne (fun z => n (by rw [z]; exact wa))]; exact q, n⟩
theorem TPs.mono {K : Fg} {H' : Hp} {W' : Addr → Prop} (g : Gr H W H' W') {kvs : List (P × P)} {vs : List (Key × Value)} (r : TPs K H W kvs vs) : TPs K H' W' kvs vs := Paired.mapP r fun _ _ ⟨x, v, a, b, c, d, e, f⟩ => ⟨x, v, a, b, c, d, e.mono g, f⟩
theorem NPs.mono {K : Fg} {H' : Hp} {W' : Addr → Prop} (g : Gr H W H' W') {kvs : List (P × P)} {xs : List (NestedKey × Addr × Value)} (r : NPs K H W kvs xs) : NPs K H' W' kvs xs := Paired.mapP r fun _ _ ⟨x, v, a, b, c, d, e, f⟩ => ⟨x, v, a, b, c, d.mono g, e.mono g, f⟩
theorem dd_setItem {Q : Unit → Shared → Prop} (hu : A.units + 10 < cLine) (hw : X.w = WorldC.w) (I : Inv X pins σ H s) (r : RD X.K H W a kvs) (wa : W a) (ko : keyOk kvs k = true) (rk : RP X.K H W k y) (ry : RelV y u) (rd : RP X.K H W d v) (rv : RelV v u2) (l : (dput kvs k d).length ≤ 16777216)
    (h : ∀ s' o, Mut (some o) → Inv X pins σ (upd H a o) s' → RD X.K (upd H a o) W a (dput kvs k d) → Q () s') : wpAny (model X.prog X.w) A (setItem (.ref a) u u2) Q E s := by
  have mu : Mut (H a) := by
    obtain ⟨o, es, ep, kd, e, _⟩ := r
    rw [e]; trivial
  have g : ∀ o, Gr H W (upd H a o) W := fun o => gr_upd wa
  have hs16 := sizeLine_eq
  have lk := rd_le r
  rcases keyOk_kind ko with ⟨x, rfl⟩ | ⟨ds, rfl⟩
  · obtain ⟨ox, lx, _⟩ := keyOk_str ko
    obtain ⟨vs, tp, dd, hd⟩ := rd_text hw I r ko
    cases rk
    have hz : vs.length ≤ sizeLine := by rw [← Paired.length tp]; omega
    refine wpAny_setItem_pairs (hsz := hz) (kV_is (k := .inr x) ry) dd fun h' dd' hs => ?_
    obtain ⟨o, ho, rd'⟩ := text_rd (K := X.K) (W := W) (kvs := dput kvs (.str x) d) hw dd' hd l
    exact h _ (DcO a o) trivial (d_write I mu hs ⟨o, ho⟩ (dc_ok ho)) (rd' _ ((tps_put ox lx rd rv tp).mono (g _)) upd_same)
  · obtain ⟨xs, np, dd, hd⟩ := rd_tup hw I r ko
    obtain ⟨⟨n, hn, h8⟩, _⟩ := keyOk_tup ko
    obtain ⟨b, rfl, rfl, hk⟩ := rl_key I rk ry hn h8
    have hz : xs.length ≤ sizeLine := by rw [← Paired.length np]; omega
    refine wpAny_setItem_heap (hsz := hz) (n_room hu) hk dd fun h' dd' hs => ?_
    obtain ⟨o, ho, rd'⟩ := tup_rd (K := X.K) (W := W) (kvs := dput kvs (.tuple ds) d) hw dd' hd l
    exact h _ (DcO a o) trivial (d_write I mu hs ⟨o, ho⟩ (dc_ok ho)) (rd' _ ((nps_put hn h8 rk rd rv np).mono (g _)) upd_same)
/-! ### the keys, in order -/
theorem rpe_keys {K : Fg} : ∀ {kd : Bool} {kvs : List (P × P)} {ens : List DictEntry}, RPe K H W kd kvs ens → ∃ xs : List V, RPs K H W (kvs.map (·.1)) xs ∧ Vals xs (ens.map (·.key))
  | _, _, _, .nil => ⟨[], .nil, .nil⟩
  | _, _, _, .txt (x := x) h1 h2 h3 h4 h5 h6 r => by
    obtain ⟨xs, a, b⟩ := rpe_keys r
    exact ⟨.str x :: xs, .cons (.str h1 h2) a, .cons h4 b⟩
  | _, _, _, .tup (b := b) h1 h2 h3 h4 h5 h6 h7 r => by
    obtain ⟨xs, a, c⟩ := rpe_keys r
    exact ⟨.ref b :: xs, .cons h5 a, .cons h4 c⟩
theorem rpe_len {K : Fg} : ∀ {kd : Bool} {kvs : List (P × P)} {ens : List DictEntry}, RPe K H W kd kvs ens → kvs.length = ens.length
  | _, _, _, .nil => rfl
  | _, _, _, .txt _ _ _ _ _ _ r => by simp [rpe_len r]
  | _, _, _, .tup _ _ _ _ _ _ _ r => by simp [rpe_len r]
theorem items_eq {es : Array DictEntry} {acc : Array Value} (h : ItemsOf (fun i v => ∃ en : DictEntry, es[i]? = some en ∧ v = en.key) acc es.size) : acc.toList = es.toList.map (·.key) := by
  apply List.ext_getElem?
  intro j
  rw [List.getElem?_map, Array.getElem?_toList, Array.getElem?_toList]
  cases q : acc[j]? with
  | none =>
    have := Array.getElem?_eq_none_iff.mp q
    rw [h.1] at this
    rw [Array.getElem?_eq_none this]
    rfl
  | some v =>
    obtain ⟨en, e1, e2⟩ := h.2 j v q
    rw [e1, e2]
    rfl
theorem dd_list (hc : X.calm = true) (I : Inv X pins σ H s) (r : RD X.K H W a kvs) {Q : VK} (h : ∀ p xs, H p = none → RPs X.K H W (kvs.map (·.1)) xs → Q (.ref p) (upd H p (.lst xs))) : wpAny (model X.prog X.w) X.A (call (.type "list") [.ref a]) (EP X pins σ Q) X.xe s := by
  obtain ⟨o, es, ep, kd, h1, h2, h3, h4, h5, h6, h7⟩ := r
  obtain ⟨xs, k1, k2⟩ := rpe_keys h7
  have l1 := rpe_len h7
  have hs16 := sizeLine_eq
  rw [Array.length_toList] at l1
  refine PySem.W.kdl_call (kdl_raw h4 h2 h3) (I.ok.hd hc) (obj_of I h1) (by have e : es.size = kvs.length := l1.symm; rw [e, hs16]; exact h5) fun h' tk acc c kp e it => ?_
  have rv : Vals xs acc.toList := by rw [items_eq it]; exact k2
  have hz : xs.length ≤ sizeLine := by rw [← k1.length, List.length_map]; omega
  refine ⟨.ref s.heap.objs.size, _, I.laid (t' := tk) (o := .lst xs) kp (Nat.le_refl _) ?_, rfl, h _ xs (I.hok.fresh (Nat.le_refl _)) k1⟩
  exact ⟨hz, acc.toList, c, rv, by rw [Array.toArray_toList]; exact e⟩
end
end DL
/-! D5: names, constants, displays, and/or/not, tests, methods that write, calls of defs. -/
namespace DL
open PySem PySem.Spec L2
variable [WorldC]

theorem line16 : sizeLine = 16777216 := PySem.sizeLine_eq

def pures : List DV → Option (List P)
  | [] => some []
  | .d p :: vs => match pures vs with
    | some ps => some (p :: ps)
    | none => none
  | _ :: _ => none

section
variable {K : Fg} {B : Addr → Prop} {φ : List Addr} {σ : St} {H H' : Hp} {e : Env} {h : Hh} {W W' : Addr → Prop}
theorem pures_rp : ∀ {vs : List DV} {xs : List V} {ps : List P}, RVs K H W σ φ vs xs → pures vs = some ps → RPs K H W ps xs
  | [], _, _, r, q => by cases r; cases q; exact .nil
  | .d p :: vs, _, _, r, q => by
    cases r with
    | cons a b =>
      cases c : pures vs with
      | none => simp [pures, c] at q
      | some ps =>
        simp [pures, c] at q
        subst q
        exact .cons a (pures_rp b c)
  | .ob w :: vs, _, _, _, q => by simp [pures] at q
  | .scr w :: vs, _, _, _, q => by simp [pures] at q
theorem upd_ext {p : Addr} {o : HO} (n : H p = none) : ∀ a u, H a = some u → upd H p o a = some u := fun a u q => by
  rw [upd_ne (fun z => by rw [z, n] at q; cases q)]
  exact q
/-- a new list -/
theorem new_list (s : RS K B φ σ H e h) {p : Addr} (n : H p = none) {ps : List P} {xs : List V} (l : ps.length ≤ 16777216) (r : RPs K H (Wrt B σ φ e h) ps xs) {H0 : Hp} (hn : H0 p = none) :
    RS K B φ σ (upd H p (.lst xs)) e h ∧ Step B σ φ H e h φ (upd H p (.lst xs)) e h ∧ FV K H0 B φ σ (upd H p (.lst xs)) e h (.d (.list ps)) (.ref p) := by
  have x := upd_ext (o := .lst xs) n
  obtain ⟨s1, st⟩ := s.ext x
  refine ⟨s1, st, p, xs, rfl, hn, fun z => s.bN p z n, upd_same, l, s.grow x n (by rw [upd_same]; intro z; cases z), r.mono fun b u q k => ⟨x b u q, fun z => ?_⟩⟩
  rcases z with (z | z) | z
  · exact k (.inl z)
  · subst z; rw [n] at q; cases q
  · exact k (.inr z)
/-- a new tuple -/
theorem new_tup (s : RS K B φ σ H e h) {p : Addr} (n : H p = none) {ps : List P} {xs : List V} (l : ps.length ≤ 16777216) (r : RPs K H (Wrt B σ φ e h) ps xs) :
    RS K B φ σ (upd H p (.tup xs)) e h ∧ Step B σ φ H e h φ (upd H p (.tup xs)) e h ∧ RP K (upd H p (.tup xs)) (Wrt B σ φ e h) (.tuple ps) (.ref p) := by
  have x := upd_ext (o := .tup xs) n
  obtain ⟨s1, st⟩ := s.ext x
  exact ⟨s1, st, .tup (.inl ⟨upd_same, fun z => s.wN p z n⟩) l (r.mono st.gr)⟩
end

/-! ### names and constants -/
def mK (p : P) : M DV := fun e h => .ok (.d p) e h
def mVar (i : Nat) : M DV := fun e h => match e[i]? with
  | some (.val v) => .ok v e h
  | some (.obj _) => .ok (.ob (.loc i)) e h
  | _ => .stuck
def mFrz (i : Nat) : M DV := fun e h => match e[i]? with
  | some (.obj (.lst ds)) => .ok (.d (.list ds)) (e.set i (.val (.d (.list ds)))) h
  | _ => .stuck
def endTup (vs : List DV) : M DV := fun e h => match pures vs with
  | some ps => if ps.length ≤ 16777216 then .ok (.d (.tuple ps)) e h else .stuck
  | none => .stuck
def endLst (vs : List DV) : M DV := fun e h => match pures vs with
  | some ps => if ps.length ≤ 16777216 then .ok (.d (.list ps)) e h else .stuck
  | none => .stuck
def mTup (ms : M (List DV)) : M DV := fun e h => (ms e h).bind endTup
def mLst (ms : M (List DV)) : M DV := fun e h => (ms e h).bind endLst

section
variable {X : Cx} {C : Ct} {a b c : Expr} {es : List Expr} {m ma mb : M DV} {mc : M Bool} {ms : M (List DV)} {f : List P → Option P} {pos : Pos}
theorem d_con {x : Expr} {p : P} {v : V} (hx : PE X x (tC v)) (r : ∀ H W, RP C.K H W p v) : PE X x (TEd C (mK p)) := PE.imp hx fun σ H Q ⟨B, φ, e, h, s, q⟩ => PostG.ret (v := DV.d p) q s (r _ _)
theorem d_var {i : Nat} {x : Str} (hN : X.N[i]? = some x) (hv : Vis X.env.scope x) (hd : (x == ("__debug__" : Str)) = false) (hcd : (x == ("__classdict__" : Str)) = false) : PE X (.Name x pos) (TEd C (mVar i)) := by
  refine PE.imp (pe_var hN hv hd hcd) fun σ H Q ⟨B, φ, e, h, s, q⟩ => ?_
  cases q1 : e[i]? with
  | none => simp only [mVar, q1] at q; exact q.elim
  | some sl =>
    cases sl with
    | no => simp only [mVar, q1] at q; exact q.elim
    | val v =>
      simp only [mVar, q1] at q
      obtain ⟨x, p1, p2, _⟩ := s.val i v q1
      exact ⟨x, p1, PostG.ret (v := v) q s p2⟩
    | obj o =>
      simp only [mVar, q1] at q
      have oi : oc e h (.loc i) = some o := by
        show (match e[i]? with | some (.obj o) => some o | _ => none) = _
        rw [q1]
      obtain ⟨a, p1, _⟩ := s.obj (.loc i) o oi
      have p1' : (match σ[i]? with | some (some (.ref a)) => some a | _ => none) = some a := p1
      have sg : σ[i]? = some (some (.ref a)) := by
        split at p1'
        · cases p1'; assumption
        · cases p1'
      exact ⟨.ref a, sg, PostG.ret (v := DV.ob (.loc i)) q s ⟨a, p1, rfl⟩⟩
theorem d_frz {i : Nat} {x : Str} (hN : X.N[i]? = some x) (hv : Vis X.env.scope x) (hd : (x == ("__debug__" : Str)) = false) (hcd : (x == ("__classdict__" : Str)) = false) : PE X (.Name x pos) (TEd C (mFrz i)) := by
  refine PE.imp (pe_var hN hv hd hcd) fun σ H Q ⟨B, φ, e, h, s, q⟩ => ?_
  cases q1 : e[i]? with
  | none => simp only [mFrz, q1] at q; exact q.elim
  | some sl =>
    cases sl with
    | no => simp only [mFrz, q1] at q; exact q.elim
    | val v => simp only [mFrz, q1] at q; exact q.elim
    | obj o =>
      cases o with
      | lsv ds => simp only [mFrz, q1] at q; exact q.elim
      | dct kvs => simp only [mFrz, q1] at q; exact q.elim
      | lst ds =>
        simp only [mFrz, q1] at q
        obtain ⟨a, xs, p1, p2, p3, p4, _⟩ := s.freeze q1
        exact ⟨_, p1, q φ H (.ref a) p3 p4 p2⟩
theorem d_tup {k : Nat} (h : PA X es (TAd C ms)) : PE X (.Tuple es k pos) (TEd C (mTup ms)) := by
  refine PE.imp (pe_tup h) fun σ H Q ⟨B, φ, e, h, s, q⟩ => ?_
  refine ⟨B, φ, e, h, s, PostG.bind (f := endTup) q fun vs e1 h1 φ1 H1 xs _ s1 st1 r1 p1 => ?_⟩
  unfold endTup at p1
  cases c : pures vs with
  | none => simp only [c] at p1; exact p1.elim
  | some ps =>
    simp only [c] at p1
    split at p1
    · rename_i l
      have rp := pures_rp r1 c
      refine ⟨by rw [line16, ← rp.length]; exact l, fun p n => ?_⟩
      obtain ⟨s2, st2, r2⟩ := new_tup s1 n l rp
      exact p1 φ1 _ _ s2 st2 r2
    · exact p1.elim
theorem d_lst (h : PA X es (TAd C ms)) : PE X (.List es pos) (TEf C (mLst ms)) := by
  refine PE.imp (pe_lst h) fun σ H Q ⟨B, φ, e, h, s, q⟩ => ?_
  refine ⟨B, φ, e, h, s, PostF.bind (f := endLst) q fun vs e1 h1 φ1 H1 xs _ s1 st1 r1 p1 => ?_⟩
  unfold endLst at p1
  cases c : pures vs with
  | none => simp only [c] at p1; exact p1.elim
  | some ps =>
    simp only [c] at p1
    split at p1
    · rename_i l
      have rp := pures_rp r1 c
      refine ⟨by rw [line16, ← rp.length]; exact l, fun p n => ?_⟩
      obtain ⟨s2, st2, r2⟩ := new_list s1 n l rp (st1.back p n)
      exact p1 φ1 _ _ s2 st2 r2
    · exact p1.elim
end

/-! ### tests -/
def truP : P → Option Bool
  | .none => some false
  | .bool b => some b
  | .int i => some (i != 0)
  | .str x => some ((x.length : Int) != 0)
  | .list xs => some (!xs.isEmpty)
  | .tuple xs => some (!xs.isEmpty)
  | .dict kvs => some (!kvs.isEmpty)
/-- a bool as it is -/
def endBl (v : DV) : M Bool := fun e h => match v with
  | .d (.bool b) => .ok b e h
  | _ => .stuck
def mBl (m : M DV) : M Bool := fun e h => (m e h).bind endBl
/-- a value's truth -/
def endTru (v : DV) : M Bool := fun e h => match look v e h with
  | some p => match truP p with
    | some b => .ok b e h
    | none => .stuck
  | none => .stuck
def mTru (m : M DV) : M Bool := fun e h => (m e h).bind endTru
def mAnd (ma mb : M Bool) : M Bool := fun e h => (ma e h).bind fun b e h => if b then mb e h else .ok false e h
def mOr (ma mb : M Bool) : M Bool := fun e h => (ma e h).bind fun b e h => if b then .ok true e h else mb e h
def mNot (ma : M Bool) : M Bool := fun e h => (ma e h).bind fun b e h => .ok (!b) e h
/-- a bool as a value -/
def mVal (ma : M Bool) : M DV := fun e h => (ma e h).bind fun b e h => .ok (.d (.bool b)) e h
def mIte (mc : M Bool) (ma mb : M DV) : M DV := fun e h => (mc e h).bind fun b e h => if b then ma e h else mb e h

/-- the truth of data -/
theorem tru_rl {X : Cx} (hw : X.w = WorldC.w) : TruR X (fun x H Q => ∃ W p b, RL X.K H W p x ∧ truP p = some b ∧ Q b H) := by
  intro pins s σ H x v Q I rx h
  obtain ⟨W, p, b, r, t, q⟩ := h
  have plain : TruV X.K x H b → wpAny (model X.prog X.w) X.A (truthy v) (TP X pins σ Q) X.xe s := fun z => tru_ok pins s σ H x v Q I rx ⟨b, z, q⟩
  cases p with
  | none => cases r; cases t; exact plain rfl
  | bool c => cases r; cases t; exact plain rfl
  | int i => cases r; cases t; exact plain rfl
  | str y =>
    cases r with
    | str k l =>
      cases t
      exact plain ⟨by rw [line16]; exact l, rfl⟩
  | list ds =>
    obtain ⟨a, xs, rfl, q1, _, rs⟩ := r
    cases t
    refine plain (.inl ⟨xs, .of q1, ?_⟩)
    cases rs <;> rfl
  | tuple ds =>
    cases r with
    | tup f _ rs =>
      cases t
      refine plain (.inr (.inl ⟨_, f.sq, ?_⟩))
      cases rs <;> rfl
  | dict kvs =>
    obtain ⟨a, rfl, rd⟩ := r
    cases t
    cases rx
    exact dd_truth hw I rd fun s' I' => ⟨H, I', q⟩

section
variable {X : Cx} {C : Ct} {a b c : Expr} {es rest : List Expr} {m ma mb : M DV} {mc na nb : M Bool} {ms : M (List DV)} {f : List P → Option P} {pos : Pos}
theorem t_tru (hK : C.K = X.K) (hw : X.w = WorldC.w) (ha : PE X a (TEd C m)) (he : ∀ whole, isTrue a X.env whole = (do let v ← whole; standAt a.pos; holding [v] (truthy v))) : PT X a (TTd C (mTru m)) := by
  refine PT.imp (t := fun σ H Q => TEd C m σ H fun x H' => ∃ W p b, RL X.K H' W p x ∧ truP p = some b ∧ Q b H') ⟨fun pins s σ H Q I h => ?_⟩ fun σ H Q ⟨B, φ, e, h, s, q⟩ => ?_
  · exact PyProof.Rows.isTrue_plain (thn (ha.run pins s σ H _ I h) fun v s1 ⟨x, H1, I1, r1, q1⟩ => tru_rl hw pins s1 σ H1 x v Q I1 r1 q1) (he _)
  refine ⟨B, φ, e, h, s, PostG.bind (f := endTru) q fun v e1 h1 φ1 H1 x _ s1 st1 r1 p1 => ?_⟩
  unfold endTru at p1
  cases c : look v e1 h1 with
  | none => simp only [c] at p1; exact p1.elim
  | some p =>
    simp only [c] at p1
    cases c2 : truP p with
    | none => simp only [c2] at p1; exact p1.elim
    | some b =>
      simp only [c2] at p1
      exact ⟨_, p, b, hK ▸ look_rl s1 r1 c, c2, p1.ret s1 rfl⟩
/-- a comparison's reading, as a test -/
theorem t_cmp {op : CmpOp} (ho : OpR X (compareOp op) fun x y => rN C.K resF f [x, y]) (ha : PE X a (TEd C ma)) (hb : PE X b (TEd C mb)) (hm : behindInMarks op b = false) : PT X (.Compare a [op] [b] pos) (TTd C (mBl (mOp f (mCons ma (mCons mb mNil))))) := by
  refine PT.imp (pt_cmpR ho ha hb hm) fun σ H Q ⟨B, φ, e, h, s, p⟩ => ?_
  simp only [mBl, mOp, mCons, mNil, R.bind_assoc, R.bind_ok] at p
  refine ⟨B, φ, e, h, s, p.bind fun v e1 h1 φ1 H1 x _ s1 st1 r1 p1 => ?_⟩
  refine ⟨B, φ1, e1, h1, s1, p1.bind fun w e2 h2 φ2 H2 y _ s2 st2 r2 p2 => ?_⟩
  refine end_F (H0 := H2) s2 (.cons (r1.mono st2.gr st2.phi) (.cons r2 .nil)) ?_ fun _ n => n
  have z : PostG C (RelV1 C.K σ) B φ2 σ H2 e2 h2 (opEnd f [v, w] e2 h2) fun z H' => ∃ k, z = V.bl k ∧ Q k H' := by
    refine PostG.bind (f := endBl) p2 fun v3 e3 h3 φ3 H3 z _ s3 st3 r3 p3 => ?_
    cases v3 with
    | d q =>
      cases q with
      | bool k =>
        cases r3
        exact ⟨k, rfl, p3.ret s3 rfl⟩
      | _ => exact p3.elim
    | ob w => exact p3.elim
    | scr ns => exact p3.elim
  cases q : opEnd f [v, w] e2 h2 with
  | ok v3 e3 h3 =>
    rw [q] at z
    exact fun φ' H' x a b c => z φ' H' x a b (c.rv a)
  | ex c r e' h' => rw [q] at z; exact z
  | stuck => rw [q] at z; exact z
theorem w_one (h : PT X a (TTd C na)) {op : BoolOp} : PW X (.BoolOp op [a] pos) (TTd C na) := by
  cases op
  · exact pw_and1 h
  · exact pw_or1 h
theorem w_and (ha : PT X a (TTd C na)) (hb : PW X (.BoolOp .And (b :: rest) pos) (TTd C nb)) : PW X (.BoolOp .And (a :: b :: rest) pos) (TTd C (mAnd na nb)) := by
  refine PW.imp (pw_and ha hb) fun σ H Q ⟨B, φ, e, h, s, q⟩ => ?_
  refine ⟨B, φ, e, h, s, PostG.bind (f := fun b e h => if b then nb e h else .ok false e h) q fun v e1 h1 φ1 H1 x _ s1 st1 r1 p1 => ?_⟩
  subst r1
  cases v with
  | true => exact ⟨B, φ1, e1, h1, s1, p1⟩
  | false => exact p1.ret (x := false) s1 rfl
theorem w_or (ha : PT X a (TTd C na)) (hb : PW X (.BoolOp .Or (b :: rest) pos) (TTd C nb)) : PW X (.BoolOp .Or (a :: b :: rest) pos) (TTd C (mOr na nb)) := by
  refine PW.imp (pw_or ha hb) fun σ H Q ⟨B, φ, e, h, s, q⟩ => ?_
  refine ⟨B, φ, e, h, s, PostG.bind (f := fun b e h => if b then .ok true e h else nb e h) q fun v e1 h1 φ1 H1 x _ s1 st1 r1 p1 => ?_⟩
  subst r1
  cases v with
  | true => exact p1.ret (x := true) s1 rfl
  | false => exact ⟨B, φ1, e1, h1, s1, p1⟩
theorem t_not (ha : PT X a (TTd C na)) : PT X (.UnaryOp .Not a pos) (TTd C (mNot na)) := by
  refine PT.imp (pt_not ha) fun σ H Q ⟨B, φ, e, h, s, q⟩ => ?_
  refine ⟨B, φ, e, h, s, PostG.bind (f := fun b e h => .ok (!b) e h) q fun v e1 h1 φ1 H1 x _ s1 st1 r1 p1 => ?_⟩
  subst r1
  exact p1.ret (x := !v) s1 rfl

/-! as values -/
theorem v_one (h : PE X a (TEd C m)) {op : BoolOp} : PE X (.BoolOp op [a] pos) (TEd C m) := pe_one h
theorem v_and (ha : PE X a (TEd C ma)) (hb : PE X (.BoolOp .And (b :: rest) pos) (TEd C mb)) : PE X (.BoolOp .And (a :: b :: rest) pos) (TEd C (mVal (mAnd (mBl ma) (mBl mb)))) := by
  refine PE.imp (pe_and ha hb) fun σ H Q ⟨B, φ, e, h, s, q⟩ => ?_
  simp only [mVal, mAnd, mBl, R.bind_assoc] at q
  refine ⟨B, φ, e, h, s, q.bind fun v e1 h1 φ1 H1 x _ s1 st1 r1 p1 => ?_⟩
  cases v with
  | d p =>
    cases p with
    | bool k =>
      cases r1
      refine ⟨k, rfl, ?_⟩
      cases k with
      | true =>
        simp only [endBl, R.bind_ok, if_true, R.bind_assoc] at p1
        refine ⟨B, φ1, e1, h1, s1, p1.bind fun v2 e2 h2 φ2 H2 x2 _ s2 st2 r2 p2 => ?_⟩
        cases v2 with
        | d p' =>
          cases p' with
          | bool k2 => exact p2.ret s2 r2
          | _ => exact p2.elim
        | ob w => exact p2.elim
        | scr ns => exact p2.elim
      | false => exact p1.ret (v := DV.d (.bool false)) s1 (RP.bl false)
    | _ => exact p1.elim
  | ob w => exact p1.elim
  | scr ns => exact p1.elim
theorem v_or (ha : PE X a (TEd C ma)) (hb : PE X (.BoolOp .Or (b :: rest) pos) (TEd C mb)) : PE X (.BoolOp .Or (a :: b :: rest) pos) (TEd C (mVal (mOr (mBl ma) (mBl mb)))) := by
  refine PE.imp (pe_or ha hb) fun σ H Q ⟨B, φ, e, h, s, q⟩ => ?_
  simp only [mVal, mOr, mBl, R.bind_assoc] at q
  refine ⟨B, φ, e, h, s, q.bind fun v e1 h1 φ1 H1 x _ s1 st1 r1 p1 => ?_⟩
  cases v with
  | d p =>
    cases p with
    | bool k =>
      cases r1
      refine ⟨k, rfl, ?_⟩
      cases k with
      | false =>
        simp only [endBl, R.bind_ok, if_false, Bool.false_eq_true, R.bind_assoc] at p1
        refine ⟨B, φ1, e1, h1, s1, p1.bind fun v2 e2 h2 φ2 H2 x2 _ s2 st2 r2 p2 => ?_⟩
        cases v2 with
        | d p' =>
          cases p' with
          | bool k2 => exact p2.ret s2 r2
          | _ => exact p2.elim
        | ob w => exact p2.elim
        | scr ns => exact p2.elim
      | true => exact p1.ret (v := DV.d (.bool true)) s1 (RP.bl true)
    | _ => exact p1.elim
  | ob w => exact p1.elim
  | scr ns => exact p1.elim
theorem v_not (hK : C.K = X.K) (hw : X.w = WorldC.w) (ha : PE X a (TEd C m)) : PE X (.UnaryOp .Not a pos) (TEd C (mVal (mNot (mTru m)))) := by
  refine PE.imp (t := fun σ H Q => TEd C m σ H fun x H' => ∃ W p b, RL X.K H' W p x ∧ truP p = some b ∧ Q (.bl (!b)) H') ⟨fun pins s σ H Q I h => ?_⟩ fun σ H Q ⟨B, φ, e, h, s, q⟩ => ?_
  · refine PyProof.Rows.UnaryOp_ (thn (ha.run pins s σ H _ I h) fun v s1 ⟨x, H1, I1, r1, W, p, b, q1, q2, q3⟩ => ?_)
    exact PyProof.Rows.not_of (thn (tru_rl hw pins s1 σ H1 x v (fun c H2 => Q (.bl (!c)) H2) I1 r1 ⟨W, p, b, q1, q2, q3⟩) fun c s2 ⟨H2, I2, q2⟩ => ⟨.bl (!c), H2, I2, rfl, q2⟩)
  simp only [mVal, mNot, mTru, R.bind_assoc] at q
  refine ⟨B, φ, e, h, s, q.bind fun v e1 h1 φ1 H1 x _ s1 st1 r1 p1 => ?_⟩
  unfold endTru at p1
  cases c : look v e1 h1 with
  | none => simp only [c] at p1; exact p1.elim
  | some p =>
    simp only [c] at p1
    cases c2 : truP p with
    | none => simp only [c2] at p1; exact p1.elim
    | some b =>
      simp only [c2, R.bind_ok] at p1
      exact ⟨_, p, b, hK ▸ look_rl s1 r1 c, c2, p1.ret (v := DV.d (.bool !b)) s1 (RP.bl !b)⟩
theorem v_ite (hc : PT X c (TTd C mc)) (ha : PE X a (TEd C ma)) (hb : PE X b (TEd C mb)) : PE X (.IfExp c a b pos) (TEd C (mIte mc ma mb)) := by
  refine PE.imp (pe_ifExp hc ha hb) fun σ H Q ⟨B, φ, e, h, s, q⟩ => ?_
  refine ⟨B, φ, e, h, s, PostG.bind (f := fun b e h => if b then ma e h else mb e h) q fun v e1 h1 φ1 H1 x _ s1 st1 r1 p1 => ?_⟩
  subst r1
  cases v with
  | true => exact ⟨B, φ1, e1, h1, s1, p1⟩
  | false => exact ⟨B, φ1, e1, h1, s1, p1⟩
end
end DL
/-! D6: methods that write, calls of defs. -/
namespace DL
open PySem PySem.Spec L2
variable [WorldC]

/-! ### a method that writes a list -/
def rM (K : Fg) (f : List P → List P → Option (P × List P)) : V → List V → Hp → VK → Prop := fun x vs H Q => ∃ (W : Addr → Prop) (a : Addr) (xs : List V) (ds ps : List P) (r : P) (ds' : List P), x = .ref a ∧ H a = some (.lst xs) ∧ ds.length ≤ 16777216 ∧
  RPs K H W ds xs ∧ RPs K H W ps vs ∧ f ds ps = some (r, ds') ∧ ds'.length ≤ 16777216 ∧ ∀ z xs', RP K H W r z → RPs K H W ds' xs' → Q z (upd H a (.lst xs'))
def endMut (f : List P → List P → Option (P × List P)) (w : Owner) (vs : List DV) : M DV := fun e h => match oc e h w, pures vs with
  | some (.lst ds), some ps => match f ds ps with
    | some (r, ds') => if ds'.length ≤ 16777216 then .ok (.d r) (setO w (.lst ds') e h).1 (setO w (.lst ds') e h).2 else .stuck
    | none => .stuck
  | _, _ => .stuck
def ownL (v : DV) (e : Env) (h : Hh) : Option Owner := match v with
  | .ob w => match oc e h w with
    | some (.lst _) => some w
    | _ => none
  | _ => none
def mMut (f : List P → List P → Option (P × List P)) (mr : M DV) (ms : M (List DV)) : M DV := fun e h => (mr e h).bind fun v e h => match ownL v e h with
  | some w => (ms e h).bind (endMut f w)
  | none => .stuck

section
variable {K : Fg} {B : Addr → Prop} {φ : List Addr} {σ : St} {H H' : Hp} {e : Env} {h : Hh} {W W' : Addr → Prop}
theorem ownL_some {v : DV} {w : Owner} (q : ownL v e h = some w) : v = .ob w ∧ ∃ ds, oc e h w = some (.lst ds) := by
  cases v with
  | d p => cases q
  | scr ns => cases q
  | ob w' =>
    cases c : oc e h w' with
    | none => simp [ownL, c] at q
    | some o =>
      cases o with
      | lst ds => simp [ownL, c] at q; subst q; exact ⟨rfl, ds, c⟩
      | lsv ds => simp [ownL, c] at q
      | dct kvs => simp [ownL, c] at q
end

section
variable {X : Cx} {C : Ct} {a b c : Expr} {es rest : List Expr} {m ma mb : M DV} {mc na nb : M Bool} {ms : M (List DV)} {f : List P → List P → Option (P × List P)} {pos apos : Pos} {name : Str} {id : String}
  {B : Addr → Prop} {φ : List Addr} {σ : St} {H H1 : Hp} {e : Env} {h : Hh}
theorem mut_end {w : Owner} {vs : List DV} {xs : List V} {Q : VK} {x : V} (s : RS C.K B φ σ H e h) (rw_ : RV C.K H (Wrt B σ φ e h) σ φ (.ob w) x) (r : RVs C.K H (Wrt B σ φ e h) σ φ vs xs) (p : PostG C (RelV1 C.K σ) B φ σ H e h (endMut f w vs e h) Q) :
    rM C.K f x xs H Q := by
  unfold endMut at p
  cases c : oc e h w with
  | none => simp only [c] at p; exact p.elim
  | some o =>
    cases o with
    | lsv ds => simp only [c] at p; exact p.elim
    | dct kvs => simp only [c] at p; exact p.elim
    | lst ds =>
      cases c2 : pures vs with
      | none => simp only [c, c2] at p; exact p.elim
      | some ps =>
        cases c3 : f ds ps with
        | none => simp only [c, c2, c3] at p; exact p.elim
        | some q =>
          obtain ⟨r0, ds'⟩ := q
          simp only [c, c2, c3] at p
          by_cases l' : ds'.length ≤ 16777216
          case neg => rw [if_neg l'] at p; exact p.elim
          rw [if_pos l'] at p
          obtain ⟨a, q1, ⟨ys, q2, l2, q3⟩, _⟩ := s.obj w _ c
          obtain ⟨a', q4, rfl⟩ := rw_
          rw [q1] at q4
          cases q4
          refine ⟨_, a, ys, ds, ps, r0, ds', rfl, q2, l2, q3, pures_rp r c2, c3, l', fun z xs' rz rxs => ?_⟩
          have ne : ∀ b u, H b = some u → ¬ Wrt B σ φ e h b → b ≠ a := fun b u _ k n => k (by rw [n]; exact .inr ⟨w, _, c, q1⟩)
          have g : Gr H (Wrt B σ φ e h) (upd H a (.lst xs')) (Wrt B σ φ e h) := fun b u q k => ⟨by rw [upd_ne (ne b u q k)]; exact q, k⟩
          obtain ⟨s2, st2⟩ := s.put (u := .lst xs') (o := .lst ds') c q1 ⟨xs', upd_same, l', rxs.mono g⟩
          exact p φ _ z s2 st2 (RP.mono st2.gr rz)
theorem d_mut (hK : C.K = X.K) (slot : Slot "list" name id) (pa : PlainAttrs "list") (hty : typeOf (.builtin id) = pure (.type "method_descriptor")) (hm : MtR X id (rM C.K f)) (hr : PE X a (TEd C m)) (ha : PA X (b :: es) (TAd C ms))
    (hbase : attributeBase a name X.env (eval a X.env) = eval a X.env)
    (hfew : ((backTo pos (starEach (b :: es) X.env)).all (fun x => !x.1) && (backToKw pos (keywordEach [] X.env)).all (fun x => x.1.isSome)
      && decide ((b :: es).length + ([] : List Keyword).length + (if ([] : List Keyword).isEmpty then 0 else 1) < 30)) = true)
    (hline : (apos.endLine == pos.line) = true) (hs : starEach (b :: es) X.env = (false, eval b X.env) :: starEach es X.env) (hplain : (backTo pos (starEach es X.env)).any (·.1) = false) :
    PE X (.Call (.Attribute a name apos) (b :: es) [] pos) (TEd C (mMut f m ms)) := by
  refine PE.imp (pe_bm pa slot hty hm hr ha hbase hfew hline hs hplain) fun σ H Q ⟨B, φ, e, h, s, q⟩ => ?_
  refine ⟨B, φ, e, h, s, PostG.bind (f := fun v e h => match ownL v e h with | some w => (ms e h).bind (endMut f w) | none => .stuck) q fun v e1 h1 φ1 H1 x _ s1 st1 r1 p1 => ?_⟩
  cases c : ownL v e1 h1 with
  | none => simp only [c] at p1; exact p1.elim
  | some w =>
    simp only [c] at p1
    obtain ⟨rfl, ds, c2⟩ := ownL_some c
    have r1' := r1
    obtain ⟨l, q1, rfl⟩ := r1'
    obtain ⟨l', q2, ⟨xs, q3, _⟩, _⟩ := s1.obj w _ c2
    rw [q1] at q2
    cases q2
    refine ⟨.inl ⟨rfl, xs, .of q3⟩, B, φ1, e1, h1, s1, p1.bind fun vs e2 h2 φ2 H2 xs2 _ s2 st2 r2 p2 => ?_⟩
    exact mut_end s2 (r1.mono st2.gr st2.phi) r2 p2
theorem d_mut0 (hK : C.K = X.K) (slot : Slot "list" name id) (pa : PlainAttrs "list") (hty : typeOf (.builtin id) = pure (.type "method_descriptor")) (hm : MtR X id (rM C.K f)) (hr : PE X a (TEd C m))
    (hbase : attributeBase a name X.env (eval a X.env) = eval a X.env) (hline : (apos.endLine == pos.line) = true) :
    PE X (.Call (.Attribute a name apos) [] [] pos) (TEd C (mMut f m mNil)) := by
  refine PE.imp (pe_bm0 pa slot hty hm hr hbase hline) fun σ H Q ⟨B, φ, e, h, s, q⟩ => ?_
  refine ⟨B, φ, e, h, s, PostG.bind (f := fun v e h => match ownL v e h with | some w => (mNil e h).bind (endMut f w) | none => .stuck) q fun v e1 h1 φ1 H1 x _ s1 st1 r1 p1 => ?_⟩
  cases c : ownL v e1 h1 with
  | none => simp only [c] at p1; exact p1.elim
  | some w =>
    simp only [c, mNil, R.bind_ok] at p1
    obtain ⟨rfl, ds, c2⟩ := ownL_some c
    have r1' := r1
    obtain ⟨l, q1, rfl⟩ := r1'
    obtain ⟨l', q2, ⟨xs, q3, _⟩, _⟩ := s1.obj w _ c2
    rw [q1] at q2
    cases q2
    exact ⟨.inl ⟨rfl, xs, .of q3⟩, mut_end s1 r1 .nil p1⟩
end

/-! ### calls -/
abbrev Fn := List DV → Hh → R DV
/-- a def's promise, by the plain function -/
def spD (K : Fg) (cls : Nat → Value) (n : Nat) (F : Fn) : Sp := fun xs H Q E => xs.length = n ∧ ∃ (B : Addr → Prop) (φ : List Addr) (vs : List DV) (h : Hh), RS K B φ [] H [] h ∧ RVs K H (Wrt B [] φ [] h) [] φ vs xs ∧ vs.all DV.ok = true ∧
  match F vs h with
  | .ok v _ h' => ∀ φ' H' x, RS K B φ' [] H' [] h' → Step B [] φ H [] h φ' H' [] h' → RV K H' (Wrt B [] φ' [] h') [] φ' v x → v.ok = true → Q x H'
  | .ex c p _ h' => ∀ φ' H' d, RS K B φ' [] H' [] h' → Step B [] φ H [] h φ' H' [] h' → ExD c p d H' → E (cls c) d H'
  | .stuck => False
def endCall (F : Fn) (vs : List DV) : M DV := fun e h => if vs.all DV.ok then match F vs h with
  | .ok v _ h' => if v.ok then .ok v e h' else .stuck
  | .ex c p _ h' => .ex c p e h'
  | .stuck => .stuck
  else .stuck
def mCall (F : Fn) (ms : M (List DV)) : M DV := fun e h => (ms e h).bind (endCall F)

section
variable {K : Fg} {B : Addr → Prop} {φ φ' : List Addr} {σ : St} {H H' : Hp} {e : Env} {h h' : Hh} {W W' : Addr → Prop}
/-- what the callee may not touch -/
def Bc (B : Addr → Prop) (σ : St) (φ : List Addr) (e : Env) (h : Hh) : Addr → Prop := fun a => B a ∨ ∃ i o, oc e h (.loc i) = some o ∧ oa σ φ (.loc i) = some a
theorem oc_nil {i : Nat} : oc [] h (.loc i) = none := by simp [oc]
theorem Wrt.bc (a : Addr) : Wrt (Bc B σ φ e h) [] φ [] h a ↔ Wrt B σ φ e h a := by
  constructor
  · rintro ((z | ⟨i, o, z1, z2⟩) | ⟨w, o, z1, z2⟩)
    · exact .inl z
    · exact .inr ⟨_, o, z1, z2⟩
    · cases w with
      | loc i => rw [oc_nil] at z1; cases z1
      | mem n => exact .inr ⟨.mem n, o, z1, z2⟩
  · rintro (z | ⟨w, o, z1, z2⟩)
    · exact .inl (.inl z)
    · cases w with
      | loc i => exact .inl (.inr ⟨i, o, z1, z2⟩)
      | mem n => exact .inr ⟨.mem n, o, z1, z2⟩
theorem RS.callee (s : RS K B φ σ H e h) : RS K (Bc B σ φ e h) φ [] H [] h := by
  have g : Gr H (Wrt B σ φ e h) H (Wrt (Bc B σ φ e h) [] φ [] h) := Gr.weak fun a => (Wrt.bc a).mp
  refine ⟨rfl, s.hlen, fun a z => ?_, fun i v q => by simp at q, fun w o q => ?_, fun w w' a q1 q2 q3 q4 => ?_⟩
  · exact s.wN a ((Wrt.bc a).mp (.inl z))
  · cases w with
    | loc i => rw [oc_nil] at q; cases q
    | mem n =>
      obtain ⟨a, q1, q2, q3⟩ := s.obj (.mem n) o q
      refine ⟨a, q1, q2.sig.mono g List.prefix_rfl rfl, fun z => ?_⟩
      rcases z with z | ⟨i, o', z1, z2⟩
      · exact q3 z
      · have := s.inj (.mem n) (.loc i) a ⟨o, q⟩ ⟨o', z1⟩ q1 z2
        cases this
  · cases w with
    | loc i => obtain ⟨o, q⟩ := q1; rw [oc_nil] at q; cases q
    | mem n =>
      cases w' with
      | loc i => obtain ⟨o, q⟩ := q2; rw [oc_nil] at q; cases q
      | mem m => exact s.inj (.mem n) (.mem m) a q1 q2 q3 q4
theorem RVs.sig {vs : List DV} : ∀ {xs : List V} {σ' : St}, vs.all DV.ok = true → RVs K H W σ φ vs xs → RVs K H W σ' φ vs xs := by
  induction vs with
  | nil => intro xs σ' _ r; cases r; exact .nil
  | cons v vs ih =>
    intro xs σ' k r
    cases r with
    | cons a b =>
      simp only [List.all_cons, Bool.and_eq_true] at k
      exact .cons (a.sig k.1) (ih k.2 b)
theorem RS.returned (s : RS K B φ σ H e h) (s' : RS K (Bc B σ φ e h) φ' [] H' [] h') (st : Step (Bc B σ φ e h) [] φ H [] h φ' H' [] h') : RS K B φ' σ H' e h' ∧ Step B σ φ H e h φ' H' e h' ∧ (∀ a, Wrt B σ φ' e h' a ↔ Wrt (Bc B σ φ e h) [] φ' [] h' a) := by
  have wi : ∀ a, Wrt B σ φ' e h' a ↔ Wrt (Bc B σ φ e h) [] φ' [] h' a := fun a => by
    constructor
    · rintro (z | ⟨w, o, z1, z2⟩)
      · exact .inl (.inl z)
      · cases w with
        | loc i => exact .inl (.inr ⟨i, o, z1, z2⟩)
        | mem n => exact .inr ⟨.mem n, o, z1, z2⟩
    · rintro ((z | ⟨i, o, z1, z2⟩) | ⟨w, o, z1, z2⟩)
      · exact .inl z
      · exact .inr ⟨.loc i, o, z1, z2⟩
      · cases w with
        | loc i => rw [oc_nil] at z1; cases z1
        | mem n => exact .inr ⟨.mem n, o, z1, z2⟩
  have g : Gr H (Wrt B σ φ e h) H' (Wrt B σ φ' e h') := fun a u q k => by
    obtain ⟨q1, k1⟩ := st.gr a u q fun z => k ((Wrt.bc a).mp z)
    exact ⟨q1, fun z => k1 ((wi a).mp z)⟩
  have g2 : Gr H' (Wrt (Bc B σ φ e h) [] φ' [] h') H' (Wrt B σ φ' e h') := Gr.weak fun a => (wi a).mp
  refine ⟨⟨s.len, s'.hlen, fun a z => s'.bN a (.inl z), fun i v q => ?_, fun w o q => ?_, fun w w' a q1 q2 q3 q4 => ?_⟩, ⟨st.phi, g, st.tr, fun a z => st.bk a (.inl z)⟩, wi⟩
  · obtain ⟨x, q1, q2, q3⟩ := s.val i v q
    exact ⟨x, q1, q2.mono g st.phi, q3⟩
  · cases w with
    | loc i =>
      obtain ⟨a, q1, q2, q3⟩ := s.obj (.loc i) o q
      exact ⟨a, q1, q2.mono g st.phi (st.bk a (.inr ⟨i, o, q, q1⟩)), q3⟩
    | mem n =>
      obtain ⟨a, q1, q2, q3⟩ := s'.obj (.mem n) o q
      exact ⟨a, q1, q2.sig.mono g2 List.prefix_rfl rfl, fun z => q3 (.inl z)⟩
  · cases w with
    | loc i =>
      cases w' with
      | loc j => exact s.inj (.loc i) (.loc j) a q1 q2 q3 q4
      | mem m =>
        obtain ⟨o, q1⟩ := q1
        obtain ⟨o', q2⟩ := q2
        obtain ⟨b, p1, _, p3⟩ := s'.obj (.mem m) o' q2
        have p1' : oa σ φ' (.mem m) = some b := p1
        rw [q4] at p1'
        cases p1'
        exact absurd (.inr ⟨i, o, q1, q3⟩) p3
    | mem n =>
      cases w' with
      | loc j =>
        obtain ⟨o, q1⟩ := q1
        obtain ⟨o', q2⟩ := q2
        obtain ⟨b, p1, _, p3⟩ := s'.obj (.mem n) o q1
        have p1' : oa σ φ' (.mem n) = some b := p1
        rw [q3] at p1'
        cases p1'
        exact absurd (.inr ⟨j, o', q2, q4⟩) p3
      | mem m => exact s'.inj (.mem n) (.mem m) a q1 q2 q3 q4
end

section
variable {X : Cx} {C : Ct} {a : Expr} {es : List Expr} {ms : M (List DV)} {pos p : Pos} {F : Fn} {k : Nat} {f : Addr} {fd : FuncData} {ps : List Str} {sp : Sp} {W : WX} {x : Str} {t : TA}
/-- a call whose exceptions are wished for by the state at the call -/
theorem run_fnW {pins : List (Addr × Obj)} {σ : St} {H : Hp} {s : Shared} {Q : VK} {us : List Value} {vs : List V} (O : FnOk X.prog X.w X.K X.mg X.base (L2.CX X.prog X.w) k f fd ps sp) (hr : Room k X.A) (hb : Binds X.K fd ps [])
    (tk : Takes X W) (I : Inv X pins σ H s) (r : Vals vs us) (h : sp vs H Q fun c d H' => W c d σ H') : wpAny (model X.prog X.w) X.A (call (.ref f) us) (EP X pins σ Q) X.xe s := by
  have hl : (us ++ []).length = ps.length := by
    rw [List.append_nil, ← r.length]
    exact O.len _ _ _ _ h
  have hb' := hb s us I.kIn hl
  rw [List.append_nil] at hb'
  refine wpAny_call (codeAny_mono (O.run X.A X.stack s H ⟨us, []⟩ us vs Q _ hr I.env0 hb' r h) fun rs s' hq => ?_)
  cases rs with
  | error e => exact tk e s' (XE.of_call I (fun _ _ _ w => w) hq)
  | ok fl => cases fl with
    | ret u => exact I.after hq
    | _ => exact False.elim hq
theorem pe_callW (O : FnOk X.prog X.w X.K X.mg X.base (L2.CX X.prog X.w) k f fd ps sp) (hr : Room k X.A) (hg : Gl X x) (hm : X.mg x = some (.ref f)) (hk : PySem.W.keepIn X.K (.ref f) = true) (hb : Binds X.K fd ps [])
    (tk : Takes X W) (ha : PA X (a :: es) t) (hdb : (x == ("__debug__" : Str)) = false) (he : starEach (a :: es) X.env = (false, eval a X.env) :: starEach es X.env) (hpl : (backTo pos (starEach es X.env)).any (·.1) = false) :
    PE X (.Call (.Name x p) (a :: es) [] pos) (fun σ H Q => t σ H fun vs H1 => sp vs H1 Q fun c d H' => W c d σ H') :=
  ⟨fun pins s σ H Q I h => wpAny_Call_Name_kw (ld_glob I hg hm (PySem.W.callWith_K (h₀ := X.base) I.ok.mod.kin hk
    (thn (ha.run pos pins s σ H _ I h) fun us s1 ⟨vs, H1, I1, r, q⟩ => ⟨I1.kIn, run_fnW O hr hb tk I1 r q⟩) he hpl) hdb)⟩
theorem pe_callW0 (O : FnOk X.prog X.w X.K X.mg X.base (L2.CX X.prog X.w) k f fd ps sp) (hr : Room k X.A) (hg : Gl X x) (hm : X.mg x = some (.ref f)) (hk : PySem.W.keepIn X.K (.ref f) = true) (hb : Binds X.K fd ps [])
    (tk : Takes X W) (hdb : (x == ("__debug__" : Str)) = false) : PE X (.Call (.Name x p) [] [] pos) (fun σ H Q => sp [] H Q fun c d H' => W c d σ H') :=
  ⟨fun pins s σ H Q I h => wpAny_Call_Name_kw (ld_glob I hg hm (PySem.W.callWith_K0 I.kIn hk (run_fnW (us := []) O hr hb tk I .nil h)) hdb)⟩
theorem call_end {n : Nat} {B : Addr → Prop} {φ : List Addr} {σ : St} {H : Hp} {e : Env} {h : Hh} {vs : List DV} {xs : List V} {Q : VK} (s : RS C.K B φ σ H e h) (r : RVs C.K H (Wrt B σ φ e h) σ φ vs xs) (hn : xs.length = n)
    (q : PostG C (RelV1 C.K σ) B φ σ H e h (endCall F vs e h) Q) : spD C.K C.cls n F xs H Q fun c d H' => C.W c d σ H' := by
  unfold endCall at q
  by_cases k : vs.all DV.ok = true
  · rw [if_pos k] at q
    have g : Gr H (Wrt B σ φ e h) H (Wrt (Bc B σ φ e h) [] φ [] h) := Gr.weak fun a => (Wrt.bc a).mp
    refine ⟨hn, Bc B σ φ e h, φ, vs, h, s.callee, (r.sig k).mono g List.prefix_rfl, k, ?_⟩
    cases c : F vs h with
    | ok v e' h' =>
      simp only [c] at q
      intro φ' H' x s' st rv kv
      rw [if_pos kv] at q
      obtain ⟨s2, st2, wi⟩ := s.returned s' st
      exact q φ' H' x s2 st2 ((rv.sig kv).mono (Gr.weak fun a => (wi a).mp) List.prefix_rfl)
    | ex c2 p e' h' =>
      simp only [c] at q
      intro φ' H' d s' st ed
      obtain ⟨s2, st2, wi⟩ := s.returned s' st
      exact q φ' H' d s2 st2 ed
    | stuck => simp only [c] at q; exact q.elim
  · rw [if_neg k] at q
    exact q.elim
theorem d_call {n : Nat} (O : FnOk X.prog X.w X.K X.mg X.base (L2.CX X.prog X.w) k f fd ps (spD C.K C.cls n F)) (hr : Room k X.A) (hg : Gl X x) (hm : X.mg x = some (.ref f)) (hk : PySem.W.keepIn X.K (.ref f) = true)
    (hb : Binds X.K fd ps []) (tk : Takes X C.W) (ha : PA X (a :: es) (fun σ H Q => TAd C ms σ H fun xs H' => xs.length = n → Q xs H')) (hdb : (x == ("__debug__" : Str)) = false)
    (he : starEach (a :: es) X.env = (false, eval a X.env) :: starEach es X.env) (hpl : (backTo pos (starEach es X.env)).any (·.1) = false) :
    PE X (.Call (.Name x p) (a :: es) [] pos) (TEd C (mCall F ms)) := by
  refine PE.imp (pe_callW O hr hg hm hk hb tk ha hdb he hpl) fun σ H Q ⟨B, φ, e, h, s, q⟩ => ?_
  exact ⟨B, φ, e, h, s, PostG.bind (f := endCall F) q fun vs e1 h1 φ1 H1 xs _ s1 st1 r1 p1 hn => call_end s1 r1 hn p1⟩
theorem d_call0 (O : FnOk X.prog X.w X.K X.mg X.base (L2.CX X.prog X.w) k f fd ps (spD C.K C.cls 0 F)) (hr : Room k X.A) (hg : Gl X x) (hm : X.mg x = some (.ref f)) (hk : PySem.W.keepIn X.K (.ref f) = true)
    (hb : Binds X.K fd ps []) (tk : Takes X C.W) (hdb : (x == ("__debug__" : Str)) = false) : PE X (.Call (.Name x p) [] [] pos) (TEd C (mCall F mNil)) := by
  refine PE.imp (pe_callW0 O hr hg hm hk hb tk hdb) fun σ H Q ⟨B, φ, e, h, s, q⟩ => ?_
  exact call_end (vs := []) (xs := []) s .nil rfl q
end
end DL
/-! D7: targets, and what a loop walks. -/
namespace DL
open PySem PySem.Spec L2
variable [WorldC]

/-! ### targets -/
mutual
inductive Tg where
  | nm (i : Nat)
  | tp (ts : Tgs)
inductive Tgs where
  | nil
  | cons (t : Tg) (ts : Tgs)
end
mutual
def Tg.slots : Tg → List Nat
  | .nm i => [i]
  | .tp ts => ts.slots
def Tgs.slots : Tgs → List Nat
  | .nil => []
  | .cons t ts => t.slots ++ ts.slots
end
def Tgs.len : Tgs → Nat
  | .nil => 0
  | .cons _ ts => ts.len + 1
mutual
def asgT : Tg → P → Env → Option Env
  | .nm i, p, e => some (e.set i (.val (.d p)))
  | .tp ts, .tuple ds, e => asgTs ts ds e
  | .tp _, _, _ => none
def asgTs : Tgs → List P → Env → Option Env
  | .nil, [], e => some e
  | .cons t ts, d :: ds, e => match asgT t d e with
    | some e' => asgTs ts ds e'
    | none => none
  | _, _, _ => none
end

/-- σ' differs from σ at these slots alone -/
def Only (vs : List Nat) (σ σ' : St) : Prop := σ'.length = σ.length ∧ ∀ j, j ∉ vs → σ'[j]? = σ[j]?
theorem Only.refl {vs : List Nat} {σ : St} : Only vs σ σ := ⟨rfl, fun _ _ => rfl⟩
theorem Only.trans {vs : List Nat} {σ σ1 σ2 : St} (a : Only vs σ σ1) (b : Only vs σ1 σ2) : Only vs σ σ2 := ⟨b.1.trans a.1, fun j n => (b.2 j n).trans (a.2 j n)⟩
theorem Only.mono {vs vs' : List Nat} {σ σ' : St} (a : Only vs σ σ') (s : ∀ j ∈ vs, j ∈ vs') : Only vs' σ σ' := ⟨a.1, fun j n => a.2 j fun z => n (s j z)⟩
theorem Only.set {i : Nat} {σ : St} {y : Option V} : Only [i] σ (σ.set i y) := ⟨by simp, fun j n => List.getElem?_set_ne fun z => n (by simp [z])⟩

/-- what a target's store asks -/
def TGq (C : Ct) (vs : List Nat) (B : Addr → Prop) (φ : List Addr) (σ : St) (H : Hp) (e : Env) (h : Hh) (r : Option Env) (Q : St → Hp → Prop) : Prop := match r with
  | some e' => ∀ σ', RS C.K B φ σ' H e' h → (∀ a, Wrt B σ' φ e' h a → Wrt B σ φ e h a) → Only vs σ σ' → Q σ' H
  | none => False
def TGd (C : Ct) (t : Tg) : TG := fun x σ H Q => ∃ B φ e h p, RS C.K B φ σ H e h ∧ RP C.K H (Wrt B σ φ e h) p x ∧ TGq C t.slots B φ σ H e h (asgT t p e) Q
def TGsd (C : Ct) (ts : Tgs) : TGs := fun xs σ H Q => ∃ B φ e h ps, RS C.K B φ σ H e h ∧ RPs C.K H (Wrt B σ φ e h) ps xs ∧ TGq C ts.slots B φ σ H e h (asgTs ts ps e) Q
theorem PG.imp {X : Cx} {e : Expr} {t t' : TG} (p : PG X e t) (i : ∀ v σ H Q, t' v σ H Q → t v σ H Q) : PG X e t' := ⟨fun pins s σ H v u Q I r h => p.run pins s σ H v u Q I r (i v σ H Q h)⟩
theorem PGs.imp {X : Cx} {e : List Expr} {t t' : TGs} (p : PGs X e t) (i : ∀ v σ H Q, t' v σ H Q → t v σ H Q) : PGs X e t' := ⟨fun pins s σ H v u Q I r h => p.run pins s σ H v u Q I r (i v σ H Q h)⟩

section
variable {X : Cx} {C : Ct} {pos : Pos} {e : Expr} {es : List Expr} {t : Tg} {ts : Tgs}
theorem g_nm {i : Nat} {x : Str} (hN : X.N.Nodup) (hi : X.N[i]? = some x) (hx : Loc X.env.scope x) (hf : X.fn x = true ∨ X.env.scope.names.lookup x = some .local) : PG X (.Name x pos) (TGd C (.nm i)) := by
  refine PG.imp (pg_name hN hi hx hf) fun v σ H Q ⟨B, φ, e, h, p, s, r, q⟩ => ?_
  exact q _ (s.setVal (v := .d p) r rfl) (Wrt.drop oc_set_val) Only.set
theorem gs_nil : PGs X [] (TGsd C .nil) := by
  refine PGs.imp pgs_nil fun v σ H Q ⟨B, φ, e, h, ps, s, r, q⟩ => ?_
  cases ps with
  | nil => cases r; exact ⟨rfl, q σ s (fun _ z => z) Only.refl⟩
  | cons p ps => exact q.elim
theorem gs_cons (h1 : PG X e (TGd C t)) (h2 : PGs X es (TGsd C ts)) (hs : (assignEach (e :: es) X.env).map (·.2) = assign e X.env :: (assignEach es X.env).map (·.2)) : PGs X (e :: es) (TGsd C (.cons t ts)) := by
  refine PGs.imp (pgs_cons h1 h2 hs) fun v σ H Q ⟨B, φ, en, h, ps, s, r, q⟩ => ?_
  cases ps with
  | nil => exact q.elim
  | cons p ps =>
    cases r with
    | cons a b =>
      refine ⟨_, _, rfl, B, φ, en, h, p, s, a, ?_⟩
      cases c : asgT t p en with
      | none => simp only [asgTs, c] at q; exact q.elim
      | some e1 =>
        simp only [asgTs, c] at q
        intro σ1 s1 w1 o1
        refine ⟨B, φ, e1, h, ps, s1, b.mono (Gr.weak w1), ?_⟩
        cases c2 : asgTs ts ps e1 with
        | none => rw [c2] at q; exact q.elim
        | some e2 =>
          rw [c2] at q
          intro σ2 s2 w2 o2
          exact q σ2 s2 (fun a z => w1 a (w2 a z)) ((o1.mono fun j z => List.mem_append_left _ z).trans (o2.mono fun j z => List.mem_append_right _ z))
theorem g_tp {k n : Nat} (hK : C.K = X.K) (hc : X.calm = true) (h : PGs X es (TGsd C ts)) (hn : (assignEach es X.env).length = n) (hl : ts.len = n) (hst : (assignEach es X.env).findIdx? (·.1) = none) : PG X (.Tuple es k pos) (TGd C (.tp ts)) := by
  have len : ∀ (ts : Tgs) (ds : List P) (e e' : Env), asgTs ts ds e = some e' → ds.length = ts.len := by
    intro ts
    induction ts using Tgs.rec (motive_1 := fun _ => True) with
    | nm i => trivial
    | tp ts _ => trivial
    | nil => intro ds e e' q; cases ds with | nil => rfl | cons d ds => cases q
    | cons t ts _ ih =>
      intro ds e e' q
      cases ds with
      | nil => cases q
      | cons d ds =>
        cases c : asgT t d e with
        | none => simp only [asgTs, c] at q; cases q
        | some e1 => simp only [asgTs, c] at q; simp [Tgs.len, ih ds e1 e' q]
  refine PG.imp (pg_tup hc h hn hst) fun v σ H Q ⟨B, φ, en, h, p, s, r, q⟩ => ?_
  cases p with
  | tuple ds =>
    cases r with
    | @tup a xs _ f _ rs =>
      refine ⟨a, xs, rfl, hK ▸ f.sq, ?_, B, φ, en, h, ds, s, rs, q⟩
      cases c : asgTs ts ds en with
      | none => simp only [asgT, c] at q; exact q.elim
      | some e' => rw [← rs.length, len ts ds en e' c, hl]
  | _ => exact q.elim
end

/-! ### what is walked -/
def ItOk (K : Fg) (H0 : Hp) (W0 : Addr → Prop) (J : It) (ds : List P) : Prop := ∀ (H : Hp) (W : Addr → Prop), Gr H0 W0 H W → (∀ a, W a → H a ≠ none) → ds.length ≤ 16777216 ∧
  (∀ (i : Nat) (d : P), ds[i]? = some d → J.go i H ∧ ∀ x H3, J.yld i H x H3 → (∀ a u, H a = some u → H3 a = some u) ∧ RP K H3 W d x) ∧ ∀ i, ds.length ≤ i → J.stop i H
def TId (C : Ct) (m : M (List P)) : TI := fun σ H R => ∃ B φ e h, RS C.K B φ σ H e h ∧ PostG C (fun H W _ ds J => ItOk C.K H W J ds) B φ σ H e h (m e h) R
theorem PI.imp {X : Cx} {tg e : Expr} {t t' : TI} (p : PI X tg e t) (i : ∀ σ H Q, t' σ H Q → t σ H Q) : PI X tg e t' := ⟨fun pins s σ H R I h => p.run pins s σ H R I (i σ H R h)⟩

def chars (x : Str) : List P := x.cps.toList.map fun c => .str ⟨#[c]⟩
def seqP : P → Option (List P)
  | .list ds => some ds
  | .tuple ds => some ds
  | .str x => some (chars x)
  | .dict kvs => some (kvs.map (·.1))
  | _ => none
def endSeq (v : DV) : M (List P) := fun e h => match v with
  | .d p => match seqP p with
    | some ds => .ok ds e h
    | none => .stuck
  | _ => .stuck
def mSeq (m : M DV) : M (List P) := fun e h => (m e h).bind endSeq
def endRng1 (vs : List DV) : M (List P) := fun e h => match vs with
  | [.d (.int j)] => if -4611686018427387904 ≤ j ∧ j ≤ 16777216 then .ok ((List.range j.toNat).map fun k : Nat => .int k) e h else .stuck
  | _ => .stuck
def endRng2 (vs : List DV) : M (List P) := fun e h => match vs with
  | [.d (.int i), .d (.int j)] => if (-4611686018427387904 ≤ i ∧ i < 4611686018427387904) ∧ (-4611686018427387904 ≤ j ∧ j < 4611686018427387904) ∧ j - i ≤ 16777216 then .ok ((List.range (j - i).toNat).map fun k : Nat => .int (i + k)) e h else .stuck
  | _ => .stuck
def mRng1 (ms : M (List DV)) : M (List P) := fun e h => (ms e h).bind endRng1
def mRng2 (ms : M (List DV)) : M (List P) := fun e h => (ms e h).bind endRng2
def endZip (vs : List DV) : M (List P) := fun e h => match vs with
  | [.d (.list xs), .d (.list ys)] => .ok ((xs.zip ys).map fun z => .tuple [z.1, z.2]) e h
  | [.d (.tuple xs), .d (.tuple ys)] => .ok ((xs.zip ys).map fun z => .tuple [z.1, z.2]) e h
  | _ => .stuck
def mZip (ms : M (List DV)) : M (List P) := fun e h => (ms e h).bind endZip

section
variable {K : Fg} {H0 : Hp} {W0 : Addr → Prop}
theorem ok_list {a : Addr} {xs : List V} {ds : List P} (l0 : ds.length ≤ 16777216) (f : FL H0 W0 a xs) (r : RPs K H0 W0 ds xs) : ItOk K H0 W0 (Itl K a) ds := fun H W g nw => by
  have f1 := f.mono g
  have r1 := r.mono g
  refine ⟨l0, fun i d q => ?_, fun i l => ⟨xs, f1.sq, by rw [← r.length]; exact l⟩⟩
  obtain ⟨x, q1, q2⟩ := r1.get q
  refine ⟨⟨xs, x, f1.sq, q1⟩, fun y H3 z => ?_⟩
  obtain ⟨rfl, z⟩ := z
  have e := z xs f1.sq
  rw [q1] at e
  cases e
  exact ⟨fun _ _ z => z, q2⟩
theorem ok_tup {a : Addr} {xs : List V} {ds : List P} (l0 : ds.length ≤ 16777216) (f : FT K H0 W0 a xs) (r : RPs K H0 W0 ds xs) : ItOk K H0 W0 (Itt K a) ds := fun H W g nw => by
  have f1 := f.mono g
  have r1 := r.mono g
  refine ⟨l0, fun i d q => ?_, fun i l => ⟨xs, f1.sq, by rw [← r.length]; exact l⟩⟩
  obtain ⟨x, q1, q2⟩ := r1.get q
  refine ⟨⟨xs, x, f1.sq, q1⟩, fun y H3 z => ?_⟩
  obtain ⟨rfl, z⟩ := z
  have e := z xs f1.sq
  rw [q1] at e
  cases e
  exact ⟨fun _ _ z => z, q2⟩
theorem strOk_one {x : Str} (h : PyData.strOk x = true) {i c : Nat} (q : x.cps[i]? = some c) : PyData.strOk ⟨#[c]⟩ = true := by
  have h' : x.cps.all (· < 0x110000) = true := h
  rw [Array.all_eq_true'] at h'
  have := h' c (Array.mem_of_getElem? q)
  simpa [PyData.strOk] using this
theorem ok_str {x : Str} (h : PyData.strOk x = true) (l0 : x.length ≤ 16777216) : ItOk K H0 W0 (Its x) (chars x) := fun H W g nw => by
  refine ⟨by simpa [chars, Str.length] using l0, fun i d q => ?_, fun i l => by simpa [chars, Its] using l⟩
  simp only [chars, List.getElem?_map] at q
  cases c : x.cps.toList[i]? with
  | none => rw [c] at q; cases q
  | some k =>
    rw [c] at q
    cases q
    have c' : x.cps[i]? = some k := by simpa using c
    refine ⟨(Array.getElem?_eq_some_iff.mp c').1, fun y H3 z => ?_⟩
    obtain ⟨rfl, k', z1, rfl⟩ := z
    rw [c'] at z1
    cases z1
    exact ⟨fun _ _ z => z, .str (strOk_one h c') (by simp [Str.length])⟩
theorem ok_rng {lo : Int} {n : Nat} (l0 : n ≤ 16777216) : ItOk K H0 W0 (Itr lo n) ((List.range n).map fun k : Nat => .int (lo + k)) := fun H W g nw => by
  refine ⟨by simpa using l0, fun i d q => ?_, fun i l => by simpa [Itr] using l⟩
  simp only [List.getElem?_map] at q
  cases c : (List.range n)[i]? with
  | none => rw [c] at q; cases q
  | some k =>
    rw [c] at q
    cases q
    obtain ⟨l, e⟩ := List.getElem?_eq_some_iff.mp c
    simp at l e
    subst e
    refine ⟨l, fun y H3 z => ?_⟩
    obtain ⟨rfl, rfl⟩ := z
    exact ⟨fun _ _ z => z, .int _⟩
theorem zip_get {α β : Type} {xs : List α} {ys : List β} {i : Nat} {z : α × β} (q : (xs.zip ys)[i]? = some z) : xs[i]? = some z.1 ∧ ys[i]? = some z.2 := by
  rw [List.getElem?_zip_eq_some] at q
  exact q
theorem ok_zip {a b : Addr} {xs ys : List V} {ds es : List P} (l0 : ds.length ≤ 16777216) (f : FL H0 W0 a xs) (r : RPs K H0 W0 ds xs) (f' : FL H0 W0 b ys) (r' : RPs K H0 W0 es ys) : ItOk K H0 W0 (Itz K a b) ((ds.zip es).map fun z => .tuple [z.1, z.2]) := fun H W g nw => by
  have f1 := f.mono g
  have r1 := r.mono g
  have f2 := f'.mono g
  have r2 := r'.mono g
  refine ⟨by simp only [List.length_map, List.length_zip]; omega, fun i d q => ?_, fun i l => ⟨xs, ys, f1.sq, f2.sq, ?_⟩⟩
  · simp only [List.getElem?_map] at q
    cases c : (ds.zip es)[i]? with
    | none => rw [c] at q; cases q
    | some z =>
      rw [c] at q
      cases q
      obtain ⟨c1, c2⟩ := zip_get c
      obtain ⟨x, q1, q2⟩ := r1.get c1
      obtain ⟨y, q3, q4⟩ := r2.get c2
      refine ⟨⟨xs, ys, x, y, f1.sq, f2.sq, q1, q3⟩, fun v H3 z => ?_⟩
      obtain ⟨T, x', y', rfl, n, rfl, z1, z2⟩ := z
      have e1 := z1 xs f1.sq
      have e2 := z2 ys f2.sq
      rw [q1] at e1
      rw [q3] at e2
      cases e1
      cases e2
      have ex := upd_ext (o := .tup [x, y]) n
      have gg : Gr H W (upd H T (.tup [x, y])) W := fun b u q k => ⟨ex b u q, k⟩
      exact ⟨ex, .tup (.inl ⟨upd_same, fun z => nw T z n⟩) (by simp) (.cons (q2.mono gg) (.cons (q4.mono gg) .nil))⟩
  · simp only [List.length_map, List.length_zip] at l
    rw [← r.length, ← r'.length]
    omega
theorem ok_zipT {a b : Addr} {xs ys : List V} {ds es : List P} (l0 : ds.length ≤ 16777216) (f : FT K H0 W0 a xs) (r : RPs K H0 W0 ds xs) (f' : FT K H0 W0 b ys) (r' : RPs K H0 W0 es ys) : ItOk K H0 W0 (RZ.ItzT K a b) ((ds.zip es).map fun z => .tuple [z.1, z.2]) := fun H W g nw => by
  have f1 := f.mono g
  have r1 := r.mono g
  have f2 := f'.mono g
  have r2 := r'.mono g
  refine ⟨by simp only [List.length_map, List.length_zip]; omega, fun i d q => ?_, fun i l => ⟨xs, ys, f1.sq, f2.sq, ?_⟩⟩
  · simp only [List.getElem?_map] at q
    cases c : (ds.zip es)[i]? with
    | none => rw [c] at q; cases q
    | some z =>
      rw [c] at q
      cases q
      obtain ⟨c1, c2⟩ := zip_get c
      obtain ⟨x, q1, q2⟩ := r1.get c1
      obtain ⟨y, q3, q4⟩ := r2.get c2
      refine ⟨⟨xs, ys, x, y, f1.sq, f2.sq, q1, q3⟩, fun v H3 z => ?_⟩
      obtain ⟨T, x', y', rfl, n, rfl, z1, z2⟩ := z
      have e1 := z1 xs f1.sq
      have e2 := z2 ys f2.sq
      rw [q1] at e1
      rw [q3] at e2
      cases e1
      cases e2
      have ex := upd_ext (o := .tup [x, y]) n
      have gg : Gr H W (upd H T (.tup [x, y])) W := fun b u q k => ⟨ex b u q, k⟩
      exact ⟨ex, .tup (.inl ⟨upd_same, fun z => nw T z n⟩) (by simp) (.cons (q2.mono gg) (.cons (q4.mono gg) .nil))⟩
  · simp only [List.length_map, List.length_zip] at l
    rw [← r.length, ← r'.length]
    omega
end

/-! ### a dict's keys -/
/-- the keys of the dict at a, the object o -/
def Itkx (a : Addr) (o : Obj) (xs : List V) : It := ⟨fun i H => H a = some (DcO a o) ∧ i < xs.length, fun i H x H' => H' = H ∧ xs[i]? = some x, fun i H => H a = some (DcO a o) ∧ xs.length ≤ i⟩
theorem vals_at : ∀ {xs : List V} {us : List Value} {i : Nat} {x : V}, Vals xs us → xs[i]? = some x → ∃ u, us[i]? = some u ∧ RelV x u
  | _, _, _, _, .nil, h => by simp at h
  | _, _, 0, _, .cons r _, h => by simp at h; subst h; exact ⟨_, rfl, r⟩
  | _, _, i + 1, _, .cons _ t, h => by
    obtain ⟨u, q, r⟩ := vals_at (i := i) t (by simpa using h)
    exact ⟨u, by simpa using q, r⟩
theorem turn_kx {Pg : Program} {w : World} {K : Fg} {tg : Expr} {a it : Addr} {o : Obj} {es : Array DictEntry} {ep : Nat} {xs : List V} (hod : o.data = .dict es ep) (hex : o.ExactDict) (hv : Vals xs (es.toList.map (·.key))) :
    Turn Pg w K tg (Itkx a o xs) [it] it (fun i h => h.IsKeyIter it a i es.size ep) where
  mem := List.mem_singleton.mpr rfl
  obj := fun i h z b hb => by
    rw [List.mem_singleton.mp hb]
    obtain ⟨oi, q1, _, q3⟩ := z
    exact ⟨oi, q1, fun v y => by rw [q3] at y; cases y⟩
  keep := fun i h h' z k => let ⟨oi, q1, q2⟩ := z; ⟨oi, k it (List.mem_singleton.mpr rfl) oi q1, q2⟩
  item := by
    intro Y e1 e2 e3 calm i pins s σ H E J free st ⟨hd, hi⟩
    subst e1 e2 e3
    have ho := obj_of J hd
    have ln : xs.length = es.size := by rw [hv.length, List.length_map, Array.length_toList]
    have le : i < es.size := by rw [← ln]; exact hi
    obtain ⟨u, hu, ru⟩ := vals_at hv (List.getElem?_eq_getElem hi)
    have hk : es[i].key = u := by
      rw [List.getElem?_map, Array.getElem?_toList, Array.getElem?_eq_getElem le] at hu
      exact Option.some.inj hu
    obtain ⟨f0, f1, f2, f3, f4, f5⟩ := free it (List.mem_singleton.mpr rfl)
    refine wpAny_pyNext_keys_item_raw st ⟨o, ho, hex, hod⟩ le fun h' st' sb => ?_
    have J2 : Inv Y pins σ H { s with heap := h' } := J.turned (t' := s.toks) (fun b ob hb q => (sb.2 b hb).trans q) f0 f1 f3 f4 f5
    have st2 := st'
    obtain ⟨oi, q1, q2, q3⟩ := st2
    rw [hk]
    refine ⟨u, rfl, go_of (s := { s with heap := h' }) q1 q2 q3 (by decide) ⟨_, H, J2, ru, ⟨rfl, List.getElem?_eq_getElem hi⟩, st', fun b hb => (free b hb).1⟩⟩
  done := by
    intro Y e1 e2 e3 calm i pins s σ H E J free st ⟨hd, hi⟩
    subst e1 e2 e3
    have ho := obj_of J hd
    have ln : xs.length = es.size := by rw [hv.length, List.length_map, Array.length_toList]
    obtain ⟨f0, f1, f2, f3, f4, f5⟩ := free it (List.mem_singleton.mpr rfl)
    exact wpAny_pyNext_keys_end_raw (J.ok.hd calm) st ⟨o, ho, hex, hod⟩ (by omega) fun h' eb => ⟨rfl, J.turned (t' := s.toks) (fun b ob hb q => eb b ob hb q) f0 f1 f3 f4 f5⟩
  self := fun A i s Q E z q => by
    refine wpAny_pyIter_slot z.typeIs PySem.F.slot_dict_keyiterator_iter (wpAny_call_entry PySem.F.slot_dict_keyiterator_iter z.typeIs PySem.F.entry_dict_keyiterator_iter ?_ (PySem.F.args_dict_keyiterator_iter_1 _))
    show wpAny _ _ (ret (.ref it)) _ _ s
    exact wpAny_pure ⟨_, rfl, "dict_keyiterator", _, z.typeIs, PySem.F.slot_dict_keyiterator_next.lookup, q⟩
theorem ok_kx {K : Fg} {H0 : Hp} {W0 : Addr → Prop} {a : Addr} {o : Obj} {ks : List P} {xs : List V} (q : H0 a = some (DcO a o)) (n : ¬ W0 a) (l0 : ks.length ≤ 16777216) (r : RPs K H0 W0 ks xs) : ItOk K H0 W0 (Itkx a o xs) ks := fun H W g nw => by
  have q1 := (g a _ q n).1
  have r1 := r.mono g
  refine ⟨l0, fun i d z => ?_, fun i l => ⟨q1, by rw [← r.length]; exact l⟩⟩
  obtain ⟨x, q2, q3⟩ := r1.get z
  refine ⟨⟨q1, (List.getElem?_eq_some_iff.mp q2).1⟩, fun y H3 w => ?_⟩
  obtain ⟨rfl, w⟩ := w
  rw [q2] at w
  cases w
  exact ⟨fun _ _ z => z, q3⟩

section
variable {X : Cx} {C : Ct} {tg a b : Expr} {es : List Expr} {m : M DV} {ms : M (List DV)} {pos p : Pos}
/-- a list, a tuple, a text, a dict -/
def iSeq (K : Fg) (t : TE) : TI := fun σ H R => t σ H fun x H1 => (∃ a, x = .ref a ∧ (∃ xs, SqL K H1 a xs) ∧ R (Itl K a) H1) ∨ (∃ a, x = .ref a ∧ (∃ xs, SqT K H1 a xs) ∧ R (Itt K a) H1) ∨ (∃ y, x = .str y ∧ R (Its y) H1) ∨
  ∃ (a : Addr) (o : Obj) (es : Array DictEntry) (ep : Nat) (xs : List V), x = .ref a ∧ H1 a = some (DcO a o) ∧ o.ExactDict ∧ o.data = .dict es ep ∧ (a == sysModules) = false ∧ Vals xs (es.toList.map (·.key)) ∧ R (Itkx a o xs) H1
theorem pi_seq {t : TE} (hl : PE X a t) : PI X tg a (iSeq X.K t) :=
  ⟨fun pins s σ H R I h => thn (hl.run pins s σ H _ I h) fun v s1 ⟨x, H1, I1, r1, q1⟩ => by
    rcases q1 with ⟨l, rfl, ⟨xs, hq⟩, q⟩ | ⟨l, rfl, ⟨xs, hq⟩, q⟩ | ⟨y, rfl, q⟩ | ⟨l, o, es, ep, xs, rfl, hq, hex, hod, hsm, hv, q⟩
    · obtain rfl : v = .ref l := r1
      obtain ⟨its, rv, pl, hz⟩ := I1.list hq
      exact wpAny_pyIter_list pl.isList (pi_one (tk := s1.toks) I1 _ (turn_list l _) ⟨_, Heap.get?_push_size _ rfl, rfl, rfl⟩ q)
    · obtain rfl : v = .ref l := r1
      obtain ⟨its, rv, pl, hz⟩ := I1.tuple hq
      exact wpAny_pyIter_tuple (show s1.heap.IsTuple l its.toArray from pl) (pi_one (tk := s1.toks) I1 _ (turn_tuple l _) ⟨_, Heap.get?_push_size _ rfl, rfl, rfl⟩ q)
    · obtain ⟨t, rfl⟩ : ∃ t, v = .str y t := r1
      cases wide : y.cps.all (· < 128) with
      | false => exact wpAny_pyIter_wide wide (pi_one (tk := s1.toks) I1 _ (turn_str _ y t "str_iterator" (.inr rfl)) ⟨_, Heap.get?_push_size _ rfl, rfl, rfl⟩ q)
      | true => exact wpAny_pyIter_ascii wide (pi_one (tk := s1.toks) I1 _ (turn_str _ y t "str_ascii_iterator" (.inl rfl)) ⟨_, Heap.get?_push_size _ rfl, rfl, rfl⟩ q)
    · obtain rfl : v = .ref l := r1
      exact wpAny_pyIter_dict_raw hsm ⟨o, obj_of I1 hq, hex, hod⟩ (pi_one (tk := s1.toks) I1 _ (turn_kx hod hex hv) ⟨_, Heap.get?_push_size _ rfl, rfl, rfl⟩ q)⟩
theorem i_seq (hK : C.K = X.K) (ha : PE X a (TEd C m)) : PI X tg a (TId C (mSeq m)) := by
  obtain ⟨K0, cls0, W0⟩ := C
  obtain rfl : K0 = X.K := hK
  refine PI.imp (pi_seq ha) fun σ H R ⟨B, φ, e, h, s, q⟩ => ?_
  refine ⟨B, φ, e, h, s, PostG.bind (f := endSeq) q fun v e1 h1 φ1 H1 x _ s1 st1 r1 p1 => ?_⟩
  cases v with
  | d p =>
    cases p with
    | list ds =>
      cases r1 with
      | lst f l rs => exact .inl ⟨_, rfl, ⟨_, f.sq⟩, p1 φ1 H1 _ s1 Step.refl (ok_list l f rs)⟩
    | tuple ds =>
      cases r1 with
      | tup f l rs => exact .inr (.inl ⟨_, rfl, ⟨_, f.sq⟩, p1 φ1 H1 _ s1 Step.refl (ok_tup l f rs)⟩)
    | str y =>
      cases r1 with
      | str k l => exact .inr (.inr (.inl ⟨_, rfl, p1 φ1 H1 _ s1 Step.refl (ok_str k l)⟩))
    | dict kvs =>
      cases r1 with
      | dct q n h2 h3 h4 h5 h6 h7 =>
        obtain ⟨xs, k1, k2⟩ := rpe_keys h7
        exact .inr (.inr (.inr ⟨_, _, _, _, xs, rfl, q, h2, h3, h4, k2, p1 φ1 H1 _ s1 Step.refl (ok_kx q n (by simpa using h5) k1)⟩))
    | _ => exact p1.elim
  | ob w => exact p1.elim
  | scr ns => exact p1.elim
theorem i_rng1 (hg : Gl X "range") (hm : X.mg "range" = none) (ha : PA X [a] (TAd C ms)) (hs : starEach [a] X.env = [(false, eval a X.env)]) : PI X tg (.Call (.Name "range" p) [a] [] pos) (TId C (mRng1 ms)) := by
  refine PI.imp (pi_range1 hg hm ha hs) fun σ H R ⟨B, φ, e, h, s, q⟩ => ?_
  refine ⟨B, φ, e, h, s, PostG.bind (f := endRng1) q fun vs e1 h1 φ1 H1 xs em s1 st1 r1 p1 => ?_⟩
  unfold endRng1 at p1
  split at p1
  · rename_i j
    cases r1 with
    | cons a b =>
      cases b
      cases a
      split at p1
      · rename_i l
        refine ⟨j, rfl, by omega, by omega, p1 φ1 H1 _ s1 Step.refl ?_⟩
        have := ok_rng (K := C.K) (H0 := H1) (W0 := Wrt B σ φ1 e1 h1) (lo := 0) (n := j.toNat) (by omega)
        simpa using this
      · exact p1.elim
  · exact p1.elim
theorem i_rng2 (hg : Gl X "range") (hm : X.mg "range" = none) (ha : PA X [a, b] (TAd C ms)) (hs : starEach [a, b] X.env = [(false, eval a X.env), (false, eval b X.env)]) (hs2 : starEach [b] X.env = [(false, eval b X.env)]) :
    PI X tg (.Call (.Name "range" p) [a, b] [] pos) (TId C (mRng2 ms)) := by
  refine PI.imp (pi_range2 hg hm ha hs hs2) fun σ H R ⟨B, φ, e, h, s, q⟩ => ?_
  refine ⟨B, φ, e, h, s, PostG.bind (f := endRng2) q fun vs e1 h1 φ1 H1 xs em s1 st1 r1 p1 => ?_⟩
  unfold endRng2 at p1
  split at p1
  · rename_i i j
    cases r1 with
    | cons a b =>
      cases b with
      | cons b c =>
        cases c
        cases a
        cases b
        split at p1
        · rename_i l
          exact ⟨i, j, rfl, by omega, p1 φ1 H1 _ s1 Step.refl (ok_rng (by omega))⟩
        · exact p1.elim
  · exact p1.elim
theorem i_zip {elts : List Expr} {kk : Nat} {tpos : Pos} (hK : C.K = X.K) (hg : Gl X "zip") (hm : X.mg "zip" = none) (ha : PA X [a, b] (TAd C ms)) (hs : starEach [a, b] X.env = (false, eval a X.env) :: starEach [b] X.env) (hpl : (backTo pos (starEach [b] X.env)).any (·.1) = false) :
    PI X (.Tuple elts kk tpos) (.Call (.Name "zip" p) [a, b] [] pos) (TId C (mZip ms)) := by
  obtain ⟨K0, cls0, W0⟩ := C
  obtain rfl : K0 = X.K := hK
  refine PI.imp (RZ.pi_zipA hg hm ha hs hpl) fun σ H R ⟨B, φ, e, h, s, q⟩ => ?_
  refine ⟨B, φ, e, h, s, PostG.bind (f := endZip) q fun vs e1 h1 φ1 H1 xs _ s1 st1 r1 p1 => ?_⟩
  unfold endZip at p1
  split at p1
  · rename_i ds es
    cases r1 with
    | cons a b =>
      cases b with
      | cons b c =>
        cases c
        cases a with
        | lst f l r =>
          cases b with
          | lst f' l' r' => exact ⟨_, _, _, _, rfl, .inl ⟨f.sq, f'.sq, p1 φ1 H1 _ s1 Step.refl (ok_zip l f r f' r')⟩⟩
  · rename_i ds es
    cases r1 with
    | cons a b =>
      cases b with
      | cons b c =>
        cases c
        cases a with
        | tup f l r =>
          cases b with
          | tup f' l' r' => exact ⟨_, _, _, _, rfl, .inr ⟨f.sq, f'.sq, p1 φ1 H1 _ s1 Step.refl (ok_zipT l f r f' r')⟩⟩
  · exact p1.elim
end
end DL
/-! D8: list comprehensions. -/
namespace DL
open PySem PySem.Spec L2
variable [WorldC]

def wipeE (e : Env) : List Nat → Env
  | [] => e
  | v :: vs => (wipeE e vs).set v .no
def restE (e0 : Env) : Env → List Nat → Env
  | e, [] => e
  | e, v :: vs => restE e0 (e.set v (match e0[v]? with | some (.val x) => .val x | _ => .no)) vs

/-- the state's relation to a later one, whatever the slots -/
structure Tr (B : Addr → Prop) (W : Addr → Prop) (φ : List Addr) (H : Hp) (W' : Addr → Prop) (φ' : List Addr) (H' : Hp) : Prop where
  phi : φ <+: φ'
  gr : Gr H W H' W'
  tr : ∀ a, H a ≠ none → H' a ≠ none
  bk : ∀ a, B a → H' a = H a
theorem Tr.refl {B W : Addr → Prop} {φ : List Addr} {H : Hp} : Tr B W φ H W φ H := ⟨List.prefix_rfl, Gr.refl, fun _ z => z, fun _ _ => rfl⟩
theorem Tr.trans {B W W1 W2 : Addr → Prop} {φ φ1 φ2 : List Addr} {H H1 H2 : Hp} (a : Tr B W φ H W1 φ1 H1) (b : Tr B W1 φ1 H1 W2 φ2 H2) : Tr B W φ H W2 φ2 H2 :=
  ⟨a.phi.trans b.phi, a.gr.trans b.gr, fun x z => b.tr x (a.tr x z), fun x z => (b.bk x z).trans (a.bk x z)⟩

section
variable {K : Fg} {B B' : Addr → Prop} {φ φ1 φ' : List Addr} {σ σ' : St} {H H1 H' : Hp} {e e1 e' : Env} {h h1 h' : Hh} {W W' : Addr → Prop}
theorem Step.t (s : Step B σ φ H e h φ' H' e' h') : Tr B (Wrt B σ φ e h) φ H (Wrt B σ φ' e' h') φ' H' := ⟨s.phi, s.gr, s.tr, s.bk⟩
theorem Tr.step (s : Tr B (Wrt B σ φ e h) φ H (Wrt B σ φ' e' h') φ' H') : Step B σ φ H e h φ' H' e' h' := ⟨s.phi, s.gr, s.tr, s.bk⟩
theorem RS.wipe (s : RS K B φ σ H e h) : ∀ vs : List Nat, RS K B φ (L2.wipe σ vs) H (wipeE e vs) h ∧ ∀ a, Wrt B (L2.wipe σ vs) φ (wipeE e vs) h a → Wrt B σ φ e h a
  | [] => ⟨s, fun _ z => z⟩
  | v :: vs => by
    obtain ⟨s1, w1⟩ := s.wipe vs
    exact ⟨s1.setNo, fun a z => w1 a (Wrt.drop oc_set_no a z)⟩
theorem wipe_at {vs : List Nat} {i : Nat} (n : i ∉ vs) : (L2.wipe σ vs)[i]? = σ[i]? := by
  induction vs with
  | nil => rfl
  | cons v vs ih =>
    simp only [List.mem_cons, not_or] at n
    show ((L2.wipe σ vs).set v none)[i]? = _
    rw [List.getElem?_set_ne (fun z => n.1 z.symm)]
    exact ih n.2
theorem set_back {α : Type} {l : List α} {v : Nat} {x y : α} (q : l[v]? = some y) : (l.set v x).set v y = l := by
  rw [List.set_set]
  apply List.ext_getElem?
  intro j
  by_cases n : v = j
  · subst n
    rw [List.getElem?_set_self (List.getElem?_eq_some_iff.mp q).1, q]
  · rw [List.getElem?_set_ne n]
theorem set_out {α : Type} {l : List α} {v : Nat} {x : α} (q : l[v]? = none) : l.set v x = l := by
  have := List.getElem?_eq_none_iff.mp q
  exact List.set_eq_of_length_le this
/-- a block's own names stand again as they stood -/
theorem RS.rest (s0 : RS K B φ σ H e h) (B' : Addr → Prop) : ∀ (vs : List Nat) (e' : Env), vs.Nodup → RS K B' φ' (L2.wipe σ vs) H' e' h' → Gr H (Wrt B σ φ e h) H' (Wrt B' (L2.wipe σ vs) φ' e' h') → φ <+: φ' →
    RS K B' φ' σ H' (restE e e' vs) h' ∧ ∀ a, Wrt B' σ φ' (restE e e' vs) h' a → Wrt B' (L2.wipe σ vs) φ' e' h' a
  | [], e', _, s, _, _ => ⟨s, fun _ z => z⟩
  | v :: vs, e', nd, s, g, p => by
    obtain ⟨n1, n2⟩ := List.nodup_cons.mp nd
    have wv : (L2.wipe σ vs)[v]? = σ[v]? := wipe_at n1
    have key : ∃ y, L2.wipe σ vs = (L2.wipe σ (v :: vs)).set v y ∧ RS K B' φ' ((L2.wipe σ (v :: vs)).set v y) H' (e'.set v (match e[v]? with | some (.val x) => .val x | _ => .no)) h' ∧
        ∀ a, Wrt B' ((L2.wipe σ (v :: vs)).set v y) φ' (e'.set v (match e[v]? with | some (.val x) => .val x | _ => .no)) h' a → Wrt B' (L2.wipe σ (v :: vs)) φ' e' h' a := by
      have no : ∀ y, L2.wipe σ vs = (L2.wipe σ (v :: vs)).set v y → ∃ y, L2.wipe σ vs = (L2.wipe σ (v :: vs)).set v y ∧ RS K B' φ' ((L2.wipe σ (v :: vs)).set v y) H' (e'.set v .no) h' ∧
          ∀ a, Wrt B' ((L2.wipe σ (v :: vs)).set v y) φ' (e'.set v .no) h' a → Wrt B' (L2.wipe σ (v :: vs)) φ' e' h' a := fun y hy => ⟨y, hy, s.setNo, Wrt.drop oc_set_no⟩
      have any : ∃ y, L2.wipe σ vs = (L2.wipe σ (v :: vs)).set v y := by
        cases q : (L2.wipe σ vs)[v]? with
        | none =>
          refine ⟨none, ?_⟩
          show _ = ((L2.wipe σ vs).set v none).set v none
          rw [set_out q, set_out q]
        | some y => exact ⟨y, (set_back (x := none) q).symm⟩
      cases q : e[v]? with
      | none => obtain ⟨y, hy⟩ := any; exact no y hy
      | some c =>
        cases c with
        | no => obtain ⟨y, hy⟩ := any; exact no y hy
        | obj o => obtain ⟨y, hy⟩ := any; exact no y hy
        | val x =>
          obtain ⟨z, q1, q2, q3⟩ := s0.val v x q
          refine ⟨some z, (set_back (x := none) (wv.trans q1)).symm, s.setVal ((q2.sig q3).mono g p) q3, Wrt.drop oc_set_val⟩
    obtain ⟨y, k1, k2, k3⟩ := key
    rw [← k1] at k2 k3
    have g2 : Gr H (Wrt B σ φ e h) H' (Wrt B' (L2.wipe σ vs) φ' (e'.set v (match e[v]? with | some (.val x) => .val x | _ => .no)) h') := g.trans (Gr.weak k3)
    obtain ⟨r1, r2⟩ := s0.rest B' vs _ n2 k2 g2 p
    exact ⟨r1, fun a z => k3 a (r2 a z)⟩
/-- a protected object changes -/
theorem RS.updB (s : RS K B φ σ H e h) {D : Addr} {u : HO} (b : B D) : RS K B φ σ (upd H D u) e h ∧ Gr H (Wrt B σ φ e h) (upd H D u) (Wrt B σ φ e h) := by
  have g : Gr H (Wrt B σ φ e h) (upd H D u) (Wrt B σ φ e h) := fun a v q k => ⟨by rw [upd_ne fun z => k (by rw [z]; exact .inl b)]; exact q, k⟩
  refine ⟨⟨s.len, s.hlen, fun a z => ?_, fun i v q => ?_, fun w o q => ?_, s.inj⟩, g⟩
  · by_cases n : a = D
    · rw [n, upd_same]; intro z; cases z
    · rw [upd_ne n]; exact s.bN a z
  · obtain ⟨x, q1, q2, q3⟩ := s.val i v q
    exact ⟨x, q1, q2.mono g List.prefix_rfl, q3⟩
  · obtain ⟨a, q1, q2, q3⟩ := s.obj w o q
    exact ⟨a, q1, q2.mono g List.prefix_rfl (upd_ne fun z => q3 (by rw [z]; exact b)), q3⟩
theorem wipe_only {vs : List Nat} (o : Only vs σ σ') : L2.wipe σ' vs = L2.wipe σ vs := by
  apply List.ext_getElem?
  intro j
  by_cases n : j ∈ vs
  · have key : ∀ (τ : St) (vs : List Nat), j ∈ vs → (L2.wipe τ vs)[j]? = if j < τ.length then some none else none := by
      intro τ vs
      induction vs with
      | nil => intro z; cases z
      | cons v vs ih =>
        intro z
        show ((L2.wipe τ vs).set v none)[j]? = _
        by_cases q : v = j
        · subst q
          by_cases l : v < τ.length
          · rw [List.getElem?_set_self (by rw [wipe_length]; exact l), if_pos l]
          · rw [List.getElem?_eq_none (by rw [List.length_set, wipe_length]; omega), if_neg l]
        · rw [List.getElem?_set_ne q]
          rcases List.mem_cons.mp z with z | z
          · exact absurd z.symm q
          · exact ih z
    rw [key σ' vs n, key σ vs n, o.1]
  · rw [wipe_at n, wipe_at n, o.2 j n]
theorem wipe_only2 {vs : List Nat} : Only vs σ (L2.wipe σ vs) := ⟨wipe_length _ _, fun j n => wipe_at n⟩
end

/-! ### the loop -/
def lcGo (own : List Nat) (f : P → M (List P)) : List P → List P → M (List P)
  | [], acc => fun e h => .ok acc e h
  | x :: xs, acc => fun e h => match f x e h with
    | .ok r e' h' => lcGo own f xs (acc ++ r) (wipeE e' own) h'
    | _ => .stuck
def endEl (v : DV) : M (List P) := fun e h => match v with
  | .d p => .ok [p] e h
  | _ => .stuck
def mEl (t : Tg) (c : M Bool) (m : M DV) : P → M (List P) := fun x e h => match asgT t x e with
  | some e1 => (c e1 h).bind fun b e h => if b then (m e h).bind endEl else .ok [] e h
  | none => .stuck
def endLc (own : List Nat) (f : P → M (List P)) (ds : List P) : M DV := fun e h => match lcGo own f ds [] (wipeE e own) h with
  | .ok ps e' h' => .ok (.d (.list ps)) (restE e e' own) h'
  | _ => .stuck
def mLc (own : List Nat) (mi : M (List P)) (f : P → M (List P)) : M DV := fun e h => (mi e h).bind (endLc own f)
def mTrue : M Bool := fun e h => .ok true e h

abbrev Ct.quiet (C : Ct) : Ct := { C with W := fun _ _ _ _ => False }
theorem PTs.imp {X : Cx} {es : List Expr} {t t' : TT} (p : PTs X es t) (i : ∀ σ H Q, t' σ H Q → t σ H Q) : PTs X es t' := ⟨fun pins s σ H Q I h => p.run pins s σ H Q I (i σ H Q h)⟩
theorem ts_nil {X : Cx} {C : Ct} : PTs X [] (TTd C mTrue) := PTs.imp pts_nil fun σ H Q ⟨B, φ, e, h, s, q⟩ => PostG.ret (v := true) (x := true) q s rfl
theorem ts_one {X : Cx} {C : Ct} {c : Expr} {m : M Bool} (h : PT X c (TTd C m)) : PTs X [c] (TTd C m) := pts_one h

section
variable {X : Cx} {C : Ct} {elt tg iter : Expr} {ifs : List Expr} {scope : Scope} {own : List (Str × Nat)} {pos : Pos} {t : Tg} {mi : M (List P)} {mc : M Bool} {m : M DV}
theorem lc_imp {vs : List Nat} (nd : vs.Nodup) (sub : ∀ j ∈ t.slots, j ∈ vs) {σ : St} {H : Hp} {Q : VK} (q : TEf C (mLc vs mi (mEl t mc m)) σ H Q) : tLc (TId C mi) (TGd C.quiet t) (TTd C.quiet mc) (TEd C.quiet m) vs σ H Q := by
  obtain ⟨B, φ, e, h, s, q⟩ := q
  refine ⟨B, φ, e, h, s, PostF.bind (f := endLc vs (mEl t mc m)) q fun ds e1 h1 φ1 H1 J _ s1 st1 ik p1 => ?_⟩
  unfold endLc at p1
  cases go : lcGo vs (mEl t mc m) ds [] (wipeE e1 vs) h1 with
  | ex c p e' h' => rw [go] at p1; exact p1.elim
  | stuck => rw [go] at p1; exact p1.elim
  | ok ps e' h' =>
    rw [go] at p1
    intro D nD
    have sD0 := (s1.grow (a := D) (upd_ext (o := .lst []) nD) nD (by rw [upd_same]; intro z; cases z)).wipe vs
    refine ⟨fun i n H2 => n = ds.length - i ∧ i ≤ ds.length ∧ ∃ φ2 e2 h2 acc xs, RS C.K (fun b => B b ∨ b = D) φ2 (L2.wipe σ vs) H2 e2 h2 ∧ Tr B (Wrt B σ φ1 e1 h1) φ1 H1 (Wrt (fun b => B b ∨ b = D) (L2.wipe σ vs) φ2 e2 h2) φ2 H2 ∧
      H2 D = some (.lst xs) ∧ RPs C.K H2 (Wrt (fun b => B b ∨ b = D) (L2.wipe σ vs) φ2 e2 h2) acc xs ∧ acc.length ≤ i ∧ lcGo vs (mEl t mc m) (ds.drop i) acc e2 h2 = .ok ps e' h', ⟨ds.length, by simp, Nat.zero_le _, φ1, _, h1, [], [], sD0.1, ?_, upd_same, .nil, by simp, by simpa using go⟩, ?_⟩
    · refine ⟨List.prefix_rfl, fun a u z k => ?_, fun a z => ?_, fun a z => ?_⟩
      · refine ⟨upd_ext nD a u z, fun w => ?_⟩
        rcases sD0.2 a w with (w | w) | w
        · exact k (.inl w)
        · subst w; rw [nD] at z; cases z
        · exact k (.inr w)
      · cases q : H1 a with
        | none => exact absurd q z
        | some u => rw [upd_ext nD a u q]; intro z; cases z
      · exact upd_ne fun w => by subst w; exact s1.bN _ z nD
    · rintro i n H2 ⟨rfl, hi2, φ2, e2, h2, acc, xs, s2, t2, hD, rp, al, g2⟩
      obtain ⟨dl, k1, k2⟩ := ik H2 _ t2.gr s2.wN
      by_cases lt : i < ds.length
      · obtain ⟨x, hx⟩ : ∃ x, ds[i]? = some x := ⟨ds[i], List.getElem?_eq_getElem lt⟩
        obtain ⟨go1, yl⟩ := k1 i x hx
        have hd : ds.drop i = x :: ds.drop (i + 1) := by
          rw [List.drop_eq_getElem_cons lt]
          have := List.getElem?_eq_getElem lt
          rw [hx] at this
          cases this
          rfl
        rw [hd] at g2
        simp only [lcGo] at g2
        cases f1 : mEl t mc m x e2 h2 with
        | ex c p e3 h3 => rw [f1] at g2; cases g2
        | stuck => rw [f1] at g2; cases g2
        | ok r e3 h3 =>
          rw [f1] at g2
          simp only at g2
          refine .inr ⟨go1, fun H3 => ∃ n', n' < ds.length - i ∧ (n' = ds.length - (i + 1) ∧ i + 1 ≤ ds.length ∧ ∃ φ2 e2 h2 acc xs, RS C.K (fun b => B b ∨ b = D) φ2 (L2.wipe σ vs) H3 e2 h2 ∧ Tr B (Wrt B σ φ1 e1 h1) φ1 H1 (Wrt (fun b => B b ∨ b = D) (L2.wipe σ vs) φ2 e2 h2) φ2 H3 ∧
            H3 D = some (.lst xs) ∧ RPs C.K H3 (Wrt (fun b => B b ∨ b = D) (L2.wipe σ vs) φ2 e2 h2) acc xs ∧ acc.length ≤ i + 1 ∧ lcGo vs (mEl t mc m) (ds.drop (i + 1)) acc e2 h2 = .ok ps e' h'), fun H3 z => z, fun y H3 hy => ?_⟩
          obtain ⟨ex3, ry⟩ := yl y H3 hy
          obtain ⟨s3, st3⟩ := s2.ext ex3
          refine ⟨_, φ2, e2, h2, x, s3, ry, ?_⟩
          unfold mEl at f1
          cases f2 : asgT t x e2 with
          | none => rw [f2] at f1; cases f1
          | some e4 =>
            rw [f2] at f1
            simp only at f1
            intro σ4 s4 w4 o4
            have wσ : L2.wipe σ4 vs = L2.wipe σ vs := (wipe_only (o4.mono sub)).trans (wipe_only wipe_only2)
            refine ⟨wσ, _, φ2, e4, h2, s4, ?_⟩
            have tr4 : Tr B (Wrt B σ φ1 e1 h1) φ1 H1 (Wrt (fun b => B b ∨ b = D) σ4 φ2 e4 h2) φ2 H3 := by
              refine t2.trans ⟨List.prefix_rfl, (st3.gr).trans (Gr.weak w4), st3.tr, fun a z => st3.bk a (.inl z)⟩
            have rp3 : RPs C.K H3 (Wrt (fun b => B b ∨ b = D) σ4 φ2 e4 h2) acc xs := rp.mono (st3.gr.trans (Gr.weak w4))
            have hD3 : H3 D = some (.lst xs) := by rw [st3.bk D (.inr rfl)]; exact hD
            refine PostG.bind (C := C.quiet) (Rel2 := fun _ _ _ (r : List P) (z : List P) => r = z) (Q := fun _ _ => True) (f := fun b e h => if b then (m e h).bind endEl else .ok [] e h) ?_ ?_
            · rw [f1]; exact fun _ _ _ _ _ _ => trivial
            · intro b e5 h5 φ5 H5 b' em5 s5 st5 rb _
              subst rb
              rw [em5] at f1
              simp only [R.bind_ok] at f1
              have tr5 := tr4.trans ⟨st5.phi, st5.gr, st5.tr, fun a z => st5.bk a (.inl z)⟩
              have rp5 := rp3.mono st5.gr
              have hD5 : H5 D = some (.lst xs) := by rw [st5.bk D (.inr rfl)]; exact hD3
              cases b with
              | false =>
                simp only [Bool.false_eq_true, if_false] at f1
                cases f1
                obtain ⟨s6, w6⟩ := s5.wipe vs
                rw [wσ] at s6 w6
                exact ⟨_, by omega, rfl, by omega, φ5, _, _, acc, xs, s6, tr5.trans ⟨List.prefix_rfl, Gr.weak w6, fun _ z => z, fun _ _ => rfl⟩, hD5, rp5.mono (Gr.weak w6), by omega, by simpa using g2⟩
              | true =>
                simp only [if_true] at f1 ⊢
                refine ⟨_, φ5, e5, h5, s5, PostG.bind (C := C.quiet) (Rel2 := fun _ _ _ (r : List P) (z : List P) => r = z) (Q := fun _ _ => True) (f := endEl) ?_ ?_⟩
                · rw [f1]; exact fun _ _ _ _ _ _ => trivial
                · intro v e6 h6 φ6 H6 y6 em6 s6 st6 rv _
                  rw [em6] at f1
                  cases v with
                  | ob w => cases f1
                  | scr ns => cases f1
                  | d p =>
                    cases f1
                    have hD6 : H6 D = some (.lst xs) := by rw [st6.bk D (.inr rfl)]; exact hD5
                    have ln : acc.length = xs.length := rp.length
                    refine ⟨xs, hD6, by rw [line16]; omega, ?_⟩
                    obtain ⟨s7, g7⟩ := s6.updB (D := D) (u := .lst (xs ++ [y6])) (.inr rfl)
                    obtain ⟨s8, w8⟩ := s7.wipe vs
                    rw [wσ] at s8 w8
                    have rp6 : RPs C.K (upd H6 D (.lst (xs ++ [y6]))) (Wrt (fun b => B b ∨ b = D) (L2.wipe σ vs) φ6 (wipeE e3 vs) h3) (acc ++ [p]) (xs ++ [y6]) :=
                      (((rp5.mono st6.gr).append (.cons rv .nil)).mono g7).mono (Gr.weak w8)
                    refine ⟨_, by omega, rfl, by omega, φ6, _, _, acc ++ [p], xs ++ [y6], s8, tr5.trans ⟨st6.phi, (st6.gr.trans g7).trans (Gr.weak w8), fun a z => ?_, fun a z => ?_⟩, upd_same, rp6, by simp; omega, g2⟩
                    · by_cases n : a = D
                      · rw [n, upd_same]; intro z; cases z
                      · rw [upd_ne n]; exact st6.tr a z
                    · rw [upd_ne (fun n => by subst n; exact s1.bN _ z nD)]
                      exact st6.bk a (.inl z)
      · have ie : i = ds.length := by omega
        subst ie
        refine .inl ⟨k2 _ (Nat.le_refl _), ?_⟩
        rw [List.drop_length] at g2
        cases g2
        obtain ⟨r1, r2⟩ := s1.rest (fun b => B b ∨ b = D) vs e' nd s2 t2.gr t2.phi
        have nB : ¬ B D := fun z => s1.bN D z nD
        have r3 : RS C.K B φ2 σ H2 (restE e1 e' vs) h' := r1.weakB fun a z => .inl z
        have gg : Gr H1 (Wrt B σ φ1 e1 h1) H2 (Wrt B σ φ2 (restE e1 e' vs) h') := t2.gr.trans (Gr.weak fun a z => r2 a (Wrt.weak (fun b y => .inl y) a z))
        exact p1 φ2 H2 (.ref D) r3 ⟨t2.phi, gg, t2.tr, t2.bk⟩ ⟨D, xs, rfl, st1.back D nD, nB, hD, by omega, r1, rp.mono (Gr.weak r2)⟩
theorem d_lc (hc : X.calm = true) (hN : X.N.Nodup) (hi : PI X tg iter (TId C mi)) (ok : BlkOk X.N X.env.scope scope own) (nd : (own.map (·.2)).Nodup) (sub : ∀ j ∈ t.slots, j ∈ own.map (·.2))
    (hg : ∀ (s : Shared) (H : Hp) (D : Addr) (cl : List (Str × Addr)) (fp : List Addr), PG (X.blk s H scope (compEnvC scope cl D X.env) fp) tg (TGd C.quiet t))
    (ht : ∀ (s : Shared) (H : Hp) (D : Addr) (cl : List (Str × Addr)) (fp : List Addr), PTs (X.blk s H scope (compEnvC scope cl D X.env) fp) ifs (TTd C.quiet mc))
    (he : ∀ (s : Shared) (H : Hp) (D : Addr) (cl : List (Str × Addr)) (fp : List Addr), PE (X.blk s H scope (compEnvC scope cl D X.env) fp) elt (TEd C.quiet m)) (hs : ∀ x, foldedSetIterable iter X.env x = pure x) :
    PE X (.ListComp elt [⟨tg, iter, ifs, 0⟩] scope pos) (TEf C (mLc (own.map (·.2)) mi (mEl t mc m))) := by
  exact PE.imp (pe_lc hc hN hi ok hg ht he hs) fun σ H Q q => lc_imp nd sub q
end


/-! two clauses -/
def inGo (own : List Nat) (f : P → M (List P)) (ds : List P) : M (List P) := fun e h => match lcGo own f ds [] (wipeE e own) h with
  | .ok ps e' h' => .ok ps e' h'
  | _ => .stuck
def endLc2 (own : List Nat) (f : P → M (List P)) (ds : List P) : M DV := fun e h => match lcGo own f ds [] (wipeE e own) h with
  | .ok ps e' h' => if ps.length ≤ 16777216 then .ok (.d (.list ps)) (restE e e' own) h' else .stuck
  | _ => .stuck
def mLc2 (own : List Nat) (mi : M (List P)) (f : P → M (List P)) : M DV := fun e h => (mi e h).bind (endLc2 own f)
theorem lcGo_le {own : List Nat} {f : P → M (List P)} : ∀ (xs acc : List P) {e e' : Env} {h h' : Hh} {ps : List P}, lcGo own f xs acc e h = .ok ps e' h' → acc.length ≤ ps.length
  | [], acc, _, _, _, _, _, q => by cases q; exact Nat.le_refl _
  | x :: xs, acc, e, e', h, h', ps, q => by
    simp only [lcGo] at q
    cases c : f x e h with
    | ok r e1 h1 =>
      rw [c] at q
      have := lcGo_le xs _ q
      simp at this
      omega
    | ex a b e1 h1 => rw [c] at q; cases q
    | stuck => rw [c] at q; cases q
def mEl2 (t : Tg) (c : M Bool) (mi : M (List P)) (own1 : List Nat) (f : P → M (List P)) : P → M (List P) := fun x e h => match asgT t x e with
  | some e1 => (c e1 h).bind fun b e h => if b then (mi e h).bind (inGo own1 f) else .ok [] e h
  | none => .stuck

section
variable {X : Cx} {C : Ct} {elt tg iter tg1 iter1 : Expr} {ifs ifs1 : List Expr} {scope : Scope} {own : List (Str × Nat)} {pos : Pos} {t t1 : Tg} {mi mi1 : M (List P)} {mc mc1 : M Bool} {m : M DV}
theorem lc2_imp {vs vs1 : List Nat} (nd : vs.Nodup) (sub : ∀ j ∈ t.slots, j ∈ vs) (sub1 : ∀ j ∈ t1.slots, j ∈ vs1) (sb : ∀ j ∈ vs1, j ∈ vs) {σ : St} {H : Hp} {Q : VK} (q : TEf C (mLc2 vs mi (mEl2 t mc mi1 vs1 (mEl t1 mc1 m))) σ H Q) :
    tLc2 (TId C mi) (TGd C.quiet t) (TTd C.quiet mc) (TId C.quiet mi1) (TGd C.quiet t1) (TTd C.quiet mc1) (TEd C.quiet m) vs vs1 σ H Q := by
  obtain ⟨B, φ, e, h, s, q⟩ := q
  refine ⟨B, φ, e, h, s, PostF.bind (f := endLc2 vs (mEl2 t mc mi1 vs1 (mEl t1 mc1 m))) q fun ds e1 h1 φ1 H1 J _ s1 st1 ik p1 => ?_⟩
  unfold endLc2 at p1
  cases go : lcGo vs (mEl2 t mc mi1 vs1 (mEl t1 mc1 m)) ds [] (wipeE e1 vs) h1 with
  | ex c p e' h' => rw [go] at p1; exact p1.elim
  | stuck => rw [go] at p1; exact p1.elim
  | ok ps e' h' =>
    rw [go] at p1
    by_cases lps0 : ps.length ≤ 16777216
    case neg => simp only [if_neg lps0] at p1; exact p1.elim
    simp only [if_pos lps0] at p1
    intro D nD
    have sD0 := (s1.grow (a := D) (upd_ext (o := .lst []) nD) nD (by rw [upd_same]; intro z; cases z)).wipe vs
    refine ⟨fun i n H2 => n = ds.length - i ∧ i ≤ ds.length ∧ ∃ φ2 e2 h2 acc xs, RS C.K (fun b => B b ∨ b = D) φ2 (L2.wipe σ vs) H2 e2 h2 ∧ Tr B (Wrt B σ φ1 e1 h1) φ1 H1 (Wrt (fun b => B b ∨ b = D) (L2.wipe σ vs) φ2 e2 h2) φ2 H2 ∧
      H2 D = some (.lst xs) ∧ RPs C.K H2 (Wrt (fun b => B b ∨ b = D) (L2.wipe σ vs) φ2 e2 h2) acc xs ∧ lcGo vs (mEl2 t mc mi1 vs1 (mEl t1 mc1 m)) (ds.drop i) acc e2 h2 = .ok ps e' h', ⟨ds.length, by simp, Nat.zero_le _, φ1, _, h1, [], [], sD0.1, ?_, upd_same, .nil, by simpa using go⟩, ?_⟩
    · refine ⟨List.prefix_rfl, fun a u z k => ?_, fun a z => ?_, fun a z => ?_⟩
      · refine ⟨upd_ext nD a u z, fun w => ?_⟩
        rcases sD0.2 a w with (w | w) | w
        · exact k (.inl w)
        · subst w; rw [nD] at z; cases z
        · exact k (.inr w)
      · cases q : H1 a with
        | none => exact absurd q z
        | some u => rw [upd_ext nD a u q]; intro z; cases z
      · exact upd_ne fun w => by subst w; exact s1.bN _ z nD
    · rintro i n H2 ⟨rfl, hi2, φ2, e2, h2, acc, xs, s2, t2, hD, rp, g2⟩
      obtain ⟨dl, k1, k2⟩ := ik H2 _ t2.gr s2.wN
      by_cases lt : i < ds.length
      · obtain ⟨x, hx⟩ : ∃ x, ds[i]? = some x := ⟨ds[i], List.getElem?_eq_getElem lt⟩
        obtain ⟨go1, yl⟩ := k1 i x hx
        have hd : ds.drop i = x :: ds.drop (i + 1) := by
          rw [List.drop_eq_getElem_cons lt]
          have := List.getElem?_eq_getElem lt
          rw [hx] at this
          cases this
          rfl
        rw [hd] at g2
        simp only [lcGo] at g2
        cases f1 : mEl2 t mc mi1 vs1 (mEl t1 mc1 m) x e2 h2 with
        | ex c p e3 h3 => rw [f1] at g2; cases g2
        | stuck => rw [f1] at g2; cases g2
        | ok r e3 h3 =>
          rw [f1] at g2
          simp only at g2
          refine .inr ⟨go1, fun H3 => ∃ n', n' < ds.length - i ∧ (n' = ds.length - (i + 1) ∧ i + 1 ≤ ds.length ∧ ∃ φ2 e2 h2 acc xs, RS C.K (fun b => B b ∨ b = D) φ2 (L2.wipe σ vs) H3 e2 h2 ∧ Tr B (Wrt B σ φ1 e1 h1) φ1 H1 (Wrt (fun b => B b ∨ b = D) (L2.wipe σ vs) φ2 e2 h2) φ2 H3 ∧
            H3 D = some (.lst xs) ∧ RPs C.K H3 (Wrt (fun b => B b ∨ b = D) (L2.wipe σ vs) φ2 e2 h2) acc xs ∧ lcGo vs (mEl2 t mc mi1 vs1 (mEl t1 mc1 m)) (ds.drop (i + 1)) acc e2 h2 = .ok ps e' h'), fun H3 z => z, fun y H3 hy => ?_⟩
          obtain ⟨ex3, ry⟩ := yl y H3 hy
          obtain ⟨s3, st3⟩ := s2.ext ex3
          refine ⟨_, φ2, e2, h2, x, s3, ry, ?_⟩
          unfold mEl2 at f1
          cases f2 : asgT t x e2 with
          | none => rw [f2] at f1; cases f1
          | some e4 =>
            rw [f2] at f1
            simp only at f1
            intro σ4 s4 w4 o4
            have wσ : L2.wipe σ4 vs = L2.wipe σ vs := (wipe_only (o4.mono sub)).trans (wipe_only wipe_only2)
            refine ⟨wσ, _, φ2, e4, h2, s4, ?_⟩
            have tr4 : Tr B (Wrt B σ φ1 e1 h1) φ1 H1 (Wrt (fun b => B b ∨ b = D) σ4 φ2 e4 h2) φ2 H3 := by
              refine t2.trans ⟨List.prefix_rfl, (st3.gr).trans (Gr.weak w4), st3.tr, fun a z => st3.bk a (.inl z)⟩
            have rp3 : RPs C.K H3 (Wrt (fun b => B b ∨ b = D) σ4 φ2 e4 h2) acc xs := rp.mono (st3.gr.trans (Gr.weak w4))
            have hD3 : H3 D = some (.lst xs) := by rw [st3.bk D (.inr rfl)]; exact hD
            refine PostG.bind (C := C.quiet) (Rel2 := fun _ _ _ (r : List P) (z : List P) => r = z) (Q := fun _ _ => True) (f := fun b e h => if b then (mi1 e h).bind (inGo vs1 (mEl t1 mc1 m)) else .ok [] e h) ?_ ?_
            · rw [f1]; exact fun _ _ _ _ _ _ => trivial
            · intro b e5 h5 φ5 H5 b' em5 s5 st5 rb _
              subst rb
              rw [em5] at f1
              simp only [R.bind_ok] at f1
              have tr5 := tr4.trans ⟨st5.phi, st5.gr, st5.tr, fun a z => st5.bk a (.inl z)⟩
              have rp5 := rp3.mono st5.gr
              have hD5 : H5 D = some (.lst xs) := by rw [st5.bk D (.inr rfl)]; exact hD3
              cases b with
              | false =>
                simp only [Bool.false_eq_true, if_false] at f1
                cases f1
                obtain ⟨s6, w6⟩ := s5.wipe vs
                rw [wσ] at s6 w6
                exact ⟨_, by omega, rfl, by omega, φ5, _, _, acc, xs, s6, tr5.trans ⟨List.prefix_rfl, Gr.weak w6, fun _ z => z, fun _ _ => rfl⟩, hD5, rp5.mono (Gr.weak w6), by simpa using g2⟩
              | true =>
                simp only [if_true] at f1 ⊢
                refine ⟨_, φ5, e5, h5, s5, PostG.bind (C := C.quiet) (Rel2 := fun _ _ _ (r : List P) (z : List P) => r = z) (Q := fun _ _ => True) (f := inGo vs1 (mEl t1 mc1 m)) ?_ ?_⟩
                · rw [f1]; exact fun _ _ _ _ _ _ => trivial
                · intro ds1 e6 h6 φ6 H6 J1 em6 s6 st6 ik1 _
                  rw [em6] at f1
                  simp only [R.bind_ok, inGo] at f1
                  cases go2 : lcGo vs1 (mEl t1 mc1 m) ds1 [] (wipeE e6 vs1) h6 with
                  | ex c p e' h' => rw [go2] at f1; cases f1
                  | stuck => rw [go2] at f1; cases f1
                  | ok r2 e7 h7 =>
                    rw [go2] at f1
                    obtain ⟨z1, z2, z3⟩ : r2 = r ∧ e7 = e3 ∧ h7 = h3 := by cases f1; exact ⟨rfl, rfl, rfl⟩
                    subst z1 z2 z3
                    have tr6 := tr5.trans ⟨st6.phi, st6.gr, st6.tr, fun a z => st6.bk a (.inl z)⟩
                    have rp6 := rp5.mono st6.gr
                    have hD6 : H6 D = some (.lst xs) := by rw [st6.bk D (.inr rfl)]; exact hD5
                    obtain ⟨sw, ww⟩ := s6.wipe vs1
                    refine ⟨fun j n H8 => n = ds1.length - j ∧ j ≤ ds1.length ∧ ∃ φ8 e8 h8 acc1 xs1, RS C.K (fun b => B b ∨ b = D) φ8 (L2.wipe σ4 vs1) H8 e8 h8 ∧ Tr (fun b => B b) (Wrt (fun b => B b ∨ b = D) σ4 φ6 e6 h6) φ6 H6 (Wrt (fun b => B b ∨ b = D) (L2.wipe σ4 vs1) φ8 e8 h8) φ8 H8 ∧
                      H8 D = some (.lst xs1) ∧ RPs C.K H8 (Wrt (fun b => B b ∨ b = D) (L2.wipe σ4 vs1) φ8 e8 h8) (acc ++ acc1) xs1 ∧ lcGo vs1 (mEl t1 mc1 m) (ds1.drop j) acc1 e8 h8 = .ok r2 e7 h7, ⟨ds1.length, by simp, Nat.zero_le _, φ6, _, h6, [], xs, sw, ⟨List.prefix_rfl, Gr.weak ww, fun _ z => z, fun _ _ => rfl⟩, hD6, by simpa using rp6.mono (Gr.weak ww), by simpa using go2⟩, ?_⟩
                    rintro j n H8 ⟨rfl, hj, φ8, e8, h8, acc1, xs1, s8, t8, hD8, rp8, g8⟩
                    obtain ⟨dl1, l1, l2⟩ := ik1 H8 _ t8.gr s8.wN
                    by_cases lt1 : j < ds1.length
                    · obtain ⟨x1, hx1⟩ : ∃ x, ds1[j]? = some x := ⟨ds1[j], List.getElem?_eq_getElem lt1⟩
                      obtain ⟨go3, yl1⟩ := l1 j x1 hx1
                      have hd1 : ds1.drop j = x1 :: ds1.drop (j + 1) := by
                        rw [List.drop_eq_getElem_cons lt1]
                        have := List.getElem?_eq_getElem lt1
                        rw [hx1] at this
                        cases this
                        rfl
                      rw [hd1] at g8
                      simp only [lcGo] at g8
                      cases f8 : mEl t1 mc1 m x1 e8 h8 with
                      | ex c p e3 h3 => rw [f8] at g8; cases g8
                      | stuck => rw [f8] at g8; cases g8
                      | ok r9 e9 h9 =>
                        rw [f8] at g8
                        simp only at g8
                        refine .inr ⟨go3, fun H9 => ∃ n', n' < ds1.length - j ∧ (n' = ds1.length - (j + 1) ∧ j + 1 ≤ ds1.length ∧ ∃ φ8 e8 h8 acc1 xs1, RS C.K (fun b => B b ∨ b = D) φ8 (L2.wipe σ4 vs1) H9 e8 h8 ∧ Tr (fun b => B b) (Wrt (fun b => B b ∨ b = D) σ4 φ6 e6 h6) φ6 H6 (Wrt (fun b => B b ∨ b = D) (L2.wipe σ4 vs1) φ8 e8 h8) φ8 H9 ∧
                          H9 D = some (.lst xs1) ∧ RPs C.K H9 (Wrt (fun b => B b ∨ b = D) (L2.wipe σ4 vs1) φ8 e8 h8) (acc ++ acc1) xs1 ∧ lcGo vs1 (mEl t1 mc1 m) (ds1.drop (j + 1)) acc1 e8 h8 = .ok r2 e7 h7), fun _ z => z, fun y1 H9 hy1 => ?_⟩
                        obtain ⟨ex9, ry1⟩ := yl1 y1 H9 hy1
                        obtain ⟨s9, st9⟩ := s8.ext ex9
                        refine ⟨_, φ8, e8, h8, x1, s9, ry1, ?_⟩
                        unfold mEl at f8
                        cases f9 : asgT t1 x1 e8 with
                        | none => rw [f9] at f8; cases f8
                        | some e10 =>
                          rw [f9] at f8
                          simp only at f8
                          intro σ9 sA wA oA
                          have wσ1 : L2.wipe σ9 vs1 = L2.wipe σ4 vs1 := (wipe_only (oA.mono sub1)).trans (wipe_only wipe_only2)
                          refine ⟨wσ1, _, φ8, e10, h8, sA, ?_⟩
                          have trA : Tr (fun b => B b) (Wrt (fun b => B b ∨ b = D) σ4 φ6 e6 h6) φ6 H6 (Wrt (fun b => B b ∨ b = D) σ9 φ8 e10 h8) φ8 H9 :=
                            t8.trans ⟨List.prefix_rfl, (st9.gr).trans (Gr.weak wA), st9.tr, fun a z => st9.bk a (.inl z)⟩
                          have rpA : RPs C.K H9 (Wrt (fun b => B b ∨ b = D) σ9 φ8 e10 h8) (acc ++ acc1) xs1 := rp8.mono (st9.gr.trans (Gr.weak wA))
                          have hDA : H9 D = some (.lst xs1) := by rw [st9.bk D (.inr rfl)]; exact hD8
                          refine PostG.bind (C := C.quiet) (Rel2 := fun _ _ _ (r : List P) (z : List P) => r = z) (Q := fun _ _ => True) (f := fun b e h => if b then (m e h).bind endEl else .ok [] e h) ?_ ?_
                          · rw [f8]; exact fun _ _ _ _ _ _ => trivial
                          · intro b eB hB φB HB b' emB sB stB rb _
                            subst rb
                            rw [emB] at f8
                            simp only [R.bind_ok] at f8
                            have trB := trA.trans ⟨stB.phi, stB.gr, stB.tr, fun a z => stB.bk a (.inl z)⟩
                            have rpB := rpA.mono stB.gr
                            have hDB : HB D = some (.lst xs1) := by rw [stB.bk D (.inr rfl)]; exact hDA
                            cases b with
                            | false =>
                              simp only [Bool.false_eq_true, if_false] at f8
                              cases f8
                              obtain ⟨sC, wC⟩ := sB.wipe vs1
                              rw [wσ1] at sC wC
                              exact ⟨_, by omega, rfl, by omega, φB, _, _, acc1, xs1, sC, trB.trans ⟨List.prefix_rfl, Gr.weak wC, fun _ z => z, fun _ _ => rfl⟩, hDB, rpB.mono (Gr.weak wC), by simpa using g8⟩
                            | true =>
                              simp only [if_true] at f8 ⊢
                              refine ⟨_, φB, eB, hB, sB, PostG.bind (C := C.quiet) (Rel2 := fun _ _ _ (r : List P) (z : List P) => r = z) (Q := fun _ _ => True) (f := endEl) ?_ ?_⟩
                              · rw [f8]; exact fun _ _ _ _ _ _ => trivial
                              · intro v eC hC φC HC yC emC sC stC rv _
                                rw [emC] at f8
                                cases v with
                                | ob w => cases f8
                                | scr ns => cases f8
                                | d p =>
                                  obtain ⟨z1, z2, z3⟩ : [p] = r9 ∧ eC = e9 ∧ hC = h9 := by cases f8; exact ⟨rfl, rfl, rfl⟩
                                  subst z1 z2 z3
                                  have hDC : HC D = some (.lst xs1) := by rw [stC.bk D (.inr rfl)]; exact hDB
                                  have lb := lcGo_le _ _ g8
                                  have lc2 := lcGo_le _ _ g2
                                  have lps := rp8.length
                                  simp only [List.length_append, List.length_singleton] at lb lc2 lps
                                  refine ⟨xs1, hDC, by rw [line16]; omega, ?_⟩
                                  obtain ⟨s7, g7⟩ := sC.updB (D := D) (u := .lst (xs1 ++ [yC])) (.inr rfl)
                                  obtain ⟨sE, wE⟩ := s7.wipe vs1
                                  rw [wσ1] at sE wE
                                  have rpE : RPs C.K (upd HC D (.lst (xs1 ++ [yC]))) (Wrt (fun b => B b ∨ b = D) (L2.wipe σ4 vs1) φC (wipeE eC vs1) hC) (acc ++ (acc1 ++ [p])) (xs1 ++ [yC]) := by
                                    rw [← List.append_assoc]
                                    exact (((rpB.mono stC.gr).append (.cons rv .nil)).mono g7).mono (Gr.weak wE)
                                  refine ⟨_, by omega, rfl, by omega, φC, _, _, acc1 ++ [p], xs1 ++ [yC], sE, trB.trans ⟨stC.phi, (stC.gr.trans g7).trans (Gr.weak wE), fun a z => ?_, fun a z => ?_⟩, upd_same, rpE, g8⟩
                                  · by_cases n : a = D
                                    · rw [n, upd_same]; intro z; cases z
                                    · rw [upd_ne n]; exact stC.tr a z
                                  · rw [upd_ne (fun n => by subst n; exact s1.bN _ z nD)]
                                    exact stC.bk a (.inl z)
                    · have je : j = ds1.length := by omega
                      subst je
                      refine .inl ⟨l2 _ (Nat.le_refl _), ?_⟩
                      rw [List.drop_length] at g8
                      obtain ⟨z1, z2, z3⟩ : acc1 = r2 ∧ e8 = e7 ∧ h8 = h7 := by cases g8; exact ⟨rfl, rfl, rfl⟩
                      subst z1 z2 z3
                      obtain ⟨sF, wF⟩ := s8.wipe vs
                      have wσ2 : L2.wipe (L2.wipe σ4 vs1) vs = L2.wipe σ vs := (wipe_only ((wipe_only2 (σ := σ4) (vs := vs1)).mono sb)).trans wσ
                      rw [wσ2] at sF wF
                      exact ⟨_, by omega, rfl, by omega, φ8, _, _, acc ++ acc1, xs1, sF, (tr6.trans t8).trans ⟨List.prefix_rfl, Gr.weak wF, fun _ z => z, fun _ _ => rfl⟩, hD8, rp8.mono (Gr.weak wF), g2⟩
      · have ie : i = ds.length := by omega
        subst ie
        refine .inl ⟨k2 _ (Nat.le_refl _), ?_⟩
        rw [List.drop_length] at g2
        cases g2
        obtain ⟨r1, r2⟩ := s1.rest (fun b => B b ∨ b = D) vs e' nd s2 t2.gr t2.phi
        have nB : ¬ B D := fun z => s1.bN D z nD
        have r3 : RS C.K B φ2 σ H2 (restE e1 e' vs) h' := r1.weakB fun a z => .inl z
        have gg : Gr H1 (Wrt B σ φ1 e1 h1) H2 (Wrt B σ φ2 (restE e1 e' vs) h') := t2.gr.trans (Gr.weak fun a z => r2 a (Wrt.weak (fun b y => .inl y) a z))
        exact p1 φ2 H2 (.ref D) r3 ⟨t2.phi, gg, t2.tr, t2.bk⟩ ⟨D, xs, rfl, st1.back D nD, nB, hD, lps0, r1, rp.mono (Gr.weak r2)⟩
theorem d_lc2 {vs1 : List Nat} (hc : X.calm = true) (hN : X.N.Nodup) (hi : PI X tg iter (TId C mi)) (ok : BlkOk X.N X.env.scope scope own) (nd : (own.map (·.2)).Nodup) (sub : ∀ j ∈ t.slots, j ∈ own.map (·.2)) (sub1 : ∀ j ∈ t1.slots, j ∈ vs1) (sb : ∀ j ∈ vs1, j ∈ own.map (·.2))
    (hg : ∀ (s : Shared) (H : Hp) (D : Addr) (cl : List (Str × Addr)) (fp : List Addr), PG (X.blk s H scope (compEnvC scope cl D X.env) fp) tg (TGd C.quiet t))
    (ht : ∀ (s : Shared) (H : Hp) (D : Addr) (cl : List (Str × Addr)) (fp : List Addr), PTs (X.blk s H scope (compEnvC scope cl D X.env) fp) ifs (TTd C.quiet mc))
    (hi1 : ∀ (s : Shared) (H : Hp) (D : Addr) (cl : List (Str × Addr)) (fp : List Addr), PI (X.blk s H scope (compEnvC scope cl D X.env) fp) tg1 iter1 (TId C.quiet mi1))
    (hg1 : ∀ (s : Shared) (H : Hp) (D : Addr) (cl : List (Str × Addr)) (fp : List Addr), PG (X.blk s H scope (compEnvC scope cl D X.env) fp) tg1 (TGd C.quiet t1))
    (ht1 : ∀ (s : Shared) (H : Hp) (D : Addr) (cl : List (Str × Addr)) (fp : List Addr), PTs (X.blk s H scope (compEnvC scope cl D X.env) fp) ifs1 (TTd C.quiet mc1))
    (he : ∀ (s : Shared) (H : Hp) (D : Addr) (cl : List (Str × Addr)) (fp : List Addr), PE (X.blk s H scope (compEnvC scope cl D X.env) fp) elt (TEd C.quiet m)) (hs : ∀ x, foldedSetIterable iter X.env x = pure x) (hs1 : ∀ env x, foldedSetIterable iter1 env x = pure x) :
    PE X (.ListComp elt [⟨tg, iter, ifs, 0⟩, ⟨tg1, iter1, ifs1, 0⟩] scope pos) (TEf C (mLc2 (own.map (·.2)) mi (mEl2 t mc mi1 vs1 (mEl t1 mc1 m)))) :=
  PE.imp (pe_lc2 hc hN hi ok sb hg ht hi1 hg1 ht1 he hs hs1) fun σ H Q q => lc2_imp nd sub sub1 sb q
end
end DL
/-! D9: statements. -/
namespace DL
open PySem PySem.Spec L2
variable [WorldC]

inductive Fl where
  | next
  | brk
  | cont
  | ret (v : DV)

def PostS (C : Ct) (B : Addr → Prop) (φ : List Addr) (σ : St) (H : Hp) (e : Env) (h : Hh) (r : R Fl) (D : Ends) : Prop := match r with
  | .ok f e' h' => ∀ φ' σ' H', RS C.K B φ' σ' H' e' h' → Tr B (Wrt B σ φ e h) φ H (Wrt B σ' φ' e' h') φ' H' → (match f with
    | .next => D.nx σ' H'
    | .brk => D.bk σ' H'
    | .cont => D.ct σ' H'
    | .ret v => ∀ x, RV C.K H' (Wrt B σ' φ' e' h') σ' φ' v x → v.ok = true → D.rt x H')
  | .ex c p e' h' => ∀ φ' σ' H' d, RS C.K B φ' σ' H' e' h' → Tr B (Wrt B σ φ e h) φ H (Wrt B σ' φ' e' h') φ' H' → ExD c p d H' → C.W (C.cls c) d σ' H'
  | .stuck => False
def TSd (C : Ct) (m : M Fl) : TS := fun D σ H => ∃ B φ e h, RS C.K B φ σ H e h ∧ PostS C B φ σ H e h (m e h) D

section
variable {C : Ct} {B : Addr → Prop} {φ φ1 : List Addr} {σ σ1 : St} {H H1 : Hp} {e e1 : Env} {h h1 : Hh} {D : Ends} {α β : Type} {Rel : Hp → (Addr → Prop) → List Addr → α → β → Prop}
theorem PostS.shift {r : R Fl} (p : PostS C B φ σ H e h r D) (s : Tr B (Wrt B σ φ e h) φ H (Wrt B σ1 φ1 e1 h1) φ1 H1) : PostS C B φ1 σ1 H1 e1 h1 r D := by
  cases r with
  | ok f e' h' => exact fun φ' σ' H' a b => p φ' σ' H' a (s.trans b)
  | ex c q e' h' => exact fun φ' σ' H' d a b c => p φ' σ' H' d a (s.trans b) c
  | stuck => exact p
theorem PostS.bindE {m : R α} {f : α → M Fl} {Q1 : β → Hp → Prop} (p : PostS C B φ σ H e h (m.bind f) D)
    (k : ∀ a e1 h1 φ1 H1 b, m = .ok a e1 h1 → RS C.K B φ1 σ H1 e1 h1 → Step B σ φ H e h φ1 H1 e1 h1 → Rel H1 (Wrt B σ φ1 e1 h1) φ1 a b → PostS C B φ1 σ H1 e1 h1 (f a e1 h1) D → Q1 b H1) :
    PostG C Rel B φ σ H e h m Q1 := by
  cases m with
  | ok a e1 h1 => exact fun φ1 H1 b r s t => k a e1 h1 φ1 H1 b rfl r s t (PostS.shift (show PostS C B φ σ H e h (f a e1 h1) D from p) s.t)
  | ex c q e1 h1 => exact fun φ1 H1 d r s x => p φ1 σ H1 d r s.t x
  | stuck => exact p
theorem PostS.bindF {m : R DV} {f : DV → M Fl} {Q1 : VK} {H0 : Hp} (p : PostS C B φ σ H e h (m.bind f) D)
    (k : ∀ a e1 h1 φ1 H1 b, m = .ok a e1 h1 → RS C.K B φ1 σ H1 e1 h1 → Step B σ φ H e h φ1 H1 e1 h1 → FV C.K H0 B φ1 σ H1 e1 h1 a b → PostS C B φ σ H e h (f a e1 h1) D → Q1 b H1) :
    PostF C B φ σ H e h m Q1 H0 := by
  cases m with
  | ok a e1 h1 => exact fun φ1 H1 b r s t => k a e1 h1 φ1 H1 b rfl r s t p
  | ex c q e1 h1 => exact fun φ1 H1 d r s x => p φ1 σ H1 d r s.t x
  | stuck => exact p
end

def sNil : M Fl := fun e h => .ok .next e h
def endSeqS (ms : M Fl) (f : Fl) : M Fl := fun e h => match f with
  | .next => ms e h
  | f => .ok f e h
def sCons (m ms : M Fl) : M Fl := fun e h => (m e h).bind (endSeqS ms)
def sExpr (m : M DV) : M Fl := fun e h => (m e h).bind fun _ e h => .ok .next e h
def endAsg (i : Nat) (v : DV) : M Fl := fun e h => if v.ok then .ok .next (e.set i (.val v)) h else .stuck
def sAsg (i : Nat) (m : M DV) : M Fl := fun e h => (m e h).bind (endAsg i)
def endOwn (i : Nat) (v : DV) : M Fl := fun e h => match v with
  | .d (.list ds) => if i < e.length then .ok .next (e.set i (.obj (.lst ds))) h else .stuck
  | .d (.dict kvs) => if i < e.length then .ok .next (e.set i (.obj (.dct kvs))) h else .stuck
  | _ => .stuck
def sOwn (i : Nat) (m : M DV) : M Fl := fun e h => (m e h).bind (endOwn i)
def endTgt (t : Tg) (v : DV) : M Fl := fun e h => match v with
  | .d p => match asgT t p e with
    | some e1 => .ok .next e1 h
    | none => .stuck
  | _ => .stuck
def sTgt (t : Tg) (m : M DV) : M Fl := fun e h => (m e h).bind (endTgt t)
def endPar (i j : Nat) (vs : List DV) : M Fl := fun e h => match vs with
  | [v, w] => if v.ok && w.ok then .ok .next ((e.set i (.val v)).set j (.val w)) h else .stuck
  | _ => .stuck
def sPar (i j : Nat) (ms : M (List DV)) : M Fl := fun e h => (ms e h).bind (endPar i j)
def endRet (v : DV) : M Fl := fun e h => if v.ok then .ok (.ret v) e h else .stuck
def sRet (m : M DV) : M Fl := fun e h => (m e h).bind endRet
def endIf (a b : M Fl) (k : Bool) : M Fl := fun e h => if k then a e h else b e h
def sIf (c : M Bool) (a b : M Fl) : M Fl := fun e h => (c e h).bind (endIf a b)
def sBrk : M Fl := fun e h => .ok .brk e h
def sCont : M Fl := fun e h => .ok .cont e h
def whEnd (r : M Fl) (fl : Fl) : M Fl := fun e h => match fl with
  | .next => r e h
  | .cont => r e h
  | .brk => .ok .next e h
  | .ret v => .ok (.ret v) e h
def forGo (f : P → M Fl) : List P → M Fl
  | [] => sNil
  | x :: xs => fun e h => (f x e h).bind (whEnd (forGo f xs))
def forTurn (t : Tg) (b : M Fl) (x : P) : M Fl := fun e h => match asgT t x e with
  | some e1 => b e1 h
  | none => .stuck
def sFor (t : Tg) (mi : M (List P)) (b : M Fl) : M Fl := fun e h => (mi e h).bind (forGo (forTurn t b))
def whGo (c : M Bool) (b : M Fl) : Nat → M Fl
  | 0 => fun _ _ => .stuck
  | n + 1 => fun e h => (c e h).bind (endIf (fun e h => (b e h).bind (whEnd (whGo c b n))) sNil)
def sWh (n : Nat) (c : M Bool) (b : M Fl) : M Fl := whGo c b n
/-- o[i] = v on an owned list -/
def ixP (n : Nat) (i : Int) : Option Nat := if 0 ≤ i then (if i < n then some i.toNat else none) else if -(n : Int) ≤ i then some (i + n).toNat else none
def endSet (v o k : DV) : M Fl := fun e h => match v, o, k with
  | .d p, .ob w, .d k => match oc e h w with
    | some (.lst ds) => match k with
      | .int i => match ixP ds.length i with
        | some j => .ok .next (setO w (.lst (ds.set j p)) e h).1 (setO w (.lst (ds.set j p)) e h).2
        | none => .stuck
      | _ => .stuck
    | some (.dct kvs) => if keyOk kvs k && decide ((dput kvs k p).length ≤ 16777216) then .ok .next (setO w (.dct (dput kvs k p)) e h).1 (setO w (.dct (dput kvs k p)) e h).2 else .stuck
    | _ => .stuck
  | _, _, _ => .stuck
def sSet (mv mo mk : M DV) : M Fl := fun e h => (mv e h).bind fun v e h => (mo e h).bind fun o e h => (mk e h).bind fun k e h => endSet v o k e h
def sRaise (c : Nat) : M Fl := fun e h => .ex c .none e h

section
variable {X : Cx} {C : Ct} {st : Stmt} {sts body : List Stmt} {ex a b c : Expr} {m : M DV} {mc : M Bool} {ms : M (List DV)} {mi : M (List P)} {n n1 n2 : M Fl} {pos : Pos} {t : Tg}
theorem s_nil : PSs X [] (TSd C sNil) := PSs.imp pss_nil fun D σ H ⟨B, φ, e, h, s, q⟩ => q φ σ H s Tr.refl
theorem s_cons (h1 : PS X st (TSd C n1)) (h2 : PSs X sts (TSd C n2)) : PSs X (st :: sts) (TSd C (sCons n1 n2)) := by
  refine PSs.imp (pss_cons h1 h2) fun D σ H ⟨B, φ, e, h, s, q⟩ => ⟨B, φ, e, h, s, ?_⟩
  unfold sCons at q
  cases c : n1 e h with
  | ok f e1 h1 =>
    rw [c] at q
    intro φ1 σ1 H1 s1 t1
    have q1 := PostS.shift q t1
    cases f with
    | next => exact ⟨B, φ1, e1, h1, s1, q1⟩
    | brk => exact q1 φ1 σ1 H1 s1 Tr.refl
    | cont => exact q1 φ1 σ1 H1 s1 Tr.refl
    | ret v => exact fun x r k => q1 φ1 σ1 H1 s1 Tr.refl x r k
  | ex c p e1 h1 => rw [c] at q; exact q
  | stuck => rw [c] at q; exact q
theorem s_expr (he : PE X ex (TEd C m)) (hs : swapsWith ex none pos.line X.env = pure false) : PS X (.Expr ex pos) (TSd C (sExpr m)) := by
  refine PS.imp (ps_expr he hs) fun D σ H ⟨B, φ, e, h, s, q⟩ => ?_
  exact ⟨B, φ, e, h, s, PostS.bindE (f := fun _ e h => .ok .next e h) q fun v e1 h1 φ1 H1 x _ s1 st1 r1 p1 => p1 φ1 σ H1 s1 Tr.refl⟩
theorem s_doc {x : Str} {j : Nat} {p : Pos} : PS X (.Expr (.Constant (.str x) j p) pos) (TSd C sNil) := PS.imp ps_doc fun D σ H ⟨B, φ, e, h, s, q⟩ => q φ σ H s Tr.refl
theorem s_pass : PS X (.Pass pos) (TSd C sNil) := PS.imp ps_pass fun D σ H ⟨B, φ, e, h, s, q⟩ => q φ σ H s Tr.refl
theorem s_brk : PS X (.Break pos) (TSd C sBrk) := PS.imp ps_break fun D σ H ⟨B, φ, e, h, s, q⟩ => q φ σ H s Tr.refl
theorem s_cont : PS X (.Continue pos) (TSd C sCont) := PS.imp ps_continue fun D σ H ⟨B, φ, e, h, s, q⟩ => q φ σ H s Tr.refl
theorem asg_imp {i : Nat} {D : Ends} {σ : St} {H : Hp} (t : TSd C (sAsg i m) D σ H) : tAsg (TEd C m) (gName i) D σ H := by
  obtain ⟨B, φ, e, h, s, q⟩ := t
  refine ⟨B, φ, e, h, s, PostS.bindE (f := endAsg i) q fun v e1 h1 φ1 H1 x _ s1 st1 r1 p1 => ?_⟩
  unfold endAsg at p1
  by_cases k : v.ok = true
  · rw [if_pos k] at p1
    exact p1 φ1 _ H1 (s1.setVal r1 k) ⟨List.prefix_rfl, Gr.weak (Wrt.drop oc_set_val), fun _ z => z, fun _ _ => rfl⟩
  · rw [if_neg k] at p1; exact p1.elim
theorem own_imp {i : Nat} {D : Ends} {σ : St} {H : Hp} (t : TSd C (sOwn i m) D σ H) : tAsg (TEf C m) (gName i) D σ H := by
  obtain ⟨B, φ, e, h, s, q⟩ := t
  refine ⟨B, φ, e, h, s, PostS.bindF (f := endOwn i) q fun v e1 h1 φ1 H1 x _ s1 st1 f1 p1 => ?_⟩
  cases v with
  | ob w => exact p1.elim
  | scr ns => exact p1.elim
  | d p =>
    cases p with
    | list ds =>
      simp only [endOwn] at p1
      by_cases l : i < e1.length
      · rw [if_pos l] at p1
        obtain ⟨a, xs, rfl, n0, nB, hx, dl, s2, rs⟩ := f1
        have lσ : i < σ.length := by rw [← s1.len]; exact l
        have s3 := s2.setObj (o := .lst ds) lσ nB ⟨xs, hx, dl, rs⟩
        refine p1 φ1 _ H1 s3 ⟨st1.phi, fun b u z k => ?_, st1.tr, st1.bk⟩
        obtain ⟨z1, k1⟩ := st1.gr b u z k
        refine ⟨z1, fun w => ?_⟩
        have nb : b ≠ a := fun y => by subst y; rw [n0] at z; cases z
        rcases w with w | ⟨w, o, w1, w2⟩
        · exact k1 (.inl w)
        · cases w with
          | loc j =>
            by_cases y : i = j
            · subst y
              have : oa (σ.set i (some (.ref a))) φ1 (.loc i) = some a := by
                show (match (σ.set i (some (V.ref a)))[i]? with | some (some (.ref a)) => some a | _ => none) = _
                rw [List.getElem?_set_self lσ]
              rw [this] at w2
              cases w2
              exact nb rfl
            · rw [oc_set_ne y] at w1
              rw [oa_set_ne y] at w2
              exact k1 (.inr ⟨.loc j, o, w1, w2⟩)
          | mem k => exact k1 (.inr ⟨.mem k, o, w1, w2⟩)
      · rw [if_neg l] at p1; exact p1.elim
    | dict kvs =>
      simp only [endOwn] at p1
      by_cases l : i < e1.length
      · rw [if_pos l] at p1
        obtain ⟨a, rfl, n0, nB, s2, rd⟩ := f1
        have lσ : i < σ.length := by rw [← s1.len]; exact l
        have s3 := s2.setObj (o := .dct kvs) lσ nB rd
        refine p1 φ1 _ H1 s3 ⟨st1.phi, fun b u z k => ?_, st1.tr, st1.bk⟩
        obtain ⟨z1, k1⟩ := st1.gr b u z k
        refine ⟨z1, fun w => ?_⟩
        have nb : b ≠ a := fun y => by subst y; rw [n0] at z; cases z
        rcases w with w | ⟨w, o, w1, w2⟩
        · exact k1 (.inl w)
        · cases w with
          | loc j =>
            by_cases y : i = j
            · subst y
              have : oa (σ.set i (some (.ref a))) φ1 (.loc i) = some a := by
                show (match (σ.set i (some (V.ref a)))[i]? with | some (some (.ref a)) => some a | _ => none) = _
                rw [List.getElem?_set_self lσ]
              rw [this] at w2
              cases w2
              exact nb rfl
            · rw [oc_set_ne y] at w1
              rw [oa_set_ne y] at w2
              exact k1 (.inr ⟨.loc j, o, w1, w2⟩)
          | mem k => exact k1 (.inr ⟨.mem k, o, w1, w2⟩)
      · rw [if_neg l] at p1; exact p1.elim
    | _ => exact p1.elim
theorem s_asg {i : Nat} {x : Str} {p : Pos} (hN : X.N.Nodup) (hi : X.N[i]? = some x) (hx : Loc X.env.scope x) (he : PE X ex (TEd C m)) (hs : swapsWith ex (some (.Name x p)) pos.line X.env = pure false) (hf : X.fn x = true ∨ X.env.scope.names.lookup x = some .local) :
    PS X (.Assign [.Name x p] ex pos) (TSd C (sAsg i m)) := PS.imp (ps_set hN hi hx he hs hf) fun D σ H t => asg_imp t
theorem s_own {i : Nat} {x : Str} {p : Pos} (hN : X.N.Nodup) (hi : X.N[i]? = some x) (hx : Loc X.env.scope x) (he : PE X ex (TEf C m)) (hs : swapsWith ex (some (.Name x p)) pos.line X.env = pure false) (hf : X.fn x = true ∨ X.env.scope.names.lookup x = some .local) :
    PS X (.Assign [.Name x p] ex pos) (TSd C (sOwn i m)) := PS.imp (ps_set hN hi hx he hs hf) fun D σ H t => own_imp t
theorem s_tgt (he : PE X ex (TEd C m)) (hg : PG X a (TGd C t)) (hs : swapsWithSole [a] ex pos.line X.env = pure false) (hw : swappedStores [a] ex X.env = pure none) (h1 : (assignEach [a] X.env).map (·.2) = [assign a X.env]) : PS X (.Assign [a] ex pos) (TSd C (sTgt t m)) := by
  refine PS.imp (ps_asg he hg hs hw h1) fun D σ H ⟨B, φ, e, h, s, q⟩ => ?_
  refine ⟨B, φ, e, h, s, PostS.bindE (f := endTgt t) q fun v e1 h1 φ1 H1 x _ s1 st1 r1 p1 => ?_⟩
  cases v with
  | ob w => exact p1.elim
  | scr ns => exact p1.elim
  | d p =>
    refine ⟨B, φ1, e1, h1, p, s1, r1, ?_⟩
    simp only [endTgt] at p1
    cases c : asgT t p e1 with
    | none => rw [c] at p1; exact p1.elim
    | some e2 =>
      rw [c] at p1
      exact fun σ2 s2 w2 o2 => p1 φ1 σ2 H1 s2 ⟨List.prefix_rfl, Gr.weak w2, fun _ z => z, fun _ _ => rfl⟩
theorem s_par {i j : Nat} {x y : Str} {px py pt : Pos} {kt k2 : Nat} {pt2 : Pos} (hc : X.calm = true) (hN : X.N.Nodup) (hi : X.N[i]? = some x) (hj : X.N[j]? = some y) (hij : i ≠ j)
    (hx : X.env.scope.names.lookup x = some .local) (hy : X.env.scope.names.lookup y = some .local) (ha : PA X [a, b] (TAd C ms))
    (hw : swappedStores [.Tuple [.Name x px, .Name y py] kt pt] (.Tuple [a, b] k2 pt2) X.env = pure (some [x, y]))
    (hs : swapsWithSole [.Tuple [.Name x px, .Name y py] kt pt] (.Tuple [a, b] k2 pt2) pos.line X.env = pure false) :
    PS X (.Assign [.Tuple [.Name x px, .Name y py] kt pt] (.Tuple [a, b] k2 pt2) pos) (TSd C (sPar i j ms)) := by
  refine PS.imp (ps_par hc hN hi hj hij hx hy ha hw hs) fun D σ H ⟨B, φ, e, h, s, q⟩ => ?_
  refine ⟨B, φ, e, h, s, PostS.bindE (f := endPar i j) q fun vs e1 h1 φ1 H1 xs em s1 st1 r1 p1 => ?_⟩
  unfold endPar at p1
  split at p1
  · rename_i v w
    by_cases k : (v.ok && w.ok) = true
    · rw [if_pos k] at p1
      rw [Bool.and_eq_true] at k
      cases r1 with
      | @cons _ _ y1 _ a b =>
        cases b with
        | @cons _ _ y2 _ b c =>
          cases c
          have s2 := s1.setVal (i := i) a k.1
          have g2 : Gr H1 (Wrt B σ φ1 e1 h1) H1 (Wrt B (σ.set i (some y1)) φ1 (e1.set i (.val v)) h1) := Gr.weak (Wrt.drop oc_set_val)
          have s3 := s2.setVal (i := j) ((b.sig k.2).mono g2 List.prefix_rfl) k.2
          exact ⟨_, _, rfl, p1 φ1 ((σ.set i (some y1)).set j (some y2)) H1 s3 ⟨List.prefix_rfl, g2.trans (Gr.weak (Wrt.drop oc_set_val)), fun _ z => z, fun _ _ => rfl⟩⟩
    · rw [if_neg k] at p1; exact p1.elim
  · exact p1.elim
theorem s_ret (he : PE X ex (TEd C m)) : PS X (.Return (some ex) pos) (TSd C (sRet m)) := by
  refine PS.imp (ps_ret he) fun D σ H ⟨B, φ, e, h, s, q⟩ => ?_
  refine ⟨B, φ, e, h, s, PostS.bindE (f := endRet) q fun v e1 h1 φ1 H1 x _ s1 st1 r1 p1 => ?_⟩
  unfold endRet at p1
  by_cases k : v.ok = true
  · rw [if_pos k] at p1
    exact p1 φ1 σ H1 s1 Tr.refl x r1 k
  · rw [if_neg k] at p1; exact p1.elim
theorem s_retN : PS X (.Return none pos) (TSd C (sRet (mK .none))) := by
  refine PS.imp ps_retN fun D σ H ⟨B, φ, e, h, s, q⟩ => ?_
  exact q φ σ H s Tr.refl .non .non rfl
theorem s_if (hc : PT X c (TTd C mc)) (ha : PSs X sts (TSd C n1)) (hb : PSs X body (TSd C n2)) : PS X (.If c sts body pos) (TSd C (sIf mc n1 n2)) := by
  refine PS.imp (ps_if hc ha hb) fun D σ H ⟨B, φ, e, h, s, q⟩ => ?_
  refine ⟨B, φ, e, h, s, PostS.bindE (f := endIf n1 n2) q fun k e1 h1 φ1 H1 k' _ s1 st1 r1 p1 => ?_⟩
  subst r1
  cases k with
  | true => exact ⟨B, φ1, e1, h1, s1, p1⟩
  | false => exact ⟨B, φ1, e1, h1, s1, p1⟩
theorem s_for {iter : Expr} (hp : PassesOwn (model X.prog X.w) X.A X.env X.xe) (hc : X.calm = true) (hi : PI X a iter (TId C mi)) (hg : PG X a (TGd C t)) (hb : PSs X body (TSd C n)) (hs : ∀ x, foldedSetIterable iter X.env x = pure x) :
    PS X (.For a iter body [] pos) (TSd C (sFor t mi n)) := by
  refine PS.imp (ps_for hp hc hi hg hb hs) fun D σ H ⟨B, φ, e, h, s, q⟩ => ?_
  refine ⟨B, φ, e, h, s, PostS.bindE (f := forGo (forTurn t n)) q fun ds e1 h1 φ1 H1 J _ s1 st1 ik p1 => ?_⟩
  refine ⟨fun i k σ2 H2 => k = ds.length - i ∧ i ≤ ds.length ∧ ∃ φ2 e2 h2, RS C.K B φ2 σ2 H2 e2 h2 ∧ Tr B (Wrt B σ φ1 e1 h1) φ1 H1 (Wrt B σ2 φ2 e2 h2) φ2 H2 ∧ PostS C B φ2 σ2 H2 e2 h2 (forGo (forTurn t n) (ds.drop i) e2 h2) D,
    ⟨ds.length, by simp, Nat.zero_le _, φ1, e1, h1, s1, Tr.refl, by simpa using p1⟩, ?_⟩
  rintro i k σ2 H2 ⟨rfl, hi2, φ2, e2, h2, s2, t2, q2⟩
  obtain ⟨dl, k1, k2⟩ := ik H2 _ t2.gr s2.wN
  by_cases lt : i < ds.length
  · obtain ⟨x, hx⟩ : ∃ x, ds[i]? = some x := ⟨ds[i], List.getElem?_eq_getElem lt⟩
    obtain ⟨go1, yl⟩ := k1 i x hx
    have hd : ds.drop i = x :: ds.drop (i + 1) := by
      rw [List.drop_eq_getElem_cons lt]
      have := List.getElem?_eq_getElem lt
      rw [hx] at this
      cases this
      rfl
    rw [hd] at q2
    refine .inr ⟨go1, fun σ3 H3 => ∃ k', k' < ds.length - i ∧ (k' = ds.length - (i + 1) ∧ i + 1 ≤ ds.length ∧ ∃ φ2 e2 h2, RS C.K B φ2 σ3 H3 e2 h2 ∧ Tr B (Wrt B σ φ1 e1 h1) φ1 H1 (Wrt B σ3 φ2 e2 h2) φ2 H3 ∧ PostS C B φ2 σ3 H3 e2 h2 (forGo (forTurn t n) (ds.drop (i + 1)) e2 h2) D), fun _ _ z => z, fun y H3 hy => ?_⟩
    obtain ⟨ex3, ry⟩ := yl y H3 hy
    obtain ⟨s3, st3⟩ := s2.ext ex3
    refine ⟨B, φ2, e2, h2, x, s3, ry, ?_⟩
    have q3 := PostS.shift q2 st3.t
    simp only [forGo, forTurn] at q3
    cases f2 : asgT t x e2 with
    | none => rw [f2] at q3; exact q3.elim
    | some e4 =>
      rw [f2] at q3
      intro σ4 s4 w4 o4
      have t4 : Tr B (Wrt B σ2 φ2 e2 h2) φ2 H3 (Wrt B σ4 φ2 e4 h2) φ2 H3 := ⟨List.prefix_rfl, Gr.weak w4, fun _ z => z, fun _ _ => rfl⟩
      have q4 := PostS.shift q3 t4
      have t14 := t2.trans (st3.t.trans t4)
      refine ⟨B, φ2, e4, h2, s4, ?_⟩
      cases f3 : n e4 h2 with
      | ok fl e5 h5 =>
        simp only [f3, R.bind_ok] at q4
        intro φ5 σ5 H5 s5 t5
        have q5 := PostS.shift q4 t5
        cases fl with
        | next => exact ⟨_, by omega, rfl, by omega, φ5, e5, h5, s5, t14.trans t5, q5⟩
        | cont => exact ⟨_, by omega, rfl, by omega, φ5, e5, h5, s5, t14.trans t5, q5⟩
        | brk => exact q5 φ5 σ5 H5 s5 Tr.refl
        | ret v => exact fun x r k => q5 φ5 σ5 H5 s5 Tr.refl x r k
      | ex c p e5 h5 => simp only [f3, R.bind_ex] at q4; exact q4
      | stuck => simp only [f3, R.bind_stuck] at q4; exact q4
  · have ie : i = ds.length := by omega
    subst ie
    rw [List.drop_length] at q2
    exact .inl ⟨k2 _ (Nat.le_refl _), q2 φ2 σ2 H2 s2 Tr.refl⟩
theorem s_while {k : Nat} (hp : PassesOwn (model X.prog X.w) X.A X.env X.xe) (hc : PT X c (TTd C mc)) (hb : PSs X body (TSd C n)) : PS X (.While c body [] pos) (TSd C (sWh k mc n)) := by
  refine PS.imp (ps_while hp hc hb) fun D σ H ⟨B, φ, e, h, s, q⟩ => ?_
  refine ⟨fun k σ2 H2 => ∃ φ2 e2 h2, RS C.K B φ2 σ2 H2 e2 h2 ∧ PostS C B φ2 σ2 H2 e2 h2 (whGo mc n k e2 h2) D, ⟨k, φ, e, h, s, q⟩, ?_⟩
  rintro k σ2 H2 ⟨φ2, e2, h2, s2, q2⟩
  cases k with
  | zero => exact q2.elim
  | succ k =>
    refine ⟨B, φ2, e2, h2, s2, PostS.bindE (f := endIf (fun e h => (n e h).bind (whEnd (whGo mc n k))) sNil) q2 fun b e3 h3 φ3 H3 b' _ s3 st3 rb p3 => ?_⟩
    subst rb
    cases b with
    | false => exact p3 φ3 σ2 H3 s3 Tr.refl
    | true =>
      refine ⟨fun σ4 H4 => ∃ φ2 e2 h2, RS C.K B φ2 σ4 H4 e2 h2 ∧ PostS C B φ2 σ4 H4 e2 h2 (whGo mc n k e2 h2) D, fun σ4 H4 z => ⟨k, Nat.lt_succ_self _, z⟩, B, φ3, e3, h3, s3, ?_⟩
      simp only [endIf, if_true] at p3
      cases f3 : n e3 h3 with
      | ok fl e5 h5 =>
        simp only [f3, R.bind_ok] at p3
        intro φ5 σ5 H5 s5 t5
        have q5 := PostS.shift p3 t5
        cases fl with
        | next => exact ⟨φ5, e5, h5, s5, q5⟩
        | cont => exact ⟨φ5, e5, h5, s5, q5⟩
        | brk => exact q5 φ5 σ5 H5 s5 Tr.refl
        | ret v => exact fun x r k => q5 φ5 σ5 H5 s5 Tr.refl x r k
      | ex c p e5 h5 => simp only [f3, R.bind_ex] at p3; exact p3
      | stuck => simp only [f3, R.bind_stuck] at p3; exact p3
/-- o[i] = v of a list or a dict -/
def rSetA (K : Fg) : V → V → V → Hp → (Hp → Prop) → Prop := fun o i v H Q => rSetL o i v H Q ∨ ∃ (W : Addr → Prop) (a : Addr) (kvs : List (P × P)) (k d : P), o = .ref a ∧ W a ∧ RD K H W a kvs ∧ keyOk kvs k = true ∧ RP K H W k i ∧ RP K H W d v ∧ (dput kvs k d).length ≤ 16777216 ∧
  ∀ ob, Mut (some ob) → RD K (upd H a ob) W a (dput kvs k d) → Q (upd H a ob)
theorem set_any (hw : X.w = WorldC.w) (hu : X.A.units + 200 < cLine) : PSet X (rSetA X.K) := by
  intro pins s σ H o i v ov iv u Q I ro ri rv h
  rcases h with h | ⟨W, a, kvs, k, d, rfl, wa, rd, ko, rk, rdv, l, q⟩
  · exact set_list pins s σ H o i v ov iv u Q I ro ri rv h
  · cases ro
    exact dd_setItem (by omega) hw I rd wa ko rk ri rdv rv l fun s' ob mu I' rd' => ⟨_, I', q ob mu rd'⟩
theorem s_set {o k : Expr} {mo mk : M DV} {p : Pos} (hK : C.K = X.K) (hwd : X.w = WorldC.w) (hu : X.A.units + 200 < cLine) (hv : PE X ex (TEd C m)) (ho : PE X o (TEd C mo)) (hk : PE X k (TEd C mk))
    (ha : ∀ v, assign (.Subscript o k p) X.env v = (do
      let ov ← holding [v] (eval o X.env)
      let iv ← holding [v, ov] (eval k X.env)
      standAt p
      holding [v, ov, iv] (setItem ov iv v)
      release [v, ov, iv] []))
    (hs : swapsWithSole [.Subscript o k p] ex pos.line X.env = pure false) (hw : swappedStores [.Subscript o k p] ex X.env = pure none) (h1 : (assignEach [.Subscript o k p] X.env).map (·.2) = [assign (.Subscript o k p) X.env]) :
    PS X (.Assign [.Subscript o k p] ex pos) (TSd C (sSet m mo mk)) := by
  refine PS.imp (ps_asg hv (pg_sub ho hk (set_any hwd hu) ha) hs hw h1) fun D σ H ⟨B, φ, e, h, s, q⟩ => ?_
  refine ⟨B, φ, e, h, s, PostS.bindE (f := fun v e h => (mo e h).bind fun o e h => (mk e h).bind fun k e h => endSet v o k e h) q fun v e1 h1 φ1 H1 x em1 s1 st1 r1 p1 => ?_⟩
  refine ⟨B, φ1, e1, h1, s1, PostS.bindE (f := fun o e h => (mk e h).bind fun k e h => endSet v o k e h) p1 fun o e2 h2 φ2 H2 y em2 s2 st2 r2 p2 => ?_⟩
  refine ⟨B, φ2, e2, h2, s2, PostS.bindE (f := fun k e h => endSet v o k e h) p2 fun k e3 h3 φ3 H3 z em3 s3 st3 r3 p3 => ?_⟩
  unfold endSet at p3
  split at p3
  · rename_i p w k
    cases c : oc e3 h3 w with
    | none => rw [c] at p3; exact p3.elim
    | some ob =>
      obtain ⟨a, q1, q2, _⟩ := s3.obj w _ c
      obtain ⟨a', q4, rfl⟩ := r2.mono st3.gr st3.phi
      rw [q1] at q4
      cases q4
      have rp : RP C.K H3 (Wrt B σ φ3 e3 h3) p x := (r1.mono st2.gr st2.phi).mono st3.gr st3.phi
      have wa : Wrt B σ φ3 e3 h3 a := .inr ⟨w, _, c, q1⟩
      cases ob with
      | lsv ds => rw [c] at p3; exact p3.elim
      | lst ds =>
        rw [c] at p3
        simp only at p3
        cases k with
        | int i =>
          simp only at p3
          cases c2 : ixP ds.length i with
          | none => rw [c2] at p3; exact p3.elim
          | some j =>
            rw [c2] at p3
            simp only at p3
            obtain ⟨xs, q2, l2, q3⟩ := q2
            cases r3
            refine .inl ⟨a, xs, i, j, rfl, rfl, q2, by rw [← q3.length]; exact c2, ?_⟩
            obtain ⟨s4, st4⟩ := s3.put (u := .lst (xs.set j x)) (o := .lst (ds.set j p)) c q1 ⟨xs.set j x, upd_same, by simpa using l2, (q3.set rp j).mono (gr_upd wa)⟩
            exact p3 φ3 σ _ s4 st4.t
        | _ => exact p3.elim
      | dct kvs =>
        rw [c] at p3
        simp only at p3
        split at p3
        · rename_i ko
          simp only [Bool.and_eq_true, decide_eq_true_eq] at ko
          have rd : RD C.K H3 (Wrt B σ φ3 e3 h3) a kvs := q2
          refine .inr ⟨_, a, kvs, k, p, rfl, wa, hK ▸ rd, ko.1, hK ▸ r3, hK ▸ rp, ko.2, fun ob mu rd' => ?_⟩
          obtain ⟨s4, st4⟩ := s3.put (u := ob) (o := .dct (dput kvs k p)) c q1 (hK.symm ▸ rd')
          exact p3 φ3 σ _ s4 st4.t
        · exact p3.elim
  · exact p3.elim
theorem s_raise {k : Nat} {W : WX} {ex : Expr} (hc : X.calm = true) (tk : Takes X C.W) (he : PMk X ex fun _ H Q => Q (C.cls k) none H) : PS X (.Raise (some ex) none pos) (TSd C (sRaise k)) := by
  refine PS.imp (ps_raise hc tk he) fun D σ H ⟨B, φ, e, h, s, q⟩ => ?_
  exact q φ σ H none s Tr.refl rfl
end
end DL
/-! D10: the operations' rules. -/
namespace DL
open PySem PySem.Spec L2
variable [WorldC]

/-! ### the operations -/
abbrev Op := List P → Option P
def addP : Op
  | [.int i, .int j] => some (.int (i + j))
  | [.str x, .str y] => if x.length + y.length ≤ 16777216 then some (.str (x ++ y)) else none
  | [.list xs, .list ys] => if xs.length + ys.length ≤ 16777216 then some (.list (xs ++ ys)) else none
  | [.tuple xs, .tuple ys] => if xs.length + ys.length ≤ 16777216 then some (.tuple (xs ++ ys)) else none
  | _ => none
def subP : Op
  | [.int i, .int j] => some (.int (i - j))
  | _ => none
def mulP : Op
  | [.int i, .int j] => if (-18446744073709551616 < i ∧ i < 18446744073709551616) ∨ (-18446744073709551616 < j ∧ j < 18446744073709551616) then some (.int (i * j)) else none
  | [.tuple (x :: xs), .int k] => if 2 ≤ k ∧ k ≤ 1000 ∧ (x :: xs).length ≤ 1000 then some (.tuple (List.replicate k.toNat (x :: xs)).flatten) else none
  | _ => none
def fdivP : Op
  | [.int i, .int j] => if 0 < j ∧ j < 1073741824 then some (.int (i / j)) else none
  | _ => none
def modP : Op
  | [.int i, .int j] => if 0 < j then some (.int (i % j)) else none
  | _ => none
def powP : Op
  | [.int i, .int j] => if 0 ≤ j ∧ j ≤ 1000 ∧ i.natAbs < 18446744073709551616 then some (.int (i ^ j.toNat)) else none
  | _ => none
def negP : Op
  | [.int i] => some (.int (-i))
  | _ => none
def shallow (p q : P) : Bool := decide (min p.depth q.depth ≤ 100) && nod p && nod q
def eqP : Op
  | [p, q] => if shallow p q then some (.bool (PyData.eqv p q)) else none
  | _ => none
def neP : Op
  | [p, q] => if shallow p q then some (.bool (!PyData.eqv p q)) else none
  | _ => none
def strLt (x y : Str) : Bool := decide (x.cps.toList < y.cps.toList)
def ltP : Op
  | [.int i, .int j] => some (.bool (decide (i < j)))
  | [.str x, .str y] => some (.bool (strLt x y))
  | [.tuple xs, .tuple ys] => if PySem.W.alike (.tuple xs) (.tuple ys) && shallow (.tuple xs) (.tuple ys) then some (.bool (PySem.W.dataLt (.tuple xs) (.tuple ys))) else none
  | _ => none
def leP : Op
  | [.int i, .int j] => some (.bool (decide (i ≤ j)))
  | [.str x, .str y] => some (.bool (!strLt y x))
  | _ => none
def gtP : Op
  | [.int i, .int j] => some (.bool (decide (j < i)))
  | _ => none
def geP : Op
  | [.int i, .int j] => some (.bool (decide (j ≤ i)))
  | _ => none
def inStr (x y : Str) : Bool := !(Builtin.Str.occurrences y x 0 y.length 1).isEmpty
def memP (p : P) (ds : List P) : Bool := ds.any fun y => PyData.eqv y p
def inP : Op
  | [p, .list ds] => if decide (min (PyData.depthAll ds) p.depth ≤ 100) && nod p && nods ds then some (.bool (memP p ds)) else none
  | [p, .tuple ds] => if decide (min (PyData.depthAll ds) p.depth ≤ 100) && nod p && nods ds then some (.bool (memP p ds)) else none
  | [p, .dict kvs] => if keyOk kvs p then some (.bool (dget kvs p).isSome) else none
  | [.str x, .str y] => some (.bool (inStr x y))
  | _ => none
def notinP : Op
  | [p, .list ds] => if decide (min (PyData.depthAll ds) p.depth ≤ 100) && nod p && nods ds then some (.bool (!memP p ds)) else none
  | [p, .tuple ds] => if decide (min (PyData.depthAll ds) p.depth ≤ 100) && nod p && nods ds then some (.bool (!memP p ds)) else none
  | [p, .dict kvs] => if keyOk kvs p then some (.bool (!(dget kvs p).isSome)) else none
  | [.str x, .str y] => some (.bool (!inStr x y))
  | _ => none
def isNone (p : P) : Bool := match p with
  | .none => true
  | _ => false
def isBool (b : Bool) (p : P) : Bool := match p with
  | .bool c => c == b
  | _ => false
def isP : Op
  | [p, .none] => some (.bool (isNone p))
  | [p, .bool b] => some (.bool (isBool b p))
  | _ => none
def isnotP : Op
  | [p, .none] => some (.bool (!isNone p))
  | [p, .bool b] => some (.bool (!isBool b p))
  | _ => none
def idxP : Op
  | [.list ds, .int i] => (ixP ds.length i).bind fun j => ds[j]?
  | [.tuple ds, .int i] => (ixP ds.length i).bind fun j => ds[j]?
  | [.str x, .int i] => (ixP x.length i).bind fun j => x.cps[j]?.map fun c => .str ⟨#[c]⟩
  | [.dict kvs, k] => if keyOk kvs k then dget kvs k else none
  | _ => none
def lenP : Op
  | [.list ds] => some (.int ds.length)
  | [.tuple ds] => some (.int ds.length)
  | [.str x] => some (.int x.length)
  | [.dict kvs] => some (.int kvs.length)
  | _ => none
def tupleP : Op
  | [.list ds] => some (.tuple ds)
  | [.tuple ds] => some (.tuple ds)
  | _ => none
def listP : Op
  | [.list ds] => some (.list ds)
  | [.dict kvs] => some (.list (kvs.map (·.1)))
  | [.tuple ds] => some (.list ds)
  | _ => none
def intP : Op
  | [.int i] => some (.int i)
  | [.bool b] => some (.int (if b then 1 else 0))
  | _ => none
def absP : Op
  | [.int i] => some (.int (if i < 0 then -i else i))
  | _ => none
def bools : List P → Option (List Bool)
  | [] => some []
  | .bool b :: ps => (bools ps).map (b :: ·)
  | _ :: _ => none
def intsOf : List P → Option (List Int)
  | [] => some []
  | .int i :: ps => (intsOf ps).map (i :: ·)
  | _ :: _ => none
def allP : Op
  | [.list ds] => (bools ds).map fun bs => .bool (bs.all id)
  | _ => none
def anyP : Op
  | [.list ds] => (bools ds).map fun bs => .bool (bs.any id)
  | _ => none
def minP : Op
  | [.int i, .int j] => some (.int (if j < i then j else i))
  | [.list (.int i :: ds)] => (intsOf ds).map fun ns => .int (ns.foldl min i)
  | _ => none
def maxP : Op
  | [.int i, .int j] => some (.int (if j > i then j else i))
  | [.list (.int i :: ds)] => (intsOf ds).map fun ns => .int (ns.foldl max i)
  | _ => none

section
variable {K : Fg} {H H' : Hp} {W : Addr → Prop} {X : Cx}
theorem RLs.one {p : P} {ps : List P} {x : V} (r : RLs K H W (p :: ps) [x]) : ps = [] ∧ RL K H W p x := by
  cases r with
  | cons a b => cases b; exact ⟨rfl, a⟩
theorem rls1 {ps : List P} {x : V} (r : RLs K H W ps [x]) : ∃ p, ps = [p] ∧ RL K H W p x := by
  cases r with
  | cons a b => cases b; exact ⟨_, rfl, a⟩
theorem rls2 {ps : List P} {x y : V} (r : RLs K H W ps [x, y]) : ∃ p q, ps = [p, q] ∧ RL K H W p x ∧ RL K H W q y := by
  cases r with
  | cons a b =>
    cases b with
    | cons b c => cases c; exact ⟨_, _, rfl, a, b⟩
theorem rls_nil {xs : List V} (r : RLs K H W [] xs) : xs = [] := by cases r; rfl
theorem rls_1 {p : P} {xs : List V} (r : RLs K H W [p] xs) : ∃ x, xs = [x] ∧ RL K H W p x := by
  cases r with
  | cons a b => cases b; exact ⟨_, rfl, a⟩
theorem rls_2 {p q : P} {xs : List V} (r : RLs K H W [p, q] xs) : ∃ x y, xs = [x, y] ∧ RL K H W p x ∧ RL K H W q y := by
  cases r with
  | cons a b =>
    cases b with
    | cons b c => cases c; exact ⟨_, _, rfl, a, b⟩
theorem ext_refl : ∀ a u, H a = some u → H a = some u := fun _ _ z => z
theorem strOk_app {x y : Str} (a : PyData.strOk x = true) (b : PyData.strOk y = true) : PyData.strOk (x ++ y) = true := by
  have a' : x.cps.all (· < 0x110000) = true := a
  have b' : y.cps.all (· < 0x110000) = true := b
  show (x.cps ++ y.cps).all (· < 0x110000) = true
  rw [Array.all_append, a', b']
  rfl
/-- a new list's end -/
theorem res_list {a : Addr} {ds : List P} {xs : List V} (nw : ∀ a, W a → H a ≠ none) (n : H a = none) (l : ds.length ≤ 16777216) (r : RPs K H W ds xs) : resF K H (upd H a (.lst xs)) W (.list ds) (.ref a) := by
  refine ⟨a, xs, rfl, n, upd_same, l, r.mono fun b u q k => ⟨upd_ext n b u q, fun z => ?_⟩⟩
  rcases z with z | z
  · exact k z
  · subst z; rw [n] at q; cases q
theorem res_tup {a : Addr} {ds : List P} {xs : List V} (nw : ∀ a, W a → H a ≠ none) (n : H a = none) (l : ds.length ≤ 16777216) (r : RPs K H W ds xs) : RP K (upd H a (.tup xs)) W (.tuple ds) (.ref a) :=
  .tup (.inl ⟨upd_same, fun z => nw a z n⟩) l (r.mono fun b u q k => ⟨upd_ext n b u q, k⟩)

theorem o_add : OpR X (binaryOp .Add) (fun x y => rN X.K resF addP [x, y]) := by
  intro pins s σ H x y v u Q I rx ry h
  obtain ⟨W, ps, r, nw, rl, fe, q⟩ := h
  obtain ⟨p, p', rfl, a, b⟩ := rls2 rl
  unfold addP at fe
  split at fe
  · rename_i i j heq
    cases heq; cases a; cases b; cases fe
    exact op_add pins s σ H _ _ v u Q I rx ry ⟨_, _, rfl, rfl, q _ H ext_refl (RP.int _)⟩
  · rename_i i j heq
    cases heq
    split at fe
    · rename_i l
      cases fe
      cases a with
      | str k1 l1 =>
        cases b with
        | str k2 l2 =>
          exact op_add_str pins s σ H _ _ v u Q I rx ry ⟨_, _, rfl, rfl, by rw [line16]; exact l, q _ H ext_refl (RP.str (strOk_app k1 k2) (by rw [Str.length_append]; exact l))⟩
    · cases fe
  · rename_i i j heq
    cases heq
    split at fe
    · rename_i l
      cases fe
      obtain ⟨a1, xs, rfl, q1, l1, r1⟩ := a
      obtain ⟨a2, ys, rfl, q2, l2, r2⟩ := b
      exact op_cat pins s σ H _ _ v u Q I rx ry ⟨a1, a2, xs, ys, rfl, rfl, q1, q2, by rw [line16, ← r1.length, ← r2.length]; exact l, fun p n => q _ _ (upd_ext n) (res_list nw n (by simpa using l) (r1.append r2))⟩
    · cases fe
  · rename_i i j heq
    cases heq
    split at fe
    · rename_i l
      cases fe
      cases a with
      | tup f1 l1 r1 =>
        cases b with
        | tup f2 l2 r2 =>
          rename_i xs _ ys
          refine op_catA pins s σ H _ _ v u Q I rx ry ⟨_, _, _, _, rfl, rfl, f1.sq, f2.sq, by rw [line16, ← r1.length, ← r2.length]; exact l, fun z => ?_, fun _ z => ?_, fun _ _ p n => q _ _ (upd_ext n) (res_tup nw n (by simpa using l) (r1.append r2))⟩
          · subst z
            cases r1
            exact q _ H ext_refl (RP.tup f2 l2 r2)
          · subst z
            cases r2
            refine q _ H ext_refl ?_
            rw [List.append_nil]
            exact RP.tup f1 l1 r1
    · cases fe
  · cases fe
theorem o_sub : OpR X (binaryOp .Sub) (fun x y => rN X.K resF subP [x, y]) := by
  intro pins s σ H x y v u Q I rx ry h
  obtain ⟨W, ps, r, nw, rl, fe, q⟩ := h
  obtain ⟨p, p', rfl, a, b⟩ := rls2 rl
  unfold subP at fe
  split at fe
  · rename_i i j heq
    cases heq; cases a; cases b; cases fe
    exact op_sub pins s σ H _ _ v u Q I rx ry ⟨_, _, rfl, rfl, q _ H ext_refl (RP.int _)⟩
  · cases fe
theorem o_mul : OpR X (binaryOp .Mult) (fun x y => rN X.K resF mulP [x, y]) := by
  intro pins s σ H x y v u Q I rx ry h
  obtain ⟨W, ps, r, nw, rl, fe, q⟩ := h
  obtain ⟨p, p', rfl, a, b⟩ := rls2 rl
  unfold mulP at fe
  split at fe
  · rename_i i j heq
    cases heq
    split at fe
    · rename_i l
      cases a; cases b; cases fe
      exact op_mul pins s σ H _ _ v u Q I rx ry ⟨_, _, rfl, rfl, l, q _ H ext_refl (RP.int _)⟩
    · cases fe
  · rename_i d ds k heq
    cases heq
    split at fe
    · rename_i l
      cases b; cases fe
      cases a with
      | @tup a xs _ f1 l1 r1 =>
        have ne : xs ≠ [] := by intro z; subst z; cases r1
        refine op_repT pins s σ H _ _ v u Q I rx ry ⟨_, k, xs, rfl, rfl, f1.sq, ne, l.1, l.2.1, by rw [← r1.length]; exact l.2.2, fun p n => q _ _ (upd_ext n) (res_tup nw n ?_ ?_)⟩
        · have h1 : ∀ n : Nat, (List.replicate n (d :: ds)).flatten.length = n * (d :: ds).length := fun n => by
            induction n with
            | zero => simp
            | succ n ih => rw [List.replicate_succ, List.flatten_cons, List.length_append, ih, Nat.succ_mul, Nat.add_comm]
          rw [h1]
          have h2 : k.toNat ≤ 1000 := by omega
          exact Nat.le_trans (Nat.mul_le_mul h2 l.2.2) (by decide)
        · have h1 : ∀ n : Nat, RPs X.K H W (List.replicate n (d :: ds)).flatten (List.replicate n xs).flatten := fun n => by
            induction n with
            | zero => exact .nil
            | succ n ih => rw [List.replicate_succ, List.flatten_cons, List.replicate_succ, List.flatten_cons]; exact r1.append ih
          exact h1 _
    · cases fe
  · cases fe
theorem o_fdiv : OpR X (binaryOp .FloorDiv) (fun x y => rN X.K resF fdivP [x, y]) := by
  intro pins s σ H x y v u Q I rx ry h
  obtain ⟨W, ps, r, nw, rl, fe, q⟩ := h
  obtain ⟨p, p', rfl, a, b⟩ := rls2 rl
  unfold fdivP at fe
  split at fe
  · rename_i i j heq
    cases heq
    split at fe
    · rename_i l
      cases a; cases b; cases fe
      exact op_fdiv pins s σ H _ _ v u Q I rx ry ⟨_, _, rfl, rfl, l, q _ H ext_refl (RP.int _)⟩
    · cases fe
  · cases fe
theorem o_mod : OpR X (binaryOp .Mod) (fun x y => rN X.K resF modP [x, y]) := by
  intro pins s σ H x y v u Q I rx ry h
  obtain ⟨W, ps, r, nw, rl, fe, q⟩ := h
  obtain ⟨p, p', rfl, a, b⟩ := rls2 rl
  unfold modP at fe
  split at fe
  · rename_i i j heq
    cases heq
    split at fe
    · rename_i l
      cases a; cases b; cases fe
      exact op_mod pins s σ H _ _ v u Q I rx ry ⟨_, _, rfl, rfl, l, q _ H ext_refl (RP.int _)⟩
    · cases fe
  · cases fe
theorem o_pow : OpR X (binaryOp .Pow) (fun x y => rN X.K resF powP [x, y]) := by
  intro pins s σ H x y v u Q I rx ry h
  obtain ⟨W, ps, r, nw, rl, fe, q⟩ := h
  obtain ⟨p, p', rfl, a, b⟩ := rls2 rl
  unfold powP at fe
  split at fe
  · rename_i i j heq
    cases heq
    split at fe
    · rename_i l
      cases a; cases b; cases fe
      exact op_pow pins s σ H _ _ v u Q I rx ry ⟨_, _, rfl, rfl, ⟨l.1, by omega, by omega⟩, q _ H ext_refl (RP.int _)⟩
    · cases fe
  · cases fe
theorem o_neg : UnR X (unaryOp .USub) (fun x => rN X.K resF negP [x]) := by
  intro pins s σ H x v Q I rx h
  obtain ⟨W, ps, r, nw, rl, fe, q⟩ := h
  obtain ⟨p, rfl, a⟩ := rls1 rl
  unfold negP at fe
  split at fe
  · rename_i i heq
    cases heq; cases a; cases fe
    exact un_neg pins s σ H _ v Q I rx ⟨_, rfl, q _ H ext_refl (RP.int _)⟩
  · cases fe
theorem shallow_of {p q : P} (h : shallow p q = true) : min p.depth q.depth ≤ 100 ∧ nod p = true ∧ nod q = true := by
  simp only [shallow, Bool.and_eq_true, decide_eq_true_eq] at h
  exact ⟨h.1.1, h.1.2, h.2⟩
theorem shallow_of' {p : P} {ds : List P} (h : (decide (min (PyData.depthAll ds) p.depth ≤ 100) && nod p && nods ds) = true) : min (PyData.depthAll ds) p.depth ≤ 100 ∧ nod p = true ∧ nods ds = true := by
  simp only [Bool.and_eq_true, decide_eq_true_eq] at h
  exact ⟨h.1.1, h.1.2, h.2⟩
theorem o_eq (hu : X.A.units + 200 < cLine) : OpR X (compareOp .Eq) (fun x y => rN X.K resF eqP [x, y]) := by
  intro pins s σ H x y v u Q I rx ry h
  obtain ⟨W, ps, r, nw, rl, fe, q⟩ := h
  obtain ⟨p, p', rfl, a, b⟩ := rls2 rl
  simp only [eqP] at fe
  split at fe
  · rename_i l
    cases fe
    obtain ⟨l', n1, n2⟩ := shallow_of l
    obtain ⟨as, r1⟩ := Dp.reads I p x v (a.dp n1) rx
    obtain ⟨bs, r2⟩ := Dp.reads I p' y u (b.dp n2) ry
    exact SeqAt.compareEq_reads r1 r2 (a.lay n1) (b.lay n2) (by omega) ⟨.bl _, H, I, rfl, q _ H ext_refl (RP.bl _)⟩
  · cases fe
theorem o_ne (hu : X.A.units + 200 < cLine) : OpR X (compareOp .NotEq) (fun x y => rN X.K resF neP [x, y]) := by
  intro pins s σ H x y v u Q I rx ry h
  obtain ⟨W, ps, r, nw, rl, fe, q⟩ := h
  obtain ⟨p, p', rfl, a, b⟩ := rls2 rl
  simp only [neP] at fe
  split at fe
  · rename_i l
    cases fe
    obtain ⟨l', n1, n2⟩ := shallow_of l
    obtain ⟨as, r1⟩ := Dp.reads I p x v (a.dp n1) rx
    obtain ⟨bs, r2⟩ := Dp.reads I p' y u (b.dp n2) ry
    exact SeqAt.compareNe_reads r1 r2 (a.lay n1) (b.lay n2) (by omega) ⟨.bl _, H, I, rfl, q _ H ext_refl (RP.bl _)⟩
  · cases fe
theorem o_lt (hu : X.A.units + 200 < cLine) : OpR X (compareOp .Lt) (fun x y => rN X.K resF ltP [x, y]) := by
  intro pins s σ H x y v u Q I rx ry h
  obtain ⟨W, ps, r, nw, rl, fe, q⟩ := h
  obtain ⟨p, p', rfl, a, b⟩ := rls2 rl
  unfold ltP at fe
  split at fe
  · rename_i i j heq
    cases heq; cases a; cases b; cases fe
    exact op_lt pins s σ H _ _ v u Q I rx ry ⟨_, _, rfl, rfl, q _ H ext_refl (RP.bl _)⟩
  · rename_i i j heq
    cases heq; cases a; cases b; cases fe
    exact op_lt_str pins s σ H _ _ v u Q I rx ry ⟨_, _, rfl, rfl, q _ H ext_refl (RP.bl _)⟩
  · rename_i ds es heq
    cases heq
    split at fe
    · rename_i l
      cases fe
      rw [Bool.and_eq_true] at l
      obtain ⟨l', n1, n2⟩ := shallow_of l.2
      obtain ⟨as, r1⟩ := Dp.reads I _ x v (RL.dp a n1) rx
      obtain ⟨bs, r2⟩ := Dp.reads I _ y u (RL.dp b n2) ry
      exact PySem.W.rcLt_alike _ _ X.A s v u as bs r1 r2 l.1 (fun z => by cases z) (by omega) _ _ _ _ ⟨.bl _, H, I, rfl, q _ H ext_refl (RP.bl _)⟩
    · cases fe
  · cases fe
theorem o_le : OpR X (compareOp .LtE) (fun x y => rN X.K resF leP [x, y]) := by
  intro pins s σ H x y v u Q I rx ry h
  obtain ⟨W, ps, r, nw, rl, fe, q⟩ := h
  obtain ⟨p, p', rfl, a, b⟩ := rls2 rl
  unfold leP at fe
  split at fe
  · rename_i i j heq
    cases heq; cases a; cases b; cases fe
    exact op_le pins s σ H _ _ v u Q I rx ry ⟨_, _, rfl, rfl, q _ H ext_refl (RP.bl _)⟩
  · rename_i i j heq
    cases heq; cases a; cases b; cases fe
    obtain ⟨t, rfl⟩ := rx
    obtain ⟨t', rfl⟩ := ry
    exact PySem.P.le_str ⟨.bl _, H, I, rfl, q _ H ext_refl (RP.bl _)⟩
  · cases fe
theorem o_gt : OpR X (compareOp .Gt) (fun x y => rN X.K resF gtP [x, y]) := by
  intro pins s σ H x y v u Q I rx ry h
  obtain ⟨W, ps, r, nw, rl, fe, q⟩ := h
  obtain ⟨p, p', rfl, a, b⟩ := rls2 rl
  unfold gtP at fe
  split at fe
  · rename_i i j heq
    cases heq; cases a; cases b; cases fe
    exact op_gt pins s σ H _ _ v u Q I rx ry ⟨_, _, rfl, rfl, q _ H ext_refl (RP.bl _)⟩
  · cases fe
theorem o_ge : OpR X (compareOp .GtE) (fun x y => rN X.K resF geP [x, y]) := by
  intro pins s σ H x y v u Q I rx ry h
  obtain ⟨W, ps, r, nw, rl, fe, q⟩ := h
  obtain ⟨p, p', rfl, a, b⟩ := rls2 rl
  unfold geP at fe
  split at fe
  · rename_i i j heq
    cases heq; cases a; cases b; cases fe
    exact op_ge pins s σ H _ _ v u Q I rx ry ⟨_, _, rfl, rfl, q _ H ext_refl (RP.bl _)⟩
  · cases fe
theorem RL.lays {ds : List P} {x : V} (r : RL K H W (.list ds) x) (n : nods ds = true) : PyData.canLayAll0 ds = true := by
  obtain ⟨a, xs, rfl, q, _, r⟩ := r
  exact r.lay n
theorem RP.lays {ds : List P} {x : V} (r : RP K H W (.tuple ds) x) (n : nods ds = true) : PyData.canLayAll0 ds = true := by
  cases r with
  | tup f l r => exact r.lay n
theorem rl_rp {kvs : List (P × P)} {k : P} {x : V} (ko : keyOk kvs k = true) (r : RL K H W k x) : RP K H W k x := by
  rcases keyOk_kind ko with ⟨y, rfl⟩ | ⟨ds, rfl⟩
  · exact r
  · exact r
theorem o_in (hw : X.w = WorldC.w) (hu : X.A.units + 200 < cLine) : OpR X (compareOp .In) (fun x y => rN X.K resF inP [x, y]) := by
  intro pins s σ H x y v u Q I rx ry h
  obtain ⟨W, ps, r, nw, rl, fe, q⟩ := h
  obtain ⟨p, p', rfl, a, b⟩ := rls2 rl
  unfold inP at fe
  split at fe
  · rename_i d ds heq
    cases heq
    split at fe
    · rename_i l
      cases fe
      obtain ⟨l', n1, n2⟩ := shallow_of' l
      obtain ⟨as, r1⟩ := Dp.reads I _ x v (a.dp n1) rx
      obtain ⟨bs, r2⟩ := Dp.reads I _ y u (RL.dp b n2) ry
      exact SeqAt.in_list_reads r2 r1 (b.lays n2) (a.lay n1) (by omega) ⟨.bl _, H, I, rfl, q _ H ext_refl (RP.bl _)⟩
    · cases fe
  · rename_i d ds heq
    cases heq
    split at fe
    · rename_i l
      cases fe
      obtain ⟨l', n1, n2⟩ := shallow_of' l
      obtain ⟨as, r1⟩ := Dp.reads I _ x v (a.dp n1) rx
      obtain ⟨bs, r2⟩ := Dp.reads I _ y u (RL.dp b n2) ry
      exact SeqAt.in_tuple_reads r2 r1 (RP.lays b n2) (a.lay n1) (by omega) ⟨.bl _, H, I, rfl, q _ H ext_refl (RP.bl _)⟩
    · cases fe
  · rename_i kvs heq
    cases heq
    split at fe
    · rename_i ko
      cases fe
      obtain ⟨l, rfl, rd⟩ := b
      cases ry
      exact dd_in (by omega) hw I rd ko (rl_rp ko a) rx fun s' I' => ⟨.bl _, H, I', rfl, q _ H ext_refl (RP.bl _)⟩
    · cases fe
  · rename_i i j heq
    cases heq; cases a; cases b; cases fe
    exact op_in_str pins s σ H _ _ v u Q I rx ry ⟨_, _, rfl, rfl, q _ H ext_refl (RP.bl _)⟩
  · cases fe
theorem o_notin (hw : X.w = WorldC.w) (hu : X.A.units + 200 < cLine) : OpR X (compareOp .NotIn) (fun x y => rN X.K resF notinP [x, y]) := by
  intro pins s σ H x y v u Q I rx ry h
  obtain ⟨W, ps, r, nw, rl, fe, q⟩ := h
  obtain ⟨p, p', rfl, a, b⟩ := rls2 rl
  unfold notinP at fe
  split at fe
  · rename_i d ds heq
    cases heq
    split at fe
    · rename_i l
      cases fe
      obtain ⟨l', n1, n2⟩ := shallow_of' l
      obtain ⟨as, r1⟩ := Dp.reads I _ x v (a.dp n1) rx
      obtain ⟨bs, r2⟩ := Dp.reads I _ y u (RL.dp b n2) ry
      exact SeqAt.notIn_list_reads r2 r1 (b.lays n2) (a.lay n1) (by omega) ⟨.bl _, H, I, rfl, q _ H ext_refl (RP.bl _)⟩
    · cases fe
  · rename_i d ds heq
    cases heq
    split at fe
    · rename_i l
      cases fe
      obtain ⟨l', n1, n2⟩ := shallow_of' l
      obtain ⟨as, r1⟩ := Dp.reads I _ x v (a.dp n1) rx
      obtain ⟨bs, r2⟩ := Dp.reads I _ y u (RL.dp b n2) ry
      exact SeqAt.notIn_tuple_reads r2 r1 (RP.lays b n2) (a.lay n1) (by omega) ⟨.bl _, H, I, rfl, q _ H ext_refl (RP.bl _)⟩
    · cases fe
  · rename_i kvs heq
    cases heq
    split at fe
    · rename_i ko
      cases fe
      obtain ⟨l, rfl, rd⟩ := b
      cases ry
      exact dd_notin (by omega) hw I rd ko (rl_rp ko a) rx fun s' I' => ⟨.bl _, H, I', rfl, q _ H ext_refl (RP.bl _)⟩
    · cases fe
  · rename_i i j heq
    cases heq; cases a; cases b; cases fe
    exact op_notin_str pins s σ H _ _ v u Q I rx ry ⟨_, _, rfl, rfl, q _ H ext_refl (RP.bl _)⟩
  · cases fe
theorem RL.isNone {p : P} {x : V} (r : RL K H W p x) : decide (x = .non) = DL.isNone p := by
  cases p with
  | none => cases r; rfl
  | bool b => cases r; rfl
  | int i => cases r; rfl
  | str y => cases r; rfl
  | list ds => obtain ⟨a, xs, rfl, _⟩ := r; rfl
  | tuple ds => cases r; rfl
  | dict kvs => obtain ⟨a, rfl, _⟩ := r; rfl
theorem is_boolG {M : Model} {A : Around} {E : Value → Shared → Prop} {s : Shared} {Q : Value → Shared → Prop} {v : Value} {b : Bool} (hv : ∀ id, v ≠ .builtin id) (h : Q (.bool (v == .bool b)) s) : wpAny M A (compareOp .Is v (.bool b)) Q E s := by
  cases v <;> first | exact wpAny_pure h | exact absurd rfl (hv _)
theorem isnot_boolG {M : Model} {A : Around} {E : Value → Shared → Prop} {s : Shared} {Q : Value → Shared → Prop} {v : Value} {b : Bool} (hv : ∀ id, v ≠ .builtin id) (h : Q (.bool (!(v == .bool b))) s) : wpAny M A (compareOp .IsNot v (.bool b)) Q E s := by
  cases v <;> first | exact wpAny_pure h | exact absurd rfl (hv _)
theorem rl_bool {p : P} {x : V} {v : Value} {b : Bool} (r : RL K H W p x) (rx : RelV x v) : (∀ id, v ≠ .builtin id) ∧ (v == .bool b) = isBool b p := by
  cases p with
  | none => cases r; cases rx; exact ⟨fun _ z => (by cases z), rfl⟩
  | bool c => cases r; cases rx; exact ⟨fun _ z => (by cases z), by cases c <;> cases b <;> rfl⟩
  | int i => cases r; obtain ⟨t, rfl⟩ := rx; exact ⟨fun _ z => (by cases z), rfl⟩
  | str x => cases r; obtain ⟨t, rfl⟩ := rx; exact ⟨fun _ z => (by cases z), rfl⟩
  | tuple ds => cases r; cases rx; exact ⟨fun _ z => (by cases z), rfl⟩
  | list ds => obtain ⟨a, xs, rfl, _⟩ := r; cases rx; exact ⟨fun _ z => (by cases z), rfl⟩
  | dict kvs => obtain ⟨a, rfl, _⟩ := r; cases rx; exact ⟨fun _ z => (by cases z), rfl⟩
theorem o_is : OpR X (compareOp .Is) (fun x y => rN X.K resF isP [x, y]) := by
  intro pins s σ H x y v u Q I rx ry h
  obtain ⟨W, ps, r, nw, rl, fe, q⟩ := h
  obtain ⟨p, p', rfl, a, b⟩ := rls2 rl
  unfold isP at fe
  split at fe
  · rename_i d heq
    cases heq; cases b; cases fe
    refine op_isN pins s σ H _ _ v u Q I rx ry ⟨rfl, ?_⟩
    rw [a.isNone]
    exact q _ H ext_refl (RP.bl _)
  · rename_i d c heq
    cases heq; cases b; cases fe; cases ry
    obtain ⟨n, e⟩ := rl_bool (b := c) a rx
    refine is_boolG n ?_
    rw [e]
    exact ⟨.bl _, H, I, rfl, q _ H ext_refl (RP.bl _)⟩
  · cases fe
theorem o_isnot : OpR X (compareOp .IsNot) (fun x y => rN X.K resF isnotP [x, y]) := by
  intro pins s σ H x y v u Q I rx ry h
  obtain ⟨W, ps, r, nw, rl, fe, q⟩ := h
  obtain ⟨p, p', rfl, a, b⟩ := rls2 rl
  unfold isnotP at fe
  split at fe
  · rename_i d heq
    cases heq; cases b; cases fe
    refine op_notN pins s σ H _ _ v u Q I rx ry ⟨rfl, ?_⟩
    rw [a.isNone]
    exact q _ H ext_refl (RP.bl _)
  · rename_i d c heq
    cases heq; cases b; cases fe; cases ry
    obtain ⟨n, e⟩ := rl_bool (b := c) a rx
    refine isnot_boolG n ?_
    rw [e]
    exact ⟨.bl _, H, I, rfl, q _ H ext_refl (RP.bl _)⟩
  · cases fe
theorem ixP_ixN : ixP = ixN := rfl
theorem o_idx (hw : X.w = WorldC.w) (hu : X.A.units + 200 < cLine) : IxR X (fun x y => rN X.K resN idxP [x, y]) := by
  intro value slice pins s σ H x y v u Q I rx ry h hs
  obtain ⟨W, ps, r, nw, rl, fe, q⟩ := h
  obtain ⟨p, p', rfl, a, b⟩ := rls2 rl
  unfold idxP at fe
  split at fe
  · rename_i ds i heq
    cases heq; cases b
    obtain ⟨l, xs, rfl, q1, l1, r1⟩ := a
    cases c : ixP ds.length i with
    | none => rw [c] at fe; cases fe
    | some j =>
      rw [c] at fe
      obtain ⟨z, z1, z2⟩ := r1.get (show ds[j]? = some r from fe)
      refine ix_list value slice pins s σ H _ _ v u Q I rx ry ⟨l, xs, i, z, rfl, rfl, .of q1, ?_, q _ H ext_refl z2⟩ hs
      unfold atI
      rw [← ixP_ixN, ← r1.length, c]
      exact z1
  · rename_i ds i heq
    cases heq; cases b
    cases a with
    | @tup l xs _ f1 l1 r1 =>
      cases c : ixP ds.length i with
      | none => rw [c] at fe; cases fe
      | some j =>
        rw [c] at fe
        obtain ⟨z, z1, z2⟩ := r1.get (show ds[j]? = some r from fe)
        refine ix_tup value slice pins s σ H _ _ v u Q I rx ry ⟨l, xs, i, z, rfl, rfl, f1.sq, ?_, q _ H ext_refl z2⟩ hs
        unfold atI
        rw [← ixP_ixN, ← r1.length, c]
        exact z1
  · rename_i y i heq
    cases heq; cases b
    cases a with
    | str k1 l1 =>
      cases c : ixP y.length i with
      | none => rw [c] at fe; cases fe
      | some j =>
        rw [c] at fe
        have fe' : y.cps[j]?.map (fun c => PyData.str ⟨#[c]⟩) = some r := fe
        cases c2 : y.cps[j]? with
        | none => rw [c2] at fe'; cases fe'
        | some ch =>
          rw [c2] at fe'
          cases fe'
          refine ix_str value slice pins s σ H _ _ v u Q I rx ry ⟨y, i, ch, rfl, rfl, by rw [line16]; exact l1, ?_, q _ H ext_refl (RP.str (strOk_one k1 c2) (by simp [Str.length]))⟩ hs
          unfold atI
          have e : y.cps.toList.length = y.length := by simp [Str.length]
          rw [e, ← ixP_ixN, c]
          show y.cps.toList[j]? = some ch
          simpa using c2
  · rename_i kvs k heq
    cases heq
    split at fe
    · rename_i ko
      obtain ⟨l, rfl, rd⟩ := a
      cases rx
      refine PyProof.Rows.tail_any (rd_any hw I rd).2.1 PySem.F.slot_dict_getitem.lookup (dd_getItem (by omega) hw I rd ko (rl_rp ko b) ry fe fun w' s' z I' rz' rp => ?_) hs
      exact ⟨z, H, I', rz', q _ H ext_refl rp⟩
    · cases fe
  · cases fe
theorem o_len (hw : X.w = WorldC.w) : CallR X (.builtin "len") (rN X.K resF lenP) := by
  intro pins s σ H xs us Q I rv h
  obtain ⟨W, ps, r, nw, rl, fe, q⟩ := h
  unfold lenP at fe
  split at fe
  · rename_i ds
    obtain ⟨x, rfl, a⟩ := rls_1 rl
    cases fe
    obtain ⟨l, xs, rfl, q1, l1, r1⟩ := a
    refine call_len_seq pins s σ H _ us Q I rv ⟨l, xs, rfl, .inl (.of q1), ?_⟩
    rw [← r1.length]
    exact q _ H ext_refl (RP.int _)
  · rename_i ds
    obtain ⟨x, rfl, a⟩ := rls_1 rl
    cases fe
    cases a with
    | @tup l xs _ f1 l1 r1 =>
      refine call_len_seq pins s σ H _ us Q I rv ⟨l, xs, rfl, .inr f1.sq, ?_⟩
      rw [← r1.length]
      exact q _ H ext_refl (RP.int _)
  · rename_i y
    obtain ⟨x, rfl, a⟩ := rls_1 rl
    cases fe
    cases a with
    | str k1 l1 => exact call_len_str pins s σ H _ us Q I rv ⟨y, rfl, by rw [line16]; exact l1, q _ H ext_refl (RP.int _)⟩
  · rename_i kvs
    obtain ⟨x, rfl, a⟩ := rls_1 rl
    cases fe
    obtain ⟨l, rfl, rd⟩ := a
    obtain ⟨u, rfl, ru⟩ := rv.one
    cases ru
    exact dd_len hw I rd fun t s' I' => ⟨.int kvs.length, H, I', ⟨t, rfl⟩, q _ H ext_refl (RP.int _)⟩
  · cases fe
theorem o_tuple : CallR X (.type "tuple") (rN X.K resF tupleP) := by
  intro pins s σ H xs us Q I rv h
  obtain ⟨W, ps, r, nw, rl, fe, q⟩ := h
  unfold tupleP at fe
  split at fe
  · rename_i ds
    obtain ⟨x, rfl, a⟩ := rls_1 rl
    cases fe
    obtain ⟨l, xs, rfl, q1, l1, r1⟩ := a
    exact call_tuple_of pins s σ H _ us Q I rv ⟨l, xs, rfl, .inl ⟨.of q1, fun p n => q _ _ (upd_ext n) (res_tup nw n l1 r1)⟩⟩
  · rename_i ds
    obtain ⟨x, rfl, a⟩ := rls_1 rl
    cases fe
    cases a with
    | @tup l xs _ f1 l1 r1 => exact call_tuple_of pins s σ H _ us Q I rv ⟨l, xs, rfl, .inr ⟨f1.sq, q _ H ext_refl (RP.tup f1 l1 r1)⟩⟩
  · cases fe
theorem o_list (hc : X.calm = true) : CallR X (.type "list") (rN X.K resF listP) := by
  intro pins s σ H xs us Q I rv h
  obtain ⟨W, ps, r, nw, rl, fe, q⟩ := h
  unfold listP at fe
  split at fe
  · rename_i ds
    obtain ⟨x, rfl, a⟩ := rls_1 rl
    cases fe
    obtain ⟨l, xs, rfl, q1, l1, r1⟩ := a
    exact call_list_of pins s σ H _ us Q I rv ⟨l, xs, rfl, .inl (.of q1), fun p n => q _ _ (upd_ext n) (res_list nw n l1 r1)⟩
  · rename_i kvs
    obtain ⟨x, rfl, a⟩ := rls_1 rl
    cases fe
    obtain ⟨l, rfl, rd⟩ := a
    obtain ⟨u, rfl, ru⟩ := rv.one
    cases ru
    have l1 := rd_le rd
    exact dd_list hc I rd fun p xs n r1 => q _ _ (upd_ext n) (res_list nw n (by rw [List.length_map]; exact l1) r1)
  · rename_i ds
    obtain ⟨x, rfl, a⟩ := rls_1 rl
    cases fe
    cases a with
    | @tup l xs _ f1 l1 r1 => exact call_list_of pins s σ H _ us Q I rv ⟨l, xs, rfl, .inr f1.sq, fun p n => q _ _ (upd_ext n) (res_list nw n l1 r1)⟩
  · cases fe
theorem o_int : CallR X (.type "int") (rN X.K resF intP) := by
  intro pins s σ H xs us Q I rv h
  obtain ⟨W, ps, r, nw, rl, fe, q⟩ := h
  unfold intP at fe
  split at fe
  · obtain ⟨x, rfl, a⟩ := rls_1 rl
    cases fe; cases a
    exact call_int1 pins s σ H _ us Q I rv (.inl ⟨_, rfl, q _ H ext_refl (RP.int _)⟩)
  · obtain ⟨x, rfl, a⟩ := rls_1 rl
    cases fe; cases a
    exact call_int1 pins s σ H _ us Q I rv (.inr ⟨_, rfl, q _ H ext_refl (RP.int _)⟩)
  · cases fe
theorem o_abs : CallR X (.builtin "abs") (rN X.K resF absP) := by
  intro pins s σ H xs us Q I rv h
  obtain ⟨W, ps, r, nw, rl, fe, q⟩ := h
  unfold absP at fe
  split at fe
  · obtain ⟨x, rfl, a⟩ := rls_1 rl
    cases fe; cases a
    exact call_abs pins s σ H _ us Q I rv ⟨_, rfl, q _ H ext_refl (RP.int _)⟩
  · cases fe
theorem bools_rp : ∀ {ds : List P} {xs : List V} {bs : List Bool}, RPs K H W ds xs → bools ds = some bs → xs = bs.map V.bl
  | [], _, _, r, q => by cases r; cases q; rfl
  | .bool b :: ds, _, _, r, q => by
    cases r with
    | cons a r =>
      cases a
      cases c : bools ds with
      | none => simp [bools, c] at q
      | some bs =>
        simp [bools, c] at q
        subst q
        rw [bools_rp r c]
        rfl
  | .none :: _, _, _, _, q => by simp [bools] at q
  | .int _ :: _, _, _, _, q => by simp [bools] at q
  | .str _ :: _, _, _, _, q => by simp [bools] at q
  | .list _ :: _, _, _, _, q => by simp [bools] at q
  | .tuple _ :: _, _, _, _, q => by simp [bools] at q
  | .dict _ :: _, _, _, _, q => by simp [bools] at q
theorem ints_rp : ∀ {ds : List P} {xs : List V} {ns : List Int}, RPs K H W ds xs → intsOf ds = some ns → xs = ns.map V.int
  | [], _, _, r, q => by cases r; cases q; rfl
  | .int b :: ds, _, _, r, q => by
    cases r with
    | cons a r =>
      cases a
      cases c : intsOf ds with
      | none => simp [intsOf, c] at q
      | some bs =>
        simp [intsOf, c] at q
        subst q
        rw [ints_rp r c]
        rfl
  | .none :: _, _, _, _, q => by simp [intsOf] at q
  | .bool _ :: _, _, _, _, q => by simp [intsOf] at q
  | .str _ :: _, _, _, _, q => by simp [intsOf] at q
  | .list _ :: _, _, _, _, q => by simp [intsOf] at q
  | .tuple _ :: _, _, _, _, q => by simp [intsOf] at q
  | .dict _ :: _, _, _, _, q => by simp [intsOf] at q
theorem o_all (hc : X.calm = true) : CallR X (.builtin "all") (rN X.K resF allP) := by
  intro pins s σ H xs us Q I rv h
  obtain ⟨W, ps, r, nw, rl, fe, q⟩ := h
  unfold allP at fe
  split at fe
  · rename_i ds
    obtain ⟨x, rfl, a⟩ := rls_1 rl
    obtain ⟨l, xs, rfl, q1, l1, r1⟩ := a
    cases c : bools ds with
    | none => rw [c] at fe; cases fe
    | some bs =>
      rw [c] at fe
      cases fe
      exact cr_all hc pins s σ H _ us Q I rv ⟨l, bs, rfl, by rw [← bools_rp r1 c]; exact .of q1, q _ H ext_refl (RP.bl _)⟩
  · cases fe
theorem o_any (hc : X.calm = true) : CallR X (.builtin "any") (rN X.K resF anyP) := by
  intro pins s σ H xs us Q I rv h
  obtain ⟨W, ps, r, nw, rl, fe, q⟩ := h
  unfold anyP at fe
  split at fe
  · rename_i ds
    obtain ⟨x, rfl, a⟩ := rls_1 rl
    obtain ⟨l, xs, rfl, q1, l1, r1⟩ := a
    cases c : bools ds with
    | none => rw [c] at fe; cases fe
    | some bs =>
      rw [c] at fe
      cases fe
      exact cr_any hc pins s σ H _ us Q I rv ⟨l, bs, rfl, by rw [← bools_rp r1 c]; exact .of q1, q _ H ext_refl (RP.bl _)⟩
  · cases fe
theorem foldl_min : ∀ (ns : List Int) (i : Int), ns.foldl min i ∈ i :: ns ∧ ∀ y ∈ i :: ns, ns.foldl min i ≤ y
  | [], i => by simp
  | n :: ns, i => by
    obtain ⟨h1, h2⟩ := foldl_min ns (min i n)
    have e : (n :: ns).foldl min i = ns.foldl min (min i n) := rfl
    rw [e]
    have h3 := h2 (min i n) List.mem_cons_self
    refine ⟨?_, fun y hy => ?_⟩
    · rcases List.mem_cons.mp h1 with z | z
      · rw [z]
        by_cases q : i ≤ n
        · rw [Int.min_eq_left q]; simp
        · rw [Int.min_eq_right (by omega)]; simp
      · simp [z]
    · rcases List.mem_cons.mp hy with z | hy
      · subst z; exact Int.le_trans h3 (Int.min_le_left _ _)
      · rcases List.mem_cons.mp hy with z | hy
        · subst z; exact Int.le_trans h3 (Int.min_le_right _ _)
        · exact h2 y (List.mem_cons_of_mem _ hy)
theorem foldl_max : ∀ (ns : List Int) (i : Int), ns.foldl max i ∈ i :: ns ∧ ∀ y ∈ i :: ns, y ≤ ns.foldl max i
  | [], i => by simp
  | n :: ns, i => by
    obtain ⟨h1, h2⟩ := foldl_max ns (max i n)
    have e : (n :: ns).foldl max i = ns.foldl max (max i n) := rfl
    rw [e]
    have h3 := h2 (max i n) List.mem_cons_self
    refine ⟨?_, fun y hy => ?_⟩
    · rcases List.mem_cons.mp h1 with z | z
      · rw [z]
        by_cases q : n ≤ i
        · rw [Int.max_eq_left q]; simp
        · rw [Int.max_eq_right (by omega)]; simp
      · simp [z]
    · rcases List.mem_cons.mp hy with z | hy
      · subst z; exact Int.le_trans (Int.le_max_left _ _) h3
      · rcases List.mem_cons.mp hy with z | hy
        · subst z; exact Int.le_trans (Int.le_max_right _ _) h3
        · exact h2 y (List.mem_cons_of_mem _ hy)
theorem o_min (hc : X.calm = true) : CallR X (.builtin "min") (rN X.K resF minP) := by
  intro pins s σ H xs us Q I rv h
  obtain ⟨W, ps, r, nw, rl, fe, q⟩ := h
  unfold minP at fe
  split at fe
  · obtain ⟨x, y, rfl, a, b⟩ := rls_2 rl
    cases fe; cases a; cases b
    exact call_min2 hc pins s σ H _ us Q I rv ⟨_, _, rfl, q _ H ext_refl (RP.int _)⟩
  · rename_i i ds
    obtain ⟨x, rfl, a⟩ := rls_1 rl
    obtain ⟨l, xs, rfl, q1, l1, r1⟩ := a
    cases c : intsOf ds with
    | none => rw [c] at fe; cases fe
    | some ns =>
      rw [c] at fe
      cases fe
      have e : xs = (i :: ns).map V.int := ints_rp r1 (by simp [intsOf, c])
      subst e
      refine cr_min hc pins s σ H _ us Q I rv ⟨l, i :: ns, rfl, .of q1, by simp, fun m hm1 hm2 => ?_⟩
      obtain ⟨h1, h2⟩ := foldl_min ns i
      have em : m = ns.foldl min i := Int.le_antisymm (hm2 _ h1) (h2 _ hm1)
      rw [em]
      exact q _ H ext_refl (RP.int _)
  · cases fe
theorem o_max (hc : X.calm = true) : CallR X (.builtin "max") (rN X.K resF maxP) := by
  intro pins s σ H xs us Q I rv h
  obtain ⟨W, ps, r, nw, rl, fe, q⟩ := h
  unfold maxP at fe
  split at fe
  · obtain ⟨x, y, rfl, a, b⟩ := rls_2 rl
    cases fe; cases a; cases b
    exact call_max2 hc pins s σ H _ us Q I rv ⟨_, _, rfl, q _ H ext_refl (RP.int _)⟩
  · rename_i i ds
    obtain ⟨x, rfl, a⟩ := rls_1 rl
    obtain ⟨l, xs, rfl, q1, l1, r1⟩ := a
    cases c : intsOf ds with
    | none => rw [c] at fe; cases fe
    | some ns =>
      rw [c] at fe
      cases fe
      have e : xs = (i :: ns).map V.int := ints_rp r1 (by simp [intsOf, c])
      subst e
      refine cr_max hc pins s σ H _ us Q I rv ⟨l, i :: ns, rfl, .of q1, by simp, fun m hm1 hm2 => ?_⟩
      obtain ⟨h1, h2⟩ := foldl_max ns i
      have em : m = ns.foldl max i := Int.le_antisymm (h2 _ hm1) (hm2 _ h1)
      rw [em]
      exact q _ H ext_refl (RP.int _)
  · cases fe
end
end DL
/-! D11: slices, isinstance, list methods, comparison chains, new objects in the store, global constants. -/
namespace DL
open PySem PySem.Spec L2
variable [WorldC]

/-! ### slices -/
def cutL {α : Type} (ds : List α) (lo hi : Option Int) : List α := (ds.drop (HT.sIx ds.length 0 lo)).take (HT.sIx ds.length ds.length hi - HT.sIx ds.length 0 lo)
def sliceP (lo hi : Option Int) : P → Option P
  | .list ds => some (.list (cutL ds lo hi))
  | .tuple ds => some (.tuple (cutL ds lo hi))
  | .str x => some (.str (cutS x lo hi))
  | _ => none
def rCut (K : Fg) : V → Option Int → Option Int → Hp → VK → Prop := fun x lo hi H Q => ∃ W p r, (∀ a, W a → H a ≠ none) ∧ RL K H W p x ∧ sliceP lo hi p = some r ∧ ∀ z H', (∀ a u, H a = some u → H' a = some u) → resF K H H' W r z → Q z H'
section
variable {K : Fg} {H H' : Hp} {W : Addr → Prop} {X : Cx}
theorem RPs.cut {ps : List P} {xs : List V} (r : RPs K H W ps xs) (lo hi : Option Int) : RPs K H W (cutL ps lo hi) (cutV xs lo hi) := by
  unfold cutL cutV
  rw [r.length]
  exact (r.drop _).take _
theorem cutL_le {α : Type} (ds : List α) (lo hi : Option Int) : (cutL ds lo hi).length ≤ ds.length := by
  unfold cutL
  rw [List.length_take, List.length_drop]
  omega
theorem strOk_cut {x : Str} (k : PyData.strOk x = true) (lo hi : Option Int) : PyData.strOk (cutS x lo hi) = true := by
  have k' : x.cps.all (· < 0x110000) = true := k
  show (cutS x lo hi).cps.all (· < 0x110000) = true
  rw [Array.all_eq_true_iff_forall_mem] at k' ⊢
  intro c m
  refine k' c ?_
  unfold cutS at m
  rw [List.mem_toArray] at m
  have := List.mem_of_mem_drop (List.mem_of_mem_take m)
  simpa using this
theorem o_cut : SlR X (rCut X.K) := by
  intro pins s σ H x v vl vu lo hi sl Q I rx hs pl pu h
  obtain ⟨W, p, r, nw, rl, fe, q⟩ := h
  unfold sliceP at fe
  split at fe
  · rename_i ds
    cases fe
    obtain ⟨a, xs, rfl, q1, l1, r1⟩ := rl
    exact sl_list pins s σ H _ v vl vu lo hi sl Q I rx hs pl pu ⟨a, xs, rfl, .of q1, fun p n => q _ _ (upd_ext n) (res_list nw n (Nat.le_trans (cutL_le ds lo hi) l1) (r1.cut lo hi))⟩
  · rename_i ds
    cases fe
    cases rl with
    | @tup a xs _ f1 l1 r1 =>
      refine sl_tupA pins s σ H _ v vl vu lo hi sl Q I rx hs pl pu ⟨a, xs, rfl, f1.sq, fun z => ?_, fun _ p n => q _ _ (upd_ext n) (res_tup nw n (Nat.le_trans (cutL_le ds lo hi) l1) (r1.cut lo hi))⟩
      have e : cutL ds lo hi = ds := by
        unfold cutL
        rw [r1.length, z.1, z.2, List.drop_zero, Nat.sub_zero, ← r1.length, List.take_length]
      rw [e] at q
      exact q _ H ext_refl (RP.tup f1 l1 r1)
  · rename_i y
    cases fe
    cases rl with
    | str k l => exact sl_str pins s σ H _ v vl vu lo hi sl Q I rx hs pl pu ⟨y, rfl, by rw [line16]; exact l, q _ H ext_refl (RP.str (strOk_cut k lo hi) (Nat.le_trans (cutS_length y lo hi) l))⟩
  · cases fe
end

def mNoP : M (Option Int) := fun e h => .ok none e h
def endP (v : DV) : M (Option Int) := fun e h => match v with
  | .d (.int i) => .ok (some i) e h
  | _ => .stuck
def mPt (m : M DV) : M (Option Int) := fun e h => (m e h).bind endP
def endSl (v : DV) (l u : Option Int) : M DV := fun e h => match look v e h with
  | some p => match sliceP l u p with
    | some r => .ok (.d r) e h
    | none => .stuck
  | none => .stuck
def mSl (m : M DV) (ml mu : M (Option Int)) : M DV := fun e h => (m e h).bind fun v e h => (ml e h).bind fun l e h => (mu e h).bind (endSl v l)
def TOd (C : Ct) (m : M (Option Int)) : TO := fun σ H Q => ∃ B φ e h, RS C.K B φ σ H e h ∧ PostG C (fun _ _ _ (a b : Option Int) => a = b) B φ σ H e h (m e h) Q

section
variable {X : Cx} {C : Ct} {a b c : Expr} {es : List Expr} {m ma mb md : M DV} {ml mu : M (Option Int)} {mc : M Bool} {ms : M (List DV)} {f g : List P → Option P} {pos p2 : Pos} {lo hi : Option Expr}
theorem PO.imp {e : Option Expr} {t t' : TO} (p : PO X e t) (i : ∀ σ H Q, t' σ H Q → t σ H Q) : PO X e t' := ⟨fun pins s σ H Q I h => p.run pins s σ H Q I (i σ H Q h)⟩
theorem p_none : PO X none (TOd C mNoP) := PO.imp po_none fun σ H Q ⟨B, φ, e, h, s, q⟩ => PostG.ret (v := (none : Option Int)) (x := none) q s rfl
theorem p_some (ha : PE X a (TEd C m)) : PO X (some a) (TOd C (mPt m)) := by
  refine PO.imp (po_some ha) fun σ H Q ⟨B, φ, e, h, s, q⟩ => ?_
  refine ⟨B, φ, e, h, s, PostG.bind (f := endP) q fun v e1 h1 φ1 H1 x _ s1 st1 r1 p1 => ?_⟩
  cases v with
  | d p =>
    cases p with
    | int i => cases r1; exact ⟨i, rfl, p1.ret s1 rfl⟩
    | _ => exact p1.elim
  | ob w => exact p1.elim
  | scr ns => exact p1.elim
theorem slice_nd {l u : Option Int} {p : P} {kvs : List (P × P)} (h : sliceP l u p = some (.dict kvs)) : False := by
  unfold sliceP at h
  split at h <;> cases h
theorem d_sl (hK : C.K = X.K) (ha : PE X a (TEd C m)) (hl : PO X lo (TOd C ml)) (hu : PO X hi (TOd C mu)) : PE X (.Subscript a (.Slice lo hi none p2) pos) (TEf C (mSl m ml mu)) := by
  obtain ⟨K0, cls0, W0⟩ := C
  obtain rfl : K0 = X.K := hK
  refine PE.imp (pe_slice o_cut ha hl hu) fun σ H Q ⟨B, φ, e, h, s, q⟩ => ?_
  refine ⟨B, φ, e, h, s, PostF.bind (f := fun v e h => (ml e h).bind fun l e h => (mu e h).bind (endSl v l)) q fun v e1 h1 φ1 H1 x _ s1 st1 r1 p1 => ?_⟩
  refine ⟨B, φ1, e1, h1, s1, PostF.bind (f := fun l e h => (mu e h).bind (endSl v l)) p1 fun l e2 h2 φ2 H2 l' _ s2 st2 r2 p2 => ?_⟩
  refine ⟨B, φ2, e2, h2, s2, PostF.bind (f := endSl v l) p2 fun u e3 h3 φ3 H3 u' _ s3 st3 r3 p3 => ?_⟩
  subst r2 r3
  unfold endSl at p3
  cases c : look v e3 h3 with
  | none => simp only [c] at p3; exact p3.elim
  | some p =>
    simp only [c] at p3
    cases c2 : sliceP l u p with
    | none => simp only [c2] at p3; exact p3.elim
    | some r =>
      simp only [c2] at p3
      refine ⟨_, p, r, s3.wN, look_rl s3 ((r1.mono st2.gr st2.phi).mono st3.gr st3.phi) c, c2, fun z H' x k => ?_⟩
      obtain ⟨s4, st⟩ := s3.ext x
      refine p3 φ3 H' z s4 st ?_
      cases r with
      | list ds =>
        obtain ⟨a, ys, rfl, n, t, l, rs⟩ := k
        have g := s3.grow (a := a) x n (by rw [t]; intro z; cases z)
        refine ⟨a, ys, rfl, st1.back a (st2.back a (st3.back a n)), fun z => s3.bN a z n, t, l, g, rs.mono (Gr.weak fun b z => ?_)⟩
        rcases z with (z | z) | z
        · exact .inl (.inl z)
        · exact .inr z
        · exact .inl (.inr z)
      | dict kvs => exact (slice_nd c2).elim
      | _ => exact k

/-! ### a new list goes to the store -/
def endPush (v : DV) : M DV := fun e h => match v with
  | .d (.list ds) => .ok (.ob (.mem h.length)) e (h ++ [.lst ds])
  | _ => .stuck
def mPush (m : M DV) : M DV := fun e h => (m e h).bind endPush
theorem d_push (ha : PE X a (TEf C m)) : PE X a (TEd C (mPush m)) := by
  refine PE.imp ha fun σ H Q ⟨B, φ, e, h, s, q⟩ => ⟨B, φ, e, h, s, ?_⟩
  unfold mPush at q
  cases c : m e h with
  | stuck => rw [c] at q; exact q.elim
  | ex c' p e1 h1 => rw [c] at q; exact q
  | ok v e1 h1 =>
    rw [c] at q
    intro φ1 H1 x s1 st1 f1
    have q1 : PostG C (RelV1 C.K σ) B φ σ H e h (endPush v e1 h1) Q := q
    cases v with
    | ob w => exact q1.elim
    | scr ns => exact q1.elim
    | d p =>
      cases p with
      | list ds =>
        obtain ⟨a, xs, rfl, n0, nB, hx, dl, s2, rs⟩ := f1
        obtain ⟨s3, oa3⟩ := s2.push (o := .lst ds) nB ⟨xs, hx, dl, rs⟩
        refine q1 (φ1 ++ [a]) H1 (.ref a) s3 ⟨st1.phi.trans (List.prefix_append _ _), fun b u z k => ?_, st1.tr, st1.bk⟩ ⟨a, oa3, rfl⟩
        obtain ⟨z1, k1⟩ := st1.gr b u z k
        refine ⟨z1, fun w => ?_⟩
        have nb : b ≠ a := fun y => by subst y; rw [n0] at z; cases z
        rcases w with w | ⟨w, o, w1, w2⟩
        · exact k1 (.inl w)
        · cases w with
          | loc j => exact k1 (.inr ⟨.loc j, o, w1, w2⟩)
          | mem j =>
            have w2' : (φ1 ++ [a])[j]? = some b := w2
            have w1' : (h1 ++ [DO.lst ds])[j]? = some o := w1
            by_cases l : j < φ1.length
            · rw [List.getElem?_append_left l] at w2'
              rw [List.getElem?_append_left (by rw [s1.hlen] at l; exact l)] at w1'
              exact k1 (.inr ⟨.mem j, o, w1', w2'⟩)
            · rw [List.getElem?_append_right (by omega)] at w2'
              cases c : j - φ1.length with
              | zero => rw [c] at w2'; cases w2'; exact nb rfl
              | succ t => rw [c] at w2'; simp at w2'
      | _ => exact q1.elim

/-! ### chains -/
def endChain (g : List P → Option P) (mc : M DV) (y v : DV) : M DV := fun e h => match v with
  | .d (.bool true) => (mc e h).bind fun z e h => opEnd g [y, z] e h
  | .d (.bool false) => .ok (.d (.bool false)) e h
  | _ => .stuck
def mChain (f g : List P → Option P) (ma mb mc : M DV) : M DV := fun e h => (ma e h).bind fun x e h => (mb e h).bind fun y e h => (opEnd f [x, y] e h).bind (endChain g mc y)
theorem tst_of {m : M DV} {σ : St} {H : Hp} {Q : Bool → Hp → Prop} (t : TTd C (mBl m) σ H Q) : TEd C m σ H fun x H' => ∃ k, x = V.bl k ∧ Q k H' := by
  obtain ⟨B, φ, e, h, s, q⟩ := t
  refine ⟨B, φ, e, h, s, PostG.bind (f := endBl) q fun v3 e3 h3 φ3 H3 z _ s3 st3 r3 p3 => ?_⟩
  cases v3 with
  | d q =>
    cases q with
    | bool k =>
      cases r3
      exact ⟨k, rfl, p3.ret s3 rfl⟩
    | _ => exact p3.elim
  | ob w => exact p3.elim
  | scr ns => exact p3.elim
theorem end_Fd {vs : List DV} {xs : List V} {Q : VK} {B : Addr → Prop} {φ : List Addr} {σ : St} {H : Hp} {e : Env} {h : Hh} (s : RS C.K B φ σ H e h) (r : RVs C.K H (Wrt B σ φ e h) σ φ vs xs) (p : PostG C (RelV1 C.K σ) B φ σ H e h (opEnd f vs e h) Q) : rN C.K resF f xs H Q := by
  refine end_F (H0 := H) s r ?_ fun _ n => n
  cases q : opEnd f vs e h with
  | ok v3 e3 h3 =>
    rw [q] at p
    exact fun φ' H' x a b c => p φ' H' x a b (c.rv a)
  | ex c r e' h' => rw [q] at p; exact p
  | stuck => rw [q] at p; exact p
theorem chain_imp {σ : St} {H : Hp} {Q : VK} (t : TEd C (mChain f g ma mb md) σ H Q) : tChain (fun x y => rN C.K resF f [x, y]) (fun x y => rN C.K resF g [x, y]) (TEd C ma) (TEd C mb) (TEd C md) σ H Q := by
  obtain ⟨B, φ, e, h, s, q⟩ := t
  refine ⟨B, φ, e, h, s, PostG.bind (f := fun x e h => (mb e h).bind fun y e h => (opEnd f [x, y] e h).bind (endChain g md y)) q fun v e1 h1 φ1 H1 x _ s1 st1 r1 p1 => ?_⟩
  refine ⟨B, φ1, e1, h1, s1, PostG.bind (f := fun y e h => (opEnd f [v, y] e h).bind (endChain g md y)) p1 fun w e2 h2 φ2 H2 y _ s2 st2 r2 p2 => ?_⟩
  refine end_Fd s2 (.cons (r1.mono st2.gr st2.phi) (.cons r2 .nil)) (PostG.bind (f := endChain g md w) p2 fun v3 e3 h3 φ3 H3 z _ s3 st3 r3 p3 => ?_)
  cases v3 with
  | d q =>
    cases q with
    | bool k =>
      cases r3
      refine ⟨k, rfl, ?_⟩
      cases k with
      | true =>
        rw [if_pos rfl]
        refine ⟨B, φ3, e3, h3, s3, PostG.bind (f := fun z e h => opEnd g [w, z] e h) p3 fun v4 e4 h4 φ4 H4 z _ s4 st4 r4 p4 => ?_⟩
        exact end_Fd s4 (.cons ((r2.mono st3.gr st3.phi).mono st4.gr st4.phi) (.cons r4 .nil)) p4
      | false =>
        rw [if_neg Bool.false_ne_true]
        exact p3.ret (v := DV.d (.bool false)) s3 (RP.bl false)
    | _ => exact p3.elim
  | ob w => exact p3.elim
  | scr ns => exact p3.elim
theorem d_chain {op op' : CmpOp} (ho : OpR X (compareOp op) fun x y => rN C.K resF f [x, y]) (ho' : OpR X (compareOp op') fun x y => rN C.K resF g [x, y]) (ha : PE X a (TEd C ma)) (hb : PE X b (TEd C mb)) (hc : PE X c (TEd C md))
    (hm : lastMarks [op, op'] [b, c] = false) : PE X (.Compare a [op, op'] [b, c] pos) (TEd C (mChain f g ma mb md)) := PE.imp (pe_chain ho ho' ha hb hc hm) fun σ H Q t => chain_imp t
theorem t_chain {op op' : CmpOp} (ho : OpR X (compareOp op) fun x y => rN C.K resF f [x, y]) (ho' : OpR X (compareOp op') fun x y => rN C.K resF g [x, y]) (ha : PE X a (TEd C ma)) (hb : PE X b (TEd C mb)) (hc : PE X c (TEd C md))
    (hm : lastMarks [op, op'] [b, c] = false) : PT X (.Compare a [op, op'] [b, c] pos) (TTd C (mBl (mChain f g ma mb md))) := PT.imp (pt_chain ho ho' ha hb hc hm) fun σ H Q t => chain_imp (tst_of t)

end

/-! ### isinstance -/
inductive Ty where
  | int
  | bool
  | str
  | list
  | tuple
  | dict
  deriving DecidableEq
def Ty.nm : Ty → String
  | .int => "int"
  | .bool => "bool"
  | .str => "str"
  | .list => "list"
  | .tuple => "tuple"
  | .dict => "dict"
def isaP : Ty → P → Bool
  | .int, .int _ => true
  | .int, .bool _ => true
  | .bool, .bool _ => true
  | .str, .str _ => true
  | .list, .list _ => true
  | .tuple, .tuple _ => true
  | .dict, .dict _ => true
  | _, _ => false
def isiP (t : Ty) : Op
  | [p] => some (.bool (isaP t p))
  | _ => none
def kindP : P → String
  | .none => "NoneType"
  | .bool _ => "bool"
  | .int _ => "int"
  | .str _ => "str"
  | .list _ => "list"
  | .tuple _ => "tuple"
  | .dict _ => "dict"
theorem kit_isa (t : Ty) (p : P) : kitB (kindP p) t.nm = some (isaP t p) := by
  cases t <;> cases p <;> (simp only [kindP, Ty.nm, isaP]; decide +kernel)
theorem no_sqt {K : Fg} {a : Addr} {xs : List V} {H : Hp} (h : SqT K (fun _ => none) a xs) : TyX K H (.ref a) (.type "tuple") := by
  rcases h with h | ⟨o, its, n, h1, h2, _⟩
  · rcases h with h | ⟨_, h⟩ <;> cases h
  · exact .kTuple h1 h2
/-- a value's type, a dict's too -/
def TyD (K : Fg) (H : Hp) (x : V) (t : Value) : Prop := TyX K H x t ∨ ∃ a o, x = .ref a ∧ H a = some (DcO a o) ∧ o.ExactDict ∧ t = .type "dict"
theorem RL.ty {K : Fg} {H : Hp} {W : Addr → Prop} {p : P} {x : V} (r : RL K H W p x) : TyD K H x (.type (kindP p)) := by
  cases p with
  | none => cases r; exact .inl (.base .non)
  | bool b => cases r; exact .inl (.base (.bl b))
  | int i => cases r; exact .inl (.base (.int i))
  | str y => cases r; exact .inl (.base (.str y))
  | list ds => obtain ⟨a, xs, rfl, q, _⟩ := r; exact .inl (.base (.lst q))
  | tuple ds =>
    cases r with
    | tup f _ _ =>
      rcases f with ⟨f, _⟩ | f
      · exact .inl (.base (.tup f))
      · exact .inl (no_sqt f)
  | dict kvs =>
    obtain ⟨a, rfl, o, es, ep, kd, h1, h2, _⟩ := r
    exact .inr ⟨a, o, rfl, h1, h2, rfl⟩
def rIsD (K : Fg) : List V → Hp → VK → Prop := fun xs H Q => ∃ (x c : V) (t u : Value) (b : Bool), xs = [x, c] ∧ ClsV c u ∧ TyD K H x t ∧ PySem.W.kitOne K t u = some b ∧ Q (.bl b) H
theorem call_isD {X : Cx} : CallR X (.builtin "isinstance") (rIsD X.K) := by
  intro pins s σ H xs us Q I r h
  obtain ⟨x, c, t, u, b, rfl, k, ty, e, q⟩ := h
  rcases ty with ty | ⟨a, o, rfl, h1, h2, rfl⟩
  · exact call_isi pins s σ H _ us Q I r ⟨x, c, t, u, b, rfl, k, ty, e, q⟩
  · obtain ⟨u1, u2, rfl, r1, r2⟩ := vals2 r
    cases r1
    have e2 := k.eq r2
    subst e2
    exact PySem.W.kia_one PySem.W.kitx_dict I.kIn ⟨o, obj_of I h1, h2.1⟩ e (fun z => nomatch z) fun tk => ⟨.bl b, H, I.tok tk, rfl, q⟩
section
variable {X : Cx} {C : Ct} {a b c : Expr} {es : List Expr} {m ma mb md : M DV} {mc : M Bool} {ms : M (List DV)} {f g : List P → Option P} {pos p1 p2 : Pos}
theorem d_isi {t : Ty} {x y : Str} (hK : C.K = X.K) (hg : Gl X x) (hm : X.mg x = none) (hv : bootBuiltins x = some (.builtin "isinstance")) (hg2 : Gl X y) (hm2 : X.mg y = none) (hv2 : bootBuiltins y = some (.type t.nm)) (ha : PE X a (TEd C m))
    (hn : x ≠ "__name__") (hdb : (x == ("__debug__" : Str)) = false) (hn2 : y ≠ "__name__") (hdb2 : (y == ("__debug__" : Str)) = false)
    (he : starEach [a, .Name y p2] X.env = (false, eval a X.env) :: starEach [.Name y p2] X.env) (he2 : starEach [.Name y p2] X.env = (false, eval (.Name y p2) X.env) :: starEach [] X.env)
    (hpl : (backTo pos (starEach [.Name y p2] X.env)).any (·.1) = false) : PE X (.Call (.Name x p1) [a, .Name y p2] [] pos) (TEd C (mOp (isiP t) (mCons m mNil))) := by
  obtain ⟨K0, cls0, W0⟩ := C
  obtain rfl : K0 = X.K := hK
  refine PE.imp (pe_callB call_isD hg hm hv (pa_cons ha (pa_cons (pe_bltn hg2 hm2 hv2 (v := .ty t.nm) rfl hn2 hdb2) pa_nil he2) he) hn hdb he hpl) fun σ H Q ⟨B, φ, e, h, s, q⟩ => ?_
  simp only [mOp, mCons, mNil, R.bind_assoc, R.bind_ok] at q
  refine ⟨B, φ, e, h, s, PostG.bind (f := fun v e h => opEnd (isiP t) [v] e h) q fun v e1 h1 φ1 H1 x _ s1 st1 r1 p1 => ?_⟩
  unfold opEnd at p1
  cases c : look v e1 h1 with
  | none => simp only [looks, c] at p1; exact p1.elim
  | some p =>
    simp only [looks, c, isiP] at p1
    exact ⟨x, .ty t.nm, .type (kindP p), .type t.nm, isaP t p, rfl, .ty _, (look_rl s1 r1 c).ty, kit_ty (kit_isa t p), p1.ret (v := DV.d (.bool (isaP t p))) s1 (RP.bl _)⟩
end

/-! ### list methods -/
abbrev Mt := List P → List P → Option (P × List P)
def appendM : Mt := fun ds ps => match ps with
  | [p] => some (.none, ds ++ [p])
  | _ => none
def popM : Mt := fun ds ps => match ps with
  | [] => (ds[ds.length - 1]?).map fun r => (r, ds.dropLast)
  | [.int i] => if -(2 ^ 63) ≤ i ∧ i < 2 ^ 63 then (ixP ds.length i).bind fun j => (ds[j]?).map fun r => (r, ds.eraseIdx j) else none
  | _ => none
def insertM : Mt := fun ds ps => match ps with
  | [.int i, p] => if 0 ≤ i ∧ i < 2 ^ 63 then some (.none, ds.take i.toNat ++ [p] ++ ds.drop i.toNat) else none
  | _ => none
def clearM : Mt := fun ds ps => match ps with
  | [] => some (.none, [])
  | _ => none
def extendM : Mt := fun ds ps => match ps with
  | [.list es] => some (.none, ds ++ es)
  | _ => none
section
variable {X : Cx}
theorem ixP_seq {n j : Nat} {i : Int} (q : ixP n i = some j) : seqIndex? i n = some j := by
  unfold ixP at q
  unfold seqIndex?
  by_cases h : 0 ≤ i
  · rw [if_pos h] at q
    by_cases h2 : i < n
    · rw [if_pos h2] at q; cases q; simp <;> omega
    · rw [if_neg h2] at q; cases q
  · rw [if_neg h] at q
    by_cases h2 : -(n : Int) ≤ i
    · rw [if_pos h2] at q; cases q; simp <;> omega
    · rw [if_neg h2] at q; cases q
theorem m_append : MtR X "list.append" (rM X.K appendM) := by
  intro pins s σ H x vs v us Q I rx rv h
  obtain ⟨W, a, xs, ds, ps, r, ds', rfl, hH, l, rd, rp, fe, l', q⟩ := h
  unfold appendM at fe
  split at fe
  · rename_i p
    cases fe
    cases rp with
    | cons a1 b1 =>
      cases b1
      exact mt_append pins s σ H _ _ v us Q I rx rv ⟨a, xs, _, rfl, rfl, hH, by rw [line16, ← rd.length]; simp at l'; omega, q _ _ .non (rd.append (.cons a1 .nil))⟩
  · cases fe
theorem m_pop : MtR X "list.pop" (rM X.K popM) := by
  intro pins s σ H x vs v us Q I rx rv h
  obtain ⟨W, a, xs, ds, ps, r, ds', rfl, hH, l, rd, rp, fe, l', q⟩ := h
  unfold popM at fe
  split at fe
  · cases rp
    cases c : ds[ds.length - 1]? with
    | none => rw [c] at fe; cases fe
    | some d =>
      rw [c] at fe
      cases fe
      obtain ⟨z, z1, z2⟩ := rd.get c
      exact mt_pop pins s σ H _ _ v us Q I rx rv ⟨a, xs, z, rfl, rfl, hH, by rw [← rd.length]; exact z1, q _ _ z2 rd.dropLast⟩
  · rename_i i
    cases rp with
    | cons a1 b1 =>
      cases a1; cases b1
      split at fe
      · rename_i hi
        cases c : ixP ds.length i with
        | none => rw [c] at fe; cases fe
        | some j =>
          rw [c] at fe
          cases c2 : ds[j]? with
          | none => simp [c2] at fe
          | some d =>
            simp only [Option.bind_some, c2, Option.map_some] at fe
            cases fe
            obtain ⟨z, z1, z2⟩ := rd.get c2
            exact mt_popAt pins s σ H _ _ v us Q I rx rv ⟨a, xs, i, j, z, rfl, rfl, hH, hi.1, hi.2, by rw [← rd.length]; exact ixP_seq c, z1, q _ _ z2 (rd.eraseIdx j)⟩
      · cases fe
  · cases fe
theorem m_insert : MtR X "list.insert" (rM X.K insertM) := by
  intro pins s σ H x vs v us Q I rx rv h
  obtain ⟨W, a, xs, ds, ps, r, ds', rfl, hH, l, rd, rp, fe, l', q⟩ := h
  unfold insertM at fe
  split at fe
  · rename_i i p
    split at fe
    · rename_i hi
      cases fe
      cases rp with
      | cons a1 b1 =>
        cases a1
        cases b1 with
        | cons a2 b2 =>
          cases b2
          refine mt_insert pins s σ H _ _ v us Q I rx rv ⟨a, xs, i, _, rfl, rfl, hH, ?_, hi.1, hi.2, q _ _ .non (((rd.take _).append (.cons a2 .nil)).append (rd.drop _))⟩
          rw [line16, ← rd.length]
          simp at l'
          omega
    · cases fe
  · cases fe
theorem m_clear : MtR X "list.clear" (rM X.K clearM) := by
  intro pins s σ H x vs v us Q I rx rv h
  obtain ⟨W, a, xs, ds, ps, r, ds', rfl, hH, l, rd, rp, fe, l', q⟩ := h
  unfold clearM at fe
  split at fe
  · cases fe
    cases rp
    exact mt_clear pins s σ H _ _ v us Q I rx rv ⟨a, xs, rfl, rfl, hH, q _ _ .non .nil⟩
  · cases fe
theorem m_extend : MtR X "list.extend" (rM X.K extendM) := by
  intro pins s σ H x vs v us Q I rx rv h
  obtain ⟨W, a, xs, ds, ps, r, ds', rfl, hH, l, rd, rp, fe, l', q⟩ := h
  unfold extendM at fe
  split at fe
  · rename_i es
    cases fe
    cases rp with
    | cons a1 b1 =>
      cases b1
      cases a1 with
      | lst f1 l1 r1 =>
        exact mt_extend pins s σ H _ _ v us Q I rx rv ⟨a, _, xs, _, rfl, rfl, hH, f1.1, by rw [line16, ← rd.length, ← r1.length]; simpa using l', q _ _ .non (rd.append r1)⟩
  · cases fe
end
end DL
/-! D12: sets of texts: set(xs), len, sorted. -/
namespace DL
open PySem PySem.Spec PyProof.Rows L2
variable [WorldC]

def txt (v : Value) : Str := match v with
  | .str x _ => x
  | _ => Str.empty
def ent (e : Int × Value) : Str := txt e.2
def TxE (w : World) (e : Int × Value) : Prop := ∃ x t, e.2 = Value.str x t ∧ e.1 = hashStr w x
/-- the set of texts at a -/
structure SetX (w : World) (h : Heap) (a : Addr) (S : Str → Bool) (n : Nat) : Prop where
  ex : ∃ o es ep t, h.get? a = some o ∧ o.ExactSet ∧ o.data = .set es ep t ∧ (∀ e ∈ es.toList, TxE w e) ∧ (es.toList.map ent).Nodup ∧ (∀ k, S k = true ↔ k ∈ es.toList.map ent) ∧
    es.size < scanBound ∧ t.fits es.size = true ∧ es.size = n ∧ Ris t.place.toList ∧ (w.params.followText "set-order" = true ∨ t.led = true)

section
variable {P : Program} {w : World} {h h' : Heap} {a : Addr} {S : Str → Bool} {n : Nat}
theorem SetX.at (R : SetX w h a S n) (k : ∀ o, h.get? a = some o → h'.get? a = some o) : SetX w h' a S n := let ⟨o, es, ep, t, ho, r⟩ := R.ex; ⟨⟨o, es, ep, t, k o ho, r⟩⟩
theorem SetX.congr {S' : Str → Bool} (R : SetX w h a S n) (e : ∀ k, S' k = S k) : SetX w h a S' n := by obtain rfl : S' = S := funext e; exact R
theorem txe_elems {l : List (Int × Value)} (g : ∀ e ∈ l, TxE w e) : ElemsOf (PySem.strKind P w) l := fun e he => by
  obtain ⟨x, t, h1, h2⟩ := g e he
  refine ⟨⟨x, ?_, h2⟩, ?_⟩
  · rw [h1]; exact strKind_is _ _ _ _
  · rw [h1]; rfl
theorem txe_is {e : Int × Value} (g : TxE w e) (k : Str) : (PySem.strKind P w).is k e.2 = true ↔ ent e = k := by
  obtain ⟨x, t, h1, _⟩ := g
  have e2 : ent e = x := by unfold ent; rw [h1]; rfl
  rw [e2, h1]
  constructor
  · intro q
    exact (PySem.strKind P w).inj _ _ _ (strKind_is _ _ _ _) q
  · rintro rfl
    exact strKind_is _ _ _ _
theorem txe_mem {l : List (Int × Value)} (g : ∀ e ∈ l, TxE w e) (k : Str) : k ∈ l.map ent ↔ ∃ e ∈ l, (PySem.strKind P w).is k e.2 = true := by
  rw [List.mem_map]
  exact ⟨fun ⟨e, he, q⟩ => ⟨e, he, (txe_is (g e he) k).2 q⟩, fun ⟨e, he, q⟩ => ⟨e, he, (txe_is (g e he) k).1 q⟩⟩
end

section
variable {P : Program} {w : World} {A : Around} {E : Value → Shared → Prop} {s : Shared} {a : Addr} {S : Str → Bool} {n : Nat}
theorem x_tail {g : Bool → Sem Unit} (hg : ∀ (b : Bool) (s₁ : Shared) (Q' : Unit → Shared → Prop), Q' () s₁ → wpAny (model P w) A (g b) Q' E s₁)
    {o : Obj} {es es1 : Array (Int × Value)} {ep : Nat} {t t2 : SetTable} {S' : Str → Bool} {wasDummy : Bool} {R : Option Bool → Shared → Prop} (ho : s.heap.get? a = some o) (hex : o.ExactSet) (hd : o.data = .set es ep t)
    (g1 : ∀ e ∈ es1.toList, TxE w e) (nd1 : (es1.toList.map ent).Nodup) (m1 : ∀ k, S' k = true ↔ k ∈ es1.toList.map ent) (hb1 : es1.size < scanBound) (hf2 : t2.fits es1.size = true) (hr : Ris t2.place.toList)
    (hl : w.params.followText "set-order" = true ∨ t2.led = true) (hR : ∀ h', Heap.SameBut a s.heap h' → SetX w h' a S' es1.size → R (some true) { s with heap := h' }) :
    wpAny (model P w) A (do storeSet a es1 t2; if (!wasDummy && t2.tooFull) = true then (do g (relayAll t2 es1 (SetTable.grown es1.size)).2.2; storeSet a (relayAll t2 es1 (SetTable.grown es1.size)).1 (relayAll t2 es1 (SetTable.grown es1.size)).2.1; pure (some true)) else pure (some true)) R E s := by
  refine wpAny_bind (wpAny_storeSet_of ho hd ?_ (fits_of_scanBound hb1))
  have at1 := store_at (es' := es1) (t' := t2) ho hd
  have same1 := Heap.SameBut.update s.heap a (Obj.putSet es1 t2)
  by_cases full : (!wasDummy && t2.tooFull) = true
  case neg => rw [if_neg full]; exact wpAny_pure (hR _ same1 ⟨⟨_, es1, _, t2, at1, hex, rfl, g1, nd1, m1, hb1, hf2, rfl, hr, hl⟩⟩)
  case pos =>
    rw [if_pos full]
    have pm := relayAll_perm t2 es1 (SetTable.grown es1.size)
    have fit3 := relayAll_fits t2 es1 (SetTable.grown es1.size)
    have ris3 := relayAll_ris t2 es1 (SetTable.grown es1.size)
    have led3 := relayAll_led t2 es1 (SetTable.grown es1.size)
    generalize relayAll t2 es1 (SetTable.grown es1.size) = Z at pm fit3 ris3 led3 ⊢
    obtain ⟨es2, t3, gave⟩ := Z
    dsimp only at pm fit3 ris3 led3 ⊢
    have len2 : es2.size = es1.size := by rw [← Array.length_toList, pm.length_eq, Array.length_toList]
    have few2 : es2.size < scanBound := len2 ▸ hb1
    refine wpAny_bind (hg _ _ _ (wpAny_bind (wpAny_storeSet_of at1 rfl (wpAny_pure (hR _ (same1.trans (Heap.SameBut.update _ a _)) ?_)) (fits_of_scanBound few2))))
    refine ⟨⟨_, es2, _, t3, store_at (es' := es2) (t' := t3) at1 rfl, hex, rfl, fun e he => g1 e (pm.mem_iff.mp he), (pm.map ent).nodup_iff.mpr nd1, fun k => (m1 k).trans (pm.map ent).mem_iff.symm, few2, fit3, len2, ris3, ?_⟩⟩
    exact hl.imp id fun z => led3.trans z

theorem x_add {k : Str} {tk : Tok} {Q : Bool → Shared → Prop} (R : SetX w s.heap a S n) (room : n + 1 < scanBound)
    (hQ : ∀ h' n', Heap.SameBut a s.heap h' → n' ≤ n + 1 → SetX w h' a (fun j => S j || decide (j = k)) n' → Q (!S k) { s with heap := h' }) :
    wpAny (model P w) A (setAddHashed a (.str k tk) ((PySem.strKind P w).hash k)) Q E s := by
  obtain ⟨o, es, ep, t, ho, hex, hd, g, nd, hm, hb, hf, hn, hr, hl⟩ := R.ex
  have key : (PySem.strKind P w).is k (.str k tk) = true := strKind_is _ _ _ _
  have scan : (Value.str k tk).scannable = true := rfl
  have elems : ElemsOf (PySem.strKind P w) es.toList := txe_elems g
  unfold setAddHashed setAddHashedIn
  refine wpAny_holding (wpAny_bind (wpAny_setState_of ho hd hf ?_)); dsimp only
  rw [byScan_of scan hb elems]; simp only [↓reduceIte]; unfold setAddByScan
  refine wpAny_bind (wpAny_bind (wpAny_rule (wpAny_bind (wpAny_setScan_of key ho hd hf elems ?_))))
  cases found : List.findIdx? (fun e => (PySem.strKind P w).is k e.2) es.toList with
  | some j =>
    dsimp only
    obtain ⟨jl, jk, _⟩ := List.findIdx?_eq_some_iff_getElem.mp found
    have inS : S k = true := (hm k).2 ((txe_mem (P := P) (w := w) g k).2 ⟨es.toList[j], List.getElem_mem jl, jk⟩)
    have q := hQ s.heap n (Heap.SameBut.refl a s.heap) (Nat.le_succ n) ⟨⟨o, es, ep, t, ho, hex, hd, g, nd, fun i => by
      rw [Bool.or_eq_true, decide_eq_true_eq, ← hm i]; exact ⟨fun z => z.elim id (fun e => e ▸ inS), .inl⟩, hb, hf, hn, hr, hl⟩⟩
    rw [inS] at q
    exact wpAny_pure (wpAny_pure q)
  | none =>
    dsimp only
    have notIn : k ∉ es.toList.map ent := fun z => by
      obtain ⟨e, he, q⟩ := (txe_mem (P := P) (w := w) g k).1 z
      exact Bool.false_ne_true ((List.findIdx?_eq_none_iff.mp found e he).symm.trans q)
    have notS : S k = false := by
      cases q : S k with
      | false => rfl
      | true => exact absurd ((hm k).1 q) notIn
    have say : ∀ (b : Bool) {s₁ : Shared} {Q' : Unit → Shared → Prop}, Q' () s₁ → wpAny (model P w) A (match b with | true => rule "set.scan.the-table-gave-way" | false => pure ()) Q' E s₁ := fun b s₁ Q' q => by
      cases b <;> first | exact wpAny_pure q | exact wpAny_rule q
    have pm := layNew_perm t es ((PySem.strKind P w).hash k) (.str k tk)
    have fit1 := layNew_fits t es ((PySem.strKind P w).hash k) (.str k tk)
    have ris1 := layNew_ris t es ((PySem.strKind P w).hash k) (.str k tk) hr
    have led1 := layNew_led t es ((PySem.strKind P w).hash k) (.str k tk)
    generalize layNew t es ((PySem.strKind P w).hash k) (.str k tk) = Z at pm fit1 ris1 led1 ⊢
    obtain ⟨es1, t1, wasDummy, gave⟩ := Z
    dsimp only at pm fit1 ris1 led1 ⊢
    have pc : es1.toList.Perm (((PySem.strKind P w).hash k, Value.str k tk) :: es.toList) := by rw [Array.toList_push] at pm; exact pm.trans (List.perm_append_singleton _ _)
    have pk : (es1.toList.map ent).Perm (k :: es.toList.map ent) := pc.map ent
    have g1 : ∀ e ∈ es1.toList, TxE w e := fun e he => (List.mem_cons.mp (pc.mem_iff.mp he)).elim (fun z => by rw [z]; exact ⟨k, tk, rfl, rfl⟩) (g e)
    have nd1 : (es1.toList.map ent).Nodup := pk.nodup_iff.mpr (List.nodup_cons.mpr ⟨notIn, nd⟩)
    have m1 : ∀ i, (S i || decide (i = k)) = true ↔ i ∈ es1.toList.map ent := fun i => by rw [Bool.or_eq_true, decide_eq_true_eq, hm i, pk.mem_iff, List.mem_cons]; exact Or.comm
    have len1 : es1.size = n + 1 := by rw [← Array.length_toList, pc.length_eq, List.length_cons, Array.length_toList, hn]
    have few1 : es1.size < scanBound := len1 ▸ room
    have ledOr : w.params.followText "set-order" = true ∨ t1.led = true := hl.imp id fun z => led1.trans z
    have fin : ∀ h', Heap.SameBut a s.heap h' → SetX w h' a (fun j => S j || decide (j = k)) es1.size → Q true { s with heap := h' } := fun h' sb r => by
      have q := hQ h' (n + 1) sb (Nat.le_refl _)
      rw [notS] at q; rw [len1] at r; exact q r
    refine wpAny_bind (say _ ?_)
    split
    · refine wpAny_bind ?_
      rw [hashByValue_scannable 8 scan]
      refine wpAny_pure (x_tail ?_ ho hex hd g1 nd1 m1 few1 ?_ ?_ ?_ ?_)
      · intro b s₁ Q' q
        cases b <;> first | exact wpAny_pure q | exact wpAny_rule q
      · first | (split <;> first | exact fit1 | exact SetTable.fits_plain_off fit1) | exact fit1
      · first | (split <;> exact ris1) | exact ris1
      · first | (split <;> exact ledOr) | exact ledOr
      · intro h' sb r
        dsimp only
        exact wpAny_pure (fin h' sb r)
    · refine wpAny_bind (wpAny_pure ?_)
      simp only [↓reduceIte]
      refine x_tail ?_ ho hex hd g1 nd1 m1 few1 fit1 ris1 ledOr ?_
      · intro b s₁ Q' q
        cases b <;> first | exact wpAny_pure q | exact wpAny_rule q
      · intro h' sb r
        dsimp only
        exact wpAny_pure (fin h' sb r)
end

/-! ### set(xs) -/
section
variable {P : Program} {w : World} {A : Around} {E : Value → Shared → Prop} {s : Shared}
def new0 (w : World) : Obj := { cls := .type "set", dict := none, data := .set #[] 0 (.fresh 0 0 (!w.params.followText "set-order")) }
theorem setX_new {h : Heap} {a : Addr} (q : h.get? a = some (new0 w)) : SetX w h a (fun _ => false) 0 := by
  refine ⟨⟨_, #[], 0, _, q, ⟨rfl, rfl, rfl⟩, rfl, fun e he => by simp at he, by simp, fun k => by simp, by decide, by rfl, rfl, List.Pairwise.nil, ?_⟩⟩
  show _ ∨ (!w.params.followText "set-order") = true
  cases w.params.followText "set-order" <;> simp
theorem x_loop {R : Result → Shared → Prop} {I : Addr} {fp wr : List Addr} {G : Array GenState → Array GenState → Prop} {n : Nat} {Pv : Nat → Value → Prop} {St : Nat → Shared → Prop} (W : WalksS P w A.in1 I fp wr G n Pv St)
    (S : Addr) (hSf : S ∉ fp) (xs : List Str) (few : n + 2 < scanBound) (hval : ∀ i v, Pv i v → ∃ x t, xs[i]? = some x ∧ v = .str x t) :
    ∀ (k i c : Nat) (s : Shared), n - i = k → i ≤ n → c ≤ i → St i s → SetX w s.heap S (fun j => decide (j ∈ xs.take i)) c →
      (∀ s' c', Moved (S :: wr) G s s' → c' ≤ n → SetX w s'.heap S (fun j => decide (j ∈ xs.take n)) c' → R (.ok (.ret .none)) s') → codeAny (model P w) A (.builtin "set.update.loop" ⟨[.ref S, .ref I], []⟩) R s := by
  have notW : S ∉ wr := fun z => hSf (W.sub _ z)
  have more : ∀ b ∈ wr, b ∈ S :: wr := fun b hb => List.mem_cons_of_mem _ hb
  intro k
  induction k with
  | zero =>
    intro i c s hk hi hc hst hS hR
    obtain rfl : i = n := by omega
    refine codeAny_builtin F.entry_set_update_loop ?_; rw [Around.under_plainId F.plain_set_update_loop _]
    refine wpAny_bind (W.done s _ _ hst fun s' hm => wpAny_pure (hR s' c (hm.mono more) hc (hS.at fun o e => hm.heap S o notW e)))
  | succ k ih =>
    intro i c s hk hi hc hst hS hR
    have lt : i < n := by omega
    refine codeAny_builtin F.entry_set_update_loop ?_; rw [Around.under_plainId F.plain_set_update_loop _]
    refine wpAny_bind (W.item i s _ _ lt hst fun v s' hP hst' hm => ?_)
    obtain ⟨x, t, hx, rfl⟩ := hval i v hP
    show wpAny _ A.in1 (holding [Value.str x t] (setAdd S (.str x t)) >>= _) _ _ s'
    refine wpAny_bind (wpAny_holding ?_); unfold setAdd
    refine wpAny_holding (wpAny_bind ((PySem.strKind P w).pyHash (k := x) (strKind_is _ _ _ _) ?_))
    refine x_add (s := { s' with toks := s'.toks + 1 }) (hS.at fun o e => hm.heap S o notW e) (by omega) fun h' c' same lc hS2 => ?_
    have hS3 : SetX w h' S (fun j => decide (j ∈ xs.take (i + 1))) c' := hS2.congr fun j => by
      rw [List.take_add_one, hx]; simp [List.mem_append]
    have other : ∀ b o, b ≠ S → s'.heap.get? b = some o → h'.get? b = some o := fun b o nb e => (same.2 b nb).trans e
    refine wpAny_pure ⟨plainId_quiet F.plain_set_update_loop _, ih (i + 1) c' _ (by omega) lt (by omega) (W.frame _ s' _ _ hst' (Nat.le_succ _) fun b hb o e => other b o (fun z => hSf (z ▸ hb)) e) hS3 fun s'' c2 hm2 hc2 hS'' => ?_⟩
    exact hR s'' c2 (Moved.trans W.gtrans ((hm.mono more).then_heap (Nat.le_succ _) fun b o hb e => other b o (fun z => hb (by rw [z]; exact List.mem_cons_self)) e) hm2) hc2 hS''

theorem strs_get : ∀ {us : List Value} {xs : List Str}, StrsAre us xs → us.length = xs.length ∧ ∀ (i : Nat) (v : Value), us[i]? = some v → ∃ x t, xs[i]? = some x ∧ v = .str x t
  | _, _, .nil => ⟨rfl, fun i v h => by simp at h⟩
  | _, _, .cons n t hr => by
    obtain ⟨l, g⟩ := strs_get hr
    refine ⟨by simp [l], fun i v h => ?_⟩
    cases i with
    | zero => simp at h; exact ⟨n, t, rfl, h.symm⟩
    | succ i => exact g i v (by simpa using h)

set_option maxHeartbeats 3200000 in
theorem x_set {l : Addr} {items : Array Value} {xs : List Str} {Q : Value → Shared → Prop} (hh : A.handled = none) (hl : s.heap.IsList l items) (hi : StrsAre items.toList xs) (few : xs.length + 2 < scanBound)
    (h : ∀ (h' : Heap) (tk c : Nat), c ≤ xs.length → SetX w h' s.heap.objs.size (fun j => decide (j ∈ xs)) c → (∀ b o, s.heap.get? b = some o → h'.get? b = some o) → Q (.ref s.heap.objs.size) { s with heap := h', toks := tk }) :
    wpAny (model P w) A (call (.type "set") [.ref l]) Q E s := by
  obtain ⟨len, gets⟩ := strs_get hi
  have len' : items.size = xs.length := by rw [← len, Array.length_toList]
  obtain ⟨c, tl, hmro⟩ := F.called_set.mro
  have c1 := F.called_set.made; have c2 := F.called_set.sub; have c3 := F.called_set.notType; have c4 := F.called_set.canCreate; have c5 := F.typeCall_set_1 (.ref l)
  refine wpAny_call (codeAny_of_tree ?_); show wpAny _ _ (callAny (.type "set") _) _ _ _
  refine wpAny_pure ⟨Code.quiet_builtin _ (by decide +kernel), codeAny_builtin F.entry_type_call ?_⟩; rw [Around.under_plain (weight_type_call_type "set" [.ref l] []) rfl]
  repeat (any_goals (first | assumption | wp_step))

  refine codeAny_mono (code_set_led1 (.ref l) (E := E) (Q₁ := fun obj s₁ => obj = .ref s.heap.objs.size ∧ s₁ = { s with heap := s.heap.push (new0 w) }) ⟨rfl, rfl⟩) fun r s₁ hr => ?_
  cases r with
  | error e => exact hr
  | ok fl =>
    cases fl with
    | ret obj =>
      obtain ⟨rfl, rfl⟩ := hr
      have here : (s.heap.push (new0 w)).get? s.heap.objs.size = some (new0 w) := Heap.get?_push_size _ rfl
      have isSet : Shared.TypeIs { s with heap := s.heap.push (new0 w) } (.ref s.heap.objs.size) "set" := ⟨_, here, rfl⟩
      have i1 := F.called_set.init.lookup; have i2 := F.called_set.init.bind (.ref s.heap.objs.size)
      repeat (any_goals (first | assumption | wp_step))

      refine codeAny_mono (codeAny_call_builtin (R := wants (fun r s₂ => r = .none ∧ ∃ h' tk c, s₂ = { s with heap := h', toks := tk } ∧ c ≤ xs.length ∧ SetX w h' s.heap.objs.size (fun j => decide (j ∈ xs)) c ∧
          ∀ b o, s.heap.get? b = some o → h'.get? b = some o) E) F.called_set.init.plain F.entry_set_init (check_set_init_1 isSet ?_)) fun r₂ s₂ hr₂ => ?_
      · obtain ⟨⟨k1, k2, k3, k4⟩, hol, hcl, nl, hdl⟩ := hl
        simp only at hcl hdl; subst hcl; subst hdl
        have hol' : (s.heap.push (new0 w)).get? l = some { cls := .type "list", dict := k2, data := .seq items nl, slots := k4 } := Heap.get?_push_of_some _ hol
        have j1 := F.sub_list_set; have j2 := F.sub_list_frozenset; have j3 : (Value.type "list" == Value.type "dict") = false := by decide
        have hl1 : (s.heap.push (new0 w)).IsList l items := ⟨_, hol', rfl, nl, rfl⟩
        unfold Builtin.«set.__init__» noKeywords Builtin.Frozenset.updateFrom
        generalize hPI : pyIter = PI
        wp_walk
        subst hPI

        refine wpAny_pyIter_list hl1 (wpAny_bind (wpAny_runValue ?_))
        have lS : l < s.heap.objs.size := Heap.lt_size hol
        have hh3 : A.in1.in1.in1.handled = none := by simp [hh]
        have sz : (s.heap.push (new0 w)).objs.size = s.heap.objs.size + 1 := Heap.size_push ..
        refine x_loop ((Walks.list hh3 _ l (by rw [sz]; exact Nat.ne_of_lt (Nat.lt_succ_of_lt lS)) items).toS) s.heap.objs.size (by rw [sz]; simp only [List.mem_cons, List.not_mem_nil, or_false, not_or]; exact ⟨Nat.ne_of_lt (Nat.lt_succ_self _), Nat.ne_of_gt lS⟩) xs (by omega) (fun i v hv => gets i v (by rw [Array.getElem?_toList]; exact hv)) (items.size - 0) 0 0 _ (by omega) (Nat.zero_le _) (Nat.zero_le _)
          ⟨⟨_, Heap.get?_push_size _ rfl, rfl, rfl⟩, hl1.push _⟩ ((setX_new (Heap.get?_push_of_some _ here)).congr fun j => by simp) fun s' c' hm lc hS' => ?_
        obtain ⟨h', g2, d', tk', os'⟩ := s'
        obtain rfl : g2 = s.gens := hm.gens
        obtain rfl : d' = s.drawn := hm.drawn
        obtain rfl : os' = s.os := hm.os
        show wpAny _ _ _ _ _ _
        refine wpAny_pure ?_
        show wpAny _ _ (ret Value.none) _ _ _
        refine wpAny_pure ⟨rfl, h', tk', c', rfl, Nat.le_trans lc (Nat.le_of_eq len'), by rw [len', List.take_length] at hS'; exact hS', fun b o e => ?_⟩
        have bl := Heap.lt_size e
        refine hm.heap b o ?_ (Heap.get?_push_of_some _ (Heap.get?_push_of_some _ e))
        rw [sz]; simp only [List.mem_cons, List.not_mem_nil, or_false, not_or]
        exact ⟨Nat.ne_of_lt bl, Nat.ne_of_lt (Nat.lt_succ_of_lt bl)⟩

      · cases r₂ with
        | error e => exact hr₂
        | ok fl₂ =>
          cases fl₂ with
          | ret r =>
            obtain ⟨rfl, h', tk, c', rfl, lc, hS', kept⟩ := hr₂
            repeat (any_goals (first | assumption | wp_step))
            exact h _ _ _ lc hS' kept
          | _ => exact hr₂.elim
    | _ => exact hr.elim
set_option maxHeartbeats 3200000 in
theorem x_setT {l : Addr} {items : Array Value} {xs : List Str} {Q : Value → Shared → Prop} (hh : A.handled = none) (hl : s.heap.IsTuple l items) (hi : StrsAre items.toList xs) (few : xs.length + 2 < scanBound)
    (h : ∀ (h' : Heap) (tk c : Nat), c ≤ xs.length → SetX w h' s.heap.objs.size (fun j => decide (j ∈ xs)) c → (∀ b o, s.heap.get? b = some o → h'.get? b = some o) → Q (.ref s.heap.objs.size) { s with heap := h', toks := tk }) :
    wpAny (model P w) A (call (.type "set") [.ref l]) Q E s := by
  obtain ⟨len, gets⟩ := strs_get hi
  have len' : items.size = xs.length := by rw [← len, Array.length_toList]
  obtain ⟨c, tl, hmro⟩ := F.called_set.mro
  have c1 := F.called_set.made; have c2 := F.called_set.sub; have c3 := F.called_set.notType; have c4 := F.called_set.canCreate; have c5 := F.typeCall_set_1 (.ref l)
  refine wpAny_call (codeAny_of_tree ?_); show wpAny _ _ (callAny (.type "set") _) _ _ _
  refine wpAny_pure ⟨Code.quiet_builtin _ (by decide +kernel), codeAny_builtin F.entry_type_call ?_⟩; rw [Around.under_plain (weight_type_call_type "set" [.ref l] []) rfl]
  repeat (any_goals (first | assumption | wp_step))

  refine codeAny_mono (code_set_led1 (.ref l) (E := E) (Q₁ := fun obj s₁ => obj = .ref s.heap.objs.size ∧ s₁ = { s with heap := s.heap.push (new0 w) }) ⟨rfl, rfl⟩) fun r s₁ hr => ?_
  cases r with
  | error e => exact hr
  | ok fl =>
    cases fl with
    | ret obj =>
      obtain ⟨rfl, rfl⟩ := hr
      have here : (s.heap.push (new0 w)).get? s.heap.objs.size = some (new0 w) := Heap.get?_push_size _ rfl
      have isSet : Shared.TypeIs { s with heap := s.heap.push (new0 w) } (.ref s.heap.objs.size) "set" := ⟨_, here, rfl⟩
      have i1 := F.called_set.init.lookup; have i2 := F.called_set.init.bind (.ref s.heap.objs.size)
      repeat (any_goals (first | assumption | wp_step))

      refine codeAny_mono (codeAny_call_builtin (R := wants (fun r s₂ => r = .none ∧ ∃ h' tk c, s₂ = { s with heap := h', toks := tk } ∧ c ≤ xs.length ∧ SetX w h' s.heap.objs.size (fun j => decide (j ∈ xs)) c ∧
          ∀ b o, s.heap.get? b = some o → h'.get? b = some o) E) F.called_set.init.plain F.entry_set_init (check_set_init_1 isSet ?_)) fun r₂ s₂ hr₂ => ?_
      · obtain ⟨⟨k1, k2, k3, k4⟩, hol, hcl, nl, hdl⟩ := hl
        simp only at hcl hdl; subst hcl; subst hdl
        have hol' : (s.heap.push (new0 w)).get? l = some { cls := .type "tuple", dict := k2, data := .seq items nl, slots := k4 } := Heap.get?_push_of_some _ hol
        have j1 := F.sub_tuple_set; have j2 := F.sub_tuple_frozenset; have j3 : (Value.type "tuple" == Value.type "dict") = false := by decide
        have hl1 : (s.heap.push (new0 w)).IsTuple l items := ⟨_, hol', rfl, nl, rfl⟩
        unfold Builtin.«set.__init__» noKeywords Builtin.Frozenset.updateFrom
        generalize hPI : pyIter = PI
        wp_walk
        subst hPI

        refine wpAny_pyIter_tuple hl1 (wpAny_bind (wpAny_runValue ?_))
        have lS : l < s.heap.objs.size := Heap.lt_size hol
        have hh3 : A.in1.in1.in1.handled = none := by simp [hh]
        have sz : (s.heap.push (new0 w)).objs.size = s.heap.objs.size + 1 := Heap.size_push ..
        refine x_loop ((Walks.tuple hh3 _ l (by rw [sz]; exact Nat.ne_of_lt (Nat.lt_succ_of_lt lS)) items).toS) s.heap.objs.size (by rw [sz]; simp only [List.mem_cons, List.not_mem_nil, or_false, not_or]; exact ⟨Nat.ne_of_lt (Nat.lt_succ_self _), Nat.ne_of_gt lS⟩) xs (by omega) (fun i v hv => gets i v (by rw [Array.getElem?_toList]; exact hv)) (items.size - 0) 0 0 _ (by omega) (Nat.zero_le _) (Nat.zero_le _)
          ⟨⟨_, Heap.get?_push_size _ rfl, rfl, rfl⟩, hl1.push _⟩ ((setX_new (Heap.get?_push_of_some _ here)).congr fun j => by simp) fun s' c' hm lc hS' => ?_
        obtain ⟨h', g2, d', tk', os'⟩ := s'
        obtain rfl : g2 = s.gens := hm.gens
        obtain rfl : d' = s.drawn := hm.drawn
        obtain rfl : os' = s.os := hm.os
        show wpAny _ _ _ _ _ _
        refine wpAny_pure ?_
        show wpAny _ _ (ret Value.none) _ _ _
        refine wpAny_pure ⟨rfl, h', tk', c', rfl, Nat.le_trans lc (Nat.le_of_eq len'), by rw [len', List.take_length] at hS'; exact hS', fun b o e => ?_⟩
        have bl := Heap.lt_size e
        refine hm.heap b o ?_ (Heap.get?_push_of_some _ (Heap.get?_push_of_some _ e))
        rw [sz]; simp only [List.mem_cons, List.not_mem_nil, or_false, not_or]
        exact ⟨Nat.ne_of_lt bl, Nat.ne_of_lt (Nat.lt_succ_of_lt bl)⟩

      · cases r₂ with
        | error e => exact hr₂
        | ok fl₂ =>
          cases fl₂ with
          | ret r =>
            obtain ⟨rfl, h', tk, c', rfl, lc, hS', kept⟩ := hr₂
            repeat (any_goals (first | assumption | wp_step))
            exact h _ _ _ lc hS' kept
          | _ => exact hr₂.elim
    | _ => exact hr.elim
end
end DL
/-! D13: sorted, sorted(set(..)), len(set(..)). -/
namespace DL
open PySem PySem.Spec PyProof.Rows L2
variable [WorldC]

/-! ### a list of data, sorted -/
def leD (a b : P) : Bool := PySem.W.dataLe false (fun p => p) a b
def allAlike (ds : List P) : Bool := ds.all fun d => ds.all fun d' => PySem.W.alike d d'
def isTup1 : P → Bool
  | .tuple (_ :: _) => true
  | _ => false
def noTup : P → Bool
  | .none => false
  | .tuple _ => false
  | _ => true
def sortable (ds : List P) : Bool := allAlike ds && (ds.all isTup1 || ds.all noTup) && ds.all fun d => decide (d.depth ≤ 100)
def sortedP : Op
  | [.list ds] => if sortable ds then some (.list (ds.mergeSort leD)) else none
  | _ => none
theorem sortable_data {ds : List P} (h : sortable ds = true) : PySem.W.AllAlike ds ∧ PySem.W.Sortable ds ∧ ∀ d ∈ ds, d.depth ≤ 100 := by
  unfold sortable allAlike at h
  simp only [Bool.and_eq_true, Bool.or_eq_true, List.all_eq_true, decide_eq_true_eq] at h
  obtain ⟨⟨h1, h2⟩, h3⟩ := h
  refine ⟨h1, ?_, h3⟩
  rcases h2 with h2 | h2
  · refine .inl fun d hd => ?_
    have q := h2 d hd
    cases d <;> simp [isTup1] at q
    rename_i xs
    cases xs with
    | nil => simp [isTup1] at q
    | cons x r => exact ⟨x, r, rfl⟩
  · refine .inr fun d hd => ?_
    have q := h2 d hd
    cases d <;> simp [noTup] at q <;> simp

section
variable {K : Fg} {H H' : Hp} {W : Addr → Prop} {X : Cx}
open PySem.W in
theorem each_of : ∀ {ds : List P} {xs : List V} {us : List Value}, RPs K H W ds xs → Vals xs us → EachIs (fun u d => ∃ x, RelV x u ∧ RP K H W d x) us ds
  | _, _, _, .nil, .nil => .nil
  | _, _, _, .cons a b, .cons r t => .cons ⟨_, r, a⟩ (each_of b t)
open PySem.W in
theorem each_back : ∀ {ds : List P} {us : List Value}, EachIs (fun u d => ∃ x, RelV x u ∧ RP K H W d x) us ds → ∃ xs, RPs K H W ds xs ∧ Vals xs us
  | _, _, .nil => ⟨[], .nil, .nil⟩
  | _, _, .cons ⟨x, r, a⟩ t => by
    obtain ⟨xs, b, c⟩ := each_back t
    exact ⟨x :: xs, .cons a b, .cons r c⟩
mutual
theorem alike_nod : ∀ {x : P}, PySem.W.alike x x = true → nod x = true
  | .none, _ => rfl
  | .bool _, _ => rfl
  | .int _, _ => rfl
  | .str _, _ => rfl
  | .list xs, h => alikes_nod (by simpa [PySem.W.alike] using h)
  | .tuple xs, h => alikes_nod (by simpa [PySem.W.alike] using h)
  | .dict _, h => by simp [PySem.W.alike] at h
theorem alikes_nod : ∀ {xs : List P}, PySem.W.alikeAll xs xs = true → nods xs = true
  | [], _ => rfl
  | x :: xs, h => by
    simp only [PySem.W.alikeAll, Bool.and_eq_true] at h
    simp only [nods, alike_nod h.1, alikes_nod h.2, Bool.and_self]
end
theorem o_sorted (hu : X.A.units + 200 < cLine) : CallR X (.builtin "sorted") (rN X.K resF sortedP) := by
  intro pins s σ H xs us Q I rv h
  obtain ⟨W, ps, r, nw, rl, fe, q⟩ := h
  unfold sortedP at fe
  split at fe
  · rename_i ds
    split at fe
    · rename_i hs
      cases fe
      obtain ⟨x, rfl, l, ys, rfl, q1, l1, r1⟩ := rls_1 rl
      rw [Vals.ref1 rv]
      obtain ⟨al, so, de⟩ := sortable_data hs
      obtain ⟨its, rits, pl, hz⟩ := I.list (.of q1)
      have len := r1.length
      have lenI := rits.length
      have e := each_of r1 rits
      refine PySem.W.sorted_data (vs := its) (bs := ds) (enc := fun p => p) pl.isList e ((PySem.W.each_mem e).mono fun u d ⟨⟨x, a, b⟩, hd⟩ => Dp.reads I d x u (b.dp (alike_nod (al d hd d hd))) a) (by simpa using al) (by simpa using so) (by rw [sizeLine_eq]; exact l1) (fun b hb => by have := de b hb; omega) fun out ho eo => ?_
      obtain ⟨ys', ry, vy⟩ := each_back eo
      obtain ⟨c, hc⟩ := sortedAll_at s.heap its out.toArray
      have n1 : H (s.heap.objs.size + 1) = none := I.hok.fresh (Nat.le_succ _)
      have l2 : ds.length = ys'.length := by have := ry.length; simpa using this
      refine ⟨.ref (s.heap.objs.size + 1), upd H (s.heap.objs.size + 1) (.lst ys'), I.laid (t' := s.toks) (fun b o q => sortedAll_old q) (Nat.le_succ _) ⟨by rw [sizeLine_eq, ← l2]; exact l1, out, c, vy, by simpa using hc⟩, rfl, ?_⟩
      exact q _ _ (upd_ext n1) (res_list nw n1 (by simpa using l1) ry)
    · cases fe
  · cases fe
end

/-! ### texts, each once, ascending -/
def insU (x : Str) : List Str → List Str
  | [] => [x]
  | y :: ys => if x = y then y :: ys else if strLt x y then x :: y :: ys else y :: insU x ys
def sortU (xs : List Str) : List Str := xs.foldr insU []
def UpS (xs : List Str) : Prop := xs.Pairwise fun x y => strLt x y = true
theorem strLt_irrefl (x : Str) : strLt x x = false := by
  unfold strLt
  exact decide_eq_false (List.lt_irrefl _)
theorem strLt_trans {x y z : Str} (a : strLt x y = true) (b : strLt y z = true) : strLt x z = true := by
  unfold strLt at *
  exact decide_eq_true (List.lt_trans (of_decide_eq_true a) (of_decide_eq_true b))
theorem str_ext {x y : Str} (h : x.cps.toList = y.cps.toList) : x = y := by
  cases x; cases y
  simp at h
  simp [h]
theorem strLt_total {x y : Str} (n : x ≠ y) (a : strLt x y = false) : strLt y x = true := by
  unfold strLt at *
  have h1 : ¬ x.cps.toList < y.cps.toList := of_decide_eq_false a
  refine decide_eq_true ?_
  rcases Classical.em (y.cps.toList < x.cps.toList) with h2 | h2
  · exact h2
  · exact absurd (str_ext (List.le_antisymm (List.not_lt.mp h2) (List.not_lt.mp h1))) n
theorem mem_insU {x z : Str} : ∀ {ys : List Str}, z ∈ insU x ys ↔ z = x ∨ z ∈ ys
  | [] => by simp [insU]
  | y :: ys => by
    unfold insU
    split
    · rename_i e; subst e; simp
    · split
      · simp
      · rw [List.mem_cons, mem_insU, List.mem_cons]
        constructor
        · rintro (h | h | h) <;> simp [h]
        · rintro (h | h | h) <;> simp [h]
theorem up_insU {x : Str} : ∀ {ys : List Str}, UpS ys → UpS (insU x ys)
  | [], _ => by simp [insU, UpS]
  | y :: ys, h => by
    obtain ⟨h1, h2⟩ := List.pairwise_cons.mp h
    unfold insU
    split
    · exact h
    · rename_i n
      split
      · rename_i l
        refine List.pairwise_cons.mpr ⟨fun z hz => ?_, h⟩
        rcases List.mem_cons.mp hz with e | e
        · subst e; exact l
        · exact strLt_trans l (h1 z e)
      · rename_i l
        refine List.pairwise_cons.mpr ⟨fun z hz => ?_, up_insU h2⟩
        rcases mem_insU.mp hz with e | e
        · subst e; exact strLt_total n (by simpa using l)
        · exact h1 z e
theorem mem_sortU {z : Str} : ∀ {xs : List Str}, z ∈ sortU xs ↔ z ∈ xs
  | [] => by simp [sortU]
  | x :: xs => by
    show z ∈ insU x (sortU xs) ↔ _
    rw [mem_insU, mem_sortU, List.mem_cons]
theorem up_sortU : ∀ {xs : List Str}, UpS (sortU xs)
  | [] => .nil
  | x :: xs => up_insU up_sortU
theorem up_nodup {xs : List Str} (h : UpS xs) : xs.Nodup := h.imp fun {a b} l e => by subst e; rw [strLt_irrefl] at l; cases l
theorem up_uniq {xs ys : List Str} (hx : UpS xs) (hy : UpS ys) (m : ∀ z, z ∈ xs ↔ z ∈ ys) : xs = ys :=
  List.Perm.eq_of_pairwise (le := fun a b => strLt a b = true) (fun a b _ _ l1 l2 => by have := strLt_trans l1 l2; rw [strLt_irrefl] at this; cases this) hx hy ((List.perm_ext_iff_of_nodup (up_nodup hx) (up_nodup hy)).mpr m)
theorem insU_len {x : Str} : ∀ {ys : List Str}, (insU x ys).length ≤ ys.length + 1
  | [] => by simp [insU]
  | y :: ys => by
    unfold insU
    split
    · simp
    · split
      · simp
      · have := insU_len (x := x) (ys := ys)
        simp only [List.length_cons]
        omega
theorem sortU_len : ∀ {xs : List Str}, (sortU xs).length ≤ xs.length
  | [] => by simp [sortU]
  | x :: xs => by
    have := insU_len (x := x) (ys := sortU xs)
    have := sortU_len (xs := xs)
    show (insU x (sortU xs)).length ≤ _
    simp only [List.length_cons]
    omega
end DL
/-! D14: sorted(set(..)), len(set(..)) of texts. -/
namespace DL
open PySem PySem.Spec PyProof.Rows L2
variable [WorldC]

def SetXO (w : World) (a : Addr) (S : Str → Bool) (n : Nat) : HO := .ext fun h => SetX w h a S n
section
variable {P : Program} {w : World} {A : Around} {E : Value → Shared → Prop} {s : Shared} {a : Addr} {S : Str → Bool} {n : Nat}
theorem setXO_ok {H : Hp} {h : Heap} (R : SetX w h a S n) : ObjOk P w H h a (SetXO w a S n) := by
  obtain ⟨o, es, ep, t, ho, r⟩ := id R.ex
  exact ⟨R, ⟨o, ho⟩, fun h1 h2 p k => SetX.at p k⟩
theorem txt_is : ∀ {vs : List Value}, (∀ v ∈ vs, ∃ x t, v = Value.str x t) → PySem.W.EachIs (fun v x => ∃ t, v = Value.str x t) vs (vs.map txt)
  | [], _ => .nil
  | v :: vs, h => by
    obtain ⟨x, t, rfl⟩ := h v List.mem_cons_self
    exact .cons ⟨t, rfl⟩ (txt_is fun u hu => h u (List.mem_cons_of_mem _ hu))
theorem each_strs : ∀ {vs : List Value} {xs : List Str}, PySem.W.EachIs (fun v x => ∃ t, v = Value.str x t) vs xs → Vals (xs.map V.str) vs
  | _, _, .nil => .nil
  | _, _, .cons ⟨t, e⟩ r => .cons ⟨t, e⟩ (each_strs r)
theorem up_of {xs : List Str} (nd : xs.Nodup) : UpS (xs.mergeSort (PySem.W.dataLe false PyData.str)) := by
  have le_iff : ∀ a b : Str, PySem.W.dataLe false PyData.str a b = true ↔ a.cps.toList ≤ b.cps.toList := fun a b => by
    have e := congrFun (congrFun (PySem.W.dataLe_str (fun x : Str => x)) a) b
    show PySem.W.dataLe false (fun x => PyData.str x) a b = true ↔ _
    rw [e, decide_eq_true_eq]
  have so := List.pairwise_mergeSort (le := PySem.W.dataLe false PyData.str) (fun a b c h1 h2 => (le_iff a c).mpr (List.le_trans ((le_iff a b).mp h1) ((le_iff b c).mp h2))) (fun a b => by
    rw [Bool.or_eq_true, le_iff, le_iff]
    exact List.le_total _ _) xs
  have nd' : (xs.mergeSort (PySem.W.dataLe false PyData.str)).Nodup := (List.mergeSort_perm _ _).nodup_iff.mpr nd
  refine (so.and nd').imp fun {a b} h => ?_
  have h1 := (le_iff a b).mp h.1
  cases q : strLt a b with
  | true => rfl
  | false =>
    have := strLt_total h.2 q
    unfold strLt at this
    exact absurd h1 (List.not_le.mpr (of_decide_eq_true this))
set_option maxHeartbeats 1000000 in
theorem x_sorted {Q : Value → Shared → Prop} {ys : List Str} (R : SetX w s.heap a (fun j => decide (j ∈ ys)) n) (hh : A.handled = none) (hu : A.units + 200 < cLine)
    (hQ : ∀ s' p (out : List Value) (c : Nat), (∀ b o, s.heap.get? b = some o → s'.heap.get? b = some o) → s'.gens = s.gens → s'.os = s.os → s.heap.objs.size ≤ p → s'.heap.get? p = some (seqObj "list" out.toArray c) → Vals ((sortU ys).map V.str) out → Q (.ref p) s') :
    wpAny (model P w) A (call (.builtin "sorted") [.ref a]) Q E s := by
  obtain ⟨o, es, ep, t, ho, hex, hd, g, nd, hm, hb, hf, hn, hr, hl⟩ := R.ex
  refine Calls.call_function_entry kind_sorted plain_sorted entry_sorted (args_sorted1 _) ?_; unfold Builtin.«sorted»
  refine wpAny_bind (m := checkCount "sorted" 1 1 _) (wpAny_pure (wpAny_bind (collect_set (A := A.in1) hh ⟨o, ho, hex.1, hd⟩ hf hb hr hl fun s1 vs k1 hz g1 o1 pm => ?_)))
  have len : vs.length = es.size := by rw [pm.length_eq, List.length_map, Array.length_toList]
  have areS : ∀ v ∈ vs, ∃ x t, v = Value.str x t := fun v hv => by
    obtain ⟨e, he, rfl⟩ := List.mem_map.mp (pm.mem_iff.mp hv)
    obtain ⟨x, t, h1, _⟩ := g e he
    exact ⟨x, t, h1⟩
  have eI := txt_is areS
  have pt : (vs.map txt).Perm (es.toList.map ent) := by
    have q := pm.map txt
    rw [List.map_map] at q
    exact q
  have lz : vs.length ≤ sizeLine := by rw [len, sizeLine_eq]; unfold scanBound at hb; omega
  have small : ∀ d ∈ (vs.map txt).map PyData.str, ∃ x, d = PyData.str x := fun d hd => by
    obtain ⟨x, _, e⟩ := List.mem_map.mp hd
    exact ⟨x, e.symm⟩
  have alk : PySem.W.AllAlike ((vs.map txt).map PyData.str) := fun d hd d' hd' => by
    obtain ⟨x, rfl⟩ := small d hd
    obtain ⟨y, rfl⟩ := small d' hd'
    rfl
  have srt : PySem.W.Sortable ((vs.map txt).map PyData.str) := .inr fun d hd => by
    obtain ⟨x, rfl⟩ := small d hd
    exact ⟨by simp, fun xs => by simp⟩
  refine wpAny_bind (wpAny_newList ?_ lz)
  have laid : (s1.heap.push (seqObj "list" vs.toArray 0)).get? s1.heap.objs.size = some (seqObj "list" vs.toArray 0) := Heap.get?_push_size _ rfl
  refine wpAny_bind (wpAny_holding (PySem.W.list_sort_data (s := { s1 with heap := s1.heap.push (seqObj "list" vs.toArray 0) }) laid eI (eI.mono fun v x ⟨t, e⟩ => ⟨[], by rw [e]; exact Reads.str x t, by simp⟩) alk srt (by rw [← eI.length]; exact lz) (fun x _ => by
    have u1 : A.in1.units ≤ A.units + 1 := by simp
    have u2 : (PyData.str x).depth ≤ 1 := by simp [PyData.depth]
    omega) fun out ho eo => ?_))
  obtain ⟨c, hc⟩ := sortedHeap_at (vs := vs) (out := out.toArray) laid
  have same : (vs.map txt).mergeSort (PySem.W.dataLe false PyData.str) = sortU ys := by
    refine up_uniq (up_of (pt.nodup_iff.mpr nd)) up_sortU fun z => ?_
    rw [(List.mergeSort_perm _ _).mem_iff, pt.mem_iff, ← hm z, mem_sortU, decide_eq_true_eq]
  rw [same] at eo
  refine wpAny_pure ⟨_, rfl, hQ _ s1.heap.objs.size out c (fun b u e => ?_) g1 o1 hz hc (each_strs eo)⟩
  have q := k1 b u e
  have lt := Heap.lt_size q
  have q2 : (s1.heap.push (seqObj "list" vs.toArray 0)).get? b = some u := Heap.get?_push_of_some _ q
  exact (sortedHeap_old (Nat.ne_of_lt lt) (by rw [size_push']; exact Nat.lt_succ_of_lt lt)).trans q2
end

section
variable {X : Cx}
def rSetX (K : Fg) (w : World) : List V → Hp → VK → Prop := fun xs H Q => ∃ (l : Addr) (ys : List Str), xs = [V.ref l] ∧ (SqL K H l (ys.map V.str) ∨ SqT K H l (ys.map V.str)) ∧ ys.length + 2 < scanBound ∧ ∀ p c, H p = none → Q (.ref p) (upd H p (SetXO w p (fun j => decide (j ∈ ys)) c))
theorem cr_setX (hc : X.calm = true) : CallR X (.type "set") (rSetX X.K X.w) := by
  intro pins s σ H xs us Q I r h
  obtain ⟨l, ys, rfl, hl, few, q⟩ := h
  rw [Vals.ref1 r]
  have fin : ∀ (h' : Heap) (tk c : Nat), SetX X.w h' s.heap.objs.size (fun j => decide (j ∈ ys)) c → (∀ b o, s.heap.get? b = some o → h'.get? b = some o) → EP X pins σ Q (.ref s.heap.objs.size) { s with heap := h', toks := tk } := fun h' tk c R k =>
    ⟨.ref s.heap.objs.size, _, I.laid (t' := tk) k (Nat.le_refl _) (setXO_ok R), rfl, q _ c (I.hok.fresh (Nat.le_refl _))⟩
  rcases hl with hl | hl
  · obtain ⟨its, rv, pl, hz⟩ := I.list hl
    exact x_set (P := X.prog) (w := X.w) (I.ok.hd hc) pl.isList (by simpa using Vals.strs rv) few fun h' tk c lc R k => fin h' tk c R k
  · obtain ⟨its, rv, pl, hz⟩ := I.tuple hl
    exact x_setT (P := X.prog) (w := X.w) (I.ok.hd hc) (show s.heap.IsTuple l its.toArray from pl) (by simpa using Vals.strs rv) few fun h' tk c lc R k => fin h' tk c R k
def rSortedX (w : World) : List V → Hp → VK → Prop := fun vs H Q => ∃ (a : Addr) (ys : List Str) (n : Nat), vs = [V.ref a] ∧ H a = some (SetXO w a (fun j => decide (j ∈ ys)) n) ∧ ys.length ≤ 16777216 ∧ ∀ p, H p = none → Q (.ref p) (upd H p (.lst ((sortU ys).map V.str)))
theorem cr_sortedX (hc : X.calm = true) (hu : X.A.units + 200 < cLine) : CallR X (.builtin "sorted") (rSortedX X.w) := by
  intro pins s σ H vs us Q I r h
  obtain ⟨a, ys, n, rfl, ha, l16, q⟩ := h
  have R : SetX X.w s.heap a (fun j => decide (j ∈ ys)) n := (I.hok a _ ha).1
  rw [Vals.ref1 r]
  refine x_sorted R (I.ok.hd hc) hu fun s' p out c k g o hp hg hv => ?_
  have hn : H p = none := I.hok.fresh hp
  have z : ((sortU ys).map V.str).length ≤ sizeLine := by rw [List.length_map, sizeLine_eq]; have := sortU_len (xs := ys); omega
  have J : Inv X pins σ (upd H p (.lst ((sortU ys).map V.str))) { s with heap := s'.heap, gens := s'.gens, drawn := s'.drawn, toks := s'.toks } :=
    I.call (ch := []) (Un.laid k hp hn) (I.hok.laid k hp ⟨z, out, c, hv, hg⟩) (by rw [g]; exact I.bare) fun _ z => nomatch z
  have e : s' = { s with heap := s'.heap, gens := s'.gens, drawn := s'.drawn, toks := s'.toks } := by
    cases s'; cases s; cases o; rfl
  rw [e]
  exact ⟨.ref p, _, J, rfl, q p hn⟩
theorem x_count {w : World} {h : Heap} {a : Addr} {ys : List Str} {n : Nat} (R : SetX w h a (fun j => decide (j ∈ ys)) n) : n = (sortU ys).length := by
  obtain ⟨o, es, ep, t, ho, hex, hd, g, nd, hm, hb, hf, hn, hr, hl⟩ := R.ex
  have p : (es.toList.map ent).Perm (sortU ys) := (List.perm_ext_iff_of_nodup nd (up_nodup up_sortU)).mpr fun z => by rw [← hm z, mem_sortU, decide_eq_true_eq]
  have := p.length_eq
  rw [List.length_map, Array.length_toList] at this
  omega
def rLenX (w : World) : List V → Hp → VK → Prop := fun vs H Q => ∃ (a : Addr) (ys : List Str) (n : Nat), vs = [V.ref a] ∧ H a = some (SetXO w a (fun j => decide (j ∈ ys)) n) ∧ Q (.int (sortU ys).length) H
theorem cr_lenX : CallR X (.builtin "len") (rLenX X.w) := by
  intro pins s σ H vs us Q I r h
  obtain ⟨a, ys, n, rfl, ha, q⟩ := h
  have R : SetX X.w s.heap a (fun j => decide (j ∈ ys)) n := (I.hok a _ ha).1
  rw [Vals.ref1 r]
  have e := x_count R
  obtain ⟨o, es, ep, t, ho, hex, hd, g, nd, hm, hb, hf, hn, hr, hl⟩ := R.ex
  refine call_len_set ho hex hd hf (by unfold scanBound at hb; omega) ⟨.int es.size, H, I.tok _, ⟨_, rfl⟩, ?_⟩
  rw [hn, e]
  exact q
end

/-! ### as operations -/
def strsOf : List P → Option (List Str)
  | [] => some []
  | .str x :: ps => (strsOf ps).map (x :: ·)
  | _ :: _ => none
def sortStrs (ds : List P) : Option P := match strsOf ds with
  | some xs => if xs.length < 4000 then some (.list ((sortU xs).map PyData.str)) else none
  | none => none
def lenStrs (ds : List P) : Option P := match strsOf ds with
  | some xs => if xs.length < 4000 then some (.int (sortU xs).length) else none
  | none => none
def sortSetP : Op
  | [.list ds] => sortStrs ds
  | [.tuple ds] => sortStrs ds
  | _ => none
def lenSetP : Op
  | [.list ds] => lenStrs ds
  | [.tuple ds] => lenStrs ds
  | _ => none
section
variable {K : Fg} {H : Hp} {W : Addr → Prop}
theorem strs_rp : ∀ {ds : List P} {xs : List V} {ns : List Str}, RPs K H W ds xs → strsOf ds = some ns → xs = ns.map V.str ∧ ∀ x ∈ ns, PyData.strOk x = true ∧ x.length ≤ 16777216
  | [], _, _, r, q => by cases r; cases q; exact ⟨rfl, fun x z => by cases z⟩
  | .str b :: ds, _, _, r, q => by
    cases r with
    | cons a r =>
      cases a with
      | str k l =>
        cases c : strsOf ds with
        | none => simp [strsOf, c] at q
        | some bs =>
          simp [strsOf, c] at q
          subst q
          obtain ⟨e, f⟩ := strs_rp r c
          rw [e]
          refine ⟨rfl, fun x z => ?_⟩
          rcases List.mem_cons.mp z with z | z
          · subst z; exact ⟨k, l⟩
          · exact f x z
  | .none :: _, _, _, _, q => by simp [strsOf] at q
  | .bool _ :: _, _, _, _, q => by simp [strsOf] at q
  | .int _ :: _, _, _, _, q => by simp [strsOf] at q
  | .list _ :: _, _, _, _, q => by simp [strsOf] at q
  | .tuple _ :: _, _, _, _, q => by simp [strsOf] at q
  | .dict _ :: _, _, _, _, q => by simp [strsOf] at q
theorem rp_strs {xs : List Str} (h : ∀ x ∈ xs, PyData.strOk x = true ∧ x.length ≤ 16777216) : RPs K H W (xs.map PyData.str) (xs.map V.str) := by
  induction xs with
  | nil => exact .nil
  | cons x xs ih =>
    obtain ⟨k, l⟩ := h x List.mem_cons_self
    exact .cons (.str k l) (ih fun y hy => h y (List.mem_cons_of_mem _ hy))
end
section
variable {X : Cx} {C : Ct} {a : Expr} {m : M DV} {p1 p2 p3 pos : Pos} {x y : Str} {id : String}
/-- f(set(e)) -/
theorem pe_ofSet {rS : List V → Hp → VK → Prop} (hc : X.calm = true) (hr : CallR X (.builtin id) rS) {t : TE} (ha : PE X a t) (hg : Gl X x) (hm : X.mg x = none) (hv : bootBuiltins x = some (.builtin id)) (hn : x ≠ "__name__") (hdb : (x == ("__debug__" : Str)) = false)
    (hg2 : Gl X y) (hm2 : X.mg y = none) (hv2 : bootBuiltins y = some (.type "set")) (hn2 : y ≠ "__name__") (hdb2 : (y == ("__debug__" : Str)) = false)
    (he : starEach [a] X.env = (false, eval a X.env) :: starEach [] X.env) (he2 : starEach [.Call (.Name y p2) [a] [] p3] X.env = (false, eval (.Call (.Name y p2) [a] [] p3) X.env) :: starEach [] X.env)
    (hpl : ∀ q, (backTo q (starEach [] X.env)).any (·.1) = false) :
    PE X (.Call (.Name x p1) [.Call (.Name y p2) [a] [] p3] [] pos) (tCB rS (tCons (tCB (rSetX X.K X.w) (tCons t tNil)) tNil)) :=
  pe_callB hr hg hm hv (pa_cons (pe_callTy (cr_setX hc) hg2 hm2 hv2 (pa_cons ha pa_nil he) hn2 hdb2 he (hpl p3)) pa_nil he2) hn hdb he2 (hpl pos)
theorem fv_new {K : Fg} {H0 H1 H2 : Hp} {B : Addr → Prop} {φ : List Addr} {σ : L2.St} {e : Env} {h : Hh} {a : Addr} {xs : List V} {ds : List P} (s : RS K B φ σ H1 e h) (x : ∀ a u, H1 a = some u → H2 a = some u) (n0 : H0 a = none) (n : H1 a = none) (t : H2 a = some (.lst xs)) (l : ds.length ≤ 16777216)
    (rs : RPs K H2 (fun b => Wrt B σ φ e h b ∨ b = a) ds xs) : FV K H0 B φ σ H2 e h (.d (.list ds)) (.ref a) := by
  refine ⟨a, xs, rfl, n0, fun z => s.bN a z n, t, l, s.grow x n (by rw [t]; intro z; cases z), rs.mono (Gr.weak fun b z => ?_)⟩
  rcases z with (z | z) | z
  · exact .inl (.inl z)
  · exact .inr z
  · exact .inl (.inr z)
theorem d_sortSet (hK : C.K = X.K) (hc : X.calm = true) (hu : X.A.units + 200 < cLine) (ha : PE X a (TEd C m)) (hg : Gl X x) (hm : X.mg x = none) (hv : bootBuiltins x = some (.builtin "sorted")) (hn : x ≠ "__name__") (hdb : (x == ("__debug__" : Str)) = false)
    (hg2 : Gl X y) (hm2 : X.mg y = none) (hv2 : bootBuiltins y = some (.type "set")) (hn2 : y ≠ "__name__") (hdb2 : (y == ("__debug__" : Str)) = false)
    (he : starEach [a] X.env = (false, eval a X.env) :: starEach [] X.env) (he2 : starEach [.Call (.Name y p2) [a] [] p3] X.env = (false, eval (.Call (.Name y p2) [a] [] p3) X.env) :: starEach [] X.env)
    (hpl : ∀ q, (backTo q (starEach [] X.env)).any (·.1) = false) : PE X (.Call (.Name x p1) [.Call (.Name y p2) [a] [] p3] [] pos) (TEf C (mOp sortSetP (mCons m mNil))) := by
  obtain ⟨K0, cls0, W0⟩ := C
  obtain rfl : K0 = X.K := hK
  refine PE.imp (pe_ofSet hc (cr_sortedX hc hu) ha hg hm hv hn hdb hg2 hm2 hv2 hn2 hdb2 he he2 hpl) fun σ H Q ⟨B, φ, e, h, s, q⟩ => ?_
  simp only [mOp, mCons, mNil, R.bind_assoc, R.bind_ok] at q
  refine ⟨B, φ, e, h, s, PostF.bind (f := fun v e h => opEnd sortSetP [v] e h) q fun v e1 h1 φ1 H1 z _ s1 st1 r1 p1 => ?_⟩
  unfold opEnd at p1
  cases c : look v e1 h1 with
  | none => simp only [looks, c] at p1; exact p1.elim
  | some p =>
    simp only [looks, c] at p1
    cases c2 : sortSetP [p] with
    | none => simp only [c2] at p1; exact p1.elim
    | some r =>
      simp only [c2] at p1
      have rl := look_rl s1 r1 c
      have core : ∀ (ds : List P) (b : Addr) (xs : List V), z = .ref b → (SqL X.K H1 b xs ∨ SqT X.K H1 b xs) → RPs X.K H1 (Wrt B σ φ1 e1 h1) ds xs → sortStrs ds = some r → rSetX X.K X.w [z] H1 fun v H2 => rSortedX X.w [v] H2 Q := fun ds b xs ez hq rs c2 => by
        subst ez
        unfold sortStrs at c2
        cases c3 : strsOf ds with
        | none => simp only [c3] at c2; cases c2
        | some ys =>
          simp only [c3] at c2
          split at c2
          · rename_i l4
            cases c2
            obtain ⟨rfl, ok⟩ := strs_rp rs c3
            refine ⟨b, ys, rfl, hq, by unfold scanBound; omega, fun a1 k n1 => ⟨a1, ys, k, rfl, upd_same, by omega, fun a2 n2 => ?_⟩⟩
            have ext : ∀ a u, H1 a = some u → upd (upd H1 a1 (SetXO X.w a1 (fun j => decide (j ∈ ys)) k)) a2 (.lst ((sortU ys).map V.str)) a = some u := fun a u q => upd_ext n2 a u (upd_ext n1 a u q)
            obtain ⟨s2, st2⟩ := s1.ext ext
            have n2' : H1 a2 = none := by
              cases q : H1 a2 with
              | none => rfl
              | some u => have := upd_ext (o := SetXO X.w a1 (fun j => decide (j ∈ ys)) k) n1 a2 u q; rw [n2] at this; cases this
            have sl := sortU_len (xs := ys)
            refine p1 φ1 _ (.ref a2) s2 st2 (fv_new s1 ext (st1.back a2 n2') n2' upd_same (by simp only [List.length_map]; omega) (rp_strs fun x hx => ok x (mem_sortU.mp hx)))
          · cases c2
      unfold sortSetP at c2
      split at c2
      · rename_i ds heq
        cases heq
        obtain ⟨b, xs, e, q1, l1, rs⟩ := rl
        exact core ds b xs e (.inl (.of q1)) rs c2
      · rename_i ds heq
        cases heq
        cases rl with
        | tup f l1 rs => exact core ds _ _ rfl (.inr f.sq) rs c2
      · cases c2
theorem d_lenSet (hK : C.K = X.K) (hc : X.calm = true) (ha : PE X a (TEd C m)) (hg : Gl X x) (hm : X.mg x = none) (hv : bootBuiltins x = some (.builtin "len")) (hn : x ≠ "__name__") (hdb : (x == ("__debug__" : Str)) = false)
    (hg2 : Gl X y) (hm2 : X.mg y = none) (hv2 : bootBuiltins y = some (.type "set")) (hn2 : y ≠ "__name__") (hdb2 : (y == ("__debug__" : Str)) = false)
    (he : starEach [a] X.env = (false, eval a X.env) :: starEach [] X.env) (he2 : starEach [.Call (.Name y p2) [a] [] p3] X.env = (false, eval (.Call (.Name y p2) [a] [] p3) X.env) :: starEach [] X.env)
    (hpl : ∀ q, (backTo q (starEach [] X.env)).any (·.1) = false) : PE X (.Call (.Name x p1) [.Call (.Name y p2) [a] [] p3] [] pos) (TEf C (mOp lenSetP (mCons m mNil))) := by
  obtain ⟨K0, cls0, W0⟩ := C
  obtain rfl : K0 = X.K := hK
  refine PE.imp (pe_ofSet hc cr_lenX ha hg hm hv hn hdb hg2 hm2 hv2 hn2 hdb2 he he2 hpl) fun σ H Q ⟨B, φ, e, h, s, q⟩ => ?_
  simp only [mOp, mCons, mNil, R.bind_assoc, R.bind_ok] at q
  refine ⟨B, φ, e, h, s, PostF.bind (f := fun v e h => opEnd lenSetP [v] e h) q fun v e1 h1 φ1 H1 z _ s1 st1 r1 p1 => ?_⟩
  unfold opEnd at p1
  cases c : look v e1 h1 with
  | none => simp only [looks, c] at p1; exact p1.elim
  | some p =>
    simp only [looks, c] at p1
    cases c2 : lenSetP [p] with
    | none => simp only [c2] at p1; exact p1.elim
    | some r =>
      simp only [c2] at p1
      have rl := look_rl s1 r1 c
      have core : ∀ (ds : List P) (b : Addr) (xs : List V), z = .ref b → (SqL X.K H1 b xs ∨ SqT X.K H1 b xs) → RPs X.K H1 (Wrt B σ φ1 e1 h1) ds xs → lenStrs ds = some r → rSetX X.K X.w [z] H1 fun v H2 => rLenX X.w [v] H2 Q := fun ds b xs ez hq rs c2 => by
        subst ez
        unfold lenStrs at c2
        cases c3 : strsOf ds with
        | none => simp only [c3] at c2; cases c2
        | some ys =>
          simp only [c3] at c2
          split at c2
          · rename_i l4
            cases c2
            obtain ⟨rfl, ok⟩ := strs_rp rs c3
            refine ⟨b, ys, rfl, hq, by unfold scanBound; omega, fun a1 k n1 => ⟨a1, ys, k, rfl, upd_same, ?_⟩⟩
            obtain ⟨s2, st2⟩ := s1.ext (upd_ext (o := SetXO X.w a1 (fun j => decide (j ∈ ys)) k) n1)
            exact p1 φ1 _ (.int _) s2 st2 (RP.int _)
          · cases c2
      unfold lenSetP at c2
      split at c2
      · rename_i ds heq
        cases heq
        obtain ⟨b, xs, e, q1, l1, rs⟩ := rl
        exact core ds b xs e (.inl (.of q1)) rs c2
      · rename_i ds heq
        cases heq
        cases rl with
        | tup f l1 rs => exact core ds _ _ rfl (.inr f.sq) rs c2
      · cases c2
end
end DL
/-! D15: x[::-1]. -/
namespace DL
open PySem PySem.Spec PyProof.Rows L2
variable [WorldC]

section
variable {P : Program} {w : World} {A : Around} {E : Value → Shared → Prop} {s : Shared}
theorem rev_pick (xs : Array Value) : ((List.range xs.size).filterMap fun (m : Nat) => xs[((xs.size : Int) - 1 + (m : Int) * -1).toNat]?).toArray = xs.toList.reverse.toArray := by
  have e : ∀ m ∈ List.range xs.size, xs[((xs.size : Int) - 1 + (m : Int) * -1).toNat]? = xs[xs.size - 1 - m]? := fun m hm => by
    have := List.mem_range.mp hm
    have q : ((xs.size : Int) - 1 + (m : Int) * -1).toNat = xs.size - 1 - m := by omega
    rw [q]
  have e3 : ∀ l : List Nat, (∀ m ∈ l, m ∈ List.range xs.size) → l.filterMap (fun (m : Nat) => xs[((xs.size : Int) - 1 + (m : Int) * -1).toNat]?) = l.filterMap fun m => xs[xs.size - 1 - m]? := fun l => by
    induction l with
    | nil => intro _; rfl
    | cons m l ih => intro hl; rw [List.filterMap_cons, List.filterMap_cons, e m (hl m List.mem_cons_self), ih fun k hk => hl k (List.mem_cons_of_mem _ hk)]
  rw [e3 _ fun _ z => z]
  have f : (fun m => xs[xs.size - 1 - m]?) = (xs[·]?) ∘ fun m => xs.size - 1 - m := rfl
  rw [f, ← List.filterMap_map, PySem.W.krv_range, List.filterMap_reverse, PySem.W.krv_all]
theorem tup_rev {t sl : Addr} {items : Array Value} {tk : Tok} {Q : Value → Shared → Prop} (ht : IsTup s.heap t items) (hs : s.heap.IsSliceOf sl .none .none (.int (-1) tk))
    (h : Q (.ref s.heap.objs.size) { s with heap := s.heap.push { cls := .type "tuple", data := .seq items.toList.reverse.toArray } }) (hsz : items.size ≤ sizeLine) : wpAny (model P w) A (getItem (.ref t) (.ref sl)) Q E s := by
  obtain ⟨os, hos, hcs, hds⟩ := id hs
  have isSl : s.TypeIs (.ref sl) "slice" := ⟨os, hos, hcs⟩
  have fits : sizeOk (.seq items.toList.reverse.toArray) := by
    show items.toList.reverse.toArray.size ≤ sizeLine
    simpa using hsz
  unfold getItem
  try with_reducible refine wpAny_holding ?_
  first | refine wpAny_bind (wpAny_pure ?_) | skip
  refine wpAny_bind (wpAny_sequenceKey ht.typeIs (by decide) ?_)
  refine wpAny_bind (wpAny_callSpecial?_slot (name := Str.ofString "__getitem__") ht.typeIs PyProof.Rows.slot_tuple_getitem (wpAny_call_entry PyProof.Rows.slot_tuple_getitem ht.typeIs entry_tuple_getitem ?_ (args_tuple_getitem _ _)))
  show wpAny _ _ (Builtin.Tuple.tupleItemsOf (.ref t) >>= _) _ _ s
  refine wpAny_bind (tupleItemsOf_ ht (wpAny_bind (wpAny_typeOf isSl ?_)))
  rw [if_pos (by decide)]
  refine wpAny_bind ?_
  have app : ∀ {Q1 : Int × Int × Nat → Shared → Prop}, Q1 ((items.size : Int) - 1, -1, items.size) s → ∀ {A' : Around} {E' : Value → Shared → Prop}, wpAny (model P w) A' (Builtin.Slice.sliceApplied (.ref sl) (pure (items.size : Int))) Q1 E' s := fun {Q1} q {A' E'} => by
    unfold Builtin.Slice.sliceApplied Builtin.Slice.sliceFields
    refine wpAny_bind (wpAny_bind (wpAny_field hos hds (x := .none) rfl (wpAny_bind (wpAny_field hos hds (x := .none) rfl (wpAny_bind (wpAny_field hos hds (x := .int (-1) tk) rfl (wpAny_pure ?_)))))))
    refine wpAny_bind (HT.slicePart_ (.int (-1) tk) ?_)
    show wpAny _ _ (if ((-1 : Int) == 0) = true then _ else _) _ _ s
    rw [if_neg (by decide)]
    refine wpAny_bind (HT.slicePart_ .none (wpAny_bind (HT.slicePart_ .none (wpAny_bind (wpAny_pure ?_)))))
    have adj : Builtin.Slice.sliceAdjust none none (-1) (items.size : Int) = ((items.size : Int) - 1, -1) := rfl
    have plc : Builtin.Slice.slicePlaces ((items.size : Int) - 1) (-1) (-1) = items.size := by
      unfold Builtin.Slice.slicePlaces
      rw [if_neg (by decide)]
      by_cases n : (items.size : Int) = 0
      · rw [n]
        have n0 : items.size = 0 := by omega
        rw [n0]
        rfl
      · rw [if_pos (by omega)]
        have d : (((items.size : Int) - 1 - -1 - 1) / - -1 + 1).toNat = items.size := by
          rw [show (- -1 : Int) = 1 by decide, Int.ediv_one]
          omega
        simpa using d
    show wpAny _ _ (match Builtin.Slice.sliceAdjust none none (-1) (items.size : Int) with | (lo, hi) => pure (lo, (-1 : Int), Builtin.Slice.slicePlaces lo hi (-1))) _ _ s
    rw [adj]
    show wpAny _ _ (pure ((items.size : Int) - 1, (-1 : Int), Builtin.Slice.slicePlaces ((items.size : Int) - 1) (-1) (-1))) _ _ s
    rw [plc]
    exact wpAny_pure q
  refine app ?_
  show wpAny _ _ (if ((((items.size : Int) - 1) == 0 && (-1 : Int) == 1 && items.size == items.size) = true) then _ else _) _ _ s
  rw [if_neg (by simp), rev_pick]
  first
    | exact wpAny_bind (m := Builtin.Tuple.tupleExact _) (wpAny_newObj_type (wpAny_pure ⟨_, rfl, wpAny_pure h⟩) fits)
    | exact wpAny_bind (m := Builtin.Tuple.tupleExact _) (wpAny_newObj_type (wpAny_bind (wpAny_pure (wpAny_pure ⟨_, rfl, wpAny_pure h⟩))) fits)
    | exact wpAny_bind (wpAny_bind (m := Builtin.Tuple.tupleExact _) (wpAny_newObj_type (wpAny_pure (wpAny_pure ⟨_, rfl, wpAny_pure h⟩)) fits))
    | exact wpAny_bind (wpAny_bind (m := Builtin.Tuple.tupleExact _) (wpAny_newObj_type (wpAny_pure ⟨_, rfl, wpAny_pure h⟩) fits))
end

section
variable {X : Cx} {C : Ct} {a st : Expr} {m ms : M DV} {pos p2 : Pos}
/-- x[::-1], by values -/
def rRev (K : Fg) : V → Hp → VK → Prop := fun x H Q => ∃ a xs, x = V.ref a ∧ ((SqL K H a xs ∧ ∀ p, H p = none → Q (.ref p) (upd H p (.lst xs.reverse))) ∨ (SqT K H a xs ∧ ∀ p, H p = none → Q (.ref p) (upd H p (.tup xs.reverse))))
theorem pe_rev {te ts : TE} (he : PE X a te) (hst : PE X st ts) : PE X (.Subscript a (.Slice none none (some st) p2) pos) (fun σ H Q => te σ H fun x H1 => ts σ H1 fun z H2 => z = V.int (-1) ∧ rRev X.K x H2 Q) := by
  refine ⟨fun pins s σ H Q I h => Subscript_ (thn (he.run pins s σ H _ I h) fun v s1 ⟨x, H1, I1, r1, q1⟩ => ?_)⟩
  refine wpAny_Slice ?_
  rw [evalPart_none]
  refine wpAny_pure (wpAny_pure ?_)
  rw [evalPart_some]
  refine thn (hst.run pins s1 σ H1 _ I1 q1) fun vz s2 ⟨z, H2, I2, r2, ez, y, xs, ex, q2⟩ => ?_
  subst ez ex
  obtain ⟨tk, rfl⟩ := r2
  cases r1
  have I4 : Inv X pins σ H2 { s2 with heap := s2.heap.push { cls := .type "slice", data := .fields #[.none, .none, .int (-1) tk] } } := I2.kept (t' := s2.toks) fun b ob q => Heap.get?_push_of_some _ q
  have sl := Heap.IsSliceOf.new s2.heap .none .none (.int (-1) tk)
  show wpAny (model X.prog X.w) X.A (subscriptTail a (.Slice none none (some st) p2) (.ref y) (.ref s2.heap.objs.size)) (EP X pins σ Q) X.xe { s2 with heap := s2.heap.push { cls := .type "slice", data := .fields #[.none, .none, .int (-1) tk] } }
  rcases q2 with ⟨sq, q2⟩ | ⟨sq, q2⟩
  · obtain ⟨its, rv, ht, hz⟩ := I4.list sq
    refine tail_any (ops := [.ref y, .ref s2.heap.objs.size]) ht.isList.typeIs slot_list_getitem.lookup (wpAny_getItem_list_slice ht.isList sl .none .none (.int (-1) tk) (by decide) ?_ (by rw [List.size_toArray, ← rv.length]; exact hz)) (by with_unfolding_all rfl)
    rw [PySem.W.krv_pick]
    refine ⟨.ref _, _, I4.laid (t' := s2.toks) (o := .lst xs.reverse) (fun b ob q => Heap.get?_push_of_some _ q) (Nat.le_refl _) ⟨by simpa using hz, _, 0, rv.reverse, Heap.get?_push_size _ rfl⟩, rfl, q2 _ (I4.hok.fresh (Nat.le_refl _))⟩
  · obtain ⟨its, rv, ht, hz⟩ := I4.tuple sq
    refine tail_any (ops := [.ref y, .ref s2.heap.objs.size]) ht.typeIs PyProof.Rows.slot_tuple_getitem.lookup (tup_rev ht sl ?_ (by rw [List.size_toArray, ← rv.length]; exact hz)) (by with_unfolding_all rfl)
    refine ⟨.ref _, _, I4.laid (t' := s2.toks) (o := .tup xs.reverse) (fun b ob q => Heap.get?_push_of_some _ q) (Nat.le_refl _) ⟨by simpa using hz, _, rv.reverse, IsTup.new _ _⟩, rfl, q2 _ (I4.hok.fresh (Nat.le_refl _))⟩
end

def revP : P → Option P
  | .list ds => some (.list ds.reverse)
  | .tuple ds => some (.tuple ds.reverse)
  | _ => none
def endRev (v k : DV) : M DV := fun e h => match look v e h, k with
  | some p, .d (.int (.negSucc 0)) => match revP p with
    | some r => .ok (.d r) e h
    | none => .stuck
  | _, _ => .stuck
def mRev (m mk : M DV) : M DV := fun e h => (m e h).bind fun v e h => (mk e h).bind (endRev v)
section
variable {X : Cx} {C : Ct} {a st : Expr} {m mk : M DV} {pos p2 : Pos}
theorem d_rev (hK : C.K = X.K) (ha : PE X a (TEd C m)) (hb : PE X st (TEd C mk)) : PE X (.Subscript a (.Slice none none (some st) p2) pos) (TEf C (mRev m mk)) := by
  obtain ⟨K0, cls0, W0⟩ := C
  obtain rfl : K0 = X.K := hK
  refine PE.imp (pe_rev ha hb) fun σ H Q ⟨B, φ, e, h, s, q⟩ => ?_
  refine ⟨B, φ, e, h, s, PostF.bind (f := fun v e h => (mk e h).bind (endRev v)) q fun v e1 h1 φ1 H1 x _ s1 st1 r1 p1 => ?_⟩
  refine ⟨B, φ1, e1, h1, s1, PostF.bind (f := endRev v) p1 fun k e2 h2 φ2 H2 z _ s2 st2 r2 p2 => ?_⟩
  unfold endRev at p2
  split at p2
  · rename_i p hl _
    cases r2
    have rl := look_rl s2 (r1.mono st2.gr st2.phi) hl
    cases p with
    | list ds =>
      obtain ⟨a, xs, rfl, q1, l, rs⟩ := rl
      refine ⟨rfl, a, xs, rfl, .inl ⟨.of q1, fun b n => ?_⟩⟩
      have ext := upd_ext (o := .lst xs.reverse) n
      obtain ⟨s3, st3⟩ := s2.ext ext
      obtain ⟨b', ys', e1, n', u, l', r'⟩ := res_list (K := X.K) s2.wN n (by simpa using l) rs.reverse
      cases e1
      rw [upd_same] at u
      cases u
      exact p2 φ2 _ (.ref b) s3 st3 (fv_new s2 ext (st1.back b (st2.back b n)) n upd_same (by simpa using l) r')
    | tuple ds =>
      cases rl with
      | @tup a xs _ f l rs =>
        refine ⟨rfl, a, xs, rfl, .inr ⟨f.sq, fun b n => ?_⟩⟩
        obtain ⟨s3, st3⟩ := s2.ext (upd_ext (o := .tup xs.reverse) n)
        exact p2 φ2 _ (.ref b) s3 st3 (res_tup s2.wN n (by simpa using l) rs.reverse)
    | _ => exact p2.elim
  · exact p2.elim
end
end DL
/-! D16: xs[a:b] = ys. -/
namespace DL
open PySem PySem.Spec PyProof.Rows L2
variable [WorldC]

section
variable {P : Program} {w : World} {A : Around} {E : Value → Shared → Prop} {s : Shared}
theorem clipped {a c n : Nat} (ac : a ≤ c) (an : a ≤ n) : sliceBounds (some (a : Int)) (some (c : Int)) none n = ((a : Int), ((min c n : Nat) : Int), 1) := by
  have a0 : ¬ ((a : Int) < 0) := by omega
  have c0 : ¬ ((c : Int) < 0) := by omega
  simp only [sliceBounds, Option.getD_none, a0, c0, if_false, show (1 : Int) > 0 by decide, if_true]
  congr 1
  · omega
  · congr 1
    omega
theorem store_cut {l b sl : Addr} {items new : Array Value} {n n2 : Nat} {vl vu : Value} {a c : Nat} {Q : Unit → Shared → Prop} (e : s.heap.get? l = some { cls := .type "list", data := .seq items n }) (e2 : s.heap.get? b = some { cls := .type "list", data := .seq new n2 }) (ne : l ≠ b)
    (hs : s.heap.IsSliceOf sl vl vu .none) (pl : IsPart vl (some (a : Int))) (pu : IsPart vu (some (c : Int))) (ac : a ≤ c) (an : a ≤ items.size) (fit : items.size + new.size ≤ sizeLine)
    (h : Q () { s with heap := s.heap.update l (Obj.mapSeq fun xs => xs.extract 0 a ++ new ++ xs.extract (min c items.size) xs.size) }) : wpAny (model P w) A (setItem (.ref l) (.ref sl) (.ref b)) Q E s := by
  have isL : s.heap.IsList l items := PySem.IsL.isList e
  have isB : s.heap.IsList b new := PySem.IsL.isList e2
  obtain ⟨os, hos, hcs, hds⟩ := id hs
  have isS : s.TypeIs (.ref sl) "slice" := ⟨os, hos, hcs⟩
  have same : Builtin.List.listSameRef (.ref l) (.ref b) = false := by unfold Builtin.List.listSameRef; exact beq_eq_false_iff_ne.mpr ne
  have mx : (max (a : Int) ((min c items.size : Nat) : Int)).toNat = min c items.size := by omega
  have fit2 : ((fun xs : Array Value => xs.extract 0 a ++ new ++ xs.extract (min c items.size) xs.size) items).size ≤ sizeLine + 1 := by simp only [Array.size_append, Array.size_extract]; omega
  unfold setItem
  try with_reducible refine wpAny_holding ?_
  first | refine wpAny_bind (wpAny_pure ?_) | skip
  refine wpAny_bind (wpAny_sequenceKey isL.typeIs (by decide) (wpAny_bind (wpAny_callSpecial?_slot (name := Str.ofString "__setitem__") isL.typeIs slot_list_setitem (wpAny_call_entry slot_list_setitem isL.typeIs entry_list_setitem ?_ (args_list_setitem _ _ _)))))
  show wpAny _ _ (Builtin.List.listSubscript? (.ref sl) >>= _) _ _ s
  refine wpAny_bind ?_; unfold Builtin.List.listSubscript?
  refine wpAny_bind (wpAny_specialOf isS slice_no_index ?_); simp only [Option.isNone_none, if_true]
  refine wpAny_pure ?_; show wpAny _ _ (typeOf (.ref sl) >>= _) _ _ s
  refine wpAny_bind (wpAny_typeOf isS ?_)
  first | rw [if_neg (by decide)] | refine PySem.W.KFB.if_not (by decide) ?_
  rw [listSliceParts_eq]; refine wpAny_bind (wpAny_bind (wpAny_field hos hds (x := .none) rfl (wpAny_bind (wpAny_listPart .none ?_))))
  rw [if_neg (show ¬ ((rawPart none == rawInt 0) = true) from Bool.false_ne_true)]
  refine wpAny_bind (wpAny_field hos hds (x := vl) rfl (wpAny_bind (wpAny_listPart pl (wpAny_bind (wpAny_field hos hds (x := vu) rfl (wpAny_bind (wpAny_listPart pu (wpAny_pure ?_))))))))
  first | simp only [same, Bool.false_eq_true, if_false] | refine PySem.W.KFB.if_not same ?_ | (dsimp only; rw [if_neg (by rw [same]; exact Bool.false_ne_true)])
  refine wpAny_bind (m := Builtin.List.listAllItems (.ref b) "must assign iterable to extended slice") ?_; unfold Builtin.List.listAllItems
  refine wpAny_bind (wpAny_typeOf isB.typeIs ?_)
  first | refine PySem.W.KFB.if_so (by decide) ?_ | rw [if_pos (by decide)] | simp only [beq_self_eq_true, Bool.true_or, if_true]
  unfold Builtin.List.listItems; refine wpAny_bind (wpAny_seqItems e2 rfl (wpAny_pure (wpAny_bind (wpAny_bind (wpAny_seqItems e rfl (wpAny_pure ?_))))))
  refine wpAny_bind (wpAny_of_eq ((sliceIndices_raw (some (a : Int)) (some (c : Int)) none items.size (by simp)).trans (congrArg (pure : Int × Int × Int → Sem (Int × Int × Int)) (clipped ac an))) ?_)
  show wpAny _ _ (if ((1 : Int) == 1) = true then _ else _) _ _ s
  rw [if_pos (by decide)]; refine wpAny_bind (wpAny_rule ?_)
  first | simp only [notLongL fit, Bool.false_eq_true, if_false] | refine PySem.W.KFB.if_not (notLongL fit) ?_
  first | refine wpAny_bind (wpAny_pure ?_) | skip
  show wpAny _ _ (updateSeq l (fun xs => xs.extract 0 ((a : Int)).toNat ++ new ++ xs.extract (max (a : Int) ((min c items.size : Nat) : Int)).toNat xs.size) >>= _) _ _ s
  rw [mx, Int.toNat_natCast]; refine wpAny_bind (wpAny_updateSeq (hz := Nat.le_trans (Nat.le_add_right _ _) fit) (_hz' := fit2) e rfl (wpAny_bind (wpAny_letGo ?_)))
  first | exact wpAny_bind (wpAny_pure (wpAny_pure ⟨.none, rfl, wpAny_pure h⟩)) | exact wpAny_pure ⟨.none, rfl, wpAny_pure h⟩
end
section
variable {X : Cx}
theorem store_inv {pins : List (Addr × Obj)} {s : Shared} {σ : L2.St} {H : Hp} {l b sl : Addr} {xs ys : List V} {a c : Nat} {vl vu : Value} {Q : Unit → Shared → Prop} (I : Inv X pins σ H s) (hH : H l = some (.lst xs)) (hB : H b = some (.lst ys)) (ne : l ≠ b)
    (hs : s.heap.IsSliceOf sl vl vu .none) (ra : RelV (.int a) vl) (rc : RelV (.int c) vu) (ac : a ≤ c) (an : a ≤ xs.length) (fit : xs.length + ys.length ≤ sizeLine)
    (h : ∀ s', Inv X pins σ (upd H l (.lst (xs.take a ++ ys ++ xs.drop c))) s' → Q () s') : wpAny (model X.prog X.w) X.A (setItem (.ref l) (.ref sl) (.ref b)) Q X.xe s := by
  obtain ⟨ta, rfl⟩ := ra
  obtain ⟨tc, rfl⟩ := rc
  obtain ⟨z, its, n, r, hl, e⟩ := I.lstM hH
  obtain ⟨z2, its2, n2, r2, hl2, e2⟩ := I.lstM hB
  refine store_cut (a := a) (c := c) e e2 ne hs (.int _ _) (.int _ _) ac (by rw [List.size_toArray]; omega) (by rw [List.size_toArray, List.size_toArray]; omega) (h _ ?_)
  refine I.lset (its' := its.take a ++ its2 ++ its.drop c) (t' := s.toks) hH e ?_ (Vals.append (Vals.append (r.take _) r2) (r.drop _)) ?_
  · refine (splice_eq its its2 a (min c its.toArray.size)).trans ?_
    rw [List.size_toArray]
    by_cases q : c ≤ its.length
    · rw [Nat.min_eq_left q]
    · rw [Nat.min_eq_right (by omega), List.drop_eq_nil_of_le (Nat.le_refl _), List.drop_eq_nil_of_le (by omega)]
  · rw [List.length_append, List.length_append, List.length_take, List.length_drop]
    omega
end

/-- o[a:c] = v -/
def cutSet (a c : Int) (ds es : List P) : Option (List P) := if 0 ≤ a ∧ a ≤ c ∧ a ≤ ds.length ∧ ds.length + es.length ≤ 16777216 then some (ds.take a.toNat ++ es ++ ds.drop c.toNat) else none
def endCut (v o : DV) (l u : Option Int) : M Fl := fun e h => match v, o, l, u with
  | .d (.list es), .ob w, some a, some c => match oc e h w with
    | some (.lst ds) => match cutSet a c ds es with
      | some ds' => .ok .next (setO w (.lst ds') e h).1 (setO w (.lst ds') e h).2
      | none => .stuck
    | _ => .stuck
  | _, _, _, _ => .stuck
def sCut (mv mo : M DV) (ml mu : M (Option Int)) : M Fl := fun e h => (mv e h).bind fun v e h => (mo e h).bind fun o e h => (ml e h).bind fun l e h => (mu e h).bind fun u e h => endCut v o l u e h
section
variable {X : Cx} {C : Ct} {ex o lo hi : Expr} {m mo : M DV} {ml mu : M (Option Int)} {p p2 pos : Pos}
def gCut (to : TE) (tl tu : TO) : TG := fun v σ H Q => to σ H fun x H1 => tl σ H1 fun a H2 => tu σ H2 fun c H3 => ∃ l b xs ys a' c', x = V.ref l ∧ v = V.ref b ∧ l ≠ b ∧ H3 l = some (.lst xs) ∧ H3 b = some (.lst ys) ∧ a = some ((a' : Nat) : Int) ∧ c = some ((c' : Nat) : Int) ∧ a' ≤ c' ∧ a' ≤ xs.length ∧
  xs.length + ys.length ≤ sizeLine ∧ Q σ (upd H3 l (.lst (xs.take a' ++ ys ++ xs.drop c')))
theorem pg_cut {to : TE} {tl tu : TO} (ho : PE X o to) (hl : PO X (some lo) tl) (hu : PO X (some hi) tu)
    (ha : ∀ v, assign (.Subscript o (.Slice (some lo) (some hi) none p2) p) X.env v = (do
      let ov ← holding [v] (eval o X.env)
      let iv ← holding [v, ov] (eval (.Slice (some lo) (some hi) none p2) X.env)
      standAt p
      holding [v, ov, iv] (setItem ov iv v)
      release [iv, v, ov] [])) : PG X (.Subscript o (.Slice (some lo) (some hi) none p2) p) (gCut to tl tu) := by
  refine ⟨fun pins s σ H v u Q I r h => ?_⟩
  rw [ha]
  refine wpAny_bind (wpAny_holding (thn (ho.run pins s σ H _ I h) fun ov s1 ⟨x, H1, I1, r1, q1⟩ => ?_))
  refine wpAny_bind (wpAny_holding (wpAny_Slice (thn (hl.run pins s1 σ H1 _ I1 q1) fun vl s2 ⟨a, H2, I2, pa, q2⟩ => thn (hu.run pins s2 σ H2 _ I2 q2) fun vu s3 ⟨c, H3, I3, pc, l, b, xs, ys, a', c', e1, e2, ne, e3, e4, e5, e6, ac, an, fit, q3⟩ => ?_)))
  subst e1 e2 e5 e6
  rw [evalPart_none]
  refine wpAny_pure (wpAny_bind (wpAny_standAt (wpAny_bind (wpAny_holding ?_))))
  cases r; cases r1
  have I4 : Inv X pins σ H3 { s3 with heap := s3.heap.push { cls := .type "slice", data := .fields #[vl, vu, .none] } } := I3.kept (t' := s3.toks) fun b ob q => Heap.get?_push_of_some _ q
  have ra : RelV (.int a') vl := by cases pa; exact ⟨_, rfl⟩
  have rc : RelV (.int c') vu := by cases pc; exact ⟨_, rfl⟩
  exact store_inv I4 e3 e4 ne (Heap.IsSliceOf.new ..) ra rc ac an fit fun s' J => wpAny_release ⟨σ, _, J, q3⟩
theorem s_cut (hv : PE X ex (TEd C m)) (ho : PE X o (TEd C mo)) (hl : PO X (some lo) (TOd C ml)) (hu : PO X (some hi) (TOd C mu))
    (ha : ∀ v, assign (.Subscript o (.Slice (some lo) (some hi) none p2) p) X.env v = (do
      let ov ← holding [v] (eval o X.env)
      let iv ← holding [v, ov] (eval (.Slice (some lo) (some hi) none p2) X.env)
      standAt p
      holding [v, ov, iv] (setItem ov iv v)
      release [iv, v, ov] []))
    (hs : swapsWithSole [.Subscript o (.Slice (some lo) (some hi) none p2) p] ex pos.line X.env = pure false) (hw : swappedStores [.Subscript o (.Slice (some lo) (some hi) none p2) p] ex X.env = pure none)
    (h1 : (assignEach [.Subscript o (.Slice (some lo) (some hi) none p2) p] X.env).map (·.2) = [assign (.Subscript o (.Slice (some lo) (some hi) none p2) p) X.env]) :
    PS X (.Assign [.Subscript o (.Slice (some lo) (some hi) none p2) p] ex pos) (TSd C (sCut m mo ml mu)) := by
  refine PS.imp (ps_asg hv (pg_cut ho hl hu ha) hs hw h1) fun D σ H ⟨B, φ, e, h, s, q⟩ => ?_
  refine ⟨B, φ, e, h, s, PostS.bindE (f := fun v e h => (mo e h).bind fun o e h => (ml e h).bind fun l e h => (mu e h).bind fun u e h => endCut v o l u e h) q fun v e1 h1 φ1 H1 x em1 s1 st1 r1 p1 => ?_⟩
  refine ⟨B, φ1, e1, h1, s1, PostS.bindE (f := fun o e h => (ml e h).bind fun l e h => (mu e h).bind fun u e h => endCut v o l u e h) p1 fun o e2 h2 φ2 H2 y em2 s2 st2 r2 p2 => ?_⟩
  refine ⟨B, φ2, e2, h2, s2, PostS.bindE (f := fun l e h => (mu e h).bind fun u e h => endCut v o l u e h) p2 fun l e3 h3 φ3 H3 l' em3 s3 st3 r3 p3 => ?_⟩
  refine ⟨B, φ3, e3, h3, s3, PostS.bindE (f := fun u e h => endCut v o l u e h) p3 fun u e4 h4 φ4 H4 u' em4 s4 st4 r4 p4 => ?_⟩
  subst r3 r4
  unfold endCut at p4
  split at p4
  · rename_i es w a c
    cases c1 : oc e4 h4 w with
    | none => rw [c1] at p4; exact p4.elim
    | some ob =>
      cases ob with
      | lsv ds => rw [c1] at p4; exact p4.elim
      | dct kvs => rw [c1] at p4; exact p4.elim
      | lst ds =>
        rw [c1] at p4
        simp only at p4
        cases c2 : cutSet a c ds es with
        | none => rw [c2] at p4; exact p4.elim
        | some ds' =>
          rw [c2] at p4
          simp only at p4
          unfold cutSet at c2
          split at c2
          · rename_i k
            cases c2
            obtain ⟨b, q1, ⟨xs, q2, l2, q3⟩, _⟩ := s4.obj w _ c1
            obtain ⟨b', q4, rfl⟩ := (r2.mono st3.gr st3.phi).mono st4.gr st4.phi
            rw [q1] at q4
            cases q4
            have rp : RP C.K H4 (Wrt B σ φ4 e4 h4) (.list es) x := ((r1.mono st2.gr st2.phi).mono st3.gr st3.phi).mono st4.gr st4.phi
            cases rp with
            | @lst d ys _ f l5 rs =>
              have nd : b ≠ d := fun z => f.2 (by rw [← z]; exact .inr ⟨w, _, c1, q1⟩)
              refine ⟨b, d, xs, ys, a.toNat, c.toNat, rfl, rfl, nd, q2, f.1, by rw [Int.toNat_of_nonneg k.1], by rw [Int.toNat_of_nonneg (by omega)], by omega, by rw [← q3.length]; omega, by rw [line16, ← q3.length, ← rs.length]; exact k.2.2.2, ?_⟩
              have ne : ∀ b' u, H4 b' = some u → ¬ Wrt B σ φ4 e4 h4 b' → b' ≠ b := fun b' u _ k n => k (by rw [n]; exact .inr ⟨w, _, c1, q1⟩)
              have g : Gr H4 (Wrt B σ φ4 e4 h4) (upd H4 b (.lst (xs.take a.toNat ++ ys ++ xs.drop c.toNat))) (Wrt B σ φ4 e4 h4) := fun b' u q k => ⟨by rw [upd_ne (ne b' u q k)]; exact q, k⟩
              obtain ⟨s5, st5⟩ := s4.put (u := .lst (xs.take a.toNat ++ ys ++ xs.drop c.toNat)) (o := .lst (ds.take a.toNat ++ es ++ ds.drop c.toNat)) c1 q1 ⟨_, upd_same, by
                rw [List.length_append, List.length_append, List.length_take, List.length_drop]
                omega, (((q3.take _).append rs).append (q3.drop _)).mono g⟩
              exact p4 φ4 σ _ s5 st5.t
          · cases c2
  · exact p4.elim
end
end DL
/-! D17: a, b = x, y with lists that become owned. -/
namespace DL
open PySem PySem.Spec L2
variable [WorldC]

/-- what a slot holds of a new value: o says that a list becomes the slot's own -/
def cel (o : Bool) (v : DV) : Option Cel := match o with
  | true => match v with
    | .d (.list ds) => some (.obj (.lst ds))
    | .d (.dict kvs) => some (.obj (.dct kvs))
    | _ => none
  | false => if v.ok then some (.val v) else none
def endPar2 (o2 : Bool) (i j : Nat) (a : Cel) (w : DV) : M Fl := fun e h => match cel o2 w with
  | some b => if i < e.length ∧ j < e.length then .ok .next ((e.set i a).set j b) h else .stuck
  | none => .stuck
def endPar1 (o1 o2 : Bool) (i j : Nat) (m2 : M DV) (v : DV) : M Fl := fun e h => match cel o1 v with
  | some a => (m2 e h).bind (endPar2 o2 i j a)
  | none => .stuck
def sParO (o1 o2 : Bool) (i j : Nat) (m1 m2 : M DV) : M Fl := fun e h => (m1 e h).bind (endPar1 o1 o2 i j m2)
/-- a reading, fresh or not -/
def TEo (C : Ct) (o : Bool) (m : M DV) : TE := match o with
  | true => TEf C m
  | false => TEd C m

section
variable {C : Ct} {B : Addr → Prop} {φ φ1 φ2 : List Addr} {σ σ1 : St} {H H1 H2 : Hp} {e e1 e2 : Env} {h h1 h2 : Hh} {D : Ends} {a : Addr}
theorem Tr.unB (nB : ¬ B a) (s2 : RS C.K (fun b => B b ∨ b = a) φ2 σ1 H2 e2 h2) (t : Tr (fun b => B b ∨ b = a) (Wrt (fun b => B b ∨ b = a) σ φ1 e1 h1) φ1 H1 (Wrt (fun b => B b ∨ b = a) σ1 φ2 e2 h2) φ2 H2) :
    Tr B (Wrt B σ φ1 e1 h1) φ1 H1 (Wrt B σ1 φ2 e2 h2) φ2 H2 := by
  refine ⟨t.phi, fun b u q k => ?_, t.tr, fun b z => t.bk b (.inl z)⟩
  by_cases e : b = a
  · subst e
    refine ⟨(t.bk b (.inr rfl)).trans q, fun z => ?_⟩
    rcases z with z | ⟨w, o, z1, z2⟩
    · exact nB z
    · obtain ⟨c, c1, _, c3⟩ := s2.obj w o z1
      rw [z2] at c1
      cases c1
      exact c3 (.inr rfl)
  · obtain ⟨q1, k1⟩ := t.gr b u q fun z => by
      rcases z with (z | z) | z
      · exact k (.inl z)
      · exact e z
      · exact k (.inr z)
    refine ⟨q1, fun z => k1 ?_⟩
    rcases z with z | z
    · exact .inl (.inl z)
    · exact .inr z
end

section
variable {X : Cx} {C : Ct} {x y : Expr} {m1 m2 : M DV} {pos pt pt2 px py : Pos} {nx ny : Str} {kt k2 i j : Nat} {o1 o2 : Bool}
theorem cel_val {v : DV} {c : Cel} (k : cel false v = some c) : v.ok = true ∧ c = .val v := by
  unfold cel at k
  by_cases q : v.ok = true
  · simp only [q, if_true] at k
    exact ⟨q, (Option.some.inj k).symm⟩
  · simp only [q] at k
    cases k
theorem cel_own {v : DV} {c : Cel} (k : cel true v = some c) : ∃ o, c = .obj o := by
  cases v with
  | d p =>
    cases p with
    | list ds => exact ⟨_, (Option.some.inj k).symm⟩
    | dict kvs => exact ⟨_, (Option.some.inj k).symm⟩
    | _ => cases k
  | ob w => cases k
  | scr ns => cases k
theorem FV.own {K : Fg} {H0 : Hp} {B : Addr → Prop} {φ : List Addr} {σ : St} {H : Hp} {e : Env} {h : Hh} {v : DV} {x : V} {o : DO} (k : cel true v = some (.obj o)) (f : FV K H0 B φ σ H e h v x) :
    ∃ a, x = .ref a ∧ H0 a = none ∧ ¬ B a ∧ RS K (fun b => B b ∨ b = a) φ σ H e h ∧ RO K H (Wrt (fun b => B b ∨ b = a) σ φ e h) σ φ a o := by
  cases v with
  | d p =>
    cases p with
    | list ds =>
      cases k
      obtain ⟨a, xs, rfl, n0, nB, hx, dl, s2, rs⟩ := f
      exact ⟨a, rfl, n0, nB, s2, xs, hx, dl, rs⟩
    | dict kvs =>
      cases k
      obtain ⟨a, rfl, n0, nB, s2, rd⟩ := f
      exact ⟨a, rfl, n0, nB, s2, rd⟩
    | _ => cases k
  | ob w => cases k
  | scr ns => cases k
/-- the write of a new object into a slot keeps what was written down before it was there -/
theorem gr_own {B : Addr → Prop} {φ1 : List Addr} {σ1 : St} {H H1 : Hp} {e1 : Env} {h1 : Hh} {W : Addr → Prop} {a : Addr} {o : DO} {i : Nat} (n0 : H a = none) (g : Gr H W H1 (Wrt B σ1 φ1 e1 h1)) : Gr H W H1 (Wrt B (σ1.set i (some (.ref a))) φ1 (e1.set i (.obj o)) h1) := fun b u z k => by
  obtain ⟨z1, k1⟩ := g b u z k
  refine ⟨z1, fun w => ?_⟩
  have nb : b ≠ a := fun y => by subst y; rw [n0] at z; cases z
  rcases w with w | ⟨w, o', w1, w2⟩
  · exact k1 (.inl w)
  · cases w with
    | loc l =>
      by_cases y : i = l
      · subst y
        by_cases lt : i < σ1.length
        · have : oa (σ1.set i (some (.ref a))) φ1 (.loc i) = some a := by
            show (match (σ1.set i (some (V.ref a)))[i]? with | some (some (.ref a)) => some a | _ => none) = _
            rw [List.getElem?_set_self lt]
          rw [this] at w2
          cases w2
          exact nb rfl
        · have : oa (σ1.set i (some (.ref a))) φ1 (.loc i) = none := by
            show (match (σ1.set i (some (V.ref a)))[i]? with | some (some (.ref a)) => some a | _ => none) = _
            rw [List.getElem?_eq_none (by simpa using lt)]
          rw [this] at w2
          cases w2
      · rw [oc_set_ne y] at w1
        rw [oa_set_ne y] at w2
        exact k1 (.inr ⟨.loc l, o', w1, w2⟩)
    | mem l => exact k1 (.inr ⟨.mem l, o', w1, w2⟩)
theorem TEo.mono {C : Ct} {o : Bool} {m : M DV} {σ : St} {H : Hp} {Q Q' : VK} (i : ∀ x H, Q x H → Q' x H) (t : TEo C o m σ H Q) : TEo C o m σ H Q' := by
  cases o with
  | true =>
    obtain ⟨B, φ, e, h, s, q⟩ := t
    refine ⟨B, φ, e, h, s, ?_⟩
    cases c : m e h with
    | ok v e1 h1 => rw [c] at q; exact fun φ' H' x s1 st r => i _ _ (q φ' H' x s1 st r)
    | ex c p e1 h1 => rw [c] at q; exact q
    | stuck => rw [c] at q; exact q
  | false =>
    obtain ⟨B, φ, e, h, s, q⟩ := t
    refine ⟨B, φ, e, h, s, ?_⟩
    cases c : m e h with
    | ok v e1 h1 => rw [c] at q; exact fun φ' H' x s1 st r => i _ _ (q φ' H' x s1 st r)
    | ex c p e1 h1 => rw [c] at q; exact q
    | stuck => rw [c] at q; exact q
theorem fin {B : Addr → Prop} {φ φ2 : List Addr} {σ σ2 : St} {H H2 H3 : Hp} {e e2 : Env} {h h2 : Hh} {D : Ends} (ext : ∀ a u, H2 a = some u → H3 a = some u) (s : RS C.K B φ2 σ2 H2 e2 h2) (t : Tr B (Wrt B σ φ e h) φ H (Wrt B σ2 φ2 e2 h2) φ2 H2) (p : PostS C B φ σ H e h (.ok .next e2 h2) D) : D.nx σ2 H3 := by
  obtain ⟨s2, st⟩ := s.ext ext
  exact p φ2 σ2 H3 s2 (t.trans st.t)
theorem par_imp (hij : i ≠ j) {D : Ends} {σ : St} {H : Hp} (q : TSd C (sParO o1 o2 i j m1 m2) D σ H) : TEo C o1 m1 σ H fun v H1 => TEo C o2 m2 σ H1 fun w H2 => ∀ H3, (∀ a u, H2 a = some u → H3 a = some u) → D.nx ((σ.set i (some v)).set j (some w)) H3 := by
  obtain ⟨B, φ, e, h, s, q⟩ := q
  cases o1 with
  | false =>
    refine ⟨B, φ, e, h, s, PostS.bindE (f := endPar1 false o2 i j m2) q fun v e1 h1 φ1 H1 x1 _ s1 st1 r1 p1 => ?_⟩
    unfold endPar1 at p1
    cases c1 : cel false v with
    | none => rw [c1] at p1; exact p1.elim
    | some cv =>
      rw [c1] at p1
      simp only at p1
      obtain ⟨k1, rfl⟩ := cel_val c1
      cases o2 with
      | false =>
        refine ⟨B, φ1, e1, h1, s1, PostS.bindE (f := endPar2 false i j (.val v)) p1 fun w e2 h2 φ2 H2 x2 _ s2 st2 r2 p2 => fun H3 ext => ?_⟩
        unfold endPar2 at p2
        cases c2 : cel false w with
        | none => rw [c2] at p2; exact p2.elim
        | some cw =>
          rw [c2] at p2
          simp only at p2
          obtain ⟨k2, rfl⟩ := cel_val c2
          split at p2
          case isFalse => exact p2.elim
          have s3 := s2.setVal (i := i) (r1.mono st2.gr st2.phi) k1
          have g3 : Gr H2 (Wrt B σ φ2 e2 h2) H2 (Wrt B (σ.set i (some x1)) φ2 (e2.set i (.val v)) h2) := Gr.weak (Wrt.drop oc_set_val)
          have s4 := s3.setVal (i := j) ((r2.sig k2).mono g3 List.prefix_rfl) k2
          exact fin ext s4 ⟨List.prefix_rfl, g3.trans (Gr.weak (Wrt.drop oc_set_val)), fun _ z => z, fun _ _ => rfl⟩ p2
      | true =>
        refine ⟨B, φ1, e1, h1, s1, PostS.bindF (f := endPar2 true i j (.val v)) p1 fun w e2 h2 φ2 H2 x2 _ s2 st2 f2 p2 => fun H3 ext => ?_⟩
        unfold endPar2 at p2
        cases c2 : cel true w with
        | none => rw [c2] at p2; exact p2.elim
        | some cw =>
          rw [c2] at p2
          simp only at p2
          obtain ⟨ob, rfl⟩ := cel_own c2
          split at p2
          case isFalse => exact p2.elim
          rename_i lt
          obtain ⟨a, rfl, n0, nB, s2', ro⟩ := f2.own c2
          have g0 : Gr H1 (Wrt B σ φ1 e1 h1) H2 (Wrt (fun b => B b ∨ b = a) σ φ2 e2 h2) := fun b u z k => by
            obtain ⟨z1, k1⟩ := st2.gr b u z k
            refine ⟨z1, fun w => ?_⟩
            rcases w with (w | w) | w
            · exact k1 (.inl w)
            · subst w; rw [n0] at z; cases z
            · exact k1 (.inr w)
          have s3 := s2'.setVal (i := i) (r1.mono g0 st2.phi) k1
          have g3 : Gr H2 (Wrt (fun b => B b ∨ b = a) σ φ2 e2 h2) H2 (Wrt (fun b => B b ∨ b = a) (σ.set i (some x1)) φ2 (e2.set i (.val v)) h2) := Gr.weak (Wrt.drop oc_set_val)
          have s4 := s3.setObj (o := ob) (i := j) (by rw [List.length_set, ← s2.len]; exact lt.2) nB (ro.sig.mono g3 List.prefix_rfl rfl)
          exact fin ext s4 ⟨st2.phi, gr_own n0 (st2.gr.trans (Gr.weak (Wrt.drop oc_set_val))), st2.tr, st2.bk⟩ p2
  | true =>
    refine ⟨B, φ, e, h, s, PostS.bindF (f := endPar1 true o2 i j m2) q fun v e1 h1 φ1 H1 x1 _ s1 st1 f1 p1 => ?_⟩
    unfold endPar1 at p1
    cases c1 : cel true v with
    | none => rw [c1] at p1; exact p1.elim
    | some cv =>
      rw [c1] at p1
      simp only at p1
      obtain ⟨ob, rfl⟩ := cel_own c1
      obtain ⟨a, rfl, n0, nB, s1', ro⟩ := f1.own c1
      have hexc : ∀ c pe e2 h2, m2 e1 h1 = .ex c pe e2 h2 → ∀ φ' H' d, RS C.K (fun b => B b ∨ b = a) φ' σ H' e2 h2 → Step (fun b => B b ∨ b = a) σ φ1 H1 e1 h1 φ' H' e2 h2 → ExD c pe d H' → C.W (C.cls c) d σ H' := fun c pe e2 h2 c2 φ' H' d s2 st2 x => by
        rw [c2] at p1
        exact p1 φ' σ H' d (s2.weakB fun _ z => .inl z) (st1.t.trans (Tr.unB nB s2 st2.t)) x
      cases c2 : m2 e1 h1 with
      | stuck => rw [c2] at p1; exact p1.elim
      | ex c pe e2 h2 =>
        cases o2 with
        | false => exact ⟨_, φ1, e1, h1, s1', by rw [c2]; exact hexc c pe e2 h2 c2⟩
        | true => exact ⟨_, φ1, e1, h1, s1', by rw [c2]; exact hexc c pe e2 h2 c2⟩
      | ok w e2 h2 =>
        rw [c2] at p1
        have p2 : PostS C B φ σ H e h (endPar2 o2 i j (.obj ob) w e2 h2) D := p1
        unfold endPar2 at p2
        cases o2 with
        | false =>
          refine ⟨_, φ1, e1, h1, s1', ?_⟩
          rw [c2]
          intro φ2 H2 x2 s2 st2 r2
          intro H3 ext
          cases c3 : cel false w with
          | none => rw [c3] at p2; exact p2.elim
          | some cw =>
            rw [c3] at p2
            simp only at p2
            obtain ⟨k2, rfl⟩ := cel_val c3
            split at p2
            case isFalse => exact p2.elim
            rename_i lt
            have s3 := s2.setVal (i := j) r2 k2
            have g3 : Gr H2 (Wrt (fun b => B b ∨ b = a) σ φ2 e2 h2) H2 (Wrt (fun b => B b ∨ b = a) (σ.set j (some x2)) φ2 (e2.set j (.val w)) h2) := Gr.weak (Wrt.drop oc_set_val)
            have s4 := s3.setObj (o := ob) (i := i) (by rw [List.length_set, ← s2.len]; exact lt.1) nB ((ro.mono st2.gr st2.phi (st2.bk a (.inr rfl))).sig.mono g3 List.prefix_rfl rfl)
            have t := st1.t.trans (Tr.unB nB s2 st2.t)
            rw [List.set_comm _ _ (Ne.symm hij), List.set_comm _ _ (Ne.symm hij)] at s4
            refine fin ext s4 ⟨t.phi, ?_, t.tr, t.bk⟩ p2
            rw [List.set_comm _ _ hij, List.set_comm _ _ hij]
            exact gr_own n0 (t.gr.trans (Gr.weak (Wrt.drop oc_set_val)))
        | true =>
          refine ⟨_, φ1, e1, h1, s1', ?_⟩
          rw [c2]
          intro φ2 H2 x2 s2 st2 f2
          intro H3 ext
          cases c3 : cel true w with
          | none => rw [c3] at p2; exact p2.elim
          | some cw =>
            rw [c3] at p2
            simp only at p2
            obtain ⟨ob2, rfl⟩ := cel_own c3
            split at p2
            case isFalse => exact p2.elim
            rename_i lt
            obtain ⟨a2, rfl, n02, nB2, s2', ro2⟩ := f2.own c3
            have s3 := s2'.setObj (o := ob2) (i := j) (by rw [← s2.len]; exact lt.2) nB2 ro2
            have s4 := s3.setObj (o := ob) (i := i) (by rw [List.length_set, ← s2.len]; exact lt.1) nB (ro.sig.mono (gr_own n02 st2.gr) st2.phi (st2.bk a (.inr rfl)))
            have t := st1.t.trans (Tr.unB nB s2 st2.t)
            rw [List.set_comm _ _ (Ne.symm hij), List.set_comm _ _ (Ne.symm hij)] at s4
            refine fin ext s4 ⟨t.phi, ?_, t.tr, t.bk⟩ p2
            rw [List.set_comm _ _ hij, List.set_comm _ _ hij]
            exact gr_own n0 (gr_own (st1.back a2 n02) t.gr)
theorem s_parO (hc : X.calm = true) (hN : X.N.Nodup) (hi : X.N[i]? = some nx) (hj : X.N[j]? = some ny) (hij : i ≠ j) (hx : X.env.scope.names.lookup nx = some .local) (hy : X.env.scope.names.lookup ny = some .local)
    (ha : PE X x (TEo C o1 m1)) (hb : PE X y (TEo C o2 m2)) (na : starEach [x, y] X.env = (false, eval x X.env) :: starEach [y] X.env) (nb : starEach [y] X.env = (false, eval y X.env) :: starEach [] X.env)
    (hw : swappedStores [.Tuple [.Name nx px, .Name ny py] kt pt] (.Tuple [x, y] k2 pt2) X.env = pure (some [nx, ny]))
    (hs : swapsWithSole [.Tuple [.Name nx px, .Name ny py] kt pt] (.Tuple [x, y] k2 pt2) pos.line X.env = pure false) :
    PS X (.Assign [.Tuple [.Name nx px, .Name ny py] kt pt] (.Tuple [x, y] k2 pt2) pos) (TSd C (sParO o1 o2 i j m1 m2)) := by
  refine PS.imp (ps_par hc hN hi hj hij hx hy (pa_cons ha (pa_cons hb pa_nil nb) na) hw hs) fun D σ H q => ?_
  exact TEo.mono (fun v H1 t => TEo.mono (fun w H2 t => ⟨v, w, rfl, t H2 fun _ _ z => z⟩) t) (par_imp hij q)
/-- the same by way of the tuple itself -/
theorem s_parU (hK : C.K = X.K) (hc : X.calm = true) (hN : X.N.Nodup) (hi : X.N[i]? = some nx) (hj : X.N[j]? = some ny) (hij : i ≠ j) (hx : Loc X.env.scope nx) (hy : Loc X.env.scope ny) (fx : X.fn nx = true ∨ X.env.scope.names.lookup nx = some .local) (fy : X.fn ny = true ∨ X.env.scope.names.lookup ny = some .local)
    (ha : PE X x (TEo C o1 m1)) (hb : PE X y (TEo C o2 m2)) (na : starEach [x, y] X.env = (false, eval x X.env) :: starEach [y] X.env) (nb : starEach [y] X.env = (false, eval y X.env) :: starEach [] X.env)
    (hw : swappedStores [.Tuple [.Name nx px, .Name ny py] kt pt] (.Tuple [x, y] k2 pt2) X.env = pure none)
    (hs : swapsWithSole [.Tuple [.Name nx px, .Name ny py] kt pt] (.Tuple [x, y] k2 pt2) pos.line X.env = pure false) (h1 : (assignEach [.Tuple [.Name nx px, .Name ny py] kt pt] X.env).map (·.2) = [assign (.Tuple [.Name nx px, .Name ny py] kt pt) X.env]) :
    PS X (.Assign [.Tuple [.Name nx px, .Name ny py] kt pt] (.Tuple [x, y] k2 pt2) pos) (TSd C (sParO o1 o2 i j m1 m2)) := by
  refine PS.imp (ps_asg (pe_tup (pa_cons ha (pa_cons hb pa_nil nb) na)) (pg_tup (n := 2) hc (pgs_cons (pg_name hN hi hx fx) (pgs_cons (pg_name hN hj hy fy) pgs_nil rfl) rfl) rfl rfl) hs hw h1) fun D σ H q => ?_
  refine TEo.mono (fun v H1 t => TEo.mono (fun w H2 t => ?_) t) (par_imp hij q)
  refine ⟨by rw [line16]; simp, fun p n => ⟨p, [v, w], rfl, .of upd_same, rfl, v, [w], rfl, w, [], rfl, rfl, t _ (upd_ext n)⟩⟩
end
/-! ### three, of which the last may become owned -/
def endPar33 (o : Bool) (i j l : Nat) (v w u : DV) : M Fl := fun e h => match cel o u with
  | some b => if v.ok && w.ok && decide (l < e.length) then .ok .next (((e.set i (.val v)).set j (.val w)).set l b) h else .stuck
  | none => .stuck
def sPar3 (o : Bool) (i j l : Nat) (m1 m2 m3 : M DV) : M Fl := fun e h => (m1 e h).bind fun v e h => (m2 e h).bind fun w e h => (m3 e h).bind (endPar33 o i j l v w)
section
variable {X : Cx} {C : Ct} {x y z : Expr} {m1 m2 m3 : M DV} {pos pt pt2 px py pz : Pos} {nx ny nz : Str} {kt k2 i j l : Nat} {o : Bool}
theorem par3_imp {D : Ends} {σ : St} {H : Hp} (q : TSd C (sPar3 o i j l m1 m2 m3) D σ H) : TEd C m1 σ H fun v H1 => TEd C m2 σ H1 fun w H2 => TEo C o m3 σ H2 fun u H3 => ∀ H4, (∀ a u, H3 a = some u → H4 a = some u) → D.nx (((σ.set i (some v)).set j (some w)).set l (some u)) H4 := by
  obtain ⟨B, φ, e, h, s, q⟩ := q
  refine ⟨B, φ, e, h, s, PostS.bindE (f := fun v e h => (m2 e h).bind fun w e h => (m3 e h).bind (endPar33 o i j l v w)) q fun v e1 h1 φ1 H1 x1 _ s1 st1 r1 p1 => ?_⟩
  refine ⟨B, φ1, e1, h1, s1, PostS.bindE (f := fun w e h => (m3 e h).bind (endPar33 o i j l v w)) p1 fun w e2 h2 φ2 H2 x2 _ s2 st2 r2 p2 => ?_⟩
  have r1' := r1.mono st2.gr st2.phi
  cases o with
  | false =>
    refine ⟨B, φ2, e2, h2, s2, PostS.bindE (f := endPar33 false i j l v w) p2 fun u e3 h3 φ3 H3 x3 _ s3 st3 r3 p3 => fun H4 ext => ?_⟩
    unfold endPar33 at p3
    cases c2 : cel false u with
    | none => rw [c2] at p3; exact p3.elim
    | some cu =>
      rw [c2] at p3
      simp only at p3
      obtain ⟨k3, rfl⟩ := cel_val c2
      split at p3
      case isFalse => exact p3.elim
      rename_i kk
      simp only [Bool.and_eq_true] at kk
      have s4 := s3.setVal (i := i) (r1'.mono st3.gr st3.phi) kk.1.1
      have g4 : Gr H3 (Wrt B σ φ3 e3 h3) H3 (Wrt B (σ.set i (some x1)) φ3 (e3.set i (.val v)) h3) := Gr.weak (Wrt.drop oc_set_val)
      have s5 := s4.setVal (i := j) (((r2.mono st3.gr st3.phi).sig kk.1.2).mono g4 List.prefix_rfl) kk.1.2
      have g5 := g4.trans (Gr.weak (H := H3) (Wrt.drop (B := B) (σ := σ.set i (some x1)) (φ := φ3) (e := e3.set i (.val v)) (h := h3) (y := some x2) (i := j) (oc_set_val (v := w))))
      have s6 := s5.setVal (i := l) ((r3.sig k3).mono g5 List.prefix_rfl) k3
      exact fin ext s6 ⟨List.prefix_rfl, g5.trans (Gr.weak (Wrt.drop oc_set_val)), fun _ z => z, fun _ _ => rfl⟩ p3
  | true =>
    refine ⟨B, φ2, e2, h2, s2, PostS.bindF (f := endPar33 true i j l v w) p2 fun u e3 h3 φ3 H3 x3 _ s3 st3 f3 p3 => fun H4 ext => ?_⟩
    unfold endPar33 at p3
    cases c2 : cel true u with
    | none => rw [c2] at p3; exact p3.elim
    | some cu =>
      rw [c2] at p3
      simp only at p3
      obtain ⟨ob, rfl⟩ := cel_own c2
      split at p3
      case isFalse => exact p3.elim
      rename_i kk
      simp only [Bool.and_eq_true, decide_eq_true_eq] at kk
      obtain ⟨a, rfl, n0, nB, s3', ro⟩ := f3.own c2
      have g0 : Gr H2 (Wrt B σ φ2 e2 h2) H3 (Wrt (fun b => B b ∨ b = a) σ φ3 e3 h3) := fun b u z k => by
        obtain ⟨z1, k1⟩ := st3.gr b u z k
        refine ⟨z1, fun w => ?_⟩
        rcases w with (w | w) | w
        · exact k1 (.inl w)
        · subst w; rw [n0] at z; cases z
        · exact k1 (.inr w)
      have s4 := s3'.setVal (i := i) (r1'.mono g0 st3.phi) kk.1.1
      have g4 : Gr H3 (Wrt (fun b => B b ∨ b = a) σ φ3 e3 h3) H3 (Wrt (fun b => B b ∨ b = a) (σ.set i (some x1)) φ3 (e3.set i (.val v)) h3) := Gr.weak (Wrt.drop oc_set_val)
      have s5 := s4.setVal (i := j) (((r2.mono g0 st3.phi).sig kk.1.2).mono g4 List.prefix_rfl) kk.1.2
      have g5 := g4.trans (Gr.weak (H := H3) (Wrt.drop (B := fun b => B b ∨ b = a) (σ := σ.set i (some x1)) (φ := φ3) (e := e3.set i (.val v)) (h := h3) (y := some x2) (i := j) (oc_set_val (v := w))))
      have s6 := s5.setObj (o := ob) (i := l) (by rw [List.length_set, List.length_set, ← s3.len]; exact kk.2) nB (ro.sig.mono g5 List.prefix_rfl rfl)
      exact fin ext s6 ⟨st3.phi, gr_own n0 (st3.gr.trans ((Gr.weak (Wrt.drop oc_set_val)).trans (Gr.weak (Wrt.drop oc_set_val)))), st3.tr, st3.bk⟩ p3
theorem TEd.mono {C : Ct} {m : M DV} {σ : St} {H : Hp} {Q Q' : VK} (i : ∀ x H, Q x H → Q' x H) (t : TEd C m σ H Q) : TEd C m σ H Q' := TEo.mono (o := false) i t
theorem s_par3 (hK : C.K = X.K) (hc : X.calm = true) (hN : X.N.Nodup) (hi : X.N[i]? = some nx) (hj : X.N[j]? = some ny) (hl : X.N[l]? = some nz) (hx : Loc X.env.scope nx) (hy : Loc X.env.scope ny) (hz : Loc X.env.scope nz)
    (fx : X.fn nx = true ∨ X.env.scope.names.lookup nx = some .local) (fy : X.fn ny = true ∨ X.env.scope.names.lookup ny = some .local) (fz : X.fn nz = true ∨ X.env.scope.names.lookup nz = some .local)
    (ha : PE X x (TEd C m1)) (hb : PE X y (TEd C m2)) (hcc : PE X z (TEo C o m3)) (na : starEach [x, y, z] X.env = (false, eval x X.env) :: starEach [y, z] X.env) (nb : starEach [y, z] X.env = (false, eval y X.env) :: starEach [z] X.env) (nc : starEach [z] X.env = (false, eval z X.env) :: starEach [] X.env)
    (hw : swappedStores [.Tuple [.Name nx px, .Name ny py, .Name nz pz] kt pt] (.Tuple [x, y, z] k2 pt2) X.env = pure none)
    (hs : swapsWithSole [.Tuple [.Name nx px, .Name ny py, .Name nz pz] kt pt] (.Tuple [x, y, z] k2 pt2) pos.line X.env = pure false) (h1 : (assignEach [.Tuple [.Name nx px, .Name ny py, .Name nz pz] kt pt] X.env).map (·.2) = [assign (.Tuple [.Name nx px, .Name ny py, .Name nz pz] kt pt) X.env]) :
    PS X (.Assign [.Tuple [.Name nx px, .Name ny py, .Name nz pz] kt pt] (.Tuple [x, y, z] k2 pt2) pos) (TSd C (sPar3 o i j l m1 m2 m3)) := by
  refine PS.imp (ps_asg (pe_tup (pa_cons ha (pa_cons hb (pa_cons hcc pa_nil nc) nb) na)) (pg_tup (n := 3) hc (pgs_cons (pg_name hN hi hx fx) (pgs_cons (pg_name hN hj hy fy) (pgs_cons (pg_name hN hl hz fz) pgs_nil rfl) rfl) rfl) rfl rfl) hs hw h1) fun D σ H q => ?_
  refine TEd.mono (fun v H1 t => TEd.mono (fun w H2 t => TEo.mono (fun u H3 t => ?_) t) t) (par3_imp q)
  refine ⟨by rw [line16]; simp, fun p n => ⟨p, [v, w, u], rfl, .of upd_same, rfl, v, [w, u], rfl, w, [u], rfl, u, [], rfl, rfl, t _ (upd_ext n)⟩⟩
end
end DL
/-! D18: names, the script, syntax' side facts, [..] on one line. -/
namespace DL
open PySem PySem.Spec L2
variable [WorldC]

/-- a name whose own list is given away -/
def mFz (i : Nat) : M DV := fun e h => match e[i]? with
  | some (.val v) => .ok v e h
  | some (.obj (.lst ds)) => .ok (.d (.list ds)) (e.set i (.val (.d (.list ds)))) h
  | some (.obj (.dct kvs)) => .ok (.d (.dict kvs)) (e.set i (.val (.d (.dict kvs)))) h
  | _ => .stuck
/-- the script's length, its numbers -/
def mScrLen (i : Nat) : M DV := fun e h => match e[i]? with
  | some (.val (.scr ns)) => .ok (.d (.int ns.length)) e h
  | _ => .stuck
def endScr (v k : DV) : M DV := fun e h => match v, k with
  | .scr ns, .d (.int j) => match ixP ns.length j with
    | some l => match ns[l]? with
      | some n => .ok (.d (.int n)) e h
      | none => .stuck
    | none => .stuck
  | _, _ => .stuck
def mScrIx (i : Nat) (mk : M DV) : M DV := fun e h => (mVar i e h).bind fun v e h => (mk e h).bind (endScr v)

section
variable {X : Cx} {C : Ct} {a b c : Expr} {es : List Expr} {m ma mb mk : M DV} {pos p p2 : Pos} {i : Nat} {x y : Str}
theorem d_fz (hN : X.N[i]? = some x) (hv : Vis X.env.scope x) (hd : (x == ("__debug__" : Str)) = false) (hcd : (x == ("__classdict__" : Str)) = false) : PE X (.Name x pos) (TEd C (mFz i)) := by
  refine PE.imp (pe_var hN hv hd hcd) fun σ H Q ⟨B, φ, e, h, s, q⟩ => ?_
  cases q1 : e[i]? with
  | none => simp only [mFz, q1] at q; exact q.elim
  | some sl =>
    cases sl with
    | no => simp only [mFz, q1] at q; exact q.elim
    | val v =>
      simp only [mFz, q1] at q
      obtain ⟨x, p1, p2, _⟩ := s.val i v q1
      exact ⟨x, p1, PostG.ret (v := v) q s p2⟩
    | obj o =>
      cases o with
      | lsv ds => simp only [mFz, q1] at q; exact q.elim
      | dct kvs =>
        simp only [mFz, q1] at q
        obtain ⟨a, p1, p2, p3, p4⟩ := s.freezeD q1
        exact ⟨_, p1, q φ H (.ref a) p3 p4 p2⟩
      | lst ds =>
        simp only [mFz, q1] at q
        obtain ⟨a, xs, p1, p2, p3, p4, _⟩ := s.freeze q1
        exact ⟨_, p1, q φ H (.ref a) p3 p4 p2⟩
theorem d_scrLen (hK : C.K = X.K) (hN : X.N[i]? = some x) (hv : Vis X.env.scope x) (hd : (x == ("__debug__" : Str)) = false) (hcd : (x == ("__classdict__" : Str)) = false) (hg : Gl X y) (hm : X.mg y = none) (hb : bootBuiltins y = some (.builtin "len")) (hn : y ≠ "__name__") (hdb : (y == ("__debug__" : Str)) = false)
    (he : starEach [.Name x p] X.env = (false, eval (.Name x p) X.env) :: starEach [] X.env) (hpl : (backTo pos (starEach [] X.env)).any (·.1) = false) : PE X (.Call (.Name y p2) [.Name x p] [] pos) (TEd C (mScrLen i)) := by
  refine PE.imp (pe_callB call_len_seq hg hm hb (pa_cons (pe_var hN hv hd hcd) pa_nil he) hn hdb he hpl) fun σ H Q ⟨B, φ, e, h, s, q⟩ => ?_
  unfold mScrLen at q
  split at q
  · rename_i ns q1
    obtain ⟨v, p1, ⟨a, rfl, ha⟩, _⟩ := s.val i _ q1
    refine ⟨.ref a, p1, a, ns.map V.int, rfl, .inl (hK ▸ scr_sq ha), ?_⟩
    rw [List.length_map]
    exact q φ H _ s Step.refl (RP.int _)
  · exact q.elim
theorem d_scrIx (hK : C.K = X.K) (hN : X.N[i]? = some x) (hv : Vis X.env.scope x) (hd : (x == ("__debug__" : Str)) = false) (hcd : (x == ("__classdict__" : Str)) = false) (hb : PE X b (TEd C mk)) (hs : PlainIx b) : PE X (.Subscript (.Name x p) b pos) (TEd C (mScrIx i mk)) := by
  obtain ⟨K0, cls0, W0⟩ := C
  obtain rfl : K0 = X.K := hK
  refine PE.imp (pe_ix ix_list (d_var (C := ⟨X.K, cls0, W0⟩) hN hv hd hcd) hb hs) fun σ H Q ⟨B, φ, e, h, s, q⟩ => ?_
  refine ⟨B, φ, e, h, s, PostG.bind (f := fun v e h => (mk e h).bind (endScr v)) q fun v e1 h1 φ1 H1 z _ s1 st1 r1 p1 => ?_⟩
  refine ⟨B, φ1, e1, h1, s1, PostG.bind (f := endScr v) p1 fun k e2 h2 φ2 H2 z2 _ s2 st2 r2 p2 => ?_⟩
  have r1' := r1.mono st2.gr st2.phi
  unfold endScr at p2
  split at p2
  · rename_i ns j _ _
    cases c : ixP ns.length j with
    | none => rw [c] at p2; exact p2.elim
    | some l =>
      rw [c] at p2
      simp only at p2
      cases c2 : ns[l]? with
      | none => rw [c2] at p2; exact p2.elim
      | some n =>
        rw [c2] at p2
        simp only at p2
        cases r2
        obtain ⟨a, rfl, ha⟩ := r1'
        refine ⟨a, ns.map V.int, j, .int n, rfl, rfl, scr_sq ha, ?_, p2 φ2 H2 _ s2 Step.refl (RP.int _)⟩
        unfold atI
        rw [List.length_map, ← ixP_ixN, c]
        simp [c2]
  · exact p2.elim
end

/-! ### [..] on one line, into a local -/
section
variable {X : Cx} {C : Ct} {elt tg iter tg1 iter1 : Expr} {ifs ifs1 : List Expr} {scope : Scope} {own : List (Str × Nat)} {pos py spos : Pos} {t t1 : Tg} {mi mi1 : M (List P)} {mc mc1 : M Bool} {m : M DV} {i : Nat} {y : Str}
theorem s_asgLc (hc : X.calm = true) (hN : X.N.Nodup) (hy : X.N[i]? = some y) (hyl : X.env.scope.names.lookup y = some .local) (hsw : swapsWith (.ListComp elt [⟨tg, iter, ifs, 0⟩] scope pos) (some (.Name y py)) spos.line X.env = pure true)
    (hi : PI X tg iter (TId C mi)) (ok : BlkOk X.N X.env.scope scope own) (nd : (own.map (·.2)).Nodup) (sub : ∀ j ∈ t.slots, j ∈ own.map (·.2))
    (hg : ∀ (s : Shared) (H : Hp) (D : Addr) (cl : List (Str × Addr)) (fp : List Addr), PG (X.blk s H scope (compEnvC scope cl D X.env) fp) tg (TGd C.quiet t))
    (ht : ∀ (s : Shared) (H : Hp) (D : Addr) (cl : List (Str × Addr)) (fp : List Addr), PTs (X.blk s H scope (compEnvC scope cl D X.env) fp) ifs (TTd C.quiet mc))
    (he : ∀ (s : Shared) (H : Hp) (D : Addr) (cl : List (Str × Addr)) (fp : List Addr), PE (X.blk s H scope (compEnvC scope cl D X.env) fp) elt (TEd C.quiet m)) (hs : ∀ x, foldedSetIterable iter X.env x = pure x) (o : Bool) :
    PS X (.Assign [.Name y py] (.ListComp elt [⟨tg, iter, ifs, 0⟩] scope pos) spos) (TSd C (if o then sOwn i (mLc (own.map (·.2)) mi (mEl t mc m)) else sAsg i (mLc (own.map (·.2)) mi (mEl t mc m)))) := by
  refine PS.imp (ps_setLc hc hN hy hyl hsw hi ok hg ht he hs) fun D σ H q => ?_
  cases o with
  | true => exact lc_imp nd sub (own_imp q)
  | false => exact lc_imp nd sub (asg_imp q).of_f
theorem s_asgLc2 {vs1 : List Nat} (hc : X.calm = true) (hN : X.N.Nodup) (hy : X.N[i]? = some y) (hyl : X.env.scope.names.lookup y = some .local)
    (hsw : swapsWith (.ListComp elt [⟨tg, iter, ifs, 0⟩, ⟨tg1, iter1, ifs1, 0⟩] scope pos) (some (.Name y py)) spos.line X.env = pure true)
    (hi : PI X tg iter (TId C mi)) (ok : BlkOk X.N X.env.scope scope own) (nd : (own.map (·.2)).Nodup) (sub : ∀ j ∈ t.slots, j ∈ own.map (·.2)) (sub1 : ∀ j ∈ t1.slots, j ∈ vs1) (sb : ∀ j ∈ vs1, j ∈ own.map (·.2))
    (hg : ∀ (s : Shared) (H : Hp) (D : Addr) (cl : List (Str × Addr)) (fp : List Addr), PG (X.blk s H scope (compEnvC scope cl D X.env) fp) tg (TGd C.quiet t))
    (ht : ∀ (s : Shared) (H : Hp) (D : Addr) (cl : List (Str × Addr)) (fp : List Addr), PTs (X.blk s H scope (compEnvC scope cl D X.env) fp) ifs (TTd C.quiet mc))
    (hi1 : ∀ (s : Shared) (H : Hp) (D : Addr) (cl : List (Str × Addr)) (fp : List Addr), PI (X.blk s H scope (compEnvC scope cl D X.env) fp) tg1 iter1 (TId C.quiet mi1))
    (hg1 : ∀ (s : Shared) (H : Hp) (D : Addr) (cl : List (Str × Addr)) (fp : List Addr), PG (X.blk s H scope (compEnvC scope cl D X.env) fp) tg1 (TGd C.quiet t1))
    (ht1 : ∀ (s : Shared) (H : Hp) (D : Addr) (cl : List (Str × Addr)) (fp : List Addr), PTs (X.blk s H scope (compEnvC scope cl D X.env) fp) ifs1 (TTd C.quiet mc1))
    (he : ∀ (s : Shared) (H : Hp) (D : Addr) (cl : List (Str × Addr)) (fp : List Addr), PE (X.blk s H scope (compEnvC scope cl D X.env) fp) elt (TEd C.quiet m)) (hs : ∀ x, foldedSetIterable iter X.env x = pure x) (hs1 : ∀ env x, foldedSetIterable iter1 env x = pure x) (o : Bool) :
    PS X (.Assign [.Name y py] (.ListComp elt [⟨tg, iter, ifs, 0⟩, ⟨tg1, iter1, ifs1, 0⟩] scope pos) spos) (TSd C (if o then sOwn i (mLc2 (own.map (·.2)) mi (mEl2 t mc mi1 vs1 (mEl t1 mc1 m))) else sAsg i (mLc2 (own.map (·.2)) mi (mEl2 t mc mi1 vs1 (mEl t1 mc1 m))))) := by
  refine PS.imp (ps_setLc2 hc hN hy hyl hsw hi ok sb hg ht hi1 hg1 ht1 he hs hs1) fun D σ H q => ?_
  cases o with
  | true => exact lc2_imp nd sub sub1 sb (own_imp q)
  | false => exact lc2_imp nd sub sub1 sb (asg_imp q).of_f
end

/-! ### side facts of the syntax -/
def noStar : Expr → Bool
  | .Starred _ _ => false
  | _ => true
def noComp : Expr → Bool
  | .ListComp _ _ _ _ => false
  | .SetComp _ _ _ _ => false
  | .DictComp _ _ _ _ _ => false
  | _ => true
def noSet : Expr → Bool
  | .Set _ _ _ => false
  | _ => true
def noSlice : Expr → Bool
  | .Slice _ _ _ _ => false
  | _ => true
def noCall : Expr → Bool
  | .Call _ _ _ _ => false
  | _ => true
def plainT : Expr → Bool
  | .UnaryOp .Not _ _ => false
  | .BoolOp _ _ _ => false
  | .IfExp _ _ _ _ => false
  | .Compare _ _ _ _ => false
  | _ => true
section
variable {env : PySem.Env} {a b v : Expr} {es : List Expr} {pos : Pos} {op : CmpOp}
theorem star_cons (h : noStar a = true) : starEach (a :: es) env = (false, eval a env) :: starEach es env := by
  cases a <;> first | rfl | cases h
theorem star_any (h : es.all noStar = true) : (starEach es env).any (·.1) = false ∧ (starEach es env).all (fun x => !x.1) = true := by
  induction es with
  | nil => exact ⟨rfl, rfl⟩
  | cons a es ih =>
    simp only [List.all_cons, Bool.and_eq_true] at h
    obtain ⟨i1, i2⟩ := ih h.2
    rw [star_cons h.1]
    constructor
    · simp only [List.any_cons, i1, Bool.or_false]
    · simp only [List.all_cons, i2, Bool.and_true, Bool.not_false]
theorem back_any (h : es.all noStar = true) : (backTo pos (starEach es env)).any (·.1) = false := by
  unfold backTo
  rw [List.any_map]
  exact (star_any h).1
theorem back_all (h : es.all noStar = true) : (backTo pos (starEach es env)).all (fun x => !x.1) = true := by
  unfold backTo
  rw [List.all_map]
  exact (star_any h).2
theorem swaps_no {t : Option Expr} {l : Nat} (h : noComp v = true) : swapsWith v t l env = pure false := by
  cases v <;> first | rfl | cases h
theorem sole_no {t : Expr} {l : Nat} (h : noComp v = true) : swapsWithSole [t] v l env = pure false := swaps_no h
theorem fold_no (h : noSet a = true) (x : Value) : foldedSetIterable a env x = pure x := by
  cases a <;> first | rfl | cases h
theorem marks_no (h : noSet b = true) : behindInMarks op b = false := by
  cases b <;> first | rfl | cases h
theorem last_no {o1 o2 : CmpOp} {c : Expr} (h : noSet c = true) : lastMarks [o1, o2] [b, c] = false := marks_no h
theorem plain_ix (h : noSlice b = true) : PlainIx b := fun o i => by
  cases b <;> first | rfl | cases h
theorem base_no {nm : Str} (h : noCall a = true) : attributeBase a nm env (eval a env) = eval a env := by
  cases a <;> first | rfl | cases h
theorem true_no (h : plainT a = true) (whole : Sem Value) : isTrue a env whole = (do let v ← whole; standAt a.pos; holding [v] (truthy v)) := by
  cases a with
  | UnaryOp op x p => cases op <;> first | rfl | cases h
  | _ => first | rfl | cases h
theorem each_one {t : Expr} (h : noStar t = true) : (assignEach [t] env).map (·.2) = [assign t env] := by
  cases t <;> first | rfl | cases h
end
end DL
/-! DC: dict displays. -/
namespace DL
open PySem PySem.Spec L2
variable [WorldC]

def pairUp : List P → Option (List (P × P))
  | [] => some []
  | k :: v :: r => (pairUp r).map ((k, v) :: ·)
  | [_] => none
def isTxtKey : P → Bool
  | .str x => PyData.strOk x && decide (x.length ≤ 16777216)
  | _ => false
def isTupKey : P → Bool
  | .tuple ds => depth8 (.tuple ds)
  | _ => false
def dispOk (ps : List (P × P)) : Bool := (ps.all fun z => isTxtKey z.1) || (ps.all fun z => isTupKey z.1)
def dputs (kvs more : List (P × P)) : List (P × P) := more.foldl (fun acc z => dput acc z.1 z.2) kvs
def endDct (vs : List DV) : M DV := fun e h => match pures vs with
  | some ps => match pairUp ps with
    | some kvs => if dispOk kvs && decide (kvs.length ≤ 15) then .ok (.d (.dict (dputs [] kvs))) e h else .stuck
    | none => .stuck
  | none => .stuck
def mDct (ms : M (List DV)) : M DV := fun e h => (ms e h).bind endDct
theorem dputs_le : ∀ (more kvs : List (P × P)), (dputs kvs more).length ≤ kvs.length + more.length
  | [], kvs => by simp [dputs]
  | z :: r, kvs => by
    have h1 := dputs_le r (dput kvs z.1 z.2)
    have h2 := dput_le kvs z.1 z.2
    show (dputs (dput kvs z.1 z.2) r).length ≤ _
    rw [List.length_cons]
    omega

section
variable {K : Fg} {H : Hp} {W : Addr → Prop} {X : Cx}
/-- keys and values, related -/
def KVr (K : Fg) (H : Hp) (W : Addr → Prop) (p : P × P) (q : V × V) : Prop := RP K H W p.1 q.1 ∧ RP K H W p.2 q.2
theorem kvr_of : ∀ {kvs : List (P × P)} {ps : List P} {xs : List V}, pairUp ps = some kvs → RPs K H W ps xs → ∃ qs : List (V × V), Paired (KVr K H W) kvs qs ∧ xs = qs.flatMap fun q => [q.1, q.2]
  | _, [], _, h, r => by cases r; cases h; exact ⟨[], .nil, rfl⟩
  | _, [_], _, h, _ => by cases h
  | _, k :: v :: ps, _, h, r => by
    simp only [pairUp, Option.map_eq_some_iff] at h
    obtain ⟨kvs, h, rfl⟩ := h
    cases r with
    | cons r1 r2 =>
      cases r2 with
      | cons r2 r3 =>
        obtain ⟨qs, a, rfl⟩ := kvr_of h r3
        exact ⟨(_, _) :: qs, .cons ⟨r1, r2⟩ a, rfl⟩
theorem tps_puts : ∀ {more : List (P × P)} {rs : List (Key × Value)} {kvs : List (P × P)} {vs : List (Key × Value)}, TPs K H W more rs → TPs K H W kvs vs → TPs K H W (dputs kvs more) (merged vs rs)
  | _, _, _, _, .nil, t => t
  | _, _, _, _, .cons (a := p) (b := q) t1 t2, t => by
    obtain ⟨x, v, e1, e2, o, l, rp, rv⟩ := t1
    obtain ⟨p1, p2⟩ := p
    obtain ⟨q1, q2⟩ := q
    cases e1; cases e2
    show TPs K H W (dputs (dput _ (.str x) p2) _) (merged (stored _ (.inr x) q2) _)
    exact tps_puts t2 (tps_put o l rp rv t)
theorem nps_puts : ∀ {more : List (P × P)} {rs : List (NestedKey × Addr × Value)} {kvs : List (P × P)} {xs : List (NestedKey × Addr × Value)}, NPs K H W more rs → NPs K H W kvs xs → NPs K H W (dputs kvs more) (storedAllH xs rs)
  | _, _, _, _, .nil, t => t
  | _, _, _, _, .cons (a := p) (b := q) t1 t2, t => by
    obtain ⟨ds, v, e1, h1, h2, h3, h4, h5⟩ := t1
    obtain ⟨p1, p2⟩ := p
    obtain ⟨n, b, u⟩ := q
    cases e1
    show NPs K H W (dputs (dput _ (.tuple ds) p2) _) (storedAllH (storedH _ n b u) _)
    exact nps_puts t2 (nps_put h1 h2 h3 h4 h5 t)
theorem carries_t : ∀ {kvs : List (P × P)} {qs : List (V × V)} {ws : List (Value × Value)}, Paired (KVr K H W) kvs qs → VV qs ws → (kvs.all fun z => isTxtKey z.1) = true → ∃ rs, Carries (tKind X) ws rs ∧ TPs K H W kvs rs
  | _, _, _, .nil, .nil, _ => ⟨[], trivial, .nil⟩
  | p :: kvs, _, _, .cons r1 r2, .cons (b := w) v1 v2, h => by
    obtain ⟨p1, p2⟩ := p
    simp only [List.all_cons, Bool.and_eq_true] at h
    obtain ⟨rs, c, t⟩ := carries_t r2 v2 h.2
    obtain ⟨ra, rb⟩ := r1
    cases p1 with
    | str x =>
      have hx := h.1
      simp only [isTxtKey, Bool.and_eq_true, decide_eq_true_eq] at hx
      obtain ⟨w1, w2⟩ := w
      have va := v1.1
      generalize hq : (_ : V × V).1 = q1 at ra va
      cases ra
      exact ⟨(.inr x, w2) :: rs, ⟨kV_is (k := .inr x) va, rfl, c⟩, .cons ⟨x, _, rfl, rfl, hx.1, hx.2, rb, v1.2⟩ t⟩
    | _ => cases h.1
theorem carries_n {pins : List (Addr × Obj)} {σ : St} {s : Shared} (I : Inv X pins σ H s) : ∀ {kvs : List (P × P)} {qs : List (V × V)} {ws : List (Value × Value)}, Paired (KVr X.K H W) kvs qs → VV qs ws → (kvs.all fun z => isTupKey z.1) = true → ∃ rs, CarriesH (nKind X) s.heap ws rs ∧ NPs X.K H W kvs rs
  | _, _, _, .nil, .nil, _ => ⟨[], trivial, .nil⟩
  | p :: kvs, _, _, .cons r1 r2, .cons (b := w) v1 v2, h => by
    obtain ⟨p1, p2⟩ := p
    simp only [List.all_cons, Bool.and_eq_true] at h
    obtain ⟨rs, c, t⟩ := carries_n I r2 v2 h.2
    obtain ⟨ra, rb⟩ := r1
    cases p1 with
    | tuple ds =>
      have hx := h.1
      simp only [isTupKey, depth8] at hx
      split at hx
      · rename_i n hn
        have h8 := of_decide_eq_true hx
        obtain ⟨w1, w2⟩ := w
        have va := v1.1
        obtain ⟨b, e1, e2, hk⟩ := rl_key I ra va hn h8
        simp only at e2
        subst e2
        simp only at ra
        rw [e1] at ra
        exact ⟨(n, b, w2) :: rs, ⟨rfl, rfl, hk, c⟩, .cons ⟨ds, _, rfl, hn, h8, ra, rb, v1.2⟩ t⟩
      · cases hx
    | _ => cases h.1
theorem carriesH_len {h : Heap} {vs : List (Value × Value)} {ps : List (NestedKey × Addr × Value)} (c : CarriesH (nKind X) h vs ps) : ps.length = vs.length := c.length
end
def emptyD : Obj := { cls := .type "dict", data := .dict #[] }
/-- a display, by values -/
def tDispA (X : Cx) (trs : List (TE × TE)) : TE := fun σ H Q => ∀ p, H p = none → tPairs trs σ (upd H p (DcO p emptyD)) fun qs H2 => H2 p = some (DcO p emptyD) ∧ ∃ (W : Addr → Prop) (kvs : List (P × P)), W p ∧ Paired (KVr X.K H2 W) kvs qs ∧ dispOk kvs = true ∧ kvs.length ≤ 15 ∧
  ∀ o, RD X.K (upd H2 p (DcO p o)) W p (dputs [] kvs) → Q (.ref p) (upd H2 p (DcO p o))
theorem pe_dispA {X : Cx} {pos : Pos} {keys : List (Option Expr)} {values : List Expr} {trs : List (TE × TE)} (hw : X.w = WorldC.w) (hu : X.A.units + 200 < cLine) (h : PPs X pos keys values trs) (hall : keys.all (·.isSome) = true) (hl : keys.length = values.length) (h0 : keys ≠ [])
    (h15 : keys.length ≤ 15) : PE X (.Dict keys values pos) (tDispA X trs) := by
  refine ⟨fun pins s σ H Q I q => ?_⟩
  have hn := I.hok.fresh (Nat.le_refl s.heap.objs.size)
  have hsm : (s.heap.objs.size == sysModules) = false := beq_eq_false_iff_ne.mpr (Ne.symm (Nat.ne_of_lt I.big))
  have I1 : Inv X pins σ (upd H s.heap.objs.size (DcO s.heap.objs.size emptyD)) { s with heap := s.heap.push emptyD, toks := s.toks } :=
    I.laid (t' := s.toks) (fun _ _ q => Heap.get?_push_of_some _ q) (Nat.le_refl _) (dc_ok (Heap.get?_push_size _ rfl))
  have hs16 := sizeLine_eq
  have run := h.run pins _ σ _ _ I1 (q _ hn)
  have hn2 := pairTrees_length keys values X.env pos hall hl
  have ne : pairTrees keys values X.env pos ≠ [] := fun z => by rw [z] at hn2; exact h0 (List.length_eq_zero_iff.mp hn2.symm)
  rw [arm_eval_Dict, zip_pairTrees keys values X.env pos hall hl, dictDisplay_pairs _ ne (by omega)]
  refine wpAny_bind (wpAny_standAt (wpAny_bind ?_))
  unfold subDict
  refine wpAny_bind (wpAny_alloc ?_)
  refine wpAny_bind (wpAny_holding ?_)
  rw [if_pos (by rw [hn2]; exact h15)]
  refine wpAny_bind (thn run fun ws s2 ⟨qs, H2, I2, rel, e, W, kvs, wp, kr, ok, l15, q2⟩ => ?_)
  have ho := obj_of I2 e
  have lk := dputs_le kvs []
  simp only [List.length_nil, Nat.zero_add] at lk
  refine wpAny_holding ?_
  have mu : Mut (H2 s.heap.objs.size) := by rw [e]; trivial
  have lq := Paired.length kr
  have lw := Paired.length rel
  simp only [dispOk, Bool.or_eq_true] at ok
  rcases ok with ok | ok
  · obtain ⟨rs, c, t⟩ := carries_t (X := X) kr rel ok
    have d0 : s2.heap.DictOf (tKind X) s.heap.objs.size [] := ⟨emptyD, #[], 0, ho, ⟨rfl, rfl, rfl⟩, rfl, fun e he => by simp at he, .nil, List.nodup_nil⟩
    refine wpAny_bind (wpAny_storeAll (knd := tKind X) ws rs [] s2 _ c d0 (by have := c.length; simp only [List.length_nil]; omega) fun h' dd' hs => wpAny_pure (wpAny_pure (wpAny_pure ?_)))
    obtain ⟨o, ho', rd'⟩ := text_rd (K := X.K) (W := W) (kvs := dputs [] kvs) hw dd' hsm (by omega)
    exact ⟨.ref _, _, d_write I2 mu hs ⟨o, ho'⟩ (dc_ok ho'), rfl, q2 o (rd' _ ((tps_puts t .nil).mono (gr_upd wp)) upd_same)⟩
  · obtain ⟨rs, c, t⟩ := carries_n I2 kr rel ok
    have d0 : s2.heap.DictOfH (nKind X) s.heap.objs.size [] := ⟨emptyD, #[], 0, ho, ⟨rfl, rfl, rfl⟩, rfl, rfl, fun x hx => (by cases hx), List.nodup_nil⟩
    refine wpAny_bind (wpAny_storeAllH (knd := nKind X) (by show X.A.units + 8 < cLine; omega) ws rs [] s2 _ c d0 (by have := carriesH_len c; simp only [List.length_nil]; omega) fun h' tk dd' hs => wpAny_pure (wpAny_pure (wpAny_pure ?_)))
    obtain ⟨o, ho', rd'⟩ := tup_rd (K := X.K) (W := W) (kvs := dputs [] kvs) hw dd' hsm (by omega)
    exact ⟨.ref _, _, d_write I2 mu hs ⟨o, ho'⟩ (dc_ok ho'), rfl, q2 o (rd' _ ((nps_puts t .nil).mono (gr_upd wp)) upd_same)⟩
end DL
/-! DD: dict displays over plain data. -/
namespace DL
open PySem PySem.Spec L2
variable [WorldC]

section
variable {K : Fg} {B : Addr → Prop} {φ φ1 : List Addr} {σ : St} {H H1 H2 : Hp} {e e1 : Env} {h h1 : Hh} {W : Addr → Prop} {p : Addr}
/-- a write at an address that is kept apart -/
theorem RS.wrB (s : RS K B φ σ H e h) (hp : B p) {u : HO} : RS K B φ σ (upd H p u) e h := by
  have g : Gr H (Wrt B σ φ e h) (upd H p u) (Wrt B σ φ e h) := gr_upd (.inl hp)
  refine ⟨s.len, s.hlen, fun a z => ?_, fun i v q => ?_, fun w o q => ?_, s.inj⟩
  · by_cases n : a = p
    · rw [n, upd_same]; intro z; cases z
    · rw [upd_ne n]; exact s.bN a z
  · obtain ⟨x, q1, r, k⟩ := s.val i v q
    exact ⟨x, q1, r.mono g List.prefix_rfl, k⟩
  · obtain ⟨a, q1, r, nb⟩ := s.obj w o q
    exact ⟨a, q1, r.mono g List.prefix_rfl (upd_ne fun n => nb (by rw [n]; exact hp)), nb⟩
/-- a new object was made, the rest was walked beside it, it was written -/
theorem made_step {u u2 : HO} (s : RS K B φ σ H e h) (n : H p = none) (st : Step (fun b => B b ∨ b = p) σ φ (upd H p u) e h φ1 H2 e1 h1) (s2 : RS K (fun b => B b ∨ b = p) φ1 σ H2 e1 h1) : Step B σ φ H e h φ1 (upd H2 p u2) e1 h1 := by
  have nb : ¬ B p := fun z => s.bN p z n
  refine ⟨st.phi, fun a v q k => ?_, fun a z => ?_, fun a z => ?_⟩
  · have ne : a ≠ p := fun z => by rw [z, n] at q; cases q
    obtain ⟨q1, k1⟩ := st.gr a v (by rw [upd_ne ne]; exact q) fun z => by
      rcases z with (z | z) | z
      · exact k (.inl z)
      · exact ne z
      · exact k (.inr z)
    refine ⟨by rw [upd_ne ne]; exact q1, fun z => k1 ?_⟩
    rcases z with z | z
    · exact .inl (.inl z)
    · exact .inr z
  · by_cases ne : a = p
    · rw [ne, upd_same]; intro z; cases z
    · rw [upd_ne ne]
      exact st.tr a (by rw [upd_ne ne]; exact z)
  · have ne : a ≠ p := fun y => nb (by rw [← y]; exact z)
    rw [upd_ne ne, st.bk a (.inl z), upd_ne ne]
end

section
variable {X : Cx} {C : Ct} {pos : Pos}
def flatM : List (M DV × M DV) → M (List DV)
  | [] => mNil
  | z :: r => mCons z.1 (mCons z.2 (flatM r))
def flatV (qs : List (V × V)) : List V := qs.flatMap fun q => [q.1, q.2]
theorem flatV_inj : ∀ {a b : List (V × V)}, flatV a = flatV b → a = b
  | [], [], _ => rfl
  | [], (_, _) :: _, h => by simp [flatV] at h
  | (_, _) :: _, [], h => by simp [flatV] at h
  | (x, y) :: a, (x', y') :: b, h => by
    simp only [flatV, List.flatMap_cons, List.cons_append, List.nil_append, List.cons.injEq] at h
    obtain ⟨rfl, rfl, h⟩ := h
    rw [flatV_inj h]
theorem pairs_imp : ∀ {L : List (M DV × M DV)} {B : Addr → Prop} {φ : List Addr} {σ : St} {H : Hp} {e : Env} {h : Hh} {Q : List (V × V) → Hp → Prop}, RS C.K B φ σ H e h → PostG C (RelVs1 C.K σ) B φ σ H e h (flatM L e h) (fun xs H' => ∀ qs, flatV qs = xs → Q qs H') →
    tPairs (L.map fun z => (TEd C z.1, TEd C z.2)) σ H Q
  | [], B, φ, σ, H, e, h, Q, s, p => (PostG.ret (v := []) (x := []) p s .nil) [] rfl
  | z :: r, B, φ, σ, H, e, h, Q, s, p => by
    simp only [flatM, mCons, R.bind_assoc, R.bind_ok] at p
    refine ⟨B, φ, e, h, s, p.bind fun v e1 h1 φ1 H1 x _ s1 st1 r1 p1 => ?_⟩
    refine ⟨B, φ1, e1, h1, s1, p1.bind fun w e2 h2 φ2 H2 y _ s2 st2 r2 p2 => ?_⟩
    refine pairs_imp (L := r) s2 (PostG.bind (f := fun vs e h => .ok (v :: w :: vs) e h) p2 fun vs e3 h3 φ3 H3 xs _ s3 st3 r3 p3 qs hq => ?_)
    refine p3.ret s3 (.cons ((r1.mono st2.gr st2.phi).mono st3.gr st3.phi) (.cons (r2.mono st3.gr st3.phi) r3)) ((x, y) :: qs) ?_
    simp only [flatV, List.flatMap_cons, List.cons_append, List.nil_append] at hq ⊢
    rw [hq]
theorem d_dct {keys : List (Option Expr)} {values : List Expr} {L : List (M DV × M DV)} (hK : C.K = X.K) (hw : X.w = WorldC.w) (hu : X.A.units + 200 < cLine) (hp : PPs X pos keys values (L.map fun z => (TEd C z.1, TEd C z.2))) (hall : keys.all (·.isSome) = true) (hl : keys.length = values.length) (h0 : keys ≠ [])
    (h15 : keys.length ≤ 15) : PE X (.Dict keys values pos) (TEf C (mDct (flatM L))) := by
  obtain ⟨K0, cls0, W0⟩ := C
  obtain rfl : K0 = X.K := hK
  refine PE.imp (pe_dispA hw hu hp hall hl h0 h15) fun σ H Q ⟨B, φ, e, h, s, q⟩ p n => ?_
  have x := upd_ext (o := DcO p emptyD) n
  have nb : ¬ B p := fun z => s.bN p z n
  have s1 := s.grow (a := p) x n (by rw [upd_same]; intro z; cases z)
  refine pairs_imp (C := ⟨X.K, cls0, W0⟩) s1 ?_
  have q : PostF ⟨X.K, cls0, W0⟩ B φ σ H e h ((flatM L e h).bind endDct) Q H := q
  cases c : flatM L e h with
  | stuck => rw [c] at q; exact q
  | ex c1 pe e1 h1 =>
    rw [c] at q
    intro φ2 H2 d s2 st2 xd
    have ms : Step B σ φ H e h φ2 H2 e1 h1 := by
      have m := made_step (u2 := DcO p emptyD) s n st2 s2
      have : upd H2 p (DcO p emptyD) = H2 := by
        funext b
        by_cases nbp : b = p
        · rw [nbp, upd_same, st2.bk p (.inr rfl), upd_same]
        · rw [upd_ne nbp]
      rw [this] at m
      exact m
    exact q φ2 H2 d (s2.weakB fun _ z => .inl z) ms xd
  | ok vs e1 h1 =>
    rw [c] at q
    intro φ2 H2 xs s2 st2 rel qs hq
    have q : PostF ⟨X.K, cls0, W0⟩ B φ σ H e h (endDct vs e1 h1) Q H := q
    unfold endDct at q
    cases c2 : pures vs with
    | none => simp only [c2] at q; exact q.elim
    | some ps =>
      simp only [c2] at q
      cases c3 : pairUp ps with
      | none => simp only [c3] at q; exact q.elim
      | some kvs =>
        simp only [c3] at q
        split at q
        · rename_i ok
          simp only [Bool.and_eq_true, decide_eq_true_eq] at ok
          obtain ⟨qs', kr, eq⟩ := kvr_of c3 (pures_rp rel c2)
          have : qs = qs' := flatV_inj (by rw [hq]; exact eq)
          subst this
          refine ⟨by rw [st2.bk p (.inr rfl), upd_same], _, kvs, .inl (.inr rfl), kr, ok.1, ok.2, fun o rd => ?_⟩
          have s3 := s2.wrB (p := p) (u := DcO p o) (.inr rfl)
          exact q φ2 _ (.ref p) (s3.weakB fun _ z => .inl z) (made_step s n st2 s2) ⟨p, rfl, n, nb, s3, rd⟩
        · exact q.elim
theorem d_dct0 (hK : C.K = X.K) : PE X (.Dict [] [] pos) (TEf C (mDct mNil)) := by
  refine ⟨fun pins s σ H Q I ⟨B, φ, e, h, sr, q⟩ => ?_⟩
  have hn := I.hok.fresh (Nat.le_refl s.heap.objs.size)
  have hsm : (s.heap.objs.size == sysModules) = false := beq_eq_false_iff_ne.mpr (Ne.symm (Nat.ne_of_lt I.big))
  have x := upd_ext (o := DcO s.heap.objs.size emptyD) hn
  refine wpAny_Dict_empty ⟨.ref s.heap.objs.size, _, I.laid (o := DcO s.heap.objs.size emptyD) (t' := s.toks) (fun _ _ q => Heap.get?_push_of_some _ q) (Nat.le_refl _) (dc_ok (Heap.get?_push_size _ rfl)), rfl, ?_⟩
  have s1 := sr.grow (a := s.heap.objs.size) x hn (by rw [upd_same]; intro z; cases z)
  obtain ⟨s2, st⟩ := sr.ext x
  exact q φ _ (.ref s.heap.objs.size) s2 st ⟨_, rfl, hn, fun z => sr.bN _ z hn, s1, emptyD, #[], 0, false, upd_same, ⟨rfl, rfl, rfl⟩, rfl, hsm, by simp [dputs], by simp [dputs], .nil⟩
end
end DL
/-! DE: methods that only read: l.index(x), d.get(k), d.get(k, x). -/
namespace DL
open PySem PySem.Spec L2
variable [WorldC]

def indexP : Op
  | [.list ds, p] => if decide ((PyData.list ds).depth ≤ 64) && decide (p.depth ≤ 64) && nods ds && nod p then (ds.findIdx? fun z => PyData.eqv z p).map fun j => .int (j : Nat) else none
  | _ => none
def getP : Op
  | [.dict kvs, k] => if keyOk kvs k then some ((dget kvs k).getD .none) else none
  | [.dict kvs, k, d] => if keyOk kvs k then some ((dget kvs k).getD d) else none
  | _ => none
inductive Rk where
  | lst
  | dct
  deriving DecidableEq
def rkB (k : Rk) (p : P) : Bool := match k, p with
  | .lst, .list _ => true
  | .dct, .dict _ => true
  | _, _ => false
def endMeth (f : Op) (v : DV) (vs : List DV) : M DV := fun e h => match look v e h, pures vs with
  | some p, some ps => match f (p :: ps) with
    | some r => .ok (.d r) e h
    | none => .stuck
  | _, _ => .stuck
def mMeth (k : Rk) (f : Op) (m : M DV) (ms : M (List DV)) : M DV := fun e h => (m e h).bind fun v e h => match look v e h with
  | some p => if rkB k p then (ms e h).bind (endMeth f v) else .stuck
  | none => .stuck
section
variable {X : Cx} {pins : List (Addr × Obj)} {σ : St} {H : Hp} {s : Shared} {W : Addr → Prop} {a : Addr} {kvs : List (P × P)} {k d : P} {A : Around} {E : Value → Shared → Prop} {y v : V} {u r : Value}
theorem dd_get1 {Q : Value → Shared → Prop} (hu : A.units + 10 < cLine) (hw : X.w = WorldC.w) (I : Inv X pins σ H s) (rd : RD X.K H W a kvs) (ko : keyOk kvs k = true) (rk : RP X.K H W k y) (ry : RelV y u)
    (h : ∀ w' s' v, Inv X pins σ H s' → RelV v w' → RP X.K H W ((dget kvs k).getD .none) v → Q w' s') : wpAny (model X.prog X.w) A (call (.builtin "dict.get") [.ref a, u]) Q E s := by
  rcases keyOk_kind ko with ⟨x, rfl⟩ | ⟨ds, rfl⟩
  · obtain ⟨vs, tp, dd, hd⟩ := rd_text hw I rd ko
    cases rk
    have q := tps_get (x := x) tp
    refine call_meetsIn PySem.F.slot_dict_get dd.typeIs PySem.F.entry_dict_get (PySem.F.args_dict_get_2 _ _) (meets_dict_get (tKind X) a (kV_is (k := .inr x) ry) hd) ⟨_, dd.mapOf, ?_⟩
    cases c : dget kvs (.str x) with
    | none =>
      rw [c] at q h
      cases c2 : valueAt vs (.inr x) with
      | none => exact h _ _ .non (I.tok _) rfl .non
      | some u' => rw [c2] at q; exact q.elim
    | some d =>
      rw [c] at q h
      obtain ⟨v, u', e, r1, r2⟩ := q.some
      rw [e]
      exact h _ _ v (I.tok _) r2 r1
  · obtain ⟨xs, np, dd, hd⟩ := rd_tup hw I rd ko
    obtain ⟨⟨n, hn, h8⟩, _⟩ := keyOk_tup ko
    obtain ⟨b, rfl, rfl, hk⟩ := rl_key I rk ry hn h8
    have q := nps_get hn np
    refine call_meetsIn PySem.F.slot_dict_get dd.typeIs PySem.F.entry_dict_get (PySem.F.args_dict_get_2 _ _) (meetsH_dict_get (nKind X) a b hd) ⟨n_room hu, n, xs, hk, dd, ?_⟩
    cases c : dget kvs (.tuple ds) with
    | none =>
      rw [c] at q h
      cases c2 : (atKey xs n).map (·.2) with
      | none => exact h _ _ .non (I.tok _) rfl .non
      | some u' => rw [c2] at q; exact q.elim
    | some d =>
      rw [c] at q h
      obtain ⟨v, u', e, r1, r2⟩ := q.some
      rw [e]
      exact h _ _ v (I.tok _) r2 r1
theorem dd_get2 {Q : Value → Shared → Prop} (hu : A.units + 10 < cLine) (hw : X.w = WorldC.w) (I : Inv X pins σ H s) (rd : RD X.K H W a kvs) (ko : keyOk kvs k = true) (rk : RP X.K H W k y) (ry : RelV y u) {v0 : V} (rv0 : RP X.K H W d v0) (rr : RelV v0 r)
    (h : ∀ w' s' v, Inv X pins σ H s' → RelV v w' → RP X.K H W ((dget kvs k).getD d) v → Q w' s') : wpAny (model X.prog X.w) A (call (.builtin "dict.get") [.ref a, u, r]) Q E s := by
  rcases keyOk_kind ko with ⟨x, rfl⟩ | ⟨ds, rfl⟩
  · obtain ⟨vs, tp, dd, hd⟩ := rd_text hw I rd ko
    cases rk
    have q := tps_get (x := x) tp
    refine call_meetsIn PySem.F.slot_dict_get dd.typeIs PySem.F.entry_dict_get (PySem.F.args_dict_get_3 _ _ _) (meets_dict_get_default (tKind X) a (kV_is (k := .inr x) ry) hd r) ⟨_, dd.mapOf, ?_⟩
    cases c : dget kvs (.str x) with
    | none =>
      rw [c] at q h
      cases c2 : valueAt vs (.inr x) with
      | none => exact h _ _ v0 (I.tok _) rr rv0
      | some u' => rw [c2] at q; exact q.elim
    | some d =>
      rw [c] at q h
      obtain ⟨v, u', e, r1, r2⟩ := q.some
      rw [e]
      exact h _ _ v (I.tok _) r2 r1
  · obtain ⟨xs, np, dd, hd⟩ := rd_tup hw I rd ko
    obtain ⟨⟨n, hn, h8⟩, _⟩ := keyOk_tup ko
    obtain ⟨b, rfl, rfl, hk⟩ := rl_key I rk ry hn h8
    have q := nps_get hn np
    refine call_meetsIn PySem.F.slot_dict_get dd.typeIs PySem.F.entry_dict_get (PySem.F.args_dict_get_3 _ _ _) (meetsH_dict_get_default (nKind X) a b hd r) ⟨n_room hu, n, xs, hk, dd, ?_⟩
    cases c : dget kvs (.tuple ds) with
    | none =>
      rw [c] at q h
      cases c2 : (atKey xs n).map (·.2) with
      | none => exact h _ _ v0 (I.tok _) rr rv0
      | some u' => rw [c2] at q; exact q.elim
    | some d =>
      rw [c] at q h
      obtain ⟨v, u', e, r1, r2⟩ := q.some
      rw [e]
      exact h _ _ v (I.tok _) r2 r1
end
/-- a reading method, by values -/
def rMt (K : Fg) (f : Op) : V → List V → Hp → VK → Prop := fun x xs H Q => ∃ (W : Addr → Prop) (p : P) (ps : List P) (r : P), RL K H W p x ∧ RPs K H W ps xs ∧ f (p :: ps) = some r ∧ ∀ z H', (∀ a u, H a = some u → H' a = some u) → RP K H' W r z → Q z H'
section
variable {X : Cx}
theorem m_get (hu : X.A.units + 200 < cLine) (hw : X.w = WorldC.w) : MtR X "dict.get" (rMt X.K getP) := by
  intro pins s σ H x xs v us Q I rx rv h
  obtain ⟨W, p, ps, r, rl, rs, fe, q⟩ := h
  unfold getP at fe
  split at fe
  · rename_i kvs k heq
    cases heq
    split at fe
    · rename_i ko
      cases fe
      obtain ⟨l, rfl, rd⟩ := rl
      cases rs with
      | cons b1 b2 =>
        cases b2
        obtain ⟨u, rfl, ru⟩ := rv.one
        cases rx
        exact dd_get1 (by omega) hw I rd ko b1 ru fun w' s' v I' rv' rp => ⟨v, H, I', rv', q _ H ext_refl rp⟩
    · cases fe
  · rename_i kvs k d heq
    cases heq
    split at fe
    · rename_i ko
      cases fe
      obtain ⟨l, rfl, rd⟩ := rl
      cases rs with
      | cons b1 b2 =>
        cases b2 with
        | cons c1 c2 =>
          cases c2
          obtain ⟨u1, u2, rfl, r1, r2⟩ := vals2 rv
          cases rx
          exact dd_get2 (by omega) hw I rd ko b1 r1 c1 r2 fun w' s' v I' rv' rp => ⟨v, H, I', rv', q _ H ext_refl rp⟩
    · cases fe
  · cases fe
theorem m_index (hu : X.A.units + 200 < cLine) : MtR X "list.index" (rMt X.K indexP) := by
  intro pins s σ H x xs v us Q I rx rv h
  obtain ⟨W, p, ps, r, rl, rs, fe, q⟩ := h
  unfold indexP at fe
  split at fe
  · rename_i ds k heq
    cases heq
    split at fe
    · rename_i ok
      simp only [Bool.and_eq_true, decide_eq_true_eq] at ok
      obtain ⟨⟨⟨d1, d2⟩, n1⟩, n2⟩ := ok
      simp only [Option.map_eq_some_iff] at fe
      obtain ⟨j, fj, rfl⟩ := fe
      have rl' := rl
      obtain ⟨a, ys, rfl, e, l, r1⟩ := rl'
      cases rs with
      | cons b1 b2 =>
        cases b2
        rw [List.findIdx?_eq_some_iff_getElem] at fj
        obtain ⟨lt, f1, f2⟩ := fj
        have sh1 : SeqAt.shaped (.list ds) = true := by
          have : (PyData.list ds).canLay0 = true := rl.lay n1
          simp only [SeqAt.shaped, this, Bool.true_and, decide_eq_true_eq]
          exact d1
        have sh2 : SeqAt.shaped k = true := by
          simp only [SeqAt.shaped, b1.lay n2, Bool.true_and, decide_eq_true_eq]
          exact d2
        refine mt_indexD (by omega) pins s σ H _ _ v us Q I rx rv ⟨a, _, k, ds, j, ds[j], rfl, rfl, rl.dp n1, b1.dp n2, sh1, sh2, List.getElem?_eq_getElem lt, f1, fun m z' hm hz => ?_, q _ H ext_refl (RP.int _)⟩
        have hm2 : m < ds.length := by omega
        rw [List.getElem?_eq_getElem hm2] at hz
        cases hz
        simpa using f2 m hm
    · cases fe
  · cases fe
end
/-- the receiver's type is known -/
def tyD (K : Fg) (T : String) (x : V) (H : Hp) : Prop := tyV K T x H ∨ T = "dict" ∧ ∃ a o, x = .ref a ∧ H a = some (DcO a o) ∧ o.ExactDict
section
variable {X : Cx} {C : Ct} {o b : Expr} {es : List Expr} {to : TE} {t : TA} {name : Str} {apos cpos : Pos} {T id : String} {r : V → List V → Hp → VK → Prop} {m : M DV} {ms : M (List DV)} {f : Op} {k : Rk}
theorem tyD_is {pins : List (Addr × Obj)} {σ : St} {H : Hp} {s : Shared} {x : V} {v : Value} (I : Inv X pins σ H s) (rx : RelV x v) (ty : tyD X.K T x H) : s.TypeIs v T ∧ ∀ a, v = .ref a → ∃ ob, s.heap.get? a = some ob ∧ ob.dict = none := by
  rcases ty with ty | ⟨rfl, a, o, rfl, h1, h2⟩
  · exact tyV_is I rx ty
  · cases rx
    have ho := obj_of I h1
    exact ⟨⟨o, ho, h2.1⟩, fun b e => by cases e; exact ⟨o, ho, h2.2.1⟩⟩
theorem pe_met (pa : PlainAttrs T) (slot : Slot T name id) (hty : typeOf (.builtin id) = pure (.type "method_descriptor")) (hm : MtR X id r) (ho : PE X o to) (ha : PA X (b :: es) t)
    (hbase : attributeBase o name X.env (eval o X.env) = eval o X.env)
    (hfew : ((backTo cpos (starEach (b :: es) X.env)).all (fun x => !x.1) && (backToKw cpos (keywordEach [] X.env)).all (fun x => x.1.isSome)
      && decide ((b :: es).length + ([] : List Keyword).length + (if ([] : List Keyword).isEmpty then 0 else 1) < 30)) = true)
    (hline : (apos.endLine == cpos.line) = true) (hs : starEach (b :: es) X.env = (false, eval b X.env) :: starEach es X.env) (hplain : (backTo cpos (starEach es X.env)).any (·.1) = false) :
    PE X (.Call (.Attribute o name apos) (b :: es) [] cpos) (fun σ H Q => to σ H fun x H1 => tyD X.K T x H1 ∧ t σ H1 fun xs H2 => r x xs H2 Q) := by
  refine ⟨fun pins s σ H Q I h => ?_⟩
  refine wpAny_Call_method_late hbase hfew hline rfl (thn (ho.run pins s σ H _ I h) fun v s1 ⟨x, H1, I1, r1, ty, q1⟩ => ?_)
  obtain ⟨g1, g2⟩ := tyD_is I1 r1 ty
  have run := ha.run cpos pins s1 σ H1 _ I1 q1
  refine ⟨T, id, pa, slot, hty, g1, g2, ?_⟩
  rw [hs] at run ⊢
  have np : (false || (backTo cpos (starEach es X.env)).any (·.1)) = false := by rw [hplain]; rfl
  refine Calls.callWith_builtin np (Calls.evalArgs_plain (thn run fun us s2 ⟨vs, H2, I2, r2, q2⟩ => ?_))
  exact hm pins s2 σ H2 x vs v us Q I2 r1 r2 q2
def Rk.ty : Rk → String
  | .lst => "list"
  | .dct => "dict"
theorem d_met (hK : C.K = X.K) (pa : PlainAttrs k.ty) (slot : Slot k.ty name id) (hty : typeOf (.builtin id) = pure (.type "method_descriptor")) (hm : MtR X id (rMt X.K f)) (ho : PE X o (TEd C m)) (ha : PA X (b :: es) (TAd C ms))
    (hbase : attributeBase o name X.env (eval o X.env) = eval o X.env)
    (hfew : ((backTo cpos (starEach (b :: es) X.env)).all (fun x => !x.1) && (backToKw cpos (keywordEach [] X.env)).all (fun x => x.1.isSome)
      && decide ((b :: es).length + ([] : List Keyword).length + (if ([] : List Keyword).isEmpty then 0 else 1) < 30)) = true)
    (hline : (apos.endLine == cpos.line) = true) (hs : starEach (b :: es) X.env = (false, eval b X.env) :: starEach es X.env) (hplain : (backTo cpos (starEach es X.env)).any (·.1) = false) :
    PE X (.Call (.Attribute o name apos) (b :: es) [] cpos) (TEd C (mMeth k f m ms)) := by
  obtain ⟨K0, cls0, W0⟩ := C
  obtain rfl : K0 = X.K := hK
  refine PE.imp (pe_met pa slot hty hm ho ha hbase hfew hline hs hplain) fun σ H Q ⟨B, φ, e, h, s, q⟩ => ?_
  refine ⟨B, φ, e, h, s, PostG.bind (f := fun v e h => match look v e h with | some p => if rkB k p then (ms e h).bind (endMeth f v) else .stuck | none => .stuck) q fun v e1 h1 φ1 H1 x _ s1 st1 r1 p1 => ?_⟩
  cases c : look v e1 h1 with
  | none => simp only [c] at p1; exact p1.elim
  | some p =>
    simp only [c] at p1
    split at p1
    · rename_i kb
      have rl := look_rl s1 r1 c
      refine ⟨?_, B, φ1, e1, h1, s1, p1.bind fun vs e2 h2 φ2 H2 xs _ s2 st2 r2 p2 => ?_⟩
      · cases k with
        | lst =>
          cases p with
          | list ds => obtain ⟨a, xs, rfl, e, _⟩ := rl; exact .inl (.inl ⟨rfl, xs, .of e⟩)
          | _ => cases kb
        | dct =>
          cases p with
          | dict kvs => obtain ⟨a, rfl, o, es, ep, kd, e, e2, _⟩ := rl; exact .inr ⟨rfl, a, o, rfl, e, e2⟩
          | _ => cases kb
      · unfold endMeth at p2
        cases c2 : look v e2 h2 with
        | none => simp only [c2] at p2; exact p2.elim
        | some p' =>
          cases c3 : pures vs with
          | none => simp only [c2, c3] at p2; exact p2.elim
          | some ps =>
            simp only [c2, c3] at p2
            cases c4 : f (p' :: ps) with
            | none => simp only [c4] at p2; exact p2.elim
            | some res =>
              simp only [c4] at p2
              refine ⟨_, p', ps, res, look_rl s2 (r1.mono st2.gr st2.phi) c2, pures_rp r2 c3, c4, fun z H' ex rz => ?_⟩
              obtain ⟨s3, st3⟩ := s2.ext ex
              exact p2 φ2 H' z s3 st3 rz
    · exact p1.elim
end
end DL
/-! DF: raise X('..'), try with clauses that return a constant. -/
namespace DL
open PySem PySem.Spec L2
variable [WorldC]

def vb : List Value := [.type "ValueError", .type "Exception", .type "BaseException", .type "object"]
/-- the module's name x is the exception class with index i -/
def ExOk (X : Cx) (cls : Nat → Value) (x : Str) (i : Nat) : Prop := ∃ a, cls i = .ref a ∧ X.mg x = some (.ref a) ∧ PySem.W.excIn X.K a vb "ValueError.__new__" = true ∧ PySem.W.keepIn X.K (.ref a) = true ∧ Raises X (.ref a)
section
variable {X : Cx} {C : Ct} {pos p p2 p3 : Pos} {x : Str} {i n : Nat} {D : Ends} {σ : St} {H : Hp} {c : Nat} {d : Option Addr}
theorem s_rais {m : Str} {j : Nat} (hc : X.calm = true) (tk : Takes X C.W) (E : ExOk X C.cls x i) (hg : Gl X x) (hdb : (x == ("__debug__" : Str)) = false) :
    PS X (.Raise (some (.Call (.Name x p) [.Constant (.str m) j p2] [] p3)) none pos) (TSd C (sRaise i)) := by
  obtain ⟨a, e, gm, q, kp, r⟩ := E
  refine s_raise (C := C) (W := C.W) hc tk ?_
  rw [e]
  exact pmk_own PySem.F.excBase_ValueError q gm kp r hg hdb
abbrev retK (r : P) : M Fl := sCons (sRet (mK r)) sNil
def hdl (C : Ct) (hs : List (Nat × P)) : List (Value × (Addr → Value → Option Addr → TS)) := hs.map fun z => (C.cls z.1, fun _ _ _ => TSd C (retK z.2))
theorem many_imp : ∀ {hs : List (Nat × P)}, (∀ z ∈ hs, PySem.W.exmOne X.K (C.cls c) (C.cls z.1) = some (decide (c = z.1))) → (∀ r, hs.lookup c = some r → TSd C (retK r) D σ H) → (hs.lookup c = none → C.W (C.cls c) d σ H) → wMany X.K C.W D (hdl C hs) (C.cls c) d σ H
  | [], _, _, no => no rfl
  | (j, r) :: hs, hx, ok, no => by
    refine ⟨decide (c = j), hx (j, r) List.mem_cons_self, fun b a _ => ok r ?_, fun b => many_imp (hs := hs) (fun z hz => hx z (List.mem_cons_of_mem _ hz)) (fun r' q => ok r' ?_) fun q => no ?_⟩
    · have e := of_decide_eq_true b
      subst e
      simp [List.lookup]
    · have e := of_decide_eq_false b
      have : (c == j) = false := by simpa using e
      simp [List.lookup, this, q]
    · have e := of_decide_eq_false b
      have : (c == j) = false := by simpa using e
      simp [List.lookup, this, q]
def tryK (n : Nat) (hs : List (Nat × P)) (c : Nat) (p : P) : M Fl := fun e h => if c < n then (match hs.lookup c with
  | some r => .ok (.ret (.d r)) e h
  | none => .ex c p e h) else .stuck
def sTry (n : Nat) (hs : List (Nat × P)) (m : M Fl) : M Fl := fun e h => match m e h with
  | .ok f e h => .ok f e h
  | .ex c p e h => tryK n hs c p e h
  | .stuck => .stuck
theorem s_try {hs : List (Nat × P)} {mb : M Fl} {body : List Stmt} {h₀ : ExceptHandler} {hds : List ExceptHandler} (hK : C.K = X.K) (hst : X.stack = X.env :: X.outer) (hf : X.env.frame = some X.env.locals) (tk : Takes X C.W)
    (hx : ∀ c, c < n → ∀ z ∈ hs, PySem.W.exmOne X.K (C.cls c) (C.cls z.1) = some (decide (c = z.1)))
    (hb : ∀ (W : WX) (pn : List (Addr × Obj)) (xe : Value → Shared → Prop), Takes (X.tr pn xe) W → PassesOwn (model X.prog X.w) X.A X.env xe → PSs (X.tr pn xe) body (TSd ⟨C.K, C.cls, W⟩ mb))
    (hh : HdsOk X (h₀ :: hds) (hdl C hs)) : PS X (.Try body (h₀ :: hds) [] [] pos) (TSd C (sTry n hs mb)) := by
  refine PS.imp (ps_try_many hst hf tk (tb := fun W => TSd ⟨C.K, C.cls, W⟩ mb) hb hh) fun D σ H ⟨B, φ, e, h, s, q⟩ => ?_
  refine ⟨B, φ, e, h, s, ?_⟩
  unfold sTry at q
  cases c : mb e h with
  | ok f e1 h1 => rw [c] at q; exact q
  | stuck => rw [c] at q; exact q.elim
  | ex k p e1 h1 =>
    rw [c] at q
    simp only at q
    unfold tryK at q
    intro φ' σ' H' d s1 t1 x1
    by_cases l : k < n
    · rw [if_pos l] at q
      refine many_imp (hx k l) (fun r lk => ?_) fun lk => ?_
      · rw [lk] at q
        exact ⟨B, φ', e1, h1, s1, PostS.shift (show PostS C B φ σ H e h (.ok (.ret (.d r)) e1 h1) D from q) t1⟩
      · rw [lk] at q
        exact q φ' σ' H' d s1 t1 x1
    · rw [if_neg l] at q
      exact q.elim
end
end DL
/-! DG: an owned object goes to the store; a loop over a list of the store. -/
namespace DL
open PySem PySem.Spec L2
variable [WorldC]

section
variable {K : Fg} {B : Addr → Prop} {φ : List Addr} {σ : St} {H : Hp} {e : Env} {h : Hh}
theorem oc_no {i : Nat} {w : Owner} {o : DO} (q : oc (e.set i .no) h w = some o) : oc e h w = some o ∧ w ≠ .loc i := by
  cases w with
  | loc j =>
    by_cases n : i = j
    · subst n; rw [oc_set_no] at q; cases q
    · rw [oc_set_ne n] at q
      exact ⟨q, fun z => n (by cases z; rfl)⟩
  | mem m => exact ⟨q, fun z => by cases z⟩
/-- a slot gives up its object -/
theorem RS.unown (s : RS K B φ σ H e h) {i : Nat} {o : DO} (q : e[i]? = some (.obj o)) :
    ∃ a, σ[i]? = some (some (.ref a)) ∧ ¬ B a ∧ RS K (fun b => B b ∨ b = a) φ σ H (e.set i .no) h ∧ RO K H (Wrt (fun b => B b ∨ b = a) σ φ (e.set i .no) h) σ φ a o ∧ ∀ b, Wrt (fun b => B b ∨ b = a) σ φ (e.set i .no) h b → Wrt B σ φ e h b := by
  have c : oc e h (.loc i) = some o := by
    show (match e[i]? with | some (.obj o) => some o | _ => none) = _
    rw [q]
  obtain ⟨a, q1, q2, q4⟩ := s.obj _ _ c
  have sg : σ[i]? = some (some (.ref a)) := by
    have q1' : (match σ[i]? with | some (some (.ref a)) => some a | _ => none) = some a := q1
    split at q1'
    · cases q1'; assumption
    · cases q1'
  have wd : ∀ b, Wrt (fun b => B b ∨ b = a) σ φ (e.set i .no) h b → Wrt B σ φ e h b := fun b z => by
    rcases z with (z | z) | ⟨w, o', z1, z2⟩
    · exact .inl z
    · rw [z]; exact .inr ⟨_, _, c, q1⟩
    · exact .inr ⟨w, o', (oc_no z1).1, z2⟩
  have g : Gr H (Wrt B σ φ e h) H (Wrt (fun b => B b ∨ b = a) σ φ (e.set i .no) h) := Gr.weak wd
  refine ⟨a, sg, q4, ⟨by simpa using s.len, s.hlen, fun b z => ?_, fun j u z => ?_, fun w o' z => ?_, fun w w' b p1 p2 p3 p4 => ?_⟩, q2.mono g List.prefix_rfl rfl, wd⟩
  · rcases z with z | z
    · exact s.bN b z
    · subst z
      obtain ⟨u, hu, _⟩ := q2.tracked
      rw [hu]; intro z; cases z
  · by_cases n : i = j
    · subst n
      have le : i < e.length := (List.getElem?_eq_some_iff.mp q).1
      rw [List.getElem?_set_self le] at z
      cases z
    · rw [List.getElem?_set_ne n] at z
      obtain ⟨y, p1, p2, p3⟩ := s.val j u z
      exact ⟨y, p1, p2.mono g List.prefix_rfl, p3⟩
  · obtain ⟨z1, z2⟩ := oc_no z
    obtain ⟨b, p1, p2, p3⟩ := s.obj _ _ z1
    refine ⟨b, p1, p2.mono g List.prefix_rfl rfl, fun y => ?_⟩
    rcases y with y | y
    · exact p3 y
    · subst y
      exact z2 (s.inj w (.loc i) b ⟨_, z1⟩ ⟨_, c⟩ p1 q1)
  · obtain ⟨o1, p1⟩ := p1
    obtain ⟨o2, p2⟩ := p2
    exact s.inj w w' b ⟨_, (oc_no p1).1⟩ ⟨_, (oc_no p2).1⟩ p3 p4
end

/-- an owned object goes to the store -/
def mFrP (i : Nat) : M DV := fun e h => match e[i]? with
  | some (.obj o) => .ok (.ob (.mem h.length)) (e.set i .no) (h ++ [o])
  | _ => .stuck
section
variable {X : Cx} {C : Ct} {pos : Pos} {i : Nat} {x : Str}
theorem d_frp (hN : X.N[i]? = some x) (hv : Vis X.env.scope x) (hd : (x == ("__debug__" : Str)) = false) (hcd : (x == ("__classdict__" : Str)) = false) : PE X (.Name x pos) (TEd C (mFrP i)) := by
  refine PE.imp (pe_var hN hv hd hcd) fun σ H Q ⟨B, φ, e, h, s, q⟩ => ?_
  unfold mFrP at q
  split at q
  · rename_i o q1
    obtain ⟨a, sg, nB, s2, ro, wd⟩ := s.unown q1
    obtain ⟨s3, oa3⟩ := s2.push nB ro
    refine ⟨_, sg, q (φ ++ [a]) H (.ref a) s3 ⟨List.prefix_append _ _, Gr.weak fun b w => wd b ?_, fun _ z => z, fun _ _ => rfl⟩ ⟨a, oa3, rfl⟩⟩
    rcases w with w | ⟨w, o', w1, w2⟩
    · exact .inl (.inl w)
    · cases w with
      | loc j => exact .inr ⟨.loc j, o', w1, w2⟩
      | mem j =>
        have w2' : (φ ++ [a])[j]? = some b := w2
        have w1' : (h ++ [o])[j]? = some o' := w1
        by_cases l : j < φ.length
        · rw [List.getElem?_append_left l] at w2'
          rw [List.getElem?_append_left (by rw [s.hlen] at l; exact l)] at w1'
          exact .inr ⟨.mem j, o', w1', w2'⟩
        · rw [List.getElem?_append_right (by omega)] at w2'
          cases c : j - φ.length with
          | zero => rw [c] at w2'; cases w2'; exact .inl (.inr rfl)
          | succ t => rw [c] at w2'; simp at w2'
  · exact q.elim
end

/-! ### a loop over a list of the store -/
open Classical in
/-- go on while the list stands -/
noncomputable def whenL (w : Owner) (all : List P) (r : M Fl) : M Fl := fun e h => if oc e h w = some (.lst all) then r e h else .stuck
noncomputable def forOGo (w : Owner) (all : List P) (f : P → M Fl) : List P → M Fl
  | [] => whenL w all fun e h => .ok .next e h
  | x :: xs => whenL w all fun e h => (f x e h).bind (whEnd (forOGo w all f xs))
noncomputable def forOE (t : Tg) (n : M Fl) (k : Nat) (o : Option DO) (e : Env) (h : Hh) : R Fl := match o with
  | some (.lst ds) => forOGo (.mem k) ds (forTurn t n) ds e h
  | _ => .stuck
noncomputable def endForO (t : Tg) (n : M Fl) (v : DV) : M Fl := fun e h => match v with
  | .ob (.mem k) => forOE t n k h[k]? e h
  | _ => .stuck
noncomputable def sForO (t : Tg) (m : M DV) (n : M Fl) : M Fl := fun e h => (m e h).bind (endForO t n)
section
variable {X : Cx} {C : Ct} {a iter : Expr} {pos : Pos} {t : Tg} {m : M DV} {n : M Fl} {body : List Stmt}
theorem whenL_on {B : Addr → Prop} {φ : List Addr} {σ : St} {H : Hp} {e : Env} {h : Hh} {D : Ends} {w : Owner} {all : List P} {r : M Fl} (q : PostS C B φ σ H e h (whenL w all r e h) D) : oc e h w = some (.lst all) ∧ PostS C B φ σ H e h (r e h) D := by
  unfold whenL at q
  split at q
  · rename_i c; exact ⟨c, q⟩
  · exact q.elim
theorem s_forO (hK : C.K = X.K) (hp : PassesOwn (model X.prog X.w) X.A X.env X.xe) (hc : X.calm = true) (hi : PE X iter (TEd C m)) (hg : PG X a (TGd C t)) (hb : PSs X body (TSd C n)) (hs : ∀ x, foldedSetIterable iter X.env x = pure x) :
    PS X (.For a iter body [] pos) (TSd C (sForO t m n)) := by
  obtain ⟨K0, cls0, W0⟩ := C
  obtain rfl : K0 = X.K := hK
  refine PS.imp (ps_for hp hc (pi_list hi) hg hb hs) fun D σ H ⟨B, φ, e, h, s, q⟩ => ?_
  refine ⟨B, φ, e, h, s, PostS.bindE (f := endForO t n) q fun v e1 h1 φ1 H1 x em s1 st1 r1 p1 => ?_⟩
  unfold endForO at p1
  split at p1
  case h_2 => exact p1.elim
  rename_i k
  unfold forOE at p1
  split at p1
  case h_2 => exact p1.elim
  rename_i ds hk
  have hk : oc e1 h1 (.mem k) = some (.lst ds) := hk
  obtain ⟨l, ol, ro, nB⟩ := s1.obj (.mem k) _ hk
  obtain ⟨xs, hx, dl, rs⟩ := ro
  obtain ⟨l', ol', rfl⟩ := r1
  rw [ol] at ol'
  cases ol'
  refine ⟨l, rfl, ⟨xs, .of hx⟩, fun i c σ2 H2 => c = ds.length - i ∧ i ≤ ds.length ∧ ∃ φ2 e2 h2, RS X.K B φ2 σ2 H2 e2 h2 ∧ Tr B (Wrt B σ φ1 e1 h1) φ1 H1 (Wrt B σ2 φ2 e2 h2) φ2 H2 ∧ PostS ⟨X.K, cls0, W0⟩ B φ2 σ2 H2 e2 h2 (forOGo (.mem k) ds (forTurn t n) (ds.drop i) e2 h2) D,
    ⟨ds.length, by simp, Nat.zero_le _, φ1, e1, h1, s1, Tr.refl, by simpa using p1⟩, ?_⟩
  rintro i c σ2 H2 ⟨rfl, hi2, φ2, e2, h2, s2, t2, q2⟩
  have at2 : oc e2 h2 (.mem k) = some (.lst ds) → ∃ ys, H2 l = some (.lst ys) ∧ RPs X.K H2 (Wrt B σ2 φ2 e2 h2) ds ys := fun z => by
    obtain ⟨l2, o2, ⟨ys, hy, _, ry⟩, _⟩ := s2.obj (.mem k) _ z
    have o3 : oa σ2 φ2 (.mem k) = some l := oa_pre (σ := σ2) t2.phi (show oa σ2 φ1 (.mem k) = some l from ol)
    rw [o2] at o3
    cases o3
    exact ⟨ys, hy, ry⟩
  by_cases lt : i < ds.length
  · have hd : ds.drop i = ds[i] :: ds.drop (i + 1) := List.drop_eq_getElem_cons lt
    rw [hd] at q2
    unfold forOGo at q2
    obtain ⟨oc2, q2⟩ := whenL_on q2
    obtain ⟨ys, hy, ry⟩ := at2 oc2
    obtain ⟨x, hx2, rx⟩ := ry.get (List.getElem?_eq_getElem lt)
    refine .inr ⟨⟨ys, x, .of hy, hx2⟩, fun σ3 H3 => ∃ c', c' < ds.length - i ∧ (c' = ds.length - (i + 1) ∧ i + 1 ≤ ds.length ∧ ∃ φ2 e2 h2, RS X.K B φ2 σ3 H3 e2 h2 ∧ Tr B (Wrt B σ φ1 e1 h1) φ1 H1 (Wrt B σ3 φ2 e2 h2) φ2 H3 ∧
      PostS ⟨X.K, cls0, W0⟩ B φ2 σ3 H3 e2 h2 (forOGo (.mem k) ds (forTurn t n) (ds.drop (i + 1)) e2 h2) D), fun _ _ z => z, fun y H3 yl => ?_⟩
    obtain ⟨rfl, yl⟩ := yl
    have e5 := yl ys (.of hy)
    rw [hx2] at e5
    cases e5
    refine ⟨B, φ2, e2, h2, ds[i], s2, rx, ?_⟩
    simp only [forTurn] at q2
    cases f2 : asgT t ds[i] e2 with
    | none => rw [f2] at q2; exact q2.elim
    | some e4 =>
      rw [f2] at q2
      intro σ4 s4 w4 o4
      have t4 : Tr B (Wrt B σ2 φ2 e2 h2) φ2 H3 (Wrt B σ4 φ2 e4 h2) φ2 H3 := ⟨List.prefix_rfl, Gr.weak w4, fun _ z => z, fun _ _ => rfl⟩
      have q4 := PostS.shift q2 t4
      have t14 := t2.trans t4
      refine ⟨B, φ2, e4, h2, s4, ?_⟩
      cases f3 : n e4 h2 with
      | ok fl e5 h5 =>
        simp only [f3, R.bind_ok] at q4
        intro φ5 σ5 H5 s5 t5
        have q5 := PostS.shift q4 t5
        cases fl with
        | next => exact ⟨_, by omega, rfl, by omega, φ5, e5, h5, s5, t14.trans t5, q5⟩
        | cont => exact ⟨_, by omega, rfl, by omega, φ5, e5, h5, s5, t14.trans t5, q5⟩
        | brk => exact q5 φ5 σ5 H5 s5 Tr.refl
        | ret v => exact fun x r k => q5 φ5 σ5 H5 s5 Tr.refl x r k
      | ex c p e5 h5 => simp only [f3, R.bind_ex] at q4; exact q4
      | stuck => simp only [f3, R.bind_stuck] at q4; exact q4
  · have ie : i = ds.length := by omega
    subst ie
    rw [List.drop_length] at q2
    unfold forOGo at q2
    obtain ⟨oc2, q2⟩ := whenL_on q2
    obtain ⟨ys, hy, ry⟩ := at2 oc2
    exact .inl ⟨⟨ys, .of hy, Nat.le_of_eq ry.length.symm⟩, q2 φ2 σ2 H2 s2 Tr.refl⟩
end
end DL
/-! DH: dict comprehensions, keys texts or tuples. -/
namespace DL
open PySem PySem.Spec L2
variable [WorldC]

section
variable {X : Cx} {pins : List (Addr × Obj)} {σ : St} {H : Hp} {s : Shared} {W : Addr → Prop} {a : Addr} {kvs : List (P × P)} {k d : P} {A : Around} {E : Value → Shared → Prop} {y v : V} {u u2 : Value}
/-- a comprehension's store -/
theorem dd_dictSet {Q : Unit → Shared → Prop} (hu : A.units + 10 < cLine) (hw : X.w = WorldC.w) (I : Inv X pins σ H s) (r : RD X.K H W a kvs) (wa : W a) (ko : keyOk kvs k = true) (rk : RP X.K H W k y) (ry : RelV y u) (rd : RP X.K H W d v) (rv : RelV v u2) (l : (dput kvs k d).length ≤ 16777216)
    (h : ∀ s' o, Mut (some (DcO a o)) → Inv X pins σ (upd H a (DcO a o)) s' → RD X.K (upd H a (DcO a o)) W a (dput kvs k d) → Q () s') : wpAny (model X.prog X.w) A (dictSet a u u2) Q E s := by
  have mu : Mut (H a) := by
    obtain ⟨o, es, ep, kd, e, _⟩ := r
    rw [e]; trivial
  have hs16 := sizeLine_eq
  have lk := rd_le r
  rcases keyOk_kind ko with ⟨x, rfl⟩ | ⟨ds, rfl⟩
  · obtain ⟨ox, lx, _⟩ := keyOk_str ko
    obtain ⟨vs, tp, dd, hd⟩ := rd_text hw I r ko
    cases rk
    have hz : vs.length ≤ sizeLine := by rw [← Paired.length tp]; omega
    refine wpAny_dictSet_pairs (hsz := hz) (kV_is (k := .inr x) ry) dd fun h' dd' hs => ?_
    obtain ⟨o, ho, rd'⟩ := text_rd (K := X.K) (W := W) (kvs := dput kvs (.str x) d) hw dd' hd l
    exact h _ o trivial (d_write I mu hs ⟨o, ho⟩ (dc_ok ho)) (rd' _ ((tps_put ox lx rd rv tp).mono (gr_upd wa)) upd_same)
  · obtain ⟨xs, np, dd, hd⟩ := rd_tup hw I r ko
    obtain ⟨⟨n, hn, h8⟩, _⟩ := keyOk_tup ko
    obtain ⟨b, rfl, rfl, hk⟩ := rl_key I rk ry hn h8
    have hz : xs.length ≤ sizeLine := by rw [← Paired.length np]; omega
    refine wpAny_dictSet_heap (hsz := hz) (show A.units + 8 < cLine by omega) hk dd fun h' dd' hs => ?_
    obtain ⟨o, ho, rd'⟩ := tup_rd (K := X.K) (W := W) (kvs := dput kvs (.tuple ds) d) hw dd' hd l
    exact h _ o trivial (d_write I mu hs ⟨o, ho⟩ (dc_ok ho)) (rd' _ ((nps_put hn h8 rk rd rv np).mono (gr_upd wa)) upd_same)
end

/-- what a store into the comprehension's dict asks -/
def StD (K : Fg) (D : Addr) (y z : V) (H : Hp) (Nx : Hp → Prop) : Prop := ∃ (Wa : Addr → Prop) (kvs : List (P × P)) (k d : P), Wa D ∧ RD K H Wa D kvs ∧ keyOk kvs k = true ∧ RP K H Wa k y ∧ RP K H Wa d z ∧ (dput kvs k d).length ≤ 16777216 ∧
  ∀ o, RD K (upd H D (DcO D o)) Wa D (dput kvs k d) → Nx (upd H D (DcO D o))
/-- one turn of it -/
def TnD (K : Fg) (D : Addr) (g : TG) (tt : TT) (tk tv : TE) (vs : List Nat) (σ : St) (x : V) (H : Hp) (Nx : Hp → Prop) : Prop := g x (wipe σ vs) H fun σ2 H2 => wipe σ2 vs = wipe σ vs ∧ tt σ2 H2 fun b H3 => if b = true then tk σ2 H3 fun y H4 => tv σ2 H4 fun z H5 => StD K D y z H5 Nx else Nx H3
def tDcx (K : Fg) (wi : TI) (g : TG) (tt : TT) (tk tv : TE) (vs : List Nat) : TE := fun σ H Q => wi σ H fun J H1 => ∀ D, H1 D = none → (D == sysModules) = false → ∃ Iv : Nat → Nat → Hp → Prop, (∃ m, Iv 0 m (upd H1 D (DcO D emptyD))) ∧ ∀ i m H2, Iv i m H2 →
  (J.stop i H2 ∧ Q (.ref D) H2) ∨ (J.go i H2 ∧ ∃ Nx : Hp → Prop, (∀ H3, Nx H3 → ∃ m', m' < m ∧ Iv (i + 1) m' H3) ∧ ∀ x H3, J.yld i H2 x H3 → TnD K D g tt tk tv vs σ x H3 Nx)
section
variable {X : Cx} {kx vx tg iter : Expr} {ifs : List Expr} {scope : Scope} {own : List (Str × Nat)} {pos q : Pos} {wi : TI} {g : TG} {tt : TT} {tk tv : TE}
/-- a judgement within the block -/
abbrev Blk (X : Cx) (scope : Scope) (J : Cx → Prop) : Prop := ∀ (s0 : Shared) (H0 : Hp) (L : Addr) (cl : List (Str × Addr)) (fp : List Addr), J (X.blk s0 H0 scope (compEnvC scope cl L X.env) fp)
theorem dcx_core {pins : List (Addr × Obj)} {s0 : Shared} {σ : St} {H0 : Hp} {Q : VK} {use : Option (Value → Sem Unit)} {Qf : Value → Shared → Prop} (hw : X.w = WorldC.w) (hu : X.A.units + 200 < cLine) (calm : X.calm = true) (nd : X.N.Nodup) (J0 : Inv X pins σ H0 s0) (hi : PI X tg iter wi) (ok : BlkOk X.N X.env.scope scope own)
    (hg : Blk X scope fun Y => PG Y tg g) (ht : Blk X scope fun Y => PTs Y ifs tt) (hk : Blk X scope fun Y => PE Y kx tk) (hv : Blk X scope fun Y => PE Y vx tv) (hs : ∀ x, foldedSetIterable iter X.env x = pure x) (goal : tDcx X.K wi g tt tk tv (own.map (·.2)) σ H0 Q)
    (fin : ∀ (D L : Addr) (s' : Shared) (m : Str → Option Value) (H' : Hp), Inv X pins σ H' s' → Q (.ref D) H' → s'.heap.Ns L m → FpOk X pins H' L → compPost (model X.prog X.w) X.A X.xe use Qf (.ref D) L (.ok .next) s') :
    wpAny (model X.prog X.w) X.A (comprehension (.DictComp kx vx [⟨tg, iter, ifs, 0⟩] scope pos) scope X.env q newDict false (eval iter X.env) use) Qf X.xe s0 := by
  have frees : ∀ n ∈ scope.names, n.2 = .free → ∃ c, X.env.cells.lookup n.1 = some c := fun n hn e => (ok.free n hn e).elim (fun z => J0.ok.has _ (.inl z)) fun z => J0.ok.has _ (.inr z)
  refine wpAny_comprehension_free (use := use) rfl hs (closure_ok frees) ok.kind (fun n hn e => by rw [ok.uniq n hn, e]) (thn (hi.run pins s0 σ H0 _ J0 goal) fun v1 s1 g1 => thn g1 fun v2 s2 g2 => ?_)
  obtain ⟨it, fp, tn, J, H1, rfl, J1, T, at0, fp0, goal⟩ := g2
  refine wpAny_newObj_type (newEnv_comp ?_)
  obtain ⟨D, eD⟩ : ∃ D, s2.heap.objs.size = D := ⟨_, rfl⟩
  rw [eD]
  have nD : H1 D = none := J1.hok.fresh (Nat.le_of_eq eD)
  have smD : (D == sysModules) = false := by rw [← eD]; exact beq_eq_false_iff_ne.mpr (Ne.symm (Nat.ne_of_lt J1.big))
  obtain ⟨Iv, ⟨m0, iv0⟩, turn⟩ := goal D nD smD
  -- the dict is laid
  generalize es3 : ({ s2 with heap := s2.heap.push { cls := .type "dict", data := .dict #[] } } : Shared) = s3
  have hp3 : s3.heap = s2.heap.push emptyD := by rw [← es3]; rfl
  have J3 : Inv X pins σ (upd H1 D (DcO D emptyD)) s3 := by
    rw [← es3]
    refine J1.laid (t' := s2.toks) (fun b o z => Heap.get?_push_of_some _ z) (Nat.le_of_eq eD) (dc_ok ?_)
    rw [← eD]
    exact Heap.get?_push_size _ rfl
  have lt3 : ∀ b ∈ fp, b < s2.heap.objs.size := fun b hb => let ⟨o, z, _⟩ := T.obj _ _ at0 b hb; Heap.lt_size z
  have fp3 : ∀ b ∈ fp, FpOk X pins (upd H1 D (DcO D emptyD)) b ∧ b < s3.heap.objs.size := fun b hb => by
    have l := lt3 b hb
    have ne : b ≠ D := fun z => by rw [z, ← eD] at l; exact Nat.lt_irrefl _ l
    exact ⟨⟨by rw [upd_ne ne]; exact (fp0 b hb).1, (fp0 b hb).2⟩, by rw [hp3, Heap.size_push]; exact Nat.lt_succ_of_lt l⟩
  have at3 : tn 0 s3.heap := T.keep _ _ _ at0 fun b _ o z => by rw [hp3]; exact Heap.get?_push_of_some _ z
  have J4 := block_start J3 ok nd fp3
  -- the block's judgements
  have g4 := hg s3 (upd H1 D (DcO D emptyD)) s3.heap.objs.size (cellsFrom (s3.heap.objs.size + 1) scope.names (cloFrom X.env.cells scope.names [])) fp
  have t4 := ht s3 (upd H1 D (DcO D emptyD)) s3.heap.objs.size (cellsFrom (s3.heap.objs.size + 1) scope.names (cloFrom X.env.cells scope.names [])) fp
  have k4 := hk s3 (upd H1 D (DcO D emptyD)) s3.heap.objs.size (cellsFrom (s3.heap.objs.size + 1) scope.names (cloFrom X.env.cells scope.names [])) fp
  have v4 := hv s3 (upd H1 D (DcO D emptyD)) s3.heap.objs.size (cellsFrom (s3.heap.objs.size + 1) scope.names (cloFrom X.env.cells scope.names [])) fp
  have none4 : ∀ b ∈ fp, (upd H1 D (DcO D emptyD)) b = none := fun b hb => (fp3 b hb).1.1
  have eL : (compEnvC scope (cellsFrom (s3.heap.objs.size + 1) scope.names (cloFrom X.env.cells scope.names [])) s3.heap.objs.size X.env).locals = s3.heap.objs.size := rfl
  show codeAny _ _ (.compStart (.DictComp kx vx [⟨tg, iter, ifs, 0⟩] scope pos) 0 (.ref it) (.ref D) (compEnvC scope (cellsFrom (s3.heap.objs.size + 1) scope.names (cloFrom X.env.cells scope.names [])) s3.heap.objs.size X.env)) (compPost (model X.prog X.w) X.A X.xe use Qf (.ref D) s3.heap.objs.size) _
  revert J4 g4 t4 k4 v4 eL
  generalize compEnvC scope (cellsFrom (s3.heap.objs.size + 1) scope.names (cloFrom X.env.cells scope.names [])) s3.heap.objs.size X.env = ce
  intro J4 g4 t4 k4 v4 eL
  revert J3 J4 g4 t4 k4 v4 iv0 none4 fp3
  generalize upd H1 D (DcO D emptyD) = H3
  intro iv0 J3 fp3 none4 J4 g4 t4 k4 v4
  generalize es4 : ({ s3 with heap := pushCells (s3.heap.push { cls := .type "dict", data := .dict #[] }) scope.names } : Shared) = s4 at J4 ⊢
  have start := es4.symm
  have at4 : tn 0 s4.heap := T.keep _ _ _ at3 fun b _ o z => by rw [start]; exact pushCells_keeps _ _ _ _ (Heap.get?_push_of_some _ z)
  have okfp : ∀ {σ' : St} {H' : Hp} {s' : Shared}, Inv (X.blk s3 H3 scope ce fp) [] σ' H' s' → (∀ b ∈ fp, H' b = none) → ∀ b ∈ fp, FpOk (X.blk s3 H3 scope ce fp) [] H' b := fun {σ' H' s'} J' nn b hb =>
    ⟨nn b hb, (J'.ok.exf b hb).1, J'.ok.exfs b hb, .inl hb, fun n c z => (J'.ok.exf b hb).2 n c z, fun p hp => absurd (show p ∈ ([] : List (Addr × Obj)) ++ [] from hp) (by simp)⟩
  have pinned : ∀ {H' : Hp} {σ' : St} {s' s'' : Shared} {i : Nat}, tn i s''.heap → Inv (X.blk s3 H3 scope ce fp) ([] ++ pinsAt fp s''.heap) σ' H' s' → ∀ b ∈ fp, ∀ o, s''.heap.get? b = some o → s'.heap.get? b = some o ∧ H' b = none := fun {H' σ' s' s'' i} _ J' b hb o z =>
    let w := J'.pin (b, o) (List.mem_append_right _ (List.mem_append_right _ (mem_pinsAt hb z)))
    ⟨w.1, w.2.1⟩
  have loop : codeAny (model X.prog X.w) X.A (.compLoop (.DictComp kx vx [⟨tg, iter, ifs, 0⟩] scope pos) 0 (.ref it) (.ref D) ce) (compPost (model X.prog X.w) X.A X.xe use Qf (.ref D) s3.heap.objs.size) s4 := by
    refine compLoop_anyD (fun n s' => ∃ i H', Inv (X.blk s3 H3 scope ce fp) [] (wipe σ (own.map (·.2))) H' s' ∧ tn i s'.heap ∧ (∀ b ∈ fp, H' b = none) ∧ Iv i n H') ?_ m0 ⟨0, H3, J4, at4, none4, iv0⟩
    rintro n s5 ⟨i, H5, J5, at5, none5, iv5⟩
    rcases turn i n H5 iv5 with ⟨stop, done⟩ | ⟨go, Nx, next, step⟩
    · refine thnF (T.done (X.blk s3 H3 scope ce fp) rfl rfl rfl calm i [] s5 _ H5 (fun _ _ => False) J5 (okfp J5 none5) at5 stop) fun r s6 ⟨er, J6⟩ => ?_
      subst er
      have J7 : Inv X pins σ H5 s6 := J3.call' (ch := fp) J6.os J6.base J6.hok J6.bare fun b hb => let z := (fp3 b hb).1.2; ⟨z.2.2.1, z.1, z.2.2.2.1, z.2.2.2.2⟩
      have free6 : H5 s3.heap.objs.size = none := eL ▸ (show H5 ce.locals = none from J6.free)
      obtain ⟨mp, ns, _⟩ := J6.loc
      have ns6 : s6.heap.Ns s3.heap.objs.size mp := eL ▸ (show s6.heap.Ns ce.locals mp from ns)
      exact fin D s3.heap.objs.size s6 mp H5 J7 done ns6 (J3.fpOk (Nat.le_refl _) free6)
    · refine thnF (T.item (X.blk s3 H3 scope ce fp) rfl rfl rfl calm i [] s5 _ H5 (fun _ _ => False) J5 (okfp J5 none5) at5 go) fun r s6 ⟨u, er, g6⟩ => ?_
      subst er
      refine thnF g6 fun _ s7 ⟨x, H7, J7, ru, yl, at7, none7⟩ => ?_
      have J7' := J7.pinned (okfp J7 none7) (T.obj _ _ at7)
      refine thnF (g4.run _ s7 _ H7 x u _ J7' ru (step x H7 yl)) fun _ s8 ⟨σ8, H8, J8, w8, q8⟩ => ?_
      refine thnF (t4.run _ s8 σ8 H8 _ J8 q8) fun b s9 ⟨H9, J9, q9⟩ => ?_
      have back : ∀ {s' : Shared} {H' : Hp}, Inv (X.blk s3 H3 scope ce fp) ([] ++ pinsAt fp s7.heap) σ8 H' s' → Nx H' → ∃ m, m < n ∧ ∃ i H', Inv (X.blk s3 H3 scope ce fp) [] (wipe σ (own.map (·.2))) H' s' ∧ tn i s'.heap ∧ (∀ b ∈ fp, H' b = none) ∧ Iv i m H' := fun {s' H'} J' nx => by
        obtain ⟨m', lt, iv'⟩ := next H' nx
        have len8 : (wipe σ (own.map (·.2))).length = σ8.length := by rw [← w8, wipe_length]
        refine ⟨m', lt, i + 1, H', (J'.unpinned (pins := [])).weak len8 (fun j v z => (wipe_some (w8.symm ▸ z)).1), T.keep _ _ _ at7 fun b hb o z => (pinned at7 J' b hb o z).1, fun b hb => ?_, iv'⟩
        obtain ⟨o, z, _⟩ := T.obj _ _ at7 b hb
        exact (pinned at7 J' b hb o z).2
      cases b with
      | false => exact back J9 q9
      | true =>
        refine thnF (k4.run _ s9 σ8 H9 _ J9 q9) fun u1 s10 ⟨y1, H10, J10, r10, q10⟩ => ?_
        refine thnF (v4.run _ s10 σ8 H10 _ J10 q10) fun u2 s11 ⟨y2, H11, J11, r11, Wa, kvs, k, d, wa, rd, ko, rk, rv, ln, nx⟩ => ?_
        exact dd_dictSet (X := X.blk s3 H3 scope ce fp) (by show X.A.units + 10 < cLine; omega) hw J11 rd wa ko (rk.mono Gr.refl) r10 rv r11 ln fun s12 o _ J12 rd2 => back J12 (nx o rd2)
  exact codeAny_compStart_dict loop (T.self X.A 0 _ _ _ at4 loop)
theorem pe_dcx (hw : X.w = WorldC.w) (hu : X.A.units + 200 < cLine) (calm : X.calm = true) (nd : X.N.Nodup) (hi : PI X tg iter wi) (ok : BlkOk X.N X.env.scope scope own) (hg : Blk X scope fun Y => PG Y tg g) (ht : Blk X scope fun Y => PTs Y ifs tt) (hk : Blk X scope fun Y => PE Y kx tk) (hv : Blk X scope fun Y => PE Y vx tv)
    (hs : ∀ x, foldedSetIterable iter X.env x = pure x) : PE X (.DictComp kx vx [⟨tg, iter, ifs, 0⟩] scope pos) (tDcx X.K wi g tt tk tv (own.map (·.2))) := by
  refine ⟨fun pins s0 σ H0 Q J0 goal => ?_⟩
  rw [arm_eval_DictComp]
  refine dcx_core hw hu calm nd J0 hi ok hg ht hk hv hs goal fun D L s6 mp H5 J7 done ns6 fo => ⟨mp, ns6, fun h'' sb => ?_⟩
  obtain ⟨f0, f1, f2, f3, f4, f5⟩ := fo
  exact ⟨.ref D, H5, J7.turned (t' := s6.toks) (fun b o hb z => (sb.2 b hb).trans z) f0 f1 f3 f4 f5, rfl, done⟩
/-- {..} on one line, into a local -/
theorem ps_setDc {i : Nat} {y : Str} {py spos : Pos} (hw : X.w = WorldC.w) (hu : X.A.units + 200 < cLine) (calm : X.calm = true) (nd : X.N.Nodup) (hy : X.N[i]? = some y) (hyl : X.env.scope.names.lookup y = some .local)
    (hsw : swapsWith (.DictComp kx vx [⟨tg, iter, ifs, 0⟩] scope pos) (some (.Name y py)) spos.line X.env = pure true) (hi : PI X tg iter wi) (ok : BlkOk X.N X.env.scope scope own) (hg : Blk X scope fun Y => PG Y tg g) (ht : Blk X scope fun Y => PTs Y ifs tt)
    (hk : Blk X scope fun Y => PE Y kx tk) (hv : Blk X scope fun Y => PE Y vx tv) (hs : ∀ x, foldedSetIterable iter X.env x = pure x) :
    PS X (.Assign [.Name y py] (.DictComp kx vx [⟨tg, iter, ifs, 0⟩] scope pos) spos) (tAsg (tDcx X.K wi g tt tk tv (own.map (·.2))) (gName i)) := by
  refine ⟨fun pins s0 σ H0 En J0 goal => ?_⟩
  rw [exec_Assign_Name_used _ _ _ _ hsw]
  refine wpAny_bind (wpAny_standAt (wpAny_bind ?_))
  have goal : tDcx X.K wi g tt tk tv (own.map (·.2)) σ H0 (fun x H1 => gName i x σ H1 En.nx) := goal
  show wpAny _ X.A (do let _ ← comprehension (.DictComp kx vx [⟨tg, iter, ifs, 0⟩] scope pos) scope X.env (firstIterPos [⟨tg, iter, ifs, 0⟩] pos) newDict false (eval iter X.env) (some (assign (.Name y py) X.env))) _ _ _
  refine wpAny_bind (thn (dcx_core (Qf := fun _ s' => SP X pins En .next s') hw hu calm nd J0 hi ok hg ht hk hv hs goal fun D L s6 mp H5 J7 done ns6 fo => ?_) fun _ s' fine => wpAny_pure (wpAny_pure fine))
  show wpAny _ _ (assign (.Name y py) X.env (.ref D)) _ _ _
  obtain ⟨f0, f1, f2, f3, f4, f5⟩ := fo
  refine wpAny_assign_Name (store_ok2 (v := V.ref D) J7 nd hy (.inl hyl) rfl (fun s2 J2 ⟨a, sb, ha⟩ => ?_) (.inr hyl))
  have ne : L ≠ a := ha.elim (fun z => z ▸ f1) fun z w => f4 y a z w.symm
  exact ⟨mp, ns6.sameBut sb ne, fun h3 sb3 => ⟨_, H5, J2.turned (t' := s2.toks) (fun b o hb z => (sb3.2 b hb).trans z) f0 f1 f3 f4 f5, done⟩⟩
theorem sw_dc {py : Pos} {y : Str} {l : Nat} {env : PySem.Env} {gs : List Comprehension} (fk : env.scope.kind = .function) (hy : env.scope.names.lookup y = some .local) (hl : (py.line == pos.line) = true) (ha : (scope.names.any fun (n, k) => n == y && (k == .local || k == .cell)) = false) :
    swapsWith (.DictComp kx vx gs scope pos) (some (.Name y py)) l env = pure true := by
  have e1 : env.kindOf y = some .local := hy
  have e2 : env.blockKind = .function := by unfold PySem.Env.blockKind; rw [fk]; rfl
  unfold swapsWith
  simp only [e1, e2, ha, Expr.pos, hl]
  rfl
end
end DL
/-! DI: dict comprehensions over plain data. -/
namespace DL
open PySem PySem.Spec L2
variable [WorldC]

open Classical in
/-- no entry or one -/
noncomputable def put1 (acc : List (P × P)) : List (P × P) → Option (List (P × P))
  | [] => some acc
  | [z] => if keyOk acc z.1 = true ∧ (dput acc z.1 z.2).length ≤ 16777216 then some (dput acc z.1 z.2) else none
  | _ => none
noncomputable def dcGo (own : List Nat) (f : P → M (List (P × P))) : List P → List (P × P) → M (List (P × P))
  | [], acc => fun e h => .ok acc e h
  | x :: xs, acc => fun e h => match f x e h with
    | .ok r e' h' => match put1 acc r with
      | some acc' => dcGo own f xs acc' (wipeE e' own) h'
      | none => .stuck
    | _ => .stuck
def endKV (k v : DV) : M (List (P × P)) := fun e h => match k, v with
  | .d p, .d q => .ok [(p, q)] e h
  | _, _ => .stuck
def mEd (t : Tg) (c : M Bool) (mk mv : M DV) : P → M (List (P × P)) := fun x e h => match asgT t x e with
  | some e1 => (c e1 h).bind fun b e h => if b then (mk e h).bind fun k e h => (mv e h).bind (endKV k) else .ok [] e h
  | none => .stuck
noncomputable def endDc (own : List Nat) (f : P → M (List (P × P))) (ds : List P) : M DV := fun e h => match dcGo own f ds [] (wipeE e own) h with
  | .ok kvs e' h' => .ok (.d (.dict kvs)) (restE e e' own) h'
  | _ => .stuck
noncomputable def mDc (own : List Nat) (mi : M (List P)) (f : P → M (List (P × P))) : M DV := fun e h => (mi e h).bind (endDc own f)

section
variable {X : Cx} {C : Ct} {kx vx tg iter : Expr} {ifs : List Expr} {scope : Scope} {own : List (Str × Nat)} {pos : Pos} {t : Tg} {mi : M (List P)} {mc : M Bool} {mk mv : M DV}
theorem rd_new {K : Fg} {W : Addr → Prop} {H : Hp} {D : Addr} (sm : (D == sysModules) = false) : RD K (upd H D (DcO D emptyD)) W D [] :=
  ⟨emptyD, #[], 0, false, upd_same, ⟨rfl, rfl, rfl⟩, rfl, sm, by simp, by simp, .nil⟩
theorem dc_imp {vs : List Nat} (nd : vs.Nodup) (sub : ∀ j ∈ t.slots, j ∈ vs) {σ : St} {H : Hp} {Q : VK} (q : TEf C (mDc vs mi (mEd t mc mk mv)) σ H Q) : tDcx C.K (TId C mi) (TGd C.quiet t) (TTd C.quiet mc) (TEd C.quiet mk) (TEd C.quiet mv) vs σ H Q := by
  obtain ⟨B, φ, e, h, s, q⟩ := q
  refine ⟨B, φ, e, h, s, PostF.bind (f := endDc vs (mEd t mc mk mv)) q fun ds e1 h1 φ1 H1 J _ s1 st1 ik p1 => ?_⟩
  unfold endDc at p1
  cases go : dcGo vs (mEd t mc mk mv) ds [] (wipeE e1 vs) h1 with
  | ex c p e' h' => rw [go] at p1; exact p1.elim
  | stuck => rw [go] at p1; exact p1.elim
  | ok kvs e' h' =>
    rw [go] at p1
    intro D nD smD
    have nB : ¬ B D := fun z => s1.bN D z nD
    have sD := (s1.grow (a := D) (upd_ext (o := DcO D emptyD) nD) nD (by rw [upd_same]; intro z; cases z)).wipe vs
    have t0 : Tr B (Wrt B σ φ1 e1 h1) φ1 H1 (Wrt (fun b => B b ∨ b = D) (L2.wipe σ vs) φ1 (wipeE e1 vs) h1) φ1 (upd H1 D (DcO D emptyD)) := by
      refine ⟨List.prefix_rfl, fun a u z k => ⟨upd_ext nD a u z, fun w => ?_⟩, fun a z => ?_, fun a z => upd_ne fun w => nB (by rw [← w]; exact z)⟩
      · rcases sD.2 a w with (w | w) | w
        · exact k (.inl w)
        · rw [w, nD] at z; cases z
        · exact k (.inr w)
      · cases y : H1 a with
        | none => exact absurd y z
        | some u => rw [upd_ext nD a u y]; intro z; cases z
    refine ⟨fun i n H2 => n = ds.length - i ∧ i ≤ ds.length ∧ ∃ φ2 e2 h2 acc, RS C.K (fun b => B b ∨ b = D) φ2 (L2.wipe σ vs) H2 e2 h2 ∧ Tr B (Wrt B σ φ1 e1 h1) φ1 H1 (Wrt (fun b => B b ∨ b = D) (L2.wipe σ vs) φ2 e2 h2) φ2 H2 ∧
      RD C.K H2 (Wrt (fun b => B b ∨ b = D) (L2.wipe σ vs) φ2 e2 h2) D acc ∧ dcGo vs (mEd t mc mk mv) (ds.drop i) acc e2 h2 = .ok kvs e' h', ⟨ds.length, by simp, Nat.zero_le _, φ1, _, h1, [], sD.1, t0, rd_new smD, by simpa using go⟩, ?_⟩
    rintro i n H2 ⟨rfl, hi2, φ2, e2, h2, acc, s2, t2, rd, g2⟩
    obtain ⟨dl, k1, k2⟩ := ik H2 _ t2.gr s2.wN
    by_cases lt : i < ds.length
    · obtain ⟨go1, yl⟩ := k1 i ds[i] (List.getElem?_eq_getElem lt)
      rw [List.drop_eq_getElem_cons lt] at g2
      simp only [dcGo] at g2
      cases f1 : mEd t mc mk mv ds[i] e2 h2 with
      | ex c p e3 h3 => rw [f1] at g2; cases g2
      | stuck => rw [f1] at g2; cases g2
      | ok r e3 h3 =>
        rw [f1] at g2
        simp only at g2
        cases pt : put1 acc r with
        | none => rw [pt] at g2; cases g2
        | some acc2 =>
          rw [pt] at g2
          simp only at g2
          refine .inr ⟨go1, fun H3 => ∃ n', n' < ds.length - i ∧ (n' = ds.length - (i + 1) ∧ i + 1 ≤ ds.length ∧ ∃ φ2 e2 h2 acc, RS C.K (fun b => B b ∨ b = D) φ2 (L2.wipe σ vs) H3 e2 h2 ∧ Tr B (Wrt B σ φ1 e1 h1) φ1 H1 (Wrt (fun b => B b ∨ b = D) (L2.wipe σ vs) φ2 e2 h2) φ2 H3 ∧
            RD C.K H3 (Wrt (fun b => B b ∨ b = D) (L2.wipe σ vs) φ2 e2 h2) D acc ∧ dcGo vs (mEd t mc mk mv) (ds.drop (i + 1)) acc e2 h2 = .ok kvs e' h'), fun H3 z => z, fun y H3 hy => ?_⟩
          obtain ⟨ex3, ry⟩ := yl y H3 hy
          obtain ⟨s3, st3⟩ := s2.ext ex3
          refine ⟨_, φ2, e2, h2, _, s3, ry, ?_⟩
          unfold mEd at f1
          cases f2 : asgT t ds[i] e2 with
          | none => rw [f2] at f1; cases f1
          | some e4 =>
            rw [f2] at f1
            simp only at f1
            intro σ4 s4 w4 o4
            have wσ : L2.wipe σ4 vs = L2.wipe σ vs := (wipe_only (o4.mono sub)).trans (wipe_only wipe_only2)
            refine ⟨wσ, _, φ2, e4, h2, s4, ?_⟩
            have tr4 : Tr B (Wrt B σ φ1 e1 h1) φ1 H1 (Wrt (fun b => B b ∨ b = D) σ4 φ2 e4 h2) φ2 H3 := t2.trans ⟨List.prefix_rfl, (st3.gr).trans (Gr.weak w4), st3.tr, fun a z => st3.bk a (.inl z)⟩
            have rd3 : RD C.K H3 (Wrt (fun b => B b ∨ b = D) σ4 φ2 e4 h2) D acc := rd.mono' (st3.gr.trans (Gr.weak w4)) (st3.bk D (.inr rfl))
            refine PostG.bind (C := C.quiet) (Rel2 := fun _ _ _ (r : List (P × P)) (z : List (P × P)) => r = z) (Q := fun _ _ => True) (f := fun b e h => if b then (mk e h).bind fun k e h => (mv e h).bind (endKV k) else .ok [] e h) ?_ ?_
            · rw [f1]; exact fun _ _ _ _ _ _ => trivial
            · intro b e5 h5 φ5 H5 b' em5 s5 st5 rb _
              subst rb
              rw [em5] at f1
              simp only [R.bind_ok] at f1
              have tr5 := tr4.trans ⟨st5.phi, st5.gr, st5.tr, fun a z => st5.bk a (.inl z)⟩
              have rd5 := rd3.mono' st5.gr (st5.bk D (.inr rfl))
              cases b with
              | false =>
                simp only [Bool.false_eq_true, if_false] at f1
                cases f1
                cases pt
                obtain ⟨s6, w6⟩ := s5.wipe vs
                rw [wσ] at s6 w6
                exact ⟨_, by omega, rfl, by omega, φ5, _, _, acc, s6, tr5.trans ⟨List.prefix_rfl, Gr.weak w6, fun _ z => z, fun _ _ => rfl⟩, rd5.mono' (Gr.weak w6) rfl, g2⟩
              | true =>
                simp only [if_true] at f1 ⊢
                refine ⟨_, φ5, e5, h5, s5, PostG.bind (C := C.quiet) (Rel2 := fun _ _ _ (r : List (P × P)) (z : List (P × P)) => r = z) (Q := fun _ _ => True) (f := fun k e h => (mv e h).bind (endKV k)) ?_ ?_⟩
                · rw [f1]; exact fun _ _ _ _ _ _ => trivial
                · intro vk e6 h6 φ6 H6 y6 em6 s6 st6 rk _
                  rw [em6] at f1
                  simp only [R.bind_ok] at f1
                  have tr6 := tr5.trans ⟨st6.phi, st6.gr, st6.tr, fun a z => st6.bk a (.inl z)⟩
                  have rd6 := rd5.mono' st6.gr (st6.bk D (.inr rfl))
                  refine ⟨_, φ6, e6, h6, s6, PostG.bind (C := C.quiet) (Rel2 := fun _ _ _ (r : List (P × P)) (z : List (P × P)) => r = z) (Q := fun _ _ => True) (f := endKV vk) ?_ ?_⟩
                  · rw [f1]; exact fun _ _ _ _ _ _ => trivial
                  · intro vv e7 h7 φ7 H7 y7 em7 s7 st7 rv _
                    rw [em7] at f1
                    have tr7 := tr6.trans ⟨st7.phi, st7.gr, st7.tr, fun a z => st7.bk a (.inl z)⟩
                    have rd7 := rd6.mono' st7.gr (st7.bk D (.inr rfl))
                    cases vk with
                    | ob w => cases f1
                    | scr ns => cases f1
                    | d k =>
                      cases vv with
                      | ob w => cases f1
                      | scr ns => cases f1
                      | d v =>
                        cases f1
                        simp only [put1] at pt
                        split at pt
                        · rename_i ok
                          cases pt
                          have rk7 : RP C.K H7 (Wrt (fun b => B b ∨ b = D) σ4 φ7 e3 h3) k y6 := RP.mono st7.gr rk
                          refine ⟨_, acc, k, v, .inl (.inr rfl), rd7, ok.1, rk7, rv, ok.2, fun o rd8 => ?_⟩
                          obtain ⟨s8, g8⟩ := s7.updB (D := D) (u := DcO D o) (.inr rfl)
                          obtain ⟨s9, w9⟩ := s8.wipe vs
                          rw [wσ] at s9 w9
                          refine ⟨_, by omega, rfl, by omega, φ7, _, _, dput acc k v, s9, tr7.trans ⟨List.prefix_rfl, g8.trans (Gr.weak w9), fun a z => ?_, fun a z => upd_ne fun n => nB (by rw [← n]; exact z)⟩, rd8.mono' (Gr.weak w9) rfl, g2⟩
                          by_cases n : a = D
                          · rw [n, upd_same]; intro z; cases z
                          · rw [upd_ne n]; exact z
                        · cases pt
    · have ie : i = ds.length := by omega
      subst ie
      refine .inl ⟨k2 _ (Nat.le_refl _), ?_⟩
      rw [List.drop_length] at g2
      cases g2
      obtain ⟨r1, r2⟩ := s1.rest (fun b => B b ∨ b = D) vs e' nd s2 t2.gr t2.phi
      have r3 : RS C.K B φ2 σ H2 (restE e1 e' vs) h' := r1.weakB fun a z => .inl z
      have gg : Gr H1 (Wrt B σ φ1 e1 h1) H2 (Wrt B σ φ2 (restE e1 e' vs) h') := t2.gr.trans (Gr.weak fun a z => r2 a (Wrt.weak (fun b y => .inl y) a z))
      exact p1 φ2 H2 (.ref D) r3 ⟨t2.phi, gg, t2.tr, t2.bk⟩ ⟨D, rfl, st1.back D nD, nB, r1, rd.mono' (Gr.weak r2) rfl⟩
theorem d_dc (hK : C.K = X.K) (hw : X.w = WorldC.w) (hu : X.A.units + 200 < cLine) (hc : X.calm = true) (hN : X.N.Nodup) (hi : PI X tg iter (TId C mi)) (ok : BlkOk X.N X.env.scope scope own) (nd : (own.map (·.2)).Nodup) (sub : ∀ j ∈ t.slots, j ∈ own.map (·.2))
    (hg : Blk X scope fun Y => PG Y tg (TGd C.quiet t)) (ht : Blk X scope fun Y => PTs Y ifs (TTd C.quiet mc)) (hk : Blk X scope fun Y => PE Y kx (TEd C.quiet mk)) (hv : Blk X scope fun Y => PE Y vx (TEd C.quiet mv)) (hs : ∀ x, foldedSetIterable iter X.env x = pure x) :
    PE X (.DictComp kx vx [⟨tg, iter, ifs, 0⟩] scope pos) (TEf C (mDc (own.map (·.2)) mi (mEd t mc mk mv))) := by
  obtain ⟨K0, cls0, W0⟩ := C
  obtain rfl : K0 = X.K := hK
  exact PE.imp (pe_dcx hw hu hc hN hi ok hg ht hk hv hs) fun σ H Q q => dc_imp nd sub q
theorem s_asgDc {i : Nat} {y : Str} {py spos : Pos} (hK : C.K = X.K) (hw : X.w = WorldC.w) (hu : X.A.units + 200 < cLine) (hc : X.calm = true) (hN : X.N.Nodup) (hy : X.N[i]? = some y) (hyl : X.env.scope.names.lookup y = some .local)
    (hsw : swapsWith (.DictComp kx vx [⟨tg, iter, ifs, 0⟩] scope pos) (some (.Name y py)) spos.line X.env = pure true) (hi : PI X tg iter (TId C mi)) (ok : BlkOk X.N X.env.scope scope own) (nd : (own.map (·.2)).Nodup) (sub : ∀ j ∈ t.slots, j ∈ own.map (·.2))
    (hg : Blk X scope fun Y => PG Y tg (TGd C.quiet t)) (ht : Blk X scope fun Y => PTs Y ifs (TTd C.quiet mc)) (hk : Blk X scope fun Y => PE Y kx (TEd C.quiet mk)) (hv : Blk X scope fun Y => PE Y vx (TEd C.quiet mv)) (hs : ∀ x, foldedSetIterable iter X.env x = pure x) (o : Bool) :
    PS X (.Assign [.Name y py] (.DictComp kx vx [⟨tg, iter, ifs, 0⟩] scope pos) spos) (TSd C (if o then sOwn i (mDc (own.map (·.2)) mi (mEd t mc mk mv)) else sAsg i (mDc (own.map (·.2)) mi (mEd t mc mk mv)))) := by
  obtain ⟨K0, cls0, W0⟩ := C
  obtain rfl : K0 = X.K := hK
  refine PS.imp (ps_setDc hw hu hc hN hy hyl hsw hi ok hg ht hk hv hs) fun D σ H q => ?_
  cases o with
  | true => exact dc_imp nd sub (own_imp q)
  | false => exact dc_imp nd sub (asg_imp q).of_f
end
end DL
/-! D19: the translator's tables, what a context must bear. -/
namespace DL
open PySem PySem.Spec L2
variable [WorldC]

structure Tab where
  N : List Str
  cst : List (Str × P)
  fns : List (Str × Nat × Fn)
  scr : List Str
  blt : List Str
  exc : List Str

def ixOf : List Str → Str → Option Nat
  | [], _ => none
  | y :: ys, x => if y == x then some 0 else (ixOf ys x).map (· + 1)
theorem ixOf_get : ∀ {N : List Str} {x : Str} {i : Nat}, ixOf N x = some i → N[i]? = some x
  | [], _, _, h => by cases h
  | y :: ys, x, i, h => by
    unfold ixOf at h
    split at h
    · rename_i e
      cases h
      have := eq_of_beq e
      subst this
      rfl
    · cases c : ixOf ys x with
      | none => rw [c] at h; cases h
      | some j =>
        rw [c] at h
        cases h
        simpa using ixOf_get c
def okName (x : Str) : Bool := !(x == ("__debug__" : Str)) && !(x == ("__classdict__" : Str)) && !(x == ("__name__" : Str))
theorem okName_of {x : Str} (h : okName x = true) : (x == ("__debug__" : Str)) = false ∧ (x == ("__classdict__" : Str)) = false ∧ x ≠ "__name__" := by
  unfold okName at h
  simp only [Bool.and_eq_true, Bool.not_eq_true'] at h
  exact ⟨h.1.1, h.1.2, fun e => by rw [e] at h; simp at h⟩
def isVis (sc : Scope) (x : Str) : Bool := match sc.names.lookup x with
  | some .local => true
  | some .cell => true
  | some .free => true
  | _ => false
theorem isVis_of {sc : Scope} {x : Str} (h : isVis sc x = true) : Vis sc x := by
  unfold isVis at h
  unfold Vis
  split at h <;> simp_all
def isLoc (sc : Scope) (x : Str) : Bool := match sc.names.lookup x with
  | some .local => true
  | some .cell => true
  | _ => false
def isGl (sc : Scope) (x : Str) : Bool := match sc.names.lookup x with
  | some .globalImplicit => true
  | _ => false
theorem isGl_of {sc : Scope} {x : Str} (h : isGl sc x = true) : sc.names.lookup x = some .globalImplicit := by
  unfold isGl at h
  split at h <;> simp_all

/-- what a context must bear -/
structure Cok (T : Tab) (X : Cx) (C : Ct) (sc : Scope) : Prop where
  K : C.K = X.K
  N : X.N = T.N
  nd : T.N.Nodup
  sc : X.env.scope = sc
  calm : X.calm = true
  u : X.A.units + 200 < cLine
  cst : ∀ x p, T.cst.lookup x = some p → ∃ v u, X.mg x = some u ∧ RelV v u ∧ ∀ H W, RP X.K H W p v
  fns : ∀ x k F, T.fns.lookup x = some (k, F) → ∃ kk f fd ps, FnOk X.prog X.w X.K X.mg X.base (L2.CX X.prog X.w) kk f fd ps (spD C.K C.cls k F) ∧ Room kk X.A ∧ X.mg x = some (.ref f) ∧ PySem.W.keepIn X.K (.ref f) = true ∧ Binds X.K fd ps []
  blt : ∀ x ∈ T.blt, X.mg x = none
  tk : Takes X C.W
  w : X.w = WorldC.w
  exc : ∀ x i, ixOf T.exc x = some i → ExOk X C.cls x i
  exm : ∀ i j, i < T.exc.length → j < T.exc.length → PySem.W.exmOne X.K (C.cls i) (C.cls j) = some (decide (i = j))
structure Gok (X : Cx) (raw : Scope) : Prop where
  loc : ∀ x, raw.names.lookup x = some .local → X.env.scope.names.lookup x = some .local
  cel : ∀ x, raw.names.lookup x = some .cell → X.env.scope.names.lookup x = some .cell ∧ X.fn x = true

section
variable {T : Tab} {X : Cx} {C : Ct} {sc : Scope}
theorem Cok.gl (k : Cok T X C sc) {x : Str} (h : isGl sc x = true) : Gl X x := by
  show X.env.scope.names.lookup x = _
  rw [k.sc]
  exact isGl_of h
theorem Cok.vis (k : Cok T X C sc) {x : Str} (h : isVis sc x = true) : Vis X.env.scope x := by rw [k.sc]; exact isVis_of h
theorem Cok.ix (k : Cok T X C sc) {x : Str} {i : Nat} (h : ixOf T.N x = some i) : X.N[i]? = some x := by rw [k.N]; exact ixOf_get h
theorem Takes.no {X : Cx} : Takes X (fun _ _ _ _ => False) := fun u s' ⟨a, B, sI, pins, σ, H, cls, d, e, I, nb, up, sky, na, os, ag, w⟩ => w.elim
theorem Cok.blk (k : Cok T X C sc) (s : Shared) (H : Hp) (scope : Scope) (D : Addr) (cl : List (Str × Addr)) (fp : List Addr) : Cok T (X.blk s H scope (compEnvC scope cl D X.env) fp) C.quiet (relS scope sc) :=
  ⟨k.K, k.N, k.nd, by rw [← k.sc]; rfl, k.calm, k.u, k.cst, k.fns, k.blt, Takes.no, k.w, k.exc, k.exm⟩
theorem lookup_cell {names : List (Str × NameKind)} {f : Str × NameKind → Str × NameKind} (hf : ∀ n k, (f (n, k)).1 = n ∧ (k = .cell → (f (n, k)).2 = .cell)) {x : Str} (h : names.lookup x = some .cell) : (names.map f).lookup x = some .cell := by
  induction names with
  | nil => cases h
  | cons y ys ih =>
    obtain ⟨n, k⟩ := y
    obtain ⟨f1, f2⟩ := hf n k
    rw [List.map_cons]
    have e : f (n, k) = (n, (f (n, k)).2) := Prod.ext f1 rfl
    rw [e, List.lookup_cons]
    rw [List.lookup_cons] at h
    cases q : x == n with
    | true =>
      rw [q] at h
      simp only [Option.some.injEq] at h
      simp only [f2 h]
    | false =>
      rw [q] at h
      exact ih h
theorem Gok.blk (s : Shared) (H : Hp) (scope : Scope) (D : Addr) (cl : List (Str × Addr)) (fp : List Addr) : Gok (X.blk s H scope (compEnvC scope cl D X.env) fp) scope := by
  refine ⟨fun x h => lookup_relabel_local h, fun x h => ⟨lookup_cell (fun n k => ?_) h, ?_⟩⟩
  · dsimp only
    split <;> exact ⟨rfl, fun e => by first | rfl | exact e⟩
  · show (scope.names.lookup x == some .cell) = true
    rw [h]
    rfl
end

/-! ### lists of arguments -/
def TAl (C : Ct) (n : Nat) (ms : M (List DV)) : TA := fun σ H Q => TAd C ms σ H fun xs H' => xs.length = n → Q xs H'
section
variable {X : Cx} {C : Ct} {a : Expr} {es : List Expr} {m : M DV} {ms : M (List DV)} {n : Nat}
theorem TAd.mono {σ : St} {H : Hp} {Q Q' : List V → Hp → Prop} (i : ∀ xs H, Q xs H → Q' xs H) (t : TAd C ms σ H Q) : TAd C ms σ H Q' := by
  obtain ⟨B, φ, e, h, s, q⟩ := t
  refine ⟨B, φ, e, h, s, ?_⟩
  cases c : ms e h with
  | ok v e1 h1 => rw [c] at q; exact fun φ' H' x s1 st r => i _ _ (q φ' H' x s1 st r)
  | ex c p e1 h1 => rw [c] at q; exact q
  | stuck => rw [c] at q; exact q
theorem al_ad (p : PA X es (TAl C n ms)) : PA X es (TAd C ms) := PA.imp p fun σ H Q t => TAd.mono (fun xs H q _ => q) t
theorem al_nil : PA X [] (TAl C 0 mNil) := PA.imp pa_nil fun σ H Q ⟨B, φ, e, h, s, p⟩ => (PostG.ret (v := []) (x := []) p s .nil) rfl
theorem al_cons (ha : PE X a (TEd C m)) (hr : PA X es (TAl C n ms)) (hs : starEach (a :: es) X.env = (false, eval a X.env) :: starEach es X.env) : PA X (a :: es) (TAl C (n + 1) (mCons m ms)) := by
  refine PA.imp (pa_cons ha hr hs) fun σ H Q ⟨B, φ, e, h, s, p⟩ => ?_
  refine ⟨B, φ, e, h, s, PostG.bind (f := fun v e h => (ms e h).bind fun vs e h => .ok (v :: vs) e h) p fun v e1 h1 φ1 H1 x _ s1 st1 r1 p1 => ?_⟩
  refine ⟨B, φ1, e1, h1, s1, p1.bind fun vs e2 h2 φ2 H2 xs _ s2 st2 r2 p2 l => ?_⟩
  exact p2.ret s2 (.cons (r1.mono st2.gr st2.phi) r2) (by simp [l])
end
def trA (f : Expr → Option (M DV)) : List Expr → Option (M (List DV))
  | [] => some mNil
  | a :: es => if noStar a then match f a, trA f es with
    | some m, some ms => some (mCons m ms)
    | _, _ => none
    else none
theorem trA_sound {X : Cx} {C : Ct} {f : Expr → Option (M DV)} (hf : ∀ a m, f a = some m → PE X a (TEd C m)) : ∀ {es : List Expr} {ms : M (List DV)}, trA f es = some ms → PA X es (TAl C es.length ms) ∧ es.all noStar = true
  | [], _, h => by cases h; exact ⟨al_nil, rfl⟩
  | a :: es, ms, h => by
    unfold trA at h
    split at h
    · rename_i ns
      split at h
      · rename_i m ms' h1 h2
        cases h
        obtain ⟨i1, i2⟩ := trA_sound hf h2
        exact ⟨al_cons (hf a m h1) i1 (star_cons ns), by simp [ns, i2]⟩
      · cases h
    · cases h

/-! ### tests -/
def trW (f : Expr → Option (M Bool)) (op : BoolOp) : List Expr → Option (M Bool)
  | [] => none
  | [a] => f a
  | a :: b :: rest => match f a, trW f op (b :: rest) with
    | some m, some ms => some (match op with
      | .And => mAnd m ms
      | .Or => mOr m ms)
    | _, _ => none
theorem trW_sound {X : Cx} {C : Ct} {f : Expr → Option (M Bool)} {op : BoolOp} {pos : Pos} (hf : ∀ a m, f a = some m → PT X a (TTd C m)) : ∀ {es : List Expr} {m : M Bool}, trW f op es = some m → PW X (.BoolOp op es pos) (TTd C m)
  | [], _, h => by cases h
  | [a], m, h => w_one (hf a m h)
  | a :: b :: rest, m, h => by
    unfold trW at h
    split at h
    · rename_i m1 m2 h1 h2
      cases h
      cases op with
      | And => exact w_and (hf a m1 h1) (trW_sound hf h2)
      | Or => exact w_or (hf a m1 h1) (trW_sound hf h2)
    · cases h
def trV (f : Expr → Option (M DV)) (op : BoolOp) : List Expr → Option (M DV)
  | [] => none
  | [a] => f a
  | a :: b :: rest => match f a, trV f op (b :: rest) with
    | some m, some ms => some (match op with
      | .And => mVal (mAnd (mBl m) (mBl ms))
      | .Or => mVal (mOr (mBl m) (mBl ms)))
    | _, _ => none
theorem trV_sound {X : Cx} {C : Ct} {f : Expr → Option (M DV)} {op : BoolOp} {pos : Pos} (hf : ∀ a m, f a = some m → PE X a (TEd C m)) : ∀ {es : List Expr} {m : M DV}, trV f op es = some m → PE X (.BoolOp op es pos) (TEd C m)
  | [], _, h => by cases h
  | [a], m, h => v_one (hf a m h)
  | a :: b :: rest, m, h => by
    unfold trV at h
    split at h
    · rename_i m1 m2 h1 h2
      cases h
      cases op with
      | And => exact v_and (hf a m1 h1) (trV_sound hf h2)
      | Or => exact v_or (hf a m1 h1) (trV_sound hf h2)
    · cases h

/-! ### targets -/
def trGs (f : Expr → Option Tg) : List Expr → Option Tgs
  | [] => some .nil
  | a :: es => if noStar a then match f a, trGs f es with
    | some t, some ts => some (.cons t ts)
    | _, _ => none
    else none
def trG (N : List Str) (raw : Scope) : Nat → Expr → Option Tg
  | 0, _ => none
  | n + 1, e => match e with
    | .Name x _ => if isLoc raw x then (ixOf N x).map Tg.nm else none
    | .Tuple es _ _ => (trGs (trG N raw n) es).map Tg.tp
    | _ => none
theorem assign_cons {env : PySem.Env} {a : Expr} {es : List Expr} (h : noStar a = true) : assignEach (a :: es) env = (false, assign a env) :: assignEach es env := by
  cases a <;> first | rfl | cases h
theorem Gok.of {X : Cx} {raw : Scope} (g : Gok X raw) {x : Str} (h : isLoc raw x = true) : L2.Loc X.env.scope x ∧ (X.fn x = true ∨ X.env.scope.names.lookup x = some .local) := by
  unfold isLoc at h
  split at h
  · rename_i e; exact ⟨.inl (g.loc x e), .inr (g.loc x e)⟩
  · rename_i e; exact ⟨.inr (g.cel x e).1, .inl (g.cel x e).2⟩
  · cases h
theorem trGs_sound {X : Cx} {C : Ct} {f : Expr → Option Tg} (hf : ∀ a t, f a = some t → PG X a (TGd C t)) : ∀ {es : List Expr} {ts : Tgs}, trGs f es = some ts → PGs X es (TGsd C ts) ∧ (assignEach es X.env).length = ts.len ∧ (assignEach es X.env).findIdx? (·.1) = none
  | [], _, h => by cases h; exact ⟨gs_nil, rfl, rfl⟩
  | a :: es, ts, h => by
    unfold trGs at h
    split at h
    · rename_i ns
      split at h
      · rename_i t ts' h1 h2
        cases h
        obtain ⟨i1, i2, i3⟩ := trGs_sound hf h2
        rw [assign_cons ns]
        refine ⟨gs_cons (hf a t h1) i1 (by rw [assign_cons ns]; rfl), by simp [Tgs.len, i2], ?_⟩
        rw [List.findIdx?_cons]
        simp [i3]
      · cases h
    · cases h
theorem trG_sound {T : Tab} {X : Cx} {C : Ct} {sc raw : Scope} (k : Cok T X C sc) (g : Gok X raw) : ∀ (n : Nat) {a : Expr} {t : Tg}, trG T.N raw n a = some t → PG X a (TGd C t)
  | 0, _, _, h => by cases h
  | n + 1, a, t, h => by
    unfold trG at h
    split at h
    · rename_i x p
      split at h
      · rename_i l
        cases c : ixOf T.N x with
        | none => rw [c] at h; cases h
        | some i =>
          rw [c] at h
          cases h
          obtain ⟨g1, g2⟩ := g.of l
          exact g_nm (by rw [k.N]; exact k.nd) (k.ix c) g1 g2
      · cases h
    · rename_i es kk p
      cases c : trGs (trG T.N raw n) es with
      | none => rw [c] at h; cases h
      | some ts =>
        rw [c] at h
        cases h
        obtain ⟨i1, i2, i3⟩ := trGs_sound (fun a t q => trG_sound k g n q) c
        exact g_tp k.K k.calm i1 i2 rfl i3
    · cases h
end DL
/-! D20: the translator of expressions. -/
namespace DL
open PySem PySem.Spec L2
variable [WorldC]

structure Trr where
  E : Scope → Bool → Expr → Option (M DV)
  F : Scope → Expr → Option (M DV)
  B : Scope → Expr → Option (M Bool)
structure Snd (T : Tab) (t : Trr) : Prop where
  E : ∀ {X : Cx} {C : Ct} {sc : Scope}, Cok T X C sc → ∀ {fz : Bool} {e : Expr} {m : M DV}, t.E sc fz e = some m → PE X e (TEd C m)
  F : ∀ {X : Cx} {C : Ct} {sc : Scope}, Cok T X C sc → ∀ {e : Expr} {m : M DV}, t.F sc e = some m → PE X e (TEf C m)
  B : ∀ {X : Cx} {C : Ct} {sc : Scope}, Cok T X C sc → ∀ {e : Expr} {m : M Bool}, t.B sc e = some m → PT X e (TTd C m)

/-! ### tables of operations -/
def constP : Const → Option P
  | .none => some .none
  | .bool b => some (.bool b)
  | .int i => some (.int i)
  | .str x => if PyData.strOk x && decide (x.length ≤ 16777216) then some (.str x) else none
  | _ => none
def binOp : Operator → Option Op
  | .Add => some addP
  | .Sub => some subP
  | .Mult => some mulP
  | .FloorDiv => some fdivP
  | .Mod => some modP
  | .Pow => some powP
  | _ => none
def cmpOp : CmpOp → Option Op
  | .Eq => some eqP
  | .NotEq => some neP
  | .Lt => some ltP
  | .LtE => some leP
  | .Gt => some gtP
  | .GtE => some geP
  | .In => some inP
  | .NotIn => some notinP
  | .Is => some isP
  | .IsNot => some isnotP
inductive Bf where
  | fn (id : String) (f : Op)
  | ty (id : String) (f : Op)
def Bf.op : Bf → Op
  | .fn _ f => f
  | .ty _ f => f
def bfOf (x : Str) : Option Bf :=
  if x == "len" then some (.fn "len" lenP) else if x == "tuple" then some (.ty "tuple" tupleP) else if x == "list" then some (.ty "list" listP) else if x == "int" then some (.ty "int" intP) else if x == "abs" then some (.fn "abs" absP)
  else if x == "all" then some (.fn "all" allP) else if x == "any" then some (.fn "any" anyP) else if x == "min" then some (.fn "min" minP) else if x == "max" then some (.fn "max" maxP) else if x == "sorted" then some (.fn "sorted" sortedP) else none
def tyOf (x : Str) : Option Ty :=
  if x == "int" then some .int else if x == "bool" then some .bool else if x == "str" then some .str else if x == "list" then some .list else if x == "tuple" then some .tuple else if x == "dict" then some .dict else none
/-- a reading method -/
structure Rm where
  id : String
  k : Rk
  f : Op
def rmOf (x : Str) : Option Rm :=
  if x == "index" then some ⟨"list.index", .lst, indexP⟩ else if x == "get" then some ⟨"dict.get", .dct, getP⟩ else none
structure Me where
  id : String
  f : Mt
def meOf (x : Str) : Option Me :=
  if x == "append" then some ⟨"list.append", appendM⟩ else if x == "insert" then some ⟨"list.insert", insertM⟩ else if x == "pop" then some ⟨"list.pop", popM⟩ else if x == "clear" then some ⟨"list.clear", clearM⟩ else if x == "extend" then some ⟨"list.extend", extendM⟩ else none

section
variable {T : Tab} {X : Cx} {C : Ct} {sc : Scope} {a b c : Expr} {es : List Expr} {m ma mb mc' : M DV} {mc : M Bool} {ms : M (List DV)} {pos p : Pos}
theorem const_sound {k : Const} {j : Nat} {q : P} (h : constP k = some q) : PE X (.Constant k j pos) (TEd C (mK q)) := by
  unfold constP at h
  split at h
  · cases h; exact d_con pe_non fun H W => .non
  · cases h; exact d_con pe_bl fun H W => .bl _
  · cases h; exact d_con pe_int fun H W => .int _
  · split at h
    · rename_i k
      cases h
      simp only [Bool.and_eq_true, decide_eq_true_eq] at k
      exact d_con pe_str fun H W => .str k.1 k.2
    · cases h
  · cases h
theorem bin_sound (k : Cok T X C sc) {op : Operator} {f : Op} (h : binOp op = some f) : OpR X (binaryOp op) fun x y => rN C.K resF f [x, y] := by
  rw [k.K]
  unfold binOp at h
  split at h <;> cases h
  · exact o_add
  · exact o_sub
  · exact o_mul
  · exact o_fdiv
  · exact o_mod
  · exact o_pow
theorem cmp_sound (k : Cok T X C sc) {op : CmpOp} {f : Op} (h : cmpOp op = some f) : OpR X (compareOp op) fun x y => rN C.K resF f [x, y] := by
  rw [k.K]
  unfold cmpOp at h
  split at h <;> cases h
  · exact o_eq k.u
  · exact o_ne k.u
  · exact o_lt k.u
  · exact o_le
  · exact o_gt
  · exact o_ge
  · exact o_in k.w k.u
  · exact o_notin k.w k.u
  · exact o_is
  · exact o_isnot
theorem boot_all : bootBuiltins "all" = some (.builtin "all") := by decide +kernel
theorem boot_any : bootBuiltins "any" = some (.builtin "any") := by decide +kernel
theorem boot_abs : bootBuiltins "abs" = some (.builtin "abs") := by decide +kernel
theorem boot_sorted : bootBuiltins "sorted" = some (.builtin "sorted") := by decide +kernel
theorem bf_sound (k : Cok T X C sc) {x : Str} {f : Bf} (h : bfOf x = some f) (ok : okName x = true) (g : isGl sc x = true) (hm : X.mg x = none) (ha : PA X (a :: es) (TAd C ms)) (hs : (a :: es).all noStar = true) :
    PE X (.Call (.Name x p) (a :: es) [] pos) (TEf C (mOp f.op ms)) := by
  obtain ⟨n1, n2, n3⟩ := okName_of ok
  obtain ⟨K0, cls0, W0⟩ := C
  obtain rfl : K0 = X.K := k.K
  have gl := k.gl g
  have s1 := star_cons (env := X.env) (es := es) (a := a) (by simp only [List.all_cons, Bool.and_eq_true] at hs; exact hs.1)
  have s2 := back_any (env := X.env) (pos := pos) (es := es) (by simp only [List.all_cons, Bool.and_eq_true] at hs; exact hs.2)
  have u : X.A.units + 200 < cLine := k.u
  unfold bfOf at h
  split at h
  · rename_i e; obtain rfl := eq_of_beq e; cases h; exact d_bif (o_len k.w) gl hm boot_len ha n3 n1 s1 s2
  split at h
  · rename_i e; obtain rfl := eq_of_beq e; cases h; exact d_bty o_tuple gl hm (by decide +kernel) ha n3 n1 s1 s2
  split at h
  · rename_i e; obtain rfl := eq_of_beq e; cases h; exact d_bty (o_list k.calm) gl hm (by decide +kernel) ha n3 n1 s1 s2
  split at h
  · rename_i e; obtain rfl := eq_of_beq e; cases h; exact d_bty o_int gl hm (by decide +kernel) ha n3 n1 s1 s2
  split at h
  · rename_i e; obtain rfl := eq_of_beq e; cases h; exact d_bif o_abs gl hm boot_abs ha n3 n1 s1 s2
  split at h
  · rename_i e; obtain rfl := eq_of_beq e; cases h; exact d_bif (o_all k.calm) gl hm boot_all ha n3 n1 s1 s2
  split at h
  · rename_i e; obtain rfl := eq_of_beq e; cases h; exact d_bif (o_any k.calm) gl hm boot_any ha n3 n1 s1 s2
  split at h
  · rename_i e; obtain rfl := eq_of_beq e; cases h; exact d_bif (o_min k.calm) gl hm (by decide +kernel) ha n3 n1 s1 s2
  split at h
  · rename_i e; obtain rfl := eq_of_beq e; cases h; exact d_bif (o_max k.calm) gl hm (by decide +kernel) ha n3 n1 s1 s2
  split at h
  · rename_i e; obtain rfl := eq_of_beq e; cases h; exact d_bif (o_sorted u) gl hm boot_sorted ha n3 n1 s1 s2
  · cases h
theorem boot_ty {x : Str} {t : Ty} (h : tyOf x = some t) : bootBuiltins x = some (.type t.nm) := by
  unfold tyOf at h
  split at h
  · rename_i e; obtain rfl := eq_of_beq e; cases h; decide +kernel
  split at h
  · rename_i e; obtain rfl := eq_of_beq e; cases h; decide +kernel
  split at h
  · rename_i e; obtain rfl := eq_of_beq e; cases h; decide +kernel
  split at h
  · rename_i e; obtain rfl := eq_of_beq e; cases h; decide +kernel
  split at h
  · rename_i e; obtain rfl := eq_of_beq e; cases h; decide +kernel
  split at h
  · rename_i e; obtain rfl := eq_of_beq e; cases h; decide +kernel
  · cases h
theorem me_sound (k : Cok T X C sc) {x : Str} {f : Me} (h : meOf x = some f) : Slot "list" x f.id ∧ typeOf (.builtin f.id) = pure (.type "method_descriptor") ∧ MtR X f.id (rM C.K f.f) := by
  rw [k.K]
  unfold meOf at h
  split at h
  · rename_i e; obtain rfl := eq_of_beq e; cases h; exact ⟨PySem.F.slot_list_append, PySem.F.type_list_append, m_append⟩
  split at h
  · rename_i e; obtain rfl := eq_of_beq e; cases h; exact ⟨PySem.F.slot_list_insert, PySem.F.type_list_insert, m_insert⟩
  split at h
  · rename_i e; obtain rfl := eq_of_beq e; cases h; exact ⟨PySem.F.slot_list_pop, PySem.F.type_list_pop, m_pop⟩
  split at h
  · rename_i e; obtain rfl := eq_of_beq e; cases h; exact ⟨PySem.F.slot_list_clear, PySem.F.type_list_clear, m_clear⟩
  split at h
  · rename_i e; obtain rfl := eq_of_beq e; cases h; exact ⟨PySem.F.slot_list_extend, PySem.F.type_list_extend, m_extend⟩
  · cases h
theorem rm_sound (k : Cok T X C sc) {x : Str} {f : Rm} (h : rmOf x = some f) : PlainAttrs f.k.ty ∧ Slot f.k.ty x f.id ∧ typeOf (.builtin f.id) = pure (.type "method_descriptor") ∧ MtR X f.id (rMt X.K f.f) := by
  unfold rmOf at h
  split at h
  · rename_i e; obtain rfl := eq_of_beq e; cases h; exact ⟨PySem.F.plainAttrs_list, PySem.F.slot_list_index, PySem.F.type_list_index, m_index k.u⟩
  split at h
  · rename_i e; obtain rfl := eq_of_beq e; cases h; exact ⟨PySem.F.plainAttrs_dict, PySem.F.slot_dict_get, PySem.F.type_dict_get, m_get k.u k.w⟩
  · cases h
end
end DL
/-! D21: the translator of expressions: the steps. -/
namespace DL
open PySem PySem.Spec L2
variable [WorldC]

/-! ### comprehensions -/
def ownOf (N : List Str) : List (Str × NameKind) → List (Str × Nat)
  | [] => []
  | (x, k) :: ys => match k with
    | .local => match ixOf N x with
      | some i => (x, i) :: ownOf N ys
      | none => ownOf N ys
    | .cell => match ixOf N x with
      | some i => (x, i) :: ownOf N ys
      | none => ownOf N ys
    | _ => ownOf N ys
def blkB (N : List Str) (sc scope : Scope) : Bool := decide (scope.kind = .function) && scope.names.all (fun y => decide (scope.names.lookup y.1 = some y.2)) &&
  scope.names.all (fun y => decide (y.2 = .free → sc.names.lookup y.1 = some .cell ∨ sc.names.lookup y.1 = some .free)) &&
  scope.names.all (fun y => decide (y.2 = .local ∨ y.2 = .cell → y.1 ∈ (ownOf N scope.names).map (·.1))) && decide (((ownOf N scope.names).map (·.2)).Nodup)
theorem ownOf_ix {N : List Str} : ∀ {l : List (Str × NameKind)} {p : Str × Nat}, p ∈ ownOf N l → N[p.2]? = some p.1
  | [], _, h => by cases h
  | (x, k) :: ys, p, h => by
    unfold ownOf at h
    have go : ∀ {o : Option Nat}, o = ixOf N x → p ∈ (match o with | some i => (x, i) :: ownOf N ys | none => ownOf N ys) → N[p.2]? = some p.1 := fun {o} e q => by
      cases o with
      | none => exact ownOf_ix q
      | some i =>
        rcases List.mem_cons.mp q with z | z
        · rw [z]; exact ixOf_get e.symm
        · exact ownOf_ix z
    split at h
    · exact go rfl h
    · exact go rfl h
    · exact ownOf_ix h
theorem blkB_ok {T : Tab} {X : Cx} {C : Ct} {sc scope : Scope} (k : Cok T X C sc) (h : blkB T.N sc scope = true) : BlkOk X.N X.env.scope scope (ownOf T.N scope.names) ∧ ((ownOf T.N scope.names).map (·.2)).Nodup := by
  unfold blkB at h
  simp only [Bool.and_eq_true, decide_eq_true_eq, List.all_eq_true] at h
  obtain ⟨⟨⟨⟨h1, h2⟩, h3⟩, h4⟩, h5⟩ := h
  refine ⟨⟨h1, h2, fun p hp => by rw [k.N]; exact ownOf_ix hp, fun y hy e => by rw [k.sc]; exact h3 y hy e, fun y hy e => .inl (h4 y hy e)⟩, h5⟩

/-! ### what is walked -/
def pureS : Sem Value → Sem Value := id
def trI (T : Tab) (t : Trr) (sc : Scope) (tg it : Expr) : Option (M (List P)) := match it with
  | .Call (.Name x p) args [] pos =>
    if T.blt.contains x && isGl sc x && okName x then
      if x == "range" then match args with
        | [a] => (trA (t.E sc false) [a]).map mRng1
        | [a, b] => (trA (t.E sc false) [a, b]).map mRng2
        | _ => none
      else if x == "zip" then match tg, args with
        | .Tuple _ _ _, [a, b] => (trA (t.E sc false) [a, b]).map mZip
        | _, _ => none
      else (t.E sc true it).map mSeq
    else (t.E sc true it).map mSeq
  | _ => (t.E sc true it).map mSeq
section
variable {T : Tab} {t : Trr} (S : Snd T t) {X : Cx} {C : Ct} {sc : Scope} (k : Cok T X C sc) {a b c e tg it : Expr} {es : List Expr} {pos p : Pos}
include S k
theorem A_sound {fz : Bool} {ms : M (List DV)} (h : trA (t.E sc fz) es = some ms) : PA X es (TAl C es.length ms) ∧ es.all noStar = true := trA_sound (fun a m q => S.E k q) h
theorem I_sound {mi : M (List P)} (h : trI T t sc tg it = some mi) : PI X tg it (TId C mi) := by
  have seq : ∀ {mi}, (t.E sc true it).map mSeq = some mi → PI X tg it (TId C mi) := fun {mi} q => by
    cases c : t.E sc true it with
    | none => rw [c] at q; cases q
    | some m => rw [c] at q; cases q; exact i_seq k.K (S.E k c)
  unfold trI at h
  split at h
  · rename_i x p args pos
    split at h
    · rename_i q
      simp only [Bool.and_eq_true, List.contains_iff_mem] at q
      obtain ⟨⟨q1, q2⟩, q3⟩ := q
      have hm := k.blt x q1
      split at h
      · rename_i e
        obtain rfl := eq_of_beq e
        split at h
        · rename_i a
          cases c : trA (t.E sc false) [a] with
          | none => rw [c] at h; cases h
          | some ms =>
            rw [c] at h
            cases h
            obtain ⟨i1, i2⟩ := A_sound S k c
            simp only [List.all_cons, Bool.and_eq_true] at i2
            exact i_rng1 (k.gl q2) hm (al_ad i1) (by rw [star_cons i2.1]; rfl)
        · rename_i a b
          cases c : trA (t.E sc false) [a, b] with
          | none => rw [c] at h; cases h
          | some ms =>
            rw [c] at h
            cases h
            obtain ⟨i1, i2⟩ := A_sound S k c
            simp only [List.all_cons, Bool.and_eq_true] at i2
            exact i_rng2 (k.gl q2) hm (al_ad i1) (by rw [star_cons i2.1, star_cons i2.2.1]; rfl) (by rw [star_cons i2.2.1]; rfl)
        · cases h
      · split at h
        · rename_i e
          obtain rfl := eq_of_beq e
          split at h
          · rename_i a b
            cases c : trA (t.E sc false) [a, b] with
            | none => rw [c] at h; cases h
            | some ms =>
              rw [c] at h
              cases h
              obtain ⟨i1, i2⟩ := A_sound S k c
              have i2' := i2
              simp only [List.all_cons, Bool.and_eq_true] at i2'
              exact i_zip k.K (k.gl q2) hm (al_ad i1) (star_cons i2'.1) (back_any (by simp [i2'.2.1]))
          · cases h
        · exact seq h
    · exact seq h
  · exact seq h
end

/-! ### the steps -/
def trIfs (f : Expr → Option (M Bool)) : List Expr → Option (M Bool)
  | [] => some mTrue
  | [c] => f c
  | _ => none
def subB (ts vs : List Nat) : Bool := ts.all fun j => vs.contains j
def lcOne (T : Tab) (t : Trr) (sc : Scope) (elt tg it : Expr) (ifs : List Expr) (scope : Scope) : Option (M DV) :=
  if blkB T.N sc scope && noSet it then match trI T t sc tg it, trG T.N scope 4 tg, trIfs (t.B (relS scope sc)) ifs, t.E (relS scope sc) true elt with
    | some mi, some tt, some mc, some m => if subB tt.slots ((ownOf T.N scope.names).map (·.2)) then some (mLc ((ownOf T.N scope.names).map (·.2)) mi (mEl tt mc m)) else none
    | _, _, _, _ => none
  else none
noncomputable def dcOne (T : Tab) (t : Trr) (sc : Scope) (kx vx tg it : Expr) (ifs : List Expr) (scope : Scope) : Option (M DV) :=
  if blkB T.N sc scope && noSet it then match trI T t sc tg it, trG T.N scope 4 tg, trIfs (t.B (relS scope sc)) ifs, t.E (relS scope sc) true kx, t.E (relS scope sc) true vx with
    | some mi, some tt, some mc, some mk, some mv => if subB tt.slots ((ownOf T.N scope.names).map (·.2)) then some (mDc ((ownOf T.N scope.names).map (·.2)) mi (mEd tt mc mk mv)) else none
    | _, _, _, _, _ => none
  else none
def lcTwo (T : Tab) (t : Trr) (sc : Scope) (elt tg it : Expr) (ifs : List Expr) (tg1 it1 : Expr) (ifs1 : List Expr) (scope : Scope) : Option (M DV) :=
  if blkB T.N sc scope && noSet it && noSet it1 then match trI T t sc tg it, trG T.N scope 4 tg, trIfs (t.B (relS scope sc)) ifs with
    | some mi, some tt, some mc => match trI T t (relS scope sc) tg1 it1, trG T.N scope 4 tg1, trIfs (t.B (relS scope sc)) ifs1, t.E (relS scope sc) true elt with
      | some mi1, some t1, some mc1, some m => if subB tt.slots ((ownOf T.N scope.names).map (·.2)) && subB t1.slots ((ownOf T.N scope.names).map (·.2)) then some (mLc2 ((ownOf T.N scope.names).map (·.2)) mi (mEl2 tt mc mi1 t1.slots (mEl t1 mc1 m))) else none
      | _, _, _, _ => none
    | _, _, _ => none
  else none
def slP (f : Expr → Option (M DV)) : Option Expr → Option (M (Option Int))
  | none => some mNoP
  | some e => (f e).map mPt
def setCall (T : Tab) (sc : Scope) : List Expr → Option Expr
  | [.Call (.Name y _) [a] [] _] => if y == "set" && T.blt.contains y && isGl sc y && okName y && noStar a then some a else none
  | _ => none
def bifF (T : Tab) (t : Trr) (sc : Scope) (x : Str) (args : List Expr) : Option (M DV) :=
  if T.blt.contains x && isGl sc x && okName x then match setCall T sc args with
    | some a => if x == "sorted" then (t.E sc false a).map fun m => mOp sortSetP (mCons m mNil) else if x == "len" then (t.E sc false a).map fun m => mOp lenSetP (mCons m mNil) else none
    | none => match args, bfOf x, trA (t.E sc false) args with
      | _ :: _, some f, some ms => some (mOp f.op ms)
      | _, _, _ => none
  else none
def trKV (f : Expr → Option (M DV)) : List (Option Expr) → List Expr → Option (List (M DV × M DV))
  | [], [] => some []
  | some k :: ks, v :: vs => match f k, f v, trKV f ks vs with
    | some a, some b, some l => some ((a, b) :: l)
    | _, _, _ => none
  | _, _ => none
def dctF (f : Expr → Option (M DV)) (keys : List (Option Expr)) (values : List Expr) : Option (M DV) := match keys, values with
  | [], [] => some (mDct mNil)
  | k :: ks, vs => if decide (ks.length < 15) then (trKV f (k :: ks) vs).map fun l => mDct (flatM l) else none
  | _, _ => none
noncomputable def stF (T : Tab) (t : Trr) (sc : Scope) (e : Expr) : Option (M DV) := match e with
  | .List es _ => (trA (t.E sc true) es).map mLst
  | .ListComp elt gens scope _ => match gens with
    | [⟨tg, it, ifs, 0⟩] => lcOne T t sc elt tg it ifs scope
    | [⟨tg, it, ifs, 0⟩, ⟨tg1, it1, ifs1, 0⟩] => lcTwo T t sc elt tg it ifs tg1 it1 ifs1 scope
    | _ => none
  | .BinOp a op b _ => match binOp op, t.E sc false a, t.E sc false b with
    | some f, some ma, some mb => some (mOp f (mCons ma (mCons mb mNil)))
    | _, _, _ => none
  | .UnaryOp .USub a _ => (t.E sc false a).map fun m => mOp negP (mCons m mNil)
  | .Compare a [op] [b] _ => match cmpOp op, t.E sc false a, t.E sc false b with
    | some f, some ma, some mb => if noSet b then some (mOp f (mCons ma (mCons mb mNil))) else none
    | _, _, _ => none
  | .Subscript a (.Slice lo hi none _) _ => match t.E sc false a, slP (t.E sc false) lo, slP (t.E sc false) hi with
    | some m, some ml, some mu => some (mSl m ml mu)
    | _, _, _ => none
  | .Subscript a (.Slice none none (some st) _) _ => match t.E sc false a, t.E sc false st with
    | some m, some mk => some (mRev m mk)
    | _, _ => none
  | .Call (.Name x _) args [] _ => bifF T t sc x args
  | .Dict keys values _ => dctF (t.E sc true) keys values
  | .DictComp kx vx gens scope _ => match gens with
    | [⟨tg, it, ifs, 0⟩] => dcOne T t sc kx vx tg it ifs scope
    | _ => none
  | _ => none
section
variable {T : Tab} {t : Trr} (S : Snd T t) {X : Cx} {C : Ct} {sc : Scope} (k : Cok T X C sc) {a b c e tg it : Expr} {es ifs : List Expr} {pos p : Pos} {m : M DV}
include S k
theorem ifs_sound {mc : M Bool} (h : trIfs (t.B sc) ifs = some mc) : PTs X ifs (TTd C mc) := by
  unfold trIfs at h
  split at h
  · cases h; exact ts_nil
  · exact ts_one (S.B k h)
  · cases h
theorem P_sound {o : Option Expr} {mp : M (Option Int)} (h : slP (t.E sc false) o = some mp) : PO X o (TOd C mp) := by
  unfold slP at h
  split at h
  · cases h; exact p_none
  · rename_i e
    cases c : t.E sc false e with
    | none => rw [c] at h; cases h
    | some m => rw [c] at h; cases h; exact p_some (S.E k c)
theorem subB_of {ts vs : List Nat} (h : subB ts vs = true) : ∀ j ∈ ts, j ∈ vs := by
  unfold subB at h
  rw [List.all_eq_true] at h
  intro j hj
  simpa using h j hj
theorem lcOne_sound {scope : Scope} {elt : Expr} (h : lcOne T t sc elt tg it ifs scope = some m) : PE X (.ListComp elt [⟨tg, it, ifs, 0⟩] scope pos) (TEf C m) ∧
    ∀ {i : Nat} {y : Str} {py spos : Pos}, X.N[i]? = some y → X.env.scope.names.lookup y = some .local → swapsWith (.ListComp elt [⟨tg, it, ifs, 0⟩] scope pos) (some (.Name y py)) spos.line X.env = pure true → ∀ o : Bool, PS X (.Assign [.Name y py] (.ListComp elt [⟨tg, it, ifs, 0⟩] scope pos) spos) (TSd C (if o then sOwn i m else sAsg i m)) := by
  unfold lcOne at h
  split at h
  · rename_i q
    simp only [Bool.and_eq_true] at q
    split at h
    · rename_i mi tt mc m' h1 h2 h3 h4
      split at h
      · rename_i sub
        cases h
        obtain ⟨b1, b2⟩ := blkB_ok k q.1
        have r1 := I_sound S k h1
        have nd : X.N.Nodup := by rw [k.N]; exact k.nd
        refine ⟨d_lc k.calm nd r1 b1 b2 (subB_of S k sub) (fun s H D cl fp => trG_sound (k.blk s H scope D cl fp) (Gok.blk s H scope D cl fp) 4 h2) (fun s H D cl fp => ifs_sound S (k.blk s H scope D cl fp) h3) (fun s H D cl fp => S.E (k.blk s H scope D cl fp) h4) (fold_no q.2), fun hy hyl hsw o => ?_⟩
        exact s_asgLc k.calm nd hy hyl hsw r1 b1 b2 (subB_of S k sub) (fun s H D cl fp => trG_sound (k.blk s H scope D cl fp) (Gok.blk s H scope D cl fp) 4 h2) (fun s H D cl fp => ifs_sound S (k.blk s H scope D cl fp) h3) (fun s H D cl fp => S.E (k.blk s H scope D cl fp) h4) (fold_no q.2) o
      · cases h
    · cases h
  · cases h
theorem dcOne_sound {scope : Scope} {kx vx : Expr} (h : dcOne T t sc kx vx tg it ifs scope = some m) : PE X (.DictComp kx vx [⟨tg, it, ifs, 0⟩] scope pos) (TEf C m) ∧
    ∀ {i : Nat} {y : Str} {py spos : Pos}, X.N[i]? = some y → X.env.scope.names.lookup y = some .local → swapsWith (.DictComp kx vx [⟨tg, it, ifs, 0⟩] scope pos) (some (.Name y py)) spos.line X.env = pure true → ∀ o : Bool, PS X (.Assign [.Name y py] (.DictComp kx vx [⟨tg, it, ifs, 0⟩] scope pos) spos) (TSd C (if o then sOwn i m else sAsg i m)) := by
  unfold dcOne at h
  split at h
  · rename_i q
    simp only [Bool.and_eq_true] at q
    split at h
    · rename_i mi tt mc mk mv h1 h2 h3 h4 h5
      split at h
      · rename_i sub
        cases h
        obtain ⟨b1, b2⟩ := blkB_ok k q.1
        have r1 := I_sound S k h1
        have nd : X.N.Nodup := by rw [k.N]; exact k.nd
        refine ⟨d_dc k.K k.w k.u k.calm nd r1 b1 b2 (subB_of S k sub) (fun s H D cl fp => trG_sound (k.blk s H scope D cl fp) (Gok.blk s H scope D cl fp) 4 h2) (fun s H D cl fp => ifs_sound S (k.blk s H scope D cl fp) h3) (fun s H D cl fp => S.E (k.blk s H scope D cl fp) h4) (fun s H D cl fp => S.E (k.blk s H scope D cl fp) h5) (fold_no q.2), fun hy hyl hsw o => ?_⟩
        exact s_asgDc k.K k.w k.u k.calm nd hy hyl hsw r1 b1 b2 (subB_of S k sub) (fun s H D cl fp => trG_sound (k.blk s H scope D cl fp) (Gok.blk s H scope D cl fp) 4 h2) (fun s H D cl fp => ifs_sound S (k.blk s H scope D cl fp) h3) (fun s H D cl fp => S.E (k.blk s H scope D cl fp) h4) (fun s H D cl fp => S.E (k.blk s H scope D cl fp) h5) (fold_no q.2) o
      · cases h
    · cases h
  · cases h
theorem lcTwo_sound {scope : Scope} {elt tg1 it1 : Expr} {ifs1 : List Expr} (h : lcTwo T t sc elt tg it ifs tg1 it1 ifs1 scope = some m) : PE X (.ListComp elt [⟨tg, it, ifs, 0⟩, ⟨tg1, it1, ifs1, 0⟩] scope pos) (TEf C m) ∧
    ∀ {i : Nat} {y : Str} {py spos : Pos}, X.N[i]? = some y → X.env.scope.names.lookup y = some .local → swapsWith (.ListComp elt [⟨tg, it, ifs, 0⟩, ⟨tg1, it1, ifs1, 0⟩] scope pos) (some (.Name y py)) spos.line X.env = pure true → ∀ o : Bool, PS X (.Assign [.Name y py] (.ListComp elt [⟨tg, it, ifs, 0⟩, ⟨tg1, it1, ifs1, 0⟩] scope pos) spos) (TSd C (if o then sOwn i m else sAsg i m)) := by
  unfold lcTwo at h
  split at h
  · rename_i q
    simp only [Bool.and_eq_true] at q
    split at h
    · rename_i mi tt mc h1 h2 h3
      split at h
      · rename_i mi1 t1 mc1 m' h4 h5 h6 h7
        split at h
        · rename_i sub
          simp only [Bool.and_eq_true] at sub
          cases h
          obtain ⟨b1, b2⟩ := blkB_ok k q.1.1
          have r1 := I_sound S k h1
          have nd : X.N.Nodup := by rw [k.N]; exact k.nd
          refine ⟨d_lc2 k.calm nd r1 b1 b2 (subB_of S k sub.1) (fun j z => z) (subB_of S k sub.2) (fun s H D cl fp => trG_sound (k.blk s H scope D cl fp) (Gok.blk s H scope D cl fp) 4 h2) (fun s H D cl fp => ifs_sound S (k.blk s H scope D cl fp) h3)
            (fun s H D cl fp => I_sound S (k.blk s H scope D cl fp) h4) (fun s H D cl fp => trG_sound (k.blk s H scope D cl fp) (Gok.blk s H scope D cl fp) 4 h5) (fun s H D cl fp => ifs_sound S (k.blk s H scope D cl fp) h6) (fun s H D cl fp => S.E (k.blk s H scope D cl fp) h7) (fold_no q.1.2) (fun _ => fold_no q.2), fun hy hyl hsw o => ?_⟩
          exact s_asgLc2 k.calm nd hy hyl hsw r1 b1 b2 (subB_of S k sub.1) (fun j z => z) (subB_of S k sub.2) (fun s H D cl fp => trG_sound (k.blk s H scope D cl fp) (Gok.blk s H scope D cl fp) 4 h2) (fun s H D cl fp => ifs_sound S (k.blk s H scope D cl fp) h3)
            (fun s H D cl fp => I_sound S (k.blk s H scope D cl fp) h4) (fun s H D cl fp => trG_sound (k.blk s H scope D cl fp) (Gok.blk s H scope D cl fp) 4 h5) (fun s H D cl fp => ifs_sound S (k.blk s H scope D cl fp) h6) (fun s H D cl fp => S.E (k.blk s H scope D cl fp) h7) (fold_no q.1.2) (fun _ => fold_no q.2) o
        · cases h
      · cases h
    · cases h
  · cases h
theorem set_sound {x : Str} (h : setCall T sc es = some a) : ∃ y p2 p3, es = [.Call (.Name y p2) [a] [] p3] ∧ isGl sc y = true ∧ X.mg y = none ∧ bootBuiltins y = some (.type "set") ∧ okName y = true ∧ noStar a = true := by
  unfold setCall at h
  split at h
  · rename_i y p2 a' p3
    split at h
    · rename_i q
      cases h
      simp only [Bool.and_eq_true, List.contains_iff_mem] at q
      obtain ⟨⟨⟨⟨q1, q2⟩, q3⟩, q4⟩, q5⟩ := q
      obtain rfl := eq_of_beq q1
      exact ⟨_, p2, p3, rfl, q3, k.blt _ q2, by decide +kernel, q4, q5⟩
    · cases h
  · cases h
theorem bifF_sound {x : Str} (h : bifF T t sc x es = some m) : PE X (.Call (.Name x p) es [] pos) (TEf C m) := by
  unfold bifF at h
  split at h
  · rename_i q
    simp only [Bool.and_eq_true, List.contains_iff_mem] at q
    obtain ⟨⟨q1, q2⟩, q3⟩ := q
    obtain ⟨n1, n2, n3⟩ := okName_of q3
    cases c : setCall T sc es with
    | some a =>
      rw [c] at h
      obtain ⟨y, p2, p3, rfl, g2, m2, b2, o2, ns⟩ := set_sound S k (x := x) c
      obtain ⟨n4, n5, n6⟩ := okName_of o2
      have he := star_cons (env := X.env) (es := []) ns
      have he2 : starEach [.Call (.Name y p2) [a] [] p3] X.env = (false, eval (.Call (.Name y p2) [a] [] p3) X.env) :: starEach [] X.env := rfl
      simp only at h
      split at h
      · rename_i e
        obtain rfl := eq_of_beq e
        cases c2 : t.E sc false a with
        | none => rw [c2] at h; cases h
        | some m' =>
          rw [c2] at h
          cases h
          exact d_sortSet k.K k.calm k.u (S.E k c2) (k.gl q2) (k.blt _ q1) boot_sorted n3 n1 (k.gl g2) m2 b2 n6 n4 he he2 fun q => rfl
      · split at h
        · rename_i e
          obtain rfl := eq_of_beq e
          cases c2 : t.E sc false a with
          | none => rw [c2] at h; cases h
          | some m' =>
            rw [c2] at h
            cases h
            exact d_lenSet k.K k.calm (S.E k c2) (k.gl q2) (k.blt _ q1) boot_len n3 n1 (k.gl g2) m2 b2 n6 n4 he he2 fun q => rfl
        · cases h
    | none =>
      rw [c] at h
      simp only at h
      split at h
      · rename_i a es f ms h1 h2
        cases h
        obtain ⟨i1, i2⟩ := A_sound S k h2
        exact bf_sound k h1 q3 q2 (k.blt _ q1) (al_ad i1) i2
      · cases h
  · cases h
theorem kv_sound {fz : Bool} : ∀ {keys : List (Option Expr)} {values : List Expr} {l : List (M DV × M DV)}, trKV (t.E sc fz) keys values = some l → PPs X pos keys values (l.map fun z => (TEd C z.1, TEd C z.2)) ∧ keys.all (·.isSome) = true ∧ keys.length = values.length
  | [], [], _, h => by cases h; exact ⟨pps_nil, rfl, rfl⟩
  | some a :: ks, b :: vs, l, h => by
    unfold trKV at h
    split at h
    · rename_i ma mb l' h1 h2 h3
      cases h
      obtain ⟨i1, i2, i3⟩ := kv_sound (keys := ks) (values := vs) h3
      exact ⟨pps_cons (S.E k h1) (S.E k h2) i1, by simp [i2], by simp [i3]⟩
    · cases h
  | [], _ :: _, _, h => by cases h
  | none :: _, _, _, h => by cases h
  | some _ :: _, [], _, h => by cases h
theorem dct_sound {keys : List (Option Expr)} {values : List Expr} (h : dctF (t.E sc true) keys values = some m) : PE X (.Dict keys values pos) (TEf C m) := by
  unfold dctF at h
  split at h
  · cases h; exact d_dct0 k.K
  · rename_i q ks
    split at h
    · rename_i l15
      have l15 := of_decide_eq_true l15
      cases c : trKV (t.E sc true) (q :: ks) values with
      | none => rw [c] at h; cases h
      | some l =>
        rw [c] at h
        cases h
        obtain ⟨i1, i2, i3⟩ := kv_sound S k (pos := pos) c
        exact d_dct k.K k.w k.u i1 i2 i3 (List.cons_ne_nil _ _) (by simp only [List.length_cons]; omega)
    · cases h
  · cases h
theorem stF_sound (h : stF T t sc e = some m) : PE X e (TEf C m) := by
  unfold stF at h
  split at h
  · rename_i es p
    cases c : trA (t.E sc true) es with
    | none => rw [c] at h; cases h
    | some ms => rw [c] at h; cases h; exact d_lst (al_ad (A_sound S k c).1)
  · rename_i elt gens scope p
    split at h
    · exact (lcOne_sound S k h).1
    · exact (lcTwo_sound S k h).1
    · cases h
  · rename_i a op b p
    split at h
    · rename_i f ma mb h1 h2 h3
      cases h
      exact d_bin (bin_sound k h1) (S.E k h2) (S.E k h3)
    · cases h
  · rename_i a p
    cases c : t.E sc false a with
    | none => rw [c] at h; cases h
    | some m' =>
      rw [c] at h
      cases h
      exact d_una (by rw [k.K]; exact o_neg) (S.E k c)
  · rename_i a op b p
    split at h
    · rename_i f ma mb h1 h2 h3
      split at h
      · rename_i ns
        cases h
        exact d_cmp (cmp_sound k h1) (S.E k h2) (S.E k h3) (marks_no ns)
      · cases h
    · cases h
  · rename_i a lo hi p2 p
    split at h
    · rename_i m' ml mu h1 h2 h3
      cases h
      exact d_sl k.K (S.E k h1) (P_sound S k h2) (P_sound S k h3)
    · cases h
  · rename_i a st p2 p
    split at h
    · rename_i m' mk h1 h2
      cases h
      exact d_rev k.K (S.E k h1) (S.E k h2)
    · cases h
  · exact bifF_sound S k h
  · exact dct_sound S k h
  · split at h
    · exact (dcOne_sound S k h).1
    · cases h
  · cases h
end
end DL
/-! D22: the translator of expressions: the whole. -/
namespace DL
open PySem PySem.Spec L2
variable [WorldC]

def isiCall (T : Tab) (t : Trr) (sc : Scope) (x : Str) : List Expr → Option (M DV)
  | [a, .Name y _] => match tyOf y, t.E sc false a with
    | some ty, some m => if x == "isinstance" && T.blt.contains x && isGl sc x && okName x && T.blt.contains y && isGl sc y && okName y && noStar a then some (mOp (isiP ty) (mCons m mNil)) else none
    | _, _ => none
  | _ => none
def scrLen (T : Tab) (sc : Scope) (x : Str) : List Expr → Option (M DV)
  | [.Name y _] => if x == "len" && T.blt.contains x && isGl sc x && okName x && T.scr.contains y && okName y && isVis sc y then (ixOf T.N y).map mScrLen else none
  | _ => none
def orElse {α : Type} (a b : Option α) : Option α := match a with
  | some x => some x
  | none => b
theorem orElse_some {α : Type} {a b : Option α} {x : α} (h : orElse a b = some x) : a = some x ∨ b = some x := by
  cases a with
  | none => exact .inr h
  | some y => exact .inl h
def funCall (T : Tab) (t : Trr) (sc : Scope) (x : Str) (args : List Expr) : Option (M DV) := match T.fns.lookup x, trA (t.E sc true) args with
  | some (k, F), some ms => if isGl sc x && okName x && args.length == k then some (mCall F ms) else none
  | _, _ => none
def mutCall (t : Trr) (sc : Scope) (a : Expr) (nm : Str) (ap pos : Pos) (args : List Expr) : Option (M DV) := match meOf nm, t.E sc false a, trA (t.E sc true) args with
  | some f, some m, some ms => if noCall a && ap.endLine == pos.line && decide (args.length < 30) then some (mMut f.f m ms) else none
  | _, _, _ => none
def metCall (t : Trr) (sc : Scope) (a : Expr) (nm : Str) (ap pos : Pos) (args : List Expr) : Option (M DV) := match args with
  | [] => none
  | b :: es => match rmOf nm, t.E sc false a, trA (t.E sc true) (b :: es) with
    | some f, some m, some ms => if noCall a && ap.endLine == pos.line && decide (es.length < 29) then some (mMeth f.k f.f m ms) else none
    | _, _, _ => none
def idxE (T : Tab) (t : Trr) (sc : Scope) (a b : Expr) : Option (M DV) := match t.E sc false b with
  | some mb => match a with
    | .Name x _ => if T.scr.contains x && okName x && isVis sc x then (ixOf T.N x).map fun i => mScrIx i mb else (t.E sc false a).map fun m => mOp idxP (mCons m (mCons mb mNil))
    | _ => (t.E sc false a).map fun m => mOp idxP (mCons m (mCons mb mNil))
  | none => none
def nameE (T : Tab) (sc : Scope) (fz : Bool) (x : Str) : Option (M DV) :=
  if okName x then (if isVis sc x then (ixOf T.N x).map (if fz then mFz else mVar) else if isGl sc x then (T.cst.lookup x).map mK else none) else none
noncomputable def stE (T : Tab) (t : Trr) (sc : Scope) (fz : Bool) (e : Expr) : Option (M DV) := match e with
  | .Constant c _ _ => (constP c).map mK
  | .Name x _ => nameE T sc fz x
  | .Tuple es _ _ => (trA (t.E sc true) es).map mTup
  | .BoolOp op es _ => trV (t.E sc false) op es
  | .UnaryOp .Not a _ => (t.E sc false a).map fun m => mVal (mNot (mTru m))
  | .IfExp c a b _ => match t.B sc c, t.E sc fz a, t.E sc fz b with
    | some mc, some ma, some mb => some (mIte mc ma mb)
    | _, _, _ => none
  | .Compare a [o1, o2] [b, c] _ => match cmpOp o1, cmpOp o2, t.E sc false a, t.E sc false b, t.E sc false c with
    | some f, some g, some ma, some mb, some mc => if noSet c then some (mChain f g ma mb mc) else none
    | _, _, _, _, _ => none
  | .Subscript a b _ => if noSlice b then idxE T t sc a b else t.F sc e
  | .Call (.Name x _) args [] _ => orElse (funCall T t sc x args) (orElse (isiCall T t sc x args) (orElse (scrLen T sc x args) (t.F sc e)))
  | .Call (.Attribute a nm ap) args [] pos => orElse (mutCall t sc a nm ap pos args) (metCall t sc a nm ap pos args)
  | _ => t.F sc e
def stB (T : Tab) (t : Trr) (sc : Scope) (e : Expr) : Option (M Bool) := match e with
  | .UnaryOp .Not a _ => (t.B sc a).map mNot
  | .BoolOp op es _ => trW (t.B sc) op es
  | .Compare a [op] [b] _ => match cmpOp op, t.E sc false a, t.E sc false b with
    | some f, some ma, some mb => if noSet b then some (mBl (mOp f (mCons ma (mCons mb mNil)))) else none
    | _, _, _ => none
  | .Compare a [o1, o2] [b, c] _ => match cmpOp o1, cmpOp o2, t.E sc false a, t.E sc false b, t.E sc false c with
    | some f, some g, some ma, some mb, some mc => if noSet c then some (mBl (mChain f g ma mb mc)) else none
    | _, _, _, _, _ => none
  | e => if plainT e then (t.E sc false e).map mTru else none
noncomputable def stepT (T : Tab) (t : Trr) : Trr := ⟨stE T t, stF T t, stB T t⟩
noncomputable def trN (T : Tab) : Nat → Trr
  | 0 => ⟨fun _ _ _ => none, fun _ _ => none, fun _ _ => none⟩
  | n + 1 => stepT T (trN T n)

section
variable {T : Tab} {t : Trr} (S : Snd T t) {X : Cx} {C : Ct} {sc : Scope} (k : Cok T X C sc) {a b c e : Expr} {es : List Expr} {pos p : Pos} {m : M DV}
include S k
theorem isi_sound {x : Str} (h : isiCall T t sc x es = some m) : PE X (.Call (.Name x p) es [] pos) (TEd C m) := by
  unfold isiCall at h
  split at h
  · rename_i a y p2
    split at h
    · rename_i ty m' h1 h2
      split at h
      · rename_i q
        cases h
        simp only [Bool.and_eq_true, List.contains_iff_mem] at q
        obtain ⟨⟨⟨⟨⟨⟨⟨q1, q2⟩, q3⟩, q4⟩, q5⟩, q6⟩, q7⟩, q8⟩ := q
        obtain rfl := eq_of_beq q1
        obtain ⟨n1, n2, n3⟩ := okName_of q4
        obtain ⟨n4, n5, n6⟩ := okName_of q7
        exact d_isi k.K (k.gl q3) (k.blt _ q2) (by decide +kernel) (k.gl q6) (k.blt _ q5) (boot_ty h1) (S.E k h2) n3 n1 n6 n4 (star_cons q8) rfl rfl
      · cases h
    · cases h
  · cases h
omit S in
theorem scrLen_sound {x : Str} (h : scrLen T sc x es = some m) : PE X (.Call (.Name x p) es [] pos) (TEd C m) := by
  unfold scrLen at h
  split at h
  · rename_i y p2
    split at h
    · rename_i q
      simp only [Bool.and_eq_true, List.contains_iff_mem] at q
      obtain ⟨⟨⟨⟨⟨⟨q1, q2⟩, q3⟩, q4⟩, q5⟩, q6⟩, q7⟩ := q
      obtain rfl := eq_of_beq q1
      obtain ⟨n1, n2, n3⟩ := okName_of q4
      obtain ⟨n4, n5, n6⟩ := okName_of q6
      cases c : ixOf T.N y with
      | none => rw [c] at h; cases h
      | some i =>
        rw [c] at h
        cases h
        exact d_scrLen k.K (k.ix c) (k.vis q7) n4 n5 (k.gl q3) (k.blt _ q2) boot_len n3 n1 rfl rfl
    · cases h
  · cases h
theorem fun_sound {x : Str} (h : funCall T t sc x es = some m) : PE X (.Call (.Name x p) es [] pos) (TEd C m) := by
  unfold funCall at h
  split at h
  · rename_i j F ms h1 h2
    split at h
    · rename_i q
      cases h
      simp only [Bool.and_eq_true] at q
      obtain ⟨⟨q1, q2⟩, q3⟩ := q
      have q3 := eq_of_beq q3
      obtain ⟨n1, n2, n3⟩ := okName_of q2
      obtain ⟨kk, f, fd, ps, O, r, hm, kp, hb⟩ := k.fns x j F h1
      obtain ⟨i1, i2⟩ := A_sound S k h2
      cases es with
      | nil =>
        cases h2
        have q3 : (0 : Nat) = j := q3
        subst q3
        exact d_call0 O r (k.gl q1) hm kp hb k.tk n1
      | cons a es =>
        rw [q3] at i1
        simp only [List.all_cons, Bool.and_eq_true] at i2
        exact d_call O r (k.gl q1) hm kp hb k.tk i1 n1 (star_cons i2.1) (back_any i2.2)
    · cases h
  · cases h
theorem mut_sound {nm : Str} {ap : Pos} (h : mutCall t sc a nm ap pos es = some m) : PE X (.Call (.Attribute a nm ap) es [] pos) (TEd C m) := by
  unfold mutCall at h
  split at h
  · rename_i f m' ms h1 h2 h3
    split at h
    · rename_i q
      cases h
      simp only [Bool.and_eq_true, decide_eq_true_eq] at q
      obtain ⟨⟨q1, q2⟩, q3⟩ := q
      obtain ⟨m1, m2, m3⟩ := me_sound k h1
      obtain ⟨i1, i2⟩ := A_sound S k h3
      rw [k.K] at m3
      cases es with
      | nil =>
        cases h3
        exact d_mut0 k.K m1 PySem.F.plainAttrs_list m2 (by rw [k.K]; exact m3) (S.E k h2) (base_no q1) q2
      | cons b es =>
        have i2' := i2
        simp only [List.all_cons, Bool.and_eq_true] at i2'
        refine d_mut k.K m1 PySem.F.plainAttrs_list m2 (by rw [k.K]; exact m3) (S.E k h2) (al_ad i1) (base_no q1) ?_ q2 (star_cons i2'.1) (back_any i2'.2)
        rw [back_all i2, Bool.true_and, Bool.and_eq_true]
        exact ⟨rfl, decide_eq_true (by simpa using q3)⟩
    · cases h
  · cases h
theorem met_sound {nm : Str} {ap : Pos} (h : metCall t sc a nm ap pos es = some m) : PE X (.Call (.Attribute a nm ap) es [] pos) (TEd C m) := by
  unfold metCall at h
  split at h
  · cases h
  · rename_i b es
    split at h
    · rename_i f m' ms h1 h2 h3
      split at h
      · rename_i q
        cases h
        simp only [Bool.and_eq_true, decide_eq_true_eq] at q
        obtain ⟨⟨q1, q2⟩, q3⟩ := q
        obtain ⟨m0, m1, m2, m3⟩ := rm_sound k h1
        obtain ⟨i1, i2⟩ := A_sound S k h3
        have i2' := i2
        simp only [List.all_cons, Bool.and_eq_true] at i2'
        refine d_met k.K m0 m1 m2 m3 (S.E k h2) (al_ad i1) (base_no q1) ?_ q2 (star_cons i2'.1) (back_any i2'.2)
        rw [back_all i2, Bool.true_and, Bool.and_eq_true]
        exact ⟨rfl, decide_eq_true (by simp only [List.length_cons, List.length_nil, List.isEmpty_nil, if_true]; omega)⟩
      · cases h
    · cases h
theorem idx_sound (ns : noSlice b = true) (h : idxE T t sc a b = some m) : PE X (.Subscript a b pos) (TEd C m) := by
  have plain : ∀ {mb : M DV}, t.E sc false b = some mb → (t.E sc false a).map (fun m => mOp idxP (mCons m (mCons mb mNil))) = some m → PE X (.Subscript a b pos) (TEd C m) := fun {mb} hb h => by
    cases c : t.E sc false a with
    | none => rw [c] at h; cases h
    | some ma => rw [c] at h; cases h; exact d_idx (by rw [k.K]; exact o_idx k.w k.u) (S.E k c) (S.E k hb) (plain_ix ns)
  unfold idxE at h
  split at h
  · rename_i mb hb
    split at h
    · rename_i x p
      split at h
      · rename_i q
        simp only [Bool.and_eq_true, List.contains_iff_mem] at q
        obtain ⟨n4, n5, n6⟩ := okName_of q.1.2
        cases c : ixOf T.N x with
        | none => rw [c] at h; cases h
        | some i =>
          rw [c] at h
          cases h
          exact d_scrIx k.K (k.ix c) (k.vis q.2) n4 n5 (S.E k hb) (plain_ix ns)
      · exact plain hb h
    · exact plain hb h
  · cases h
omit S in
theorem name_sound {x : Str} {fz : Bool} (h : nameE T sc fz x = some m) : PE X (.Name x pos) (TEd C m) := by
  unfold nameE at h
  split at h
  · rename_i o
    obtain ⟨n1, n2, n3⟩ := okName_of o
    split at h
    · rename_i v
      cases c : ixOf T.N x with
      | none => rw [c] at h; cases h
      | some i =>
        rw [c] at h
        cases h
        cases fz with
        | true => exact d_fz (k.ix c) (k.vis v) n1 n2
        | false => exact d_var (k.ix c) (k.vis v) n1 n2
    · split at h
      · rename_i g
        cases c : T.cst.lookup x with
        | none => rw [c] at h; cases h
        | some q =>
          rw [c] at h
          cases h
          obtain ⟨v, u, h1, h2, h3⟩ := k.cst x q c
          exact d_con (pe_glob (k.gl g) h1 h2 n1) fun H W => by rw [k.K]; exact h3 H W
      · cases h
  · cases h
theorem stE_sound {fz : Bool} (h : stE T t sc fz e = some m) : PE X e (TEd C m) := by
  unfold stE at h
  split at h
  · rename_i q j p
    cases c : constP q with
    | none => rw [c] at h; cases h
    | some r => rw [c] at h; cases h; exact const_sound c
  · exact name_sound k h
  · rename_i es j p
    cases c : trA (t.E sc true) es with
    | none => rw [c] at h; cases h
    | some ms => rw [c] at h; cases h; exact d_tup (al_ad (A_sound S k c).1)
  · exact trV_sound (fun a m q => S.E k q) h
  · rename_i a p
    cases c : t.E sc false a with
    | none => rw [c] at h; cases h
    | some m' => rw [c] at h; cases h; exact v_not k.K k.w (S.E k c)
  · rename_i c a b p
    split at h
    · rename_i mc ma mb h1 h2 h3
      cases h
      exact v_ite (S.B k h1) (S.E k h2) (S.E k h3)
    · cases h
  · rename_i a o1 o2 b c p
    split at h
    · rename_i f g ma mb mc h1 h2 h3 h4 h5
      split at h
      · rename_i ns
        cases h
        exact d_chain (cmp_sound k h1) (cmp_sound k h2) (S.E k h3) (S.E k h4) (S.E k h5) (last_no ns)
      · cases h
    · cases h
  · rename_i a b p
    split at h
    · rename_i ns
      exact idx_sound S k ns h
    · exact pe_f (S.F k h)
  · rename_i x p args p2
    rcases orElse_some h with h | h
    · exact fun_sound S k h
    · rcases orElse_some h with h | h
      · exact isi_sound S k h
      · rcases orElse_some h with h | h
        · exact scrLen_sound k h
        · exact pe_f (S.F k h)
  · rcases orElse_some h with h | h
    · exact mut_sound S k h
    · exact met_sound S k h
  · exact pe_f (S.F k h)
theorem stB_sound {mb : M Bool} (h : stB T t sc e = some mb) : PT X e (TTd C mb) := by
  unfold stB at h
  split at h
  · rename_i a p
    cases c : t.B sc a with
    | none => rw [c] at h; cases h
    | some m' => rw [c] at h; cases h; exact t_not (S.B k c)
  · rename_i op es p
    exact (trW_sound (fun a m q => S.B k q) h).pt
  · rename_i a op b p
    split at h
    · rename_i f ma mb h1 h2 h3
      split at h
      · rename_i ns
        cases h
        exact t_cmp (cmp_sound k h1) (S.E k h2) (S.E k h3) (marks_no ns)
      · cases h
    · cases h
  · rename_i a o1 o2 b c p
    split at h
    · rename_i f g ma mb mc h1 h2 h3 h4 h5
      split at h
      · rename_i ns
        cases h
        exact t_chain (cmp_sound k h1) (cmp_sound k h2) (S.E k h3) (S.E k h4) (S.E k h5) (last_no ns)
      · cases h
    · cases h
  · split at h
    · rename_i pl
      cases c : t.E sc false e with
      | none => rw [c] at h; cases h
      | some m' => rw [c] at h; cases h; exact t_tru k.K k.w (S.E k c) (true_no pl)
    · cases h
end
theorem trN_sound (T : Tab) : ∀ n, Snd T (trN T n)
  | 0 => by
    refine ⟨?_, ?_, ?_⟩
    · intro X C sc k fz e m h; cases h
    · intro X C sc k e m h; cases h
    · intro X C sc k e m h; cases h
  | n + 1 => by
    have S := trN_sound T n
    refine ⟨?_, ?_, ?_⟩
    · intro X C sc k fz e m h; exact stE_sound S k h
    · intro X C sc k e m h; exact stF_sound S k h
    · intro X C sc k e m h; exact stB_sound S k h
end DL
/-! D23: the translator of statements. -/
namespace DL
open PySem PySem.Spec L2
variable [WorldC]

structure An where
  own : List Str
  push : Bool
  wh : Nat
  live : List Str
structure Sok (T : Tab) (X : Cx) (C : Ct) (sc : Scope) : Prop where
  k : Cok T X C sc
  kind : sc.kind = .function
  fn : ∀ x, X.fn x = true
  pass : PassesOwn (model X.prog X.w) X.A X.env X.xe
  stk : X.stack = X.env :: X.outer
  frm : X.env.frame = some X.env.locals
section
variable {T : Tab} {X : Cx} {C : Ct} {sc : Scope}
theorem Sok.g (s : Sok T X C sc) : Gok X sc := ⟨fun x h => by rw [s.k.sc]; exact h, fun x h => ⟨by rw [s.k.sc]; exact h, s.fn x⟩⟩
theorem Sok.kindX (s : Sok T X C sc) : X.env.scope.kind = .function := by rw [s.k.sc]; exact s.kind
theorem Sok.blk (s : Sok T X C sc) : X.env.blockKind = .function := by
  unfold PySem.Env.blockKind
  rw [s.kindX]
  rfl
end
def sStuck : M Fl := fun _ _ => .stuck
theorem s_stuck {X : Cx} {C : Ct} {st : Stmt} : PS X st (TSd C sStuck) := ⟨fun pins s σ H D I h => by obtain ⟨B, φ, e, hh, sr, q⟩ := h; exact q.elim⟩
def trSs (f : Stmt → Option (M Fl)) : List Stmt → Option (M Fl)
  | [] => some sNil
  | s :: ss => match f s, trSs f ss with
    | some m, some ms => some (sCons m ms)
    | _, _ => none
def isLocal (sc : Scope) (x : Str) : Bool := match sc.names.lookup x with
  | some .local => true
  | _ => false
theorem isLocal_of {sc : Scope} {x : Str} (h : isLocal sc x = true) : sc.names.lookup x = some .local := by
  unfold isLocal at h
  split at h <;> simp_all
/-- a comprehension's list goes to the name at once -/
def swOk (sc : Scope) (x : Str) (px : Pos) (scope : Scope) (p : Pos) : Bool := isLocal sc x && px.line == p.line && !(scope.names.any fun (n, k) => n == x && (k == .local || k == .cell))
def parB (sc : Scope) (x y : Str) (px py : Pos) (a b : Expr) : Bool := isLocal sc x && isLocal sc y && py.line == px.line && !(x == y) && noStar a && noStar b && !([a, b].all (foldedForSure 8)) && !([a, b].all (constantsAlone 8))
/-- the value of a tuple target that is not stored name by name -/
def tgtB (ts : List Expr) (v : Expr) : Bool := match v with
  | .Tuple vs _ _ => ts.length == 2 && vs.all (foldedForSure 8) && vs.all noStar
  | _ => true
noncomputable def asgName (T : Tab) (t : Trr) (an : An) (sc : Scope) (x : Str) (px : Pos) (v : Expr) : Option (M Fl) := match ixOf T.N x with
  | some i => if noComp v then (if isLoc sc x then (if an.own.contains x then (t.F sc v).map (sOwn i) else (t.E sc true v).map (sAsg i)) else none)
    else match v with
      | .ListComp elt gens scope p => if swOk sc x px scope p then (match gens with
        | [⟨tg, it, ifs, 0⟩] => (lcOne T t sc elt tg it ifs scope).map fun m => if an.own.contains x then sOwn i m else sAsg i m
        | [⟨tg, it, ifs, 0⟩, ⟨tg1, it1, ifs1, 0⟩] => (lcTwo T t sc elt tg it ifs tg1 it1 ifs1 scope).map fun m => if an.own.contains x then sOwn i m else sAsg i m
        | _ => none) else none
      | .DictComp kx vx gens scope p => if swOk sc x px scope p then (match gens with
        | [⟨tg, it, ifs, 0⟩] => (dcOne T t sc kx vx tg it ifs scope).map fun m => if an.own.contains x then sOwn i m else sAsg i m
        | _ => none) else none
      | _ => none
  | none => none
def eoF (t : Trr) (sc : Scope) (o : Bool) (e : Expr) : Option (M DV) := if o then t.F sc e else t.E sc true e
def parU (sc : Scope) (x y : Str) (a b : Expr) : Bool := isLoc sc x && isLoc sc y && !(isLocal sc x && isLocal sc y) && !(x == y) && noStar a && noStar b
def parU3 (sc : Scope) (an : An) (x y z : Str) (a b c : Expr) : Bool := isLoc sc x && isLoc sc y && isLoc sc z && !(isLocal sc x && isLocal sc y && isLocal sc z) && !(an.own.contains x) && !(an.own.contains y) && noStar a && noStar b && noStar c
def asgPar (T : Tab) (t : Trr) (an : An) (sc : Scope) (ts : List Expr) (v : Expr) : Option (M Fl) := match ts, v with
  | [.Name x px, .Name y py, .Name z pz], .Tuple [a, b, c] _ _ => if parU3 sc an x y z a b c then match ixOf T.N x, ixOf T.N y, ixOf T.N z, t.E sc true a, t.E sc true b, eoF t sc (an.own.contains z) c with
    | some i, some j, some l, some ma, some mb, some mc => some (sPar3 (an.own.contains z) i j l ma mb mc)
    | _, _, _, _, _, _ => none
    else none
  | [.Name x px, .Name y py], .Tuple [a, b] _ _ => if parB sc x y px py a b then match ixOf T.N x, ixOf T.N y, eoF t sc (an.own.contains x) a, eoF t sc (an.own.contains y) b with
    | some i, some j, some ma, some mb => some (sParO (an.own.contains x) (an.own.contains y) i j ma mb)
    | _, _, _, _ => none
    else if parU sc x y a b then match ixOf T.N x, ixOf T.N y, eoF t sc (an.own.contains x) a, eoF t sc (an.own.contains y) b with
    | some i, some j, some ma, some mb => some (sParO (an.own.contains x) (an.own.contains y) i j ma mb)
    | _, _, _, _ => none
    else none
  | _, _ => none
def asgTup (T : Tab) (t : Trr) (sc : Scope) (ts : List Expr) (k : Nat) (p : Pos) (v : Expr) : Option (M Fl) := if tgtB ts v && noComp v then match trG T.N sc 4 (.Tuple ts k p), t.E sc true v with
    | some g, some m => some (sTgt g m)
    | _, _ => none
  else none
def asgSub (t : Trr) (sc : Scope) (o i v : Expr) : Option (M Fl) := if noComp v then match i with
    | .Slice (some lo) (some hi) none _ => match t.E sc true v, t.E sc false o, t.E sc false lo, t.E sc false hi with
      | some m, some mo, some ml, some mh => some (sCut m mo (mPt ml) (mPt mh))
      | _, _, _, _ => none
    | i => if noSlice i then match t.E sc true v, t.E sc false o, t.E sc false i with
      | some m, some mo, some mi => some (sSet m mo mi)
      | _, _, _ => none
      else none
  else none
def retN (T : Tab) (an : An) (sc : Scope) (e : Expr) : Option (M Fl) := match e with
  | .Name x _ => if an.own.contains x && okName x && isVis sc x then (ixOf T.N x).map fun i => sRet (mFrP i) else none
  | _ => none
def retE (T : Tab) (t : Trr) (an : An) (sc : Scope) (e : Expr) : Option (M Fl) := if an.push then orElse (retN T an sc e) ((t.F sc e).map fun m => sRet (mPush m)) else (t.E sc true e).map sRet
/-- a loop over a list of the store -/
def liveN (an : An) (e : Expr) : Bool := match e with
  | .Name x _ => an.live.contains x
  | _ => false
def raisS (T : Tab) (sc : Scope) (x : Str) : Option (M Fl) := match ixOf T.exc x with
  | some i => if isGl sc x && okName x then some (sRaise i) else none
  | none => some sStuck
def trH (T : Tab) (sc : Scope) : List ExceptHandler → Option (List (Nat × P))
  | [] => some []
  | .ExceptHandler (some (.Name x _)) none [.Return (some (.Constant c _ _)) _] _ :: r => if isGl sc x && okName x then (match ixOf T.exc x, constP c, trH T sc r with
    | some i, some p, some l => some ((i, p) :: l)
    | _, _, _ => none) else none
  | _ :: _ => none
noncomputable def stS (T : Tab) (t : Trr) (an : An) (sc : Scope) (r : Stmt → Option (M Fl)) (s : Stmt) : Option (M Fl) := match s with
  | .Expr e _ => match e with
    | .Constant (.str _) _ _ => some sNil
    | _ => if noComp e then (t.E sc false e).map sExpr else none
  | .Pass _ => some sNil
  | .Break _ => some sBrk
  | .Continue _ => some sCont
  | .Return o _ => match o with
    | none => some (sRet (mK .none))
    | some e => retE T t an sc e
  | .If c a b _ => match t.B sc c, trSs r a, trSs r b with
    | some mc, some ma, some mb => some (sIf mc ma mb)
    | _, _, _ => none
  | .While c a [] _ => match t.B sc c, trSs r a with
    | some mc, some ma => some (sWh an.wh mc ma)
    | _, _ => none
  | .For tg it a [] _ => if noSet it then (if liveN an it then match t.E sc false it, trG T.N sc 4 tg, trSs r a with
    | some m, some g, some ma => some (sForO g m ma)
    | _, _, _ => none
    else match trI T t sc tg it, trG T.N sc 4 tg, trSs r a with
    | some mi, some g, some ma => some (sFor g mi ma)
    | _, _, _ => none)
    else none
  | .Assign [tg] v _ => match tg with
    | .Name x px => asgName T t an sc x px v
    | .Tuple ts k p => orElse (asgPar T t an sc ts v) (asgTup T t sc ts k p v)
    | .Subscript o i _ => asgSub t sc o i v
    | _ => none
  | .Raise (some (.Call (.Name x _) [.Constant (.str _) _ _] [] _)) none _ => raisS T sc x
  | .Try body (h₀ :: hds) [] [] _ => match trSs r body, trH T sc (h₀ :: hds) with
    | some mb, some hs => some (sTry T.exc.length hs mb)
    | _, _ => none
  | _ => none

theorem star_two {a b : Expr} (ha : noStar a = true) (hb : noStar b = true) : ([a, b].any fun x => match x with | .Starred _ _ => true | _ => false) = false := by
  have one : ∀ c : Expr, noStar c = true → (match c with | .Starred _ _ => true | _ => false) = false := fun c h => by
    cases c <;> first | rfl | cases h
  simp only [List.any_cons, List.any_nil, one a ha, one b hb, Bool.or_false]
section
variable {T : Tab} {t : Trr} (S : Snd T t) {X : Cx} {C : Ct} {sc : Scope} (k : Sok T X C sc) {an : An} {v e o i : Expr} {ts : List Expr} {pos p px : Pos} {n : M Fl}
theorem trSs_sound {X : Cx} {C : Ct} {r : Stmt → Option (M Fl)} (hr : ∀ s m, r s = some m → PS X s (TSd C m)) : ∀ {ss : List Stmt} {m : M Fl}, trSs r ss = some m → PSs X ss (TSd C m)
  | [], _, h => by cases h; exact s_nil
  | s :: ss, m, h => by
    unfold trSs at h
    split at h
    · rename_i m1 m2 h1 h2
      cases h
      exact s_cons (hr s m1 h1) (trSs_sound hr h2)
    · cases h
theorem sw_ok {scope : Scope} {x : Str} {l : Nat} {elt : Expr} {gs : List Comprehension} (k : Sok T X C sc) (h : swOk sc x px scope p = true) : X.env.scope.names.lookup x = some .local ∧ swapsWith (.ListComp elt gs scope p) (some (.Name x px)) l X.env = pure true := by
  unfold swOk at h
  simp only [Bool.and_eq_true, Bool.not_eq_true'] at h
  obtain ⟨⟨h1, h2⟩, h3⟩ := h
  have hl : X.env.scope.names.lookup x = some .local := by rw [k.k.sc]; exact isLocal_of h1
  exact ⟨hl, sw_true k.kindX hl h2 h3⟩
include S k
theorem asgName_sound {x : Str} (h : asgName T t an sc x px v = some n) : PS X (.Assign [.Name x px] v pos) (TSd C n) := by
  have nd : X.N.Nodup := by rw [k.k.N]; exact k.k.nd
  unfold asgName at h
  split at h
  · rename_i i hi
    split at h
    · rename_i nc
      split at h
      · rename_i l
        have lx : L2.Loc X.env.scope x := (k.g.of l).1
        split at h
        · cases c : t.F sc v with
          | none => rw [c] at h; cases h
          | some m => rw [c] at h; cases h; exact s_own nd (k.k.ix hi) lx (S.F k.k c) (swaps_no nc) (.inl (k.fn x))
        · cases c : t.E sc true v with
          | none => rw [c] at h; cases h
          | some m => rw [c] at h; cases h; exact s_asg nd (k.k.ix hi) lx (S.E k.k c) (swaps_no nc) (.inl (k.fn x))
      · cases h
    · split at h
      · rename_i elt gens scope p _
        split at h
        · rename_i sw
          split at h
          · rename_i tg it ifs _
            cases c : lcOne T t sc elt tg it ifs scope with
            | none => rw [c] at h; cases h
            | some m =>
              rw [c] at h
              cases h
              obtain ⟨w1, w2⟩ := sw_ok (l := pos.line) (elt := elt) (gs := [⟨tg, it, ifs, 0⟩]) k sw
              exact (lcOne_sound S k.k c).2 (k.k.ix hi) w1 w2 _
          · rename_i tg it ifs tg1 it1 ifs1 _
            cases c : lcTwo T t sc elt tg it ifs tg1 it1 ifs1 scope with
            | none => rw [c] at h; cases h
            | some m =>
              rw [c] at h
              cases h
              obtain ⟨w1, w2⟩ := sw_ok (l := pos.line) (elt := elt) (gs := [⟨tg, it, ifs, 0⟩, ⟨tg1, it1, ifs1, 0⟩]) k sw
              exact (lcTwo_sound S k.k c).2 (k.k.ix hi) w1 w2 _
          · cases h
        · cases h
      · rename_i kx vx gens scope p _
        split at h
        · rename_i sw
          split at h
          · rename_i tg it ifs _
            cases c : dcOne T t sc kx vx tg it ifs scope with
            | none => rw [c] at h; cases h
            | some m =>
              rw [c] at h
              cases h
              unfold swOk at sw
              simp only [Bool.and_eq_true, Bool.not_eq_true'] at sw
              obtain ⟨⟨w1, w2⟩, w3⟩ := sw
              have hl : X.env.scope.names.lookup x = some .local := by rw [k.k.sc]; exact isLocal_of w1
              exact (dcOne_sound S k.k c).2 (k.k.ix hi) hl (sw_dc k.kindX hl w2 w3) _
          · cases h
        · cases h
      · cases h
  · cases h
theorem eo_sound {o : Bool} {m : M DV} (h : eoF t sc o e = some m) : PE X e (TEo C o m) := by
  cases o with
  | true => exact S.F k.k h
  | false => exact S.E k.k h
omit S in
theorem par_swap {x y : Str} {py pt pt2 : Pos} {kt k2 : Nat} {a b : Expr} (h : parB sc x y px py a b = true) : X.env.scope.names.lookup x = some .local ∧ X.env.scope.names.lookup y = some .local ∧ x ≠ y ∧ noStar a = true ∧ noStar b = true ∧
    swappedStores [.Tuple [.Name x px, .Name y py] kt pt] (.Tuple [a, b] k2 pt2) X.env = pure (some [x, y]) := by
  unfold parB at h
  simp only [Bool.and_eq_true, Bool.not_eq_true'] at h
  obtain ⟨⟨⟨⟨⟨⟨⟨h1, h2⟩, h3⟩, h4⟩, h5⟩, h6⟩, h7⟩, h8⟩ := h
  have lx : X.env.scope.names.lookup x = some .local := by rw [k.k.sc]; exact isLocal_of h1
  have ly : X.env.scope.names.lookup y = some .local := by rw [k.k.sc]; exact isLocal_of h2
  have ne : x ≠ y := fun z => by rw [z] at h4; simp at h4
  refine ⟨lx, ly, ne, h5, h6, ?_⟩
  have bk : X.env.blockKind = .function := k.blk
  have kx : X.env.kindOf x = some .local := lx
  have ky : X.env.kindOf y = some .local := ly
  have st := star_two h5 h6
  unfold swappedStores
  simp only [bk]
  rw [if_neg (by simp)]
  split
  · rename_i z
    exact absurd (st.symm.trans z) Bool.false_ne_true
  have l3 : py.line = px.line := eq_of_beq h3
  have fm : ∀ g : Expr → Option Str, g (.Name x px) = some x → g (.Name y py) = some y → List.filterMap g [.Name x px, .Name y py] = [x, y] := fun g g1 g2 => by
    rw [List.filterMap_cons, g1]
    simp only [List.filterMap_cons, g2, List.filterMap_nil]
  have ed : [x, y].eraseDups = [x, y] := by
    have h9 : (y == x) = false := by simpa using Ne.symm ne
    simp [List.eraseDups_cons, List.filter, h9]
  rw [fm _ (by simp [kx, Expr.pos]) (by simp [ky, Expr.pos, l3])]
  rw [if_neg (by rw [ed]; simp), if_neg (by rw [h7]; decide), if_neg (by rw [h8]; decide)]
omit S in
theorem parU_swap {x y : Str} {py pt pt2 : Pos} {kt k2 : Nat} {a b : Expr} (h : parU sc x y a b = true) : isLoc sc x = true ∧ isLoc sc y = true ∧ x ≠ y ∧ noStar a = true ∧ noStar b = true ∧
    swappedStores [.Tuple [.Name x px, .Name y py] kt pt] (.Tuple [a, b] k2 pt2) X.env = pure none := by
  unfold parU at h
  simp only [Bool.and_eq_true, Bool.not_eq_true'] at h
  obtain ⟨⟨⟨⟨⟨h1, h2⟩, h3⟩, h4⟩, h5⟩, h6⟩ := h
  have ne : x ≠ y := fun z => by rw [z] at h4; simp at h4
  refine ⟨h1, h2, ne, h5, h6, ?_⟩
  have bk : X.env.blockKind = .function := k.blk
  have nl : ¬ (X.env.kindOf x = some .local ∧ X.env.kindOf y = some .local) := fun z => by
    obtain ⟨z1, z2⟩ := z
    have z1 : X.env.scope.names.lookup x = some .local := z1
    have z2 : X.env.scope.names.lookup y = some .local := z2
    rw [k.k.sc] at z1 z2
    unfold isLocal at h3
    rw [z1, z2] at h3
    cases h3
  have fm : ∀ g : Expr → Option Str, (g (.Name x px) = none ∨ g (.Name y py) = none) → (List.filterMap g [.Name x px, .Name y py]).length ≤ 1 := fun g hg => by
    rcases hg with hg | hg
    · rw [List.filterMap_cons, hg]
      simp only
      exact Nat.le_trans (List.length_filterMap_le _ _) (by simp)
    · rw [List.filterMap_cons]
      split
      · exact Nat.le_trans (List.length_filterMap_le _ _) (by simp)
      · simp only [List.filterMap_cons, hg, List.filterMap_nil, List.length_singleton, Nat.le_refl]
  unfold swappedStores
  simp only [bk]
  split
  · rfl
  · split
    · rfl
    · rw [if_pos]
      rw [Bool.or_eq_true]
      refine .inl ?_
      rw [bne_iff_ne]
      refine fun z => absurd (Nat.le_trans (Nat.le_of_eq z.symm) (fm _ ?_)) (by simp)
      · rcases Classical.em (X.env.kindOf x = some .local) with q | q
        · refine .inr ?_
          have q2 : ¬ X.env.kindOf y = some .local := fun z => nl ⟨q, z⟩
          simp [q2]
        · exact .inl (by simp [q])
omit S in
theorem parU3_swap {x y z : Str} {px py pz pt pt2 : Pos} {kt k2 : Nat} {a b c : Expr} (h : parU3 sc an x y z a b c = true) : isLoc sc x = true ∧ isLoc sc y = true ∧ isLoc sc z = true ∧ noStar a = true ∧ noStar b = true ∧ noStar c = true ∧
    swappedStores [.Tuple [.Name x px, .Name y py, .Name z pz] kt pt] (.Tuple [a, b, c] k2 pt2) X.env = pure none := by
  unfold parU3 at h
  simp only [Bool.and_eq_true, Bool.not_eq_true'] at h
  obtain ⟨⟨⟨⟨⟨⟨⟨⟨h1, h2⟩, h3⟩, h4⟩, _⟩, _⟩, h5⟩, h6⟩, h7⟩ := h
  refine ⟨h1, h2, h3, h5, h6, h7, ?_⟩
  have bk : X.env.blockKind = .function := k.blk
  have nl : ¬ (X.env.kindOf x = some .local ∧ X.env.kindOf y = some .local ∧ X.env.kindOf z = some .local) := fun q => by
    obtain ⟨z1, z2, z3⟩ := q
    have z1 : X.env.scope.names.lookup x = some .local := z1
    have z2 : X.env.scope.names.lookup y = some .local := z2
    have z3 : X.env.scope.names.lookup z = some .local := z3
    rw [k.k.sc] at z1 z2 z3
    unfold isLocal at h4
    rw [z1, z2, z3] at h4
    cases h4
  have one : ∀ (g : Expr → Option Str) (e : Expr), (List.filterMap g [e]).length ≤ 1 := fun g e => Nat.le_trans (List.length_filterMap_le _ _) (by simp)
  have fm : ∀ g : Expr → Option Str, (g (.Name x px) = none ∨ g (.Name y py) = none ∨ g (.Name z pz) = none) → (List.filterMap g [.Name x px, .Name y py, .Name z pz]).length ≤ 2 := fun g hg => by
    cases g1 : g (.Name x px) <;> cases g2 : g (.Name y py) <;> cases g3 : g (.Name z pz) <;> simp_all [List.filterMap_cons]
  unfold swappedStores
  simp only [bk]
  split
  · rfl
  · split
    · rfl
    · rw [if_pos]
      rw [Bool.or_eq_true]
      refine .inl ?_
      rw [bne_iff_ne]
      refine fun q => absurd (Nat.le_trans (Nat.le_of_eq q.symm) (fm _ ?_)) (by simp)
      by_cases q1 : X.env.kindOf x = some .local
      · by_cases q2 : X.env.kindOf y = some .local
        · have q3 : ¬ X.env.kindOf z = some .local := fun w => nl ⟨q1, q2, w⟩
          exact .inr (.inr (by simp [q3]))
        · exact .inr (.inl (by simp [q2]))
      · exact .inl (by simp [q1])
theorem asgPar_sound {p2 : Pos} {kk : Nat} (h : asgPar T t an sc ts v = some n) : PS X (.Assign [.Tuple ts kk p2] v pos) (TSd C n) := by
  have nd : X.N.Nodup := by rw [k.k.N]; exact k.k.nd
  unfold asgPar at h
  split at h
  · rename_i x px y py z pz a b c k2 pt2
    split at h
    · rename_i q
      obtain ⟨lx, ly, lz, na, nb, nc, sw⟩ := parU3_swap (px := px) (py := py) (pz := pz) (kt := kk) (pt := p2) (k2 := k2) (pt2 := pt2) k q
      split at h
      · rename_i i j l ma mb mc hi hj hl h1 h2 h3
        cases h
        exact s_par3 k.k.K k.k.calm nd (k.k.ix hi) (k.k.ix hj) (k.k.ix hl) (k.g.of lx).1 (k.g.of ly).1 (k.g.of lz).1 (.inl (k.fn _)) (.inl (k.fn _)) (.inl (k.fn _)) (S.E k.k h1) (S.E k.k h2) (eo_sound S k h3) (star_cons na) (star_cons nb) (star_cons nc) sw (sole_no rfl) (each_one rfl)
      · cases h
    · cases h
  · rename_i x px y py a b k2 pt2
    split at h
    · rename_i q
      obtain ⟨lx, ly, ne, na, nb, sw⟩ := par_swap (kt := kk) (pt := p2) (k2 := k2) (pt2 := pt2) k q
      split at h
      · rename_i i j ma mb hi hj h1 h2
        cases h
        have ij : i ≠ j := fun z => by
          have e1 := k.k.ix hi
          have e2 := k.k.ix hj
          rw [z, e2] at e1
          exact ne (Option.some.inj e1).symm
        exact s_parO k.k.calm nd (k.k.ix hi) (k.k.ix hj) ij lx ly (eo_sound S k h1) (eo_sound S k h2) (star_cons na) (star_cons nb) sw (sole_no rfl)
      · cases h
    · split at h
      · rename_i q
        obtain ⟨lx, ly, ne, na, nb, sw⟩ := parU_swap (px := px) (py := py) (kt := kk) (pt := p2) (k2 := k2) (pt2 := pt2) k q
        split at h
        · rename_i i j ma mb hi hj h1 h2
          cases h
          have ij : i ≠ j := fun z => by
            have e1 := k.k.ix hi
            have e2 := k.k.ix hj
            rw [z, e2] at e1
            exact ne (Option.some.inj e1).symm
          exact s_parU k.k.K k.k.calm nd (k.k.ix hi) (k.k.ix hj) ij (k.g.of lx).1 (k.g.of ly).1 (.inl (k.fn _)) (.inl (k.fn _)) (eo_sound S k h1) (eo_sound S k h2) (star_cons na) (star_cons nb) sw (sole_no rfl) (each_one rfl)
        · cases h
      · cases h
  · cases h
omit S in
theorem tup_swap {p2 : Pos} {kk : Nat} (h : tgtB ts v = true) : swappedStores [.Tuple ts kk p2] v X.env = pure none := by
  cases v with
  | Tuple vs k2 p3 =>
    unfold tgtB at h
    simp only [Bool.and_eq_true] at h
    obtain ⟨⟨h1, h2⟩, h3⟩ := h
    have bk : X.env.blockKind = .function := k.blk
    unfold swappedStores
    simp only [bk]
    split
    · rfl
    · split
      · rfl
      · split
        · rfl
        · first | rfl | rw [if_pos h2]
  | _ => rfl
theorem asgTup_sound {p2 : Pos} {kk : Nat} (h : asgTup T t sc ts kk p2 v = some n) : PS X (.Assign [.Tuple ts kk p2] v pos) (TSd C n) := by
  unfold asgTup at h
  split at h
  · rename_i q
    simp only [Bool.and_eq_true] at q
    split at h
    · rename_i g m h1 h2
      cases h
      exact s_tgt (S.E k.k h2) (trG_sound k.k k.g 4 h1) (sole_no q.2) (tup_swap k q.1) (each_one rfl)
    · cases h
  · cases h
omit S k in
theorem sub_assign {o i : Expr} {env : PySem.Env} (h : noSlice i = true) (v : Value) : assign (.Subscript o i p) env v = (do
      let ov ← holding [v] (eval o env)
      let iv ← holding [v, ov] (eval i env)
      standAt p
      holding [v, ov, iv] (setItem ov iv v)
      release [v, ov, iv] []) := by
  cases i <;> first | rfl | cases h
theorem asgSub_sound (h : asgSub t sc o i v = some n) : PS X (.Assign [.Subscript o i p] v pos) (TSd C n) := by
  unfold asgSub at h
  split at h
  · rename_i nc
    split at h
    · rename_i lo hi p3
      split at h
      · rename_i m mo ml mh h1 h2 h3 h4
        cases h
        refine s_cut (S.E k.k h1) (S.E k.k h2) (p_some (S.E k.k h3)) (p_some (S.E k.k h4)) (fun v => rfl) (sole_no nc) ?_ (each_one rfl)
        cases v <;> rfl
      · cases h
    · split at h
      · rename_i ns
        split at h
        · rename_i m mo mi h1 h2 h3
          cases h
          refine s_set k.k.K k.k.w k.k.u (S.E k.k h1) (S.E k.k h2) (S.E k.k h3) (sub_assign ns) (sole_no nc) ?_ (each_one rfl)
          cases v <;> rfl
        · cases h
      · cases h
  · cases h
theorem ret_sound (h : retE T t an sc e = some n) : PS X (.Return (some e) pos) (TSd C n) := by
  unfold retE at h
  split at h
  · rcases orElse_some h with h | h
    · unfold retN at h
      split at h
      · rename_i x p _
        split at h
        · rename_i q
          simp only [Bool.and_eq_true] at q
          obtain ⟨n1, n2, n3⟩ := okName_of q.1.2
          cases c : ixOf T.N x with
          | none => rw [c] at h; cases h
          | some i => rw [c] at h; cases h; exact s_ret (d_frp (k.k.ix c) (k.k.vis q.2) n1 n2)
        · cases h
      · cases h
    · cases c : t.F sc e with
      | none => rw [c] at h; cases h
      | some m => rw [c] at h; cases h; exact s_ret (d_push (S.F k.k c))
  · cases c : t.E sc true e with
    | none => rw [c] at h; cases h
    | some m => rw [c] at h; cases h; exact s_ret (S.E k.k c)
omit S k in
theorem ixOf_lt : ∀ {N : List Str} {x : Str} {i : Nat}, ixOf N x = some i → i < N.length := fun h => (List.getElem?_eq_some_iff.mp (ixOf_get h)).1
omit S in
theorem trH_sound : ∀ {hds : List ExceptHandler} {l : List (Nat × P)}, trH T sc hds = some l → HdsOk X hds (hdl C l) ∧ ∀ z ∈ l, z.1 < T.exc.length
  | [], _, h => by cases h; exact ⟨.nil, fun z hz => by cases hz⟩
  | hd :: hds, l, h => by
    unfold trH at h
    split at h
    · rename_i e; cases e
    · rename_i x np c j cp rp hp r e
      obtain ⟨e1, e2⟩ := List.cons.inj e
      subst e1 e2
      split at h
      · rename_i q
        simp only [Bool.and_eq_true] at q
        obtain ⟨n1, n2, n3⟩ := okName_of q.2
        split at h
        · rename_i i p l' h1 h2 h3
          cases h
          obtain ⟨i1, i2⟩ := trH_sound h3
          obtain ⟨a, ec, gm, _, _, _⟩ := k.k.exc x i h1
          refine ⟨.cons (show Names X x (C.cls i) from ⟨k.k.gl q.1, n1, .inl (by rw [gm, ec])⟩) (fun a oe cls d pn _ _ => s_cons (s_ret (const_sound h2)) s_nil) i1, fun z hz => ?_⟩
          rcases List.mem_cons.mp hz with w | w
          · rw [w]; exact ixOf_lt h1
          · exact i2 z w
        · cases h
      · cases h
    · cases h
theorem stS_sound {r : Stmt → Option (M Fl)} (hr' : ∀ {X : Cx} {C : Ct}, Sok T X C sc → ∀ s m, r s = some m → PS X s (TSd C m)) {s : Stmt} (h : stS T t an sc r s = some n) : PS X s (TSd C n) := by
  have hr := hr' k
  unfold stS at h
  split at h
  · rename_i e p
    split at h
    · cases h; exact s_doc
    · split at h
      · rename_i nc
        cases c : t.E sc false e with
        | none => rw [c] at h; cases h
        | some m => rw [c] at h; cases h; exact s_expr (S.E k.k c) (swaps_no nc)
      · cases h
  · cases h; exact s_pass
  · cases h; exact s_brk
  · cases h; exact s_cont
  · split at h
    · cases h; exact s_retN
    · exact ret_sound S k h
  · split at h
    · rename_i mc ma mb h1 h2 h3
      cases h
      exact s_if (S.B k.k h1) (trSs_sound hr h2) (trSs_sound hr h3)
    · cases h
  · split at h
    · rename_i mc ma h1 h2
      cases h
      exact s_while k.pass (S.B k.k h1) (trSs_sound hr h2)
    · cases h
  · split at h
    · rename_i ns
      split at h
      · split at h
        · rename_i m g ma h1 h2 h3
          cases h
          exact s_forO k.k.K k.pass k.k.calm (S.E k.k h1) (trG_sound k.k k.g 4 h2) (trSs_sound hr h3) (fold_no ns)
        · cases h
      split at h
      · rename_i mi g ma h1 h2 h3
        cases h
        exact s_for k.pass k.k.calm (I_sound S k.k h1) (trG_sound k.k k.g 4 h2) (trSs_sound hr h3) (fold_no ns)
      · cases h
    · cases h
  · split at h
    · exact asgName_sound S k h
    · rcases orElse_some h with h | h
      · exact asgPar_sound S k h
      · exact asgTup_sound S k h
    · exact asgSub_sound S k h
    · cases h
  · rename_i x p c j p2 p3 p4
    unfold raisS at h
    split at h
    · rename_i i hi
      split at h
      · rename_i q
        simp only [Bool.and_eq_true] at q
        cases h
        exact s_rais k.k.calm k.k.tk (k.k.exc x i hi) (k.k.gl q.1) (okName_of q.2).1
      · cases h
    · cases h; exact s_stuck
  · rename_i body h₀ hds p
    split at h
    · rename_i mb hs h1 h2
      cases h
      obtain ⟨i1, i2⟩ := trH_sound (X := X) (C := C) k h2
      refine s_try k.k.K k.stk k.frm k.k.tk (fun c l z hz => k.k.exm c z.1 l (i2 z hz)) (fun W pn xe tk pa => trSs_sound (hr' ?_) h1) i1
      exact ⟨⟨k.k.K, k.k.N, k.k.nd, k.k.sc, k.k.calm, k.k.u, k.k.cst, k.k.fns, k.k.blt, tk, k.k.w, k.k.exc, k.k.exm⟩, k.kind, k.fn, pa, k.stk, k.frm⟩
    · cases h
  · cases h
end
/-- the whole of a body -/
noncomputable def trSN (T : Tab) (n : Nat) (an : An) (sc : Scope) : Nat → Stmt → Option (M Fl)
  | 0 => fun _ => none
  | j + 1 => stS T (trN T n) an sc (trSN T n an sc j)
theorem trSN_sound {T : Tab} {sc : Scope} {n : Nat} {an : An} : ∀ (j : Nat) {X : Cx} {C : Ct}, Sok T X C sc → ∀ (s : Stmt) (m : M Fl), trSN T n an sc j s = some m → PS X s (TSd C m)
  | 0, _, _, _, _, _, h => by cases h
  | j + 1, _, _, k, s, m, h => stS_sound (trN_sound T n) k (fun k => trSN_sound j k) h
noncomputable def trBody (T : Tab) (n : Nat) (an : An) (sc : Scope) (b : List Stmt) : Option (M Fl) := trSs (trSN T n an sc n) b
theorem trBody_sound {T : Tab} {X : Cx} {C : Ct} {sc : Scope} (k : Sok T X C sc) {n : Nat} {an : An} {b : List Stmt} {m : M Fl} (h : trBody T n an sc b = some m) : PSs X b (TSd C m) := trSs_sound (trSN_sound n k) h
end DL
/-! D24: a def by its body's translation. -/
namespace DL
open PySem PySem.Spec L2
variable [WorldC]

def endF : R Fl → R DV
  | .ok f _ h => match f with
    | .ret v => .ok v [] h
    | .next => .ok (.d .none) [] h
    | _ => .stuck
  | .ex c p _ h => .ex c p [] h
  | .stuck => .stuck
def env0 (n : Nat) (vs : List DV) : Env := vs.map Cel.val ++ List.replicate (n - vs.length) .no
/-- the plain function of a body -/
def runF (m : M Fl) (n : Nat) : Fn := fun vs h => endF (m (env0 n vs) h)

section
variable {K : Fg} {B : Addr → Prop} {φ φ' : List Addr} {σ : St} {H H' : Hp} {e : Env} {h h' : Hh}
theorem env0_no {n : Nat} {vs : List DV} {i : Nat} : oc (env0 n vs) h (.loc i) = none := by
  show (match (env0 n vs)[i]? with | some (.obj o) => some o | _ => none) = none
  unfold env0
  by_cases l : i < vs.length
  · rw [List.getElem?_append_left (by simpa using l), List.getElem?_map]
    cases vs[i]? <;> rfl
  · rw [List.getElem?_append_right (by simpa using l), List.getElem?_replicate]
    split
    · rename_i q; split at q <;> cases q
    · rfl
theorem rvs_get : ∀ {vs : List DV} {xs : List V} {W : Addr → Prop} {i : Nat} {v : DV}, RVs K H W σ φ vs xs → vs[i]? = some v → ∃ x, xs[i]? = some x ∧ RV K H W σ φ v x
  | _, _, _, _, _, .nil, q => by simp at q
  | _, _, _, 0, _, .cons a b, q => by simp at q; subst q; exact ⟨_, rfl, a⟩
  | _, _, _, i + 1, _, .cons a b, q => by
    obtain ⟨x, e, r⟩ := rvs_get (i := i) b (by simpa using q)
    exact ⟨x, by simpa using e, r⟩
theorem RS.enter {N : List Str} {vs : List DV} {xs : List V} (s : RS K B φ [] H [] h) (r : RVs K H (Wrt B [] φ [] h) [] φ vs xs) (k : vs.all DV.ok = true) (l : vs.length ≤ N.length) :
    RS K B φ (L2.start N xs) H (env0 N.length vs) h ∧ (∀ a, Wrt B (L2.start N xs) φ (env0 N.length vs) h a ↔ Wrt B [] φ [] h a) := by
  have w : ∀ a, Wrt B (L2.start N xs) φ (env0 N.length vs) h a ↔ Wrt B [] φ [] h a := fun a => by
    constructor
    · rintro (z | ⟨w, o, z1, z2⟩)
      · exact .inl z
      · cases w with
        | loc i => rw [env0_no] at z1; cases z1
        | mem n => exact .inr ⟨.mem n, o, z1, z2⟩
    · rintro (z | ⟨w, o, z1, z2⟩)
      · exact .inl z
      · cases w with
        | loc i => rw [oc_nil] at z1; cases z1
        | mem n => exact .inr ⟨.mem n, o, z1, z2⟩
  have g : Gr H (Wrt B [] φ [] h) H (Wrt B (L2.start N xs) φ (env0 N.length vs) h) := Gr.weak fun a => (w a).mp
  have lr := r.length
  refine ⟨⟨?_, s.hlen, s.bN, fun i v q => ?_, fun w o q => ?_, fun w w' a q1 q2 q3 q4 => ?_⟩, w⟩
  · unfold env0 L2.start
    simp only [List.length_append, List.length_map, List.length_replicate]
    omega
  · unfold env0 at q
    by_cases lt : i < vs.length
    · rw [List.getElem?_append_left (by simpa using lt), List.getElem?_map] at q
      cases c : vs[i]? with
      | none => rw [c] at q; cases q
      | some v' =>
        rw [c] at q
        cases q
        obtain ⟨x, x1, x2⟩ := rvs_get r c
        have kv : v.ok = true := List.all_eq_true.mp k v (List.mem_of_getElem? c)
        refine ⟨x, ?_, (x2.sig kv).mono g List.prefix_rfl, kv⟩
        unfold L2.start
        rw [List.getElem?_append_left (by simp; omega), List.getElem?_map, x1]
        rfl
    · rw [List.getElem?_append_right (by simpa using lt), List.getElem?_replicate] at q
      split at q <;> cases q
  · cases w with
    | loc i => rw [env0_no] at q; cases q
    | mem n =>
      obtain ⟨a, q1, q2, q3⟩ := s.obj (.mem n) o q
      exact ⟨a, q1, q2.sig.mono g List.prefix_rfl rfl, q3⟩
  · cases w with
    | loc i => obtain ⟨o, q1⟩ := q1; rw [env0_no] at q1; cases q1
    | mem n =>
      cases w' with
      | loc i => obtain ⟨o, q2⟩ := q2; rw [env0_no] at q2; cases q2
      | mem m => exact s.inj (.mem n) (.mem m) a q1 q2 q3 q4
theorem RS.leave (s : RS K B φ σ H e h) : RS K B φ [] H [] h ∧ (∀ a, Wrt B [] φ [] h a → Wrt B σ φ e h a) := by
  have w : ∀ a, Wrt B [] φ [] h a → Wrt B σ φ e h a := fun a => by
    rintro (z | ⟨w, o, z1, z2⟩)
    · exact .inl z
    · cases w with
      | loc i => rw [oc_nil] at z1; cases z1
      | mem n => exact .inr ⟨.mem n, o, z1, z2⟩
  have g : Gr H (Wrt B σ φ e h) H (Wrt B [] φ [] h) := Gr.weak w
  refine ⟨⟨rfl, s.hlen, s.bN, fun i v q => by simp at q, fun w o q => ?_, fun w w' a q1 q2 q3 q4 => ?_⟩, w⟩
  · cases w with
    | loc i => rw [oc_nil] at q; cases q
    | mem n =>
      obtain ⟨a, q1, q2, q3⟩ := s.obj (.mem n) o q
      exact ⟨a, q1, q2.sig.mono g List.prefix_rfl rfl, q3⟩
  · cases w with
    | loc i => obtain ⟨o, q1⟩ := q1; rw [oc_nil] at q1; cases q1
    | mem n =>
      cases w' with
      | loc i => obtain ⟨o, q2⟩ := q2; rw [oc_nil] at q2; cases q2
      | mem m => exact s.inj (.mem n) (.mem m) a q1 q2 q3 q4
end

/-- the module's name x is the exception class with index i -/
def Gex (K : Fg) (mg : Str → Option Value) (cls : Nat → Value) (x : Str) (i : Nat) : Prop := ∃ a, cls i = .ref a ∧ mg x = some (.ref a) ∧ PySem.W.excIn K a vb "ValueError.__new__" = true ∧ PySem.W.keepIn K (.ref a) = true ∧ PySem.W.subIn K (.ref a) (.type "BaseException") = some true ∧ PySem.W.typeIn K (.ref a) = some (.type "type")
theorem Gex.ok {X : Cx} {cls : Nat → Value} {x : Str} {i : Nat} (h : Gex X.K X.mg cls x i) : ExOk X cls x i := let ⟨a, h1, h2, h3, h4, h5, h6⟩ := h; ⟨a, h1, h2, h3, h4, raises_own h5 h6⟩
/-- what the module's names are, for the defs at level k -/
structure Gm (T : Tab) (P : Program) (w : World) (K : Fg) (mg : Str → Option Value) (base : Heap) (cls : Nat → Value) (k : Nat) : Prop where
  cst : ∀ x p, T.cst.lookup x = some p → ∃ v u, mg x = some u ∧ RelV v u ∧ ∀ H W, RP K H W p v
  fns : ∀ x j F, T.fns.lookup x = some (j, F) → ∃ f fd ps, FnOk P w K mg base (L2.CX P w) k f fd ps (spD K cls j F) ∧ mg x = some (.ref f) ∧ PySem.W.keepIn K (.ref f) = true ∧ Binds K fd ps []
  blt : ∀ x ∈ T.blt, mg x = none
  w : w = WorldC.w
  exc : ∀ x i, ixOf T.exc x = some i → Gex K mg cls x i
  exm : ∀ i j, i < T.exc.length → j < T.exc.length → PySem.W.exmOne K (cls i) (cls j) = some (decide (i = j))
theorem Gm.mono {T : Tab} {P : Program} {w : World} {K : Fg} {mg : Str → Option Value} {base : Heap} {cls : Nat → Value} {j k : Nat} (g : Gm T P w K mg base cls j) (h : j ≤ k) : Gm T P w K mg base cls k :=
  ⟨g.cst, fun x i F q => let ⟨f, fd, ps, O, r⟩ := g.fns x i F q; ⟨f, fd, ps, O.mono h, r⟩, g.blt, g.w, g.exc, g.exm⟩
theorem def_ok {T : Tab} {P : Program} {w : World} {K : Fg} {mg : Str → Option Value} {base : Heap} {cls : Nat → Value} {k n : Nat} {an : An} {x qual : Str} {params : Arguments} {body : List Stmt} {scope : Scope} {f : Addr} {fd : FuncData} {ps : List Str} {m : M Fl}
    (F : FunD K x qual params body scope [] [] f fd) (S : FnScope T.N ps scope) (g : Gm T P w K mg base cls k) (tr : trBody T n an scope body = some m) : FnOk P w K mg base (L2.CX P w) (k + 1) f fd ps (spD K cls ps.length (runF m T.N.length)) := by
  have lN : ps.length ≤ T.N.length := by
    have := congrArg List.length S.pre
    rw [List.length_take] at this
    omega
  refine F.ok S (fun vs H Q E h => h.1) fun cdv A outer s H vs Q E hr h => ?_
  obtain ⟨hl, B, φ, dvs, h0, s0, rv, ok, hF⟩ := h
  have lr := rv.length
  obtain ⟨s1, w1⟩ := s0.enter (N := T.N) rv ok (by omega)
  refine ⟨TSd ⟨K, cls, fun c d _ H => E c d H⟩ m, trBody_sound (T := T) (n := n) (an := an) ⟨⟨rfl, rfl, S.nd, rfl, rfl, ?_, g.cst, fun x j F q => ?_, g.blt, takes_of rfl rfl rfl rfl, g.w, fun x i h => (g.exc x i h).ok, g.exm⟩, S.kind, fun _ => rfl, passes_of rfl, rfl, rfl⟩ tr, B, φ, env0 T.N.length dvs, h0, s1, ?_⟩
  · have := hr.un
    show (A.deeper (PyProof.Rows.envOfC qual scope s.heap.objs.size f cdv)).units + 200 < cLine
    omega
  · obtain ⟨f', fd', ps', O, h1, h2, h3⟩ := g.fns x j F q
    exact ⟨k, f', fd', ps', O, hr, h1, h2, h3⟩
  · have step : ∀ {φ' σ' H' e' h'}, RS K B φ' σ' H' e' h' → Tr B (Wrt B (L2.start T.N vs) φ (env0 T.N.length dvs) h0) φ H (Wrt B σ' φ' e' h') φ' H' → Step B [] φ H [] h0 φ' H' [] h' := fun s2 t =>
      ⟨t.phi, fun a u q z => by
        obtain ⟨q1, q2⟩ := t.gr a u q fun y => z ((w1 a).mp y)
        exact ⟨q1, fun y => q2 (s2.leave.2 a y)⟩, t.tr, t.bk⟩
    unfold runF at hF
    cases c : m (env0 T.N.length dvs) h0 with
    | stuck => rw [c] at hF; exact hF.elim
    | ex i p e' h' =>
      rw [c] at hF
      exact fun φ' σ' H' d s2 t x => hF φ' H' d s2.leave.1 (step s2 t) x
    | ok fl e' h' =>
      rw [c] at hF
      intro φ' σ' H' s2 t
      cases fl with
      | next => exact hF φ' H' .non s2.leave.1 (step s2 t) .non rfl
      | brk => exact hF.elim
      | cont => exact hF.elim
      | ret v => exact fun y ry ky => hF φ' H' y s2.leave.1 (step s2 t) ((ry.sig ky).mono (Gr.weak s2.leave.2) List.prefix_rfl) ky
/-- no promise -/
theorem none_ok {P : Program} {w : World} {K : Fg} {mg : Str → Option Value} {base : Heap} {cls : Nat → Value} {k n : Nat} {f : Addr} {fd : FuncData} {ps : List Str} (hn : ps.length = n) : FnOk P w K mg base (L2.CX P w) k f fd ps (spD K cls n fun _ _ => .stuck) :=
  ⟨fun vs H Q E h => by obtain ⟨_, B, φ, dvs, h0, s0, rv, ok, hF⟩ := h; exact hF.elim, fun A outer s H args us vs Q E _ _ _ _ h => by obtain ⟨_, B, φ, dvs, h0, s0, rv, ok, hF⟩ := h; exact hF.elim⟩
end DL
/-! D25: the defs of a row, one behind another. -/
namespace DL
open PySem PySem.Spec L2
variable [WorldC]

def Gfn (P : Program) (w : World) (K : Fg) (mg : Str → Option Value) (base : Heap) (cls : Nat → Value) (k : Nat) (x : Str) (j : Nat) (F : Fn) : Prop :=
  ∃ f fd ps, FnOk P w K mg base (L2.CX P w) k f fd ps (spD K cls j F) ∧ mg x = some (.ref f) ∧ PySem.W.keepIn K (.ref f) = true ∧ Binds K fd ps []
def Gcs (K : Fg) (mg : Str → Option Value) (x : Str) (p : P) : Prop := ∃ v u, mg x = some u ∧ RelV v u ∧ ∀ H W, RP K H W p v
structure Glob (w : World) (K : Fg) (mg : Str → Option Value) (cls : Nat → Value) (CS : List (Str × P)) (BL XC : List Str) : Prop where
  cs : ∀ x p, CS.lookup x = some p → Gcs K mg x p
  bl : ∀ x ∈ BL, mg x = none
  wd : w = WorldC.w
  ex : ∀ x i, ixOf XC x = some i → Gex K mg cls x i
  em : ∀ i j, i < XC.length → j < XC.length → PySem.W.exmOne K (cls i) (cls j) = some (decide (i = j))
section
variable {P : Program} {w : World} {K : Fg} {mg : Str → Option Value} {base : Heap} {cls : Nat → Value} {k : Nat}
theorem Gfn.mono {j n : Nat} {x : Str} {F : Fn} (g : Gfn P w K mg base cls j x n F) (h : j ≤ k) : Gfn P w K mg base cls k x n F := let ⟨f, fd, ps, O, r⟩ := g; ⟨f, fd, ps, O.mono h, r⟩
theorem fns_nil : ∀ x j F, ([] : List (Str × Nat × Fn)).lookup x = some (j, F) → Gfn P w K mg base cls k x j F := fun _ _ _ h => by cases h
theorem fns_cons {y : Str} {n : Nat} {G : Fn} {l : List (Str × Nat × Fn)} (g : Gfn P w K mg base cls k y n G) (r : ∀ x j F, l.lookup x = some (j, F) → Gfn P w K mg base cls k x j F) : ∀ x j F, ((y, n, G) :: l).lookup x = some (j, F) → Gfn P w K mg base cls k x j F := fun x j F h => by
  rw [List.lookup_cons] at h
  cases q : x == y with
  | true =>
    rw [q] at h
    cases h
    obtain rfl := eq_of_beq q
    exact g
  | false => rw [q] at h; exact r x j F h
theorem cs_nil : ∀ x p, ([] : List (Str × DL.P)).lookup x = some p → Gcs K mg x p := fun _ _ h => by cases h
theorem cs_cons {y : Str} {d : DL.P} {l : List (Str × DL.P)} (g : Gcs K mg y d) (r : ∀ x p, l.lookup x = some p → Gcs K mg x p) : ∀ x p, ((y, d) :: l).lookup x = some p → Gcs K mg x p := fun x p h => by
  rw [List.lookup_cons] at h
  cases q : x == y with
  | true =>
    rw [q] at h
    cases h
    obtain rfl := eq_of_beq q
    exact g
  | false => rw [q] at h; exact r x p h
theorem cs_int {x : Str} {i : Int} (h : ∃ t, mg x = some (.int i t)) : Gcs K mg x (.int i) := let ⟨t, e⟩ := h; ⟨.int i, _, e, ⟨t, rfl⟩, fun _ _ => .int i⟩
theorem cs_str {x z : Str} (h : ∃ t, mg x = some (.str z t)) (k : PyData.strOk z = true) (l : z.length ≤ 16777216) : Gcs K mg x (.str z) := let ⟨t, e⟩ := h; ⟨.str z, _, e, ⟨t, rfl⟩, fun _ _ => .str k l⟩
theorem step_ok {T : Tab} {n : Nat} {an : An} {x qual : Str} {params : Arguments} {body : List Stmt} {scope : Scope} {f : Addr} {fd : FuncData} {ps : List Str} {m : M Fl}
    (G : Glob w K mg cls T.cst T.blt T.exc) (F : FunD K x qual params body scope [] [] f fd) (gf : mg x = some (.ref f)) (S : FnScope T.N ps scope) (b : Binds K fd ps []) (fns : ∀ x j F, T.fns.lookup x = some (j, F) → Gfn P w K mg base cls k x j F)
    (tr : trBody T n an scope body = some m) : Gfn P w K mg base cls (k + 1) x ps.length (runF m T.N.length) :=
  ⟨f, fd, ps, def_ok F S ⟨G.cs, fns, G.bl, G.wd, G.ex, G.em⟩ tr, gf, F.kp, b⟩
theorem stop_ok {x qual : Str} {params : Arguments} {body : List Stmt} {scope : Scope} {f : Addr} {fd : FuncData} {ps : List Str} {n : Nat} (F : FunD K x qual params body scope [] [] f fd) (gf : mg x = some (.ref f)) (b : Binds K fd ps []) (hn : ps.length = n) : Gfn P w K mg base cls k x n fun _ _ => .stuck :=
  ⟨f, fd, ps, none_ok hn, gf, F.kp, b⟩
end
end DL
/-! D26: the end. -/
namespace DL
open PySem PySem.Spec L2

theorem end_walk {l : PySem.W.OpenLaw} {n k : Nat} {q : Program} {loose : List Str} {XP : (Str → Option Value) → Heap → Prop} {YP : World → Heap → Prop} {d : DefRec} {CX : World → CXT} {x : Str} (hn : l.most = some n) (hn2 : n ≤ sizeLine) (hdf : d.params.defaults = []) (hr : Room k callerA)
    (F : ∀ (w : World) (mg : Str → Option Value) (fa : Addr) (h : Heap), YP w h → h.Ns mainGlobals mg → mg d.name = some (.ref fa) → ∃ (K : Fg) (fd : FuncData) (sp : Sp), K.In h ∧ (∀ (s : Shared) (u : Value), BindsTo s fd ⟨[u], []⟩ [(x, u)]) ∧
      (∀ (H : Hp) (a : Addr) (ns : List Int), ns.length ≤ n → L2.Only H → SqL K H a (ns.map V.int) → sp [.ref a] H (fun v _ => v = .bl true) fun _ _ _ => False) ∧ ∀ base : Heap, K.In base → base.Ns mainGlobals mg → FnOk l.prog w K mg base (CX w) k fa fd [x] sp)
    (hCX : ∀ (w : World) (H : Hp) (s : Shared) (e : Value) (s' : Shared), CX w [] H s (fun _ _ _ => False) e s' → False) : PySem.W.WalkO q loose XP YP l.row.toRowW d [] (fun f vs => PySem.call f vs) := by
  refine Att.attach_call hn hdf fun w s₀ s₁ mg mb fa o pm cd doc a vs ns G Y _ _ _ hmg hobj hints hlen hg => ?_
  obtain ⟨K, fd, sp, KX, hb, hsp, hF⟩ := F w mg fa _ Y G.T.g hmg
  exact law_call KX G.T.g G.T.b G.T.builtins G.T.nolimit hg hobj hints (Nat.le_trans hlen hn2) hr hF hb (fun H only sq => hsp H a ns hlen only sq) (hCX w · s₁)
theorem cx_no {P : Program} {w : World} {H : Hp} {s : Shared} {e : Value} {s' : Shared} (c : L2.CX P w [] H s (fun _ _ _ => False) e s') : False := by
  obtain ⟨a, B, H', cls, d, _, _, _, _, _, _, _, z⟩ := c
  exact z
variable [WorldC]
theorem sp_true {K : Fg} {cls : Nat → Value} {F : Fn} {ns : List Int} {H : Hp} {a : Addr} (h : ∃ e h', F [.scr ns] [] = .ok (.d (.bool true)) e h') (hO : L2.Only H) (hS : SqL K H a (ns.map V.int)) : spD K cls 1 F [.ref a] H (fun v _ => v = .bl true) fun _ _ _ => False := by
  obtain ⟨e, h', hF⟩ := h
  have noW : ∀ b, ¬ Wrt (fun _ => False) [] [] [] [] b := fun b z => by
    rcases z with z | ⟨w, o, z, _⟩
    · exact z
    · cases w with
      | loc i => rw [oc_nil] at z; cases z
      | mem n => simp [oc] at z
  refine ⟨rfl, fun _ => False, [], [.scr ns], [], ⟨rfl, rfl, fun _ z => z.elim, fun i v q => by simp at q, fun w o q => ?_, fun w w' b q1 => ?_⟩, .cons ⟨a, rfl, ?_⟩ .nil, rfl, ?_⟩
  · cases w with
    | loc i => rw [oc_nil] at q; cases q
    | mem n => simp [oc] at q
  · obtain ⟨o, q⟩ := q1
    cases w with
    | loc i => rw [oc_nil] at q; cases q
    | mem n => simp [oc] at q
  · rcases hS with hS | hS
    · rcases hS with hS | ⟨o, hS⟩
      · rcases hO a with z | ⟨o, xs, z⟩
        · rw [z] at hS; cases hS
        · rw [z] at hS; cases hS
      · exact .inl ⟨o, hS, noW a⟩
    · exact .inr (.inr hS)
  · rw [hF]
    intro φ' H' x _ _ r _
    cases r
    rfl
section
variable {K : Fg} {mg : Str → Option Value} {h : Heap} {XC : List Str}
/-- the classes' objects -/
def clsOf (K : Fg) (XC : List Str) : Nat → Value := fun i => .ref (He.ga K (XC.getD i ""))
theorem clsOf_at {x : Str} {i : Nat} (q : XC[i]? = some x) : clsOf K XC i = .ref (He.ga K x) := by
  unfold clsOf
  rw [List.getD_eq_getElem?_getD, q]
  rfl
theorem fa_nil {p : Str → Prop} : ∀ x ∈ ([] : List Str), p x := fun _ h => by cases h
theorem fa_cons {p : Str → Prop} {y : Str} {l : List Str} (g : p y) (r : ∀ x ∈ l, p x) : ∀ x ∈ y :: l, p x := fun x h => (List.mem_cons.mp h).elim (fun e => e ▸ g) (r x)
theorem ex_of (X : K.In h) (G : h.Ns mainGlobals mg) (hx : ∀ x ∈ XC, (He.Fa.glo x).ok K = true ∧ (He.Fa.exc x).ok K = true) : ∀ x i, ixOf XC x = some i → Gex K mg (clsOf K XC) x i := fun x i q => by
  have q1 := ixOf_get q
  obtain ⟨g, c⟩ := hx x (List.mem_of_getElem? q1)
  obtain ⟨c1, c2, c3, c4⟩ := He.exc_ok c
  exact ⟨He.ga K x, clsOf_at q1, He.glo_ok X G g, c1, c2, c3, c4⟩
theorem em_of (nd : XC.Nodup) (hm : ∀ x ∈ XC, ∀ y ∈ XC, PySem.W.exmOne K (.ref (He.ga K x)) (.ref (He.ga K y)) = some (decide (x = y))) : ∀ i j, i < XC.length → j < XC.length → PySem.W.exmOne K (clsOf K XC i) (clsOf K XC j) = some (decide (i = j)) := fun i j li lj => by
  have qi : XC[i]? = some XC[i] := List.getElem?_eq_getElem li
  have qj : XC[j]? = some XC[j] := List.getElem?_eq_getElem lj
  rw [clsOf_at qi, clsOf_at qj, hm _ (List.getElem_mem li) _ (List.getElem_mem lj)]
  congr 1
  rw [decide_eq_decide]
  exact ⟨fun e => (List.getElem_inj nd).mp e, fun e => by subst e; rfl⟩
theorem em_ne {u v : Value} {x y : Str} (q : PySem.W.exmOne K u v = some false) (ne : x ≠ y) : PySem.W.exmOne K u v = some (decide (x = y)) := by rw [q, decide_eq_false ne]
theorem em_eq {u v : Value} {x : Str} (q : PySem.W.exmOne K u v = some true) : PySem.W.exmOne K u v = some (decide (x = x)) := by rw [q, decide_eq_true rfl]
end
section
variable {mg : Str → Option Value}
theorem bl_nil : ∀ x ∈ ([] : List Str), mg x = none := fun _ h => by cases h
theorem bl_cons {y : Str} {l : List Str} (g : mg y = none) (r : ∀ x ∈ l, mg x = none) : ∀ x ∈ y :: l, mg x = none := fun x h => (List.mem_cons.mp h).elim (fun e => e ▸ g) (r x)
end
end DL
namespace K52
open PySem PySem.Spec L2 DL
def top (i : Nat) : Stmt := PySem.Challenge.pw_doneahead_k52_commands_that_stop_others.main.body.getD i (.Pass ⟨0, 0, 0, 0⟩)
abbrev FnD (K : Fg) (x : Str) (st : Stmt) (f : Addr) (fd : FuncData) : Prop := FunD K x x (defArgs st) (defBody st) (defScope st) [] [] f fd
def CS : List (Str × P) := [(("MOST" : Str), (.int 20)), (("MOST_STATES" : Str), (.int 60)), (("MOST_COMMANDS" : Str), (.int 8)), (("MOST_CLIENTS" : Str), (.int 4))]
def BL : List Str := ["isinstance", "int", "bool", "str", "len", "all", "zip", "tuple", "sorted", "set", "list", "range", "any", "min", "max"]
def XC : List Str := ["InvalidSystem", "InvalidCommand"]
/-! is_integer -/
def N_is_integer : List Str := ["value", "low", "high"]
def T_is_integer : Tab := ⟨N_is_integer, CS, [], [], BL, XC⟩
noncomputable def m_is_integer : M Fl := (sCons (sRet (mVal (mAnd (mBl (mOp (isiP .int) (mCons (mVar 0) mNil))) (mBl (mVal (mAnd (mBl (mVal (mNot (mTru (mOp (isiP .bool) (mCons (mVar 0) mNil)))))) (mBl (mChain leP leP (mVar 1) (mVar 0) (mVar 2))))))))) sNil)
theorem tr_is_integer : trBody (T_is_integer) 60 ⟨[], false, 100000, []⟩ (defScope (top 9)) (defBody (top 9)) = some (m_is_integer) := by kernel_rfl
theorem sc_is_integer : FnScope N_is_integer ["value", "low", "high"] (defScope (top 9)) := ⟨rfl, rfl, rfl, by decide +kernel, rfl, by decide +kernel, by decide +kernel⟩
noncomputable def F_is_integer : Fn := runF (m_is_integer) 3
/-! is_name -/
def N_is_name : List Str := ["value", ".0", "sign"]
def T_is_name : Tab := ⟨N_is_name, CS, [], [], BL, XC⟩
noncomputable def l_is_name_1 : P → M (List P) := mEl (.nm 2) mTrue (mChain leP leP (mK (.str "a")) (mVar 2) (mK (.str "z")))
noncomputable def m_is_name : M Fl := (sCons (sRet (mVal (mAnd (mBl (mOp (isiP .str) (mCons (mVar 0) mNil))) (mBl (mVal (mAnd (mBl (mChain leP leP (mK (.int 1)) (mOp lenP (mCons (mVar 0) mNil)) (mK (.int 8)))) (mBl (mOp allP (mCons (mLc [1, 2] (mSeq (mFz 0)) (l_is_name_1)) mNil))))))))) sNil)
theorem tr_is_name : trBody (T_is_name) 60 ⟨[], false, 100000, []⟩ (defScope (top 10)) (defBody (top 10)) = some (m_is_name) := by kernel_rfl
theorem sc_is_name : FnScope N_is_name ["value"] (defScope (top 10)) := ⟨rfl, rfl, rfl, by decide +kernel, rfl, by decide +kernel, by decide +kernel⟩
noncomputable def F_is_name : Fn := runF (m_is_name) 3
/-! is_one_of -/
def N_is_one_of : List Str := ["value", "names"]
def T_is_one_of : Tab := ⟨N_is_one_of, CS, [], [], BL, XC⟩
noncomputable def m_is_one_of : M Fl := (sCons (sRet (mVal (mAnd (mBl (mOp (isiP .str) (mCons (mVar 0) mNil))) (mBl (mOp inP (mCons (mVar 0) (mCons (mVar 1) mNil))))))) sNil)
theorem tr_is_one_of : trBody (T_is_one_of) 60 ⟨[], false, 100000, []⟩ (defScope (top 11)) (defBody (top 11)) = some (m_is_one_of) := by kernel_rfl
theorem sc_is_one_of : FnScope N_is_one_of ["value", "names"] (defScope (top 11)) := ⟨rfl, rfl, rfl, by decide +kernel, rfl, by decide +kernel, by decide +kernel⟩
noncomputable def F_is_one_of : Fn := runF (m_is_one_of) 2
/-! is_rising -/
def N_is_rising : List Str := ["things", ".0", "one", "other"]
def T_is_rising : Tab := ⟨N_is_rising, CS, [], [], BL, XC⟩
noncomputable def l_is_rising_1 : P → M (List P) := mEl (.tp (.cons (.nm 2) (.cons (.nm 3) .nil))) mTrue (mOp ltP (mCons (mVar 2) (mCons (mVar 3) mNil)))
noncomputable def m_is_rising : M Fl := (sCons (sRet (mOp allP (mCons (mLc [1, 2, 3] (mZip (mCons (mVar 0) (mCons (mSl (mVar 0) (mPt (mK (.int 1))) mNoP) mNil))) (l_is_rising_1)) mNil))) sNil)
theorem tr_is_rising : trBody (T_is_rising) 60 ⟨[], false, 100000, []⟩ (defScope (top 12)) (defBody (top 12)) = some (m_is_rising) := by kernel_rfl
theorem sc_is_rising : FnScope N_is_rising ["things"] (defScope (top 12)) := ⟨rfl, rfl, rfl, by decide +kernel, rfl, by decide +kernel, by decide +kernel⟩
noncomputable def F_is_rising : Fn := runF (m_is_rising) 4
/-! is_tuple -/
def N_is_tuple : List Str := ["value", "least", "most"]
def T_is_tuple : Tab := ⟨N_is_tuple, CS, [], [], BL, XC⟩
noncomputable def m_is_tuple : M Fl := (sCons (sRet (mVal (mAnd (mBl (mOp (isiP .tuple) (mCons (mVar 0) mNil))) (mBl (mChain leP leP (mVar 1) (mOp lenP (mCons (mVar 0) mNil)) (mVar 2)))))) sNil)
theorem tr_is_tuple : trBody (T_is_tuple) 60 ⟨[], false, 100000, []⟩ (defScope (top 13)) (defBody (top 13)) = some (m_is_tuple) := by kernel_rfl
theorem sc_is_tuple : FnScope N_is_tuple ["value", "least", "most"] (defScope (top 13)) := ⟨rfl, rfl, rfl, by decide +kernel, rfl, by decide +kernel, by decide +kernel⟩
noncomputable def F_is_tuple : Fn := runF (m_is_tuple) 3
/-! is_fields -/
def N_is_fields : List Str := ["value", "many", "item", ".0"]
def T_is_fields (F_is_tuple F_is_name F_is_integer F_is_rising : Fn) : Tab := ⟨N_is_fields, CS, [(("is_tuple" : Str), 3, F_is_tuple), (("is_name" : Str), 1, F_is_name), (("is_integer" : Str), 3, F_is_integer), (("is_rising" : Str), 1, F_is_rising)], [], BL, XC⟩
noncomputable def b_is_fields_1 (F_is_tuple F_is_name F_is_integer F_is_rising : Fn) : M Fl := (sCons (sIf (mOr (mNot (mTru (mCall F_is_tuple (mCons (mFz 2) (mCons (mK (.int 3)) (mCons (mK (.int 3)) mNil)))))) (mNot (mTru (mCall F_is_name (mCons (mOp idxP (mCons (mVar 2) (mCons (mK (.int 0)) mNil))) mNil))))) (sCons (sRet (mK (.bool false))) sNil) sNil) (sCons (sIf (mOr (mNot (mTru (mCall F_is_integer (mCons (mOp idxP (mCons (mVar 2) (mCons (mK (.int 1)) mNil))) (mCons (mOp negP (mCons (mK (.int 20)) mNil)) (mCons (mK (.int 20)) mNil)))))) (mNot (mTru (mCall F_is_integer (mCons (mOp idxP (mCons (mVar 2) (mCons (mK (.int 2)) mNil))) (mCons (mOp idxP (mCons (mVar 2) (mCons (mK (.int 1)) mNil))) (mCons (mK (.int 20)) mNil))))))) (sCons (sRet (mK (.bool false))) sNil) sNil) (sCons (sAsg 1 (mOp mulP (mCons (mVar 1) (mCons (mOp addP (mCons (mOp subP (mCons (mOp idxP (mCons (mVar 2) (mCons (mK (.int 2)) mNil))) (mCons (mOp idxP (mCons (mVar 2) (mCons (mK (.int 1)) mNil))) mNil))) (mCons (mK (.int 1)) mNil))) mNil)))) sNil)))
noncomputable def l_is_fields_1 (F_is_tuple F_is_name F_is_integer F_is_rising : Fn) : P → M (List P) := mEl (.nm 2) mTrue (mOp idxP (mCons (mVar 2) (mCons (mK (.int 0)) mNil)))
noncomputable def m_is_fields (F_is_tuple F_is_name F_is_integer F_is_rising : Fn) : M Fl := (sCons (sIf (mNot (mTru (mCall F_is_tuple (mCons (mFz 0) (mCons (mK (.int 1)) (mCons (mK (.int 3)) mNil)))))) (sCons (sRet (mK (.bool false))) sNil) sNil) (sCons (sAsg 1 (mK (.int 1))) (sCons (sFor (.nm 2) (mSeq (mFz 0)) (b_is_fields_1 F_is_tuple F_is_name F_is_integer F_is_rising)) (sCons (sRet (mVal (mAnd (mBl (mOp leP (mCons (mVar 1) (mCons (mK (.int 60)) mNil)))) (mBl (mCall F_is_rising (mCons (mLc [3, 2] (mSeq (mFz 0)) (l_is_fields_1 F_is_tuple F_is_name F_is_integer F_is_rising)) mNil)))))) sNil))))
theorem tr_is_fields (F_is_tuple F_is_name F_is_integer F_is_rising : Fn) : trBody (T_is_fields F_is_tuple F_is_name F_is_integer F_is_rising) 60 ⟨[], false, 100000, []⟩ (defScope (top 14)) (defBody (top 14)) = some (m_is_fields F_is_tuple F_is_name F_is_integer F_is_rising) := by kernel_rfl
theorem sc_is_fields : FnScope N_is_fields ["value"] (defScope (top 14)) := ⟨rfl, rfl, rfl, by decide +kernel, rfl, by decide +kernel, by decide +kernel⟩
noncomputable def F_is_fields : Fn := runF (m_is_fields F_is_tuple F_is_name F_is_integer F_is_rising) 4
/-! is_state -/
def N_is_state : List Str := ["fields", "value", ".0", "item", "name", "low", "high"]
def T_is_state (F_is_tuple F_is_integer : Fn) : Tab := ⟨N_is_state, CS, [(("is_tuple" : Str), 3, F_is_tuple), (("is_integer" : Str), 3, F_is_integer)], [], BL, XC⟩
noncomputable def l_is_state_1 (F_is_tuple F_is_integer : Fn) : P → M (List P) := mEl (.tp (.cons (.nm 3) (.cons (.tp (.cons (.nm 4) (.cons (.nm 5) (.cons (.nm 6) .nil)))) .nil))) mTrue (mCall F_is_integer (mCons (mFz 3) (mCons (mFz 5) (mCons (mFz 6) mNil))))
noncomputable def m_is_state (F_is_tuple F_is_integer : Fn) : M Fl := (sCons (sIf (mNot (mTru (mCall F_is_tuple (mCons (mFz 1) (mCons (mOp lenP (mCons (mVar 0) mNil)) (mCons (mOp lenP (mCons (mVar 0) mNil)) mNil)))))) (sCons (sRet (mK (.bool false))) sNil) sNil) (sCons (sRet (mOp allP (mCons (mLc [2, 3, 4, 5, 6] (mZip (mCons (mVar 1) (mCons (mVar 0) mNil))) (l_is_state_1 F_is_tuple F_is_integer)) mNil))) sNil))
theorem tr_is_state (F_is_tuple F_is_integer : Fn) : trBody (T_is_state F_is_tuple F_is_integer) 60 ⟨[], false, 100000, []⟩ (defScope (top 15)) (defBody (top 15)) = some (m_is_state F_is_tuple F_is_integer) := by kernel_rfl
theorem sc_is_state : FnScope N_is_state ["fields", "value"] (defScope (top 15)) := ⟨rfl, rfl, rfl, by decide +kernel, rfl, by decide +kernel, by decide +kernel⟩
noncomputable def F_is_state : Fn := runF (m_is_state F_is_tuple F_is_integer) 7
/-! is_condition -/
def N_is_condition : List Str := ["fields", "value", "name", "names", "sign", "number", ".0", "item", "low", "high"]
def T_is_condition (F_is_tuple F_is_one_of F_is_integer : Fn) : Tab := ⟨N_is_condition, CS, [(("is_tuple" : Str), 3, F_is_tuple), (("is_one_of" : Str), 2, F_is_one_of), (("is_integer" : Str), 3, F_is_integer)], [], BL, XC⟩
noncomputable def l_is_condition_1 (F_is_tuple F_is_one_of F_is_integer : Fn) : P → M (List P) := mEl (.nm 7) mTrue (mCall F_is_tuple (mCons (mFz 7) (mCons (mK (.int 3)) (mCons (mK (.int 3)) mNil))))
noncomputable def l_is_condition_2 (F_is_tuple F_is_one_of F_is_integer : Fn) : P → M (List P) := mEl (.tp (.cons (.nm 2) (.cons (.nm 8) (.cons (.nm 9) .nil)))) mTrue (mFz 2)
noncomputable def b_is_condition_1 (F_is_tuple F_is_one_of F_is_integer : Fn) : M Fl := (sCons (sIf (mOr (mNot (mTru (mCall F_is_one_of (mCons (mFz 2) (mCons (mFz 3) mNil))))) (mNot (mTru (mCall F_is_one_of (mCons (mFz 4) (mCons (mLst (mCons (mK (.str "is")) (mCons (mK (.str "not")) (mCons (mK (.str "least")) (mCons (mK (.str "most")) mNil))))) mNil)))))) (sCons (sRet (mK (.bool false))) sNil) sNil) (sCons (sIf (mNot (mTru (mCall F_is_integer (mCons (mFz 5) (mCons (mOp negP (mCons (mK (.int 20)) mNil)) (mCons (mK (.int 20)) mNil)))))) (sCons (sRet (mK (.bool false))) sNil) sNil) sNil))
noncomputable def m_is_condition (F_is_tuple F_is_one_of F_is_integer : Fn) : M Fl := (sCons (sIf (mOr (mNot (mTru (mCall F_is_tuple (mCons (mFz 1) (mCons (mK (.int 0)) (mCons (mK (.int 4)) mNil)))))) (mNot (mTru (mOp allP (mCons (mLc [6, 7] (mSeq (mFz 1)) (l_is_condition_1 F_is_tuple F_is_one_of F_is_integer)) mNil))))) (sCons (sRet (mK (.bool false))) sNil) sNil) (sCons (sAsg 3 (mLc [6, 2, 8, 9] (mSeq (mFz 0)) (l_is_condition_2 F_is_tuple F_is_one_of F_is_integer))) (sCons (sFor (.tp (.cons (.nm 2) (.cons (.nm 4) (.cons (.nm 5) .nil)))) (mSeq (mFz 1)) (b_is_condition_1 F_is_tuple F_is_one_of F_is_integer)) (sCons (sRet (mK (.bool true))) sNil))))
theorem tr_is_condition (F_is_tuple F_is_one_of F_is_integer : Fn) : trBody (T_is_condition F_is_tuple F_is_one_of F_is_integer) 60 ⟨[], false, 100000, []⟩ (defScope (top 16)) (defBody (top 16)) = some (m_is_condition F_is_tuple F_is_one_of F_is_integer) := by kernel_rfl
theorem sc_is_condition : FnScope N_is_condition ["fields", "value"] (defScope (top 16)) := ⟨rfl, rfl, rfl, by decide +kernel, rfl, by decide +kernel, by decide +kernel⟩
noncomputable def F_is_condition : Fn := runF (m_is_condition F_is_tuple F_is_one_of F_is_integer) 10
/-! is_effect -/
def N_is_effect : List Str := ["fields", "value", "name", "names", "word", "operand", ".0", "item", "low", "high"]
def T_is_effect (F_is_tuple F_is_one_of F_is_integer F_is_rising : Fn) : Tab := ⟨N_is_effect, CS, [(("is_tuple" : Str), 3, F_is_tuple), (("is_one_of" : Str), 2, F_is_one_of), (("is_integer" : Str), 3, F_is_integer), (("is_rising" : Str), 1, F_is_rising)], [], BL, XC⟩
noncomputable def l_is_effect_1 (F_is_tuple F_is_one_of F_is_integer F_is_rising : Fn) : P → M (List P) := mEl (.nm 7) mTrue (mCall F_is_tuple (mCons (mFz 7) (mCons (mK (.int 3)) (mCons (mK (.int 3)) mNil))))
noncomputable def l_is_effect_2 (F_is_tuple F_is_one_of F_is_integer F_is_rising : Fn) : P → M (List P) := mEl (.tp (.cons (.nm 2) (.cons (.nm 8) (.cons (.nm 9) .nil)))) mTrue (mFz 2)
noncomputable def b_is_effect_1 (F_is_tuple F_is_one_of F_is_integer F_is_rising : Fn) : M Fl := (sCons (sIf (mOr (mNot (mTru (mCall F_is_one_of (mCons (mFz 2) (mCons (mFz 3) mNil))))) (mNot (mTru (mCall F_is_one_of (mCons (mFz 4) (mCons (mLst (mCons (mK (.str "set")) (mCons (mK (.str "add")) (mCons (mK (.str "copy")) mNil)))) mNil)))))) (sCons (sRet (mK (.bool false))) sNil) sNil) (sCons (sIf (mAnd (mBl (mOp eqP (mCons (mVar 4) (mCons (mK (.str "copy")) mNil)))) (mNot (mTru (mCall F_is_one_of (mCons (mFz 5) (mCons (mFz 3) mNil)))))) (sCons (sRet (mK (.bool false))) sNil) sNil) (sCons (sIf (mAnd (mBl (mOp neP (mCons (mVar 4) (mCons (mK (.str "copy")) mNil)))) (mNot (mTru (mCall F_is_integer (mCons (mFz 5) (mCons (mOp negP (mCons (mK (.int 20)) mNil)) (mCons (mK (.int 20)) mNil))))))) (sCons (sRet (mK (.bool false))) sNil) sNil) sNil)))
noncomputable def l_is_effect_3 (F_is_tuple F_is_one_of F_is_integer F_is_rising : Fn) : P → M (List P) := mEl (.tp (.cons (.nm 2) (.cons (.nm 4) (.cons (.nm 5) .nil)))) mTrue (mFz 2)
noncomputable def m_is_effect (F_is_tuple F_is_one_of F_is_integer F_is_rising : Fn) : M Fl := (sCons (sIf (mOr (mNot (mTru (mCall F_is_tuple (mCons (mFz 1) (mCons (mK (.int 0)) (mCons (mK (.int 3)) mNil)))))) (mNot (mTru (mOp allP (mCons (mLc [6, 7] (mSeq (mFz 1)) (l_is_effect_1 F_is_tuple F_is_one_of F_is_integer F_is_rising)) mNil))))) (sCons (sRet (mK (.bool false))) sNil) sNil) (sCons (sAsg 3 (mLc [6, 2, 8, 9] (mSeq (mFz 0)) (l_is_effect_2 F_is_tuple F_is_one_of F_is_integer F_is_rising))) (sCons (sFor (.tp (.cons (.nm 2) (.cons (.nm 4) (.cons (.nm 5) .nil)))) (mSeq (mFz 1)) (b_is_effect_1 F_is_tuple F_is_one_of F_is_integer F_is_rising)) (sCons (sRet (mCall F_is_rising (mCons (mLc [6, 2, 4, 5] (mSeq (mFz 1)) (l_is_effect_3 F_is_tuple F_is_one_of F_is_integer F_is_rising)) mNil))) sNil))))
theorem tr_is_effect (F_is_tuple F_is_one_of F_is_integer F_is_rising : Fn) : trBody (T_is_effect F_is_tuple F_is_one_of F_is_integer F_is_rising) 60 ⟨[], false, 100000, []⟩ (defScope (top 17)) (defBody (top 17)) = some (m_is_effect F_is_tuple F_is_one_of F_is_integer F_is_rising) := by kernel_rfl
theorem sc_is_effect : FnScope N_is_effect ["fields", "value"] (defScope (top 17)) := ⟨rfl, rfl, rfl, by decide +kernel, rfl, by decide +kernel, by decide +kernel⟩
noncomputable def F_is_effect : Fn := runF (m_is_effect F_is_tuple F_is_one_of F_is_integer F_is_rising) 10
/-! is_command -/
def N_is_command : List Str := ["fields", "value", ".0", "user"]
def T_is_command (F_is_tuple F_is_name F_is_condition F_is_effect F_is_rising : Fn) : Tab := ⟨N_is_command, CS, [(("is_tuple" : Str), 3, F_is_tuple), (("is_name" : Str), 1, F_is_name), (("is_condition" : Str), 2, F_is_condition), (("is_effect" : Str), 2, F_is_effect), (("is_rising" : Str), 1, F_is_rising)], [], BL, XC⟩
noncomputable def l_is_command_1 (F_is_tuple F_is_name F_is_condition F_is_effect F_is_rising : Fn) : P → M (List P) := mEl (.nm 3) mTrue (mCall F_is_name (mCons (mFz 3) mNil))
noncomputable def m_is_command (F_is_tuple F_is_name F_is_condition F_is_effect F_is_rising : Fn) : M Fl := (sCons (sIf (mOr (mNot (mTru (mCall F_is_tuple (mCons (mFz 1) (mCons (mK (.int 4)) (mCons (mK (.int 4)) mNil)))))) (mOr (mNot (mTru (mCall F_is_name (mCons (mOp idxP (mCons (mVar 1) (mCons (mK (.int 0)) mNil))) mNil)))) (mNot (mTru (mCall F_is_tuple (mCons (mOp idxP (mCons (mVar 1) (mCons (mK (.int 3)) mNil))) (mCons (mK (.int 1)) (mCons (mK (.int 4)) mNil)))))))) (sCons (sRet (mK (.bool false))) sNil) sNil) (sCons (sIf (mOr (mNot (mTru (mCall F_is_condition (mCons (mFz 0) (mCons (mOp idxP (mCons (mVar 1) (mCons (mK (.int 1)) mNil))) mNil))))) (mNot (mTru (mCall F_is_effect (mCons (mFz 0) (mCons (mOp idxP (mCons (mVar 1) (mCons (mK (.int 2)) mNil))) mNil)))))) (sCons (sRet (mK (.bool false))) sNil) sNil) (sCons (sRet (mVal (mAnd (mBl (mOp allP (mCons (mLc [2, 3] (mSeq (mOp idxP (mCons (mVar 1) (mCons (mK (.int 3)) mNil)))) (l_is_command_1 F_is_tuple F_is_name F_is_condition F_is_effect F_is_rising)) mNil))) (mBl (mCall F_is_rising (mCons (mOp idxP (mCons (mVar 1) (mCons (mK (.int 3)) mNil))) mNil)))))) sNil)))
theorem tr_is_command (F_is_tuple F_is_name F_is_condition F_is_effect F_is_rising : Fn) : trBody (T_is_command F_is_tuple F_is_name F_is_condition F_is_effect F_is_rising) 60 ⟨[], false, 100000, []⟩ (defScope (top 18)) (defBody (top 18)) = some (m_is_command F_is_tuple F_is_name F_is_condition F_is_effect F_is_rising) := by kernel_rfl
theorem sc_is_command : FnScope N_is_command ["fields", "value"] (defScope (top 18)) := ⟨rfl, rfl, rfl, by decide +kernel, rfl, by decide +kernel, by decide +kernel⟩
noncomputable def F_is_command : Fn := runF (m_is_command F_is_tuple F_is_name F_is_condition F_is_effect F_is_rising) 4
/-! clients_in -/
def N_clients_in : List Str := ["system", ".0", "command", "user"]
def T_clients_in : Tab := ⟨N_clients_in, CS, [], [], BL, XC⟩
noncomputable def l_clients_in_1 : P → M (List P) := mEl (.nm 3) mTrue (mFz 3)
noncomputable def l_clients_in_2 : P → M (List P) := mEl2 (.nm 2) mTrue (mSeq (mOp idxP (mCons (mVar 2) (mCons (mK (.int 3)) mNil)))) [3] (l_clients_in_1)
noncomputable def m_clients_in : M Fl := (sCons (sRet (mOp sortSetP (mCons (mLc2 [1, 2, 3] (mSeq (mOp idxP (mCons (mVar 0) (mCons (mK (.int 2)) mNil)))) (l_clients_in_2)) mNil))) sNil)
theorem tr_clients_in : trBody (T_clients_in) 60 ⟨[], false, 100000, []⟩ (defScope (top 20)) (defBody (top 20)) = some (m_clients_in) := by kernel_rfl
theorem sc_clients_in : FnScope N_clients_in ["system"] (defScope (top 20)) := ⟨rfl, rfl, rfl, by decide +kernel, rfl, by decide +kernel, by decide +kernel⟩
noncomputable def F_clients_in : Fn := runF (m_clients_in) 4
/-! is_system -/
def N_is_system : List Str := ["value", ".0", "item"]
def T_is_system (F_is_tuple F_is_fields F_is_state F_is_command F_is_rising F_clients_in : Fn) : Tab := ⟨N_is_system, CS, [(("is_tuple" : Str), 3, F_is_tuple), (("is_fields" : Str), 1, F_is_fields), (("is_state" : Str), 2, F_is_state), (("is_command" : Str), 2, F_is_command), (("is_rising" : Str), 1, F_is_rising), (("clients_in" : Str), 1, F_clients_in)], [], BL, XC⟩
noncomputable def l_is_system_1 (F_is_tuple F_is_fields F_is_state F_is_command F_is_rising F_clients_in : Fn) : P → M (List P) := mEl (.nm 2) mTrue (mCall F_is_command (mCons (mOp idxP (mCons (mVar 0) (mCons (mK (.int 0)) mNil))) (mCons (mFz 2) mNil)))
noncomputable def l_is_system_2 (F_is_tuple F_is_fields F_is_state F_is_command F_is_rising F_clients_in : Fn) : P → M (List P) := mEl (.nm 2) mTrue (mOp idxP (mCons (mVar 2) (mCons (mK (.int 0)) mNil)))
noncomputable def m_is_system (F_is_tuple F_is_fields F_is_state F_is_command F_is_rising F_clients_in : Fn) : M Fl := (sCons (sIf (mOr (mNot (mTru (mCall F_is_tuple (mCons (mFz 0) (mCons (mK (.int 3)) (mCons (mK (.int 3)) mNil)))))) (mOr (mNot (mTru (mCall F_is_fields (mCons (mOp idxP (mCons (mVar 0) (mCons (mK (.int 0)) mNil))) mNil)))) (mNot (mTru (mCall F_is_state (mCons (mOp idxP (mCons (mVar 0) (mCons (mK (.int 0)) mNil))) (mCons (mOp idxP (mCons (mVar 0) (mCons (mK (.int 1)) mNil))) mNil))))))) (sCons (sRet (mK (.bool false))) sNil) sNil) (sCons (sIf (mOr (mNot (mTru (mCall F_is_tuple (mCons (mOp idxP (mCons (mVar 0) (mCons (mK (.int 2)) mNil))) (mCons (mK (.int 1)) (mCons (mK (.int 8)) mNil)))))) (mNot (mTru (mOp allP (mCons (mLc [1, 2] (mSeq (mOp idxP (mCons (mVar 0) (mCons (mK (.int 2)) mNil)))) (l_is_system_1 F_is_tuple F_is_fields F_is_state F_is_command F_is_rising F_clients_in)) mNil))))) (sCons (sRet (mK (.bool false))) sNil) sNil) (sCons (sRet (mVal (mAnd (mBl (mCall F_is_rising (mCons (mLc [1, 2] (mSeq (mOp idxP (mCons (mVar 0) (mCons (mK (.int 2)) mNil)))) (l_is_system_2 F_is_tuple F_is_fields F_is_state F_is_command F_is_rising F_clients_in)) mNil))) (mBl (mOp leP (mCons (mOp lenP (mCons (mCall F_clients_in (mCons (mFz 0) mNil)) mNil)) (mCons (mK (.int 4)) mNil))))))) sNil)))
theorem tr_is_system (F_is_tuple F_is_fields F_is_state F_is_command F_is_rising F_clients_in : Fn) : trBody (T_is_system F_is_tuple F_is_fields F_is_state F_is_command F_is_rising F_clients_in) 60 ⟨[], false, 100000, []⟩ (defScope (top 19)) (defBody (top 19)) = some (m_is_system F_is_tuple F_is_fields F_is_state F_is_command F_is_rising F_clients_in) := by kernel_rfl
theorem sc_is_system : FnScope N_is_system ["value"] (defScope (top 19)) := ⟨rfl, rfl, rfl, by decide +kernel, rfl, by decide +kernel, by decide +kernel⟩
noncomputable def F_is_system : Fn := runF (m_is_system F_is_tuple F_is_fields F_is_state F_is_command F_is_rising F_clients_in) 3
/-! names_in -/
def N_names_in : List Str := ["system", ".0", "command"]
def T_names_in : Tab := ⟨N_names_in, CS, [], [], BL, XC⟩
noncomputable def l_names_in_1 : P → M (List P) := mEl (.nm 2) mTrue (mOp idxP (mCons (mVar 2) (mCons (mK (.int 0)) mNil)))
noncomputable def m_names_in : M Fl := (sCons (sRet (mLc [1, 2] (mSeq (mOp idxP (mCons (mVar 0) (mCons (mK (.int 2)) mNil)))) (l_names_in_1))) sNil)
theorem tr_names_in : trBody (T_names_in) 60 ⟨[], false, 100000, []⟩ (defScope (top 21)) (defBody (top 21)) = some (m_names_in) := by kernel_rfl
theorem sc_names_in : FnScope N_names_in ["system"] (defScope (top 21)) := ⟨rfl, rfl, rfl, by decide +kernel, rfl, by decide +kernel, by decide +kernel⟩
noncomputable def F_names_in : Fn := runF (m_names_in) 3
/-! command_of -/
def N_command_of : List Str := ["system", "name", ".0", "command"]
def T_command_of : Tab := ⟨N_command_of, CS, [], [], BL, XC⟩
noncomputable def l_command_of_1 : P → M (List P) := mEl (.nm 3) (mBl (mOp eqP (mCons (mOp idxP (mCons (mVar 3) (mCons (mK (.int 0)) mNil))) (mCons (mVar 1) mNil)))) (mFz 3)
noncomputable def m_command_of : M Fl := (sCons (sRet (mOp idxP (mCons (mLc [2, 3] (mSeq (mOp idxP (mCons (mVar 0) (mCons (mK (.int 2)) mNil)))) (l_command_of_1)) (mCons (mK (.int 0)) mNil)))) sNil)
theorem tr_command_of : trBody (T_command_of) 60 ⟨[], false, 100000, []⟩ (defScope (top 22)) (defBody (top 22)) = some (m_command_of) := by kernel_rfl
theorem sc_command_of : FnScope N_command_of ["system", "name"] (defScope (top 22)) := ⟨rfl, rfl, rfl, by decide +kernel, rfl, by decide +kernel, by decide +kernel⟩
noncomputable def F_command_of : Fn := runF (m_command_of) 4
/-! index_of -/
def N_index_of : List Str := ["fields", "name", ".0", "item"]
def T_index_of : Tab := ⟨N_index_of, CS, [], [], BL, XC⟩
noncomputable def l_index_of_1 : P → M (List P) := mEl (.nm 3) mTrue (mOp idxP (mCons (mVar 3) (mCons (mK (.int 0)) mNil)))
noncomputable def m_index_of : M Fl := (sCons (sRet (mMeth .lst indexP (mLc [2, 3] (mSeq (mFz 0)) (l_index_of_1)) (mCons (mFz 1) mNil))) sNil)
theorem tr_index_of : trBody (T_index_of) 60 ⟨[], false, 100000, []⟩ (defScope (top 23)) (defBody (top 23)) = some (m_index_of) := by kernel_rfl
theorem sc_index_of : FnScope N_index_of ["fields", "name"] (defScope (top 23)) := ⟨rfl, rfl, rfl, by decide +kernel, rfl, by decide +kernel, by decide +kernel⟩
noncomputable def F_index_of : Fn := runF (m_index_of) 4
/-! holds -/
def N_holds : List Str := ["fields", "condition", "state", "name", "sign", "number", "worth", "told"]
def T_holds (F_index_of : Fn) : Tab := ⟨N_holds, CS, [(("index_of" : Str), 2, F_index_of)], [], BL, XC⟩
noncomputable def b_holds_1 (F_index_of : Fn) : M Fl := (sCons (sAsg 6 (mOp idxP (mCons (mVar 2) (mCons (mCall F_index_of (mCons (mFz 0) (mCons (mFz 3) mNil))) mNil)))) (sCons (sAsg 7 (mDct (mCons (mK (.str "is")) (mCons (mOp eqP (mCons (mVar 6) (mCons (mVar 5) mNil))) (mCons (mK (.str "not")) (mCons (mOp neP (mCons (mVar 6) (mCons (mVar 5) mNil))) (mCons (mK (.str "least")) (mCons (mOp geP (mCons (mVar 6) (mCons (mVar 5) mNil))) (mCons (mK (.str "most")) (mCons (mOp leP (mCons (mVar 6) (mCons (mVar 5) mNil))) mNil)))))))))) (sCons (sIf (mNot (mTru (mOp idxP (mCons (mVar 7) (mCons (mVar 4) mNil))))) (sCons (sRet (mK (.bool false))) sNil) sNil) sNil)))
noncomputable def m_holds (F_index_of : Fn) : M Fl := (sCons (sFor (.tp (.cons (.nm 3) (.cons (.nm 4) (.cons (.nm 5) .nil)))) (mSeq (mFz 1)) (b_holds_1 F_index_of)) (sCons (sRet (mK (.bool true))) sNil))
theorem tr_holds (F_index_of : Fn) : trBody (T_holds F_index_of) 60 ⟨[], false, 100000, []⟩ (defScope (top 24)) (defBody (top 24)) = some (m_holds F_index_of) := by kernel_rfl
theorem sc_holds : FnScope N_holds ["fields", "condition", "state"] (defScope (top 24)) := ⟨rfl, rfl, rfl, by decide +kernel, rfl, by decide +kernel, by decide +kernel⟩
noncomputable def F_holds : Fn := runF (m_holds F_index_of) 8
/-! led_to -/
def N_led_to : List Str := ["system", "state", "name", "fields", "label", "condition", "effect", "users", "found", "field", "word", "operand", "at"]
def T_led_to (F_command_of F_holds F_index_of F_is_state : Fn) : Tab := ⟨N_led_to, CS, [(("command_of" : Str), 2, F_command_of), (("holds" : Str), 3, F_holds), (("index_of" : Str), 2, F_index_of), (("is_state" : Str), 2, F_is_state)], [], BL, XC⟩
noncomputable def b_led_to_1 (F_command_of F_holds F_index_of F_is_state : Fn) : M Fl := (sCons (sAsg 12 (mCall F_index_of (mCons (mFz 3) (mCons (mFz 9) mNil)))) (sCons (sIf (mBl (mOp eqP (mCons (mVar 10) (mCons (mK (.str "set")) mNil)))) (sCons (sSet (mFz 11) (mVar 8) (mVar 12)) sNil) (sCons (sIf (mBl (mOp eqP (mCons (mVar 10) (mCons (mK (.str "add")) mNil)))) (sCons (sSet (mOp addP (mCons (mOp idxP (mCons (mVar 1) (mCons (mVar 12) mNil))) (mCons (mVar 11) mNil))) (mVar 8) (mVar 12)) sNil) (sCons (sSet (mOp idxP (mCons (mVar 1) (mCons (mCall F_index_of (mCons (mFz 3) (mCons (mFz 11) mNil))) mNil))) (mVar 8) (mVar 12)) sNil)) sNil)) sNil))
noncomputable def m_led_to (F_command_of F_holds F_index_of F_is_state : Fn) : M Fl := (sCons (sAsg 3 (mOp idxP (mCons (mVar 0) (mCons (mK (.int 0)) mNil)))) (sCons (sTgt (.tp (.cons (.nm 4) (.cons (.nm 5) (.cons (.nm 6) (.cons (.nm 7) .nil))))) (mCall F_command_of (mCons (mFz 0) (mCons (mFz 2) mNil)))) (sCons (sIf (mNot (mTru (mCall F_holds (mCons (mFz 3) (mCons (mFz 5) (mCons (mFz 1) mNil)))))) (sCons (sRet (mK .none)) sNil) sNil) (sCons (sOwn 8 (mOp listP (mCons (mVar 1) mNil))) (sCons (sFor (.tp (.cons (.nm 9) (.cons (.nm 10) (.cons (.nm 11) .nil)))) (mSeq (mFz 6)) (b_led_to_1 F_command_of F_holds F_index_of F_is_state)) (sCons (sRet (mIte (mTru (mCall F_is_state (mCons (mFz 3) (mCons (mOp tupleP (mCons (mVar 8) mNil)) mNil)))) (mOp tupleP (mCons (mVar 8) mNil)) (mK .none))) sNil))))))
theorem tr_led_to (F_command_of F_holds F_index_of F_is_state : Fn) : trBody (T_led_to F_command_of F_holds F_index_of F_is_state) 60 ⟨["found"], false, 100000, []⟩ (defScope (top 25)) (defBody (top 25)) = some (m_led_to F_command_of F_holds F_index_of F_is_state) := by kernel_rfl
theorem sc_led_to : FnScope N_led_to ["system", "state", "name"] (defScope (top 25)) := ⟨rfl, rfl, rfl, by decide +kernel, rfl, by decide +kernel, by decide +kernel⟩
noncomputable def F_led_to : Fn := runF (m_led_to F_command_of F_holds F_index_of F_is_state) 13
/-! states_of -/
def N_states_of : List Str := ["fields", "found", "name", "low", "high", ".0", "state", "worth"]
def T_states_of : Tab := ⟨N_states_of, CS, [], [], BL, XC⟩
noncomputable def l_states_of_1 : P → M (List P) := mEl (.nm 7) mTrue (mOp addP (mCons (mVar 6) (mCons (mTup (mCons (mFz 7) mNil)) mNil)))
noncomputable def l_states_of_2 : P → M (List P) := mEl2 (.nm 6) mTrue (mRng2 (mCons (mVar 3) (mCons (mOp addP (mCons (mVar 4) (mCons (mK (.int 1)) mNil))) mNil))) [7] (l_states_of_1)
noncomputable def b_states_of_1 : M Fl := (sCons (sAsg 1 (mLc2 [5, 6, 7] (mSeq (mFz 1)) (l_states_of_2))) sNil)
noncomputable def m_states_of : M Fl := (sCons (sAsg 1 (mLst (mCons (mTup mNil) mNil))) (sCons (sFor (.tp (.cons (.nm 2) (.cons (.nm 3) (.cons (.nm 4) .nil)))) (mSeq (mFz 0)) (b_states_of_1)) (sCons (sRet (mFz 1)) sNil)))
theorem tr_states_of : trBody (T_states_of) 60 ⟨[], false, 100000, []⟩ (defScope (top 26)) (defBody (top 26)) = some (m_states_of) := by kernel_rfl
theorem sc_states_of : FnScope N_states_of ["fields"] (defScope (top 26)) := ⟨rfl, rfl, rfl, by decide +kernel, rfl, by decide +kernel, by decide +kernel⟩
noncomputable def F_states_of : Fn := runF (m_states_of) 8
/-! table_of -/
def N_table_of : List Str := ["system", "found", "state", "name"]
def T_table_of (F_led_to F_names_in F_states_of : Fn) : Tab := ⟨N_table_of, CS, [(("led_to" : Str), 3, F_led_to), (("names_in" : Str), 1, F_names_in), (("states_of" : Str), 1, F_states_of)], [], BL, XC⟩
noncomputable def b_table_of_1 (F_led_to F_names_in F_states_of : Fn) : M Fl := (sCons (sSet (mCall F_led_to (mCons (mFz 0) (mCons (mFz 2) (mCons (mFz 3) mNil)))) (mVar 1) (mTup (mCons (mFz 2) (mCons (mFz 3) mNil)))) sNil)
noncomputable def b_table_of_2 (F_led_to F_names_in F_states_of : Fn) : M Fl := (sCons (sFor (.nm 3) (mSeq (mCall F_names_in (mCons (mFz 0) mNil))) (b_table_of_1 F_led_to F_names_in F_states_of)) sNil)
noncomputable def m_table_of (F_led_to F_names_in F_states_of : Fn) : M Fl := (sCons (sOwn 1 (mDct mNil)) (sCons (sFor (.nm 2) (mSeq (mCall F_states_of (mCons (mOp idxP (mCons (mVar 0) (mCons (mK (.int 0)) mNil))) mNil))) (b_table_of_2 F_led_to F_names_in F_states_of)) (sCons (sRet (mFz 1)) sNil)))
theorem tr_table_of (F_led_to F_names_in F_states_of : Fn) : trBody (T_table_of F_led_to F_names_in F_states_of) 60 ⟨["found"], false, 100000, []⟩ (defScope (top 27)) (defBody (top 27)) = some (m_table_of F_led_to F_names_in F_states_of) := by kernel_rfl
theorem sc_table_of : FnScope N_table_of ["system"] (defScope (top 27)) := ⟨rfl, rfl, rfl, by decide +kernel, rfl, by decide +kernel, by decide +kernel⟩
noncomputable def F_table_of : Fn := runF (m_table_of F_led_to F_names_in F_states_of) 4
/-! reached -/
def N_reached : List Str := ["system", "table", "found", "rows", "state", "name", "there"]
def T_reached (F_names_in : Fn) : Tab := ⟨N_reached, CS, [(("names_in" : Str), 1, F_names_in)], [], BL, XC⟩
noncomputable def b_reached_1 (F_names_in : Fn) : M Fl := (sCons (sAsg 6 (mOp idxP (mCons (mVar 1) (mCons (mTup (mCons (mFz 4) (mCons (mFz 5) mNil))) mNil)))) (sCons (sIf (mAnd (mBl (mOp isnotP (mCons (mVar 6) (mCons (mK .none) mNil)))) (mBl (mOp notinP (mCons (mVar 6) (mCons (mVar 2) mNil))))) (sCons (sSet (mK (.bool true)) (mVar 2) (mVar 6)) (sCons (sExpr (mMut appendM (mVar 3) (mCons (mFz 6) mNil))) sNil)) sNil) sNil))
noncomputable def m_reached (F_names_in : Fn) : M Fl := (sCons (sOwn 2 (mDct (mCons (mOp idxP (mCons (mVar 0) (mCons (mK (.int 1)) mNil))) (mCons (mK (.bool true)) mNil)))) (sCons (sOwn 3 (mLst (mCons (mOp idxP (mCons (mVar 0) (mCons (mK (.int 1)) mNil))) mNil))) (sCons (sWh 100000 (mBl (mOp neP (mCons (mVar 3) (mCons (mLst mNil) mNil)))) (sCons (sAsg 4 (mMut popM (mVar 3) mNil)) (sCons (sFor (.nm 5) (mSeq (mCall F_names_in (mCons (mFz 0) mNil))) (b_reached_1 F_names_in)) sNil))) (sCons (sRet (mOp sortedP (mCons (mOp listP (mCons (mVar 2) mNil)) mNil))) sNil))))
theorem tr_reached (F_names_in : Fn) : trBody (T_reached F_names_in) 60 ⟨["found", "rows"], false, 100000, []⟩ (defScope (top 28)) (defBody (top 28)) = some (m_reached F_names_in) := by kernel_rfl
theorem sc_reached : FnScope N_reached ["system", "table"] (defScope (top 28)) := ⟨rfl, rfl, rfl, by decide +kernel, rfl, by decide +kernel, by decide +kernel⟩
noncomputable def F_reached : Fn := runF (m_reached F_names_in) 7
/-! require_system -/
def N_require_system : List Str := ["value"]
def T_require_system (F_is_system : Fn) : Tab := ⟨N_require_system, CS, [(("is_system" : Str), 1, F_is_system)], [], BL, XC⟩
noncomputable def m_require_system (F_is_system : Fn) : M Fl := (sCons (sIf (mNot (mTru (mCall F_is_system (mCons (mFz 0) mNil)))) (sCons (sRaise 0) sNil) sNil) sNil)
theorem tr_require_system (F_is_system : Fn) : trBody (T_require_system F_is_system) 60 ⟨[], false, 100000, []⟩ (defScope (top 29)) (defBody (top 29)) = some (m_require_system F_is_system) := by kernel_rfl
theorem sc_require_system : FnScope N_require_system ["value"] (defScope (top 29)) := ⟨rfl, rfl, rfl, by decide +kernel, rfl, by decide +kernel, by decide +kernel⟩
noncomputable def F_require_system : Fn := runF (m_require_system F_is_system) 1
/-! require_command -/
def N_require_command : List Str := ["system", "value"]
def T_require_command (F_is_one_of F_names_in : Fn) : Tab := ⟨N_require_command, CS, [(("is_one_of" : Str), 2, F_is_one_of), (("names_in" : Str), 1, F_names_in)], [], BL, XC⟩
noncomputable def m_require_command (F_is_one_of F_names_in : Fn) : M Fl := (sCons (sIf (mNot (mTru (mCall F_is_one_of (mCons (mFz 1) (mCons (mCall F_names_in (mCons (mFz 0) mNil)) mNil))))) (sCons (sRaise 1) sNil) sNil) sNil)
theorem tr_require_command (F_is_one_of F_names_in : Fn) : trBody (T_require_command F_is_one_of F_names_in) 60 ⟨[], false, 100000, []⟩ (defScope (top 30)) (defBody (top 30)) = some (m_require_command F_is_one_of F_names_in) := by kernel_rfl
theorem sc_require_command : FnScope N_require_command ["system", "value"] (defScope (top 30)) := ⟨rfl, rfl, rfl, by decide +kernel, rfl, by decide +kernel, by decide +kernel⟩
noncomputable def F_require_command : Fn := runF (m_require_command F_is_one_of F_names_in) 2
/-! led_on -/
def N_led_on : List Str := ["table", "state", "name", "there"]
def T_led_on : Tab := ⟨N_led_on, CS, [], [], BL, XC⟩
noncomputable def m_led_on : M Fl := (sCons (sAsg 3 (mOp idxP (mCons (mVar 0) (mCons (mTup (mCons (mFz 1) (mCons (mFz 2) mNil))) mNil)))) (sCons (sRet (mIte (mBl (mOp isP (mCons (mVar 3) (mCons (mK .none) mNil)))) (mFz 1) (mFz 3))) sNil))
theorem tr_led_on : trBody (T_led_on) 60 ⟨[], false, 100000, []⟩ (defScope (top 32)) (defBody (top 32)) = some (m_led_on) := by kernel_rfl
theorem sc_led_on : FnScope N_led_on ["table", "state", "name"] (defScope (top 32)) := ⟨rfl, rfl, rfl, by decide +kernel, rfl, by decide +kernel, by decide +kernel⟩
noncomputable def F_led_on : Fn := runF (m_led_on) 4
/-! tells_apart -/
def N_tells_apart : List Str := ["table", "state", "one", "other", "first", "second", "passes"]
def T_tells_apart (F_led_on : Fn) : Tab := ⟨N_tells_apart, CS, [(("led_on" : Str), 3, F_led_on)], [], BL, XC⟩
noncomputable def m_tells_apart (F_led_on : Fn) : M Fl := (sCons (sIf (mBl (mOp eqP (mCons (mVar 2) (mCons (mVar 3) mNil)))) (sCons (sRet (mK (.bool false))) sNil) sNil) (sCons (sParO false false 4 5 (mCall F_led_on (mCons (mFz 0) (mCons (mFz 1) (mCons (mFz 2) mNil)))) (mCall F_led_on (mCons (mFz 0) (mCons (mFz 1) (mCons (mFz 3) mNil))))) (sCons (sIf (mBl (mOp neP (mCons (mCall F_led_on (mCons (mFz 0) (mCons (mFz 4) (mCons (mFz 3) mNil)))) (mCons (mCall F_led_on (mCons (mFz 0) (mCons (mFz 5) (mCons (mFz 2) mNil)))) mNil)))) (sCons (sRet (mK (.bool true))) sNil) sNil) (sCons (sAsg 6 (mTup (mCons (mOp isP (mCons (mOp idxP (mCons (mVar 0) (mCons (mTup (mCons (mFz 1) (mCons (mFz 2) mNil))) mNil))) (mCons (mK .none) mNil))) (mCons (mOp isP (mCons (mOp idxP (mCons (mVar 0) (mCons (mTup (mCons (mFz 4) (mCons (mFz 3) mNil))) mNil))) (mCons (mK .none) mNil))) mNil)))) (sCons (sRet (mOp neP (mCons (mVar 6) (mCons (mTup (mCons (mOp isP (mCons (mOp idxP (mCons (mVar 0) (mCons (mTup (mCons (mFz 5) (mCons (mFz 2) mNil))) mNil))) (mCons (mK .none) mNil))) (mCons (mOp isP (mCons (mOp idxP (mCons (mVar 0) (mCons (mTup (mCons (mFz 1) (mCons (mFz 3) mNil))) mNil))) (mCons (mK .none) mNil))) mNil))) mNil)))) sNil)))))
theorem tr_tells_apart (F_led_on : Fn) : trBody (T_tells_apart F_led_on) 60 ⟨[], false, 100000, []⟩ (defScope (top 33)) (defBody (top 33)) = some (m_tells_apart F_led_on) := by kernel_rfl
theorem sc_tells_apart : FnScope N_tells_apart ["table", "state", "one", "other"] (defScope (top 33)) := ⟨rfl, rfl, rfl, by decide +kernel, rfl, by decide +kernel, by decide +kernel⟩
noncomputable def F_tells_apart : Fn := runF (m_tells_apart F_led_on) 7
/-! first_clash -/
def N_first_clash : List Str := ["system", "one", "other", "table", "state"]
def T_first_clash (F_require_system F_require_command F_table_of F_tells_apart F_reached : Fn) : Tab := ⟨N_first_clash, CS, [(("require_system" : Str), 1, F_require_system), (("require_command" : Str), 2, F_require_command), (("table_of" : Str), 1, F_table_of), (("tells_apart" : Str), 4, F_tells_apart), (("reached" : Str), 2, F_reached)], [], BL, XC⟩
noncomputable def b_first_clash_1 (F_require_system F_require_command F_table_of F_tells_apart F_reached : Fn) : M Fl := (sCons (sIf (mTru (mCall F_tells_apart (mCons (mFz 3) (mCons (mFz 4) (mCons (mFz 1) (mCons (mFz 2) mNil)))))) (sCons (sRet (mFz 4)) sNil) sNil) sNil)
noncomputable def m_first_clash (F_require_system F_require_command F_table_of F_tells_apart F_reached : Fn) : M Fl := (sCons (sExpr (mCall F_require_system (mCons (mFz 0) mNil))) (sCons (sExpr (mCall F_require_command (mCons (mFz 0) (mCons (mFz 1) mNil)))) (sCons (sExpr (mCall F_require_command (mCons (mFz 0) (mCons (mFz 2) mNil)))) (sCons (sAsg 3 (mCall F_table_of (mCons (mFz 0) mNil))) (sCons (sFor (.nm 4) (mSeq (mCall F_reached (mCons (mFz 0) (mCons (mFz 3) mNil)))) (b_first_clash_1 F_require_system F_require_command F_table_of F_tells_apart F_reached)) (sCons (sRet (mK .none)) sNil))))))
theorem tr_first_clash (F_require_system F_require_command F_table_of F_tells_apart F_reached : Fn) : trBody (T_first_clash F_require_system F_require_command F_table_of F_tells_apart F_reached) 60 ⟨[], false, 100000, []⟩ (defScope (top 34)) (defBody (top 34)) = some (m_first_clash F_require_system F_require_command F_table_of F_tells_apart F_reached) := by kernel_rfl
theorem sc_first_clash : FnScope N_first_clash ["system", "one", "other"] (defScope (top 34)) := ⟨rfl, rfl, rfl, by decide +kernel, rfl, by decide +kernel, by decide +kernel⟩
noncomputable def F_first_clash : Fn := runF (m_first_clash F_require_system F_require_command F_table_of F_tells_apart F_reached) 5
/-! exchangeable -/
def N_exchangeable : List Str := ["system", "one", "other"]
def T_exchangeable (F_first_clash : Fn) : Tab := ⟨N_exchangeable, CS, [(("first_clash" : Str), 3, F_first_clash)], [], BL, XC⟩
noncomputable def m_exchangeable (F_first_clash : Fn) : M Fl := (sCons (sRet (mOp isP (mCons (mCall F_first_clash (mCons (mFz 0) (mCons (mFz 1) (mCons (mFz 2) mNil)))) (mCons (mK .none) mNil)))) sNil)
theorem tr_exchangeable (F_first_clash : Fn) : trBody (T_exchangeable F_first_clash) 60 ⟨[], false, 100000, []⟩ (defScope (top 35)) (defBody (top 35)) = some (m_exchangeable F_first_clash) := by kernel_rfl
theorem sc_exchangeable : FnScope N_exchangeable ["system", "one", "other"] (defScope (top 35)) := ⟨rfl, rfl, rfl, by decide +kernel, rfl, by decide +kernel, by decide +kernel⟩
noncomputable def F_exchangeable : Fn := runF (m_exchangeable F_first_clash) 3
/-! does_stop -/
def N_does_stop : List Str := ["table", "state", "one", "other", "there"]
def T_does_stop : Tab := ⟨N_does_stop, CS, [], [], BL, XC⟩
noncomputable def m_does_stop : M Fl := (sCons (sAsg 4 (mOp idxP (mCons (mVar 0) (mCons (mTup (mCons (mFz 1) (mCons (mFz 2) mNil))) mNil)))) (sCons (sRet (mVal (mAnd (mBl (mOp isnotP (mCons (mVar 4) (mCons (mK .none) mNil)))) (mBl (mVal (mAnd (mBl (mOp isnotP (mCons (mOp idxP (mCons (mVar 0) (mCons (mTup (mCons (mFz 1) (mCons (mFz 3) mNil))) mNil))) (mCons (mK .none) mNil)))) (mBl (mOp isP (mCons (mOp idxP (mCons (mVar 0) (mCons (mTup (mCons (mFz 4) (mCons (mFz 3) mNil))) mNil))) (mCons (mK .none) mNil)))))))))) sNil))
theorem tr_does_stop : trBody (T_does_stop) 60 ⟨[], false, 100000, []⟩ (defScope (top 36)) (defBody (top 36)) = some (m_does_stop) := by kernel_rfl
theorem sc_does_stop : FnScope N_does_stop ["table", "state", "one", "other"] (defScope (top 36)) := ⟨rfl, rfl, rfl, by decide +kernel, rfl, by decide +kernel, by decide +kernel⟩
noncomputable def F_does_stop : Fn := runF (m_does_stop) 5
/-! stops_p -/
def N_stops_p : List Str := ["system", "table", "states", "found", "one", "other", ".0", "state"]
def T_stops_p (F_require_system F_table_of F_reached F_does_stop F_names_in : Fn) : Tab := ⟨N_stops_p, CS, [(("require_system" : Str), 1, F_require_system), (("table_of" : Str), 1, F_table_of), (("reached" : Str), 2, F_reached), (("does_stop" : Str), 4, F_does_stop), (("names_in" : Str), 1, F_names_in)], [], BL, XC⟩
noncomputable def l_stops_p_1 (F_require_system F_table_of F_reached F_does_stop F_names_in : Fn) : P → M (List P) := mEl (.nm 7) mTrue (mCall F_does_stop (mCons (mFz 1) (mCons (mFz 7) (mCons (mFz 4) (mCons (mFz 5) mNil)))))
noncomputable def b_stops_p_1 (F_require_system F_table_of F_reached F_does_stop F_names_in : Fn) : M Fl := (sCons (sIf (mAnd (mBl (mOp neP (mCons (mVar 4) (mCons (mVar 5) mNil)))) (mTru (mOp anyP (mCons (mLc [6, 7] (mSeq (mFz 2)) (l_stops_p_1 F_require_system F_table_of F_reached F_does_stop F_names_in)) mNil)))) (sCons (sExpr (mMut appendM (mVar 3) (mCons (mTup (mCons (mFz 4) (mCons (mFz 5) mNil))) mNil))) sNil) sNil) sNil)
noncomputable def b_stops_p_2 (F_require_system F_table_of F_reached F_does_stop F_names_in : Fn) : M Fl := (sCons (sFor (.nm 5) (mSeq (mCall F_names_in (mCons (mFz 0) mNil))) (b_stops_p_1 F_require_system F_table_of F_reached F_does_stop F_names_in)) sNil)
noncomputable def m_stops_p (F_require_system F_table_of F_reached F_does_stop F_names_in : Fn) : M Fl := (sCons (sExpr (mCall F_require_system (mCons (mFz 0) mNil))) (sCons (sAsg 1 (mCall F_table_of (mCons (mFz 0) mNil))) (sCons (sAsg 2 (mCall F_reached (mCons (mFz 0) (mCons (mFz 1) mNil)))) (sCons (sOwn 3 (mLst mNil)) (sCons (sFor (.nm 4) (mSeq (mCall F_names_in (mCons (mFz 0) mNil))) (b_stops_p_2 F_require_system F_table_of F_reached F_does_stop F_names_in)) (sCons (sRet (mFrP 3)) sNil))))))
theorem tr_stops_p (F_require_system F_table_of F_reached F_does_stop F_names_in : Fn) : trBody (T_stops_p F_require_system F_table_of F_reached F_does_stop F_names_in) 60 ⟨["found"], true, 100000, []⟩ (defScope (top 37)) (defBody (top 37)) = some (m_stops_p F_require_system F_table_of F_reached F_does_stop F_names_in) := by kernel_rfl
theorem sc_stops_p : FnScope N_stops_p ["system"] (defScope (top 37)) := ⟨rfl, rfl, rfl, by decide +kernel, rfl, by decide +kernel, by decide +kernel⟩
noncomputable def F_stops_p : Fn := runF (m_stops_p F_require_system F_table_of F_reached F_does_stop F_names_in) 8
/-! _law_source -/
def N__law_source : List Str := ["script", "k", "cell", "primes", "seed"]
def T__law_source : Tab := ⟨N__law_source, CS, [], ["script"], BL, XC⟩
noncomputable def m__law_source : M Fl := (sCons (sAsg 2 (mK (.int 0))) (sCons (sIf (mBl (mOp ltP (mCons (mVar 1) (mCons (mScrLen 0) mNil)))) (sCons (sAsg 2 (mScrIx 0 (mVar 1))) sNil) sNil) (sCons (sAsg 3 (mLst (mCons (mK (.int 2147483647)) (mCons (mK (.int 2147483629)) (mCons (mK (.int 2147483587)) (mCons (mK (.int 2147483579)) (mCons (mK (.int 2147483563)) (mCons (mK (.int 2147483549)) (mCons (mK (.int 2147483543)) (mCons (mK (.int 2147483497)) mNil)))))))))) (sCons (sAsg 4 (mOp modP (mCons (mOp intP (mCons (mOp mulP (mCons (mOp addP (mCons (mOp modP (mCons (mOp intP (mCons (mVar 2) mNil)) (mCons (mK (.int 2147483489)) mNil))) (mCons (mK (.int 1)) mNil))) (mCons (mOp addP (mCons (mK (.int 48271)) (mCons (mOp mulP (mCons (mK (.int 2)) (mCons (mVar 1) mNil))) mNil))) mNil))) mNil)) (mCons (mK (.int 2147483489)) mNil)))) (sCons (sAsg 4 (mOp addP (mCons (mOp addP (mCons (mOp modP (mCons (mOp intP (mCons (mOp mulP (mCons (mVar 4) (mCons (mVar 4) mNil))) mNil)) (mCons (mK (.int 2147483477)) mNil))) (mCons (mVar 1) mNil))) (mCons (mK (.int 1)) mNil)))) (sCons (sIf (mBl (mOp geP (mCons (mVar 2) (mCons (mOp powP (mCons (mK (.int 10)) (mCons (mK (.int 18)) mNil))) mNil)))) (sCons (sRet (mPush (mLst (mCons (mFz 2) (mCons (mFz 4) (mCons (mOp idxP (mCons (mVar 3) (mCons (mOp modP (mCons (mOp intP (mCons (mVar 1) mNil)) (mCons (mK (.int 8)) mNil))) mNil))) mNil)))))) sNil) sNil) (sCons (sRet (mPush (mLst (mCons (mK (.int 0)) (mCons (mFz 4) (mCons (mOp idxP (mCons (mVar 3) (mCons (mOp modP (mCons (mOp intP (mCons (mVar 1) mNil)) (mCons (mK (.int 8)) mNil))) mNil))) mNil)))))) sNil)))))))
theorem tr__law_source : trBody (T__law_source) 60 ⟨[], true, 100000, []⟩ (defScope (top 39)) (defBody (top 39)) = some (m__law_source) := by kernel_rfl
theorem sc__law_source : FnScope N__law_source ["script", "k"] (defScope (top 39)) := ⟨rfl, rfl, rfl, by decide +kernel, rfl, by decide +kernel, by decide +kernel⟩
noncomputable def F__law_source : Fn := runF (m__law_source) 5
/-! _law_pick -/
def N__law_pick : List Str := ["source", "limit", "drawn"]
def T__law_pick : Tab := ⟨N__law_pick, CS, [], [], BL, XC⟩
noncomputable def m__law_pick : M Fl := (sCons (sIf (mBl (mOp gtP (mCons (mOp idxP (mCons (mVar 0) (mCons (mK (.int 0)) mNil))) (mCons (mK (.int 0)) mNil)))) (sCons (sAsg 2 (mOp modP (mCons (mOp intP (mCons (mOp idxP (mCons (mVar 0) (mCons (mK (.int 0)) mNil))) mNil)) (mCons (mVar 1) mNil)))) (sCons (sSet (mOp fdivP (mCons (mOp idxP (mCons (mVar 0) (mCons (mK (.int 0)) mNil))) (mCons (mVar 1) mNil))) (mVar 0) (mK (.int 0))) (sCons (sRet (mFz 2)) sNil))) sNil) (sCons (sSet (mOp addP (mCons (mOp modP (mCons (mOp intP (mCons (mOp mulP (mCons (mOp idxP (mCons (mVar 0) (mCons (mK (.int 1)) mNil))) (mCons (mK (.int 48271)) mNil))) mNil)) (mCons (mOp idxP (mCons (mVar 0) (mCons (mK (.int 2)) mNil))) mNil))) (mCons (mK (.int 1)) mNil))) (mVar 0) (mK (.int 1))) (sCons (sRet (mOp modP (mCons (mOp intP (mCons (mOp fdivP (mCons (mOp modP (mCons (mOp intP (mCons (mOp mulP (mCons (mOp idxP (mCons (mVar 0) (mCons (mK (.int 1)) mNil))) (mCons (mOp idxP (mCons (mVar 0) (mCons (mK (.int 1)) mNil))) mNil))) mNil)) (mCons (mK (.int 2147483423)) mNil))) (mCons (mK (.int 7)) mNil))) mNil)) (mCons (mVar 1) mNil)))) sNil)))
theorem tr__law_pick : trBody (T__law_pick) 60 ⟨[], false, 100000, []⟩ (defScope (top 40)) (defBody (top 40)) = some (m__law_pick) := by kernel_rfl
theorem sc__law_pick : FnScope N__law_pick ["source", "limit"] (defScope (top 40)) := ⟨rfl, rfl, rfl, by decide +kernel, rfl, by decide +kernel, by decide +kernel⟩
noncomputable def F__law_pick : Fn := runF (m__law_pick) 3
/-! _law_chosen -/
def N__law_chosen : List Str := ["source", "some"]
def T__law_chosen (F__law_pick : Fn) : Tab := ⟨N__law_chosen, CS, [(("_law_pick" : Str), 2, F__law_pick)], [], BL, XC⟩
noncomputable def m__law_chosen (F__law_pick : Fn) : M Fl := (sCons (sRet (mOp idxP (mCons (mVar 1) (mCons (mCall F__law_pick (mCons (mFz 0) (mCons (mOp lenP (mCons (mVar 1) mNil)) mNil))) mNil)))) sNil)
theorem tr__law_chosen (F__law_pick : Fn) : trBody (T__law_chosen F__law_pick) 60 ⟨[], false, 100000, []⟩ (defScope (top 41)) (defBody (top 41)) = some (m__law_chosen F__law_pick) := by kernel_rfl
theorem sc__law_chosen : FnScope N__law_chosen ["source", "some"] (defScope (top 41)) := ⟨rfl, rfl, rfl, by decide +kernel, rfl, by decide +kernel, by decide +kernel⟩
noncomputable def F__law_chosen : Fn := runF (m__law_chosen F__law_pick) 2
/-! _law_mixed -/
def N__law_mixed : List Str := ["source", "some", "found", "one"]
def T__law_mixed (F__law_pick : Fn) : Tab := ⟨N__law_mixed, CS, [(("_law_pick" : Str), 2, F__law_pick)], [], BL, XC⟩
noncomputable def b__law_mixed_1 (F__law_pick : Fn) : M Fl := (sCons (sExpr (mMut insertM (mVar 2) (mCons (mCall F__law_pick (mCons (mFz 0) (mCons (mOp addP (mCons (mOp lenP (mCons (mVar 2) mNil)) (mCons (mK (.int 1)) mNil))) mNil))) (mCons (mFz 3) mNil)))) sNil)
noncomputable def m__law_mixed (F__law_pick : Fn) : M Fl := (sCons (sOwn 2 (mLst mNil)) (sCons (sFor (.nm 3) (mSeq (mFz 1)) (b__law_mixed_1 F__law_pick)) (sCons (sRet (mFz 2)) sNil)))
theorem tr__law_mixed (F__law_pick : Fn) : trBody (T__law_mixed F__law_pick) 60 ⟨["found"], false, 100000, []⟩ (defScope (top 42)) (defBody (top 42)) = some (m__law_mixed F__law_pick) := by kernel_rfl
theorem sc__law_mixed : FnScope N__law_mixed ["source", "some"] (defScope (top 42)) := ⟨rfl, rfl, rfl, by decide +kernel, rfl, by decide +kernel, by decide +kernel⟩
noncomputable def F__law_mixed : Fn := runF (m__law_mixed F__law_pick) 4
/-! _law_is_number -/
def N__law_is_number : List Str := ["value", "low", "high"]
def T__law_is_number : Tab := ⟨N__law_is_number, CS, [], [], BL, XC⟩
noncomputable def m__law_is_number : M Fl := (sCons (sRet (mVal (mAnd (mBl (mOp (isiP .int) (mCons (mVar 0) mNil))) (mBl (mVal (mAnd (mBl (mVal (mNot (mTru (mOp (isiP .bool) (mCons (mVar 0) mNil)))))) (mBl (mChain leP leP (mVar 1) (mVar 0) (mVar 2))))))))) sNil)
theorem tr__law_is_number : trBody (T__law_is_number) 60 ⟨[], false, 100000, []⟩ (defScope (top 43)) (defBody (top 43)) = some (m__law_is_number) := by kernel_rfl
theorem sc__law_is_number : FnScope N__law_is_number ["value", "low", "high"] (defScope (top 43)) := ⟨rfl, rfl, rfl, by decide +kernel, rfl, by decide +kernel, by decide +kernel⟩
noncomputable def F__law_is_number : Fn := runF (m__law_is_number) 3
/-! _law_wide -/
def N__law_wide : List Str := ["value", "least", "most"]
def T__law_wide : Tab := ⟨N__law_wide, CS, [], [], BL, XC⟩
noncomputable def m__law_wide : M Fl := (sCons (sRet (mVal (mAnd (mBl (mOp (isiP .tuple) (mCons (mVar 0) mNil))) (mBl (mChain leP leP (mVar 1) (mOp lenP (mCons (mVar 0) mNil)) (mVar 2)))))) sNil)
theorem tr__law_wide : trBody (T__law_wide) 60 ⟨[], false, 100000, []⟩ (defScope (top 44)) (defBody (top 44)) = some (m__law_wide) := by kernel_rfl
theorem sc__law_wide : FnScope N__law_wide ["value", "least", "most"] (defScope (top 44)) := ⟨rfl, rfl, rfl, by decide +kernel, rfl, by decide +kernel, by decide +kernel⟩
noncomputable def F__law_wide : Fn := runF (m__law_wide) 3
/-! _law_good_state -/
def N__law_good_state : List Str := ["fields", "value", ".0", "at"]
def T__law_good_state (F__law_wide F__law_is_number : Fn) : Tab := ⟨N__law_good_state, CS, [(("_law_wide" : Str), 3, F__law_wide), (("_law_is_number" : Str), 3, F__law_is_number)], [], BL, XC⟩
noncomputable def l__law_good_state_1 (F__law_wide F__law_is_number : Fn) : P → M (List P) := mEl (.nm 3) (mNot (mTru (mCall F__law_is_number (mCons (mOp idxP (mCons (mVar 1) (mCons (mVar 3) mNil))) (mCons (mOp idxP (mCons (mOp idxP (mCons (mVar 0) (mCons (mVar 3) mNil))) (mCons (mK (.int 1)) mNil))) (mCons (mOp idxP (mCons (mOp idxP (mCons (mVar 0) (mCons (mVar 3) mNil))) (mCons (mK (.int 2)) mNil))) mNil)))))) (mFz 3)
noncomputable def m__law_good_state (F__law_wide F__law_is_number : Fn) : M Fl := (sCons (sIf (mNot (mTru (mCall F__law_wide (mCons (mFz 1) (mCons (mOp lenP (mCons (mVar 0) mNil)) (mCons (mOp lenP (mCons (mVar 0) mNil)) mNil)))))) (sCons (sRet (mK (.bool false))) sNil) sNil) (sCons (sRet (mOp eqP (mCons (mLc [2, 3] (mRng1 (mCons (mOp lenP (mCons (mVar 0) mNil)) mNil)) (l__law_good_state_1 F__law_wide F__law_is_number)) (mCons (mLst mNil) mNil)))) sNil))
theorem tr__law_good_state (F__law_wide F__law_is_number : Fn) : trBody (T__law_good_state F__law_wide F__law_is_number) 60 ⟨[], false, 100000, []⟩ (defScope (top 45)) (defBody (top 45)) = some (m__law_good_state F__law_wide F__law_is_number) := by kernel_rfl
theorem sc__law_good_state : FnScope N__law_good_state ["fields", "value"] (defScope (top 45)) := ⟨rfl, rfl, rfl, by decide +kernel, rfl, by decide +kernel, by decide +kernel⟩
noncomputable def F__law_good_state : Fn := runF (m__law_good_state F__law_wide F__law_is_number) 4
/-! _law_drawn_fields -/
def N__law_drawn_fields : List Str := ["source", "most", "names", "found", "many", "name", "wide", "low"]
def T__law_drawn_fields (F__law_mixed F__law_pick : Fn) : Tab := ⟨N__law_drawn_fields, CS, [(("_law_mixed" : Str), 2, F__law_mixed), (("_law_pick" : Str), 2, F__law_pick)], [], BL, XC⟩
noncomputable def b__law_drawn_fields_1 (F__law_mixed F__law_pick : Fn) : M Fl := (sCons (sAsg 6 (mOp addP (mCons (mK (.int 1)) (mCons (mCall F__law_pick (mCons (mFz 0) (mCons (mOp minP (mCons (mOp idxP (mCons (mLst (mCons (mK (.int 6)) (mCons (mK (.int 6)) (mCons (mK (.int 41)) mNil)))) (mCons (mCall F__law_pick (mCons (mFz 0) (mCons (mK (.int 3)) mNil))) mNil))) (mCons (mOp fdivP (mCons (mVar 1) (mCons (mVar 4) mNil))) mNil))) mNil))) mNil)))) (sCons (sAsg 7 (mOp idxP (mCons (mLst (mCons (mK (.int 0)) (mCons (mK (.int 0)) (mCons (mOp negP (mCons (mK (.int 1)) mNil)) (mCons (mOp subP (mCons (mK (.int 0)) (mCons (mCall F__law_pick (mCons (mFz 0) (mCons (mK (.int 20)) mNil))) mNil))) (mCons (mK (.int 20)) (mCons (mOp negP (mCons (mK (.int 20)) mNil)) mNil))))))) (mCons (mCall F__law_pick (mCons (mFz 0) (mCons (mK (.int 6)) mNil))) mNil)))) (sCons (sAsg 7 (mOp minP (mCons (mVar 7) (mCons (mOp subP (mCons (mK (.int 21)) (mCons (mVar 6) mNil))) mNil)))) (sCons (sExpr (mMut appendM (mVar 3) (mCons (mTup (mCons (mFz 5) (mCons (mFz 7) (mCons (mOp subP (mCons (mOp addP (mCons (mVar 7) (mCons (mVar 6) mNil))) (mCons (mK (.int 1)) mNil))) mNil)))) mNil))) (sCons (sAsg 4 (mOp mulP (mCons (mVar 4) (mCons (mVar 6) mNil)))) sNil)))))
noncomputable def m__law_drawn_fields (F__law_mixed F__law_pick : Fn) : M Fl := (sCons (sAsg 2 (mOp sortedP (mCons (mSl (mCall F__law_mixed (mCons (mFz 0) (mCons (mLst (mCons (mK (.str "a")) (mCons (mK (.str "b")) (mCons (mK (.str "left")) (mCons (mK (.str "n")) (mCons (mK (.str "zz")) (mCons (mK (.str "abcdefgh")) mNil))))))) mNil))) mNoP (mPt (mOp addP (mCons (mK (.int 1)) (mCons (mCall F__law_pick (mCons (mFz 0) (mCons (mK (.int 3)) mNil))) mNil))))) mNil))) (sCons (sParO true false 3 4 (mLst mNil) (mK (.int 1))) (sCons (sFor (.nm 5) (mSeq (mFz 2)) (b__law_drawn_fields_1 F__law_mixed F__law_pick)) (sCons (sRet (mOp tupleP (mCons (mVar 3) mNil))) sNil))))
theorem tr__law_drawn_fields (F__law_mixed F__law_pick : Fn) : trBody (T__law_drawn_fields F__law_mixed F__law_pick) 60 ⟨["found"], false, 100000, []⟩ (defScope (top 46)) (defBody (top 46)) = some (m__law_drawn_fields F__law_mixed F__law_pick) := by kernel_rfl
theorem sc__law_drawn_fields : FnScope N__law_drawn_fields ["source", "most"] (defScope (top 46)) := ⟨rfl, rfl, rfl, by decide +kernel, rfl, by decide +kernel, by decide +kernel⟩
noncomputable def F__law_drawn_fields : Fn := runF (m__law_drawn_fields F__law_mixed F__law_pick) 8
/-! _law_drawn_state -/
def N__law_drawn_state : List Str := ["source", "fields", ".0", "name", "low", "high"]
def T__law_drawn_state (F__law_pick : Fn) : Tab := ⟨N__law_drawn_state, CS, [(("_law_pick" : Str), 2, F__law_pick)], [], BL, XC⟩
noncomputable def l__law_drawn_state_1 (F__law_pick : Fn) : P → M (List P) := mEl (.tp (.cons (.nm 3) (.cons (.nm 4) (.cons (.nm 5) .nil)))) mTrue (mOp addP (mCons (mVar 4) (mCons (mCall F__law_pick (mCons (mFz 0) (mCons (mOp addP (mCons (mOp subP (mCons (mVar 5) (mCons (mVar 4) mNil))) (mCons (mK (.int 1)) mNil))) mNil))) mNil)))
noncomputable def m__law_drawn_state (F__law_pick : Fn) : M Fl := (sCons (sRet (mOp tupleP (mCons (mLc [2, 3, 4, 5] (mSeq (mFz 1)) (l__law_drawn_state_1 F__law_pick)) mNil))) sNil)
theorem tr__law_drawn_state (F__law_pick : Fn) : trBody (T__law_drawn_state F__law_pick) 60 ⟨[], false, 100000, []⟩ (defScope (top 47)) (defBody (top 47)) = some (m__law_drawn_state F__law_pick) := by kernel_rfl
theorem sc__law_drawn_state : FnScope N__law_drawn_state ["source", "fields"] (defScope (top 47)) := ⟨rfl, rfl, rfl, by decide +kernel, rfl, by decide +kernel, by decide +kernel⟩
noncomputable def F__law_drawn_state : Fn := runF (m__law_drawn_state F__law_pick) 6
/-! _law_drawn_condition -/
def N__law_drawn_condition : List Str := ["source", "fields", "most", "found", "turn", "name", "low", "high", "number", "worth"]
def T__law_drawn_condition (F__law_chosen F__law_pick : Fn) : Tab := ⟨N__law_drawn_condition, CS, [(("_law_chosen" : Str), 2, F__law_chosen), (("_law_pick" : Str), 2, F__law_pick)], [], BL, XC⟩
noncomputable def b__law_drawn_condition_1 (F__law_chosen F__law_pick : Fn) : M Fl := (sCons (sTgt (.tp (.cons (.nm 5) (.cons (.nm 6) (.cons (.nm 7) .nil)))) (mCall F__law_chosen (mCons (mFz 0) (mCons (mFz 1) mNil)))) (sCons (sAsg 8 (mLst (mCons (mFz 6) (mCons (mFz 7) (mCons (mOp addP (mCons (mVar 6) (mCons (mCall F__law_pick (mCons (mFz 0) (mCons (mOp addP (mCons (mOp subP (mCons (mVar 7) (mCons (mVar 6) mNil))) (mCons (mK (.int 1)) mNil))) mNil))) mNil))) (mCons (mOp subP (mCons (mVar 6) (mCons (mK (.int 1)) mNil))) (mCons (mOp subP (mCons (mCall F__law_pick (mCons (mFz 0) (mCons (mK (.int 41)) mNil))) (mCons (mK (.int 20)) mNil))) mNil))))))) (sCons (sAsg 9 (mOp maxP (mCons (mOp negP (mCons (mK (.int 20)) mNil)) (mCons (mOp minP (mCons (mK (.int 20)) (mCons (mCall F__law_chosen (mCons (mFz 0) (mCons (mFz 8) mNil))) mNil))) mNil)))) (sCons (sExpr (mMut appendM (mVar 3) (mCons (mTup (mCons (mFz 5) (mCons (mCall F__law_chosen (mCons (mFz 0) (mCons (mLst (mCons (mK (.str "is")) (mCons (mK (.str "not")) (mCons (mK (.str "least")) (mCons (mK (.str "most")) mNil))))) mNil))) (mCons (mFz 9) mNil)))) mNil))) sNil))))
noncomputable def m__law_drawn_condition (F__law_chosen F__law_pick : Fn) : M Fl := (sCons (sOwn 3 (mLst mNil)) (sCons (sFor (.nm 4) (mRng1 (mCons (mCall F__law_pick (mCons (mFz 0) (mCons (mOp addP (mCons (mVar 2) (mCons (mK (.int 1)) mNil))) mNil))) mNil)) (b__law_drawn_condition_1 F__law_chosen F__law_pick)) (sCons (sRet (mOp tupleP (mCons (mVar 3) mNil))) sNil)))
theorem tr__law_drawn_condition (F__law_chosen F__law_pick : Fn) : trBody (T__law_drawn_condition F__law_chosen F__law_pick) 60 ⟨["found"], false, 100000, []⟩ (defScope (top 48)) (defBody (top 48)) = some (m__law_drawn_condition F__law_chosen F__law_pick) := by kernel_rfl
theorem sc__law_drawn_condition : FnScope N__law_drawn_condition ["source", "fields", "most"] (defScope (top 48)) := ⟨rfl, rfl, rfl, by decide +kernel, rfl, by decide +kernel, by decide +kernel⟩
noncomputable def F__law_drawn_condition : Fn := runF (m__law_drawn_condition F__law_chosen F__law_pick) 10
/-! _law_drawn_effect -/
def N__law_drawn_effect : List Str := ["source", "fields", "name", "low", "high", "names", "found", "kind", ".0"]
def T__law_drawn_effect (F__law_pick F__law_chosen : Fn) : Tab := ⟨N__law_drawn_effect, CS, [(("_law_pick" : Str), 2, F__law_pick), (("_law_chosen" : Str), 2, F__law_chosen)], [], BL, XC⟩
noncomputable def l__law_drawn_effect_1 (F__law_pick F__law_chosen : Fn) : P → M (List P) := mEl (.tp (.cons (.nm 2) (.cons (.nm 3) (.cons (.nm 4) .nil)))) mTrue (mFz 2)
noncomputable def b__law_drawn_effect_1 (F__law_pick F__law_chosen : Fn) : M Fl := (sCons (sAsg 7 (mCall F__law_pick (mCons (mFz 0) (mCons (mK (.int 8)) mNil)))) (sCons (sIf (mBl (mOp ltP (mCons (mVar 7) (mCons (mK (.int 3)) mNil)))) (sCons (sExpr (mMut appendM (mVar 6) (mCons (mTup (mCons (mFz 2) (mCons (mK (.str "add")) (mCons (mCall F__law_chosen (mCons (mFz 0) (mCons (mLst (mCons (mK (.int 1)) (mCons (mOp negP (mCons (mK (.int 1)) mNil)) (mCons (mOp negP (mCons (mK (.int 1)) mNil)) (mCons (mK (.int 2)) mNil))))) mNil))) mNil)))) mNil))) sNil) (sCons (sIf (mBl (mOp ltP (mCons (mVar 7) (mCons (mK (.int 5)) mNil)))) (sCons (sExpr (mMut appendM (mVar 6) (mCons (mTup (mCons (mFz 2) (mCons (mK (.str "set")) (mCons (mOp addP (mCons (mVar 3) (mCons (mCall F__law_pick (mCons (mFz 0) (mCons (mOp addP (mCons (mOp subP (mCons (mVar 4) (mCons (mVar 3) mNil))) (mCons (mK (.int 1)) mNil))) mNil))) mNil))) mNil)))) mNil))) sNil) (sCons (sIf (mBl (mOp eqP (mCons (mVar 7) (mCons (mK (.int 5)) mNil)))) (sCons (sExpr (mMut appendM (mVar 6) (mCons (mTup (mCons (mFz 2) (mCons (mK (.str "copy")) (mCons (mCall F__law_chosen (mCons (mFz 0) (mCons (mFz 5) mNil))) mNil)))) mNil))) sNil) (sCons (sIf (mAnd (mBl (mOp eqP (mCons (mVar 7) (mCons (mK (.int 6)) mNil)))) (mBl (mOp eqP (mCons (mCall F__law_pick (mCons (mFz 0) (mCons (mK (.int 3)) mNil))) (mCons (mK (.int 0)) mNil))))) (sCons (sExpr (mMut appendM (mVar 6) (mCons (mTup (mCons (mFz 2) (mCons (mCall F__law_chosen (mCons (mFz 0) (mCons (mLst (mCons (mK (.str "set")) (mCons (mK (.str "add")) mNil))) mNil))) (mCons (mOp subP (mCons (mCall F__law_pick (mCons (mFz 0) (mCons (mK (.int 41)) mNil))) (mCons (mK (.int 20)) mNil))) mNil)))) mNil))) sNil) sNil) sNil)) sNil)) sNil)) sNil))
noncomputable def m__law_drawn_effect (F__law_pick F__law_chosen : Fn) : M Fl := (sCons (sParO false true 5 6 (mLc [8, 2, 3, 4] (mSeq (mFz 1)) (l__law_drawn_effect_1 F__law_pick F__law_chosen)) (mLst mNil)) (sCons (sFor (.tp (.cons (.nm 2) (.cons (.nm 3) (.cons (.nm 4) .nil)))) (mSeq (mFz 1)) (b__law_drawn_effect_1 F__law_pick F__law_chosen)) (sCons (sRet (mOp tupleP (mCons (mVar 6) mNil))) sNil)))
theorem tr__law_drawn_effect (F__law_pick F__law_chosen : Fn) : trBody (T__law_drawn_effect F__law_pick F__law_chosen) 60 ⟨["found"], false, 100000, []⟩ (defScope (top 49)) (defBody (top 49)) = some (m__law_drawn_effect F__law_pick F__law_chosen) := by kernel_rfl
theorem sc__law_drawn_effect : FnScope N__law_drawn_effect ["source", "fields"] (defScope (top 49)) := ⟨rfl, rfl, rfl, by decide +kernel, rfl, by decide +kernel, by decide +kernel⟩
noncomputable def F__law_drawn_effect : Fn := runF (m__law_drawn_effect F__law_pick F__law_chosen) 9
/-! _law_drawn_system -/
def N__law_drawn_system : List Str := ["source", "states", "commands", "clients", "fields", "people", "labels", "found", "label", "users", "condition", ".0", "person"]
def T__law_drawn_system (F__law_drawn_fields F__law_mixed F__law_pick F__law_chosen F__law_drawn_condition F__law_drawn_effect F__law_drawn_state : Fn) : Tab := ⟨N__law_drawn_system, CS, [(("_law_drawn_fields" : Str), 2, F__law_drawn_fields), (("_law_mixed" : Str), 2, F__law_mixed), (("_law_pick" : Str), 2, F__law_pick), (("_law_chosen" : Str), 2, F__law_chosen), (("_law_drawn_condition" : Str), 3, F__law_drawn_condition), (("_law_drawn_effect" : Str), 2, F__law_drawn_effect), (("_law_drawn_state" : Str), 2, F__law_drawn_state)], [], BL, XC⟩
noncomputable def l__law_drawn_system_1 (F__law_drawn_fields F__law_mixed F__law_pick F__law_chosen F__law_drawn_condition F__law_drawn_effect F__law_drawn_state : Fn) : P → M (List P) := mEl (.nm 12) (mBl (mOp gtP (mCons (mCall F__law_pick (mCons (mFz 0) (mCons (mK (.int 3)) mNil))) (mCons (mK (.int 0)) mNil)))) (mFz 12)
noncomputable def b__law_drawn_system_1 (F__law_drawn_fields F__law_mixed F__law_pick F__law_chosen F__law_drawn_condition F__law_drawn_effect F__law_drawn_state : Fn) : M Fl := (sCons (sAsg 9 (mOp sortedP (mCons (mLc [11, 12] (mSeq (mFz 5)) (l__law_drawn_system_1 F__law_drawn_fields F__law_mixed F__law_pick F__law_chosen F__law_drawn_condition F__law_drawn_effect F__law_drawn_state)) mNil))) (sCons (sIf (mBl (mOp eqP (mCons (mVar 9) (mCons (mLst mNil) mNil)))) (sCons (sAsg 9 (mLst (mCons (mCall F__law_chosen (mCons (mFz 0) (mCons (mFz 5) mNil))) mNil))) sNil) sNil) (sCons (sAsg 10 (mCall F__law_drawn_condition (mCons (mFz 0) (mCons (mFz 4) (mCons (mCall F__law_pick (mCons (mFz 0) (mCons (mK (.int 3)) mNil))) mNil))))) (sCons (sExpr (mMut appendM (mVar 7) (mCons (mTup (mCons (mFz 8) (mCons (mFz 10) (mCons (mCall F__law_drawn_effect (mCons (mFz 0) (mCons (mFz 4) mNil))) (mCons (mOp tupleP (mCons (mVar 9) mNil)) mNil))))) mNil))) sNil))))
noncomputable def m__law_drawn_system (F__law_drawn_fields F__law_mixed F__law_pick F__law_chosen F__law_drawn_condition F__law_drawn_effect F__law_drawn_state : Fn) : M Fl := (sCons (sAsg 4 (mCall F__law_drawn_fields (mCons (mFz 0) (mCons (mFz 1) mNil)))) (sCons (sAsg 5 (mSl (mCall F__law_mixed (mCons (mFz 0) (mCons (mLst (mCons (mK (.str "ann")) (mCons (mK (.str "bob")) (mCons (mK (.str "c")) (mCons (mK (.str "dd")) (mCons (mK (.str "user")) mNil)))))) mNil))) mNoP (mPt (mOp addP (mCons (mK (.int 1)) (mCons (mCall F__law_pick (mCons (mFz 0) (mCons (mFz 3) mNil))) mNil)))))) (sCons (sAsg 6 (mCall F__law_mixed (mCons (mFz 0) (mCons (mLst (mCons (mK (.str "buy")) (mCons (mK (.str "add")) (mCons (mK (.str "x")) (mCons (mK (.str "take")) (mCons (mK (.str "put")) (mCons (mK (.str "zz")) (mCons (mK (.str "longname")) (mCons (mK (.str "b")) (mCons (mK (.str "c")) (mCons (mK (.str "ann")) mNil))))))))))) mNil)))) (sCons (sOwn 7 (mLst mNil)) (sCons (sFor (.nm 8) (mSeq (mOp sortedP (mCons (mSl (mVar 6) mNoP (mPt (mOp addP (mCons (mK (.int 1)) (mCons (mCall F__law_pick (mCons (mFz 0) (mCons (mFz 2) mNil))) mNil))))) mNil))) (b__law_drawn_system_1 F__law_drawn_fields F__law_mixed F__law_pick F__law_chosen F__law_drawn_condition F__law_drawn_effect F__law_drawn_state)) (sCons (sRet (mTup (mCons (mFz 4) (mCons (mCall F__law_drawn_state (mCons (mFz 0) (mCons (mFz 4) mNil))) (mCons (mOp tupleP (mCons (mVar 7) mNil)) mNil))))) sNil))))))
theorem tr__law_drawn_system (F__law_drawn_fields F__law_mixed F__law_pick F__law_chosen F__law_drawn_condition F__law_drawn_effect F__law_drawn_state : Fn) : trBody (T__law_drawn_system F__law_drawn_fields F__law_mixed F__law_pick F__law_chosen F__law_drawn_condition F__law_drawn_effect F__law_drawn_state) 60 ⟨["found"], false, 100000, []⟩ (defScope (top 50)) (defBody (top 50)) = some (m__law_drawn_system F__law_drawn_fields F__law_mixed F__law_pick F__law_chosen F__law_drawn_condition F__law_drawn_effect F__law_drawn_state) := by kernel_rfl
theorem sc__law_drawn_system : FnScope N__law_drawn_system ["source", "states", "commands", "clients"] (defScope (top 50)) := ⟨rfl, rfl, rfl, by decide +kernel, rfl, by decide +kernel, by decide +kernel⟩
noncomputable def F__law_drawn_system : Fn := runF (m__law_drawn_system F__law_drawn_fields F__law_mixed F__law_pick F__law_chosen F__law_drawn_condition F__law_drawn_effect F__law_drawn_state) 13
/-! _law_labels -/
def N__law_labels : List Str := ["system", ".0", "item"]
def T__law_labels : Tab := ⟨N__law_labels, CS, [], [], BL, XC⟩
noncomputable def l__law_labels_1 : P → M (List P) := mEl (.nm 2) mTrue (mOp idxP (mCons (mVar 2) (mCons (mK (.int 0)) mNil)))
noncomputable def m__law_labels : M Fl := (sCons (sRet (mLc [1, 2] (mSeq (mOp idxP (mCons (mVar 0) (mCons (mK (.int 2)) mNil)))) (l__law_labels_1))) sNil)
theorem tr__law_labels : trBody (T__law_labels) 60 ⟨[], false, 100000, []⟩ (defScope (top 51)) (defBody (top 51)) = some (m__law_labels) := by kernel_rfl
theorem sc__law_labels : FnScope N__law_labels ["system"] (defScope (top 51)) := ⟨rfl, rfl, rfl, by decide +kernel, rfl, by decide +kernel, by decide +kernel⟩
noncomputable def F__law_labels : Fn := runF (m__law_labels) 3
/-! _law_at -/
def N__law_at : List Str := ["fields", "name", ".0", "item"]
def T__law_at : Tab := ⟨N__law_at, CS, [], [], BL, XC⟩
noncomputable def l__law_at_1 : P → M (List P) := mEl (.nm 3) mTrue (mOp idxP (mCons (mVar 3) (mCons (mK (.int 0)) mNil)))
noncomputable def m__law_at : M Fl := (sCons (sRet (mMeth .lst indexP (mLc [2, 3] (mSeq (mFz 0)) (l__law_at_1)) (mCons (mFz 1) mNil))) sNil)
theorem tr__law_at : trBody (T__law_at) 60 ⟨[], false, 100000, []⟩ (defScope (top 52)) (defBody (top 52)) = some (m__law_at) := by kernel_rfl
theorem sc__law_at : FnScope N__law_at ["fields", "name"] (defScope (top 52)) := ⟨rfl, rfl, rfl, by decide +kernel, rfl, by decide +kernel, by decide +kernel⟩
noncomputable def F__law_at : Fn := runF (m__law_at) 4
/-! _law_holds -/
def N__law_holds : List Str := ["fields", "condition", "state", "name", "sign", "number", "worth"]
def T__law_holds (F__law_at : Fn) : Tab := ⟨N__law_holds, CS, [(("_law_at" : Str), 2, F__law_at)], [], BL, XC⟩
noncomputable def b__law_holds_1 (F__law_at : Fn) : M Fl := (sCons (sAsg 6 (mOp idxP (mCons (mVar 2) (mCons (mCall F__law_at (mCons (mFz 0) (mCons (mFz 3) mNil))) mNil)))) (sCons (sIf (mOr (mAnd (mBl (mOp eqP (mCons (mVar 4) (mCons (mK (.str "is")) mNil)))) (mBl (mOp neP (mCons (mVar 6) (mCons (mVar 5) mNil))))) (mAnd (mBl (mOp eqP (mCons (mVar 4) (mCons (mK (.str "not")) mNil)))) (mBl (mOp eqP (mCons (mVar 6) (mCons (mVar 5) mNil)))))) (sCons (sRet (mK (.bool false))) sNil) sNil) (sCons (sIf (mOr (mAnd (mBl (mOp eqP (mCons (mVar 4) (mCons (mK (.str "least")) mNil)))) (mBl (mOp ltP (mCons (mVar 6) (mCons (mVar 5) mNil))))) (mAnd (mBl (mOp eqP (mCons (mVar 4) (mCons (mK (.str "most")) mNil)))) (mBl (mOp gtP (mCons (mVar 6) (mCons (mVar 5) mNil)))))) (sCons (sRet (mK (.bool false))) sNil) sNil) sNil)))
noncomputable def m__law_holds (F__law_at : Fn) : M Fl := (sCons (sFor (.tp (.cons (.nm 3) (.cons (.nm 4) (.cons (.nm 5) .nil)))) (mSeq (mFz 1)) (b__law_holds_1 F__law_at)) (sCons (sRet (mK (.bool true))) sNil))
theorem tr__law_holds (F__law_at : Fn) : trBody (T__law_holds F__law_at) 60 ⟨[], false, 100000, []⟩ (defScope (top 53)) (defBody (top 53)) = some (m__law_holds F__law_at) := by kernel_rfl
theorem sc__law_holds : FnScope N__law_holds ["fields", "condition", "state"] (defScope (top 53)) := ⟨rfl, rfl, rfl, by decide +kernel, rfl, by decide +kernel, by decide +kernel⟩
noncomputable def F__law_holds : Fn := runF (m__law_holds F__law_at) 7
/-! _law_after -/
def N__law_after : List Str := ["system", "state", "label", "fields", "command", "found", "name", "word", "operand", ".0", "item"]
def T__law_after (F__law_holds F__law_at F__law_good_state : Fn) : Tab := ⟨N__law_after, CS, [(("_law_holds" : Str), 3, F__law_holds), (("_law_at" : Str), 2, F__law_at), (("_law_good_state" : Str), 2, F__law_good_state)], [], BL, XC⟩
noncomputable def l__law_after_1 (F__law_holds F__law_at F__law_good_state : Fn) : P → M (List P) := mEl (.nm 10) (mBl (mOp eqP (mCons (mOp idxP (mCons (mVar 10) (mCons (mK (.int 0)) mNil))) (mCons (mVar 2) mNil)))) (mFz 10)
noncomputable def b__law_after_1 (F__law_holds F__law_at F__law_good_state : Fn) : M Fl := (sCons (sIf (mBl (mOp eqP (mCons (mVar 7) (mCons (mK (.str "copy")) mNil)))) (sCons (sSet (mOp idxP (mCons (mVar 1) (mCons (mCall F__law_at (mCons (mFz 3) (mCons (mFz 8) mNil))) mNil))) (mVar 5) (mCall F__law_at (mCons (mFz 3) (mCons (mFz 6) mNil)))) sNil) (sCons (sIf (mBl (mOp eqP (mCons (mVar 7) (mCons (mK (.str "add")) mNil)))) (sCons (sSet (mOp addP (mCons (mOp idxP (mCons (mVar 1) (mCons (mCall F__law_at (mCons (mFz 3) (mCons (mFz 6) mNil))) mNil))) (mCons (mVar 8) mNil))) (mVar 5) (mCall F__law_at (mCons (mFz 3) (mCons (mFz 6) mNil)))) sNil) (sCons (sSet (mFz 8) (mVar 5) (mCall F__law_at (mCons (mFz 3) (mCons (mFz 6) mNil)))) sNil)) sNil)) sNil)
noncomputable def m__law_after (F__law_holds F__law_at F__law_good_state : Fn) : M Fl := (sCons (sAsg 3 (mOp idxP (mCons (mVar 0) (mCons (mK (.int 0)) mNil)))) (sCons (sAsg 4 (mOp idxP (mCons (mLc [9, 10] (mSeq (mOp idxP (mCons (mVar 0) (mCons (mK (.int 2)) mNil)))) (l__law_after_1 F__law_holds F__law_at F__law_good_state)) (mCons (mK (.int 0)) mNil)))) (sCons (sIf (mNot (mTru (mCall F__law_holds (mCons (mFz 3) (mCons (mOp idxP (mCons (mVar 4) (mCons (mK (.int 1)) mNil))) (mCons (mFz 1) mNil)))))) (sCons (sRet (mK .none)) sNil) sNil) (sCons (sOwn 5 (mOp listP (mCons (mVar 1) mNil))) (sCons (sFor (.tp (.cons (.nm 6) (.cons (.nm 7) (.cons (.nm 8) .nil)))) (mSeq (mOp idxP (mCons (mVar 4) (mCons (mK (.int 2)) mNil)))) (b__law_after_1 F__law_holds F__law_at F__law_good_state)) (sCons (sRet (mIte (mTru (mCall F__law_good_state (mCons (mFz 3) (mCons (mOp tupleP (mCons (mVar 5) mNil)) mNil)))) (mOp tupleP (mCons (mVar 5) mNil)) (mK .none))) sNil))))))
theorem tr__law_after (F__law_holds F__law_at F__law_good_state : Fn) : trBody (T__law_after F__law_holds F__law_at F__law_good_state) 60 ⟨["found"], false, 100000, []⟩ (defScope (top 54)) (defBody (top 54)) = some (m__law_after F__law_holds F__law_at F__law_good_state) := by kernel_rfl
theorem sc__law_after : FnScope N__law_after ["system", "state", "label"] (defScope (top 54)) := ⟨rfl, rfl, rfl, by decide +kernel, rfl, by decide +kernel, by decide +kernel⟩
noncomputable def F__law_after : Fn := runF (m__law_after F__law_holds F__law_at F__law_good_state) 11
/-! _law_states -/
def N__law_states : List Str := ["fields", "found", "name", "low", "high", "more", "state", ".0", "worth"]
def T__law_states : Tab := ⟨N__law_states, CS, [], [], BL, XC⟩
noncomputable def l__law_states_1 : P → M (List P) := mEl (.nm 8) mTrue (mOp addP (mCons (mVar 6) (mCons (mTup (mCons (mFz 8) mNil)) mNil)))
noncomputable def b__law_states_1 : M Fl := (sCons (sAsg 5 (mOp addP (mCons (mVar 5) (mCons (mLc [7, 8] (mRng2 (mCons (mVar 3) (mCons (mOp addP (mCons (mVar 4) (mCons (mK (.int 1)) mNil))) mNil))) (l__law_states_1)) mNil)))) sNil)
noncomputable def b__law_states_2 : M Fl := (sCons (sAsg 5 (mLst mNil)) (sCons (sFor (.nm 6) (mSeq (mFz 1)) (b__law_states_1)) (sCons (sAsg 1 (mFz 5)) sNil)))
noncomputable def m__law_states : M Fl := (sCons (sAsg 1 (mLst (mCons (mTup mNil) mNil))) (sCons (sFor (.tp (.cons (.nm 2) (.cons (.nm 3) (.cons (.nm 4) .nil)))) (mSeq (mFz 0)) (b__law_states_2)) (sCons (sRet (mFz 1)) sNil)))
theorem tr__law_states : trBody (T__law_states) 60 ⟨[], false, 100000, []⟩ (defScope (top 55)) (defBody (top 55)) = some (m__law_states) := by kernel_rfl
theorem sc__law_states : FnScope N__law_states ["fields"] (defScope (top 55)) := ⟨rfl, rfl, rfl, by decide +kernel, rfl, by decide +kernel, by decide +kernel⟩
noncomputable def F__law_states : Fn := runF (m__law_states) 9
/-! _law_table -/
def N__law_table : List Str := ["system", "found", "state", "label"]
def T__law_table (F__law_after F__law_labels F__law_states : Fn) : Tab := ⟨N__law_table, CS, [(("_law_after" : Str), 3, F__law_after), (("_law_labels" : Str), 1, F__law_labels), (("_law_states" : Str), 1, F__law_states)], [], BL, XC⟩
noncomputable def b__law_table_1 (F__law_after F__law_labels F__law_states : Fn) : M Fl := (sCons (sSet (mCall F__law_after (mCons (mFz 0) (mCons (mFz 2) (mCons (mFz 3) mNil)))) (mVar 1) (mTup (mCons (mFz 2) (mCons (mFz 3) mNil)))) sNil)
noncomputable def b__law_table_2 (F__law_after F__law_labels F__law_states : Fn) : M Fl := (sCons (sFor (.nm 3) (mSeq (mCall F__law_labels (mCons (mFz 0) mNil))) (b__law_table_1 F__law_after F__law_labels F__law_states)) sNil)
noncomputable def m__law_table (F__law_after F__law_labels F__law_states : Fn) : M Fl := (sCons (sOwn 1 (mDct mNil)) (sCons (sFor (.nm 2) (mSeq (mCall F__law_states (mCons (mOp idxP (mCons (mVar 0) (mCons (mK (.int 0)) mNil))) mNil))) (b__law_table_2 F__law_after F__law_labels F__law_states)) (sCons (sRet (mFz 1)) sNil)))
theorem tr__law_table (F__law_after F__law_labels F__law_states : Fn) : trBody (T__law_table F__law_after F__law_labels F__law_states) 60 ⟨["found"], false, 100000, []⟩ (defScope (top 56)) (defBody (top 56)) = some (m__law_table F__law_after F__law_labels F__law_states) := by kernel_rfl
theorem sc__law_table : FnScope N__law_table ["system"] (defScope (top 56)) := ⟨rfl, rfl, rfl, by decide +kernel, rfl, by decide +kernel, by decide +kernel⟩
noncomputable def F__law_table : Fn := runF (m__law_table F__law_after F__law_labels F__law_states) 4
/-! _law_reached -/
def N__law_reached : List Str := ["system", "table", "found", "rows", "state", "label", "there"]
def T__law_reached (F__law_labels : Fn) : Tab := ⟨N__law_reached, CS, [(("_law_labels" : Str), 1, F__law_labels)], [], BL, XC⟩
noncomputable def b__law_reached_1 (F__law_labels : Fn) : M Fl := (sCons (sAsg 6 (mOp idxP (mCons (mVar 1) (mCons (mTup (mCons (mFz 4) (mCons (mFz 5) mNil))) mNil)))) (sCons (sIf (mAnd (mBl (mOp isnotP (mCons (mVar 6) (mCons (mK .none) mNil)))) (mBl (mOp notinP (mCons (mVar 6) (mCons (mVar 2) mNil))))) (sCons (sSet (mK (.bool true)) (mVar 2) (mVar 6)) (sCons (sExpr (mMut appendM (mVar 3) (mCons (mFz 6) mNil))) sNil)) sNil) sNil))
noncomputable def m__law_reached (F__law_labels : Fn) : M Fl := (sCons (sParO true true 2 3 (mDct (mCons (mOp idxP (mCons (mVar 0) (mCons (mK (.int 1)) mNil))) (mCons (mK (.bool true)) mNil))) (mLst (mCons (mOp idxP (mCons (mVar 0) (mCons (mK (.int 1)) mNil))) mNil))) (sCons (sWh 100000 (mBl (mOp neP (mCons (mVar 3) (mCons (mLst mNil) mNil)))) (sCons (sAsg 4 (mMut popM (mVar 3) mNil)) (sCons (sFor (.nm 5) (mSeq (mCall F__law_labels (mCons (mFz 0) mNil))) (b__law_reached_1 F__law_labels)) sNil))) (sCons (sRet (mOp sortedP (mCons (mOp listP (mCons (mVar 2) mNil)) mNil))) sNil)))
theorem tr__law_reached (F__law_labels : Fn) : trBody (T__law_reached F__law_labels) 60 ⟨["found", "rows"], false, 100000, []⟩ (defScope (top 57)) (defBody (top 57)) = some (m__law_reached F__law_labels) := by kernel_rfl
theorem sc__law_reached : FnScope N__law_reached ["system", "table"] (defScope (top 57)) := ⟨rfl, rfl, rfl, by decide +kernel, rfl, by decide +kernel, by decide +kernel⟩
noncomputable def F__law_reached : Fn := runF (m__law_reached F__law_labels) 7
/-! law -/
def N_law : List Str := ["script", "k", "source", "system", "table", "due", "state", "one", "other", "there", "found"]
def T_law (F__law_source F__law_drawn_system F__law_table F__law_labels F__law_reached F_stops_p F_exchangeable : Fn) : Tab := ⟨N_law, CS, [(("_law_source" : Str), 2, F__law_source), (("_law_drawn_system" : Str), 4, F__law_drawn_system), (("_law_table" : Str), 1, F__law_table), (("_law_labels" : Str), 1, F__law_labels), (("_law_reached" : Str), 2, F__law_reached), (("stops" : Str), 1, F_stops_p), (("exchangeable" : Str), 3, F_exchangeable)], ["script"], BL, XC⟩
noncomputable def b_law_1 (F__law_source F__law_drawn_system F__law_table F__law_labels F__law_reached F_stops_p F_exchangeable : Fn) : M Fl := (sCons (sAsg 9 (mOp idxP (mCons (mVar 4) (mCons (mTup (mCons (mFz 6) (mCons (mFz 7) mNil))) mNil)))) (sCons (sIf (mAnd (mBl (mOp neP (mCons (mVar 7) (mCons (mVar 8) mNil)))) (mAnd (mBl (mOp isnotP (mCons (mVar 9) (mCons (mK .none) mNil)))) (mBl (mOp isnotP (mCons (mOp idxP (mCons (mVar 4) (mCons (mTup (mCons (mFz 6) (mCons (mFz 8) mNil))) mNil))) (mCons (mK .none) mNil)))))) (sCons (sIf (mBl (mOp isP (mCons (mOp idxP (mCons (mVar 4) (mCons (mTup (mCons (mFz 9) (mCons (mFz 8) mNil))) mNil))) (mCons (mK .none) mNil)))) (sCons (sSet (mK (.bool true)) (mVar 5) (mTup (mCons (mFz 7) (mCons (mFz 8) mNil)))) sNil) sNil) sNil) sNil) sNil))
noncomputable def b_law_2 (F__law_source F__law_drawn_system F__law_table F__law_labels F__law_reached F_stops_p F_exchangeable : Fn) : M Fl := (sCons (sFor (.nm 8) (mSeq (mCall F__law_labels (mCons (mFz 3) mNil))) (b_law_1 F__law_source F__law_drawn_system F__law_table F__law_labels F__law_reached F_stops_p F_exchangeable)) sNil)
noncomputable def b_law_3 (F__law_source F__law_drawn_system F__law_table F__law_labels F__law_reached F_stops_p F_exchangeable : Fn) : M Fl := (sCons (sFor (.nm 7) (mSeq (mCall F__law_labels (mCons (mFz 3) mNil))) (b_law_2 F__law_source F__law_drawn_system F__law_table F__law_labels F__law_reached F_stops_p F_exchangeable)) sNil)
noncomputable def b_law_4 (F__law_source F__law_drawn_system F__law_table F__law_labels F__law_reached F_stops_p F_exchangeable : Fn) : M Fl := (sCons (sIf (mOr (mBl (mOp isnotP (mCons (mCall F_exchangeable (mCons (mFz 3) (mCons (mFz 7) (mCons (mFz 8) mNil)))) (mCons (mK (.bool false)) mNil)))) (mBl (mOp isnotP (mCons (mCall F_exchangeable (mCons (mFz 3) (mCons (mFz 8) (mCons (mFz 7) mNil)))) (mCons (mK (.bool false)) mNil))))) (sCons (sRet (mK (.bool false))) sNil) sNil) sNil)
noncomputable def b_law_5 (F__law_source F__law_drawn_system F__law_table F__law_labels F__law_reached F_stops_p F_exchangeable : Fn) : M Fl := (sCons (sAsg 2 (mCall F__law_source (mCons (mFz 0) (mCons (mFz 1) mNil)))) (sCons (sAsg 3 (mCall F__law_drawn_system (mCons (mFz 2) (mCons (mK (.int 16)) (mCons (mK (.int 5)) (mCons (mK (.int 3)) mNil)))))) (sCons (sAsg 4 (mCall F__law_table (mCons (mFz 3) mNil))) (sCons (sOwn 5 (mDct mNil)) (sCons (sFor (.nm 6) (mSeq (mCall F__law_reached (mCons (mFz 3) (mCons (mFz 4) mNil)))) (b_law_3 F__law_source F__law_drawn_system F__law_table F__law_labels F__law_reached F_stops_p F_exchangeable)) (sCons (sAsg 10 (mCall F_stops_p (mCons (mFz 3) mNil))) (sCons (sIf (mOr (mNot (mTru (mOp (isiP .list) (mCons (mVar 10) mNil)))) (mBl (mOp neP (mCons (mVar 10) (mCons (mOp sortedP (mCons (mOp listP (mCons (mVar 5) mNil)) mNil)) mNil))))) (sCons (sRet (mK (.bool false))) sNil) sNil) (sCons (sForO (.tp (.cons (.nm 7) (.cons (.nm 8) .nil))) (mVar 10) (b_law_4 F__law_source F__law_drawn_system F__law_table F__law_labels F__law_reached F_stops_p F_exchangeable)) (sCons (sExpr (mMut appendM (mVar 10) (mCons (mK (.str "odd")) mNil))) (sCons (sIf (mBl (mOp neP (mCons (mCall F_stops_p (mCons (mFz 3) mNil)) (mCons (mOp sortedP (mCons (mOp listP (mCons (mVar 5) mNil)) mNil)) mNil)))) (sCons (sRet (mK (.bool false))) sNil) sNil) sNil))))))))))
noncomputable def m_law (F__law_source F__law_drawn_system F__law_table F__law_labels F__law_reached F_stops_p F_exchangeable : Fn) : M Fl := (sCons (sFor (.nm 1) (mRng1 (mCons (mOp maxP (mCons (mK (.int 5)) (mCons (mOp minP (mCons (mK (.int 14)) (mCons (mScrLen 0) mNil))) mNil))) mNil)) (b_law_5 F__law_source F__law_drawn_system F__law_table F__law_labels F__law_reached F_stops_p F_exchangeable)) (sCons (sRet (mK (.bool true))) sNil))
theorem tr_law (F__law_source F__law_drawn_system F__law_table F__law_labels F__law_reached F_stops_p F_exchangeable : Fn) : trBody (T_law F__law_source F__law_drawn_system F__law_table F__law_labels F__law_reached F_stops_p F_exchangeable) 60 ⟨["due"], false, 100000, ["found"]⟩ (defScope (top 58)) (defBody (top 58)) = some (m_law F__law_source F__law_drawn_system F__law_table F__law_labels F__law_reached F_stops_p F_exchangeable) := by kernel_rfl
theorem sc_law : FnScope N_law ["script"] (defScope (top 58)) := ⟨rfl, rfl, rfl, by decide +kernel, rfl, by decide +kernel, by decide +kernel⟩
noncomputable def F_law : Fn := runF (m_law F__law_source F__law_drawn_system F__law_table F__law_labels F__law_reached F_stops_p F_exchangeable) 11
section
variable [DL.WorldC]
variable {Pr : Program} {w : World} {K : Fg} {mg : Str → Option Value} {base : Heap} {cls : Nat → Value} {f : Addr} {fd : FuncData}
theorem ok_is_integer (G : Glob w K mg cls CS BL XC) (F : FnD K "is_integer" (top 9) f fd) (gf : mg "is_integer" = some (.ref f)) : Gfn Pr w K mg base cls 1 "is_integer" 3 F_is_integer :=
  step_ok (T := T_is_integer) (k := 0) G F gf sc_is_integer (F.bindsN (ps := ["value", "low", "high"]) fun _ _ _ _ _ _ us hl => match us, hl with | [_, _, _], _ => rfl) fns_nil (tr_is_integer)
theorem ok_is_name (G : Glob w K mg cls CS BL XC) (F : FnD K "is_name" (top 10) f fd) (gf : mg "is_name" = some (.ref f)) : Gfn Pr w K mg base cls 1 "is_name" 1 F_is_name :=
  step_ok (T := T_is_name) (k := 0) G F gf sc_is_name (F.bindsN (ps := ["value"]) fun _ _ _ _ _ _ us hl => match us, hl with | [_], _ => rfl) fns_nil (tr_is_name)
theorem ok_is_one_of (G : Glob w K mg cls CS BL XC) (F : FnD K "is_one_of" (top 11) f fd) (gf : mg "is_one_of" = some (.ref f)) : Gfn Pr w K mg base cls 1 "is_one_of" 2 F_is_one_of :=
  step_ok (T := T_is_one_of) (k := 0) G F gf sc_is_one_of (F.bindsN (ps := ["value", "names"]) fun _ _ _ _ _ _ us hl => match us, hl with | [_, _], _ => rfl) fns_nil (tr_is_one_of)
theorem ok_is_rising (G : Glob w K mg cls CS BL XC) (F : FnD K "is_rising" (top 12) f fd) (gf : mg "is_rising" = some (.ref f)) : Gfn Pr w K mg base cls 1 "is_rising" 1 F_is_rising :=
  step_ok (T := T_is_rising) (k := 0) G F gf sc_is_rising (F.bindsN (ps := ["things"]) fun _ _ _ _ _ _ us hl => match us, hl with | [_], _ => rfl) fns_nil (tr_is_rising)
theorem ok_is_tuple (G : Glob w K mg cls CS BL XC) (F : FnD K "is_tuple" (top 13) f fd) (gf : mg "is_tuple" = some (.ref f)) : Gfn Pr w K mg base cls 1 "is_tuple" 3 F_is_tuple :=
  step_ok (T := T_is_tuple) (k := 0) G F gf sc_is_tuple (F.bindsN (ps := ["value", "least", "most"]) fun _ _ _ _ _ _ us hl => match us, hl with | [_, _, _], _ => rfl) fns_nil (tr_is_tuple)
theorem ok_is_fields (G : Glob w K mg cls CS BL XC) (F : FnD K "is_fields" (top 14) f fd) (gf : mg "is_fields" = some (.ref f)) (h_is_tuple : Gfn Pr w K mg base cls 1 "is_tuple" 3 F_is_tuple) (h_is_name : Gfn Pr w K mg base cls 1 "is_name" 1 F_is_name) (h_is_integer : Gfn Pr w K mg base cls 1 "is_integer" 3 F_is_integer) (h_is_rising : Gfn Pr w K mg base cls 1 "is_rising" 1 F_is_rising) : Gfn Pr w K mg base cls 2 "is_fields" 1 F_is_fields :=
  step_ok (T := T_is_fields _ _ _ _) (k := 1) G F gf sc_is_fields (F.bindsN (ps := ["value"]) fun _ _ _ _ _ _ us hl => match us, hl with | [_], _ => rfl) (fns_cons (h_is_tuple.mono (by decide)) (fns_cons (h_is_name.mono (by decide)) (fns_cons (h_is_integer.mono (by decide)) (fns_cons (h_is_rising.mono (by decide)) fns_nil)))) (tr_is_fields _ _ _ _)
theorem ok_is_state (G : Glob w K mg cls CS BL XC) (F : FnD K "is_state" (top 15) f fd) (gf : mg "is_state" = some (.ref f)) (h_is_tuple : Gfn Pr w K mg base cls 1 "is_tuple" 3 F_is_tuple) (h_is_integer : Gfn Pr w K mg base cls 1 "is_integer" 3 F_is_integer) : Gfn Pr w K mg base cls 2 "is_state" 2 F_is_state :=
  step_ok (T := T_is_state _ _) (k := 1) G F gf sc_is_state (F.bindsN (ps := ["fields", "value"]) fun _ _ _ _ _ _ us hl => match us, hl with | [_, _], _ => rfl) (fns_cons (h_is_tuple.mono (by decide)) (fns_cons (h_is_integer.mono (by decide)) fns_nil)) (tr_is_state _ _)
theorem ok_is_condition (G : Glob w K mg cls CS BL XC) (F : FnD K "is_condition" (top 16) f fd) (gf : mg "is_condition" = some (.ref f)) (h_is_tuple : Gfn Pr w K mg base cls 1 "is_tuple" 3 F_is_tuple) (h_is_one_of : Gfn Pr w K mg base cls 1 "is_one_of" 2 F_is_one_of) (h_is_integer : Gfn Pr w K mg base cls 1 "is_integer" 3 F_is_integer) : Gfn Pr w K mg base cls 2 "is_condition" 2 F_is_condition :=
  step_ok (T := T_is_condition _ _ _) (k := 1) G F gf sc_is_condition (F.bindsN (ps := ["fields", "value"]) fun _ _ _ _ _ _ us hl => match us, hl with | [_, _], _ => rfl) (fns_cons (h_is_tuple.mono (by decide)) (fns_cons (h_is_one_of.mono (by decide)) (fns_cons (h_is_integer.mono (by decide)) fns_nil))) (tr_is_condition _ _ _)
theorem ok_is_effect (G : Glob w K mg cls CS BL XC) (F : FnD K "is_effect" (top 17) f fd) (gf : mg "is_effect" = some (.ref f)) (h_is_tuple : Gfn Pr w K mg base cls 1 "is_tuple" 3 F_is_tuple) (h_is_one_of : Gfn Pr w K mg base cls 1 "is_one_of" 2 F_is_one_of) (h_is_integer : Gfn Pr w K mg base cls 1 "is_integer" 3 F_is_integer) (h_is_rising : Gfn Pr w K mg base cls 1 "is_rising" 1 F_is_rising) : Gfn Pr w K mg base cls 2 "is_effect" 2 F_is_effect :=
  step_ok (T := T_is_effect _ _ _ _) (k := 1) G F gf sc_is_effect (F.bindsN (ps := ["fields", "value"]) fun _ _ _ _ _ _ us hl => match us, hl with | [_, _], _ => rfl) (fns_cons (h_is_tuple.mono (by decide)) (fns_cons (h_is_one_of.mono (by decide)) (fns_cons (h_is_integer.mono (by decide)) (fns_cons (h_is_rising.mono (by decide)) fns_nil)))) (tr_is_effect _ _ _ _)
theorem ok_is_command (G : Glob w K mg cls CS BL XC) (F : FnD K "is_command" (top 18) f fd) (gf : mg "is_command" = some (.ref f)) (h_is_tuple : Gfn Pr w K mg base cls 1 "is_tuple" 3 F_is_tuple) (h_is_name : Gfn Pr w K mg base cls 1 "is_name" 1 F_is_name) (h_is_condition : Gfn Pr w K mg base cls 2 "is_condition" 2 F_is_condition) (h_is_effect : Gfn Pr w K mg base cls 2 "is_effect" 2 F_is_effect) (h_is_rising : Gfn Pr w K mg base cls 1 "is_rising" 1 F_is_rising) : Gfn Pr w K mg base cls 3 "is_command" 2 F_is_command :=
  step_ok (T := T_is_command _ _ _ _ _) (k := 2) G F gf sc_is_command (F.bindsN (ps := ["fields", "value"]) fun _ _ _ _ _ _ us hl => match us, hl with | [_, _], _ => rfl) (fns_cons (h_is_tuple.mono (by decide)) (fns_cons (h_is_name.mono (by decide)) (fns_cons (h_is_condition.mono (by decide)) (fns_cons (h_is_effect.mono (by decide)) (fns_cons (h_is_rising.mono (by decide)) fns_nil))))) (tr_is_command _ _ _ _ _)
theorem ok_clients_in (G : Glob w K mg cls CS BL XC) (F : FnD K "clients_in" (top 20) f fd) (gf : mg "clients_in" = some (.ref f)) : Gfn Pr w K mg base cls 1 "clients_in" 1 F_clients_in :=
  step_ok (T := T_clients_in) (k := 0) G F gf sc_clients_in (F.bindsN (ps := ["system"]) fun _ _ _ _ _ _ us hl => match us, hl with | [_], _ => rfl) fns_nil (tr_clients_in)
theorem ok_is_system (G : Glob w K mg cls CS BL XC) (F : FnD K "is_system" (top 19) f fd) (gf : mg "is_system" = some (.ref f)) (h_is_tuple : Gfn Pr w K mg base cls 1 "is_tuple" 3 F_is_tuple) (h_is_fields : Gfn Pr w K mg base cls 2 "is_fields" 1 F_is_fields) (h_is_state : Gfn Pr w K mg base cls 2 "is_state" 2 F_is_state) (h_is_command : Gfn Pr w K mg base cls 3 "is_command" 2 F_is_command) (h_is_rising : Gfn Pr w K mg base cls 1 "is_rising" 1 F_is_rising) (h_clients_in : Gfn Pr w K mg base cls 1 "clients_in" 1 F_clients_in) : Gfn Pr w K mg base cls 4 "is_system" 1 F_is_system :=
  step_ok (T := T_is_system _ _ _ _ _ _) (k := 3) G F gf sc_is_system (F.bindsN (ps := ["value"]) fun _ _ _ _ _ _ us hl => match us, hl with | [_], _ => rfl) (fns_cons (h_is_tuple.mono (by decide)) (fns_cons (h_is_fields.mono (by decide)) (fns_cons (h_is_state.mono (by decide)) (fns_cons (h_is_command.mono (by decide)) (fns_cons (h_is_rising.mono (by decide)) (fns_cons (h_clients_in.mono (by decide)) fns_nil)))))) (tr_is_system _ _ _ _ _ _)
theorem ok_names_in (G : Glob w K mg cls CS BL XC) (F : FnD K "names_in" (top 21) f fd) (gf : mg "names_in" = some (.ref f)) : Gfn Pr w K mg base cls 1 "names_in" 1 F_names_in :=
  step_ok (T := T_names_in) (k := 0) G F gf sc_names_in (F.bindsN (ps := ["system"]) fun _ _ _ _ _ _ us hl => match us, hl with | [_], _ => rfl) fns_nil (tr_names_in)
theorem ok_command_of (G : Glob w K mg cls CS BL XC) (F : FnD K "command_of" (top 22) f fd) (gf : mg "command_of" = some (.ref f)) : Gfn Pr w K mg base cls 1 "command_of" 2 F_command_of :=
  step_ok (T := T_command_of) (k := 0) G F gf sc_command_of (F.bindsN (ps := ["system", "name"]) fun _ _ _ _ _ _ us hl => match us, hl with | [_, _], _ => rfl) fns_nil (tr_command_of)
theorem ok_index_of (G : Glob w K mg cls CS BL XC) (F : FnD K "index_of" (top 23) f fd) (gf : mg "index_of" = some (.ref f)) : Gfn Pr w K mg base cls 1 "index_of" 2 F_index_of :=
  step_ok (T := T_index_of) (k := 0) G F gf sc_index_of (F.bindsN (ps := ["fields", "name"]) fun _ _ _ _ _ _ us hl => match us, hl with | [_, _], _ => rfl) fns_nil (tr_index_of)
theorem ok_holds (G : Glob w K mg cls CS BL XC) (F : FnD K "holds" (top 24) f fd) (gf : mg "holds" = some (.ref f)) (h_index_of : Gfn Pr w K mg base cls 1 "index_of" 2 F_index_of) : Gfn Pr w K mg base cls 2 "holds" 3 F_holds :=
  step_ok (T := T_holds _) (k := 1) G F gf sc_holds (F.bindsN (ps := ["fields", "condition", "state"]) fun _ _ _ _ _ _ us hl => match us, hl with | [_, _, _], _ => rfl) (fns_cons (h_index_of.mono (by decide)) fns_nil) (tr_holds _)
theorem ok_led_to (G : Glob w K mg cls CS BL XC) (F : FnD K "led_to" (top 25) f fd) (gf : mg "led_to" = some (.ref f)) (h_command_of : Gfn Pr w K mg base cls 1 "command_of" 2 F_command_of) (h_holds : Gfn Pr w K mg base cls 2 "holds" 3 F_holds) (h_index_of : Gfn Pr w K mg base cls 1 "index_of" 2 F_index_of) (h_is_state : Gfn Pr w K mg base cls 2 "is_state" 2 F_is_state) : Gfn Pr w K mg base cls 3 "led_to" 3 F_led_to :=
  step_ok (T := T_led_to _ _ _ _) (k := 2) G F gf sc_led_to (F.bindsN (ps := ["system", "state", "name"]) fun _ _ _ _ _ _ us hl => match us, hl with | [_, _, _], _ => rfl) (fns_cons (h_command_of.mono (by decide)) (fns_cons (h_holds.mono (by decide)) (fns_cons (h_index_of.mono (by decide)) (fns_cons (h_is_state.mono (by decide)) fns_nil)))) (tr_led_to _ _ _ _)
theorem ok_states_of (G : Glob w K mg cls CS BL XC) (F : FnD K "states_of" (top 26) f fd) (gf : mg "states_of" = some (.ref f)) : Gfn Pr w K mg base cls 1 "states_of" 1 F_states_of :=
  step_ok (T := T_states_of) (k := 0) G F gf sc_states_of (F.bindsN (ps := ["fields"]) fun _ _ _ _ _ _ us hl => match us, hl with | [_], _ => rfl) fns_nil (tr_states_of)
theorem ok_table_of (G : Glob w K mg cls CS BL XC) (F : FnD K "table_of" (top 27) f fd) (gf : mg "table_of" = some (.ref f)) (h_led_to : Gfn Pr w K mg base cls 3 "led_to" 3 F_led_to) (h_names_in : Gfn Pr w K mg base cls 1 "names_in" 1 F_names_in) (h_states_of : Gfn Pr w K mg base cls 1 "states_of" 1 F_states_of) : Gfn Pr w K mg base cls 4 "table_of" 1 F_table_of :=
  step_ok (T := T_table_of _ _ _) (k := 3) G F gf sc_table_of (F.bindsN (ps := ["system"]) fun _ _ _ _ _ _ us hl => match us, hl with | [_], _ => rfl) (fns_cons (h_led_to.mono (by decide)) (fns_cons (h_names_in.mono (by decide)) (fns_cons (h_states_of.mono (by decide)) fns_nil))) (tr_table_of _ _ _)
theorem ok_reached (G : Glob w K mg cls CS BL XC) (F : FnD K "reached" (top 28) f fd) (gf : mg "reached" = some (.ref f)) (h_names_in : Gfn Pr w K mg base cls 1 "names_in" 1 F_names_in) : Gfn Pr w K mg base cls 2 "reached" 2 F_reached :=
  step_ok (T := T_reached _) (k := 1) G F gf sc_reached (F.bindsN (ps := ["system", "table"]) fun _ _ _ _ _ _ us hl => match us, hl with | [_, _], _ => rfl) (fns_cons (h_names_in.mono (by decide)) fns_nil) (tr_reached _)
theorem ok_require_system (G : Glob w K mg cls CS BL XC) (F : FnD K "require_system" (top 29) f fd) (gf : mg "require_system" = some (.ref f)) (h_is_system : Gfn Pr w K mg base cls 4 "is_system" 1 F_is_system) : Gfn Pr w K mg base cls 5 "require_system" 1 F_require_system :=
  step_ok (T := T_require_system _) (k := 4) G F gf sc_require_system (F.bindsN (ps := ["value"]) fun _ _ _ _ _ _ us hl => match us, hl with | [_], _ => rfl) (fns_cons (h_is_system.mono (by decide)) fns_nil) (tr_require_system _)
theorem ok_require_command (G : Glob w K mg cls CS BL XC) (F : FnD K "require_command" (top 30) f fd) (gf : mg "require_command" = some (.ref f)) (h_is_one_of : Gfn Pr w K mg base cls 1 "is_one_of" 2 F_is_one_of) (h_names_in : Gfn Pr w K mg base cls 1 "names_in" 1 F_names_in) : Gfn Pr w K mg base cls 2 "require_command" 2 F_require_command :=
  step_ok (T := T_require_command _ _) (k := 1) G F gf sc_require_command (F.bindsN (ps := ["system", "value"]) fun _ _ _ _ _ _ us hl => match us, hl with | [_, _], _ => rfl) (fns_cons (h_is_one_of.mono (by decide)) (fns_cons (h_names_in.mono (by decide)) fns_nil)) (tr_require_command _ _)
theorem ok_led_on (G : Glob w K mg cls CS BL XC) (F : FnD K "led_on" (top 32) f fd) (gf : mg "led_on" = some (.ref f)) : Gfn Pr w K mg base cls 1 "led_on" 3 F_led_on :=
  step_ok (T := T_led_on) (k := 0) G F gf sc_led_on (F.bindsN (ps := ["table", "state", "name"]) fun _ _ _ _ _ _ us hl => match us, hl with | [_, _, _], _ => rfl) fns_nil (tr_led_on)
theorem ok_tells_apart (G : Glob w K mg cls CS BL XC) (F : FnD K "tells_apart" (top 33) f fd) (gf : mg "tells_apart" = some (.ref f)) (h_led_on : Gfn Pr w K mg base cls 1 "led_on" 3 F_led_on) : Gfn Pr w K mg base cls 2 "tells_apart" 4 F_tells_apart :=
  step_ok (T := T_tells_apart _) (k := 1) G F gf sc_tells_apart (F.bindsN (ps := ["table", "state", "one", "other"]) fun _ _ _ _ _ _ us hl => match us, hl with | [_, _, _, _], _ => rfl) (fns_cons (h_led_on.mono (by decide)) fns_nil) (tr_tells_apart _)
theorem ok_first_clash (G : Glob w K mg cls CS BL XC) (F : FnD K "first_clash" (top 34) f fd) (gf : mg "first_clash" = some (.ref f)) (h_require_system : Gfn Pr w K mg base cls 5 "require_system" 1 F_require_system) (h_require_command : Gfn Pr w K mg base cls 2 "require_command" 2 F_require_command) (h_table_of : Gfn Pr w K mg base cls 4 "table_of" 1 F_table_of) (h_tells_apart : Gfn Pr w K mg base cls 2 "tells_apart" 4 F_tells_apart) (h_reached : Gfn Pr w K mg base cls 2 "reached" 2 F_reached) : Gfn Pr w K mg base cls 6 "first_clash" 3 F_first_clash :=
  step_ok (T := T_first_clash _ _ _ _ _) (k := 5) G F gf sc_first_clash (F.bindsN (ps := ["system", "one", "other"]) fun _ _ _ _ _ _ us hl => match us, hl with | [_, _, _], _ => rfl) (fns_cons (h_require_system.mono (by decide)) (fns_cons (h_require_command.mono (by decide)) (fns_cons (h_table_of.mono (by decide)) (fns_cons (h_tells_apart.mono (by decide)) (fns_cons (h_reached.mono (by decide)) fns_nil))))) (tr_first_clash _ _ _ _ _)
theorem ok_exchangeable (G : Glob w K mg cls CS BL XC) (F : FnD K "exchangeable" (top 35) f fd) (gf : mg "exchangeable" = some (.ref f)) (h_first_clash : Gfn Pr w K mg base cls 6 "first_clash" 3 F_first_clash) : Gfn Pr w K mg base cls 7 "exchangeable" 3 F_exchangeable :=
  step_ok (T := T_exchangeable _) (k := 6) G F gf sc_exchangeable (F.bindsN (ps := ["system", "one", "other"]) fun _ _ _ _ _ _ us hl => match us, hl with | [_, _, _], _ => rfl) (fns_cons (h_first_clash.mono (by decide)) fns_nil) (tr_exchangeable _)
theorem ok_does_stop (G : Glob w K mg cls CS BL XC) (F : FnD K "does_stop" (top 36) f fd) (gf : mg "does_stop" = some (.ref f)) : Gfn Pr w K mg base cls 1 "does_stop" 4 F_does_stop :=
  step_ok (T := T_does_stop) (k := 0) G F gf sc_does_stop (F.bindsN (ps := ["table", "state", "one", "other"]) fun _ _ _ _ _ _ us hl => match us, hl with | [_, _, _, _], _ => rfl) fns_nil (tr_does_stop)
theorem ok_stops_p (G : Glob w K mg cls CS BL XC) (F : FnD K "stops" (top 37) f fd) (gf : mg "stops" = some (.ref f)) (h_require_system : Gfn Pr w K mg base cls 5 "require_system" 1 F_require_system) (h_table_of : Gfn Pr w K mg base cls 4 "table_of" 1 F_table_of) (h_reached : Gfn Pr w K mg base cls 2 "reached" 2 F_reached) (h_does_stop : Gfn Pr w K mg base cls 1 "does_stop" 4 F_does_stop) (h_names_in : Gfn Pr w K mg base cls 1 "names_in" 1 F_names_in) : Gfn Pr w K mg base cls 6 "stops" 1 F_stops_p :=
  step_ok (T := T_stops_p _ _ _ _ _) (k := 5) G F gf sc_stops_p (F.bindsN (ps := ["system"]) fun _ _ _ _ _ _ us hl => match us, hl with | [_], _ => rfl) (fns_cons (h_require_system.mono (by decide)) (fns_cons (h_table_of.mono (by decide)) (fns_cons (h_reached.mono (by decide)) (fns_cons (h_does_stop.mono (by decide)) (fns_cons (h_names_in.mono (by decide)) fns_nil))))) (tr_stops_p _ _ _ _ _)
theorem ok__law_source (G : Glob w K mg cls CS BL XC) (F : FnD K "_law_source" (top 39) f fd) (gf : mg "_law_source" = some (.ref f)) : Gfn Pr w K mg base cls 1 "_law_source" 2 F__law_source :=
  step_ok (T := T__law_source) (k := 0) G F gf sc__law_source (F.bindsN (ps := ["script", "k"]) fun _ _ _ _ _ _ us hl => match us, hl with | [_, _], _ => rfl) fns_nil (tr__law_source)
theorem ok__law_pick (G : Glob w K mg cls CS BL XC) (F : FnD K "_law_pick" (top 40) f fd) (gf : mg "_law_pick" = some (.ref f)) : Gfn Pr w K mg base cls 1 "_law_pick" 2 F__law_pick :=
  step_ok (T := T__law_pick) (k := 0) G F gf sc__law_pick (F.bindsN (ps := ["source", "limit"]) fun _ _ _ _ _ _ us hl => match us, hl with | [_, _], _ => rfl) fns_nil (tr__law_pick)
theorem ok__law_chosen (G : Glob w K mg cls CS BL XC) (F : FnD K "_law_chosen" (top 41) f fd) (gf : mg "_law_chosen" = some (.ref f)) (h__law_pick : Gfn Pr w K mg base cls 1 "_law_pick" 2 F__law_pick) : Gfn Pr w K mg base cls 2 "_law_chosen" 2 F__law_chosen :=
  step_ok (T := T__law_chosen _) (k := 1) G F gf sc__law_chosen (F.bindsN (ps := ["source", "some"]) fun _ _ _ _ _ _ us hl => match us, hl with | [_, _], _ => rfl) (fns_cons (h__law_pick.mono (by decide)) fns_nil) (tr__law_chosen _)
theorem ok__law_mixed (G : Glob w K mg cls CS BL XC) (F : FnD K "_law_mixed" (top 42) f fd) (gf : mg "_law_mixed" = some (.ref f)) (h__law_pick : Gfn Pr w K mg base cls 1 "_law_pick" 2 F__law_pick) : Gfn Pr w K mg base cls 2 "_law_mixed" 2 F__law_mixed :=
  step_ok (T := T__law_mixed _) (k := 1) G F gf sc__law_mixed (F.bindsN (ps := ["source", "some"]) fun _ _ _ _ _ _ us hl => match us, hl with | [_, _], _ => rfl) (fns_cons (h__law_pick.mono (by decide)) fns_nil) (tr__law_mixed _)
theorem ok__law_is_number (G : Glob w K mg cls CS BL XC) (F : FnD K "_law_is_number" (top 43) f fd) (gf : mg "_law_is_number" = some (.ref f)) : Gfn Pr w K mg base cls 1 "_law_is_number" 3 F__law_is_number :=
  step_ok (T := T__law_is_number) (k := 0) G F gf sc__law_is_number (F.bindsN (ps := ["value", "low", "high"]) fun _ _ _ _ _ _ us hl => match us, hl with | [_, _, _], _ => rfl) fns_nil (tr__law_is_number)
theorem ok__law_wide (G : Glob w K mg cls CS BL XC) (F : FnD K "_law_wide" (top 44) f fd) (gf : mg "_law_wide" = some (.ref f)) : Gfn Pr w K mg base cls 1 "_law_wide" 3 F__law_wide :=
  step_ok (T := T__law_wide) (k := 0) G F gf sc__law_wide (F.bindsN (ps := ["value", "least", "most"]) fun _ _ _ _ _ _ us hl => match us, hl with | [_, _, _], _ => rfl) fns_nil (tr__law_wide)
theorem ok__law_good_state (G : Glob w K mg cls CS BL XC) (F : FnD K "_law_good_state" (top 45) f fd) (gf : mg "_law_good_state" = some (.ref f)) (h__law_wide : Gfn Pr w K mg base cls 1 "_law_wide" 3 F__law_wide) (h__law_is_number : Gfn Pr w K mg base cls 1 "_law_is_number" 3 F__law_is_number) : Gfn Pr w K mg base cls 2 "_law_good_state" 2 F__law_good_state :=
  step_ok (T := T__law_good_state _ _) (k := 1) G F gf sc__law_good_state (F.bindsN (ps := ["fields", "value"]) fun _ _ _ _ _ _ us hl => match us, hl with | [_, _], _ => rfl) (fns_cons (h__law_wide.mono (by decide)) (fns_cons (h__law_is_number.mono (by decide)) fns_nil)) (tr__law_good_state _ _)
theorem ok__law_drawn_fields (G : Glob w K mg cls CS BL XC) (F : FnD K "_law_drawn_fields" (top 46) f fd) (gf : mg "_law_drawn_fields" = some (.ref f)) (h__law_mixed : Gfn Pr w K mg base cls 2 "_law_mixed" 2 F__law_mixed) (h__law_pick : Gfn Pr w K mg base cls 1 "_law_pick" 2 F__law_pick) : Gfn Pr w K mg base cls 3 "_law_drawn_fields" 2 F__law_drawn_fields :=
  step_ok (T := T__law_drawn_fields _ _) (k := 2) G F gf sc__law_drawn_fields (F.bindsN (ps := ["source", "most"]) fun _ _ _ _ _ _ us hl => match us, hl with | [_, _], _ => rfl) (fns_cons (h__law_mixed.mono (by decide)) (fns_cons (h__law_pick.mono (by decide)) fns_nil)) (tr__law_drawn_fields _ _)
theorem ok__law_drawn_state (G : Glob w K mg cls CS BL XC) (F : FnD K "_law_drawn_state" (top 47) f fd) (gf : mg "_law_drawn_state" = some (.ref f)) (h__law_pick : Gfn Pr w K mg base cls 1 "_law_pick" 2 F__law_pick) : Gfn Pr w K mg base cls 2 "_law_drawn_state" 2 F__law_drawn_state :=
  step_ok (T := T__law_drawn_state _) (k := 1) G F gf sc__law_drawn_state (F.bindsN (ps := ["source", "fields"]) fun _ _ _ _ _ _ us hl => match us, hl with | [_, _], _ => rfl) (fns_cons (h__law_pick.mono (by decide)) fns_nil) (tr__law_drawn_state _)
theorem ok__law_drawn_condition (G : Glob w K mg cls CS BL XC) (F : FnD K "_law_drawn_condition" (top 48) f fd) (gf : mg "_law_drawn_condition" = some (.ref f)) (h__law_chosen : Gfn Pr w K mg base cls 2 "_law_chosen" 2 F__law_chosen) (h__law_pick : Gfn Pr w K mg base cls 1 "_law_pick" 2 F__law_pick) : Gfn Pr w K mg base cls 3 "_law_drawn_condition" 3 F__law_drawn_condition :=
  step_ok (T := T__law_drawn_condition _ _) (k := 2) G F gf sc__law_drawn_condition (F.bindsN (ps := ["source", "fields", "most"]) fun _ _ _ _ _ _ us hl => match us, hl with | [_, _, _], _ => rfl) (fns_cons (h__law_chosen.mono (by decide)) (fns_cons (h__law_pick.mono (by decide)) fns_nil)) (tr__law_drawn_condition _ _)
theorem ok__law_drawn_effect (G : Glob w K mg cls CS BL XC) (F : FnD K "_law_drawn_effect" (top 49) f fd) (gf : mg "_law_drawn_effect" = some (.ref f)) (h__law_pick : Gfn Pr w K mg base cls 1 "_law_pick" 2 F__law_pick) (h__law_chosen : Gfn Pr w K mg base cls 2 "_law_chosen" 2 F__law_chosen) : Gfn Pr w K mg base cls 3 "_law_drawn_effect" 2 F__law_drawn_effect :=
  step_ok (T := T__law_drawn_effect _ _) (k := 2) G F gf sc__law_drawn_effect (F.bindsN (ps := ["source", "fields"]) fun _ _ _ _ _ _ us hl => match us, hl with | [_, _], _ => rfl) (fns_cons (h__law_pick.mono (by decide)) (fns_cons (h__law_chosen.mono (by decide)) fns_nil)) (tr__law_drawn_effect _ _)
theorem ok__law_drawn_system (G : Glob w K mg cls CS BL XC) (F : FnD K "_law_drawn_system" (top 50) f fd) (gf : mg "_law_drawn_system" = some (.ref f)) (h__law_drawn_fields : Gfn Pr w K mg base cls 3 "_law_drawn_fields" 2 F__law_drawn_fields) (h__law_mixed : Gfn Pr w K mg base cls 2 "_law_mixed" 2 F__law_mixed) (h__law_pick : Gfn Pr w K mg base cls 1 "_law_pick" 2 F__law_pick) (h__law_chosen : Gfn Pr w K mg base cls 2 "_law_chosen" 2 F__law_chosen) (h__law_drawn_condition : Gfn Pr w K mg base cls 3 "_law_drawn_condition" 3 F__law_drawn_condition) (h__law_drawn_effect : Gfn Pr w K mg base cls 3 "_law_drawn_effect" 2 F__law_drawn_effect) (h__law_drawn_state : Gfn Pr w K mg base cls 2 "_law_drawn_state" 2 F__law_drawn_state) : Gfn Pr w K mg base cls 4 "_law_drawn_system" 4 F__law_drawn_system :=
  step_ok (T := T__law_drawn_system _ _ _ _ _ _ _) (k := 3) G F gf sc__law_drawn_system (F.bindsN (ps := ["source", "states", "commands", "clients"]) fun _ _ _ _ _ _ us hl => match us, hl with | [_, _, _, _], _ => rfl) (fns_cons (h__law_drawn_fields.mono (by decide)) (fns_cons (h__law_mixed.mono (by decide)) (fns_cons (h__law_pick.mono (by decide)) (fns_cons (h__law_chosen.mono (by decide)) (fns_cons (h__law_drawn_condition.mono (by decide)) (fns_cons (h__law_drawn_effect.mono (by decide)) (fns_cons (h__law_drawn_state.mono (by decide)) fns_nil))))))) (tr__law_drawn_system _ _ _ _ _ _ _)
theorem ok__law_labels (G : Glob w K mg cls CS BL XC) (F : FnD K "_law_labels" (top 51) f fd) (gf : mg "_law_labels" = some (.ref f)) : Gfn Pr w K mg base cls 1 "_law_labels" 1 F__law_labels :=
  step_ok (T := T__law_labels) (k := 0) G F gf sc__law_labels (F.bindsN (ps := ["system"]) fun _ _ _ _ _ _ us hl => match us, hl with | [_], _ => rfl) fns_nil (tr__law_labels)
theorem ok__law_at (G : Glob w K mg cls CS BL XC) (F : FnD K "_law_at" (top 52) f fd) (gf : mg "_law_at" = some (.ref f)) : Gfn Pr w K mg base cls 1 "_law_at" 2 F__law_at :=
  step_ok (T := T__law_at) (k := 0) G F gf sc__law_at (F.bindsN (ps := ["fields", "name"]) fun _ _ _ _ _ _ us hl => match us, hl with | [_, _], _ => rfl) fns_nil (tr__law_at)
theorem ok__law_holds (G : Glob w K mg cls CS BL XC) (F : FnD K "_law_holds" (top 53) f fd) (gf : mg "_law_holds" = some (.ref f)) (h__law_at : Gfn Pr w K mg base cls 1 "_law_at" 2 F__law_at) : Gfn Pr w K mg base cls 2 "_law_holds" 3 F__law_holds :=
  step_ok (T := T__law_holds _) (k := 1) G F gf sc__law_holds (F.bindsN (ps := ["fields", "condition", "state"]) fun _ _ _ _ _ _ us hl => match us, hl with | [_, _, _], _ => rfl) (fns_cons (h__law_at.mono (by decide)) fns_nil) (tr__law_holds _)
theorem ok__law_after (G : Glob w K mg cls CS BL XC) (F : FnD K "_law_after" (top 54) f fd) (gf : mg "_law_after" = some (.ref f)) (h__law_holds : Gfn Pr w K mg base cls 2 "_law_holds" 3 F__law_holds) (h__law_at : Gfn Pr w K mg base cls 1 "_law_at" 2 F__law_at) (h__law_good_state : Gfn Pr w K mg base cls 2 "_law_good_state" 2 F__law_good_state) : Gfn Pr w K mg base cls 3 "_law_after" 3 F__law_after :=
  step_ok (T := T__law_after _ _ _) (k := 2) G F gf sc__law_after (F.bindsN (ps := ["system", "state", "label"]) fun _ _ _ _ _ _ us hl => match us, hl with | [_, _, _], _ => rfl) (fns_cons (h__law_holds.mono (by decide)) (fns_cons (h__law_at.mono (by decide)) (fns_cons (h__law_good_state.mono (by decide)) fns_nil))) (tr__law_after _ _ _)
theorem ok__law_states (G : Glob w K mg cls CS BL XC) (F : FnD K "_law_states" (top 55) f fd) (gf : mg "_law_states" = some (.ref f)) : Gfn Pr w K mg base cls 1 "_law_states" 1 F__law_states :=
  step_ok (T := T__law_states) (k := 0) G F gf sc__law_states (F.bindsN (ps := ["fields"]) fun _ _ _ _ _ _ us hl => match us, hl with | [_], _ => rfl) fns_nil (tr__law_states)
theorem ok__law_table (G : Glob w K mg cls CS BL XC) (F : FnD K "_law_table" (top 56) f fd) (gf : mg "_law_table" = some (.ref f)) (h__law_after : Gfn Pr w K mg base cls 3 "_law_after" 3 F__law_after) (h__law_labels : Gfn Pr w K mg base cls 1 "_law_labels" 1 F__law_labels) (h__law_states : Gfn Pr w K mg base cls 1 "_law_states" 1 F__law_states) : Gfn Pr w K mg base cls 4 "_law_table" 1 F__law_table :=
  step_ok (T := T__law_table _ _ _) (k := 3) G F gf sc__law_table (F.bindsN (ps := ["system"]) fun _ _ _ _ _ _ us hl => match us, hl with | [_], _ => rfl) (fns_cons (h__law_after.mono (by decide)) (fns_cons (h__law_labels.mono (by decide)) (fns_cons (h__law_states.mono (by decide)) fns_nil))) (tr__law_table _ _ _)
theorem ok__law_reached (G : Glob w K mg cls CS BL XC) (F : FnD K "_law_reached" (top 57) f fd) (gf : mg "_law_reached" = some (.ref f)) (h__law_labels : Gfn Pr w K mg base cls 1 "_law_labels" 1 F__law_labels) : Gfn Pr w K mg base cls 2 "_law_reached" 2 F__law_reached :=
  step_ok (T := T__law_reached _) (k := 1) G F gf sc__law_reached (F.bindsN (ps := ["system", "table"]) fun _ _ _ _ _ _ us hl => match us, hl with | [_, _], _ => rfl) (fns_cons (h__law_labels.mono (by decide)) fns_nil) (tr__law_reached _)
theorem ok_law (G : Glob w K mg cls CS BL XC) (F : FnD K "law" (top 58) f fd) (gf : mg "law" = some (.ref f)) (h__law_source : Gfn Pr w K mg base cls 1 "_law_source" 2 F__law_source) (h__law_drawn_system : Gfn Pr w K mg base cls 4 "_law_drawn_system" 4 F__law_drawn_system) (h__law_table : Gfn Pr w K mg base cls 4 "_law_table" 1 F__law_table) (h__law_labels : Gfn Pr w K mg base cls 1 "_law_labels" 1 F__law_labels) (h__law_reached : Gfn Pr w K mg base cls 2 "_law_reached" 2 F__law_reached) (h_stops_p : Gfn Pr w K mg base cls 6 "stops" 1 F_stops_p) (h_exchangeable : Gfn Pr w K mg base cls 7 "exchangeable" 3 F_exchangeable) : Gfn Pr w K mg base cls 8 "law" 1 F_law :=
  step_ok (T := T_law _ _ _ _ _ _ _) (k := 7) G F gf sc_law (F.bindsN (ps := ["script"]) fun _ _ _ _ _ _ us hl => match us, hl with | [_], _ => rfl) (fns_cons (h__law_source.mono (by decide)) (fns_cons (h__law_drawn_system.mono (by decide)) (fns_cons (h__law_table.mono (by decide)) (fns_cons (h__law_labels.mono (by decide)) (fns_cons (h__law_reached.mono (by decide)) (fns_cons (h_stops_p.mono (by decide)) (fns_cons (h_exchangeable.mono (by decide)) fns_nil))))))) (tr_law _ _ _ _ _ _ _)
theorem okF_law (G : Glob w K mg cls CS BL XC) (F : FnD K "law" (top 58) f fd) (h__law_source : Gfn Pr w K mg base cls 1 "_law_source" 2 F__law_source) (h__law_drawn_system : Gfn Pr w K mg base cls 4 "_law_drawn_system" 4 F__law_drawn_system) (h__law_table : Gfn Pr w K mg base cls 4 "_law_table" 1 F__law_table) (h__law_labels : Gfn Pr w K mg base cls 1 "_law_labels" 1 F__law_labels) (h__law_reached : Gfn Pr w K mg base cls 2 "_law_reached" 2 F__law_reached) (h_stops_p : Gfn Pr w K mg base cls 6 "stops" 1 F_stops_p) (h_exchangeable : Gfn Pr w K mg base cls 7 "exchangeable" 3 F_exchangeable) : FnOk Pr w K mg base (L2.CX Pr w) 8 f fd ["script"] (spD K cls 1 F_law) :=
  def_ok (T := T_law _ _ _ _ _ _ _) (k := 7) F sc_law ⟨G.cs, (fns_cons (h__law_source.mono (by decide)) (fns_cons (h__law_drawn_system.mono (by decide)) (fns_cons (h__law_table.mono (by decide)) (fns_cons (h__law_labels.mono (by decide)) (fns_cons (h__law_reached.mono (by decide)) (fns_cons (h_stops_p.mono (by decide)) (fns_cons (h_exchangeable.mono (by decide)) fns_nil))))))), G.bl, G.wd, G.ex, G.em⟩ (tr_law _ _ _ _ _ _ _)
end
/-! the head -/
def d_is_integer : He.DefD := ⟨("is_integer", none), "is_integer", "is_integer", defArgs (top 9), defBody (top 9), defScope (top 9), [], []⟩
def d_is_name : He.DefD := ⟨("is_name", none), "is_name", "is_name", defArgs (top 10), defBody (top 10), defScope (top 10), [], []⟩
def d_is_one_of : He.DefD := ⟨("is_one_of", none), "is_one_of", "is_one_of", defArgs (top 11), defBody (top 11), defScope (top 11), [], []⟩
def d_is_rising : He.DefD := ⟨("is_rising", none), "is_rising", "is_rising", defArgs (top 12), defBody (top 12), defScope (top 12), [], []⟩
def d_is_tuple : He.DefD := ⟨("is_tuple", none), "is_tuple", "is_tuple", defArgs (top 13), defBody (top 13), defScope (top 13), [], []⟩
def d_is_fields : He.DefD := ⟨("is_fields", none), "is_fields", "is_fields", defArgs (top 14), defBody (top 14), defScope (top 14), [], []⟩
def d_is_state : He.DefD := ⟨("is_state", none), "is_state", "is_state", defArgs (top 15), defBody (top 15), defScope (top 15), [], []⟩
def d_is_condition : He.DefD := ⟨("is_condition", none), "is_condition", "is_condition", defArgs (top 16), defBody (top 16), defScope (top 16), [], []⟩
def d_is_effect : He.DefD := ⟨("is_effect", none), "is_effect", "is_effect", defArgs (top 17), defBody (top 17), defScope (top 17), [], []⟩
def d_is_command : He.DefD := ⟨("is_command", none), "is_command", "is_command", defArgs (top 18), defBody (top 18), defScope (top 18), [], []⟩
def d_clients_in : He.DefD := ⟨("clients_in", none), "clients_in", "clients_in", defArgs (top 20), defBody (top 20), defScope (top 20), [], []⟩
def d_is_system : He.DefD := ⟨("is_system", none), "is_system", "is_system", defArgs (top 19), defBody (top 19), defScope (top 19), [], []⟩
def d_names_in : He.DefD := ⟨("names_in", none), "names_in", "names_in", defArgs (top 21), defBody (top 21), defScope (top 21), [], []⟩
def d_command_of : He.DefD := ⟨("command_of", none), "command_of", "command_of", defArgs (top 22), defBody (top 22), defScope (top 22), [], []⟩
def d_index_of : He.DefD := ⟨("index_of", none), "index_of", "index_of", defArgs (top 23), defBody (top 23), defScope (top 23), [], []⟩
def d_holds : He.DefD := ⟨("holds", none), "holds", "holds", defArgs (top 24), defBody (top 24), defScope (top 24), [], []⟩
def d_led_to : He.DefD := ⟨("led_to", none), "led_to", "led_to", defArgs (top 25), defBody (top 25), defScope (top 25), [], []⟩
def d_states_of : He.DefD := ⟨("states_of", none), "states_of", "states_of", defArgs (top 26), defBody (top 26), defScope (top 26), [], []⟩
def d_table_of : He.DefD := ⟨("table_of", none), "table_of", "table_of", defArgs (top 27), defBody (top 27), defScope (top 27), [], []⟩
def d_reached : He.DefD := ⟨("reached", none), "reached", "reached", defArgs (top 28), defBody (top 28), defScope (top 28), [], []⟩
def d_require_system : He.DefD := ⟨("require_system", none), "require_system", "require_system", defArgs (top 29), defBody (top 29), defScope (top 29), [], []⟩
def d_require_command : He.DefD := ⟨("require_command", none), "require_command", "require_command", defArgs (top 30), defBody (top 30), defScope (top 30), [], []⟩
def d_led_on : He.DefD := ⟨("led_on", none), "led_on", "led_on", defArgs (top 32), defBody (top 32), defScope (top 32), [], []⟩
def d_tells_apart : He.DefD := ⟨("tells_apart", none), "tells_apart", "tells_apart", defArgs (top 33), defBody (top 33), defScope (top 33), [], []⟩
def d_first_clash : He.DefD := ⟨("first_clash", none), "first_clash", "first_clash", defArgs (top 34), defBody (top 34), defScope (top 34), [], []⟩
def d_exchangeable : He.DefD := ⟨("exchangeable", none), "exchangeable", "exchangeable", defArgs (top 35), defBody (top 35), defScope (top 35), [], []⟩
def d_does_stop : He.DefD := ⟨("does_stop", none), "does_stop", "does_stop", defArgs (top 36), defBody (top 36), defScope (top 36), [], []⟩
def d_stops : He.DefD := ⟨("stops", none), "stops", "stops", defArgs (top 37), defBody (top 37), defScope (top 37), [], []⟩
def d__law_source : He.DefD := ⟨("_law_source", none), "_law_source", "_law_source", defArgs (top 39), defBody (top 39), defScope (top 39), [], []⟩
def d__law_pick : He.DefD := ⟨("_law_pick", none), "_law_pick", "_law_pick", defArgs (top 40), defBody (top 40), defScope (top 40), [], []⟩
def d__law_chosen : He.DefD := ⟨("_law_chosen", none), "_law_chosen", "_law_chosen", defArgs (top 41), defBody (top 41), defScope (top 41), [], []⟩
def d__law_mixed : He.DefD := ⟨("_law_mixed", none), "_law_mixed", "_law_mixed", defArgs (top 42), defBody (top 42), defScope (top 42), [], []⟩
def d__law_is_number : He.DefD := ⟨("_law_is_number", none), "_law_is_number", "_law_is_number", defArgs (top 43), defBody (top 43), defScope (top 43), [], []⟩
def d__law_wide : He.DefD := ⟨("_law_wide", none), "_law_wide", "_law_wide", defArgs (top 44), defBody (top 44), defScope (top 44), [], []⟩
def d__law_good_state : He.DefD := ⟨("_law_good_state", none), "_law_good_state", "_law_good_state", defArgs (top 45), defBody (top 45), defScope (top 45), [], []⟩
def d__law_drawn_fields : He.DefD := ⟨("_law_drawn_fields", none), "_law_drawn_fields", "_law_drawn_fields", defArgs (top 46), defBody (top 46), defScope (top 46), [], []⟩
def d__law_drawn_state : He.DefD := ⟨("_law_drawn_state", none), "_law_drawn_state", "_law_drawn_state", defArgs (top 47), defBody (top 47), defScope (top 47), [], []⟩
def d__law_drawn_condition : He.DefD := ⟨("_law_drawn_condition", none), "_law_drawn_condition", "_law_drawn_condition", defArgs (top 48), defBody (top 48), defScope (top 48), [], []⟩
def d__law_drawn_effect : He.DefD := ⟨("_law_drawn_effect", none), "_law_drawn_effect", "_law_drawn_effect", defArgs (top 49), defBody (top 49), defScope (top 49), [], []⟩
def d__law_drawn_system : He.DefD := ⟨("_law_drawn_system", none), "_law_drawn_system", "_law_drawn_system", defArgs (top 50), defBody (top 50), defScope (top 50), [], []⟩
def d__law_labels : He.DefD := ⟨("_law_labels", none), "_law_labels", "_law_labels", defArgs (top 51), defBody (top 51), defScope (top 51), [], []⟩
def d__law_at : He.DefD := ⟨("_law_at", none), "_law_at", "_law_at", defArgs (top 52), defBody (top 52), defScope (top 52), [], []⟩
def d__law_holds : He.DefD := ⟨("_law_holds", none), "_law_holds", "_law_holds", defArgs (top 53), defBody (top 53), defScope (top 53), [], []⟩
def d__law_after : He.DefD := ⟨("_law_after", none), "_law_after", "_law_after", defArgs (top 54), defBody (top 54), defScope (top 54), [], []⟩
def d__law_states : He.DefD := ⟨("_law_states", none), "_law_states", "_law_states", defArgs (top 55), defBody (top 55), defScope (top 55), [], []⟩
def d__law_table : He.DefD := ⟨("_law_table", none), "_law_table", "_law_table", defArgs (top 56), defBody (top 56), defScope (top 56), [], []⟩
def d__law_reached : He.DefD := ⟨("_law_reached", none), "_law_reached", "_law_reached", defArgs (top 57), defBody (top 57), defScope (top 57), [], []⟩
def d_law : He.DefD := ⟨("law", none), "law", "law", defArgs (top 58), defBody (top 58), defScope (top 58), [], []⟩
def fn : List He.DefD := [d_is_integer, d_is_name, d_is_one_of, d_is_rising, d_is_tuple, d_is_fields, d_is_state, d_is_condition, d_is_effect, d_is_command, d_clients_in, d_is_system, d_names_in, d_command_of, d_index_of, d_holds, d_led_to, d_states_of, d_table_of, d_reached, d_require_system, d_require_command, d_led_on, d_tells_apart, d_first_clash, d_exchangeable, d_does_stop, d_stops, d__law_source, d__law_pick, d__law_chosen, d__law_mixed, d__law_is_number, d__law_wide, d__law_good_state, d__law_drawn_fields, d__law_drawn_state, d__law_drawn_condition, d__law_drawn_effect, d__law_drawn_system, d__law_labels, d__law_at, d__law_holds, d__law_after, d__law_states, d__law_table, d__law_reached, d_law]
def fa : List He.Fa := [.glo "is_integer", .glo "is_name", .glo "is_one_of", .glo "is_rising", .glo "is_tuple", .glo "is_fields", .glo "is_state", .glo "is_condition", .glo "is_effect", .glo "is_command", .glo "clients_in", .glo "is_system", .glo "names_in", .glo "command_of", .glo "index_of", .glo "holds", .glo "led_to", .glo "states_of", .glo "table_of", .glo "reached", .glo "require_system", .glo "require_command", .glo "led_on", .glo "tells_apart", .glo "first_clash", .glo "exchangeable", .glo "does_stop", .glo "stops", .glo "_law_source", .glo "_law_pick", .glo "_law_chosen", .glo "_law_mixed", .glo "_law_is_number", .glo "_law_wide", .glo "_law_good_state", .glo "_law_drawn_fields", .glo "_law_drawn_state", .glo "_law_drawn_condition", .glo "_law_drawn_effect", .glo "_law_drawn_system", .glo "_law_labels", .glo "_law_at", .glo "_law_holds", .glo "_law_after", .glo "_law_states", .glo "_law_table", .glo "_law_reached", .glo "law", .int "MOST" 20, .int "MOST_STATES" 60, .int "MOST_COMMANDS" 8, .int "MOST_CLIENTS" 4, .free "isinstance", .free "int", .free "bool", .free "str", .free "len", .free "all", .free "zip", .free "tuple", .free "sorted", .free "set", .free "list", .free "range", .free "any", .free "min", .free "max", .glo "InvalidSystem", .glo "InvalidCommand", .exc "InvalidSystem", .exc "InvalidCommand", .exm "InvalidSystem" "InvalidSystem" true, .exm "InvalidSystem" "InvalidCommand" false, .exm "InvalidCommand" "InvalidSystem" false, .exm "InvalidCommand" "InvalidCommand" true]
abbrev Rw : PySem.W.OpenRow := PySem.W.OpenLaw.row PySem.Challenge.rw_doneahead_k52_commands_that_stop_others
abbrev hk : PySem.W.Hook := He.hookD 4 fa fn
def ob (s : PySem.W.SharedT) : He.AlD := He.obsDG 4 fa fn (HandSHeadRun.getT s)
theorem ob_eq (s : PySem.W.SharedT) : ob s = hk.obs s.abs := He.obsDG_eq (HandSHeadRun.getT_eq s)
def loose : List Str := [("AheadError" : Str), ("InvalidSystem" : Str), ("InvalidCommand" : Str), ("MOST" : Str), ("MOST_STATES" : Str), ("MOST_COMMANDS" : Str), ("MOST_CLIENTS" : Str), ("is_integer" : Str), ("is_name" : Str), ("is_one_of" : Str), ("is_rising" : Str), ("is_tuple" : Str), ("is_fields" : Str), ("is_state" : Str), ("is_condition" : Str), ("is_effect" : Str), ("is_command" : Str), ("is_system" : Str), ("clients_in" : Str), ("names_in" : Str), ("command_of" : Str), ("index_of" : Str), ("holds" : Str), ("led_to" : Str), ("states_of" : Str), ("table_of" : Str), ("reached" : Str), ("require_system" : Str), ("require_command" : Str), ("led_on" : Str), ("tells_apart" : Str), ("first_clash" : Str), ("exchangeable" : Str), ("does_stop" : Str), ("stops" : Str), ("_law_source" : Str), ("_law_pick" : Str), ("_law_chosen" : Str), ("_law_mixed" : Str), ("_law_is_number" : Str), ("_law_wide" : Str), ("_law_good_state" : Str), ("_law_drawn_fields" : Str), ("_law_drawn_state" : Str), ("_law_drawn_condition" : Str), ("_law_drawn_effect" : Str), ("_law_drawn_system" : Str), ("_law_labels" : Str), ("_law_at" : Str), ("_law_holds" : Str), ("_law_after" : Str), ("_law_states" : Str), ("_law_table" : Str), ("_law_reached" : Str)]
theorem run (w : World) : HandSHeadRun.RunEq Rw (PySem.W.view Rw.prog [58]) hk ob 4000 loose w := by
  intro os
  kernel_rfl
theorem facts [DL.WorldC] {Pr : Program} {w : World} {K : Fg} {h : Heap} {mg : Str → Option Value} {f : Addr} (hw : w = DL.WorldC.w) (X : K.In h) (G : h.Ns mainGlobals mg) (hfa : mg ("law" : Str) = some (.ref f)) (c : He.SaysD fa fn K) :
    ∃ fd : FuncData, (∀ (s : Shared) (v : Value), BindsTo s fd ⟨[v], []⟩ [("script", v)]) ∧ ∀ base : Heap, K.In base → base.Ns mainGlobals mg → FnOk Pr w K mg base (L2.CX Pr w) 8 f fd ["script"] (spD K (clsOf K XC) 1 F_law) := by
  obtain ⟨fd_0, D_0⟩ := c.def_ 0 (d := d_is_integer) rfl
  obtain ⟨fd_1, D_1⟩ := c.def_ 1 (d := d_is_name) rfl
  obtain ⟨fd_2, D_2⟩ := c.def_ 2 (d := d_is_one_of) rfl
  obtain ⟨fd_3, D_3⟩ := c.def_ 3 (d := d_is_rising) rfl
  obtain ⟨fd_4, D_4⟩ := c.def_ 4 (d := d_is_tuple) rfl
  obtain ⟨fd_5, D_5⟩ := c.def_ 5 (d := d_is_fields) rfl
  obtain ⟨fd_6, D_6⟩ := c.def_ 6 (d := d_is_state) rfl
  obtain ⟨fd_7, D_7⟩ := c.def_ 7 (d := d_is_condition) rfl
  obtain ⟨fd_8, D_8⟩ := c.def_ 8 (d := d_is_effect) rfl
  obtain ⟨fd_9, D_9⟩ := c.def_ 9 (d := d_is_command) rfl
  obtain ⟨fd_10, D_10⟩ := c.def_ 10 (d := d_clients_in) rfl
  obtain ⟨fd_11, D_11⟩ := c.def_ 11 (d := d_is_system) rfl
  obtain ⟨fd_12, D_12⟩ := c.def_ 12 (d := d_names_in) rfl
  obtain ⟨fd_13, D_13⟩ := c.def_ 13 (d := d_command_of) rfl
  obtain ⟨fd_14, D_14⟩ := c.def_ 14 (d := d_index_of) rfl
  obtain ⟨fd_15, D_15⟩ := c.def_ 15 (d := d_holds) rfl
  obtain ⟨fd_16, D_16⟩ := c.def_ 16 (d := d_led_to) rfl
  obtain ⟨fd_17, D_17⟩ := c.def_ 17 (d := d_states_of) rfl
  obtain ⟨fd_18, D_18⟩ := c.def_ 18 (d := d_table_of) rfl
  obtain ⟨fd_19, D_19⟩ := c.def_ 19 (d := d_reached) rfl
  obtain ⟨fd_20, D_20⟩ := c.def_ 20 (d := d_require_system) rfl
  obtain ⟨fd_21, D_21⟩ := c.def_ 21 (d := d_require_command) rfl
  obtain ⟨fd_22, D_22⟩ := c.def_ 22 (d := d_led_on) rfl
  obtain ⟨fd_23, D_23⟩ := c.def_ 23 (d := d_tells_apart) rfl
  obtain ⟨fd_24, D_24⟩ := c.def_ 24 (d := d_first_clash) rfl
  obtain ⟨fd_25, D_25⟩ := c.def_ 25 (d := d_exchangeable) rfl
  obtain ⟨fd_26, D_26⟩ := c.def_ 26 (d := d_does_stop) rfl
  obtain ⟨fd_27, D_27⟩ := c.def_ 27 (d := d_stops) rfl
  obtain ⟨fd_28, D_28⟩ := c.def_ 28 (d := d__law_source) rfl
  obtain ⟨fd_29, D_29⟩ := c.def_ 29 (d := d__law_pick) rfl
  obtain ⟨fd_30, D_30⟩ := c.def_ 30 (d := d__law_chosen) rfl
  obtain ⟨fd_31, D_31⟩ := c.def_ 31 (d := d__law_mixed) rfl
  obtain ⟨fd_32, D_32⟩ := c.def_ 32 (d := d__law_is_number) rfl
  obtain ⟨fd_33, D_33⟩ := c.def_ 33 (d := d__law_wide) rfl
  obtain ⟨fd_34, D_34⟩ := c.def_ 34 (d := d__law_good_state) rfl
  obtain ⟨fd_35, D_35⟩ := c.def_ 35 (d := d__law_drawn_fields) rfl
  obtain ⟨fd_36, D_36⟩ := c.def_ 36 (d := d__law_drawn_state) rfl
  obtain ⟨fd_37, D_37⟩ := c.def_ 37 (d := d__law_drawn_condition) rfl
  obtain ⟨fd_38, D_38⟩ := c.def_ 38 (d := d__law_drawn_effect) rfl
  obtain ⟨fd_39, D_39⟩ := c.def_ 39 (d := d__law_drawn_system) rfl
  obtain ⟨fd_40, D_40⟩ := c.def_ 40 (d := d__law_labels) rfl
  obtain ⟨fd_41, D_41⟩ := c.def_ 41 (d := d__law_at) rfl
  obtain ⟨fd_42, D_42⟩ := c.def_ 42 (d := d__law_holds) rfl
  obtain ⟨fd_43, D_43⟩ := c.def_ 43 (d := d__law_after) rfl
  obtain ⟨fd_44, D_44⟩ := c.def_ 44 (d := d__law_states) rfl
  obtain ⟨fd_45, D_45⟩ := c.def_ 45 (d := d__law_table) rfl
  obtain ⟨fd_46, D_46⟩ := c.def_ 46 (d := d__law_reached) rfl
  obtain ⟨fd_47, D_47⟩ := c.def_ 47 (d := d_law) rfl
  have GG : Glob w K mg (clsOf K XC) CS BL XC := ⟨(cs_cons (cs_int (He.int_ok X G (c.fact 48 (f := .int "MOST" 20) rfl))) (cs_cons (cs_int (He.int_ok X G (c.fact 49 (f := .int "MOST_STATES" 60) rfl))) (cs_cons (cs_int (He.int_ok X G (c.fact 50 (f := .int "MOST_COMMANDS" 8) rfl))) (cs_cons (cs_int (He.int_ok X G (c.fact 51 (f := .int "MOST_CLIENTS" 4) rfl))) cs_nil)))), (bl_cons (He.free_ok X G (c.fact 52 (f := .free "isinstance") rfl)) (bl_cons (He.free_ok X G (c.fact 53 (f := .free "int") rfl)) (bl_cons (He.free_ok X G (c.fact 54 (f := .free "bool") rfl)) (bl_cons (He.free_ok X G (c.fact 55 (f := .free "str") rfl)) (bl_cons (He.free_ok X G (c.fact 56 (f := .free "len") rfl)) (bl_cons (He.free_ok X G (c.fact 57 (f := .free "all") rfl)) (bl_cons (He.free_ok X G (c.fact 58 (f := .free "zip") rfl)) (bl_cons (He.free_ok X G (c.fact 59 (f := .free "tuple") rfl)) (bl_cons (He.free_ok X G (c.fact 60 (f := .free "sorted") rfl)) (bl_cons (He.free_ok X G (c.fact 61 (f := .free "set") rfl)) (bl_cons (He.free_ok X G (c.fact 62 (f := .free "list") rfl)) (bl_cons (He.free_ok X G (c.fact 63 (f := .free "range") rfl)) (bl_cons (He.free_ok X G (c.fact 64 (f := .free "any") rfl)) (bl_cons (He.free_ok X G (c.fact 65 (f := .free "min") rfl)) (bl_cons (He.free_ok X G (c.fact 66 (f := .free "max") rfl)) bl_nil))))))))))))))), hw, ex_of X G (fa_cons ⟨(c.fact 67 (f := .glo "InvalidSystem") rfl), (c.fact 69 (f := .exc "InvalidSystem") rfl)⟩ (fa_cons ⟨(c.fact 68 (f := .glo "InvalidCommand") rfl), (c.fact 70 (f := .exc "InvalidCommand") rfl)⟩ fa_nil)), em_of (by decide +kernel) (fa_cons (fa_cons (em_eq (He.exm_ok (c.fact 71 (f := .exm "InvalidSystem" "InvalidSystem" true) rfl))) (fa_cons (em_ne (He.exm_ok (c.fact 72 (f := .exm "InvalidSystem" "InvalidCommand" false) rfl)) (by decide +kernel)) fa_nil)) (fa_cons (fa_cons (em_ne (He.exm_ok (c.fact 73 (f := .exm "InvalidCommand" "InvalidSystem" false) rfl)) (by decide +kernel)) (fa_cons (em_eq (He.exm_ok (c.fact 74 (f := .exm "InvalidCommand" "InvalidCommand" true) rfl))) fa_nil)) fa_nil))⟩
  have e := hfa.symm.trans (He.glo_ok X G (c.fact 47 (f := .glo "law") rfl))
  cases e
  have b := FunD.bindsA (ps := ["script"]) D_47 fun _ _ _ _ _ _ us hl => match us, hl with | [_], _ => rfl
  refine ⟨fd_47, fun s v => b s [v] rfl, fun base _ _ => ?_⟩
  have h_is_integer := ok_is_integer (Pr := Pr) (w := w) (base := base) (cls := clsOf K XC) GG D_0 (He.glo_ok X G (c.fact 0 (f := .glo "is_integer") rfl))
  have h_is_name := ok_is_name (Pr := Pr) (w := w) (base := base) (cls := clsOf K XC) GG D_1 (He.glo_ok X G (c.fact 1 (f := .glo "is_name") rfl))
  have h_is_one_of := ok_is_one_of (Pr := Pr) (w := w) (base := base) (cls := clsOf K XC) GG D_2 (He.glo_ok X G (c.fact 2 (f := .glo "is_one_of") rfl))
  have h_is_rising := ok_is_rising (Pr := Pr) (w := w) (base := base) (cls := clsOf K XC) GG D_3 (He.glo_ok X G (c.fact 3 (f := .glo "is_rising") rfl))
  have h_is_tuple := ok_is_tuple (Pr := Pr) (w := w) (base := base) (cls := clsOf K XC) GG D_4 (He.glo_ok X G (c.fact 4 (f := .glo "is_tuple") rfl))
  have h_is_fields := ok_is_fields (Pr := Pr) (w := w) (base := base) (cls := clsOf K XC) GG D_5 (He.glo_ok X G (c.fact 5 (f := .glo "is_fields") rfl)) h_is_tuple h_is_name h_is_integer h_is_rising
  have h_is_state := ok_is_state (Pr := Pr) (w := w) (base := base) (cls := clsOf K XC) GG D_6 (He.glo_ok X G (c.fact 6 (f := .glo "is_state") rfl)) h_is_tuple h_is_integer
  have h_is_condition := ok_is_condition (Pr := Pr) (w := w) (base := base) (cls := clsOf K XC) GG D_7 (He.glo_ok X G (c.fact 7 (f := .glo "is_condition") rfl)) h_is_tuple h_is_one_of h_is_integer
  have h_is_effect := ok_is_effect (Pr := Pr) (w := w) (base := base) (cls := clsOf K XC) GG D_8 (He.glo_ok X G (c.fact 8 (f := .glo "is_effect") rfl)) h_is_tuple h_is_one_of h_is_integer h_is_rising
  have h_is_command := ok_is_command (Pr := Pr) (w := w) (base := base) (cls := clsOf K XC) GG D_9 (He.glo_ok X G (c.fact 9 (f := .glo "is_command") rfl)) h_is_tuple h_is_name h_is_condition h_is_effect h_is_rising
  have h_clients_in := ok_clients_in (Pr := Pr) (w := w) (base := base) (cls := clsOf K XC) GG D_10 (He.glo_ok X G (c.fact 10 (f := .glo "clients_in") rfl))
  have h_is_system := ok_is_system (Pr := Pr) (w := w) (base := base) (cls := clsOf K XC) GG D_11 (He.glo_ok X G (c.fact 11 (f := .glo "is_system") rfl)) h_is_tuple h_is_fields h_is_state h_is_command h_is_rising h_clients_in
  have h_names_in := ok_names_in (Pr := Pr) (w := w) (base := base) (cls := clsOf K XC) GG D_12 (He.glo_ok X G (c.fact 12 (f := .glo "names_in") rfl))
  have h_command_of := ok_command_of (Pr := Pr) (w := w) (base := base) (cls := clsOf K XC) GG D_13 (He.glo_ok X G (c.fact 13 (f := .glo "command_of") rfl))
  have h_index_of := ok_index_of (Pr := Pr) (w := w) (base := base) (cls := clsOf K XC) GG D_14 (He.glo_ok X G (c.fact 14 (f := .glo "index_of") rfl))
  have h_holds := ok_holds (Pr := Pr) (w := w) (base := base) (cls := clsOf K XC) GG D_15 (He.glo_ok X G (c.fact 15 (f := .glo "holds") rfl)) h_index_of
  have h_led_to := ok_led_to (Pr := Pr) (w := w) (base := base) (cls := clsOf K XC) GG D_16 (He.glo_ok X G (c.fact 16 (f := .glo "led_to") rfl)) h_command_of h_holds h_index_of h_is_state
  have h_states_of := ok_states_of (Pr := Pr) (w := w) (base := base) (cls := clsOf K XC) GG D_17 (He.glo_ok X G (c.fact 17 (f := .glo "states_of") rfl))
  have h_table_of := ok_table_of (Pr := Pr) (w := w) (base := base) (cls := clsOf K XC) GG D_18 (He.glo_ok X G (c.fact 18 (f := .glo "table_of") rfl)) h_led_to h_names_in h_states_of
  have h_reached := ok_reached (Pr := Pr) (w := w) (base := base) (cls := clsOf K XC) GG D_19 (He.glo_ok X G (c.fact 19 (f := .glo "reached") rfl)) h_names_in
  have h_require_system := ok_require_system (Pr := Pr) (w := w) (base := base) (cls := clsOf K XC) GG D_20 (He.glo_ok X G (c.fact 20 (f := .glo "require_system") rfl)) h_is_system
  have h_require_command := ok_require_command (Pr := Pr) (w := w) (base := base) (cls := clsOf K XC) GG D_21 (He.glo_ok X G (c.fact 21 (f := .glo "require_command") rfl)) h_is_one_of h_names_in
  have h_led_on := ok_led_on (Pr := Pr) (w := w) (base := base) (cls := clsOf K XC) GG D_22 (He.glo_ok X G (c.fact 22 (f := .glo "led_on") rfl))
  have h_tells_apart := ok_tells_apart (Pr := Pr) (w := w) (base := base) (cls := clsOf K XC) GG D_23 (He.glo_ok X G (c.fact 23 (f := .glo "tells_apart") rfl)) h_led_on
  have h_first_clash := ok_first_clash (Pr := Pr) (w := w) (base := base) (cls := clsOf K XC) GG D_24 (He.glo_ok X G (c.fact 24 (f := .glo "first_clash") rfl)) h_require_system h_require_command h_table_of h_tells_apart h_reached
  have h_exchangeable := ok_exchangeable (Pr := Pr) (w := w) (base := base) (cls := clsOf K XC) GG D_25 (He.glo_ok X G (c.fact 25 (f := .glo "exchangeable") rfl)) h_first_clash
  have h_does_stop := ok_does_stop (Pr := Pr) (w := w) (base := base) (cls := clsOf K XC) GG D_26 (He.glo_ok X G (c.fact 26 (f := .glo "does_stop") rfl))
  have h_stops_p := ok_stops_p (Pr := Pr) (w := w) (base := base) (cls := clsOf K XC) GG D_27 (He.glo_ok X G (c.fact 27 (f := .glo "stops") rfl)) h_require_system h_table_of h_reached h_does_stop h_names_in
  have h__law_source := ok__law_source (Pr := Pr) (w := w) (base := base) (cls := clsOf K XC) GG D_28 (He.glo_ok X G (c.fact 28 (f := .glo "_law_source") rfl))
  have h__law_pick := ok__law_pick (Pr := Pr) (w := w) (base := base) (cls := clsOf K XC) GG D_29 (He.glo_ok X G (c.fact 29 (f := .glo "_law_pick") rfl))
  have h__law_chosen := ok__law_chosen (Pr := Pr) (w := w) (base := base) (cls := clsOf K XC) GG D_30 (He.glo_ok X G (c.fact 30 (f := .glo "_law_chosen") rfl)) h__law_pick
  have h__law_mixed := ok__law_mixed (Pr := Pr) (w := w) (base := base) (cls := clsOf K XC) GG D_31 (He.glo_ok X G (c.fact 31 (f := .glo "_law_mixed") rfl)) h__law_pick
  have h__law_is_number := ok__law_is_number (Pr := Pr) (w := w) (base := base) (cls := clsOf K XC) GG D_32 (He.glo_ok X G (c.fact 32 (f := .glo "_law_is_number") rfl))
  have h__law_wide := ok__law_wide (Pr := Pr) (w := w) (base := base) (cls := clsOf K XC) GG D_33 (He.glo_ok X G (c.fact 33 (f := .glo "_law_wide") rfl))
  have h__law_good_state := ok__law_good_state (Pr := Pr) (w := w) (base := base) (cls := clsOf K XC) GG D_34 (He.glo_ok X G (c.fact 34 (f := .glo "_law_good_state") rfl)) h__law_wide h__law_is_number
  have h__law_drawn_fields := ok__law_drawn_fields (Pr := Pr) (w := w) (base := base) (cls := clsOf K XC) GG D_35 (He.glo_ok X G (c.fact 35 (f := .glo "_law_drawn_fields") rfl)) h__law_mixed h__law_pick
  have h__law_drawn_state := ok__law_drawn_state (Pr := Pr) (w := w) (base := base) (cls := clsOf K XC) GG D_36 (He.glo_ok X G (c.fact 36 (f := .glo "_law_drawn_state") rfl)) h__law_pick
  have h__law_drawn_condition := ok__law_drawn_condition (Pr := Pr) (w := w) (base := base) (cls := clsOf K XC) GG D_37 (He.glo_ok X G (c.fact 37 (f := .glo "_law_drawn_condition") rfl)) h__law_chosen h__law_pick
  have h__law_drawn_effect := ok__law_drawn_effect (Pr := Pr) (w := w) (base := base) (cls := clsOf K XC) GG D_38 (He.glo_ok X G (c.fact 38 (f := .glo "_law_drawn_effect") rfl)) h__law_pick h__law_chosen
  have h__law_drawn_system := ok__law_drawn_system (Pr := Pr) (w := w) (base := base) (cls := clsOf K XC) GG D_39 (He.glo_ok X G (c.fact 39 (f := .glo "_law_drawn_system") rfl)) h__law_drawn_fields h__law_mixed h__law_pick h__law_chosen h__law_drawn_condition h__law_drawn_effect h__law_drawn_state
  have h__law_labels := ok__law_labels (Pr := Pr) (w := w) (base := base) (cls := clsOf K XC) GG D_40 (He.glo_ok X G (c.fact 40 (f := .glo "_law_labels") rfl))
  have h__law_at := ok__law_at (Pr := Pr) (w := w) (base := base) (cls := clsOf K XC) GG D_41 (He.glo_ok X G (c.fact 41 (f := .glo "_law_at") rfl))
  have h__law_holds := ok__law_holds (Pr := Pr) (w := w) (base := base) (cls := clsOf K XC) GG D_42 (He.glo_ok X G (c.fact 42 (f := .glo "_law_holds") rfl)) h__law_at
  have h__law_after := ok__law_after (Pr := Pr) (w := w) (base := base) (cls := clsOf K XC) GG D_43 (He.glo_ok X G (c.fact 43 (f := .glo "_law_after") rfl)) h__law_holds h__law_at h__law_good_state
  have h__law_states := ok__law_states (Pr := Pr) (w := w) (base := base) (cls := clsOf K XC) GG D_44 (He.glo_ok X G (c.fact 44 (f := .glo "_law_states") rfl))
  have h__law_table := ok__law_table (Pr := Pr) (w := w) (base := base) (cls := clsOf K XC) GG D_45 (He.glo_ok X G (c.fact 45 (f := .glo "_law_table") rfl)) h__law_after h__law_labels h__law_states
  have h__law_reached := ok__law_reached (Pr := Pr) (w := w) (base := base) (cls := clsOf K XC) GG D_46 (He.glo_ok X G (c.fact 46 (f := .glo "_law_reached") rfl)) h__law_labels
  exact okF_law GG D_47 h__law_source h__law_drawn_system h__law_table h__law_labels h__law_reached h_stops_p h_exchangeable
end K52
/-! E1: how plain functions are worked out: simp's equations. -/
namespace DL
open PySem PySem.Spec L2
variable [WorldC]

def getC (e : Env) (i : Nat) : Option Cel := e[i]?
def setC (e : Env) (i : Nat) (c : Cel) : Env := e.set i c
section
variable {e : Env} {c : Cel} {a0 a1 a2 a3 a4 a5 a6 a7 a8 a9 a10 a11 a12 a13 a14 a15 a16 a17 a18 a19 a20 a21 a22 a23 a24 a25 : Cel}
@[simp] theorem get_0 : getC (a0 :: e) 0 = some a0 := (rfl)
@[simp] theorem set_0 : setC (a0 :: e) 0 c = c :: e := (rfl)
@[simp] theorem get_1 : getC (a0 :: a1 :: e) 1 = some a1 := (rfl)
@[simp] theorem set_1 : setC (a0 :: a1 :: e) 1 c = a0 :: c :: e := (rfl)
@[simp] theorem get_2 : getC (a0 :: a1 :: a2 :: e) 2 = some a2 := (rfl)
@[simp] theorem set_2 : setC (a0 :: a1 :: a2 :: e) 2 c = a0 :: a1 :: c :: e := (rfl)
@[simp] theorem get_3 : getC (a0 :: a1 :: a2 :: a3 :: e) 3 = some a3 := (rfl)
@[simp] theorem set_3 : setC (a0 :: a1 :: a2 :: a3 :: e) 3 c = a0 :: a1 :: a2 :: c :: e := (rfl)
@[simp] theorem get_4 : getC (a0 :: a1 :: a2 :: a3 :: a4 :: e) 4 = some a4 := (rfl)
@[simp] theorem set_4 : setC (a0 :: a1 :: a2 :: a3 :: a4 :: e) 4 c = a0 :: a1 :: a2 :: a3 :: c :: e := (rfl)
@[simp] theorem get_5 : getC (a0 :: a1 :: a2 :: a3 :: a4 :: a5 :: e) 5 = some a5 := (rfl)
@[simp] theorem set_5 : setC (a0 :: a1 :: a2 :: a3 :: a4 :: a5 :: e) 5 c = a0 :: a1 :: a2 :: a3 :: a4 :: c :: e := (rfl)
@[simp] theorem get_6 : getC (a0 :: a1 :: a2 :: a3 :: a4 :: a5 :: a6 :: e) 6 = some a6 := (rfl)
@[simp] theorem set_6 : setC (a0 :: a1 :: a2 :: a3 :: a4 :: a5 :: a6 :: e) 6 c = a0 :: a1 :: a2 :: a3 :: a4 :: a5 :: c :: e := (rfl)
@[simp] theorem get_7 : getC (a0 :: a1 :: a2 :: a3 :: a4 :: a5 :: a6 :: a7 :: e) 7 = some a7 := (rfl)
@[simp] theorem set_7 : setC (a0 :: a1 :: a2 :: a3 :: a4 :: a5 :: a6 :: a7 :: e) 7 c = a0 :: a1 :: a2 :: a3 :: a4 :: a5 :: a6 :: c :: e := (rfl)
@[simp] theorem get_8 : getC (a0 :: a1 :: a2 :: a3 :: a4 :: a5 :: a6 :: a7 :: a8 :: e) 8 = some a8 := (rfl)
@[simp] theorem set_8 : setC (a0 :: a1 :: a2 :: a3 :: a4 :: a5 :: a6 :: a7 :: a8 :: e) 8 c = a0 :: a1 :: a2 :: a3 :: a4 :: a5 :: a6 :: a7 :: c :: e := (rfl)
@[simp] theorem get_9 : getC (a0 :: a1 :: a2 :: a3 :: a4 :: a5 :: a6 :: a7 :: a8 :: a9 :: e) 9 = some a9 := (rfl)
@[simp] theorem set_9 : setC (a0 :: a1 :: a2 :: a3 :: a4 :: a5 :: a6 :: a7 :: a8 :: a9 :: e) 9 c = a0 :: a1 :: a2 :: a3 :: a4 :: a5 :: a6 :: a7 :: a8 :: c :: e := (rfl)
@[simp] theorem get_10 : getC (a0 :: a1 :: a2 :: a3 :: a4 :: a5 :: a6 :: a7 :: a8 :: a9 :: a10 :: e) 10 = some a10 := (rfl)
@[simp] theorem set_10 : setC (a0 :: a1 :: a2 :: a3 :: a4 :: a5 :: a6 :: a7 :: a8 :: a9 :: a10 :: e) 10 c = a0 :: a1 :: a2 :: a3 :: a4 :: a5 :: a6 :: a7 :: a8 :: a9 :: c :: e := (rfl)
@[simp] theorem get_11 : getC (a0 :: a1 :: a2 :: a3 :: a4 :: a5 :: a6 :: a7 :: a8 :: a9 :: a10 :: a11 :: e) 11 = some a11 := (rfl)
@[simp] theorem set_11 : setC (a0 :: a1 :: a2 :: a3 :: a4 :: a5 :: a6 :: a7 :: a8 :: a9 :: a10 :: a11 :: e) 11 c = a0 :: a1 :: a2 :: a3 :: a4 :: a5 :: a6 :: a7 :: a8 :: a9 :: a10 :: c :: e := (rfl)
@[simp] theorem get_12 : getC (a0 :: a1 :: a2 :: a3 :: a4 :: a5 :: a6 :: a7 :: a8 :: a9 :: a10 :: a11 :: a12 :: e) 12 = some a12 := (rfl)
@[simp] theorem set_12 : setC (a0 :: a1 :: a2 :: a3 :: a4 :: a5 :: a6 :: a7 :: a8 :: a9 :: a10 :: a11 :: a12 :: e) 12 c = a0 :: a1 :: a2 :: a3 :: a4 :: a5 :: a6 :: a7 :: a8 :: a9 :: a10 :: a11 :: c :: e := (rfl)
@[simp] theorem get_13 : getC (a0 :: a1 :: a2 :: a3 :: a4 :: a5 :: a6 :: a7 :: a8 :: a9 :: a10 :: a11 :: a12 :: a13 :: e) 13 = some a13 := (rfl)
@[simp] theorem set_13 : setC (a0 :: a1 :: a2 :: a3 :: a4 :: a5 :: a6 :: a7 :: a8 :: a9 :: a10 :: a11 :: a12 :: a13 :: e) 13 c = a0 :: a1 :: a2 :: a3 :: a4 :: a5 :: a6 :: a7 :: a8 :: a9 :: a10 :: a11 :: a12 :: c :: e := (rfl)
@[simp] theorem get_14 : getC (a0 :: a1 :: a2 :: a3 :: a4 :: a5 :: a6 :: a7 :: a8 :: a9 :: a10 :: a11 :: a12 :: a13 :: a14 :: e) 14 = some a14 := (rfl)
@[simp] theorem set_14 : setC (a0 :: a1 :: a2 :: a3 :: a4 :: a5 :: a6 :: a7 :: a8 :: a9 :: a10 :: a11 :: a12 :: a13 :: a14 :: e) 14 c = a0 :: a1 :: a2 :: a3 :: a4 :: a5 :: a6 :: a7 :: a8 :: a9 :: a10 :: a11 :: a12 :: a13 :: c :: e := (rfl)
@[simp] theorem get_15 : getC (a0 :: a1 :: a2 :: a3 :: a4 :: a5 :: a6 :: a7 :: a8 :: a9 :: a10 :: a11 :: a12 :: a13 :: a14 :: a15 :: e) 15 = some a15 := (rfl)
@[simp] theorem set_15 : setC (a0 :: a1 :: a2 :: a3 :: a4 :: a5 :: a6 :: a7 :: a8 :: a9 :: a10 :: a11 :: a12 :: a13 :: a14 :: a15 :: e) 15 c = a0 :: a1 :: a2 :: a3 :: a4 :: a5 :: a6 :: a7 :: a8 :: a9 :: a10 :: a11 :: a12 :: a13 :: a14 :: c :: e := (rfl)
@[simp] theorem get_16 : getC (a0 :: a1 :: a2 :: a3 :: a4 :: a5 :: a6 :: a7 :: a8 :: a9 :: a10 :: a11 :: a12 :: a13 :: a14 :: a15 :: a16 :: e) 16 = some a16 := (rfl)
@[simp] theorem set_16 : setC (a0 :: a1 :: a2 :: a3 :: a4 :: a5 :: a6 :: a7 :: a8 :: a9 :: a10 :: a11 :: a12 :: a13 :: a14 :: a15 :: a16 :: e) 16 c = a0 :: a1 :: a2 :: a3 :: a4 :: a5 :: a6 :: a7 :: a8 :: a9 :: a10 :: a11 :: a12 :: a13 :: a14 :: a15 :: c :: e := (rfl)
@[simp] theorem get_17 : getC (a0 :: a1 :: a2 :: a3 :: a4 :: a5 :: a6 :: a7 :: a8 :: a9 :: a10 :: a11 :: a12 :: a13 :: a14 :: a15 :: a16 :: a17 :: e) 17 = some a17 := (rfl)
@[simp] theorem set_17 : setC (a0 :: a1 :: a2 :: a3 :: a4 :: a5 :: a6 :: a7 :: a8 :: a9 :: a10 :: a11 :: a12 :: a13 :: a14 :: a15 :: a16 :: a17 :: e) 17 c = a0 :: a1 :: a2 :: a3 :: a4 :: a5 :: a6 :: a7 :: a8 :: a9 :: a10 :: a11 :: a12 :: a13 :: a14 :: a15 :: a16 :: c :: e := (rfl)
@[simp] theorem get_18 : getC (a0 :: a1 :: a2 :: a3 :: a4 :: a5 :: a6 :: a7 :: a8 :: a9 :: a10 :: a11 :: a12 :: a13 :: a14 :: a15 :: a16 :: a17 :: a18 :: e) 18 = some a18 := (rfl)
@[simp] theorem set_18 : setC (a0 :: a1 :: a2 :: a3 :: a4 :: a5 :: a6 :: a7 :: a8 :: a9 :: a10 :: a11 :: a12 :: a13 :: a14 :: a15 :: a16 :: a17 :: a18 :: e) 18 c = a0 :: a1 :: a2 :: a3 :: a4 :: a5 :: a6 :: a7 :: a8 :: a9 :: a10 :: a11 :: a12 :: a13 :: a14 :: a15 :: a16 :: a17 :: c :: e := (rfl)
@[simp] theorem get_19 : getC (a0 :: a1 :: a2 :: a3 :: a4 :: a5 :: a6 :: a7 :: a8 :: a9 :: a10 :: a11 :: a12 :: a13 :: a14 :: a15 :: a16 :: a17 :: a18 :: a19 :: e) 19 = some a19 := (rfl)
@[simp] theorem set_19 : setC (a0 :: a1 :: a2 :: a3 :: a4 :: a5 :: a6 :: a7 :: a8 :: a9 :: a10 :: a11 :: a12 :: a13 :: a14 :: a15 :: a16 :: a17 :: a18 :: a19 :: e) 19 c = a0 :: a1 :: a2 :: a3 :: a4 :: a5 :: a6 :: a7 :: a8 :: a9 :: a10 :: a11 :: a12 :: a13 :: a14 :: a15 :: a16 :: a17 :: a18 :: c :: e := (rfl)
@[simp] theorem get_20 : getC (a0 :: a1 :: a2 :: a3 :: a4 :: a5 :: a6 :: a7 :: a8 :: a9 :: a10 :: a11 :: a12 :: a13 :: a14 :: a15 :: a16 :: a17 :: a18 :: a19 :: a20 :: e) 20 = some a20 := (rfl)
@[simp] theorem set_20 : setC (a0 :: a1 :: a2 :: a3 :: a4 :: a5 :: a6 :: a7 :: a8 :: a9 :: a10 :: a11 :: a12 :: a13 :: a14 :: a15 :: a16 :: a17 :: a18 :: a19 :: a20 :: e) 20 c = a0 :: a1 :: a2 :: a3 :: a4 :: a5 :: a6 :: a7 :: a8 :: a9 :: a10 :: a11 :: a12 :: a13 :: a14 :: a15 :: a16 :: a17 :: a18 :: a19 :: c :: e := (rfl)
@[simp] theorem get_21 : getC (a0 :: a1 :: a2 :: a3 :: a4 :: a5 :: a6 :: a7 :: a8 :: a9 :: a10 :: a11 :: a12 :: a13 :: a14 :: a15 :: a16 :: a17 :: a18 :: a19 :: a20 :: a21 :: e) 21 = some a21 := (rfl)
@[simp] theorem set_21 : setC (a0 :: a1 :: a2 :: a3 :: a4 :: a5 :: a6 :: a7 :: a8 :: a9 :: a10 :: a11 :: a12 :: a13 :: a14 :: a15 :: a16 :: a17 :: a18 :: a19 :: a20 :: a21 :: e) 21 c = a0 :: a1 :: a2 :: a3 :: a4 :: a5 :: a6 :: a7 :: a8 :: a9 :: a10 :: a11 :: a12 :: a13 :: a14 :: a15 :: a16 :: a17 :: a18 :: a19 :: a20 :: c :: e := (rfl)
@[simp] theorem get_22 : getC (a0 :: a1 :: a2 :: a3 :: a4 :: a5 :: a6 :: a7 :: a8 :: a9 :: a10 :: a11 :: a12 :: a13 :: a14 :: a15 :: a16 :: a17 :: a18 :: a19 :: a20 :: a21 :: a22 :: e) 22 = some a22 := (rfl)
@[simp] theorem set_22 : setC (a0 :: a1 :: a2 :: a3 :: a4 :: a5 :: a6 :: a7 :: a8 :: a9 :: a10 :: a11 :: a12 :: a13 :: a14 :: a15 :: a16 :: a17 :: a18 :: a19 :: a20 :: a21 :: a22 :: e) 22 c = a0 :: a1 :: a2 :: a3 :: a4 :: a5 :: a6 :: a7 :: a8 :: a9 :: a10 :: a11 :: a12 :: a13 :: a14 :: a15 :: a16 :: a17 :: a18 :: a19 :: a20 :: a21 :: c :: e := (rfl)
@[simp] theorem get_23 : getC (a0 :: a1 :: a2 :: a3 :: a4 :: a5 :: a6 :: a7 :: a8 :: a9 :: a10 :: a11 :: a12 :: a13 :: a14 :: a15 :: a16 :: a17 :: a18 :: a19 :: a20 :: a21 :: a22 :: a23 :: e) 23 = some a23 := (rfl)
@[simp] theorem set_23 : setC (a0 :: a1 :: a2 :: a3 :: a4 :: a5 :: a6 :: a7 :: a8 :: a9 :: a10 :: a11 :: a12 :: a13 :: a14 :: a15 :: a16 :: a17 :: a18 :: a19 :: a20 :: a21 :: a22 :: a23 :: e) 23 c = a0 :: a1 :: a2 :: a3 :: a4 :: a5 :: a6 :: a7 :: a8 :: a9 :: a10 :: a11 :: a12 :: a13 :: a14 :: a15 :: a16 :: a17 :: a18 :: a19 :: a20 :: a21 :: a22 :: c :: e := (rfl)
@[simp] theorem get_24 : getC (a0 :: a1 :: a2 :: a3 :: a4 :: a5 :: a6 :: a7 :: a8 :: a9 :: a10 :: a11 :: a12 :: a13 :: a14 :: a15 :: a16 :: a17 :: a18 :: a19 :: a20 :: a21 :: a22 :: a23 :: a24 :: e) 24 = some a24 := (rfl)
@[simp] theorem set_24 : setC (a0 :: a1 :: a2 :: a3 :: a4 :: a5 :: a6 :: a7 :: a8 :: a9 :: a10 :: a11 :: a12 :: a13 :: a14 :: a15 :: a16 :: a17 :: a18 :: a19 :: a20 :: a21 :: a22 :: a23 :: a24 :: e) 24 c = a0 :: a1 :: a2 :: a3 :: a4 :: a5 :: a6 :: a7 :: a8 :: a9 :: a10 :: a11 :: a12 :: a13 :: a14 :: a15 :: a16 :: a17 :: a18 :: a19 :: a20 :: a21 :: a22 :: a23 :: c :: e := (rfl)
@[simp] theorem get_25 : getC (a0 :: a1 :: a2 :: a3 :: a4 :: a5 :: a6 :: a7 :: a8 :: a9 :: a10 :: a11 :: a12 :: a13 :: a14 :: a15 :: a16 :: a17 :: a18 :: a19 :: a20 :: a21 :: a22 :: a23 :: a24 :: a25 :: e) 25 = some a25 := (rfl)
@[simp] theorem set_25 : setC (a0 :: a1 :: a2 :: a3 :: a4 :: a5 :: a6 :: a7 :: a8 :: a9 :: a10 :: a11 :: a12 :: a13 :: a14 :: a15 :: a16 :: a17 :: a18 :: a19 :: a20 :: a21 :: a22 :: a23 :: a24 :: a25 :: e) 25 c = a0 :: a1 :: a2 :: a3 :: a4 :: a5 :: a6 :: a7 :: a8 :: a9 :: a10 :: a11 :: a12 :: a13 :: a14 :: a15 :: a16 :: a17 :: a18 :: a19 :: a20 :: a21 :: a22 :: a23 :: a24 :: c :: e := (rfl)
end

def opK2' (r : Option P) (e : Env) (h : Hh) : R DV := match r with
  | some r => .ok (.d r) e h
  | none => .stuck
def tgtK (o : Option Env) (h : Hh) : R Fl := match o with
  | some e1 => .ok .next e1 h
  | none => .stuck
def ftK (o : Option Env) (a : M Fl) (h : Hh) : R Fl := match o with
  | some e1 => a e1 h
  | none => .stuck
def setK2 (o : Option Nat) (ds : List P) (p : P) (u : Owner) (e : Env) (h : Hh) : R Fl := match o with
  | some j => .ok .next (setO u (.lst (ds.set j p)) e h).1 (setO u (.lst (ds.set j p)) e h).2
  | none => .stuck
def setK3 (b : Bool) (kvs : List (P × P)) (k p : P) (u : Owner) (e : Env) (h : Hh) : R Fl := if b then .ok .next (setO u (.dct (dput kvs k p)) e h).1 (setO u (.dct (dput kvs k p)) e h).2 else .stuck
def setKl (ds : List P) (k p : P) (u : Owner) (e : Env) (h : Hh) : R Fl := match k with
  | .int x => setK2 (ixP ds.length x) ds p u e h
  | _ => .stuck
def setK (o : Option DO) (p : P) (u : Owner) (k : P) (e : Env) (h : Hh) : R Fl := match o with
  | some (.lst ds) => setKl ds k p u e h
  | some (.dct kvs) => setK3 (keyOk kvs k && decide ((dput kvs k p).length ≤ 16777216)) kvs k p u e h
  | _ => .stuck
def dctK2 (o : Option (List (P × P))) (e : Env) (h : Hh) : R DV := match o with
  | some kvs => if dispOk kvs && decide (kvs.length ≤ 15) then .ok (.d (.dict (dputs [] kvs))) e h else .stuck
  | none => .stuck
def dctK (o : Option (List P)) (e : Env) (h : Hh) : R DV := match o with
  | some ps => dctK2 (pairUp ps) e h
  | none => .stuck
def methK (o : Option P) (k : Rk) (f : Op) (v : DV) (ms : M (List DV)) (e : Env) (h : Hh) : R DV := match o with
  | some p => if rkB k p then (ms e h).bind (endMeth f v) else .stuck
  | none => .stuck
def meth2K (o : Option P) (os : Option (List P)) (f : Op) (e : Env) (h : Hh) : R DV := match o, os with
  | some p, some ps => opK2' (f (p :: ps)) e h
  | _, _ => .stuck
def ocK (c : Option Cel) : Option DO := match c with
  | some (.obj o) => some o
  | _ => none
def parK1 (c : Option Cel) (o2 : Bool) (i j : Nat) (m2 : M DV) (e : Env) (h : Hh) : R Fl := match c with
  | some a => (m2 e h).bind (endPar2 o2 i j a)
  | none => .stuck
def parK2 (c : Option Cel) (i j : Nat) (a : Cel) (e : Env) (h : Hh) : R Fl := match c with
  | some b => if i < e.length ∧ j < e.length then .ok .next (setC (setC e i a) j b) h else .stuck
  | none => .stuck
def varK (c : Option Cel) (i : Nat) (e : Env) (h : Hh) : R DV := match c with
  | some (.val v) => .ok v e h
  | some (.obj _) => .ok (.ob (.loc i)) e h
  | _ => .stuck
def fzK (c : Option Cel) (i : Nat) (e : Env) (h : Hh) : R DV := match c with
  | some (.val v) => .ok v e h
  | some (.obj (.lst ds)) => .ok (.d (.list ds)) (setC e i (.val (.d (.list ds)))) h
  | some (.obj (.dct kvs)) => .ok (.d (.dict kvs)) (setC e i (.val (.d (.dict kvs)))) h
  | _ => .stuck
def opK2 (r : Option P) (e : Env) (h : Hh) : R DV := match r with
  | some r => .ok (.d r) e h
  | none => .stuck
def opK (ps : Option (List P)) (f : List P → Option P) (e : Env) (h : Hh) : R DV := match ps with
  | some ps => opK2 (f ps) e h
  | none => .stuck
def consK (a : Option P) (b : Option (List P)) : Option (List P) := match a, b with
  | some p, some ps => some (p :: ps)
  | _, _ => none
def lookK (o : Option DO) : Option P := match o with
  | some (.lst xs) => some (.list xs)
  | some (.dct kvs) => some (.dict kvs)
  | _ => none
def tupK (o : Option (List P)) (e : Env) (h : Hh) : R DV := match o with
  | some ps => if ps.length ≤ 16777216 then .ok (.d (.tuple ps)) e h else .stuck
  | none => .stuck
def lstK (o : Option (List P)) (e : Env) (h : Hh) : R DV := match o with
  | some ps => if ps.length ≤ 16777216 then .ok (.d (.list ps)) e h else .stuck
  | none => .stuck
def truK2 (o : Option Bool) (e : Env) (h : Hh) : R Bool := match o with
  | some b => .ok b e h
  | none => .stuck
def truK (o : Option P) (e : Env) (h : Hh) : R Bool := match o with
  | some p => truK2 (truP p) e h
  | none => .stuck
def callK3 (b : Bool) (v : DV) (e : Env) (h : Hh) : R DV := if b then .ok v e h else .stuck
def callK2 (r : R DV) (e : Env) : R DV := match r with
  | .ok v _ h' => callK3 v.ok v e h'
  | .ex c p _ h' => .ex c p e h'
  | .stuck => .stuck
def callK (b : Bool) (F : Fn) (vs : List DV) (e : Env) (h : Hh) : R DV := match b with
  | true => callK2 (F vs h) e
  | false => .stuck
def slK (o : Option P) (l u : Option Int) (e : Env) (h : Hh) : R DV := match o with
  | some p => opK2 (sliceP l u p) e h
  | none => .stuck
def revK (o : Option P) (e : Env) (h : Hh) : R DV := match o with
  | some p => opK2 (revP p) e h
  | none => .stuck
def ownK (o : Option DO) (w : Owner) : Option Owner := match o with
  | some (.lst _) => some w
  | _ => none
def mutK (w : Option Owner) (f : Mt) (ms : M (List DV)) (e : Env) (h : Hh) : R DV := match w with
  | some w => (ms e h).bind (endMut f w)
  | none => .stuck
def mutE2 (o : Option (P × List P)) (w : Owner) (e : Env) (h : Hh) : R DV := match o with
  | some (r, ds') => if ds'.length ≤ 16777216 then .ok (.d r) (setO w (.lst ds') e h).1 (setO w (.lst ds') e h).2 else .stuck
  | none => .stuck
def mutE (o : Option DO) (ps : Option (List P)) (f : Mt) (w : Owner) (e : Env) (h : Hh) : R DV := match o, ps with
  | some (.lst ds), some ps => mutE2 (f ds ps) w e h
  | _, _ => .stuck
def cutK2 (o : Option (List P)) (w : Owner) (e : Env) (h : Hh) : R Fl := match o with
  | some ds' => .ok .next (setO w (.lst ds') e h).1 (setO w (.lst ds') e h).2
  | none => .stuck
def cutK (o : Option DO) (w : Owner) (a c : Int) (es : List P) (e : Env) (h : Hh) : R Fl := match o with
  | some (.lst ds) => cutK2 (cutSet a c ds es) w e h
  | _ => .stuck
def elK (o : Option Env) (mt : M Bool) (m : M DV) (h : Hh) : R (List P) := match o with
  | some e1 => (mt e1 h).bind fun b e h => if b then (m e h).bind endEl else .ok [] e h
  | none => .stuck
def el2K (o : Option Env) (mt : M Bool) (mi : M (List P)) (own : List Nat) (f : P → M (List P)) (h : Hh) : R (List P) := match o with
  | some e1 => (mt e1 h).bind fun b e h => if b then (mi e h).bind (inGo own f) else .ok [] e h
  | none => .stuck
def restK (c : Option Cel) : Cel := match c with
  | some (.val x) => .val x
  | _ => .no
def scrK2 (o : Option Int) (e : Env) (h : Hh) : R DV := match o with
  | some n => .ok (.d (.int n)) e h
  | none => .stuck
def scrK (o : Option Nat) (ns : List Int) (e : Env) (h : Hh) : R DV := match o with
  | some l => scrK2 ns[l]? e h
  | none => .stuck
def scrLK (c : Option Cel) (e : Env) (h : Hh) : R DV := match c with
  | some (.val (.scr ns)) => .ok (.d (.int ns.length)) e h
  | _ => .stuck
section
variable {e : Env} {h : Hh} {i j k : Nat} {v w : DV} {p q r : P} {vs : List DV} {m ma mb mc : M DV} {mt mu : M Bool} {ms : M (List DV)} {a b : M Fl} {f g : List P → Option P} {o : DO} {xs ds es ps : List P} {x y : Int} {F : Fn} {t : Tg} {mi : M (List P)} {n : Nat} {u : Owner} {c : Cel} {e1 e2 : Env} {fm : Mt} {own : List Nat} {fe : P → M (List P)} {α : Type} {ra rb : R α} {kvs : List (P × P)}
@[simp] theorem opK2'_s : opK2' (some r) e h = .ok (.d r) e h := (rfl)
@[simp] theorem setK_d : setK (some (.dct kvs)) p u q e h = setK3 (keyOk kvs q && decide ((dput kvs q p).length ≤ 16777216)) kvs q p u e h := (rfl)
@[simp] theorem setK3_t : setK3 true kvs q p u e h = .ok .next (setO u (.dct (dput kvs q p)) e h).1 (setO u (.dct (dput kvs q p)) e h).2 := (rfl)
@[simp] theorem setKl_s : setKl ds (.int x) p u e h = setK2 (ixP ds.length x) ds p u e h := (rfl)
@[simp] theorem dctK2_s : dctK2 (some kvs) e h = if dispOk kvs && decide (kvs.length ≤ 15) then .ok (.d (.dict (dputs [] kvs))) e h else .stuck := (rfl)
@[simp] theorem dctK_s : dctK (some ps) e h = dctK2 (pairUp ps) e h := (rfl)
@[simp] theorem methK_s {rk : Rk} : methK (some p) rk f v ms e h = if rkB rk p then (ms e h).bind (endMeth f v) else .stuck := (rfl)
@[simp] theorem meth2K_s : meth2K (some p) (some ps) f e h = opK2' (f (p :: ps)) e h := (rfl)
@[simp] theorem rkB_l : rkB .lst (.list ds) = true := (rfl)
@[simp] theorem rkB_d : rkB .dct (.dict kvs) = true := (rfl)
@[simp] theorem fzK_d : fzK (some (.obj (.dct kvs))) i e h = .ok (.d (.dict kvs)) (setC e i (.val (.d (.dict kvs)))) h := (rfl)
@[simp] theorem lookK_d : lookK (some (.dct kvs)) = some (.dict kvs) := (rfl)
@[simp] theorem ev_sStuck : sStuck e h = .stuck := (rfl)
@[simp] theorem ev_mDct : mDct ms e h = (ms e h).bind endDct := (rfl)
@[simp] theorem ev_endDct : endDct vs e h = dctK (pures vs) e h := by
  unfold endDct dctK
  cases pures vs with
  | none => rfl
  | some ps => simp only [dctK2] <;> cases pairUp ps <;> rfl
@[simp] theorem ev_mMeth {rk : Rk} : mMeth rk f m ms e h = (m e h).bind fun v e h => methK (look v e h) rk f v ms e h := by
  unfold mMeth
  rfl
@[simp] theorem ev_endMeth : endMeth f v vs e h = meth2K (look v e h) (pures vs) f e h := by
  unfold endMeth meth2K
  cases look v e h with
  | none => rfl
  | some p =>
    cases pures vs with
    | none => rfl
    | some ps => simp only [opK2'] <;> cases f (p :: ps) <;> rfl
@[simp] theorem ev_own_d : endOwn i (.d (.dict kvs)) e h = if i < e.length then .ok .next (setC e i (.obj (.dct kvs))) h else .stuck := (rfl)
@[simp] theorem ev_cel_td : cel true (.d (.dict kvs)) = some (.obj (.dct kvs)) := (rfl)
@[simp] theorem ev_truP_d : truP (.dict kvs) = some (!kvs.isEmpty) := (rfl)
@[simp] theorem op_len_d : lenP [.dict kvs] = some (.int kvs.length) := (rfl)
@[simp] theorem op_list_d : listP [.dict kvs] = some (.list (kvs.map (·.1))) := (rfl)
@[simp] theorem op_idx_d : idxP [.dict kvs, p] = if keyOk kvs p then dget kvs p else none := (rfl)
@[simp] theorem op_any : anyP [.list ds] = (bools ds).map fun bs => .bool (bs.any id) := (rfl)
@[simp] theorem op_is_n : isP [p, .none] = some (.bool (isNone p)) := (rfl)
@[simp] theorem op_isnot_n : isnotP [p, .none] = some (.bool (!isNone p)) := (rfl)
@[simp] theorem op_is_b {z : Bool} : isP [p, .bool z] = some (.bool (isBool z p)) := (rfl)
@[simp] theorem op_isnot_b {z : Bool} : isnotP [p, .bool z] = some (.bool (!isBool z p)) := (rfl)
@[simp] theorem isBool_b {z w : Bool} : isBool z (.bool w) = (w == z) := (rfl)
@[simp] theorem isNone_n : isNone .none = true := (rfl)
@[simp] theorem isNone_t : isNone (.tuple ds) = false := (rfl)
@[simp] theorem pairUp_n : pairUp [] = some [] := (rfl)
@[simp] theorem pairUp_c : pairUp (p :: q :: ds) = (pairUp ds).map ((p, q) :: ·) := (rfl)
@[simp] theorem tgtK_s : tgtK (some e1) h = .ok .next e1 h := (rfl)
@[simp] theorem ftK_s : ftK (some e1) a h = a e1 h := (rfl)
@[simp] theorem setK2_s : setK2 (some j) ds p u e h = .ok .next (setO u (.lst (ds.set j p)) e h).1 (setO u (.lst (ds.set j p)) e h).2 := (rfl)
@[simp] theorem setK_s : setK (some (.lst ds)) p u q e h = setKl ds q p u e h := (rfl)
@[simp] theorem ocK_o : ocK (some (.obj o)) = some o := (rfl)
@[simp] theorem ocK_v : ocK (some (.val v)) = none := (rfl)
@[simp] theorem ocK_n : ocK (some .no) = none := (rfl)
@[simp] theorem parK1_s {o2 : Bool} {m2 : M DV} : parK1 (some c) o2 i j m2 e h = (m2 e h).bind (endPar2 o2 i j c) := (rfl)
@[simp] theorem parK2_s {c2 : Cel} : parK2 (some c2) i j c e h = if i < e.length ∧ j < e.length then .ok .next (setC (setC e i c) j c2) h else .stuck := (rfl)
@[simp] theorem varK_v : varK (some (.val v)) i e h = .ok v e h := (rfl)
@[simp] theorem varK_o : varK (some (.obj o)) i e h = .ok (.ob (.loc i)) e h := (rfl)
@[simp] theorem varK_n : varK (some .no) i e h = .stuck := (rfl)
@[simp] theorem fzK_v : fzK (some (.val v)) i e h = .ok v e h := (rfl)
@[simp] theorem fzK_o : fzK (some (.obj (.lst ds))) i e h = .ok (.d (.list ds)) (setC e i (.val (.d (.list ds)))) h := (rfl)
@[simp] theorem opK2_s : opK2 (some r) e h = .ok (.d r) e h := (rfl)
@[simp] theorem opK_s : opK (some ps) f e h = opK2 (f ps) e h := (rfl)
@[simp] theorem consK_s : consK (some p) (some ps) = some (p :: ps) := (rfl)
@[simp] theorem lookK_s : lookK (some (.lst xs)) = some (.list xs) := (rfl)
@[simp] theorem tupK_s : tupK (some ps) e h = if ps.length ≤ 16777216 then .ok (.d (.tuple ps)) e h else .stuck := (rfl)
@[simp] theorem lstK_s : lstK (some ps) e h = if ps.length ≤ 16777216 then .ok (.d (.list ps)) e h else .stuck := (rfl)
@[simp] theorem truK2_s {z : Bool} : truK2 (some z) e h = .ok z e h := (rfl)
@[simp] theorem truK_s : truK (some p) e h = truK2 (truP p) e h := (rfl)
@[simp] theorem callK3_t : callK3 true v e h = .ok v e h := (rfl)
@[simp] theorem callK2_s : callK2 (.ok v e1 h) e = callK3 v.ok v e h := (rfl)
@[simp] theorem callK2_x : callK2 (.ex k p e1 h) e = .ex k p e h := (rfl)
@[simp] theorem callK_t : callK true F vs e h = callK2 (F vs h) e := (rfl)
@[simp] theorem slK_s {l u : Option Int} : slK (some p) l u e h = opK2 (sliceP l u p) e h := (rfl)
@[simp] theorem revK_s : revK (some p) e h = opK2 (revP p) e h := (rfl)
@[simp] theorem ownK_s : ownK (some (.lst ds)) u = some u := (rfl)
@[simp] theorem mutK_s : mutK (some u) fm ms e h = (ms e h).bind (endMut fm u) := (rfl)
@[simp] theorem mutE2_s : mutE2 (some (r, ds)) u e h = if ds.length ≤ 16777216 then .ok (.d r) (setO u (.lst ds) e h).1 (setO u (.lst ds) e h).2 else .stuck := (rfl)
@[simp] theorem mutE_s : mutE (some (.lst ds)) (some ps) fm u e h = mutE2 (fm ds ps) u e h := (rfl)
@[simp] theorem cutK2_s : cutK2 (some ds) u e h = .ok .next (setO u (.lst ds) e h).1 (setO u (.lst ds) e h).2 := (rfl)
@[simp] theorem cutK_s : cutK (some (.lst ds)) u x y es e h = cutK2 (cutSet x y ds es) u e h := (rfl)
@[simp] theorem elK_s : elK (some e1) mt m h = (mt e1 h).bind fun b e h => if b then (m e h).bind endEl else .ok [] e h := (rfl)
@[simp] theorem el2K_s : el2K (some e1) mt mi own fe h = (mt e1 h).bind fun b e h => if b then (mi e h).bind (inGo own fe) else .ok [] e h := (rfl)
@[simp] theorem restK_v : restK (some (.val v)) = .val v := (rfl)
@[simp] theorem restK_n : restK (some .no) = .no := (rfl)
@[simp] theorem restK_o : restK (some (.obj o)) = .no := (rfl)
@[simp] theorem scrK2_s : scrK2 (some x) e h = .ok (.d (.int x)) e h := (rfl)
@[simp] theorem scrK_s {ns : List Int} : scrK (some j) ns e h = scrK2 ns[j]? e h := (rfl)
@[simp] theorem scrLK_s {ns : List Int} : scrLK (some (.val (.scr ns))) e h = .ok (.d (.int ns.length)) e h := (rfl)
/-! statements -/
@[simp] theorem ev_sNil : sNil e h = .ok .next e h := (rfl)
@[simp] theorem ev_sCons : sCons a b e h = (a e h).bind (endSeqS b) := (rfl)
@[simp] theorem ev_seq_n : endSeqS b .next e h = b e h := (rfl)
@[simp] theorem ev_seq_r : endSeqS b (.ret v) e h = .ok (.ret v) e h := (rfl)
@[simp] theorem ev_seq_b : endSeqS b .brk e h = .ok .brk e h := (rfl)
@[simp] theorem ev_seq_c : endSeqS b .cont e h = .ok .cont e h := (rfl)
@[simp] theorem ev_sExpr : sExpr m e h = (m e h).bind fun _ e h => .ok .next e h := (rfl)
@[simp] theorem ev_sAsg : sAsg i m e h = (m e h).bind (endAsg i) := (rfl)
@[simp] theorem ev_asg_d : endAsg i (.d p) e h = .ok .next (setC e i (.val (.d p))) h := (rfl)
@[simp] theorem ev_asg_m : endAsg i (.ob (.mem n)) e h = .ok .next (setC e i (.val (.ob (.mem n)))) h := (rfl)
@[simp] theorem ev_sOwn : sOwn i m e h = (m e h).bind (endOwn i) := (rfl)
@[simp] theorem ev_own : endOwn i (.d (.list ds)) e h = if i < e.length then .ok .next (setC e i (.obj (.lst ds))) h else .stuck := (rfl)
@[simp] theorem ev_sTgt : sTgt t m e h = (m e h).bind (endTgt t) := (rfl)
@[simp] theorem ev_tgt : endTgt t (.d p) e h = tgtK (asgT t p e) h := (rfl)
@[simp] theorem ev_asgT_n : asgT (.nm i) p e = some (setC e i (.val (.d p))) := (rfl)
@[simp] theorem ev_asgT_t {ts : Tgs} : asgT (.tp ts) (.tuple ds) e = asgTs ts ds e := (rfl)
@[simp] theorem ev_asgTs_n : asgTs .nil [] e = some e := (rfl)
@[simp] theorem ev_asgTs_c {ts : Tgs} : asgTs (.cons t ts) (p :: ds) e = (asgT t p e).bind (asgTs ts ds) := by
  simp only [asgTs]; cases asgT t p e <;> rfl
@[simp] theorem ev_sRet : sRet m e h = (m e h).bind endRet := (rfl)
@[simp] theorem ev_ret_d : endRet (.d p) e h = .ok (.ret (.d p)) e h := (rfl)
@[simp] theorem ev_ret_m : endRet (.ob (.mem n)) e h = .ok (.ret (.ob (.mem n))) e h := (rfl)
@[simp] theorem ev_sIf : sIf mt a b e h = (mt e h).bind (endIf a b) := (rfl)
@[simp] theorem ev_if_t : endIf a b true e h = a e h := (rfl)
@[simp] theorem ev_if_f : endIf a b false e h = b e h := (rfl)
@[simp] theorem ev_sBrk : sBrk e h = .ok .brk e h := (rfl)
@[simp] theorem ev_sCont : sCont e h = .ok .cont e h := (rfl)
@[simp] theorem ev_sFor : sFor t mi a e h = (mi e h).bind (forGo (forTurn t a)) := (rfl)
@[simp] theorem ev_forTurn {z : P} : forTurn t a z e h = ftK (asgT t z e) a h := (rfl)
@[simp] theorem ev_for_n {ff : P → M Fl} : forGo ff [] e h = .ok .next e h := (rfl)
@[simp] theorem ev_sSet {mv mo mk : M DV} : sSet mv mo mk e h = (mv e h).bind fun v e h => (mo e h).bind fun o e h => (mk e h).bind fun k e h => endSet v o k e h := (rfl)
@[simp] theorem ev_set : endSet (.d p) (.ob u) (.d q) e h = setK (oc e h u) p u q e h := by
  simp only [endSet]
  generalize oc e h u = o
  cases o with
  | none => rfl
  | some o =>
    cases o with
    | lsv ds => rfl
    | dct kvs => rfl
    | lst ds =>
      simp only [setK]
      cases q with
      | int x => simp only [setKl, setK2] <;> cases ixP ds.length x <;> rfl
      | _ => rfl
@[simp] theorem ev_oc_m : oc e h (.mem n) = h[n]? := (rfl)
@[simp] theorem ev_oc_l : oc e h (.loc i) = ocK (getC e i) := (rfl)
@[simp] theorem ev_setO_m1 : (setO (.mem n) o e h).1 = e := (rfl)
@[simp] theorem ev_setO_m2 : (setO (.mem n) o e h).2 = h.set n o := (rfl)
@[simp] theorem ev_setO_l1 : (setO (.loc i) o e h).1 = setC e i (.obj o) := (rfl)
@[simp] theorem ev_setO_l2 : (setO (.loc i) o e h).2 = h := (rfl)
@[simp] theorem ev_par {o1 o2 : Bool} : sParO o1 o2 i j ma mb e h = (ma e h).bind (endPar1 o1 o2 i j mb) := (rfl)
@[simp] theorem ev_par1 {o1 o2 : Bool} : endPar1 o1 o2 i j mb v e h = parK1 (cel o1 v) o2 i j mb e h := (rfl)
@[simp] theorem ev_par2 {o2 : Bool} {c : Cel} : endPar2 o2 i j c v e h = parK2 (cel o2 v) i j c e h := (rfl)
@[simp] theorem ev_cel_t : cel true (.d (.list ds)) = some (.obj (.lst ds)) := (rfl)
@[simp] theorem ev_cel_f : cel false (.d p) = some (.val (.d p)) := (rfl)
/-! expressions -/
@[simp] theorem ev_mK : mK p e h = .ok (.d p) e h := (rfl)
@[simp] theorem ev_mVar : mVar i e h = varK (getC e i) i e h := (rfl)
@[simp] theorem ev_mFz : mFz i e h = fzK (getC e i) i e h := (rfl)
@[simp] theorem ev_mNil : mNil e h = .ok [] e h := (rfl)
@[simp] theorem ev_mCons : mCons m ms e h = (m e h).bind fun v e h => (ms e h).bind fun vs e h => .ok (v :: vs) e h := (rfl)
@[simp] theorem ev_mOp : mOp f ms e h = (ms e h).bind (opEnd f) := (rfl)
@[simp] theorem ev_opEnd : opEnd f vs e h = opK (looks vs e h) f e h := (rfl)
@[simp] theorem ev_looks_n : looks [] e h = some [] := (rfl)
@[simp] theorem ev_looks_c : looks (v :: vs) e h = consK (look v e h) (looks vs e h) := (rfl)
@[simp] theorem ev_look_d : look (.d p) e h = some p := (rfl)
@[simp] theorem ev_look_o : look (.ob u) e h = lookK (oc e h u) := (rfl)
@[simp] theorem ev_mTup : mTup ms e h = (ms e h).bind endTup := (rfl)
@[simp] theorem ev_mLst : mLst ms e h = (ms e h).bind endLst := (rfl)
@[simp] theorem ev_endTup : endTup vs e h = tupK (pures vs) e h := (rfl)
@[simp] theorem ev_endLst : endLst vs e h = lstK (pures vs) e h := (rfl)
@[simp] theorem ev_pures_n : pures [] = some [] := (rfl)
@[simp] theorem ev_pures_c : pures (.d p :: vs) = (pures vs).map (p :: ·) := by simp only [pures]; cases pures vs <;> rfl
@[simp] theorem ev_mBl : mBl m e h = (m e h).bind endBl := (rfl)
@[simp] theorem ev_endBl {z : Bool} : endBl (.d (.bool z)) e h = .ok z e h := (rfl)
@[simp] theorem ev_mTru : mTru m e h = (m e h).bind endTru := (rfl)
@[simp] theorem ev_endTru : endTru v e h = truK (look v e h) e h := (rfl)
@[simp] theorem ev_truP_b {z : Bool} : truP (.bool z) = some z := (rfl)
@[simp] theorem ev_truP_i : truP (.int x) = some (x != 0) := (rfl)
@[simp] theorem ev_truP_l : truP (.list xs) = some (!xs.isEmpty) := (rfl)
@[simp] theorem ev_truP_t : truP (.tuple xs) = some (!xs.isEmpty) := (rfl)
@[simp] theorem ev_truP_n : truP .none = some false := (rfl)
@[simp] theorem ev_mAnd : mAnd mt mu e h = (mt e h).bind fun b e h => if b then mu e h else .ok false e h := (rfl)
@[simp] theorem ev_mOr : mOr mt mu e h = (mt e h).bind fun b e h => if b then .ok true e h else mu e h := (rfl)
@[simp] theorem ev_mNot : mNot mt e h = (mt e h).bind fun b e h => .ok (!b) e h := (rfl)
@[simp] theorem ev_mVal : mVal mt e h = (mt e h).bind fun b e h => .ok (.d (.bool b)) e h := (rfl)
@[simp] theorem ev_mIte : mIte mt ma mb e h = (mt e h).bind fun b e h => if b then ma e h else mb e h := (rfl)
@[simp] theorem ev_mTrue : mTrue e h = .ok true e h := (rfl)
@[simp] theorem ev_mChain : mChain f g ma mb mc e h = (ma e h).bind fun x e h => (mb e h).bind fun y e h => (opEnd f [x, y] e h).bind (endChain g mc y) := (rfl)
@[simp] theorem ev_chain {z : Bool} : endChain g mc v (.d (.bool z)) e h = if z then (mc e h).bind fun z e h => opEnd g [v, z] e h else .ok (.d (.bool false)) e h := by cases z <;> rfl
@[simp] theorem ev_mCall : mCall F ms e h = (ms e h).bind (endCall F) := (rfl)
@[simp] theorem ev_endCall : endCall F vs e h = callK (vs.all DV.ok) F vs e h := by
  unfold endCall callK
  cases vs.all DV.ok with
  | true => simp only [if_true]; cases F vs h <;> rfl
  | false => rfl
@[simp] theorem ok_d : (DV.d p).ok = true := (rfl)
@[simp] theorem ok_m : (DV.ob (.mem n)).ok = true := (rfl)
@[simp] theorem ok_s {ns : List Int} : (DV.scr ns).ok = true := (rfl)
theorem ev_call {r : DV} {h' : Hh} {e' : Env} (ok : vs.all DV.ok = true) (hF : F vs h = .ok r e' h') (kr : r.ok = true) : endCall F vs e h = .ok r e h' := by
  unfold endCall
  rw [if_pos ok, hF]
  simp only [if_pos kr]
theorem ev_callD {r : P} {h' : Hh} {e' : Env} (ok : vs.all DV.ok = true) (hF : F vs h = .ok (.d r) e' h') : endCall F vs e h = .ok (.d r) e h' := ev_call ok hF rfl
@[simp] theorem ev_mPush : mPush m e h = (m e h).bind endPush := (rfl)
@[simp] theorem ev_push : endPush (.d (.list ds)) e h = .ok (.ob (.mem h.length)) e (h ++ [.lst ds]) := (rfl)
@[simp] theorem ev_mSl {ml mu : M (Option Int)} : mSl m ml mu e h = (m e h).bind fun v e h => (ml e h).bind fun l e h => (mu e h).bind (endSl v l) := (rfl)
@[simp] theorem ev_endSl {l u : Option Int} : endSl v l u e h = slK (look v e h) l u e h := (rfl)
@[simp] theorem ev_mNoP : mNoP e h = .ok none e h := (rfl)
@[simp] theorem ev_mPt : mPt m e h = (m e h).bind endP := (rfl)
@[simp] theorem ev_endP : endP (.d (.int x)) e h = .ok (some x) e h := (rfl)
@[simp] theorem ev_mSeq : mSeq m e h = (m e h).bind endSeq := (rfl)
@[simp] theorem ev_seq_t : endSeq (.d (.tuple ds)) e h = .ok ds e h := (rfl)
@[simp] theorem ev_seq_l : endSeq (.d (.list ds)) e h = .ok ds e h := (rfl)
@[simp] theorem ev_seq_s {z : Str} : endSeq (.d (.str z)) e h = .ok (chars z) e h := (rfl)
@[simp] theorem ev_mMut : mMut fm m ms e h = (m e h).bind fun v e h => mutK (ownL v e h) fm ms e h := (rfl)
@[simp] theorem ev_ownL : ownL (.ob u) e h = ownK (oc e h u) u := (rfl)
@[simp] theorem ev_endMut : endMut fm u vs e h = mutE (oc e h u) (pures vs) fm u e h := (rfl)
@[simp] theorem ev_mLc : mLc own mi fe e h = (mi e h).bind (endLc own fe) := (rfl)
@[simp] theorem ev_mLc2 : mLc2 own mi fe e h = (mi e h).bind (endLc2 own fe) := (rfl)
@[simp] theorem ev_mEl {z : P} : mEl t mt m z e h = elK (asgT t z e) mt m h := (rfl)
@[simp] theorem ev_mEl2 {z : P} : mEl2 t mt mi own fe z e h = el2K (asgT t z e) mt mi own fe h := (rfl)
@[simp] theorem ev_endEl : endEl (.d p) e h = .ok [p] e h := (rfl)
@[simp] theorem ev_rng1 : mRng1 ms e h = (ms e h).bind endRng1 := (rfl)
@[simp] theorem ev_rng2 : mRng2 ms e h = (ms e h).bind endRng2 := (rfl)
theorem ev_endRng1 : endRng1 [.d (.int x)] e h = if -4611686018427387904 ≤ x ∧ x ≤ 16777216 then .ok ((List.range x.toNat).map fun k : Nat => .int k) e h else .stuck := (rfl)
@[simp] theorem ev_zip : mZip ms e h = (ms e h).bind endZip := (rfl)
@[simp] theorem ev_zip_l : endZip [.d (.list xs), .d (.list ds)] e h = .ok ((xs.zip ds).map fun z => .tuple [z.1, z.2]) e h := (rfl)
@[simp] theorem ev_zip_t : endZip [.d (.tuple xs), .d (.tuple ds)] e h = .ok ((xs.zip ds).map fun z => .tuple [z.1, z.2]) e h := (rfl)
@[simp] theorem ev_mRev {mk : M DV} : mRev m mk e h = (m e h).bind fun v e h => (mk e h).bind (endRev v) := (rfl)
@[simp] theorem ev_endRev : endRev v (.d (.int (-1))) e h = revK (look v e h) e h := by
  have k : (-1 : Int) = Int.negSucc 0 := rfl
  rw [k]
  unfold endRev revK
  cases look v e h with
  | none => rfl
  | some p => simp only; cases revP p <;> rfl
@[simp] theorem rev_l : revP (.list ds) = some (.list ds.reverse) := (rfl)
@[simp] theorem rev_t : revP (.tuple ds) = some (.tuple ds.reverse) := (rfl)
@[simp] theorem ev_sCut {mo : M DV} {ml mu : M (Option Int)} : sCut m mo ml mu e h = (m e h).bind fun v e h => (mo e h).bind fun o e h => (ml e h).bind fun l e h => (mu e h).bind fun u e h => endCut v o l u e h := (rfl)
@[simp] theorem ev_endCut : endCut (.d (.list es)) (.ob u) (some x) (some y) e h = cutK (oc e h u) u x y es e h := (rfl)
@[simp] theorem ev_scrLen : mScrLen i e h = scrLK (getC e i) e h := (rfl)
@[simp] theorem ev_scrIx {mk : M DV} : mScrIx i mk e h = (mVar i e h).bind fun v e h => (mk e h).bind (endScr v) := (rfl)
@[simp] theorem ev_endScr {ns : List Int} {j : Int} : endScr (.scr ns) (.d (.int j)) e h = scrK (ixP ns.length j) ns e h := (rfl)
/-! operations -/
@[simp] theorem op_add_i : addP [.int x, .int y] = some (.int (x + y)) := (rfl)
@[simp] theorem op_add_l : addP [.list xs, .list ds] = if xs.length + ds.length ≤ 16777216 then some (.list (xs ++ ds)) else none := (rfl)
@[simp] theorem op_add_t : addP [.tuple xs, .tuple ds] = if xs.length + ds.length ≤ 16777216 then some (.tuple (xs ++ ds)) else none := (rfl)
@[simp] theorem op_sub_i : subP [.int x, .int y] = some (.int (x - y)) := (rfl)
@[simp] theorem op_lt_i : ltP [.int x, .int y] = some (.bool (decide (x < y))) := (rfl)
@[simp] theorem op_le_i : leP [.int x, .int y] = some (.bool (decide (x ≤ y))) := (rfl)
@[simp] theorem op_gt_i : gtP [.int x, .int y] = some (.bool (decide (y < x))) := (rfl)
@[simp] theorem op_ge_i : geP [.int x, .int y] = some (.bool (decide (y ≤ x))) := (rfl)
@[simp] theorem op_neg : negP [.int x] = some (.int (-x)) := (rfl)
@[simp] theorem op_int : intP [.int x] = some (.int x) := (rfl)
@[simp] theorem op_len_l : lenP [.list ds] = some (.int ds.length) := (rfl)
@[simp] theorem op_len_t : lenP [.tuple ds] = some (.int ds.length) := (rfl)
@[simp] theorem op_len_s {z : Str} : lenP [.str z] = some (.int z.length) := (rfl)
@[simp] theorem op_isi {ty : Ty} : isiP ty [p] = some (.bool (isaP ty p)) := (rfl)
@[simp] theorem op_idx_t : idxP [.tuple ds, .int x] = (ixP ds.length x).bind fun j => ds[j]? := (rfl)
@[simp] theorem op_idx_l : idxP [.list ds, .int x] = (ixP ds.length x).bind fun j => ds[j]? := (rfl)
@[simp] theorem op_tuple_l : tupleP [.list ds] = some (.tuple ds) := (rfl)
@[simp] theorem op_tuple_t : tupleP [.tuple ds] = some (.tuple ds) := (rfl)
@[simp] theorem op_list_l : listP [.list ds] = some (.list ds) := (rfl)
@[simp] theorem op_list_t : listP [.tuple ds] = some (.list ds) := (rfl)
@[simp] theorem op_all : allP [.list ds] = (bools ds).map fun bs => .bool (bs.all id) := (rfl)
@[simp] theorem mt_append : appendM ds [p] = some (.none, ds ++ [p]) := (rfl)
@[simp] theorem mt_clear : clearM ds [] = some (.none, []) := (rfl)
@[simp] theorem mt_extend : extendM ds [.list es] = some (.none, ds ++ es) := (rfl)
theorem min_i : minP [.int x, .int y] = some (.int (if y < x then y else x)) := (rfl)
theorem max_i : maxP [.int x, .int y] = some (.int (if y > x then y else x)) := (rfl)
theorem op_mod (k : 0 < y) : modP [.int x, .int y] = some (.int (x % y)) := if_pos k
theorem op_fdiv (k : 0 < y ∧ y < 1073741824) : fdivP [.int x, .int y] = some (.int (x / y)) := if_pos k
@[simp] theorem ev_runF {mm : M Fl} : runF mm n vs h = endF (mm (env0 n vs) h) := (rfl)
@[simp] theorem ev_endF_r : endF (.ok (.ret v) e h) = .ok v [] h := (rfl)
@[simp] theorem ev_endF_n : endF (.ok .next e h) = .ok (.d .none) [] h := (rfl)
@[simp] theorem ev_endF_x : endF (.ex k p e h) = .ex k p [] h := (rfl)
@[simp] theorem wipe_n {e : Env} : wipeE e [] = e := (rfl)
@[simp] theorem wipe_c {e : Env} {v : Nat} {vs : List Nat} : wipeE e (v :: vs) = setC (wipeE e vs) v .no := (rfl)
@[simp] theorem rest_n {e0 e : Env} : restE e0 e [] = e := (rfl)
@[simp] theorem rest_c {e0 e : Env} {v : Nat} {vs : List Nat} : restE e0 e (v :: vs) = restE e0 (setC e v (restK (getC e0 v))) vs := by
  show restE e0 (e.set v (match e0[v]? with | some (.val x) => .val x | _ => .no)) vs = restE e0 (e.set v (match e0[v]? with | some (.val x) => .val x | _ => .no)) vs
  rfl
end
end DL
/-! E2: loops and comprehensions of plain functions. -/
namespace DL
open PySem PySem.Spec L2
variable [WorldC]

def foldO {σ : Type} (step : σ → P → Option σ) : σ → List P → Option σ
  | s, [] => some s
  | s, d :: ds => match step s d with
    | some s' => foldO step s' ds
    | none => none
/-- a loop that changes the store not at all and may return one value -/
theorem for_fold {σ : Type} {f : P → M Fl} {step : σ → P → Option σ} {emb : σ → Env → Prop} {rv : DV} {h : Hh} :
    ∀ (ds : List P) (s : σ) (e : Env), (∀ s, ∀ d ∈ ds, ∀ e, emb s e → (∀ s', step s d = some s' → ∃ e', f d e h = .ok .next e' h ∧ emb s' e') ∧ (step s d = none → ∃ e', f d e h = .ok (.ret rv) e' h)) →
      emb s e → (∀ s', foldO step s ds = some s' → ∃ e', forGo f ds e h = .ok .next e' h ∧ emb s' e') ∧ (foldO step s ds = none → ∃ e', forGo f ds e h = .ok (.ret rv) e' h)
  | [], s, e, _, k => ⟨fun s' q => by cases q; exact ⟨e, rfl, k⟩, fun q => by cases q⟩
  | d :: ds, s, e, H, k => by
    obtain ⟨h1, h2⟩ := H s d List.mem_cons_self e k
    cases c : step s d with
    | none =>
      obtain ⟨e', q⟩ := h2 c
      refine ⟨fun s' z => by simp [foldO, c] at z, fun _ => ⟨e', ?_⟩⟩
      simp only [forGo, q, R.bind_ok, whEnd]
    | some s1 =>
      obtain ⟨e1, q, k1⟩ := h1 s1 c
      obtain ⟨i1, i2⟩ := for_fold ds s1 e1 (fun s d hd => H s d (List.mem_cons_of_mem _ hd)) k1
      have fe : forGo f (d :: ds) e h = forGo f ds e1 h := by simp only [forGo, q, R.bind_ok, whEnd]
      rw [fe]
      refine ⟨fun s' z => i1 s' ?_, fun z => i2 ?_⟩
      · simpa [foldO, c] using z
      · simpa [foldO, c] using z
/-- the parse of a list -/
def parse {α : Type} (g : P → Option α) : List P → Option (List α)
  | [] => some []
  | d :: ds => match g d with
    | some a => match parse g ds with
      | some l => some (a :: l)
      | none => none
    | none => none
theorem parse_c {α : Type} {g : P → Option α} {d : P} {ds : List P} : parse g (d :: ds) = match g d with
  | some a => match parse g ds with
    | some l => some (a :: l)
    | none => none
  | none => none := (rfl)
theorem parse_map {α : Type} {g : P → Option α} {p : α → P} (hp : ∀ d a, g d = some a → d = p a) : ∀ {ds : List P} {l : List α}, parse g ds = some l → ds = l.map p
  | [], _, h => by cases h; rfl
  | d :: ds, l, h => by
    rw [parse_c] at h
    split at h
    · rename_i a ha
      split at h
      · rename_i r hr
        cases h
        rw [hp d a ha, parse_map hp hr]
        rfl
      · cases h
    · cases h
theorem parse_len {α : Type} {g : P → Option α} : ∀ {ds : List P} {l : List α}, parse g ds = some l → ds.length = l.length
  | [], _, h => by cases h; rfl
  | d :: ds, l, h => by
    rw [parse_c] at h
    split at h
    · split at h
      · rename_i r hr
        cases h
        simp [parse_len hr]
      · cases h
    · cases h
theorem parse_all {α : Type} {g : P → Option α} {Q : α → Prop} (hq : ∀ d a, g d = some a → Q a) : ∀ {ds : List P} {l : List α}, parse g ds = some l → ∀ a ∈ l, Q a
  | [], _, h => by cases h; intro a z; cases z
  | d :: ds, l, h => by
    rw [parse_c] at h
    split at h
    · rename_i a ha
      split at h
      · rename_i r hr
        cases h
        intro b hb
        rcases List.mem_cons.mp hb with z | z
        · subst z; exact hq d _ ha
        · exact parse_all hq hr b z
      · cases h
    · cases h
theorem parse_none {α : Type} {g : P → Option α} : ∀ {ds : List P} {d : P}, d ∈ ds → g d = none → parse g ds = none
  | e :: ds, d, hd, n => by
    rw [parse_c]
    rcases List.mem_cons.mp hd with z | z
    · subst z; rw [n]
    · rw [parse_none z n]
      cases g e <;> rfl
/-- a parse as a fold that keeps nothing -/
theorem fold_parse {α : Type} {g : P → Option α} : ∀ (ds : List P), foldO (fun (_ : Unit) d => (g d).map fun _ => ()) () ds = (parse g ds).map fun _ => ()
  | [] => rfl
  | d :: ds => by
    have ih := fold_parse (g := g) ds
    cases c : g d with
    | none => simp [foldO, parse_c, c]
    | some a =>
      simp only [foldO, parse_c, c, Option.map_some]
      rw [ih]
      cases parse g ds <;> rfl
/-- a comprehension whose turns leave all as it is -/
theorem lc_go {own : List Nat} {fe : P → M (List P)} {g : P → List P} {ew : Env} {h : Hh} : ∀ (ds acc : List P), (∀ d ∈ ds, ∃ e1, fe d ew h = .ok (g d) e1 h ∧ wipeE e1 own = ew) → lcGo own fe ds acc ew h = .ok (acc ++ ds.flatMap g) ew h
  | [], acc, _ => by simp [lcGo]
  | d :: ds, acc, H => by
    obtain ⟨e1, q1, q2⟩ := H d List.mem_cons_self
    simp only [lcGo, q1, q2]
    rw [lc_go ds _ fun x hx => H x (List.mem_cons_of_mem _ hx)]
    simp
theorem lc_ok {own : List Nat} {fe : P → M (List P)} (g : P → List P) {ds : List P} {e : Env} (ew : Env) {h : Hh} (hw : wipeE e own = ew) (H : ∀ d ∈ ds, ∃ e1, fe d ew h = .ok (g d) e1 h ∧ wipeE e1 own = ew) : endLc own fe ds e h = .ok (.d (.list (ds.flatMap g))) (restE e ew own) h := by
  unfold endLc
  rw [hw, lc_go ds [] H]
  simp
theorem lc2_ok {own : List Nat} {fe : P → M (List P)} (g : P → List P) {ds : List P} {e : Env} (ew : Env) {h : Hh} (hw : wipeE e own = ew) (H : ∀ d ∈ ds, ∃ e1, fe d ew h = .ok (g d) e1 h ∧ wipeE e1 own = ew) (l : (ds.flatMap g).length ≤ 16777216) : endLc2 own fe ds e h = .ok (.d (.list (ds.flatMap g))) (restE e ew own) h := by
  unfold endLc2
  rw [hw, lc_go ds [] H]
  simp only [List.nil_append, if_pos l]
theorem in_ok {own : List Nat} {fe : P → M (List P)} (g : P → List P) {ds : List P} {e : Env} (ew : Env) {h : Hh} (hw : wipeE e own = ew) (H : ∀ d ∈ ds, ∃ e1, fe d ew h = .ok (g d) e1 h ∧ wipeE e1 own = ew) : inGo own fe ds e h = .ok (ds.flatMap g) ew h := by
  unfold inGo
  rw [hw, lc_go ds [] H]
  simp
@[simp] theorem flat_one {α β : Type} (f : α → β) (l : List α) : (l.flatMap fun x => [f x]) = l.map f := by induction l <;> simp_all [List.flatMap_cons]
theorem flat_if {α β : Type} (b : α → Bool) (f : α → β) (l : List α) : (l.flatMap fun x => if b x then [f x] else []) = (l.filter b).map f := by
  induction l with
  | nil => rfl
  | cons x l ih =>
    rw [List.flatMap_cons, ih, List.filter_cons]
    cases b x <;> rfl
@[simp] theorem bools_map {α : Type} (f : α → Bool) (l : List α) : bools (l.map fun x => .bool (f x)) = some (l.map f) := by
  induction l with
  | nil => rfl
  | cons x l ih => simp [bools, ih]
@[simp] theorem bools_comp {α β : Type} (f : β → Bool) (g : α → β) (l : List α) : bools (l.map ((fun d => PyData.bool (f d)) ∘ g)) = some (l.map fun x => f (g x)) := bools_map (fun x => f (g x)) l
@[simp] theorem op_le_s {x y : Str} : leP [.str x, .str y] = some (.bool (!strLt y x)) := (rfl)
@[simp] theorem op_lt_s {x y : Str} : ltP [.str x, .str y] = some (.bool (strLt x y)) := (rfl)
theorem cut_from {α : Type} (ds : List α) (k : Nat) : cutL ds (some (k : Int)) none = ds.drop k := by
  unfold cutL
  rw [HT.sIx_nat, HT.sIx_none, List.take_of_length_le (by simp)]
  rcases Nat.le_total k ds.length with h | h
  · rw [Nat.min_eq_left h]
  · rw [Nat.min_eq_right h, List.drop_eq_nil_of_le h, List.drop_eq_nil_of_le (Nat.le_refl _)]
theorem cut_to {α : Type} (ds : List α) (k : Nat) : cutL ds none (some (k : Int)) = ds.take k := by
  unfold cutL
  rw [HT.sIx_nat, HT.sIx_none, List.drop_zero, Nat.sub_zero]
  rcases Nat.le_total k ds.length with h | h
  · rw [Nat.min_eq_left h]
  · rw [Nat.min_eq_right h, List.take_of_length_le (Nat.le_refl _), List.take_of_length_le h]
@[simp] theorem cut_1 {α : Type} (ds : List α) : cutL ds (some 1) none = ds.tail := by rw [← List.drop_one]; exact cut_from ds 1
@[simp] theorem cut_2 {α : Type} (ds : List α) : cutL ds (some 2) none = ds.drop 2 := cut_from ds 2
@[simp] theorem cut_t2 {α : Type} (ds : List α) : cutL ds none (some 2) = ds.take 2 := cut_to ds 2
@[simp] theorem cut_t3 {α : Type} (ds : List α) : cutL ds none (some 3) = ds.take 3 := cut_to ds 3
@[simp] theorem ixP_0 {n : Nat} : ixP n 0 = if 0 < n then some 0 else none := by
  unfold ixP
  simp
theorem ixP_k {n : Nat} (k : Nat) : ixP n (k : Int) = if k < n then some k else none := by
  unfold ixP
  rw [if_pos (by omega)]
  by_cases h : k < n
  · rw [if_pos h, if_pos (by omega)]
    simp
  · rw [if_neg h, if_neg (by omega)]
@[simp] theorem ixP_1 {n : Nat} : ixP n 1 = if 1 < n then some 1 else none := ixP_k 1
@[simp] theorem ixP_2 {n : Nat} : ixP n 2 = if 2 < n then some 2 else none := ixP_k 2
@[simp] theorem ixP_3 {n : Nat} : ixP n 3 = if 3 < n then some 3 else none := ixP_k 3
@[simp] theorem ixP_nat {n : Nat} {k : Nat} : ixP n (Int.ofNat k) = if k < n then some k else none := ixP_k k
/-! single signs -/
theorem lt_one (a b : Nat) : strLt ⟨#[a]⟩ ⟨#[b]⟩ = decide (a < b) := by
  unfold strLt
  refine decide_eq_decide.mpr ?_
  show [a] < [b] ↔ a < b
  rw [List.cons_lt_cons_iff]
  simp
theorem in_one (c : Nat) (y : Str) : inStr ⟨#[c]⟩ y = decide (c ∈ y.cps.toList) := PySem.StrLaws.found_one y c
@[simp] theorem op_in_s {x y : Str} : inP [.str x, .str y] = some (.bool (inStr x y)) := (rfl)
@[simp] theorem op_notin_s {x y : Str} : notinP [.str x, .str y] = some (.bool (!inStr x y)) := (rfl)
@[simp] theorem op_slice_l {l u : Option Int} {ds : List P} : sliceP l u (.list ds) = some (.list (cutL ds l u)) := (rfl)
@[simp] theorem op_slice_t {l u : Option Int} {ds : List P} : sliceP l u (.tuple ds) = some (.tuple (cutL ds l u)) := (rfl)
/-! in a list of names -/
theorem depth_str (x : Str) : (PyData.str x).depth ≤ 1 := by simp [PyData.depth]
theorem op_in_names {x : Str} {ds : List P} (n : nods ds = true) : inP [.str x, .list ds] = some (.bool (memP (.str x) ds)) := by
  have := depth_str x
  simp only [inP]
  rw [if_pos (by rw [decide_eq_true (by omega), n]; rfl)]
theorem mem_names (x : Str) (xs : List Str) : memP (.str x) (xs.map PyData.str) = decide (x ∈ xs) := by
  unfold memP
  induction xs with
  | nil => rfl
  | cons y ys ih =>
    simp only [List.map_cons, List.any_cons, ih, List.mem_cons]
    have e : PyData.eqv (.str y) (.str x) = decide (x = y) := by
      simp only [PyData.eqv]
      by_cases q : x = y
      · subst q; simp
      · rw [decide_eq_false q]; simpa using fun z : y = x => q z.symm
    rw [e]
    simp [Bool.decide_or]
@[simp] theorem nod_s {x : Str} : nod (.str x) = true := (rfl)
@[simp] theorem nod_i {x : Int} : nod (.int x) = true := (rfl)
@[simp] theorem nod_b {x : Bool} : nod (.bool x) = true := (rfl)
@[simp] theorem nod_n : nod .none = true := (rfl)
@[simp] theorem nod_t {xs : List P} : nod (.tuple xs) = nods xs := (rfl)
@[simp] theorem nod_l {xs : List P} : nod (.list xs) = nods xs := (rfl)
@[simp] theorem nods_n : nods [] = true := (rfl)
@[simp] theorem nods_c {x : P} {xs : List P} : nods (x :: xs) = (nod x && nods xs) := (rfl)
@[simp] theorem nods_strs (xs : List Str) : nods (xs.map PyData.str) = true := by induction xs <;> simp_all
@[simp] theorem nods_ints (xs : List Int) : nods (xs.map PyData.int) = true := by induction xs <;> simp_all
theorem op_eq_s {p : P} {x : Str} (n : nod p = true) : eqP [p, .str x] = some (.bool (PyData.eqv p (.str x))) := by
  have := depth_str x
  have k : shallow p (.str x) = true := by unfold shallow; rw [decide_eq_true (by omega), n]; rfl
  simp only [eqP, if_pos k]
theorem op_ne_s {p : P} {x : Str} (n : nod p = true) : neP [p, .str x] = some (.bool (!PyData.eqv p (.str x))) := by
  have := depth_str x
  have k : shallow p (.str x) = true := by unfold shallow; rw [decide_eq_true (by omega), n]; rfl
  simp only [neP, if_pos k]
end DL
/-! E3: equations for three targets. -/
namespace DL
open PySem PySem.Spec L2
variable [WorldC]
def par33K (c : Option Cel) (i j l : Nat) (v w : DV) (e : Env) (h : Hh) : R Fl := match c with
  | some b => if v.ok && w.ok && decide (l < e.length) then .ok .next (setC (setC (setC e i (.val v)) j (.val w)) l b) h else .stuck
  | none => .stuck
section
variable {e : Env} {h : Hh} {i j l : Nat} {v w u : DV} {m1 m2 m3 : M DV} {o : Bool} {b : Cel}
@[simp] theorem par33K_s : par33K (some b) i j l v w e h = if v.ok && w.ok && decide (l < e.length) then .ok .next (setC (setC (setC e i (.val v)) j (.val w)) l b) h else .stuck := (rfl)
@[simp] theorem ev_par3 : sPar3 o i j l m1 m2 m3 e h = (m1 e h).bind fun v e h => (m2 e h).bind fun w e h => (m3 e h).bind (endPar33 o i j l v w) := (rfl)
@[simp] theorem ev_par33 : endPar33 o i j l v w u e h = par33K (cel o u) i j l v w e h := by
  unfold endPar33 par33K
  cases cel o u <;> rfl
def tryR (n : Nat) (hs : List (Nat × P)) (r : R Fl) : R Fl := match r with
  | .ok f e h => .ok f e h
  | .ex c p e h => tryK n hs c p e h
  | .stuck => .stuck
variable {n : Nat} {hs : List (Nat × P)} {m : M Fl} {f : Fl} {c : Nat} {p : P} {g : P → M Fl} {x : P} {xs : List P}
@[simp] theorem ev_try : sTry n hs m e h = tryR n hs (m e h) := (rfl)
@[simp] theorem tryR_ok : tryR n hs (.ok f e h) = .ok f e h := (rfl)
@[simp] theorem tryR_ex : tryR n hs (.ex c p e h) = tryK n hs c p e h := (rfl)
@[simp] theorem ev_raise : sRaise c e h = .ex c .none e h := (rfl)
theorem for_c : forGo g (x :: xs) e h = (g x e h).bind (whEnd (forGo g xs)) := (rfl)
@[simp] theorem wh_n {a : M Fl} : whEnd a .next e h = a e h := (rfl)
end
end DL
/-! E4: equations for objects handed on, loops over the store's lists, dict comprehensions. -/
namespace DL
open PySem PySem.Spec L2
variable [WorldC]
section
variable {e : Env} {h : Hh} {i k n : Nat} {t : Tg} {m mk mv : M DV} {a : M Fl} {c : M Bool} {o : DO} {ds all : List P} {own : List Nat} {mi : M (List P)} {fe : P → M (List (P × P))}
def frpK (c : Option Cel) (i : Nat) (e : Env) (h : Hh) : R DV := match c with
  | some (.obj o) => .ok (.ob (.mem h.length)) (setC e i .no) (h ++ [o])
  | _ => .stuck
@[simp] theorem ev_mFrP : mFrP i e h = frpK (getC e i) i e h := (rfl)
@[simp] theorem frpK_o : frpK (some (.obj o)) i e h = .ok (.ob (.mem h.length)) (setC e i .no) (h ++ [o]) := (rfl)
@[simp] theorem ev_sForO : sForO t m a e h = (m e h).bind (endForO t a) := (rfl)
@[simp] theorem ev_endForO : endForO t a (.ob (.mem k)) e h = forOE t a k h[k]? e h := (rfl)
@[simp] theorem ev_forOE : forOE t a k (some (.lst ds)) e h = forOGo (.mem k) ds (forTurn t a) ds e h := (rfl)
theorem whenL_t {r : M Fl} (q : h[k]? = some (.lst all)) : whenL (.mem k) all r e h = r e h := if_pos q
def edK (o : Option Env) (c : M Bool) (mk mv : M DV) (h : Hh) : R (List (P × P)) := match o with
  | some e1 => (c e1 h).bind fun b e h => if b then (mk e h).bind fun k e h => (mv e h).bind (endKV k) else .ok [] e h
  | none => .stuck
@[simp] theorem ev_mDc : mDc own mi fe e h = (mi e h).bind (endDc own fe) := (rfl)
@[simp] theorem ev_mEd {z : P} : mEd t c mk mv z e h = edK (asgT t z e) c mk mv h := (rfl)
@[simp] theorem edK_s {e1 : Env} : edK (some e1) c mk mv h = (c e1 h).bind fun b e h => if b then (mk e h).bind fun k e h => (mv e h).bind (endKV k) else .ok [] e h := (rfl)
@[simp] theorem ev_endKV {p q : P} : endKV (.d p) (.d q) e h = .ok [(p, q)] e h := (rfl)
@[simp] theorem ev_seq_d {kvs : List (P × P)} : endSeq (.d (.dict kvs)) e h = .ok (kvs.map (·.1)) e h := (rfl)
end
/-- a loop over a list of the store, the list standing all the while; a turn may return -/
theorem forO_typR {α : Type} {p : α → P} {f : P → M Fl} {k : Nat} {ds : List P} {I : List α → DL.Env → Hh → Prop} {J : List α → α → DV → Hh → Prop} {all : List α} (st : ∀ done e h, I done e h → h[k]? = some (.lst ds)) : ∀ (l done : List α) (e : DL.Env) (h : Hh), done ++ l = all →
    (∀ done a rest, all = done ++ a :: rest → ∀ e h, I done e h → (∃ e' h', f (p a) e h = .ok .next e' h' ∧ I (done ++ [a]) e' h') ∨ (∃ v e' h', f (p a) e h = .ok (.ret v) e' h' ∧ J done a v h')) → I done e h →
    (∃ e' h', forOGo (.mem k) ds f (l.map p) e h = .ok .next e' h' ∧ I all e' h') ∨ (∃ don a rest v e' h', all = don ++ a :: rest ∧ forOGo (.mem k) ds f (l.map p) e h = .ok (.ret v) e' h' ∧ J don a v h')
  | [], done, e, h, ea, _, i => .inl ⟨e, h, whenL_t (st done e h i), by rw [← ea, List.append_nil]; exact i⟩
  | a :: l, done, e, h, ea, H, i => by
    have w : forOGo (.mem k) ds f ((a :: l).map p) e h = (f (p a) e h).bind (whEnd (forOGo (.mem k) ds f (l.map p))) := whenL_t (st done e h i)
    rw [w]
    rcases H done a l ea.symm e h i with ⟨e1, h1, q, k1⟩ | ⟨v, e1, h1, q, j⟩
    · rw [q]
      exact forO_typR st l (done ++ [a]) e1 h1 (by rw [← ea]; simp) H k1
    · rw [q]
      exact .inr ⟨done, a, l, v, e1, h1, ea.symm, rfl, j⟩
/-- a dict comprehension, a turn giving no entry or one -/
theorem dc_typ {α : Type} {p : α → P} {own : List Nat} {fe : P → M (List (P × P))} (g : α → List (P × P)) (I : List α → List (P × P) → Prop) {l : List α} {e : DL.Env} (ew : DL.Env) {h : Hh} (hw : wipeE e own = ew) (i0 : I [] [])
    (H : ∀ done a rest acc, l = done ++ a :: rest → I done acc → (∃ e1, fe (p a) ew h = .ok (g a) e1 h ∧ wipeE e1 own = ew) ∧ ∃ acc', put1 acc (g a) = some acc' ∧ I (done ++ [a]) acc') : ∃ kvs, endDc own fe (l.map p) e h = .ok (.d (.dict kvs)) (restE e ew own) h ∧ I l kvs := by
  have go : ∀ (r done : List α) (acc : List (P × P)), done ++ r = l → I done acc → ∃ kvs, dcGo own fe (r.map p) acc ew h = .ok kvs ew h ∧ I l kvs := fun r => by
    induction r with
    | nil => intro done acc e i; exact ⟨acc, rfl, by rw [← e, List.append_nil]; exact i⟩
    | cons a r ih =>
      intro done acc e i
      obtain ⟨⟨e1, q1, q2⟩, acc', q3, i'⟩ := H done a r acc e.symm i
      obtain ⟨kvs, q4, i4⟩ := ih (done ++ [a]) acc' (by rw [← e]; simp) i'
      exact ⟨kvs, by simp only [List.map_cons, dcGo, q1, q2, q3]; exact q4, i4⟩
  obtain ⟨kvs, q, i⟩ := go l [] [] rfl i0
  refine ⟨kvs, ?_, i⟩
  unfold endDc
  rw [hw, q]
/-- a list comprehension over a typed list -/
theorem lc_typ {α : Type} {p : α → P} {own : List Nat} {fe : P → M (List P)} (g : α → List P) {l : List α} {e : DL.Env} (ew : DL.Env) {h : Hh} (hw : wipeE e own = ew) (H : ∀ a ∈ l, ∃ e1, fe (p a) ew h = .ok (g a) e1 h ∧ wipeE e1 own = ew) : endLc own fe (l.map p) e h = .ok (.d (.list (l.flatMap g))) (restE e ew own) h := by
  have go : ∀ (l : List α) (acc : List P), (∀ a ∈ l, ∃ e1, fe (p a) ew h = .ok (g a) e1 h ∧ wipeE e1 own = ew) → lcGo own fe (l.map p) acc ew h = .ok (acc ++ l.flatMap g) ew h := fun l => by
    induction l with
    | nil => intro acc _; simp [lcGo]
    | cons a l ih =>
      intro acc H
      obtain ⟨e1, q1, q2⟩ := H a List.mem_cons_self
      simp only [List.map_cons, lcGo, q1, q2]
      rw [ih _ fun x hx => H x (List.mem_cons_of_mem _ hx)]
      simp
  unfold endLc
  rw [hw, go l [] H]
  simp
theorem put1_nil {acc : List (P × P)} : put1 acc [] = some acc := rfl
theorem put1_one {acc : List (P × P)} {k v : P} (ko : keyOk acc k = true) (l : acc.length < 16777216) : put1 acc [(k, v)] = some (dput acc k v) := by
  have := dput_le acc k v
  exact if_pos ⟨ko, show (dput acc k v).length ≤ 16777216 by omega⟩
end DL
/-! G30: dicts as plain data. -/
namespace DL
open PySem PySem.Spec L2
variable [WorldC]
theorem kEq_iff {p q : P} : kEq p q = true ↔ ∃ n, nk p = some n ∧ nk q = some n := by
  unfold kEq
  cases h1 : nk p with
  | none => simp
  | some a =>
    cases h2 : nk q with
    | none => simp
    | some b =>
      simp only [decide_eq_true_eq, Option.some.injEq]
      exact ⟨fun e => ⟨a, rfl, e.symm⟩, fun ⟨n, e1, e2⟩ => e1.trans e2.symm⟩
theorem kEq_tr {p q r : P} (a : kEq p q = true) (b : kEq q r = true) : kEq p r = true := by
  rw [kEq_iff] at *
  obtain ⟨n, a1, a2⟩ := a
  obtain ⟨m, b1, b2⟩ := b
  rw [a2] at b1
  cases b1
  exact ⟨n, a1, b2⟩
theorem kEq_sym {p q : P} (a : kEq p q = true) : kEq q p = true := by
  rw [kEq_iff] at *
  obtain ⟨n, a1, a2⟩ := a
  exact ⟨n, a2, a1⟩
theorem dget_dput (kvs : List (P × P)) (k v k' : P) : dget (dput kvs k v) k' = if kEq k k' = true then some v else dget kvs k' := by
  unfold dput
  by_cases an : (kvs.any fun z => kEq z.1 k) = true
  · rw [if_pos an]
    unfold dget
    have e : (fun z : P × P => kEq z.1 k') ∘ (fun z : P × P => if kEq z.1 k = true then (z.1, v) else z) = fun z => kEq z.1 k' := by
      funext z
      simp only [Function.comp]
      by_cases q : kEq z.1 k = true
      · rw [if_pos q]
      · rw [if_neg q]
    rw [List.find?_map, e]
    cases c : kvs.find? fun z => kEq z.1 k' with
    | none =>
      have no : ¬ kEq k k' = true := fun y => by
        obtain ⟨z, hz, q⟩ := List.any_eq_true.mp an
        have := List.find?_eq_none.mp c z hz
        exact this (kEq_tr q y)
      rw [if_neg no]
      rfl
    | some z =>
      have q := List.find?_some c
      simp only [Option.map_some]
      by_cases y : kEq k k' = true
      · rw [if_pos y, if_pos (kEq_tr q (kEq_sym y))]
      · rw [if_neg y, if_neg fun w => y (kEq_tr (kEq_sym w) q)]
  · rw [if_neg an]
    unfold dget
    rw [List.find?_append]
    by_cases y : kEq k k' = true
    · have c : (kvs.find? fun z => kEq z.1 k') = none := by
        rw [List.find?_eq_none]
        intro z hz q
        exact an (List.any_eq_true.mpr ⟨z, hz, kEq_tr q (kEq_sym y)⟩)
      rw [c, if_pos y]
      simp [y]
    · rw [if_neg y]
      have : (List.find? (fun z : P × P => kEq z.1 k') [(k, v)]) = none := by simp [y]
      rw [this, Option.or_none]
theorem dget_nil (k : P) : dget [] k = none := rfl
theorem dput_len (kvs : List (P × P)) (k v : P) : (dput kvs k v).length ≤ kvs.length + 1 := dput_le kvs k v
/-- the keys of a dict, when one is written -/
theorem dput_keys (kvs : List (P × P)) (k v : P) : (dput kvs k v).map (·.1) = if (kvs.any fun z => kEq z.1 k) = true then kvs.map (·.1) else kvs.map (·.1) ++ [k] := by
  unfold dput
  split
  · rw [List.map_map]
    refine List.map_congr_left fun z _ => ?_
    simp only [Function.comp]
    split <;> rfl
  · simp
theorem dget_some {kvs : List (P × P)} {k v : P} (h : dget kvs k = some v) : ∃ k', (k', v) ∈ kvs ∧ kEq k' k = true := by
  unfold dget at h
  cases c : kvs.find? fun z => kEq z.1 k with
  | none => rw [c] at h; cases h
  | some z =>
    rw [c] at h
    cases h
    exact ⟨z.1, List.mem_of_find?_eq_some c, by have := List.find?_some c; exact this⟩
theorem dget_isSome (kvs : List (P × P)) (k : P) : (dget kvs k).isSome = kvs.any fun z => kEq z.1 k := by
  unfold dget
  rw [Option.isSome_map, Bool.eq_iff_iff, List.find?_isSome, List.any_eq_true]
/-- keys that are tuples, texts -/
def TupK (kvs : List (P × P)) : Prop := ∀ z ∈ kvs, ∃ ds, z.1 = .tuple ds
def StrK (kvs : List (P × P)) : Prop := ∀ z ∈ kvs, ∃ x, z.1 = .str x
theorem TupK.nil : TupK [] := fun _ h => by cases h
theorem StrK.nil : StrK [] := fun _ h => by cases h
theorem TupK.put {kvs : List (P × P)} {ds : List P} {v : P} (h : TupK kvs) : TupK (dput kvs (.tuple ds) v) := by
  unfold dput
  split
  · intro z hz
    obtain ⟨y, hy, rfl⟩ := List.mem_map.mp hz
    obtain ⟨es, e⟩ := h y hy
    split
    · exact ⟨es, e⟩
    · exact ⟨es, e⟩
  · intro z hz
    rcases List.mem_append.mp hz with hz | hz
    · exact h z hz
    · rw [List.mem_singleton.mp hz]; exact ⟨ds, rfl⟩
theorem StrK.put {kvs : List (P × P)} {x : Str} {v : P} (h : StrK kvs) : StrK (dput kvs (.str x) v) := by
  unfold dput
  split
  · intro z hz
    obtain ⟨y, hy, rfl⟩ := List.mem_map.mp hz
    obtain ⟨es, e⟩ := h y hy
    split
    · exact ⟨es, e⟩
    · exact ⟨es, e⟩
  · intro z hz
    rcases List.mem_append.mp hz with hz | hz
    · exact h z hz
    · rw [List.mem_singleton.mp hz]; exact ⟨x, rfl⟩
theorem keyOk_t {kvs : List (P × P)} {ds : List P} (t : TupK kvs) (d : depth8 (.tuple ds) = true) : keyOk kvs (.tuple ds) = true := by
  unfold keyOk
  rw [d]
  cases kvs with
  | nil => rfl
  | cons z r =>
    obtain ⟨es, e⟩ := t z List.mem_cons_self
    obtain ⟨a, b⟩ := z
    simp only at e
    subst e
    rfl
theorem keyOk_s {kvs : List (P × P)} {x : Str} (t : StrK kvs) (d : PyData.strOk x = true) (l : x.length ≤ 16777216) : keyOk kvs (.str x) = true := by
  unfold keyOk
  simp only
  rw [d, decide_eq_true l]
  cases kvs with
  | nil => rfl
  | cons z r =>
    obtain ⟨es, e⟩ := t z List.mem_cons_self
    obtain ⟨a, b⟩ := z
    simp only at e
    subst e
    rfl
/-! keys -/
theorem nks_ints (l : List Int) : nks (l.map PyData.int) = some (l.map NestedKey.num) := by
  induction l with
  | nil => rfl
  | cons x l ih => simp only [List.map_cons, nks, nk, ih]
theorem nk_ints (l : List Int) : nk (.tuple (l.map PyData.int)) = some (.tup (l.map NestedKey.num)) := by simp only [nk, nks_ints, Option.map_some]
theorem num_inj : ∀ {a b : List Int}, a.map NestedKey.num = b.map NestedKey.num → a = b := fun {a b} h => (List.map_inj_right (f := NestedKey.num) (fun x y e => by cases e; rfl)).mp h
theorem kEq_ints (a b : List Int) : kEq (.tuple (a.map PyData.int)) (.tuple (b.map PyData.int)) = decide (a = b) := by
  unfold kEq
  simp only [nk_ints]
  rw [decide_eq_decide]
  exact ⟨fun e => num_inj (NestedKey.tup.inj e), fun e => by rw [e]⟩
theorem dep_nums (l : List Int) : NestedKey.depthAll (l.map NestedKey.num) ≤ 1 := by
  induction l with
  | nil => simp [NestedKey.depthAll]
  | cons x l ih => simp only [List.map_cons, NestedKey.depthAll, NestedKey.depth]; omega
theorem d8_ints (l : List Int) : depth8 (.tuple (l.map PyData.int)) = true := by
  unfold depth8
  rw [nk_ints]
  have := dep_nums l
  exact decide_eq_true (by simp only [NestedKey.depth]; omega)
theorem nk_is (l : List Int) (x : Str) : nk (.tuple [.tuple (l.map PyData.int), .str x]) = some (.tup [.tup (l.map NestedKey.num), .text x]) := by simp only [nk, nks, nks_ints, Option.map_some]
theorem d8_is (l : List Int) (x : Str) : depth8 (.tuple [.tuple (l.map PyData.int), .str x]) = true := by
  unfold depth8
  rw [nk_is]
  have := dep_nums l
  exact decide_eq_true (by simp only [NestedKey.depth, NestedKey.depthAll]; omega)
theorem kEq_is (a b : List Int) (x y : Str) : kEq (.tuple [.tuple (a.map PyData.int), .str x]) (.tuple [.tuple (b.map PyData.int), .str y]) = decide (a = b ∧ x = y) := by
  unfold kEq
  simp only [nk_is]
  rw [decide_eq_decide]
  constructor
  · intro e
    simp only [NestedKey.tup.injEq, List.cons.injEq, NestedKey.text.injEq, and_true] at e
    exact ⟨num_inj e.1, e.2⟩
  · rintro ⟨rfl, rfl⟩
    rfl
theorem nk_ss (x y : Str) : nk (.tuple [.str x, .str y]) = some (.tup [.text x, .text y]) := by simp only [nk, nks, Option.map_some]
theorem d8_ss (x y : Str) : depth8 (.tuple [.str x, .str y]) = true := by
  unfold depth8
  rw [nk_ss]
  simp [NestedKey.depth, NestedKey.depthAll]
theorem kEq_ss (a b x y : Str) : kEq (.tuple [.str a, .str x]) (.tuple [.str b, .str y]) = decide (a = b ∧ x = y) := by
  unfold kEq
  simp only [nk_ss]
  rw [decide_eq_decide]
  simp
end DL
/-! G31: sorted lists. -/
namespace DL
open PySem PySem.Spec L2
variable [WorldC]
theorem strLt_iff {x y : Str} : strLt x y = true ↔ x.cps.toList < y.cps.toList := by simp [strLt]
/-- two sorted lists with the same members -/
theorem sorted_uniq {α : Type} {le : α → α → Bool} : ∀ {l m : List α}, l.Perm m → l.Pairwise (fun a b => le a b = true) → m.Pairwise (fun a b => le a b = true) → (∀ a ∈ m, ∀ b ∈ m, le a b = true → le b a = true → a = b) → l = m
  | [], m, p, _, _, _ => (List.nil_perm.mp p).symm
  | a :: l, [], p, _, _, _ => absurd p.length_eq (by simp)
  | a :: l, b :: m, p, s1, s2, an => by
    obtain ⟨h1, s1'⟩ := List.pairwise_cons.mp s1
    obtain ⟨h2, s2'⟩ := List.pairwise_cons.mp s2
    have ma : a ∈ b :: m := p.mem_iff.mp List.mem_cons_self
    have mb : b ∈ a :: l := p.mem_iff.mpr List.mem_cons_self
    have e : a = b := by
      rcases List.mem_cons.mp ma with z | z
      · exact z
      · rcases List.mem_cons.mp mb with w | w
        · exact w.symm
        · exact an a ma b List.mem_cons_self (h1 b w) (h2 a z)
    subst e
    rw [sorted_uniq ((List.perm_cons a).mp p) s1' s2' fun x hx y hy => an x (List.mem_cons_of_mem _ hx) y (List.mem_cons_of_mem _ hy)]
/-! ### pairs of texts -/
def ssP (z : Str × Str) : P := .tuple [.str z.1, .str z.2]
def ssLe (z w : Str × Str) : Bool := leD (ssP z) (ssP w)
theorem ssLe_eq (z w : Str × Str) : ssLe z w = !(if w.1 = z.1 then strLt w.2 z.2 else strLt w.1 z.1) := by
  have e1 : ssLe z w = !PySem.W.dataLt (ssP w) (ssP z) := rfl
  have al : ∀ x y : Str, PySem.W.alike (.str x) (.str y) = true := fun _ _ => rfl
  rw [e1]
  unfold ssP
  rw [PySem.W.dataLt_pair (al _ _) (al _ _), PySem.W.dataLt_str, PySem.W.dataLt_str]
  have ev : ∀ x y : Str, PyData.eqv (.str x) (.str y) = decide (x = y) := fun x y => by
    simp only [PyData.eqv]
    by_cases q : x = y
    · subst q; simp
    · rw [decide_eq_false q]; simpa using q
  rw [ev, ev]
  by_cases k : w.1 = z.1
  · simp only [k, decide_true, if_true]
    by_cases k2 : w.2 = z.2
    · simp [k2, strLt_irrefl]
    · simp [k2, strLt]
  · simp [k, strLt]
theorem ss_sortable (l : List (Str × Str)) : sortable (l.map ssP) = true := by
  unfold sortable allAlike
  simp only [Bool.and_eq_true, Bool.or_eq_true, List.all_eq_true, decide_eq_true_eq]
  refine ⟨⟨fun d hd d' hd' => ?_, .inl fun d hd => ?_⟩, fun d hd => ?_⟩
  · obtain ⟨a, _, rfl⟩ := List.mem_map.mp hd
    obtain ⟨b, _, rfl⟩ := List.mem_map.mp hd'
    rfl
  · obtain ⟨a, _, rfl⟩ := List.mem_map.mp hd
    rfl
  · obtain ⟨a, _, rfl⟩ := List.mem_map.mp hd
    simp [ssP, PyData.depth, PyData.depthAll]
theorem ss_sorted (l : List (Str × Str)) : sortedP [.list (l.map ssP)] = some (.list ((l.mergeSort ssLe).map ssP)) := by
  have e : (l.map ssP).mergeSort leD = (l.mergeSort ssLe).map ssP := (List.map_mergeSort (f := ssP) (s := leD) (r := ssLe) fun a _ b _ => rfl).symm
  simp only [sortedP, ss_sortable, if_true, e]
theorem strLt_asymm {x y : Str} (h : strLt x y = true) : strLt y x = false := by
  cases k : strLt y x with
  | false => rfl
  | true => have := strLt_trans h k; rw [strLt_irrefl] at this; cases this
theorem ssLe_anti {z w : Str × Str} (h1 : ssLe z w = true) (h2 : ssLe w z = true) : z = w := by
  rw [ssLe_eq] at h1 h2
  by_cases k : w.1 = z.1
  · simp only [k, if_true, Bool.not_eq_true'] at h1 h2
    refine Prod.ext k.symm ?_
    by_cases k2 : z.2 = w.2
    · exact k2
    · rw [strLt_total (fun y => k2 y.symm) h1] at h2; cases h2
  · have k' : ¬ z.1 = w.1 := fun y => k y.symm
    simp only [k, k', if_false, Bool.not_eq_true'] at h1 h2
    rw [strLt_total (fun y => k y) h1] at h2; cases h2
theorem ssLe_total (z w : Str × Str) : (ssLe z w || ssLe w z) = true := by
  rw [ssLe_eq, ssLe_eq]
  by_cases k : w.1 = z.1
  · simp only [k, if_true]
    cases q : strLt w.2 z.2 with
    | false => rfl
    | true => rw [strLt_asymm q]; rfl
  · have k' : ¬ z.1 = w.1 := fun y => k y.symm
    simp only [k, k', if_false]
    cases q : strLt w.1 z.1 with
    | false => rfl
    | true => rw [strLt_asymm q]; rfl
theorem ssLe_iff (z w : Str × Str) : ssLe z w = true ↔ strLt z.1 w.1 = true ∨ (z.1 = w.1 ∧ strLt w.2 z.2 = false) := by
  rw [ssLe_eq]
  by_cases k : w.1 = z.1
  · simp only [k, if_true, strLt_irrefl, Bool.not_eq_true', Bool.false_eq_true, false_or, true_and]
  · have k' : ¬ z.1 = w.1 := fun y => k y.symm
    simp only [k, k', if_false, Bool.not_eq_true', false_and, or_false]
    constructor
    · exact fun q => strLt_total (fun y => k y) q
    · exact strLt_asymm
theorem ssLe_trans (a b c : Str × Str) (h1 : ssLe a b = true) (h2 : ssLe b c = true) : ssLe a c = true := by
  rw [ssLe_iff] at *
  rcases h1 with h1 | ⟨e1, h1⟩
  · rcases h2 with h2 | ⟨e2, h2⟩
    · exact .inl (strLt_trans h1 h2)
    · exact .inl (e2 ▸ h1)
  · rcases h2 with h2 | ⟨e2, h2⟩
    · exact .inl (e1 ▸ h2)
    · refine .inr ⟨e1.trans e2, ?_⟩
      cases q : strLt c.2 a.2 with
      | false => rfl
      | true =>
        by_cases k : b.2 = a.2
        · rw [← k] at q; rw [q] at h2; cases h2
        · have := strLt_trans q (strLt_total k h1)
          rw [this] at h2; cases h2
theorem ss_sort_eq {l m : List (Str × Str)} (p : l.Perm m) (so : m.Pairwise fun a b => ssLe a b = true) : l.mergeSort ssLe = m :=
  sorted_uniq ((List.mergeSort_perm l ssLe).trans p) (List.pairwise_mergeSort (le := ssLe) ssLe_trans ssLe_total l) so fun a _ b _ => ssLe_anti
end DL
namespace K52
open PySem PySem.Spec L2 DL
variable [WorldC]
/-! ### what the plain functions say -/
def isInt (v : P) (lo hi : Int) : Bool := match v with
  | .int i => decide (lo ≤ i) && decide (i ≤ hi)
  | _ => false
def nmS (x : Str) : Bool := decide (1 ≤ x.length) && decide (x.length ≤ 8) && x.cps.toList.all fun c => decide (97 ≤ c) && decide (c ≤ 122)
def isNm (v : P) : Bool := match v with
  | .str x => nmS x
  | _ => false
def isTp (v : P) (lo hi : Int) : Bool := match v with
  | .tuple ds => decide (lo ≤ ds.length) && decide ((ds.length : Int) ≤ hi)
  | _ => false
def isOf (v : P) (xs : List Str) : Bool := match v with
  | .str x => decide (x ∈ xs)
  | _ => false
def rising (xs : List Str) : Bool := (xs.zip xs.tail).all fun z => strLt z.1 z.2
theorem f_is_integer (v : P) (lo hi : Int) (h : Hh) : F_is_integer [.d v, .d (.int lo), .d (.int hi)] h = .ok (.d (.bool (isInt v lo hi))) [] h := by
  cases v with
  | int i => by_cases h1 : lo ≤ i <;> by_cases h2 : i ≤ hi <;> simp [F_is_integer, m_is_integer, env0, isInt, isaP, h1, h2]
  | _ => simp [F_is_integer, m_is_integer, env0, isInt, isaP]
theorem str_a : ("a" : Str) = ⟨#[97]⟩ := by decide +kernel
theorem str_z : ("z" : Str) = ⟨#[122]⟩ := by decide +kernel
theorem all_name (x : Str) : (chars x).all (fun d => match d with | .str y => !strLt y "a" && !strLt "z" y | _ => false) = x.cps.toList.all fun c => decide (97 ≤ c) && decide (c ≤ 122) := by
  unfold chars
  rw [List.all_map]
  congr 1
  funext c
  simp only [Function.comp, str_a, str_z, lt_one]
  by_cases h1 : c < 97
  · have h2 : ¬ 97 ≤ c := by omega
    simp [h1, h2]
  · have h2 : 97 ≤ c := by omega
    by_cases h3 : c ≤ 122
    · have h4 : ¬ 122 < c := by omega
      simp [h1, h2, h3, h4]
    · have h4 : 122 < c := by omega
      simp [h1, h2, h3, h4]
theorem f_is_name (v : P) (h : Hh) : F_is_name [.d v] h = .ok (.d (.bool (isNm v))) [] h := by
  cases v with
  | str x =>
    by_cases h1 : (1 : Int) ≤ x.length
    · by_cases h2 : (x.length : Int) ≤ 8
      · have h1' : 1 ≤ x.length := by omega
        have h2' : x.length ≤ 8 := by omega
        have lc := lc_ok (own := [1, 2]) (fe := l_is_name_1) (fun d => [.bool (match d with | .str y => !strLt y "a" && !strLt "z" y | _ => false)]) (ds := chars x) (e := [.val (.d (.str x)), .no, .no]) [.val (.d (.str x)), .no, .no] (h := h) rfl (fun d hd => by
          obtain ⟨c, _, rfl⟩ := List.mem_map.mp hd
          by_cases k : strLt ⟨#[c]⟩ "a" = true
          · refine ⟨[.val (.d (.str x)), .no, .val (.d (.str ⟨#[c]⟩))], ?_, rfl⟩
            simp [l_is_name_1, k]
          · refine ⟨[.val (.d (.str x)), .no, .val (.d (.str ⟨#[c]⟩))], ?_, rfl⟩
            simp [l_is_name_1, k])
        rw [flat_one] at lc
        simp [F_is_name, m_is_name, env0, isNm, isaP, h1, h2, lc]
        rw [all_name, nmS]
        simp [h1', h2']
      · have h2' : ¬ x.length ≤ 8 := by omega
        simp [F_is_name, m_is_name, env0, isNm, isaP, h1, h2, nmS, h2']
    · have h1' : ¬ 1 ≤ x.length := by omega
      simp [F_is_name, m_is_name, env0, isNm, isaP, h1, nmS, h1']
  | _ => simp [F_is_name, m_is_name, env0, isNm, isaP]
theorem f_is_one_of (v : P) (xs : List Str) (h : Hh) : F_is_one_of [.d v, .d (.list (xs.map .str))] h = .ok (.d (.bool (isOf v xs))) [] h := by
  cases v with
  | str x => simp [F_is_one_of, m_is_one_of, env0, isOf, isaP, op_in_names (nods_strs _), mem_names]
  | _ => simp [F_is_one_of, m_is_one_of, env0, isOf, isaP]
theorem f_is_tuple (v : P) (lo hi : Int) (h : Hh) : F_is_tuple [.d v, .d (.int lo), .d (.int hi)] h = .ok (.d (.bool (isTp v lo hi))) [] h := by
  cases v with
  | tuple ds => by_cases h1 : lo ≤ ds.length <;> by_cases h2 : (ds.length : Int) ≤ hi <;> simp [F_is_tuple, m_is_tuple, env0, isTp, isaP, h1, h2]
  | _ => simp [F_is_tuple, m_is_tuple, env0, isTp, isaP]
theorem zip_strs (xs : List Str) : ((xs.map PyData.str).zip (xs.map PyData.str).tail).map (fun z => PyData.tuple [z.1, z.2]) = (xs.zip xs.tail).map fun z => .tuple [.str z.1, .str z.2] := by
  rw [← List.map_tail, List.zip_map]
  simp [List.map_map, Function.comp]
theorem rise_lc (v : P) (zs : List (Str × Str)) (h : Hh) : endLc [1, 2, 3] l_is_rising_1 (zs.map fun z => .tuple [.str z.1, .str z.2]) [.val (.d v), .no, .no, .no] h = .ok (.d (.list (zs.map fun z => .bool (strLt z.1 z.2)))) [.val (.d v), .no, .no, .no] h := by
  have lc := lc_ok (own := [1, 2, 3]) (fe := l_is_rising_1) (fun d => [.bool (match d with | .tuple [.str x, .str y] => strLt x y | _ => false)]) (ds := zs.map fun z => .tuple [.str z.1, .str z.2]) (e := [.val (.d v), .no, .no, .no]) [.val (.d v), .no, .no, .no] (h := h) rfl (fun d hd => by
    obtain ⟨z, _, rfl⟩ := List.mem_map.mp hd
    exact ⟨[.val (.d v), .no, .val (.d (.str z.1)), .val (.d (.str z.2))], by simp [l_is_rising_1], rfl⟩)
  rw [lc, flat_one, List.map_map]
  rfl
theorem f_is_rising_l (xs : List Str) (h : Hh) : F_is_rising [.d (.list (xs.map .str))] h = .ok (.d (.bool (rising xs))) [] h := by
  simp [F_is_rising, m_is_rising, env0, zip_strs, rise_lc, rising, List.all_map, Function.comp]
theorem f_is_rising_t (xs : List Str) (h : Hh) : F_is_rising [.d (.tuple (xs.map .str))] h = .ok (.d (.bool (rising xs))) [] h := by
  simp [F_is_rising, m_is_rising, env0, zip_strs, rise_lc, rising, List.all_map, Function.comp]

/-! ### fields -/
structure Fd where
  nm : Str
  lo : Int
  hi : Int
def Fd.p (f : Fd) : P := .tuple [.str f.nm, .int f.lo, .int f.hi]
def fdOk (x : Str) (lo hi : Int) : Bool := nmS x && isInt (.int lo) (-20) 20 && isInt (.int hi) lo 20
def itemF (v : P) : Option Fd := match v with
  | .tuple [.str x, .int lo, .int hi] => if fdOk x lo hi then some ⟨x, lo, hi⟩ else none
  | _ => none
theorem itemF_p {v : P} {f : Fd} (h : itemF v = some f) : v = f.p ∧ fdOk f.nm f.lo f.hi = true := by
  unfold itemF at h
  split at h
  · split at h
    · rename_i k; cases h; exact ⟨rfl, k⟩
    · cases h
  · cases h
def putMany (v : P) (many : Int) (e : DL.Env) : Prop := ∃ c2 c3, e = [.val (.d v), .val (.d (.int many)), c2, c3]
theorem fields_turn (v d : P) (many : Int) (c2 c3 : Cel) (h : Hh) : (∀ f, itemF d = some f → forTurn (.nm 2) (b_is_fields_1 F_is_tuple F_is_name F_is_integer F_is_rising) d [.val (.d v), .val (.d (.int many)), c2, c3] h = .ok .next [.val (.d v), .val (.d (.int (many * (f.hi - f.lo + 1)))), .val (.d d), c3] h) ∧
    (itemF d = none → ∃ e', forTurn (.nm 2) (b_is_fields_1 F_is_tuple F_is_name F_is_integer F_is_rising) d [.val (.d v), .val (.d (.int many)), c2, c3] h = .ok (.ret (.d (.bool false))) e' h) := by
  have ret : ∀ {r : DL.R Fl}, (∃ e', r = .ok (.ret (.d (.bool false))) e' h) → itemF d = none → (∀ f, itemF d = some f → r = .ok .next [.val (.d v), .val (.d (.int (many * (f.hi - f.lo + 1)))), .val (.d d), c3] h) ∧ (itemF d = none → ∃ e', r = .ok (.ret (.d (.bool false))) e' h) := fun hr n => ⟨fun f q => (by rw [n] at q; cases q), fun _ => hr⟩
  cases d with
  | tuple ds =>
    match ds with
    | [] => exact ret ⟨_, by simp [b_is_fields_1, f_is_tuple, isTp]; rfl⟩ (by simp [itemF])
    | [_] => exact ret ⟨_, by simp [b_is_fields_1, f_is_tuple, isTp]; rfl⟩ (by simp [itemF])
    | [_, _] => exact ret ⟨_, by simp [b_is_fields_1, f_is_tuple, isTp]; rfl⟩ (by simp [itemF])
    | _ :: _ :: _ :: _ :: r => exact ret ⟨_, by simp [b_is_fields_1, f_is_tuple, isTp, show ¬ ((r.length : Int) + 1 + 1 + 1 + 1 ≤ 3) by omega]; rfl⟩ (by simp [itemF])
    | [a, b, c] =>
      cases a with
      | str x =>
        by_cases hx : nmS x = true
        case neg => exact ret ⟨_, by simp [b_is_fields_1, f_is_tuple, isTp, f_is_name, isNm, hx]; rfl⟩ (by cases b <;> cases c <;> simp [itemF, fdOk, hx])
        cases b with
        | int lo =>
          by_cases hl : isInt (.int lo) (-20) 20 = true
          case neg => exact ret ⟨_, by simp [b_is_fields_1, f_is_tuple, isTp, f_is_name, isNm, hx, f_is_integer, hl]; rfl⟩ (by cases c <;> simp [itemF, fdOk, hl])
          cases c with
          | int hi =>
            by_cases hh : isInt (.int hi) lo 20 = true
            case neg => exact ret ⟨_, by simp [b_is_fields_1, f_is_tuple, isTp, f_is_name, isNm, hx, f_is_integer, hl, hh]; rfl⟩ (by simp [itemF, fdOk, hh])
            refine ⟨fun f q => ?_, fun q => by simp [itemF, fdOk, hx, hl, hh] at q⟩
            have e : f = ⟨x, lo, hi⟩ := by simp [itemF, fdOk, hx, hl, hh] at q; exact q.symm
            subst e
            have k1 : -20 ≤ lo ∧ lo ≤ 20 := by simpa [isInt] using hl
            have k2 : lo ≤ hi ∧ hi ≤ 20 := by simpa [isInt] using hh
            have g : mulP [.int many, .int (hi - lo + 1)] = some (.int (many * (hi - lo + 1))) := if_pos (.inr (by omega))
            simp [b_is_fields_1, f_is_tuple, isTp, f_is_name, isNm, hx, f_is_integer, hl, hh, g]
          | _ => exact ret ⟨_, by simp [b_is_fields_1, f_is_tuple, isTp, f_is_name, isNm, hx, f_is_integer, hl, isInt]; rfl⟩ (by simp [itemF])
        | _ => exact ret ⟨_, by simp [b_is_fields_1, f_is_tuple, isTp, f_is_name, isNm, hx, f_is_integer, isInt]; rfl⟩ (by simp [itemF])
      | _ => exact ret ⟨_, by simp [b_is_fields_1, f_is_tuple, isTp, f_is_name, isNm]; rfl⟩ (by simp [itemF])
  | _ => exact ret ⟨_, by simp [b_is_fields_1, f_is_tuple, isTp]; rfl⟩ (by simp [itemF])

def it0 : P → P
  | .tuple (x :: _) => x
  | _ => .none
def wd (f : Fd) : Int := f.hi - f.lo + 1
def stepF (m : Int) (d : P) : Option Int := (itemF d).map fun f => m * wd f
theorem fold_stepF : ∀ (ds : List P) (m : Int), foldO stepF m ds = (parse itemF ds).map fun fs => fs.foldl (fun m f => m * wd f) m
  | [], m => rfl
  | d :: ds, m => by
    cases c : itemF d with
    | none => simp [foldO, parse, stepF, c]
    | some f =>
      have e : foldO stepF m (d :: ds) = foldO stepF (m * wd f) ds := by simp [foldO, stepF, c]
      rw [e, fold_stepF ds, parse_c, c]
      cases parse itemF ds <;> rfl
def manyF (fs : List Fd) : Int := fs.foldl (fun m f => m * wd f) 1
def fdsOk (fs : List Fd) : Bool := decide (manyF fs ≤ 60) && rising (fs.map Fd.nm)
def fieldsO (v : P) : Option (List Fd) := match v with
  | .tuple ds => if isTp v 1 3 then (match parse itemF ds with
    | some fs => if fdsOk fs then some fs else none
    | none => none) else none
  | _ => none
theorem fields_loop (v : P) (ds : List P) (h : Hh) (e : DL.Env) (k : putMany v 1 e) : (∀ fs, parse itemF ds = some fs → ∃ e', forGo (forTurn (.nm 2) (b_is_fields_1 F_is_tuple F_is_name F_is_integer F_is_rising)) ds e h = .ok .next e' h ∧ putMany v (manyF fs) e') ∧
    (parse itemF ds = none → ∃ e', forGo (forTurn (.nm 2) (b_is_fields_1 F_is_tuple F_is_name F_is_integer F_is_rising)) ds e h = .ok (.ret (.d (.bool false))) e' h) := by
  obtain ⟨i1, i2⟩ := for_fold (f := forTurn (.nm 2) (b_is_fields_1 F_is_tuple F_is_name F_is_integer F_is_rising)) (step := stepF) (emb := fun m e => putMany v m e) (rv := .d (.bool false)) (h := h) ds 1 e (fun m d _ e ⟨c2, c3, ke⟩ => by
    subst ke
    obtain ⟨t1, t2⟩ := fields_turn v d m c2 c3 h
    refine ⟨fun m' q => ?_, fun q => t2 (by unfold stepF at q; cases c : itemF d <;> simp_all)⟩
    unfold stepF at q
    cases c : itemF d with
    | none => rw [c] at q; cases q
    | some f =>
      rw [c] at q
      cases q
      exact ⟨_, t1 f c, _, _, rfl⟩) k
  rw [fold_stepF] at i1 i2
  refine ⟨fun fs q => i1 _ (by rw [q]; rfl), fun q => i2 (by rw [q]; rfl)⟩
theorem fd_p {d : P} {f : Fd} (h : itemF d = some f) : d = f.p := (itemF_p h).1
theorem f_is_fields (v : P) (h : Hh) : F_is_fields [.d v] h = .ok (.d (.bool (fieldsO v).isSome)) [] h := by
  by_cases ht : isTp v 1 3 = true
  case neg =>
    have e : fieldsO v = none := by unfold fieldsO; cases v <;> simp [ht]
    simp [F_is_fields, m_is_fields, env0, f_is_tuple, ht, e]
  cases v with
  | tuple ds =>
    obtain ⟨i1, i2⟩ := fields_loop (.tuple ds) ds h [.val (.d (.tuple ds)), .val (.d (.int 1)), .no, .no] ⟨_, _, rfl⟩
    cases c : parse itemF ds with
    | none =>
      obtain ⟨e', q⟩ := i2 c
      simp [F_is_fields, m_is_fields, env0, f_is_tuple, ht, q, fieldsO, c]
    | some fs =>
      obtain ⟨e', q, c2, c3, rfl⟩ := i1 fs c
      have hds := parse_map (fun d a => fd_p) c
      have lc := lc_ok (own := [3, 2]) (fe := l_is_fields_1 F_is_tuple F_is_name F_is_integer F_is_rising) (fun d => [it0 d]) (ds := ds) (e := [.val (.d (.tuple ds)), .val (.d (.int (manyF fs))), c2, c3]) [.val (.d (.tuple ds)), .val (.d (.int (manyF fs))), .no, .no] (h := h) rfl (fun d hd => by
        rw [hds] at hd
        obtain ⟨f, _, rfl⟩ := List.mem_map.mp hd
        exact ⟨[.val (.d (.tuple ds)), .val (.d (.int (manyF fs))), .val (.d f.p), .no], by simp [l_is_fields_1, Fd.p, it0], rfl⟩)
      have names : ds.map it0 = (fs.map Fd.nm).map .str := by
        rw [hds, List.map_map, List.map_map]
        rfl
      rw [flat_one, names] at lc
      by_cases k : manyF fs ≤ 60
      · simp [F_is_fields, m_is_fields, env0, f_is_tuple, ht, q, fieldsO, c, k, lc]
        have r := f_is_rising_l (fs.map Fd.nm) h
        rw [List.map_map] at r
        rw [r]
        by_cases k2 : rising (fs.map Fd.nm) = true <;> simp [fdsOk, k, k2]
      · simp [F_is_fields, m_is_fields, env0, f_is_tuple, ht, q, fieldsO, c, k, fdsOk]
  | _ => cases ht

/-! ### states -/
def stB (fs : List Fd) (v : P) : Bool := match v with
  | .tuple ds => isTp v fs.length fs.length && (ds.zip fs).all fun z => isInt z.1 z.2.lo z.2.hi
  | _ => false
def stEl : P → Bool
  | .tuple [x, .tuple [_, .int lo, .int hi]] => isInt x lo hi
  | _ => false
theorem stEl_p (x : P) (f : Fd) : stEl (.tuple [x, f.p]) = isInt x f.lo f.hi := rfl
def fds (fs : List Fd) : P := .tuple (fs.map Fd.p)
theorem f_is_state (fs : List Fd) (v : P) (h : Hh) : F_is_state [.d (fds fs), .d v] h = .ok (.d (.bool (stB fs v))) [] h := by
  by_cases ht : isTp v fs.length fs.length = true
  case neg =>
    have e : stB fs v = false := by unfold stB; cases v <;> simp [ht]
    simp [F_is_state, m_is_state, env0, fds, f_is_tuple, ht, e]
  cases v with
  | tuple ds =>
    have lc := lc_ok (own := [2, 3, 4, 5, 6]) (fe := l_is_state_1 F_is_tuple F_is_integer) (fun d => [.bool (stEl d)]) (ds := (ds.zip fs).map fun z => .tuple [z.1, z.2.p]) (e := [.val (.d (fds fs)), .val (.d (.tuple ds)), .no, .no, .no, .no, .no]) [.val (.d (fds fs)), .val (.d (.tuple ds)), .no, .no, .no, .no, .no] (h := h) rfl (fun d hd => by
      obtain ⟨z, _, rfl⟩ := List.mem_map.mp hd
      exact ⟨[.val (.d (fds fs)), .val (.d (.tuple ds)), .no, .val (.d z.1), .val (.d (.str z.2.nm)), .val (.d (.int z.2.lo)), .val (.d (.int z.2.hi))], by simp [l_is_state_1, Fd.p, f_is_integer, stEl], rfl⟩)
    have zz : (ds.zip (fs.map Fd.p)).map (fun z => PyData.tuple [z.1, z.2]) = (ds.zip fs).map fun z => .tuple [z.1, z.2.p] := by
      rw [List.zip_map_right]
      simp [List.map_map, Function.comp]
    rw [flat_one] at lc
    simp only [fds] at lc
    simp [F_is_state, m_is_state, env0, fds, f_is_tuple, ht, zz, lc, stB, List.all_map, Function.comp, stEl_p]
  | _ => cases ht
end K52
namespace K52
open PySem PySem.Spec L2 DL
variable [WorldC]
/-! ### conditions -/
structure Cn where
  nm : Str
  sg : Str
  nr : Int
def Cn.p (c : Cn) : P := .tuple [.str c.nm, .str c.sg, .int c.nr]
def signs : List Str := ["is", "not", "least", "most"]
def cnOk (ns : List Str) (n s : Str) (k : Int) : Bool := decide (n ∈ ns) && decide (s ∈ signs) && isInt (.int k) (-20) 20
def itemC (ns : List Str) (v : P) : Option Cn := match v with
  | .tuple [.str n, .str s, .int k] => if cnOk ns n s k then some ⟨n, s, k⟩ else none
  | _ => none
theorem cn_p {ns : List Str} {v : P} {c : Cn} (h : itemC ns v = some c) : v = c.p := by
  unfold itemC at h
  split at h
  · split at h <;> cases h; rfl
  · cases h
def condO (ns : List Str) (v : P) : Option (List Cn) := match v with
  | .tuple ds => if isTp v 0 4 then parse (itemC ns) ds else none
  | _ => none
def three (d : P) : Bool := isTp d 3 3
theorem three_of {d : P} (h : three d = true) : ∃ a b c, d = .tuple [a, b, c] := by
  cases d with
  | tuple ds =>
    match ds with
    | [a, b, c] => exact ⟨a, b, c, rfl⟩
    | [] => simp [three, isTp] at h
    | [_] => simp [three, isTp] at h
    | [_, _] => simp [three, isTp] at h
    | _ :: _ :: _ :: _ :: r => simp [three, isTp] at h; omega
  | _ => cases h
theorem not_three {ns : List Str} {d : P} (h : ¬ three d = true) : itemC ns d = none := by
  unfold itemC
  split
  · simp [three, isTp] at h
  · rfl
theorem threes {v : P} {ds : List P} {cs : List Cel} (h : Hh) (fe : P → M (List P)) (ew : DL.Env) (own : List Nat) (hw : wipeE ew own = ew) (H : ∀ d, fe d ew h = .ok [.bool (three d)] (ew.set 7 (.val (.d d))) h) (h7 : ∀ d, wipeE (ew.set 7 (.val (.d d))) own = ew) : endLc own fe ds ew h = .ok (.d (.list (ds.map fun d => .bool (three d)))) (restE ew ew own) h := by
  have lc := lc_ok (own := own) (fe := fe) (fun d => [.bool (three d)]) (ds := ds) (e := ew) ew (h := h) hw (fun d _ => ⟨_, H d, h7 d⟩)
  rw [flat_one] at lc
  exact lc
theorem one_of_signs (v : P) (h : Hh) : F_is_one_of [.d v, .d (.list [.str "is", .str "not", .str "least", .str "most"])] h = .ok (.d (.bool (isOf v signs))) [] h := f_is_one_of v signs h
theorem cond_turn (ns : List Str) (w1 w2 : P) (a b c : P) (c2 c4 c5 c6 c7 c8 c9 : Cel) (h : Hh) : (∀ r, itemC ns (.tuple [a, b, c]) = some r → forTurn (.tp (.cons (.nm 2) (.cons (.nm 4) (.cons (.nm 5) .nil)))) (b_is_condition_1 F_is_tuple F_is_one_of F_is_integer) (.tuple [a, b, c]) [.val (.d w1), .val (.d w2), c2, .val (.d (.list (ns.map .str))), c4, c5, c6, c7, c8, c9] h = .ok .next [.val (.d w1), .val (.d w2), .val (.d a), .val (.d (.list (ns.map .str))), .val (.d b), .val (.d c), c6, c7, c8, c9] h) ∧
    (itemC ns (.tuple [a, b, c]) = none → ∃ e', forTurn (.tp (.cons (.nm 2) (.cons (.nm 4) (.cons (.nm 5) .nil)))) (b_is_condition_1 F_is_tuple F_is_one_of F_is_integer) (.tuple [a, b, c]) [.val (.d w1), .val (.d w2), c2, .val (.d (.list (ns.map .str))), c4, c5, c6, c7, c8, c9] h = .ok (.ret (.d (.bool false))) e' h) := by
  by_cases k1 : isOf a ns = true
  case neg =>
    have n : itemC ns (.tuple [a, b, c]) = none := by
      unfold itemC
      split
      · rename_i q; cases q; simp [isOf] at k1; simp [cnOk, k1]
      · rfl
    exact ⟨fun r q => (by rw [n] at q; cases q), fun _ => ⟨_, by simp [b_is_condition_1, f_is_one_of, k1]; rfl⟩⟩
  by_cases k2 : isOf b signs = true
  case neg =>
    have n : itemC ns (.tuple [a, b, c]) = none := by
      unfold itemC
      split
      · rename_i q; cases q; simp [isOf] at k2; simp [cnOk, k2]
      · rfl
    exact ⟨fun r q => (by rw [n] at q; cases q), fun _ => ⟨_, by simp [b_is_condition_1, f_is_one_of, k1, one_of_signs, k2]; rfl⟩⟩
  by_cases k3 : isInt c (-20) 20 = true
  case neg =>
    have n : itemC ns (.tuple [a, b, c]) = none := by
      unfold itemC
      split
      · rename_i q; cases q; simp [cnOk, k3]
      · rfl
    exact ⟨fun r q => (by rw [n] at q; cases q), fun _ => ⟨_, by simp [b_is_condition_1, f_is_one_of, k1, one_of_signs, k2, f_is_integer, k3]; rfl⟩⟩
  refine ⟨fun r q => by simp [b_is_condition_1, f_is_one_of, k1, one_of_signs, k2, f_is_integer, k3], fun q => ?_⟩
  exfalso
  cases a <;> simp [isOf] at k1
  cases b <;> simp [isOf] at k2
  cases c <;> simp [isInt] at k3
  simp [itemC, cnOk, isInt, k1, k2, k3] at q
theorem all3 {v : P} {ds : List P} (h : Hh) (w1 : P) : endLc [6, 7] (l_is_condition_1 F_is_tuple F_is_one_of F_is_integer) ds [.val (.d w1), .val (.d v), .no, .no, .no, .no, .no, .no, .no, .no] h = .ok (.d (.list (ds.map fun d => .bool (three d)))) [.val (.d w1), .val (.d v), .no, .no, .no, .no, .no, .no, .no, .no] h := by
  have lc := lc_ok (own := [6, 7]) (fe := l_is_condition_1 F_is_tuple F_is_one_of F_is_integer) (fun d => [.bool (three d)]) (ds := ds) (e := [.val (.d w1), .val (.d v), .no, .no, .no, .no, .no, .no, .no, .no]) [.val (.d w1), .val (.d v), .no, .no, .no, .no, .no, .no, .no, .no] (h := h) rfl (fun d _ => ⟨[.val (.d w1), .val (.d v), .no, .no, .no, .no, .no, .val (.d d), .no, .no], by simp [l_is_condition_1, f_is_tuple, three], rfl⟩)
  rw [flat_one] at lc
  exact lc
theorem names_c (fs : List Fd) (v : P) (h : Hh) : endLc [6, 2, 8, 9] (l_is_condition_2 F_is_tuple F_is_one_of F_is_integer) (fs.map Fd.p) [.val (.d (fds fs)), .val (.d v), .no, .no, .no, .no, .no, .no, .no, .no] h = .ok (.d (.list ((fs.map Fd.nm).map .str))) [.val (.d (fds fs)), .val (.d v), .no, .no, .no, .no, .no, .no, .no, .no] h := by
  have lc := lc_ok (own := [6, 2, 8, 9]) (fe := l_is_condition_2 F_is_tuple F_is_one_of F_is_integer) (fun d => [it0 d]) (ds := fs.map Fd.p) (e := [.val (.d (fds fs)), .val (.d v), .no, .no, .no, .no, .no, .no, .no, .no]) [.val (.d (fds fs)), .val (.d v), .no, .no, .no, .no, .no, .no, .no, .no] (h := h) rfl (fun d hd => by
    obtain ⟨f, _, rfl⟩ := List.mem_map.mp hd
    exact ⟨[.val (.d (fds fs)), .val (.d v), .val (.d (.str f.nm)), .no, .no, .no, .no, .no, .val (.d (.int f.lo)), .val (.d (.int f.hi))], by simp [l_is_condition_2, Fd.p, it0], rfl⟩)
  rw [flat_one, List.map_map] at lc
  rw [lc, List.map_map]
  rfl
theorem f_is_condition (fs : List Fd) (v : P) (h : Hh) : F_is_condition [.d (fds fs), .d v] h = .ok (.d (.bool (condO (fs.map Fd.nm) v).isSome)) [] h := by
  by_cases ht : isTp v 0 4 = true
  case neg =>
    have e : condO (fs.map Fd.nm) v = none := by unfold condO; cases v <;> simp [ht]
    simp [F_is_condition, m_is_condition, env0, f_is_tuple, ht, e]
  cases v with
  | tuple ds =>
    by_cases h3 : ds.all three = true
    case neg =>
      have e : condO (fs.map Fd.nm) (.tuple ds) = none := by
        obtain ⟨d, hd, n⟩ := List.all_eq_false.mp (Bool.not_eq_true _ ▸ h3)
        simp [condO, ht, parse_none hd (not_three n)]
      simp [F_is_condition, m_is_condition, env0, f_is_tuple, ht, e, all3, h3, List.all_map, Function.comp]
    obtain ⟨i1, i2⟩ := for_fold (f := forTurn (.tp (.cons (.nm 2) (.cons (.nm 4) (.cons (.nm 5) .nil)))) (b_is_condition_1 F_is_tuple F_is_one_of F_is_integer)) (step := fun _ d => (itemC (fs.map Fd.nm) d).map fun _ => ()) (emb := fun _ e => ∃ c2 c4 c5, e = [.val (.d (fds fs)), .val (.d (.tuple ds)), c2, .val (.d (.list ((fs.map Fd.nm).map .str))), c4, c5, .no, .no, .no, .no]) (rv := .d (.bool false)) (h := h) ds () [.val (.d (fds fs)), .val (.d (.tuple ds)), .no, .val (.d (.list ((fs.map Fd.nm).map .str))), .no, .no, .no, .no, .no, .no] (fun _ d hd e ⟨c2, c4, c5, ke⟩ => by
      subst ke
      obtain ⟨a, b, c, rfl⟩ := three_of (List.all_eq_true.mp h3 d hd)
      obtain ⟨t1, t2⟩ := cond_turn (fs.map Fd.nm) (fds fs) (.tuple ds) a b c c2 c4 c5 .no .no .no .no h
      refine ⟨fun s' q => ?_, fun q => t2 (by cases z : itemC (fs.map Fd.nm) (.tuple [a, b, c]) <;> simp_all)⟩
      cases z : itemC (fs.map Fd.nm) (.tuple [a, b, c]) with
      | none => rw [z] at q; cases q
      | some r => exact ⟨_, t1 r z, _, _, _, rfl⟩) ⟨_, _, _, rfl⟩
    rw [fold_parse] at i1 i2
    have hn := names_c fs (.tuple ds) h
    rw [List.map_map] at hn i1 i2
    cases c : parse (itemC (fs.map Fd.nm)) ds with
    | none =>
      obtain ⟨e', q⟩ := i2 (by rw [c]; rfl)
      simp [F_is_condition, m_is_condition, env0, f_is_tuple, ht, all3, h3, List.all_map, Function.comp, condO, c, fds] at q hn ⊢
      rw [hn]
      simp [q]
    | some cs =>
      obtain ⟨e', q, c2, c4, c5, rfl⟩ := i1 () (by rw [c]; rfl)
      simp [F_is_condition, m_is_condition, env0, f_is_tuple, ht, all3, h3, List.all_map, Function.comp, condO, c, fds] at q hn ⊢
      rw [hn]
      simp [q]
  | _ => cases ht

/-! ### effects -/
structure Ef where
  nm : Str
  wd : Str
  op : P
def Ef.p (c : Ef) : P := .tuple [.str c.nm, .str c.wd, c.op]
def words : List Str := ["set", "add", "copy"]
def efOk (ns : List Str) (n w : Str) (o : P) : Bool := decide (n ∈ ns) && decide (w ∈ words) && (if w = ("copy" : Str) then isOf o ns else isInt o (-20) 20)
def itemE (ns : List Str) (v : P) : Option Ef := match v with
  | .tuple [.str n, .str w, o] => if efOk ns n w o then some ⟨n, w, o⟩ else none
  | _ => none
theorem ef_p {ns : List Str} {v : P} {c : Ef} (h : itemE ns v = some c) : v = c.p := by
  unfold itemE at h
  split at h
  · split at h <;> cases h; rfl
  · cases h
theorem not_threeE {ns : List Str} {d : P} (h : ¬ three d = true) : itemE ns d = none := by
  unfold itemE
  split
  · simp [three, isTp] at h
  · rfl
def efsO (ns : List Str) (v : P) : Option (List Ef) := match v with
  | .tuple ds => if isTp v 0 3 then (match parse (itemE ns) ds with
    | some es => if rising (es.map Ef.nm) then some es else none
    | none => none) else none
  | _ => none
theorem one_of_words (v : P) (h : Hh) : F_is_one_of [.d v, .d (.list [.str "set", .str "add", .str "copy"])] h = .ok (.d (.bool (isOf v words))) [] h := f_is_one_of v words h
theorem eqv_str (w x : Str) : PyData.eqv (.str w) (.str x) = decide (w = x) := by
  simp only [PyData.eqv]
  by_cases q : w = x
  · subst q; simp
  · rw [decide_eq_false q]; simpa using q
theorem eff_turn (ns : List Str) (w1 w2 : P) (a b c : P) (c2 c4 c5 c6 c7 c8 c9 : Cel) (h : Hh) : (∀ r, itemE ns (.tuple [a, b, c]) = some r → forTurn (.tp (.cons (.nm 2) (.cons (.nm 4) (.cons (.nm 5) .nil)))) (b_is_effect_1 F_is_tuple F_is_one_of F_is_integer F_is_rising) (.tuple [a, b, c]) [.val (.d w1), .val (.d w2), c2, .val (.d (.list (ns.map .str))), c4, c5, c6, c7, c8, c9] h = .ok .next [.val (.d w1), .val (.d w2), .val (.d a), .val (.d (.list (ns.map .str))), .val (.d b), .val (.d c), c6, c7, c8, c9] h) ∧
    (itemE ns (.tuple [a, b, c]) = none → ∃ e', forTurn (.tp (.cons (.nm 2) (.cons (.nm 4) (.cons (.nm 5) .nil)))) (b_is_effect_1 F_is_tuple F_is_one_of F_is_integer F_is_rising) (.tuple [a, b, c]) [.val (.d w1), .val (.d w2), c2, .val (.d (.list (ns.map .str))), c4, c5, c6, c7, c8, c9] h = .ok (.ret (.d (.bool false))) e' h) := by
  by_cases k1 : isOf a ns = true
  case neg =>
    have n : itemE ns (.tuple [a, b, c]) = none := by
      unfold itemE
      split
      · rename_i q; cases q; simp [isOf] at k1; simp [efOk, k1]
      · rfl
    exact ⟨fun r q => (by rw [n] at q; cases q), fun _ => ⟨_, by simp [b_is_effect_1, f_is_one_of, k1]; rfl⟩⟩
  by_cases k2 : isOf b words = true
  case neg =>
    have n : itemE ns (.tuple [a, b, c]) = none := by
      unfold itemE
      split
      · rename_i q; cases q; simp [isOf] at k2; simp [efOk, k2]
      · rfl
    exact ⟨fun r q => (by rw [n] at q; cases q), fun _ => ⟨_, by simp [b_is_effect_1, f_is_one_of, k1, one_of_words, k2]; rfl⟩⟩
  cases a <;> try (simp [isOf] at k1; done)
  rename_i x
  cases b <;> try (simp [isOf] at k2; done)
  rename_i w
  have m1 : x ∈ ns := by simpa [isOf] using k1
  have m2 : w ∈ words := by simpa [isOf] using k2
  by_cases cp : w = ("copy" : Str)
  · subst cp
    by_cases k3 : isOf c ns = true
    · have n : itemE ns (.tuple [.str x, .str "copy", c]) = some ⟨x, "copy", c⟩ := by simp [itemE, efOk, m1, m2, k3]
      exact ⟨fun r q => by simp [b_is_effect_1, f_is_one_of, k1, one_of_words, k2, op_eq_s, op_ne_s, eqv_str, k3], fun q => (by rw [n] at q; cases q)⟩
    · have n : itemE ns (.tuple [.str x, .str "copy", c]) = none := by simp [itemE, efOk, m1, m2, k3]
      exact ⟨fun r q => (by rw [n] at q; cases q), fun _ => ⟨_, by simp [b_is_effect_1, f_is_one_of, k1, one_of_words, k2, op_eq_s, op_ne_s, eqv_str, k3]; rfl⟩⟩
  · by_cases k3 : isInt c (-20) 20 = true
    · have n : itemE ns (.tuple [.str x, .str w, c]) = some ⟨x, w, c⟩ := by simp [itemE, efOk, m1, m2, cp, k3]
      exact ⟨fun r q => by simp [b_is_effect_1, f_is_one_of, k1, one_of_words, k2, op_eq_s, op_ne_s, eqv_str, cp, f_is_integer, k3], fun q => (by rw [n] at q; cases q)⟩
    · have n : itemE ns (.tuple [.str x, .str w, c]) = none := by simp [itemE, efOk, m1, m2, cp, k3]
      exact ⟨fun r q => (by rw [n] at q; cases q), fun _ => ⟨_, by simp [b_is_effect_1, f_is_one_of, k1, one_of_words, k2, op_eq_s, op_ne_s, eqv_str, cp, f_is_integer, k3]; rfl⟩⟩
theorem all3E {v : P} {ds : List P} (h : Hh) (w1 : P) : endLc [6, 7] (l_is_effect_1 F_is_tuple F_is_one_of F_is_integer F_is_rising) ds [.val (.d w1), .val (.d v), .no, .no, .no, .no, .no, .no, .no, .no] h = .ok (.d (.list (ds.map fun d => .bool (three d)))) [.val (.d w1), .val (.d v), .no, .no, .no, .no, .no, .no, .no, .no] h := by
  have lc := lc_ok (own := [6, 7]) (fe := l_is_effect_1 F_is_tuple F_is_one_of F_is_integer F_is_rising) (fun d => [.bool (three d)]) (ds := ds) (e := [.val (.d w1), .val (.d v), .no, .no, .no, .no, .no, .no, .no, .no]) [.val (.d w1), .val (.d v), .no, .no, .no, .no, .no, .no, .no, .no] (h := h) rfl (fun d _ => ⟨[.val (.d w1), .val (.d v), .no, .no, .no, .no, .no, .val (.d d), .no, .no], by simp [l_is_effect_1, f_is_tuple, three], rfl⟩)
  rw [flat_one] at lc
  exact lc
theorem names_e (fs : List Fd) (v : P) (h : Hh) : endLc [6, 2, 8, 9] (l_is_effect_2 F_is_tuple F_is_one_of F_is_integer F_is_rising) (fs.map Fd.p) [.val (.d (fds fs)), .val (.d v), .no, .no, .no, .no, .no, .no, .no, .no] h = .ok (.d (.list ((fs.map Fd.nm).map .str))) [.val (.d (fds fs)), .val (.d v), .no, .no, .no, .no, .no, .no, .no, .no] h := by
  have lc := lc_ok (own := [6, 2, 8, 9]) (fe := l_is_effect_2 F_is_tuple F_is_one_of F_is_integer F_is_rising) (fun d => [it0 d]) (ds := fs.map Fd.p) (e := [.val (.d (fds fs)), .val (.d v), .no, .no, .no, .no, .no, .no, .no, .no]) [.val (.d (fds fs)), .val (.d v), .no, .no, .no, .no, .no, .no, .no, .no] (h := h) rfl (fun d hd => by
    obtain ⟨f, _, rfl⟩ := List.mem_map.mp hd
    exact ⟨[.val (.d (fds fs)), .val (.d v), .val (.d (.str f.nm)), .no, .no, .no, .no, .no, .val (.d (.int f.lo)), .val (.d (.int f.hi))], by simp [l_is_effect_2, Fd.p, it0], rfl⟩)
  rw [flat_one, List.map_map] at lc
  rw [lc, List.map_map]
  rfl
theorem f_is_effect (fs : List Fd) (v : P) (h : Hh) : F_is_effect [.d (fds fs), .d v] h = .ok (.d (.bool (efsO (fs.map Fd.nm) v).isSome)) [] h := by
  by_cases ht : isTp v 0 3 = true
  case neg =>
    have e : efsO (fs.map Fd.nm) v = none := by unfold efsO; cases v <;> simp [ht]
    simp [F_is_effect, m_is_effect, env0, f_is_tuple, ht, e]
  cases v with
  | tuple ds =>
    by_cases h3 : ds.all three = true
    case neg =>
      have e : efsO (fs.map Fd.nm) (.tuple ds) = none := by
        obtain ⟨d, hd, n⟩ := List.all_eq_false.mp (Bool.not_eq_true _ ▸ h3)
        simp [efsO, ht, parse_none hd (not_threeE n)]
      simp [F_is_effect, m_is_effect, env0, f_is_tuple, ht, e, all3E, h3, List.all_map, Function.comp]
    obtain ⟨i1, i2⟩ := for_fold (f := forTurn (.tp (.cons (.nm 2) (.cons (.nm 4) (.cons (.nm 5) .nil)))) (b_is_effect_1 F_is_tuple F_is_one_of F_is_integer F_is_rising)) (step := fun _ d => (itemE (fs.map Fd.nm) d).map fun _ => ()) (emb := fun _ e => ∃ c2 c4 c5, e = [.val (.d (fds fs)), .val (.d (.tuple ds)), c2, .val (.d (.list ((fs.map Fd.nm).map .str))), c4, c5, .no, .no, .no, .no]) (rv := .d (.bool false)) (h := h) ds () [.val (.d (fds fs)), .val (.d (.tuple ds)), .no, .val (.d (.list ((fs.map Fd.nm).map .str))), .no, .no, .no, .no, .no, .no] (fun _ d hd e ⟨c2, c4, c5, ke⟩ => by
      subst ke
      obtain ⟨a, b, c, rfl⟩ := three_of (List.all_eq_true.mp h3 d hd)
      obtain ⟨t1, t2⟩ := eff_turn (fs.map Fd.nm) (fds fs) (.tuple ds) a b c c2 c4 c5 .no .no .no .no h
      refine ⟨fun s' q => ?_, fun q => t2 (by cases z : itemE (fs.map Fd.nm) (.tuple [a, b, c]) <;> simp_all)⟩
      cases z : itemE (fs.map Fd.nm) (.tuple [a, b, c]) with
      | none => rw [z] at q; cases q
      | some r => exact ⟨_, t1 r z, _, _, _, rfl⟩) ⟨_, _, _, rfl⟩
    rw [fold_parse] at i1 i2
    have hn := names_e fs (.tuple ds) h
    rw [List.map_map] at hn i1 i2
    cases c : parse (itemE (fs.map Fd.nm)) ds with
    | none =>
      obtain ⟨e', q⟩ := i2 (by rw [c]; rfl)
      simp [F_is_effect, m_is_effect, env0, f_is_tuple, ht, all3E, h3, List.all_map, Function.comp, efsO, c, fds] at q hn ⊢
      rw [hn]
      simp [q]
    | some es =>
      obtain ⟨e', q, c2, c4, c5, rfl⟩ := i1 () (by rw [c]; rfl)
      have hds := parse_map (fun d a => ef_p) c
      have lc := lc_ok (own := [6, 2, 4, 5]) (fe := l_is_effect_3 F_is_tuple F_is_one_of F_is_integer F_is_rising) (fun d => [it0 d]) (ds := ds) (e := [.val (.d (fds fs)), .val (.d (.tuple ds)), c2, .val (.d (.list ((fs.map Fd.nm).map .str))), c4, c5, .no, .no, .no, .no]) [.val (.d (fds fs)), .val (.d (.tuple ds)), .no, .val (.d (.list ((fs.map Fd.nm).map .str))), .no, .no, .no, .no, .no, .no] (h := h) rfl (fun d hd => by
        rw [hds] at hd
        obtain ⟨f, _, rfl⟩ := List.mem_map.mp hd
        exact ⟨[.val (.d (fds fs)), .val (.d (.tuple ds)), .val (.d (.str f.nm)), .val (.d (.list ((fs.map Fd.nm).map .str))), .val (.d (.str f.wd)), .val (.d f.op), .no, .no, .no, .no], by simp [l_is_effect_3, Ef.p, it0], rfl⟩)
      have nms : ds.map it0 = (es.map Ef.nm).map .str := by
        rw [hds, List.map_map, List.map_map]
        rfl
      rw [flat_one, nms] at lc
      have r := f_is_rising_l (es.map Ef.nm) h
      rw [List.map_map] at r lc
      simp only [List.map_map] at lc
      simp [F_is_effect, m_is_effect, env0, f_is_tuple, ht, all3E, h3, List.all_map, Function.comp, efsO, c, fds] at q hn lc r ⊢
      rw [hn]
      simp [q]
      rw [lc]
      simp [r]
      by_cases k2 : rising (es.map Ef.nm) = true <;> simp [k2]
  | _ => cases ht
end K52
namespace K52
open PySem PySem.Spec L2 DL
variable [WorldC]
/-! ### commands, systems -/
def nameO : P → Option Str
  | .str x => if nmS x then some x else none
  | _ => none
theorem name_p {d : P} {x : Str} (h : nameO d = some x) : d = .str x ∧ nmS x = true := by
  unfold nameO at h
  split at h
  · split at h
    · rename_i k; cases h; exact ⟨rfl, k⟩
    · cases h
  · cases h
theorem isNm_name (d : P) : isNm d = (nameO d).isSome := by
  cases d <;> simp [isNm, nameO]
  rename_i x
  by_cases k : nmS x = true <;> simp [k]
theorem all_names : ∀ (ds : List P), ds.all isNm = (parse nameO ds).isSome
  | [] => rfl
  | d :: ds => by
    rw [List.all_cons, all_names ds, isNm_name, parse_c]
    cases nameO d with
    | none => rfl
    | some x => cases parse nameO ds <;> rfl
def usersO (v : P) : Option (List Str) := match v with
  | .tuple ds => if isTp v 1 4 then (match parse nameO ds with
    | some us => if rising us then some us else none
    | none => none) else none
  | _ => none
structure Cm where
  nm : Str
  cond : List Cn
  eff : List Ef
  us : List Str
def Cm.p (c : Cm) : P := .tuple [.str c.nm, .tuple (c.cond.map Cn.p), .tuple (c.eff.map Ef.p), .tuple (c.us.map .str)]
def cmO (ns : List Str) (v : P) : Option Cm := match v with
  | .tuple [a, b, c, d] => match nameO a, condO ns b, efsO ns c, usersO d with
    | some n, some x, some y, some us => some ⟨n, x, y, us⟩
    | _, _, _, _ => none
  | _ => none
theorem cmO_c {ns : List Str} {a b c d : P} : cmO ns (.tuple [a, b, c, d]) = match nameO a, condO ns b, efsO ns c, usersO d with
  | some n, some x, some y, some us => some ⟨n, x, y, us⟩
  | _, _, _, _ => none := rfl
theorem cond_p {ns : List Str} {v : P} {cs : List Cn} (h : condO ns v = some cs) : v = .tuple (cs.map Cn.p) := by
  unfold condO at h
  split at h
  · split at h
    · rw [parse_map (fun d a => cn_p) h]
    · cases h
  · cases h
theorem efs_p {ns : List Str} {v : P} {cs : List Ef} (h : efsO ns v = some cs) : v = .tuple (cs.map Ef.p) := by
  unfold efsO at h
  split at h
  · split at h
    · split at h
      · rename_i hp
        split at h
        · cases h; rw [parse_map (fun d a => ef_p) hp]
        · cases h
      · cases h
    · cases h
  · cases h
theorem users_p {v : P} {us : List Str} (h : usersO v = some us) : v = .tuple (us.map .str) ∧ rising us = true ∧ 1 ≤ us.length ∧ us.length ≤ 4 := by
  unfold usersO at h
  split at h
  · split at h
    · rename_i ht
      split at h
      · rename_i hp
        split at h
        · rename_i hr
          cases h
          have e := parse_map (p := PyData.str) (fun d a h => (name_p h).1) hp
          have l := parse_len hp
          simp only [isTp, Bool.and_eq_true, decide_eq_true_eq] at ht
          exact ⟨by rw [e], hr, by omega, by omega⟩
        · cases h
      · cases h
    · cases h
  · cases h
theorem cm_p {ns : List Str} {v : P} {c : Cm} (h : cmO ns v = some c) : v = c.p ∧ nmS c.nm = true ∧ rising c.us = true ∧ 1 ≤ c.us.length ∧ c.us.length ≤ 4 := by
  unfold cmO at h
  split at h
  · split at h
    · rename_i h1 h2 h3 h4
      cases h
      obtain ⟨n1, n2⟩ := name_p h1
      obtain ⟨u1, u2, u3, u4⟩ := users_p h4
      rw [n1, cond_p h2, efs_p h3, u1]
      exact ⟨rfl, n2, u2, u3, u4⟩
    · cases h
  · cases h
theorem four_of {d : P} (h : isTp d 4 4 = true) : ∃ a b c e, d = .tuple [a, b, c, e] := by
  cases d with
  | tuple ds =>
    match ds with
    | [a, b, c, e] => exact ⟨a, b, c, e, rfl⟩
    | [] => simp [isTp] at h
    | [_] => simp [isTp] at h
    | [_, _] => simp [isTp] at h
    | [_, _, _] => simp [isTp] at h
    | _ :: _ :: _ :: _ :: _ :: r => simp [isTp] at h; omega
  | _ => cases h
theorem not_four {ns : List Str} {d : P} (h : ¬ isTp d 4 4 = true) : cmO ns d = none := by
  unfold cmO
  split
  · simp [isTp] at h
  · rfl
theorem f_is_command (fs : List Fd) (v : P) (h : Hh) : F_is_command [.d (fds fs), .d v] h = .ok (.d (.bool (cmO (fs.map Fd.nm) v).isSome)) [] h := by
  by_cases ht : isTp v 4 4 = true
  case neg => simp [F_is_command, m_is_command, env0, f_is_tuple, ht, not_four ht]
  obtain ⟨a, b, c, d, rfl⟩ := four_of ht
  by_cases k1 : isNm a = true
  case neg =>
    have n : nameO a = none := by rw [isNm_name] at k1; cases q : nameO a <;> simp_all
    simp [F_is_command, m_is_command, env0, f_is_tuple, ht, f_is_name, k1, cmO, n]
  by_cases k2 : isTp d 1 4 = true
  case neg =>
    have n : usersO d = none := by unfold usersO; cases d <;> simp [k2]
    have n2 : cmO (fs.map Fd.nm) (.tuple [a, b, c, d]) = none := by
      rw [cmO_c, n]
      cases nameO a <;> cases condO (fs.map Fd.nm) b <;> cases efsO (fs.map Fd.nm) c <;> rfl
    simp [F_is_command, m_is_command, env0, f_is_tuple, ht, f_is_name, k1, k2, n2]
  cases k3 : condO (fs.map Fd.nm) b with
  | none =>
    have n2 : cmO (fs.map Fd.nm) (.tuple [a, b, c, d]) = none := by
      rw [cmO_c, k3]
      cases nameO a <;> rfl
    simp [F_is_command, m_is_command, env0, f_is_tuple, ht, f_is_name, k1, k2, n2, f_is_condition, k3]
  | some cs =>
    cases k4 : efsO (fs.map Fd.nm) c with
    | none =>
      have n2 : cmO (fs.map Fd.nm) (.tuple [a, b, c, d]) = none := by
        rw [cmO_c, k3, k4]
        cases nameO a <;> rfl
      simp [F_is_command, m_is_command, env0, f_is_tuple, ht, f_is_name, k1, k2, n2, f_is_condition, k3, f_is_effect, k4]
    | some es =>
      cases d with
      | tuple us =>
        have lc := lc_ok (own := [2, 3]) (fe := l_is_command_1 F_is_tuple F_is_name F_is_condition F_is_effect F_is_rising) (fun d => [.bool (isNm d)]) (ds := us) (e := [.val (.d (fds fs)), .val (.d (.tuple [a, b, c, .tuple us])), .no, .no]) [.val (.d (fds fs)), .val (.d (.tuple [a, b, c, .tuple us])), .no, .no] (h := h) rfl (fun d hd => ⟨[.val (.d (fds fs)), .val (.d (.tuple [a, b, c, .tuple us])), .no, .val (.d d)], by simp [l_is_command_1, f_is_name], rfl⟩)
        rw [flat_one] at lc
        have an := all_names us
        cases k5 : nameO a with
        | none => rw [isNm_name, k5] at k1; cases k1
        | some n =>
          cases k6 : parse nameO us with
          | none =>
            rw [k6] at an
            simp [F_is_command, m_is_command, env0, f_is_tuple, ht, f_is_name, k1, k2, cmO, f_is_condition, k3, f_is_effect, k4, lc, an, usersO, k5, k6]
          | some xs =>
            rw [k6] at an
            have e := parse_map (p := PyData.str) (fun d a h => (name_p h).1) k6
            have r := f_is_rising_t xs h
            rw [← e] at r
            simp [F_is_command, m_is_command, env0, f_is_tuple, ht, f_is_name, k1, k2, cmO, f_is_condition, k3, f_is_effect, k4, lc, an, usersO, k5, k6, r]
            by_cases k7 : rising xs = true <;> simp [k7]
      | _ => cases k2
end K52
namespace K52
open PySem PySem.Spec L2 DL
variable [WorldC]
structure Sys where
  fs : List Fd
  st : List Int
  cs : List Cm
def stP (st : List Int) : P := .tuple (st.map .int)
def Sys.p (s : Sys) : P := .tuple [fds s.fs, stP s.st, .tuple (s.cs.map Cm.p)]
def usersOf (cs : List Cm) : List Str := cs.flatMap Cm.us
def csOk (cs : List Cm) : Bool := rising (cs.map Cm.nm) && decide ((sortU (usersOf cs)).length ≤ 4)
def cmsO (ns : List Str) (v : P) : Option (List Cm) := match v with
  | .tuple ds => if isTp v 1 8 then parse (cmO ns) ds else none
  | _ => none
def stO (fs : List Fd) (v : P) : Option (List Int) := match v with
  | .tuple ds => if stB fs v then intsOf ds else none
  | _ => none
def sysO (v : P) : Option Sys := match v with
  | .tuple [a, b, c] => match fieldsO a with
    | some fs => match stO fs b with
      | some st => match cmsO (fs.map Fd.nm) c with
        | some cs => if csOk cs then some ⟨fs, st, cs⟩ else none
        | none => none
      | none => none
    | none => none
  | _ => none
theorem sysO_c {a b c : P} : sysO (.tuple [a, b, c]) = match fieldsO a with
    | some fs => match stO fs b with
      | some st => match cmsO (fs.map Fd.nm) c with
        | some cs => if csOk cs then some ⟨fs, st, cs⟩ else none
        | none => none
      | none => none
    | none => none := rfl
theorem ints_of_zip : ∀ (fs : List Fd) (ds : List P), ds.length = fs.length → ((ds.zip fs).all fun z => isInt z.1 z.2.lo z.2.hi) = true → (intsOf ds).isSome = true
  | [], [], _, _ => rfl
  | f :: fs, d :: ds, l, h => by
    simp only [List.zip_cons_cons, List.all_cons, Bool.and_eq_true] at h
    have ih := ints_of_zip fs ds (by simpa using l) h.2
    cases d <;> simp [isInt] at h
    simp [intsOf, ih]
theorem stO_some (fs : List Fd) (v : P) : (stO fs v).isSome = stB fs v := by
  cases v with
  | tuple ds =>
    by_cases k : stB fs (.tuple ds) = true
    · have q := k
      simp only [stB, Bool.and_eq_true, isTp, decide_eq_true_eq] at q
      have := ints_of_zip fs ds (by omega) q.2
      simp [stO, k, this]
    · simp [stO, k]
  | _ => rfl
theorem ints_p : ∀ {ds : List P} {ns : List Int}, intsOf ds = some ns → ds = ns.map .int
  | [], _, h => by cases h; rfl
  | .int i :: ds, ns, h => by
    cases c : intsOf ds with
    | none => simp [intsOf, c] at h
    | some r =>
      simp [intsOf, c] at h
      subst h
      rw [ints_p c]
      rfl
  | .none :: _, _, h => by simp [intsOf] at h
  | .bool _ :: _, _, h => by simp [intsOf] at h
  | .str _ :: _, _, h => by simp [intsOf] at h
  | .list _ :: _, _, h => by simp [intsOf] at h
  | .tuple _ :: _, _, h => by simp [intsOf] at h
  | .dict _ :: _, _, h => by simp [intsOf] at h
theorem stO_p {fs : List Fd} {v : P} {st : List Int} (h : stO fs v = some st) : v = stP st := by
  unfold stO at h
  split at h
  · split at h
    · rw [ints_p h]; rfl
    · cases h
  · cases h
theorem fields_p {v : P} {fs : List Fd} (h : fieldsO v = some fs) : v = fds fs ∧ (∀ f ∈ fs, fdOk f.nm f.lo f.hi = true) ∧ fdsOk fs = true ∧ 1 ≤ fs.length ∧ fs.length ≤ 3 := by
  unfold fieldsO at h
  split at h
  · split at h
    · rename_i ht
      split at h
      · rename_i hp
        split at h
        · rename_i k
          cases h
          have l := parse_len hp
          simp only [isTp, Bool.and_eq_true, decide_eq_true_eq] at ht
          exact ⟨by rw [parse_map (fun d a => fd_p) hp]; rfl, parse_all (fun d a h => (itemF_p h).2) hp, k, by omega, by omega⟩
        · cases h
      · cases h
    · cases h
  · cases h
theorem cms_p {ns : List Str} {v : P} {cs : List Cm} (h : cmsO ns v = some cs) : v = .tuple (cs.map Cm.p) ∧ (∀ c ∈ cs, cmO ns c.p = some c) ∧ 1 ≤ cs.length ∧ cs.length ≤ 8 := by
  unfold cmsO at h
  split at h
  · split at h
    · rename_i ht
      have l := parse_len h
      simp only [isTp, Bool.and_eq_true, decide_eq_true_eq] at ht
      refine ⟨by rw [parse_map (fun d a h => (cm_p h).1) h], parse_all (fun d a h => ?_) h, by omega, by omega⟩
      rw [← (cm_p h).1]
      exact h
    · cases h
  · cases h
theorem users_le : ∀ {cs : List Cm}, (∀ c ∈ cs, c.us.length ≤ 4) → (usersOf cs).length ≤ 4 * cs.length
  | [], _ => by simp [usersOf]
  | c :: cs, h => by
    have ih := users_le (cs := cs) fun d hd => h d (List.mem_cons_of_mem _ hd)
    have := h c List.mem_cons_self
    simp only [usersOf, List.flatMap_cons, List.length_append, List.length_cons] at *
    omega
def it3 : P → List P
  | .tuple [_, _, _, .tuple us] => us
  | _ => []
theorem f_clients_in (a b : P) (cs : List Cm) (h : Hh) (hl : cs.length ≤ 8) (hu : ∀ c ∈ cs, c.us.length ≤ 4) : F_clients_in [.d (.tuple [a, b, .tuple (cs.map Cm.p)])] h = .ok (.d (.list ((sortU (usersOf cs)).map .str))) [] h := by
  have fl : (cs.map Cm.p).flatMap it3 = (usersOf cs).map .str := by
    unfold usersOf
    rw [List.map_flatMap, List.flatMap_map]
    rfl
  have ul := users_le hu
  have lc := lc2_ok (own := [1, 2, 3]) (fe := l_clients_in_2) it3 (ds := cs.map Cm.p) (e := [.val (.d (.tuple [a, b, .tuple (cs.map Cm.p)])), .no, .no, .no]) [.val (.d (.tuple [a, b, .tuple (cs.map Cm.p)])), .no, .no, .no] (h := h) rfl (fun d hd => by
    obtain ⟨c, _, rfl⟩ := List.mem_map.mp hd
    have inn := in_ok (own := [3]) (fe := l_clients_in_1) (fun d => [d]) (ds := c.us.map .str) (e := [.val (.d (.tuple [a, b, .tuple (cs.map Cm.p)])), .no, .val (.d c.p), .no]) [.val (.d (.tuple [a, b, .tuple (cs.map Cm.p)])), .no, .val (.d c.p), .no] (h := h) rfl (fun d _ => ⟨[.val (.d (.tuple [a, b, .tuple (cs.map Cm.p)])), .no, .val (.d c.p), .val (.d d)], by simp [l_clients_in_1], rfl⟩)
    refine ⟨[.val (.d (.tuple [a, b, .tuple (cs.map Cm.p)])), .no, .val (.d c.p), .no], ?_, rfl⟩
    simp [l_clients_in_2, mEl2, Cm.p, it3] at inn ⊢
    exact inn) (by rw [fl, List.length_map]; omega)
  rw [fl] at lc
  have so : strsOf ((usersOf cs).map .str) = some (usersOf cs) := by
    induction usersOf cs with
    | nil => rfl
    | cons x xs ih => simp [strsOf, ih]
  have so2 : sortSetP [.list ((usersOf cs).map .str)] = some (.list ((sortU (usersOf cs)).map .str)) := by
    simp only [sortSetP, sortStrs, so]
    rw [if_pos (by omega)]
  simp [F_clients_in, m_clients_in, env0, lc, so2]
end K52
namespace K52
open PySem PySem.Spec L2 DL
variable [WorldC]
theorem not_threeS {d : P} (h : ¬ isTp d 3 3 = true) : sysO d = none := by
  unfold sysO
  split
  · simp [isTp] at h
  · rfl
theorem parse_isSome {α : Type} {g : P → Option α} : ∀ (ds : List P), (parse g ds).isSome = ds.all fun d => (g d).isSome
  | [] => rfl
  | d :: ds => by
    rw [parse_c, List.all_cons, ← parse_isSome ds]
    cases g d with
    | none => rfl
    | some a => cases parse g ds <;> rfl
theorem f_is_system (v : P) (h : Hh) : F_is_system [.d v] h = .ok (.d (.bool (sysO v).isSome)) [] h := by
  by_cases ht : isTp v 3 3 = true
  case neg => simp [F_is_system, m_is_system, env0, f_is_tuple, ht, not_threeS ht]
  obtain ⟨a, b, c, rfl⟩ := three_of ht
  cases k1 : fieldsO a with
  | none => simp [F_is_system, m_is_system, env0, f_is_tuple, ht, f_is_fields, k1, sysO_c]
  | some fs =>
    obtain ⟨rfl, _⟩ := fields_p k1
    have e1 : fds fs = .tuple (fs.map Fd.p) := rfl
    by_cases k2 : stB fs b = true
    case neg =>
      have n : stO fs b = none := by have := stO_some fs b; cases q : stO fs b <;> simp_all
      simp [F_is_system, m_is_system, env0, f_is_tuple, ht, f_is_fields, k1, sysO_c, f_is_state, k2, n]
    have k2' := stO_some fs b
    rw [k2] at k2'
    obtain ⟨st, hst⟩ := Option.isSome_iff_exists.mp k2'
    by_cases k3 : isTp c 1 8 = true
    case neg =>
      have n : cmsO (fs.map Fd.nm) c = none := by unfold cmsO; cases c <;> simp [k3]
      simp [F_is_system, m_is_system, env0, f_is_tuple, ht, f_is_fields, k1, sysO_c, f_is_state, k2, hst, k3, n]
    cases c with
    | tuple ds =>
      have lc := lc_ok (own := [1, 2]) (fe := l_is_system_1 F_is_tuple F_is_fields F_is_state F_is_command F_is_rising F_clients_in) (fun d => [.bool (cmO (fs.map Fd.nm) d).isSome]) (ds := ds) (e := [.val (.d (.tuple [fds fs, b, .tuple ds])), .no, .no]) [.val (.d (.tuple [fds fs, b, .tuple ds])), .no, .no] (h := h) rfl (fun d _ => ⟨[.val (.d (.tuple [fds fs, b, .tuple ds])), .no, .val (.d d)], by simp [l_is_system_1, f_is_command], rfl⟩)
      rw [flat_one] at lc
      have al := parse_isSome (g := cmO (fs.map Fd.nm)) ds
      cases k4 : parse (cmO (fs.map Fd.nm)) ds with
      | none =>
        rw [k4] at al
        simp [F_is_system, m_is_system, env0, f_is_tuple, ht, f_is_fields, k1, sysO_c, f_is_state, k2, hst, k3, lc, ← al, cmsO, k4]
      | some cs =>
        rw [k4] at al
        have kc : cmsO (fs.map Fd.nm) (.tuple ds) = some cs := by simp [cmsO, k3, k4]
        obtain ⟨e2, hc, l1, l2⟩ := cms_p kc
        have hds : ds = cs.map Cm.p := by cases e2; rfl
        have hu : ∀ c ∈ cs, c.us.length ≤ 4 := fun c hcs => (cm_p (hc c hcs)).2.2.2.2
        have lc2 := lc_ok (own := [1, 2]) (fe := l_is_system_2 F_is_tuple F_is_fields F_is_state F_is_command F_is_rising F_clients_in) (fun d => [it0 d]) (ds := ds) (e := [.val (.d (.tuple [fds fs, b, .tuple ds])), .no, .no]) [.val (.d (.tuple [fds fs, b, .tuple ds])), .no, .no] (h := h) rfl (fun d hd => by
          have hd' : d ∈ cs.map Cm.p := by rw [← hds]; exact hd
          obtain ⟨c, _, rfl⟩ := List.mem_map.mp hd'
          exact ⟨[.val (.d (.tuple [fds fs, b, .tuple ds])), .no, .val (.d c.p)], by simp [l_is_system_2, Cm.p, it0], rfl⟩)
        have nms : ds.map it0 = (cs.map Cm.nm).map .str := by
          rw [hds, List.map_map, List.map_map]
          rfl
        rw [flat_one, nms] at lc2
        have r := f_is_rising_l (cs.map Cm.nm) h
        have cl := f_clients_in (fds fs) b cs h l2 hu
        rw [← hds] at cl
        simp only [List.map_map] at lc2 r
        by_cases k5 : rising (cs.map Cm.nm) = true
        · by_cases k6 : (sortU (usersOf cs)).length ≤ 4
          · simp [F_is_system, m_is_system, env0, f_is_tuple, ht, f_is_fields, k1, sysO_c, f_is_state, k2, hst, k3, lc, ← al, kc, lc2, r, k5, cl, csOk, k6]
            omega
          · simp [F_is_system, m_is_system, env0, f_is_tuple, ht, f_is_fields, k1, sysO_c, f_is_state, k2, hst, k3, lc, ← al, kc, lc2, r, k5, cl, csOk, k6]
            omega
        · simp [F_is_system, m_is_system, env0, f_is_tuple, ht, f_is_fields, k1, sysO_c, f_is_state, k2, hst, k3, lc, ← al, kc, lc2, r, k5, csOk]
    | _ => cases k3
end K52
namespace K52
open PySem PySem.Spec L2 DL
variable [WorldC]
/-- the store holds a source of draws at n -/
def Src (n : Nat) (h : Hh) : Prop := ∃ a b c : Int, h[n]? = some (.lst [.int a, .int b, .int c]) ∧ 0 ≤ b ∧ b < 4294967296 ∧ 0 < c ∧ c < 4294967296
theorem mul_i {x y : Int} (h : -18446744073709551616 < y ∧ y < 18446744073709551616) : mulP [.int x, .int y] = some (.int (x * y)) := if_pos (Or.inr h)
theorem mul_j {x y : Int} (h : -18446744073709551616 < x ∧ x < 18446744073709551616) : mulP [.int x, .int y] = some (.int (x * y)) := if_pos (Or.inl h)
theorem p_pick {n : Nat} {h : Hh} {lim : Int} (S : Src n h) (l0 : 0 < lim) (l1 : lim < 1073741824) : ∃ r h', F__law_pick [.ob (.mem n), .d (.int lim)] h = .ok (.d (.int r)) [] h' ∧ 0 ≤ r ∧ r < lim ∧ Src n h' := by
  obtain ⟨a, b, c, g, b0, b1, c0, c1⟩ := S
  have ln : n < h.length := by
    obtain ⟨w, _⟩ := List.getElem?_eq_some_iff.mp g
    exact w
  by_cases k : 0 < a
  · refine ⟨a % lim, h.set n (.lst [.int (a / lim), .int b, .int c]), ?_, Int.emod_nonneg _ (by omega), Int.emod_lt_of_pos _ l0, a / lim, b, c, ?_, b0, b1, c0, c1⟩
    · simp [F__law_pick, m__law_pick, env0, g, k, op_mod l0, op_fdiv ⟨l0, l1⟩]
    · simp [ln]
  · refine ⟨(((b * 48271 % c + 1) * (b * 48271 % c + 1)) % 2147483423 / 7) % lim, h.set n (.lst [.int a, .int (b * 48271 % c + 1), .int c]), ?_, Int.emod_nonneg _ (by omega), Int.emod_lt_of_pos _ l0, a, b * 48271 % c + 1, c, ?_, ?_, ?_, c0, c1⟩
    · have m1 : mulP [.int b, .int 48271] = some (.int (b * 48271)) := mul_i (by omega)
      have r0 := Int.emod_nonneg (b * 48271) (b := c) (by omega)
      have r1 := Int.emod_lt_of_pos (b * 48271) c0
      have m2 : mulP [.int (b * 48271 % c + 1), .int (b * 48271 % c + 1)] = some (.int ((b * 48271 % c + 1) * (b * 48271 % c + 1))) := mul_i (by omega)
      have d1 := fun x : Int => op_mod (x := x) (y := 2147483423) (by omega)
      have d2 := fun x : Int => op_fdiv (x := x) (y := 7) (by omega)
      have gs : ∀ o : DO, (h.set n o)[n]? = some o := fun o => by simp [ln]
      simp [F__law_pick, m__law_pick, env0, g, k, m1, op_mod c0, m2, d1, d2, op_mod l0, gs]
    · simp [ln]
    · have r0 := Int.emod_nonneg (b * 48271) (b := c) (by omega)
      omega
    · have r1 := Int.emod_lt_of_pos (b * 48271) c0
      omega
def primes : List Int := [2147483647, 2147483629, 2147483587, 2147483579, 2147483563, 2147483549, 2147483543, 2147483497]
theorem primes_at (k : Nat) : ∃ c : Int, (primes.map PyData.int)[k % 8]? = some (.int c) ∧ 0 < c ∧ c < 4294967296 := by
  have h : k % 8 < 8 := Nat.mod_lt _ (by decide)
  revert h
  generalize k % 8 = j
  intro h
  match j, h with
  | 0, _ => exact ⟨_, rfl, by decide, by decide⟩
  | 1, _ => exact ⟨_, rfl, by decide, by decide⟩
  | 2, _ => exact ⟨_, rfl, by decide, by decide⟩
  | 3, _ => exact ⟨_, rfl, by decide, by decide⟩
  | 4, _ => exact ⟨_, rfl, by decide, by decide⟩
  | 5, _ => exact ⟨_, rfl, by decide, by decide⟩
  | 6, _ => exact ⟨_, rfl, by decide, by decide⟩
  | 7, _ => exact ⟨_, rfl, by decide, by decide⟩
def seed1 (c : Int) (k : Nat) : Int := (c % 2147483489 + 1) * (48271 + 2 * k) % 2147483489
def seed2 (c : Int) (k : Nat) : Int := seed1 c k * seed1 c k % 2147483477 + k + 1
theorem src_facts (c : Int) {k : Nat} (lk : k < 1000) : mulP [.int (c % 2147483489 + 1), .int (48271 + 2 * k)] = some (.int ((c % 2147483489 + 1) * (48271 + 2 * k))) ∧
    mulP [.int ((c % 2147483489 + 1) * (48271 + 2 * k) % 2147483489), .int ((c % 2147483489 + 1) * (48271 + 2 * k) % 2147483489)] = some (.int ((c % 2147483489 + 1) * (48271 + 2 * k) % 2147483489 * ((c % 2147483489 + 1) * (48271 + 2 * k) % 2147483489))) := by
  have x0 := Int.emod_nonneg c (b := 2147483489) (by omega)
  have x1 := Int.emod_lt_of_pos c (b := 2147483489) (by omega)
  have y0 := Int.emod_nonneg ((c % 2147483489 + 1) * (48271 + 2 * k)) (b := 2147483489) (by omega)
  have y1 := Int.emod_lt_of_pos ((c % 2147483489 + 1) * (48271 + 2 * k)) (b := 2147483489) (by omega)
  exact ⟨mul_j (by omega), mul_j (by omega)⟩
theorem seed_b (c : Int) {k : Nat} (lk : k < 1000) : 0 ≤ seed2 c k ∧ seed2 c k < 4294967296 := by
  have z0 := Int.emod_nonneg (seed1 c k * seed1 c k) (b := 2147483477) (by omega)
  have z1 := Int.emod_lt_of_pos (seed1 c k * seed1 c k) (b := 2147483477) (by omega)
  unfold seed2
  omega
theorem pw18 : powP [.int 10, .int 18] = some (.int 1000000000000000000) := (rfl)
theorem ge18 : geP [.int 0, .int 1000000000000000000] = some (.bool false) := congrArg (fun b => some (PyData.bool b)) (decide_eq_false (by omega))
def ms_source (c : Int) : M Fl := (sCons (sAsg 2 (mK (.int c))) (sCons (sIf (mBl (mOp ltP (mCons (mVar 1) (mCons (mScrLen 0) mNil)))) (sCons (sAsg 2 (mScrIx 0 (mVar 1))) sNil) sNil) (sCons (sAsg 3 (mLst (mCons (mK (.int 2147483647)) (mCons (mK (.int 2147483629)) (mCons (mK (.int 2147483587)) (mCons (mK (.int 2147483579)) (mCons (mK (.int 2147483563)) (mCons (mK (.int 2147483549)) (mCons (mK (.int 2147483543)) (mCons (mK (.int 2147483497)) mNil)))))))))) (sCons (sAsg 4 (mOp modP (mCons (mOp intP (mCons (mOp mulP (mCons (mOp addP (mCons (mOp modP (mCons (mOp intP (mCons (mVar 2) mNil)) (mCons (mK (.int 2147483489)) mNil))) (mCons (mK (.int 1)) mNil))) (mCons (mOp addP (mCons (mK (.int 48271)) (mCons (mOp mulP (mCons (mK (.int 2)) (mCons (mVar 1) mNil))) mNil))) mNil))) mNil)) (mCons (mK (.int 2147483489)) mNil)))) (sCons (sAsg 4 (mOp addP (mCons (mOp addP (mCons (mOp modP (mCons (mOp intP (mCons (mOp mulP (mCons (mVar 4) (mCons (mVar 4) mNil))) mNil)) (mCons (mK (.int 2147483477)) mNil))) (mCons (mVar 1) mNil))) (mCons (mK (.int 1)) mNil)))) (sCons (sIf (mBl (mOp geP (mCons (mVar 2) (mCons (mOp powP (mCons (mK (.int 10)) (mCons (mK (.int 18)) mNil))) mNil)))) (sCons (sRet (mPush (mLst (mCons (mFz 2) (mCons (mFz 4) (mCons (mOp idxP (mCons (mVar 3) (mCons (mOp modP (mCons (mOp intP (mCons (mVar 1) mNil)) (mCons (mK (.int 8)) mNil))) mNil))) mNil)))))) sNil) sNil) (sCons (sRet (mPush (mLst (mCons (mK (.int 0)) (mCons (mFz 4) (mCons (mOp idxP (mCons (mVar 3) (mCons (mOp modP (mCons (mOp intP (mCons (mVar 1) mNil)) (mCons (mK (.int 8)) mNil))) mNil))) mNil)))))) sNil)))))))
theorem p_source {ns : List Int} {h : Hh} {k : Nat} (lk : k < 1000) : ∃ h', F__law_source [.scr ns, .d (.int k)] h = .ok (.ob (.mem h.length)) [] h' ∧ Src h.length h' := by
  obtain ⟨pr, g, p0, p1⟩ := primes_at k
  simp only [primes, List.map_cons, List.map_nil] at g
  have m1 : mulP [.int 2, .int k] = some (.int (2 * k)) := mul_j (by omega)
  have d1 := fun x : Int => op_mod (x := x) (y := 2147483489) (by omega)
  have d2 := fun x : Int => op_mod (x := x) (y := 2147483477) (by omega)
  have d3 : modP [.int k, .int 8] = some (.int ((k : Int) % 8)) := op_mod (by omega)
  have pw : powP [.int 10, .int 18] = some (.int 1000000000000000000) := pw18
  have ix : ixP 8 ((k : Int) % 8) = some (k % 8) := by
    have e : (k : Int) % 8 = ((k % 8 : Nat) : Int) := by omega
    rw [e, ixP_k, if_pos (Nat.mod_lt _ (by decide))]
  have res : ∀ (a c : Int), F__law_source [.scr ns, .d (.int k)] h = .ok (.ob (.mem h.length)) [] (h ++ [.lst [.int a, .int (seed2 c k), .int pr]]) → ∃ h', F__law_source [.scr ns, .d (.int k)] h = .ok (.ob (.mem h.length)) [] h' ∧ Src h.length h' := fun a c e => ⟨_, e, a, seed2 c k, pr, by simp, (seed_b c lk).1, (seed_b c lk).2, p0, p1⟩
  by_cases kl : k < ns.length
  · have ik : ixP ns.length (k : Int) = some k := by rw [ixP_k, if_pos kl]
    obtain ⟨m2, m3⟩ := src_facts ns[k] lk
    by_cases kb : 1000000000000000000 ≤ ns[k]
    · refine res ns[k] ns[k] ?_
      as_aux_lemma => simp [F__law_source, m__law_source, env0, kl, ik, d1, m1, m2, m3, d2, pw, kb, d3, ix, g, seed2, seed1]
    · refine res 0 ns[k] ?_
      as_aux_lemma => simp [F__law_source, m__law_source, env0, kl, ik, d1, m1, m2, m3, d2, pw, kb, d3, ix, g, seed2, seed1]
  · refine res 0 0 ?_
    have e0 : F__law_source = runF (ms_source 0) 5 := (rfl)
    rw [e0]
    have gen : ∀ c : Int, ¬ 1000000000000000000 ≤ c → runF (ms_source c) 5 [.scr ns, .d (.int k)] h = .ok (.ob (.mem h.length)) [] (h ++ [.lst [.int 0, .int (seed2 c k), .int pr]]) := fun c kb => by
      obtain ⟨m2, m3⟩ := src_facts c lk
      simp [ms_source, env0, kl, d1, m1, m2, m3, d2, pw, kb, d3, ix, g, seed2, seed1]
    exact gen 0 (by omega)
end K52
namespace DL
open PySem PySem.Spec L2
variable [WorldC]
/-- a loop that keeps something, the store free to change -/
theorem for_inv {f : P → M Fl} {I : List P → DL.Env → Hh → Prop} (N : Nat) : ∀ (ds done : List P) (e : DL.Env) (h : Hh), done.length + ds.length ≤ N → (∀ done, ∀ d ∈ ds, ∀ e h, done.length < N → I done e h → ∃ e' h', f d e h = .ok .next e' h' ∧ I (done ++ [d]) e' h') → I done e h → ∃ e' h', forGo f ds e h = .ok .next e' h' ∧ I (done ++ ds) e' h'
  | [], done, e, h, _, _, k => ⟨e, h, rfl, by simpa using k⟩
  | d :: ds, done, e, h, l, H, k => by
    simp only [List.length_cons] at l
    obtain ⟨e1, h1, q, k1⟩ := H done d List.mem_cons_self e h (by omega) k
    obtain ⟨e2, h2, q2, k2⟩ := for_inv N ds (done ++ [d]) e1 h1 (by simp only [List.length_append, List.length_cons, List.length_nil]; omega) (fun dn d hd => H dn d (List.mem_cons_of_mem _ hd)) k1
    refine ⟨e2, h2, ?_, by simpa using k2⟩
    simp only [forGo, q, R.bind_ok, whEnd]
    exact q2
inductive All2 {α β : Type} (Q : α → β → Prop) : List α → List β → Prop where
  | nil : All2 Q [] []
  | cons {a : α} {b : β} {as : List α} {bs : List β} : Q a b → All2 Q as bs → All2 Q (a :: as) (b :: bs)
/-- a comprehension that keeps something of the store, one element each turn -/
theorem lc_inv {own : List Nat} {fe : P → M (List P)} {I : Hh → Prop} {Q : P → P → Prop} {ew : DL.Env} : ∀ (ds acc : List P) (h : Hh), (∀ d ∈ ds, ∀ h, I h → ∃ r e1 h1, fe d ew h = .ok [r] e1 h1 ∧ wipeE e1 own = ew ∧ Q d r ∧ I h1) → I h → ∃ rs h', lcGo own fe ds acc ew h = .ok (acc ++ rs) ew h' ∧ All2 Q ds rs ∧ I h'
  | [], acc, h, _, k => ⟨[], h, by simp [lcGo], .nil, k⟩
  | d :: ds, acc, h, H, k => by
    obtain ⟨r, e1, h1, q, w, z, k1⟩ := H d List.mem_cons_self h k
    obtain ⟨rs, h2, q2, z2, k2⟩ := lc_inv ds (acc ++ [r]) h1 (fun d hd => H d (List.mem_cons_of_mem _ hd)) k1
    refine ⟨r :: rs, h2, ?_, .cons z z2, k2⟩
    simp only [lcGo, q, w]
    rw [q2]
    simp
theorem lc_inv' {own : List Nat} {fe : P → M (List P)} {I : Hh → Prop} {Q : P → P → Prop} {ds : List P} {e : DL.Env} {h : Hh} (ew : DL.Env) (hw : wipeE e own = ew) (H : ∀ d ∈ ds, ∀ h, I h → ∃ r e1 h1, fe d ew h = .ok [r] e1 h1 ∧ wipeE e1 own = ew ∧ Q d r ∧ I h1) (k : I h) : ∃ rs h', endLc own fe ds e h = .ok (.d (.list rs)) (restE e ew own) h' ∧ All2 Q ds rs ∧ I h' := by
  obtain ⟨rs, h', q, z, k'⟩ := lc_inv ds [] h H k
  refine ⟨rs, h', ?_, z, k'⟩
  unfold endLc
  rw [hw, q]
  simp
end DL
namespace K52
open PySem PySem.Spec L2 DL
variable [WorldC]
theorem ix_in {l : Nat} {r : Int} (r0 : 0 ≤ r) (r1 : r < l) : ixP l r = some r.toNat := by
  unfold ixP
  rw [if_pos r0, if_pos r1]
theorem p_chosen {n : Nat} {h : Hh} {ds : List P} (S : Src n h) (l0 : ds ≠ []) (l1 : ds.length < 1073741824) : ∃ d h', F__law_chosen [.ob (.mem n), .d (.list ds)] h = .ok (.d d) [] h' ∧ d ∈ ds ∧ Src n h' := by
  have ln : 0 < ds.length := List.length_pos_iff.mpr l0
  obtain ⟨r, h', q, r0, r1, S'⟩ := p_pick S (lim := ds.length) (by omega) (by omega)
  have hr : r.toNat < ds.length := by omega
  refine ⟨ds[r.toNat], h', ?_, List.getElem_mem hr, S'⟩
  simp [F__law_chosen, m__law_chosen, env0, q, ix_in r0 r1, hr]
theorem p_chosen_t {n : Nat} {h : Hh} {ds : List P} (S : Src n h) (l0 : ds ≠ []) (l1 : ds.length < 1073741824) : ∃ d h', F__law_chosen [.ob (.mem n), .d (.tuple ds)] h = .ok (.d d) [] h' ∧ d ∈ ds ∧ Src n h' := by
  have ln : 0 < ds.length := List.length_pos_iff.mpr l0
  obtain ⟨r, h', q, r0, r1, S'⟩ := p_pick S (lim := ds.length) (by omega) (by omega)
  have hr : r.toNat < ds.length := by omega
  refine ⟨ds[r.toNat], h', ?_, List.getElem_mem hr, S'⟩
  simp [F__law_chosen, m__law_chosen, env0, q, ix_in r0 r1, hr]
theorem p_mixed {n : Nat} {h : Hh} {ds : List P} (S : Src n h) (l1 : ds.length < 1000000) : ∃ rs h', F__law_mixed [.ob (.mem n), .d (.list ds)] h = .ok (.d (.list rs)) [] h' ∧ rs.Perm ds ∧ Src n h' := by
  obtain ⟨e', h', q, rs, c, rfl, pm, S'⟩ := for_inv (f := forTurn (.nm 3) (b__law_mixed_1 F__law_pick)) (I := fun done e h => ∃ rs c, e = [.val (.ob (.mem n)), .val (.d (.list ds)), .obj (.lst rs), c] ∧ rs.Perm done ∧ Src n h) ds.length ds [] [.val (.ob (.mem n)), .val (.d (.list ds)), .obj (.lst []), .no] h (by simp) (fun done d hd e h l ⟨rs, c, ke, pm, S⟩ => by
    subst ke
    have lr := pm.length_eq
    obtain ⟨r, h', q, r0, r1, S'⟩ := p_pick S (lim := rs.length + 1) (by omega) (by omega)
    have im : insertM rs [.int r, d] = some (.none, rs.take r.toNat ++ [d] ++ rs.drop r.toNat) := if_pos (by omega)
    refine ⟨[.val (.ob (.mem n)), .val (.d (.list ds)), .obj (.lst (rs.take r.toNat ++ [d] ++ rs.drop r.toNat)), .val (.d d)], h', ?_, rs.take r.toNat ++ [d] ++ rs.drop r.toNat, _, rfl, ?_, S'⟩
    · have lb : min r.toNat rs.length + (rs.length - r.toNat + 1) ≤ 16777216 := by omega
      simp [b__law_mixed_1, q, im, lb]
    · have p1 : (rs.take r.toNat ++ [d] ++ rs.drop r.toNat).Perm ([d] ++ (rs.take r.toNat ++ rs.drop r.toNat)) := by
        rw [← List.append_assoc]
        exact List.Perm.append_right _ List.perm_append_comm
      rw [List.take_append_drop] at p1
      exact p1.trans ((List.Perm.append_left _ pm).trans List.perm_append_comm)) ⟨[], .no, rfl, .refl _, S⟩
  refine ⟨rs, h', ?_, by simpa using pm, S'⟩
  simp [F__law_mixed, m__law_mixed, env0, q]
end K52
namespace DL
open PySem PySem.Spec L2
variable [WorldC]
theorem depth_int (x : Int) : (PyData.int x).depth ≤ 1 := by simp [PyData.depth]
theorem depth_bool (x : Bool) : (PyData.bool x).depth ≤ 1 := by simp [PyData.depth]
theorem sh_of {p q : P} (h : p.depth ≤ 100 ∨ q.depth ≤ 100) (np : nod p = true) (nq : nod q = true) : shallow p q = true := by
  unfold shallow
  rw [np, nq, decide_eq_true (by omega)]
  rfl
theorem op_eq_i {x y : Int} : eqP [.int x, .int y] = some (.bool (decide (x = y))) := by
  simp only [eqP, if_pos (sh_of (p := .int x) (q := .int y) (.inl (Nat.le_trans (depth_int x) (by decide))) rfl rfl)]
  by_cases k : x = y <;> simp [PyData.eqv, k]
theorem op_ne_i {x y : Int} : neP [.int x, .int y] = some (.bool (!decide (x = y))) := by
  simp only [neP, if_pos (sh_of (p := .int x) (q := .int y) (.inl (Nat.le_trans (depth_int x) (by decide))) rfl rfl)]
  by_cases k : x = y <;> simp [PyData.eqv, k]
theorem op_eq_b {x y : Bool} : eqP [.bool x, .bool y] = some (.bool (x == y)) := by
  simp only [eqP, if_pos (sh_of (p := .bool x) (q := .bool y) (.inl (Nat.le_trans (depth_bool x) (by decide))) rfl rfl)]
  cases x <;> cases y <;> simp [PyData.eqv]
theorem op_ne_b {x y : Bool} : neP [.bool x, .bool y] = some (.bool (!(x == y))) := by
  simp only [neP, if_pos (sh_of (p := .bool x) (q := .bool y) (.inl (Nat.le_trans (depth_bool x) (by decide))) rfl rfl)]
  cases x <;> cases y <;> simp [PyData.eqv]
theorem depth_nil : (PyData.list []).depth ≤ 1 := by simp [PyData.depth, PyData.depthAll]
theorem eq_nil (ds : List P) (n : nods ds = true) : eqP [.list ds, .list []] = some (.bool ds.isEmpty) := by
  simp only [eqP, if_pos (sh_of (p := .list ds) (q := .list []) (.inr (Nat.le_trans depth_nil (by decide))) n rfl)]
  cases ds <;> simp [PyData.eqv, PyData.eqvAll]
theorem ne_nil (ds : List P) (n : nods ds = true) : neP [.list ds, .list []] = some (.bool !ds.isEmpty) := by
  simp only [neP, if_pos (sh_of (p := .list ds) (q := .list []) (.inr (Nat.le_trans depth_nil (by decide))) n rfl)]
  cases ds <;> simp [PyData.eqv, PyData.eqvAll]
end DL
namespace K52
open PySem PySem.Spec L2 DL
variable [WorldC]
def riseF (l : Str) : List Str → Bool
  | [] => true
  | x :: r => strLt l x && riseF x r
theorem rising_c (x : Str) : ∀ (r : List Str), rising (x :: r) = riseF x r
  | [] => rfl
  | y :: r => by
    have := rising_c y r
    unfold riseF
    rw [← this]
    rfl
theorem strs_of (xs : List Str) : strsOf (xs.map .str) = some xs := by
  induction xs with
  | nil => rfl
  | cons x xs ih => simp [strsOf, ih]
theorem riseF_up : ∀ (x : Str) (r : List Str), riseF x r = true ↔ UpS (x :: r)
  | x, [] => by simp [riseF, UpS]
  | x, y :: r => by
    have ih := riseF_up y r
    unfold riseF
    rw [Bool.and_eq_true, ih]
    constructor
    · rintro ⟨h1, h2⟩
      refine List.pairwise_cons.mpr ⟨fun z hz => ?_, h2⟩
      rcases List.mem_cons.mp hz with e | e
      · subst e; exact h1
      · exact strLt_trans h1 ((List.pairwise_cons.mp h2).1 z e)
    · intro h
      obtain ⟨h1, h2⟩ := List.pairwise_cons.mp h
      exact ⟨h1 y List.mem_cons_self, h2⟩
theorem rising_up (xs : List Str) : rising xs = true ↔ UpS xs := by
  cases xs with
  | nil => simp [rising, UpS]
  | cons x r => rw [rising_c]; exact riseF_up x r
theorem rising_sort (xs : List Str) : rising xs = decide (xs = sortU xs) := by
  rw [Bool.eq_iff_iff, decide_eq_true_eq, rising_up]
  constructor
  · exact fun h => up_uniq h up_sortU fun z => mem_sortU.symm
  · intro h
    rw [h]
    exact up_sortU
theorem eqv_strs : ∀ (xs ys : List Str), PyData.eqvAll (xs.map .str) (ys.map .str) = decide (xs = ys)
  | [], [] => by simp [PyData.eqvAll]
  | [], y :: ys => by simp [PyData.eqvAll]
  | x :: xs, [] => by simp [PyData.eqvAll]
  | x :: xs, y :: ys => by
    simp only [List.map_cons, PyData.eqvAll]
    rw [eqv_strs xs ys]
    have e := eqv_str x y
    rw [e]
    simp [Bool.decide_and]
theorem depth_strs (xs : List Str) : (PyData.list (xs.map .str)).depth ≤ 3 := by
  have : PyData.depthAll (xs.map .str) ≤ 2 := by
    induction xs with
    | nil => simp [PyData.depthAll]
    | cons x xs ih =>
      have := depth_str x
      simp only [List.map_cons, PyData.depthAll]
      omega
  simp only [PyData.depth]
  omega
end K52
namespace DL
open PySem PySem.Spec L2
variable [WorldC]
theorem leD_s (x y : Str) : leD (.str x) (.str y) = !strLt y x := by
  show (!PySem.W.dataLt (.str y) (.str x)) = _
  rw [PySem.W.dataLt_str]
  rfl
theorem sortable_s (xs : List Str) : sortable (xs.map .str) = true := by
  unfold sortable allAlike
  simp [PySem.W.alike, noTup, PyData.depth]
theorem sorted_s {xs : List Str} (nd : xs.Nodup) : sortedP [.list (xs.map .str)] = some (.list ((sortU xs).map .str)) := by
  have e : (xs.map PyData.str).mergeSort leD = (xs.mergeSort fun a b => !strLt b a).map .str := (List.map_mergeSort (f := PyData.str) (s := leD) (r := fun a b => !strLt b a) fun a _ b _ => (leD_s a b).symm).symm
  have u : xs.mergeSort (fun a b => !strLt b a) = sortU xs := by
    refine up_uniq ?_ up_sortU fun z => by rw [mem_sortU, List.mem_mergeSort]
    have p1 := List.pairwise_mergeSort (le := fun a b : Str => !strLt b a) (fun a b c h1 h2 => by
      simp only [Bool.not_eq_true'] at *
      cases k : strLt c a with
      | false => rfl
      | true =>
        by_cases e : b = a
        · subst e; rw [h2] at k; cases k
        · have := strLt_trans k (strLt_total (fun z => e z) h1)
          rw [h2] at this
          cases this) (fun a b => by
      simp only [Bool.or_eq_true, Bool.not_eq_true']
      cases k : strLt b a with
      | false => exact .inl rfl
      | true =>
        cases k2 : strLt a b with
        | false => exact .inr rfl
        | true => have := strLt_trans k k2; rw [strLt_irrefl] at this; cases this) xs
    have p2 : (xs.mergeSort fun a b => !strLt b a).Nodup := (List.mergeSort_perm _ _).nodup_iff.mpr nd
    exact (p1.and p2).imp fun {a b} ⟨h1, h2⟩ => strLt_total (fun z => h2 z.symm) (by simpa using h1)
  simp only [sortedP, sortable_s, if_true, e, u]
theorem sortU_perm {xs : List Str} (nd : xs.Nodup) : (sortU xs).Perm xs := (List.perm_ext_iff_of_nodup (up_nodup up_sortU) nd).mpr fun z => mem_sortU
theorem at_ints (l : List Int) {r : Int} (r0 : 0 ≤ r) (r1 : r < l.length) : ∃ x, x ∈ l ∧ (l.map PyData.int)[r.toNat]? = some (.int x) := by
  have h : r.toNat < l.length := by omega
  exact ⟨l[r.toNat], List.getElem_mem h, by rw [List.getElem?_map, List.getElem?_eq_getElem h]; rfl⟩
end DL
namespace K52
open PySem PySem.Spec L2 DL
variable [WorldC]
theorem many_snoc (fs : List Fd) (f : Fd) : manyF (fs ++ [f]) = manyF fs * wd f := by simp [manyF]
def fnames : List Str := ["a", "b", "left", "n", "zz", "abcdefgh"]
theorem fnames_ok : ∀ x ∈ fnames, nmS x = true := by decide +kernel
theorem fnames_nd : fnames.Nodup := by decide +kernel
theorem fields_turn' {n : Nat} {h : Hh} {most many : Int} {x : Str} {names : DV} {found : List Fd} {c5 c6 c7 : Cel} (S : Src n h) (m1 : 1 ≤ many) (m2 : many ≤ most) (m3 : most ≤ 60) (hx : nmS x = true) (lf : found.length ≤ 10) :
    ∃ f c6' c7' h', forTurn (.nm 5) (b__law_drawn_fields_1 F__law_mixed F__law_pick) (.str x) [.val (.ob (.mem n)), .val (.d (.int most)), .val names, .obj (.lst (found.map Fd.p)), .val (.d (.int many)), c5, c6, c7] h = .ok .next [.val (.ob (.mem n)), .val (.d (.int most)), .val names, .obj (.lst ((found ++ [f]).map Fd.p)), .val (.d (.int (many * wd f))), .val (.d (.str x)), c6', c7'] h' ∧
      f.nm = x ∧ fdOk f.nm f.lo f.hi = true ∧ 1 ≤ many * wd f ∧ many * wd f ≤ most ∧ Src n h' := by
  obtain ⟨r1, h1, q1, r10, r11, S1⟩ := p_pick S (lim := 3) (by omega) (by omega)
  obtain ⟨w, wm, wa⟩ := at_ints [6, 6, 41] r10 r11
  simp only [List.map_cons, List.map_nil] at wa
  have w1 : 6 ≤ w ∧ w ≤ 41 := by simp at wm; omega
  have x1 : ixP 3 r1 = some r1.toNat := ix_in r10 r11
  have dv : fdivP [.int most, .int many] = some (.int (most / many)) := op_fdiv (by omega)
  have q0 : 1 ≤ most / many := by rw [Int.le_ediv_iff_mul_le (by omega)]; omega
  have q6 : many * (most / many) ≤ most := Int.mul_ediv_self_le (by omega)
  obtain ⟨lim, hlim⟩ : ∃ lim, lim = if most / many < w then most / many else w := ⟨_, rfl⟩
  have lim1 : 1 ≤ lim ∧ lim ≤ 41 ∧ lim ≤ most / many := by rw [hlim]; split <;> omega
  obtain ⟨r2, h2, q2, r20, r21, S2⟩ := p_pick S1 (lim := lim) (by omega) (by omega)
  obtain ⟨r3, h3, q3, r30, r31, S3⟩ := p_pick S2 (lim := 20) (by omega) (by omega)
  obtain ⟨r4, h4, q4, r40, r41, S4⟩ := p_pick S3 (lim := 6) (by omega) (by omega)
  obtain ⟨lo, lm, la⟩ := at_ints [0, 0, -1, 0 - r3, 20, -20] r40 r41
  simp only [List.map_cons, List.map_nil] at la
  have lo1 : -20 ≤ lo ∧ lo ≤ 20 := by simp at lm; omega
  have x4 : ixP 6 r4 = some r4.toNat := ix_in r40 r41
  obtain ⟨low, hlow⟩ : ∃ low, low = if 21 - (1 + r2) < lo then 21 - (1 + r2) else lo := ⟨_, rfl⟩
  have low1 : -20 ≤ low ∧ low ≤ 21 - (1 + r2) := by rw [hlow]; split <;> omega
  have mu : mulP [.int many, .int (1 + r2)] = some (.int (many * (1 + r2))) := mul_i (by omega)
  have wf : wd ⟨x, low, low + (1 + r2) - 1⟩ = 1 + r2 := by simp only [wd]; omega
  have b1 : many * (1 + r2) ≤ many * (most / many) := Int.mul_le_mul_of_nonneg_left (by omega) (by omega)
  have b2 : many * 1 ≤ many * (1 + r2) := Int.mul_le_mul_of_nonneg_left (by omega) (by omega)
  refine ⟨⟨x, low, low + (1 + r2) - 1⟩, .val (.d (.int (1 + r2))), .val (.d (.int low)), h4, ?_, rfl, ?_, ?_, ?_, S4⟩
  · have lf2 : found.length + 1 ≤ 16777216 := by omega
    rw [wf]
    simp only [Int.zero_sub] at la
    simp [b__law_drawn_fields_1, q1, x1, wa, dv, min_i, ← hlim, q2, q3, q4, x4, la, ← hlow, lf2, mu, Fd.p]
  · simp only [fdOk, isInt, hx, Bool.true_and, Bool.and_eq_true, decide_eq_true_eq]; omega
  · rw [wf]; omega
  · rw [wf]; omega
end K52
namespace DL
open PySem PySem.Spec L2
variable [WorldC]
theorem parse_back {α : Type} {g : P → Option α} {p : α → P} : ∀ {l : List α}, (∀ a ∈ l, g (p a) = some a) → parse g (l.map p) = some l
  | [], _ => rfl
  | a :: l, h => by
    rw [List.map_cons, parse_c, h a List.mem_cons_self, parse_back fun b hb => h b (List.mem_cons_of_mem _ hb)]
def unS : P → Option Str
  | .str x => some x
  | _ => none
theorem perm_strs {rs : List P} {xs : List Str} (h : rs.Perm (xs.map .str)) : ∃ ys : List Str, rs = ys.map .str ∧ ys.Perm xs := by
  have e : ∀ zs : List Str, (zs.map PyData.str).filterMap unS = zs := fun zs => by
    induction zs with
    | nil => rfl
    | cons z zs ih => simp [unS, ih]
  refine ⟨rs.filterMap unS, ?_, ?_⟩
  · have m : ∀ d ∈ rs, ∃ x, d = .str x := fun d hd => by
      obtain ⟨x, _, rfl⟩ := List.mem_map.mp (h.mem_iff.mp hd)
      exact ⟨x, rfl⟩
    clear h
    induction rs with
    | nil => rfl
    | cons d rs ih =>
      obtain ⟨x, rfl⟩ := m d List.mem_cons_self
      simp only [unS, List.filterMap_cons, List.map_cons]
      rw [← ih fun d hd => m d (List.mem_cons_of_mem _ hd)]
  · have := h.filterMap unS
    rwa [e] at this
theorem sub_len {α : Type} [DecidableEq α] : ∀ {xs ys : List α}, xs.Nodup → (∀ x ∈ xs, x ∈ ys) → xs.length ≤ ys.length
  | [], ys, _, _ => by simp
  | x :: xs, ys, nd, h => by
    obtain ⟨n1, n2⟩ := List.nodup_cons.mp nd
    have hx := h x List.mem_cons_self
    have := sub_len (xs := xs) (ys := ys.erase x) n2 fun z hz => (List.mem_erase_of_ne (fun e => by subst e; exact n1 hz)).mpr (h z (List.mem_cons_of_mem _ hz))
    rw [List.length_erase_of_mem hx] at this
    have := List.length_pos_of_mem hx
    simp only [List.length_cons]
    omega
/-- a comprehension with a drawn test -/
theorem lc_sub {own : List Nat} {fe : P → M (List P)} {I : Hh → Prop} {ew : DL.Env} : ∀ (ds acc : List P) (h : Hh), (∀ d ∈ ds, ∀ h, I h → ∃ (b : Bool) (e1 : DL.Env) (h1 : Hh), fe d ew h = .ok (if b = true then [d] else []) e1 h1 ∧ wipeE e1 own = ew ∧ I h1) → I h → ∃ rs h', lcGo own fe ds acc ew h = .ok (acc ++ rs) ew h' ∧ rs.Sublist ds ∧ I h'
  | [], acc, h, _, k => ⟨[], h, by simp [lcGo], .refl _, k⟩
  | d :: ds, acc, h, H, k => by
    obtain ⟨b, e1, h1, q, w, k1⟩ := H d List.mem_cons_self h k
    obtain ⟨rs, h2, q2, z2, k2⟩ := lc_sub ds (acc ++ if b = true then [d] else []) h1 (fun d hd => H d (List.mem_cons_of_mem _ hd)) k1
    refine ⟨(if b = true then [d] else []) ++ rs, h2, ?_, ?_, k2⟩
    · simp only [lcGo, q, w]
      rw [q2, List.append_assoc]
    · cases b with
      | true => exact z2.cons_cons d
      | false => exact z2.cons d
theorem lc_sub' {own : List Nat} {fe : P → M (List P)} {I : Hh → Prop} {ds : List P} {e : DL.Env} {h : Hh} (ew : DL.Env) (hw : wipeE e own = ew) (H : ∀ d ∈ ds, ∀ h, I h → ∃ (b : Bool) (e1 : DL.Env) (h1 : Hh), fe d ew h = .ok (if b = true then [d] else []) e1 h1 ∧ wipeE e1 own = ew ∧ I h1) (k : I h) : ∃ rs h', endLc own fe ds e h = .ok (.d (.list rs)) (restE e ew own) h' ∧ rs.Sublist ds ∧ I h' := by
  obtain ⟨rs, h', q, z, k'⟩ := lc_sub ds [] h H k
  refine ⟨rs, h', ?_, z, k'⟩
  unfold endLc
  rw [hw, q]
  simp
theorem All2.len {α β : Type} {Q : α → β → Prop} : ∀ {as : List α} {bs : List β}, All2 Q as bs → as.length = bs.length
  | _, _, .nil => rfl
  | _, _, .cons _ b => by simp [b.len]
end DL
namespace K52
open PySem PySem.Spec L2 DL
variable [WorldC]
theorem itemF_back {f : Fd} (h : fdOk f.nm f.lo f.hi = true) : itemF f.p = some f := by
  unfold Fd.p itemF
  simp only [h, if_true]
theorem p_fields {n : Nat} {h : Hh} {most : Int} (S : Src n h) (m0 : 1 ≤ most) (m3 : most ≤ 60) : ∃ fs h', F__law_drawn_fields [.ob (.mem n), .d (.int most)] h = .ok (.d (fds fs)) [] h' ∧ fieldsO (fds fs) = some fs ∧ manyF fs ≤ most ∧ Src n h' := by
  obtain ⟨rs, h1, q1, pm, S1⟩ := p_mixed S (ds := fnames.map .str) (by simp [fnames])
  obtain ⟨xs, rfl, px⟩ := perm_strs pm
  have q1' := q1
  simp only [fnames, List.map_cons, List.map_nil] at q1'
  obtain ⟨r, h2, q2, r0, r1, S2⟩ := p_pick S1 (lim := 3) (by omega) (by omega)
  obtain ⟨k, rfl⟩ : ∃ k : Nat, r = (k : Int) := ⟨r.toNat, by omega⟩
  obtain ⟨ys, hys⟩ : ∃ ys, ys = xs.take (1 + k) := ⟨_, rfl⟩
  have ct : cutL (xs.map PyData.str) none (some (1 + (k : Int))) = ys.map .str := by
    rw [hys, List.map_take]
    exact_mod_cast cut_to (xs.map PyData.str) (1 + k)
  have nd : ys.Nodup := hys ▸ (px.nodup_iff.mpr fnames_nd).sublist (List.take_sublist _ _)
  have so := sorted_s nd
  have lx : xs.length = 6 := px.length_eq
  have ln : (sortU (ys)).length = 1 + k := by rw [(sortU_perm nd).length_eq, hys, List.length_take]; omega
  have ok : ∀ x ∈ sortU (ys), nmS x = true := fun x hx => fnames_ok x (px.mem_iff.mp (List.mem_of_mem_take (hys ▸ mem_sortU.mp hx)))
  obtain ⟨e', h', q, found, c5, c6, c7, rfl, hd, hok, hm1, hm2, S'⟩ := for_inv (f := forTurn (.nm 5) (b__law_drawn_fields_1 F__law_mixed F__law_pick)) (I := fun done e h => ∃ (found : List Fd) (c5 c6 c7 : Cel), e = [.val (.ob (.mem n)), .val (.d (.int most)), .val (.d (.list ((sortU (ys)).map .str))), .obj (.lst (found.map Fd.p)), .val (.d (.int (manyF found))), c5, c6, c7] ∧ done = (found.map Fd.nm).map .str ∧ (∀ f ∈ found, fdOk f.nm f.lo f.hi = true) ∧ 1 ≤ manyF found ∧ manyF found ≤ most ∧ Src n h) 10 ((sortU (ys)).map .str) [] [.val (.ob (.mem n)), .val (.d (.int most)), .val (.d (.list ((sortU (ys)).map .str))), .obj (.lst []), .val (.d (.int 1)), .no, .no, .no] h2 (by simp [ln]; omega) (fun done d hd e h l ⟨found, c5, c6, c7, ke, kd, ko, k1, k2, S⟩ => by
    subst ke
    obtain ⟨x, hx, rfl⟩ := List.mem_map.mp hd
    have lf : found.length ≤ 10 := by rw [kd] at l; simp at l; omega
    obtain ⟨f, c6', c7', h', t, t1, t2, t3, t4, S'⟩ := fields_turn' (names := .d (.list ((sortU (ys)).map .str))) (c5 := c5) (c6 := c6) (c7 := c7) S k1 k2 m3 (ok x hx) lf
    refine ⟨_, h', t, found ++ [f], _, _, _, by rw [many_snoc], by simp [kd, t1], fun g hg => ?_, by rw [many_snoc]; exact t3, by rw [many_snoc]; exact t4, S'⟩
    rcases List.mem_append.mp hg with z | z
    · exact ko g z
    · rw [List.mem_singleton.mp z]; exact t2) ⟨[], _, _, _, rfl, rfl, (fun f hf => by cases hf), by simp [manyF], by simpa [manyF] using m0, S2⟩
  have hn : found.map Fd.nm = sortU (ys) := by
    have := (List.map_inj_right (f := PyData.str) (fun a b e => by cases e; rfl)).mp hd
    exact this.symm
  refine ⟨found, h', ?_, ?_, hm2, S'⟩
  · simp [F__law_drawn_fields, m__law_drawn_fields, env0, q1', q2, ct, so, q, fds]
  · have lf : found.length = 1 + k := by rw [← ln, ← hn, List.length_map]
    have ht : isTp (fds found) 1 3 = true := by simp only [fds, isTp, List.length_map, Bool.and_eq_true, decide_eq_true_eq]; omega
    have hp := parse_back (g := itemF) (p := Fd.p) fun f hf => itemF_back (hok f hf)
    have hr : rising (found.map Fd.nm) = true := by rw [hn, rising_up]; exact up_sortU
    have hk : fdsOk found = true := by simp only [fdsOk, hr, Bool.and_true, decide_eq_true_eq]; omega
    unfold fieldsO fds
    simp only [fds] at ht
    simp only [ht, if_true, hp, hk]
end K52
namespace K52
open PySem PySem.Spec L2 DL
variable [WorldC]
theorem fd_bounds {f : Fd} (h : fdOk f.nm f.lo f.hi = true) : -20 ≤ f.lo ∧ f.lo ≤ f.hi ∧ f.hi ≤ 20 := by
  simp only [fdOk, isInt, Bool.and_eq_true, decide_eq_true_eq] at h
  omega
def inFd (d r : P) : Prop := ∀ f : Fd, d = f.p → ∃ i : Int, r = .int i ∧ f.lo ≤ i ∧ i ≤ f.hi
theorem fd_inj {f g : Fd} (h : f.p = g.p) : f = g := by
  cases f; cases g
  simp only [Fd.p, PyData.tuple.injEq, List.cons.injEq, PyData.str.injEq, PyData.int.injEq, and_true] at h
  obtain ⟨h1, h2, h3⟩ := h
  subst h1 h2 h3
  rfl
theorem st_of : ∀ {fs : List Fd} {rs : List P}, All2 inFd (fs.map Fd.p) rs → ∃ st : List Int, rs = st.map .int ∧ st.length = fs.length ∧ ((rs.zip fs).all fun z => isInt z.1 z.2.lo z.2.hi) = true
  | [], _, h => by cases h; exact ⟨[], rfl, rfl, rfl⟩
  | f :: fs, _, h => by
    cases h with
    | cons a b =>
      obtain ⟨i, rfl, i1, i2⟩ := a f rfl
      obtain ⟨st, rfl, l, z⟩ := st_of b
      refine ⟨i :: st, rfl, by simp [l], ?_⟩
      simp only [List.zip_cons_cons, List.all_cons, z, Bool.and_true, isInt, Bool.and_eq_true, decide_eq_true_eq]
      exact ⟨⟨i1, i2⟩, by first | exact z | simpa using z⟩
theorem intsOf_map (st : List Int) : intsOf (st.map .int) = some st := by
  induction st with
  | nil => rfl
  | cons x xs ih => simp [intsOf, ih]
theorem p_state {n : Nat} {h : Hh} {fs : List Fd} (S : Src n h) (hf : ∀ f ∈ fs, fdOk f.nm f.lo f.hi = true) : ∃ st h', F__law_drawn_state [.ob (.mem n), .d (fds fs)] h = .ok (.d (stP st)) [] h' ∧ stO fs (stP st) = some st ∧ Src n h' := by
  obtain ⟨rs, h', lc, al, S'⟩ := lc_inv' (own := [2, 3, 4, 5]) (fe := l__law_drawn_state_1 F__law_pick) (I := Src n) (Q := inFd) (ds := fs.map Fd.p) (e := [.val (.ob (.mem n)), .val (.d (fds fs)), .no, .no, .no, .no]) (h := h) [.val (.ob (.mem n)), .val (.d (fds fs)), .no, .no, .no, .no] rfl (fun d hd h S => by
    obtain ⟨f, hf', rfl⟩ := List.mem_map.mp hd
    have b := fd_bounds (hf f hf')
    obtain ⟨r, h1, q1, r0, r1, S1⟩ := p_pick S (lim := f.hi - f.lo + 1) (by omega) (by omega)
    refine ⟨.int (f.lo + r), [.val (.ob (.mem n)), .val (.d (fds fs)), .no, .val (.d (.str f.nm)), .val (.d (.int f.lo)), .val (.d (.int f.hi))], h1, by simp [l__law_drawn_state_1, Fd.p, q1], rfl, fun g hg => ?_, S1⟩
    have := fd_inj hg
    subst this
    exact ⟨_, rfl, by omega, by omega⟩) S
  obtain ⟨st, rfl, l, z⟩ := st_of al
  refine ⟨st, h', ?_, ?_, S'⟩
  · simp only [fds] at lc
    simp [F__law_drawn_state, m__law_drawn_state, env0, fds, lc, stP]
  · have ht : isTp (.tuple (st.map .int)) fs.length fs.length = true := by simp only [isTp, List.length_map, Bool.and_eq_true, decide_eq_true_eq]; omega
    simp [stO, stP, stB, ht, z, intsOf_map]
theorem signs_p : signs.map PyData.str = [.str "is", .str "not", .str "least", .str "most"] := rfl
theorem itemC_back {ns : List Str} {c : Cn} (h : cnOk ns c.nm c.sg c.nr = true) : itemC ns c.p = some c := by
  unfold Cn.p itemC
  simp only [h, if_true]
theorem cond_turn' {n : Nat} {h : Hh} {fs : List Fd} {mo : DV} {found : List Cn} {d : P} {c4 c5 c6 c7 c8 c9 : Cel} (S : Src n h) (hf : ∀ f ∈ fs, fdOk f.nm f.lo f.hi = true) (ne : fs ≠ []) (l3 : fs.length ≤ 3) (lf : found.length ≤ 10) :
    ∃ c c4' c5' c6' c7' c8' c9' h', forTurn (.nm 4) (b__law_drawn_condition_1 F__law_chosen F__law_pick) d [.val (.ob (.mem n)), .val (.d (fds fs)), .val mo, .obj (.lst (found.map Cn.p)), c4, c5, c6, c7, c8, c9] h = .ok .next [.val (.ob (.mem n)), .val (.d (fds fs)), .val mo, .obj (.lst ((found ++ [c]).map Cn.p)), c4', c5', c6', c7', c8', c9'] h' ∧
      cnOk (fs.map Fd.nm) c.nm c.sg c.nr = true ∧ Src n h' := by
  obtain ⟨d', h1, q1, m1, S1⟩ := p_chosen_t S (ds := fs.map Fd.p) (by simpa using ne) (by simp; omega)
  obtain ⟨f, hf', rfl⟩ := List.mem_map.mp m1
  have b := fd_bounds (hf f hf')
  obtain ⟨r2, h2, q2, r20, r21, S2⟩ := p_pick S1 (lim := f.hi - f.lo + 1) (by omega) (by omega)
  obtain ⟨r3, h3, q3, r30, r31, S3⟩ := p_pick S2 (lim := 41) (by omega) (by omega)
  obtain ⟨d4, h4, q4, m4, S4⟩ := p_chosen S3 (ds := [.int f.lo, .int f.hi, .int (f.lo + r2), .int (f.lo - 1), .int (r3 - 20)]) (by simp) (by simp)
  obtain ⟨x, rfl, x1⟩ : ∃ x : Int, d4 = .int x ∧ -1000 ≤ x ∧ x ≤ 1000 := by
    simp only [List.mem_cons, List.not_mem_nil, or_false] at m4
    rcases m4 with rfl | rfl | rfl | rfl | rfl <;> exact ⟨_, rfl, by omega, by omega⟩
  obtain ⟨y, hy⟩ : ∃ y, y = if x < 20 then x else 20 := ⟨_, rfl⟩
  obtain ⟨z, hz⟩ : ∃ z, z = if y > -20 then y else -20 := ⟨_, rfl⟩
  have z1 : -20 ≤ z ∧ z ≤ 20 := by rw [hz, hy]; split <;> split <;> omega
  obtain ⟨d5, h5, q5, m5, S5⟩ := p_chosen S4 (ds := [.str "is", .str "not", .str "least", .str "most"]) (by simp) (by simp)
  rw [← signs_p] at m5
  obtain ⟨sg, hsg, rfl⟩ := List.mem_map.mp m5
  have lf2 : found.length + 1 ≤ 16777216 := by omega
  refine ⟨⟨f.nm, sg, z⟩, .val (.d d), .val (.d (.str f.nm)), .val (.d (.int f.lo)), .val (.d (.int f.hi)), .val (.d (.list [.int f.lo, .int f.hi, .int (f.lo + r2), .int (f.lo - 1), .int (r3 - 20)])), .val (.d (.int z)), h5, ?_, ?_, S5⟩
  · simp only [fds]
    have hy' : minP [.int 20, .int x] = some (.int y) := by rw [min_i, hy]
    have hz' : maxP [.int (-20), .int y] = some (.int z) := by rw [max_i, hz]
    simp only [Fd.p] at q1
    simp [b__law_drawn_condition_1, q1, Fd.p, q2, q3, q4, hy', hz', q5, lf2, Cn.p]
  · simp only [cnOk, hsg, isInt, decide_true, Bool.and_true, Bool.and_eq_true, decide_eq_true_eq]
    exact ⟨List.mem_map.mpr ⟨f, hf', rfl⟩, z1.1, z1.2⟩
theorem p_condition {n : Nat} {h : Hh} {fs : List Fd} {most : Int} (S : Src n h) (hf : ∀ f ∈ fs, fdOk f.nm f.lo f.hi = true) (ne : fs ≠ []) (l3 : fs.length ≤ 3) (m0 : 0 ≤ most) (m4 : most ≤ 4) : ∃ cs h', F__law_drawn_condition [.ob (.mem n), .d (fds fs), .d (.int most)] h = .ok (.d (.tuple (cs.map Cn.p))) [] h' ∧ condO (fs.map Fd.nm) (.tuple (cs.map Cn.p)) = some cs ∧ cs.length ≤ most ∧ Src n h' := by
  obtain ⟨r, h1, q1, r0, r1, S1⟩ := p_pick S (lim := most + 1) (by omega) (by omega)
  have ln : ((List.range r.toNat).map fun k : Nat => PyData.int k).length = r.toNat := by simp
  obtain ⟨e', h', q, found, c4, c5, c6, c7, c8, c9, rfl, hd, hok, S'⟩ := for_inv (f := forTurn (.nm 4) (b__law_drawn_condition_1 F__law_chosen F__law_pick)) (I := fun done e h => ∃ (found : List Cn) (c4 c5 c6 c7 c8 c9 : Cel), e = [.val (.ob (.mem n)), .val (.d (fds fs)), .val (.d (.int most)), .obj (.lst (found.map Cn.p)), c4, c5, c6, c7, c8, c9] ∧ found.length = done.length ∧ (∀ c ∈ found, cnOk (fs.map Fd.nm) c.nm c.sg c.nr = true) ∧ Src n h) 10 ((List.range r.toNat).map fun k : Nat => PyData.int k) [] [.val (.ob (.mem n)), .val (.d (fds fs)), .val (.d (.int most)), .obj (.lst []), .no, .no, .no, .no, .no, .no] h1 (by rw [ln]; simp; omega) (fun done d hd e h l ⟨found, c4, c5, c6, c7, c8, c9, ke, kd, ko, S⟩ => by
    subst ke
    obtain ⟨c, _, _, _, _, _, _, h', t, t1, S'⟩ := cond_turn' (mo := .d (.int most)) (d := d) (c4 := c4) (c5 := c5) (c6 := c6) (c7 := c7) (c8 := c8) (c9 := c9) S hf ne l3 (show found.length ≤ 10 by omega)
    refine ⟨_, h', t, found ++ [c], _, _, _, _, _, _, rfl, by simp [kd], fun g hg => ?_, S'⟩
    rcases List.mem_append.mp hg with z | z
    · exact ko g z
    · rw [List.mem_singleton.mp z]; exact t1) ⟨[], _, _, _, _, _, _, rfl, rfl, (fun f hf => by cases hf), S1⟩
  have lf : found.length = r.toNat := by simpa using hd
  refine ⟨found, h', ?_, ?_, by omega, S'⟩
  · have b0 : -4611686018427387904 ≤ r ∧ r ≤ 16777216 := by omega
    simp only [fds] at q
    simp [F__law_drawn_condition, m__law_drawn_condition, env0, q1, ev_endRng1, b0, q, fds]
  · have ht : isTp (.tuple (found.map Cn.p)) 0 4 = true := by simp only [isTp, List.length_map, Bool.and_eq_true, decide_eq_true_eq]; omega
    have hp := parse_back (g := itemC (fs.map Fd.nm)) (p := Cn.p) fun c hc => itemC_back (hok c hc)
    simp only [condO, ht, if_true, hp]
end K52
namespace K52
open PySem PySem.Spec L2 DL
variable [WorldC]
theorem itemE_back {ns : List Str} {c : Ef} (h : efOk ns c.nm c.wd c.op = true) : itemE ns c.p = some c := by
  unfold Ef.p itemE
  simp only [h, if_true]
theorem w_set : ("set" : Str) ≠ "copy" := by decide +kernel
theorem w_add : ("add" : Str) ≠ "copy" := by decide +kernel
theorem ef_int {ns : List Str} {x w : Str} {i : Int} (hx : x ∈ ns) (hw : w = "set" ∨ w = "add") (h : -20 ≤ i ∧ i ≤ 20) : efOk ns x w (.int i) = true := by
  have h1 : w ∈ words := by rcases hw with rfl | rfl <;> simp [words]
  have h2 : w ≠ "copy" := by rcases hw with rfl | rfl <;> first | exact w_set | exact w_add
  simp only [efOk, hx, h1, h2, if_false, isInt, decide_true, Bool.true_and, Bool.and_eq_true, decide_eq_true_eq]
  exact h
theorem ef_copy {ns : List Str} {x y : Str} (hx : x ∈ ns) (hy : y ∈ ns) : efOk ns x "copy" (.str y) = true := by
  have h1 : ("copy" : Str) ∈ words := by simp [words]
  simp only [efOk, hx, h1, if_true, isOf, hy, decide_true, Bool.true_and]
theorem eff_turn' {n : Nat} {h : Hh} {fs : List Fd} {f : Fd} {found : List Ef} {c2 c3 c4 c7 c8 : Cel} (S : Src n h) (hf : ∀ f ∈ fs, fdOk f.nm f.lo f.hi = true) (mf : f ∈ fs) (l3 : fs.length ≤ 3) (lf : found.length ≤ 10) :
    ∃ cs c7' h', forTurn (.tp (.cons (.nm 2) (.cons (.nm 3) (.cons (.nm 4) .nil)))) (b__law_drawn_effect_1 F__law_pick F__law_chosen) f.p [.val (.ob (.mem n)), .val (.d (fds fs)), c2, c3, c4, .val (.d (.list ((fs.map Fd.nm).map .str))), .obj (.lst (found.map Ef.p)), c7, c8] h = .ok .next [.val (.ob (.mem n)), .val (.d (fds fs)), .val (.d (.str f.nm)), .val (.d (.int f.lo)), .val (.d (.int f.hi)), .val (.d (.list ((fs.map Fd.nm).map .str))), .obj (.lst ((found ++ cs).map Ef.p)), c7', c8] h' ∧
      (cs = [] ∨ ∃ c, cs = [c] ∧ c.nm = f.nm) ∧ (∀ c ∈ cs, efOk (fs.map Fd.nm) c.nm c.wd c.op = true) ∧ Src n h' := by
  have b := fd_bounds (hf f mf)
  have mn : f.nm ∈ fs.map Fd.nm := List.mem_map.mpr ⟨f, mf, rfl⟩
  obtain ⟨r, h1, q1, r0, r1, S1⟩ := p_pick S (lim := 8) (by omega) (by omega)
  have lf2 : found.length + 1 ≤ 16777216 := by omega
  by_cases k1 : r < 3
  · obtain ⟨d, h2, q2, m2, S2⟩ := p_chosen S1 (ds := [.int 1, .int (-1), .int (-1), .int 2]) (by simp) (by simp)
    obtain ⟨i, rfl, i1⟩ : ∃ i : Int, d = .int i ∧ -20 ≤ i ∧ i ≤ 20 := by
      simp only [List.mem_cons, List.not_mem_nil, or_false] at m2
      rcases m2 with rfl | rfl | rfl | rfl <;> exact ⟨_, rfl, by omega, by omega⟩
    exact ⟨[⟨f.nm, "add", .int i⟩], .val (.d (.int r)), h2, by simp [b__law_drawn_effect_1, Fd.p, q1, k1, q2, lf2, Ef.p], .inr ⟨_, rfl, rfl⟩, (fun c hc => by rw [List.mem_singleton.mp hc]; exact ef_int mn (.inr rfl) i1), S2⟩
  by_cases k2 : r < 5
  · obtain ⟨r2, h2, q2, r20, r21, S2⟩ := p_pick S1 (lim := f.hi - f.lo + 1) (by omega) (by omega)
    exact ⟨[⟨f.nm, "set", .int (f.lo + r2)⟩], .val (.d (.int r)), h2, by simp [b__law_drawn_effect_1, Fd.p, q1, k1, k2, q2, lf2, Ef.p], .inr ⟨_, rfl, rfl⟩, (fun c hc => by rw [List.mem_singleton.mp hc]; exact ef_int mn (.inl rfl) (by omega)), S2⟩
  by_cases k3 : r = 5
  · obtain ⟨d, h2, q2, m2, S2⟩ := p_chosen S1 (ds := (fs.map Fd.nm).map .str) (by intro z; rw [List.map_eq_nil_iff, List.map_eq_nil_iff] at z; rw [z] at mf; cases mf) (by simp; omega)
    obtain ⟨y, hy, rfl⟩ := List.mem_map.mp m2
    rw [List.map_map] at q2
    exact ⟨[⟨f.nm, "copy", .str y⟩], .val (.d (.int r)), h2, by simp [b__law_drawn_effect_1, Fd.p, q1, k1, k2, k3, op_eq_i, q2, lf2, Ef.p], .inr ⟨_, rfl, rfl⟩, (fun c hc => by rw [List.mem_singleton.mp hc]; exact ef_copy mn hy), S2⟩
  by_cases k4 : r = 6
  · obtain ⟨r2, h2, q2, r20, r21, S2⟩ := p_pick S1 (lim := 3) (by omega) (by omega)
    by_cases k5 : r2 = 0
    · obtain ⟨d, h3, q3, m3, S3⟩ := p_chosen S2 (ds := [.str "set", .str "add"]) (by simp) (by simp)
      obtain ⟨w, rfl, hw⟩ : ∃ w : Str, d = .str w ∧ (w = "set" ∨ w = "add") := by
        simp only [List.mem_cons, List.not_mem_nil, or_false] at m3
        rcases m3 with rfl | rfl
        · exact ⟨_, rfl, .inl rfl⟩
        · exact ⟨_, rfl, .inr rfl⟩
      obtain ⟨r4, h4, q4, r40, r41, S4⟩ := p_pick S3 (lim := 41) (by omega) (by omega)
      exact ⟨[⟨f.nm, w, .int (r4 - 20)⟩], .val (.d (.int r)), h4, by simp [b__law_drawn_effect_1, Fd.p, q1, k4, op_eq_i, q2, k5, q3, q4, lf2, Ef.p], .inr ⟨_, rfl, rfl⟩, (fun c hc => by rw [List.mem_singleton.mp hc]; exact ef_int mn hw (by omega)), S4⟩
    · exact ⟨[], .val (.d (.int r)), h2, by simp [b__law_drawn_effect_1, Fd.p, q1, k4, op_eq_i, q2, k5], .inl rfl, (fun c hc => by cases hc), S2⟩
  · exact ⟨[], .val (.d (.int r)), h1, by simp [b__law_drawn_effect_1, Fd.p, q1, k1, k2, k3, k4, op_eq_i], .inl rfl, (fun c hc => by cases hc), S1⟩
theorem names_de (fs : List Fd) (n : Nat) (h : Hh) : endLc [8, 2, 3, 4] (l__law_drawn_effect_1 F__law_pick F__law_chosen) (fs.map Fd.p) [.val (.ob (.mem n)), .val (.d (fds fs)), .no, .no, .no, .no, .no, .no, .no] h = .ok (.d (.list ((fs.map Fd.nm).map .str))) [.val (.ob (.mem n)), .val (.d (fds fs)), .no, .no, .no, .no, .no, .no, .no] h := by
  have lc := lc_ok (own := [8, 2, 3, 4]) (fe := l__law_drawn_effect_1 F__law_pick F__law_chosen) (fun d => [it0 d]) (ds := fs.map Fd.p) (e := [.val (.ob (.mem n)), .val (.d (fds fs)), .no, .no, .no, .no, .no, .no, .no]) [.val (.ob (.mem n)), .val (.d (fds fs)), .no, .no, .no, .no, .no, .no, .no] (h := h) rfl (fun d hd => by
    obtain ⟨f, _, rfl⟩ := List.mem_map.mp hd
    exact ⟨[.val (.ob (.mem n)), .val (.d (fds fs)), .val (.d (.str f.nm)), .val (.d (.int f.lo)), .val (.d (.int f.hi)), .no, .no, .no, .no], by simp [l__law_drawn_effect_1, Fd.p, it0], rfl⟩)
  rw [flat_one, List.map_map] at lc
  rw [lc, List.map_map]
  rfl
theorem p_effect {n : Nat} {h : Hh} {fs : List Fd} (S : Src n h) (hf : ∀ f ∈ fs, fdOk f.nm f.lo f.hi = true) (l3 : fs.length ≤ 3) (ri : rising (fs.map Fd.nm) = true) : ∃ es h', F__law_drawn_effect [.ob (.mem n), .d (fds fs)] h = .ok (.d (.tuple (es.map Ef.p))) [] h' ∧ efsO (fs.map Fd.nm) (.tuple (es.map Ef.p)) = some es ∧ Src n h' := by
  obtain ⟨e', h', q, fs1, found, c2, c3, c4, c7, rfl, hd, hsub, hok, S'⟩ := for_inv (f := forTurn (.tp (.cons (.nm 2) (.cons (.nm 3) (.cons (.nm 4) .nil)))) (b__law_drawn_effect_1 F__law_pick F__law_chosen)) (I := fun done e h => ∃ (fs1 : List Fd) (found : List Ef) (c2 c3 c4 c7 : Cel), e = [.val (.ob (.mem n)), .val (.d (fds fs)), c2, c3, c4, .val (.d (.list ((fs.map Fd.nm).map .str))), .obj (.lst (found.map Ef.p)), c7, .no] ∧ done = fs1.map Fd.p ∧ (found.map Ef.nm).Sublist (fs1.map Fd.nm) ∧ (∀ c ∈ found, efOk (fs.map Fd.nm) c.nm c.wd c.op = true) ∧ Src n h) 3 (fs.map Fd.p) [] [.val (.ob (.mem n)), .val (.d (fds fs)), .no, .no, .no, .val (.d (.list ((fs.map Fd.nm).map .str))), .obj (.lst []), .no, .no] h (by simpa using l3) (fun done d hd e h l ⟨fs1, found, c2, c3, c4, c7, ke, kd, ks, ko, S⟩ => by
    subst ke
    obtain ⟨f, mf, rfl⟩ := List.mem_map.mp hd
    have lf : found.length ≤ 10 := by
      have l1 := ks.length_le
      rw [kd] at l
      simp only [List.length_map] at l l1
      omega
    obtain ⟨cs, c7', h', t, t1, t2, S'⟩ := eff_turn' (c2 := c2) (c3 := c3) (c4 := c4) (c7 := c7) (c8 := .no) S hf mf l3 lf
    refine ⟨_, h', t, fs1 ++ [f], found ++ cs, _, _, _, _, rfl, by simp [kd], ?_, fun g hg => ?_, S'⟩
    · rw [List.map_append, List.map_append]
      refine ks.append ?_
      rcases t1 with rfl | ⟨c, rfl, hc⟩
      · exact List.nil_sublist _
      · simp [hc]
    · rcases List.mem_append.mp hg with z | z
      · exact ko g z
      · exact t2 g z) ⟨[], [], _, _, _, _, rfl, rfl, List.Sublist.refl _, (fun f hf => by cases hf), S⟩
  have hfs : fs1 = fs := by
    have := List.map_inj_right (f := Fd.p) (fun a b e => fd_inj e) |>.mp hd
    exact this.symm
  subst hfs
  have ll : found.length ≤ 3 := by have l1 := hsub.length_le; simp only [List.length_map] at l1; omega
  refine ⟨found, h', ?_, ?_, S'⟩
  · have hn := names_de fs1 n h
    simp only [fds, List.map_map] at q hn
    simp [F__law_drawn_effect, m__law_drawn_effect, env0, fds, hn, q]
  · have ht : isTp (.tuple (found.map Ef.p)) 0 3 = true := by simp only [isTp, List.length_map, Bool.and_eq_true, decide_eq_true_eq]; omega
    have hp := parse_back (g := itemE (fs1.map Fd.nm)) (p := Ef.p) fun c hc => itemE_back (hok c hc)
    have hr : rising (found.map Ef.nm) = true := by rw [rising_up] at ri ⊢; exact List.Pairwise.sublist hsub ri
    simp only [efsO, ht, if_true, hp, hr]
end K52
namespace K52
open PySem PySem.Spec L2 DL
variable [WorldC]
theorem sub_strs {rs : List P} {xs : List Str} (h : rs.Sublist (xs.map .str)) : ∃ ys : List Str, rs = ys.map .str ∧ ys.Sublist xs := by
  obtain ⟨ys, h1, h2⟩ := List.sublist_map_iff.mp h
  exact ⟨ys, h2, h1⟩
theorem users_back {us : List Str} (hn : ∀ x ∈ us, nmS x = true) (up : UpS us) (l1 : 1 ≤ us.length) (l4 : us.length ≤ 4) : usersO (.tuple (us.map .str)) = some us := by
  have ht : isTp (.tuple (us.map .str)) 1 4 = true := by simp only [isTp, List.length_map, Bool.and_eq_true, decide_eq_true_eq]; omega
  have hp := parse_back (g := nameO) (p := PyData.str) (l := us) fun x hx => by simp only [nameO, hn x hx, if_true]
  have hr : rising us = true := (rising_up us).mpr up
  simp only [usersO, ht, if_true, hp, hr]
structure Ppl (pp : List Str) : Prop where
  nd : pp.Nodup
  nm : ∀ x ∈ pp, nmS x = true
  l1 : 1 ≤ pp.length
  l4 : pp.length ≤ 4
structure FsOk (fs : List Fd) : Prop where
  ok : ∀ f ∈ fs, fdOk f.nm f.lo f.hi = true
  l1 : 1 ≤ fs.length
  l3 : fs.length ≤ 3
  up : rising (fs.map Fd.nm) = true
theorem fsOk_of {fs : List Fd} (h : fieldsO (fds fs) = some fs) : FsOk fs := by
  obtain ⟨_, h2, h3, h4, h5⟩ := fields_p h
  simp only [fdsOk, Bool.and_eq_true] at h3
  exact ⟨h2, h4, h5, h3.2⟩
theorem sys_turn {n : Nat} {h : Hh} {fs : List Fd} {pp : List Str} {found : List Cm} {x : Str} {v1 v2 v3 v6 : DV} {c8 c9 c10 : Cel} (S : Src n h) (FO : FsOk fs) (PO : Ppl pp) (hx : nmS x = true) (lf : found.length ≤ 20) :
    ∃ (c : Cm) (c9' c10' : Cel) (h' : Hh), forTurn (.nm 8) (b__law_drawn_system_1 F__law_drawn_fields F__law_mixed F__law_pick F__law_chosen F__law_drawn_condition F__law_drawn_effect F__law_drawn_state) (.str x) [.val (.ob (.mem n)), .val v1, .val v2, .val v3, .val (.d (fds fs)), .val (.d (.list (pp.map .str))), .val v6, .obj (.lst (found.map Cm.p)), c8, c9, c10, .no, .no] h = .ok .next [.val (.ob (.mem n)), .val v1, .val v2, .val v3, .val (.d (fds fs)), .val (.d (.list (pp.map .str))), .val v6, .obj (.lst ((found ++ [c]).map Cm.p)), .val (.d (.str x)), c9', c10', .no, .no] h' ∧
      c.nm = x ∧ cmO (fs.map Fd.nm) c.p = some c ∧ (∀ u ∈ c.us, u ∈ pp) ∧ Src n h' := by
  obtain ⟨rs, h1, lc, sb, S1⟩ := lc_sub' (own := [11, 12]) (fe := l__law_drawn_system_1 F__law_drawn_fields F__law_mixed F__law_pick F__law_chosen F__law_drawn_condition F__law_drawn_effect F__law_drawn_state) (I := Src n) (ds := pp.map .str) (e := [.val (.ob (.mem n)), .val v1, .val v2, .val v3, .val (.d (fds fs)), .val (.d (.list (pp.map .str))), .val v6, .obj (.lst (found.map Cm.p)), .val (.d (.str x)), c9, c10, .no, .no]) (h := h) [.val (.ob (.mem n)), .val v1, .val v2, .val v3, .val (.d (fds fs)), .val (.d (.list (pp.map .str))), .val v6, .obj (.lst (found.map Cm.p)), .val (.d (.str x)), c9, c10, .no, .no] (by simp) (fun d hd h S => by
    obtain ⟨r, h1, q1, r0, r1, S1⟩ := p_pick S (lim := 3) (by omega) (by omega)
    refine ⟨decide (0 < r), [.val (.ob (.mem n)), .val v1, .val v2, .val v3, .val (.d (fds fs)), .val (.d (.list (pp.map .str))), .val v6, .obj (.lst (found.map Cm.p)), .val (.d (.str x)), c9, c10, .no, .val (.d d)], h1, ?_, by simp, S1⟩
    by_cases k : 0 < r <;> simp [l__law_drawn_system_1, q1, k]) S
  obtain ⟨us, rfl, sub⟩ := sub_strs sb
  have nd := PO.nd.sublist sub
  have so := sorted_s nd
  have lfound : found.length + 1 ≤ 16777216 := by omega
  have nefs : fs ≠ [] := fun z => by have := FO.l1; rw [z] at this; simp at this
  simp only [fds] at lc
  -- the tail, once the users are known
  have tail : ∀ (vs : List Str) (h2 : Hh), Src n h2 → UpS vs → 1 ≤ vs.length → (∀ u ∈ vs, u ∈ pp) → ∃ (c : Cm) (h3 h4 : Hh) (r : Int) (c3 c4 : P), F__law_pick [.ob (.mem n), .d (.int 3)] h2 = .ok (.d (.int r)) [] h3 ∧ F__law_drawn_condition [.ob (.mem n), .d (fds fs), .d (.int r)] h3 = .ok (.d c3) [] h4 ∧ (∃ h5, F__law_drawn_effect [.ob (.mem n), .d (fds fs)] h4 = .ok (.d c4) [] h5 ∧ Src n h5) ∧ c.p = .tuple [.str x, c3, c4, .tuple (vs.map .str)] ∧ c.nm = x ∧ cmO (fs.map Fd.nm) c.p = some c ∧ (∀ u ∈ c.us, u ∈ pp) := fun vs h2 S2 up l1 hm => by
    obtain ⟨r, h3, q3, r0, r1, S3⟩ := p_pick S2 (lim := 3) (by omega) (by omega)
    obtain ⟨cs, h4, q4, k4, _, S4⟩ := p_condition S3 FO.ok nefs FO.l3 r0 (by omega)
    obtain ⟨es, h5, q5, k5, S5⟩ := p_effect S4 FO.ok FO.l3 FO.up
    refine ⟨⟨x, cs, es, vs⟩, h3, h4, r, _, _, q3, q4, ⟨h5, q5, S5⟩, rfl, rfl, ?_, hm⟩
    have lv : vs.length ≤ 4 := Nat.le_trans (sub_len (up_nodup up) hm) PO.l4
    have u := users_back (fun z hz => PO.nm z (hm z hz)) up l1 lv
    simp only [Cm.p, cmO, nameO, hx, if_true, k4, k5, u]
  by_cases ne : sortU us = []
  · obtain ⟨d, h2, q2, m2, S2⟩ := p_chosen S1 (ds := pp.map .str) (by intro z; have := PO.l1; rw [List.map_eq_nil_iff] at z; rw [z] at this; simp at this) (by have := PO.l4; simp; omega)
    obtain ⟨u, hu, rfl⟩ := List.mem_map.mp m2
    obtain ⟨c, h3, h4, r, c3, c4, q3, q4, ⟨h5, q5, S5⟩, e1, e2, e3, e4⟩ := tail [u] h2 S2 (by simp [UpS]) (by simp) (fun z hz => by rw [List.mem_singleton.mp hz]; exact hu)
    refine ⟨c, .val (.d (.list [.str u])), .val (.d c3), h5, ?_, e2, e3, e4, S5⟩
    rw [ne] at so
    simp only [fds] at q4 q5
    simp only [List.map_cons, List.map_nil] at e1
    simp [b__law_drawn_system_1, fds, lc, so, eq_nil, q2, q3, q4, q5, lfound, e1]
  · have l1 : 1 ≤ (sortU us).length := List.length_pos_iff.mpr ne
    have em : (sortU us).isEmpty = false := by cases q : sortU us <;> simp_all
    obtain ⟨c, h3, h4, r, c3, c4, q3, q4, ⟨h5, q5, S5⟩, e1, e2, e3, e4⟩ := tail (sortU us) h1 S1 up_sortU l1 (fun z hz => sub.subset (mem_sortU.mp hz))
    refine ⟨c, .val (.d (.list ((sortU us).map .str))), .val (.d c3), h5, ?_, e2, e3, e4, S5⟩
    simp only [fds] at q4 q5
    simp [b__law_drawn_system_1, fds, lc, so, eq_nil, em, q3, q4, q5, lfound, e1]
def pnames : List Str := ["ann", "bob", "c", "dd", "user"]
def lnames : List Str := ["buy", "add", "x", "take", "put", "zz", "longname", "b", "c", "ann"]
theorem pnames_ok : ∀ x ∈ pnames, nmS x = true := by decide +kernel
theorem pnames_nd : pnames.Nodup := by decide +kernel
theorem lnames_ok : ∀ x ∈ lnames, nmS x = true := by decide +kernel
theorem lnames_nd : lnames.Nodup := by decide +kernel
theorem cut_1k (xs : List Str) (k : Nat) : cutL (xs.map PyData.str) none (some (1 + (k : Int))) = (xs.take (1 + k)).map .str := by
  rw [List.map_take]
  exact_mod_cast cut_to (xs.map PyData.str) (1 + k)
theorem users_mem {cs : List Cm} {pp : List Str} (h : ∀ c ∈ cs, ∀ u ∈ c.us, u ∈ pp) : ∀ u ∈ usersOf cs, u ∈ pp := fun u hu => by
  obtain ⟨c, hc, h2⟩ := List.mem_flatMap.mp hu
  exact h c hc u h2
theorem p_systemN {n : Nat} {h : Hh} {states cmds cl : Int} (S : Src n h) (s1 : 1 ≤ states) (s2 : states ≤ 60) (m1 : 1 ≤ cmds) (m2 : cmds ≤ 8) (p1 : 1 ≤ cl) (p2 : cl ≤ 4) : ∃ (s : Sys) (h' : Hh), F__law_drawn_system [.ob (.mem n), .d (.int states), .d (.int cmds), .d (.int cl)] h = .ok (.d s.p) [] h' ∧ sysO s.p = some s ∧ manyF s.fs ≤ states ∧ s.cs.length ≤ cmds ∧ (sortU (usersOf s.cs)).length ≤ cl ∧ (∀ c ∈ s.cs, c.nm ∈ lnames) ∧ Src n h' := by
  obtain ⟨fs, h1, q1, k1, k1m, S1⟩ := p_fields S s1 s2
  have FO := fsOk_of k1
  obtain ⟨rs, h2, q2, pm, S2⟩ := p_mixed S1 (ds := pnames.map .str) (by simp [pnames])
  obtain ⟨xs, rfl, px⟩ := perm_strs pm
  have q2' := q2
  simp only [pnames, List.map_cons, List.map_nil] at q2'
  obtain ⟨r3, h3, q3, r30, r31, S3⟩ := p_pick S2 (lim := cl) (by omega) (by omega)
  obtain ⟨k3, rfl⟩ : ∃ k : Nat, r3 = (k : Int) := ⟨r3.toNat, by omega⟩
  obtain ⟨pp, hpp⟩ : ∃ pp, pp = xs.take (1 + k3) := ⟨_, rfl⟩
  have ct3 := cut_1k xs k3
  rw [← hpp] at ct3
  have lx : xs.length = 5 := px.length_eq
  have lpp : pp.length = 1 + k3 := by rw [hpp, List.length_take]; omega
  have PO : Ppl pp := ⟨hpp ▸ (px.nodup_iff.mpr pnames_nd).sublist (List.take_sublist _ _), fun x hx => pnames_ok x (px.mem_iff.mp (List.mem_of_mem_take (hpp ▸ hx))), by omega, by omega⟩
  obtain ⟨rs4, h4, q4, pm4, S4⟩ := p_mixed S3 (ds := lnames.map .str) (by simp [lnames])
  obtain ⟨ls, rfl, pl⟩ := perm_strs pm4
  have q4' := q4
  simp only [lnames, List.map_cons, List.map_nil] at q4'
  obtain ⟨r5, h5, q5, r50, r51, S5⟩ := p_pick S4 (lim := cmds) (by omega) (by omega)
  obtain ⟨k5, rfl⟩ : ∃ k : Nat, r5 = (k : Int) := ⟨r5.toNat, by omega⟩
  obtain ⟨ys, hys⟩ : ∃ ys, ys = ls.take (1 + k5) := ⟨_, rfl⟩
  have ct5 := cut_1k ls k5
  rw [← hys] at ct5
  have nd : ys.Nodup := hys ▸ (pl.nodup_iff.mpr lnames_nd).sublist (List.take_sublist _ _)
  have so := sorted_s nd
  have ll : ls.length = 10 := pl.length_eq
  have ln : (sortU ys).length = 1 + k5 := by rw [(sortU_perm nd).length_eq, hys, List.length_take]; omega
  have ok : ∀ x ∈ sortU ys, nmS x = true := fun x hx => lnames_ok x (pl.mem_iff.mp (List.mem_of_mem_take (hys ▸ mem_sortU.mp hx)))
  obtain ⟨e', h', q, found, c8, c9, c10, rfl, hd, hok, hus, S'⟩ := for_inv (f := forTurn (.nm 8) (b__law_drawn_system_1 F__law_drawn_fields F__law_mixed F__law_pick F__law_chosen F__law_drawn_condition F__law_drawn_effect F__law_drawn_state)) (I := fun done e h => ∃ (found : List Cm) (c8 c9 c10 : Cel), e = [.val (.ob (.mem n)), .val (.d (.int states)), .val (.d (.int cmds)), .val (.d (.int cl)), .val (.d (fds fs)), .val (.d (.list (pp.map .str))), .val (.d (.list (ls.map .str))), .obj (.lst (found.map Cm.p)), c8, c9, c10, .no, .no] ∧ done = (found.map Cm.nm).map .str ∧ (∀ c ∈ found, cmO (fs.map Fd.nm) c.p = some c) ∧ (∀ c ∈ found, ∀ u ∈ c.us, u ∈ pp) ∧ Src n h) 10 ((sortU ys).map .str) [] [.val (.ob (.mem n)), .val (.d (.int states)), .val (.d (.int cmds)), .val (.d (.int cl)), .val (.d (fds fs)), .val (.d (.list (pp.map .str))), .val (.d (.list (ls.map .str))), .obj (.lst []), .no, .no, .no, .no, .no] h5 (by simp [ln]; omega) (fun done d hd e h l ⟨found, c8, c9, c10, ke, kd, ko, ku, S⟩ => by
    subst ke
    obtain ⟨x, hx, rfl⟩ := List.mem_map.mp hd
    have lf : found.length ≤ 20 := by rw [kd] at l; simp at l; omega
    obtain ⟨c, c9', c10', h', t, t1, t2, t3, S'⟩ := sys_turn (v1 := .d (.int states)) (v2 := .d (.int cmds)) (v3 := .d (.int cl)) (v6 := .d (.list (ls.map .str))) (c8 := c8) (c9 := c9) (c10 := c10) S FO PO (ok x hx) lf
    refine ⟨_, h', t, found ++ [c], _, _, _, rfl, by simp [kd, t1], fun g hg => ?_, fun g hg => ?_, S'⟩
    · rcases List.mem_append.mp hg with z | z
      · exact ko g z
      · rw [List.mem_singleton.mp z]; exact t2
    · rcases List.mem_append.mp hg with z | z
      · exact ku g z
      · rw [List.mem_singleton.mp z]; exact t3) ⟨[], _, _, _, rfl, rfl, (fun f hf => by cases hf), (fun f hf => by cases hf), S5⟩
  have hn : found.map Cm.nm = sortU ys := by
    have := (List.map_inj_right (f := PyData.str) (fun a b e => by cases e; rfl)).mp hd
    exact this.symm
  obtain ⟨st, h6, q6, k6, S6⟩ := p_state S' FO.ok
  have lfd : found.length = 1 + k5 := by rw [← ln, ← hn, List.length_map]
  have ul : (sortU (usersOf found)).length ≤ pp.length := sub_len (up_nodup up_sortU) fun z hz => users_mem hus z (mem_sortU.mp hz)
  refine ⟨⟨fs, st, found⟩, h6, ?_, ?_, k1m, by show (found.length : Int) ≤ cmds; omega, by show ((sortU (usersOf found)).length : Int) ≤ cl; omega, fun c hc => pl.mem_iff.mp (List.mem_of_mem_take (hys ▸ mem_sortU.mp (hn ▸ List.mem_map.mpr ⟨c, hc, rfl⟩))), S6⟩
  · simp [F__law_drawn_system, m__law_drawn_system, env0, q1, q2', q3, ct3, q4', q5, ct5, so, q, q6, Sys.p]
  · have ht : isTp (.tuple (found.map Cm.p)) 1 8 = true := by simp only [isTp, List.length_map, Bool.and_eq_true, decide_eq_true_eq]; omega
    have hp := parse_back (g := cmO (fs.map Fd.nm)) (p := Cm.p) hok
    have hc : csOk found = true := by
      simp only [csOk, Bool.and_eq_true, decide_eq_true_eq]
      exact ⟨by rw [rising_up, hn]; exact up_sortU, by omega⟩
    simp only [Sys.p, sysO, k1, k6, cmsO, ht, if_true, hp, hc]
theorem p_system {n : Nat} {h : Hh} {states cmds cl : Int} (S : Src n h) (s1 : 1 ≤ states) (s2 : states ≤ 60) (m1 : 1 ≤ cmds) (m2 : cmds ≤ 8) (p1 : 1 ≤ cl) (p2 : cl ≤ 4) : ∃ (s : Sys) (h' : Hh), F__law_drawn_system [.ob (.mem n), .d (.int states), .d (.int cmds), .d (.int cl)] h = .ok (.d s.p) [] h' ∧ sysO s.p = some s ∧ manyF s.fs ≤ states ∧ s.cs.length ≤ cmds ∧ (sortU (usersOf s.cs)).length ≤ cl ∧ Src n h' := by
  obtain ⟨s, h', q, a, b, c, d, _, S'⟩ := p_systemN S s1 s2 m1 m2 p1 p2
  exact ⟨s, h', q, a, b, c, d, S'⟩
end K52
namespace K52
open PySem PySem.Spec L2 DL
variable [WorldC]
theorem efs_ok {ns : List Str} {v : P} {es : List Ef} (h : efsO ns v = some es) : es.length ≤ 3 ∧ ∀ e ∈ es, efOk ns e.nm e.wd e.op = true := by
  unfold efsO at h
  split at h
  · split at h
    · rename_i ht
      split at h
      · rename_i hp
        split at h
        · cases h
          have l := parse_len hp
          simp only [isTp, Bool.and_eq_true, decide_eq_true_eq] at ht
          refine ⟨by omega, parse_all (Q := fun e : Ef => efOk ns e.nm e.wd e.op = true) (fun d a k => ?_) hp⟩
          unfold itemE at k
          split at k
          · split at k
            · rename_i k2; cases k; exact k2
            · cases k
          · cases k
        · cases h
      · cases h
    · cases h
  · cases h
theorem cond_ok {ns : List Str} {v : P} {cs : List Cn} (h : condO ns v = some cs) : cs.length ≤ 4 ∧ ∀ c ∈ cs, cnOk ns c.nm c.sg c.nr = true := by
  unfold condO at h
  split at h
  · split at h
    · rename_i ht
      have l := parse_len h
      simp only [isTp, Bool.and_eq_true, decide_eq_true_eq] at ht
      refine ⟨by omega, parse_all (Q := fun c : Cn => cnOk ns c.nm c.sg c.nr = true) (fun d a k => ?_) h⟩
      unfold itemC at k
      split at k
      · split at k
        · rename_i k2; cases k; exact k2
        · cases k
      · cases k
    · cases h
  · cases h
structure CmOk (ns : List Str) (c : Cm) : Prop where
  nm : nmS c.nm = true
  cond : condO ns (.tuple (c.cond.map Cn.p)) = some c.cond
  eff : efsO ns (.tuple (c.eff.map Ef.p)) = some c.eff
  us : usersO (.tuple (c.us.map .str)) = some c.us
theorem cmOk_of {ns : List Str} {c : Cm} (h : cmO ns c.p = some c) : CmOk ns c := by
  simp only [Cm.p, cmO_c] at h
  split at h
  · rename_i h1 h2 h3 h4
    obtain ⟨nm, cond, eff, us⟩ := c
    cases h
    exact ⟨(name_p h1).2, h2, h3, h4⟩
  · cases h
structure SysOk (s : Sys) : Prop where
  fs : FsOk s.fs
  fsO : fieldsO (fds s.fs) = some s.fs
  st : stO s.fs (stP s.st) = some s.st
  cs : ∀ c ∈ s.cs, CmOk (s.fs.map Fd.nm) c
  l1 : 1 ≤ s.cs.length
  l8 : s.cs.length ≤ 8
  up : rising (s.cs.map Cm.nm) = true
  us : (sortU (usersOf s.cs)).length ≤ 4
theorem sysOk_of {s : Sys} (h : sysO s.p = some s) : SysOk s := by
  simp only [Sys.p, sysO_c] at h
  split at h
  · rename_i h1
    split at h
    · rename_i h2
      split at h
      · rename_i h3
        split at h
        · rename_i h4
          obtain ⟨fs, st, cs⟩ := s
          cases h
          obtain ⟨_, c2, c3, c4⟩ := cms_p h3
          simp only [csOk, Bool.and_eq_true, decide_eq_true_eq] at h4
          exact ⟨fsOk_of h1, h1, h2, fun c hc => cmOk_of (c2 c hc), c3, c4, h4.1, h4.2⟩
        · cases h
      · cases h
    · cases h
  · cases h
theorem st_len {fs : List Fd} {st : List Int} (h : stO fs (stP st) = some st) : st.length = fs.length := by
  have k := stO_some fs (stP st)
  rw [h] at k
  have k := k.symm
  simp only [stP, stB, isTp, Option.isSome_some, Bool.and_eq_true, decide_eq_true_eq, List.length_map] at k
  omega
end K52
namespace K52
open PySem PySem.Spec L2 DL
variable [WorldC]
theorem g_number (v : P) (lo hi : Int) (h : Hh) : F__law_is_number [.d v, .d (.int lo), .d (.int hi)] h = .ok (.d (.bool (isInt v lo hi))) [] h := by
  cases v with
  | int i => by_cases h1 : lo ≤ i <;> by_cases h2 : i ≤ hi <;> simp [F__law_is_number, m__law_is_number, env0, isInt, isaP, h1, h2]
  | _ => simp [F__law_is_number, m__law_is_number, env0, isInt, isaP]
theorem g_wide (v : P) (lo hi : Int) (h : Hh) : F__law_wide [.d v, .d (.int lo), .d (.int hi)] h = .ok (.d (.bool (isTp v lo hi))) [] h := by
  cases v with
  | tuple ds => by_cases h1 : lo ≤ ds.length <;> by_cases h2 : (ds.length : Int) ≤ hi <;> simp [F__law_wide, m__law_wide, env0, isTp, isaP, h1, h2]
  | _ => simp [F__law_wide, m__law_wide, env0, isTp, isaP]
theorem flat_filter {α : Type} (b : α → Bool) (l : List α) : (l.flatMap fun x => if b x then [x] else []) = l.filter b := by
  have := flat_if b (fun x => x) l
  simpa using this
def badAt (fs : List Fd) (ds : List P) : P → Bool
  | .int k => match ds[k.toNat]?, fs[k.toNat]? with
    | some x, some f => !isInt x f.lo f.hi
    | _, _ => false
  | _ => false
theorem bads : ∀ (fs : List Fd) (ds : List P), ds.length = fs.length → (((List.range fs.length).map fun k : Nat => PyData.int k).filter (badAt fs ds)).isEmpty = (ds.zip fs).all fun z => isInt z.1 z.2.lo z.2.hi := fun fs ds l => by
  rw [Bool.eq_iff_iff, List.isEmpty_iff, List.filter_eq_nil_iff, List.all_eq_true]
  constructor
  · rintro H ⟨x, f⟩ hz
    obtain ⟨i, hi⟩ := List.getElem?_of_mem hz
    obtain ⟨h1, h2⟩ := zip_get hi
    have li : i < fs.length := (List.getElem?_eq_some_iff.mp h2).1
    have := H (.int i) (List.mem_map.mpr ⟨i, List.mem_range.mpr li, rfl⟩)
    simp only [badAt, Int.toNat_natCast, h1, h2] at this
    simpa using this
  · intro H d hd
    obtain ⟨i, hi, rfl⟩ := List.mem_map.mp hd
    have li := List.mem_range.mp hi
    have h1 : ds[i]? = some ds[i] := List.getElem?_eq_getElem (by omega)
    have h2 : fs[i]? = some fs[i] := List.getElem?_eq_getElem li
    have := H (ds[i]'(by omega), fs[i]) (List.mem_of_getElem? (i := i) (by rw [List.getElem?_zip_eq_some]; exact ⟨h1, h2⟩))
    simp only [badAt, Int.toNat_natCast, h1, h2]
    simpa using this
theorem nods_filter {b : P → Bool} : ∀ {l : List P}, nods l = true → nods (l.filter b) = true
  | [], _ => rfl
  | x :: l, h => by
    simp only [nods_c, Bool.and_eq_true] at h
    rw [List.filter_cons]
    split
    · simp [h.1, nods_filter h.2]
    · exact nods_filter h.2
theorem nods_range (n : Nat) : nods ((List.range n).map fun k : Nat => PyData.int k) = true := by
  induction List.range n with
  | nil => rfl
  | cons x l ih => simpa using ih
theorem g_state (fs : List Fd) (v : P) (h : Hh) (hl : fs.length ≤ 3) : F__law_good_state [.d (fds fs), .d v] h = .ok (.d (.bool (stB fs v))) [] h := by
  by_cases ht : isTp v fs.length fs.length = true
  case neg =>
    have e : stB fs v = false := by unfold stB; cases v <;> simp [ht]
    simp [F__law_good_state, m__law_good_state, env0, fds, g_wide, ht, e]
  cases v with
  | tuple ds =>
    have le : ds.length = fs.length := by simp only [isTp, Bool.and_eq_true, decide_eq_true_eq] at ht; omega
    have rg : endRng1 [.d (.int fs.length)] [.val (.d (fds fs)), .val (.d (.tuple ds)), .no, .no] h = .ok ((List.range fs.length).map fun k : Nat => PyData.int k) [.val (.d (fds fs)), .val (.d (.tuple ds)), .no, .no] h := by
      show (if _ then _ else _) = _
      rw [if_pos (by omega)]
      simp
    have lc := lc_ok (own := [2, 3]) (fe := l__law_good_state_1 F__law_wide F__law_is_number) (fun d => if badAt fs ds d then [d] else []) (ds := (List.range fs.length).map fun k : Nat => PyData.int k) (e := [.val (.d (fds fs)), .val (.d (.tuple ds)), .no, .no]) [.val (.d (fds fs)), .val (.d (.tuple ds)), .no, .no] (h := h) rfl (fun d hd => by
      obtain ⟨i, hi, rfl⟩ := List.mem_map.mp hd
      have li := List.mem_range.mp hi
      have h1 : ds[i]? = some ds[i] := List.getElem?_eq_getElem (by omega)
      have h2 : fs[i]? = some fs[i] := List.getElem?_eq_getElem li
      refine ⟨[.val (.d (fds fs)), .val (.d (.tuple ds)), .no, .val (.d (.int i))], ?_, rfl⟩
      have li' : i < ds.length := by omega
      have x1 : ixP ds.length (i : Int) = some i := by rw [ixP_k, if_pos li']
      have x2 : ixP fs.length (i : Int) = some i := by rw [ixP_k, if_pos li]
      by_cases k : isInt ds[i] fs[i].lo fs[i].hi = true <;> simp [l__law_good_state_1, fds, x1, x2, li, li', Fd.p, g_number, badAt, h1, h2, k])
    rw [flat_filter] at lc
    have bd := bads fs ds le
    simp only [fds] at lc rg
    simp [F__law_good_state, m__law_good_state, env0, fds, g_wide, ht]
    rw [rg]
    simp only [R.bind_ok]
    rw [lc]
    simp [eq_nil _ (nods_filter (nods_range _))]
    simp [stB, ht]
    rw [← bd]
  | _ => cases ht

end K52
/-! C31: what a command does, plainly; led_to of the program, _law_after of the law. -/
namespace K52
open PySem PySem.Spec L2 DL
variable [WorldC]
def ixn (ns : List Str) (x : Str) : Option Nat := ns.findIdx? fun y => decide (y = x)
theorem ixn_some {ns : List Str} {x : Str} (h : x ∈ ns) : ∃ i, ixn ns x = some i ∧ i < ns.length := by
  unfold ixn
  cases c : ns.findIdx? fun y => decide (y = x) with
  | none =>
    rw [List.findIdx?_eq_none_iff] at c
    have := c x h
    simp at this
  | some i =>
    obtain ⟨l, _⟩ := List.findIdx?_eq_some_iff_getElem.mp c
    exact ⟨i, rfl, l⟩
def worth (ns : List Str) (st : List Int) (x : Str) : Int := st.getD ((ixn ns x).getD 0) 0
def intO : P → Int
  | .int i => i
  | _ => 0
def strO : P → Str
  | .str x => x
  | _ => ""
def cnHolds (ns : List Str) (st : List Int) (c : Cn) : Bool :=
  if c.sg = "is" then decide (worth ns st c.nm = c.nr) else if c.sg = "not" then !decide (worth ns st c.nm = c.nr) else if c.sg = "least" then decide (c.nr ≤ worth ns st c.nm) else decide (worth ns st c.nm ≤ c.nr)
def holdsB (ns : List Str) (st : List Int) (cs : List Cn) : Bool := cs.all (cnHolds ns st)
def effV (ns : List Str) (st : List Int) (e : Ef) : Int := if e.wd = "set" then intO e.op else if e.wd = "add" then worth ns st e.nm + intO e.op else worth ns st (strO e.op)
def eff1 (ns : List Str) (st acc : List Int) (e : Ef) : List Int := acc.set ((ixn ns e.nm).getD 0) (effV ns st e)
def effs (ns : List Str) (st : List Int) (es : List Ef) : List Int := es.foldl (eff1 ns st) st
def after (fs : List Fd) (st : List Int) (c : Cm) : Option (List Int) :=
  if holdsB (fs.map Fd.nm) st c.cond then (if stB fs (stP (effs (fs.map Fd.nm) st c.eff)) then some (effs (fs.map Fd.nm) st c.eff) else none) else none
def opP : Option (List Int) → P
  | none => .none
  | some l => stP l
/-- a state of these fields -/
def StOk (fs : List Fd) (st : List Int) : Prop := stB fs (stP st) = true
theorem StOk.len {fs : List Fd} {st : List Int} (h : StOk fs st) : st.length = fs.length := by
  unfold StOk at h
  simp only [stP, stB, isTp, Bool.and_eq_true, decide_eq_true_eq, List.length_map] at h
  omega
theorem after_ok {fs : List Fd} {st st' : List Int} {c : Cm} (h : after fs st c = some st') : StOk fs st' := by
  unfold after at h
  split at h
  · split at h
    · rename_i k; cases h; exact k
    · cases h
  · cases h
/-! names' places -/
theorem eqv_ss (w x : Str) : PyData.eqv (.str w) (.str x) = decide (w = x) := eqv_str w x
theorem depth_all {ds : List P} (h : ∀ d ∈ ds, d.depth ≤ 1) : PyData.depthAll ds ≤ 1 := by
  induction ds with
  | nil => simp [PyData.depthAll]
  | cons d ds ih =>
    have h1 := h d List.mem_cons_self
    have h2 := ih fun d hd => h d (List.mem_cons_of_mem _ hd)
    simp only [PyData.depthAll]
    omega
theorem index_strs (xs : List Str) (x : Str) : indexP [.list (xs.map .str), .str x] = (ixn xs x).map fun j => .int (j : Nat) := by
  have d1 : PyData.depthAll (xs.map .str) ≤ 1 := depth_all fun d hd => by
    obtain ⟨y, _, rfl⟩ := List.mem_map.mp hd
    exact depth_str y
  have d2 : (PyData.list (xs.map .str)).depth ≤ 2 := by simp only [PyData.depth]; omega
  have d3 := depth_str x
  simp only [indexP]
  rw [if_pos (by rw [decide_eq_true (by omega), decide_eq_true (by omega), nods_strs]; rfl)]
  rw [List.findIdx?_map]
  have e : ((fun z => PyData.eqv z (.str x)) ∘ PyData.str) = fun y => decide (y = x) := by
    funext y
    exact eqv_str y x
  rw [e]
  rfl
theorem names_lc (fe : P → M (List P)) (fs : List Fd) (a b : Cel) (h : Hh) (H : ∀ f : Fd, fe f.p [a, b, .no, .no] h = .ok [.str f.nm] [a, b, .no, .val (.d f.p)] h) : endLc [2, 3] fe (fs.map Fd.p) [a, b, .no, .no] h = .ok (.d (.list ((fs.map Fd.nm).map .str))) [a, b, .no, .no] h := by
  have lc := lc_ok (own := [2, 3]) (fe := fe) (fun d => [it0 d]) (ds := fs.map Fd.p) (e := [a, b, .no, .no]) [a, b, .no, .no] (h := h) (by simp) (fun d hd => by
    obtain ⟨f, _, rfl⟩ := List.mem_map.mp hd
    exact ⟨_, H f, by simp⟩)
  rw [flat_one, List.map_map] at lc
  rw [List.map_map]
  simp at lc ⊢
  exact lc
theorem f_index_of (fs : List Fd) (x : Str) (i : Nat) (h : Hh) (hi : ixn (fs.map Fd.nm) x = some i) : F_index_of [.d (fds fs), .d (.str x)] h = .ok (.d (.int i)) [] h := by
  have lc := names_lc l_index_of_1 fs (.val (.d (fds fs))) (.val (.d (.str x))) h fun f => by simp [l_index_of_1, Fd.p]
  have ix := index_strs (fs.map Fd.nm) x
  rw [hi] at ix
  simp only [fds] at lc
  rw [List.map_map] at lc ix
  simp [F_index_of, m_index_of, env0, fds, lc, ix]
theorem f_law_at (fs : List Fd) (x : Str) (i : Nat) (h : Hh) (hi : ixn (fs.map Fd.nm) x = some i) : F__law_at [.d (fds fs), .d (.str x)] h = .ok (.d (.int i)) [] h := by
  have lc := names_lc l__law_at_1 fs (.val (.d (fds fs))) (.val (.d (.str x))) h fun f => by simp [l__law_at_1, Fd.p]
  have ix := index_strs (fs.map Fd.nm) x
  rw [hi] at ix
  simp only [fds] at lc
  rw [List.map_map] at lc ix
  simp [F__law_at, m__law_at, env0, fds, lc, ix]
end K52
/-! C32: conditions. -/
namespace K52
open PySem PySem.Spec L2 DL
variable [WorldC]
theorem idx_st {st : List Int} {i : Nat} (h : i < st.length) : idxP [.tuple (st.map .int), .int i] = some (.int (st.getD i 0)) := by
  rw [op_idx_t, ixP_k, if_pos (by simpa using h)]
  simp [h]
abbrev d4 (a b c d : P) : List (P × P) := [(.str "is", a), (.str "not", b), (.str "least", c), (.str "most", d)]
theorem disp4 (a b c d : P) : dispOk (d4 a b c d) = true := by kernel_rfl
theorem dputs4 (a b c d : P) : dputs [] (d4 a b c d) = d4 a b c d := by kernel_rfl
theorem told1 (a b c d : P) : idxP [.dict (d4 a b c d), .str "is"] = some a := by kernel_rfl
theorem told2 (a b c d : P) : idxP [.dict (d4 a b c d), .str "not"] = some b := by kernel_rfl
theorem told3 (a b c d : P) : idxP [.dict (d4 a b c d), .str "least"] = some c := by kernel_rfl
theorem told4 (a b c d : P) : idxP [.dict (d4 a b c d), .str "most"] = some d := by kernel_rfl
theorem sg_nis : (("not" : Str) = "is") = False := eq_false (by decide +kernel)
theorem sg_lis : (("least" : Str) = "is") = False := eq_false (by decide +kernel)
theorem sg_mis : (("most" : Str) = "is") = False := eq_false (by decide +kernel)
theorem sg_lno : (("least" : Str) = "not") = False := eq_false (by decide +kernel)
theorem sg_mno : (("most" : Str) = "not") = False := eq_false (by decide +kernel)
theorem sg_mle : (("most" : Str) = "least") = False := eq_false (by decide +kernel)
theorem sg_ino : (("is" : Str) = "not") = False := eq_false (by decide +kernel)
theorem sg_ile : (("is" : Str) = "least") = False := eq_false (by decide +kernel)
theorem sg_imo : (("is" : Str) = "most") = False := eq_false (by decide +kernel)
theorem sg_nle : (("not" : Str) = "least") = False := eq_false (by decide +kernel)
theorem sg_nmo : (("not" : Str) = "most") = False := eq_false (by decide +kernel)
theorem sg_lmo : (("least" : Str) = "most") = False := eq_false (by decide +kernel)
def stepH (ns : List Str) (st : List Int) (_ : Unit) (d : P) : Option Unit := match d with
  | .tuple [.str n, .str s, .int k] => if cnHolds ns st ⟨n, s, k⟩ then some () else none
  | _ => none
theorem stepH_p (ns : List Str) (st : List Int) (c : Cn) : stepH ns st () c.p = if cnHolds ns st c then some () else none := rfl
theorem fold_stepH (ns : List Str) (st : List Int) : ∀ cs : List Cn, foldO (stepH ns st) () (cs.map Cn.p) = if holdsB ns st cs then some () else none
  | [] => rfl
  | c :: cs => by
    simp only [List.map_cons, foldO, stepH_p]
    by_cases k : cnHolds ns st c = true
    · rw [if_pos k]
      have e : holdsB ns st (c :: cs) = holdsB ns st cs := by simp [holdsB, k]
      rw [e]
      exact fold_stepH ns st cs
    · rw [if_neg k]
      simp [holdsB, k]
abbrev tg3 (i j k : Nat) : Tg := .tp (.cons (.nm i) (.cons (.nm j) (.cons (.nm k) .nil)))
theorem holds_turn (fs : List Fd) (st : List Int) (c : Cn) (a : Cel) (c3 c4 c5 c6 c7 : Cel) (h : Hh) (hl : st.length = fs.length) (ok : cnOk (fs.map Fd.nm) c.nm c.sg c.nr = true) :
    ∃ e', forTurn (tg3 3 4 5) (b_holds_1 F_index_of) c.p [.val (.d (fds fs)), a, .val (.d (stP st)), c3, c4, c5, c6, c7] h = .ok (if cnHolds (fs.map Fd.nm) st c then .next else .ret (.d (.bool false))) e' h ∧
      ∃ c3 c4 c5 c6 c7, e' = [.val (.d (fds fs)), a, .val (.d (stP st)), c3, c4, c5, c6, c7] := by
  obtain ⟨nm, sg, nr⟩ := c
  simp only [cnOk, Bool.and_eq_true, decide_eq_true_eq] at ok
  obtain ⟨⟨m1, m2⟩, _⟩ := ok
  obtain ⟨i, hi, li⟩ := ixn_some m1
  rw [List.length_map] at li
  have ix := idx_st (st := st) (i := i) (by omega)
  have w : worth (fs.map Fd.nm) st nm = st.getD i 0 := by simp only [worth, hi, Option.getD_some]
  have fi := f_index_of fs nm i h hi
  simp only [fds] at fi
  refine ⟨[.val (.d (fds fs)), a, .val (.d (stP st)), .val (.d (.str nm)), .val (.d (.str sg)), .val (.d (.int nr)), .val (.d (.int (st.getD i 0))), .val (.d (.dict (d4 (.bool (decide (st.getD i 0 = nr))) (.bool (!decide (st.getD i 0 = nr))) (.bool (decide (nr ≤ st.getD i 0))) (.bool (decide (st.getD i 0 ≤ nr))))))], ?_, _, _, _, _, _, rfl⟩
  have dp := disp4 (.bool (decide (st.getD i 0 = nr))) (.bool (!decide (st.getD i 0 = nr))) (.bool (decide (nr ≤ st.getD i 0))) (.bool (decide (st.getD i 0 ≤ nr)))
  have du := dputs4 (.bool (decide (st.getD i 0 = nr))) (.bool (!decide (st.getD i 0 = nr))) (.bool (decide (nr ≤ st.getD i 0))) (.bool (decide (st.getD i 0 ≤ nr)))
  simp only [signs, List.mem_cons, List.not_mem_nil, or_false] at m2
  generalize hv : st.getD i 0 = v at *
  rcases m2 with rfl | rfl | rfl | rfl
  · have tl := told1 (.bool (decide (v = nr))) (.bool (!decide (v = nr))) (.bool (decide (nr ≤ v))) (.bool (decide (v ≤ nr)))
    by_cases k : v = nr <;> simp [b_holds_1, Cn.p, fds, stP, fi, ix, op_eq_i, op_ne_i, cnHolds, w, k, dp, du, tl, sg_nis, sg_lis, sg_mis, sg_lno, sg_mno, sg_mle] at dp du tl ⊢ <;> simp [dp, du, tl]
  · have tl := told2 (.bool (decide (v = nr))) (.bool (!decide (v = nr))) (.bool (decide (nr ≤ v))) (.bool (decide (v ≤ nr)))
    by_cases k : v = nr <;> simp [b_holds_1, Cn.p, fds, stP, fi, ix, op_eq_i, op_ne_i, cnHolds, w, k, dp, du, tl, sg_nis, sg_lis, sg_mis, sg_lno, sg_mno, sg_mle] at dp du tl ⊢ <;> simp [dp, du, tl]
  · have tl := told3 (.bool (decide (v = nr))) (.bool (!decide (v = nr))) (.bool (decide (nr ≤ v))) (.bool (decide (v ≤ nr)))
    by_cases k : nr ≤ v <;> simp [b_holds_1, Cn.p, fds, stP, fi, ix, op_eq_i, op_ne_i, cnHolds, w, k, dp, du, tl, sg_nis, sg_lis, sg_mis, sg_lno, sg_mno, sg_mle] at dp du tl ⊢ <;> simp [dp, du, tl]
  · have tl := told4 (.bool (decide (v = nr))) (.bool (!decide (v = nr))) (.bool (decide (nr ≤ v))) (.bool (decide (v ≤ nr)))
    by_cases k : v ≤ nr <;> simp [b_holds_1, Cn.p, fds, stP, fi, ix, op_eq_i, op_ne_i, cnHolds, w, k, dp, du, tl, sg_nis, sg_lis, sg_mis, sg_lno, sg_mno, sg_mle] at dp du tl ⊢ <;> simp [dp, du, tl]
theorem f_holds (fs : List Fd) (st : List Int) (cs : List Cn) (h : Hh) (hl : st.length = fs.length) (ok : ∀ c ∈ cs, cnOk (fs.map Fd.nm) c.nm c.sg c.nr = true) :
    F_holds [.d (fds fs), .d (.tuple (cs.map Cn.p)), .d (stP st)] h = .ok (.d (.bool (holdsB (fs.map Fd.nm) st cs))) [] h := by
  obtain ⟨i1, i2⟩ := for_fold (f := forTurn (tg3 3 4 5) (b_holds_1 F_index_of)) (step := stepH (fs.map Fd.nm) st) (emb := fun _ e => ∃ c3 c4 c5 c6 c7, e = [.val (.d (fds fs)), .val (.d (.tuple (cs.map Cn.p))), .val (.d (stP st)), c3, c4, c5, c6, c7]) (rv := .d (.bool false)) (h := h) (cs.map Cn.p) () [.val (.d (fds fs)), .val (.d (.tuple (cs.map Cn.p))), .val (.d (stP st)), .no, .no, .no, .no, .no] (fun s d hd e ⟨c3, c4, c5, c6, c7, ke⟩ => by
    subst ke
    obtain ⟨c, hc, rfl⟩ := List.mem_map.mp hd
    obtain ⟨e', q, k⟩ := holds_turn fs st c (.val (.d (.tuple (cs.map Cn.p)))) c3 c4 c5 c6 c7 h hl (ok c hc)
    rw [stepH_p]
    by_cases y : cnHolds (fs.map Fd.nm) st c = true
    · rw [if_pos y] at q ⊢
      exact ⟨fun s' _ => ⟨e', q, k⟩, fun z => by cases z⟩
    · rw [if_neg y] at q ⊢
      exact ⟨fun s' z => (by cases z), fun _ => ⟨e', q⟩⟩) ⟨_, _, _, _, _, rfl⟩
  rw [fold_stepH] at i1 i2
  by_cases y : holdsB (fs.map Fd.nm) st cs = true
  · obtain ⟨e', q, c3, c4, c5, c6, c7, rfl⟩ := i1 () (by rw [if_pos y])
    simp [F_holds, m_holds, env0, q, y]
  · obtain ⟨e', q⟩ := i2 (by rw [if_neg y])
    simp [F_holds, m_holds, env0, q, y]
/-! the law's -/
theorem g_holds_turn (fs : List Fd) (st : List Int) (c : Cn) (a : Cel) (c3 c4 c5 c6 : Cel) (h : Hh) (hl : st.length = fs.length) (ok : cnOk (fs.map Fd.nm) c.nm c.sg c.nr = true) :
    ∃ e', forTurn (tg3 3 4 5) (b__law_holds_1 F__law_at) c.p [.val (.d (fds fs)), a, .val (.d (stP st)), c3, c4, c5, c6] h = .ok (if cnHolds (fs.map Fd.nm) st c then .next else .ret (.d (.bool false))) e' h ∧
      ∃ c3 c4 c5 c6, e' = [.val (.d (fds fs)), a, .val (.d (stP st)), c3, c4, c5, c6] := by
  obtain ⟨nm, sg, nr⟩ := c
  simp only [cnOk, Bool.and_eq_true, decide_eq_true_eq] at ok
  obtain ⟨⟨m1, m2⟩, _⟩ := ok
  obtain ⟨i, hi, li⟩ := ixn_some m1
  rw [List.length_map] at li
  have ix := idx_st (st := st) (i := i) (by omega)
  have w : worth (fs.map Fd.nm) st nm = st.getD i 0 := by simp only [worth, hi, Option.getD_some]
  have fi := f_law_at fs nm i h hi
  simp only [fds] at fi
  refine ⟨[.val (.d (fds fs)), a, .val (.d (stP st)), .val (.d (.str nm)), .val (.d (.str sg)), .val (.d (.int nr)), .val (.d (.int (st.getD i 0)))], ?_, _, _, _, _, rfl⟩
  simp only [signs, List.mem_cons, List.not_mem_nil, or_false] at m2
  generalize hv : st.getD i 0 = v at *
  rcases m2 with rfl | rfl | rfl | rfl
  · by_cases k : v = nr <;> simp [b__law_holds_1, Cn.p, fds, stP, fi, ix, op_eq_i, op_ne_i, op_eq_s, eqv_str, cnHolds, w, k, sg_nis, sg_lis, sg_mis, sg_lno, sg_mno, sg_mle, sg_ino, sg_ile, sg_imo, sg_nle, sg_nmo, sg_lmo]
  · by_cases k : v = nr <;> simp [b__law_holds_1, Cn.p, fds, stP, fi, ix, op_eq_i, op_ne_i, op_eq_s, eqv_str, cnHolds, w, k, sg_nis, sg_lis, sg_mis, sg_lno, sg_mno, sg_mle, sg_ino, sg_ile, sg_imo, sg_nle, sg_nmo, sg_lmo]
  · have kk : (v < nr) = ¬ nr ≤ v := by simp
    by_cases k : nr ≤ v <;> simp [b__law_holds_1, Cn.p, fds, stP, fi, ix, op_eq_i, op_ne_i, op_eq_s, eqv_str, cnHolds, w, kk, k, sg_nis, sg_lis, sg_mis, sg_lno, sg_mno, sg_mle, sg_ino, sg_ile, sg_imo, sg_nle, sg_nmo, sg_lmo]
  · have kk : (nr < v) = ¬ v ≤ nr := by simp
    by_cases k : v ≤ nr <;> simp [b__law_holds_1, Cn.p, fds, stP, fi, ix, op_eq_i, op_ne_i, op_eq_s, eqv_str, cnHolds, w, kk, k, sg_nis, sg_lis, sg_mis, sg_lno, sg_mno, sg_mle, sg_ino, sg_ile, sg_imo, sg_nle, sg_nmo, sg_lmo]
theorem g_holds (fs : List Fd) (st : List Int) (cs : List Cn) (h : Hh) (hl : st.length = fs.length) (ok : ∀ c ∈ cs, cnOk (fs.map Fd.nm) c.nm c.sg c.nr = true) :
    F__law_holds [.d (fds fs), .d (.tuple (cs.map Cn.p)), .d (stP st)] h = .ok (.d (.bool (holdsB (fs.map Fd.nm) st cs))) [] h := by
  obtain ⟨i1, i2⟩ := for_fold (f := forTurn (tg3 3 4 5) (b__law_holds_1 F__law_at)) (step := stepH (fs.map Fd.nm) st) (emb := fun _ e => ∃ c3 c4 c5 c6, e = [.val (.d (fds fs)), .val (.d (.tuple (cs.map Cn.p))), .val (.d (stP st)), c3, c4, c5, c6]) (rv := .d (.bool false)) (h := h) (cs.map Cn.p) () [.val (.d (fds fs)), .val (.d (.tuple (cs.map Cn.p))), .val (.d (stP st)), .no, .no, .no, .no] (fun s d hd e ⟨c3, c4, c5, c6, ke⟩ => by
    subst ke
    obtain ⟨c, hc, rfl⟩ := List.mem_map.mp hd
    obtain ⟨e', q, k⟩ := g_holds_turn fs st c (.val (.d (.tuple (cs.map Cn.p)))) c3 c4 c5 c6 h hl (ok c hc)
    rw [stepH_p]
    by_cases y : cnHolds (fs.map Fd.nm) st c = true
    · rw [if_pos y] at q ⊢
      exact ⟨fun s' _ => ⟨e', q, k⟩, fun z => by cases z⟩
    · rw [if_neg y] at q ⊢
      exact ⟨fun s' z => (by cases z), fun _ => ⟨e', q⟩⟩) ⟨_, _, _, _, rfl⟩
  rw [fold_stepH] at i1 i2
  by_cases y : holdsB (fs.map Fd.nm) st cs = true
  · obtain ⟨e', q, c3, c4, c5, c6, rfl⟩ := i1 () (by rw [if_pos y])
    simp [F__law_holds, m__law_holds, env0, q, y]
  · obtain ⟨e', q⟩ := i2 (by rw [if_neg y])
    simp [F__law_holds, m__law_holds, env0, q, y]
end K52
/-! C33: where a command leads. -/
namespace K52
open PySem PySem.Spec L2 DL
variable [WorldC]
theorem wd_as : (("add" : Str) = "set") = False := eq_false (by decide +kernel)
theorem wd_cs : (("copy" : Str) = "set") = False := eq_false (by decide +kernel)
theorem wd_ca : (("copy" : Str) = "add") = False := eq_false (by decide +kernel)
theorem wd_sc : (("set" : Str) = "copy") = False := eq_false (by decide +kernel)
theorem wd_ac : (("add" : Str) = "copy") = False := eq_false (by decide +kernel)
theorem wd_sa : (("set" : Str) = "add") = False := eq_false (by decide +kernel)
theorem eff1_len {ns : List Str} {st acc : List Int} {e : Ef} : (eff1 ns st acc e).length = acc.length := by simp [eff1]
def stepF2 (ns : List Str) (st acc : List Int) (d : P) : Option (List Int) := match d with
  | .tuple [.str n, .str w, o] => some (eff1 ns st acc ⟨n, w, o⟩)
  | _ => none
theorem stepF2_p (ns : List Str) (st acc : List Int) (e : Ef) : stepF2 ns st acc e.p = some (eff1 ns st acc e) := rfl
theorem fold_stepF2 (ns : List Str) (st : List Int) : ∀ (es : List Ef) (acc : List Int), foldO (stepF2 ns st) acc (es.map Ef.p) = some (es.foldl (eff1 ns st) acc)
  | [], acc => rfl
  | e :: es, acc => by
    simp only [List.map_cons, foldO, stepF2_p, List.foldl_cons]
    exact fold_stepF2 ns st es _
/-- what an effect is -/
theorem ef_cases {ns : List Str} {e : Ef} (h : efOk ns e.nm e.wd e.op = true) : e.nm ∈ ns ∧ ((e.wd = "set" ∧ ∃ v, e.op = .int v) ∨ (e.wd = "add" ∧ ∃ v, e.op = .int v) ∨ (e.wd = "copy" ∧ ∃ y, e.op = .str y ∧ y ∈ ns)) := by
  simp only [efOk, Bool.and_eq_true, decide_eq_true_eq] at h
  obtain ⟨⟨h1, h2⟩, h3⟩ := h
  refine ⟨h1, ?_⟩
  simp only [words, List.mem_cons, List.not_mem_nil, or_false] at h2
  rcases h2 with h2 | h2 | h2
  · rw [h2, if_neg (by rw [wd_sc]; exact id)] at h3
    refine .inl ⟨h2, ?_⟩
    cases q : e.op <;> rw [q] at h3 <;> simp [isInt] at h3
    exact ⟨_, rfl⟩
  · rw [h2, if_neg (by rw [wd_ac]; exact id)] at h3
    refine .inr (.inl ⟨h2, ?_⟩)
    cases q : e.op <;> rw [q] at h3 <;> simp [isInt] at h3
    exact ⟨_, rfl⟩
  · rw [h2, if_pos rfl] at h3
    refine .inr (.inr ⟨h2, ?_⟩)
    cases q : e.op <;> rw [q] at h3 <;> simp [isOf] at h3
    exact ⟨_, rfl, h3⟩
theorem set_ints (acc : List Int) (i : Nat) (v : Int) : (acc.map PyData.int).set i (.int v) = (acc.set i v).map .int := by simp [List.map_set]
theorem led_turn (fs : List Fd) (st acc : List Int) (e : Ef) (c0 c2 c4 c5 c6 c7 c9 c10 c11 c12 : Cel) (h : Hh) (hl : st.length = fs.length) (ha : acc.length = fs.length) (ok : efOk (fs.map Fd.nm) e.nm e.wd e.op = true) :
    ∃ c9' c10' c11' c12', forTurn (tg3 9 10 11) (b_led_to_1 F_command_of F_holds F_index_of F_is_state) e.p [c0, .val (.d (stP st)), c2, .val (.d (fds fs)), c4, c5, c6, c7, .obj (.lst (acc.map .int)), c9, c10, c11, c12] h = .ok .next [c0, .val (.d (stP st)), c2, .val (.d (fds fs)), c4, c5, c6, c7, .obj (.lst ((eff1 (fs.map Fd.nm) st acc e).map .int)), c9', c10', c11', c12'] h := by
  obtain ⟨m1, cs⟩ := ef_cases ok
  obtain ⟨nm, wd, op⟩ := e
  simp only at m1 cs
  obtain ⟨i, hi, li⟩ := ixn_some m1
  rw [List.length_map] at li
  have ix := idx_st (st := st) (i := i) (by omega)
  have xa : ixP acc.length (i : Int) = some i := by rw [ixP_k, if_pos (by omega)]
  have fi := f_index_of fs nm i h hi
  simp only [fds] at fi
  rcases cs with ⟨rfl, v, rfl⟩ | ⟨rfl, v, rfl⟩ | ⟨rfl, y, rfl, my⟩
  · have e1 : eff1 (fs.map Fd.nm) st acc ⟨nm, "set", .int v⟩ = acc.set i v := by simp only [eff1, effV, hi, Option.getD_some, if_true, intO]
    refine ⟨.val (.d (.str nm)), .val (.d (.str "set")), .val (.d (.int v)), .val (.d (.int i)), ?_⟩
    rw [e1, ← set_ints]
    simp [b_led_to_1, Ef.p, fds, stP, fi, ix, op_eq_s, eqv_str, xa]
  · have e1 : eff1 (fs.map Fd.nm) st acc ⟨nm, "add", .int v⟩ = acc.set i (st.getD i 0 + v) := by simp only [eff1, effV, hi, Option.getD_some, wd_as, if_false, if_true, intO, worth]
    refine ⟨.val (.d (.str nm)), .val (.d (.str "add")), .val (.d (.int v)), .val (.d (.int i)), ?_⟩
    rw [e1, ← set_ints]
    simp [b_led_to_1, Ef.p, fds, stP, fi, ix, op_eq_s, eqv_str, xa, wd_as]
  · obtain ⟨j, hj, lj⟩ := ixn_some my
    rw [List.length_map] at lj
    have jx := idx_st (st := st) (i := j) (by omega)
    have fj := f_index_of fs y j h hj
    simp only [fds] at fj
    have e1 : eff1 (fs.map Fd.nm) st acc ⟨nm, "copy", .str y⟩ = acc.set i (st.getD j 0) := by simp only [eff1, effV, hi, hj, Option.getD_some, wd_cs, wd_ca, if_false, strO, worth]
    refine ⟨.val (.d (.str nm)), .val (.d (.str "copy")), .val (.d (.str y)), .val (.d (.int i)), ?_⟩
    rw [e1, ← set_ints]
    simp [b_led_to_1, Ef.p, fds, stP, fi, fj, jx, op_eq_s, eqv_str, xa, wd_cs, wd_ca]
theorem g_after_turn (fs : List Fd) (st acc : List Int) (e : Ef) (c0 c2 c4 c6 c7 c8 c9 c10 : Cel) (h : Hh) (hl : st.length = fs.length) (ha : acc.length = fs.length) (ok : efOk (fs.map Fd.nm) e.nm e.wd e.op = true) :
    ∃ c6' c7' c8', forTurn (tg3 6 7 8) (b__law_after_1 F__law_holds F__law_at F__law_good_state) e.p [c0, .val (.d (stP st)), c2, .val (.d (fds fs)), c4, .obj (.lst (acc.map .int)), c6, c7, c8, c9, c10] h = .ok .next [c0, .val (.d (stP st)), c2, .val (.d (fds fs)), c4, .obj (.lst ((eff1 (fs.map Fd.nm) st acc e).map .int)), c6', c7', c8', c9, c10] h := by
  obtain ⟨m1, cs⟩ := ef_cases ok
  obtain ⟨nm, wd, op⟩ := e
  simp only at m1 cs
  obtain ⟨i, hi, li⟩ := ixn_some m1
  rw [List.length_map] at li
  have ix := idx_st (st := st) (i := i) (by omega)
  have xa : ixP acc.length (i : Int) = some i := by rw [ixP_k, if_pos (by omega)]
  have fi := f_law_at fs nm i h hi
  simp only [fds] at fi
  rcases cs with ⟨rfl, v, rfl⟩ | ⟨rfl, v, rfl⟩ | ⟨rfl, y, rfl, my⟩
  · have e1 : eff1 (fs.map Fd.nm) st acc ⟨nm, "set", .int v⟩ = acc.set i v := by simp only [eff1, effV, hi, Option.getD_some, if_true, intO]
    refine ⟨.val (.d (.str nm)), .val (.d (.str "set")), .val (.d (.int v)), ?_⟩
    rw [e1, ← set_ints]
    simp [b__law_after_1, Ef.p, fds, stP, fi, ix, op_eq_s, eqv_str, xa, wd_sc, wd_sa]
  · have e1 : eff1 (fs.map Fd.nm) st acc ⟨nm, "add", .int v⟩ = acc.set i (st.getD i 0 + v) := by simp only [eff1, effV, hi, Option.getD_some, wd_as, if_false, if_true, intO, worth]
    refine ⟨.val (.d (.str nm)), .val (.d (.str "add")), .val (.d (.int v)), ?_⟩
    rw [e1, ← set_ints]
    simp [b__law_after_1, Ef.p, fds, stP, fi, ix, op_eq_s, eqv_str, xa, wd_ac]
  · obtain ⟨j, hj, lj⟩ := ixn_some my
    rw [List.length_map] at lj
    have jx := idx_st (st := st) (i := j) (by omega)
    have fj := f_law_at fs y j h hj
    simp only [fds] at fj
    have e1 : eff1 (fs.map Fd.nm) st acc ⟨nm, "copy", .str y⟩ = acc.set i (st.getD j 0) := by simp only [eff1, effV, hi, hj, Option.getD_some, wd_cs, wd_ca, if_false, strO, worth]
    refine ⟨.val (.d (.str nm)), .val (.d (.str "copy")), .val (.d (.str y)), ?_⟩
    rw [e1, ← set_ints]
    simp [b__law_after_1, Ef.p, fds, stP, fi, fj, jx, op_eq_s, eqv_str, xa, wd_cs, wd_ca]
/-! the command with a name -/
def hasNm (x : Str) : P → Bool
  | .tuple (.str n :: _) => decide (n = x)
  | _ => false
theorem pick_nm {cs : List Cm} {c : Cm} (hc : c ∈ cs) (nd : (cs.map Cm.nm).Nodup) : (cs.map Cm.p).filter (hasNm c.nm) = [c.p] := by
  have e : hasNm c.nm ∘ Cm.p = fun d : Cm => decide (d.nm = c.nm) := by funext d; rfl
  rw [List.filter_map, e]
  have : cs.filter (fun d => decide (d.nm = c.nm)) = [c] := by
    induction cs with
    | nil => cases hc
    | cons d cs ih =>
      simp only [List.map_cons, List.nodup_cons] at nd
      rw [List.filter_cons]
      rcases List.mem_cons.mp hc with z | z
      · subst z
        rw [if_pos (by simp)]
        have : cs.filter (fun d => decide (d.nm = c.nm)) = [] := by
          rw [List.filter_eq_nil_iff]
          intro y hy q
          exact nd.1 (List.mem_map.mpr ⟨y, hy, by simpa using q⟩)
        rw [this]
      · have ne : ¬ d.nm = c.nm := fun q => nd.1 (List.mem_map.mpr ⟨c, z, q.symm⟩)
        rw [if_neg (by simpa using ne)]
        exact ih z nd.2
  rw [this]
  rfl
theorem names_nd {cs : List Cm} (h : rising (cs.map Cm.nm) = true) : (cs.map Cm.nm).Nodup := up_nodup ((rising_up _).mp h)
theorem cmd_lc (fe : P → M (List P)) (own : List Nat) (e : DL.Env) (cs : List Cm) (c : Cm) (h : Hh) (hc : c ∈ cs) (nd : (cs.map Cm.nm).Nodup) (hw : wipeE e own = e) (hr : restE e e own = e)
    (H : ∀ d : Cm, ∃ e1, fe d.p e h = .ok (if d.nm = c.nm then [d.p] else []) e1 h ∧ wipeE e1 own = e) : endLc own fe (cs.map Cm.p) e h = .ok (.d (.list [c.p])) e h := by
  have lc := lc_ok (own := own) (fe := fe) (fun d => if hasNm c.nm d then [d] else []) (ds := cs.map Cm.p) (e := e) e (h := h) hw (fun d hd => by
    obtain ⟨d, _, rfl⟩ := List.mem_map.mp hd
    obtain ⟨e1, q1, q2⟩ := H d
    refine ⟨e1, ?_, q2⟩
    rw [q1]
    have : hasNm c.nm d.p = decide (d.nm = c.nm) := rfl
    rw [this]
    by_cases k : d.nm = c.nm <;> simp [k])
  rw [flat_filter, pick_nm hc nd, hr] at lc
  exact lc
theorem f_command_of (a b : P) (cs : List Cm) (c : Cm) (h : Hh) (hc : c ∈ cs) (nd : (cs.map Cm.nm).Nodup) : F_command_of [.d (.tuple [a, b, .tuple (cs.map Cm.p)]), .d (.str c.nm)] h = .ok (.d c.p) [] h := by
  have lc := cmd_lc l_command_of_1 [2, 3] [.val (.d (.tuple [a, b, .tuple (cs.map Cm.p)])), .val (.d (.str c.nm)), .no, .no] cs c h hc nd (by simp) (by simp) fun d => by
    refine ⟨[.val (.d (.tuple [a, b, .tuple (cs.map Cm.p)])), .val (.d (.str c.nm)), .no, .val (.d d.p)], ?_, by simp⟩
    by_cases k : d.nm = c.nm <;> simp [l_command_of_1, Cm.p, op_eq_s, eqv_str, k]
  simp [F_command_of, m_command_of, env0, lc]
end K52
/-! C34: led_to, _law_after. -/
namespace K52
open PySem PySem.Spec L2 DL
variable [WorldC]
theorem op_none {fs : List Fd} {st : List Int} {c : Cm} (h : ¬ holdsB (fs.map Fd.nm) st c.cond = true) : after fs st c = none := by
  unfold after
  rw [if_neg h]
theorem op_some {fs : List Fd} {st : List Int} {c : Cm} (h : holdsB (fs.map Fd.nm) st c.cond = true) : after fs st c = if stB fs (stP (effs (fs.map Fd.nm) st c.eff)) then some (effs (fs.map Fd.nm) st c.eff) else none := by
  unfold after
  rw [if_pos h]
theorem f_led_to (s : Sys) (O : SysOk s) {c : Cm} (hc : c ∈ s.cs) {st : List Int} (hs : StOk s.fs st) (h : Hh) : F_led_to [.d s.p, .d (stP st), .d (.str c.nm)] h = .ok (.d (opP (after s.fs st c))) [] h := by
  have hl := hs.len
  have CO := O.cs c hc
  have cok := (cond_ok CO.cond).2
  have eok := (efs_ok CO.eff).2
  have fc := f_command_of (fds s.fs) (stP s.st) s.cs c h hc (names_nd O.up)
  have fh := f_holds s.fs st c.cond h hl cok
  simp only [fds, stP] at fc fh
  by_cases y : holdsB (s.fs.map Fd.nm) st c.cond = true
  case neg =>
    rw [op_none y]
    simp [F_led_to, m_led_to, env0, Sys.p, fds, stP, fc, Cm.p, fh, y, opP]
  obtain ⟨i1, _⟩ := for_fold (f := forTurn (tg3 9 10 11) (b_led_to_1 F_command_of F_holds F_index_of F_is_state)) (step := fun acc d => if acc.length = s.fs.length then stepF2 (s.fs.map Fd.nm) st acc d else none)
    (emb := fun acc e => acc.length = s.fs.length ∧ ∃ c9 c10 c11 c12, e = [.val (.d s.p), .val (.d (stP st)), .val (.d (.str c.nm)), .val (.d (fds s.fs)), .val (.d (.str c.nm)), .val (.d (.tuple (c.cond.map Cn.p))), .val (.d (.tuple (c.eff.map Ef.p))), .val (.d (.tuple (c.us.map .str))), .obj (.lst (acc.map .int)), c9, c10, c11, c12]) (rv := .d .none) (h := h) (c.eff.map Ef.p) st
    [.val (.d s.p), .val (.d (stP st)), .val (.d (.str c.nm)), .val (.d (fds s.fs)), .val (.d (.str c.nm)), .val (.d (.tuple (c.cond.map Cn.p))), .val (.d (.tuple (c.eff.map Ef.p))), .val (.d (.tuple (c.us.map .str))), .obj (.lst (st.map .int)), .no, .no, .no, .no]
    (fun acc d hd e ⟨ha, c9, c10, c11, c12, ke⟩ => by
      subst ke
      obtain ⟨ef, he, rfl⟩ := List.mem_map.mp hd
      obtain ⟨d9, d10, d11, d12, q⟩ := led_turn s.fs st acc ef (.val (.d s.p)) (.val (.d (.str c.nm))) (.val (.d (.str c.nm))) (.val (.d (.tuple (c.cond.map Cn.p)))) (.val (.d (.tuple (c.eff.map Ef.p)))) (.val (.d (.tuple (c.us.map .str)))) c9 c10 c11 c12 h hl ha (eok ef he)
      rw [if_pos ha, stepF2_p]
      exact ⟨fun s' z => (by cases z; exact ⟨_, q, by rw [eff1_len]; exact ha, _, _, _, _, rfl⟩), fun z => (by cases z)⟩) ⟨hl, _, _, _, _, rfl⟩
  have fo : ∀ (es : List Ef) (acc : List Int), acc.length = s.fs.length → foldO (fun acc d => if acc.length = s.fs.length then stepF2 (s.fs.map Fd.nm) st acc d else none) acc (es.map Ef.p) = some (es.foldl (eff1 (s.fs.map Fd.nm) st) acc) := fun es => by
    induction es with
    | nil => intro acc _; rfl
    | cons ef es ih =>
      intro acc ha
      simp only [List.map_cons, foldO, if_pos ha, stepF2_p, List.foldl_cons]
      exact ih _ (by rw [eff1_len]; exact ha)
  obtain ⟨e', q, _, d9, d10, d11, d12, rfl⟩ := i1 _ (fo c.eff st hl)
  have is := f_is_state s.fs (stP (effs (s.fs.map Fd.nm) st c.eff)) h
  rw [op_some y]
  simp only [fds, stP, Sys.p, effs] at q is ⊢
  by_cases k : stB s.fs (.tuple ((List.foldl (eff1 (s.fs.map Fd.nm) st) st c.eff).map .int)) = true
  · simp [F_led_to, m_led_to, env0, fc, Cm.p, fh, y, q, is, k, opP, stP]
  · simp [F_led_to, m_led_to, env0, fc, Cm.p, fh, y, q, is, k, opP, stP]
theorem g_after (s : Sys) (O : SysOk s) {c : Cm} (hc : c ∈ s.cs) {st : List Int} (hs : StOk s.fs st) (h : Hh) : F__law_after [.d s.p, .d (stP st), .d (.str c.nm)] h = .ok (.d (opP (after s.fs st c))) [] h := by
  have hl := hs.len
  have CO := O.cs c hc
  have cok := (cond_ok CO.cond).2
  have eok := (efs_ok CO.eff).2
  have lc := cmd_lc (l__law_after_1 F__law_holds F__law_at F__law_good_state) [9, 10] [.val (.d s.p), .val (.d (stP st)), .val (.d (.str c.nm)), .val (.d (fds s.fs)), .no, .no, .no, .no, .no, .no, .no] s.cs c h hc (names_nd O.up) (by simp) (by simp) fun d => by
    refine ⟨[.val (.d s.p), .val (.d (stP st)), .val (.d (.str c.nm)), .val (.d (fds s.fs)), .no, .no, .no, .no, .no, .no, .val (.d d.p)], ?_, by simp⟩
    by_cases k : d.nm = c.nm <;> simp [l__law_after_1, Cm.p, op_eq_s, eqv_str, k]
  have fh := g_holds s.fs st c.cond h hl cok
  simp only [fds, stP, Sys.p] at lc fh
  by_cases y : holdsB (s.fs.map Fd.nm) st c.cond = true
  case neg =>
    rw [op_none y]
    simp [F__law_after, m__law_after, env0, Sys.p, fds, stP, lc, Cm.p, fh, y, opP] at lc ⊢
  obtain ⟨i1, _⟩ := for_fold (f := forTurn (tg3 6 7 8) (b__law_after_1 F__law_holds F__law_at F__law_good_state)) (step := fun acc d => if acc.length = s.fs.length then stepF2 (s.fs.map Fd.nm) st acc d else none)
    (emb := fun acc e => acc.length = s.fs.length ∧ ∃ c6 c7 c8, e = [.val (.d s.p), .val (.d (stP st)), .val (.d (.str c.nm)), .val (.d (fds s.fs)), .val (.d c.p), .obj (.lst (acc.map .int)), c6, c7, c8, .no, .no]) (rv := .d .none) (h := h) (c.eff.map Ef.p) st
    [.val (.d s.p), .val (.d (stP st)), .val (.d (.str c.nm)), .val (.d (fds s.fs)), .val (.d c.p), .obj (.lst (st.map .int)), .no, .no, .no, .no, .no]
    (fun acc d hd e ⟨ha, c6, c7, c8, ke⟩ => by
      subst ke
      obtain ⟨ef, he, rfl⟩ := List.mem_map.mp hd
      obtain ⟨d6, d7, d8, q⟩ := g_after_turn s.fs st acc ef (.val (.d s.p)) (.val (.d (.str c.nm))) (.val (.d c.p)) c6 c7 c8 .no .no h hl ha (eok ef he)
      rw [if_pos ha, stepF2_p]
      exact ⟨fun s' z => (by cases z; exact ⟨_, q, by rw [eff1_len]; exact ha, _, _, _, rfl⟩), fun z => (by cases z)⟩) ⟨hl, _, _, _, rfl⟩
  have fo : ∀ (es : List Ef) (acc : List Int), acc.length = s.fs.length → foldO (fun acc d => if acc.length = s.fs.length then stepF2 (s.fs.map Fd.nm) st acc d else none) acc (es.map Ef.p) = some (es.foldl (eff1 (s.fs.map Fd.nm) st) acc) := fun es => by
    induction es with
    | nil => intro acc _; rfl
    | cons ef es ih =>
      intro acc ha
      simp only [List.map_cons, foldO, if_pos ha, stepF2_p, List.foldl_cons]
      exact ih _ (by rw [eff1_len]; exact ha)
  obtain ⟨e', q, _, d6, d7, d8, rfl⟩ := i1 _ (fo c.eff st hl)
  have is := g_state s.fs (stP (effs (s.fs.map Fd.nm) st c.eff)) h O.fs.l3
  rw [op_some y]
  simp only [fds, stP, Sys.p, effs] at q is ⊢
  by_cases k : stB s.fs (.tuple ((List.foldl (eff1 (s.fs.map Fd.nm) st) st c.eff).map .int)) = true
  · simp [F__law_after, m__law_after, env0, lc, Cm.p, fh, y, q, is, k, opP, stP] at lc q ⊢
  · simp [F__law_after, m__law_after, env0, lc, Cm.p, fh, y, q, is, k, opP, stP] at lc q ⊢
end K52
/-! C35: all states. -/
namespace K52
open PySem PySem.Spec L2 DL
variable [WorldC]
/-- the numbers of a field -/
def vals (f : Fd) : List Int := (List.range (f.hi + 1 - f.lo).toNat).map fun k : Nat => f.lo + k
/-- states, field by field -/
def grow (acc : List (List Int)) (f : Fd) : List (List Int) := acc.flatMap fun st => (vals f).map fun v => st ++ [v]
def allSt (fs : List Fd) : List (List Int) := fs.foldl grow [[]]
theorem vals_mem {f : Fd} {v : Int} : v ∈ vals f ↔ f.lo ≤ v ∧ v ≤ f.hi := by
  unfold vals
  rw [List.mem_map]
  constructor
  · rintro ⟨k, hk, rfl⟩
    have := List.mem_range.mp hk
    omega
  · rintro ⟨h1, h2⟩
    exact ⟨(v - f.lo).toNat, List.mem_range.mpr (by omega), by omega⟩
theorem vals_len {f : Fd} (h : f.lo ≤ f.hi) : ((vals f).length : Int) = wd f := by
  simp only [vals, List.length_map, List.length_range, wd]
  omega
theorem grow_len (acc : List (List Int)) (f : Fd) : (grow acc f).length = acc.length * (vals f).length := by
  unfold grow
  induction acc with
  | nil => simp
  | cons a r ih => rw [List.flatMap_cons, List.length_append, ih, List.length_map, List.length_cons, Nat.succ_mul]; omega
theorem fold_len : ∀ (fs : List Fd) (acc : List (List Int)) (m : Int), (∀ f ∈ fs, f.lo ≤ f.hi) → (acc.length : Int) = m → ((fs.foldl grow acc).length : Int) = fs.foldl (fun m f => m * wd f) m
  | [], acc, m, _, h => h
  | f :: fs, acc, m, hf, h => by
    simp only [List.foldl_cons]
    refine fold_len fs (grow acc f) (m * wd f) (fun g hg => hf g (List.mem_cons_of_mem _ hg)) ?_
    rw [grow_len, ← vals_len (hf f List.mem_cons_self), ← h]
    simp
theorem allSt_len {fs : List Fd} (h : ∀ f ∈ fs, fdOk f.nm f.lo f.hi = true) : ((allSt fs).length : Int) = manyF fs := fold_len fs [[]] 1 (fun f hf => (fd_bounds (h f hf)).2.1) rfl
/-- fits the fields -/
def fits : List Fd → List Int → Prop
  | [], [] => True
  | f :: fs, v :: st => f.lo ≤ v ∧ v ≤ f.hi ∧ fits fs st
  | _, _ => False
theorem fold_mem : ∀ (fs : List Fd) (acc : List (List Int)) (st : List Int), st ∈ fs.foldl grow acc ↔ ∃ a b, a ∈ acc ∧ fits fs b ∧ st = a ++ b
  | [], acc, st => by
    constructor
    · exact fun h => ⟨st, [], h, trivial, by simp⟩
    · rintro ⟨a, b, h1, h2, rfl⟩
      cases b with
      | nil => simpa using h1
      | cons _ _ => exact h2.elim
  | f :: fs, acc, st => by
    rw [List.foldl_cons, fold_mem fs]
    constructor
    · rintro ⟨a, b, h1, h2, rfl⟩
      unfold grow at h1
      obtain ⟨a0, h3, h4⟩ := List.mem_flatMap.mp h1
      obtain ⟨v, h5, rfl⟩ := List.mem_map.mp h4
      exact ⟨a0, v :: b, h3, ⟨(vals_mem.mp h5).1, (vals_mem.mp h5).2, h2⟩, by simp⟩
    · rintro ⟨a, b, h1, h2, rfl⟩
      cases b with
      | nil => exact h2.elim
      | cons v b =>
        refine ⟨a ++ [v], b, ?_, h2.2.2, by simp⟩
        exact List.mem_flatMap.mpr ⟨a, h1, List.mem_map.mpr ⟨v, vals_mem.mpr ⟨h2.1, h2.2.1⟩, rfl⟩⟩
theorem fits_iff : ∀ (fs : List Fd) (st : List Int), fits fs st ↔ st.length = fs.length ∧ (((st.map PyData.int).zip fs).all fun z => isInt z.1 z.2.lo z.2.hi) = true
  | [], [] => by simp [fits]
  | [], _ :: _ => by simp [fits]
  | _ :: _, [] => by simp [fits]
  | f :: fs, v :: st => by
    have ih := fits_iff fs st
    simp only [fits, ih, List.length_cons, List.map_cons, List.zip_cons_cons, List.all_cons, Bool.and_eq_true, isInt, decide_eq_true_eq, Nat.add_right_cancel_iff]
    constructor
    · rintro ⟨a, b, c, d⟩; exact ⟨c, ⟨a, b⟩, d⟩
    · rintro ⟨c, ⟨a, b⟩, d⟩; exact ⟨a, b, c, d⟩
theorem stOk_iff (fs : List Fd) (st : List Int) : StOk fs st ↔ fits fs st := by
  rw [fits_iff]
  unfold StOk
  simp only [stP, stB, isTp, Bool.and_eq_true, decide_eq_true_eq, List.length_map]
  constructor
  · rintro ⟨⟨a, b⟩, c⟩; exact ⟨by omega, c⟩
  · rintro ⟨a, c⟩; exact ⟨⟨by omega, by omega⟩, c⟩
theorem allSt_mem (fs : List Fd) (st : List Int) : st ∈ allSt fs ↔ StOk fs st := by
  rw [stOk_iff]
  unfold allSt
  rw [fold_mem]
  constructor
  · rintro ⟨a, b, h1, h2, rfl⟩
    rw [List.mem_singleton.mp h1]
    exact h2
  · exact fun h => ⟨[], st, by simp, h, rfl⟩
/-- fewer than the bound all the way -/
theorem fold_le : ∀ (fs : List Fd) (acc : List (List Int)), (∀ f ∈ fs, f.lo ≤ f.hi) → acc.length ≤ (fs.foldl grow acc).length
  | [], acc, _ => Nat.le_refl _
  | f :: fs, acc, h => by
    rw [List.foldl_cons]
    refine Nat.le_trans ?_ (fold_le fs (grow acc f) fun g hg => h g (List.mem_cons_of_mem _ hg))
    rw [grow_len]
    have := vals_len (h f List.mem_cons_self)
    have := h f List.mem_cons_self
    have : 1 ≤ (vals f).length := by simp only [wd] at *; omega
    exact Nat.le_mul_of_pos_right _ this
def stPs (l : List (List Int)) : List P := l.map stP
/-! the program's states_of, the law's _law_states -/
theorem vals_p (f : Fd) : ((List.range (f.hi + 1 - f.lo).toNat).map fun k : Nat => PyData.int (f.lo + k)) = (vals f).map .int := by
  unfold vals
  rw [List.map_map]
  rfl
theorem rng2_vals (f : Fd) (b : -20 ≤ f.lo ∧ f.lo ≤ f.hi ∧ f.hi ≤ 20) (e : DL.Env) (h : Hh) : endRng2 [.d (.int f.lo), .d (.int (f.hi + 1))] e h = .ok ((vals f).map .int) e h := by
  show (if _ then _ else _) = _
  rw [if_pos (by omega), vals_p]
theorem st_snoc (st : List Int) (v : Int) : PyData.tuple (st.map .int ++ [.int v]) = stP (st ++ [v]) := by simp [stP]
end K52
namespace DL
open PySem PySem.Spec L2
variable [WorldC]
/-- a loop over a typed list, the invariant by what is done -/
theorem for_typ {α : Type} {p : α → P} {f : P → M Fl} {I : List α → DL.Env → Hh → Prop} {all : List α} : ∀ (l done : List α) (e : DL.Env) (h : Hh), done ++ l = all → (∀ done a rest, all = done ++ a :: rest → ∀ e h, I done e h → ∃ e' h', f (p a) e h = .ok .next e' h' ∧ I (done ++ [a]) e' h') → I done e h → ∃ e' h', forGo f (l.map p) e h = .ok .next e' h' ∧ I all e' h'
  | [], done, e, h, ea, _, k => ⟨e, h, rfl, by rw [← ea, List.append_nil]; exact k⟩
  | a :: l, done, e, h, ea, H, k => by
    obtain ⟨e1, h1, q, k1⟩ := H done a l ea.symm e h k
    obtain ⟨e2, h2, q2, k2⟩ := for_typ l (done ++ [a]) e1 h1 (by rw [← ea]; simp) H k1
    refine ⟨e2, h2, ?_, k2⟩
    simp only [List.map_cons, forGo, q, R.bind_ok, whEnd]
    exact q2
/-- the same where a turn may return -/
theorem for_typR {α : Type} {p : α → P} {f : P → M Fl} {I : List α → DL.Env → Hh → Prop} {J : List α → α → DV → Hh → Prop} {all : List α} : ∀ (l done : List α) (e : DL.Env) (h : Hh), done ++ l = all → (∀ done a rest, all = done ++ a :: rest → ∀ e h, I done e h → (∃ e' h', f (p a) e h = .ok .next e' h' ∧ I (done ++ [a]) e' h') ∨ (∃ v e' h', f (p a) e h = .ok (.ret v) e' h' ∧ J done a v h')) → I done e h →
    (∃ e' h', forGo f (l.map p) e h = .ok .next e' h' ∧ I all e' h') ∨ (∃ don a rest v e' h', all = don ++ a :: rest ∧ forGo f (l.map p) e h = .ok (.ret v) e' h' ∧ J don a v h')
  | [], done, e, h, ea, _, k => .inl ⟨e, h, rfl, by rw [← ea, List.append_nil]; exact k⟩
  | a :: l, done, e, h, ea, H, k => by
    rcases H done a l ea.symm e h k with ⟨e1, h1, q, k1⟩ | ⟨v, e1, h1, q, j⟩
    · have fe : forGo f ((a :: l).map p) e h = forGo f (l.map p) e1 h1 := by simp only [List.map_cons, forGo, q, R.bind_ok, whEnd]
      rw [fe]
      exact for_typR l (done ++ [a]) e1 h1 (by rw [← ea]; simp) H k1
    · refine .inr ⟨done, a, l, v, e1, h1, ea.symm, ?_, j⟩
      simp only [List.map_cons, forGo, q, R.bind_ok, whEnd]
end DL
namespace K52
open PySem PySem.Spec L2 DL
variable [WorldC]
theorem allSt_snoc (fs : List Fd) (f : Fd) : allSt (fs ++ [f]) = grow (allSt fs) f := by simp [allSt]
theorem allSt_wide {fs : List Fd} {st : List Int} (h : st ∈ allSt fs) : st.length = fs.length := ((allSt_mem fs st).mp h).len
def snocP (f : Fd) : P → List P
  | .tuple ds => (vals f).map fun v => .tuple (ds ++ [.int v])
  | _ => []
theorem snoc_p (f : Fd) (st : List Int) : snocP f (stP st) = ((vals f).map fun v => st ++ [v]).map stP := by
  simp [snocP, stP]
theorem grow_p (acc : List (List Int)) (f : Fd) : (acc.map stP).flatMap (snocP f) = (grow acc f).map stP := by
  unfold grow
  rw [List.map_flatMap, List.flatMap_map]
  congr 1
  funext st
  exact snoc_p f st
def snoc1 (ds : List P) : P → List P
  | .int v => [.tuple (ds ++ [.int v])]
  | _ => []
theorem snoc1_p (ds : List P) (vs : List Int) : (vs.map PyData.int).flatMap (snoc1 ds) = vs.map fun v => PyData.tuple (ds ++ [.int v]) := by
  induction vs with
  | nil => rfl
  | cons v vs ih => simp only [List.map_cons, List.flatMap_cons, ih]; rfl
theorem states_turn (fs : P) (f : Fd) (b : -20 ≤ f.lo ∧ f.lo ≤ f.hi ∧ f.hi ≤ 20) (acc : List (List Int)) (ha : ∀ st ∈ acc, st.length ≤ 1000) (hl : (grow acc f).length ≤ 60) (c2 c3 c4 : Cel) (h : Hh) :
    forTurn (tg3 2 3 4) b_states_of_1 f.p [.val (.d fs), .val (.d (.list (acc.map stP))), c2, c3, c4, .no, .no, .no] h = .ok .next [.val (.d fs), .val (.d (.list ((grow acc f).map stP))), .val (.d (.str f.nm)), .val (.d (.int f.lo)), .val (.d (.int f.hi)), .no, .no, .no] h := by
  have lc := lc2_ok (own := [5, 6, 7]) (fe := l_states_of_2) (snocP f) (ds := acc.map stP) (e := [.val (.d fs), .val (.d (.list (acc.map stP))), .val (.d (.str f.nm)), .val (.d (.int f.lo)), .val (.d (.int f.hi)), .no, .no, .no]) [.val (.d fs), .val (.d (.list (acc.map stP))), .val (.d (.str f.nm)), .val (.d (.int f.lo)), .val (.d (.int f.hi)), .no, .no, .no] (h := h) (by simp) (fun d hd => by
    obtain ⟨st, hst, rfl⟩ := List.mem_map.mp hd
    have ls := ha st hst
    have inn := in_ok (own := [7]) (fe := l_states_of_1) (snoc1 (st.map .int)) (ds := (vals f).map .int) (e := [.val (.d fs), .val (.d (.list (acc.map stP))), .val (.d (.str f.nm)), .val (.d (.int f.lo)), .val (.d (.int f.hi)), .no, .val (.d (stP st)), .no]) [.val (.d fs), .val (.d (.list (acc.map stP))), .val (.d (.str f.nm)), .val (.d (.int f.lo)), .val (.d (.int f.hi)), .no, .val (.d (stP st)), .no] (h := h) (by simp) (fun d hd => by
      obtain ⟨v, _, rfl⟩ := List.mem_map.mp hd
      have l2 : st.length + 1 ≤ 16777216 := by omega
      exact ⟨[.val (.d fs), .val (.d (.list (acc.map stP))), .val (.d (.str f.nm)), .val (.d (.int f.lo)), .val (.d (.int f.hi)), .no, .val (.d (stP st)), .val (.d (.int v))], by simp [l_states_of_1, stP, l2, snoc1], by simp⟩)
    rw [snoc1_p] at inn
    have sp : snocP f (stP st) = (vals f).map fun v => .tuple (st.map .int ++ [.int v]) := rfl
    rw [sp]
    refine ⟨[.val (.d fs), .val (.d (.list (acc.map stP))), .val (.d (.str f.nm)), .val (.d (.int f.lo)), .val (.d (.int f.hi)), .no, .val (.d (stP st)), .no], ?_, by simp⟩
    have rg := rng2_vals f b [.val (.d fs), .val (.d (.list (acc.map stP))), .val (.d (.str f.nm)), .val (.d (.int f.lo)), .val (.d (.int f.hi)), .no, .val (.d (stP st)), .no] h
    simp [l_states_of_2, mEl2, mRng2]
    rw [rg]
    simp only [R.bind_ok]
    exact inn) (by rw [grow_p, List.length_map]; omega)
  rw [grow_p] at lc
  simp [b_states_of_1, Fd.p, mLc2, lc]
theorem f_states_of {fs : List Fd} (FO : FsOk fs) (hm : manyF fs ≤ 60) (h : Hh) : F_states_of [.d (fds fs)] h = .ok (.d (.list ((allSt fs).map stP))) [] h := by
  have bd := fun f hf => fd_bounds (FO.ok f hf)
  have pre : ∀ done rest, fs = done ++ rest → (allSt done).length ≤ 60 := fun done rest e => by
    have l1 : (allSt done).length ≤ (allSt fs).length := by
      have := fold_le rest (allSt done) fun f hf => (bd f (by rw [e]; exact List.mem_append_right _ hf)).2.1
      have e2 : allSt fs = rest.foldl grow (allSt done) := by rw [e]; simp [allSt]
      rw [e2]
      exact this
    have := allSt_len FO.ok
    omega
  obtain ⟨e', h', q, rfl, c2, c3, c4, rfl⟩ := for_typ (p := Fd.p) (f := forTurn (tg3 2 3 4) b_states_of_1) (all := fs) (I := fun done e h1 => h1 = h ∧ ∃ c2 c3 c4, e = [.val (.d (fds fs)), .val (.d (.list ((allSt done).map stP))), c2, c3, c4, .no, .no, .no]) fs [] [.val (.d (fds fs)), .val (.d (.list [.tuple []])), .no, .no, .no, .no, .no, .no] h rfl (fun done f rest e e1 h1 ⟨kh, c2, c3, c4, ke⟩ => by
    subst kh ke
    have l60 := pre (done ++ [f]) rest (by rw [e]; simp)
    rw [allSt_snoc] at l60
    have wd := fun st (hst : st ∈ allSt done) => allSt_wide hst
    have ld : done.length ≤ 3 := by have := FO.l3; rw [e] at this; simp at this; omega
    have t := states_turn (fds fs) f (bd f (by rw [e]; simp)) (allSt done) (fun st hst => by rw [wd st hst]; omega) l60 c2 c3 c4 h1
    rw [← allSt_snoc] at t
    exact ⟨_, h1, t, rfl, _, _, _, rfl⟩) ⟨rfl, _, _, _, rfl⟩
  simp only [fds] at q
  simp [F_states_of, m_states_of, env0, fds, q]
theorem g_states_turn (fs : P) (f : Fd) (b : -20 ≤ f.lo ∧ f.lo ≤ f.hi ∧ f.hi ≤ 20) (acc : List (List Int)) (ha : ∀ st ∈ acc, st.length ≤ 1000) (hl : (grow acc f).length ≤ 60) (c2 c3 c4 c5 c6 : Cel) (h : Hh) :
    ∃ c5' c6', forTurn (tg3 2 3 4) b__law_states_2 f.p [.val (.d fs), .val (.d (.list (acc.map stP))), c2, c3, c4, c5, c6, .no, .no] h = .ok .next [.val (.d fs), .val (.d (.list ((grow acc f).map stP))), .val (.d (.str f.nm)), .val (.d (.int f.lo)), .val (.d (.int f.hi)), c5', c6', .no, .no] h := by
  obtain ⟨e', h', q, rfl, c6', rfl⟩ := for_typ (p := stP) (f := forTurn (.nm 6) b__law_states_1) (all := acc) (I := fun done e h1 => h1 = h ∧ ∃ c6, e = [.val (.d fs), .val (.d (.list (acc.map stP))), .val (.d (.str f.nm)), .val (.d (.int f.lo)), .val (.d (.int f.hi)), .val (.d (.list ((grow done f).map stP))), c6, .no, .no]) acc [] [.val (.d fs), .val (.d (.list (acc.map stP))), .val (.d (.str f.nm)), .val (.d (.int f.lo)), .val (.d (.int f.hi)), .val (.d (.list [])), c6, .no, .no] h rfl (fun done st rest e e1 h1 ⟨kh, c6, ke⟩ => by
    subst kh ke
    have ls := ha st (by rw [e]; simp)
    have lc := lc_ok (own := [7, 8]) (fe := l__law_states_1) (snoc1 (st.map .int)) (ds := (vals f).map .int) (e := [.val (.d fs), .val (.d (.list (acc.map stP))), .val (.d (.str f.nm)), .val (.d (.int f.lo)), .val (.d (.int f.hi)), .val (.d (.list ((grow done f).map stP))), .val (.d (stP st)), .no, .no]) [.val (.d fs), .val (.d (.list (acc.map stP))), .val (.d (.str f.nm)), .val (.d (.int f.lo)), .val (.d (.int f.hi)), .val (.d (.list ((grow done f).map stP))), .val (.d (stP st)), .no, .no] (h := h1) (by simp) (fun d hd => by
      obtain ⟨v, _, rfl⟩ := List.mem_map.mp hd
      have l2 : st.length + 1 ≤ 16777216 := by omega
      exact ⟨[.val (.d fs), .val (.d (.list (acc.map stP))), .val (.d (.str f.nm)), .val (.d (.int f.lo)), .val (.d (.int f.hi)), .val (.d (.list ((grow done f).map stP))), .val (.d (stP st)), .no, .val (.d (.int v))], by simp [l__law_states_1, stP, l2, snoc1], by simp⟩)
    rw [snoc1_p] at lc
    have rg := rng2_vals f b [.val (.d fs), .val (.d (.list (acc.map stP))), .val (.d (.str f.nm)), .val (.d (.int f.lo)), .val (.d (.int f.hi)), .val (.d (.list ((grow done f).map stP))), .val (.d (stP st)), .no, .no] h1
    have gs : grow (done ++ [st]) f = grow done f ++ (vals f).map fun v => st ++ [v] := by simp [grow]
    have gl : (grow done f).length + (vals f).length ≤ 16777216 := by
      have : (grow (done ++ [st]) f).length ≤ (grow acc f).length := by
        rw [grow_len, grow_len, e]
        exact Nat.mul_le_mul_right _ (by simp)
      rw [gs] at this
      simp at this
      omega
    refine ⟨[.val (.d fs), .val (.d (.list (acc.map stP))), .val (.d (.str f.nm)), .val (.d (.int f.lo)), .val (.d (.int f.hi)), .val (.d (.list ((grow (done ++ [st]) f).map stP))), .val (.d (stP st)), .no, .no], h1, ?_, rfl, _, rfl⟩
    rw [gs, List.map_append]
    have e3 : ((vals f).map fun v => st ++ [v]).map stP = (vals f).map fun v => PyData.tuple (st.map .int ++ [.int v]) := by rw [List.map_map]; refine List.map_congr_left fun v _ => ?_; exact (st_snoc st v).symm
    rw [e3]
    simp [b__law_states_1, mLc, mRng2]
    rw [rg]
    simp only [R.bind_ok]
    rw [lc]
    simp [gl]) ⟨rfl, _, rfl⟩
  refine ⟨.val (.d (.list ((grow acc f).map stP))), c6', ?_⟩
  simp [b__law_states_2, Fd.p, q]
theorem g_states {fs : List Fd} (FO : FsOk fs) (hm : manyF fs ≤ 60) (h : Hh) : F__law_states [.d (fds fs)] h = .ok (.d (.list ((allSt fs).map stP))) [] h := by
  have bd := fun f hf => fd_bounds (FO.ok f hf)
  have pre : ∀ done rest, fs = done ++ rest → (allSt done).length ≤ 60 := fun done rest e => by
    have l1 : (allSt done).length ≤ (allSt fs).length := by
      have := fold_le rest (allSt done) fun f hf => (bd f (by rw [e]; exact List.mem_append_right _ hf)).2.1
      have e2 : allSt fs = rest.foldl grow (allSt done) := by rw [e]; simp [allSt]
      rw [e2]
      exact this
    have := allSt_len FO.ok
    omega
  obtain ⟨e', h', q, rfl, c2, c3, c4, c5, c6, rfl⟩ := for_typ (p := Fd.p) (f := forTurn (tg3 2 3 4) b__law_states_2) (all := fs) (I := fun done e h1 => h1 = h ∧ ∃ c2 c3 c4 c5 c6, e = [.val (.d (fds fs)), .val (.d (.list ((allSt done).map stP))), c2, c3, c4, c5, c6, .no, .no]) fs [] [.val (.d (fds fs)), .val (.d (.list [.tuple []])), .no, .no, .no, .no, .no, .no, .no] h rfl (fun done f rest e e1 h1 ⟨kh, c2, c3, c4, c5, c6, ke⟩ => by
    subst kh ke
    have l60 := pre (done ++ [f]) rest (by rw [e]; simp)
    rw [allSt_snoc] at l60
    have wd := fun st (hst : st ∈ allSt done) => allSt_wide hst
    have ld : done.length ≤ 3 := by have := FO.l3; rw [e] at this; simp at this; omega
    obtain ⟨c5', c6', t⟩ := g_states_turn (fds fs) f (bd f (by rw [e]; simp)) (allSt done) (fun st hst => by rw [wd st hst]; omega) l60 c2 c3 c4 c5 c6 h1
    rw [← allSt_snoc] at t
    exact ⟨_, h1, t, rfl, _, _, _, c5', c6', rfl⟩) ⟨rfl, _, _, _, _, _, rfl⟩
  simp only [fds] at q
  simp [F__law_states, m__law_states, env0, fds, q]
end K52
/-! C37: tables. -/
namespace K52
open PySem PySem.Spec L2 DL
variable [WorldC]
theorem nm_inj : ∀ {cs : List Cm} {c d : Cm}, (cs.map Cm.nm).Nodup → c ∈ cs → d ∈ cs → c.nm = d.nm → c = d
  | x :: cs, c, d, nd, hc, hd, e => by
    simp only [List.map_cons, List.nodup_cons] at nd
    rcases List.mem_cons.mp hc with z | z
    · rcases List.mem_cons.mp hd with y | y
      · rw [z, y]
      · subst z; exact absurd (List.mem_map.mpr ⟨d, y, e.symm⟩) nd.1
    · rcases List.mem_cons.mp hd with y | y
      · subst y; exact absurd (List.mem_map.mpr ⟨c, z, e⟩) nd.1
      · exact nm_inj nd.2 z y e
theorem names_map (cs : List Cm) : (cs.map Cm.nm).map PyData.str = cs.map fun c => PyData.str c.nm := by rw [List.map_map]; rfl
theorem names_lc2 (fe : P → M (List P)) (cs : List Cm) (a : Cel) (h : Hh) (H : ∀ c : Cm, fe c.p [a, .no, .no] h = .ok [.str c.nm] [a, .no, .val (.d c.p)] h) : endLc [1, 2] fe (cs.map Cm.p) [a, .no, .no] h = .ok (.d (.list ((cs.map Cm.nm).map .str))) [a, .no, .no] h := by
  have lc := lc_ok (own := [1, 2]) (fe := fe) (fun d => [it0 d]) (ds := cs.map Cm.p) (e := [a, .no, .no]) [a, .no, .no] (h := h) (by simp) (fun d hd => by
    obtain ⟨c, _, rfl⟩ := List.mem_map.mp hd
    exact ⟨_, H c, by simp⟩)
  rw [flat_one, List.map_map] at lc
  rw [List.map_map]
  simp at lc ⊢
  exact lc
theorem f_names_in (a b : P) (cs : List Cm) (h : Hh) : F_names_in [.d (.tuple [a, b, .tuple (cs.map Cm.p)])] h = .ok (.d (.list ((cs.map Cm.nm).map .str))) [] h := by
  have lc := names_lc2 l_names_in_1 cs (.val (.d (.tuple [a, b, .tuple (cs.map Cm.p)]))) h fun c => by simp [l_names_in_1, Cm.p]
  rw [List.map_map] at lc ⊢
  simp [F_names_in, m_names_in, env0, lc]
theorem g_labels (a b : P) (cs : List Cm) (h : Hh) : F__law_labels [.d (.tuple [a, b, .tuple (cs.map Cm.p)])] h = .ok (.d (.list ((cs.map Cm.nm).map .str))) [] h := by
  have lc := names_lc2 l__law_labels_1 cs (.val (.d (.tuple [a, b, .tuple (cs.map Cm.p)]))) h fun c => by simp [l__law_labels_1, Cm.p]
  rw [List.map_map] at lc ⊢
  simp [F__law_labels, m__law_labels, env0, lc]
def key (st : List Int) (x : Str) : P := .tuple [stP st, .str x]
theorem kEq_key (a b : List Int) (x y : Str) : kEq (key a x) (key b y) = decide (a = b ∧ x = y) := kEq_is a b x y
theorem d8_key (a : List Int) (x : Str) : depth8 (key a x) = true := d8_is a x
structure TabOk (s : Sys) (kvs : List (P × P)) : Prop where
  tup : TupK kvs
  get : ∀ st, StOk s.fs st → ∀ c ∈ s.cs, dget kvs (key st c.nm) = some (opP (after s.fs st c))
theorem tab_inner {s : Sys} (O : SysOk s) {inner : P → M Fl} (Hin : ∀ st c kvs c3 h, StOk s.fs st → c ∈ s.cs → TupK kvs → kvs.length ≤ 1000 → inner (.str c.nm) [.val (.d s.p), .obj (.dct kvs), .val (.d (stP st)), c3] h = .ok .next [.val (.d s.p), .obj (.dct (dput kvs (key st c.nm) (opP (after s.fs st c)))), .val (.d (stP st)), .val (.d (.str c.nm))] h)
    {st : List Int} (hst : StOk s.fs st) {kvs : List (P × P)} (tup : TupK kvs) (len : kvs.length ≤ 900) (Old : List Int → Prop) (old : ∀ st', Old st' → ∀ c ∈ s.cs, dget kvs (key st' c.nm) = some (opP (after s.fs st' c))) (c3 : Cel) (h : Hh) :
    ∃ kvs' c3', forGo inner ((s.cs.map Cm.nm).map .str) [.val (.d s.p), .obj (.dct kvs), .val (.d (stP st)), c3] h = .ok .next [.val (.d s.p), .obj (.dct kvs'), .val (.d (stP st)), c3'] h ∧ TupK kvs' ∧ kvs'.length ≤ kvs.length + s.cs.length ∧ ∀ st', Old st' ∨ st' = st → ∀ c ∈ s.cs, dget kvs' (key st' c.nm) = some (opP (after s.fs st' c)) := by
  rw [names_map]
  have l8 := O.l8
  obtain ⟨e', h', q, rfl, kvs', c3', rfl, t1, t2, t3, t4⟩ := for_typ (p := fun c : Cm => PyData.str c.nm) (f := inner) (all := s.cs) (I := fun done e h1 => h1 = h ∧ ∃ kvs' c3, e = [.val (.d s.p), .obj (.dct kvs'), .val (.d (stP st)), c3] ∧ TupK kvs' ∧ kvs'.length ≤ kvs.length + done.length ∧ (∀ st', Old st' → ∀ c ∈ s.cs, dget kvs' (key st' c.nm) = some (opP (after s.fs st' c))) ∧ ∀ c ∈ done, dget kvs' (key st c.nm) = some (opP (after s.fs st c)))
    s.cs [] [.val (.d s.p), .obj (.dct kvs), .val (.d (stP st)), c3] h rfl (fun done c rest e e1 h1 ⟨kh, kvs', c3, ke, t1, t2, t3, t4⟩ => by
    subst kh ke
    have hc : c ∈ s.cs := by rw [e]; simp
    have dl : done.length + 1 ≤ 8 := by rw [e] at l8; simp at l8; omega
    have gp := dget_dput kvs' (key st c.nm) (opP (after s.fs st c))
    have one : ∀ st' d, d ∈ s.cs → (dget kvs' (key st' d.nm) = some (opP (after s.fs st' d)) ∨ (st' = st ∧ d = c)) → dget (dput kvs' (key st c.nm) (opP (after s.fs st c))) (key st' d.nm) = some (opP (after s.fs st' d)) := fun st' d hd z => by
      rw [gp, kEq_key]
      by_cases k : st = st' ∧ c.nm = d.nm
      · rw [if_pos (decide_eq_true k)]
        have := nm_inj (names_nd O.up) hc hd k.2
        rw [← this, k.1]
      · rw [if_neg (by simpa using k)]
        rcases z with z | ⟨z1, z2⟩
        · exact z
        · exact absurd ⟨z1.symm, by rw [z2]⟩ k
    refine ⟨_, h1, Hin st c kvs' c3 h1 hst hc t1 (by omega), rfl, _, _, rfl, t1.put, ?_, fun st' ho d hd => one st' d hd (.inl (t3 st' ho d hd)), fun d hd => ?_⟩
    · have := dput_len kvs' (key st c.nm) (opP (after s.fs st c))
      simp only [List.length_append, List.length_cons, List.length_nil]
      omega
    · rcases List.mem_append.mp hd with z | z
      · exact one st d (by rw [e]; exact List.mem_append_left _ z) (.inl (t4 d z))
      · rw [List.mem_singleton.mp z]; exact one st c hc (.inr ⟨rfl, rfl⟩)) ⟨rfl, kvs, c3, rfl, tup, Nat.le_refl _, old, fun c hc => by cases hc⟩
  refine ⟨kvs', c3', q, t1, t2, fun st' z c hc => ?_⟩
  rcases z with z | rfl
  · exact t3 st' z c hc
  · exact t4 c hc
theorem tab_outer {s : Sys} (O : SysOk s) (hm : (allSt s.fs).length ≤ 60) {outer : P → M Fl} (Hout : ∀ st kvs c2 c3 h (Old : List Int → Prop), StOk s.fs st → TupK kvs → kvs.length ≤ 900 → (∀ st', Old st' → ∀ c ∈ s.cs, dget kvs (key st' c.nm) = some (opP (after s.fs st' c))) →
      ∃ kvs' c2' c3', outer (stP st) [.val (.d s.p), .obj (.dct kvs), c2, c3] h = .ok .next [.val (.d s.p), .obj (.dct kvs'), c2', c3'] h ∧ TupK kvs' ∧ kvs'.length ≤ kvs.length + s.cs.length ∧ ∀ st', Old st' ∨ st' = st → ∀ c ∈ s.cs, dget kvs' (key st' c.nm) = some (opP (after s.fs st' c))) (h : Hh) :
    ∃ kvs c2 c3, forGo outer ((allSt s.fs).map stP) [.val (.d s.p), .obj (.dct []), .no, .no] h = .ok .next [.val (.d s.p), .obj (.dct kvs), c2, c3] h ∧ TabOk s kvs ∧ kvs.length ≤ 480 := by
  have l8 := O.l8
  obtain ⟨e', h', q, rfl, kvs, c2, c3, rfl, t1, t2, t3⟩ := for_typ (p := stP) (f := outer) (all := allSt s.fs) (I := fun done e h1 => h1 = h ∧ ∃ kvs c2 c3, e = [.val (.d s.p), .obj (.dct kvs), c2, c3] ∧ TupK kvs ∧ kvs.length ≤ done.length * 8 ∧ ∀ st ∈ done, ∀ c ∈ s.cs, dget kvs (key st c.nm) = some (opP (after s.fs st c)))
    (allSt s.fs) [] [.val (.d s.p), .obj (.dct []), .no, .no] h rfl (fun done st rest e e1 h1 ⟨kh, kvs, c2, c3, ke, t1, t2, t3⟩ => by
    subst kh ke
    have dl : done.length ≤ 60 := by rw [e] at hm; simp at hm; omega
    have hst : StOk s.fs st := (allSt_mem s.fs st).mp (by rw [e]; simp)
    obtain ⟨kvs', c2', c3', q, u1, u2, u3⟩ := Hout st kvs c2 c3 h1 (· ∈ done) hst t1 (by omega) t3
    refine ⟨_, h1, q, rfl, kvs', c2', c3', rfl, u1, ?_, fun st' hs' => u3 st' ?_⟩
    · simp only [List.length_append, List.length_cons, List.length_nil]; omega
    · rcases List.mem_append.mp hs' with z | z
      · exact .inl z
      · exact .inr (List.mem_singleton.mp z)) ⟨rfl, [], _, _, rfl, TupK.nil, by simp, fun st hs => by cases hs⟩
  exact ⟨kvs, c2, c3, q, ⟨t1, fun st hs c hc => t3 st ((allSt_mem s.fs st).mpr hs) c hc⟩, by omega⟩
theorem many60 {s : Sys} (O : SysOk s) : manyF s.fs ≤ 60 := by
  obtain ⟨_, _, h3, _, _⟩ := fields_p O.fsO
  simp only [fdsOk, Bool.and_eq_true, decide_eq_true_eq] at h3
  exact h3.1
theorem all60 {s : Sys} (O : SysOk s) : (allSt s.fs).length ≤ 60 := by
  have h1 := allSt_len O.fs.ok
  have := many60 O
  omega
theorem f_table_of {s : Sys} (O : SysOk s) (h : Hh) : ∃ kvs, F_table_of [.d s.p] h = .ok (.d (.dict kvs)) [] h ∧ TabOk s kvs := by
  obtain ⟨kvs, c2, c3, q, T, _⟩ := tab_outer O (all60 O) (outer := forTurn (.nm 2) (b_table_of_2 F_led_to F_names_in F_states_of)) (fun st kvs c2 c3 h Old hs t l old => by
    obtain ⟨kvs', c3', q, u⟩ := tab_inner O (inner := forTurn (.nm 3) (b_table_of_1 F_led_to F_names_in F_states_of)) (fun st c kvs c3 h hs hc t l => by
      have fl := f_led_to s O hc hs h
      have ko := keyOk_t (ds := [stP st, .str c.nm]) t (d8_key st c.nm)
      have ln : (dput kvs (.tuple [stP st, .str c.nm]) (opP (after s.fs st c))).length ≤ 16777216 := by have := dput_len kvs (.tuple [stP st, .str c.nm]) (opP (after s.fs st c)); omega
      simp [b_table_of_1, fl, ko, ln, key]) hs t l Old old c3 h
    refine ⟨kvs', .val (.d (stP st)), c3', ?_, u⟩
    have fn := f_names_in (fds s.fs) (stP s.st) s.cs h
    have e : s.p = .tuple [fds s.fs, stP s.st, .tuple (s.cs.map Cm.p)] := rfl
    rw [← e] at fn
    rw [List.map_map] at fn q
    simp [b_table_of_2, fn, q]) h
  refine ⟨kvs, ?_, T⟩
  have fs := f_states_of O.fs (many60 O) h
  have e : s.p = .tuple [fds s.fs, stP s.st, .tuple (s.cs.map Cm.p)] := rfl
  have ix : idxP [s.p, .int 0] = some (fds s.fs) := rfl
  simp [F_table_of, m_table_of, env0, ix, fs, q, dispOk, dputs]
theorem g_table {s : Sys} (O : SysOk s) (h : Hh) : ∃ kvs, F__law_table [.d s.p] h = .ok (.d (.dict kvs)) [] h ∧ TabOk s kvs := by
  obtain ⟨kvs, c2, c3, q, T, _⟩ := tab_outer O (all60 O) (outer := forTurn (.nm 2) (b__law_table_2 F__law_after F__law_labels F__law_states)) (fun st kvs c2 c3 h Old hs t l old => by
    obtain ⟨kvs', c3', q, u⟩ := tab_inner O (inner := forTurn (.nm 3) (b__law_table_1 F__law_after F__law_labels F__law_states)) (fun st c kvs c3 h hs hc t l => by
      have fl := g_after s O hc hs h
      have ko := keyOk_t (ds := [stP st, .str c.nm]) t (d8_key st c.nm)
      have ln : (dput kvs (.tuple [stP st, .str c.nm]) (opP (after s.fs st c))).length ≤ 16777216 := by have := dput_len kvs (.tuple [stP st, .str c.nm]) (opP (after s.fs st c)); omega
      simp [b__law_table_1, fl, ko, ln, key]) hs t l Old old c3 h
    refine ⟨kvs', .val (.d (stP st)), c3', ?_, u⟩
    have fn := g_labels (fds s.fs) (stP s.st) s.cs h
    have e : s.p = .tuple [fds s.fs, stP s.st, .tuple (s.cs.map Cm.p)] := rfl
    rw [← e] at fn
    rw [List.map_map] at fn q
    simp [b__law_table_2, fn, q]) h
  refine ⟨kvs, ?_, T⟩
  have fs := g_states O.fs (many60 O) h
  have ix : idxP [s.p, .int 0] = some (fds s.fs) := rfl
  simp [F__law_table, m__law_table, env0, ix, fs, q, dispOk, dputs]
end K52
namespace DL
open PySem PySem.Spec L2
variable [WorldC]
/-- a while with a measure -/
theorem wh_typ {c : M Bool} {b : M Fl} {I : Nat → DL.Env → Hh → Prop} {J : DL.Env → Hh → Prop} (H : ∀ k e h, I k e h → (∃ e1 h1, c e h = .ok false e1 h1 ∧ J e1 h1) ∨ ∃ e1 h1 e2 h2 k', c e h = .ok true e1 h1 ∧ b e1 h1 = .ok .next e2 h2 ∧ k' < k ∧ I k' e2 h2) : ∀ (n k : Nat) (e : DL.Env) (h : Hh), k < n → I k e h → ∃ e' h', whGo c b n e h = .ok .next e' h' ∧ J e' h'
  | 0, _, _, _, l, _ => absurd l (Nat.not_lt_zero _)
  | n + 1, k, e, h, l, i => by
    rcases H k e h i with ⟨e1, h1, q, j⟩ | ⟨e1, h1, e2, h2, k', q1, q2, lt, i2⟩
    · exact ⟨e1, h1, by simp only [whGo, q, R.bind_ok, ev_if_f, ev_sNil], j⟩
    · obtain ⟨e', h', q3, j⟩ := wh_typ H n k' e2 h2 (by omega) i2
      exact ⟨e', h', by simp only [whGo, q1, R.bind_ok, ev_if_t, q2, whEnd]; exact q3, j⟩
end DL
namespace K52
open PySem PySem.Spec L2 DL
variable [WorldC]
inductive Reach (s : Sys) : List Int → Prop where
  | start : Reach s s.st
  | step {x y : List Int} {c : Cm} : Reach s x → c ∈ s.cs → after s.fs x c = some y → Reach s y
def fd (fo : List (List Int)) : List (P × P) := fo.map fun st => (stP st, .bool true)
@[simp] theorem nod_st (st : List Int) : nod (stP st) = true := by simp [stP]
@[simp] theorem nods_sts (l : List (List Int)) : nods (l.map stP) = true := by induction l <;> simp_all
theorem fd_any (fo : List (List Int)) (st : List Int) : ((fd fo).any fun z => kEq z.1 (stP st)) = decide (st ∈ fo) := by
  induction fo with
  | nil => rfl
  | cons a r ih =>
    have e : fd (a :: r) = (stP a, .bool true) :: fd r := rfl
    rw [e, List.any_cons, ih]
    have k : kEq (stP a) (stP st) = decide (a = st) := kEq_ints a st
    simp only [k, List.mem_cons]
    by_cases q : a = st
    · simp [q]
    · have q2 : ¬ st = a := fun z => q z.symm
      simp [q, q2]
theorem fd_put {fo : List (List Int)} {st : List Int} (h : st ∉ fo) : dput (fd fo) (stP st) (.bool true) = fd (fo ++ [st]) := by
  unfold dput
  rw [fd_any, if_neg (by simpa using h)]
  simp [fd]
theorem fd_tup (fo : List (List Int)) : TupK (fd fo) := fun z hz => by
  obtain ⟨a, _, rfl⟩ := List.mem_map.mp hz
  exact ⟨_, rfl⟩
theorem d8_st (st : List Int) : depth8 (stP st) = true := d8_ints st
theorem fd_ok (fo : List (List Int)) (st : List Int) : keyOk (fd fo) (stP st) = true := keyOk_t (fd_tup fo) (d8_st st)
theorem fd_notin (fo : List (List Int)) (st : List Int) : notinP [stP st, .dict (fd fo)] = some (.bool !decide (st ∈ fo)) := by
  have e : notinP [stP st, .dict (fd fo)] = if keyOk (fd fo) (stP st) then some (.bool (!(dget (fd fo) (stP st)).isSome)) else none := rfl
  rw [e, if_pos (fd_ok fo st), dget_isSome, fd_any]
/-- what the search keeps; st is the state that is looked at -/
structure Srch (s : Sys) (fo ro : List (List Int)) (P0 : List Int → Prop) : Prop where
  nd : fo.Nodup
  st : s.st ∈ fo
  ok : ∀ x ∈ fo, StOk s.fs x ∧ Reach s x
  sub : ∀ x ∈ ro, x ∈ fo
  cl : ∀ x ∈ fo, x ∈ ro ∨ P0 x ∨ ∀ c ∈ s.cs, ∀ y, after s.fs x c = some y → y ∈ fo
theorem fo_len {s : Sys} (O : SysOk s) {fo : List (List Int)} (nd : fo.Nodup) (ok : ∀ x ∈ fo, StOk s.fs x ∧ Reach s x) : fo.length ≤ 60 :=
  Nat.le_trans (sub_len nd fun x hx => (allSt_mem s.fs x).mpr (ok x hx).1) (all60 O)
/-- one look at a command, in the search; the whole search -/
def stepD (s : Sys) (st : List Int) (z : List (List Int) × List (List Int)) (c : Cm) : List (List Int) × List (List Int) := match after s.fs st c with
  | none => z
  | some y => if y ∈ z.1 then z else (z.1 ++ [y], z.2 ++ [y])
inductive DfsTo (s : Sys) : List (List Int) → List (List Int) → List (List Int) → Prop where
  | done {fo : List (List Int)} : DfsTo s fo [] fo
  | step {fo r0 f : List (List Int)} {st : List Int} : DfsTo s (s.cs.foldl (stepD s st) (fo, r0)).1 (s.cs.foldl (stepD s st) (fo, r0)).2 f → DfsTo s fo (r0 ++ [st]) f
theorem DfsTo.uniq {s : Sys} {fo ro f g : List (List Int)} (a : DfsTo s fo ro f) (b : DfsTo s fo ro g) : f = g := by
  induction a with
  | done =>
    cases h : ([] : List (List Int)) with
    | nil =>
      generalize hr : ([] : List (List Int)) = r at b
      cases b with
      | done => rfl
      | step _ => simp at hr
    | cons _ _ => cases h
  | @step fo r0 f st _ ih =>
    generalize hr : r0 ++ [st] = r at b
    cases b with
    | done => simp at hr
    | @step _ r1 _ st1 b =>
      obtain ⟨e1, e2⟩ := List.append_inj' hr rfl
      cases e2
      subst e1
      exact ih b
theorem reach_turn {s : Sys} (O : SysOk s) {kvs : List (P × P)} (T : TabOk s kvs) {st : List Int} (hst : StOk s.fs st) {c : Cm} (hc : c ∈ s.cs) {fo ro : List (List Int)} (lf : fo.length ≤ 60) (lr : ro.length ≤ 1000) (c5 c6 : Cel) (h : Hh) :
    ∃ fo' ro' c6', forTurn (.nm 5) (b_reached_1 F_names_in) (.str c.nm) [.val (.d s.p), .val (.d (.dict kvs)), .obj (.dct (fd fo)), .obj (.lst (ro.map stP)), .val (.d (stP st)), c5, c6] h = .ok .next [.val (.d s.p), .val (.d (.dict kvs)), .obj (.dct (fd fo')), .obj (.lst (ro'.map stP)), .val (.d (stP st)), .val (.d (.str c.nm)), c6'] h ∧
      ((after s.fs st c = none ∨ ∃ y, after s.fs st c = some y ∧ y ∈ fo) ∧ fo' = fo ∧ ro' = ro ∨ ∃ y, after s.fs st c = some y ∧ y ∉ fo ∧ fo' = fo ++ [y] ∧ ro' = ro ++ [y]) ∧ stepD s st (fo, ro) c = (fo', ro') := by
  have g := T.get st hst c hc
  have ko := keyOk_t (ds := [stP st, .str c.nm]) T.tup (d8_key st c.nm)
  simp only [key] at g
  cases a : after s.fs st c with
  | none =>
    rw [a] at g
    exact ⟨fo, ro, .val (.d .none), by simp [b_reached_1, ko, g, opP], .inl ⟨.inl rfl, rfl, rfl⟩, by simp [stepD, a]⟩
  | some y =>
    rw [a] at g
    have nn := fd_notin fo y
    have e0 : stP y = .tuple (y.map .int) := rfl
    by_cases m : y ∈ fo
    · refine ⟨fo, ro, .val (.d (stP y)), ?_, .inl ⟨.inr ⟨y, rfl, m⟩, rfl, rfl⟩, by simp [stepD, a, m]⟩
      simp only [e0, m, decide_true, Bool.not_true] at nn
      simp [b_reached_1, ko, g, opP, nn, e0]
    · refine ⟨fo ++ [y], ro ++ [y], .val (.d (stP y)), ?_, .inr ⟨y, rfl, m, rfl, rfl⟩, by simp [stepD, a, m]⟩
      have pt := fd_put m
      have fk := fd_ok fo y
      have l1 : (fd (fo ++ [y])).length ≤ 16777216 := by simp [fd]; omega
      have l2 : ro.length + 1 ≤ 16777216 := by omega
      simp only [e0, m, decide_false, Bool.not_false] at nn pt fk
      simp [b_reached_1, ko, g, opP, nn, e0, pt, fk, l1, l2]
theorem reach_for {s : Sys} (O : SysOk s) {kvs : List (P × P)} (T : TabOk s kvs) {st : List Int} {fo ro : List (List Int)} (hst : st ∈ fo) (I : Srch s fo ro (· = st)) (lr : ro.length ≤ 60) (c5 c6 : Cel) (h : Hh) :
    ∃ fo' ro' c5' c6', forGo (forTurn (.nm 5) (b_reached_1 F_names_in)) ((s.cs.map Cm.nm).map .str) [.val (.d s.p), .val (.d (.dict kvs)), .obj (.dct (fd fo)), .obj (.lst (ro.map stP)), .val (.d (stP st)), c5, c6] h = .ok .next [.val (.d s.p), .val (.d (.dict kvs)), .obj (.dct (fd fo')), .obj (.lst (ro'.map stP)), .val (.d (stP st)), c5', c6'] h ∧ Srch s fo' ro' (fun _ => False) ∧ fo'.length + ro.length = fo.length + ro'.length ∧ fo.length ≤ fo'.length ∧ s.cs.foldl (stepD s st) (fo, ro) = (fo', ro') := by
  rw [names_map]
  have hs := I.ok st hst
  obtain ⟨e', h', q, rfl, fo', ro', c5', c6', rfl, i1, i2, i3, i4, i5, i6⟩ := for_typ (p := fun c : Cm => PyData.str c.nm) (f := forTurn (.nm 5) (b_reached_1 F_names_in)) (all := s.cs) (I := fun done e h1 => h1 = h ∧ ∃ fo' ro' c5 c6, e = [.val (.d s.p), .val (.d (.dict kvs)), .obj (.dct (fd fo')), .obj (.lst (ro'.map stP)), .val (.d (stP st)), c5, c6] ∧ Srch s fo' ro' (· = st) ∧ fo'.length + ro.length = fo.length + ro'.length ∧ fo.length ≤ fo'.length ∧ st ∈ fo' ∧ (∀ c ∈ done, ∀ y, after s.fs st c = some y → y ∈ fo') ∧ done.foldl (stepD s st) (fo, ro) = (fo', ro'))
    s.cs [] [.val (.d s.p), .val (.d (.dict kvs)), .obj (.dct (fd fo)), .obj (.lst (ro.map stP)), .val (.d (stP st)), c5, c6] h rfl (fun done c rest e e1 h1 ⟨kh, fo1, ro1, c5, c6, ke, I1, l1, l2, m1, d1, f1⟩ => by
    subst kh ke
    have hc : c ∈ s.cs := by rw [e]; simp
    have lf := fo_len O I1.nd I1.ok
    obtain ⟨fo2, ro2, c6', t, ht, sd⟩ := reach_turn O T hs.1 hc lf (ro := ro1) (by omega) c5 c6 h1
    refine ⟨_, h1, t, rfl, fo2, ro2, _, c6', rfl, ?_⟩
    rcases ht with ⟨z, rfl, rfl⟩ | ⟨y, ay, ny, rfl, rfl⟩
    · refine ⟨I1, l1, l2, m1, fun d hd y ay => ?_, by rw [List.foldl_append, f1]; exact sd⟩
      rcases List.mem_append.mp hd with w | w
      · exact d1 d w y ay
      · rw [List.mem_singleton.mp w] at ay
        rcases z with z | ⟨y', z1, z2⟩
        · rw [z] at ay; cases ay
        · rw [z1] at ay; cases ay; exact z2
    · have my : ∀ x, x ∈ fo1 → x ∈ fo1 ++ [y] := fun x hx => List.mem_append_left _ hx
      refine ⟨⟨?_, my _ I1.st, fun x hx => ?_, fun x hx => ?_, fun x hx => ?_⟩, by simp; omega, by simp; omega, my _ m1, fun d hd y' ay' => ?_, by rw [List.foldl_append, f1]; exact sd⟩
      · rw [List.nodup_append]
        refine ⟨I1.nd, by simp, fun a ha b hb => ?_⟩
        rw [List.mem_singleton.mp hb]
        exact fun z => ny (z ▸ ha)
      · rcases List.mem_append.mp hx with w | w
        · exact I1.ok x w
        · rw [List.mem_singleton.mp w]; exact ⟨after_ok ay, .step hs.2 hc ay⟩
      · rcases List.mem_append.mp hx with w | w
        · exact my x (I1.sub x w)
        · exact List.mem_append_right _ w
      · rcases List.mem_append.mp hx with w | w
        · rcases I1.cl x w with v | v | v
          · exact .inl (List.mem_append_left _ v)
          · exact .inr (.inl v)
          · exact .inr (.inr fun d hd y' ay' => my _ (v d hd y' ay'))
        · exact .inl (List.mem_append_right _ w)
      · rcases List.mem_append.mp hd with w | w
        · exact my _ (d1 d w y' ay')
        · rw [List.mem_singleton.mp w] at ay'
          rw [ay] at ay'
          cases ay'
          simp) ⟨rfl, fo, ro, c5, c6, rfl, I, rfl, Nat.le_refl _, hst, (fun c hc => by cases hc), rfl⟩
  refine ⟨fo', ro', c5', c6', q, ⟨i1.nd, i1.st, i1.ok, i1.sub, fun x hx => ?_⟩, i2, i3, i6⟩
  rcases i1.cl x hx with v | v | v
  · exact .inl v
  · exact .inr (.inr (v ▸ i5))
  · exact .inr (.inr v)
end K52
/-! C39: the states that are reached. -/
namespace K52
open PySem PySem.Spec L2 DL
variable [WorldC]
theorem pop_st (ro : List (List Int)) (st : List Int) : popM ((ro ++ [st]).map stP) [] = some (stP st, ro.map stP) := by
  unfold popM
  simp
noncomputable abbrev whBody : M Fl := sCons (sAsg 4 (mMut popM (mVar 3) mNil)) (sCons (sFor (.nm 5) (mSeq (mCall F_names_in (mCons (mFz 0) mNil))) (b_reached_1 F_names_in)) sNil)
noncomputable abbrev whTest : M Bool := mBl (mOp neP (mCons (mVar 3) (mCons (mLst mNil) mNil)))
def WhI (s : Sys) (kvs : List (P × P)) (h0 : Hh) (k : Nat) (e : DL.Env) (h : Hh) : Prop := h = h0 ∧ ∃ fo ro c4 c5 c6, e = [.val (.d s.p), .val (.d (.dict kvs)), .obj (.dct (fd fo)), .obj (.lst (ro.map stP)), c4, c5, c6] ∧ Srch s fo ro (fun _ => False) ∧ ro.length ≤ fo.length ∧ (∀ f, DfsTo s fo ro f → DfsTo s [s.st] [s.st] f) ∧ k = 2 * (60 - fo.length) + ro.length
def WhJ (s : Sys) (kvs : List (P × P)) (h0 : Hh) (e : DL.Env) (h : Hh) : Prop := h = h0 ∧ ∃ fo c4 c5 c6, e = [.val (.d s.p), .val (.d (.dict kvs)), .obj (.dct (fd fo)), .obj (.lst []), c4, c5, c6] ∧ Srch s fo [] (fun _ => False) ∧ DfsTo s [s.st] [s.st] fo
theorem wh_step {s : Sys} (O : SysOk s) {kvs : List (P × P)} (T : TabOk s kvs) (h0 : Hh) : ∀ k e h, WhI s kvs h0 k e h → (∃ e1 h1, whTest e h = .ok false e1 h1 ∧ WhJ s kvs h0 e1 h1) ∨ ∃ e1 h1 e2 h2 k', whTest e h = .ok true e1 h1 ∧ whBody e1 h1 = .ok .next e2 h2 ∧ k' < k ∧ WhI s kvs h0 k' e2 h2 := by
  rintro k e h ⟨rfl, fo, ro, c4, c5, c6, rfl, I, lr, df, rfl⟩
  have nn := ne_nil (ro.map stP) (nods_sts ro)
  have lf := fo_len O I.nd I.ok
  rcases List.eq_nil_or_concat ro with rfl | ⟨r0, st, rfl⟩
  · refine .inl ⟨_, h, ?_, rfl, fo, c4, c5, c6, rfl, I, df fo .done⟩
    simp [whTest, nn] at nn ⊢
    simp [nn]
  · rw [List.concat_eq_append] at *
    have hm : st ∈ fo := I.sub st (by simp)
    have I2 : Srch s fo r0 (· = st) := ⟨I.nd, I.st, I.ok, fun x hx => I.sub x (List.mem_append_left _ hx), fun x hx => by
      rcases I.cl x hx with v | v | v
      · rcases List.mem_append.mp v with w | w
        · exact .inl w
        · exact .inr (.inl (List.mem_singleton.mp w))
      · exact v.elim
      · exact .inr (.inr v)⟩
    simp only [List.length_append, List.length_cons, List.length_nil] at lr
    obtain ⟨fo', ro', c5', c6', q, I3, l1, l2, fl⟩ := reach_for O T hm I2 (by omega) c5 c6 h
    have lf' := fo_len O I3.nd I3.ok
    have ps := pop_st r0 st
    have tt : whTest [.val (.d s.p), .val (.d (.dict kvs)), .obj (.dct (fd fo)), .obj (.lst ((r0 ++ [st]).map stP)), c4, c5, c6] h = .ok true [.val (.d s.p), .val (.d (.dict kvs)), .obj (.dct (fd fo)), .obj (.lst ((r0 ++ [st]).map stP)), c4, c5, c6] h := by
      have em : ((r0 ++ [st]).map stP).isEmpty = false := by simp
      rw [em] at nn
      generalize (r0 ++ [st]).map stP = ds at nn
      simp [whTest, nn]
    refine .inr ⟨_, h, [.val (.d s.p), .val (.d (.dict kvs)), .obj (.dct (fd fo')), .obj (.lst (ro'.map stP)), .val (.d (stP st)), c5', c6'], h, 2 * (60 - fo'.length) + ro'.length, tt, ?_, ?_, rfl, fo', ro', _, c5', c6', rfl, I3, by omega, fun f hf => df f (.step (by rw [fl]; exact hf)), rfl⟩
    · have fn := f_names_in (fds s.fs) (stP s.st) s.cs h
      have e : s.p = .tuple [fds s.fs, stP s.st, .tuple (s.cs.map Cm.p)] := rfl
      rw [← e] at fn
      rw [List.map_map] at fn q
      have lr0 : r0.length ≤ 16777216 := by omega
      generalize (r0 ++ [st]).map stP = ds at ps
      simp [whBody, ps, lr0, fn, q]
    · simp only [List.length_append, List.length_cons, List.length_nil]
      omega
theorem sortable_st {fs : List Fd} (h1 : 1 ≤ fs.length) {l : List (List Int)} (ok : ∀ x ∈ l, StOk fs x) : sortable (l.map stP) = true := by
  have al : ∀ a b : List Int, PySem.W.alikeAll (a.map PyData.int) (b.map PyData.int) = true := fun a => by
    induction a with
    | nil => intro b; cases b <;> simp [PySem.W.alikeAll]
    | cons x a ih =>
      intro b
      cases b with
      | nil => simp [PySem.W.alikeAll]
      | cons y b => simp only [List.map_cons, PySem.W.alikeAll, PySem.W.alike, ih b, Bool.and_self]
  have dp : ∀ a : List Int, (stP a).depth ≤ 2 := fun a => by
    have : PyData.depthAll (a.map PyData.int) ≤ 1 := depth_all fun d hd => by
      obtain ⟨x, _, rfl⟩ := List.mem_map.mp hd
      exact depth_int x
    simp only [stP, PyData.depth]
    omega
  unfold sortable allAlike
  simp only [Bool.and_eq_true, Bool.or_eq_true, List.all_eq_true, decide_eq_true_eq]
  refine ⟨⟨fun d hd d' hd' => ?_, .inl fun d hd => ?_⟩, fun d hd => ?_⟩
  · obtain ⟨a, _, rfl⟩ := List.mem_map.mp hd
    obtain ⟨b, _, rfl⟩ := List.mem_map.mp hd'
    simp only [stP, PySem.W.alike]
    exact al a b
  · obtain ⟨a, ha, rfl⟩ := List.mem_map.mp hd
    have := (ok a ha).len
    cases a with
    | nil => simp at this; omega
    | cons x r => rfl
  · obtain ⟨a, _, rfl⟩ := List.mem_map.mp hd
    have := dp a
    omega
def stLe (a b : List Int) : Bool := leD (stP a) (stP b)
theorem sorted_st {fs : List Fd} (h1 : 1 ≤ fs.length) {l : List (List Int)} (ok : ∀ x ∈ l, StOk fs x) : sortedP [.list (l.map stP)] = some (.list ((l.mergeSort stLe).map stP)) := by
  have e : (l.map stP).mergeSort leD = (l.mergeSort stLe).map stP := (List.map_mergeSort (f := stP) (s := leD) (r := stLe) fun a _ b _ => rfl).symm
  simp only [sortedP, sortable_st h1 ok, if_true, e]
theorem fd_keys (fo : List (List Int)) : (fd fo).map (·.1) = fo.map stP := by simp [fd]
/-- reached: the states that commands lead to, sorted -/
structure Rchd (s : Sys) (ls : List (List Int)) : Prop where
  st : s.st ∈ ls
  ok : ∀ x ∈ ls, StOk s.fs x ∧ Reach s x
  cl : ∀ x ∈ ls, ∀ c ∈ s.cs, ∀ y, after s.fs x c = some y → y ∈ ls
  nd : ls.Nodup
  so : ∃ fo : List (List Int), DfsTo s [s.st] [s.st] fo ∧ ls = fo.mergeSort stLe
theorem Rchd.uniq {s : Sys} {l1 l2 : List (List Int)} (a : Rchd s l1) (b : Rchd s l2) : l1 = l2 := by
  obtain ⟨f, d1, e1⟩ := a.so
  obtain ⟨g, d2, e2⟩ := b.so
  rw [e1, e2, d1.uniq d2]
theorem st_ok {s : Sys} (O : SysOk s) : StOk s.fs s.st := by
  have k := stO_some s.fs (stP s.st)
  rw [O.st] at k
  exact k.symm
theorem f_reached {s : Sys} (O : SysOk s) {kvs : List (P × P)} (T : TabOk s kvs) (h : Hh) : ∃ ls, F_reached [.d s.p, .d (.dict kvs)] h = .ok (.d (.list (ls.map stP))) [] h ∧ Rchd s ls := by
  have so := st_ok O
  obtain ⟨e', h', q, rfl, fo, c4, c5, c6, rfl, I, df⟩ := wh_typ (J := WhJ s kvs h) (wh_step O T h) 100000 119 [.val (.d s.p), .val (.d (.dict kvs)), .obj (.dct (fd [s.st])), .obj (.lst ([s.st].map stP)), .no, .no, .no] h (by omega) ⟨rfl, [s.st], [s.st], .no, .no, .no, rfl, ⟨by simp, by simp, fun x hx => (by rw [List.mem_singleton.mp hx]; exact ⟨so, .start⟩), fun x hx => hx, fun x hx => .inl hx⟩, by simp, fun f hf => hf, rfl⟩
  have srt := sorted_st (fs := s.fs) O.fs.l1 (l := fo) fun x hx => (I.ok x hx).1
  have pm := List.mergeSort_perm fo stLe
  refine ⟨fo.mergeSort stLe, ?_, pm.mem_iff.mpr I.st, fun x hx => I.ok x (pm.mem_iff.mp hx), fun x hx c hc y ay => ?_, pm.nodup_iff.mpr I.nd, fo, df, rfl⟩
  · have e0 : F_reached = runF (sCons (sOwn 2 (mDct (mCons (mOp idxP (mCons (mVar 0) (mCons (mK (.int 1)) mNil))) (mCons (mK (.bool true)) mNil)))) (sCons (sOwn 3 (mLst (mCons (mOp idxP (mCons (mVar 0) (mCons (mK (.int 1)) mNil))) mNil))) (sCons (sWh 100000 whTest whBody) (sCons (sRet (mOp sortedP (mCons (mOp listP (mCons (mVar 2) mNil)) mNil))) sNil)))) 7 := rfl
    have ix : idxP [s.p, .int 1] = some (stP s.st) := rfl
    have dd : (dispOk [(stP s.st, .bool true)] && decide ([(stP s.st, PyData.bool true)].length ≤ 15)) = true := by
      have := d8_st s.st
      simp only [stP] at this
      simp [dispOk, isTxtKey, isTupKey, stP, this]
    have dz : dputs [] [(stP s.st, .bool true)] = fd [s.st] := rfl
    have ew : ∀ e h, sWh 100000 whTest whBody e h = whGo whTest whBody 100000 e h := fun _ _ => rfl
    simp only [List.map_cons, List.map_nil] at q
    generalize whTest = wt at *
    generalize whBody = wb at *
    rw [e0]
    simp at dd
    simp [env0, ix, dd, dz, ew, q, fd_keys, srt]
  · rw [pm.mem_iff] at hx ⊢
    rcases I.cl x hx with v | v | v
    · cases v
    · exact v.elim
    · exact v c hc y ay
end K52
/-! C40: two commands in either order. -/
namespace K52
open PySem PySem.Spec L2 DL
variable [WorldC]
theorem eqv_ints : ∀ (a b : List Int), PyData.eqvAll (a.map .int) (b.map .int) = decide (a = b)
  | [], [] => by simp [PyData.eqvAll]
  | [], _ :: _ => by simp [PyData.eqvAll]
  | _ :: _, [] => by simp [PyData.eqvAll]
  | x :: a, y :: b => by
    simp only [List.map_cons, PyData.eqvAll]
    rw [eqv_ints a b]
    by_cases k : x = y <;> simp [PyData.eqv, k]
theorem eqv_st (a b : List Int) : PyData.eqv (stP a) (stP b) = decide (a = b) := by
  simp only [stP, PyData.eqv]
  exact eqv_ints a b
theorem st_depth (a : List Int) : (stP a).depth ≤ 2 := by
  have : PyData.depthAll (a.map PyData.int) ≤ 1 := depth_all fun d hd => by
    obtain ⟨x, _, rfl⟩ := List.mem_map.mp hd
    exact depth_int x
  simp only [stP, PyData.depth]
  omega
theorem ne_st (a b : List Int) : neP [stP a, stP b] = some (.bool (!decide (a = b))) := by
  have := st_depth a
  simp only [neP, if_pos (sh_of (p := stP a) (q := stP b) (.inl (by omega)) (nod_st a) (nod_st b)), eqv_st]
theorem eq_st (a b : List Int) : eqP [stP a, stP b] = some (.bool (decide (a = b))) := by
  have := st_depth a
  simp only [eqP, if_pos (sh_of (p := stP a) (q := stP b) (.inl (by omega)) (nod_st a) (nod_st b)), eqv_st]
theorem ne_bb (p q r t : Bool) : neP [.tuple [.bool p, .bool q], .tuple [.bool r, .bool t]] = some (.bool (!(p == r && q == t))) := by
  have d : (PyData.tuple [.bool p, .bool q]).depth ≤ 2 := by simp [PyData.depth, PyData.depthAll]
  simp only [neP, if_pos (sh_of (p := .tuple [.bool p, .bool q]) (q := .tuple [.bool r, .bool t]) (.inl (by omega)) rfl rfl)]
  cases p <;> cases q <;> cases r <;> cases t <;> simp [PyData.eqv, PyData.eqvAll]
def ledOn (fs : List Fd) (st : List Int) (c : Cm) : List Int := (after fs st c).getD st
theorem led_ok {fs : List Fd} {st : List Int} {c : Cm} (h : StOk fs st) : StOk fs (ledOn fs st c) := by
  unfold ledOn
  cases k : after fs st c with
  | none => exact h
  | some y => exact after_ok k
theorem led_reach {s : Sys} {st : List Int} {c : Cm} (h : Reach s st) (hc : c ∈ s.cs) : Reach s (ledOn s.fs st c) := by
  unfold ledOn
  cases k : after s.fs st c with
  | none => exact h
  | some y => exact .step h hc k
def opN (o : Option (List Int)) : Bool := o.isNone
theorem isNone_op (o : Option (List Int)) : isNone (opP o) = o.isNone := by cases o <;> rfl
section
variable {s : Sys} {kvs : List (P × P)} {st : List Int} {a b c : Cm}
theorem tab_idx (T : TabOk s kvs) (hst : StOk s.fs st) (hc : c ∈ s.cs) : idxP [.dict kvs, .tuple [stP st, .str c.nm]] = some (opP (after s.fs st c)) := by
  have g := T.get st hst c hc
  have ko := keyOk_t (ds := [stP st, .str c.nm]) T.tup (d8_key st c.nm)
  rw [op_idx_d, if_pos ko]
  exact g
theorem f_led_on (T : TabOk s kvs) (hst : StOk s.fs st) (hc : c ∈ s.cs) (h : Hh) : F_led_on [.d (.dict kvs), .d (stP st), .d (.str c.nm)] h = .ok (.d (stP (ledOn s.fs st c))) [] h := by
  have ix := tab_idx T hst hc
  have n := isNone_op (after s.fs st c)
  unfold ledOn
  cases k : after s.fs st c with
  | none =>
    rw [k] at ix
    simp only [opP] at ix
    simp [F_led_on, m_led_on, env0, ix, -op_idx_d]
  | some y =>
    rw [k] at ix n
    simp only [opP] at ix n
    simp [F_led_on, m_led_on, env0, ix, n, -op_idx_d]
def apart (s : Sys) (st : List Int) (a b : Cm) : Bool :=
  !decide (a.nm = b.nm) && (!decide (ledOn s.fs (ledOn s.fs st a) b = ledOn s.fs (ledOn s.fs st b) a) || !((after s.fs st a).isNone == (after s.fs (ledOn s.fs st b) a).isNone && (after s.fs (ledOn s.fs st a) b).isNone == (after s.fs st b).isNone))
theorem f_tells_apart (T : TabOk s kvs) (hst : StOk s.fs st) (ha : a ∈ s.cs) (hb : b ∈ s.cs) (h : Hh) : F_tells_apart [.d (.dict kvs), .d (stP st), .d (.str a.nm), .d (.str b.nm)] h = .ok (.d (.bool (apart s st a b))) [] h := by
  have q1 := f_led_on T hst ha h
  have q2 := f_led_on T hst hb h
  have q3 := f_led_on T (led_ok (c := a) hst) hb h
  have q4 := f_led_on T (led_ok (c := b) hst) ha h
  have x1 := tab_idx T hst ha
  have x2 := tab_idx T hst hb
  have x3 := tab_idx T (led_ok (c := a) hst) hb
  have x4 := tab_idx T (led_ok (c := b) hst) ha
  have n1 := isNone_op (after s.fs st a)
  have n2 := isNone_op (after s.fs st b)
  have n3 := isNone_op (after s.fs (ledOn s.fs st a) b)
  have n4 := isNone_op (after s.fs (ledOn s.fs st b) a)
  have ne := ne_st (ledOn s.fs (ledOn s.fs st a) b) (ledOn s.fs (ledOn s.fs st b) a)
  by_cases k : a.nm = b.nm
  · have : apart s st a b = false := by simp [apart, k]
    rw [this]
    simp [F_tells_apart, m_tells_apart, env0, op_eq_s, eqv_str, k]
  · by_cases k2 : ledOn s.fs (ledOn s.fs st a) b = ledOn s.fs (ledOn s.fs st b) a
    · simp [F_tells_apart, m_tells_apart, env0, op_eq_s, eqv_str, k, q1, q2, q3, q4, ne_st, k2, x1, x2, x3, x4, n1, n2, n3, n4, ne_bb, apart, -op_idx_d]
    · simp [F_tells_apart, m_tells_apart, env0, op_eq_s, eqv_str, k, q1, q2, q3, q4, ne_st, k2, apart, -op_idx_d]
theorem f_require_system (hs : sysO s.p = some s) (h : Hh) : F_require_system [.d s.p] h = .ok (.d .none) [] h := by
  have q := f_is_system s.p h
  rw [hs] at q
  simp [F_require_system, m_require_system, env0, q]
theorem f_require_command (hc : c ∈ s.cs) (h : Hh) : F_require_command [.d s.p, .d (.str c.nm)] h = .ok (.d .none) [] h := by
  have fn := f_names_in (fds s.fs) (stP s.st) s.cs h
  have e : s.p = .tuple [fds s.fs, stP s.st, .tuple (s.cs.map Cm.p)] := rfl
  rw [← e] at fn
  have io := f_is_one_of (.str c.nm) (s.cs.map Cm.nm) h
  have t : isOf (.str c.nm) (s.cs.map Cm.nm) = true := by
    simp only [isOf, decide_eq_true_eq]
    exact List.mem_map.mpr ⟨c, hc, rfl⟩
  rw [t] at io
  generalize (s.cs.map Cm.nm).map PyData.str = ds at fn io
  simp [F_require_command, m_require_command, env0, fn, io]
theorem rchd_all {ls : List (List Int)} (R : Rchd s ls) {x : List Int} (h : Reach s x) : x ∈ ls := by
  induction h with
  | start => exact R.st
  | step _ hc ay ih => exact R.cl _ ih _ hc _ ay
theorem f_first_clash (hs : sysO s.p = some s) (ha : a ∈ s.cs) (hb : b ∈ s.cs) (h : Hh) : ∃ v ls, F_first_clash [.d s.p, .d (.str a.nm), .d (.str b.nm)] h = .ok (.d v) [] h ∧ Rchd s ls ∧ ((v = .none ∧ ∀ x ∈ ls, apart s x a b = false) ∨ ∃ don x rest, ls = don ++ x :: rest ∧ v = stP x ∧ apart s x a b = true ∧ ∀ y ∈ don, apart s y a b = false) := by
  have O := sysOk_of hs
  obtain ⟨kvs, q1, T⟩ := f_table_of O h
  obtain ⟨ls, q2, R⟩ := f_reached O T h
  have r1 := f_require_system hs h
  have r2 := f_require_command ha h
  have r3 := f_require_command hb h
  have lp := for_typR (p := stP) (f := forTurn (.nm 4) (b_first_clash_1 F_require_system F_require_command F_table_of F_tells_apart F_reached)) (all := ls) (I := fun done e h1 => h1 = h ∧ ∃ c4, e = [.val (.d s.p), .val (.d (.str a.nm)), .val (.d (.str b.nm)), .val (.d (.dict kvs)), c4] ∧ ∀ x ∈ done, apart s x a b = false) (J := fun done x v h1 => h1 = h ∧ v = .d (stP x) ∧ apart s x a b = true ∧ ∀ y ∈ done, apart s y a b = false)
    ls [] [.val (.d s.p), .val (.d (.str a.nm)), .val (.d (.str b.nm)), .val (.d (.dict kvs)), .no] h rfl (fun done x rest e e1 h1 ⟨kh, c4, ke, d1⟩ => by
    subst kh ke
    have hx := R.ok x (by rw [e]; simp)
    have t := f_tells_apart T hx.1 ha hb h1
    cases k : apart s x a b with
    | false =>
      rw [k] at t
      refine .inl ⟨[.val (.d s.p), .val (.d (.str a.nm)), .val (.d (.str b.nm)), .val (.d (.dict kvs)), .val (.d (stP x))], h1, by simp [b_first_clash_1, t], rfl, _, rfl, fun y hy => ?_⟩
      rcases List.mem_append.mp hy with w | w
      · exact d1 y w
      · rw [List.mem_singleton.mp w]; exact k
    | true =>
      rw [k] at t
      exact .inr ⟨.d (stP x), [.val (.d s.p), .val (.d (.str a.nm)), .val (.d (.str b.nm)), .val (.d (.dict kvs)), .val (.d (stP x))], h1, by simp [b_first_clash_1, t], rfl, rfl, rfl, d1⟩) ⟨rfl, _, rfl, fun x hx => by cases hx⟩
  rcases lp with ⟨e', h', q, rfl, c4, rfl, d⟩ | ⟨don, x, rest, v, e', h', e, q, rfl, rfl, k, d⟩
  · exact ⟨.none, ls, by simp [F_first_clash, m_first_clash, env0, r1, r2, r3, q1, q2, q], R, .inl ⟨rfl, d⟩⟩
  · exact ⟨stP x, ls, by simp [F_first_clash, m_first_clash, env0, r1, r2, r3, q1, q2, q], R, .inr ⟨don, x, rest, e, rfl, k, d⟩⟩
theorem f_exchangeable (hs : sysO s.p = some s) (ha : a ∈ s.cs) (hb : b ∈ s.cs) (h : Hh) : ∃ t : Bool, F_exchangeable [.d s.p, .d (.str a.nm), .d (.str b.nm)] h = .ok (.d (.bool t)) [] h ∧ (t = true → ∀ x, Reach s x → apart s x a b = false) := by
  obtain ⟨v, ls, q, R, k⟩ := f_first_clash hs ha hb h
  rcases k with ⟨rfl, k⟩ | ⟨don, x, rest, e, rfl, k, d⟩
  · exact ⟨true, by simp [F_exchangeable, m_exchangeable, env0, q], fun _ x hx => k x (rchd_all R hx)⟩
  · have n : isNone (stP x) = false := rfl
    exact ⟨false, by simp [F_exchangeable, m_exchangeable, env0, q, n], fun z => by cases z⟩
end
end K52
namespace K52
open PySem PySem.Spec L2 DL
variable [WorldC]
theorem kEq_str (a b : Str) : kEq (.str a) (.str b) = decide (a = b) := by
  unfold kEq
  simp only [nk]
  rw [decide_eq_decide]
  simp
theorem strOk_nm {x : Str} (h : nmS x = true) : PyData.strOk x = true ∧ x.length ≤ 16777216 := by
  simp only [nmS, Bool.and_eq_true, decide_eq_true_eq, List.all_eq_true] at h
  refine ⟨?_, by omega⟩
  unfold PyData.strOk
  rw [Array.all_eq_true']
  intro c hc
  have := h.2 c (by simpa using hc)
  simp only [decide_eq_true_eq]
  omega
section
variable {s : Sys} {kvs : List (P × P)} {st : List Int} {a b c : Cm} {v : P} {h : Hh}
/-- the search of the law's own -/
theorem g_reached (O : SysOk s) (T : TabOk s kvs) (h : Hh) : ∃ ls, F__law_reached [.d s.p, .d (.dict kvs)] h = .ok (.d (.list (ls.map stP))) [] h ∧ Rchd s ls := by
  have so := st_ok O
  obtain ⟨e', h', q, rfl, fo, c4, c5, c6, rfl, I, df⟩ := wh_typ (J := WhJ s kvs h) (wh_step O T h) 100000 119 [.val (.d s.p), .val (.d (.dict kvs)), .obj (.dct (fd [s.st])), .obj (.lst ([s.st].map stP)), .no, .no, .no] h (by omega) ⟨rfl, [s.st], [s.st], .no, .no, .no, rfl, ⟨by simp, by simp, fun x hx => (by rw [List.mem_singleton.mp hx]; exact ⟨so, .start⟩), fun x hx => hx, fun x hx => .inl hx⟩, by simp, fun f hf => hf, rfl⟩
  have srt := sorted_st (fs := s.fs) O.fs.l1 (l := fo) fun x hx => (I.ok x hx).1
  have pm := List.mergeSort_perm fo stLe
  refine ⟨fo.mergeSort stLe, ?_, pm.mem_iff.mpr I.st, fun x hx => I.ok x (pm.mem_iff.mp hx), fun x hx c hc y ay => ?_, pm.nodup_iff.mpr I.nd, fo, df, rfl⟩
  · have e0 : F__law_reached = runF (sCons (sParO true true 2 3 (mDct (mCons (mOp idxP (mCons (mVar 0) (mCons (mK (.int 1)) mNil))) (mCons (mK (.bool true)) mNil))) (mLst (mCons (mOp idxP (mCons (mVar 0) (mCons (mK (.int 1)) mNil))) mNil))) (sCons (sWh 100000 whTest whBody) (sCons (sRet (mOp sortedP (mCons (mOp listP (mCons (mVar 2) mNil)) mNil))) sNil))) 7 := rfl
    have ix : idxP [s.p, .int 1] = some (stP s.st) := rfl
    have dd : (dispOk [(stP s.st, .bool true)] && decide ([(stP s.st, PyData.bool true)].length ≤ 15)) = true := by
      have := d8_st s.st
      simp only [stP] at this
      simp [dispOk, isTxtKey, isTupKey, stP, this]
    have dz : dputs [] [(stP s.st, .bool true)] = fd [s.st] := rfl
    have ew : ∀ e h, sWh 100000 whTest whBody e h = whGo whTest whBody 100000 e h := fun _ _ => rfl
    simp only [List.map_cons, List.map_nil] at q
    generalize whTest = wt at *
    generalize whBody = wb at *
    rw [e0]
    simp at dd
    simp [env0, ix, dd, dz, ew, q, fd_keys, srt]
  · rw [pm.mem_iff] at hx ⊢
    rcases I.cl x hx with v | v | v
    · cases v
    · exact v.elim
    · exact v c hc y ay
end
end K52
/-! L52a: which commands stop others. -/
namespace K52
open PySem PySem.Spec L2 DL
variable [WorldC]
def stopB (s : Sys) (x : List Int) (a b : Cm) : Bool := match after s.fs x a with
  | none => false
  | some y => (after s.fs x b).isSome && (after s.fs y b).isNone
section
variable {s : Sys} {kvs : List (P × P)} {x : List Int} {a b : Cm}
theorem f_does_stop (T : TabOk s kvs) (hx : StOk s.fs x) (ha : a ∈ s.cs) (hb : b ∈ s.cs) (h : Hh) : F_does_stop [.d (.dict kvs), .d (stP x), .d (.str a.nm), .d (.str b.nm)] h = .ok (.d (.bool (stopB s x a b))) [] h := by
  have x1 := tab_idx T hx ha
  have x2 := tab_idx T hx hb
  have n2 := isNone_op (after s.fs x b)
  unfold stopB
  cases k : after s.fs x a with
  | none =>
    rw [k] at x1
    simp only [opP] at x1
    simp [F_does_stop, m_does_stop, env0, x1, -op_idx_d]
  | some y =>
    rw [k] at x1
    simp only [opP] at x1
    have x3 := tab_idx T (after_ok k) hb
    have n3 := isNone_op (after s.fs y b)
    have ny : isNone (stP y) = false := rfl
    cases k2 : after s.fs x b with
    | none =>
      rw [k2] at x2
      simp only [opP] at x2
      simp [F_does_stop, m_does_stop, env0, x1, x2, ny, -op_idx_d]
    | some z =>
      rw [k2] at x2
      simp only [opP] at x2
      have nz : isNone (stP z) = false := rfl
      simp [F_does_stop, m_does_stop, env0, x1, x2, x3, ny, nz, n3, -op_idx_d]
/-- the pairs, in order -/
def stRow (s : Sys) (ls : List (List Int)) (a : Cm) (bs : List Cm) : List (Str × Str) := (bs.filter fun b => !decide (a.nm = b.nm) && ls.any fun x => stopB s x a b).map fun b => (a.nm, b.nm)
def stAll (s : Sys) (ls : List (List Int)) (as : List Cm) : List (Str × Str) := as.flatMap fun a => stRow s ls a s.cs
theorem stRow_snoc (s : Sys) (ls : List (List Int)) (a b : Cm) (bs : List Cm) : stRow s ls a (bs ++ [b]) = stRow s ls a bs ++ if (!decide (a.nm = b.nm) && ls.any fun x => stopB s x a b) = true then [(a.nm, b.nm)] else [] := by
  unfold stRow
  rw [List.filter_append, List.map_append]
  congr 1
  by_cases k : (!decide (a.nm = b.nm) && ls.any fun x => stopB s x a b) = true
  · simp only [List.filter_cons, k, if_true, List.filter_nil, List.map_cons, List.map_nil]
  · simp only [List.filter_cons, k, if_false, List.filter_nil, List.map_nil, Bool.false_eq_true]
theorem stAll_snoc (s : Sys) (ls : List (List Int)) (a : Cm) (as : List Cm) : stAll s ls (as ++ [a]) = stAll s ls as ++ stRow s ls a s.cs := by simp [stAll]
theorem stRow_len (s : Sys) (ls : List (List Int)) (a : Cm) (bs : List Cm) : (stRow s ls a bs).length ≤ bs.length := by
  unfold stRow
  rw [List.length_map]
  exact List.length_filter_le _ _
abbrev strC (c : Cm) : P := .str c.nm
theorem stops_turn (T : TabOk s kvs) {ls : List (List Int)} (ok : ∀ x ∈ ls, StOk s.fs x) (ha : a ∈ s.cs) (hb : b ∈ s.cs) (fo : List (Str × Str)) (la : fo.length + 1 ≤ 16777216) (c5 : Cel) (h : Hh) :
    forTurn (.nm 5) (b_stops_p_1 F_require_system F_table_of F_reached F_does_stop F_names_in) (.str b.nm) [.val (.d s.p), .val (.d (.dict kvs)), .val (.d (.list (ls.map stP))), .obj (.lst (fo.map ssP)), .val (.d (.str a.nm)), c5, .no, .no] h =
      .ok .next [.val (.d s.p), .val (.d (.dict kvs)), .val (.d (.list (ls.map stP))), .obj (.lst ((fo ++ if (!decide (a.nm = b.nm) && ls.any fun x => stopB s x a b) = true then [(a.nm, b.nm)] else []).map ssP)), .val (.d (.str a.nm)), .val (.d (.str b.nm)), .no, .no] h := by
  have lc := lc_typ (p := stP) (own := [6, 7]) (fe := l_stops_p_1 F_require_system F_table_of F_reached F_does_stop F_names_in) (fun x => [.bool (stopB s x a b)]) (l := ls) (e := [.val (.d s.p), .val (.d (.dict kvs)), .val (.d (.list (ls.map stP))), .obj (.lst (fo.map ssP)), .val (.d (.str a.nm)), .val (.d (.str b.nm)), .no, .no])
    [.val (.d s.p), .val (.d (.dict kvs)), .val (.d (.list (ls.map stP))), .obj (.lst (fo.map ssP)), .val (.d (.str a.nm)), .val (.d (.str b.nm)), .no, .no] (h := h) (by simp) fun x hx => ⟨[.val (.d s.p), .val (.d (.dict kvs)), .val (.d (.list (ls.map stP))), .obj (.lst (fo.map ssP)), .val (.d (.str a.nm)), .val (.d (.str b.nm)), .no, .val (.d (stP x))], by simp [l_stops_p_1, f_does_stop T (ok x hx) ha hb], by simp⟩
  rw [flat_one] at lc
  have e3 : bools (ls.map fun x => PyData.bool (stopB s x a b)) = some (ls.map fun x => stopB s x a b) := bools_map _ _
  have e4 : ((ls.map fun x => stopB s x a b).any id) = ls.any fun x => stopB s x a b := by rw [List.any_map]; rfl
  have an : anyP [.list (ls.map fun x => PyData.bool (stopB s x a b))] = some (.bool (ls.any fun x => stopB s x a b)) := by rw [op_any, e3, Option.map_some, e4]
  generalize ls.map (fun x => PyData.bool (stopB s x a b)) = bs at *
  generalize ls.any (fun x => stopB s x a b) = t at *
  by_cases k : a.nm = b.nm
  · simp [b_stops_p_1, op_ne_s, eqv_str, k]
  · cases t <;> simp [b_stops_p_1, op_ne_s, eqv_str, k, lc, an, la, ssP, -op_any]
theorem stops_inner (O : SysOk s) (T : TabOk s kvs) {ls : List (List Int)} (ok : ∀ x ∈ ls, StOk s.fs x) (ha : a ∈ s.cs) (acc : List (Str × Str)) (la : acc.length ≤ 1000) (c5 : Cel) (h : Hh) :
    ∃ c5', forGo (forTurn (.nm 5) (b_stops_p_1 F_require_system F_table_of F_reached F_does_stop F_names_in)) (s.cs.map strC) [.val (.d s.p), .val (.d (.dict kvs)), .val (.d (.list (ls.map stP))), .obj (.lst (acc.map ssP)), .val (.d (.str a.nm)), c5, .no, .no] h =
      .ok .next [.val (.d s.p), .val (.d (.dict kvs)), .val (.d (.list (ls.map stP))), .obj (.lst ((acc ++ stRow s ls a s.cs).map ssP)), .val (.d (.str a.nm)), c5', .no, .no] h := by
  have l8 := O.l8
  obtain ⟨e', h', q, rfl, c5', rfl⟩ := for_typ (p := strC) (f := forTurn (.nm 5) (b_stops_p_1 F_require_system F_table_of F_reached F_does_stop F_names_in)) (all := s.cs) (I := fun done e h1 => h1 = h ∧ ∃ c5, e = [.val (.d s.p), .val (.d (.dict kvs)), .val (.d (.list (ls.map stP))), .obj (.lst ((acc ++ stRow s ls a done).map ssP)), .val (.d (.str a.nm)), c5, .no, .no])
    s.cs [] [.val (.d s.p), .val (.d (.dict kvs)), .val (.d (.list (ls.map stP))), .obj (.lst (acc.map ssP)), .val (.d (.str a.nm)), c5, .no, .no] h rfl (fun done b rest e e1 h1 ⟨kh, c5, ke⟩ => by
    subst kh ke
    have hb : b ∈ s.cs := by rw [e]; simp
    have dl := stRow_len s ls a done
    have d8 : done.length ≤ 8 := by rw [e] at l8; simp at l8; omega
    have t := stops_turn T ok ha hb (acc ++ stRow s ls a done) (by simp; omega) c5 h1
    refine ⟨_, h1, t, rfl, .val (.d (.str b.nm)), ?_⟩
    rw [stRow_snoc, List.append_assoc]) ⟨rfl, c5, by simp [stRow]⟩
  exact ⟨c5', q⟩
theorem f_stops (hs : sysO s.p = some s) (h : Hh) : ∃ ls, F_stops_p [.d s.p] h = .ok (.ob (.mem h.length)) [] (h ++ [.lst ((stAll s ls s.cs).map ssP)]) ∧ Rchd s ls := by
  have O := sysOk_of hs
  have l8 := O.l8
  obtain ⟨kvs, q1, T⟩ := f_table_of O h
  obtain ⟨ls, q2, R⟩ := f_reached O T h
  have r1 := f_require_system hs h
  have fn := fun h => f_names_in (fds s.fs) (stP s.st) s.cs h
  have ep : s.p = .tuple [fds s.fs, stP s.st, .tuple (s.cs.map Cm.p)] := rfl
  rw [← ep, names_map] at fn
  have fn : ∀ h, F_names_in [.d s.p] h = .ok (.d (.list (s.cs.map strC))) [] h := fn
  have lenA : ∀ as : List Cm, as.length ≤ 8 → (stAll s ls as).length ≤ as.length * 8 := fun as => by
    induction as with
    | nil => intro _; simp [stAll]
    | cons a as ih =>
      intro l
      have e : stAll s ls (a :: as) = stRow s ls a s.cs ++ stAll s ls as := by simp [stAll]
      have := stRow_len s ls a s.cs
      simp only [List.length_cons] at l
      have := ih (by omega)
      rw [e, List.length_append, List.length_cons]
      omega
  obtain ⟨e', h', q, rfl, c4, c5, rfl⟩ := for_typ (p := strC) (f := forTurn (.nm 4) (b_stops_p_2 F_require_system F_table_of F_reached F_does_stop F_names_in)) (all := s.cs) (I := fun done e h1 => h1 = h ∧ ∃ c4 c5, e = [.val (.d s.p), .val (.d (.dict kvs)), .val (.d (.list (ls.map stP))), .obj (.lst ((stAll s ls done).map ssP)), c4, c5, .no, .no])
    s.cs [] [.val (.d s.p), .val (.d (.dict kvs)), .val (.d (.list (ls.map stP))), .obj (.lst []), .no, .no, .no, .no] h rfl (fun done a rest e e1 h1 ⟨kh, c4, c5, ke⟩ => by
    subst kh ke
    have ha : a ∈ s.cs := by rw [e]; simp
    have d8 : done.length ≤ 8 := by rw [e] at l8; simp at l8; omega
    have := lenA done d8
    obtain ⟨c5', q⟩ := stops_inner O T (fun x hx => (R.ok x hx).1) ha (stAll s ls done) (by omega) c5 h1
    refine ⟨_, h1, ?_, rfl, .val (.d (.str a.nm)), c5', rfl⟩
    rw [stAll_snoc]
    generalize stAll s ls done = fo at *
    have e2 : b_stops_p_2 F_require_system F_table_of F_reached F_does_stop F_names_in = sCons (sFor (.nm 5) (mSeq (mCall F_names_in (mCons (mFz 0) mNil))) (b_stops_p_1 F_require_system F_table_of F_reached F_does_stop F_names_in)) sNil := rfl
    rw [e2]
    generalize b_stops_p_1 F_require_system F_table_of F_reached F_does_stop F_names_in = bb at *
    simp only [List.map_append] at q
    simp [fn, q]) ⟨rfl, _, _, rfl⟩
  refine ⟨ls, ?_, R⟩
  have e3 : F_stops_p = runF (sCons (sExpr (mCall F_require_system (mCons (mFz 0) mNil))) (sCons (sAsg 1 (mCall F_table_of (mCons (mFz 0) mNil))) (sCons (sAsg 2 (mCall F_reached (mCons (mFz 0) (mCons (mFz 1) mNil)))) (sCons (sOwn 3 (mLst mNil)) (sCons (sFor (.nm 4) (mSeq (mCall F_names_in (mCons (mFz 0) mNil))) (b_stops_p_2 F_require_system F_table_of F_reached F_does_stop F_names_in)) (sCons (sRet (mFrP 3)) sNil)))))) 8 := rfl
  rw [e3]
  generalize b_stops_p_2 F_require_system F_table_of F_reached F_does_stop F_names_in = bb at *
  simp [env0, r1, q1, q2, fn, q]
end
end K52
/-! L52b: the law's own table of stops. -/
namespace DL
open PySem PySem.Spec L2
variable [WorldC]
/-- a dict of pairs of texts, each with True -/
def dd (l : List (Str × Str)) : List (P × P) := l.map fun z => (ssP z, .bool true)
def addz (l : List (Str × Str)) (z : Str × Str) : List (Str × Str) := if z ∈ l then l else l ++ [z]
theorem kEq_ssP (z w : Str × Str) : kEq (ssP z) (ssP w) = decide (z = w) := by
  rw [ssP, ssP, kEq_ss, decide_eq_decide]
  exact ⟨fun h => Prod.ext h.1 h.2, fun h => by rw [h]; exact ⟨rfl, rfl⟩⟩
theorem dd_any (l : List (Str × Str)) (z : Str × Str) : ((dd l).any fun w => kEq w.1 (ssP z)) = decide (z ∈ l) := by
  induction l with
  | nil => rfl
  | cons a r ih =>
    have e : dd (a :: r) = (ssP a, .bool true) :: dd r := rfl
    rw [e, List.any_cons, ih, kEq_ssP]
    by_cases q : a = z
    · simp [q]
    · have q2 : ¬ z = a := fun w => q w.symm
      simp [q, q2]
theorem dd_put (l : List (Str × Str)) (z : Str × Str) : dput (dd l) (ssP z) (.bool true) = dd (addz l z) := by
  unfold dput addz
  rw [dd_any]
  by_cases k : z ∈ l
  · rw [if_pos (by simpa using k), if_pos k]
    have : ∀ l : List (Str × Str), ((dd l).map fun w => if kEq w.1 (ssP z) = true then (w.1, PyData.bool true) else w) = dd l := fun l => by
      induction l with
      | nil => rfl
      | cons a r ih =>
        have e : dd (a :: r) = (ssP a, .bool true) :: dd r := rfl
        rw [e, List.map_cons, ih]
        by_cases q : kEq (ssP a) (ssP z) = true <;> simp [q]
    exact this l
  · rw [if_neg (by simpa using k), if_neg k]
    simp [dd]
theorem dd_tup (l : List (Str × Str)) : TupK (dd l) := fun z hz => by
  obtain ⟨a, _, rfl⟩ := List.mem_map.mp hz
  exact ⟨_, rfl⟩
theorem dd_keys (l : List (Str × Str)) : (dd l).map (·.1) = l.map ssP := by simp [dd]
@[simp] theorem nod_ss (z : Str × Str) : nod (ssP z) = true := by simp [ssP]
@[simp] theorem nods_ss (l : List (Str × Str)) : nods (l.map ssP) = true := by induction l <;> simp_all
theorem ne_ss (l : List (Str × Str)) : neP [.list (l.map ssP), .list (l.map ssP)] = some (.bool false) := by
  have d1 : PyData.depthAll (l.map ssP) ≤ 2 := by
    induction l with
    | nil => simp [PyData.depthAll]
    | cons a r ih => simp only [List.map_cons, PyData.depthAll, ssP, PyData.depth] at *; omega
  have d2 : (PyData.list (l.map ssP)).depth ≤ 3 := by simp only [PyData.depth]; omega
  have ev : PyData.eqv (.list (l.map ssP)) (.list (l.map ssP)) = true := by
    simp only [PyData.eqv]
    clear d1 d2
    induction l with
    | nil => simp [PyData.eqvAll]
    | cons a r ih => simp [PyData.eqvAll, ih, ssP, PyData.eqv]
  simp only [neP, if_pos (sh_of (p := .list (l.map ssP)) (q := .list (l.map ssP)) (.inl (by omega)) (by simp) (by simp)), ev]
  rfl
end DL
namespace K52
open PySem PySem.Spec L2 DL
variable [WorldC]
noncomputable abbrev B1 : M Fl := b_law_1 F__law_source F__law_drawn_system F__law_table F__law_labels F__law_reached F_stops_p F_exchangeable
noncomputable abbrev B2 : M Fl := b_law_2 F__law_source F__law_drawn_system F__law_table F__law_labels F__law_reached F_stops_p F_exchangeable
noncomputable abbrev B3 : M Fl := b_law_3 F__law_source F__law_drawn_system F__law_table F__law_labels F__law_reached F_stops_p F_exchangeable
noncomputable abbrev B4 : M Fl := b_law_4 F__law_source F__law_drawn_system F__law_table F__law_labels F__law_reached F_stops_p F_exchangeable
noncomputable abbrev B5 : M Fl := b_law_5 F__law_source F__law_drawn_system F__law_table F__law_labels F__law_reached F_stops_p F_exchangeable
abbrev EV (ns : List Int) (n : Nat) (s : Sys) (kvs : List (P × P)) (l : List (Str × Str)) (c1 c6 c7 c8 c9 c10 : Cel) : DL.Env := [.val (.scr ns), c1, .val (.ob (.mem n)), .val (.d s.p), .val (.d (.dict kvs)), .obj (.dct (dd l)), c6, c7, c8, c9, c10]
def cnd (s : Sys) (x : List Int) (a b : Cm) : Bool := !decide (a.nm = b.nm) && stopB s x a b
/-- what the law has found so far -/
structure DueI (s : Sys) (X : List Int → Cm → Cm → Prop) (l : List (Str × Str)) : Prop where
  nd : l.Nodup
  mem : ∀ z, z ∈ l ↔ ∃ x a b, X x a b ∧ a ∈ s.cs ∧ b ∈ s.cs ∧ cnd s x a b = true ∧ z = (a.nm, b.nm)
section
variable {ns : List Int} {n : Nat} {s : Sys} {kvs : List (P × P)} {ls : List (List Int)} {c1 c6 c7 c8 c9 c10 : Cel} {h : Hh} {a b : Cm} {x : List Int} {l : List (Str × Str)} {X Y : List Int → Cm → Cm → Prop}
theorem DueI.iff (i : DueI s X l) (e : ∀ x a b, X x a b ↔ Y x a b) : DueI s Y l := ⟨i.nd, fun z => (i.mem z).trans ⟨fun ⟨x, a, b, q, r⟩ => ⟨x, a, b, (e x a b).mp q, r⟩, fun ⟨x, a, b, q, r⟩ => ⟨x, a, b, (e x a b).mpr q, r⟩⟩⟩
theorem DueI.add (i : DueI s X l) (ha : a ∈ s.cs) (hb : b ∈ s.cs) : DueI s (fun y c d => X y c d ∨ (y = x ∧ c = a ∧ d = b)) (if cnd s x a b = true then addz l (a.nm, b.nm) else l) := by
  by_cases k : cnd s x a b = true
  · rw [if_pos k]
    refine ⟨?_, fun z => ?_⟩
    · unfold addz
      split
      · exact i.nd
      · rename_i m
        rw [List.nodup_append]
        refine ⟨i.nd, by simp, fun u hu v hv => ?_⟩
        rw [List.mem_singleton.mp hv]
        exact fun z => m (z ▸ hu)
    · have mz : z ∈ addz l (a.nm, b.nm) ↔ z ∈ l ∨ z = (a.nm, b.nm) := by
        unfold addz
        split
        · rename_i m
          exact ⟨.inl, fun q => q.elim id fun e => e ▸ m⟩
        · simp
      rw [mz, i.mem]
      constructor
      · rintro (⟨x, a, b, q, r⟩ | rfl)
        · exact ⟨x, a, b, .inl q, r⟩
        · exact ⟨x, a, b, .inr ⟨rfl, rfl, rfl⟩, ha, hb, k, rfl⟩
      · rintro ⟨x, a, b, q | ⟨rfl, rfl, rfl⟩, r⟩
        · exact .inl ⟨x, a, b, q, r⟩
        · exact .inr r.2.2.2
  · rw [if_neg k]
    refine ⟨i.nd, fun z => (i.mem z).trans ⟨fun ⟨x, a, b, q, r⟩ => ⟨x, a, b, .inl q, r⟩, ?_⟩⟩
    rintro ⟨x, a, b, q | ⟨rfl, rfl, rfl⟩, r⟩
    · exact ⟨x, a, b, q, r⟩
    · exact absurd r.2.2.1 k
theorem DueI.len (O : SysOk s) (i : DueI s X l) : l.length ≤ 64 := by
  have l8 := O.l8
  have h1 := sub_len (ys := s.cs.flatMap fun a => s.cs.map fun b => (a.nm, b.nm)) i.nd fun z hz => by
    obtain ⟨x, a, b, _, ha, hb, _, rfl⟩ := (i.mem z).mp hz
    exact List.mem_flatMap.mpr ⟨a, ha, List.mem_map.mpr ⟨b, hb, rfl⟩⟩
  have h2 : ∀ as : List Cm, (as.flatMap fun a => s.cs.map fun b => (a.nm, b.nm)).length = as.length * s.cs.length := fun as => by
    induction as with
    | nil => simp
    | cons a as ih => rw [List.flatMap_cons, List.length_append, ih, List.length_map, List.length_cons]; rw [Nat.add_mul]; omega
  rw [h2] at h1
  exact Nat.le_trans h1 (Nat.mul_le_mul l8 l8)
theorem due_turn (O : SysOk s) (T : TabOk s kvs) (hx : StOk s.fs x) (ha : a ∈ s.cs) (hb : b ∈ s.cs) (ll : l.length ≤ 1000) (c8 c9 c10 : Cel) (h : Hh) :
    ∃ c9', forTurn (.nm 8) B1 (.str b.nm) (EV ns n s kvs l c1 (.val (.d (stP x))) (.val (.d (.str a.nm))) c8 c9 c10) h = .ok .next (EV ns n s kvs (if cnd s x a b = true then addz l (a.nm, b.nm) else l) c1 (.val (.d (stP x))) (.val (.d (.str a.nm))) (.val (.d (.str b.nm))) c9' c10) h := by
  have x1 := tab_idx T hx ha
  have x2 := tab_idx T hx hb
  have n2 := isNone_op (after s.fs x b)
  have pt := dd_put l (a.nm, b.nm)
  have ko := keyOk_t (ds := [.str a.nm, .str b.nm]) (dd_tup l) (d8_ss a.nm b.nm)
  have ln := dput_le (dd l) (ssP (a.nm, b.nm)) (.bool true)
  have ll2 : (dd l).length = l.length := by simp [dd]
  have ln2 : (dd (addz l (a.nm, b.nm))).length ≤ 16777216 := by rw [← pt]; omega
  simp only [ssP] at pt
  have e1 : B1 = b_law_1 F__law_source F__law_drawn_system F__law_table F__law_labels F__law_reached F_stops_p F_exchangeable := rfl
  refine ⟨.val (.d (opP (after s.fs x a))), ?_⟩
  rw [e1]
  generalize hdz : dd (addz l (a.nm, b.nm)) = dz at *
  by_cases k : a.nm = b.nm
  · have c0 : cnd s x a b = false := by simp [cnd, k]
    rw [c0]
    have eab := nm_inj (names_nd O.up) ha hb k
    subst eab
    simp [b_law_1, x1, op_ne_s, eqv_str, -op_idx_d]
  · cases k1 : after s.fs x a with
    | none =>
      have c0 : cnd s x a b = false := by simp [cnd, stopB, k1]
      rw [k1] at x1
      simp only [opP] at x1 ⊢
      rw [c0]
      simp [b_law_1, x1, op_ne_s, eqv_str, k, -op_idx_d]
    | some y =>
      rw [k1] at x1
      simp only [opP] at x1 ⊢
      have ny : isNone (stP y) = false := rfl
      have x3 := tab_idx T (after_ok k1) hb
      have n3 := isNone_op (after s.fs y b)
      cases k2 : after s.fs x b with
      | none =>
        have c0 : cnd s x a b = false := by simp [cnd, stopB, k1, k2]
        rw [k2] at x2
        simp only [opP] at x2
        rw [c0]
        simp [b_law_1, x1, x2, ny, op_ne_s, eqv_str, k, -op_idx_d]
      | some z =>
        rw [k2] at x2
        simp only [opP] at x2
        have nz : isNone (stP z) = false := rfl
        cases k3 : after s.fs y b with
        | none =>
          have c0 : cnd s x a b = true := by simp [cnd, stopB, k, k1, k2, k3]
          rw [k3] at x3
          simp only [opP] at x3
          rw [c0]
          simp [b_law_1, x1, x2, x3, ny, nz, op_ne_s, eqv_str, k, pt, ko, ln2, hdz, -op_idx_d]
        | some w =>
          have c0 : cnd s x a b = false := by simp [cnd, stopB, k1, k2, k3]
          rw [k3] at x3
          simp only [opP] at x3
          have nw : isNone (stP w) = false := rfl
          rw [c0]
          simp [b_law_1, x1, x2, x3, ny, nz, nw, op_ne_s, eqv_str, k, -op_idx_d]
theorem due_inner (O : SysOk s) (T : TabOk s kvs) (hx : StOk s.fs x) (ha : a ∈ s.cs) (i : DueI s X l) (c8 c9 c10 : Cel) (h : Hh) :
    ∃ l' c8' c9', forGo (forTurn (.nm 8) B1) (s.cs.map strC) (EV ns n s kvs l c1 (.val (.d (stP x))) (.val (.d (.str a.nm))) c8 c9 c10) h = .ok .next (EV ns n s kvs l' c1 (.val (.d (stP x))) (.val (.d (.str a.nm))) c8' c9' c10) h ∧ DueI s (fun y c d => X y c d ∨ (y = x ∧ c = a)) l' := by
  obtain ⟨e', h', q, rfl, l', c8', c9', rfl, i'⟩ := for_typ (p := strC) (f := forTurn (.nm 8) B1) (all := s.cs) (I := fun done e h1 => h1 = h ∧ ∃ l' c8 c9, e = EV ns n s kvs l' c1 (.val (.d (stP x))) (.val (.d (.str a.nm))) c8 c9 c10 ∧ DueI s (fun y c d => X y c d ∨ (y = x ∧ c = a ∧ d ∈ done)) l')
    s.cs [] (EV ns n s kvs l c1 (.val (.d (stP x))) (.val (.d (.str a.nm))) c8 c9 c10) h rfl (fun done b rest e e1 h1 ⟨kh, l1, c8, c9, ke, i1⟩ => by
    subst kh ke
    have hb : b ∈ s.cs := by rw [e]; simp
    obtain ⟨c9', q⟩ := due_turn (ns := ns) (n := n) (c1 := c1) O T hx ha hb (Nat.le_trans (i1.len O) (by omega)) c8 c9 c10 h1
    refine ⟨_, h1, q, rfl, _, _, c9', rfl, (i1.add (x := x) ha hb).iff fun y c d => ?_⟩
    simp only [List.mem_append, List.mem_singleton]
    constructor
    · rintro ((z | ⟨z1, z2, z3⟩) | ⟨z1, z2, z3⟩)
      · exact .inl z
      · exact .inr ⟨z1, z2, .inl z3⟩
      · exact .inr ⟨z1, z2, .inr z3⟩
    · rintro (z | ⟨z1, z2, z3 | z3⟩)
      · exact .inl (.inl z)
      · exact .inl (.inr ⟨z1, z2, z3⟩)
      · exact .inr ⟨z1, z2, z3⟩) ⟨rfl, l, c8, c9, rfl, i.iff fun y c d => by simp⟩
  refine ⟨l', c8', c9', q, ⟨i'.nd, fun z => (i'.mem z).trans ⟨?_, ?_⟩⟩⟩
  · rintro ⟨y, c, d, w | ⟨w1, w2, _⟩, r⟩
    · exact ⟨y, c, d, .inl w, r⟩
    · exact ⟨y, c, d, .inr ⟨w1, w2⟩, r⟩
  · rintro ⟨y, c, d, w | ⟨w1, w2⟩, r⟩
    · exact ⟨y, c, d, .inl w, r⟩
    · exact ⟨y, c, d, .inr ⟨w1, w2, r.2.1⟩, r⟩
theorem due_middle (O : SysOk s) (T : TabOk s kvs) (hx : StOk s.fs x) (i : DueI s X l) (c7 c8 c9 c10 : Cel) (h : Hh) :
    ∃ l' c7' c8' c9', forGo (forTurn (.nm 7) B2) (s.cs.map strC) (EV ns n s kvs l c1 (.val (.d (stP x))) c7 c8 c9 c10) h = .ok .next (EV ns n s kvs l' c1 (.val (.d (stP x))) c7' c8' c9' c10) h ∧ DueI s (fun y c d => X y c d ∨ y = x) l' := by
  have q4 := g_labels (fds s.fs) (stP s.st) s.cs
  have ep : s.p = .tuple [fds s.fs, stP s.st, .tuple (s.cs.map Cm.p)] := rfl
  have q4 : ∀ h, F__law_labels [.d s.p] h = .ok (.d (.list (s.cs.map strC))) [] h := fun h => by have := q4 h; rw [← ep, names_map] at this; exact this
  obtain ⟨e', h', q, rfl, l', c7', c8', c9', rfl, i'⟩ := for_typ (p := strC) (f := forTurn (.nm 7) B2) (all := s.cs) (I := fun done e h1 => h1 = h ∧ ∃ l' c7 c8 c9, e = EV ns n s kvs l' c1 (.val (.d (stP x))) c7 c8 c9 c10 ∧ DueI s (fun y c d => X y c d ∨ (y = x ∧ c ∈ done)) l')
    s.cs [] (EV ns n s kvs l c1 (.val (.d (stP x))) c7 c8 c9 c10) h rfl (fun done a rest e e1 h1 ⟨kh, l1, c7, c8, c9, ke, i1⟩ => by
    subst kh ke
    have ha : a ∈ s.cs := by rw [e]; simp
    obtain ⟨l2, c8', c9', q, i2⟩ := due_inner (ns := ns) (n := n) (c1 := c1) O T hx ha i1 c8 c9 c10 h1
    refine ⟨_, h1, ?_, rfl, l2, .val (.d (.str a.nm)), c8', c9', rfl, i2.iff fun y c d => ?_⟩
    · have e2 : B2 = sCons (sFor (.nm 8) (mSeq (mCall F__law_labels (mCons (mFz 3) mNil))) B1) sNil := rfl
      rw [e2]
      generalize B1 = bb at *
      simp [q4, q]
    simp only [List.mem_append, List.mem_singleton]
    constructor
    · rintro ((z | ⟨z1, z2⟩) | ⟨z1, z2⟩)
      · exact .inl z
      · exact .inr ⟨z1, .inl z2⟩
      · exact .inr ⟨z1, .inr z2⟩
    · rintro (z | ⟨z1, z2 | z2⟩)
      · exact .inl (.inl z)
      · exact .inl (.inr ⟨z1, z2⟩)
      · exact .inr ⟨z1, z2⟩) ⟨rfl, l, c7, c8, c9, rfl, i.iff fun y c d => by simp⟩
  refine ⟨l', c7', c8', c9', q, ⟨i'.nd, fun z => (i'.mem z).trans ⟨?_, ?_⟩⟩⟩
  · rintro ⟨y, c, d, w | ⟨w1, _⟩, r⟩
    · exact ⟨y, c, d, .inl w, r⟩
    · exact ⟨y, c, d, .inr w1, r⟩
  · rintro ⟨y, c, d, w | w1, r⟩
    · exact ⟨y, c, d, .inl w, r⟩
    · exact ⟨y, c, d, .inr ⟨w1, r.1⟩, r⟩
theorem due_all (O : SysOk s) (T : TabOk s kvs) (hls : ∀ x ∈ ls, StOk s.fs x) (c6 c7 c8 c9 c10 : Cel) (h : Hh) :
    ∃ l' c6' c7' c8' c9', forGo (forTurn (.nm 6) B3) (ls.map stP) (EV ns n s kvs [] c1 c6 c7 c8 c9 c10) h = .ok .next (EV ns n s kvs l' c1 c6' c7' c8' c9' c10) h ∧ DueI s (fun y _ _ => y ∈ ls) l' := by
  have q4 := g_labels (fds s.fs) (stP s.st) s.cs
  have ep : s.p = .tuple [fds s.fs, stP s.st, .tuple (s.cs.map Cm.p)] := rfl
  have q4 : ∀ h, F__law_labels [.d s.p] h = .ok (.d (.list (s.cs.map strC))) [] h := fun h => by have := q4 h; rw [← ep, names_map] at this; exact this
  obtain ⟨e', h', q, rfl, l', c6', c7', c8', c9', rfl, i'⟩ := for_typ (p := stP) (f := forTurn (.nm 6) B3) (all := ls) (I := fun done e h1 => h1 = h ∧ ∃ l' c6 c7 c8 c9, e = EV ns n s kvs l' c1 c6 c7 c8 c9 c10 ∧ DueI s (fun y _ _ => y ∈ done) l')
    ls [] (EV ns n s kvs [] c1 c6 c7 c8 c9 c10) h rfl (fun done x rest e e1 h1 ⟨kh, l1, c6, c7, c8, c9, ke, i1⟩ => by
    subst kh ke
    have hx := hls x (by rw [e]; simp)
    obtain ⟨l2, c7', c8', c9', q, i2⟩ := due_middle (ns := ns) (n := n) (c1 := c1) O T hx i1 c7 c8 c9 c10 h1
    refine ⟨_, h1, ?_, rfl, l2, .val (.d (stP x)), c7', c8', c9', rfl, i2.iff fun y c d => by simp⟩
    have e2 : B3 = sCons (sFor (.nm 7) (mSeq (mCall F__law_labels (mCons (mFz 3) mNil))) B2) sNil := rfl
    rw [e2]
    generalize B2 = bb at *
    simp [q4, q]) ⟨rfl, [], c6, c7, c8, c9, rfl, ⟨by simp, fun z => ⟨fun y => (by cases y), fun ⟨_, _, _, y, _⟩ => (by cases y)⟩⟩⟩
  exact ⟨l', c6', c7', c8', c9', q, i'⟩
/-! ### the found ones are the due ones -/
def ssLt (z w : Str × Str) : Prop := strLt z.1 w.1 = true ∨ (z.1 = w.1 ∧ strLt z.2 w.2 = true)
theorem stAll_up (O : SysOk s) (ls : List (List Int)) : (stAll s ls s.cs).Pairwise ssLt := by
  have up : s.cs.Pairwise fun a b => strLt a.nm b.nm = true := List.pairwise_map.mp ((rising_up _).mp O.up)
  have row : ∀ a, (stRow s ls a s.cs).Pairwise ssLt := fun a => by
    refine List.pairwise_map.mpr ((up.sublist List.filter_sublist).imp fun {b c} q => .inr ⟨rfl, q⟩)
  unfold stAll
  refine List.pairwise_flatMap.mpr ⟨fun a _ => row a, up.imp fun {a b} q z hz w hw => ?_⟩
  obtain ⟨_, _, rfl⟩ := List.mem_map.mp hz
  obtain ⟨_, _, rfl⟩ := List.mem_map.mp hw
  exact .inl q
theorem stAll_mem (z : Str × Str) : z ∈ stAll s ls s.cs ↔ ∃ x a b, x ∈ ls ∧ a ∈ s.cs ∧ b ∈ s.cs ∧ cnd s x a b = true ∧ z = (a.nm, b.nm) := by
  unfold stAll stRow
  simp only [List.mem_flatMap, List.mem_map, List.mem_filter, Bool.and_eq_true, List.any_eq_true, cnd]
  constructor
  · rintro ⟨a, ha, b, ⟨hb, k1, x, hx, k2⟩, rfl⟩
    exact ⟨x, a, b, hx, ha, hb, ⟨k1, k2⟩, rfl⟩
  · rintro ⟨x, a, b, hx, ha, hb, ⟨k1, k2⟩, rfl⟩
    exact ⟨a, ha, b, ⟨hb, k1, x, hx, k2⟩, rfl⟩
theorem due_sorted (O : SysOk s) (i : DueI s (fun y _ _ => y ∈ ls) l) : l.mergeSort ssLe = stAll s ls s.cs := by
  have up := stAll_up O ls
  have nd : (stAll s ls s.cs).Nodup := up.imp fun {z w} q e => by
    subst e
    rcases q with q | ⟨_, q⟩ <;> rw [strLt_irrefl] at q <;> cases q
  refine ss_sort_eq ((List.perm_ext_iff_of_nodup i.nd nd).mpr fun z => (i.mem z).trans (stAll_mem z).symm) (up.imp fun {z w} q => ?_)
  rw [ssLe_iff]
  rcases q with q | ⟨e, q⟩
  · exact .inl q
  · exact .inr ⟨e, strLt_asymm q⟩
end
end K52
/-! L52c: the law. -/
namespace K52
open PySem PySem.Spec L2 DL
variable [WorldC]
section
variable {ns : List Int} {n m : Nat} {s : Sys} {kvs : List (P × P)} {ls : List (List Int)} {c1 c6 c7 c8 c9 : Cel} {h : Hh} {a b : Cm} {x : List Int} {l : List (Str × Str)}
theorem cnd_apart (k : cnd s x a b = true) : apart s x a b = true ∧ apart s x b a = true := by
  simp only [cnd, Bool.and_eq_true, Bool.not_eq_true', decide_eq_false_iff_not] at k
  obtain ⟨k0, k⟩ := k
  have k0' : ¬ b.nm = a.nm := fun z => k0 z.symm
  unfold stopB at k
  cases k1 : after s.fs x a with
  | none => rw [k1] at k; cases k
  | some y =>
    rw [k1] at k
    simp only [Bool.and_eq_true] at k
    obtain ⟨k2, k3⟩ := k
    have la : ledOn s.fs x a = y := by simp [ledOn, k1]
    have kb : (after s.fs x b).isNone = false := by cases q : after s.fs x b <;> rw [q] at k2 <;> first | rfl | cases k2
    constructor
    · simp [apart, k0, la, k3, kb]
    · simp [apart, k0', la, k3, kb]
theorem ex_false (hs : sysO s.p = some s) (ha : a ∈ s.cs) (hb : b ∈ s.cs) (rx : Reach s x) (k : apart s x a b = true) (h : Hh) : F_exchangeable [.d s.p, .d (.str a.nm), .d (.str b.nm)] h = .ok (.d (.bool false)) [] h := by
  obtain ⟨t, q, i⟩ := f_exchangeable hs ha hb h
  cases t with
  | false => exact q
  | true => have := i rfl x rx; rw [this] at k; cases k
theorem ex_loop (hs : sysO s.p = some s) (R : Rchd s ls) (hm : h[m]? = some (.lst ((stAll s ls s.cs).map ssP))) :
    ∃ c7' c8', forOGo (.mem m) ((stAll s ls s.cs).map ssP) (forTurn (.tp (.cons (.nm 7) (.cons (.nm 8) .nil))) B4) ((stAll s ls s.cs).map ssP) (EV ns n s kvs l c1 c6 c7 c8 c9 (.val (.ob (.mem m)))) h = .ok .next (EV ns n s kvs l c1 c6 c7' c8' c9 (.val (.ob (.mem m)))) h := by
  have lp := forO_typR (p := ssP) (f := forTurn (.tp (.cons (.nm 7) (.cons (.nm 8) .nil))) B4) (k := m) (ds := (stAll s ls s.cs).map ssP) (all := stAll s ls s.cs) (I := fun done e h1 => h1 = h ∧ ∃ c7 c8, e = EV ns n s kvs l c1 c6 c7 c8 c9 (.val (.ob (.mem m)))) (J := fun _ _ _ _ => False)
    (fun done e h1 ⟨kh, _⟩ => by rw [kh]; exact hm) (stAll s ls s.cs) [] (EV ns n s kvs l c1 c6 c7 c8 c9 (.val (.ob (.mem m)))) h rfl (fun done z rest e e1 h1 ⟨kh, c7, c8, ke⟩ => by
    subst kh ke
    obtain ⟨x, a, b, hx, ha, hb, k, rfl⟩ := (stAll_mem z).mp (by rw [e]; simp)
    obtain ⟨k1, k2⟩ := cnd_apart k
    have rx := (R.ok x hx).2
    have q1 := fun h => ex_false hs ha hb rx k1 h
    have q2 := fun h => ex_false hs hb ha rx k2 h
    refine .inl ⟨EV ns n s kvs l c1 c6 (.val (.d (.str a.nm))) (.val (.d (.str b.nm))) c9 (.val (.ob (.mem m))), h1, ?_, rfl, _, _, rfl⟩
    have e4 : B4 = b_law_4 F__law_source F__law_drawn_system F__law_table F__law_labels F__law_reached F_stops_p F_exchangeable := rfl
    rw [e4]
    simp [b_law_4, ssP, q1, q2]) ⟨rfl, _, _, rfl⟩
  rcases lp with ⟨e', h', q, rfl, c7', c8', rfl⟩ | ⟨_, _, _, _, _, _, _, _, j⟩
  · exact ⟨c7', c8', q⟩
  · exact j.elim
theorem isnot_ff : isnotP [.bool false, .bool false] = some (.bool false) := rfl
theorem turn5 (ns : List Int) (k : Nat) (hk : k < 1000) (c1 c2 c3 c4 c5 c6 c7 c8 c9 c10 : Cel) (h : Hh) : ∃ c2' c3' c4' c5' c6' c7' c8' c9' c10' h', forTurn (.nm 1) B5 (.int k) [.val (.scr ns), c1, c2, c3, c4, c5, c6, c7, c8, c9, c10] h = .ok .next [.val (.scr ns), .val (.d (.int k)), c2', c3', c4', c5', c6', c7', c8', c9', c10'] h' := by
  obtain ⟨h1, q1, S1⟩ := p_source (ns := ns) (h := h) hk
  obtain ⟨s, h2, q2, hs, _, _, _, S2⟩ := p_system S1 (states := 16) (cmds := 5) (cl := 3) (by omega) (by omega) (by omega) (by omega) (by omega) (by omega)
  have O := sysOk_of hs
  obtain ⟨kvs, q3, T⟩ := g_table O h2
  obtain ⟨ls, q4, R⟩ := g_reached O T h2
  obtain ⟨l, d6, d7, d8, d9, q5, i⟩ := due_all (ns := ns) (n := h.length) (c1 := .val (.d (.int k))) O T (fun x hx => (R.ok x hx).1) c6 c7 c8 c9 c10 h2
  obtain ⟨ls2, q6, R2⟩ := f_stops hs h2
  have eR := R2.uniq R
  rw [eR] at q6
  have so : sortedP [.list ((dd l).map (·.1))] = some (.list ((stAll s ls s.cs).map ssP)) := by rw [dd_keys, ss_sorted, due_sorted O i]
  have nn := ne_ss (stAll s ls s.cs)
  obtain ⟨g7, g8, q7⟩ := ex_loop (ns := ns) (n := h.length) (kvs := kvs) (c1 := .val (.d (.int k))) (c6 := d6) (c7 := d7) (c8 := d8) (c9 := d9) (l := l) (m := h2.length) (h := h2 ++ [.lst ((stAll s ls s.cs).map ssP)]) hs R (by simp)
  have lL : (stAll s ls s.cs).length ≤ 64 := by rw [← due_sorted O i, List.length_mergeSort]; exact i.len O
  obtain ⟨ls3, q8, R3⟩ := f_stops hs (h2 ++ [.lst ((stAll s ls s.cs).map ssP ++ [.str "odd"])])
  have eR3 := R3.uniq R
  rw [eR3] at q8
  have lp : listP [.dict (dd l)] = some (.list ((dd l).map (·.1))) := rfl
  refine ⟨.val (.ob (.mem h.length)), .val (.d s.p), .val (.d (.dict kvs)), .obj (.dct (dd l)), d6, g7, g8, d9, .val (.ob (.mem h2.length)), h2 ++ [.lst ((stAll s ls s.cs).map ssP ++ [.str "odd"])] ++ [.lst ((stAll s ls s.cs).map ssP)], ?_⟩
  have e5 : B5 = (sCons (sAsg 2 (mCall F__law_source (mCons (mFz 0) (mCons (mFz 1) mNil)))) (sCons (sAsg 3 (mCall F__law_drawn_system (mCons (mFz 2) (mCons (mK (.int 16)) (mCons (mK (.int 5)) (mCons (mK (.int 3)) mNil)))))) (sCons (sAsg 4 (mCall F__law_table (mCons (mFz 3) mNil))) (sCons (sOwn 5 (mDct mNil)) (sCons (sFor (.nm 6) (mSeq (mCall F__law_reached (mCons (mFz 3) (mCons (mFz 4) mNil)))) B3) (sCons (sAsg 10 (mCall F_stops_p (mCons (mFz 3) mNil))) (sCons (sIf (mOr (mNot (mTru (mOp (isiP .list) (mCons (mVar 10) mNil)))) (mBl (mOp neP (mCons (mVar 10) (mCons (mOp sortedP (mCons (mOp listP (mCons (mVar 5) mNil)) mNil)) mNil))))) (sCons (sRet (mK (.bool false))) sNil) sNil) (sCons (sForO (.tp (.cons (.nm 7) (.cons (.nm 8) .nil))) (mVar 10) B4) (sCons (sExpr (mMut appendM (mVar 10) (mCons (mK (.str "odd")) mNil))) (sCons (sIf (mBl (mOp neP (mCons (mCall F_stops_p (mCons (mFz 3) mNil)) (mCons (mOp sortedP (mCons (mOp listP (mCons (mVar 5) mNil)) mNil)) mNil)))) (sCons (sRet (mK (.bool false))) sNil) sNil) sNil)))))))))) := rfl
  rw [e5]
  have dn : dd [] = [] := rfl
  simp only [EV, dn] at q5 q7
  generalize B3 = b3' at *
  generalize B4 = b4' at *
  generalize hL : (stAll s ls s.cs).map ssP = L at *
  have lL2 : L.length ≤ 64 := by rw [← hL, List.length_map]; exact lL
  have lL3 : L.length + 1 ≤ 16777216 := by omega
  simp [q1, q2, q3, q4, dispOk, dputs, q5, q6, isaP, lp, so, nn, q7, lL3, q8]
theorem law_holds (ns : List Int) (hl : ns.length ≤ 63) : ∃ e h', F_law [.scr ns] [] = .ok (.d (.bool true)) e h' := by
  obtain ⟨K, hK⟩ : ∃ K : Int, K = if (if (ns.length : Int) < 14 then (ns.length : Int) else 14) > 5 then (if (ns.length : Int) < 14 then (ns.length : Int) else 14) else 5 := ⟨_, rfl⟩
  have K1 : 5 ≤ K ∧ K ≤ 14 := by rw [hK]; split <;> split <;> omega
  have mx : ∀ y, y = (if (ns.length : Int) < 14 then (ns.length : Int) else 14) → maxP [.int 5, .int y] = some (.int K) := fun y hy => by rw [max_i, hK, hy]
  obtain ⟨e', h', q, d1, d2, d3, d4, d5, d6, d7, d8, d9, d10, rfl⟩ := for_typ (p := fun k : Nat => PyData.int k) (f := forTurn (.nm 1) B5) (all := List.range K.toNat) (I := fun done e h => ∃ c1 c2 c3 c4 c5 c6 c7 c8 c9 c10, e = [.val (.scr ns), c1, c2, c3, c4, c5, c6, c7, c8, c9, c10])
    (List.range K.toNat) [] [.val (.scr ns), .no, .no, .no, .no, .no, .no, .no, .no, .no, .no] [] rfl (fun done k rest e e1 h1 ⟨c1, c2, c3, c4, c5, c6, c7, c8, c9, c10, ke⟩ => by
    subst ke
    have hk : k < K.toNat := List.mem_range.mp (by rw [e]; simp)
    obtain ⟨_, _, _, _, _, _, _, _, _, h', t⟩ := turn5 ns k (by omega) c1 c2 c3 c4 c5 c6 c7 c8 c9 c10 h1
    exact ⟨_, h', t, _, _, _, _, _, _, _, _, _, _, rfl⟩) ⟨_, _, _, _, _, _, _, _, _, _, rfl⟩
  refine ⟨[], h', ?_⟩
  have b0 : -4611686018427387904 ≤ K ∧ K ≤ 16777216 := by omega
  have e0 : F_law = runF (sCons (sFor (.nm 1) (mRng1 (mCons (mOp maxP (mCons (mK (.int 5)) (mCons (mOp minP (mCons (mK (.int 14)) (mCons (mScrLen 0) mNil))) mNil))) mNil)) B5) (sCons (sRet (mK (.bool true))) sNil)) 11 := rfl
  rw [e0]
  generalize B5 = b5 at *
  simp [env0, min_i, mx, ev_endRng1, b0, q]
end
end K52
open PySem PySem.W PySem.Calls PyProof.Rows
theorem cw_doneahead_k52_commands_that_stop_others_of (hF : ∀ [DL.WorldC], ∀ ns : List Int, ns.length ≤ 63 → ∃ e h', K52.F_law [.scr ns] [] = .ok (.d (.bool true)) e h') : PySem.Challenge.rw_doneahead_k52_commands_that_stop_others.Holds := by
  w_on; o_law
  refine HandSHeadRun.head_any (r := OpenLaw.row PySem.Challenge.rw_doneahead_k52_commands_that_stop_others) (q := view (OpenLaw.row PySem.Challenge.rw_doneahead_k52_commands_that_stop_others).prog [58]) (H := K52.hk) (ob := K52.ob) (M := 4000) (loose := K52.loose) (d := HandSHeadRun.topDef (OpenLaw.row PySem.Challenge.rw_doneahead_k52_commands_that_stop_others).prog 58) (kwd := []) K52.ob_eq
    (by kernel_rfl) (fun s => by kernel_rfl) K52.run (by kernel_rfl) (by kernel_rfl) (by kernel_rfl) (by rfl) (by first | assumption | decide +kernel) (by decide +kernel) ⟨rfl, rfl, rfl, rfl, rfl, by decide +kernel⟩ ?hw ?hc
  case hw => w_witness2
  case hc =>
    refine DL.end_walk (l := PySem.Challenge.rw_doneahead_k52_commands_that_stop_others) (n := 63) (k := 8) (x := "script") (CX := fun w => L2.CX PySem.Challenge.rw_doneahead_k52_commands_that_stop_others.prog w) rfl (by decide) (by kernel_rfl) ⟨rfl, by decide, by decide⟩ ?F (fun _ _ _ _ _ z => DL.cx_no z)
    intro w mg fa h Y G hmg0
    letI : DL.WorldC := ⟨w⟩
    obtain ⟨K, KX, c⟩ := Y
    have hmg : mg ("law" : PySem.Str) = some (.ref fa) := by
      have e : (HandSHeadRun.topDef (OpenLaw.row PySem.Challenge.rw_doneahead_k52_commands_that_stop_others).prog 58).name = ("law" : PySem.Str) := by kernel_rfl
      rw [← e]
      exact hmg0
    obtain ⟨fd, hb, hK⟩ := K52.facts (Pr := PySem.Challenge.rw_doneahead_k52_commands_that_stop_others.prog) (w := w) rfl KX G hmg c
    exact ⟨K, fd, _, KX, hb, fun H a ns hl hO hS => DL.sp_true (hF ns hl) hO hS, hK⟩
theorem PySem.Challenge.cw_doneahead_k52_commands_that_stop_others_holds : PySem.Challenge.rw_doneahead_k52_commands_that_stop_others.Holds :=
  cw_doneahead_k52_commands_that_stop_others_of fun ns hl => K52.law_holds ns hl
