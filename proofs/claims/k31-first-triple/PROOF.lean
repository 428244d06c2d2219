import PyProof.Rows.All
import Wide.All
import OpenK.AllK
import Wide.FinOn
import HandS.ForMost
import HandS.Exc
import HandS.ExcOwn
import HandS.TryOnly
import HandS.WordsExc
import HandS.IsInst
import HandS.Lambda
import HandS.Nested
import HandS.TupAny
import HandS.Wide
import HandS.Deep
import HandS.SortInts
import HandS.Conv
import HandS.Rev
import HandS.CallSlots
import HandS.Defaults
import HandS.Style
import HandS.RevTup
import HandS.MapJoin
import HandS.MakeKw
import PySem.Challenge.RW_nearthrees_k31_first_triple_asked_for
import KE.KStateDown
import Lean
import HandS.Ends
import HandS.More
import HandS.Words
import HandS.Head0
import HandS.Head1
import HandS.Head2
import HandS.HeadEnd
import HandS.HeadHook1
import HandS.HeadHook2
import HandS.HeadHook3
import HandS.HeadHook4
import HandS.EndTab
import HandS.HeadWalk
set_option Elab.async false
set_option linter.all false
set_option maxRecDepth 100000
set_option maxHeartbeats 0
/-! The layer D over HandS: values as plain data, environments by slots, each construct a Lean function and a rule. -/
namespace DL
open PySem PySem.Spec PyProof.Rows L2 NdefX

inductive D where
  | non | bl (b : Bool) | int (i : Int) | str (s : List Nat)
  | tup (ds : List D) | lst (ds : List D) | obj (c : Nat) (ds : List D) | clo (k : Nat) (ds : List D) | ref (n : Nat) | ty (n : String)

/-- a lambda's words -/
structure CT where
  qual : Str
  params : Arguments
  body : Expr
  scope : Scope
  fr : List Str

/-- what the top has written, by numbers -/
structure Gx where
  K : PySem.W.Frag
  T : List (Addr × Str)
  cl : Nat → Addr
  fl : Nat → List Str
  ev : Nat → Value
  rf : Nat → Addr
  ct : Nat → CT

abbrev mkStr (s : List Nat) : Str := ⟨s.toArray⟩

/-- a cell that holds a value -/
def CellO (c : Addr) (v : V) : HO := .ext fun h => ∃ u, RelV v u ∧ h.IsCell c (some u)
/-- the object at f is the lambda t with the cells cl, its code object at c -/
def LamO (f : Addr) (t : CT) (cl : List (Str × Addr)) (c : Addr) : HO := .ext fun h => ∃ pm ctv : Value, h.get? f = some (PySem.W.kla_obj "<lambda>" t.qual t.params t.body t.scope cl pm c ctv)

mutual
def Den (G : Gx) (F : Hp) : D → V → Prop
  | .non, v => v = .non
  | .bl b, v => v = .bl b
  | .int i, v => v = .int i
  | .str s, v => v = .str (mkStr s)
  | .tup ds, v => ∃ a vs, v = .ref a ∧ SqT G.K F a vs ∧ Dens G F ds vs
  | .lst ds, v => ∃ a vs, v = .ref a ∧ SqL G.K F a vs ∧ Dens G F ds vs
  | .obj c ds, v => ∃ a dx vs, v = .ref a ∧ F a = some (.ins (G.cl c) dx ((G.fl c).zip vs)) ∧ Dens G F ds vs ∧ vs.length = (G.fl c).length
  | .clo k ds, v => ∃ f c' cl ws, v = .ref f ∧ F f = some (LamO f (G.ct k) cl c') ∧ F c' = some (LamX.CodeO c' (G.ct k).qual) ∧ (∀ y c, cl.lookup y = some c → y ∈ (G.ct k).fr) ∧
      (∀ x y c, cl.lookup x = some c → cl.lookup y = some c → x = y) ∧ ws.length = (G.ct k).fr.length ∧ (∀ (i : Nat) (y : Str) (w : V), (G.ct k).fr[i]? = some y → ws[i]? = some w → ∃ c, cl.lookup y = some c ∧ F c = some (CellO c w)) ∧ Dens G F ds ws
  | .ref n, v => v = .ref (G.rf n)
  | .ty n, v => v = .ty n
def Dens (G : Gx) (F : Hp) : List D → List V → Prop
  | [], vs => vs = []
  | d :: ds, vs => ∃ v r, vs = v :: r ∧ Den G F d v ∧ Dens G F ds r
end

theorem SqT.mono {K : PySem.W.Frag} {F F' : Hp} {a : Addr} {vs : List V} (s : Same F F') (h : SqT K F a vs) : SqT K F' a vs := by
  rcases h with (h | ⟨o, h⟩) | h
  · exact .inl (.inl (s _ _ h))
  · exact .inl (.inr ⟨o, s _ _ h⟩)
  · exact .inr h
mutual
theorem Den.mono {G : Gx} {F F' : Hp} (s : Same F F') : ∀ (d : D) {v : V}, Den G F d v → Den G F' d v
  | .non, v, h => by simpa only [Den] using h
  | .bl b, v, h => by simpa only [Den] using h
  | .int i, v, h => by simpa only [Den] using h
  | .str x, v, h => by simpa only [Den] using h
  | .ref n, v, h => by simpa only [Den] using h
  | .ty n, v, h => by simpa only [Den] using h
  | .tup ds, v, h => by
    simp only [Den] at h ⊢
    obtain ⟨a, vs, e, q, r⟩ := h
    exact ⟨a, vs, e, SqT.mono s q, Dens.mono s ds r⟩
  | .lst ds, v, h => by
    simp only [Den] at h ⊢
    obtain ⟨a, vs, e, q, r⟩ := h
    exact ⟨a, vs, e, s.seq q, Dens.mono s ds r⟩
  | .obj c ds, v, h => by
    simp only [Den] at h ⊢
    obtain ⟨a, dx, vs, e, q, r, l⟩ := h
    exact ⟨a, dx, vs, e, s _ _ q, Dens.mono s ds r, l⟩
  | .clo k ds, v, h => by
    simp only [Den] at h ⊢
    obtain ⟨f, c', cl, ws, e, q1, q2, q3, q4, l, q5, r⟩ := h
    refine ⟨f, c', cl, ws, e, s _ _ q1, s _ _ q2, q3, q4, l, fun i y w a b => ?_, Dens.mono s ds r⟩
    obtain ⟨c, z1, z2⟩ := q5 i y w a b
    exact ⟨c, z1, s _ _ z2⟩
theorem Dens.mono {G : Gx} {F F' : Hp} (s : Same F F') : ∀ (ds : List D) {vs : List V}, Dens G F ds vs → Dens G F' ds vs
  | [], vs, h => by simpa only [Dens] using h
  | d :: ds, vs, h => by
    simp only [Dens] at h ⊢
    obtain ⟨v, r, e, q, t⟩ := h
    exact ⟨v, r, e, Den.mono s d q, Dens.mono s ds t⟩
end
section
variable {G : Gx} {F : Hp}
theorem Dens.nil : Dens G F [] [] := by simp only [Dens]
theorem Dens.cons {d : D} {ds : List D} {v : V} {vs : List V} (h : Den G F d v) (t : Dens G F ds vs) : Dens G F (d :: ds) (v :: vs) := by
  simp only [Dens]; exact ⟨v, vs, rfl, h, t⟩
theorem Dens.inv {d : D} {ds : List D} {vs : List V} (h : Dens G F (d :: ds) vs) : ∃ v r, vs = v :: r ∧ Den G F d v ∧ Dens G F ds r := by
  simpa only [Dens] using h
theorem Dens.inv_nil {vs : List V} (h : Dens G F [] vs) : vs = [] := by simpa only [Dens] using h
theorem Dens.length : ∀ {ds : List D} {vs : List V}, Dens G F ds vs → vs.length = ds.length
  | [], vs, h => by rw [h.inv_nil]; rfl
  | d :: ds, vs, h => by
    obtain ⟨v, r, rfl, _, t⟩ := h.inv
    rw [List.length_cons, List.length_cons, Dens.length t]
theorem Dens.get : ∀ {ds : List D} {vs : List V} {i : Nat} {d : D}, Dens G F ds vs → ds[i]? = some d → ∃ v, vs[i]? = some v ∧ Den G F d v
  | [], vs, i, d, h, e => by simp at e
  | x :: ds, vs, 0, d, h, e => by
    obtain ⟨v, r, rfl, q, t⟩ := h.inv
    simp at e; subst e
    exact ⟨v, rfl, q⟩
  | x :: ds, vs, i + 1, d, h, e => by
    obtain ⟨v, r, rfl, q, t⟩ := h.inv
    obtain ⟨u, h1, h2⟩ := Dens.get (i := i) t (by simpa using e)
    exact ⟨u, by simpa using h1, h2⟩
theorem Dens.get' : ∀ {ds : List D} {vs : List V} {i : Nat} {v : V}, Dens G F ds vs → vs[i]? = some v → ∃ d, ds[i]? = some d ∧ Den G F d v
  | [], vs, i, d, h, e => by rw [h.inv_nil] at e; simp at e
  | x :: ds, vs, 0, d, h, e => by
    obtain ⟨v, r, rfl, q, t⟩ := h.inv
    simp at e; subst e
    exact ⟨x, rfl, q⟩
  | x :: ds, vs, i + 1, d, h, e => by
    obtain ⟨v, r, rfl, q, t⟩ := h.inv
    obtain ⟨u, h1, h2⟩ := Dens.get' (i := i) t (by simpa using e)
    exact ⟨u, by simpa using h1, h2⟩
theorem Dens.append : ∀ {ds es : List D} {vs ws : List V}, Dens G F ds vs → Dens G F es ws → Dens G F (ds ++ es) (vs ++ ws)
  | [], es, vs, ws, h, k => by rw [h.inv_nil]; exact k
  | d :: ds, es, vs, ws, h, k => by
    obtain ⟨v, r, rfl, q, t⟩ := h.inv
    exact .cons q (Dens.append t k)
theorem Dens.take : ∀ {ds : List D} {vs : List V} (n : Nat), Dens G F ds vs → Dens G F (ds.take n) (vs.take n)
  | _, _, 0, _ => by simp only [List.take_zero]; exact .nil
  | [], vs, n + 1, h => by rw [h.inv_nil]; simp only [List.take_nil]; exact .nil
  | d :: ds, vs, n + 1, h => by
    obtain ⟨v, r, rfl, q, t⟩ := h.inv
    simp only [List.take_succ_cons]
    exact .cons q (Dens.take n t)
theorem Dens.drop : ∀ {ds : List D} {vs : List V} (n : Nat), Dens G F ds vs → Dens G F (ds.drop n) (vs.drop n)
  | _, _, 0, h => by simpa only [List.drop_zero] using h
  | [], vs, n + 1, h => by rw [h.inv_nil]; simp only [List.drop_nil]; exact .nil
  | d :: ds, vs, n + 1, h => by
    obtain ⟨v, r, rfl, q, t⟩ := h.inv
    simp only [List.drop_succ_cons]
    exact Dens.drop n t
theorem Dens.set : ∀ {ds : List D} {vs : List V} {d : D} {v : V} (n : Nat), Dens G F ds vs → Den G F d v → Dens G F (ds.set n d) (vs.set n v)
  | [], vs, d, v, n, h, k => by rw [h.inv_nil]; simp only [List.set_nil]; exact .nil
  | x :: ds, vs, d, v, 0, h, k => by
    obtain ⟨u, r, rfl, q, t⟩ := h.inv
    exact .cons k t
  | x :: ds, vs, d, v, n + 1, h, k => by
    obtain ⟨u, r, rfl, q, t⟩ := h.inv
    exact .cons q (Dens.set n t k)
theorem Dens.reverse : ∀ {ds : List D} {vs : List V}, Dens G F ds vs → Dens G F ds.reverse vs.reverse
  | [], vs, h => by rw [h.inv_nil]; exact .nil
  | d :: ds, vs, h => by
    obtain ⟨v, r, rfl, q, t⟩ := h.inv
    rw [List.reverse_cons, List.reverse_cons]
    exact (Dens.reverse t).append (.cons q .nil)
theorem Den.int {i : Int} : Den G F (.int i) (.int i) := by simp only [Den]
theorem Den.bl {b : Bool} : Den G F (.bl b) (.bl b) := by simp only [Den]
theorem Den.non : Den G F .non .non := by simp only [Den]
theorem Den.str {x : List Nat} : Den G F (.str x) (.str (mkStr x)) := by simp only [Den]
theorem Den.str' {z : Str} : Den G F (.str z.cps.toList) (.str z) := by simp only [Den]
theorem Den.ty {n : String} : Den G F (.ty n) (.ty n) := by simp only [Den]
theorem Den.ref {n : Nat} : Den G F (.ref n) (.ref (G.rf n)) := by simp only [Den]
theorem Den.tup {ds : List D} {a : Addr} {vs : List V} (h : SqT G.K F a vs) (q : Dens G F ds vs) : Den G F (.tup ds) (.ref a) := by
  simp only [Den]; exact ⟨a, vs, rfl, h, q⟩
theorem Den.lst {ds : List D} {a : Addr} {vs : List V} (h : SqL G.K F a vs) (q : Dens G F ds vs) : Den G F (.lst ds) (.ref a) := by
  simp only [Den]; exact ⟨a, vs, rfl, h, q⟩
theorem Den.int_inv {i : Int} {v : V} (h : Den G F (.int i) v) : v = .int i := by simpa only [Den] using h
theorem Den.bl_inv {i : Bool} {v : V} (h : Den G F (.bl i) v) : v = .bl i := by simpa only [Den] using h
theorem Den.non_inv {v : V} (h : Den G F .non v) : v = .non := by simpa only [Den] using h
theorem Den.str_inv {x : List Nat} {v : V} (h : Den G F (.str x) v) : v = .str (mkStr x) := by simpa only [Den] using h
theorem Den.ty_inv {n : String} {v : V} (h : Den G F (.ty n) v) : v = .ty n := by simpa only [Den] using h
theorem Den.ref_inv {n : Nat} {v : V} (h : Den G F (.ref n) v) : v = .ref (G.rf n) := by simpa only [Den] using h
theorem Den.tup_inv {ds : List D} {v : V} (h : Den G F (.tup ds) v) : ∃ a vs, v = .ref a ∧ SqT G.K F a vs ∧ Dens G F ds vs := by simpa only [Den] using h
theorem Den.lst_inv {ds : List D} {v : V} (h : Den G F (.lst ds) v) : ∃ a vs, v = .ref a ∧ SqL G.K F a vs ∧ Dens G F ds vs := by simpa only [Den] using h
end

/-! ### environments -/
inductive Sl where
  | un | d (x : D) | own (xs : List D)
abbrev Rho := List Sl
inductive EO (α : Type) where
  | ok (x : α) (r : Rho) | ex (c : Nat) (xs : List D) (r : Rho) | st
abbrev EM (α : Type) := Rho → EO α
def EM.ret {α : Type} (x : α) : EM α := fun r => .ok x r
def EM.bind {α β : Type} (m : EM α) (k : α → EM β) : EM β := fun r => match m r with
  | .ok x r' => k x r'
  | .ex c xs r' => .ex c xs r'
  | .st => .st
def EM.lift {α : Type} (o : Option α) : EM α := fun r => match o with
  | some x => .ok x r
  | none => .st
inductive SO where
  | nx (r : Rho) | rt (x : D) (r : Rho) | rl (xs : List D) (r : Rho) | bk (r : Rho) | ct (r : Rho) | ex (c : Nat) (xs : List D) (r : Rho) | st
abbrev SM := Rho → SO
inductive FO where
  | ok (x : D) | lst (xs : List D) | ex (c : Nat) (xs : List D) | st

/-- how it was at the entry: what was tracked, what of it was frozen, what may be written -/
structure Bs where
  H0 : Hp
  F0 : Hp
  W : Addr → Prop
  arg : Option (Nat × Addr)

def IsL : HO → Prop
  | .lst _ => True
  | _ => False
/-- ρ tells the slots σ over the heap H; F: what of H never changes -/
structure R (G : Gx) (B : Bs) (F : Hp) (ρ : Rho) (σ : L2.St) (H : Hp) : Prop where
  same : ∀ b o, B.H0 b = some o → (∀ ps, o ≠ HO.tbl ps) → ¬ B.W b → H b = some o
  tbl : ∀ b ps, B.H0 b = some (HO.tbl ps) → ∃ qs, H b = some (HO.tbl qs)
  sub : Same F H
  nt : ∀ b o, F b = some o → ∀ ps, o ≠ HO.tbl ps
  nw : ∀ b o, F b = some o → IsL o → B.F0 b = some o ∨ B.H0 b = none ∨ B.W b
  tabs : LamX.Tabs G.T H
  len : ρ.length = σ.length
  dat : ∀ (i : Nat) x, ρ[i]? = some (Sl.d x) → ∃ v, σ[i]? = some (some v) ∧ Den G F x v
  own : ∀ (i : Nat) xs, ρ[i]? = some (Sl.own xs) → ∃ a vs, σ[i]? = some (some (V.ref a)) ∧ F a = none ∧ (B.H0 a = none ∨ B.W a) ∧ H a = some (HO.lst vs) ∧ Dens G F xs vs
  sep : ∀ (i j : Nat) xs ys a, i ≠ j → ρ[i]? = some (Sl.own xs) → ρ[j]? = some (Sl.own ys) → σ[i]? = some (some (V.ref a)) → σ[j]? ≠ some (some (V.ref a))
  arg : ∀ (i : Nat) a xs, B.arg = some (i, a) → ρ[i]? = some (Sl.own xs) → σ[i]? = some (some (V.ref a))

theorem same_upd {H : Hp} {p : Addr} {o : HO} (h : H p = none) : Same H (upd H p o) := fun b x e => by
  rw [upd_ne (ne_of_none e h)]; exact e
theorem same_both {F H : Hp} {p : Addr} {o : HO} (s : Same F H) : Same (upd F p o) (upd H p o) := fun b x e => by
  by_cases hb : b = p
  · subst hb; rw [upd_same] at e ⊢; exact e
  · rw [upd_ne hb] at e ⊢; exact s b x e
section
variable {G : Gx} {B : Bs} {F F' H H' : Hp} {ρ : Rho} {σ : L2.St}
/-- what was there at the entry is there -/
theorem R.old (r : R G B F ρ σ H) {a : Addr} (h : H a = none) : B.H0 a = none ∨ B.W a := by
  by_cases w : B.W a
  · exact .inr w
  · refine .inl ?_
    cases e : B.H0 a with
    | none => rfl
    | some u =>
      exfalso
      by_cases z : ∃ ps, u = HO.tbl ps
      · obtain ⟨ps, rfl⟩ := z
        obtain ⟨qs, q⟩ := r.tbl a ps e
        rw [h] at q; cases q
      · have := r.same a u e (fun ps q => z ⟨ps, q⟩) w
        rw [h] at this; cases this
/-- a new object comes, and is frozen -/
theorem R.new {p : Addr} {o : HO} (r : R G B F ρ σ H) (h : H p = none) (nt : ∀ ps, o ≠ HO.tbl ps) : R G B (upd F p o) ρ σ (upd H p o) ∧ Same F (upd F p o) := by
  have hF : F p = none := by
    cases e : F p with
    | none => rfl
    | some u => have := r.sub _ _ e; rw [h] at this; cases this
  have sF : Same F (upd F p o) := same_upd hF
  refine ⟨⟨fun b u e n w => ?_, fun b ps e => ?_, same_both r.sub, fun b u e => ?_, fun b u e l => ?_, r.tabs.ext (same_upd h), r.len, fun i x e => ?_, fun i xs e => ?_, r.sep, r.arg⟩, sF⟩
  · exact same_upd h b u (r.same b u e n w)
  · obtain ⟨qs, q⟩ := r.tbl b ps e
    exact ⟨qs, same_upd h _ _ q⟩
  · by_cases hb : b = p
    · subst hb; rw [upd_same] at e; cases e; exact nt
    · rw [upd_ne hb] at e; exact r.nt b u e
  · by_cases hb : b = p
    · subst hb; exact .inr (r.old h)
    · rw [upd_ne hb] at e; exact r.nw b u e l
  · obtain ⟨v, a, q⟩ := r.dat i x e
    exact ⟨v, a, Den.mono sF x q⟩
  · obtain ⟨a, vs, e1, e2, e3, e4, e5⟩ := r.own i xs e
    refine ⟨a, vs, e1, ?_, e3, same_upd h _ _ e4, Dens.mono sF xs e5⟩
    rw [upd_ne (ne_of_none e4 h)]; exact e2
/-- a new object comes, not frozen -/
theorem R.newU {p : Addr} {o : HO} (r : R G B F ρ σ H) (h : H p = none) : R G B F ρ σ (upd H p o) := by
  refine ⟨fun b u e n w => same_upd h b u (r.same b u e n w), fun b ps e => ?_, fun b u e => same_upd h b u (r.sub b u e), r.nt, r.nw, r.tabs.ext (same_upd h), r.len, r.dat, fun i xs e => ?_, r.sep, r.arg⟩
  · obtain ⟨qs, q⟩ := r.tbl b ps e
    exact ⟨qs, same_upd h _ _ q⟩
  · obtain ⟨a, vs, e1, e2, e3, e4, e5⟩ := r.own i xs e
    exact ⟨a, vs, e1, e2, e3, same_upd h _ _ e4, e5⟩
theorem R.fr (r : R G B F ρ σ H) {p : Addr} (h : H p = none) : F p = none := by
  cases e : F p with
  | none => rfl
  | some u => have := r.sub _ _ e; rw [h] at this; cases this
theorem lt_set {α : Type} {l : List α} {i j : Nat} {x y : α} (e : (l.set i x)[j]? = some y) : j < l.length := by
  have := (List.getElem?_eq_some_iff.mp e).1; rwa [List.length_set] at this
/-- slot i changes to s', v' where no other slot stands at the address of an own one -/
theorem R.put {i : Nat} {sl : Sl} {v : V} (r : R G B F ρ σ H) (hd : ∀ x, sl = Sl.d x → Den G F x v) (ha : ∀ xs, sl = Sl.own xs → ∀ b, B.arg ≠ some (i, b))
    (ho : ∀ xs, sl = Sl.own xs → ∃ a vs, v = .ref a ∧ F a = none ∧ (B.H0 a = none ∨ B.W a) ∧ H a = some (HO.lst vs) ∧ Dens G F xs vs ∧ ∀ (j : Nat) ys, j ≠ i → ρ[j]? = some (Sl.own ys) → σ[j]? ≠ some (some (V.ref a))) :
    R G B F (ρ.set i sl) (σ.set i (some v)) H := by
  have at_ : ∀ {y : Sl}, (ρ.set i sl)[i]? = some y → y = sl ∧ (σ.set i (some v))[i]? = some (some v) := fun {y} e => by
    have h := lt_set e
    rw [List.getElem?_set_self h] at e
    exact ⟨(Option.some.inj e).symm, by rw [List.getElem?_set_self (by rw [← r.len]; exact h)]⟩
  refine ⟨r.same, r.tbl, r.sub, r.nt, r.nw, r.tabs, by rw [List.length_set, List.length_set]; exact r.len, fun j y e => ?_, fun j ys e => ?_, fun j k ys zs b hjk e1 e2 e3 => ?_, fun j b ys e1 e2 => ?_⟩
  · by_cases hj : j = i
    · subst hj
      obtain ⟨e1, e2⟩ := at_ e
      exact ⟨v, e2, hd y e1.symm⟩
    · rw [List.getElem?_set_ne (Ne.symm hj)] at e ⊢
      exact r.dat j y e
  · by_cases hj : j = i
    · subst hj
      obtain ⟨e1, e2⟩ := at_ e
      obtain ⟨a, vs, rfl, h1, h2, h3, h4, _⟩ := ho ys e1.symm
      exact ⟨a, vs, e2, h1, h2, h3, h4⟩
    · rw [List.getElem?_set_ne (Ne.symm hj)] at e ⊢
      exact r.own j ys e
  · by_cases hj : j = i
    · subst hj
      obtain ⟨q1, q2⟩ := at_ e1
      obtain ⟨a, vs, rfl, h1, h2, h3, h4, h5⟩ := ho ys q1.symm
      rw [q2] at e3
      have : a = b := by injection e3 with e3; injection e3 with e3; injection e3
      subst this
      rw [List.getElem?_set_ne hjk] at e2 ⊢
      exact h5 k zs (Ne.symm hjk) e2
    · rw [List.getElem?_set_ne (Ne.symm hj)] at e1 e3
      by_cases hk : k = i
      · subst hk
        obtain ⟨q1, q2⟩ := at_ e2
        obtain ⟨a, vs, rfl, h1, h2, h3, h4, h5⟩ := ho zs q1.symm
        rw [q2]
        intro z
        have : a = b := by injection z with z; injection z with z; injection z
        subst this
        exact h5 j ys hj e1 e3
      · rw [List.getElem?_set_ne (Ne.symm hk)] at e2 ⊢
        exact r.sep j k ys zs b hjk e1 e2 e3
  · by_cases hj : j = i
    · subst hj
      exact absurd e1 (ha ys (at_ e2).1.symm b)
    · rw [List.getElem?_set_ne (Ne.symm hj)] at e2 ⊢
      exact r.arg j b ys e1 e2
/-- a slot gets data -/
theorem R.setd {i : Nat} {x : D} {v : V} (r : R G B F ρ σ H) (q : Den G F x v) : R G B F (ρ.set i (.d x)) (σ.set i (some v)) H :=
  r.put (fun y e => by cases e; exact q) (fun _ e => by cases e) fun _ e => by cases e
/-- a slot gets a new list of its own -/
theorem R.seto {i : Nat} {xs : List D} {vs : List V} {a : Addr} (r : R G B F ρ σ H) (ha : ∀ b, B.arg ≠ some (i, b)) (hH : H a = none) (q : Dens G F xs vs) : R G B F (ρ.set i (.own xs)) (σ.set i (some (.ref a))) (upd H a (.lst vs)) :=
  (R.newU r hH).put (fun y e => by cases e) (fun _ _ => ha) fun ys e => by
    cases e
    refine ⟨a, vs, rfl, R.fr r hH, R.old r hH, upd_same, q, fun j zs hj e1 e2 => ?_⟩
    obtain ⟨b, ws, h1, h2, h3, h4, h5⟩ := r.own j zs e1
    rw [h1] at e2
    have : b = a := by injection e2 with e2; injection e2 with e2; injection e2
    subst this
    rw [hH] at h4; cases h4
/-- a slot's own list is written -/
theorem R.write {i : Nat} {xs ys : List D} {a : Addr} {ws : List V} (r : R G B F ρ σ H) (e : ρ[i]? = some (Sl.own xs)) (es : σ[i]? = some (some (V.ref a))) (q : Dens G F ys ws) : R G B F (ρ.set i (.own ys)) σ (upd H a (.lst ws)) := by
  obtain ⟨a', vs, h1, h2, h3, h4, h5⟩ := r.own i xs e
  rw [es] at h1
  have : a = a' := by injection h1 with h1; injection h1 with h1; injection h1
  subst this
  have hlt : i < ρ.length := (List.getElem?_eq_some_iff.mp e).1
  have other : ∀ {b : Addr} {o : HO}, H b = some o → (∀ us, o ≠ HO.lst us) → b ≠ a := fun {b o} h n z => by
    subst z; rw [h4] at h; cases h; exact n _ rfl
  refine ⟨fun b o e1 e2 e3 => ?_, fun b ps e1 => ?_, fun b o e1 => ?_, r.nt, r.nw, fun p hp => ?_, by rw [List.length_set]; exact r.len, fun j x e1 => ?_, fun j zs e1 => ?_, fun j k zs us b hjk e1 e2 e3 => ?_, fun j b zs e1 e2 => ?_⟩
  · by_cases hb : b = a
    · subst hb
      rcases h3 with z | z
      · rw [e1] at z; cases z
      · exact absurd z e3
    · rw [upd_ne hb]; exact r.same b o e1 e2 e3
  · obtain ⟨qs, z⟩ := r.tbl b ps e1
    exact ⟨qs, by rw [upd_ne (other z (by intro _ z; cases z))]; exact z⟩
  · have : b ≠ a := fun z => by subst z; rw [h2] at e1; cases e1
    rw [upd_ne this]; exact r.sub b o e1
  · obtain ⟨ps, q1, q2, q3⟩ := r.tabs p hp
    refine ⟨ps, by rw [upd_ne (other q1 (by intro _ z; cases z))]; exact q1, q2, fun pos cv hc => ?_⟩
    obtain ⟨c, z1, z2⟩ := q3 pos cv hc
    exact ⟨c, z1, by rw [upd_ne (other z2 (by intro _ z; cases z))]; exact z2⟩
  · by_cases hj : j = i
    · subst hj
      rw [List.getElem?_set_self hlt] at e1; cases e1
    · rw [List.getElem?_set_ne (Ne.symm hj)] at e1
      exact r.dat j x e1
  · by_cases hj : j = i
    · subst hj
      rw [List.getElem?_set_self hlt] at e1; cases e1
      exact ⟨a, ws, es, h2, h3, upd_same, q⟩
    · rw [List.getElem?_set_ne (Ne.symm hj)] at e1
      obtain ⟨b, us, k1, k2, k3, k4, k5⟩ := r.own j zs e1
      have : b ≠ a := fun z => by
        subst z
        exact r.sep i j xs zs b (Ne.symm hj) e e1 es k1
      exact ⟨b, us, k1, k2, k3, by rw [upd_ne this]; exact k4, k5⟩
  · have back : ∀ {m : Nat} {us : List D}, (ρ.set i (.own ys))[m]? = some (Sl.own us) → ∃ us', ρ[m]? = some (Sl.own us') := fun {m us} z => by
      by_cases hm : m = i
      · subst hm; exact ⟨xs, e⟩
      · rw [List.getElem?_set_ne (Ne.symm hm)] at z; exact ⟨us, z⟩
    obtain ⟨zs', e1'⟩ := back e1
    obtain ⟨us', e2'⟩ := back e2
    exact r.sep j k zs' us' b hjk e1' e2' e3
  · by_cases hm : j = i
    · subst hm; exact r.arg j b xs e1 e
    · rw [List.getElem?_set_ne (Ne.symm hm)] at e2; exact r.arg j b zs e1 e2
/-- a slot's own list becomes frozen -/
theorem R.freeze {i : Nat} {xs : List D} {a : Addr} (r : R G B F ρ σ H) (e : ρ[i]? = some (Sl.own xs)) (es : σ[i]? = some (some (V.ref a))) :
    ∃ vs, H a = some (HO.lst vs) ∧ Same F (upd F a (.lst vs)) ∧ R G B (upd F a (.lst vs)) (ρ.set i (.d (.lst xs))) σ H ∧ Den G (upd F a (.lst vs)) (.lst xs) (.ref a) := by
  obtain ⟨a', vs, h1, h2, h3, h4, h5⟩ := r.own i xs e
  rw [es] at h1
  have : a = a' := by injection h1 with h1; injection h1 with h1; injection h1
  subst this
  have sF : Same F (upd F a (.lst vs)) := same_upd h2
  have den : Den G (upd F a (.lst vs)) (.lst xs) (.ref a) := .lst (.of upd_same) (Dens.mono sF xs h5)
  have hlt : i < ρ.length := (List.getElem?_eq_some_iff.mp e).1
  refine ⟨vs, h4, sF, ⟨r.same, r.tbl, fun b o e1 => ?_, fun b o e1 => ?_, fun b o e1 l => ?_, r.tabs, by rw [List.length_set]; exact r.len, fun j x e1 => ?_, fun j zs e1 => ?_, fun j k zs us b hjk e1 e2 e3 => ?_, fun j b zs e1 e2 => ?_⟩, den⟩
  · by_cases hb : b = a
    · subst hb; rw [upd_same] at e1; cases e1; exact h4
    · rw [upd_ne hb] at e1; exact r.sub b o e1
  · by_cases hb : b = a
    · subst hb; rw [upd_same] at e1; cases e1; intro ps z; cases z
    · rw [upd_ne hb] at e1; exact r.nt b o e1
  · by_cases hb : b = a
    · subst hb; exact .inr h3
    · rw [upd_ne hb] at e1; exact r.nw b o e1 l
  · by_cases hj : j = i
    · subst hj
      rw [List.getElem?_set_self hlt] at e1; cases e1
      exact ⟨.ref a, es, den⟩
    · rw [List.getElem?_set_ne (Ne.symm hj)] at e1
      obtain ⟨v, q1, q2⟩ := r.dat j x e1
      exact ⟨v, q1, Den.mono sF x q2⟩
  · have hj : j ≠ i := fun z => by
      subst z; rw [List.getElem?_set_self hlt] at e1; cases e1
    rw [List.getElem?_set_ne (Ne.symm hj)] at e1
    obtain ⟨b, us, k1, k2, k3, k4, k5⟩ := r.own j zs e1
    have : b ≠ a := fun z => by
      subst z
      exact r.sep i j xs zs b (Ne.symm hj) e e1 es k1
    exact ⟨b, us, k1, by rw [upd_ne this]; exact k2, k3, k4, Dens.mono sF zs k5⟩
  · have hj : j ≠ i := fun z => by
      subst z; rw [List.getElem?_set_self hlt] at e1; cases e1
    have hk : k ≠ i := fun z => by
      subst z; rw [List.getElem?_set_self hlt] at e2; cases e2
    rw [List.getElem?_set_ne (Ne.symm hj)] at e1
    rw [List.getElem?_set_ne (Ne.symm hk)] at e2
    exact r.sep j k zs us b hjk e1 e2 e3
  · have hj : j ≠ i := fun z => by
      subst z; rw [List.getElem?_set_self hlt] at e2; cases e2
    rw [List.getElem?_set_ne (Ne.symm hj)] at e2
    exact r.arg j b zs e1 e2
/-- more is frozen than is said -/
theorem R.un {i : Nat} (r : R G B F ρ σ H) : R G B F (ρ.set i Sl.un) σ H := by
  have h : ∀ {j : Nat} {y : Sl}, (ρ.set i Sl.un)[j]? = some y → y ≠ Sl.un → ρ[j]? = some y := fun {j y} e n => by
    by_cases hj : j = i
    · subst hj
      rw [List.getElem?_set_self (lt_set e)] at e
      exact absurd (Option.some.inj e).symm n
    · rwa [List.getElem?_set_ne (Ne.symm hj)] at e
  exact ⟨r.same, r.tbl, r.sub, r.nt, r.nw, r.tabs, by rw [List.length_set]; exact r.len, fun j x e => r.dat j x (h e (by intro z; cases z)), fun j xs e => r.own j xs (h e (by intro z; cases z)),
    fun j k ys zs a hjk e1 e2 e3 => r.sep j k ys zs a hjk (h e1 (by intro z; cases z)) (h e2 (by intro z; cases z)) e3, fun j b xs e1 e2 => r.arg j b xs e1 (h e2 (by intro z; cases z))⟩
end

/-! ### the readings -/
/-- an exception, as data -/
def ExD (G : Gx) (F : Hp) (c : Nat) (xs : List D) (cls : Value) (d : Option Addr) : Prop :=
  cls = G.ev c ∧ ((G.fl c = [] ∧ xs = []) ∨ ∃ dx vs, d = some dx ∧ F dx = some (.xd ((G.fl c).zip vs)) ∧ Dens G F xs vs ∧ vs.length = (G.fl c).length)
theorem ExD.mono {G : Gx} {F F' : Hp} {c : Nat} {xs : List D} {cls : Value} {d : Option Addr} (s : Same F F') (h : ExD G F c xs cls d) : ExD G F' c xs cls d := by
  obtain ⟨e, h⟩ := h
  refine ⟨e, h.imp id ?_⟩
  rintro ⟨dx, vs, h1, h2, h3, h4⟩
  exact ⟨dx, vs, h1, s _ _ h2, Dens.mono s xs h3, h4⟩
section
variable {G : Gx} {B : Bs} {W : WX} {α β γ : Type}
/-- from ρ over F: what m gives, and what is wanted of it -/
def cX (G : Gx) (B : Bs) (W : WX) {α β : Type} (P : Hp → α → β → Prop) (m : EM α) (F : Hp) (ρ : Rho) (σ : L2.St) (Q : β → Hp → Prop) : Prop :=
  match m ρ with
  | .ok x ρ' => ∀ b F' H', Same F F' → R G B F' ρ' σ H' → P F' x b → Q b H'
  | .ex c xs ρ' => ∀ cls d F' H', Same F F' → R G B F' ρ' σ H' → ExD G F' c xs cls d → W cls d σ H'
  | .st => False
def tX (G : Gx) (B : Bs) (W : WX) {α β : Type} (P : Hp → α → β → Prop) (m : EM α) : L2.St → Hp → (β → Hp → Prop) → Prop := fun σ H Q => ∃ F ρ, R G B F ρ σ H ∧ cX G B W P m F ρ σ Q
abbrev PD (G : Gx) : Hp → D → V → Prop := fun F x v => Den G F x v
abbrev PB : Hp → Bool → Bool → Prop := fun _ a b => a = b
abbrev PL (G : Gx) : Hp → List D → List V → Prop := fun F xs vs => Dens G F xs vs
variable {P : Hp → α → β → Prop} {P2 : Hp → γ → δ → Prop} {m : EM α} {F F1 : Hp} {ρ : Rho} {σ : L2.St} {H : Hp}
theorem cX.weak {Q : β → Hp → Prop} (s : Same F F1) (h : cX G B W P m F ρ σ Q) : cX G B W P m F1 ρ σ Q := by
  unfold cX at h ⊢
  cases e : m ρ with
  | ok x ρ' => rw [e] at h; exact fun b F' H' s' => h b F' H' (s.trans s')
  | ex c xs ρ' => rw [e] at h; exact fun cls d F' H' s' => h cls d F' H' (s.trans s')
  | st => rw [e] at h; exact h
theorem cX.imp {Q Q' : β → Hp → Prop} (h : cX G B W P m F ρ σ Q) (i : ∀ b H, Q b H → Q' b H) : cX G B W P m F ρ σ Q' := by
  unfold cX at h ⊢
  cases e : m ρ with
  | ok x ρ' => rw [e] at h; exact fun b F' H' s r p => i _ _ (h b F' H' s r p)
  | ex c xs ρ' => rw [e] at h; exact h
  | st => rw [e] at h; exact h
/-- what m leaves for k -/
structure Mid (G : Gx) (B : Bs) (W : WX) {α β γ δ : Type} (P : Hp → α → β → Prop) (P2 : Hp → γ → δ → Prop) (k : α → EM γ) (F : Hp) (σ : L2.St) (Q : δ → Hp → Prop) (b : β) (H1 : Hp) : Prop where
  ex : ∃ x F1 ρ1, Same F F1 ∧ R G B F1 ρ1 σ H1 ∧ P F1 x b ∧ cX G B W P2 (k x) F1 ρ1 σ Q
theorem cX.bind {k : α → EM γ} {Q : δ → Hp → Prop} (h : cX G B W P2 (m.bind k) F ρ σ Q) : cX G B W P m F ρ σ (Mid G B W P P2 k F σ Q) := by
  unfold cX EM.bind at h
  unfold cX
  cases e : m ρ with
  | ok x ρ' =>
    rw [e] at h
    exact fun b F' H' s r p => ⟨x, F', ρ', s, r, p, cX.weak s h⟩
  | ex c xs ρ' => rw [e] at h; exact h
  | st => rw [e] at h; exact h
theorem tX.of {Q : β → Hp → Prop} (r : R G B F ρ σ H) (h : cX G B W P m F ρ σ Q) : tX G B W P m σ H Q := ⟨F, ρ, r, h⟩
theorem cX.lift {o : Option α} {Q : β → Hp → Prop} (h : cX G B W P (EM.lift o) F ρ σ Q) : ∃ x, o = some x ∧ ∀ b F' H', Same F F' → R G B F' ρ σ H' → P F' x b → Q b H' := by
  unfold cX EM.lift at h
  cases o with
  | none => exact h.elim
  | some x => exact ⟨x, rfl, h⟩
theorem cX.ret {x : α} {Q : β → Hp → Prop} (h : cX G B W P (EM.ret x) F ρ σ Q) : ∀ b F' H', Same F F' → R G B F' ρ σ H' → P F' x b → Q b H' := h
end
end DL

namespace DL
open PySem PySem.Spec PyProof.Rows L2 NdefX

/-- what a rule wants of where it stands -/
structure Cn (X : Cx) (G : Gx) (W : WX) : Prop where
  k : G.K = X.K
  tk : Takes X W

section
variable {X : Cx} {G : Gx} {B : Bs} {W : WX} {a b e o : Expr} {pos pos' : Pos} {α β γ δ : Type}

abbrev DE (X : Cx) (G : Gx) (B : Bs) (W : WX) (e : Expr) (f : EM D) : Prop := PE X e (tX G B W (PD G) f)
abbrev DT (X : Cx) (G : Gx) (B : Bs) (W : WX) (e : Expr) (f : EM Bool) : Prop := PT X e (tX G B W PB f)
abbrev DW (X : Cx) (G : Gx) (B : Bs) (W : WX) (e : Expr) (f : EM Bool) : Prop := PW X e (tX G B W PB f)
abbrev DA (X : Cx) (G : Gx) (B : Bs) (W : WX) (es : List Expr) (f : EM (List D)) : Prop := PA X es (tX G B W (PL G) f)

theorem pe_weak {t t' : TE} (h : PE X e t) (i : ∀ σ H Q, t' σ H Q → t σ H Q) : PE X e t' := ⟨fun pins s σ H Q I hq => h.run pins s σ H Q I (i σ H Q hq)⟩
theorem pt_weak {t t' : TT} (h : PT X e t) (i : ∀ σ H Q, t' σ H Q → t σ H Q) : PT X e t' := ⟨fun pins s σ H Q I hq => h.run pins s σ H Q I (i σ H Q hq)⟩
theorem pw_weak {t t' : TT} (h : PW X e t) (i : ∀ σ H Q, t' σ H Q → t σ H Q) : PW X e t' := ⟨fun whole pins s σ H Q I hq => h.run whole pins s σ H Q I (i σ H Q hq)⟩
theorem pa_weak {es : List Expr} {t t' : TA} (h : PA X es t) (i : ∀ σ H Q, t' σ H Q → t σ H Q) : PA X es t' := ⟨fun pos pins s σ H Q I hq => h.run pos pins s σ H Q I (i σ H Q hq)⟩
theorem ps_weak {st : Stmt} {t t' : TS} (h : PS X st t) (i : ∀ D σ H, t' D σ H → t D σ H) : PS X st t' := ⟨fun pins s σ H D I hq => h.run pins s σ H D I (i D σ H hq)⟩
theorem pss_weak {st : List Stmt} {t t' : TS} (h : PSs X st t) (i : ∀ D σ H, t' D σ H → t D σ H) : PSs X st t' := ⟨fun pins s σ H D I hq => h.run pins s σ H D I (i D σ H hq)⟩

/-! ### names, constants -/
def dVar (i : Nat) : EM D := fun r => match r[i]? with
  | some (.d x) => .ok x r
  | some (.own xs) => .ok (.lst xs) (r.set i (.d (.lst xs)))
  | _ => .st
theorem de_var (i : Nat) {x : Str} (hN : X.N[i]? = some x := by rfl) (hv : Vis X.env.scope x := by first | exact Or.inl rfl | exact Or.inr (Or.inl rfl) | exact Or.inr (Or.inr rfl)) (hd : (x == ("__debug__" : Str)) = false := by decide)
    (hcd : (x == ("__classdict__" : Str)) = false := by decide) : DE X G B W (.Name x pos) (dVar i) := by
  refine pe_weak (pe_var hN hv hd hcd) fun σ H Q ⟨F, ρ, hR, h⟩ => ?_
  unfold cX dVar at h
  cases e : ρ[i]? with
  | none => rw [e] at h; exact h.elim
  | some sl =>
    rw [e] at h
    cases sl with
    | un => exact h.elim
    | d x =>
      obtain ⟨v, e1, q⟩ := hR.dat i x e
      exact ⟨v, e1, h v F H (Same.refl F) hR q⟩
    | own xs =>
      obtain ⟨a, vs, e1, _⟩ := hR.own i xs e
      obtain ⟨vs', h1, s1, r1, q1⟩ := hR.freeze e e1
      exact ⟨_, e1, h _ _ H s1 r1 q1⟩
def dC (x : D) : EM D := fun r => .ok x r
theorem de_const {v : V} {x : D} (h : PE X e (tC v)) (q : ∀ F, Den G F x v) : DE X G B W e (dC x) :=
  pe_weak h fun σ H Q ⟨F, ρ, hR, hc⟩ => hc v F H (Same.refl F) hR (q F)
theorem de_int {i j} : DE X G B W (.Constant (.int i) j pos) (dC (.int i)) := de_const pe_int fun _ => .int
theorem de_bl {b j} : DE X G B W (.Constant (.bool b) j pos) (dC (.bl b)) := de_const pe_bl fun _ => .bl
theorem de_non {j} : DE X G B W (.Constant .none j pos) (dC .non) := de_const pe_non fun _ => .non
theorem de_str {z : Str} {j} (s : List Nat) (h : z = mkStr s := by rfl) : DE X G B W (.Constant (.str z) j pos) (dC (.str s)) := by
  subst h; exact de_const pe_str fun _ => .str
theorem de_glob {x : Str} {v : V} {u : Value} {d : D} (hg : Gl X x) (hm : X.mg x = some u) (r : RelV v u) (q : ∀ F, Den G F d v) (hd : (x == ("__debug__" : Str)) = false := by decide) : DE X G B W (.Name x pos) (dC d) := de_const (pe_glob hg hm r hd) q
theorem de_globI {x : Str} {i : Int} (hm : ∃ t, X.mg x = some (.int i t)) (hg : Gl X x := by rfl) (hd : (x == ("__debug__" : Str)) = false := by decide) : DE X G B W (.Name x pos) (dC (.int i)) := by
  obtain ⟨t, hm⟩ := hm
  exact de_glob (v := .int i) hg hm ⟨t, rfl⟩ (fun _ => .int) hd
theorem de_globS {x : Str} {z : Str} (s : List Nat) (hm : ∃ t, X.mg x = some (.str z t)) (hz : z = mkStr s := by rfl) (hg : Gl X x := by rfl) (hd : (x == ("__debug__" : Str)) = false := by decide) : DE X G B W (.Name x pos) (dC (.str s)) := by
  obtain ⟨t, hm⟩ := hm
  subst hz
  exact de_glob (v := .str (mkStr s)) hg hm ⟨t, rfl⟩ (fun _ => .str) hd
theorem de_globR {x : Str} {a : Addr} {d : D} (hm : X.mg x = some (.ref a)) (q : ∀ F, Den G F d (.ref a)) (hg : Gl X x := by rfl) (hd : (x == ("__debug__" : Str)) = false := by decide) : DE X G B W (.Name x pos) (dC d) :=
  de_glob (v := .ref a) hg hm rfl q hd
theorem de_bltT {x : Str} {T : String} (hm : X.mg x = none) (hv : bootBuiltins x = some (.type T) := by decide +kernel) (hg : Gl X x := by rfl) (hn : x ≠ "__name__" := by decide) (hd : (x == ("__debug__" : Str)) = false := by decide) : DE X G B W (.Name x pos) (dC (.ty T)) :=
  de_const (pe_bltn (v := .ty T) hg hm hv rfl hn hd) fun _ => .ty

/-! ### operators -/
def dOp (op : D → D → Option D) (f g : EM D) : EM D := f.bind fun x => g.bind fun y => EM.lift (op x y)
def rD (G : Gx) (B : Bs) (op : D → D → Option D) : R2 := fun x y H Q => ∃ F ρ σ dx dy d, R G B F ρ σ H ∧ Den G F dx x ∧ Den G F dy y ∧ op dx dy = some d ∧ ∀ v F' H', Same F F' → R G B F' ρ σ H' → Den G F' d v → Q v H'
abbrev OpD (X : Cx) (G : Gx) (B : Bs) (fn : Value → Value → Sem Value) (op : D → D → Option D) : Prop := OpR X fn (rD G B op)
theorem opD_of {fn : Value → Value → Sem Value} {r : R2} {op : D → D → Option D} (h : OpR X fn r) (i : ∀ x y H Q, rD G B op x y H Q → r x y H Q) : OpD X G B fn op := fun pins s σ H x y v u Q I rx ry q => h pins s σ H x y v u Q I rx ry (i _ _ _ _ q)
theorem read_op {op : D → D → Option D} {f g : EM D} {σ : L2.St} {H : Hp} {Q : VK} (h : tX G B W (PD G) (dOp op f g) σ H Q) : tOp (rD G B op) (tX G B W (PD G) f) (tX G B W (PD G) g) σ H Q := by
  obtain ⟨F, ρ, hR, h⟩ := h
  refine ⟨F, ρ, hR, (cX.bind h).imp fun x H1 ⟨dx, F1, ρ1, s1, r1, p1, h1⟩ => ?_⟩
  refine ⟨F1, ρ1, r1, (cX.bind h1).imp fun y H2 ⟨dy, F2, ρ2, s2, r2, p2, h2⟩ => ?_⟩
  obtain ⟨d, e, k⟩ := cX.lift h2
  exact ⟨F2, ρ2, σ, dx, dy, d, r2, Den.mono s2 dx p1, p2, e, k⟩
theorem de_op {op : Operator} {o2 : D → D → Option D} {f g : EM D} (ho : OpD X G B (binaryOp op) o2) (ha : DE X G B W a f) (hb : DE X G B W b g) : DE X G B W (.BinOp a op b pos) (dOp o2 f g) :=
  pe_weak (pe_op ho ha hb) fun _ _ _ h => read_op h
/-- a comparison -/
theorem de_cmp {op : CmpOp} {o2 : D → D → Option D} {f g : EM D} (ho : OpD X G B (compareOp op) o2) (ha : DE X G B W a f) (hb : DE X G B W b g) (hm : behindInMarks op b = false := by first | exact nomark _ | rfl) : DE X G B W (.Compare a [op] [b] pos) (dOp o2 f g) :=
  pe_weak (pe_cmpR ho ha hb hm) fun _ _ _ h => read_op h
/-- an expression that gives a truth, as a test -/
def dTest (f : EM D) : EM Bool := f.bind fun x => EM.lift (match x with | .bl k => some k | _ => none)
theorem tX_test {f : EM D} {σ : L2.St} {H : Hp} {Q : Bool → Hp → Prop} (h : tX G B W PB (dTest f) σ H Q) : tX G B W (PD G) f σ H fun x H1 => ∃ k, x = .bl k ∧ Q k H1 := by
  obtain ⟨F, ρ, hR, h⟩ := h
  refine ⟨F, ρ, hR, (cX.bind h).imp fun x H1 ⟨dx, F1, ρ1, s1, r1, p1, h1⟩ => ?_⟩
  obtain ⟨k, e, q⟩ := cX.lift h1
  cases dx with
  | bl k' =>
    cases e
    exact ⟨k, Den.bl_inv p1, q k F1 H1 (Same.refl _) r1 rfl⟩
  | _ => cases e
theorem dt_cmp {op : CmpOp} {o2 : D → D → Option D} {f g : EM D} (ho : OpD X G B (compareOp op) o2) (ha : DE X G B W a f) (hb : DE X G B W b g) (hm : behindInMarks op b = false := by first | exact nomark _ | rfl) : DT X G B W (.Compare a [op] [b] pos) (dTest (dOp o2 f g)) :=
  pt_weak (pt_cmpR ho ha hb hm) fun σ H Q h => by
    obtain ⟨F, ρ, hR, h⟩ := tX_test h
    exact read_op ⟨F, ρ, hR, h⟩
theorem dt_val {f : EM D} (h : DE X G B W e f) (he : ∀ whole, isTrue e X.env whole = (do let v ← whole; standAt e.pos; holding [v] (truthy v)) := by intro _; rfl) : DT X G B W e (dTest f) :=
  pt_weak (pt_val h he) fun σ H Q h => tX_test h
def dUn (op : D → Option D) (f : EM D) : EM D := f.bind fun x => EM.lift (op x)

/-! ### the operators on data -/
def dAdd : D → D → Option D
  | .int i, .int j => some (.int (i + j))
  | .str s, .str t => if s.length + t.length ≤ 16777216 then some (.str (s ++ t)) else none
  | .tup s, .tup t => if s.length + t.length ≤ 16777216 then some (.tup (s ++ t)) else none
  | _, _ => none
def dSub : D → D → Option D
  | .int i, .int j => some (.int (i - j))
  | _, _ => none
def dMul : D → D → Option D
  | .int i, .int j => if i.natAbs.log2 + j.natAbs.log2 < 1000000 then some (.int (i * j)) else none
  | _, _ => none
def dFdiv : D → D → Option D
  | .int i, .int j => if 0 < j ∧ j.natAbs.log2 < 9000 then some (.int (i / j)) else if j ≠ 0 ∧ j.natAbs < 1073741824 then some (.int (i.fdiv j)) else none
  | _, _ => none
def dMod : D → D → Option D
  | .int i, .int j => if 0 < j then some (.int (i % j)) else if j ≠ 0 then some (.int (i.fmod j)) else none
  | _, _ => none
def dPow : D → D → Option D
  | .int i, .int j => if 0 ≤ j ∧ (Builtin.Int.intBits i : Int) * j ≤ 134217728 then some (.int (i ^ j.toNat)) else none
  | _, _ => none
def dAnd1 : D → D → Option D
  | .int i, .int j => some (.int (Builtin.bitAnd i j))
  | _, _ => none
def dShr : D → D → Option D
  | .int i, .int j => if 0 ≤ j then some (.int (i / 2 ^ j.toNat)) else none
  | _, _ => none
theorem line_eq : (16777216 : Nat) = sizeLine := by rw [sizeLine_eq]
theorem mk_len (s : List Nat) : (mkStr s).length = s.length := by show s.toArray.size = _; simp
theorem mk_app (s t : List Nat) : mkStr s ++ mkStr t = mkStr (s ++ t) := by
  show (⟨s.toArray ++ t.toArray⟩ : Str) = _
  simp
theorem od_add (hk : G.K = X.K) : OpD X G B (binaryOp .Add) dAdd := by
  refine opD_of (OpR.or op_add (OpR.or op_add_str op_catA)) fun x y H Q ⟨F, ρ, σ, dx, dy, d, hR, p1, p2, e, k⟩ => ?_
  unfold dAdd at e
  split at e
  · cases e
    exact .inl ⟨_, _, p1.int_inv, p2.int_inv, k _ F H (Same.refl F) hR .int⟩
  · rename_i s t
    split at e
    · rename_i hl
      cases e
      refine .inr (.inl ⟨_, _, p1.str_inv, p2.str_inv, by rw [mk_len, mk_len, ← line_eq]; exact hl, ?_⟩)
      rw [mk_app]
      exact k _ F H (Same.refl F) hR .str
    · cases e
  · rename_i s t
    split at e
    · rename_i hl
      cases e
      obtain ⟨a, vs, e1, q1, r1⟩ := p1.tup_inv
      obtain ⟨b, ws, e2, q2, r2⟩ := p2.tup_inv
      have z1 := r1.length
      have z2 := r2.length
      refine .inr (.inr ⟨a, b, vs, ws, e1, e2, hk ▸ SqT.mono hR.sub q1, hk ▸ SqT.mono hR.sub q2, by rw [z1, z2, ← line_eq]; exact hl, fun n1 => ?_, fun n1 n2 => ?_, fun n1 n2 p hp => ?_⟩)
      · subst n1
        have : s = [] := List.length_eq_zero_iff.mp (by rw [← z1]; rfl)
        subst this
        exact k _ F H (Same.refl F) hR (.tup q2 r2)
      · subst n2
        have : t = [] := List.length_eq_zero_iff.mp (by rw [← z2]; rfl)
        subst this
        exact k _ F H (Same.refl F) hR (.tup q1 (by rw [List.append_nil]; exact r1))
      · obtain ⟨r', s'⟩ := hR.new (o := .tup (vs ++ ws)) hp (by intro ps z; cases z)
        exact k _ _ _ s' r' (.tup (.of upd_same) (Dens.mono s' _ (r1.append r2)))
    · cases e
  · cases e
/-- an operator on two ints -/
theorem od_int {fn : Value → Value → Sem Value} {C : Int → Int → Prop} {g : Int → Int → V} {op : D → D → Option D} (h : OpR X fn (rI C g)) (hop : ∀ dx dy d, op dx dy = some d → ∃ i j, dx = .int i ∧ dy = .int j ∧ C i j ∧ ∀ F, Den G F d (g i j)) : OpD X G B fn op :=
  opD_of h fun x y H Q ⟨F, ρ, σ, dx, dy, d, hR, p1, p2, e, k⟩ => by
    obtain ⟨i, j, rfl, rfl, c, q⟩ := hop dx dy d e
    exact ⟨i, j, p1.int_inv, p2.int_inv, c, k _ F H (Same.refl F) hR (q F)⟩
theorem od_int0 {fn : Value → Value → Sem Value} {g : Int → Int → V} {op : D → D → Option D} (h : OpR X fn (rI0 g)) (hop : ∀ dx dy d, op dx dy = some d → ∃ i j, dx = .int i ∧ dy = .int j ∧ ∀ F, Den G F d (g i j)) : OpD X G B fn op :=
  opD_of h fun x y H Q ⟨F, ρ, σ, dx, dy, d, hR, p1, p2, e, k⟩ => by
    obtain ⟨i, j, rfl, rfl, q⟩ := hop dx dy d e
    exact ⟨i, j, p1.int_inv, p2.int_inv, k _ F H (Same.refl F) hR (q F)⟩
theorem od_sub : OpD X G B (binaryOp .Sub) dSub := od_int0 op_sub fun dx dy d e => by
  unfold dSub at e
  split at e
  · cases e; exact ⟨_, _, rfl, rfl, fun _ => .int⟩
  · cases e
theorem od_mul : OpD X G B (binaryOp .Mult) dMul := od_int op_mulW fun dx dy d e => by
  unfold dMul at e
  split at e
  · split at e
    · rename_i h; cases e; exact ⟨_, _, rfl, rfl, h, fun _ => .int⟩
    · cases e
  · cases e
theorem od_mod : OpD X G B (binaryOp .Mod) dMod := by
  refine opD_of (OpR.or op_mod op_modN) fun x y H Q ⟨F, ρ, σ, dx, dy, d, hR, p1, p2, e, k⟩ => ?_
  unfold dMod at e
  split at e
  · split at e
    · rename_i h; cases e; exact .inl ⟨_, _, p1.int_inv, p2.int_inv, h, k _ F H (Same.refl F) hR .int⟩
    · split at e
      · rename_i h; cases e; exact .inr ⟨_, _, p1.int_inv, p2.int_inv, h, k _ F H (Same.refl F) hR .int⟩
      · cases e
  · cases e
theorem od_fdiv : OpD X G B (binaryOp .FloorDiv) dFdiv := by
  refine opD_of (OpR.or op_fdivW op_fdivN) fun x y H Q ⟨F, ρ, σ, dx, dy, d, hR, p1, p2, e, k⟩ => ?_
  unfold dFdiv at e
  split at e
  · split at e
    · rename_i h; cases e; exact .inl ⟨_, _, p1.int_inv, p2.int_inv, h, k _ F H (Same.refl F) hR .int⟩
    · split at e
      · rename_i h; cases e; exact .inr ⟨_, _, p1.int_inv, p2.int_inv, h, k _ F H (Same.refl F) hR .int⟩
      · cases e
  · cases e
theorem op_powB : OpR X (binaryOp .Pow) (rI (fun i j => 0 ≤ j ∧ (Builtin.Int.intBits i : Int) * j ≤ 2 ^ 27) fun i j => .int (i ^ j.toNat)) := opI fun _ _ _ _ _ _ _ hc q => pow_int hc.1 hc.2 q
theorem od_pow : OpD X G B (binaryOp .Pow) dPow := od_int op_powB fun dx dy d e => by
  unfold dPow at e
  split at e
  · split at e
    · rename_i h; cases e; exact ⟨_, _, rfl, rfl, h, fun _ => .int⟩
    · cases e
  · cases e
theorem od_and : OpD X G B (binaryOp .BitAnd) dAnd1 := od_int0 op_and fun dx dy d e => by
  unfold dAnd1 at e
  split at e
  · cases e; exact ⟨_, _, rfl, rfl, fun _ => .int⟩
  · cases e
theorem od_shr : OpD X G B (binaryOp .RShift) dShr := od_int op_shr fun dx dy d e => by
  unfold dShr at e
  split at e
  · split at e
    · rename_i h; cases e; exact ⟨_, _, rfl, rfl, h, fun _ => .int⟩
    · cases e
  · cases e
def dLt : D → D → Option D
  | .int i, .int j => some (.bl (decide (i < j)))
  | _, _ => none
def dLe : D → D → Option D
  | .int i, .int j => some (.bl (decide (i ≤ j)))
  | _, _ => none
def dGt : D → D → Option D
  | .int i, .int j => some (.bl (decide (j < i)))
  | _, _ => none
def dGe : D → D → Option D
  | .int i, .int j => some (.bl (decide (j ≤ i)))
  | _, _ => none
theorem od_lt : OpD X G B (compareOp .Lt) dLt := od_int0 op_lt fun dx dy d e => by
  unfold dLt at e
  split at e
  · cases e; exact ⟨_, _, rfl, rfl, fun _ => .bl⟩
  · cases e
theorem od_le : OpD X G B (compareOp .LtE) dLe := od_int0 op_le fun dx dy d e => by
  unfold dLe at e
  split at e
  · cases e; exact ⟨_, _, rfl, rfl, fun _ => .bl⟩
  · cases e
theorem od_gt : OpD X G B (compareOp .Gt) dGt := od_int0 op_gt fun dx dy d e => by
  unfold dGt at e
  split at e
  · cases e; exact ⟨_, _, rfl, rfl, fun _ => .bl⟩
  · cases e
theorem od_ge : OpD X G B (compareOp .GtE) dGe := od_int0 op_ge fun dx dy d e => by
  unfold dGe at e
  split at e
  · cases e; exact ⟨_, _, rfl, rfl, fun _ => .bl⟩
  · cases e

/-! ### == -/
mutual
def toPy : D → Option PyData
  | .non => some .none
  | .bl b => some (.bool b)
  | .int i => some (.int i)
  | .str s => some (.str (mkStr s))
  | .tup ds => (toPys ds).map .tuple
  | .lst ds => (toPys ds).map .list
  | _ => none
def toPys : List D → Option (List PyData)
  | [] => some []
  | d :: ds => match toPy d, toPys ds with
    | some x, some xs => some (x :: xs)
    | _, _ => none
end
mutual
theorem toPy_dp {G : Gx} {F H : Hp} (s : Same F H) : ∀ (d : D) {v : V} {x : PyData}, toPy d = some x → Den G F d v → Dp G.K H v x
  | .non, v, x, e, h => by simp only [toPy, Option.some.injEq] at e; subst e; rw [h.non_inv]; exact .non
  | .bl b, v, x, e, h => by simp only [toPy, Option.some.injEq] at e; subst e; rw [h.bl_inv]; exact .bl b
  | .int i, v, x, e, h => by simp only [toPy, Option.some.injEq] at e; subst e; rw [h.int_inv]; exact .int i
  | .str z, v, x, e, h => by simp only [toPy, Option.some.injEq] at e; subst e; rw [h.str_inv]; exact .str _
  | .tup ds, v, x, e, h => by
    simp only [toPy, Option.map_eq_some_iff] at e
    obtain ⟨xs, e, rfl⟩ := e
    obtain ⟨a, vs, rfl, q, r⟩ := h.tup_inv
    exact .tup (SqT.mono s q) (toPys_dp s ds e r)
  | .lst ds, v, x, e, h => by
    simp only [toPy, Option.map_eq_some_iff] at e
    obtain ⟨xs, e, rfl⟩ := e
    obtain ⟨a, vs, rfl, q, r⟩ := h.lst_inv
    exact .lst (s.seq q) (toPys_dp s ds e r)
  | .obj _ _, _, _, e, _ => by simp only [toPy] at e; cases e
  | .clo _ _, _, _, e, _ => by simp only [toPy] at e; cases e
  | .ref _, _, _, e, _ => by simp only [toPy] at e; cases e
  | .ty _, _, _, e, _ => by simp only [toPy] at e; cases e
theorem toPys_dp {G : Gx} {F H : Hp} (s : Same F H) : ∀ (ds : List D) {vs : List V} {xs : List PyData}, toPys ds = some xs → Dens G F ds vs → DpAll G.K H vs xs
  | [], vs, xs, e, h => by simp only [toPys, Option.some.injEq] at e; subst e; rw [h.inv_nil]; exact .nil
  | d :: ds, vs, xs, e, h => by
    obtain ⟨v, r, rfl, q, t⟩ := h.inv
    simp only [toPys] at e
    split at e
    · rename_i x ys e1 e2
      cases e
      exact .cons (toPy_dp s d e1 q) (toPys_dp s ds e2 t)
    · cases e
end
mutual
/-- == of data -/
def beq : D → D → Bool
  | .non, .non => true
  | .bl a, .bl b => a == b
  | .bl a, .int j => decide ((if a then 1 else 0) = j)
  | .int i, .bl b => decide (i = (if b then 1 else 0))
  | .int a, .int b => decide (a = b)
  | .str a, .str b => decide (a = b)
  | .tup a, .tup b => beqs a b
  | .lst a, .lst b => beqs a b
  | _, _ => false
def beqs : List D → List D → Bool
  | [], [] => true
  | x :: xs, y :: ys => beq x y && beqs xs ys
  | _, _ => false
end
mutual
/-- what == may look at, within n -/
def okD : Nat → D → Bool
  | _, .non => true
  | _, .bl _ => true
  | _, .int _ => true
  | _, .str s => PyData.strOk (mkStr s)
  | n + 1, .tup ds => okDs n ds
  | n + 1, .lst ds => okDs n ds
  | _, _ => false
def okDs : Nat → List D → Bool
  | _, [] => true
  | n, d :: ds => okD n d && okDs n ds
end
mutual
theorem ok_py : ∀ (n : Nat) (d : D), okD n d = true → ∃ x, toPy d = some x ∧ x.canLay0 = true ∧ x.depth ≤ n
  | n, .non, _ => ⟨.none, by simp only [toPy], rfl, Nat.zero_le _⟩
  | n, .bl b, _ => ⟨.bool b, by simp only [toPy], rfl, Nat.zero_le _⟩
  | n, .int b, _ => ⟨.int b, by simp only [toPy], rfl, Nat.zero_le _⟩
  | n, .str s, h => ⟨.str (mkStr s), by simp only [toPy], by simp only [PyData.canLay0]; simpa only [okD] using h, Nat.zero_le _⟩
  | 0, .tup ds, h => by simp only [okD] at h; cases h
  | n + 1, .tup ds, h => by
    simp only [okD] at h
    obtain ⟨xs, e, c, d⟩ := oks_py n ds h
    exact ⟨.tuple xs, by simp only [toPy, e, Option.map_some], by simpa only [PyData.canLay0] using c, by simp only [PyData.depth]; omega⟩
  | 0, .lst ds, h => by simp only [okD] at h; cases h
  | n + 1, .lst ds, h => by
    simp only [okD] at h
    obtain ⟨xs, e, c, d⟩ := oks_py n ds h
    exact ⟨.list xs, by simp only [toPy, e, Option.map_some], by simpa only [PyData.canLay0] using c, by simp only [PyData.depth]; omega⟩
  | n, .obj _ _, h => by cases n <;> (simp only [okD] at h; cases h)
  | n, .clo _ _, h => by cases n <;> (simp only [okD] at h; cases h)
  | n, .ref _, h => by cases n <;> (simp only [okD] at h; cases h)
  | n, .ty _, h => by cases n <;> (simp only [okD] at h; cases h)
theorem oks_py : ∀ (n : Nat) (ds : List D), okDs n ds = true → ∃ xs, toPys ds = some xs ∧ PyData.canLayAll0 xs = true ∧ PyData.depthAll xs ≤ n
  | n, [], _ => ⟨[], by simp only [toPys], rfl, Nat.zero_le _⟩
  | n, d :: ds, h => by
    simp only [okDs, Bool.and_eq_true] at h
    obtain ⟨x, e1, c1, d1⟩ := ok_py n d h.1
    obtain ⟨xs, e2, c2, d2⟩ := oks_py n ds h.2
    exact ⟨x :: xs, by simp only [toPys, e1, e2], by simp only [PyData.canLayAll0, c1, c2, Bool.and_self], by simp only [PyData.depthAll]; omega⟩
end
theorem mk_eq (a b : List Nat) : (mkStr a == mkStr b) = decide (a = b) := by
  by_cases h : a = b
  · subst h; simp
  · rw [decide_eq_false h, beq_eq_false_iff_ne]
    intro z
    injection z with z
    exact h (by simpa using congrArg Array.toList z)
mutual
theorem eqv_beq : ∀ (d e : D) {x y : PyData}, toPy d = some x → toPy e = some y → PyData.eqv x y = beq d e
  | d, e, x, y, h1, h2 => by
    cases d <;> simp only [toPy, Option.map_eq_some_iff, Option.some.injEq, reduceCtorEq] at h1 <;> cases e <;> simp only [toPy, Option.map_eq_some_iff, Option.some.injEq, reduceCtorEq] at h2 <;>
      first
        | (obtain ⟨xs, e1, rfl⟩ := h1; obtain ⟨ys, e2, rfl⟩ := h2; first | (simp only [PyData.eqv, beq]; exact eqvs_beqs _ _ e1 e2) | (simp only [PyData.eqv, beq]; done))
        | (obtain ⟨xs, e1, rfl⟩ := h1; subst h2; simp only [PyData.eqv, beq]; done)
        | (obtain ⟨ys, e2, rfl⟩ := h2; subst h1; simp only [PyData.eqv, beq]; done)
        | (subst h1; subst h2; simp only [PyData.eqv, beq]; first | done | rfl | exact mk_eq _ _ | exact Bool.beq_eq_decide_eq _ _)
theorem eqvs_beqs : ∀ (ds es : List D) {xs ys : List PyData}, toPys ds = some xs → toPys es = some ys → PyData.eqvAll xs ys = beqs ds es
  | [], [], xs, ys, h1, h2 => by
    simp only [toPys, Option.some.injEq] at h1 h2; subst h1; subst h2; simp only [PyData.eqvAll, beqs]
  | [], e :: es, xs, ys, h1, h2 => by
    simp only [toPys, Option.some.injEq] at h1; subst h1
    simp only [toPys] at h2
    split at h2
    · cases h2; simp only [PyData.eqvAll, beqs]
    · cases h2
  | d :: ds, [], xs, ys, h1, h2 => by
    simp only [toPys, Option.some.injEq] at h2; subst h2
    simp only [toPys] at h1
    split at h1
    · cases h1; simp only [PyData.eqvAll, beqs]
    · cases h1
  | d :: ds, e :: es, xs, ys, h1, h2 => by
    simp only [toPys] at h1 h2
    split at h1
    · rename_i x1 xs1 a1 a2
      cases h1
      split at h2
      · rename_i y1 ys1 b1 b2
        cases h2
        simp only [PyData.eqvAll, beqs, eqv_beq d e a1 b1, eqvs_beqs ds es a2 b2]
      · cases h2
    · cases h1
end
def dEq (x y : D) : Option D := if okD 64 x && okD 64 y then some (.bl (beq x y)) else none
def dNe (x y : D) : Option D := if okD 64 x && okD 64 y then some (.bl (!beq x y)) else none
theorem shaped_of {x : PyData} (h1 : x.canLay0 = true) (h2 : x.depth ≤ 64) : SeqAt.shaped x = true := by
  unfold SeqAt.shaped; rw [h1, decide_eq_true h2]; rfl
theorem od_eq (hk : G.K = X.K) (hu : X.A.units + 64 < cLine) : OpD X G B (compareOp .Eq) dEq := by
  refine opD_of (op_eqD hu) fun x y H Q ⟨F, ρ, σ, dx, dy, d, hR, p1, p2, e, k⟩ => ?_
  unfold dEq at e
  split at e
  · rename_i h
    cases e
    obtain ⟨h1, h2⟩ := Bool.and_eq_true_iff.mp h
    obtain ⟨u, e1, c1, d1⟩ := ok_py 64 dx h1
    obtain ⟨w, e2, c2, d2⟩ := ok_py 64 dy h2
    refine ⟨u, w, hk ▸ toPy_dp hR.sub dx e1 p1, hk ▸ toPy_dp hR.sub dy e2 p2, shaped_of c1 d1, shaped_of c2 d2, ?_⟩
    rw [eqv_beq dx dy e1 e2]
    exact k _ F H (Same.refl F) hR .bl
  · cases e
theorem od_ne (hk : G.K = X.K) (hu : X.A.units + 64 < cLine) : OpD X G B (compareOp .NotEq) dNe := by
  refine opD_of (op_neD hu) fun x y H Q ⟨F, ρ, σ, dx, dy, d, hR, p1, p2, e, k⟩ => ?_
  unfold dNe at e
  split at e
  · rename_i h
    cases e
    obtain ⟨h1, h2⟩ := Bool.and_eq_true_iff.mp h
    obtain ⟨u, e1, c1, d1⟩ := ok_py 64 dx h1
    obtain ⟨w, e2, c2, d2⟩ := ok_py 64 dy h2
    refine ⟨u, w, hk ▸ toPy_dp hR.sub dx e1 p1, hk ▸ toPy_dp hR.sub dy e2 p2, shaped_of c1 d1, shaped_of c2 d2, ?_⟩
    rw [eqv_beq dx dy e1 e2]
    exact k _ F H (Same.refl F) hR .bl
  · cases e
end
end DL

namespace DL
open PySem PySem.Spec PyProof.Rows L2 NdefX
section
variable {X : Cx} {G : Gx} {B : Bs} {W : WX} {a b c e o : Expr} {es rest : List Expr} {pos pos' : Pos} {α β γ δ : Type}

/-! ### and, or, not, if else -/
def dNot (f : EM Bool) : EM Bool := f.bind fun k => EM.ret (!k)
def dAnd (f g : EM Bool) : EM Bool := f.bind fun k => if k = true then g else EM.ret false
def dOr (f g : EM Bool) : EM Bool := f.bind fun k => if k = true then EM.ret true else g
theorem dt_not {f : EM Bool} (h : DT X G B W a f) : DT X G B W (.UnaryOp .Not a pos) (dNot f) :=
  pt_weak (pt_not h) fun σ H Q ⟨F, ρ, hR, h⟩ => ⟨F, ρ, hR, (cX.bind h).imp fun k H1 ⟨x, F1, ρ1, s1, r1, p1, h1⟩ => by
    cases p1; exact cX.ret h1 _ F1 H1 (Same.refl _) r1 rfl⟩
theorem dw_and1 {f : EM Bool} (h : DT X G B W a f) : DW X G B W (.BoolOp .And [a] pos) f := pw_and1 h
theorem dw_or1 {f : EM Bool} (h : DT X G B W a f) : DW X G B W (.BoolOp .Or [a] pos) f := pw_or1 h
theorem dw_and {f g : EM Bool} (h : DT X G B W a f) (h' : DW X G B W (.BoolOp .And (b :: rest) pos) g) : DW X G B W (.BoolOp .And (a :: b :: rest) pos) (dAnd f g) :=
  pw_weak (pw_and h h') fun σ H Q ⟨F, ρ, hR, h⟩ => ⟨F, ρ, hR, (cX.bind h).imp fun k H1 ⟨x, F1, ρ1, s1, r1, p1, h1⟩ => by
    cases p1
    cases k with
    | true => exact iteT ⟨F1, ρ1, r1, h1⟩
    | false => exact iteF (cX.ret h1 _ F1 H1 (Same.refl _) r1 rfl)⟩
theorem dw_or {f g : EM Bool} (h : DT X G B W a f) (h' : DW X G B W (.BoolOp .Or (b :: rest) pos) g) : DW X G B W (.BoolOp .Or (a :: b :: rest) pos) (dOr f g) :=
  pw_weak (pw_or h h') fun σ H Q ⟨F, ρ, hR, h⟩ => ⟨F, ρ, hR, (cX.bind h).imp fun k H1 ⟨x, F1, ρ1, s1, r1, p1, h1⟩ => by
    cases p1
    cases k with
    | true => exact iteT (cX.ret h1 _ F1 H1 (Same.refl _) r1 rfl)
    | false => exact iteF ⟨F1, ρ1, r1, h1⟩⟩
theorem dw_pt {f : EM Bool} (h : DW X G B W e f) : DT X G B W e f := h.pt
/-- as values: truths -/
def dAndV (f g : EM D) : EM D := f.bind fun x => match x with
  | .bl true => g
  | .bl false => EM.ret (.bl false)
  | _ => fun _ => .st
def dOrV (f g : EM D) : EM D := f.bind fun x => match x with
  | .bl true => EM.ret (.bl true)
  | .bl false => g
  | _ => fun _ => .st
def dNotV (f : EM D) : EM D := f.bind fun x => EM.lift (match x with | .bl k => some (.bl (!k)) | _ => none)
theorem de_one {op} {f : EM D} (h : DE X G B W a f) : DE X G B W (.BoolOp op [a] pos) f := pe_one h
theorem de_and {f g : EM D} (h : DE X G B W a f) (h' : DE X G B W (.BoolOp .And (b :: rest) pos) g) : DE X G B W (.BoolOp .And (a :: b :: rest) pos) (dAndV f g) :=
  pe_weak (pe_and h h') fun σ H Q ⟨F, ρ, hR, h⟩ => ⟨F, ρ, hR, (cX.bind h).imp fun v H1 ⟨x, F1, ρ1, s1, r1, p1, h1⟩ => by
    cases x with
    | bl k =>
      refine ⟨k, p1.bl_inv, ?_⟩
      cases k with
      | true => exact iteT ⟨F1, ρ1, r1, h1⟩
      | false => exact iteF (cX.ret h1 _ F1 H1 (Same.refl _) r1 .bl)
    | _ => exact h1.elim⟩
theorem de_or {f g : EM D} (h : DE X G B W a f) (h' : DE X G B W (.BoolOp .Or (b :: rest) pos) g) : DE X G B W (.BoolOp .Or (a :: b :: rest) pos) (dOrV f g) :=
  pe_weak (pe_or h h') fun σ H Q ⟨F, ρ, hR, h⟩ => ⟨F, ρ, hR, (cX.bind h).imp fun v H1 ⟨x, F1, ρ1, s1, r1, p1, h1⟩ => by
    cases x with
    | bl k =>
      refine ⟨k, p1.bl_inv, ?_⟩
      cases k with
      | true => exact iteT (cX.ret h1 _ F1 H1 (Same.refl _) r1 .bl)
      | false => exact iteF ⟨F1, ρ1, r1, h1⟩
    | _ => exact h1.elim⟩
theorem de_not {f : EM D} (h : DE X G B W a f) : DE X G B W (.UnaryOp .Not a pos) (dNotV f) :=
  pe_weak (pe_not h) fun σ H Q ⟨F, ρ, hR, h⟩ => ⟨F, ρ, hR, (cX.bind h).imp fun v H1 ⟨x, F1, ρ1, s1, r1, p1, h1⟩ => by
    obtain ⟨y, e, q⟩ := cX.lift h1
    cases x with
    | bl k => cases e; exact ⟨k, p1.bl_inv, q _ F1 H1 (Same.refl _) r1 .bl⟩
    | _ => cases e⟩
def dIf {α : Type} (t : EM Bool) (f g : EM α) : EM α := t.bind fun k => if k = true then f else g
theorem de_if {t : EM Bool} {f g : EM D} (h : DT X G B W c t) (ha : DE X G B W a f) (hb : DE X G B W b g) : DE X G B W (.IfExp c a b pos) (dIf t f g) :=
  pe_weak (pe_ifExp h ha hb) fun σ H Q ⟨F, ρ, hR, h⟩ => ⟨F, ρ, hR, (cX.bind h).imp fun k H1 ⟨x, F1, ρ1, s1, r1, p1, h1⟩ => by
    cases p1
    cases k with
    | true => exact iteT ⟨F1, ρ1, r1, h1⟩
    | false => exact iteF ⟨F1, ρ1, r1, h1⟩⟩
/-- is None -/
def isNon : D → Bool
  | .non => true
  | _ => false
theorem den_non_iff {F : Hp} : ∀ {x : D} {v : V}, Den G F x v → decide (v = .non) = isNon x
  | .non, v, p => by rw [p.non_inv]; rfl
  | .bl _, v, p => by rw [p.bl_inv]; rfl
  | .int _, v, p => by rw [p.int_inv]; rfl
  | .str _, v, p => by rw [p.str_inv]; rfl
  | .tup _, v, p => by obtain ⟨a, vs, e, _⟩ := p.tup_inv; rw [e]; rfl
  | .lst _, v, p => by obtain ⟨a, vs, e, _⟩ := p.lst_inv; rw [e]; rfl
  | .obj _ _, v, p => by simp only [Den] at p; obtain ⟨a, dx, vs, e, _⟩ := p; rw [e]; rfl
  | .clo _ _, v, p => by simp only [Den] at p; obtain ⟨a, _, _, _, e, _⟩ := p; rw [e]; rfl
  | .ref _, v, p => by rw [p.ref_inv]; rfl
  | .ty _, v, p => by rw [p.ty_inv]; rfl
def dIs (f : EM D) (neg : Bool) : EM D := f.bind fun x => EM.ret (.bl (if neg then !isNon x else isNon x))
theorem de_isN {j} {f : EM D} (h : DE X G B W a f) : DE X G B W (.Compare a [.Is] [.Constant .none j pos'] pos) (dIs f false) :=
  pe_weak (pe_cmp (pc_isN h) rfl) fun σ H Q ⟨F, ρ, hR, h⟩ => ⟨F, ρ, hR, (cX.bind h).imp fun v H1 ⟨x, F1, ρ1, s1, r1, p1, h1⟩ => by
    rw [den_non_iff p1]
    exact cX.ret h1 _ F1 H1 (Same.refl _) r1 .bl⟩
theorem de_notN {j} {f : EM D} (h : DE X G B W a f) : DE X G B W (.Compare a [.IsNot] [.Constant .none j pos'] pos) (dIs f true) :=
  pe_weak (pe_cmp (pc_notN h) rfl) fun σ H Q ⟨F, ρ, hR, h⟩ => ⟨F, ρ, hR, (cX.bind h).imp fun v H1 ⟨x, F1, ρ1, s1, r1, p1, h1⟩ => by
    rw [den_non_iff p1]
    exact cX.ret h1 _ F1 H1 (Same.refl _) r1 .bl⟩

/-! ### displays -/
def dNil : EM (List D) := EM.ret []
def dCons (f : EM D) (g : EM (List D)) : EM (List D) := f.bind fun x => g.bind fun xs => EM.ret (x :: xs)
theorem da_nil : DA X G B W [] dNil := pa_weak pa_nil fun σ H Q ⟨F, ρ, hR, h⟩ => cX.ret h [] F H (Same.refl _) hR .nil
theorem da_cons {f : EM D} {g : EM (List D)} (h : DE X G B W e f) (h' : DA X G B W es g) (hs : starEach (e :: es) X.env = (false, eval e X.env) :: starEach es X.env := by rfl) : DA X G B W (e :: es) (dCons f g) :=
  pa_weak (pa_cons h h' hs) fun σ H Q ⟨F, ρ, hR, h⟩ => ⟨F, ρ, hR, (cX.bind h).imp fun v H1 ⟨x, F1, ρ1, s1, r1, p1, h1⟩ => ⟨F1, ρ1, r1, (cX.bind h1).imp fun vs H2 ⟨xs, F2, ρ2, s2, r2, p2, h2⟩ =>
    cX.ret h2 _ F2 H2 (Same.refl _) r2 (.cons (Den.mono s2 _ p1) p2)⟩⟩
def dTup (g : EM (List D)) : EM D := g.bind fun xs => EM.lift (if xs.length ≤ 16777216 then some (.tup xs) else none)
def dLst (g : EM (List D)) : EM D := g.bind fun xs => EM.lift (if xs.length ≤ 16777216 then some (.lst xs) else none)
theorem de_tup {x1} {g : EM (List D)} (h : DA X G B W es g) : DE X G B W (.Tuple es x1 pos) (dTup g) :=
  pe_weak (pe_tup h) fun σ H Q ⟨F, ρ, hR, h⟩ => ⟨F, ρ, hR, (cX.bind h).imp fun vs H1 ⟨xs, F1, ρ1, s1, r1, p1, h1⟩ => by
    obtain ⟨y, e, q⟩ := cX.lift h1
    split at e
    · rename_i hl
      cases e
      refine ⟨by rw [p1.length, ← line_eq]; exact hl, fun p hp => ?_⟩
      obtain ⟨r', s'⟩ := r1.new (o := .tup vs) hp (by intro ps z; cases z)
      exact q _ _ _ s' r' (.tup (.of upd_same) (Dens.mono s' _ p1))
    · cases e⟩
theorem de_lst {g : EM (List D)} (h : DA X G B W es g) : DE X G B W (.List es pos) (dLst g) :=
  pe_weak (pe_lst h) fun σ H Q ⟨F, ρ, hR, h⟩ => ⟨F, ρ, hR, (cX.bind h).imp fun vs H1 ⟨xs, F1, ρ1, s1, r1, p1, h1⟩ => by
    obtain ⟨y, e, q⟩ := cX.lift h1
    split at e
    · rename_i hl
      cases e
      refine ⟨by rw [p1.length, ← line_eq]; exact hl, fun p hp => ?_⟩
      obtain ⟨r', s'⟩ := r1.new (o := .lst vs) hp (by intro ps z; cases z)
      exact q _ _ _ s' r' (.lst (.of upd_same) (Dens.mono s' _ p1))
    · cases e⟩

/-! ### subscripts, slices -/
def dIx : D → D → Option D
  | .lst xs, .int i => atI xs i
  | .tup xs, .int i => atI xs i
  | .str s, .int i => if s.length ≤ 16777216 then (atI s i).map fun c => .str [c] else none
  | _, _ => none
theorem atI_dens {F : Hp} {ds : List D} {vs : List V} {i : Int} {d : D} (h : Dens G F ds vs) (e : atI ds i = some d) : ∃ v, atI vs i = some v ∧ Den G F d v := by
  unfold atI at e ⊢
  rw [h.length]
  cases q : ixN ds.length i with
  | none => rw [q] at e; cases e
  | some j =>
    rw [q] at e
    exact h.get e
theorem de_ix {f g : EM D} (hk : G.K = X.K) (ha : DE X G B W a f) (hb : DE X G B W b g) (hs : PlainIx b := by exact fun _ _ => rfl) : DE X G B W (.Subscript a b pos) (dOp dIx f g) :=
  pe_weak (pe_ix ix_seq ha hb hs) fun σ H Q h => by
    obtain ⟨F, ρ, hR, h⟩ := read_op h
    refine ⟨F, ρ, hR, h.imp fun x H1 ⟨F1, ρ1, r1, h1⟩ => ⟨F1, ρ1, r1, h1.imp fun y H2 => ?_⟩⟩
    rintro ⟨F2, ρ2, σ2, dx, dy, d, r2, p1, p2, e, k⟩
    unfold dIx at e
    split at e
    · obtain ⟨p, vs, rfl, q1, q2⟩ := p1.lst_inv
      obtain ⟨v, e1, e2⟩ := atI_dens q2 e
      exact .inl ⟨p, vs, _, v, rfl, p2.int_inv, hk ▸ r2.sub.seq q1, e1, k v F2 H2 (Same.refl _) r2 e2⟩
    · obtain ⟨p, vs, rfl, q1, q2⟩ := p1.tup_inv
      obtain ⟨v, e1, e2⟩ := atI_dens q2 e
      exact .inr (.inl ⟨p, vs, _, v, rfl, p2.int_inv, hk ▸ SqT.mono r2.sub q1, e1, k v F2 H2 (Same.refl _) r2 e2⟩)
    · split at e
      · rename_i s i hl
        obtain ⟨c, e1, rfl⟩ := Option.map_eq_some_iff.mp e
        refine .inr (.inr ⟨mkStr s, i, c, p1.str_inv, p2.int_inv, by rw [mk_len, ← line_eq]; exact hl, by simpa using e1, ?_⟩)
        exact k (.str ⟨#[c]⟩) F2 H2 (Same.refl _) r2 (Den.str (x := [c]))
      · cases e
    · cases e
/-- an item of a list that may still grow -/
def dIxOwn (i : Nat) (g : EM D) : EM D := g.bind fun y => fun r => match r[i]? with
  | some (.own xs) => (match y with
    | .int j => (match atI xs j with
      | some x => .ok x r
      | none => .st)
    | _ => .st)
  | _ => .st
/-- evaluation leaves a list of its own where it is -/
theorem own_at {F1 : Hp} {ρ1 : Rho} {σ : L2.St} {H1 : Hp} {i : Nat} {xs : List D} (r1 : R G B F1 ρ1 σ H1) (e : ρ1[i]? = some (Sl.own xs)) {v : V} (es : σ[i]? = some (some v)) : ∃ a vs, v = .ref a ∧ H1 a = some (.lst vs) ∧ Dens G F1 xs vs := by
  obtain ⟨a, vs, e1, e2, e3, e4, e5⟩ := r1.own i xs e
  rw [es] at e1
  have : v = .ref a := by injection e1 with e1; injection e1
  exact ⟨a, vs, this, e4, e5⟩
theorem slot_at {i : Nat} {σ : L2.St} (h : σ[i]? = none ∨ σ[i]? = some none → False) : ∃ v, σ[i]? = some (some v) := by
  cases e : σ[i]? with
  | none => exact (h (.inl e)).elim
  | some o => cases o with
    | none => exact (h (.inr e)).elim
    | some v => exact ⟨v, rfl⟩
def dIxO (i : Nat) (g : EM D) : EM D := fun r => match r[i]? with
  | some (Sl.own _) => dIxOwn i g r
  | _ => .st
theorem cX_ixO {i : Nat} {g : EM D} {F : Hp} {ρ : Rho} {σ : L2.St} {Q : VK} (h : cX G B W (PD G) (dIxO i g) F ρ σ Q) : ∃ xs, ρ[i]? = some (Sl.own xs) ∧ cX G B W (PD G) (dIxOwn i g) F ρ σ Q := by
  unfold cX dIxO at h
  cases e : ρ[i]? with
  | none => simp only [e] at h
  | some sl =>
    simp only [e] at h
    cases sl with
    | own xs => exact ⟨xs, rfl, h⟩
    | _ => exact h.elim
theorem cX_own {i : Nat} {y : D} {F : Hp} {ρ : Rho} {σ : L2.St} {Q : VK} (h : cX G B W (PD G) (fun r => match r[i]? with
  | some (Sl.own xs) => (match y with
    | .int j => (match atI xs j with
      | some x => .ok x r
      | none => .st)
    | _ => .st)
  | _ => .st) F ρ σ Q) : ∃ xs j x, ρ[i]? = some (Sl.own xs) ∧ y = .int j ∧ atI xs j = some x ∧ ∀ b F' H', Same F F' → R G B F' ρ σ H' → Den G F' x b → Q b H' := by
  unfold cX at h
  cases e : ρ[i]? with
  | none => simp only [e] at h
  | some sl =>
    simp only [e] at h
    cases sl with
    | own xs =>
      cases y with
      | int j =>
        simp only at h
        cases e3 : atI xs j with
        | none => simp only [e3] at h
        | some z =>
          simp only [e3] at h
          exact ⟨xs, j, z, rfl, rfl, e3, h⟩
      | _ => exact h.elim
    | _ => exact h.elim
theorem de_ixOwn (i : Nat) {x : Str} {g : EM D} (hk : G.K = X.K) (hb : DE X G B W b g) (hN : X.N[i]? = some x := by rfl) (hv : Vis X.env.scope x := by first | exact Or.inl rfl | exact Or.inr (Or.inl rfl) | exact Or.inr (Or.inr rfl))
    (hd : (x == ("__debug__" : Str)) = false := by decide) (hcd : (x == ("__classdict__" : Str)) = false := by decide) (hs : PlainIx b := by exact fun _ _ => rfl) : DE X G B W (.Subscript (.Name x pos') b pos) (dIxO i g) :=
  pe_weak (pe_ix ix_list (pe_var hN hv hd hcd) hb hs) fun σ H Q ⟨F, ρ, hR, h⟩ => by
    obtain ⟨xs, e, h⟩ := cX_ixO h
    obtain ⟨a, vs, e1, _⟩ := hR.own i xs e
    refine ⟨_, e1, F, ρ, hR, (cX.bind h).imp fun y H2 ⟨dy, F2, ρ2, s2, r2, p2, h2⟩ => ?_⟩
    obtain ⟨ys, j, z, e2, rfl, e3, h2⟩ := cX_own h2
    obtain ⟨a2, ws, q1, q2, q3⟩ := own_at r2 e2 e1
    obtain ⟨v, e4, e5⟩ := atI_dens q3 e3
    exact ⟨a2, ws, j, v, q1, p2.int_inv, .of q2, e4, h2 v F2 H2 (Same.refl _) r2 e5⟩
abbrev DO (X : Cx) (G : Gx) (B : Bs) (W : WX) (e : Option Expr) (f : EM (Option Int)) : Prop := PO X e (tX G B W (fun _ (a b : Option Int) => a = b) f)
def dNoPart : EM (Option Int) := EM.ret none
def dPart (f : EM D) : EM (Option Int) := f.bind fun x => EM.lift (match x with | .int i => some (some i) | _ => none)
theorem po_weak {e : Option Expr} {t t' : TO} (h : PO X e t) (i : ∀ σ H Q, t' σ H Q → t σ H Q) : PO X e t' := ⟨fun pins s σ H Q I hq => h.run pins s σ H Q I (i σ H Q hq)⟩
theorem do_none : DO X G B W none dNoPart := po_weak po_none fun σ H Q ⟨F, ρ, hR, h⟩ => cX.ret h none F H (Same.refl _) hR rfl
theorem do_some {f : EM D} (h : DE X G B W e f) : DO X G B W (some e) (dPart f) :=
  po_weak (po_some h) fun σ H Q ⟨F, ρ, hR, h⟩ => ⟨F, ρ, hR, (cX.bind h).imp fun v H1 ⟨x, F1, ρ1, s1, r1, p1, h1⟩ => by
    obtain ⟨y, e, q⟩ := cX.lift h1
    cases x with
    | int i => cases e; exact ⟨i, p1.int_inv, q _ F1 H1 (Same.refl _) r1 rfl⟩
    | _ => cases e⟩
def cut {α : Type} (xs : List α) (lo hi : Option Int) : List α := (xs.drop (HT.sIx xs.length 0 lo)).take (HT.sIx xs.length xs.length hi - HT.sIx xs.length 0 lo)
def dCut (lo hi : Option Int) : D → Option D
  | .lst xs => some (.lst (cut xs lo hi))
  | .tup xs => some (.tup (cut xs lo hi))
  | .str s => if s.length ≤ 16777216 then some (.str (cut s lo hi)) else none
  | _ => none
def dSl (f : EM D) (lo hi : EM (Option Int)) : EM D := f.bind fun x => lo.bind fun l => hi.bind fun u => EM.lift (dCut l u x)
theorem cut_dens {F : Hp} {ds : List D} {vs : List V} (lo hi : Option Int) (h : Dens G F ds vs) : Dens G F (cut ds lo hi) (cutV vs lo hi) := by
  unfold cut cutV
  rw [h.length]
  exact (h.drop _).take _
theorem cut_all {α : Type} (xs : List α) (lo hi : Option Int) (h : HT.sIx xs.length 0 lo = 0 ∧ HT.sIx xs.length xs.length hi = xs.length) : cut xs lo hi = xs := by
  unfold cut
  rw [h.1, h.2]
  simp
theorem cut_str (s : List Nat) (lo hi : Option Int) : cutS (mkStr s) lo hi = mkStr (cut s lo hi) := by
  unfold cutS cut
  rw [mk_len]
theorem de_slice {p2 : Pos} {lo hi : Option Expr} {f : EM D} {fl fh : EM (Option Int)} (hk : G.K = X.K) (h : DE X G B W e f) (hl : DO X G B W lo fl) (hh : DO X G B W hi fh) : DE X G B W (.Subscript e (.Slice lo hi none p2) pos) (dSl f fl fh) :=
  pe_weak (pe_slice (SlR.or sl_list (SlR.or sl_tupA sl_str)) h hl hh) fun σ H Q ⟨F, ρ, hR, h⟩ => ⟨F, ρ, hR, (cX.bind h).imp fun v H1 ⟨x, F1, ρ1, s1, r1, p1, h1⟩ => ⟨F1, ρ1, r1, (cX.bind h1).imp fun l H2 ⟨l', F2, ρ2, s2, r2, p2, h2⟩ =>
    ⟨F2, ρ2, r2, (cX.bind h2).imp fun u H3 ⟨u', F3, ρ3, s3, r3, p3, h3⟩ => by
      cases p2
      cases p3
      have p1 := Den.mono (s2.trans s3) _ p1
      obtain ⟨y, e, q⟩ := cX.lift h3
      unfold dCut at e
      split at e
      · cases e
        obtain ⟨p, vs, rfl, q1, q2⟩ := p1.lst_inv
        refine .inl ⟨p, vs, rfl, hk ▸ r3.sub.seq q1, fun p' hp => ?_⟩
        obtain ⟨r', s'⟩ := r3.new (o := .lst (cutV vs l u)) hp (by intro ps z; cases z)
        exact q _ _ _ s' r' (.lst (.of upd_same) (Dens.mono s' _ (cut_dens l u q2)))
      · cases e
        obtain ⟨p, vs, rfl, q1, q2⟩ := p1.tup_inv
        refine .inr (.inl ⟨p, vs, rfl, hk ▸ SqT.mono r3.sub q1, fun hw => ?_, fun _ p' hp => ?_⟩)
        · rw [q2.length] at hw
          rw [cut_all _ _ _ hw] at q
          exact q _ F3 H3 (Same.refl _) r3 (.tup q1 q2)
        · obtain ⟨r', s'⟩ := r3.new (o := .tup (cutV vs l u)) hp (by intro ps z; cases z)
          exact q _ _ _ s' r' (.tup (.of upd_same) (Dens.mono s' _ (cut_dens l u q2)))
      · split at e
        · rename_i z hl
          cases e
          refine .inr (.inr ⟨mkStr _, p1.str_inv, by rw [mk_len, ← line_eq]; exact hl, ?_⟩)
          rw [cut_str]
          exact q _ F3 H3 (Same.refl _) r3 .str
        · cases e
      · cases e⟩⟩⟩

/-! ### calls of the built-in -/
def dB (op : List D → Option D) (g : EM (List D)) : EM D := g.bind fun xs => EM.lift (op xs)
def rB (G : Gx) (B : Bs) (op : List D → Option D) : List V → Hp → VK → Prop := fun vs H Q => ∃ F ρ σ xs d, R G B F ρ σ H ∧ Dens G F xs vs ∧ op xs = some d ∧ ∀ v F' H', Same F F' → R G B F' ρ σ H' → Den G F' d v → Q v H'
abbrev CallD (X : Cx) (G : Gx) (B : Bs) (f : Value) (op : List D → Option D) : Prop := CallR X f (rB G B op)
theorem callD_of {f : Value} {r : List V → Hp → VK → Prop} {op : List D → Option D} (h : CallR X f r) (i : ∀ vs H Q, rB G B op vs H Q → r vs H Q) : CallD X G B f op := fun pins s σ H xs us Q I rx q => h pins s σ H xs us Q I rx (i _ _ _ q)
theorem read_B {op : List D → Option D} {g : EM (List D)} {σ : L2.St} {H : Hp} {Q : VK} (h : tX G B W (PD G) (dB op g) σ H Q) : tX G B W (PL G) g σ H fun vs H1 => rB G B op vs H1 Q := by
  obtain ⟨F, ρ, hR, h⟩ := h
  refine ⟨F, ρ, hR, (cX.bind h).imp fun vs H1 ⟨xs, F1, ρ1, s1, r1, p1, h1⟩ => ?_⟩
  obtain ⟨d, e, k⟩ := cX.lift h1
  exact ⟨F1, ρ1, σ, xs, d, r1, p1, e, k⟩
theorem de_B {x : Str} {id : String} {p : Pos} {op : List D → Option D} {g : EM (List D)} (hc : CallD X G B (.builtin id) op) (hm : X.mg x = none) (ha : DA X G B W (e :: es) g) (hv : bootBuiltins x = some (.builtin id) := by decide +kernel) (hg : Gl X x := by rfl) (hn : x ≠ "__name__" := by decide) (hdb : (x == ("__debug__" : Str)) = false := by decide)
    (he : starEach (e :: es) X.env = (false, eval e X.env) :: starEach es X.env := by rfl) (hpl : (backTo pos (starEach es X.env)).any (·.1) = false := by rfl) : DE X G B W (.Call (.Name x p) (e :: es) [] pos) (dB op g) :=
  pe_weak (pe_callB hc hg hm hv ha hn hdb he hpl) fun _ _ _ h => read_B h
theorem de_T {x : Str} {T : String} {p : Pos} {op : List D → Option D} {g : EM (List D)} (hc : CallD X G B (.type T) op) (hm : X.mg x = none) (ha : DA X G B W (e :: es) g) (hv : bootBuiltins x = some (.type T) := by decide +kernel) (hg : Gl X x := by rfl) (hn : x ≠ "__name__" := by decide) (hdb : (x == ("__debug__" : Str)) = false := by decide)
    (he : starEach (e :: es) X.env = (false, eval e X.env) :: starEach es X.env := by rfl) (hpl : (backTo pos (starEach es X.env)).any (·.1) = false := by rfl) : DE X G B W (.Call (.Name x p) (e :: es) [] pos) (dB op g) :=
  pe_weak (pe_callTy hc hg hm hv ha hn hdb he hpl) fun _ _ _ h => read_B h
def bLen : List D → Option D
  | [.str s] => if s.length ≤ 16777216 then some (.int s.length) else none
  | [.lst xs] => some (.int xs.length)
  | [.tup xs] => some (.int xs.length)
  | _ => none
theorem Dens.one {F : Hp} {x : D} {vs : List V} (h : Dens G F [x] vs) : ∃ v, vs = [v] ∧ Den G F x v := by
  obtain ⟨v, r, rfl, q, t⟩ := h.inv
  rw [t.inv_nil]
  exact ⟨v, rfl, q⟩
theorem Dens.two {F : Hp} {x y : D} {vs : List V} (h : Dens G F [x, y] vs) : ∃ v w, vs = [v, w] ∧ Den G F x v ∧ Den G F y w := by
  obtain ⟨v, r, rfl, q, t⟩ := h.inv
  obtain ⟨w, rfl, q2⟩ := t.one
  exact ⟨v, w, rfl, q, q2⟩
theorem cd_len (hk : G.K = X.K) : CallD X G B (.builtin "len") bLen := callD_of call_len fun vs H Q ⟨F, ρ, σ, xs, d, hR, p, e, k⟩ => by
  unfold bLen at e
  split at e
  · split at e
    · rename_i s hl
      cases e
      obtain ⟨v, rfl, q⟩ := p.one
      rw [q.str_inv]
      exact ⟨_, s.length, rfl, ⟨by rw [mk_len, ← line_eq]; exact hl, (mk_len s).symm⟩, k _ F H (Same.refl _) hR .int⟩
    · cases e
  · rename_i xs
    cases e
    obtain ⟨v, rfl, q⟩ := p.one
    obtain ⟨a, vs, rfl, q1, q2⟩ := q.lst_inv
    exact ⟨_, xs.length, rfl, .inl ⟨vs, hk ▸ hR.sub.seq q1, q2.length.symm⟩, k _ F H (Same.refl _) hR .int⟩
  · rename_i xs
    cases e
    obtain ⟨v, rfl, q⟩ := p.one
    obtain ⟨a, vs, rfl, q1, q2⟩ := q.tup_inv
    exact ⟨_, xs.length, rfl, .inr ⟨vs, hk ▸ SqT.mono hR.sub q1, q2.length.symm⟩, k _ F H (Same.refl _) hR .int⟩
  · cases e
def bAbs : List D → Option D
  | [.int i] => some (.int (if i < 0 then -i else i))
  | _ => none
theorem cd_abs : CallD X G B (.builtin "abs") bAbs := callD_of call_abs fun vs H Q ⟨F, ρ, σ, xs, d, hR, p, e, k⟩ => by
  unfold bAbs at e
  split at e
  · cases e
    obtain ⟨v, rfl, q⟩ := p.one
    rw [q.int_inv]
    exact ⟨_, rfl, k _ F H (Same.refl _) hR .int⟩
  · cases e
def bMax : List D → Option D
  | [.int i, .int j] => some (.int (if j > i then j else i))
  | _ => none
def bMin : List D → Option D
  | [.int i, .int j] => some (.int (if j < i then j else i))
  | _ => none
theorem cd_max (hc : X.calm = true) : CallD X G B (.builtin "max") bMax := callD_of (call_max2 hc) fun vs H Q ⟨F, ρ, σ, xs, d, hR, p, e, k⟩ => by
  unfold bMax at e
  split at e
  · cases e
    obtain ⟨v, w, rfl, q, q'⟩ := p.two
    rw [q.int_inv, q'.int_inv]
    exact ⟨_, _, rfl, k _ F H (Same.refl _) hR .int⟩
  · cases e
theorem cd_min (hc : X.calm = true) : CallD X G B (.builtin "min") bMin := callD_of (call_min2 hc) fun vs H Q ⟨F, ρ, σ, xs, d, hR, p, e, k⟩ => by
  unfold bMin at e
  split at e
  · cases e
    obtain ⟨v, w, rfl, q, q'⟩ := p.two
    rw [q.int_inv, q'.int_inv]
    exact ⟨_, _, rfl, k _ F H (Same.refl _) hR .int⟩
  · cases e
def bInt : List D → Option D
  | [.int i] => some (.int i)
  | [.bl k] => some (.int (if k then 1 else 0))
  | _ => none
theorem cd_int : CallD X G B (.type "int") bInt := callD_of call_int1 fun vs H Q ⟨F, ρ, σ, xs, d, hR, p, e, k⟩ => by
  unfold bInt at e
  split at e
  · cases e
    obtain ⟨v, rfl, q⟩ := p.one
    rw [q.int_inv]
    exact .inl ⟨_, rfl, k _ F H (Same.refl _) hR .int⟩
  · cases e
    obtain ⟨v, rfl, q⟩ := p.one
    rw [q.bl_inv]
    exact .inr ⟨_, rfl, k _ F H (Same.refl _) hR .int⟩
  · cases e
def decS (i : Int) : List Nat := (toString i : Str).cps.toList
def bStr : List D → Option D
  | [.int i] => if i.natAbs.log2 < 1920 then some (.str (decS i)) else none
  | _ => none
theorem cd_str : CallD X G B (.type "str") bStr := callD_of call_str_int fun vs H Q ⟨F, ρ, σ, xs, d, hR, p, e, k⟩ => by
  unfold bStr at e
  split at e
  · split at e
    · rename_i i hl
      cases e
      obtain ⟨v, rfl, q⟩ := p.one
      rw [q.int_inv]
      exact ⟨i, rfl, hl, k _ F H (Same.refl _) hR .str'⟩
    · cases e
  · cases e
end
end DL

namespace DL
open PySem PySem.Spec PyProof.Rows L2 NdefX
section
variable {X : Cx} {G : Gx} {B : Bs} {W : WX} {a b c e o : Expr} {es rest : List Expr} {pos pos' : Pos} {st : Stmt} {sts : List Stmt}

/-! ### statements -/
def cS (G : Gx) (B : Bs) (W : WX) (g : SM) (F : Hp) (ρ : Rho) (E : Ends) : Prop :=
  match g ρ with
  | .nx ρ' => ∀ F' σ' H', Same F F' → R G B F' ρ' σ' H' → E.nx σ' H'
  | .rt x ρ' => ∀ v F' σ' H', Same F F' → R G B F' ρ' σ' H' → Den G F' x v → E.rt v H'
  | .rl xs ρ' => ∀ a vs F' σ' H', Same F F' → R G B F' ρ' σ' H' → F' a = none → (B.H0 a = none ∨ B.W a) → H' a = some (.lst vs) → Dens G F' xs vs → E.rt (.ref a) H'
  | .bk ρ' => ∀ F' σ' H', Same F F' → R G B F' ρ' σ' H' → E.bk σ' H'
  | .ct ρ' => ∀ F' σ' H', Same F F' → R G B F' ρ' σ' H' → E.ct σ' H'
  | .ex c xs ρ' => ∀ cls d F' σ' H', Same F F' → R G B F' ρ' σ' H' → ExD G F' c xs cls d → W cls d σ' H'
  | .st => False
def tS (G : Gx) (B : Bs) (W : WX) (g : SM) : TS := fun E σ H => ∃ F ρ, R G B F ρ σ H ∧ cS G B W g F ρ E
abbrev DS (X : Cx) (G : Gx) (B : Bs) (W : WX) (st : Stmt) (g : SM) : Prop := PS X st (tS G B W g)
abbrev DSs (X : Cx) (G : Gx) (B : Bs) (W : WX) (st : List Stmt) (g : SM) : Prop := PSs X st (tS G B W g)
theorem cS.weak {g : SM} {F F1 : Hp} {ρ : Rho} {E : Ends} (s : Same F F1) (h : cS G B W g F ρ E) : cS G B W g F1 ρ E := by
  unfold cS at h ⊢
  split <;> rename_i q <;> simp only [q] at h
  · exact fun F' σ' H' s' => h F' σ' H' (s.trans s')
  · exact fun v F' σ' H' s' => h v F' σ' H' (s.trans s')
  · exact fun a vs F' σ' H' s' => h a vs F' σ' H' (s.trans s')
  · exact fun F' σ' H' s' => h F' σ' H' (s.trans s')
  · exact fun F' σ' H' s' => h F' σ' H' (s.trans s')
  · exact fun cls d F' σ' H' s' => h cls d F' σ' H' (s.trans s')
/-- where the ends of E go on to those of E' -/
theorem cS.nxt {g : SM} {F : Hp} {ρ : Rho} {E : Ends} {P : L2.St → Hp → Prop} (h : match g ρ with
    | .nx ρ' => ∀ F' σ' H', Same F F' → R G B F' ρ' σ' H' → P σ' H'
    | _ => cS G B W g F ρ E) : cS G B W g F ρ { E with nx := P } := by
  unfold cS at h ⊢
  split <;> rename_i q <;> simp only [q] at h <;> exact h
/-- an expression's outcome goes on by k -/
def SM.of (m : EM α) (k : α → SM) : SM := fun r => match m r with
  | .ok x r' => k x r'
  | .ex c xs r' => .ex c xs r'
  | .st => .st
theorem cS.of {α β : Type} {P : Hp → α → β → Prop} {m : EM α} {k : α → SM} {F : Hp} {ρ : Rho} {σ : L2.St} {E : Ends} (h : cS G B W (SM.of m k) F ρ E) :
    cX G B W P m F ρ σ fun b H1 => ∃ x F1 ρ1, Same F F1 ∧ R G B F1 ρ1 σ H1 ∧ P F1 x b ∧ cS G B W (k x) F1 ρ1 E := by
  unfold cS SM.of at h
  unfold cX
  cases e : m ρ with
  | ok x ρ' =>
    simp only [e] at h
    exact fun b F' H' s r p => ⟨x, F', ρ', s, r, p, cS.weak s h⟩
  | ex c xs ρ' =>
    simp only [e] at h
    exact fun cls d F' H' s r q => h cls d F' σ H' s r q
  | st => simp only [e] at h
def sNx : SM := fun r => .nx r
def sSeq (g h : SM) : SM := fun r => match g r with
  | .nx r' => h r'
  | o => o
theorem ds_nil : DSs X G B W [] sNx := pss_weak pss_nil fun D σ H ⟨F, ρ, hR, h⟩ => h F σ H (Same.refl _) hR
theorem ds_cons {g h : SM} (h1 : DS X G B W st g) (h2 : DSs X G B W sts h) : DSs X G B W (st :: sts) (sSeq g h) :=
  pss_weak (pss_cons h1 h2) fun D σ H ⟨F, ρ, hR, q⟩ => ⟨F, ρ, hR, cS.nxt (by
    unfold cS sSeq at q
    cases e : g ρ <;> simp only [e] at q ⊢
    · exact fun F' σ' H' s r => ⟨F', _, r, by unfold cS; exact cS.weak (g := h) s q⟩
    all_goals (unfold cS; simp only [e]; exact q))⟩
theorem ds_one {g : SM} (h1 : DS X G B W st g) : DSs X G B W [st] g := pss_one h1
theorem ds_pass : DS X G B W (.Pass pos) sNx := ps_weak ps_pass fun D σ H ⟨F, ρ, hR, h⟩ => h F σ H (Same.refl _) hR
def sBk : SM := fun r => .bk r
def sCt : SM := fun r => .ct r
theorem ds_break : DS X G B W (.Break pos) sBk := ps_weak ps_break fun D σ H ⟨F, ρ, hR, h⟩ => h F σ H (Same.refl _) hR
theorem ds_continue : DS X G B W (.Continue pos) sCt := ps_weak ps_continue fun D σ H ⟨F, ρ, hR, h⟩ => h F σ H (Same.refl _) hR
theorem ds_doc {z j} : DS X G B W (.Expr (.Constant (.str z) j pos) pos') sNx := ps_weak ps_doc fun D σ H ⟨F, ρ, hR, h⟩ => h F σ H (Same.refl _) hR
def sExpr (f : EM D) : SM := SM.of f fun _ => sNx
theorem ds_expr {f : EM D} (h : DE X G B W e f) (hs : swapsWith e none pos.line X.env = pure false := by rfl) : DS X G B W (.Expr e pos) (sExpr f) :=
  ps_weak (ps_expr h hs) fun D σ H ⟨F, ρ, hR, q⟩ => ⟨F, ρ, hR, (cS.of q).imp fun v H1 ⟨x, F1, ρ1, s1, r1, p1, q1⟩ => q1 F1 σ H1 (Same.refl _) r1⟩
def sRt : D → SM := fun x r => .rt x r
def sRet (f : EM D) : SM := SM.of f sRt
theorem ds_ret {f : EM D} (h : DE X G B W e f) : DS X G B W (.Return (some e) pos) (sRet f) :=
  ps_weak (ps_ret h) fun D σ H ⟨F, ρ, hR, q⟩ => ⟨F, ρ, hR, (cS.of q).imp fun v H1 ⟨x, F1, ρ1, s1, r1, p1, q1⟩ => q1 v F1 σ H1 (Same.refl _) r1 p1⟩
def sRetN : SM := fun r => .rt .non r
theorem ds_retN : DS X G B W (.Return none pos) sRetN := ps_weak ps_retN fun D σ H ⟨F, ρ, hR, q⟩ => q .non F σ H (Same.refl _) hR .non
def sIf (t : EM Bool) (g h : SM) : SM := SM.of t fun k => if k = true then g else h
theorem ds_if {t : EM Bool} {g h : SM} {bs cs : List Stmt} (hc : DT X G B W c t) (ha : DSs X G B W bs g) (hb : DSs X G B W cs h) : DS X G B W (.If c bs cs pos) (sIf t g h) :=
  ps_weak (ps_if hc ha hb) fun D σ H ⟨F, ρ, hR, q⟩ => ⟨F, ρ, hR, (cS.of q).imp fun k H1 ⟨x, F1, ρ1, s1, r1, p1, q1⟩ => by
    cases p1
    cases k with
    | true => exact iteT ⟨F1, ρ1, r1, q1⟩
    | false => exact iteF ⟨F1, ρ1, r1, q1⟩⟩

/-! ### targets -/
abbrev TgM := D → Rho → Option Rho
def tG (G : Gx) (B : Bs) (vs : List Nat) (g : TgM) : TG := fun v σ H Q => ∃ F ρ x ρ', R G B F ρ σ H ∧ Den G F x v ∧ g x ρ = some ρ' ∧ ∀ F' σ' H', Same F F' → R G B F' ρ' σ' H' → wipe σ' vs = wipe σ vs → Q σ' H'
abbrev DG (X : Cx) (G : Gx) (B : Bs) (tg : Expr) (vs : List Nat) (g : TgM) : Prop := PG X tg (tG G B vs g)
theorem wipe_get {j : Nat} {τ : L2.St} : ∀ {vs : List Nat}, (wipe τ vs)[j]? = if j ∈ vs then (if j < τ.length then some none else none) else τ[j]?
  | [] => rfl
  | v :: vs => by
    show ((wipe τ vs).set v none)[j]? = _
    by_cases hv : j = v
    · subst hv
      rw [if_pos List.mem_cons_self]
      by_cases hl : j < τ.length
      · rw [if_pos hl, List.getElem?_set_self (by rw [wipe_length]; exact hl)]
      · rw [if_neg hl, List.getElem?_eq_none_iff, List.length_set, wipe_length]; omega
    · rw [List.getElem?_set_ne (Ne.symm hv), wipe_get (vs := vs)]
      by_cases hm : j ∈ vs
      · rw [if_pos hm, if_pos (List.mem_cons_of_mem _ hm)]
      · rw [if_neg hm, if_neg (fun z => (List.mem_cons.mp z).elim hv hm)]
theorem wipe_set {σ : L2.St} {i : Nat} {o : Option V} {vs : List Nat} (hi : i ∈ vs) : wipe (σ.set i o) vs = wipe σ vs := by
  apply List.ext_getElem?
  intro j
  rw [wipe_get, wipe_get, List.length_set]
  by_cases hj : j ∈ vs
  · rw [if_pos hj, if_pos hj]
  · rw [if_neg hj, if_neg hj, List.getElem?_set_ne (fun z => hj (by rw [← z]; exact hi))]
def gSet (i : Nat) : TgM := fun x r => some (r.set i (.d x))
theorem dg_name (i : Nat) {x : Str} (hN : X.N.Nodup) (hi : X.N[i]? = some x := by rfl) (hx : Loc X.env.scope x := by first | exact Or.inl rfl | exact Or.inr rfl) (hf : X.fn x = true ∨ X.env.scope.names.lookup x = some .local := by first | exact .inl rfl | exact .inr rfl) : DG X G B (.Name x pos) [i] (gSet i) := by
  refine ⟨fun pins s σ H v u Q I r ⟨F, ρ, y, ρ', hR, p, e, k⟩ => (pg_name hN hi hx hf).run pins s σ H v u Q I r ?_⟩
  cases e
  exact k F _ H (Same.refl _) (hR.setd p) (wipe_set (List.mem_singleton.mpr rfl))
def gAll : List TgM → List D → Rho → Option Rho
  | [], [], r => some r
  | g :: gs, x :: xs, r => (g x r).bind fun r' => gAll gs xs r'
  | _, _, _ => none
def gTupM (n : Nat) (gs : List TgM) : TgM := fun x r => match x with
  | .tup xs => if xs.length = n then gAll gs xs r else none
  | _ => none
def gLstM (n : Nat) (gs : List TgM) : TgM := fun x r => match x with
  | .lst xs => if xs.length = n then gAll gs xs r else none
  | _ => none
def tGs (G : Gx) (B : Bs) (vs : List Nat) (gs : List TgM) : TGs := fun us σ H Q => ∃ F ρ xs ρ', R G B F ρ σ H ∧ Dens G F xs us ∧ gAll gs xs ρ = some ρ' ∧ ∀ F' σ' H', Same F F' → R G B F' ρ' σ' H' → wipe σ' vs = wipe σ vs → Q σ' H'
abbrev DGs (X : Cx) (G : Gx) (B : Bs) (ts : List Expr) (vs : List Nat) (gs : List TgM) : Prop := PGs X ts (tGs G B vs gs)
theorem dgs_nil : DGs X G B [] [] [] := ⟨fun pins s σ H vs us Q I r ⟨F, ρ, xs, ρ', hR, p, e, k⟩ => by
  have he : xs = [] ∧ ρ = ρ' := by
    cases xs with
    | nil => simp only [gAll, Option.some.injEq] at e; exact ⟨rfl, e⟩
    | cons _ _ => simp only [gAll] at e; cases e
  obtain ⟨rfl, rfl⟩ := he
  exact pgs_nil.run pins s σ H vs us Q I r ⟨p.inv_nil, k F σ H (Same.refl _) hR rfl⟩⟩
theorem wipe_app (σ : L2.St) (vs ws : List Nat) : wipe σ (vs ++ ws) = wipe (wipe σ vs) ws := by
  apply List.ext_getElem?
  intro j
  rw [wipe_get, wipe_get, wipe_get, wipe_length]
  by_cases h1 : j ∈ vs <;> by_cases h3 : j ∈ ws <;> simp [h1, h3]
theorem wipe_comm (σ : L2.St) (vs ws : List Nat) : wipe (wipe σ vs) ws = wipe (wipe σ ws) vs := by
  apply List.ext_getElem?
  intro j
  rw [wipe_get, wipe_get, wipe_get, wipe_get, wipe_length, wipe_length]
  by_cases h1 : j ∈ vs <;> by_cases h3 : j ∈ ws <;> simp [h1, h3]
theorem dgs_cons {tg : Expr} {tgs : List Expr} {vs ws : List Nat} {g : TgM} {gs : List TgM} (h1 : DG X G B tg vs g) (h2 : DGs X G B tgs ws gs)
    (hs : (assignEach (tg :: tgs) X.env).map (·.2) = assign tg X.env :: (assignEach tgs X.env).map (·.2) := by rfl) : DGs X G B (tg :: tgs) (vs ++ ws) (g :: gs) :=
  ⟨fun pins s σ H us us' Q I r ⟨F, ρ, xs, ρ', hR, p, e, k⟩ => by
    cases xs with
    | nil => simp only [gAll] at e; cases e
    | cons x xs =>
      simp only [gAll, Option.bind_eq_some_iff] at e
      obtain ⟨ρ1, e1, e2⟩ := e
      obtain ⟨v, rs, rfl, p1, p2⟩ := p.inv
      refine (pgs_cons h1 h2 hs).run pins s σ H _ us' Q I r ⟨v, rs, rfl, F, ρ, x, ρ1, hR, p1, e1, fun F1 σ1 H1 s1 r1 w1 => ⟨F1, ρ1, xs, ρ', r1, Dens.mono s1 _ p2, e2, fun F2 σ2 H2 s2 r2 w2 => k F2 σ2 H2 (s1.trans s2) r2 ?_⟩⟩
      rw [wipe_app, wipe_app, wipe_comm, w2, wipe_comm, w1]⟩
theorem dg_tup {tgs : List Expr} {k : Nat} {vs : List Nat} {gs : List TgM} {n : Nat} (hk : G.K = X.K) (hc : X.calm = true) (h : DGs X G B tgs vs gs)
    (hn : (assignEach tgs X.env).length = n := by rfl) (hst : (assignEach tgs X.env).findIdx? (·.1) = none := by rfl) : DG X G B (.Tuple tgs k pos) vs (gTupM n gs) := by
  refine ⟨fun pins s σ H v u Q I r ⟨F, ρ, x, ρ', hR, p, e, kk⟩ => ?_⟩
  cases x with
  | tup xs =>
    simp only [gTupM] at e
    split at e
    · rename_i hl
      obtain ⟨a, us, rfl, q1, q2⟩ := p.tup_inv
      exact (pg_tup (n := n) hc h hn hst).run pins s σ H _ u Q I r ⟨a, us, rfl, hk ▸ SqT.mono hR.sub q1, by rw [q2.length]; exact hl, F, ρ, xs, ρ', hR, q2, e, kk⟩
    · cases e
  | _ => simp only [gTupM] at e; cases e
def sAsg (f : EM D) (g : TgM) : SM := SM.of f fun x r => match g x r with
  | some r' => .nx r'
  | none => .st
theorem ds_asg {tg : Expr} {vs : List Nat} {f : EM D} {g : TgM} (he : DE X G B W e f) (hg : DG X G B tg vs g) (hs : swapsWithSole [tg] e pos.line X.env = pure false := by rfl) (hw : swappedStores [tg] e X.env = pure none := by rfl) (h1 : (assignEach [tg] X.env).map (·.2) = [assign tg X.env] := by rfl) : DS X G B W (.Assign [tg] e pos) (sAsg f g) :=
  ps_weak (ps_asg he hg hs hw h1) fun D σ H ⟨F, ρ, hR, q⟩ => ⟨F, ρ, hR, (cS.of q).imp fun v H1 ⟨x, F1, ρ1, s1, r1, p1, q1⟩ => by
    unfold cS at q1
    cases e1 : g x ρ1 with
    | none => simp only [e1] at q1
    | some ρ2 =>
      simp only [e1] at q1
      exact ⟨F1, ρ1, x, ρ2, r1, p1, e1, fun F' σ' H' s r _ => q1 F' σ' H' s r⟩⟩
/-- x = e -/
theorem ds_set (i : Nat) {x : Str} {f : EM D} (hN : X.N.Nodup) (he : DE X G B W e f) (hi : X.N[i]? = some x := by rfl) (hx : Loc X.env.scope x := by first | exact Or.inl rfl | exact Or.inr rfl) (hs : swapsWith e (some (.Name x pos')) pos.line X.env = pure false := by rfl)
    (hf : X.fn x = true ∨ X.env.scope.names.lookup x = some .local := by first | exact .inl rfl | exact .inr rfl) : DS X G B W (.Assign [.Name x pos'] e pos) (sAsg f (gSet i)) :=
  ps_weak (ps_set (i := i) hN hi hx he hs hf) fun D σ H ⟨F, ρ, hR, q⟩ => ⟨F, ρ, hR, (cS.of q).imp fun v H1 ⟨x, F1, ρ1, s1, r1, p1, q1⟩ => q1 F1 _ H1 (Same.refl _) (r1.setd p1)⟩
theorem cS_if {c : Prop} [Decidable c] {f : Rho → Rho} {F : Hp} {ρ : Rho} {E : Ends} (h : cS G B W (fun r => if c then .nx (f r) else .st) F ρ E) : c ∧ ∀ F' σ' H', Same F F' → R G B F' (f ρ) σ' H' → E.nx σ' H' := by
  unfold cS at h
  by_cases hc : c
  · simp only [if_pos hc] at h
    exact ⟨hc, h⟩
  · simp only [if_neg hc] at h
/-- return x, a list of its own -/
def sRetO (i : Nat) : SM := fun r => match r[i]? with
  | some (.own xs) => .rl xs r
  | _ => .st
theorem ds_retO (i : Nat) {x : Str} {p2 : Pos} (hN : X.N[i]? = some x := by rfl) (hv : Vis X.env.scope x := by first | exact Or.inl rfl | exact Or.inr (Or.inl rfl) | exact Or.inr (Or.inr rfl))
    (hd : (x == ("__debug__" : Str)) = false := by decide) (hcd : (x == ("__classdict__" : Str)) = false := by decide) : DS X G B W (.Return (some (.Name x p2)) pos) (sRetO i) :=
  ps_weak (ps_ret (pe_var hN hv hd hcd)) fun D σ H ⟨F, ρ, hR, q⟩ => by
    unfold cS sRetO at q
    cases e : ρ[i]? with
    | none => simp only [e] at q
    | some sl =>
      cases sl with
      | own xs =>
        simp only [e] at q
        obtain ⟨a, vs, e1, h2, h3, h4, h5⟩ := hR.own i xs e
        exact ⟨.ref a, e1, q a vs F σ H (Same.refl _) hR h2 h3 h4 h5⟩
      | _ => simp only [e] at q
/-- return [..] -/
def sRetL (g : EM (List D)) : SM := SM.of g fun xs r => if xs.length ≤ 16777216 then .rl xs r else .st
theorem ds_retL {p2 : Pos} {g : EM (List D)} (he : DA X G B W es g) : DS X G B W (.Return (some (.List es p2)) pos) (sRetL g) :=
  ps_weak (ps_ret (pe_lst he)) fun D σ H ⟨F, ρ, hR, q⟩ => ⟨F, ρ, hR, (cS.of q).imp fun vs H1 ⟨xs, F1, ρ1, s1, r1, p1, q1⟩ => by
    unfold cS at q1
    by_cases hl : xs.length ≤ 16777216
    · simp only [if_pos hl] at q1
      exact ⟨by rw [p1.length, ← line_eq]; exact hl, fun p hp => q1 p vs F1 σ _ (Same.refl _) (r1.newU hp) (r1.fr hp) (r1.old hp) upd_same p1⟩
    · simp only [if_neg hl] at q1⟩
/-- x = [..], a list that will grow -/
def sSetO (i : Nat) (g : EM (List D)) : SM := SM.of g fun xs r => if xs.length ≤ 16777216 then .nx (r.set i (.own xs)) else .st
theorem ds_setO (i : Nat) {x : Str} {p2 : Pos} {g : EM (List D)} (hB : ∀ b, B.arg ≠ some (i, b)) (hN : X.N.Nodup) (he : DA X G B W es g) (hi : X.N[i]? = some x := by rfl) (hx : Loc X.env.scope x := by first | exact Or.inl rfl | exact Or.inr rfl) (hs : swapsWith (.List es p2) (some (.Name x pos')) pos.line X.env = pure false := by rfl)
    (hf : X.fn x = true ∨ X.env.scope.names.lookup x = some .local := by first | exact .inl rfl | exact .inr rfl) : DS X G B W (.Assign [.Name x pos'] (.List es p2) pos) (sSetO i g) :=
  ps_weak (ps_set (i := i) hN hi hx (pe_lst he) hs hf) fun D σ H ⟨F, ρ, hR, q⟩ => ⟨F, ρ, hR, (cS.of q).imp fun vs H1 ⟨xs, F1, ρ1, s1, r1, p1, q1⟩ => by
    obtain ⟨hl, q1⟩ := cS_if q1
    exact ⟨by rw [p1.length, ← line_eq]; exact hl, fun p hp => q1 F1 _ _ (Same.refl _) (r1.seto hB hp p1)⟩⟩
/-- a, b = e1, e2 and a, b, c = e1, e2, e3, local names -/
def setAll : List Nat → List D → Rho → Rho
  | i :: is, x :: xs, r => setAll is xs (r.set i (.d x))
  | _, _, r => r
def sPar (is : List Nat) (g : EM (List D)) : SM := SM.of g fun xs r => if xs.length = is.length then .nx (setAll is xs r) else .st
theorem ds_par2 (i j : Nat) {x y : Str} {px py pt : Pos} {kt k2 pt2} {g : EM (List D)} (hc : X.calm = true) (hN : X.N.Nodup) (h : DA X G B W [a, b] g) (hi : X.N[i]? = some x := by rfl) (hj : X.N[j]? = some y := by rfl) (hij : i ≠ j := by decide)
    (hx : X.env.scope.names.lookup x = some .local := by rfl) (hy : X.env.scope.names.lookup y = some .local := by rfl) (hw : swappedStores [.Tuple [.Name x px, .Name y py] kt pt] (.Tuple [a, b] k2 pt2) X.env = pure (some [x, y]) := by rfl) (hsw : swapsWithSole [.Tuple [.Name x px, .Name y py] kt pt] (.Tuple [a, b] k2 pt2) pos.line X.env = pure false := by rfl) :
    DS X G B W (.Assign [.Tuple [.Name x px, .Name y py] kt pt] (.Tuple [a, b] k2 pt2) pos) (sPar [i, j] g) :=
  ps_weak (ps_par hc hN hi hj hij hx hy h hw hsw) fun D σ H ⟨F, ρ, hR, q⟩ => ⟨F, ρ, hR, (cS.of q).imp fun vs H1 ⟨xs, F1, ρ1, s1, r1, p1, q1⟩ => by
    obtain ⟨hl, q1⟩ := cS_if q1
    match xs, hl, p1, q1 with
    | [u, v], _, p1, q1 =>
      obtain ⟨v1, v2, rfl, d1, d2⟩ := p1.two
      exact ⟨v1, v2, rfl, q1 F1 _ _ (Same.refl _) ((r1.setd d1).setd d2)⟩⟩
theorem ds_par3 (i j l : Nat) {x y z : Str} {px py pz pt : Pos} {kt k2 pt2} {g : EM (List D)} (hc : X.calm = true) (hN : X.N.Nodup) (h : DA X G B W [a, b, c] g) (hi : X.N[i]? = some x := by rfl) (hj : X.N[j]? = some y := by rfl) (hl : X.N[l]? = some z := by rfl)
    (hij : i ≠ j := by decide) (hil : i ≠ l := by decide) (hjl : j ≠ l := by decide)
    (hx : X.env.scope.names.lookup x = some .local := by rfl) (hy : X.env.scope.names.lookup y = some .local := by rfl) (hz : X.env.scope.names.lookup z = some .local := by rfl) (hw : swappedStores [.Tuple [.Name x px, .Name y py, .Name z pz] kt pt] (.Tuple [a, b, c] k2 pt2) X.env = pure (some [x, y, z]) := by rfl) (hsw : swapsWithSole [.Tuple [.Name x px, .Name y py, .Name z pz] kt pt] (.Tuple [a, b, c] k2 pt2) pos.line X.env = pure false := by rfl) :
    DS X G B W (.Assign [.Tuple [.Name x px, .Name y py, .Name z pz] kt pt] (.Tuple [a, b, c] k2 pt2) pos) (sPar [i, j, l] g) :=
  ps_weak (ps_par3 hc hN hi hj hl hij hil hjl hx hy hz h hw hsw) fun D σ H ⟨F, ρ, hR, q⟩ => ⟨F, ρ, hR, (cS.of q).imp fun vs H1 ⟨xs, F1, ρ1, s1, r1, p1, q1⟩ => by
    obtain ⟨hl, q1⟩ := cS_if q1
    match xs, hl, p1, q1 with
    | [u, v, w], _, p1, q1 =>
      obtain ⟨v1, rs, rfl, d1, p2⟩ := p1.inv
      obtain ⟨v2, v3, rfl, d2, d3⟩ := p2.two
      exact ⟨v1, v2, v3, rfl, q1 F1 _ _ (Same.refl _) (((r1.setd d1).setd d2).setd d3)⟩⟩
/-- x op= e -/
def sAug (i : Nat) (op : D → D → Option D) (f : EM D) : SM := fun r => match r[i]? with
  | some (.d x) => SM.of f (fun y r' => match op x y with
    | some z => .nx (r'.set i (.d z))
    | none => .st) r
  | _ => .st
theorem pip_of {op : Operator} {o2 : D → D → Option D} (h : OpD X G B (inplaceOp op) o2) : PIp X op (rD G B o2) := fun pins s σ H x y v u Q I rx ry q => augR h I rx ry q
theorem ds_aug (i : Nat) {x : Str} {op : Operator} {o2 : D → D → Option D} {f : EM D} (hN : X.N.Nodup) (ho : OpD X G B (inplaceOp op) o2) (he : DE X G B W e f) (hi : X.N[i]? = some x := by rfl) (hx : Loc X.env.scope x := by first | exact Or.inl rfl | exact Or.inr rfl)
    (hf : X.fn x = true ∨ X.env.scope.names.lookup x = some .local := by first | exact .inl rfl | exact .inr rfl) : DS X G B W (.AugAssign (.Name x pos') op e pos) (sAug i o2 f) :=
  ps_weak (ps_aug (i := i) hN hi hx he (pip_of ho) hf) fun D σ H ⟨F, ρ, hR, q⟩ => by
    unfold cS sAug at q
    cases e1 : ρ[i]? with
    | none => simp only [e1] at q
    | some sl =>
      cases sl with
      | d z =>
        simp only [e1] at q
        obtain ⟨v, e2, p⟩ := hR.dat i z e1
        refine ⟨v, e2, F, ρ, hR, (cS.of (k := fun y r' => match o2 z y with | some z => .nx (r'.set i (.d z)) | none => .st) q).imp fun y H1 ⟨dy, F1, ρ1, s1, r1, p1, q1⟩ => ?_⟩
        unfold cS at q1
        cases e3 : o2 z dy with
        | none => simp only [e3] at q1
        | some w =>
          simp only [e3] at q1
          exact ⟨F1, ρ1, σ, z, dy, w, r1, Den.mono s1 _ p, p1, e3, fun v2 F2 H2 s2 r2 p2 => q1 F2 _ H2 s2 (r2.setd p2)⟩
      | _ => simp only [e1] at q
/-- x.append(e), x[i] = e: a list of its own -/
def onOwn (i : Nat) (k : List D → Option (List D)) : SM := fun r => match r[i]? with
  | some (.own xs) => (match k xs with
    | some ys => .nx (r.set i (.own ys))
    | none => .st)
  | _ => .st
theorem cS_own {i : Nat} {k : List D → Option (List D)} {F : Hp} {ρ : Rho} {E : Ends} (h : cS G B W (onOwn i k) F ρ E) : ∃ xs ys, ρ[i]? = some (Sl.own xs) ∧ k xs = some ys ∧ ∀ F' σ' H', Same F F' → R G B F' (ρ.set i (.own ys)) σ' H' → E.nx σ' H' := by
  unfold cS onOwn at h
  cases e : ρ[i]? with
  | none => simp only [e] at h
  | some sl =>
    cases sl with
    | own xs =>
      simp only [e] at h
      cases e2 : k xs with
      | none => simp only [e2] at h
      | some ys => simp only [e2] at h; exact ⟨xs, ys, rfl, e2, h⟩
    | _ => simp only [e] at h
def hasOwn (i : Nat) (g : SM) : SM := fun r => match r[i]? with
  | some (.own _) => g r
  | _ => .st
theorem cS_has {i : Nat} {g : SM} {F : Hp} {ρ : Rho} {E : Ends} (h : cS G B W (hasOwn i g) F ρ E) : ∃ xs, ρ[i]? = some (Sl.own xs) ∧ cS G B W g F ρ E := by
  unfold cS hasOwn at h
  cases e : ρ[i]? with
  | none => simp only [e] at h
  | some sl =>
    cases sl with
    | own xs => simp only [e] at h; exact ⟨xs, rfl, h⟩
    | _ => simp only [e] at h
def sApp (i : Nat) (f : EM D) : SM := hasOwn i (SM.of f fun y => onOwn i fun xs => if xs.length < 16777216 then some (xs ++ [y]) else none)
theorem ds_app (i : Nat) {x : Str} {apos p2 : Pos} {f : EM D} (hk : G.K = X.K) (he : DE X G B W e f) (hN : X.N[i]? = some x := by rfl) (hv : Vis X.env.scope x := by first | exact Or.inl rfl | exact Or.inr (Or.inl rfl) | exact Or.inr (Or.inr rfl))
    (hd : (x == ("__debug__" : Str)) = false := by decide) (hcd : (x == ("__classdict__" : Str)) = false := by decide)
    (hbase : attributeBase (.Name x p2) "append" X.env (eval (.Name x p2) X.env) = eval (.Name x p2) X.env := by rfl)
    (hfew : ((backTo pos (starEach [e] X.env)).all (fun x => !x.1) && (backToKw pos (keywordEach [] X.env)).all (fun x => x.1.isSome)
      && decide ([e].length + ([] : List Keyword).length + (if ([] : List Keyword).isEmpty then 0 else 1) < 30)) = true := by rfl)
    (hline : (apos.endLine == pos.line) = true := by rfl) (hs : starEach [e] X.env = (false, eval e X.env) :: starEach [] X.env := by rfl) (hplain : (backTo pos (starEach [] X.env)).any (·.1) = false := by rfl)
    (hsw : swapsWith (.Call (.Attribute (.Name x p2) "append" apos) [e] [] pos) none pos'.line X.env = pure false := by rfl) :
    DS X G B W (.Expr (.Call (.Attribute (.Name x p2) "append" apos) [e] [] pos) pos') (sApp i f) :=
  ps_weak (ps_expr (pe_bm PySem.F.plainAttrs_list PySem.F.slot_list_append PySem.F.type_list_append mt_append (pe_var hN hv hd hcd) (pa_cons he pa_nil hs) hbase hfew hline hs hplain) hsw) fun D σ H ⟨F, ρ, hR, q⟩ => by
    obtain ⟨xs, e1, q⟩ := cS_has q
    obtain ⟨a, vs, e2, _, _, h4, _⟩ := hR.own i xs e1
    refine ⟨.ref a, e2, .inl ⟨rfl, vs, hk ▸ .of h4⟩, F, ρ, hR, (cS.of q).imp fun v H1 ⟨y, F1, ρ1, s1, r1, p1, q1⟩ => ?_⟩
    obtain ⟨ys, zs, e3, e4, q2⟩ := cS_own q1
    split at e4
    · rename_i hl
      cases e4
      obtain ⟨a2, ws, z1, h6, h7⟩ := own_at r1 e3 e2
      cases z1
      exact ⟨a, ws, v, rfl, rfl, h6, by rw [h7.length, ← line_eq]; exact hl, q2 F1 _ _ (Same.refl _) (r1.write e3 e2 (h7.append (.cons p1 .nil)))⟩
    · cases e4
def sSetIx (i : Nat) (fi f : EM D) : SM := SM.of f fun y => hasOwn i (SM.of fi fun j => onOwn i fun xs => match j with
  | .int z => (ixN xs.length z).map fun n => xs.set n y
  | _ => none)
theorem ds_setIx (i : Nat) {x : Str} {p2 : Pos} {f fi : EM D} (hk : G.K = X.K) (he : DE X G B W e f) (hj : DE X G B W b fi) (hN : X.N[i]? = some x := by rfl) (hv : Vis X.env.scope x := by first | exact Or.inl rfl | exact Or.inr (Or.inl rfl) | exact Or.inr (Or.inr rfl))
    (hd : (x == ("__debug__" : Str)) = false := by decide) (hcd : (x == ("__classdict__" : Str)) = false := by decide)
    (hpg : PG X (.Subscript (.Name x p2) b pos') (gSub (tVar i) (tX G B W (PD G) fi) rSetL))
    (hs : swapsWithSole [.Subscript (.Name x p2) b pos'] e pos.line X.env = pure false := by rfl) (hw : swappedStores [.Subscript (.Name x p2) b pos'] e X.env = pure none := by rfl) (h1 : (assignEach [.Subscript (.Name x p2) b pos'] X.env).map (·.2) = [assign (.Subscript (.Name x p2) b pos') X.env] := by rfl) : DS X G B W (.Assign [.Subscript (.Name x p2) b pos'] e pos) (sSetIx i fi f) :=
  ps_weak (ps_asg he hpg hs hw h1) fun D σ H ⟨F, ρ, hR, q⟩ => ⟨F, ρ, hR, (cS.of q).imp fun v H1 ⟨y, F1, ρ1, s1, r1, p1, q1⟩ => by
    obtain ⟨xs, e1, q1⟩ := cS_has q1
    obtain ⟨a, vs, e2, _, _, h4, _⟩ := r1.own i xs e1
    refine ⟨.ref a, e2, F1, ρ1, r1, (cS.of q1).imp fun j H2 ⟨dj, F2, ρ2, s2, r2, p2, q2⟩ => ?_⟩
    obtain ⟨ys, zs, e3, e4, q3⟩ := cS_own q2
    cases dj with
    | int z =>
      simp only [Option.map_eq_some_iff] at e4
      obtain ⟨n, e5, rfl⟩ := e4
      obtain ⟨a2, ws, z1, h6, h7⟩ := own_at r2 e3 e2
      cases z1
      exact ⟨a, ws, z, n, rfl, p2.int_inv, h6, by rw [h7.length]; exact e5, q3 F2 _ _ (Same.refl _) (r2.write e3 e2 (h7.set n (Den.mono s2 _ p1)))⟩
    | _ => simp only at e4; cases e4⟩
/-- len(x) of a list of its own -/
def dLenO (i : Nat) : EM D := fun r => match r[i]? with
  | some (.own xs) => .ok (.int xs.length) r
  | _ => .st
theorem de_lenO (i : Nat) {x : Str} {p p2 : Pos} (hk : G.K = X.K) (hm : X.mg "len" = none) (hN : X.N[i]? = some x := by rfl) (hv : Vis X.env.scope x := by first | exact Or.inl rfl | exact Or.inr (Or.inl rfl) | exact Or.inr (Or.inr rfl))
    (hd : (x == ("__debug__" : Str)) = false := by decide) (hcd : (x == ("__classdict__" : Str)) = false := by decide) (hg : Gl X "len" := by rfl)
    (hs : starEach [.Name x p2] X.env = (false, eval (.Name x p2) X.env) :: starEach [] X.env := by rfl) (hpl : (backTo pos (starEach [] X.env)).any (·.1) = false := by rfl) : DE X G B W (.Call (.Name "len" p) [.Name x p2] [] pos) (dLenO i) :=
  pe_weak (pe_callB call_len hg hm PySem.boot_len (pa_cons (pe_var hN hv hd hcd) pa_nil hs) (by decide) (by decide) hs hpl) fun σ H Q ⟨F, ρ, hR, h⟩ => by
    unfold cX dLenO at h
    cases e : ρ[i]? with
    | none => simp only [e] at h
    | some sl =>
      cases sl with
      | own xs =>
        simp only [e] at h
        obtain ⟨a, vs, e1, h2, h3, h4, h5⟩ := hR.own i xs e
        exact ⟨.ref a, e1, .ref a, xs.length, rfl, .inl ⟨vs, hk ▸ .of h4, h5.length.symm⟩, h _ F H (Same.refl _) hR .int⟩
      | _ => simp only [e] at h
end
end DL

namespace DL
open PySem PySem.Spec PyProof.Rows L2 NdefX
section
variable {X : Cx} {G : Gx} {B : Bs} {W : WX} {a b c e o tg iter : Expr} {es rest : List Expr} {pos pos' : Pos} {st : Stmt} {sts : List Stmt}

/-! ### what is walked -/
/-- the iterator J yields ds -/
def Faith (G : Gx) (J : It) (F : Hp) (ds : List D) : Prop :=
  ∀ (B : Bs) (ρ : Rho) (σ : L2.St) (F1 H1 : Hp), Same F F1 → R G B F1 ρ σ H1 → ∀ i : Nat, (i < ds.length → J.go i H1) ∧ (ds.length ≤ i → J.stop i H1) ∧
    ∀ x H2, J.yld i H1 x H2 → ∀ d, ds[i]? = some d → ∃ F2, Same F1 F2 ∧ Den G F2 d x ∧ R G B F2 ρ σ H2
theorem Faith.mono {J : It} {F F' : Hp} {ds : List D} (s : Same F F') (h : Faith G J F ds) : Faith G J F' ds := fun B ρ σ F1 H1 s1 => h B ρ σ F1 H1 (s.trans s1)
abbrev PFa (G : Gx) : Hp → List D → It → Prop := fun F ds J => Faith G J F ds
abbrev DI (X : Cx) (G : Gx) (B : Bs) (W : WX) (tg iter : Expr) (src : EM (List D)) : Prop := PI X tg iter (tX G B W (PFa G) src)
theorem pi_weak {t t' : TI} (h : PI X tg iter t) (i : ∀ σ H Q, t' σ H Q → t σ H Q) : PI X tg iter t' := ⟨fun pins s σ H Q I hq => h.run pins s σ H Q I (i σ H Q hq)⟩
def oLst : D → Option (List D)
  | .lst xs => some xs
  | _ => none
def oTup : D → Option (List D)
  | .tup xs => some xs
  | _ => none
def oStr : D → Option (List D)
  | .str s => some (s.map fun c => .str [c])
  | _ => none
def iOf (k : D → Option (List D)) (f : EM D) : EM (List D) := f.bind fun x => EM.lift (k x)
theorem di_list {f : EM D} (hk : G.K = X.K) (h : DE X G B W iter f) : DI X G B W tg iter (iOf oLst f) :=
  pi_weak (pi_list h) fun σ H Q ⟨F, ρ, hR, h⟩ => ⟨F, ρ, hR, (cX.bind h).imp fun v H1 ⟨x, F1, ρ1, s1, r1, p1, h1⟩ => by
    obtain ⟨ds, e, q⟩ := cX.lift h1
    cases x with
    | lst xs =>
      cases e
      obtain ⟨a, vs, rfl, q1, q2⟩ := p1.lst_inv
      refine ⟨a, rfl, ⟨vs, hk ▸ r1.sub.seq q1⟩, q (Itl X.K a) F1 H1 (Same.refl _) r1 ?_⟩
      rw [← hk]
      intro B ρ σ F2 H2 s2 hR i
      have q3 : SqL G.K H2 a vs := hR.sub.seq (s2.seq q1)
      refine ⟨fun hi => ?_, fun hi => ⟨vs, q3, by rw [q2.length]; exact hi⟩, fun x H3 ⟨e, y⟩ d hd => ?_⟩
      · have : i < vs.length := by rw [q2.length]; exact hi
        exact ⟨vs, vs[i], q3, by simp [this]⟩
      · subst e
        obtain ⟨v, e1, p⟩ := (Dens.mono s2 _ q2).get hd
        have := y vs q3
        rw [e1] at this; cases this
        exact ⟨F2, Same.refl _, p, hR⟩
    | _ => cases e⟩
theorem di_tup {f : EM D} (hk : G.K = X.K) (h : DE X G B W iter f) : DI X G B W tg iter (iOf oTup f) :=
  pi_weak (pi_tup h) fun σ H Q ⟨F, ρ, hR, h⟩ => ⟨F, ρ, hR, (cX.bind h).imp fun v H1 ⟨x, F1, ρ1, s1, r1, p1, h1⟩ => by
    obtain ⟨ds, e, q⟩ := cX.lift h1
    cases x with
    | tup xs =>
      cases e
      obtain ⟨a, vs, rfl, q1, q2⟩ := p1.tup_inv
      refine ⟨a, rfl, ⟨vs, hk ▸ SqT.mono r1.sub q1⟩, q (Itt X.K a) F1 H1 (Same.refl _) r1 ?_⟩
      rw [← hk]
      intro B ρ σ F2 H2 s2 hR i
      have q3 : SqT G.K H2 a vs := SqT.mono hR.sub (SqT.mono s2 q1)
      refine ⟨fun hi => ?_, fun hi => ⟨vs, q3, by rw [q2.length]; exact hi⟩, fun x H3 ⟨e, y⟩ d hd => ?_⟩
      · have : i < vs.length := by rw [q2.length]; exact hi
        exact ⟨vs, vs[i], q3, by simp [this]⟩
      · subst e
        obtain ⟨v, e1, p⟩ := (Dens.mono s2 _ q2).get hd
        have := y vs q3
        rw [e1] at this; cases this
        exact ⟨F2, Same.refl _, p, hR⟩
    | _ => cases e⟩
theorem di_str {f : EM D} (h : DE X G B W iter f) : DI X G B W tg iter (iOf oStr f) :=
  pi_weak (pi_str h) fun σ H Q ⟨F, ρ, hR, h⟩ => ⟨F, ρ, hR, (cX.bind h).imp fun v H1 ⟨x, F1, ρ1, s1, r1, p1, h1⟩ => by
    obtain ⟨ds, e, q⟩ := cX.lift h1
    cases x with
    | str s =>
      cases e
      refine ⟨mkStr s, p1.str_inv, q (Its (mkStr s)) F1 H1 (Same.refl _) r1 ?_⟩
      intro B ρ σ F2 H2 s2 hR i
      have hl : (mkStr s).cps.size = (s.map fun c => D.str [c]).length := by rw [List.length_map]; exact mk_len s
      refine ⟨fun hi => by show i < (mkStr s).cps.size; rw [hl]; exact hi, fun hi => by show (mkStr s).cps.size ≤ i; rw [hl]; exact hi, fun x H3 ⟨e, c, y1, y2⟩ d hd => ?_⟩
      subst e
      rw [List.getElem?_map] at hd
      have : s[i]? = some c := by simpa using y1
      rw [this] at hd
      cases hd
      subst y2
      exact ⟨F2, Same.refl _, Den.str (x := [c]), hR⟩
    | _ => cases e⟩
def rangeD (lo : Int) (n : Nat) : List D := (List.range n).map fun (i : Nat) => D.int (lo + (i : Int))
def okB (i : Int) : Bool := match i with
  | .ofNat n => Nat.ble n 4611686018427387903
  | .negSucc n => Nat.ble n 4611686018427387903
def oRng1 : List D → Option (List D)
  | [.int j] => if okB j then some (rangeD 0 j.toNat) else none
  | _ => none
def oRng2 : List D → Option (List D)
  | [.int i, .int j] => if okB i && okB j then some (rangeD i (j - i).toNat) else none
  | _ => none
theorem faith_range {F : Hp} (lo : Int) (n : Nat) : Faith G (Itr lo n) F (rangeD lo n) := by
  intro B ρ σ F2 H2 s2 hR i
  have hl : (rangeD lo n).length = n := by unfold rangeD; rw [List.length_map, List.length_range]
  refine ⟨fun hi => by rw [hl] at hi; exact hi, fun hi => by rw [hl] at hi; exact hi, fun x H3 ⟨e, y⟩ d hd => ?_⟩
  subst e
  subst y
  unfold rangeD at hd
  rw [List.getElem?_map] at hd
  by_cases hi : i < n
  · rw [List.getElem?_range hi] at hd
    cases hd
    exact ⟨F2, Same.refl _, .int, hR⟩
  · rw [List.getElem?_eq_none (by rw [List.length_range]; omega)] at hd; cases hd
def iArgs (k : List D → Option (List D)) (f : EM (List D)) : EM (List D) := f.bind fun x => EM.lift (k x)
theorem okB_of {i : Int} (h : okB i = true) : -(2 ^ 62) ≤ i ∧ i < 2 ^ 62 := by
  cases i with
  | ofNat n =>
    have z := Nat.le_of_ble_eq_true h
    have e : Int.ofNat n = (n : Int) := rfl
    rw [e]; omega
  | negSucc n =>
    have z := Nat.le_of_ble_eq_true h
    rw [Int.negSucc_eq]; omega
theorem di_range1 {p : Pos} {f : EM (List D)} (hm : X.mg "range" = none) (h : DA X G B W [a] f) (hg : Gl X "range" := by rfl) (hs : starEach [a] X.env = [(false, eval a X.env)] := by rfl) : DI X G B W tg (.Call (.Name "range" p) [a] [] pos) (iArgs oRng1 f) :=
  pi_weak (pi_range1 hg hm h hs) fun σ H Q ⟨F, ρ, hR, h⟩ => ⟨F, ρ, hR, (cX.bind h).imp fun vs H1 ⟨xs, F1, ρ1, s1, r1, p1, h1⟩ => by
    obtain ⟨ds, e, q⟩ := cX.lift h1
    unfold oRng1 at e
    split at e
    · split at e
      · rename_i j hj
        cases e
        obtain ⟨v, rfl, q1⟩ := p1.one
        rw [q1.int_inv]
        obtain ⟨h1, h2⟩ := okB_of hj
        exact ⟨j, rfl, h1, h2, q _ F1 H1 (Same.refl _) r1 (faith_range 0 j.toNat)⟩
      · cases e
    · cases e⟩
theorem di_range2 {p : Pos} {f : EM (List D)} (hm : X.mg "range" = none) (h : DA X G B W [a, b] f) (hg : Gl X "range" := by rfl) (hs : starEach [a, b] X.env = [(false, eval a X.env), (false, eval b X.env)] := by rfl) (hs2 : starEach [b] X.env = [(false, eval b X.env)] := by rfl) : DI X G B W tg (.Call (.Name "range" p) [a, b] [] pos) (iArgs oRng2 f) :=
  pi_weak (pi_range2 hg hm h hs hs2) fun σ H Q ⟨F, ρ, hR, h⟩ => ⟨F, ρ, hR, (cX.bind h).imp fun vs H1 ⟨xs, F1, ρ1, s1, r1, p1, h1⟩ => by
    obtain ⟨ds, e, q⟩ := cX.lift h1
    unfold oRng2 at e
    split at e
    · split at e
      · rename_i i j hj
        cases e
        obtain ⟨v, w, rfl, q1, q2⟩ := p1.two
        rw [q1.int_inv, q2.int_inv]
        obtain ⟨g1, g2⟩ := Bool.and_eq_true_iff.mp hj
        obtain ⟨h1, h2⟩ := okB_of g1
        obtain ⟨h3, h4⟩ := okB_of g2
        exact ⟨i, j, rfl, ⟨h1, h2, h3, h4⟩, q _ F1 H1 (Same.refl _) r1 (faith_range i (j - i).toNat)⟩
      · cases e
    · cases e⟩

/-! ### for, while -/
def forL (g : TgM) (body : SM) : List D → SM
  | [] => fun r => .nx r
  | x :: xs => fun r => match g x r with
    | some r1 => (match body r1 with
      | .nx r2 => forL g body xs r2
      | .ct r2 => forL g body xs r2
      | .bk r2 => .nx r2
      | o => o)
    | none => .st
def sFor (src : EM (List D)) (g : TgM) (body : SM) : SM := SM.of src fun xs => forL g body xs
theorem cS_forL {g : TgM} {body : SM} {x : D} {xs : List D} {F : Hp} {ρ : Rho} {E : Ends} (h : cS G B W (forL g body (x :: xs)) F ρ E) :
    ∃ ρ1, g x ρ = some ρ1 ∧ cS G B W body F ρ1 { E with nx := fun σ' H' => ∃ F' ρ', Same F F' ∧ R G B F' ρ' σ' H' ∧ cS G B W (forL g body xs) F' ρ' E, ct := fun σ' H' => ∃ F' ρ', Same F F' ∧ R G B F' ρ' σ' H' ∧ cS G B W (forL g body xs) F' ρ' E, bk := E.nx } := by
  unfold cS forL at h
  cases e : g x ρ with
  | none => simp only [e] at h
  | some ρ1 =>
    simp only [e] at h
    refine ⟨ρ1, rfl, ?_⟩
    unfold cS
    cases e2 : body ρ1 with
    | nx r2 => simp only [e2] at h ⊢; exact fun F' σ' H' s r => ⟨F', r2, s, r, cS.weak (g := forL g body xs) s h⟩
    | ct r2 => simp only [e2] at h ⊢; exact fun F' σ' H' s r => ⟨F', r2, s, r, cS.weak (g := forL g body xs) s h⟩
    | bk r2 => simp only [e2] at h ⊢; exact h
    | rt v r2 => simp only [e2] at h ⊢; exact h
    | rl v r2 => simp only [e2] at h ⊢; exact h
    | ex c xs r2 => simp only [e2] at h ⊢; exact h
    | st => simp only [e2] at h
theorem ds_for {src : EM (List D)} {vs : List Nat} {g : TgM} {body : SM} {bs : List Stmt} (hp : PassesOwn (model X.prog X.w) X.A X.env X.xe) (hc : X.calm = true) (hi : DI X G B W tg iter src) (hg : DG X G B tg vs g) (hb : DSs X G B W bs body)
    (hs : ∀ x, foldedSetIterable iter X.env x = pure x := by intro _; rfl) : DS X G B W (.For tg iter bs [] pos) (sFor src g body) :=
  ps_weak (ps_for hp hc hi hg hb hs) fun D0 σ H ⟨F, ρ, hR, q⟩ => ⟨F, ρ, hR, (cS.of q).imp fun J H1 ⟨ds, F1, ρ1, s1, r1, p1, q1⟩ => by
    refine ⟨fun i m σ H => ∃ F ρ, R G B F ρ σ H ∧ Faith G J F ds ∧ i + m = ds.length ∧ cS G B W (forL g body (ds.drop i)) F ρ D0, ⟨ds.length, F1, ρ1, r1, p1, Nat.zero_add _, by rw [List.drop_zero]; exact q1⟩, ?_⟩
    rintro i m σ2 H2 ⟨F2, ρ2, r2, p2, hm, q2⟩
    obtain ⟨h1, h2, h3⟩ := p2 B ρ2 σ2 F2 H2 (Same.refl _) r2 i
    by_cases hi : i < ds.length
    · have hd : ds.drop i = ds[i] :: ds.drop (i + 1) := List.drop_eq_getElem_cons hi
      rw [hd] at q2
      obtain ⟨ρ3, e3, q3⟩ := cS_forL q2
      refine .inr ⟨h1 hi, fun σ' H' => ∃ F ρ, R G B F ρ σ' H' ∧ Faith G J F ds ∧ cS G B W (forL g body (ds.drop (i + 1))) F ρ D0, fun σ' H' ⟨F, ρ, a1, a2, a3⟩ => ⟨m - 1, by omega, F, ρ, a1, a2, by omega, a3⟩, fun x H' hy => ?_⟩
      obtain ⟨F4, s4, p4, r4⟩ := h3 x H' hy ds[i] (List.getElem?_eq_getElem hi)
      refine ⟨F4, ρ2, ds[i], ρ3, r4, p4, e3, fun F5 σ5 H5 s5 r5 _ => ⟨F5, ρ3, r5, ?_⟩⟩
      have q4 := cS.weak (s4.trans s5) q3
      unfold cS at q4 ⊢
      cases e4 : body ρ3 with
      | nx r2 => simp only [e4] at q4 ⊢; exact fun F' σ' H' s r => by obtain ⟨F6, ρ6, z1, z2, z3⟩ := q4 F' σ' H' s r; exact ⟨F6, ρ6, z2, p2.mono z1, z3⟩
      | ct r2 => simp only [e4] at q4 ⊢; exact fun F' σ' H' s r => by obtain ⟨F6, ρ6, z1, z2, z3⟩ := q4 F' σ' H' s r; exact ⟨F6, ρ6, z2, p2.mono z1, z3⟩
      | bk r2 => simp only [e4] at q4 ⊢; exact q4
      | rt v r2 => simp only [e4] at q4 ⊢; exact q4
      | rl v r2 => simp only [e4] at q4 ⊢; exact q4
      | ex c xs r2 => simp only [e4] at q4 ⊢; exact q4
      | st => simp only [e4] at q4
    · rw [List.drop_eq_nil_of_le (by omega)] at q2
      exact .inl ⟨h2 (by omega), q2 F2 σ2 H2 (Same.refl _) r2⟩⟩
/-- while: by fuel, far more than any run has turns -/
def whileF (t : EM Bool) (body : SM) : Nat → SM
  | 0 => fun _ => .st
  | n + 1 => fun r => match t r with
    | .ok true r1 => (match body r1 with
      | .nx r2 => whileF t body n r2
      | .ct r2 => whileF t body n r2
      | .bk r2 => .nx r2
      | o => o)
    | .ok false r1 => .nx r1
    | .ex c xs r1 => .ex c xs r1
    | .st => .st
def fuel : Nat := 1000000000000000000000000000000
def sWhile (t : EM Bool) (body : SM) : SM := whileF t body fuel
theorem cS_while {t : EM Bool} {body : SM} {n : Nat} {F : Hp} {ρ : Rho} {σ : L2.St} {E : Ends} (h : cS G B W (whileF t body n) F ρ E) :
    ∃ m, n = m + 1 ∧ cX G B W PB t F ρ σ fun k H1 => ∃ F1 ρ1, Same F F1 ∧ R G B F1 ρ1 σ H1 ∧ if k = true then
      cS G B W body F1 ρ1 { E with nx := fun σ' H' => ∃ F' ρ', R G B F' ρ' σ' H' ∧ cS G B W (whileF t body m) F' ρ' E, ct := fun σ' H' => ∃ F' ρ', R G B F' ρ' σ' H' ∧ cS G B W (whileF t body m) F' ρ' E, bk := E.nx } else E.nx σ H1 := by
  cases n with
  | zero => unfold cS whileF at h; exact h.elim
  | succ m =>
    refine ⟨m, rfl, ?_⟩
    unfold cS whileF at h
    unfold cX
    cases e : t ρ with
    | ok k ρ1 =>
      simp only [e] at h
      intro b F1 H1 s1 r1 p1
      cases p1
      cases k with
      | false => simp only at h; exact ⟨F1, ρ1, s1, r1, iteF (h F1 σ H1 s1 r1)⟩
      | true =>
        refine ⟨F1, ρ1, s1, r1, iteT ?_⟩
        simp only at h
        unfold cS
        cases e2 : body ρ1 with
        | nx r2 => simp only [e2] at h ⊢; exact fun F' σ' H' s r => ⟨F', r2, r, cS.weak (g := whileF t body m) (s1.trans s) h⟩
        | ct r2 => simp only [e2] at h ⊢; exact fun F' σ' H' s r => ⟨F', r2, r, cS.weak (g := whileF t body m) (s1.trans s) h⟩
        | bk r2 => simp only [e2] at h ⊢; exact fun F' σ' H' s r => h F' σ' H' (s1.trans s) r
        | rt v r2 => simp only [e2] at h ⊢; exact fun v F' σ' H' s r => h v F' σ' H' (s1.trans s) r
        | rl v r2 => simp only [e2] at h ⊢; exact fun a us F' σ' H' s r => h a us F' σ' H' (s1.trans s) r
        | ex c xs r2 => simp only [e2] at h ⊢; exact fun cls d F' σ' H' s r => h cls d F' σ' H' (s1.trans s) r
        | st => simp only [e2] at h
    | ex c xs ρ1 => simp only [e] at h; exact fun cls d F' H' s r q => h cls d F' σ H' s r q
    | st => simp only [e] at h
theorem ds_while {t : EM Bool} {body : SM} {bs : List Stmt} (hp : PassesOwn (model X.prog X.w) X.A X.env X.xe) (hc : DT X G B W c t) (hb : DSs X G B W bs body) : DS X G B W (.While c bs [] pos) (sWhile t body) :=
  ps_weak (ps_while hp hc hb) fun D0 σ H ⟨F, ρ, hR, q⟩ => by
    refine ⟨fun m σ H => ∃ F ρ, R G B F ρ σ H ∧ cS G B W (whileF t body m) F ρ D0, ⟨fuel, F, ρ, hR, q⟩, ?_⟩
    rintro m σ2 H2 ⟨F2, ρ2, r2, q2⟩
    obtain ⟨n, rfl, q3⟩ := cS_while (σ := σ2) q2
    refine ⟨F2, ρ2, r2, q3.imp fun k H3 ⟨F3, ρ3, s3, r3, q4⟩ => ?_⟩
    cases k with
    | false => exact iteF (by rwa [if_neg Bool.false_ne_true] at q4)
    | true =>
      rw [if_pos rfl] at q4
      exact iteT ⟨fun σ' H' => ∃ F' ρ', R G B F' ρ' σ' H' ∧ cS G B W (whileF t body n) F' ρ' D0, fun σ' H' h => ⟨n, by omega, h⟩, F3, ρ3, r3, q4⟩

/-! ### comprehensions -/
def wipeR (vs : List Nat) (r : Rho) : Rho := vs.foldr (fun i r => r.set i .un) r
theorem wipeR_len (vs : List Nat) (r : Rho) : (wipeR vs r).length = r.length := by
  induction vs with
  | nil => rfl
  | cons v vs ih => show ((wipeR vs r).set v .un).length = _; rw [List.length_set, ih]
theorem wipeR_get {j : Nat} {r : Rho} : ∀ {vs : List Nat}, (wipeR vs r)[j]? = if j ∈ vs then (if j < r.length then some .un else none) else r[j]?
  | [] => rfl
  | v :: vs => by
    have hl : (wipeR vs r).length = r.length := wipeR_len vs r
    show ((wipeR vs r).set v .un)[j]? = _
    by_cases hv : j = v
    · subst hv
      rw [if_pos List.mem_cons_self]
      by_cases h : j < r.length
      · rw [if_pos h, List.getElem?_set_self (by rw [hl]; exact h)]
      · rw [if_neg h, List.getElem?_eq_none_iff, List.length_set, hl]; omega
    · rw [List.getElem?_set_ne (Ne.symm hv), wipeR_get (vs := vs)]
      by_cases hm : j ∈ vs
      · rw [if_pos hm, if_pos (List.mem_cons_of_mem _ hm)]
      · rw [if_neg hm, if_neg (fun z => (List.mem_cons.mp z).elim hv hm)]
/-- some slots are forgotten -/
theorem R.wipe {F H : Hp} {ρ : Rho} {σ : L2.St} (vs : List Nat) (r : R G B F ρ σ H) : R G B F (wipeR vs ρ) (L2.wipe σ vs) H := by
  have h : ∀ {j : Nat} {y : Sl}, (wipeR vs ρ)[j]? = some y → y ≠ .un → j ∉ vs ∧ ρ[j]? = some y := fun {j y} e n => by
    rw [wipeR_get] at e
    by_cases hj : j ∈ vs
    · rw [if_pos hj] at e
      split at e
      · exact absurd (Option.some.inj e).symm n
      · cases e
    · rw [if_neg hj] at e; exact ⟨hj, e⟩
  have hw : ∀ {j : Nat}, j ∉ vs → (L2.wipe σ vs)[j]? = σ[j]? := fun {j} hj => by rw [wipe_get, if_neg hj]
  refine ⟨r.same, r.tbl, r.sub, r.nt, r.nw, r.tabs, by rw [wipeR_len, wipe_length]; exact r.len, fun j x e => ?_, fun j xs e => ?_, fun j k ys zs a hjk e1 e2 e3 => ?_, fun j b xs e1 e => ?_⟩
  · obtain ⟨h1, h2⟩ := h e (by intro z; cases z)
    rw [hw h1]; exact r.dat j x h2
  · obtain ⟨h1, h2⟩ := h e (by intro z; cases z)
    rw [hw h1]; exact r.own j xs h2
  · obtain ⟨h1, h2⟩ := h e1 (by intro z; cases z)
    obtain ⟨h3, h4⟩ := h e2 (by intro z; cases z)
    rw [hw h1] at e3
    rw [hw h3]
    exact r.sep j k ys zs a hjk h2 h4 e3
  · obtain ⟨h1, h2⟩ := h e (by intro z; cases z)
    rw [hw h1]; exact r.arg j b xs e1 h2
/-- the slots as they were ahead of a comprehension, their lists as they are behind it -/
def backAt (o : Option Sl) (i : Nat) (s : Rho) : Rho := match o with
  | some (Sl.d x) => s.set i (Sl.d x)
  | _ => s.set i Sl.un
def backR (vs : List Nat) (r0 r : Rho) : Rho := vs.foldr (fun i s => backAt r0[i]? i s) r
theorem backR_len (vs : List Nat) (r0 r : Rho) : (backR vs r0 r).length = r.length := by
  induction vs with
  | nil => rfl
  | cons v vs ih =>
    show (backAt r0[v]? v (backR vs r0 r)).length = _
    unfold backAt
    split <;> rw [List.length_set, ih]
theorem backR_get {j : Nat} {r0 r : Rho} {y : Sl} : ∀ {vs : List Nat}, (backR vs r0 r)[j]? = some y → y ≠ .un → (j ∈ vs ∧ ∃ x, y = .d x ∧ r0[j]? = some (.d x)) ∨ (j ∉ vs ∧ r[j]? = some y)
  | [], e, _ => .inr ⟨List.not_mem_nil, e⟩
  | v :: vs, e, n => by
    have e : (backAt r0[v]? v (backR vs r0 r))[j]? = some y := e
    unfold backAt at e
    by_cases hv : j = v
    · subst hv
      refine .inl ⟨List.mem_cons_self, ?_⟩
      split at e
      · rename_i x hx
        rw [List.getElem?_set_self (lt_set e)] at e
        exact ⟨x, (Option.some.inj e).symm, hx⟩
      · rw [List.getElem?_set_self (lt_set e)] at e
        exact absurd (Option.some.inj e).symm n
    · have e2 : (backR vs r0 r)[j]? = some y := by
        split at e <;> rwa [List.getElem?_set_ne (Ne.symm hv)] at e
      rcases backR_get e2 n with ⟨h1, h2⟩ | ⟨h1, h2⟩
      · exact .inl ⟨List.mem_cons_of_mem _ h1, h2⟩
      · exact .inr ⟨fun z => (List.mem_cons.mp z).elim hv h1, h2⟩
theorem R.back {F0 F H0 H : Hp} {ρ0 ρ : Rho} {σ : L2.St} {vs : List Nat} (r0 : R G B F0 ρ0 σ H0) (s : Same F0 F) (r : R G B F ρ (L2.wipe σ vs) H) : R G B F (backR vs ρ0 ρ) σ H := by
  have hw : ∀ {j : Nat}, j ∉ vs → (L2.wipe σ vs)[j]? = σ[j]? := fun {j} hj => by rw [wipe_get, if_neg hj]
  refine ⟨r.same, r.tbl, r.sub, r.nt, r.nw, r.tabs, by rw [backR_len, r.len, wipe_length], fun j x e => ?_, fun j xs e => ?_, fun j k ys zs a hjk e1 e2 e3 => ?_, fun j b xs e1 e => ?_⟩
  · rcases backR_get e (by intro z; cases z) with ⟨h1, x', h2, h3⟩ | ⟨h1, h2⟩
    · cases h2
      obtain ⟨v, q1, q2⟩ := r0.dat j x h3
      exact ⟨v, q1, Den.mono s x q2⟩
    · rw [← hw h1]; exact r.dat j x h2
  · rcases backR_get e (by intro z; cases z) with ⟨h1, x', h2, h3⟩ | ⟨h1, h2⟩
    · cases h2
    · rw [← hw h1]; exact r.own j xs h2
  · rcases backR_get e1 (by intro z; cases z) with ⟨_, x', h2, _⟩ | ⟨h1, h2⟩
    · cases h2
    rcases backR_get e2 (by intro z; cases z) with ⟨_, x', h4, _⟩ | ⟨h3, h4⟩
    · cases h4
    rw [← hw h1] at e3
    rw [← hw h3]
    exact r.sep j k ys zs a hjk h2 h4 e3
  · rcases backR_get e (by intro z; cases z) with ⟨h1, x', h2, h3⟩ | ⟨h1, h2⟩
    · cases h2
    · rw [← hw h1]; exact r.arg j b xs e1 h2
def compL (vs : List Nat) (g : TgM) (t : EM Bool) (f : EM D) : List D → List D → EM (List D)
  | [], acc => EM.ret acc
  | x :: xs, acc => fun r => match g x r with
    | some r1 => (match t r1 with
      | .ok true r2 => (match f r2 with
        | .ok y r3 => if acc.length < 16777216 then compL vs g t f xs (acc ++ [y]) (wipeR vs r3) else .st
        | _ => .st)
      | .ok false r2 => compL vs g t f xs acc (wipeR vs r2)
      | _ => .st)
    | none => .st
/-- [f for g in src if t]; vs: the block's own names -/
def dComp (vs : List Nat) (src : EM (List D)) (g : TgM) (t : EM Bool) (f : EM D) : EM D := src.bind fun xs => fun r => match compL vs g t f xs [] (wipeR vs r) with
  | .ok ys r' => .ok (.lst ys) (backR vs r r')
  | _ => .st
abbrev W0 : WX := fun _ _ _ _ => False
/-- ours and the block's way to look at the entry -/
def blkB (B : Bs) (F H : Hp) (ρ : Rho) (σ : L2.St) : Bs := ⟨H, F, fun a => ∃ (i : Nat) (xs : List D), ρ[i]? = some (Sl.own xs) ∧ σ[i]? = some (some (V.ref a)), B.arg⟩
theorem R.into {F H : Hp} {ρ : Rho} {σ : L2.St} (r : R G B F ρ σ H) : R G (blkB B F H ρ σ) F ρ σ H :=
  ⟨fun b o e _ _ => e, fun b ps e => ⟨ps, e⟩, r.sub, r.nt, fun b o e _ => .inl e, r.tabs, r.len, r.dat, fun i xs e => by
    obtain ⟨a, vs, e1, e2, e3, e4, e5⟩ := r.own i xs e
    exact ⟨a, vs, e1, e2, .inr ⟨i, xs, e, e1⟩, e4, e5⟩, r.sep, r.arg⟩
theorem R.outof {F H F' H' : Hp} {ρ ρ' : Rho} {σ σ' : L2.St} (r : R G B F ρ σ H) (q : R G (blkB B F H ρ σ) F' ρ' σ' H') : R G B F' ρ' σ' H' := by
  have notW : ∀ {b : Addr}, (blkB B F H ρ σ).W b → (B.H0 b = none ∨ B.W b) := fun {b} ⟨i, xs, e, e1⟩ => by
    obtain ⟨a, vs, z1, z2, z3, _, _⟩ := r.own i xs e
    rw [e1] at z1
    have : b = a := by injection z1 with z1; injection z1 with z1; injection z1
    rw [this]; exact z3
  have old : ∀ {b : Addr}, H b = none → (B.H0 b = none ∨ B.W b) := fun h => r.old h
  refine ⟨fun b o e n w => ?_, fun b ps e => ?_, q.sub, q.nt, fun b o e l => ?_, q.tabs, q.len, q.dat, fun i xs e => ?_, q.sep, q.arg⟩
  · refine q.same b o (r.same b o e n w) n fun z => ?_
    rcases notW z with z | z
    · rw [e] at z; cases z
    · exact w z
  · obtain ⟨qs, e1⟩ := r.tbl b ps e
    exact q.tbl b qs e1
  · rcases q.nw b o e l with z | z | z
    · exact r.nw b o z l
    · exact .inr (old z)
    · exact .inr (notW z)
  · obtain ⟨a, vs, e1, e2, e3, e4, e5⟩ := q.own i xs e
    refine ⟨a, vs, e1, e2, ?_, e4, e5⟩
    rcases e3 with z | z
    · exact old z
    · exact notW z
abbrev DTs (X : Cx) (G : Gx) (B : Bs) (W : WX) (ifs : List Expr) (f : EM Bool) : Prop := PTs X ifs (tX G B W PB f)
def dYes : EM Bool := EM.ret true
theorem dts_nil : DTs X G B W [] dYes := ⟨fun pins s σ H Q I ⟨F, ρ, hR, h⟩ => pts_nil.run pins s σ H Q I (cX.ret h true F H (Same.refl _) hR rfl)⟩
theorem dts_one {f : EM Bool} (h : DT X G B W c f) : DTs X G B W [c] f := pts_one h
theorem R.frz {F H : Hp} {ρ : Rho} {σ : L2.St} {L : Addr} {vs : List V} (r : R G B F ρ σ H) (hL : H L = some (.lst vs)) (hF : F L = none) (hb : B.H0 L = none ∨ B.W L) (hn : ∀ (i : Nat) xs, ρ[i]? = some (Sl.own xs) → σ[i]? ≠ some (some (V.ref L))) : R G B (upd F L (.lst vs)) ρ σ H ∧ Same F (upd F L (.lst vs)) := by
  have sF : Same F (upd F L (.lst vs)) := same_upd hF
  refine ⟨⟨r.same, r.tbl, fun b o e => ?_, fun b o e => ?_, fun b o e l => ?_, r.tabs, r.len, fun i x e => ?_, fun i xs e => ?_, r.sep, r.arg⟩, sF⟩
  · by_cases h : b = L
    · subst h; rw [upd_same] at e; cases e; exact hL
    · rw [upd_ne h] at e; exact r.sub b o e
  · by_cases h : b = L
    · subst h; rw [upd_same] at e; cases e; intro ps z; cases z
    · rw [upd_ne h] at e; exact r.nt b o e
  · by_cases h : b = L
    · subst h; exact .inr hb
    · rw [upd_ne h] at e; exact r.nw b o e l
  · obtain ⟨v, e1, q⟩ := r.dat i x e
    exact ⟨v, e1, Den.mono sF x q⟩
  · obtain ⟨a, ws, e1, e2, e3, e4, e5⟩ := r.own i xs e
    have : a ≠ L := fun z => by subst z; exact hn i xs e e1
    exact ⟨a, ws, e1, by rw [upd_ne this]; exact e2, e3, e4, Dens.mono sF xs e5⟩
/-- a tracked list that is nobody's is written -/
theorem R.writeU {F H : Hp} {ρ : Rho} {σ : L2.St} {L : Addr} {vs ws : List V} (r : R G B F ρ σ H) (hL : H L = some (.lst vs)) (hF : F L = none) (hb : B.H0 L = none ∨ B.W L) (hn : ∀ (i : Nat) xs, ρ[i]? = some (Sl.own xs) → σ[i]? ≠ some (some (V.ref L))) : R G B F ρ σ (upd H L (.lst ws)) := by
  have other : ∀ {b : Addr} {o : HO}, H b = some o → (∀ us, o ≠ HO.lst us) → b ≠ L := fun {b o} h n z => by
    subst z; rw [hL] at h; cases h; exact n _ rfl
  refine ⟨fun b o e1 e2 e3 => ?_, fun b ps e1 => ?_, fun b o e => ?_, r.nt, r.nw, fun p hp => ?_, r.len, r.dat, fun i xs e => ?_, r.sep, r.arg⟩
  · have : b ≠ L := fun z => by
      subst z
      rcases hb with q | q
      · rw [e1] at q; cases q
      · exact e3 q
    rw [upd_ne this]; exact r.same b o e1 e2 e3
  · obtain ⟨qs, z⟩ := r.tbl b ps e1
    exact ⟨qs, by rw [upd_ne (other z (by intro _ z; cases z))]; exact z⟩
  · have : b ≠ L := fun z => by subst z; rw [hF] at e; cases e
    rw [upd_ne this]; exact r.sub b o e
  · obtain ⟨ps, q1, q2, q3⟩ := r.tabs p hp
    refine ⟨ps, by rw [upd_ne (other q1 (by intro _ z; cases z))]; exact q1, q2, fun pos cv hc => ?_⟩
    obtain ⟨c, z1, z2⟩ := q3 pos cv hc
    exact ⟨c, z1, by rw [upd_ne (other z2 (by intro _ z; cases z))]; exact z2⟩
  · obtain ⟨a, us, e1, e2, e3, e4, e5⟩ := r.own i xs e
    have : a ≠ L := fun z => by subst z; exact hn i xs e e1
    exact ⟨a, us, e1, e2, e3, by rw [upd_ne this]; exact e4, e5⟩
theorem compL_cons {vs : List Nat} {g : TgM} {t : EM Bool} {f : EM D} {x : D} {xs acc ys : List D} {r re : Rho} (h : compL vs g t f (x :: xs) acc r = .ok ys re) :
    ∃ r1 k r2, g x r = some r1 ∧ t r1 = .ok k r2 ∧ if k = true then ∃ y r3, f r2 = .ok y r3 ∧ acc.length < 16777216 ∧ compL vs g t f xs (acc ++ [y]) (wipeR vs r3) = .ok ys re else compL vs g t f xs acc (wipeR vs r2) = .ok ys re := by
  unfold compL at h
  cases e1 : g x r with
  | none => simp only [e1] at h; cases h
  | some r1 =>
    simp only [e1] at h
    cases e2 : t r1 with
    | ok k r2 =>
      simp only [e2] at h
      refine ⟨r1, k, r2, rfl, e2, ?_⟩
      cases k with
      | false => exact iteF h
      | true =>
        refine iteT ?_
        simp only at h
        cases e3 : f r2 with
        | ok y r3 =>
          simp only [e3] at h
          split at h
          · rename_i hl; exact ⟨y, r3, rfl, hl, h⟩
          · cases h
        | ex _ _ _ => simp only [e3] at h; cases h
        | st => simp only [e3] at h; cases h
    | ex _ _ _ => simp only [e2] at h; cases h
    | st => simp only [e2] at h; cases h
theorem wipe_idem (σ : L2.St) (vs : List Nat) : wipe (wipe σ vs) vs = wipe σ vs := by
  apply List.ext_getElem?
  intro j
  rw [wipe_get, wipe_get, wipe_length]
  by_cases h : j ∈ vs <;> simp [h]
/-- the state of a comprehension between two turns: L its list -/
structure Cmp (G : Gx) (B : Bs) (J : It) (ds : List D) (vs : List Nat) (g : TgM) (t : EM Bool) (f : EM D) (σ : L2.St) (L : Addr) (F0 : Hp) (rest : List D) (ys : List D) (ρe : Rho) (H : Hp) : Prop where
  ex : ∃ F ρ acc us, Same F0 F ∧ R G B F ρ σ H ∧ F L = none ∧ H L = some (.lst us) ∧ Dens G F acc us ∧ Faith G J F ds ∧ compL vs g t f rest acc ρ = .ok ys ρe ∧
    (B.H0 L = none ∨ B.W L) ∧ ∀ (i : Nat) xs, ρ[i]? = some (Sl.own xs) → σ[i]? ≠ some (some (V.ref L))
/-- behind a part of a turn the list at L stands -/
theorem blk_keeps {F H F' H' : Hp} {ρ ρ' : Rho} {σ σ' : L2.St} {L : Addr} {us : List V} (q : R G (blkB B F H ρ σ) F' ρ' σ' H') (hL : H L = some (.lst us)) (hF : F L = none) (hn : ∀ (i : Nat) xs, ρ[i]? = some (Sl.own xs) → σ[i]? ≠ some (some (V.ref L))) :
    H' L = some (.lst us) ∧ F' L = none ∧ ∀ (i : Nat) xs, ρ'[i]? = some (Sl.own xs) → σ'[i]? ≠ some (some (V.ref L)) := by
  have nW : ¬ (blkB B F H ρ σ).W L := fun ⟨i, xs, e, e1⟩ => hn i xs e e1
  refine ⟨q.same L _ hL (by intro ps z; cases z) nW, ?_, fun i xs e e1 => ?_⟩
  · cases e : F' L with
    | none => rfl
    | some o =>
      have l : IsL o := by
        have z := q.sub L o e
        rw [q.same L _ hL (by intro ps z; cases z) nW] at z
        cases z; exact trivial
      rcases q.nw L o e l with z | z | z
      · have z : F L = some o := z
        rw [hF] at z; cases z
      · have z : H L = none := z
        rw [hL] at z; cases z
      · exact absurd z nW
  · obtain ⟨a, ws, z1, z2, z3, z4, z5⟩ := q.own i xs e
    rw [e1] at z1
    have : L = a := by injection z1 with z1; injection z1 with z1; injection z1
    subst this
    rcases z3 with z | z
    · have z : H L = none := z
      rw [hL] at z; cases z
    · exact nW z
theorem pg_ex {t : Bs → TG} (h : ∀ B', PG X tg (t B')) : PG X tg (fun v σ H Q => ∃ B', t B' v σ H Q) := ⟨fun pins s σ H v u Q I r ⟨B', q⟩ => (h B').run pins s σ H v u Q I r q⟩
theorem pts_ex {ifs : List Expr} {t : Bs → TT} (h : ∀ B', PTs X ifs (t B')) : PTs X ifs (fun σ H Q => ∃ B', t B' σ H Q) := ⟨fun pins s σ H Q I ⟨B', q⟩ => (h B').run pins s σ H Q I q⟩
theorem pe_ex {t : Bs → TE} (h : ∀ B', PE X e (t B')) : PE X e (fun σ H Q => ∃ B', t B' σ H Q) := ⟨fun pins s σ H Q I ⟨B', q⟩ => (h B').run pins s σ H Q I q⟩
theorem comp_read {vs : List Nat} {src : EM (List D)} {g : TgM} {t : EM Bool} {f : EM D} {σ : L2.St} {H : Hp} {Q : VK} (h : tX G B W (PD G) (dComp vs src g t f) σ H Q) :
    tLc (tX G B W (PFa G) src) (fun v σ H Q => ∃ B', tG G B' vs g v σ H Q) (fun σ H Q => ∃ B', tX G B' W0 PB t σ H Q) (fun σ H Q => ∃ B', tX G B' W0 (PD G) f σ H Q) vs σ H Q := by
  obtain ⟨F, ρ, hR, h⟩ := h
  refine ⟨F, ρ, hR, (cX.bind h).imp fun J H1 ⟨ds, F1, ρ1, s1, r1, p1, h1⟩ => ?_⟩
  intro L hL
  unfold cX at h1
  cases e0 : compL vs g t f ds [] (wipeR vs ρ1) with
  | ex _ _ _ => simp only [e0] at h1
  | st => simp only [e0] at h1
  | ok ys ρe =>
    simp only [e0] at h1
    have rn : R G B F1 (wipeR vs ρ1) (wipe σ vs) (upd H1 L (.lst [])) := (r1.wipe vs).newU hL
    refine ⟨fun i m H => i + m = ds.length ∧ Cmp G B J ds vs g t f (wipe σ vs) L F1 (ds.drop i) ys ρe H, ⟨ds.length, Nat.zero_add _, ⟨F1, _, [], [], Same.refl _, rn, r1.fr hL, upd_same, .nil, p1, by rw [List.drop_zero]; exact e0, r1.old hL, fun i xs e e1 => ?_⟩⟩, ?_⟩
    · obtain ⟨a, ws, z1, z2, z3, z4, z5⟩ := (r1.wipe vs).own i xs e
      rw [e1] at z1
      have : L = a := by injection z1 with z1; injection z1 with z1; injection z1
      subst this
      rw [hL] at z4; cases z4
    · rintro i m H2 ⟨hm, F2, ρ2, acc, us, s2, r2, f2, l2, a2, p2, c2, o2, n2⟩
      obtain ⟨j1, j2, j3⟩ := p2 (blkB B F2 H2 ρ2 (wipe σ vs)) ρ2 (wipe σ vs) F2 H2 (Same.refl _) r2.into i
      by_cases hi : i < ds.length
      · have hd : ds.drop i = ds[i] :: ds.drop (i + 1) := List.drop_eq_getElem_cons hi
        rw [hd] at c2
        obtain ⟨ρ3, k, ρ4, g1, g2, g3⟩ := compL_cons c2
        refine .inr ⟨j1 hi, fun H' => Cmp G B J ds vs g t f (wipe σ vs) L F1 (ds.drop (i + 1)) ys ρe H', fun H' q => ⟨m - 1, by omega, by omega, q⟩, fun x H' hy => ?_⟩
        obtain ⟨F3, s3, d3, r3⟩ := j3 x H' hy ds[i] (List.getElem?_eq_getElem hi)
        refine ⟨_, F3, ρ2, ds[i], ρ3, r3, d3, g1, fun F4 σ4 H4 s4 r4 w4 => ?_⟩
        rw [wipe_idem] at w4
        refine ⟨w4, _, F4, ρ3, r4, ?_⟩
        unfold cX
        simp only [g2]
        rintro b F5 H5 s5 r5 rfl
        cases k with
        | false =>
          rw [if_neg Bool.false_ne_true] at g3
          refine iteF ?_
          obtain ⟨k1, k2, k3⟩ := blk_keeps r5 l2 f2 n2
          have r6 := (r2.outof r5).wipe vs
          rw [w4] at r6
          have s6 := s3.trans (s4.trans s5)
          refine ⟨F5, _, acc, us, s2.trans s6, r6, k2, k1, Dens.mono s6 acc a2, p2.mono s6, g3, o2, fun i xs e e1 => ?_⟩
          obtain ⟨z1, z2, z3⟩ := blk_keeps (r5.wipe vs) l2 f2 n2
          rw [w4] at z3
          exact z3 i xs e e1
        | true =>
          rw [if_pos rfl] at g3
          obtain ⟨y, ρ5, g4, hl, g5⟩ := g3
          refine iteT ⟨_, F5, ρ4, r5, ?_⟩
          unfold cX
          simp only [g4]
          intro v F6 H6 s7 r7 d7
          obtain ⟨k1, k2, k3⟩ := blk_keeps r7 l2 f2 n2
          have s6 := s3.trans (s4.trans (s5.trans s7))
          have a7 := Dens.mono s6 acc a2
          refine ⟨us, k1, by rw [a7.length, ← line_eq]; exact hl, ?_⟩
          have r8 := (r2.outof r7).wipe vs
          rw [w4] at r8
          obtain ⟨z1, z2, z3⟩ := blk_keeps (r7.wipe vs) l2 f2 n2
          rw [w4] at z3
          exact ⟨F6, _, acc ++ [y], us ++ [v], s2.trans s6, r8.writeU k1 k2 o2 z3, k2, upd_same, a7.append (.cons d7 .nil), p2.mono s6, g5, o2, z3⟩
      · rw [List.drop_eq_nil_of_le (by omega)] at c2
        unfold compL at c2
        cases c2
        obtain ⟨r9, s9⟩ := r2.frz l2 f2 o2 n2
        exact .inl ⟨j2 (by omega), h1 _ _ H2 (s2.trans s9) (R.back r1 (s2.trans s9) r9) (.lst (.of upd_same) (Dens.mono s9 _ a2))⟩
theorem de_comp {vs : List Nat} {own : List (Str × Nat)} {ifs : List Expr} {scope : Scope} {src : EM (List D)} {g : TgM} {t : EM Bool} {f : EM D} (hc : X.calm = true) (hN : X.N.Nodup) (hi : DI X G B W tg iter src) (ok : blkC X.N X.env.scope scope own = true)
    (hg : ∀ (B' : Bs) (s : Shared) (H : Hp) (C : Addr) (cl : List (Str × Addr)) (fp : List Addr), DG (X.blk s H scope (compEnvC scope cl C X.env) fp) G B' tg vs g) (ht : ∀ (B' : Bs) (s : Shared) (H : Hp) (C : Addr) (cl : List (Str × Addr)) (fp : List Addr), DTs (X.blk s H scope (compEnvC scope cl C X.env) fp) G B' W0 ifs t)
    (he : ∀ (B' : Bs) (s : Shared) (H : Hp) (C : Addr) (cl : List (Str × Addr)) (fp : List Addr), DE (X.blk s H scope (compEnvC scope cl C X.env) fp) G B' W0 e f) (hv : own.map (·.2) = vs := by rfl) (hs : ∀ x, foldedSetIterable iter X.env x = pure x := by intro _; rfl) :
    DE X G B W (.ListComp e [⟨tg, iter, ifs, 0⟩] scope pos) (dComp vs src g t f) := by
  subst hv
  exact pe_weak (pe_lc hc hN hi (blkOk_by ok) (fun s H C cl fp => pg_ex fun B' => hg B' s H C cl fp) (fun s H C cl fp => pts_ex fun B' => ht B' s H C cl fp) (fun s H C cl fp => pe_ex fun B' => he B' s H C cl fp) hs) fun σ H Q h => comp_read h
/-- x = [..] on one line -/
theorem ds_setComp (i : Nat) {y : Str} {py spos : Pos} {vs : List Nat} {own : List (Str × Nat)} {ifs : List Expr} {scope : Scope} {src : EM (List D)} {g : TgM} {t : EM Bool} {f : EM D} (hc : X.calm = true) (hN : X.N.Nodup) (hi : DI X G B W tg iter src) (ok : blkC X.N X.env.scope scope own = true)
    (hg : ∀ (B' : Bs) (s : Shared) (H : Hp) (C : Addr) (cl : List (Str × Addr)) (fp : List Addr), DG (X.blk s H scope (compEnvC scope cl C X.env) fp) G B' tg vs g) (ht : ∀ (B' : Bs) (s : Shared) (H : Hp) (C : Addr) (cl : List (Str × Addr)) (fp : List Addr), DTs (X.blk s H scope (compEnvC scope cl C X.env) fp) G B' W0 ifs t)
    (he : ∀ (B' : Bs) (s : Shared) (H : Hp) (C : Addr) (cl : List (Str × Addr)) (fp : List Addr), DE (X.blk s H scope (compEnvC scope cl C X.env) fp) G B' W0 e f) (hv : own.map (·.2) = vs := by rfl) (hs : ∀ x, foldedSetIterable iter X.env x = pure x := by intro _; rfl)
    (hy : X.N[i]? = some y := by rfl) (hyl : X.env.scope.names.lookup y = some .local := by rfl)
    (hsw : swapsWith (.ListComp e [⟨tg, iter, ifs, 0⟩] scope pos) (some (.Name y py)) spos.line X.env = pure true := by exact sw_true rfl rfl rfl (by decide +kernel)) :
    DS X G B W (.Assign [.Name y py] (.ListComp e [⟨tg, iter, ifs, 0⟩] scope pos) spos) (sAsg (dComp vs src g t f) (gSet i)) := by
  subst hv
  exact ps_weak (ps_setLc hc hN hy hyl hsw hi (blkOk_by ok) (fun s H C cl fp => pg_ex fun B' => hg B' s H C cl fp) (fun s H C cl fp => pts_ex fun B' => ht B' s H C cl fp) (fun s H C cl fp => pe_ex fun B' => he B' s H C cl fp) hs) fun D0 σ H ⟨F, ρ, hR, q⟩ =>
    comp_read ⟨F, ρ, hR, (cS.of q).imp fun v H1 ⟨x, F1, ρ1, s1, r1, p1, q1⟩ => q1 F1 _ H1 (Same.refl _) (r1.setd p1)⟩
end
end DL

namespace DL
open PySem PySem.Spec PyProof.Rows L2 NdefX
section
variable {X : Cx} {G : Gx} {B : Bs} {W : WX} {a b c e o tg iter : Expr} {es rest : List Expr} {pos pos' p : Pos} {st : Stmt} {sts : List Stmt}

/-! ### what a def promises -/
/-- behind a call: F, H became F', H' -/
structure Ret (G : Gx) (F F' H H' : Hp) : Prop where
  sF : Same F F'
  sub : Same F' H'
  nt : ∀ b o, F' b = some o → ∀ ps, o ≠ HO.tbl ps
  nw : ∀ b o, F' b = some o → IsL o → F b = some o ∨ H b = none
  ext : ∀ b o, H b = some o → (∀ ps, o ≠ HO.tbl ps) → H' b = some o
  tbl : ∀ b ps, H b = some (HO.tbl ps) → ∃ qs, H' b = some (HO.tbl qs)
  tabs : LamX.Tabs G.T H'
structure Pre (G : Gx) (F H : Hp) : Prop where
  sub : Same F H
  nt : ∀ b o, F b = some o → ∀ ps, o ≠ HO.tbl ps
  tabs : LamX.Tabs G.T H
def spP (G : Gx) (n : Nat) (m : List D → FO) : Sp := fun vs H Q E => ∃ F xs, Pre G F H ∧ Dens G F xs vs ∧ xs.length = n ∧ match m xs with
  | .ok x => ∀ v F' H', Ret G F F' H H' → Den G F' x v → Q v H'
  | .lst ys => ∀ a vs F' H', Ret G F F' H H' → F' a = none → H a = none → H' a = some (.lst vs) → Dens G F' ys vs → Q (.ref a) H'
  | .ex c ys => ∀ cls d F' H', Ret G F F' H H' → ExD G F' c ys cls d → E cls d H'
  | .st => False
theorem spP_len {n : Nat} {m : List D → FO} {vs : List V} {H : Hp} {Q : VK} {E : XK} (h : spP G n m vs H Q E) : vs.length = n := by
  obtain ⟨F, xs, _, p, e, _⟩ := h
  rw [p.length, e]
theorem R.pre {F H : Hp} {ρ : Rho} {σ : L2.St} (r : R G B F ρ σ H) : Pre G F H := ⟨r.sub, r.nt, r.tabs⟩
theorem R.after {F F' H H' : Hp} {ρ : Rho} {σ : L2.St} (r : R G B F ρ σ H) (t : Ret G F F' H H') : R G B F' ρ σ H' := by
  refine ⟨fun b o e n w => t.ext b o (r.same b o e n w) n, fun b ps e => ?_, t.sub, t.nt, fun b o e l => ?_, t.tabs, r.len, fun i x e => ?_, fun i xs e => ?_, r.sep, r.arg⟩
  · obtain ⟨qs, q⟩ := r.tbl b ps e
    exact t.tbl b qs q
  · rcases t.nw b o e l with z | z
    · exact r.nw b o z l
    · exact .inr (r.old z)
  · obtain ⟨v, e1, q⟩ := r.dat i x e
    exact ⟨v, e1, Den.mono t.sF x q⟩
  · obtain ⟨a, vs, e1, e2, e3, e4, e5⟩ := r.own i xs e
    refine ⟨a, vs, e1, ?_, e3, t.ext a _ e4 (by intro ps z; cases z), Dens.mono t.sF xs e5⟩
    cases q : F' a with
    | none => rfl
    | some o =>
      have l : IsL o := by
        have z := t.sub a o q
        rw [t.ext a _ e4 (by intro ps z; cases z)] at z
        cases z; exact trivial
      rcases t.nw a o q l with z | z
      · rw [e2] at z; cases z
      · rw [e4] at z; cases z
/-- as the callee sees its entry -/
def inB (F H : Hp) : Bs := ⟨H, F, fun _ => False, none⟩
def mInit (n : Nat) (xs : List D) : Rho := xs.map Sl.d ++ List.replicate (n - xs.length) Sl.un
theorem R.start {F H : Hp} {N : List Str} {xs : List D} {vs : List V} (q : Pre G F H) (p : Dens G F xs vs) : R G (inB F H) F (mInit N.length xs) (L2.start N vs) H := by
  have hl := p.length
  refine ⟨fun b o e _ _ => e, fun b ps e => ⟨ps, e⟩, q.sub, q.nt, fun b o e _ => .inl e, q.tabs, ?_, fun i x e => ?_, fun i ys e => ?_, fun i j ys zs a _ e => ?_, fun i b ys e => by cases e⟩
  · unfold mInit L2.start
    rw [List.length_append, List.length_append, List.length_map, List.length_map, List.length_replicate, List.length_replicate, hl]
  · unfold mInit at e
    by_cases hi : i < xs.length
    · rw [List.getElem?_append_left (by rw [List.length_map]; exact hi), List.getElem?_map] at e
      cases e2 : xs[i]? with
      | none => rw [e2] at e; cases e
      | some y =>
        rw [e2] at e; cases e
        obtain ⟨v, h1, h2⟩ := p.get e2
        refine ⟨v, ?_, h2⟩
        unfold L2.start
        rw [List.getElem?_append_left (by rw [List.length_map, hl]; exact hi), List.getElem?_map, h1]
        rfl
    · rw [List.getElem?_append_right (by rw [List.length_map]; omega), List.getElem?_replicate] at e
      split at e <;> cases e
  · unfold mInit at e
    by_cases hi : i < xs.length
    · rw [List.getElem?_append_left (by rw [List.length_map]; exact hi), List.getElem?_map] at e
      cases e2 : xs[i]? with
      | none => rw [e2] at e; cases e
      | some y => rw [e2] at e; cases e
    · rw [List.getElem?_append_right (by rw [List.length_map]; omega), List.getElem?_replicate] at e
      split at e <;> cases e
  · unfold mInit at e
    by_cases hi : i < xs.length
    · rw [List.getElem?_append_left (by rw [List.length_map]; exact hi), List.getElem?_map] at e
      cases e2 : xs[i]? with
      | none => rw [e2] at e; cases e
      | some y => rw [e2] at e; cases e
    · rw [List.getElem?_append_right (by rw [List.length_map]; omega), List.getElem?_replicate] at e
      split at e <;> cases e
theorem R.ret {F F' H H' : Hp} {ρ : Rho} {σ : L2.St} (r : R G (inB F H) F' ρ σ H') (s : Same F F') : Ret G F F' H H' :=
  ⟨s, r.sub, r.nt, fun b o e l => by
    rcases r.nw b o e l with z | z | z
    · exact .inl z
    · exact .inr z
    · exact z.elim, fun b o e n => r.same b o e n id, r.tbl, r.tabs⟩
def mRun (n : Nat) (g : SM) (xs : List D) : FO := match g (mInit n xs) with
  | .nx _ => .ok .non
  | .rt x _ => .ok x
  | .rl ys _ => .lst ys
  | .ex c ys _ => .ex c ys
  | _ => .st
/-- a def's body keeps its promise -/
theorem body_ok {N : List Str} {n : Nat} {g : SM} {vs : List V} {H : Hp} {Q : VK} {E : XK} (h : spP G n (mRun N.length g) vs H Q E) : ∃ F, tS G (inB F H) (fun cls d _ H' => E cls d H') g { nx := fun _ H' => Q .non H', rt := Q } (L2.start N vs) H := by
  obtain ⟨F, xs, q, p, hl, h⟩ := h
  refine ⟨F, F, mInit N.length xs, R.start q p, ?_⟩
  unfold cS
  unfold mRun at h
  cases e : g (mInit N.length xs) with
  | nx r => simp only [e] at h ⊢; exact fun F' σ' H' s r => h .non F' H' (r.ret s) .non
  | rt x r => simp only [e] at h ⊢; exact fun v F' σ' H' s r d => h v F' H' (r.ret s) d
  | rl ys r => simp only [e] at h ⊢; exact fun a us F' σ' H' s r z1 z2 z3 z4 => h a us F' H' (r.ret s) z1 (z2.elim id False.elim) z3 z4
  | ex c ys r => simp only [e] at h ⊢; exact fun cls d F' σ' H' s r x => h cls d F' H' (r.ret s) x
  | bk r => simp only [e] at h
  | ct r => simp only [e] at h
  | st => simp only [e] at h
abbrev FnD (P : Program) (w : World) (mg : Str → Option Value) (base : Heap) (G : Gx) (k : Nat) (f : Addr) (fd : FuncData) (ps : List Str) (m : List D → FO) : Prop := FnOk P w G.K mg base (L2.CX P w) k f fd ps (spP G ps.length m)
section
variable {P : Program} {w : World} {mg : Str → Option Value} {base : Heap} {x qual : Str} {params : Arguments} {body : List Stmt} {scope : Scope} {dvs : List V} {kws : List (Str × V)} {f : Addr} {fd : FuncData} {N ps : List Str} {k : Nat}
/-- THE RULE: a def by its body -/
theorem fn_ok {g : SM} (F : FunD G.K x qual params body scope dvs kws f fd) (S : FnScope N ps scope)
    (hbody : ∀ (B : Bs) (W : WX) (X : Cx), X.prog = P → X.w = w → X.K = G.K → X.mg = mg → X.base = base → Room k X.A → Takes X W → ∀ (cdv : Value) (A : Around) (outer : List Env) (s : Shared) (H : Hp) (E : XK), X = cxOf (L2.CX P w) P w G.K mg base N qual scope f cdv A outer s H E → B.arg = none → DSs X G B W body g) : FnD P w mg base G (k + 1) f fd ps (mRun N.length g) := by
  refine F.ok S (fun vs H Q E h => spP_len h) fun cdv A outer s H vs Q E hr h => ?_
  obtain ⟨F0, q⟩ := body_ok h
  refine ⟨_, hbody (inB F0 H) (fun cls d _ H' => E cls d H') _ rfl rfl rfl rfl rfl hr (takes_of rfl rfl rfl rfl) cdv A outer s H E rfl rfl, q⟩
end
/-! ### a call -/
def FO.em : FO → EM D
  | .ok x => EM.ret x
  | .lst ys => EM.ret (.lst ys)
  | .ex c ys => fun r => .ex c ys r
  | .st => fun _ => .st
def dCall (m : List D → FO) (g : EM (List D)) : EM D := g.bind fun xs => (m xs).em
def dCallD (ds : List D) (m : List D → FO) (g : EM (List D)) : EM D := dCall (fun xs => m (xs ++ ds)) g
theorem noOwn {F H : Hp} {ρ : Rho} {σ : L2.St} (r : R G B F ρ σ H) {a : Addr} (h : H a = none) (i : Nat) (xs : List D) (e : ρ[i]? = some (Sl.own xs)) : σ[i]? ≠ some (some (V.ref a)) := fun e1 => by
  obtain ⟨b, ws, z1, z2, z3, z4, z5⟩ := r.own i xs e
  rw [e1] at z1
  have : a = b := by injection z1 with z1; injection z1 with z1; injection z1
  subst this
  rw [h] at z4; cases z4
theorem cX_call {n : Nat} {m : List D → FO} {xs : List D} {F H : Hp} {ρ : Rho} {σ : L2.St} {Q : VK} {vs : List V} (hl : xs.length = n) (r : R G B F ρ σ H) (p : Dens G F xs vs)
    (h : cX G B W (PD G) (m xs).em F ρ σ Q) : spP G n m vs H Q (WE W σ) := by
  refine ⟨F, xs, r.pre, p, hl, ?_⟩
  unfold cX at h
  cases e : m xs with
  | ok x => simp only [e, FO.em, EM.ret] at h ⊢; exact fun v F' H' t d => h v F' H' t.sF (r.after t) d
  | lst ys =>
    simp only [e, FO.em, EM.ret] at h ⊢
    intro a vs F' H' t z1 z2 z3 z4
    obtain ⟨r2, s2⟩ := (r.after t).frz z3 z1 (r.old z2) (noOwn r z2)
    exact h _ _ H' (t.sF.trans s2) r2 (.lst (.of upd_same) (Dens.mono s2 _ z4))
  | ex c ys => simp only [e, FO.em] at h ⊢; exact fun cls d F' H' t x => h cls d F' H' t.sF (r.after t) x
  | st => simp only [e, FO.em] at h
/-- what a mirror asks of how many arguments there are -/
def arity (n : Nat) (m : List D → FO) : List D → FO := fun xs => if xs.length = n then m xs else .st
theorem spP_arity {n : Nat} {m : List D → FO} {vs : List V} {H : Hp} {Q : VK} {E : XK} (h : spP G n (arity n m) vs H Q E) : spP G n m vs H Q E := by
  obtain ⟨F, xs, q, p, hl, h⟩ := h
  refine ⟨F, xs, q, p, hl, ?_⟩
  unfold arity at h
  rwa [if_pos hl] at h
theorem fnK {ps : List Str} {f : Addr} {fd : FuncData} {k : Nat} {m : List D → FO} (hk : G.K = X.K) (Fn : FnD X.prog X.w X.mg X.base G k f fd ps m) : FnOk X.prog X.w X.K X.mg X.base (L2.CX X.prog X.w) k f fd ps (spP G ps.length m) := by
  have z := Fn
  unfold FnD at z
  rw [hk] at z
  exact z
theorem de_call {x : Str} {f : Addr} {fd : FuncData} {ps : List Str} {k j : Nat} {m : List D → FO} {g : EM (List D)} (Fn : FnD X.prog X.w X.mg X.base G k f fd ps m) (hk : G.K = X.K) (hr : Room j X.A) (hkj : k ≤ j) (hm : X.mg x = some (.ref f)) (kp : PySem.W.keepIn X.K (.ref f) = true) (bi : Binds X.K fd ps []) (tk : Takes X W) (ha : DA X G B W (e :: es) g)
    (hg : Gl X x := by rfl) (hdb : (x == ("__debug__" : Str)) = false := by decide) (he : starEach (e :: es) X.env = (false, eval e X.env) :: starEach es X.env := by rfl) (hpl : (backTo pos (starEach es X.env)).any (·.1) = false := by rfl) : DE X G B W (.Call (.Name x p) (e :: es) [] pos) (dCall (arity ps.length m) g) :=
  pe_weak (pe_callS (fnK hk Fn) (hr.mono hkj) hg hm kp bi (fun σ => passAt tk σ) ha hdb he hpl) fun σ H Q ⟨F, ρ, hR, h⟩ => ⟨F, ρ, hR, (cX.bind h).imp fun vs H1 ⟨xs, F1, ρ1, s1, r1, p1, h1⟩ => by
    have hl : xs.length = ps.length := by
      unfold cX arity at h1
      by_cases hl : xs.length = ps.length
      · exact hl
      · simp only [if_neg hl, FO.em] at h1
    exact spP_arity (cX_call hl r1 p1 h1)⟩
/-- with defaults behind -/
theorem de_callD {x : Str} {f : Addr} {fd : FuncData} {ps : List Str} {k j : Nat} {m : List D → FO} {g : EM (List D)} {ds : List Value} {dvs : List V} {dd : List D} (Fn : FnD X.prog X.w X.mg X.base G k f fd ps m) (hk : G.K = X.K) (hr : Room j X.A) (hkj : k ≤ j) (hm : X.mg x = some (.ref f)) (kp : PySem.W.keepIn X.K (.ref f) = true) (bi : Binds X.K fd ps ds) (hd : Vals dvs ds) (hdd : ∀ F, Dens G F dd dvs) (tk : Takes X W) (ha : DA X G B W (e :: es) g)
    (hg : Gl X x := by rfl) (hdb : (x == ("__debug__" : Str)) = false := by decide) (he : starEach (e :: es) X.env = (false, eval e X.env) :: starEach es X.env := by rfl) (hpl : (backTo pos (starEach es X.env)).any (·.1) = false := by rfl) : DE X G B W (.Call (.Name x p) (e :: es) [] pos) (dCallD dd (arity ps.length m) g) :=
  pe_weak (pe_callSD (fnK hk Fn) (hr.mono hkj) hg hm kp bi hd (fun σ => passAt tk σ) ha hdb he hpl) fun σ H Q ⟨F, ρ, hR, h⟩ => ⟨F, ρ, hR, (cX.bind h).imp fun vs H1 ⟨xs, F1, ρ1, s1, r1, p1, h1⟩ => by
    have hl : (xs ++ dd).length = ps.length := by
      unfold cX arity at h1
      by_cases hl : (xs ++ dd).length = ps.length
      · exact hl
      · simp only [if_neg hl, FO.em] at h1
    have p2 := p1.append (hdd F1)
    unfold cX at h1
    have h2 : cX G B W (PD G) (arity ps.length m (xs ++ dd)).em F1 ρ1 σ Q := h1
    exact spP_arity (cX_call hl r1 p2 h2)⟩
end
end DL

namespace DL
open PySem PySem.Spec PyProof.Rows L2 NdefX
section
variable {X : Cx} {G : Gx} {B : Bs} {W : WX} {a b c e o tg iter : Expr} {es rest : List Expr} {pos pos' p : Pos} {st : Stmt} {sts : List Stmt}

/-- what is never come to -/
def sNever : SM := fun _ => .st
theorem ds_never : DS X G B W st sNever := ps_weak ps_never fun D σ H ⟨F, ρ, hR, q⟩ => q
theorem dss_never : DSs X G B W sts sNever := pss_weak pss_never fun D σ H ⟨F, ρ, hR, q⟩ => q

/-! ### isinstance -/
def tyOf : D → Option String
  | .non => some "NoneType"
  | .bl _ => some "bool"
  | .int _ => some "int"
  | .str _ => some "str"
  | .tup _ => some "tuple"
  | .lst _ => some "list"
  | _ => none
def isiTab : String → String → Option Bool
  | "NoneType", "int" => some false
  | "NoneType", "str" => some false
  | "NoneType", "tuple" => some false
  | "NoneType", "list" => some false
  | "NoneType", "bool" => some false
  | "bool", "int" => some true
  | "bool", "str" => some false
  | "bool", "tuple" => some false
  | "bool", "list" => some false
  | "bool", "bool" => some true
  | "int", "int" => some true
  | "int", "str" => some false
  | "int", "tuple" => some false
  | "int", "list" => some false
  | "int", "bool" => some false
  | "str", "int" => some false
  | "str", "str" => some true
  | "str", "tuple" => some false
  | "str", "list" => some false
  | "str", "bool" => some false
  | "tuple", "int" => some false
  | "tuple", "str" => some false
  | "tuple", "tuple" => some true
  | "tuple", "list" => some false
  | "tuple", "bool" => some false
  | "list", "int" => some false
  | "list", "str" => some false
  | "list", "tuple" => some false
  | "list", "list" => some true
  | "list", "bool" => some false
  | _, _ => none
theorem isiTab_ok {a b : String} {r : Bool} (h : isiTab a b = some r) : kitB a b = some r := by
  unfold isiTab at h
  split at h <;> first | (cases h; decide +kernel) | cases h
theorem tyOf_ok {F H : Hp} (s : Same F H) : ∀ {d : D} {v : V} {t : String}, tyOf d = some t → Den G F d v → TyX G.K H v (.type t)
  | .non, v, t, e, h => by cases e; rw [h.non_inv]; exact .base .non
  | .bl b, v, t, e, h => by cases e; rw [h.bl_inv]; exact .base (.bl b)
  | .int i, v, t, e, h => by cases e; rw [h.int_inv]; exact .base (.int i)
  | .str z, v, t, e, h => by cases e; rw [h.str_inv]; exact .base (.str _)
  | .tup ds, v, t, e, h => by
    cases e
    obtain ⟨a, vs, rfl, q, _⟩ := h.tup_inv
    rcases SqT.mono s q with (q | ⟨o, q⟩) | ⟨o, its, n, q1, q2, _⟩
    · exact .base (.tup q)
    · exact .fTuple q
    · exact .kTuple q1 q2
  | .lst ds, v, t, e, h => by
    cases e
    obtain ⟨a, vs, rfl, q, _⟩ := h.lst_inv
    rcases s.seq q with (q | ⟨o, q⟩) | ⟨o, its, n, q1, q2, _⟩
    · exact .base (.lst q)
    · exact .base (.frz q)
    · exact .kList q1 q2
  | .obj _ _, _, _, e, _ => by cases e
  | .clo _ _, _, _, e, _ => by cases e
  | .ref _, _, _, e, _ => by cases e
  | .ty _, _, _, e, _ => by cases e
def bIsi : List D → Option D
  | [x, .ty T] => (tyOf x).bind fun t => (isiTab t T).map .bl
  | _ => none
theorem cd_isi (hk : G.K = X.K) : CallD X G B (.builtin "isinstance") bIsi := callD_of call_isi fun vs H Q ⟨F, ρ, σ, xs, d, hR, p, e, k⟩ => by
  unfold bIsi at e
  split at e
  · rename_i x T
    obtain ⟨t, e1, e2⟩ := Option.bind_eq_some_iff.mp e
    obtain ⟨r, e3, rfl⟩ := Option.map_eq_some_iff.mp e2
    obtain ⟨v, w, rfl, q1, q2⟩ := p.two
    rw [q2.ty_inv]
    exact ⟨v, .ty T, .type t, .type T, r, rfl, .ty T, hk ▸ tyOf_ok hR.sub e1 q1, kit_ty (isiTab_ok e3), k _ F H (Same.refl _) hR .bl⟩
  · cases e

/-! ### all, any -/
def bools : List D → Option (List Bool)
  | [] => some []
  | .bl k :: ds => (bools ds).map (k :: ·)
  | _ => none
theorem bools_ok {F : Hp} : ∀ {ds : List D} {bs : List Bool} {vs : List V}, bools ds = some bs → Dens G F ds vs → vs = bs.map V.bl
  | [], bs, vs, e, h => by cases e; rw [h.inv_nil]; rfl
  | d :: ds, bs, vs, e, h => by
    obtain ⟨v, r, rfl, q, t⟩ := h.inv
    cases d with
    | bl k =>
      simp only [bools, Option.map_eq_some_iff] at e
      obtain ⟨bs', e1, rfl⟩ := e
      rw [q.bl_inv, bools_ok e1 t]
      rfl
    | _ => simp only [bools] at e; cases e
def bAll : List D → Option D
  | [.lst ds] => (bools ds).map fun bs => .bl (bs.all id)
  | _ => none
def bAny : List D → Option D
  | [.lst ds] => (bools ds).map fun bs => .bl (bs.any id)
  | _ => none
theorem cd_all (hk : G.K = X.K) (hc : X.calm = true) : CallD X G B (.builtin "all") bAll := callD_of (cr_all hc) fun vs H Q ⟨F, ρ, σ, xs, d, hR, p, e, k⟩ => by
  unfold bAll at e
  split at e
  · obtain ⟨bs, e1, rfl⟩ := Option.map_eq_some_iff.mp e
    obtain ⟨v, rfl, q⟩ := p.one
    obtain ⟨a, vs, rfl, q1, q2⟩ := q.lst_inv
    rw [bools_ok e1 q2] at q1
    exact ⟨a, bs, rfl, hk ▸ hR.sub.seq q1, k _ F H (Same.refl _) hR .bl⟩
  · cases e
theorem cd_any (hk : G.K = X.K) (hc : X.calm = true) : CallD X G B (.builtin "any") bAny := callD_of (cr_any hc) fun vs H Q ⟨F, ρ, σ, xs, d, hR, p, e, k⟩ => by
  unfold bAny at e
  split at e
  · obtain ⟨bs, e1, rfl⟩ := Option.map_eq_some_iff.mp e
    obtain ⟨v, rfl, q⟩ := p.one
    obtain ⟨a, vs, rfl, q1, q2⟩ := q.lst_inv
    rw [bools_ok e1 q2] at q1
    exact ⟨a, bs, rfl, hk ▸ hR.sub.seq q1, k _ F H (Same.refl _) hR .bl⟩
  · cases e

/-! ### tuple, list -/
def bTuple : List D → Option D
  | [.lst xs] => some (.tup xs)
  | [.tup xs] => some (.tup xs)
  | _ => none
theorem cd_tuple (hk : G.K = X.K) : CallD X G B (.type "tuple") bTuple := by
  intro pins s σ H vs us Q I r h
  obtain ⟨F, ρ, σ2, xs, d, hR, p, e, k⟩ := h
  unfold bTuple at e
  split at e
  · cases e
    obtain ⟨v, rfl, q⟩ := p.one
    obtain ⟨a, vs, rfl, q1, q2⟩ := q.lst_inv
    obtain ⟨u, rfl, ru⟩ := vals1 r
    refine rl_tuple pins s σ H _ u Q I ru (.inl ⟨a, vs, rfl, hk ▸ hR.sub.seq q1, fun p hp => ?_⟩)
    obtain ⟨r', s'⟩ := hR.new (o := .tup vs) hp (by intro ps z; cases z)
    exact k _ _ _ s' r' (.tup (.of upd_same) (Dens.mono s' _ q2))
  · cases e
    obtain ⟨v, rfl, q⟩ := p.one
    obtain ⟨a, vs, rfl, q1, q2⟩ := q.tup_inv
    obtain ⟨u, rfl, ru⟩ := vals1 r
    exact rl_tuple pins s σ H _ u Q I ru (.inr ⟨a, vs, rfl, hk ▸ SqT.mono hR.sub q1, k _ F H (Same.refl _) hR (.tup q1 q2)⟩)
  · cases e

/-! ### sorted of intsD -/
def intsD : List D → Option (List Int)
  | [] => some []
  | .int k :: ds => (intsD ds).map (k :: ·)
  | _ => none
theorem ints_ok {F : Hp} : ∀ {ds : List D} {bs : List Int} {vs : List V}, intsD ds = some bs → Dens G F ds vs → vs = bs.map V.int
  | [], bs, vs, e, h => by cases e; rw [h.inv_nil]; rfl
  | d :: ds, bs, vs, e, h => by
    obtain ⟨v, r, rfl, q, t⟩ := h.inv
    cases d with
    | int k =>
      simp only [intsD, Option.map_eq_some_iff] at e
      obtain ⟨bs', e1, rfl⟩ := e
      rw [q.int_inv, ints_ok e1 t]
      rfl
    | _ => simp only [intsD] at e; cases e
theorem dens_ints {F : Hp} : ∀ (ns : List Int), Dens G F (ns.map D.int) (ns.map V.int)
  | [] => .nil
  | n :: ns => .cons .int (dens_ints ns)
/-- into a rising list -/
def ins (n : Int) : List Int → List Int
  | [] => [n]
  | m :: ms => if n ≤ m then n :: m :: ms else m :: ins n ms
def srt : List Int → List Int
  | [] => []
  | n :: ns => ins n (srt ns)
theorem ins_perm (n : Int) : ∀ ms : List Int, (ins n ms).Perm (n :: ms)
  | [] => List.Perm.refl _
  | m :: ms => by
    unfold ins
    split
    · exact List.Perm.refl _
    · exact ((ins_perm n ms).cons m).trans (List.Perm.swap n m ms)
theorem srt_perm : ∀ ns : List Int, (srt ns).Perm ns
  | [] => List.Perm.refl _
  | n :: ns => (ins_perm n (srt ns)).trans ((srt_perm ns).cons n)
theorem ins_up (n : Int) : ∀ {ms : List Int}, ms.Pairwise (· ≤ ·) → (ins n ms).Pairwise (· ≤ ·)
  | [], _ => by unfold ins; exact List.pairwise_singleton _ _
  | m :: ms, h => by
    unfold ins
    rw [List.pairwise_cons] at h
    split
    · rename_i hn
      rw [List.pairwise_cons]
      refine ⟨fun x hx => ?_, List.pairwise_cons.mpr h⟩
      rcases List.mem_cons.mp hx with rfl | hx
      · exact hn
      · exact Int.le_trans hn (h.1 x hx)
    · rename_i hn
      rw [List.pairwise_cons]
      refine ⟨fun x hx => ?_, ins_up n h.2⟩
      rcases List.mem_cons.mp ((ins_perm n ms).mem_iff.mp hx) with rfl | hx
      · omega
      · exact h.1 x hx
theorem srt_up : ∀ ns : List Int, (srt ns).Pairwise (· ≤ ·)
  | [] => List.Pairwise.nil
  | n :: ns => ins_up n (srt_up ns)
theorem srt_uniq {ns ms : List Int} (h : ns.Perm ms) (u : ns.Pairwise (· ≤ ·)) : ns = srt ms :=
  List.Perm.eq_of_pairwise (le := fun a b : Int => a ≤ b) (fun a b _ _ h1 h2 => Int.le_antisymm h1 h2) u (srt_up ms) (h.trans (srt_perm ms).symm)
def bSorted : List D → Option D
  | [.lst xs] => (intsD xs).map fun ns => .lst ((srt ns).map .int)
  | [.tup xs] => (intsD xs).map fun ns => .lst ((srt ns).map .int)
  | _ => none
theorem collect_tup {prog : Program} {w : World} {A : Around} {E : Value → Shared → Prop} {s : Shared} {l : Addr} {vs : List Value} {Q : List Value → Shared → Prop} (hl : IsTup s.heap l vs.toArray)
    (h : Q vs { s with heap := (s.heap.push (seqObj "list" #[] 0)).update s.heap.objs.size (Obj.mapSeq (· ++ vs.toArray)) }) (hsz : vs.length ≤ sizeLine) :
    wpAny (model prog w) A (collect (.ref l)) Q E s := by
  obtain ⟨o, ho, hc, n, hd⟩ := id hl
  unfold collect
  refine wpAny_bind (wpAny_runValue (codeAny_builtin entry_proto_collect' ?_))
  show wpAny _ _ (do again (.builtin "list.__iadd__" ⟨[← newList [], .ref l], []⟩)) _ _ s
  refine wpAny_bind (wpAny_newList (wpAny_pure ⟨Code.quiet_builtin _ (by decide +kernel), codeAny_builtin entry_list_iadd' ?_⟩))
  show wpAny _ _ (Builtin.List.listExtendWith (.ref s.heap.objs.size) (.ref l) (.ref s.heap.objs.size)) _ _ { s with heap := s.heap.push (seqObj "list" #[] 0) }
  unfold Builtin.List.listExtendWith
  have ho' : (s.heap.push (seqObj "list" #[] 0)).get? l = some o := Heap.get?_push_of_some _ ho
  refine wpAny_bind (wpAny_typeOf (T := "tuple") ⟨o, ho', hc⟩ ?_)
  have ht : (Value.type "tuple" == Value.type "tuple") = true := by rfl
  rw [if_pos (by rw [ht]; simp)]
  refine wpAny_bind (listItems_at ho' hd ?_)
  refine wpAny_bind (listItems_at (xs := #[]) (n := 0) (Heap.get?_push_size _ rfl) rfl ?_)
  rw [if_neg (by simp)]
  refine wpAny_bind (listUpdate_at (xs := #[]) (n := 0) (Heap.get?_push_size _ rfl) rfl ?_ (Nat.zero_le _) (by show (#[] ++ vs.toArray).size ≤ sizeLine + 1; simp only [Array.size_append, List.size_toArray, List.length_nil]; omega))
  refine wpAny_pure ?_
  show wpAny (model prog w) A (do
      let o ← load s.heap.objs.size
      match o.data with
      | .seq xs _ => pure xs.toList
      | _ => unsupported "internal:collect") Q E { s with heap := (s.heap.push (seqObj "list" #[] 0)).update s.heap.objs.size (Obj.mapSeq (· ++ vs.toArray)) }
  refine wpAny_bind (wpAny_load (get?_update_seq (Heap.get?_push_size _ rfl) _) ?_)
  show wpAny _ _ (pure ((#[] : Array Value) ++ vs.toArray).toList) Q E _
  rw [show ((#[] : Array Value) ++ vs.toArray).toList = vs by simp]
  exact wpAny_pure h
theorem sorted_ordT {prog : Program} {w : World} {A : Around} {E : Value → Shared → Prop} {s : Shared} {l : Addr} {vs : List Value} {ltv : Value → Value → Bool} {Q : Value → Shared → Prop} (O : SrtO.Swo ltv) (hl : IsTup s.heap l vs.toArray) (hz : vs.length ≤ sizeLine)
    (hS : 2 ≤ vs.length → ∀ (h₁ : Heap) (a : Addr), h₁.get? a = some (seqObj "list" vs.toArray 0) → (∀ b o, s.heap.get? b = some o → b ≠ a ∧ h₁.get? b = some o) → SrtO.SortableO prog w A.in1.in1 { s with heap := h₁ } a vs ltv)
    (h : ∀ out : List Value, SrtO.Srtd ltv out → SrtO.Stb ltv out vs → Q (.ref (s.heap.objs.size + 1)) { s with heap := sortedAll s.heap vs out.toArray }) :
    wpAny (model prog w) A (call (.builtin "sorted") [.ref l]) Q E s := by
  refine Calls.call_function_entry kind_sorted plain_sorted entry_sorted (args_sorted1 _) ?_
  unfold Builtin.«sorted»
  refine wpAny_bind (m := checkCount "sorted" 1 1 _) (wpAny_pure ?_)
  refine wpAny_bind (collect_tup hl ?_ hz)
  refine wpAny_bind (wpAny_newList ?_ hz)
  have hsz : ((s.heap.push (seqObj "list" #[] 0)).update s.heap.objs.size (Obj.mapSeq (· ++ vs.toArray))).objs.size = s.heap.objs.size + 1 := by
    rw [Heap.size_update, size_push']
  have hoL : (((s.heap.push (seqObj "list" #[] 0)).update s.heap.objs.size (Obj.mapSeq (· ++ vs.toArray))).push (seqObj "list" vs.toArray 0)).get? (s.heap.objs.size + 1) = some (seqObj "list" vs.toArray 0) := by
    rw [← hsz]; exact Heap.get?_push_size _ rfl
  have keep : ∀ b o, s.heap.get? b = some o → b ≠ s.heap.objs.size + 1 ∧ (((s.heap.push (seqObj "list" #[] 0)).update s.heap.objs.size (Obj.mapSeq (· ++ vs.toArray))).push (seqObj "list" vs.toArray 0)).get? b = some o := fun b o q => by
    have hlt : b < s.heap.objs.size := Heap.lt_size q
    refine ⟨Nat.ne_of_lt (Nat.lt_succ_of_lt hlt), Heap.get?_push_of_some _ ?_⟩
    rw [Heap.get?_update_ne _ _ _ _ (Nat.ne_of_lt hlt)]
    exact Heap.get?_push_of_some _ q
  show wpAny _ _ _ _ _ { s with heap := ((s.heap.push (seqObj "list" #[] 0)).update s.heap.objs.size (Obj.mapSeq (· ++ vs.toArray))).push (seqObj "list" vs.toArray 0) }
  rw [hsz]
  refine wpAny_bind (wpAny_holding (wpAny_call_entry slot_list_sort ⟨_, hoL, rfl⟩ entry_list_sort (SrtO.list_sort_ord O hoL hz (fun h2 => hS h2 _ _ hoL keep) fun out hs hb => ⟨_, rfl, ?_⟩) (args_list_sort _)))
  exact wpAny_pure ⟨_, rfl, h out hs hb⟩
theorem cr_sortedTI : CallR X (.builtin "sorted") (fun vs H Q => ∃ (a : Addr) (ns : List Int), vs = [V.ref a] ∧ SqT X.K H a (ns.map V.int) ∧
    ∀ (ns' : List Int) (p : Addr), ns'.Perm ns → ns'.Pairwise (· ≤ ·) → H p = none → Q (.ref p) (upd H p (.lst (ns'.map V.int)))) := by
  intro pins s σ H vs us Q I r h
  obtain ⟨a, ns, rfl, hs, q⟩ := h
  obtain ⟨its, rv, hl, hz⟩ := I.tuple hs
  rw [Vals.ref1 r]
  have hi := rv.ints
  refine sorted_ordT SrtO.swo_int hl (by rw [← rv.length]; exact hz) (fun h2 h₁ a' _ _ => SrtO.ints_sortable hi h2) fun out h1 h2 => ?_
  obtain ⟨k1, k2, k3⟩ := SrtO.ints_out hi h1 h2
  obtain ⟨ep, he'⟩ := PyProof.Rows.sortedAll_at s.heap its out.toArray
  have hlen : ((out.map SrtO.iv).map V.int).length ≤ sizeLine := by
    rw [List.length_map, k2.length_eq]
    rw [List.length_map] at hz
    exact hz
  exact ⟨.ref _, upd H (s.heap.objs.size + 1) (.lst ((out.map SrtO.iv).map V.int)), I.laid (t' := s.toks) (fun _ _ => PyProof.Rows.sortedAll_old) (Nat.le_succ _) ⟨hlen, out, ep, vals_of_ints k1, he'⟩, rfl, q _ _ k2 k3 (I.hok.fresh (Nat.le_succ _))⟩
theorem CallR.or {f : Value} {r r' : List V → Hp → VK → Prop} (h : CallR X f r) (h' : CallR X f r') : CallR X f (fun vs H Q => r vs H Q ∨ r' vs H Q) := fun pins s σ H xs us Q I rx q => q.elim (h pins s σ H xs us Q I rx) (h' pins s σ H xs us Q I rx)
theorem cd_sorted (hk : G.K = X.K) : CallD X G B (.builtin "sorted") bSorted := callD_of (CallR.or cr_sortedI cr_sortedTI) fun vs H Q ⟨F, ρ, σ, xs, d, hR, p, e, k⟩ => by
  have fin : ∀ (ns ns' : List Int) (p : Addr), (∀ v F' H', Same F F' → R G B F' ρ σ H' → Den G F' (.lst ((srt ns).map .int)) v → Q v H') → ns'.Perm ns → ns'.Pairwise (· ≤ ·) → H p = none → Q (.ref p) (upd H p (.lst (ns'.map V.int))) := fun ns ns' p k h1 h2 hp => by
    rw [srt_uniq h1 h2]
    obtain ⟨r', s'⟩ := hR.new (o := .lst ((srt ns).map V.int)) hp (by intro ps z; cases z)
    exact k _ _ _ s' r' (.lst (.of upd_same) (dens_ints _))
  unfold bSorted at e
  split at e
  · obtain ⟨ns, e1, rfl⟩ := Option.map_eq_some_iff.mp e
    obtain ⟨v, rfl, q⟩ := p.one
    obtain ⟨a, vs, rfl, q1, q2⟩ := q.lst_inv
    rw [ints_ok e1 q2] at q1
    exact .inl ⟨a, ns, rfl, hk ▸ hR.sub.seq q1, fun ns' p h1 h2 hp => fin ns ns' p k h1 h2 hp⟩
  · obtain ⟨ns, e1, rfl⟩ := Option.map_eq_some_iff.mp e
    obtain ⟨v, rfl, q⟩ := p.one
    obtain ⟨a, vs, rfl, q1, q2⟩ := q.tup_inv
    rw [ints_ok e1 q2] at q1
    exact .inr ⟨a, ns, rfl, hk ▸ SqT.mono hR.sub q1, fun ns' p h1 h2 hp => fin ns ns' p k h1 h2 hp⟩
  · cases e
end
end DL

namespace DL
open PySem PySem.Spec PyProof.Rows L2 NdefX
section
variable {X : Cx} {G : Gx} {B : Bs} {W : WX} {a b c e o tg iter : Expr} {es rest : List Expr} {pos pos' p : Pos} {st : Stmt} {sts : List Stmt}
/-! ### defs that write the caller's list, their first argument -/
inductive UO where
  | ok (x : D) (us : List D) | ex (c : Nat) (ys us : List D) | st
structure RetU (G : Gx) (a : Addr) (F F' H H' : Hp) : Prop where
  sF : Same F F'
  sub : Same F' H'
  nt : ∀ b o, F' b = some o → ∀ ps, o ≠ HO.tbl ps
  nw : ∀ b o, F' b = some o → IsL o → F b = some o ∨ H b = none
  ext : ∀ b o, H b = some o → (∀ ps, o ≠ HO.tbl ps) → b ≠ a → H' b = some o
  tbl : ∀ b ps, H b = some (HO.tbl ps) → ∃ qs, H' b = some (HO.tbl qs)
  tabs : LamX.Tabs G.T H'
def spU (G : Gx) (n : Nat) (m : List D → List D → UO) : Sp := fun vs H Q E => ∃ F a rs us ws xs, vs = .ref a :: rs ∧ Pre G F H ∧ F a = none ∧ H a = some (.lst ws) ∧ Dens G F us ws ∧ Dens G F xs rs ∧ xs.length + 1 = n ∧ match m us xs with
  | .ok x us' => ∀ v F' H' ws', RetU G a F F' H H' → F' a = none → H' a = some (.lst ws') → Dens G F' us' ws' → Den G F' x v → Q v H'
  | .ex c ys us' => ∀ cls d F' H' ws', RetU G a F F' H H' → F' a = none → H' a = some (.lst ws') → Dens G F' us' ws' → ExD G F' c ys cls d → E cls d H'
  | .st => False
theorem spU_len {n : Nat} {m : List D → List D → UO} {vs : List V} {H : Hp} {Q : VK} {E : XK} (h : spU G n m vs H Q E) : vs.length = n := by
  obtain ⟨F, a, rs, us, ws, xs, rfl, _, _, _, _, p, e, _⟩ := h
  rw [List.length_cons, p.length, e]
def inU (a : Addr) (F H : Hp) : Bs := ⟨H, F, fun b => b = a, some (0, a)⟩
def uInit (n : Nat) (us xs : List D) : Rho := Sl.own us :: (xs.map Sl.d ++ List.replicate (n - (xs.length + 1)) Sl.un)
theorem R.startU {F H : Hp} {N : List Str} {us xs : List D} {rs ws : List V} {a : Addr} (q : Pre G F H) (hF : F a = none) (hH : H a = some (.lst ws)) (pu : Dens G F us ws) (p : Dens G F xs rs) : R G (inU a F H) F (uInit N.length us xs) (L2.start N (.ref a :: rs)) H := by
  have hl := p.length
  have tail : ∀ {i : Nat} {y : Sl}, (uInit N.length us xs)[i + 1]? = some y → y = .un ∨ ∃ x v, y = .d x ∧ (L2.start N (.ref a :: rs))[i + 1]? = some (some v) ∧ Den G F x v := fun {i y} e => by
    unfold uInit at e
    rw [List.getElem?_cons_succ] at e
    by_cases hi : i < xs.length
    · rw [List.getElem?_append_left (by rw [List.length_map]; exact hi), List.getElem?_map] at e
      cases e2 : xs[i]? with
      | none => rw [e2] at e; cases e
      | some z =>
        rw [e2] at e
        cases e
        obtain ⟨v, h1, h2⟩ := p.get e2
        refine .inr ⟨z, v, rfl, ?_, h2⟩
        unfold L2.start
        rw [List.getElem?_append_left (by rw [List.length_map, List.length_cons, hl]; omega), List.getElem?_map, List.getElem?_cons_succ, h1]
        rfl
    · rw [List.getElem?_append_right (by rw [List.length_map]; omega), List.getElem?_replicate] at e
      split at e
      · cases e; exact .inl rfl
      · cases e
  have head : (L2.start N (.ref a :: rs))[0]? = some (some (.ref a)) := rfl
  refine ⟨fun b o e _ _ => e, fun b ps e => ⟨ps, e⟩, q.sub, q.nt, fun b o e _ => .inl e, q.tabs, ?_, fun i x e => ?_, fun i ys e => ?_, fun i j ys zs b hij e1 e2 => ?_, fun i b ys e e2 => ?_⟩
  · unfold uInit L2.start
    simp only [List.length_append, List.length_map, List.length_replicate, List.length_cons, hl]
    omega
  · cases i with
    | zero => cases e
    | succ i =>
      rcases tail e with z | ⟨x2, v, z, h1, h2⟩
      · cases z
      · cases z; exact ⟨v, h1, h2⟩
  · cases i with
    | zero =>
      cases e
      exact ⟨a, ws, head, hF, .inr rfl, hH, pu⟩
    | succ i =>
      rcases tail e with z | ⟨x2, v, z, h1, h2⟩ <;> cases z
  · cases i with
    | succ i => rcases tail e1 with z | ⟨x2, v, z, h1, h2⟩ <;> cases z
    | zero =>
      cases j with
      | succ j => rcases tail e2 with z | ⟨x2, v, z, h1, h2⟩ <;> cases z
      | zero => exact absurd rfl hij
  · cases e
    exact head
theorem R.retU {F F' H H' : Hp} {a : Addr} {ρ : Rho} {σ : L2.St} {us : List D} (r : R G (inU a F H) F' ρ σ H') (s : Same F F') (hH : ∃ ws, H a = some (.lst ws)) (e : ρ[0]? = some (Sl.own us)) : RetU G a F F' H H' ∧ F' a = none ∧ ∃ ws, H' a = some (.lst ws) ∧ Dens G F' us ws := by
  have e1 := r.arg 0 a us rfl e
  obtain ⟨b, ws, e2, e3, e4, e5, e6⟩ := r.own 0 us e
  rw [e1] at e2
  have : a = b := by injection e2 with e2; injection e2 with e2; injection e2
  subst this
  refine ⟨⟨s, r.sub, r.nt, fun b o y l => ?_, fun b o z n hb => r.same b o z n hb, r.tbl, r.tabs⟩, e3, ws, e5, e6⟩
  rcases r.nw b o y l with z | z | z
  · exact .inl z
  · exact .inr z
  · have z : b = a := z
    rw [z, e3] at y; cases y
def uEnd (r : Rho) (k : List D → UO) : UO := match r[(0 : Nat)]? with
  | some (.own us) => k us
  | _ => .st
def uRun (n : Nat) (g : SM) (us xs : List D) : UO := match g (uInit n us xs) with
  | .nx r => uEnd r (UO.ok .non)
  | .rt x r => uEnd r (UO.ok x)
  | .ex c ys r => uEnd r (UO.ex c ys)
  | _ => .st
theorem uEnd_own {r : Rho} {k : List D → UO} {P : UO → Prop} (hP : ¬ P .st) (h : P (uEnd r k)) : ∃ us, r[0]? = some (Sl.own us) ∧ P (k us) := by
  unfold uEnd at h
  cases e : r[0]? with
  | none => simp only [e] at h; exact (hP h).elim
  | some sl =>
    cases sl with
    | own us => simp only [e] at h; exact ⟨us, rfl, h⟩
    | _ => simp only [e] at h; exact (hP h).elim
theorem bodyU_ok {N : List Str} {n : Nat} {g : SM} {vs : List V} {H : Hp} {Q : VK} {E : XK} (h : spU G n (uRun N.length g) vs H Q E) : ∃ F a, tS G (inU a F H) (fun cls d _ H' => E cls d H') g { nx := fun _ H' => Q .non H', rt := Q } (L2.start N vs) H := by
  obtain ⟨F, a, rs, us, ws, xs, rfl, q, hF, hH, pu, p, hl, h⟩ := h
  refine ⟨F, a, F, uInit N.length us xs, R.startU q hF hH pu p, ?_⟩
  unfold cS
  unfold uRun at h
  cases e : g (uInit N.length us xs) with
  | nx r =>
    simp only [e] at h ⊢
    intro F' σ' H' s r1
    obtain ⟨us', e1, h⟩ := uEnd_own (P := fun u => match u with
      | .ok x us' => ∀ v F' H' ws', RetU G a F F' H H' → F' a = none → H' a = some (.lst ws') → Dens G F' us' ws' → Den G F' x v → Q v H'
      | .ex c ys us' => ∀ cls d F' H' ws', RetU G a F F' H H' → F' a = none → H' a = some (.lst ws') → Dens G F' us' ws' → ExD G F' c ys cls d → E cls d H'
      | .st => False) id h
    obtain ⟨t, z1, ws', z2, z3⟩ := r1.retU s ⟨ws, hH⟩ e1
    exact h .non F' H' ws' t z1 z2 z3 .non
  | rt x r =>
    simp only [e] at h ⊢
    intro v F' σ' H' s r1 d
    obtain ⟨us', e1, h⟩ := uEnd_own (P := fun u => match u with
      | .ok x us' => ∀ v F' H' ws', RetU G a F F' H H' → F' a = none → H' a = some (.lst ws') → Dens G F' us' ws' → Den G F' x v → Q v H'
      | .ex c ys us' => ∀ cls d F' H' ws', RetU G a F F' H H' → F' a = none → H' a = some (.lst ws') → Dens G F' us' ws' → ExD G F' c ys cls d → E cls d H'
      | .st => False) id h
    obtain ⟨t, z1, ws', z2, z3⟩ := r1.retU s ⟨ws, hH⟩ e1
    exact h v F' H' ws' t z1 z2 z3 d
  | rl ys r => simp only [e] at h
  | ex c ys r =>
    simp only [e] at h ⊢
    intro cls d F' σ' H' s r1 x
    obtain ⟨us', e1, h⟩ := uEnd_own (P := fun u => match u with
      | .ok x us' => ∀ v F' H' ws', RetU G a F F' H H' → F' a = none → H' a = some (.lst ws') → Dens G F' us' ws' → Den G F' x v → Q v H'
      | .ex c ys us' => ∀ cls d F' H' ws', RetU G a F F' H H' → F' a = none → H' a = some (.lst ws') → Dens G F' us' ws' → ExD G F' c ys cls d → E cls d H'
      | .st => False) id h
    obtain ⟨t, z1, ws', z2, z3⟩ := r1.retU s ⟨ws, hH⟩ e1
    exact h cls d F' H' ws' t z1 z2 z3 x
  | bk r => simp only [e] at h
  | ct r => simp only [e] at h
  | st => simp only [e] at h
abbrev FnU (P : Program) (w : World) (mg : Str → Option Value) (base : Heap) (G : Gx) (k : Nat) (f : Addr) (fd : FuncData) (ps : List Str) (m : List D → List D → UO) : Prop := FnOk P w G.K mg base (L2.CX P w) k f fd ps (spU G ps.length m)
section
variable {P : Program} {w : World} {mg : Str → Option Value} {base : Heap} {x qual : Str} {params : Arguments} {body : List Stmt} {scope : Scope} {dvs : List V} {kws : List (Str × V)} {f : Addr} {fd : FuncData} {N ps : List Str} {k : Nat}
theorem fnU_ok {g : SM} (F : FunD G.K x qual params body scope dvs kws f fd) (S : FnScope N ps scope)
    (hbody : ∀ (B : Bs) (W : WX) (X : Cx), X.prog = P → X.w = w → X.K = G.K → X.mg = mg → X.base = base → Room k X.A → Takes X W → ∀ (cdv : Value) (A : Around) (outer : List Env) (s : Shared) (H : Hp) (E : XK), X = cxOf (L2.CX P w) P w G.K mg base N qual scope f cdv A outer s H E → (∃ a, B.arg = some (0, a)) → DSs X G B W body g) : FnU P w mg base G (k + 1) f fd ps (uRun N.length g) := by
  refine F.ok S (fun vs H Q E h => spU_len h) fun cdv A outer s H vs Q E hr h => ?_
  obtain ⟨F0, a, q⟩ := bodyU_ok h
  refine ⟨_, hbody (inU a F0 H) (fun cls d _ H' => E cls d H') _ rfl rfl rfl rfl rfl hr (takes_of rfl rfl rfl rfl) cdv A outer s H E rfl ⟨a, rfl⟩, q⟩
end
/-! ### the call -/
theorem R.afterU {F F' H H' : Hp} {ρ : Rho} {σ : L2.St} {i : Nat} {a : Addr} {us us' : List D} {ws' : List V} (r : R G B F ρ σ H) (e : ρ[i]? = some (Sl.own us)) (es : σ[i]? = some (some (V.ref a))) (t : RetU G a F F' H H') (z1 : F' a = none) (z2 : H' a = some (.lst ws')) (z3 : Dens G F' us' ws') : R G B F' (ρ.set i (.own us')) σ H' := by
  obtain ⟨a', vs, h1, h2, h3, h4, h5⟩ := r.own i us e
  rw [es] at h1
  have : a = a' := by injection h1 with h1; injection h1 with h1; injection h1
  subst this
  have hlt : i < ρ.length := (List.getElem?_eq_some_iff.mp e).1
  have fw : ∀ {b : Addr}, b ≠ a → F b = none → (∃ vs, H b = some (.lst vs)) → F' b = none := fun {b} hne hb ⟨vs, hv⟩ => by
    cases q : F' b with
    | none => rfl
    | some o =>
      have l : IsL o := by
        have z := t.sub b o q
        rw [t.ext b _ hv (by intro ps z; cases z) hne] at z
        cases z; exact trivial
      rcases t.nw b o q l with z | z
      · rw [hb] at z; cases z
      · rw [hv] at z; cases z
  have back : ∀ {m : Nat} {us : List D}, (ρ.set i (.own us'))[m]? = some (Sl.own us) → ∃ us', ρ[m]? = some (Sl.own us') := fun {m us2} z => by
    by_cases hm : m = i
    · subst hm; exact ⟨us, e⟩
    · rw [List.getElem?_set_ne (Ne.symm hm)] at z; exact ⟨us2, z⟩
  refine ⟨fun b o e1 n w => ?_, fun b ps e1 => ?_, t.sub, t.nt, fun b o e1 l => ?_, t.tabs, by rw [List.length_set]; exact r.len, fun j x e1 => ?_, fun j zs e1 => ?_, fun j k zs us2 b hjk e1 e2 e3 => ?_, fun j b zs e1 e2 => ?_⟩
  · refine t.ext b o (r.same b o e1 n w) n fun z => ?_
    subst z
    rcases h3 with z | z
    · rw [e1] at z; cases z
    · exact w z
  · obtain ⟨qs, q⟩ := r.tbl b ps e1
    exact t.tbl b qs q
  · rcases t.nw b o e1 l with z | z
    · exact r.nw b o z l
    · exact .inr (r.old z)
  · by_cases hj : j = i
    · subst hj; rw [List.getElem?_set_self hlt] at e1; cases e1
    · rw [List.getElem?_set_ne (Ne.symm hj)] at e1
      obtain ⟨v, k1, k2⟩ := r.dat j x e1
      exact ⟨v, k1, Den.mono t.sF x k2⟩
  · by_cases hj : j = i
    · subst hj; rw [List.getElem?_set_self hlt] at e1; cases e1
      exact ⟨a, ws', es, z1, h3, z2, z3⟩
    · rw [List.getElem?_set_ne (Ne.symm hj)] at e1
      obtain ⟨b, vs2, k1, k2, k3, k4, k5⟩ := r.own j zs e1
      have hb : b ≠ a := fun z => by
        subst z
        exact r.sep i j us zs b (Ne.symm hj) e e1 es k1
      exact ⟨b, vs2, k1, fw hb k2 ⟨_, k4⟩, k3, t.ext b _ k4 (by intro ps z; cases z) hb, Dens.mono t.sF zs k5⟩
  · obtain ⟨zs', e1'⟩ := back e1
    obtain ⟨us2', e2'⟩ := back e2
    exact r.sep j k zs' us2' b hjk e1' e2' e3
  · obtain ⟨zs', e2'⟩ := back e2
    exact r.arg j b zs' e1 e2'
/-- f(x, e, ..): x a list of one's own at slot i -/
def dCallU (i : Nat) (m : List D → List D → UO) (g : EM (List D)) : EM D := fun r0 => match r0[i]? with
  | some (.own _) => (g.bind fun xs r => match r[i]? with
    | some (.own us) => (match m us xs with
      | .ok x us' => .ok x (r.set i (.own us'))
      | .ex c ys us' => .ex c ys (r.set i (.own us'))
      | .st => .st)
    | _ => .st) r0
  | _ => .st
def arityU (n : Nat) (m : List D → List D → UO) : List D → List D → UO := fun us xs => if xs.length + 1 = n then m us xs else .st
theorem de_callU (i : Nat) {y : Str} {py : Pos} {x : Str} {f : Addr} {fd : FuncData} {ps : List Str} {k j : Nat} {m : List D → List D → UO} {g : EM (List D)} (Fn : FnU X.prog X.w X.mg X.base G k f fd ps m) (hk : G.K = X.K) (hr : Room j X.A) (hkj : k ≤ j) (hm : X.mg x = some (.ref f)) (kp : PySem.W.keepIn X.K (.ref f) = true) (bi : Binds X.K fd ps []) (tk : Takes X W) (ha : DA X G B W es g)
    (hN : X.N[i]? = some y := by rfl) (hv : Vis X.env.scope y := by first | exact Or.inl rfl | exact Or.inr (Or.inl rfl) | exact Or.inr (Or.inr rfl)) (hdy : (y == ("__debug__" : Str)) = false := by decide) (hcd : (y == ("__classdict__" : Str)) = false := by decide)
    (hg : Gl X x := by rfl) (hdb : (x == ("__debug__" : Str)) = false := by decide) (he : starEach (.Name y py :: es) X.env = (false, eval (.Name y py) X.env) :: starEach es X.env := by rfl) (hpl : (backTo pos (starEach es X.env)).any (·.1) = false := by rfl) : DE X G B W (.Call (.Name x p) (.Name y py :: es) [] pos) (dCallU i (arityU ps.length m) g) := by
  have Fn2 : FnOk X.prog X.w X.K X.mg X.base (L2.CX X.prog X.w) k f fd ps (spU G ps.length m) := by
    have z := Fn
    unfold FnU at z
    rw [hk] at z
    exact z
  refine pe_weak (pe_callS Fn2 (hr.mono hkj) hg hm kp bi (fun σ => passAt tk σ) (pa_cons (pe_var hN hv hdy hcd) ha he) hdb he hpl) fun σ H Q ⟨F, ρ, hR, h⟩ => ?_
  unfold cX dCallU at h
  cases e0 : ρ[i]? with
  | none => simp only [e0] at h
  | some sl =>
    cases sl with
    | own us0 =>
      simp only [e0] at h
      obtain ⟨a, vs0, es0, _⟩ := hR.own i us0 e0
      refine ⟨.ref a, es0, F, ρ, hR, (cX.bind h).imp fun vs H1 ⟨xs, F1, ρ1, s1, r1, p1, h1⟩ => ?_⟩
      unfold cX at h1
      cases e1 : ρ1[i]? with
      | none => simp only [e1] at h1
      | some sl =>
        cases sl with
        | own us1 =>
          simp only [e1] at h1
          obtain ⟨a', ws, q1, q2, q3, q4, q5⟩ := r1.own i us1 e1
          rw [es0] at q1
          have : a = a' := by injection q1 with q1; injection q1 with q1; injection q1
          subst this
          unfold arityU at h1
          by_cases hl : xs.length + 1 = ps.length
          · rw [if_pos hl] at h1
            refine ⟨F1, a, vs, us1, ws, xs, rfl, r1.pre, q2, q4, q5, p1, hl, ?_⟩
            cases e2 : m us1 xs with
            | ok x us' =>
              simp only [e2] at h1 ⊢
              exact fun v F' H' ws' t z1 z2 z3 d => h1 v F' H' t.sF (r1.afterU e1 es0 t z1 z2 z3) d
            | ex c ys us' =>
              simp only [e2] at h1 ⊢
              exact fun cls d F' H' ws' t z1 z2 z3 x => h1 cls d F' H' t.sF (r1.afterU e1 es0 t z1 z2 z3) x
            | st => simp only [e2] at h1
          · simp only [if_neg hl] at h1
        | _ => simp only [e1] at h1
    | _ => simp only [e0] at h
/-- x = f(..): the list that f has made is x's own -/
def sSetC (i : Nat) (m : List D → FO) (g : EM (List D)) : SM := SM.of g fun xs r => match m xs with
  | .ok x => .nx (r.set i (.d x))
  | .lst ys => .nx (r.set i (.own ys))
  | .ex c ys => .ex c ys r
  | .st => .st
theorem ds_setC (i : Nat) {y : Str} {x : Str} {f : Addr} {fd : FuncData} {ps : List Str} {k j : Nat} {m : List D → FO} {g : EM (List D)} (hB : ∀ b, B.arg ≠ some (i, b)) (hNd : X.N.Nodup) (Fn : FnD X.prog X.w X.mg X.base G k f fd ps m) (hk : G.K = X.K) (hr : Room j X.A) (hkj : k ≤ j) (hm : X.mg x = some (.ref f)) (kp : PySem.W.keepIn X.K (.ref f) = true) (bi : Binds X.K fd ps []) (tk : Takes X W) (ha : DA X G B W (e :: es) g)
    (hi : X.N[i]? = some y := by rfl) (hx : Loc X.env.scope y := by first | exact Or.inl rfl | exact Or.inr rfl) {p2 : Pos} (hs : swapsWith (.Call (.Name x p) (e :: es) [] p2) (some (.Name y pos')) pos.line X.env = pure false := by rfl)
    (hf : X.fn y = true ∨ X.env.scope.names.lookup y = some .local := by first | exact .inl rfl | exact .inr rfl)
    (hg : Gl X x := by rfl) (hdb : (x == ("__debug__" : Str)) = false := by decide) (he : starEach (e :: es) X.env = (false, eval e X.env) :: starEach es X.env := by rfl) (hpl : (backTo p2 (starEach es X.env)).any (·.1) = false := by rfl) : DS X G B W (.Assign [.Name y pos'] (.Call (.Name x p) (e :: es) [] p2) pos) (sSetC i (arity ps.length m) g) :=
  ps_weak (ps_set (i := i) hNd hi hx (pe_callS (fnK hk Fn) (hr.mono hkj) hg hm kp bi (fun σ => passAt tk σ) ha hdb he hpl) hs hf) fun D0 σ H ⟨F, ρ, hR, q⟩ => ⟨F, ρ, hR, (cS.of q).imp fun vs H1 ⟨xs, F1, ρ1, s1, r1, p1, h1⟩ => by
    unfold cS arity at h1
    by_cases hl : xs.length = ps.length
    · simp only [if_pos hl] at h1
      refine ⟨F1, xs, r1.pre, p1, hl, ?_⟩
      cases e1 : m xs with
      | ok x => simp only [e1] at h1 ⊢; exact fun v F' H' t d => h1 F' _ H' t.sF ((r1.after t).setd d)
      | lst ys =>
        simp only [e1] at h1 ⊢
        intro a vs2 F' H' t z1 z2 z3 z4
        refine h1 F' _ H' t.sF ((r1.after t).put (fun _ e => by cases e) (fun _ _ => hB) fun zs e => ?_)
        cases e
        refine ⟨a, vs2, rfl, z1, r1.old z2, z3, z4, fun j ws _ e2 => noOwn r1 z2 j ws e2⟩
      | ex c ys => simp only [e1] at h1 ⊢; exact fun cls d F' H' t x => h1 cls d F' _ H' t.sF (r1.after t) x
      | st => simp only [e1] at h1
    · simp only [if_neg hl] at h1⟩
end
end DL

namespace DL
open PySem PySem.Spec PyProof.Rows L2 NdefX LamX
section
variable {X : Cx} {pins : List (Addr × Obj)} {σ : L2.St} {H : Hp} {s : Shared}
theorem lamO_ne {f : Addr} {t : CT} {cl : List (Str × Addr)} {c : Addr} (ps : Array Value) : LamO f t cl c ≠ .tbl ps := fun z => by
  unfold LamO at z; cases z
theorem lamO_laid {f : Addr} {t : CT} {cl : List (Str × Addr)} {c : Addr} {pm ctv : Value} {tk : Nat} (I : Inv X pins σ H s) (hf : f = s.heap.objs.size) :
    Inv X pins σ (upd H f (LamO f t cl c)) { s with heap := s.heap.push (PySem.W.kla_obj "<lambda>" t.qual t.params t.body t.scope cl pm c ctv), toks := tk } := by
  subst hf
  have e : (s.heap.push (PySem.W.kla_obj "<lambda>" t.qual t.params t.body t.scope cl pm c ctv)).get? s.heap.objs.size = some (PySem.W.kla_obj "<lambda>" t.qual t.params t.body t.scope cl pm c ctv) := Heap.get?_push_size _ rfl
  refine I.laid (a := s.heap.objs.size) (fun b u z => Heap.get?_push_of_some _ z) (Nat.le_refl _) ?_
  exact ⟨⟨pm, ctv, e⟩, ⟨_, e⟩, fun h1 h2 ⟨pm, ctv, z⟩ st => ⟨pm, ctv, st _ z⟩⟩
/-- a lambda is made -/
theorem lam_new {T : List (Addr × Str)} {c P : Addr} {t : CT} {pos : Pos} {E : Value → Shared → Prop} {Q : Value → Shared → Prop} (I : Inv X pins σ H s) (TB : TabB X.base X.mg c P) (hcode : X.env.code = .ref c) (hq : t.qual = X.env.qual ++ "<lambda>")
    (hm : (P, t.qual) ∈ T) (hu : ∀ p ∈ T, p.1 = P → p.2 = t.qual) (hT : Tabs T H) (hdef : defaultsOf t.params X.env = ([], [])) (hfree : ∀ y ∈ t.scope.names, y.2 = .free → ∃ c, X.env.cells.lookup y.1 = some c)
    (done : ∀ (f c' : Addr) (G : Hp) (r : Shared), Inv X pins σ G r → ExtN H G → (∀ b, G b = none → H b = none) → (∀ b ps, H b = some (HO.tbl ps) → ∃ qs, G b = some (HO.tbl qs)) → Tabs T G → H f = none → G f = some (LamO f t (cloFrom X.env.cells t.scope.names []) c') → G c' = some (CodeO c' t.qual) → Q (.ref f) r) :
    wpAny (model X.prog X.w) X.A (eval (.Lambda t.params t.body t.scope pos) X.env) Q E s := by
  obtain ⟨tab, atP, tri, told⟩ := hT _ hm
  have heapP : s.heap.get? P = some { cls := .none, data := .fields tab } := I.hok P _ atP
  refine PySem.W.kla_eval hdef ?_
  rw [← hq]
  cases among : codeAmong pos tab.toList with
  | none =>
    refine PySem.W.kla_makeFunction (clos := cloFrom X.env.cells t.scope.names []) (mg := X.mg) (c := c) (P := P) (ps := tab) (closure_ok hfree) I.ok.glob
      (I.mod.glob.keeps I.bk) hcode (TB.code.keeps I.bk) heapP tri among TB.gP (TB.bm.keeps I.bk) fun c' ctv hp tk ext ge lt cr newtab => ?_
    obtain ⟨c2, oc, fs, tt, ec, g1, g2, g3⟩ := cr
    cases ec
    have newc : H c' = none := I.hok.fresh ge
    have J := inv_table (t' := tk) (more := #[rawInt pos.line, rawInt pos.col, .ref c']) (h' := hp) I atP (fun b o hb e => ext b o hb e) newtab ge ⟨oc, fs, tt, g1, g2, g3⟩
    have nf := J.hok.fresh (Nat.le_refl _)
    have K := lamO_laid (t := t) (cl := cloFrom X.env.cells t.scope.names []) (c := c') (pm := (X.mg "__name__").getD .none) (ctv := ctv) (tk := tk) J rfl
    have hne : P ≠ c' := ne_of_none atP newc
    have keepN : ExtN H (upd (upd H P (.tbl (tab ++ #[rawInt pos.line, rawInt pos.col, .ref c']))) c' (CodeO c' t.qual)) := fun b o e n => by
      have h1 : b ≠ P := fun z => by subst z; rw [atP] at e; exact n tab (Option.some.inj e).symm
      rw [upd_ne (ne_of_none e newc), upd_ne h1]; exact e
    have list_eq : (tab ++ #[rawInt pos.line, rawInt pos.col, .ref c']).toList = tab.toList ++ [rawInt pos.line, rawInt pos.col, .ref c'] := by simp
    have tabs1 : Tabs T (upd (upd H P (.tbl (tab ++ #[rawInt pos.line, rawInt pos.col, .ref c']))) c' (CodeO c' t.qual)) := fun p hp => by
      by_cases hb : p.1 = P
      · rw [hu p hp hb, hb]
        refine ⟨_, (upd_ne hne).trans upd_same, list_eq ▸ PySem.TriplesOk_snoc _ _ _ _ tri, fun p' cv z => ?_⟩
        rw [list_eq] at z
        rcases among_app _ tri z with z | z
        · obtain ⟨c0, e1, e2⟩ := told p' cv z
          exact ⟨c0, e1, keepN _ _ e2 codeO_ne⟩
        · exact ⟨c', z, upd_same⟩
      · obtain ⟨tab2, a1, a2, a3⟩ := hT p hp
        refine ⟨tab2, ((upd_ne (ne_of_none a1 newc)).trans (upd_ne hb)).trans a1, a2, fun p' cv z => ?_⟩
        obtain ⟨c0, e1, e2⟩ := a3 p' cv z
        exact ⟨c0, e1, keepN _ _ e2 codeO_ne⟩
    exact done _ c' _ _ K (fun b o e n => (upd_ne (ne_of_none (keepN b o e n) nf)).trans (keepN b o e n)) (fun b e => upd_none (upd_none (upd_none e))) (fun b ps e => by
        by_cases hb : b = P
        · subst hb; exact ⟨_, (upd_ne (ne_of_none ((upd_ne hne).trans upd_same) nf)).trans ((upd_ne hne).trans upd_same)⟩
        · have e1 : upd (upd H P (.tbl (tab ++ #[rawInt pos.line, rawInt pos.col, .ref c']))) c' (CodeO c' t.qual) b = some (.tbl ps) := (upd_ne (ne_of_none e newc)).trans ((upd_ne hb).trans e)
          exact ⟨ps, (upd_ne (ne_of_none e1 nf)).trans e1⟩) (tabs1.ext fun b o e => (upd_ne (ne_of_none e nf)).trans e)
      (I.hok.fresh (Nat.le_trans ge (Nat.le_of_lt lt))) upd_same ((upd_ne (Nat.ne_of_lt lt)).trans upd_same)
  | some cv =>
    obtain ⟨c', rfl, tracked⟩ := told pos cv among
    refine PySem.W.kla_makeFunctionHit (clos := cloFrom X.env.cells t.scope.names []) (mg := X.mg) (c := c) (P := P) (ps := tab) (closure_ok hfree) I.ok.glob
      (I.mod.glob.keeps I.bk) hcode (TB.code.keeps I.bk) heapP tri among (TB.bm.keeps I.bk) fun ctv hp tk ext ge => ?_
    have J : Inv X pins σ H { s with heap := hp, toks := tk } := I.kept ext
    have nf : H hp.objs.size = none := J.hok.fresh (Nat.le_refl _)
    have K := lamO_laid (t := t) (cl := cloFrom X.env.cells t.scope.names []) (c := c') (pm := (X.mg "__name__").getD .none) (ctv := ctv) (tk := tk) J rfl
    have ex : ∀ b o, H b = some o → upd H hp.objs.size (LamO hp.objs.size t (cloFrom X.env.cells t.scope.names []) c') b = some o := fun b o e => (upd_ne (ne_of_none e nf)).trans e
    exact done _ c' _ _ K (fun b o e _ => ex b o e) (fun b e => upd_none e) (fun b ps e => ⟨ps, ex _ _ e⟩) (hT.ext ex) nf upd_same (ex _ _ tracked)
end
/-! ### a new function object, and R -/
section
variable {X : Cx} {G : Gx} {B : Bs} {W : WX} {F H H' : Hp} {ρ : Rho} {σ : L2.St}
/-- the heap has grown but for the tables; what of it is no list may be frozen -/
theorem R.grow (r : R G B F ρ σ H) (e : ExtN H H') (tb : ∀ b ps, H b = some (HO.tbl ps) → ∃ qs, H' b = some (HO.tbl qs)) (T1 : LamX.Tabs G.T H') : R G B F ρ σ H' := by
  refine ⟨fun b o h n w => e b o (r.same b o h n w) n, fun b ps h => ?_, fun b o h => e b o (r.sub b o h) (r.nt b o h), r.nt, r.nw, T1, r.len, r.dat, fun i xs h => ?_, r.sep, r.arg⟩
  · obtain ⟨qs, q⟩ := r.tbl b ps h
    exact tb b qs q
  · obtain ⟨a, vs, e1, e2, e3, e4, e5⟩ := r.own i xs h
    exact ⟨a, vs, e1, e2, e3, e a _ e4 (by intro ps z; cases z), e5⟩
/-- what is tracked, and no list and no table, is frozen -/
theorem R.freezeX {a : Addr} {o : HO} (r : R G B F ρ σ H) (h : H a = some o) (n : ∀ ps, o ≠ HO.tbl ps) (l : ¬ IsL o) : R G B (upd F a o) ρ σ H ∧ Same F (upd F a o) := by
  have sF : Same F (upd F a o) := fun b u e => by
    by_cases hb : b = a
    · subst hb
      have := r.sub b u e
      rw [h] at this; cases this
      exact upd_same
    · rw [upd_ne hb]; exact e
  refine ⟨⟨r.same, r.tbl, fun b u e => ?_, fun b u e => ?_, fun b u e z => ?_, r.tabs, r.len, fun i x e => ?_, fun i xs e => ?_, r.sep, r.arg⟩, sF⟩
  · by_cases hb : b = a
    · subst hb; rw [upd_same] at e; cases e; exact h
    · rw [upd_ne hb] at e; exact r.sub b u e
  · by_cases hb : b = a
    · subst hb; rw [upd_same] at e; cases e; exact n
    · rw [upd_ne hb] at e; exact r.nt b u e
  · by_cases hb : b = a
    · subst hb; rw [upd_same] at e; cases e; exact absurd z l
    · rw [upd_ne hb] at e; exact r.nw b u e z
  · obtain ⟨v, e1, q⟩ := r.dat i x e
    exact ⟨v, e1, Den.mono sF x q⟩
  · obtain ⟨b, ws, e1, e2, e3, e4, e5⟩ := r.own i xs e
    have : b ≠ a := fun z => by
      subst z
      rw [h] at e4; cases e4; exact l trivial
    exact ⟨b, ws, e1, by rw [upd_ne this]; exact e2, e3, e4, Dens.mono sF xs e5⟩
end
end DL

namespace DL
open PySem PySem.Spec PyProof.Rows L2 NdefX LamX
/-! ### a lambda's promise -/
def spL (G : Gx) (n : Nat) (m : List D → List D → Option D) (ws vs : List V) (H : Hp) (Q : VK) : Prop := ∃ F ds xs, Pre G F H ∧ Dens G F ds ws ∧ Dens G F xs vs ∧ xs.length = n ∧ match m ds xs with
  | some x => ∀ v F' H', Ret G F F' H H' → Den G F' x v → Q v H'
  | none => False
structure LOk (P : Program) (w : World) (mg : Str → Option Value) (base : Heap) (G : Gx) (k : Nat) (f : Addr) (t : CT) (cl : List (Str × Addr)) (c' : Addr) (n : Nat) (m : List D → List D → Option D) : Prop where
  run : ∀ (A : Around) (outer : List Env) (s : Shared) (H : Hp) (us : List Value) (vs ws : List V) (Q : VK), Room k A → Env0 P w G.K mg base A outer s H → H f = some (LamO f t cl c') → H c' = some (CodeO c' t.qual) →
    CellsAt cl t.fr (ws.map some) s.heap H → Vals vs us → spL G n m ws vs H Q → codeAny (model P w) A (.call (.ref f) ⟨us, []⟩) (CR (L2.CX P w) outer P w H s Q (fun _ _ _ => False)) s
def lRun (n : Nat) (f : EM D) (ds xs : List D) : Option D := match f (mInit n (xs ++ ds)) with
  | .ok x _ => some x
  | _ => none
theorem startF_eq (N : List Str) (vs ws : List V) : startF N vs (ws.map some) = L2.start N (vs ++ ws) := by
  unfold startF L2.start
  rw [List.map_append, List.length_append, List.length_map, List.append_assoc, Nat.sub_sub]
abbrev lamNF (t : CT) (cl : List (Str × Addr)) (c' : Addr) : NF := ⟨"<lambda>", t.qual, t.params, [], t.scope, cl, c'⟩
theorem lok_of {P : Program} {w : World} {mg : Str → Option Value} {base : Heap} {G : Gx} {k : Nat} {f : Addr} {t : CT} {cl : List (Str × Addr)} {c' : Addr} {N ps : List Str} {g : EM D} (S : NScope N ps t.fr t.scope)
    (hb : ∀ (pm ctv : Value) (us : List Value), us.length = ps.length → bindArgs (PySem.W.kla_fn "<lambda>" t.qual t.params t.body t.scope cl pm (.ref c') ctv) ⟨us, []⟩ = pure (ps.zip us))
    (hbody : ∀ (B : Bs) (X : Cx), X.prog = P → X.w = w → X.K = G.K → X.mg = mg → X.base = base → Room k X.A → Takes X W0 → ∀ (A : Around) (outer : List Env) (s : Shared) (H : Hp), X = ncx (L2.CX P w) P w G.K mg base N (lamNF t cl c') f A outer s H (fun _ _ _ => False) → B.arg = none → DE X G B W0 t.body g) :
    LOk P w mg base G (k + 1) f t cl c' ps.length (lRun N.length g) := by
  refine ⟨fun A outer s H us vs ws Q hr e0 hf hc C r hsp => ?_⟩
  obtain ⟨F, ds, xs, pre, pd, px, hl, hsp⟩ := hsp
  have hlv : vs.length = ps.length := by rw [px.length, hl]
  have lim : s.heap.NoLimit := e0.mod.nolimit.keeps fun b o e => (e0.bs b o e).1
  obtain ⟨⟨pm, ctv, ho⟩, _, _⟩ := e0.hok f _ hf
  obtain ⟨c2, oc, fs, tt, ec, g1, g2, g3⟩ := codeO_at e0.hok hc
  cases ec
  refine PySem.W.kla_callFunE hr.depth ho rfl S.co S.gen rfl ⟨c', oc, fs, tt, rfl, g1, g2, g3⟩ ?_
  rw [hb pm ctv us (by rw [← r.length]; exact hlv)]
  refine wpAny_pure (wpAny_newFunctionEnv S.nocell (fun ⟨n, _⟩ hy => S.par n (List.of_mem_zip hy).1) (fun h₁ hns hsb => ⟨lim.fresh _ hsb, ?_⟩) S.kind)
  show codeAny _ _ (.expr t.body (envF (lamNF t cl c') f s.heap.objs.size)) _ _
  have kp : ∀ b o, s.heap.get? b = some o → h₁.get? b = some o := fun b o e => hsb.extBut b o (Nat.ne_of_lt (Heap.lt_size e)) (Heap.get?_push_of_some _ e)
  have I : Inv (ncx (L2.CX P w) P w G.K mg base N (lamNF t cl c') f A outer s H (fun _ _ _ => False)) [] (startF N vs (ws.map some)) H { s with heap := h₁, toks := s.toks + (ps.zip us).length } :=
    inv_startN (F := lamNF t cl c') S hr.hd e0 hlv r C hns kp
  have hDE := hbody (inB F H) _ rfl rfl rfl rfl rfl (hr.deeper _) LamX.takes0 A outer s H rfl rfl
  refine PySem.W.kla_codeExpr (wpAny_mono (hDE.run [] _ (startF N vs (ws.map some)) H Q I ?_) (fun v s' hq => ?_) fun e s' hq => hq)
  · rw [startF_eq]
    refine ⟨F, mInit N.length (xs ++ ds), R.start pre (px.append pd), ?_⟩
    unfold cX
    unfold lRun at hsp
    cases e : g (mInit N.length (xs ++ ds)) with
    | ok x r2 => simp only [e] at hsp ⊢; exact fun v F' H' s' r' d => hsp v F' H' (r'.ret s') d
    | ex c ys r2 => simp only [e] at hsp
    | st => simp only [e] at hsp
  · obtain ⟨w', H', J, rv, q⟩ := hq
    exact ⟨w', H', J.os, J.bare, J.base, J.hok, rv, q⟩
/-! ### cells that are told, and not told -/
open Classical in
noncomputable def untr (S : Addr → Prop) (H : Hp) : Hp := fun b => if S b then none else H b
open Classical in
noncomputable def retr (S : Addr → Prop) (H H1 : Hp) : Hp := fun b => if S b then H b else H1 b
section
variable {S : Addr → Prop} {H H1 F F1 : Hp} {b : Addr} {P : Program} {w : World} {h h' : Heap}
theorem untr_in (q : S b) : untr S H b = none := if_pos q
theorem untr_out (q : ¬ S b) : untr S H b = H b := if_neg q
theorem retr_in (q : S b) : retr S H H1 b = H b := if_pos q
theorem retr_out (q : ¬ S b) : retr S H H1 b = H1 b := if_neg q
theorem untr_some {o : HO} (e : untr S H b = some o) : ¬ S b ∧ H b = some o := by
  by_cases q : S b
  · rw [untr_in q] at e; cases e
  · rw [untr_out q] at e; exact ⟨q, e⟩
def CellsOf (S : Addr → Prop) (H : Hp) : Prop := ∀ b, S b → ∃ v, H b = some (CellO b v)
theorem CellsOf.not (cs : CellsOf S H) {o : HO} (e : H b = some o) (n : ∀ φ, o ≠ .ext φ) : ¬ S b := fun q => by
  obtain ⟨v, z⟩ := cs b q
  rw [e] at z
  cases z
  exact n _ rfl
theorem hok_untr (k : HOk P w H h) (cs : CellsOf S H) : HOk P w (untr S H) h := fun a o e => by
  obtain ⟨_, e⟩ := untr_some e
  refine (k a o e).stay (fun _ _ _ q => q) (fun c z => ?_) fun c xs z => ?_
  · rw [untr_out (cs.not z (by intro φ z; cases z))]; exact z
  · rw [untr_out (cs.not z (by intro φ z; cases z))]; exact z
theorem untr_same (s : Same F H) : Same (untr S F) (untr S H) := fun b o e => by
  obtain ⟨q, e⟩ := untr_some e
  rw [untr_out q]; exact s b o e
/-- no other thing stands where a cell stands -/
theorem not_cell (k : HOk P w H h) (cs : CellsOf S H) {f : Addr} {φ : Heap → Prop} (e : H f = some (.ext φ)) (n : ∀ o v, φ h → h.get? f = some o → o.data ≠ .cell v) : ¬ S f := fun q => by
  obtain ⟨v, z⟩ := cs f q
  obtain ⟨pφ, _, _⟩ := k f _ e
  obtain ⟨⟨u, _, o, ho, hd⟩, _, _⟩ := k f _ z
  exact n o (some u) pφ ho hd
theorem lam_notcell (k : HOk P w H h) (cs : CellsOf S H) {f : Addr} {t : CT} {cl : List (Str × Addr)} {c : Addr} (e : H f = some (LamO f t cl c)) : ¬ S f := by
  refine not_cell k cs e fun o v ⟨pm, ctv, z⟩ ho hd => ?_
  rw [ho] at z
  cases z
  cases hd
theorem code_notcell (k : HOk P w H h) (cs : CellsOf S H) {c : Addr} {q : Str} (e : H c = some (CodeO c q)) : ¬ S c := by
  refine not_cell k cs e fun o v ⟨oc, fs, tt, z, d, _⟩ ho hd => ?_
  rw [ho] at z
  cases z
  rw [d] at hd
  cases hd
theorem tabs_untr {T : List (Addr × Str)} (k : HOk P w H h) (cs : CellsOf S H) (t : Tabs T H) : Tabs T (untr S H) := fun p hp => by
  obtain ⟨ps, h1, h2, h3⟩ := t p hp
  refine ⟨ps, (untr_out (cs.not h1 (by intro φ z; cases z))).trans h1, h2, fun pos cv z => ?_⟩
  obtain ⟨c, e1, e2⟩ := h3 pos cv z
  exact ⟨c, e1, (untr_out (code_notcell k cs e2)).trans e2⟩
/-! data without lambdas -/
mutual
def D.plain : D → Bool
  | .tup ds => D.plains ds
  | .lst ds => D.plains ds
  | .obj _ ds => D.plains ds
  | .clo _ _ => false
  | _ => true
def D.plains : List D → Bool
  | [] => true
  | d :: ds => d.plain && D.plains ds
end
theorem sqT_untr {K : PySem.W.Frag} {a : Addr} {vs : List V} (cs : CellsOf S H) (s : Same F H) (q : SqT K F a vs) : SqT K (untr S F) a vs := by
  rcases q with (q | ⟨o, q⟩) | q
  · exact .inl (.inl ((untr_out (cs.not (s _ _ q) (by intro φ z; cases z))).trans q))
  · exact .inl (.inr ⟨o, (untr_out (cs.not (s _ _ q) (by intro φ z; cases z))).trans q⟩)
  · exact .inr q
theorem sqL_untr {K : PySem.W.Frag} {a : Addr} {vs : List V} (cs : CellsOf S H) (s : Same F H) (q : SqL K F a vs) : SqL K (untr S F) a vs := by
  rcases q with (q | ⟨o, q⟩) | q
  · exact .inl (.inl ((untr_out (cs.not (s _ _ q) (by intro φ z; cases z))).trans q))
  · exact .inl (.inr ⟨o, (untr_out (cs.not (s _ _ q) (by intro φ z; cases z))).trans q⟩)
  · exact .inr q
mutual
theorem den_untr {G : Gx} (cs : CellsOf S H) (s : Same F H) : ∀ (d : D) {v : V}, d.plain = true → Den G F d v → Den G (untr S F) d v
  | .non, v, _, q => by simpa only [Den] using q
  | .bl _, v, _, q => by simpa only [Den] using q
  | .int _, v, _, q => by simpa only [Den] using q
  | .str _, v, _, q => by simpa only [Den] using q
  | .ref _, v, _, q => by simpa only [Den] using q
  | .ty _, v, _, q => by simpa only [Den] using q
  | .tup ds, v, p, q => by
    simp only [Den] at q ⊢
    simp only [D.plain] at p
    obtain ⟨a, vs, e, q1, q2⟩ := q
    exact ⟨a, vs, e, sqT_untr cs s q1, dens_untr cs s ds p q2⟩
  | .lst ds, v, p, q => by
    simp only [Den] at q ⊢
    simp only [D.plain] at p
    obtain ⟨a, vs, e, q1, q2⟩ := q
    exact ⟨a, vs, e, sqL_untr cs s q1, dens_untr cs s ds p q2⟩
  | .obj c ds, v, p, q => by
    simp only [Den] at q ⊢
    simp only [D.plain] at p
    obtain ⟨a, dx, vs, e, q1, q2, q3⟩ := q
    exact ⟨a, dx, vs, e, (untr_out (cs.not (s _ _ q1) (by intro φ z; cases z))).trans q1, dens_untr cs s ds p q2, q3⟩
  | .clo _ _, v, p, q => by simp only [D.plain] at p; cases p
theorem dens_untr {G : Gx} (cs : CellsOf S H) (s : Same F H) : ∀ (ds : List D) {vs : List V}, D.plains ds = true → Dens G F ds vs → Dens G (untr S F) ds vs
  | [], vs, _, q => by simpa only [Dens] using q
  | d :: ds, vs, p, q => by
    simp only [Dens] at q ⊢
    simp only [D.plains, Bool.and_eq_true] at p
    obtain ⟨v, r, e, q1, q2⟩ := q
    exact ⟨v, r, e, den_untr cs s d p.1 q1, dens_untr cs s ds p.2 q2⟩
end
theorem isTbl_dec (o : HO) : (∃ ps, o = .tbl ps) ∨ ∀ ps, o ≠ .tbl ps := by
  cases o with
  | tbl ps => exact .inl ⟨ps, rfl⟩
  | _ => exact .inr fun ps z => by cases z
/-- behind the call the cells are told again -/
theorem ce_retr {G : Gx} {fs : List Addr} (k : HOk P w H h) (cs : CellsOf S H) (ff : ∀ b ∈ fs, H b = none) (un : Un fs [] (untr S H) H1 h h') (k1 : HOk P w H1 h') : Un fs [] H (retr S H H1) h h' ∧ HOk P w (retr S H H1) h' ∧ ∀ b, S b → H1 b = none := by
  have gone : ∀ b, S b → H1 b = none := fun b q => by
    obtain ⟨v, z⟩ := cs b q
    obtain ⟨_, ⟨o, ho⟩, _⟩ := k b _ z
    exact un.free b o ho (untr_in q) (by simp)
  have out : ∀ {b}, H b = none → ¬ S b := fun {b} e q => by
    obtain ⟨v, z⟩ := cs b q
    rw [e] at z; cases z
  refine ⟨⟨fun b o e n => un.keep b o e ((untr_out (out n)).trans n), fun b o e n => un.slot b o e ((untr_out (out n)).trans n), fun b o e n x => ?_, un.there, fun b xs e => ?_, fun b o u e => ?_, fun b ps e => ?_⟩, fun a o e => ?_, gone⟩
  · rw [retr_out (out n)]
    exact un.free b o e ((untr_out (out n)).trans n) x
  · have q := cs.not e (by intro φ z; cases z)
    rw [retr_out q]
    exact un.tups b xs ((untr_out q).trans e)
  · have q := cs.not e (by intro φ z; cases z)
    rw [retr_out q]
    exact un.frzs b o u ((untr_out q).trans e)
  · have q := cs.not e (by intro φ z; cases z)
    obtain ⟨more, z⟩ := un.tbls b ps ((untr_out q).trans e)
    exact ⟨more, (retr_out q).trans z⟩
  · by_cases q : S a
    · rw [retr_in q] at e
      obtain ⟨v, z⟩ := cs a q
      rw [z] at e
      cases e
      obtain ⟨⟨u, ru, o, ho, hd⟩, _, st⟩ := k a _ z
      have fa : a ∉ fs := fun z2 => by rw [ff a z2] at z; cases z
      have h2 := un.keep a o ho (untr_in q) fa (by simp)
      exact ⟨⟨u, ru, o, h2, hd⟩, ⟨o, h2⟩, st⟩
    · rw [retr_out q] at e
      refine (k1 a o e).stay (fun _ _ _ z => z) (fun c z => ?_) fun c xs z => ?_
      · have q2 : ¬ S c := fun q2 => by rw [gone c q2] at z; cases z
        rw [retr_out q2]; exact z
      · have q2 : ¬ S c := fun q2 => by rw [gone c q2] at z; cases z
        rw [retr_out q2]; exact z
theorem ret_retr {G : Gx} (cs : CellsOf S H) (s : Same F H) (nt : ∀ b o, F b = some o → ∀ ps, o ≠ HO.tbl ps) (gone : ∀ b, S b → H1 b = none) (t : Ret G (untr S F) F1 (untr S H) H1) : Ret G F (retr S F F1) H (retr S H H1) ∧ Same F1 (retr S F F1) := by
  have fgone : ∀ b, S b → F1 b = none := fun b q => by
    cases e : F1 b with
    | none => rfl
    | some o =>
      have z := t.sub b o e
      rw [gone b q] at z; cases z
  have s2 : Same F1 (retr S F F1) := fun b o e => by
    have q : ¬ S b := fun q => by rw [fgone b q] at e; cases e
    rw [retr_out q]; exact e
  have back : ∀ {b o}, H1 b = some o → retr S H H1 b = some o := fun {b o} e => by
    have q : ¬ S b := fun q => by rw [gone b q] at e; cases e
    rw [retr_out q]; exact e
  refine ⟨⟨fun b o e => ?_, fun b o e => ?_, fun b o e => ?_, fun b o e l => ?_, fun b o e n => ?_, fun b ps e => ?_, t.tabs.ext fun b o e => back e⟩, s2⟩
  · by_cases q : S b
    · rw [retr_in q]; exact e
    · rw [retr_out q]; exact t.sF b o ((untr_out q).trans e)
  · by_cases q : S b
    · rw [retr_in q] at e ⊢; exact s b o e
    · rw [retr_out q] at e; exact back (t.sub b o e)
  · by_cases q : S b
    · rw [retr_in q] at e; exact nt b o e
    · rw [retr_out q] at e; exact t.nt b o e
  · by_cases q : S b
    · rw [retr_in q] at e; exact .inl e
    · rw [retr_out q] at e
      rcases t.nw b o e l with z | z
      · exact .inl ((untr_out q).symm.trans z)
      · exact .inr ((untr_out q).symm.trans z)
  · by_cases q : S b
    · rw [retr_in q]; exact e
    · exact back (t.ext b o ((untr_out q).trans e) n)
  · have q := cs.not e (by intro φ z; cases z)
    obtain ⟨qs, z⟩ := t.tbl b ps ((untr_out q).trans e)
    exact ⟨qs, back z⟩
end
end DL

namespace DL
open PySem PySem.Spec PyProof.Rows L2 NdefX LamX
section
variable {X : Cx} {G : Gx} {B : Bs} {W : WX} {a b c e o tg iter : Expr} {es rest : List Expr} {pos pos' p : Pos} {st : Stmt} {sts : List Stmt}
/-! ### x(e, ..), x a slot that holds a lambda -/
def dCallClo (n i : Nat) (mc : Nat → List D → List D → Option D) (g : EM (List D)) : EM D := fun r0 => match r0[i]? with
  | some (.d (.clo k ds)) => (g.bind fun xs => EM.lift (if xs.length = n ∧ D.plains ds = true ∧ D.plains xs = true then mc k ds xs else none)) r0
  | _ => .st
theorem lam_at {pins : List (Addr × Obj)} {σ : L2.St} {H : Hp} {s : Shared} {f : Addr} {t : CT} {cl : List (Str × Addr)} {c : Addr} (I : Inv X pins σ H s) (q : H f = some (LamO f t cl c)) : PySem.W.FnAt f s.heap := by
  obtain ⟨⟨pm, ctv, ho⟩, _, _⟩ := I.hok f _ q
  exact ⟨_, _, _, _, ho⟩
theorem run_clo {pins : List (Addr × Obj)} {F H : Hp} {ρ : Rho} {σ : L2.St} {s : Shared} {Q : VK} {n d j k : Nat} {f c' : Addr} {cl : List (Str × Addr)} {m : List D → List D → Option D} {ds xs : List D} {x : D} {us : List Value} {vs ws : List V}
    (L : LOk X.prog X.w X.mg X.base G d f (G.ct k) cl c' n m) (hk : G.K = X.K) (hr : Room j X.A) (hdj : d ≤ j) (I : Inv X pins σ H s) (r : R G B F ρ σ H) (q1 : F f = some (LamO f (G.ct k) cl c')) (q2 : F c' = some (CodeO c' (G.ct k).qual))
    (q3 : ∀ y c, cl.lookup y = some c → y ∈ (G.ct k).fr) (q4 : ∀ x y c, cl.lookup x = some c → cl.lookup y = some c → x = y) (q5 : ws.length = (G.ct k).fr.length)
    (q6 : ∀ (i : Nat) (y : Str) (w : V), (G.ct k).fr[i]? = some y → ws[i]? = some w → ∃ c, cl.lookup y = some c ∧ F c = some (CellO c w)) (q7 : Dens G F ds ws) (px : Dens G F xs vs) (hl : xs.length = n) (pl1 : D.plains ds = true) (pl2 : D.plains xs = true) (hm : m ds xs = some x) (rv : Vals vs us)
    (hQ : ∀ v F' H', Ret G F F' H H' → Den G F' x v → Q v H') : wpAny (model X.prog X.w) X.A (call (.ref f) us) (EP X pins σ Q) X.xe s := by
  have at_ : ∀ y c, cl.lookup y = some c → ∃ w, F c = some (CellO c w) := fun y c e => by
    obtain ⟨i, hi⟩ := List.mem_iff_getElem?.mp (q3 y c e)
    have hlt : i < ws.length := by rw [q5]; exact (List.getElem?_eq_some_iff.mp hi).1
    obtain ⟨c2, e2, e3⟩ := q6 i y ws[i] hi (List.getElem?_eq_getElem hlt)
    rw [e] at e2
    cases e2
    exact ⟨_, e3⟩
  have cs : CellsOf (fun b => ∃ y, cl.lookup y = some b) H := fun b ⟨y, e⟩ => by
    obtain ⟨w, z⟩ := at_ y b e
    exact ⟨w, r.sub _ _ z⟩
  have csF : CellsOf (fun b => ∃ y, cl.lookup y = some b) F := fun b ⟨y, e⟩ => at_ y b e
  have nf := lam_notcell I.hok cs (r.sub _ _ q1)
  have nc := code_notcell I.hok cs (r.sub _ _ q2)
  have E0 := I.env0
  have e0 : Env0 X.prog X.w G.K X.mg X.base X.A X.stack s (untr (fun b => ∃ y, cl.lookup y = some b) H) := by
    rw [hk]
    have un0 : ∀ {b : Addr}, H b = none → untr (fun b => ∃ y, cl.lookup y = some b) H b = none := fun {b} z => by
      cases q : untr (fun b => ∃ y, cl.lookup y = some b) H b with
      | none => rfl
      | some o => rw [(untr_some q).2] at z; cases z
    exact ⟨E0.frames, E0.mod, fun b o e => ⟨(E0.bs b o e).1, un0 (E0.bs b o e).2⟩, E0.bsz, E0.funs, fun b e => un0 (E0.frf b e), hok_untr E0.hok cs, E0.bare⟩
  have C : CellsAt cl (G.ct k).fr (ws.map some) s.heap (untr (fun b => ∃ y, cl.lookup y = some b) H) := by
    refine ⟨by rw [List.length_map, q5], fun y c e => ⟨untr_in ⟨y, e⟩, ?_⟩, q4, fun i y e => ?_⟩
    · obtain ⟨w, z⟩ := at_ y c e
      obtain ⟨⟨u, _, ho⟩, _, _⟩ := I.hok c _ (r.sub _ _ z)
      exact ⟨_, ho⟩
    · have hlt : i < ws.length := by rw [q5]; exact (List.getElem?_eq_some_iff.mp e).1
      obtain ⟨c, e2, e3⟩ := q6 i y ws[i] e (List.getElem?_eq_getElem hlt)
      obtain ⟨⟨u, ru, ho⟩, _, _⟩ := I.hok c _ (r.sub _ _ e3)
      refine ⟨c, e2, fun v ev => ?_⟩
      rw [List.getElem?_map, List.getElem?_eq_getElem hlt] at ev
      cases ev
      exact ⟨u, ru, ho⟩
  refine wpAny_call (codeAny_mono (L.run X.A X.stack s _ us vs ws (fun v H1 => ∃ F1, Ret G (untr (fun b => ∃ y, cl.lookup y = some b) F) F1 (untr (fun b => ∃ y, cl.lookup y = some b) H) H1 ∧ Den G F1 x v) (hr.mono hdj) e0
    ((untr_out nf).trans (r.sub _ _ q1)) ((untr_out nc).trans (r.sub _ _ q2)) C rv ⟨_, ds, xs, ⟨untr_same r.sub, fun b o e => r.nt b o (untr_some e).2, tabs_untr I.hok cs r.tabs⟩, dens_untr cs r.sub ds pl1 q7, dens_untr cs r.sub xs pl2 px, hl, ?_⟩) fun r0 s' hq => ?_)
  · rw [hm]
    exact fun v F1 H1 t dd => ⟨F1, t, dd⟩
  · cases r0 with
    | error e =>
      obtain ⟨_, _, _, _, _, _, _, _, _, _, _, _, z⟩ := hq
      exact False.elim z
    | ok fl =>
      cases fl with
      | ret u =>
        obtain ⟨v, H1, z1, z2, un, hok1, ru, F1, t, dd⟩ := hq
        obtain ⟨un2, hok2, gone⟩ := ce_retr (G := G) E0.hok cs E0.frf un hok1
        obtain ⟨t2, s2⟩ := ret_retr cs r.sub r.nt gone t
        exact I.after ⟨v, _, z1, z2, un2, hok2, ru, hQ v _ _ t2 (Den.mono s2 x dd)⟩
      | next => exact False.elim hq
      | brk => exact False.elim hq
      | cont => exact False.elim hq
theorem de_callClo (i : Nat) {n d j : Nat} {x : Str} {mc : Nat → List D → List D → Option D} {g : EM (List D)} (hC : ∀ (k : Nat) (f c' : Addr) (cl : List (Str × Addr)), LOk X.prog X.w X.mg X.base G d f (G.ct k) cl c' n (mc k)) (hk : G.K = X.K) (hr : Room j X.A) (hdj : d ≤ j) (ha : DA X G B W (e :: es) g)
    (hN : X.N[i]? = some x := by rfl) (hv : Vis X.env.scope x := by first | exact Or.inl rfl | exact Or.inr (Or.inl rfl) | exact Or.inr (Or.inr rfl)) (hd : (x == ("__debug__" : Str)) = false := by decide) (hcd : (x == ("__classdict__" : Str)) = false := by decide)
    (he : starEach (e :: es) X.env = (false, eval e X.env) :: starEach es X.env := by rfl) (hpl : (backTo pos (starEach es X.env)).any (·.1) = false := by rfl) : DE X G B W (.Call (.Name x p) (e :: es) [] pos) (dCallClo n i mc g) := by
  refine ⟨fun pins s σ H Q I ⟨F, ρ, hR, h⟩ => ?_⟩
  have key : ∃ k ds, ρ[i]? = some (.d (.clo k ds)) ∧ cX G B W (PD G) (g.bind fun xs => EM.lift (if xs.length = n ∧ D.plains ds = true ∧ D.plains xs = true then mc k ds xs else none)) F ρ σ Q := by
    unfold cX dCallClo at h
    cases e1 : ρ[i]? with
    | none => simp only [e1] at h
    | some sl =>
      cases sl with
      | d z =>
        cases z with
        | clo k ds => simp only [e1] at h; exact ⟨k, ds, rfl, h⟩
        | _ => simp only [e1] at h
      | _ => simp only [e1] at h
  obtain ⟨k, ds, e1, h⟩ := key
  obtain ⟨v, hs, dv⟩ := hR.dat i _ e1
  simp only [Den] at dv
  obtain ⟨f, c', cl, ws, rfl, q1, q2, q3, q4, q5, q6, q7⟩ := dv
  refine wpAny_Call_Name_kw (thn ((pe_var (pos := p) hN hv hd hcd).run pins s σ H (fun v H1 => v = .ref f ∧ H1 = H) I ⟨.ref f, hs, rfl, rfl⟩) fun u s1 ⟨v, H1, I1, r1, qq⟩ => ?_)
  obtain ⟨ev, eH⟩ := qq
  subst ev
  rw [eH] at I1
  obtain rfl : u = Value.ref f := r1
  refine PySem.W.callWith_F (first := []) (lam_at I1 (hR.sub _ _ q1)) (thn (ha.run pos pins s1 σ H _ I1 ⟨F, ρ, hR, cX.bind h⟩) fun us s2 ⟨vs, H2, I2, rv, mid⟩ => ?_) he hpl
  obtain ⟨xs, F2, ρ2, s12, r2, p2, h2⟩ := mid
  obtain ⟨x, ex, hx⟩ := cX.lift h2
  split at ex
  · rename_i cond
    obtain ⟨hl, pl1, pl2⟩ := cond
    refine ⟨lam_at I2 (r2.sub _ _ (s12 _ _ q1)), ?_⟩
    show wpAny _ _ (call (.ref f) us) _ _ _
    refine run_clo (hC k f c' cl) hk hr hdj I2 r2 (s12 _ _ q1) (s12 _ _ q2) q3 q4 q5 (fun i y w z1 z2 => ?_) (Dens.mono s12 ds q7) p2 hl pl1 pl2 ex rv fun v F' H' t dd => hx v F' H' t.sF (r2.after t) dd
    obtain ⟨c, e2, e3⟩ := q6 i y w z1 z2
    exact ⟨c, e2, s12 _ _ e3⟩
  · cases ex
/-! ### a lambda that captures nothing -/
def dClo0 (k : Nat) : EM D := EM.ret (.clo k [])
theorem de_clo0 (k : Nat) {t : CT} {cc P : Addr} (TB : TabB X.base X.mg cc P) (hcode : X.env.code = .ref cc) (ht : G.ct k = t) (hq : t.qual = X.env.qual ++ "<lambda>") (hm : (P, t.qual) ∈ G.T) (hu : ∀ p ∈ G.T, p.1 = P → p.2 = t.qual) (hfr : t.fr = [])
    (hno : t.scope.names.all (fun y => !decide (y.2 = .free)) = true) (hdef : defaultsOf t.params X.env = ([], []) := by rfl) (hcl : ∀ cells, cloFrom cells t.scope.names [] = [] := by intro _; rfl) : DE X G B W (.Lambda t.params t.body t.scope pos) (dClo0 k) := by
  refine ⟨fun pins s σ H Q I ⟨F, ρ, hR, h⟩ => ?_⟩
  refine lam_new I TB hcode hq hm hu hR.tabs hdef (fun y hy e => ?_) fun f c' H1 s' I1 e1 _ tb T1 n1 a1 a2 => ?_
  · have z := List.all_eq_true.mp hno y hy
    rw [decide_eq_true e] at z
    cases z
  · have r1 := hR.grow e1 tb T1
    obtain ⟨r2, s2⟩ := r1.freezeX a1 (fun ps => lamO_ne ps) (by intro z; cases z)
    obtain ⟨r3, s3⟩ := r2.freezeX a2 (fun ps => codeO_ne ps) (by intro z; cases z)
    rw [hcl] at a1 r2 s2 r3 s3
    refine ⟨.ref f, H1, I1, rfl, cX.ret h _ _ H1 (s2.trans s3) r3 ?_⟩
    simp only [Den]
    refine ⟨f, c', [], [], rfl, s3 _ _ (ht ▸ upd_same), ht ▸ upd_same, ?_, ?_, ?_, ?_, .nil⟩
    · intro y c z; cases z
    · intro x y c z; cases z
    · rw [ht, hfr]; rfl
    · intro i y w z; rw [ht, hfr] at z; cases z
end
end DL

namespace DL
open PySem PySem.Spec PyProof.Rows L2 NdefX LamX
theorem codeIn_ref' {K : PySem.W.Frag} {cd : Value} {q : Str} (h : PySem.W.codeIn K cd q = true) : ∃ c, cd = .ref c := by
  cases cd with
  | ref c => exact ⟨c, rfl⟩
  | _ => cases h
/-! ### a def that gives back a lambda: the end sees the frame -/
structure EndR where
  nx : L2.St → Hp → Prop
  rt : V → L2.St → Hp → Prop
abbrev TSR := EndR → L2.St → Hp → Prop
def SPR (X : Cx) (pins : List (Addr × Obj)) (D : EndR) (f : Flow) (s' : Shared) : Prop := match f with
  | .next => ∃ σ' H', Inv X pins σ' H' s' ∧ D.nx σ' H'
  | .ret u => ∃ v σ' H', Inv X pins σ' H' s' ∧ RelV v u ∧ D.rt v σ' H'
  | _ => False
structure PR (X : Cx) (st : Stmt) (t : TSR) : Prop where
  run : ∀ (pins : List (Addr × Obj)) (s : Shared) (σ : L2.St) (H : Hp) (D : EndR), Inv X pins σ H s → t D σ H → wpAny (model X.prog X.w) X.A (exec st X.env) (SPR X pins D) X.xe s
structure PRs (X : Cx) (st : List Stmt) (t : TSR) : Prop where
  run : ∀ (pins : List (Addr × Obj)) (s : Shared) (σ : L2.St) (H : Hp) (D : EndR), Inv X pins σ H s → t D σ H → wpAny (model X.prog X.w) X.A (execs st X.env) (SPR X pins D) X.xe s
section
variable {X : Cx} {G : Gx} {B : Bs} {W : WX} {c : Expr} {st : Stmt} {sts cs : List Stmt} {pos : Pos}
theorem pr_of {t : TS} (h : PS X st t) : PR X st (fun D σ H => t { nx := D.nx, rt := fun _ _ => False } σ H) :=
  ⟨fun pins s σ H D I q => wpAny_mono (h.run pins s σ H _ I q) (fun f s' z => by
    cases f with
    | next => exact z
    | ret u => obtain ⟨_, _, _, _, _, z⟩ := z; exact False.elim z
    | brk => obtain ⟨_, _, _, z⟩ := z; exact False.elim z
    | cont => obtain ⟨_, _, _, z⟩ := z; exact False.elim z) fun _ _ z => z⟩
theorem prs_nil : PRs X [] (fun D σ H => D.nx σ H) := ⟨fun _ _ σ H _ I h => wpAny_execs_nil ⟨σ, H, I, h⟩⟩
theorem prs_cons {t u : TSR} (h1 : PR X st t) (h2 : PRs X sts u) : PRs X (st :: sts) (fun D σ H => t { D with nx := u D } σ H) :=
  ⟨fun pins s σ H D I h => wpAny_execs_cons (thn (h1.run pins s σ H { D with nx := u D } I h) fun f s1 q => by
    cases f with
    | next =>
      obtain ⟨σ', H', I', q⟩ := q
      exact h2.run pins s1 σ' H' D I' q
    | ret v => exact q
    | brk => exact q
    | cont => exact q)⟩
theorem pr_if {tc : TT} {t u : TSR} (hc : PT X c tc) (ha : PRs X sts t) (hb : PRs X cs u) : PR X (.If c sts cs pos) (fun D σ H => tc σ H fun b H1 => if b = true then t D σ H1 else u D σ H1) :=
  ⟨fun pins s σ H D I h => wpAny_If (thn (hc.run pins s σ H _ I h) fun d s1 ⟨H1, I1, q1⟩ => by
    cases d with
    | true => exact ha.run pins s1 σ H1 D I1 q1
    | false => exact hb.run pins s1 σ H1 D I1 q1)⟩
/-- a lambda of the running frame -/
def CloP (X : Cx) (G : Gx) (F : Hp) (x : D) (v : V) (σ : L2.St) : Prop := match x with
  | .clo k ds => ∃ f c' js ws, v = .ref f ∧ F f = some (LamO f (G.ct k) (cloFrom X.env.cells (G.ct k).scope.names []) c') ∧ F c' = some (CodeO c' (G.ct k).qual) ∧
    Caps X (cloFrom X.env.cells (G.ct k).scope.names []) (G.ct k).fr js ∧ js.map (slotAt σ) = ws.map some ∧ Dens G F ds ws ∧ (∀ y c, (cloFrom X.env.cells (G.ct k).scope.names []).lookup y = some c → y ∈ (G.ct k).fr) ∧ (G.ct k).fr.Nodup
  | _ => False
def cR (X : Cx) (G : Gx) (B : Bs) (W : WX) (g : SM) (F : Hp) (ρ : Rho) (E : EndR) : Prop :=
  match g ρ with
  | .nx ρ' => ∀ F' σ' H', Same F F' → R G B F' ρ' σ' H' → E.nx σ' H'
  | .rt x ρ' => ∀ v F' σ' H', Same F F' → R G B F' ρ' σ' H' → CloP X G F' x v σ' → E.rt v σ' H'
  | .ex c xs ρ' => ∀ cls d F' σ' H', Same F F' → R G B F' ρ' σ' H' → ExD G F' c xs cls d → W cls d σ' H'
  | _ => False
def tR (X : Cx) (G : Gx) (B : Bs) (W : WX) (g : SM) : TSR := fun E σ H => ∃ F ρ, R G B F ρ σ H ∧ cR X G B W g F ρ E
abbrev DR (X : Cx) (G : Gx) (B : Bs) (W : WX) (st : Stmt) (g : SM) : Prop := PR X st (tR X G B W g)
abbrev DRs (X : Cx) (G : Gx) (B : Bs) (W : WX) (st : List Stmt) (g : SM) : Prop := PRs X st (tR X G B W g)
theorem cR.weak {g : SM} {F F1 : Hp} {ρ : Rho} {E : EndR} (s : Same F F1) (h : cR X G B W g F ρ E) : cR X G B W g F1 ρ E := by
  unfold cR at h ⊢
  cases q : g ρ <;> simp only [q] at h ⊢
  · exact fun F' σ' H' s' => h F' σ' H' (s.trans s')
  · exact fun v F' σ' H' s' => h v F' σ' H' (s.trans s')
  · exact fun cls d F' σ' H' s' => h cls d F' σ' H' (s.trans s')
theorem pr_weak {t u : TSR} (h : PR X st t) (i : ∀ D σ H, u D σ H → t D σ H) : PR X st u := ⟨fun pins s σ H D I q => h.run pins s σ H D I (i _ _ _ q)⟩
theorem prs_weak {t u : TSR} (h : PRs X sts t) (i : ∀ D σ H, u D σ H → t D σ H) : PRs X sts u := ⟨fun pins s σ H D I q => h.run pins s σ H D I (i _ _ _ q)⟩
/-- a statement that gives nothing back -/
def noRt (g : SM) : SM := fun r => match g r with
  | .nx r' => .nx r'
  | .ex c xs r' => .ex c xs r'
  | _ => .st
theorem dr_of {g : SM} (h : DS X G B W st g) : DR X G B W st (noRt g) := pr_weak (pr_of h) fun D σ H ⟨F, ρ, hR, q⟩ => ⟨F, ρ, hR, by
  unfold cR noRt at q
  unfold cS
  cases e : g ρ <;> simp only [e] at q ⊢
  · exact q
  · exact q⟩
theorem drs_nil : DRs X G B W [] sNx := prs_weak prs_nil fun D σ H ⟨F, ρ, hR, h⟩ => h F σ H (Same.refl _) hR
theorem drs_cons {g h : SM} (h1 : DR X G B W st g) (h2 : DRs X G B W sts h) : DRs X G B W (st :: sts) (sSeq g h) :=
  prs_weak (prs_cons h1 h2) fun D σ H ⟨F, ρ, hR, q⟩ => ⟨F, ρ, hR, by
    unfold cR sSeq at q
    unfold cR
    cases e : g ρ <;> simp only [e] at q ⊢
    · exact fun F' σ' H' s r => ⟨F', _, r, by unfold cR; exact cR.weak (g := h) s q⟩
    · exact q
    · exact q⟩
theorem dr_if {t : EM Bool} {g h : SM} (hc : DT X G B W c t) (ha : DRs X G B W sts g) (hb : DRs X G B W cs h) : DR X G B W (.If c sts cs pos) (sIf t g h) :=
  pr_weak (pr_if hc ha hb) fun D σ H ⟨F, ρ, hR, q⟩ => ⟨F, ρ, hR, by
    unfold cR sIf SM.of at q
    unfold cX
    cases e : t ρ with
    | ok k ρ1 =>
      simp only [e] at q
      intro b F1 H1 s1 r1 p1
      cases p1
      cases k with
      | true => exact iteT ⟨F1, ρ1, r1, cR.weak (g := g) s1 (by unfold cR; simpa only [if_true] using q)⟩
      | false => exact iteF ⟨F1, ρ1, r1, cR.weak (g := h) s1 (by unfold cR; simpa only [Bool.false_eq_true, if_false] using q)⟩
    | ex c xs ρ1 => simp only [e] at q; exact fun cls d F1 H1 s r x => q cls d F1 σ H1 s r x
    | st => simp only [e] at q⟩
/-- return lambda ..: -/
def takeD (r : Rho) : List Nat → Option (List D)
  | [] => some []
  | j :: js => match r[j]? with
    | some (.d x) => (takeD r js).map (x :: ·)
    | _ => none
def sRetLam (k : Nat) (js : List Nat) : SM := fun r => match takeD r js with
  | some ds => .rt (.clo k ds) r
  | none => .st
theorem takeD_ok {F H : Hp} {ρ : Rho} {σ : L2.St} (r : R G B F ρ σ H) : ∀ {js : List Nat} {ds : List D}, takeD ρ js = some ds → ∃ ws, js.map (slotAt σ) = ws.map some ∧ Dens G F ds ws
  | [], ds, e => by cases e; exact ⟨[], rfl, .nil⟩
  | j :: js, ds, e => by
    simp only [takeD] at e
    split at e
    · rename_i x hx
      rw [Option.map_eq_some_iff] at e
      obtain ⟨ds', e1, rfl⟩ := e
      obtain ⟨ws, h1, h2⟩ := takeD_ok r e1
      obtain ⟨v, h3, h4⟩ := r.dat j x hx
      exact ⟨v :: ws, by rw [List.map_cons, List.map_cons, h1, slotAt_of h3], .cons h4 h2⟩
    · cases e
theorem dr_retLam (k : Nat) (js : List Nat) {t : CT} {cc P : Addr} {lpos : Pos} (TB : TabB X.base X.mg cc P) (hcode : X.env.code = .ref cc) (ht : G.ct k = t) (hq : t.qual = X.env.qual ++ "<lambda>") (hm : (P, t.qual) ∈ G.T) (hu : ∀ p ∈ G.T, p.1 = P → p.2 = t.qual)
    (hfree : ∀ y ∈ t.scope.names, y.2 = .free → X.env.scope.names.lookup y.1 = some .cell ∨ X.env.scope.names.lookup y.1 = some .free) (hfr : ∀ y ∈ t.fr, (y, NameKind.free) ∈ t.scope.names) (hfr2 : ∀ y ∈ t.scope.names, y.2 = .free → y.1 ∈ t.fr) (hnd : t.fr.Nodup) (hjs : js.map (fun j => X.N[j]?) = t.fr.map some)
    (hdef : defaultsOf t.params X.env = ([], []) := by rfl) : DR X G B W (.Return (some (.Lambda t.params t.body t.scope lpos)) pos) (sRetLam k js) := by
  refine ⟨fun pins s σ H D I ⟨F, ρ, hR, h⟩ => ?_⟩
  unfold cR sRetLam at h
  cases e : takeD ρ js with
  | none => simp only [e] at h
  | some ds =>
    simp only [e] at h
    have hf : ∀ y ∈ t.scope.names, y.2 = .free → ∃ c, X.env.cells.lookup y.1 = some c := fun y hy e => (hfree y hy e).elim (fun z => I.ok.has _ (.inl z)) fun z => I.ok.has _ (.inr z)
    refine wpAny_Return_some (lam_new I TB hcode hq hm hu hR.tabs hdef hf fun f c' H1 s' I1 e1 _ tb T1 n1 a1 a2 => ?_)
    have r1 := hR.grow e1 tb T1
    obtain ⟨r2, s2⟩ := r1.freezeX a1 (fun ps => lamO_ne ps) (by intro z; cases z)
    obtain ⟨r3, s3⟩ := r2.freezeX a2 (fun ps => codeO_ne ps) (by intro z; cases z)
    obtain ⟨ws, w1, w2⟩ := takeD_ok hR e
    refine ⟨.ref f, σ, H1, I1, rfl, h (.ref f) _ σ H1 (s2.trans s3) r3 ?_⟩
    unfold CloP
    simp only [ht]
    refine ⟨f, c', js, ws, rfl, s3 _ _ upd_same, upd_same, Caps.made I.ok hfree hfr hjs, w1, Dens.mono (s2.trans s3) ds w2, fun y c z => ?_, hnd⟩
    rcases cloFrom_mem (PySem.mem_of_lookup z) with z2 | ⟨z2, _⟩
    · cases z2
    · exact hfr2 (y, .free) z2 rfl
/-! ### the end: the frame's cells stay as they are, and are told from now on -/
theorem un_grow {fs ex : List Addr} {H0 H1 : Hp} {h h' : Heap} {c : Addr} {o : HO} (u : Un fs ex H0 H1 h h') (n : H1 c = none) (hs : h.objs.size ≤ c) : Un fs ex H0 (upd H1 c o) h h' := by
  refine ⟨u.keep, u.slot, fun b ob e n2 x => ?_, u.there, fun b xs e => ?_, fun b ob w e => ?_, fun b ps e => ?_⟩
  · have hb : b ≠ c := fun z => by subst z; exact Nat.lt_irrefl _ (Nat.lt_of_lt_of_le (Heap.lt_size e) hs)
    rw [upd_ne hb]; exact u.free b ob e n2 x
  · have z := u.tups b xs e
    rw [upd_ne (ne_of_none z n)]; exact z
  · have z := u.frzs b ob w e
    rw [upd_ne (ne_of_none z n)]; exact z
  · obtain ⟨more, z⟩ := u.tbls b ps e
    exact ⟨more, by rw [upd_ne (ne_of_none z n)]; exact z⟩
theorem hok_cell {P : Program} {w : World} {H1 : Hp} {h : Heap} {c : Addr} {v : V} {u : Value} (k : HOk P w H1 h) (n : H1 c = none) (ru : RelV v u) (ho : h.IsCell c (some u)) : HOk P w (upd H1 c (CellO c v)) h := fun a o e => by
  by_cases ha : a = c
  · subst ha
    rw [upd_same] at e
    cases e
    obtain ⟨ob, h1, h2⟩ := ho
    exact ⟨⟨u, ru, ob, h1, h2⟩, ⟨ob, h1⟩, fun g1 g2 ⟨u, ru, ob, h1, h2⟩ st => ⟨u, ru, ob, st _ h1, h2⟩⟩
  · rw [upd_ne ha] at e
    exact (k a o e).stay (fun _ _ _ z => z) (fun b z => by rw [upd_ne (ne_of_none z n)]; exact z) fun b xs z => by rw [upd_ne (ne_of_none z n)]; exact z
theorem track_list {P : Program} {w : World} {fs ex : List Addr} {H0 : Hp} {h0 h : Heap} {ρ : Rho} {σ : L2.St} {cl : List (Str × Addr)} (inj : ∀ x y c, cl.lookup x = some c → cl.lookup y = some c → x = y) :
    ∀ (fr : List Str) (ws : List V) (F H : Hp), fr.Nodup → ws.length = fr.length → (∀ (i : Nat) (y : Str) (v : V), fr[i]? = some y → ws[i]? = some v → ∃ c, cl.lookup y = some c ∧ H c = none ∧ h0.objs.size ≤ c ∧ ∃ u, RelV v u ∧ h.IsCell c (some u)) →
      R G B F ρ σ H → Un fs ex H0 H h0 h → HOk P w H h → ∃ F' H', Same F F' ∧ R G B F' ρ σ H' ∧ Un fs ex H0 H' h0 h ∧ HOk P w H' h ∧ ∀ (i : Nat) (y : Str) (v : V), fr[i]? = some y → ws[i]? = some v → ∃ c, cl.lookup y = some c ∧ F' c = some (CellO c v)
  | [], ws, F, H, _, _, _, r, un, k => ⟨F, H, Same.refl _, r, un, k, fun i y v e => by simp at e⟩
  | y :: fr, [], F, H, _, hl, _, _, _, _ => by cases hl
  | y :: fr, v :: ws, F, H, nd, hl, all, r, un, k => by
    obtain ⟨c, e1, n1, g1, u, ru, ho⟩ := all 0 y v rfl rfl
    obtain ⟨r1, s1⟩ := r.new (o := CellO c v) n1 (by intro ps z; cases z)
    obtain ⟨ny, nd2⟩ := List.nodup_cons.mp nd
    obtain ⟨F', H', s2, r2, un2, k2, at2⟩ := track_list inj fr ws _ _ nd2 (Nat.succ.inj hl) (fun i y2 v2 h1 h2 => by
      obtain ⟨c2, e2, n2, g2, rest⟩ := all (i + 1) y2 v2 (by simpa using h1) (by simpa using h2)
      refine ⟨c2, e2, ?_, g2, rest⟩
      have : c2 ≠ c := fun z => by
        subst z
        have := inj y y2 c2 e1 e2
        subst this
        exact ny (List.mem_of_getElem? h1)
      rw [upd_ne this]; exact n2) r1 (un_grow un n1 g1) (hok_cell k n1 ru ho)
    refine ⟨F', H', s1.trans s2, r2, un2, k2, fun i y2 v2 h1 h2 => ?_⟩
    cases i with
    | zero =>
      cases h1; cases h2
      exact ⟨c, e1, s2 _ _ upd_same⟩
    | succ i => exact at2 i y2 v2 (by simpa using h1) (by simpa using h2)
theorem track {σ : L2.St} {F H : Hp} {ρ : Rho} {s : Shared} {x : D} {v : V} (J : Inv X [] σ H s) (hfn : ∀ y, X.fn y = true) (r : R G B F ρ σ H) (c : CloP X G F x v σ) :
    ∃ F' H', Same F F' ∧ R G B F' ρ σ H' ∧ Den G F' x v ∧ Un X.fs X.ex X.H_0 H' X.s_0.heap s.heap ∧ HOk X.prog X.w H' s.heap := by
  unfold CloP at c
  cases x with
  | clo k ds =>
    obtain ⟨f, c', js, ws, rfl, q1, q2, caps, w1, q3, q4, nd⟩ := c
    have C := cells_of J caps
    rw [w1] at C
    have hl : ws.length = (G.ct k).fr.length := by
      have z := C.len
      rw [List.length_map] at z; exact z
    obtain ⟨F', H', s1, r1, un1, k1, at1⟩ := track_list (P := X.prog) (w := X.w) (h0 := X.s_0.heap) (h := s.heap) C.inj (G.ct k).fr ws F H nd hl (fun i y v h1 h2 => by
      obtain ⟨c, e1, hv⟩ := C.has i y h1
      obtain ⟨u, ru, ho⟩ := hv v (by rw [List.getElem?_map, h2]; rfl)
      exact ⟨c, e1, (C.all y c e1).1, J.ok.cab y c (hfn y) (caps.sub y c e1), u, ru, ho⟩) r J.base J.hok
    refine ⟨F', H', s1, r1, ?_, un1, k1⟩
    simp only [Den]
    exact ⟨f, c', _, ws, rfl, s1 _ _ q1, s1 _ _ q2, q4, C.inj, hl, at1, Dens.mono s1 ds q3⟩
  | _ => exact c.elim
end
section
variable {P : Program} {w : World} {mg : Str → Option Value} {base : Heap} {G : Gx} {x qual : Str} {params : Arguments} {body : List Stmt} {scope : Scope} {dvs : List V} {kws : List (Str × V)} {f : Addr} {fd : FuncData} {N ps : List Str} {k : Nat}
/-- THE RULE: such a def that writes its first argument's list, by its body -/
theorem fnCU_ok {g : SM} {cc : Addr} (FD : FunD G.K x qual params body scope dvs kws f fd) (hcc : ∀ oc od osl fd' c', G.K.lookup f = some ⟨oc, od, .func fd', osl⟩ → fd'.code = .ref c' → c' = cc) (S : FnScope N ps scope)
    (hbody : ∀ (B : Bs) (W : WX) (X : Cx), X.prog = P → X.w = w → X.K = G.K → X.mg = mg → X.base = base → Room k X.A → Takes X W → ∀ (A : Around) (outer : List Env) (s : Shared) (H : Hp) (E : XK), X = cxOf (L2.CX P w) P w G.K mg base N qual scope f (.ref cc) A outer s H E → (∃ a, B.arg = some (0, a)) → DRs X G B W body g) :
    FnU P w mg base G (k + 1) f fd ps (uRun N.length g) := by
  obtain ⟨oc, od, dV, kV, doc, pm, an, cdv, ct, osl, rfl, lk, hcd, _, _⟩ := FD.ex
  obtain ⟨c', rfl⟩ := codeIn_ref' hcd
  obtain rfl : c' = cc := hcc _ _ _ _ c' lk rfl
  refine ⟨fun vs H Q E h => spU_len h, fun A outer s H args us vs Q E hr e0 hb rv hsp => ?_⟩
  have hl := spU_len hsp
  have KX : G.K.In s.heap := e0.mod.kin.keeps fun b o e => (e0.bs b o e).1
  have lim : s.heap.NoLimit := e0.mod.nolimit.keeps fun b o e => (e0.bs b o e).1
  have kinds : ∀ y ∈ ps.zip us, scope.names.lookup y.1 = some .local ∨ (scope.names.lookup y.1 = some .cell ∧ ((cellsFrom (s.heap.objs.size + 1) scope.names []).lookup y.1).isSome = true) := fun ⟨n, v⟩ hy =>
    (S.par n (List.of_mem_zip hy).1).imp id fun q => ⟨q, PySem.W.cellsFrom_some _ _ _ (.inl q)⟩
  refine codeAny_call_function hr.depth (KX _ _ lk) rfl S.co S.gen rfl (PySem.W.codeRec_of KX hcd) (hb _ _ _ _ (wpAny_newFunctionEnv_cells S.kind kinds fun env he s1 inCall => ?_))
  subst he
  refine ⟨lim.keeps inCall.toInCall.keep, codeAny_func ?_⟩
  obtain ⟨F, a, rs, uu, ws, xs, rfl, pre, hF, hH, pu, px, hlx, hsp⟩ := hsp
  have J0 : Inv (cxOf (L2.CX P w) P w G.K mg base N qual scope f (.ref c') A outer s H E) [] (L2.start N (.ref a :: rs)) H s1 := inv_start S hr.hd e0 hl rv inCall
  have hD := hbody (inU a F H) (fun cls d _ H' => E cls d H') _ rfl rfl rfl rfl rfl (hr.deeper _) (takes_of rfl rfl rfl rfl) A outer s H E rfl ⟨a, rfl⟩
  have r0 := R.startU (N := N) pre hF hH pu px
  have hbig : cR (cxOf (L2.CX P w) P w G.K mg base N qual scope f (.ref c') A outer s H E) G (inU a F H) (fun cls d _ H' => E cls d H') g F (uInit N.length uu xs)
      { nx := fun σ' H' => Q .non H', rt := fun v σ' H' => ∃ F' ρ' x us', Same F F' ∧ R G (inU a F H) F' ρ' σ' H' ∧ CloP (cxOf (L2.CX P w) P w G.K mg base N qual scope f (.ref c') A outer s H E) G F' x v σ' ∧ ρ'[(0 : Nat)]? = some (Sl.own us') ∧
        ∀ v F' H' ws', RetU G a F F' H H' → F' a = none → H' a = some (.lst ws') → Dens G F' us' ws' → Den G F' x v → Q v H' } := by
    unfold cR
    unfold uRun at hsp
    cases e : g (uInit N.length uu xs) with
    | nx r =>
      simp only [e] at hsp ⊢
      intro F' σ' H' s' r1
      obtain ⟨us', e1, h⟩ := uEnd_own (P := fun u => match u with
        | .ok x us' => ∀ v F' H' ws', RetU G a F F' H H' → F' a = none → H' a = some (.lst ws') → Dens G F' us' ws' → Den G F' x v → Q v H'
        | .ex c ys us' => ∀ cls d F' H' ws', RetU G a F F' H H' → F' a = none → H' a = some (.lst ws') → Dens G F' us' ws' → ExD G F' c ys cls d → E cls d H'
        | .st => False) id hsp
      obtain ⟨t, z1, ws', z2, z3⟩ := r1.retU s' ⟨ws, hH⟩ e1
      exact h .non F' H' ws' t z1 z2 z3 .non
    | rt x r =>
      simp only [e] at hsp ⊢
      intro v F' σ' H' s' r1 cp
      obtain ⟨us', e1, h⟩ := uEnd_own (P := fun u => match u with
        | .ok x us' => ∀ v F' H' ws', RetU G a F F' H H' → F' a = none → H' a = some (.lst ws') → Dens G F' us' ws' → Den G F' x v → Q v H'
        | .ex c ys us' => ∀ cls d F' H' ws', RetU G a F F' H H' → F' a = none → H' a = some (.lst ws') → Dens G F' us' ws' → ExD G F' c ys cls d → E cls d H'
        | .st => False) id hsp
      exact ⟨F', r, x, us', s', r1, cp, e1, h⟩
    | ex c ys r =>
      simp only [e] at hsp ⊢
      intro cls d F' σ' H' s' r1 x
      obtain ⟨us', e1, h⟩ := uEnd_own (P := fun u => match u with
        | .ok x us' => ∀ v F' H' ws', RetU G a F F' H H' → F' a = none → H' a = some (.lst ws') → Dens G F' us' ws' → Den G F' x v → Q v H'
        | .ex c ys us' => ∀ cls d F' H' ws', RetU G a F F' H H' → F' a = none → H' a = some (.lst ws') → Dens G F' us' ws' → ExD G F' c ys cls d → E cls d H'
        | .st => False) id hsp
      obtain ⟨t, z1, ws', z2, z3⟩ := r1.retU s' ⟨ws, hH⟩ e1
      exact h cls d F' H' ws' t z1 z2 z3 x
    | _ => simp only [e] at hsp
  refine wpAny_mono (hD.run [] s1 _ H _ J0 ⟨F, _, r0, hbig⟩) (fun fl s' hs => ?_) fun e s' hs => hs
  cases fl with
  | ret u =>
    obtain ⟨v, σ', H', J, ru, F', ρ', x, us', s', r1, cp, e1, h⟩ := hs
    obtain ⟨F2, H2, s2, r2, dd, un2, k2⟩ := track J (fun _ => rfl) r1 cp
    obtain ⟨t, z1, ws', z2, z3⟩ := r2.retU (s'.trans s2) ⟨ws, hH⟩ e1
    exact ⟨v, H2, J.os, J.bare, un2, k2, ru, h v F2 H2 ws' t z1 z2 z3 dd⟩
  | next =>
    obtain ⟨σ', H', J, q⟩ := hs
    exact ⟨.non, H', J.os, J.bare, J.base, J.hok, rfl, q⟩
  | brk => exact False.elim hs
  | cont => exact False.elim hs
end
end DL

namespace DL
open PySem PySem.Spec PyProof.Rows L2 NdefX LamX
section
variable {X : Cx} {G : Gx} {B : Bs} {W : WX} {a b c e o tg iter : Expr} {es rest : List Expr} {pos pos' p : Pos} {st : Stmt} {sts : List Stmt}
/-! ### in -/
def isIn (y x : D) : Option Bool := match y with
  | .str z => (match x with
    | .str [c] => some (decide (c ∈ z))
    | _ => none)
  | .lst ys => if okD 64 (.lst ys) && okD 64 x then some (ys.any fun y => beq y x) else none
  | .tup ys => if okD 64 (.tup ys) && okD 64 x then some (ys.any fun y => beq y x) else none
  | _ => none
def dIn (x y : D) : Option D := (isIn y x).map .bl
def dNotIn (x y : D) : Option D := (isIn y x).map fun k => .bl (!k)
theorem any_eqv (d : D) {x : PyData} (hd : toPy d = some x) : ∀ (ds : List D) {xs : List PyData}, toPys ds = some xs → (xs.any fun z => PyData.eqv z x) = ds.any fun y => beq y d
  | [], xs, e => by simp only [toPys, Option.some.injEq] at e; subst e; rfl
  | y :: ds, xs, e => by
    simp only [toPys] at e
    split at e
    · rename_i z zs e1 e2
      cases e
      rw [List.any_cons, List.any_cons, eqv_beq y d e1 hd, any_eqv d hd ds e2]
    · cases e
theorem isIn_ok (hk : G.K = X.K) (hu : X.A.units + 65 < cLine) {neg : Bool} {F H : Hp} {ρ : Rho} {σ σ2 : L2.St} {pins : List (Addr × Obj)} {s : Shared} {dx dy : D} {x y : V} {v u : Value} {k : Bool} {Q : Value → Shared → Prop} {E : Value → Shared → Prop} (I : Inv X pins σ2 H s) (hR : R G B F ρ σ H) (p1 : Den G F dx x) (p2 : Den G F dy y) (rx : RelV x v) (ry : RelV y u)
    (e : isIn dy dx = some k) (h : Q (.bool (if neg then !k else k)) s) : wpAny (model X.prog X.w) X.A (compareOp (if neg then .NotIn else .In) v u) Q E s := by
  unfold isIn at e
  split at e
  · rename_i z
    split at e
    · rename_i c
      cases e
      rw [p1.str_inv] at rx
      rw [p2.str_inv] at ry
      obtain ⟨t, rfl⟩ := rx
      obtain ⟨t', rfl⟩ := ry
      have e1 := (PySem.StrLaws.found_one (mkStr z) c)
      cases neg with
      | false =>
        refine PyProof.Rows.in_str ?_
        have h : Q (.bool (decide (c ∈ z))) s := h
        have e2 := e1.symm
        simp only [mkStr] at e2 ⊢
        rw [← e2]
        simpa using h
      | true =>
        refine PyProof.Rows.notIn_str ?_
        have h : Q (.bool (!decide (c ∈ z))) s := h
        have e2 := e1.symm
        simp only [mkStr] at e2 ⊢
        rw [← e2]
        simpa using h
    · cases e
  · rename_i ys
    split at e
    · rename_i hok
      cases e
      obtain ⟨h1, h2⟩ := Bool.and_eq_true_iff.mp hok
      obtain ⟨px, e1, c1, d1⟩ := ok_py 64 dx h2
      obtain ⟨py, e2, c2, d2⟩ := ok_py 64 (.lst ys) h1
      have a1 := toPy_dp hR.sub dx e1 p1
      have a2 := toPy_dp hR.sub (.lst ys) e2 p2
      simp only [toPy, Option.map_eq_some_iff] at e2
      obtain ⟨qs, e3, rfl⟩ := e2
      obtain ⟨as, r1⟩ := Dp.reads I px x v (hk ▸ a1) rx
      obtain ⟨bs, r2⟩ := Dp.reads I (.list qs) y u (hk ▸ a2) ry
      have room := room_in_shaped (xs := qs) (shaped_of c1 d1) hu
      cases neg with
      | false => exact SeqAt.in_list_reads r2 r1 (SeqAt.canLay_of_shaped (shaped_of c2 d2)) c1 room (by rw [any_eqv dx e1 ys e3]; exact h)
      | true => exact SeqAt.notIn_list_reads r2 r1 (SeqAt.canLay_of_shaped (shaped_of c2 d2)) c1 room (by rw [any_eqv dx e1 ys e3]; exact h)
    · cases e
  · rename_i ys
    split at e
    · rename_i hok
      cases e
      obtain ⟨h1, h2⟩ := Bool.and_eq_true_iff.mp hok
      obtain ⟨px, e1, c1, d1⟩ := ok_py 64 dx h2
      obtain ⟨py, e2, c2, d2⟩ := ok_py 64 (.tup ys) h1
      have a1 := toPy_dp hR.sub dx e1 p1
      have a2 := toPy_dp hR.sub (.tup ys) e2 p2
      simp only [toPy, Option.map_eq_some_iff] at e2
      obtain ⟨qs, e3, rfl⟩ := e2
      obtain ⟨as, r1⟩ := Dp.reads I px x v (hk ▸ a1) rx
      obtain ⟨bs, r2⟩ := Dp.reads I (.tuple qs) y u (hk ▸ a2) ry
      have room := room_in_shaped (xs := qs) (shaped_of c1 d1) hu
      have c3 : PyData.canLayAll0 qs = true := by simpa only [PyData.canLay0] using c2
      cases neg with
      | false => exact SeqAt.in_tuple_reads r2 r1 c3 c1 room (by rw [any_eqv dx e1 ys e3]; exact h)
      | true => exact SeqAt.notIn_tuple_reads r2 r1 c3 c1 room (by rw [any_eqv dx e1 ys e3]; exact h)
    · cases e
  · cases e
theorem od_in (hk : G.K = X.K) (hu : X.A.units + 65 < cLine) : OpD X G B (compareOp .In) dIn := fun pins s σ H x y v u Q I rx ry ⟨F, ρ, σ', dx, dy, d, hR, p1, p2, e, k⟩ => by
  unfold dIn at e
  rw [Option.map_eq_some_iff] at e
  obtain ⟨b, e, rfl⟩ := e
  exact isIn_ok (neg := false) hk hu I hR p1 p2 rx ry e ⟨.bl b, H, I, rfl, k _ F H (Same.refl _) hR .bl⟩
theorem od_notin (hk : G.K = X.K) (hu : X.A.units + 65 < cLine) : OpD X G B (compareOp .NotIn) dNotIn := fun pins s σ H x y v u Q I rx ry ⟨F, ρ, σ', dx, dy, d, hR, p1, p2, e, k⟩ => by
  unfold dNotIn at e
  rw [Option.map_eq_some_iff] at e
  obtain ⟨b, e, rfl⟩ := e
  exact isIn_ok (neg := true) hk hu I hR p1 p2 rx ry e ⟨.bl (!b), H, I, rfl, k _ F H (Same.refl _) hR .bl⟩
/-! ### op= -/
def dIadd : D → D → Option D := fun x y => match x, y with
  | .int i, .int j => some (.int (i + j))
  | _, _ => none
def dIsub : D → D → Option D := fun x y => match x, y with
  | .int i, .int j => some (.int (i - j))
  | _, _ => none
theorem od_iadd : OpD X G B (inplaceOp .Add) dIadd := od_int0 iop_add fun dx dy d e => by
  unfold dIadd at e
  split at e <;> cases e
  exact ⟨_, _, rfl, rfl, fun F => .int⟩
theorem od_isub : OpD X G B (inplaceOp .Sub) dIsub := od_int0 iop_sub fun dx dy d e => by
  unfold dIsub at e
  split at e <;> cases e
  exact ⟨_, _, rfl, rfl, fun F => .int⟩
theorem od_ishr : OpD X G B (inplaceOp .RShift) dShr := od_int iop_shr fun dx dy d e => by
  unfold dShr at e
  split at e
  · split at e
    · rename_i hc
      cases e
      exact ⟨_, _, rfl, rfl, hc, fun F => .int⟩
    · cases e
  · cases e
/-! ### join -/
def strsD : List D → Option (List (List Nat))
  | [] => some []
  | .str s :: ds => (strsD ds).map (s :: ·)
  | _ => none
def joinD (sep : List Nat) (ds : List D) : Option D := (strsD ds).bind fun ys => if (ys.map (·.length)).sum + ys.length * sep.length ≤ 16777216 then some (.str (TL.joinL sep ys)) else none
def dJoin : D → D → Option D
  | .str sep, .lst ds => joinD sep ds
  | .str sep, .tup ds => joinD sep ds
  | _, _ => none
theorem strsD_ok {F : Hp} : ∀ {ds : List D} {ys : List (List Nat)} {vs : List V}, strsD ds = some ys → Dens G F ds vs → vs = (ys.map mkStr).map V.str
  | [], ys, vs, e, p => by cases e; rw [p.inv_nil]; rfl
  | d :: ds, ys, vs, e, p => by
    obtain ⟨v, r, rfl, q, t⟩ := p.inv
    cases d with
    | str s =>
      simp only [strsD, Option.map_eq_some_iff] at e
      obtain ⟨zs, e, rfl⟩ := e
      rw [q.str_inv, strsD_ok e t]; rfl
    | _ => simp only [strsD] at e; cases e
theorem join_mk (sep : List Nat) (ys : List (List Nat)) : Txt.join (mkStr sep) (ys.map mkStr) = mkStr (TL.joinL sep ys) := by
  rw [TL.join_eq]
  apply TL.ext_tl
  rw [TL.tl_join]
  have h : (ys.map mkStr).map TL.tl = ys := by
    rw [List.map_map]
    conv => rhs; rw [← List.map_id ys]
    exact List.map_congr_left fun y _ => by simp [TL.tl]
  rw [h]
theorem len_mk (s : List Nat) : (mkStr s).length = s.length := by rw [TL.len_tl]
theorem lens_mk (ys : List (List Nat)) : ((ys.map mkStr).map (·.length)).sum = (ys.map (·.length)).sum := by
  rw [List.map_map]
  congr 1
theorem joinD_inv {sep : List Nat} {ds : List D} {d : D} (e : joinD sep ds = some d) : ∃ ys, strsD ds = some ys ∧ d = .str (TL.joinL sep ys) ∧ ((ys.map mkStr).map (·.length)).sum + (ys.map mkStr).length * (mkStr sep).length ≤ 16777216 := by
  unfold joinD at e
  rw [Option.bind_eq_some_iff] at e
  obtain ⟨ys, e1, e2⟩ := e
  split at e2
  · rename_i hz
    cases e2
    exact ⟨ys, e1, rfl, by rw [lens_mk, List.length_map, len_mk]; exact hz⟩
  · cases e2
def joinAny (sep : List Nat) : D → Option D
  | .lst ds => joinD sep ds
  | .tup ds => joinD sep ds
  | _ => none
def dJoinE (f g : EM D) : EM D := f.bind fun x => match x with
  | .str sep => g.bind fun y => EM.lift (joinAny sep y)
  | _ => fun _ => .st
theorem de_join {apos : Pos} {f g : EM D} (hk : G.K = X.K) (ho : DE X G B W o f) (he : DE X G B W e g) (hs : starEach [e] X.env = [(false, eval e X.env)] := by rfl) (hbase : attributeBase o "join" X.env (eval o X.env) = eval o X.env := by rfl) (hline : (apos.endLine == pos.line) = true := by rfl) :
    DE X G B W (.Call (.Attribute o "join" apos) [e] [] pos) (dJoinE f g) :=
  pe_weak (pe_join ho he hs hbase hline) fun σ H Q ⟨F, ρ, hR, h⟩ => ⟨F, ρ, hR, (cX.bind h).imp fun x H1 ⟨dx, F1, ρ1, s1, r1, p1, h1⟩ => by
    cases dx with
    | str sep =>
      rw [p1.str_inv]
      refine ⟨⟨_, rfl⟩, F1, ρ1, r1, (cX.bind h1).imp fun y H2 ⟨dy, F2, ρ2, s2, r2, p2, h2⟩ => ?_⟩
      obtain ⟨d, e, k⟩ := cX.lift h2
      cases dy with
      | lst ds =>
        obtain ⟨a, vs, rfl, q, t⟩ := p2.lst_inv
        obtain ⟨ys, e1, rfl, hz⟩ := joinD_inv e
        have e2 := strsD_ok e1 t
        subst e2
        exact ⟨mkStr sep, a, ys.map mkStr, rfl, rfl, .inl (hk ▸ r2.sub.seq q), hz, k _ F2 H2 (Same.refl _) r2 (by rw [join_mk]; exact .str)⟩
      | tup ds =>
        obtain ⟨a, vs, rfl, q, t⟩ := p2.tup_inv
        obtain ⟨ys, e1, rfl, hz⟩ := joinD_inv e
        have e2 := strsD_ok e1 t
        subst e2
        exact ⟨mkStr sep, a, ys.map mkStr, rfl, rfl, .inr (hk ▸ SqT.mono r2.sub q), hz, k _ F2 H2 (Same.refl _) r2 (by rw [join_mk]; exact .str)⟩
      | _ => cases e
    | _ => unfold cX at h1; exact h1.elim⟩
/-! ### sep.join(reversed(l)) -/
theorem gives_all {x : Str} : ∀ (l : List (Str × Tok)) (_ : Builtin.Str.tooLong ((l.map (·.1)).toArray.foldl (· + ·.length + x.length) 0) = false), Gives (joinTail x (strValues l)) (joinMade x l)
  | [], h => gives_joinTail x [] h
  | [p], h => gives_joinTail x [p] h
  | p :: q :: r, h => gives_joinTail x (p :: q :: r) h
theorem call_joinRev {M : Program} {w : World} {A : Around} {E : Value → Shared → Prop} {s : Shared} {x : Str} {t : Tok} {it l : Addr} {items : Array Value} {ys : List Str} {Q : Value → Shared → Prop} (calm : A.handled = none)
    (hit : s.heap.IsRevIter it l ((items.size : Int) - 1)) (hl : s.heap.IsList l items) (hne : l ≠ it) (hn : items.size ≤ sizeLine) (txt : ∀ acc : Array Value, ItemsOf (fun i v => items[items.size - 1 - i]? = some v) acc items.size → StrsAre acc.toList ys)
    (fits : (ys.map (·.length)).sum + ys.length * x.length ≤ 16777216) (done : ∀ (h' : Heap) (tk : Nat), (∀ b o, b ≠ it → s.heap.get? b = some o → h'.get? b = some o) → ∀ t' k, Q (.str (Txt.join x ys) t') { s with heap := h', toks := k }) :
    wpAny (model M w) A (call (.builtin "str.join") [.str x t, .ref it]) Q E s := by
  have ty : s.TypeIs (.ref it) "list_reverseiterator" := hit.typeIs
  refine wpAny_call (codeAny_call_builtin F.slot_str_join.plain F.entry_str_join
    (F.slot_str_join.check _ _ _ _ _ _ _ _ (typeIs_str _ _ _) (F.args_str_join_2 _ _) ?_))
  rw [join_tree_other]
  refine wpAny_bind (wpAny_typeOf ty ?_)
  show wpAny _ A.in1 ((pyIter (.ref it)).tryCatch _ >>= fun i => collect i >>= fun l => joinTail x l) _ _ s
  refine wpAny_bind (wpAny_tryCatch (wpAny_pyIter_revIter hit (wpAny_bind (RT.collect_rev (A := A.in1) calm hit hl hne hn fun h' tk acc keep hacc => ?_))))
  obtain ⟨tokens, told, texts⟩ := strsAre_values (txt acc hacc)
  subst texts
  rw [told]
  have room := joinOk_of fits
  unfold JoinOk at room
  rw [Bool.not_eq_true'] at room
  exact gives_all tokens room M w A (wants Q E) _ (post_join tokens ⟨joinFit_length room, fun t' k => done h' tk keep t' k⟩)
def tJoinRev (K : PySem.W.Frag) (to te : TE) : TE := fun σ H Q => to σ H fun x H1 => (∃ a, x = .str a) ∧ te σ H1 fun v H2 => ∃ (a : Str) (l : Addr) (ys : List Str), x = .str a ∧ v = .ref l ∧ SqL K H2 l (ys.map V.str) ∧ (ys.map (·.length)).sum + ys.length * a.length ≤ 16777216 ∧ Q (.str (Txt.join a ys.reverse)) H2
theorem pe_joinRev {to te : TE} {apos p2 pos2 : Pos} (hc : X.calm = true) (ho : PE X o to) (he : PE X e te) (hg2 : Gl X "reversed") (hm2 : X.mg "reversed" = none)
    (hs : starEach [e] X.env = (false, eval e X.env) :: starEach [] X.env := by rfl) (hs1 : starEach [.Call (.Name "reversed" p2) [e] [] pos2] X.env = [(false, eval (.Call (.Name "reversed" p2) [e] [] pos2) X.env)] := by rfl)
    (hbase : attributeBase o "join" X.env (eval o X.env) = eval o X.env := by rfl) (hline : (apos.endLine == pos.line) = true := by rfl) :
    PE X (.Call (.Attribute o "join" apos) [.Call (.Name "reversed" p2) [e] [] pos2] [] pos) (tJoinRev X.K to te) := by
  refine ⟨fun pins s σ H Q I h => ?_⟩
  refine PySem.Call_method1 hbase hs1 hline (thn (ho.run pins s σ H _ I h) fun v s1 ⟨x, H1, I1, r1, q1⟩ => ?_)
  obtain ⟨⟨sep, rfl⟩, q1⟩ := q1
  obtain ⟨t, rfl⟩ := _root_.id r1
  refine ⟨"str", _, F.plainAttrs_str, F.slot_str_join, F.type_str_join, typeIs_str _ _ _, (fun _ e => nomatch e),
    Calls.callWith_builtin rfl (Calls.evalArgs_plain (Calls.spliced_cons ?_))⟩
  refine Call_ (ld_blt I1 hg2 hm2 PyProof.Rows.boot_reversed (PyProof.Rows.callWith_type1 (args_cons (thn (he.run pins s1 σ H1 _ I1 q1)
    fun u s2 ⟨v, H2, I2, r2, q2⟩ => args_nil ?_) hs) hs rfl))
  obtain ⟨a', l, ys, ea, rfl, hq, fits, q2⟩ := q2
  cases ea
  obtain rfl : u = Value.ref l := r2
  obtain ⟨its, rv, pl, hz⟩ := I2.list hq
  refine call_reversed_list pl.isList (Calls.spliced_nil ?_)
  have grow : ∀ b ob, s2.heap.get? b = some ob → (s2.heap.push (revObj l ((its.toArray.size : Int) - 1))).get? b = some ob := fun b ob e => Heap.get?_push_of_some _ e
  have I3 : Inv X pins σ H2 { s2 with heap := s2.heap.push (revObj l ((its.toArray.size : Int) - 1)) } := I2.kept (t' := s2.toks) grow
  obtain ⟨f0, f1, f2, f3, f4, f5⟩ := I2.fpOk (H' := H2) (b := s2.heap.objs.size) (Nat.le_refl _) (I2.hok.fresh (Nat.le_refl _))
  have isl := pl.isList
  obtain ⟨ol, hol, _⟩ := id isl
  have apart : l ≠ s2.heap.objs.size := Nat.ne_of_lt (Heap.lt_size hol)
  have small : its.toArray.size ≤ sizeLine := by
    rw [List.size_toArray, ← rv.length]
    exact hz
  show wpAny _ _ (call (.builtin "str.join") [.str sep t, .ref s2.heap.objs.size]) _ _ _
  refine call_joinRev (s := { s2 with heap := s2.heap.push (revObj l ((its.toArray.size : Int) - 1)) }) (ys := ys.reverse) (items := its.toArray) (I2.ok.hd hc) ⟨_, Heap.get?_push_size _ rfl, rfl, rfl⟩ (isl.push _) apart small
    (fun acc hacc => strs_of_vals (by rw [List.map_reverse]; exact RT.vals_rev rv hacc)) (by rw [List.map_reverse, List.sum_reverse, List.length_reverse]; exact fits) fun h' tk keep t' k => ?_
  have I4 : Inv X pins σ H2 { s2 with heap := h', toks := k } := I3.turned (t' := k) (fun b ob hb e => keep b ob hb e) f0 f1 f3 f4 f5
  exact ⟨.str _, H2, I4, ⟨t', rfl⟩, q2⟩
def dJoinR (f g : EM D) : EM D := f.bind fun x => match x with
  | .str sep => g.bind fun y => EM.lift (match y with
    | .lst ds => joinD sep ds.reverse
    | _ => none)
  | _ => fun _ => .st
theorem strsD_rev : ∀ {ds : List D} {ys : List (List Nat)}, strsD ds = some ys → ∀ {es : List D} {zs : List (List Nat)}, strsD es = some zs → strsD (ds.reverse ++ es) = some (ys.reverse ++ zs)
  | [], ys, e, es, zs, e2 => by cases e; simpa using e2
  | d :: ds, ys, e, es, zs, e2 => by
    cases d with
    | str s =>
      simp only [strsD, Option.map_eq_some_iff] at e
      obtain ⟨ws, e, rfl⟩ := e
      rw [List.reverse_cons, List.reverse_cons, List.append_assoc, List.append_assoc]
      exact strsD_rev e (by simp only [List.singleton_append, strsD, e2, Option.map_some])
    | _ => simp only [strsD] at e; cases e
theorem de_joinR {apos p2 pos2 : Pos} {f g : EM D} (hk : G.K = X.K) (hc : X.calm = true) (hm2 : X.mg "reversed" = none) (ho : DE X G B W o f) (he : DE X G B W e g) (hg2 : Gl X "reversed" := by rfl)
    (hs : starEach [e] X.env = (false, eval e X.env) :: starEach [] X.env := by rfl) (hs1 : starEach [.Call (.Name "reversed" p2) [e] [] pos2] X.env = [(false, eval (.Call (.Name "reversed" p2) [e] [] pos2) X.env)] := by rfl)
    (hbase : attributeBase o "join" X.env (eval o X.env) = eval o X.env := by rfl) (hline : (apos.endLine == pos.line) = true := by rfl) :
    DE X G B W (.Call (.Attribute o "join" apos) [.Call (.Name "reversed" p2) [e] [] pos2] [] pos) (dJoinR f g) :=
  pe_weak (pe_joinRev hc ho he hg2 hm2 hs hs1 hbase hline) fun σ H Q ⟨F, ρ, hR, h⟩ => ⟨F, ρ, hR, (cX.bind h).imp fun x H1 ⟨dx, F1, ρ1, s1, r1, p1, h1⟩ => by
    cases dx with
    | str sep =>
      rw [p1.str_inv]
      refine ⟨⟨_, rfl⟩, F1, ρ1, r1, (cX.bind h1).imp fun y H2 ⟨dy, F2, ρ2, s2, r2, p2, h2⟩ => ?_⟩
      obtain ⟨d, e, k⟩ := cX.lift h2
      cases dy with
      | lst ds =>
        obtain ⟨a, vs, rfl, q, t⟩ := p2.lst_inv
        obtain ⟨ys, e1, rfl, hz⟩ := joinD_inv e
        have e3 := strsD_rev e1 (es := []) (zs := []) rfl
        rw [List.append_nil, List.reverse_reverse, List.append_nil] at e3
        have e2 := strsD_ok e3 t
        subst e2
        have e4 : ((ys.reverse.map mkStr)).reverse = ys.map mkStr := by rw [← List.map_reverse, List.reverse_reverse]
        refine ⟨mkStr sep, a, ys.reverse.map mkStr, rfl, rfl, hk ▸ r2.sub.seq q, ?_, ?_⟩
        · have e5 : ys.reverse.map mkStr = (ys.map mkStr).reverse := List.map_reverse ..
          rw [e5, List.map_reverse, List.sum_reverse, List.length_reverse]; exact hz
        · rw [e4, join_mk]
          exact k _ F2 H2 (Same.refl _) r2 .str
      | _ => cases e
    | _ => unfold cX at h1; exact h1.elim⟩
end
end DL

namespace DL
open PySem PySem.Spec PyProof.Rows L2 NdefX LamX
section
variable {X : Cx} {G : Gx} {B : Bs} {W : WX} {a b c e o tg iter : Expr} {es rest : List Expr} {pos pos' p kpos : Pos} {st : Stmt} {sts : List Stmt} {kws : List Keyword}
/-! ### calls with keywords -/
theorem pk_weak {t u : TA} (h : PK X kws t) (i : ∀ σ H Q, u σ H Q → t σ H Q) : PK X kws u := ⟨fun pos pins s σ H Q I q => h.run pos pins s σ H Q I (i _ _ _ q)⟩
abbrev DK (X : Cx) (G : Gx) (B : Bs) (W : WX) (kws : List Keyword) (f : EM (List D)) : Prop := PK X kws (tX G B W (PL G) f)
theorem dk_nil : DK X G B W [] dNil := pk_weak pk_nil fun σ H Q ⟨F, ρ, hR, h⟩ => cX.ret h [] F H (Same.refl _) hR .nil
theorem dk_cons {nm : Option Str} {f : EM D} {g : EM (List D)} (h : DE X G B W e f) (h' : DK X G B W kws g) : DK X G B W (⟨nm, e, kpos⟩ :: kws) (dCons f g) :=
  pk_weak (pk_cons h h') fun σ H Q ⟨F, ρ, hR, q⟩ => ⟨F, ρ, hR, (cX.bind q).imp fun x H1 ⟨dx, F1, ρ1, s1, r1, p1, q1⟩ => ⟨F1, ρ1, r1, (cX.bind q1).imp fun xs H2 ⟨dxs, F2, ρ2, s2, r2, p2, q2⟩ =>
    cX.ret q2 _ F2 H2 (Same.refl _) r2 (.cons (Den.mono s2 _ p1) p2)⟩⟩
section
variable {CX : CXT} {k n : Nat} {f : Addr} {fd : FuncData} {ps ks : List Str} {sp : Sp} {E : L2.St → XK} {x : Str} {t tk : TA} {g : List Value → List Value → List Value} {gV : List V → List V → List V}
theorem run_kw {pins : List (Addr × Obj)} {σ : L2.St} {H : Hp} {s : Shared} {Q : VK} {us ws : List Value} {vs zs : List V} (Fn : FnOk X.prog X.w X.K X.mg X.base CX k f fd ps sp) (hr : Room k X.A) (hb : KBn X.K fd ps n ks g gV) (hx : PassesAt CX X σ (E σ))
    (I : Inv X pins σ H s) (r : Vals vs us) (rz : Vals zs ws) (l1 : vs.length = n) (l2 : zs.length = ks.length) (h : sp (gV vs zs) H Q (E σ)) : wpAny (model X.prog X.w) X.A (call (.ref f) us (ks.zip ws)) (EP X pins σ Q) X.xe s := by
  have both := hb.rel r rz
  have binds := hb.to s us ws I.kIn (r.length.symm.trans l1) (rz.length.symm.trans l2)
  refine wpAny_call (codeAny_mono (Fn.run X.A X.stack s H ⟨us, ks.zip ws⟩ (g us ws) (gV vs zs) Q (E σ) hr I.env0 binds both h) fun r s' hq => ?_)
  match r, hq with
  | .error e, hq => exact hx pins H s e s' I hq
  | .ok (.ret u), hq => exact I.after hq
  | .ok .next, hq => exact False.elim hq
  | .ok .brk, hq => exact False.elim hq
  | .ok .cont, hq => exact False.elim hq
def tKw (n m : Nat) (sp : Sp) (gV : List V → List V → List V) (E : L2.St → XK) (t tk : TA) : TE := fun σ H Q => t σ H fun vs H1 => tk σ H1 fun zs H2 => vs.length = n ∧ zs.length = m ∧ sp (gV vs zs) H2 Q (E σ)
theorem pe_kw (Fn : FnOk X.prog X.w X.K X.mg X.base CX k f fd ps sp) (hr : Room k X.A) (hg : Gl X x) (hm : X.mg x = some (.ref f)) (kp : PySem.W.keepIn X.K (.ref f) = true) (hb : KBn X.K fd ps n ks g gV) (hx : ∀ σ, PassesAt CX X σ (E σ))
    (ha : PA X (e :: es) t) (hkw : PK X kws tk) (hall : (backToKw pos (keywordEach kws X.env)).all (·.1.isSome) = true := by rfl) (hks : (backToKw pos (keywordEach kws X.env)).filterMap (·.1) = ks := by rfl)
    (hdb : (x == ("__debug__" : Str)) = false := by decide) (he : starEach (e :: es) X.env = (false, eval e X.env) :: starEach es X.env := by rfl)
    (hpl : ((backTo pos (starEach (e :: es) X.env)).any (·.1) || (backToKw pos (keywordEach kws X.env)).any (·.1.isNone)) = false := by rfl) :
    PE X (.Call (.Name x p) (e :: es) kws pos) (tKw n ks.length sp gV E t tk) := by
  refine ⟨fun pins s σ H Q I h => wpAny_Call_Name_kw (ld_glob I hg hm ?_ hdb)⟩
  refine PySem.W.callWith_KW (h₀ := X.base) I.ok.mod.kin kp hall (thn (ha.run pos pins s σ H _ I h)
    fun us s1 ⟨vs, H1, I1, r, q⟩ => ?_) hpl he
  refine thn (hkw.run pos pins s1 σ H1 _ I1 q) fun ws s2 ⟨zs, H2, I2, rz, l1, l2, q2⟩ => ⟨I2.kIn, ?_⟩
  rw [hks]
  exact run_kw Fn hr hb (hx σ) I2 r rz l1 l2 q2
def tKw0 (m : Nat) (sp : Sp) (gV : List V → List V → List V) (E : L2.St → XK) (tk : TA) : TE := fun σ H Q => tk σ H fun zs H2 => zs.length = m ∧ sp (gV [] zs) H2 Q (E σ)
theorem pe_kw0 (Fn : FnOk X.prog X.w X.K X.mg X.base CX k f fd ps sp) (hr : Room k X.A) (hg : Gl X x) (hm : X.mg x = some (.ref f)) (kp : PySem.W.keepIn X.K (.ref f) = true) (hb : KBn X.K fd ps 0 ks g gV) (hx : ∀ σ, PassesAt CX X σ (E σ))
    (hkw : PK X kws tk) (hall : (backToKw pos (keywordEach kws X.env)).all (·.1.isSome) = true := by rfl) (hks : (backToKw pos (keywordEach kws X.env)).filterMap (·.1) = ks := by rfl)
    (hdb : (x == ("__debug__" : Str)) = false := by decide)
    (hpl : ((backTo pos (starEach [] X.env)).any (·.1) || (backToKw pos (keywordEach kws X.env)).any (·.1.isNone)) = false := by rfl) :
    PE X (.Call (.Name x p) [] kws pos) (tKw0 ks.length sp gV E tk) := by
  refine ⟨fun pins s σ H Q I h => wpAny_Call_Name_kw (ld_glob I hg hm ?_ hdb)⟩
  refine PySem.W.callWith_KW0 (h₀ := X.base) (first := []) I.ok.mod.kin kp hall (thn (hkw.run pos pins s σ H _ I h)
    fun ws s2 ⟨zs, H2, I2, rz, l2, q2⟩ => ⟨I2.kIn, ?_⟩) hpl
  rw [hks]
  exact run_kw (us := []) (vs := []) Fn hr hb (hx σ) I2 .nil rz rfl l2 q2
end
def kwEm (n m k : Nat) (gD : List D → List D → List D) (fn : List D → FO) (xs zs : List D) : EM D := if xs.length = n ∧ zs.length = m then (arity k fn (gD xs zs)).em else fun _ => .st
def dCallK (n m k : Nat) (gD : List D → List D → List D) (fn : List D → FO) (f fk : EM (List D)) : EM D := f.bind fun xs => fk.bind fun zs => kwEm n m k gD fn xs zs
def dCallK0 (m k : Nat) (gD : List D → List D → List D) (fn : List D → FO) (fk : EM (List D)) : EM D := fk.bind fun zs => kwEm 0 m k gD fn [] zs
theorem kw_read {ps : List Str} {n m : Nat} {gD : List D → List D → List D} {gV : List V → List V → List V} {fn : List D → FO} {xs zs : List D} {vs ws : List V} {F H : Hp} {ρ : Rho} {σ : L2.St} {Q : VK} (hrel : Dens G F xs vs → Dens G F zs ws → Dens G F (gD xs zs) (gV vs ws)) (r : R G B F ρ σ H) (p1 : Dens G F xs vs) (p2 : Dens G F zs ws)
    (h : cX G B W (PD G) (kwEm n m ps.length gD fn xs zs) F ρ σ Q) : vs.length = n ∧ ws.length = m ∧ spP G ps.length fn (gV vs ws) H Q (WE W σ) := by
  unfold kwEm at h
  by_cases hl : xs.length = n ∧ zs.length = m
  · rw [if_pos hl] at h
    refine ⟨p1.length.trans hl.1, p2.length.trans hl.2, ?_⟩
    have hl2 : (gD xs zs).length = ps.length := by
      unfold cX arity at h
      by_cases hl : (gD xs zs).length = ps.length
      · exact hl
      · simp only [if_neg hl, FO.em] at h
    exact spP_arity (cX_call hl2 r (hrel p1 p2) h)
  · rw [if_neg hl] at h
    unfold cX at h
    exact h.elim
theorem de_callK {x : Str} {f : Addr} {fd : FuncData} {ps ks : List Str} {n k j : Nat} {m : List D → FO} {fa fk : EM (List D)} {g : List Value → List Value → List Value} {gV : List V → List V → List V} (gD : List D → List D → List D) (Fn : FnD X.prog X.w X.mg X.base G k f fd ps m) (hk : G.K = X.K) (hr : Room j X.A) (hkj : k ≤ j) (hm : X.mg x = some (.ref f)) (kp : PySem.W.keepIn X.K (.ref f) = true)
    (hb : KBn X.K fd ps n ks g gV) (hrel : ∀ F xs vs zs ws, Dens G F xs vs → Dens G F zs ws → Dens G F (gD xs zs) (gV vs ws)) (tk : Takes X W) (ha : DA X G B W (e :: es) fa) (hkw : DK X G B W kws fk)
    (hg : Gl X x := by rfl) (hall : (backToKw pos (keywordEach kws X.env)).all (·.1.isSome) = true := by rfl) (hks : (backToKw pos (keywordEach kws X.env)).filterMap (·.1) = ks := by rfl) (hdb : (x == ("__debug__" : Str)) = false := by decide) (he : starEach (e :: es) X.env = (false, eval e X.env) :: starEach es X.env := by rfl)
    (hpl : ((backTo pos (starEach (e :: es) X.env)).any (·.1) || (backToKw pos (keywordEach kws X.env)).any (·.1.isNone)) = false := by rfl) : DE X G B W (.Call (.Name x p) (e :: es) kws pos) (dCallK n ks.length ps.length gD m fa fk) :=
  pe_weak (pe_kw (fnK hk Fn) (hr.mono hkj) hg hm kp hb (fun σ => passAt tk σ) ha hkw hall hks hdb he hpl) fun σ H Q ⟨F, ρ, hR, h⟩ => ⟨F, ρ, hR, (cX.bind h).imp fun vs H1 ⟨xs, F1, ρ1, s1, r1, p1, h1⟩ => ⟨F1, ρ1, r1, (cX.bind h1).imp fun ws H2 ⟨zs, F2, ρ2, s2, r2, p2, h2⟩ =>
    kw_read (hrel F2 xs vs zs ws) r2 (Dens.mono s2 _ p1) p2 h2⟩⟩
theorem de_callK0 {x : Str} {f : Addr} {fd : FuncData} {ps ks : List Str} {k j : Nat} {m : List D → FO} {fk : EM (List D)} {g : List Value → List Value → List Value} {gV : List V → List V → List V} (gD : List D → List D → List D) (Fn : FnD X.prog X.w X.mg X.base G k f fd ps m) (hk : G.K = X.K) (hr : Room j X.A) (hkj : k ≤ j) (hm : X.mg x = some (.ref f)) (kp : PySem.W.keepIn X.K (.ref f) = true)
    (hb : KBn X.K fd ps 0 ks g gV) (hrel : ∀ F xs vs zs ws, Dens G F xs vs → Dens G F zs ws → Dens G F (gD xs zs) (gV vs ws)) (tk : Takes X W) (hkw : DK X G B W kws fk)
    (hg : Gl X x := by rfl) (hall : (backToKw pos (keywordEach kws X.env)).all (·.1.isSome) = true := by rfl) (hks : (backToKw pos (keywordEach kws X.env)).filterMap (·.1) = ks := by rfl) (hdb : (x == ("__debug__" : Str)) = false := by decide)
    (hpl : ((backTo pos (starEach [] X.env)).any (·.1) || (backToKw pos (keywordEach kws X.env)).any (·.1.isNone)) = false := by rfl) : DE X G B W (.Call (.Name x p) [] kws pos) (dCallK0 ks.length ps.length gD m fk) :=
  pe_weak (pe_kw0 (fnK hk Fn) (hr.mono hkj) hg hm kp hb (fun σ => passAt tk σ) hkw hall hks hdb hpl) fun σ H Q ⟨F, ρ, hR, h⟩ => ⟨F, ρ, hR, (cX.bind h).imp fun ws H2 ⟨zs, F2, ρ2, s2, r2, p2, h2⟩ => by
    obtain ⟨_, l2, q⟩ := kw_read (hrel F2 [] [] zs ws) r2 .nil p2 h2
    exact ⟨l2, q⟩⟩
end
end DL

namespace DL
open PySem PySem.Spec PyProof.Rows L2 NdefX LamX
section
variable {X : Cx} {G : Gx} {B : Bs} {W : WX} {a b c e o tg iter : Expr} {es rest : List Expr} {pos pos' p : Pos} {st : Stmt} {sts : List Stmt}
/-! ### a walk over whatever is walked -/
def oSeq : D → Option (List D)
  | .lst xs => some xs
  | .tup xs => some xs
  | .str s => some (s.map fun c => .str [c])
  | _ => none
theorem di_any {f : EM D} (hk : G.K = X.K) (h : DE X G B W iter f) : DI X G B W tg iter (iOf oSeq f) := ⟨fun pins s σ H Q I q => by
  obtain ⟨F, ρ, hR, q⟩ := q
  cases e : f ρ with
  | ok x ρ' =>
    cases x with
    | lst xs => exact (di_list hk h).run pins s σ H Q I ⟨F, ρ, hR, by unfold cX iOf EM.bind EM.lift at q ⊢; simp only [e, oSeq, oLst] at q ⊢; exact q⟩
    | tup xs => exact (di_tup hk h).run pins s σ H Q I ⟨F, ρ, hR, by unfold cX iOf EM.bind EM.lift at q ⊢; simp only [e, oSeq, oTup] at q ⊢; exact q⟩
    | str z => exact (di_str h).run pins s σ H Q I ⟨F, ρ, hR, by unfold cX iOf EM.bind EM.lift at q ⊢; simp only [e, oSeq, oStr] at q ⊢; exact q⟩
    | _ => unfold cX iOf EM.bind EM.lift at q; simp only [e, oSeq] at q
  | ex c ys ρ' => exact (di_list hk h).run pins s σ H Q I ⟨F, ρ, hR, by unfold cX iOf EM.bind EM.lift at q ⊢; simp only [e] at q ⊢; exact q⟩
  | st => unfold cX iOf EM.bind EM.lift at q; simp only [e] at q⟩
def dIsT (f : EM D) (neg : Bool) : EM Bool := f.bind fun x => EM.ret (if neg then !isNon x else isNon x)
theorem dt_isN {j} {f : EM D} (h : DE X G B W a f) (h1 : behindInMarks .Is (.Constant .none j pos') = false := by rfl) : DT X G B W (.Compare a [.Is] [.Constant .none j pos'] pos) (dIsT f false) :=
  pt_weak (pt_cmp (pc_isN h) h1) fun σ H Q ⟨F, ρ, hR, h⟩ => ⟨F, ρ, hR, (cX.bind h).imp fun v H1 ⟨x, F1, ρ1, s1, r1, p1, h1⟩ => by
    rw [den_non_iff p1]
    exact ⟨_, rfl, cX.ret h1 _ F1 H1 (Same.refl _) r1 rfl⟩⟩
theorem dt_notN {j} {f : EM D} (h : DE X G B W a f) (h1 : behindInMarks .IsNot (.Constant .none j pos') = false := by rfl) : DT X G B W (.Compare a [.IsNot] [.Constant .none j pos'] pos) (dIsT f true) :=
  pt_weak (pt_cmp (pc_notN h) h1) fun σ H Q ⟨F, ρ, hR, h⟩ => ⟨F, ρ, hR, (cX.bind h).imp fun v H1 ⟨x, F1, ρ1, s1, r1, p1, h1⟩ => by
    rw [den_non_iff p1]
    exact ⟨_, rfl, cX.ret h1 _ F1 H1 (Same.refl _) r1 rfl⟩⟩
theorem units_of {k : Nat} {A : Around} (r : Room k A) : A.units + 65 < cLine := by have := r.un; omega
theorem units_of' {k : Nat} {A : Around} (r : Room k A) : A.units + 64 < cLine := by have := r.un; omega
/-- x[i] = e, x a list of its own -/
theorem ds_setIx2 (i : Nat) {x : Str} {p2 : Pos} {f fi : EM D} (hk : G.K = X.K) (he : DE X G B W e f) (hj : DE X G B W b fi) (hN : X.N[i]? = some x := by rfl) (hv : Vis X.env.scope x := by first | exact Or.inl rfl | exact Or.inr (Or.inl rfl) | exact Or.inr (Or.inr rfl))
    (hd : (x == ("__debug__" : Str)) = false := by decide) (hcd : (x == ("__classdict__" : Str)) = false := by decide)
    (ha : ∀ v, assign (.Subscript (.Name x p2) b pos') X.env v = (do
      let ov ← holding [v] (eval (.Name x p2) X.env)
      let iv ← holding [v, ov] (eval b X.env)
      standAt pos'
      holding [v, ov, iv] (setItem ov iv v)
      release [v, ov, iv] []) := by intro _; rfl)
    (hs : swapsWithSole [.Subscript (.Name x p2) b pos'] e pos.line X.env = pure false := by rfl) (hw : swappedStores [.Subscript (.Name x p2) b pos'] e X.env = pure none := by rfl) (h1 : (assignEach [.Subscript (.Name x p2) b pos'] X.env).map (·.2) = [assign (.Subscript (.Name x p2) b pos') X.env] := by rfl) : DS X G B W (.Assign [.Subscript (.Name x p2) b pos'] e pos) (sSetIx i fi f) :=
  ds_setIx i hk he hj hN hv hd hcd (pg_sub (pe_var hN hv hd hcd) hj set_list ha) hs hw h1
theorem de_globX {x : Str} {d : D} (h : ∃ a, X.mg x = some (.ref a) ∧ ∀ F, Den G F d (.ref a)) (hg : Gl X x := by rfl) (hd : (x == ("__debug__" : Str)) = false := by decide) : DE X G B W (.Name x pos) (dC d) := by
  obtain ⟨a, h1, h2⟩ := h
  exact de_globR h1 h2 hg hd
end
section
variable {P : Program} {w : World} {mg : Str → Option Value} {base : Heap} {G : Gx} {x qual : Str} {params : Arguments} {body : List Stmt} {scope : Scope} {dvs : List V} {kws : List (Str × V)} {f : Addr} {fd : FuncData} {N ps : List Str} {k : Nat}
abbrev CodeAt (G : Gx) (f cc : Addr) : Prop := ∀ oc od osl fd' c', G.K.lookup f = some ⟨oc, od, .func fd', osl⟩ → fd'.code = .ref c' → c' = cc
/-- a def that makes lambdas, by its body -/
theorem fn_okC {g : SM} {cc : Addr} (FD : FunD G.K x qual params body scope dvs kws f fd) (hcc : CodeAt G f cc) (S : FnScope N ps scope)
    (hbody : ∀ (B : Bs) (W : WX) (X : Cx), X.prog = P → X.w = w → X.K = G.K → X.mg = mg → X.base = base → Room k X.A → Takes X W → ∀ (A : Around) (outer : List Env) (s : Shared) (H : Hp) (E : XK), X = cxOf (L2.CX P w) P w G.K mg base N qual scope f (.ref cc) A outer s H E → B.arg = none → DSs X G B W body g) :
    FnD P w mg base G (k + 1) f fd ps (mRun N.length g) := by
  obtain ⟨oc, od, dV, kV, doc, pm, an, cdv, ct, osl, rfl, lk, hcd, _, _⟩ := FD.ex
  obtain ⟨c', rfl⟩ := codeIn_ref' hcd
  obtain rfl : c' = cc := hcc _ _ _ _ c' lk rfl
  refine fn_of lk hcd S (fun vs H Q E h => spP_len h) fun A outer s H vs Q E hr h => ?_
  obtain ⟨F0, q⟩ := body_ok h
  exact ⟨_, hbody (inB F0 H) (fun cls d _ H' => E cls d H') _ rfl rfl rfl rfl rfl hr (takes_of rfl rfl rfl rfl) A outer s H E rfl rfl, q⟩
end
/-! ### what a row's text holds -/
def lamA : Expr → Arguments
  | .Lambda a _ _ _ => a
  | _ => { posonlyargs := [], args := [], vararg := none, kwonlyargs := [], kw_defaults := [], kwarg := none, defaults := [] }
def lamB : Expr → Expr
  | .Lambda _ b _ _ => b
  | e => e
def lamSc : Expr → Scope
  | .Lambda _ _ s _ => s
  | _ => { kind := .function, names := [], isGenerator := false, isCoroutine := false }
def stE : Stmt → Expr
  | .Return (some e) _ => e
  | .Expr e _ => e
  | .Assign _ e _ => e
  | _ => .Constant .none 0 ⟨0, 0, 0, 0⟩
def ifB (s : Stmt) (i : Nat) : Stmt := match s with
  | .If _ b _ _ => b.getD i s
  | _ => s
def ifE : Stmt → Expr
  | .If t _ _ _ => t
  | _ => .Constant .none 0 ⟨0, 0, 0, 0⟩
def argE (e : Expr) (i : Nat) : Expr := match e with
  | .Call _ as _ _ => as.getD i e
  | _ => e
def cmpE : Expr → Expr
  | .Compare a _ _ _ => a
  | e => e
def dSt (s : Stmt) (i : Nat) : Stmt := (defBody s).getD i s
end DL

namespace W
open PySem PySem.Spec PyProof.Rows L2 NdefX LamX DL
def top (i : Nat) : Stmt := PySem.Challenge.pw_nearthrees_k31_first_triple_asked_for.main.body.getD i (.Pass ⟨0, 0, 0, 0⟩)
abbrev s_look_way : Stmt := top 6
abbrev N_look_way : List Str := ["way", "letter"]
abbrev ps_look_way : List Str := ["way"]
theorem sc_look_way : FnScope N_look_way ps_look_way (defScope s_look_way) := ⟨rfl, rfl, rfl, by decide +kernel, rfl, by decide +kernel, by decide +kernel⟩
abbrev s_word_of_way : Stmt := top 7
abbrev N_word_of_way : List Str := ["way", "first", "second", "letter", "both"]
abbrev ps_word_of_way : List Str := ["way"]
theorem sc_word_of_way : FnScope N_word_of_way ps_word_of_way (defScope s_word_of_way) := ⟨rfl, rfl, rfl, by decide +kernel, rfl, by decide +kernel, by decide +kernel⟩
abbrev s_way_of_number : Stmt := top 8
abbrev N_way_of_number : List Str := ["number", "letters"]
abbrev ps_way_of_number : List Str := ["number"]
theorem sc_way_of_number : FnScope N_way_of_number ps_way_of_number (defScope s_way_of_number) := ⟨rfl, rfl, rfl, by decide +kernel, rfl, by decide +kernel, by decide +kernel⟩
abbrev s_three_of_way : Stmt := top 14
abbrev N_three_of_way : List Str := ["way", "u", "v", "w", "letter"]
abbrev ps_three_of_way : List Str := ["way"]
theorem sc_three_of_way : FnScope N_three_of_way ps_three_of_way (defScope s_three_of_way) := ⟨rfl, rfl, rfl, by decide +kernel, rfl, by decide +kernel, by decide +kernel⟩
abbrev s_triple_of_way : Stmt := top 15
abbrev N_triple_of_way : List Str := ["way"]
abbrev ps_triple_of_way : List Str := ["way"]
theorem sc_triple_of_way : FnScope N_triple_of_way ps_triple_of_way (defScope s_triple_of_way) := ⟨rfl, rfl, rfl, by decide +kernel, rfl, by decide +kernel, by decide +kernel⟩
abbrev s_triple_at : Stmt := top 16
abbrev N_triple_at : List Str := ["place"]
abbrev ps_triple_at : List Str := ["place"]
theorem sc_triple_at : FnScope N_triple_at ps_triple_at (defScope s_triple_at) := ⟨rfl, rfl, rfl, by decide +kernel, rfl, by decide +kernel, by decide +kernel⟩
abbrev s_first_triple : Stmt := top 17
abbrev N_first_triple : List Str := ["asked", "most", "place", "triple"]
abbrev ps_first_triple : List Str := ["asked", "most"]
theorem sc_first_triple : FnScope N_first_triple ps_first_triple (defScope s_first_triple) := ⟨rfl, rfl, rfl, by decide +kernel, rfl, by decide +kernel, by decide +kernel⟩
abbrev s__law_urn : Stmt := top 19
abbrev N__law_urn : List Str := ["_law_script", "_law_at", "_law_cell", "_law_great"]
abbrev ps__law_urn : List Str := ["_law_script", "_law_at"]
theorem sc__law_urn : FnScope N__law_urn ps__law_urn (defScope s__law_urn) := ⟨rfl, rfl, rfl, by decide +kernel, rfl, by decide +kernel, by decide +kernel⟩
abbrev s__law_draw : Stmt := top 20
abbrev N__law_draw : List Str := ["_law_urn_here", "_law_wide", "_law_digit", "_law_primes", "_law_step", "_law_base", "_law_mixed"]
abbrev ps__law_draw : List Str := ["_law_urn_here", "_law_wide"]
theorem sc__law_draw : FnScope N__law_draw ps__law_draw (defScope s__law_draw) := ⟨rfl, rfl, rfl, by decide +kernel, rfl, by decide +kernel, by decide +kernel⟩
abbrev s__law_three : Stmt := top 21
abbrev N__law_three : List Str := ["_law_way", "_law_u", "_law_v", "_law_w", "_law_letter"]
abbrev ps__law_three : List Str := ["_law_way"]
theorem sc__law_three : FnScope N__law_three ps__law_three (defScope s__law_three) := ⟨rfl, rfl, rfl, by decide +kernel, rfl, by decide +kernel, by decide +kernel⟩
abbrev s__law_order : Stmt := top 22
abbrev N__law_order : List Str := ["_law_many", "_law_found", "_law_number", "_law_way"]
abbrev ps__law_order : List Str := ["_law_many"]
theorem sc__law_order : FnScope N__law_order ps__law_order (defScope s__law_order) := ⟨rfl, rfl, rfl, by decide +kernel, rfl, by decide +kernel, by decide +kernel⟩
abbrev s__law_asked : Stmt := top 23
abbrev N__law_asked : List Str := ["_law_urn_here", "_law_order_here", "_law_way", "_law_place", "_law_by", "_law_left", "_law_one", "_law_other"]
abbrev ps__law_asked : List Str := ["_law_urn_here", "_law_order_here"]
theorem sc__law_asked : FnScope N__law_asked ps__law_asked (defScope s__law_asked) := ⟨rfl, rfl, rfl, by decide +kernel, rfl, by decide +kernel, by decide +kernel⟩
abbrev s__law_due : Stmt := top 24
abbrev N__law_due : List Str := ["_law_wish", "_law_triples", "_law_found", "_law_triple"]
abbrev ps__law_due : List Str := ["_law_wish", "_law_triples"]
theorem sc__law_due : FnScope N__law_due ps__law_due (defScope s__law_due) := ⟨rfl, rfl, rfl, by decide +kernel, rfl, by decide +kernel, by decide +kernel⟩
abbrev s_law : Stmt := top 25
abbrev N_law : List Str := ["_law_script", "_law_at", "_law_urn_here", "_law_many", "_law_order_here", "_law_one", "_law_other", "_law_told"]
abbrev ps_law : List Str := ["_law_script"]
theorem sc_law : FnScope N_law ps_law (defScope s_law) := ⟨rfl, rfl, rfl, by decide +kernel, rfl, by decide +kernel, by decide +kernel⟩
def q__law_asked : Str := (("_law_asked" : Str) ++ ".<locals>.") ++ "<lambda>"
def q_law : Str := (("law" : Str) ++ ".<locals>.") ++ "<lambda>"
abbrev e_0 : Expr := stE (ifB (dSt s__law_asked 4) 0)
def ct_0 : CT := ⟨q__law_asked, lamA e_0, lamB e_0, lamSc e_0, ["_law_by", "_law_left", "_law_place"]⟩
theorem ls_0 : NScope ["_law_triple", "_law_by", "_law_left", "_law_place"] ["_law_triple"] ct_0.fr ct_0.scope := nscope_by (by decide +kernel)
theorem lf_0 : ndefB (defScope s__law_asked) ct_0.scope ct_0.fr = true := by decide +kernel
theorem lq_0 : ∀ y ∈ ct_0.scope.names, y.2 = .free → y.1 ∈ ct_0.fr := by decide +kernel
theorem lnd_0 : ct_0.fr.Nodup := by decide +kernel
abbrev e_1 : Expr := stE (ifB (dSt s__law_asked 5) 0)
def ct_1 : CT := ⟨q__law_asked, lamA e_1, lamB e_1, lamSc e_1, ["_law_one", "_law_place"]⟩
theorem ls_1 : NScope ["_law_triple", "_law_one", "_law_place"] ["_law_triple"] ct_1.fr ct_1.scope := nscope_by (by decide +kernel)
theorem lf_1 : ndefB (defScope s__law_asked) ct_1.scope ct_1.fr = true := by decide +kernel
theorem lq_1 : ∀ y ∈ ct_1.scope.names, y.2 = .free → y.1 ∈ ct_1.fr := by decide +kernel
theorem lnd_1 : ct_1.fr.Nodup := by decide +kernel
abbrev e_2 : Expr := stE (ifB (dSt s__law_asked 6) 0)
def ct_2 : CT := ⟨q__law_asked, lamA e_2, lamB e_2, lamSc e_2, ["_law_one"]⟩
theorem ls_2 : NScope ["_law_triple", "_law_one"] ["_law_triple"] ct_2.fr ct_2.scope := nscope_by (by decide +kernel)
theorem lf_2 : ndefB (defScope s__law_asked) ct_2.scope ct_2.fr = true := by decide +kernel
theorem lq_2 : ∀ y ∈ ct_2.scope.names, y.2 = .free → y.1 ∈ ct_2.fr := by decide +kernel
theorem lnd_2 : ct_2.fr.Nodup := by decide +kernel
abbrev e_3 : Expr := stE (ifB (dSt s__law_asked 7) 0)
def ct_3 : CT := ⟨q__law_asked, lamA e_3, lamB e_3, lamSc e_3, ["_law_one", "_law_other"]⟩
theorem ls_3 : NScope ["_law_triple", "_law_one", "_law_other"] ["_law_triple"] ct_3.fr ct_3.scope := nscope_by (by decide +kernel)
theorem lf_3 : ndefB (defScope s__law_asked) ct_3.scope ct_3.fr = true := by decide +kernel
theorem lq_3 : ∀ y ∈ ct_3.scope.names, y.2 = .free → y.1 ∈ ct_3.fr := by decide +kernel
theorem lnd_3 : ct_3.fr.Nodup := by decide +kernel
abbrev e_4 : Expr := stE (ifB (dSt s__law_asked 8) 0)
def ct_4 : CT := ⟨q__law_asked, lamA e_4, lamB e_4, lamSc e_4, ["_law_by"]⟩
theorem ls_4 : NScope ["_law_triple", "_law_by"] ["_law_triple"] ct_4.fr ct_4.scope := nscope_by (by decide +kernel)
theorem lf_4 : ndefB (defScope s__law_asked) ct_4.scope ct_4.fr = true := by decide +kernel
theorem lq_4 : ∀ y ∈ ct_4.scope.names, y.2 = .free → y.1 ∈ ct_4.fr := by decide +kernel
theorem lnd_4 : ct_4.fr.Nodup := by decide +kernel
abbrev e_5 : Expr := stE (ifB (dSt s__law_asked 9) 0)
def ct_5 : CT := ⟨q__law_asked, lamA e_5, lamB e_5, lamSc e_5, ["_law_by", "_law_left"]⟩
theorem ls_5 : NScope ["_law_triple", "_law_by", "_law_left"] ["_law_triple"] ct_5.fr ct_5.scope := nscope_by (by decide +kernel)
theorem lf_5 : ndefB (defScope s__law_asked) ct_5.scope ct_5.fr = true := by decide +kernel
theorem lq_5 : ∀ y ∈ ct_5.scope.names, y.2 = .free → y.1 ∈ ct_5.fr := by decide +kernel
theorem lnd_5 : ct_5.fr.Nodup := by decide +kernel
abbrev e_6 : Expr := stE (ifB (dSt s__law_asked 10) 0)
def ct_6 : CT := ⟨q__law_asked, lamA e_6, lamB e_6, lamSc e_6, []⟩
theorem ls_6 : NScope ["_law_triple"] ["_law_triple"] ct_6.fr ct_6.scope := nscope_by (by decide +kernel)
theorem lf_6 : ndefB (defScope s__law_asked) ct_6.scope ct_6.fr = true := by decide +kernel
theorem lq_6 : ∀ y ∈ ct_6.scope.names, y.2 = .free → y.1 ∈ ct_6.fr := by decide +kernel
theorem lnd_6 : ct_6.fr.Nodup := by decide +kernel
abbrev e_7 : Expr := stE (dSt s__law_asked 11)
def ct_7 : CT := ⟨q__law_asked, lamA e_7, lamB e_7, lamSc e_7, ["_law_by"]⟩
theorem ls_7 : NScope ["_law_triple", "_law_by"] ["_law_triple"] ct_7.fr ct_7.scope := nscope_by (by decide +kernel)
theorem lf_7 : ndefB (defScope s__law_asked) ct_7.scope ct_7.fr = true := by decide +kernel
theorem lq_7 : ∀ y ∈ ct_7.scope.names, y.2 = .free → y.1 ∈ ct_7.fr := by decide +kernel
theorem lnd_7 : ct_7.fr.Nodup := by decide +kernel
abbrev e_8 : Expr := argE (cmpE (stE (dSt s_law 1))) 0
def ct_8 : CT := ⟨q_law, lamA e_8, lamB e_8, lamSc e_8, []⟩
theorem ls_8 : NScope ["_law_triple"] ["_law_triple"] ct_8.fr ct_8.scope := nscope_by (by decide +kernel)
theorem lf_8 : ndefB (defScope s_law) ct_8.scope ct_8.fr = true := by decide +kernel
theorem lq_8 : ∀ y ∈ ct_8.scope.names, y.2 = .free → y.1 ∈ ct_8.fr := by decide +kernel
theorem lnd_8 : ct_8.fr.Nodup := by decide +kernel
def ctab : Nat → CT
  | 0 => ct_0
  | 1 => ct_1
  | 2 => ct_2
  | 3 => ct_3
  | 4 => ct_4
  | 5 => ct_5
  | 6 => ct_6
  | 7 => ct_7
  | 8 => ct_8
  | _ => ct_0
structure Top (G : Gx) (mg : Str → Option Value) (base : Heap) (a : Nat → Addr) (fd : Nat → FuncData) (cc pp : Nat → Addr) : Prop where
  d_look_way : FunD G.K "look_way" "look_way" (defArgs s_look_way) (defBody s_look_way) (defScope s_look_way) [] [] (a 0) (fd 0)
  g_look_way : mg "look_way" = some (.ref (a 0))
  d_word_of_way : FunD G.K "word_of_way" "word_of_way" (defArgs s_word_of_way) (defBody s_word_of_way) (defScope s_word_of_way) [] [] (a 1) (fd 1)
  g_word_of_way : mg "word_of_way" = some (.ref (a 1))
  d_way_of_number : FunD G.K "way_of_number" "way_of_number" (defArgs s_way_of_number) (defBody s_way_of_number) (defScope s_way_of_number) [] [] (a 2) (fd 2)
  g_way_of_number : mg "way_of_number" = some (.ref (a 2))
  d_three_of_way : FunD G.K "three_of_way" "three_of_way" (defArgs s_three_of_way) (defBody s_three_of_way) (defScope s_three_of_way) [] [] (a 3) (fd 3)
  g_three_of_way : mg "three_of_way" = some (.ref (a 3))
  d_triple_of_way : FunD G.K "triple_of_way" "triple_of_way" (defArgs s_triple_of_way) (defBody s_triple_of_way) (defScope s_triple_of_way) [] [] (a 4) (fd 4)
  g_triple_of_way : mg "triple_of_way" = some (.ref (a 4))
  d_triple_at : FunD G.K "triple_at" "triple_at" (defArgs s_triple_at) (defBody s_triple_at) (defScope s_triple_at) [] [] (a 5) (fd 5)
  g_triple_at : mg "triple_at" = some (.ref (a 5))
  d_first_triple : FunD G.K "first_triple" "first_triple" (defArgs s_first_triple) (defBody s_first_triple) (defScope s_first_triple) [.int 31] [] (a 6) (fd 6)
  g_first_triple : mg "first_triple" = some (.ref (a 6))
  d__law_urn : FunD G.K "_law_urn" "_law_urn" (defArgs s__law_urn) (defBody s__law_urn) (defScope s__law_urn) [] [] (a 7) (fd 7)
  g__law_urn : mg "_law_urn" = some (.ref (a 7))
  d__law_draw : FunD G.K "_law_draw" "_law_draw" (defArgs s__law_draw) (defBody s__law_draw) (defScope s__law_draw) [] [] (a 8) (fd 8)
  g__law_draw : mg "_law_draw" = some (.ref (a 8))
  d__law_three : FunD G.K "_law_three" "_law_three" (defArgs s__law_three) (defBody s__law_three) (defScope s__law_three) [] [] (a 9) (fd 9)
  g__law_three : mg "_law_three" = some (.ref (a 9))
  d__law_order : FunD G.K "_law_order" "_law_order" (defArgs s__law_order) (defBody s__law_order) (defScope s__law_order) [] [] (a 10) (fd 10)
  g__law_order : mg "_law_order" = some (.ref (a 10))
  d__law_asked : FunD G.K "_law_asked" "_law_asked" (defArgs s__law_asked) (defBody s__law_asked) (defScope s__law_asked) [] [] (a 11) (fd 11)
  g__law_asked : mg "_law_asked" = some (.ref (a 11))
  d__law_due : FunD G.K "_law_due" "_law_due" (defArgs s__law_due) (defBody s__law_due) (defScope s__law_due) [] [] (a 12) (fd 12)
  g__law_due : mg "_law_due" = some (.ref (a 12))
  d_law : FunD G.K "law" "law" (defArgs s_law) (defBody s_law) (defScope s_law) [] [] (a 13) (fd 13)
  g_law : mg "law" = some (.ref (a 13))
  b_abs : mg "abs" = none
  b_all : mg "all" = none
  b_isinstance : mg "isinstance" = none
  b_len : mg "len" = none
  b_max : mg "max" = none
  b_min : mg "min" = none
  b_range : mg "range" = none
  b_reversed : mg "reversed" = none
  b_sorted : mg "sorted" = none
  b_str : mg "str" = none
  b_tuple : mg "tuple" = none
  m_FIRST : ∃ adr, mg "FIRST" = some (.ref adr) ∧ ∀ F, Den G F (.tup [(.int 1), (.int 2), (.int 5)]) (.ref adr)
  m_MANY : ∃ t, mg "MANY" = some (.int 3 t)
  m_MOST_LETTERS : ∃ t, mg "MOST_LETTERS" = some (.int 60 t)
  m_ONES : ∃ adr, mg "ONES" = some (.ref adr) ∧ ∀ F, Den G F (.tup [(.int 1), (.int 1), (.int 1)]) (.ref adr)
  m_TWO : ∃ adr, mg "TWO" = some (.ref adr) ∧ ∀ F, Den G F (.tup [(.int 1), (.int 1), (.int 2)]) (.ref adr)
  m_WAY_LETTERS : ∃ t, mg "WAY_LETTERS" = some (.str "lr" t)
  hct : G.ct = ctab
  tb__law_asked : TabB base mg (cc 11) (pp 11)
  cc__law_asked : CodeAt G (a 11) (cc 11)
  hm__law_asked : (pp 11, q__law_asked) ∈ G.T
  hu__law_asked : ∀ p ∈ G.T, p.1 = pp 11 → p.2 = q__law_asked
  tb_law : TabB base mg (cc 13) (pp 13)
  cc_law : CodeAt G (a 13) (cc 13)
  hm_law : (pp 13, q_law) ∈ G.T
  hu_law : ∀ p ∈ G.T, p.1 = pp 13 → p.2 = q_law
section
variable {P : Program} {w : World} {G : Gx} {mg : Str → Option Value} {base : Heap} {a : Nat → Addr} {fd : Nat → FuncData} {cc pp : Nat → Addr}
def m_look_way : SM :=
    sIf (dOr (dNot (dTest (dB bIsi (dCons (dVar 0) (dCons (dC (.ty "str")) (dNil)))))) (dNot (dTest (dB bAll (dCons (dComp [1] (iOf oSeq (dVar 0)) (gSet 1) (dYes) (dOp dIn (dVar 1) (dC (.str [108, 114])))) (dNil)))))) (sNever) (sNx)
def F_look_way : List D → FO := mRun 2 m_look_way
theorem ok_look_way (T : Top G mg base a fd cc pp) : FnD P w mg base G 1 (a 0) (fd 0) ps_look_way F_look_way := by
  refine fn_ok (N := N_look_way) (g := m_look_way) T.d_look_way sc_look_way fun B W X _ _ _ _ _ hr tk cdv A outer s H E hX hBn => ?_
  subst hX
  have hB : ∀ i, 0 < i → ∀ b, B.arg ≠ some (i, b) := fun i _ b z => by rw [hBn] at z; cases z
  exact (ds_one (ds_if (dw_pt (dw_or (dt_not (dt_val (de_B (cd_isi rfl) T.b_isinstance (da_cons (de_var 0) (da_cons (de_bltT T.b_str) da_nil))))) (dw_or1 (dt_not (dt_val (de_B (cd_all rfl rfl) T.b_all (da_cons (de_comp (own := [("letter", 1)]) rfl sc_look_way.nd (di_any rfl (de_var 0)) (by kernel_rfl) (fun _ _ _ _ _ _ => (dg_name 1 sc_look_way.nd)) (fun _ _ _ _ _ _ => dts_nil) (fun _ _ _ _ _ _ => (de_cmp (od_in rfl (units_of hr)) (de_var 1) (de_globS [108, 114] T.m_WAY_LETTERS)))) da_nil))))))) (ds_one ds_never) ds_nil))
theorem bd_look_way (T : Top G mg base a fd cc pp) : Binds G.K (fd 0) ps_look_way [] := T.d_look_way.bindsN fun _ _ _ _ _ _ us hl => match us, hl with | [_], _ => rfl
def m_word_of_way : SM :=
    sSeq (sExpr (dCall (arity 1 F_look_way) (dCons (dVar 0) (dNil))))
    (sSeq (sAsg (dTup (dCons (dC (.str [97])) (dCons (dC (.str [98])) (dNil)))) (gTupM 2 [gSet 1, gSet 2]))
    (sSeq (sFor (iOf oSeq (dVar 0)) (gSet 3) (sSeq (sAsg (dOp dAdd (dVar 1) (dVar 2)) (gSet 4))
    (sSeq (sIf (dTest (dOp dEq (dVar 3) (dC (.str [108])))) (sAsg (dVar 4) (gSet 2)) (sAsg (dVar 4) (gSet 1)))
    (sIf (dTest (dOp dGt (dOp dAdd (dB bLen (dCons (dVar 1) (dNil))) (dB bLen (dCons (dVar 2) (dNil)))) (dC (.int 60)))) (sNever) (sNx)))))
    (sRet (dOp dAdd (dVar 1) (dVar 2)))))
def F_word_of_way : List D → FO := mRun 5 m_word_of_way
theorem ok_word_of_way (T : Top G mg base a fd cc pp) : FnD P w mg base G 2 (a 1) (fd 1) ps_word_of_way F_word_of_way := by
  refine fn_ok (N := N_word_of_way) (g := m_word_of_way) T.d_word_of_way sc_word_of_way fun B W X _ _ _ _ _ hr tk cdv A outer s H E hX hBn => ?_
  subst hX
  have hB : ∀ i, 0 < i → ∀ b, B.arg ≠ some (i, b) := fun i _ b z => by rw [hBn] at z; cases z
  exact (ds_cons (ds_expr (de_call (ok_look_way T) rfl hr (by decide) T.g_look_way T.d_look_way.kp (bd_look_way T) tk (da_cons (de_var 0) da_nil)))
    (ds_cons (ds_asg (de_tup (da_cons (de_str [97]) (da_cons (de_str [98]) da_nil))) (dg_tup rfl rfl (dgs_cons (dg_name 1 sc_word_of_way.nd) (dgs_cons (dg_name 2 sc_word_of_way.nd) dgs_nil))))
    (ds_cons (ds_for (passes_of rfl) rfl (di_any rfl (de_var 0)) (dg_name 3 sc_word_of_way.nd) (ds_cons (ds_set 4 sc_word_of_way.nd (de_op (od_add rfl) (de_var 1) (de_var 2)))
    (ds_cons (ds_if (dt_cmp (od_eq rfl (units_of' hr)) (de_var 3) (de_str [108])) (ds_one (ds_set 2 sc_word_of_way.nd (de_var 4))) (ds_one (ds_set 1 sc_word_of_way.nd (de_var 4))))
    (ds_one (ds_if (dt_cmp od_gt (de_op (od_add rfl) (de_B (cd_len rfl) T.b_len (da_cons (de_var 1) da_nil)) (de_B (cd_len rfl) T.b_len (da_cons (de_var 2) da_nil))) (de_globI T.m_MOST_LETTERS)) (ds_one ds_never) ds_nil)))))
    (ds_one (ds_ret (de_op (od_add rfl) (de_var 1) (de_var 2)))))))
theorem bd_word_of_way (T : Top G mg base a fd cc pp) : Binds G.K (fd 1) ps_word_of_way [] := T.d_word_of_way.bindsN fun _ _ _ _ _ _ us hl => match us, hl with | [_], _ => rfl
def m_way_of_number : SM :=
    sSeq (sSetO 1 (dNil))
    (sSeq (sWhile (dTest (dOp dGt (dVar 0) (dC (.int 1)))) (sSeq (sApp 1 (dOp dIx (dC (.str [108, 114])) (dOp dAnd1 (dVar 0) (dC (.int 1)))))
    (sAug 0 dShr (dC (.int 1)))))
    (sRet (dJoinR (dC (.str [])) (dVar 1))))
def F_way_of_number : List D → FO := mRun 2 m_way_of_number
theorem ok_way_of_number (T : Top G mg base a fd cc pp) : FnD P w mg base G 1 (a 2) (fd 2) ps_way_of_number F_way_of_number := by
  refine fn_ok (N := N_way_of_number) (g := m_way_of_number) T.d_way_of_number sc_way_of_number fun B W X _ _ _ _ _ hr tk cdv A outer s H E hX hBn => ?_
  subst hX
  have hB : ∀ i, 0 < i → ∀ b, B.arg ≠ some (i, b) := fun i _ b z => by rw [hBn] at z; cases z
  exact (ds_cons (ds_setO 1 (hB 1 (by decide)) sc_way_of_number.nd da_nil)
    (ds_cons (ds_while (passes_of rfl) (dt_cmp od_gt (de_var 0) de_int) (ds_cons (ds_app 1 rfl (de_ix rfl (de_globS [108, 114] T.m_WAY_LETTERS) (de_op od_and (de_var 0) de_int)))
    (ds_one (ds_aug 0 sc_way_of_number.nd od_ishr de_int))))
    (ds_one (ds_ret (de_joinR rfl rfl T.b_reversed (de_str []) (de_var 1))))))
theorem bd_way_of_number (T : Top G mg base a fd cc pp) : Binds G.K (fd 2) ps_way_of_number [] := T.d_way_of_number.bindsN fun _ _ _ _ _ _ us hl => match us, hl with | [_], _ => rfl
def m_three_of_way : SM :=
    sSeq (sAsg (dC (.tup [(.int 1), (.int 2), (.int 5)])) (gTupM 3 [gSet 1, gSet 2, gSet 3]))
    (sSeq (sFor (iOf oSeq (dVar 0)) (gSet 4) (sIf (dTest (dOp dEq (dVar 4) (dC (.str [108])))) (sPar [1, 2, 3] (dCons (dVar 1) (dCons (dVar 3) (dCons (dOp dSub (dOp dMul (dOp dMul (dC (.int 3)) (dVar 1)) (dVar 3)) (dVar 2)) (dNil))))) (sPar [1, 2, 3] (dCons (dVar 3) (dCons (dVar 2) (dCons (dOp dSub (dOp dMul (dOp dMul (dC (.int 3)) (dVar 2)) (dVar 3)) (dVar 1)) (dNil)))))))
    (sRet (dTup (dCons (dVar 1) (dCons (dVar 2) (dCons (dVar 3) (dNil)))))))
def F_three_of_way : List D → FO := mRun 5 m_three_of_way
theorem ok_three_of_way (T : Top G mg base a fd cc pp) : FnD P w mg base G 1 (a 3) (fd 3) ps_three_of_way F_three_of_way := by
  refine fn_ok (N := N_three_of_way) (g := m_three_of_way) T.d_three_of_way sc_three_of_way fun B W X _ _ _ _ _ hr tk cdv A outer s H E hX hBn => ?_
  subst hX
  have hB : ∀ i, 0 < i → ∀ b, B.arg ≠ some (i, b) := fun i _ b z => by rw [hBn] at z; cases z
  exact (ds_cons (ds_asg (de_globX T.m_FIRST) (dg_tup rfl rfl (dgs_cons (dg_name 1 sc_three_of_way.nd) (dgs_cons (dg_name 2 sc_three_of_way.nd) (dgs_cons (dg_name 3 sc_three_of_way.nd) dgs_nil)))))
    (ds_cons (ds_for (passes_of rfl) rfl (di_any rfl (de_var 0)) (dg_name 4 sc_three_of_way.nd) (ds_one (ds_if (dt_cmp (od_eq rfl (units_of' hr)) (de_var 4) (de_str [108])) (ds_one (ds_par3 1 2 3 rfl sc_three_of_way.nd (da_cons (de_var 1) (da_cons (de_var 3) (da_cons (de_op od_sub (de_op od_mul (de_op od_mul (de_globI T.m_MANY) (de_var 1)) (de_var 3)) (de_var 2)) da_nil))))) (ds_one (ds_par3 1 2 3 rfl sc_three_of_way.nd (da_cons (de_var 3) (da_cons (de_var 2) (da_cons (de_op od_sub (de_op od_mul (de_op od_mul (de_globI T.m_MANY) (de_var 2)) (de_var 3)) (de_var 1)) da_nil))))))))
    (ds_one (ds_ret (de_tup (da_cons (de_var 1) (da_cons (de_var 2) (da_cons (de_var 3) da_nil))))))))
theorem bd_three_of_way (T : Top G mg base a fd cc pp) : Binds G.K (fd 3) ps_three_of_way [] := T.d_three_of_way.bindsN fun _ _ _ _ _ _ us hl => match us, hl with | [_], _ => rfl
def m_triple_of_way : SM :=
    sSeq (sExpr (dCall (arity 1 F_word_of_way) (dCons (dVar 0) (dNil))))
    (sRet (dB bTuple (dCons (dB bSorted (dCons (dCall (arity 1 F_three_of_way) (dCons (dVar 0) (dNil))) (dNil))) (dNil))))
def F_triple_of_way : List D → FO := mRun 1 m_triple_of_way
theorem ok_triple_of_way (T : Top G mg base a fd cc pp) : FnD P w mg base G 3 (a 4) (fd 4) ps_triple_of_way F_triple_of_way := by
  refine fn_ok (N := N_triple_of_way) (g := m_triple_of_way) T.d_triple_of_way sc_triple_of_way fun B W X _ _ _ _ _ hr tk cdv A outer s H E hX hBn => ?_
  subst hX
  have hB : ∀ i, 0 < i → ∀ b, B.arg ≠ some (i, b) := fun i _ b z => by rw [hBn] at z; cases z
  exact (ds_cons (ds_expr (de_call (ok_word_of_way T) rfl hr (by decide) T.g_word_of_way T.d_word_of_way.kp (bd_word_of_way T) tk (da_cons (de_var 0) da_nil)))
    (ds_one (ds_ret (de_T (cd_tuple rfl) T.b_tuple (da_cons (de_B (cd_sorted rfl) T.b_sorted (da_cons (de_call (ok_three_of_way T) rfl hr (by decide) T.g_three_of_way T.d_three_of_way.kp (bd_three_of_way T) tk (da_cons (de_var 0) da_nil)) da_nil)) da_nil)))))
theorem bd_triple_of_way (T : Top G mg base a fd cc pp) : Binds G.K (fd 4) ps_triple_of_way [] := T.d_triple_of_way.bindsN fun _ _ _ _ _ _ us hl => match us, hl with | [_], _ => rfl
def m_triple_at : SM :=
    sSeq (sIf (dTest (dOp dLt (dVar 0) (dC (.int 2)))) (sRet (dOp dIx (dTup (dCons (dC (.tup [(.int 1), (.int 1), (.int 1)])) (dCons (dC (.tup [(.int 1), (.int 1), (.int 2)])) (dNil)))) (dVar 0))) (sNx))
    (sRet (dCall (arity 1 F_triple_of_way) (dCons (dCall (arity 1 F_way_of_number) (dCons (dOp dSub (dVar 0) (dC (.int 1))) (dNil))) (dNil))))
def F_triple_at : List D → FO := mRun 1 m_triple_at
theorem ok_triple_at (T : Top G mg base a fd cc pp) : FnD P w mg base G 4 (a 5) (fd 5) ps_triple_at F_triple_at := by
  refine fn_ok (N := N_triple_at) (g := m_triple_at) T.d_triple_at sc_triple_at fun B W X _ _ _ _ _ hr tk cdv A outer s H E hX hBn => ?_
  subst hX
  have hB : ∀ i, 0 < i → ∀ b, B.arg ≠ some (i, b) := fun i _ b z => by rw [hBn] at z; cases z
  exact (ds_cons (ds_if (dt_cmp od_lt (de_var 0) de_int) (ds_one (ds_ret (de_ix rfl (de_tup (da_cons (de_globX T.m_ONES) (da_cons (de_globX T.m_TWO) da_nil))) (de_var 0)))) ds_nil)
    (ds_one (ds_ret (de_call (ok_triple_of_way T) rfl hr (by decide) T.g_triple_of_way T.d_triple_of_way.kp (bd_triple_of_way T) tk (da_cons (de_call (ok_way_of_number T) rfl hr (by decide) T.g_way_of_number T.d_way_of_number.kp (bd_way_of_number T) tk (da_cons (de_op od_sub (de_var 0) de_int) da_nil)) da_nil)))))
theorem bd_triple_at (T : Top G mg base a fd cc pp) : Binds G.K (fd 5) ps_triple_at [] := T.d_triple_at.bindsN fun _ _ _ _ _ _ us hl => match us, hl with | [_], _ => rfl
def lm_0 : EM D := dOp dEq (dOp dMod (dOp dIx (dVar 0) (dVar 3)) (dVar 1)) (dVar 2)
theorem lok_0 (T : Top G mg base a fd cc pp) (f c' : Addr) (cl : List (Str × Addr)) : LOk P w mg base G 1 f ct_0 cl c' 1 (lRun 4 lm_0) :=
  lok_of (N := ["_law_triple", "_law_by", "_law_left", "_law_place"]) (ps := ["_law_triple"]) ls_0 (fun pm ctv us hl => match us, hl with | [_], _ => rfl) fun B X _ _ _ _ _ hr tk A outer s H hX hB => by
    subst hX
    exact (de_cmp (od_eq rfl (units_of' hr)) (de_op od_mod (de_ix rfl (de_var 0) (de_var 3)) (de_var 1)) (de_var 2))
def lm_1 : EM D := dOp dGt (dOp dIx (dVar 0) (dVar 2)) (dOp dIx (dVar 1) (dVar 2))
theorem lok_1 (T : Top G mg base a fd cc pp) (f c' : Addr) (cl : List (Str × Addr)) : LOk P w mg base G 1 f ct_1 cl c' 1 (lRun 3 lm_1) :=
  lok_of (N := ["_law_triple", "_law_one", "_law_place"]) (ps := ["_law_triple"]) ls_1 (fun pm ctv us hl => match us, hl with | [_], _ => rfl) fun B X _ _ _ _ _ hr tk A outer s H hX hB => by
    subst hX
    exact (de_cmp od_gt (de_ix rfl (de_var 0) (de_var 2)) (de_ix rfl (de_var 1) (de_var 2)))
def lm_2 : EM D := dOp dEq (dVar 0) (dVar 1)
theorem lok_2 (T : Top G mg base a fd cc pp) (f c' : Addr) (cl : List (Str × Addr)) : LOk P w mg base G 1 f ct_2 cl c' 1 (lRun 2 lm_2) :=
  lok_of (N := ["_law_triple", "_law_one"]) (ps := ["_law_triple"]) ls_2 (fun pm ctv us hl => match us, hl with | [_], _ => rfl) fun B X _ _ _ _ _ hr tk A outer s H hX hB => by
    subst hX
    exact (de_cmp (od_eq rfl (units_of' hr)) (de_var 0) (de_var 1))
def lm_3 : EM D := dOp dIn (dVar 0) (dTup (dCons (dVar 1) (dCons (dVar 2) (dNil))))
theorem lok_3 (T : Top G mg base a fd cc pp) (f c' : Addr) (cl : List (Str × Addr)) : LOk P w mg base G 1 f ct_3 cl c' 1 (lRun 3 lm_3) :=
  lok_of (N := ["_law_triple", "_law_one", "_law_other"]) (ps := ["_law_triple"]) ls_3 (fun pm ctv us hl => match us, hl with | [_], _ => rfl) fun B X _ _ _ _ _ hr tk A outer s H hX hB => by
    subst hX
    exact (de_cmp (od_in rfl (units_of hr)) (de_var 0) (de_tup (da_cons (de_var 1) (da_cons (de_var 2) da_nil))))
def lm_4 : EM D := dOp dEq (dB bLen (dCons (dB bStr (dCons (dOp dIx (dVar 0) (dC (.int 2))) (dNil))) (dNil))) (dVar 1)
theorem lok_4 (T : Top G mg base a fd cc pp) (f c' : Addr) (cl : List (Str × Addr)) : LOk P w mg base G 1 f ct_4 cl c' 1 (lRun 2 lm_4) :=
  lok_of (N := ["_law_triple", "_law_by"]) (ps := ["_law_triple"]) ls_4 (fun pm ctv us hl => match us, hl with | [_], _ => rfl) fun B X _ _ _ _ _ hr tk A outer s H hX hB => by
    subst hX
    exact (de_cmp (od_eq rfl (units_of' hr)) (de_B (cd_len rfl) T.b_len (da_cons (de_T cd_str T.b_str (da_cons (de_ix rfl (de_var 0) de_int) da_nil)) da_nil)) (de_var 1))
def lm_5 : EM D := dAndV (dOp dNe (dOp dIx (dVar 0) (dC (.int 0))) (dC (.int 1))) (dOp dEq (dOp dMod (dOp dIx (dVar 0) (dC (.int 1))) (dVar 1)) (dVar 2))
theorem lok_5 (T : Top G mg base a fd cc pp) (f c' : Addr) (cl : List (Str × Addr)) : LOk P w mg base G 1 f ct_5 cl c' 1 (lRun 3 lm_5) :=
  lok_of (N := ["_law_triple", "_law_by", "_law_left"]) (ps := ["_law_triple"]) ls_5 (fun pm ctv us hl => match us, hl with | [_], _ => rfl) fun B X _ _ _ _ _ hr tk A outer s H hX hB => by
    subst hX
    exact (de_and (de_cmp (od_ne rfl (units_of' hr)) (de_ix rfl (de_var 0) de_int) de_int) (de_one (de_cmp (od_eq rfl (units_of' hr)) (de_op od_mod (de_ix rfl (de_var 0) de_int) (de_var 1)) (de_var 2))))
def lm_6 : EM D := dC (.bl false)
theorem lok_6 (T : Top G mg base a fd cc pp) (f c' : Addr) (cl : List (Str × Addr)) : LOk P w mg base G 1 f ct_6 cl c' 1 (lRun 1 lm_6) :=
  lok_of (N := ["_law_triple"]) (ps := ["_law_triple"]) ls_6 (fun pm ctv us hl => match us, hl with | [_], _ => rfl) fun B X _ _ _ _ _ hr tk A outer s H hX hB => by
    subst hX
    exact de_bl
def lm_7 : EM D := dOp dGe (dOp dSub (dOp dIx (dVar 0) (dC (.int 2))) (dOp dIx (dVar 0) (dC (.int 1)))) (dVar 1)
theorem lok_7 (T : Top G mg base a fd cc pp) (f c' : Addr) (cl : List (Str × Addr)) : LOk P w mg base G 1 f ct_7 cl c' 1 (lRun 2 lm_7) :=
  lok_of (N := ["_law_triple", "_law_by"]) (ps := ["_law_triple"]) ls_7 (fun pm ctv us hl => match us, hl with | [_], _ => rfl) fun B X _ _ _ _ _ hr tk A outer s H hX hB => by
    subst hX
    exact (de_cmp od_ge (de_op od_sub (de_ix rfl (de_var 0) de_int) (de_ix rfl (de_var 0) de_int)) (de_var 1))
def lm_8 : EM D := dC (.bl true)
theorem lok_8 (T : Top G mg base a fd cc pp) (f c' : Addr) (cl : List (Str × Addr)) : LOk P w mg base G 1 f ct_8 cl c' 1 (lRun 1 lm_8) :=
  lok_of (N := ["_law_triple"]) (ps := ["_law_triple"]) ls_8 (fun pm ctv us hl => match us, hl with | [_], _ => rfl) fun B X _ _ _ _ _ hr tk A outer s H hX hB => by
    subst hX
    exact de_bl
def mc : Nat → List D → List D → Option D
  | 0 => lRun 4 lm_0
  | 1 => lRun 3 lm_1
  | 2 => lRun 2 lm_2
  | 3 => lRun 3 lm_3
  | 4 => lRun 2 lm_4
  | 5 => lRun 3 lm_5
  | 6 => lRun 1 lm_6
  | 7 => lRun 2 lm_7
  | 8 => lRun 1 lm_8
  | _ => fun _ _ => none
theorem hC (T : Top G mg base a fd cc pp) : ∀ (k : Nat) (f c' : Addr) (cl : List (Str × Addr)), LOk P w mg base G 1 f (G.ct k) cl c' 1 (mc k) := fun k f c' cl => by
  rw [T.hct]
  match k with
  | 0 => exact lok_0 T f c' cl
  | 1 => exact lok_1 T f c' cl
  | 2 => exact lok_2 T f c' cl
  | 3 => exact lok_3 T f c' cl
  | 4 => exact lok_4 T f c' cl
  | 5 => exact lok_5 T f c' cl
  | 6 => exact lok_6 T f c' cl
  | 7 => exact lok_7 T f c' cl
  | 8 => exact lok_8 T f c' cl
  | n + 9 =>
    refine ⟨fun A outer s H us vs ws Q _ _ _ _ _ _ hsp => ?_⟩
    obtain ⟨_, _, _, _, _, _, _, h⟩ := hsp
    exact h.elim
def m_first_triple : SM :=
    sSeq (sFor (iArgs oRng1 (dCons (dVar 1) (dNil))) (gSet 2) (sSeq (sAsg (dCall (arity 1 F_triple_at) (dCons (dVar 2) (dNil))) (gSet 3))
    (sIf (dTest (dCallClo 1 0 mc (dCons (dVar 3) (dNil)))) (sRet (dVar 3)) (sNx))))
    (sRet (dC .non))
def F_first_triple : List D → FO := mRun 4 m_first_triple
theorem ok_first_triple (T : Top G mg base a fd cc pp) : FnD P w mg base G 5 (a 6) (fd 6) ps_first_triple F_first_triple := by
  refine fn_ok (N := N_first_triple) (g := m_first_triple) T.d_first_triple sc_first_triple fun B W X _ _ _ _ _ hr tk cdv A outer s H E hX hBn => ?_
  subst hX
  have hB : ∀ i, 0 < i → ∀ b, B.arg ≠ some (i, b) := fun i _ b z => by rw [hBn] at z; cases z
  exact (ds_cons (ds_for (passes_of rfl) rfl (di_range1 T.b_range (da_cons (de_var 1) da_nil)) (dg_name 2 sc_first_triple.nd) (ds_cons (ds_set 3 sc_first_triple.nd (de_call (ok_triple_at T) rfl hr (by decide) T.g_triple_at T.d_triple_at.kp (bd_triple_at T) tk (da_cons (de_var 2) da_nil)))
    (ds_one (ds_if (dt_val (de_callClo 0 (hC T) rfl hr (by decide) (da_cons (de_var 3) da_nil))) (ds_one (ds_ret (de_var 3))) ds_nil))))
    (ds_one (ds_ret de_non)))
theorem bd_first_triple_2 (T : Top G mg base a fd cc pp) : ∃ ds, Vals ([] : List V) ds ∧ Binds G.K (fd 6) ps_first_triple ds := T.d_first_triple.binds1 2 1 (by simp) rfl fun _ _ _ _ _ _ _ us its h1 h2 => match us, its, h1, h2 with | [_, _], [_], _, _ => ⟨_, rfl, rfl⟩
theorem bd_first_triple_1 (T : Top G mg base a fd cc pp) : ∃ ds, Vals ([.int 31] : List V) ds ∧ Binds G.K (fd 6) ps_first_triple ds := T.d_first_triple.binds1 1 0 (by simp) rfl fun _ _ _ _ _ _ _ us its h1 h2 => match us, its, h1, h2 with | [_], [_], _, _ => ⟨_, rfl, rfl⟩
theorem kb_first_triple_1_most (T : Top G mg base a fd cc pp) : ∃ its : List Value, KBn G.K (fd 6) ps_first_triple 1 ["most"] (fun us ws => us ++ ws) (fun vs zs => vs ++ zs) := T.d_first_triple.kbindsD 1 ["most"] (fun us _ ws => us ++ ws) (by simp) (fun r1 _ r2 => r1.append r2) fun _ _ _ _ _ _ _ us its ws h1 h2 h3 => match us, its, ws, h1, h2, h3 with | [_], [_], [_], _, _, _ => ⟨_, rfl, rfl⟩
theorem kb_first_triple_0_most_asked (T : Top G mg base a fd cc pp) : ∃ its : List Value, KBn G.K (fd 6) ps_first_triple 0 ["most", "asked"] (fun _ ws => ws.reverse) (fun _ zs => zs.reverse) := T.d_first_triple.kbindsD 0 ["most", "asked"] (fun _ _ ws => ws.reverse) (by simp) (fun _ _ r => r.reverse) fun _ _ _ _ _ _ _ us its ws h1 h2 h3 => match us, its, ws, h1, h2, h3 with | [], [_], [_, _], _, _, _ => ⟨_, rfl, rfl⟩
def m__law_urn : SM :=
    sSeq (sAsg (dC (.int 0)) (gSet 2))
    (sSeq (sIf (dTest (dOp dLt (dVar 1) (dB bLen (dCons (dVar 0) (dNil))))) (sAsg (dOp dIx (dVar 0) (dVar 1)) (gSet 2)) (sNx))
    (sSeq (sAsg (dB bAbs (dCons (dVar 2) (dNil))) (gSet 3))
    (sSeq (sIf (dTest (dOp dLt (dVar 3) (dOp dPow (dC (.int 10)) (dC (.int 18))))) (sAsg (dC (.int 0)) (gSet 3)) (sNx))
    (sRetL (dCons (dVar 3) (dCons (dOp dAdd (dOp dAdd (dOp dAdd (dOp dMod (dVar 2) (dC (.int 1000000000000000003))) (dOp dMul (dOp dMul (dC (.int 97)) (dVar 1)) (dVar 1))) (dOp dMul (dC (.int 31)) (dVar 1))) (dC (.int 1))) (dCons (dC (.int 0)) (dNil))))))))
def F__law_urn : List D → FO := mRun 4 m__law_urn
theorem ok__law_urn (T : Top G mg base a fd cc pp) : FnD P w mg base G 1 (a 7) (fd 7) ps__law_urn F__law_urn := by
  refine fn_ok (N := N__law_urn) (g := m__law_urn) T.d__law_urn sc__law_urn fun B W X _ _ _ _ _ hr tk cdv A outer s H E hX hBn => ?_
  subst hX
  have hB : ∀ i, 0 < i → ∀ b, B.arg ≠ some (i, b) := fun i _ b z => by rw [hBn] at z; cases z
  exact (ds_cons (ds_set 2 sc__law_urn.nd de_int)
    (ds_cons (ds_if (dt_cmp od_lt (de_var 1) (de_B (cd_len rfl) T.b_len (da_cons (de_var 0) da_nil))) (ds_one (ds_set 2 sc__law_urn.nd (de_ix rfl (de_var 0) (de_var 1)))) ds_nil)
    (ds_cons (ds_set 3 sc__law_urn.nd (de_B cd_abs T.b_abs (da_cons (de_var 2) da_nil)))
    (ds_cons (ds_if (dt_cmp od_lt (de_var 3) (de_op od_pow de_int de_int)) (ds_one (ds_set 3 sc__law_urn.nd de_int)) ds_nil)
    (ds_one (ds_retL (da_cons (de_var 3) (da_cons (de_op (od_add rfl) (de_op (od_add rfl) (de_op (od_add rfl) (de_op od_mod (de_var 2) de_int) (de_op od_mul (de_op od_mul de_int (de_var 1)) (de_var 1))) (de_op od_mul de_int (de_var 1))) de_int) (da_cons de_int da_nil)))))))))
theorem bd__law_urn (T : Top G mg base a fd cc pp) : Binds G.K (fd 7) ps__law_urn [] := T.d__law_urn.bindsN fun _ _ _ _ _ _ us hl => match us, hl with | [_, _], _ => rfl
def m__law_draw : SM :=
    sSeq (sIf (dTest (dOp dGt (dIxO 0 (dC (.int 0))) (dC (.int 0)))) (sSeq (sAsg (dOp dMod (dIxO 0 (dC (.int 0))) (dVar 1)) (gSet 2))
    (sSeq (sSetIx 0 (dC (.int 0)) (dOp dFdiv (dIxO 0 (dC (.int 0))) (dVar 1)))
    (sRet (dVar 2)))) (sNx))
    (sSeq (sAsg (dTup (dCons (dC (.int 2147483647)) (dCons (dC (.int 2147483629)) (dCons (dC (.int 2147483587)) (dCons (dC (.int 2147483579)) (dCons (dC (.int 2147483563)) (dCons (dC (.int 2147483549)) (dCons (dC (.int 2147483543)) (dNil))))))))) (gSet 3))
    (sSeq (sSetIx 0 (dC (.int 2)) (dOp dAdd (dIxO 0 (dC (.int 2))) (dC (.int 1))))
    (sSeq (sAsg (dIxO 0 (dC (.int 2))) (gSet 4))
    (sSeq (sAsg (dOp dAdd (dOp dAdd (dOp dMul (dIxO 0 (dC (.int 1))) (dOp dAdd (dOp dMul (dC (.int 2)) (dVar 4)) (dC (.int 1)))) (dOp dMul (dOp dMul (dC (.int 6007)) (dVar 4)) (dVar 4))) (dC (.int 53))) (gSet 5))
    (sSeq (sAsg (dOp dMod (dOp dPow (dVar 5) (dC (.int 3))) (dOp dIx (dVar 3) (dOp dMod (dVar 4) (dC (.int 7))))) (gSet 6))
    (sRet (dOp dMod (dOp dFdiv (dOp dMod (dOp dMul (dVar 6) (dOp dAdd (dOp dFdiv (dVar 6) (dC (.int 8191))) (dVar 4))) (dOp dIx (dVar 3) (dOp dMod (dOp dAdd (dVar 4) (dC (.int 3))) (dC (.int 7))))) (dC (.int 16))) (dVar 1))))))))
def U__law_draw : List D → List D → UO := uRun 7 m__law_draw
theorem ok__law_draw (T : Top G mg base a fd cc pp) : FnU P w mg base G 1 (a 8) (fd 8) ps__law_draw U__law_draw := by
  refine fnU_ok (N := N__law_draw) (g := m__law_draw) T.d__law_draw sc__law_draw fun B W X _ _ _ _ _ hr tk cdv A outer s H E hX hBn => ?_
  subst hX
  have hB : ∀ i, 0 < i → ∀ b, B.arg ≠ some (i, b) := fun i hi b z => by
    obtain ⟨_, hBn⟩ := hBn
    rw [hBn] at z; cases z; exact absurd hi (Nat.lt_irrefl 0)
  exact (ds_cons (ds_if (dt_cmp od_gt (de_ixOwn 0 rfl de_int) de_int) (ds_cons (ds_set 2 sc__law_draw.nd (de_op od_mod (de_ixOwn 0 rfl de_int) (de_var 1)))
    (ds_cons (ds_setIx2 0 rfl (de_op od_fdiv (de_ixOwn 0 rfl de_int) (de_var 1)) de_int)
    (ds_one (ds_ret (de_var 2))))) ds_nil)
    (ds_cons (ds_set 3 sc__law_draw.nd (de_tup (da_cons de_int (da_cons de_int (da_cons de_int (da_cons de_int (da_cons de_int (da_cons de_int (da_cons de_int da_nil)))))))))
    (ds_cons (ds_setIx2 0 rfl (de_op (od_add rfl) (de_ixOwn 0 rfl de_int) de_int) de_int)
    (ds_cons (ds_set 4 sc__law_draw.nd (de_ixOwn 0 rfl de_int))
    (ds_cons (ds_set 5 sc__law_draw.nd (de_op (od_add rfl) (de_op (od_add rfl) (de_op od_mul (de_ixOwn 0 rfl de_int) (de_op (od_add rfl) (de_op od_mul de_int (de_var 4)) de_int)) (de_op od_mul (de_op od_mul de_int (de_var 4)) (de_var 4))) de_int))
    (ds_cons (ds_set 6 sc__law_draw.nd (de_op od_mod (de_op od_pow (de_var 5) de_int) (de_ix rfl (de_var 3) (de_op od_mod (de_var 4) de_int))))
    (ds_one (ds_ret (de_op od_mod (de_op od_fdiv (de_op od_mod (de_op od_mul (de_var 6) (de_op (od_add rfl) (de_op od_fdiv (de_var 6) de_int) (de_var 4))) (de_ix rfl (de_var 3) (de_op od_mod (de_op (od_add rfl) (de_var 4) de_int) de_int))) de_int) (de_var 1))))))))))
theorem bd__law_draw (T : Top G mg base a fd cc pp) : Binds G.K (fd 8) ps__law_draw [] := T.d__law_draw.bindsN fun _ _ _ _ _ _ us hl => match us, hl with | [_, _], _ => rfl
def m__law_three : SM :=
    sSeq (sAsg (dTup (dCons (dC (.int 1)) (dCons (dC (.int 2)) (dCons (dC (.int 5)) (dNil))))) (gTupM 3 [gSet 1, gSet 2, gSet 3]))
    (sSeq (sFor (iOf oSeq (dVar 0)) (gSet 4) (sIf (dTest (dOp dEq (dVar 4) (dC (.str [108])))) (sPar [1, 2, 3] (dCons (dVar 1) (dCons (dVar 3) (dCons (dOp dSub (dOp dMul (dOp dMul (dC (.int 3)) (dVar 1)) (dVar 3)) (dVar 2)) (dNil))))) (sPar [1, 2, 3] (dCons (dVar 3) (dCons (dVar 2) (dCons (dOp dSub (dOp dMul (dOp dMul (dC (.int 3)) (dVar 3)) (dVar 2)) (dVar 1)) (dNil)))))))
    (sRet (dTup (dCons (dVar 1) (dCons (dVar 2) (dCons (dVar 3) (dNil)))))))
def F__law_three : List D → FO := mRun 5 m__law_three
theorem ok__law_three (T : Top G mg base a fd cc pp) : FnD P w mg base G 1 (a 9) (fd 9) ps__law_three F__law_three := by
  refine fn_ok (N := N__law_three) (g := m__law_three) T.d__law_three sc__law_three fun B W X _ _ _ _ _ hr tk cdv A outer s H E hX hBn => ?_
  subst hX
  have hB : ∀ i, 0 < i → ∀ b, B.arg ≠ some (i, b) := fun i _ b z => by rw [hBn] at z; cases z
  exact (ds_cons (ds_asg (de_tup (da_cons de_int (da_cons de_int (da_cons de_int da_nil)))) (dg_tup rfl rfl (dgs_cons (dg_name 1 sc__law_three.nd) (dgs_cons (dg_name 2 sc__law_three.nd) (dgs_cons (dg_name 3 sc__law_three.nd) dgs_nil)))))
    (ds_cons (ds_for (passes_of rfl) rfl (di_any rfl (de_var 0)) (dg_name 4 sc__law_three.nd) (ds_one (ds_if (dt_cmp (od_eq rfl (units_of' hr)) (de_var 4) (de_str [108])) (ds_one (ds_par3 1 2 3 rfl sc__law_three.nd (da_cons (de_var 1) (da_cons (de_var 3) (da_cons (de_op od_sub (de_op od_mul (de_op od_mul de_int (de_var 1)) (de_var 3)) (de_var 2)) da_nil))))) (ds_one (ds_par3 1 2 3 rfl sc__law_three.nd (da_cons (de_var 3) (da_cons (de_var 2) (da_cons (de_op od_sub (de_op od_mul (de_op od_mul de_int (de_var 3)) (de_var 2)) (de_var 1)) da_nil))))))))
    (ds_one (ds_ret (de_tup (da_cons (de_var 1) (da_cons (de_var 2) (da_cons (de_var 3) da_nil))))))))
theorem bd__law_three (T : Top G mg base a fd cc pp) : Binds G.K (fd 9) ps__law_three [] := T.d__law_three.bindsN fun _ _ _ _ _ _ us hl => match us, hl with | [_], _ => rfl
def m__law_order : SM :=
    sSeq (sSetO 1 (dCons (dTup (dCons (dC (.int 1)) (dCons (dC (.int 1)) (dCons (dC (.int 1)) (dNil))))) (dCons (dTup (dCons (dC (.int 1)) (dCons (dC (.int 1)) (dCons (dC (.int 2)) (dNil))))) (dNil))))
    (sSeq (sFor (iArgs oRng2 (dCons (dC (.int 1)) (dCons (dVar 0) (dNil)))) (gSet 2) (sSeq (sAsg (dC (.str [])) (gSet 3))
    (sSeq (sWhile (dTest (dOp dGt (dVar 2) (dC (.int 1)))) (sSeq (sAsg (dOp dAdd (dOp dIx (dC (.str [108, 114])) (dOp dMod (dVar 2) (dC (.int 2)))) (dVar 3)) (gSet 3))
    (sAsg (dOp dFdiv (dVar 2) (dC (.int 2))) (gSet 2))))
    (sApp 1 (dB bTuple (dCons (dB bSorted (dCons (dCall (arity 1 F__law_three) (dCons (dVar 3) (dNil))) (dNil))) (dNil)))))))
    (sRet (dSl (dVar 1) (dNoPart) (dPart (dVar 0)))))
def F__law_order : List D → FO := mRun 4 m__law_order
theorem ok__law_order (T : Top G mg base a fd cc pp) : FnD P w mg base G 2 (a 10) (fd 10) ps__law_order F__law_order := by
  refine fn_ok (N := N__law_order) (g := m__law_order) T.d__law_order sc__law_order fun B W X _ _ _ _ _ hr tk cdv A outer s H E hX hBn => ?_
  subst hX
  have hB : ∀ i, 0 < i → ∀ b, B.arg ≠ some (i, b) := fun i _ b z => by rw [hBn] at z; cases z
  exact (ds_cons (ds_setO 1 (hB 1 (by decide)) sc__law_order.nd (da_cons (de_tup (da_cons de_int (da_cons de_int (da_cons de_int da_nil)))) (da_cons (de_tup (da_cons de_int (da_cons de_int (da_cons de_int da_nil)))) da_nil)))
    (ds_cons (ds_for (passes_of rfl) rfl (di_range2 T.b_range (da_cons de_int (da_cons (de_var 0) da_nil))) (dg_name 2 sc__law_order.nd) (ds_cons (ds_set 3 sc__law_order.nd (de_str []))
    (ds_cons (ds_while (passes_of rfl) (dt_cmp od_gt (de_var 2) de_int) (ds_cons (ds_set 3 sc__law_order.nd (de_op (od_add rfl) (de_ix rfl (de_str [108, 114]) (de_op od_mod (de_var 2) de_int)) (de_var 3)))
    (ds_one (ds_set 2 sc__law_order.nd (de_op od_fdiv (de_var 2) de_int)))))
    (ds_one (ds_app 1 rfl (de_T (cd_tuple rfl) T.b_tuple (da_cons (de_B (cd_sorted rfl) T.b_sorted (da_cons (de_call (ok__law_three T) rfl hr (by decide) T.g__law_three T.d__law_three.kp (bd__law_three T) tk (da_cons (de_var 3) da_nil)) da_nil)) da_nil)))))))
    (ds_one (ds_ret (de_slice rfl (de_var 1) do_none (do_some (de_var 0)))))))
theorem bd__law_order (T : Top G mg base a fd cc pp) : Binds G.K (fd 10) ps__law_order [] := T.d__law_order.bindsN fun _ _ _ _ _ _ us hl => match us, hl with | [_], _ => rfl
def m__law_asked : SM :=
    sSeq (noRt (sAsg (dCallU 0 (arityU 2 U__law_draw) (dCons (dC (.int 8)) (dNil))) (gSet 2)))
    (sSeq (noRt (sAsg (dTup (dCons (dCallU 0 (arityU 2 U__law_draw) (dCons (dC (.int 3)) (dNil))) (dCons (dOp dAdd (dC (.int 2)) (dCallU 0 (arityU 2 U__law_draw) (dCons (dOp dIx (dLst (dCons (dC (.int 3)) (dCons (dC (.int 12)) (dCons (dC (.int 100)) (dNil))))) (dCallU 0 (arityU 2 U__law_draw) (dCons (dC (.int 3)) (dNil)))) (dNil)))) (dNil)))) (gTupM 2 [gSet 3, gSet 4])))
    (sSeq (noRt (sAsg (dCallU 0 (arityU 2 U__law_draw) (dCons (dVar 4) (dNil))) (gSet 5)))
    (sSeq (noRt (sAsg (dTup (dCons (dOp dIx (dVar 1) (dCallU 0 (arityU 2 U__law_draw) (dCons (dB bLen (dCons (dVar 1) (dNil))) (dNil)))) (dCons (dOp dIx (dVar 1) (dCallU 0 (arityU 2 U__law_draw) (dCons (dB bLen (dCons (dVar 1) (dNil))) (dNil)))) (dNil)))) (gTupM 2 [gSet 6, gSet 7])))
    (sSeq (sIf (dTest (dOp dEq (dVar 2) (dC (.int 0)))) (sSeq (sRetLam 0 [4, 5, 3])
    (sNx)) (sNx))
    (sSeq (sIf (dTest (dOp dEq (dVar 2) (dC (.int 1)))) (sSeq (sRetLam 1 [6, 3])
    (sNx)) (sNx))
    (sSeq (sIf (dTest (dOp dEq (dVar 2) (dC (.int 2)))) (sSeq (sRetLam 2 [6])
    (sNx)) (sNx))
    (sSeq (sIf (dTest (dOp dEq (dVar 2) (dC (.int 3)))) (sSeq (sRetLam 3 [6, 7])
    (sNx)) (sNx))
    (sSeq (sIf (dTest (dOp dEq (dVar 2) (dC (.int 4)))) (sSeq (sRetLam 4 [4])
    (sNx)) (sNx))
    (sSeq (sIf (dTest (dOp dEq (dVar 2) (dC (.int 5)))) (sSeq (sRetLam 5 [4, 5])
    (sNx)) (sNx))
    (sSeq (sIf (dTest (dOp dEq (dVar 2) (dC (.int 6)))) (sSeq (sRetLam 6 [])
    (sNx)) (sNx))
    (sSeq (sRetLam 7 [4])
    (sNx))))))))))))
def U__law_asked : List D → List D → UO := uRun 8 m__law_asked
theorem ok__law_asked (T : Top G mg base a fd cc pp) : FnU P w mg base G 2 (a 11) (fd 11) ps__law_asked U__law_asked := by
  refine fnCU_ok (N := N__law_asked) (g := m__law_asked) T.d__law_asked T.cc__law_asked sc__law_asked fun B W X _ _ _ _ _ hr tk A outer s H E hX hBn => ?_
  subst hX
  have hB : ∀ i, 0 < i → ∀ b, B.arg ≠ some (i, b) := fun i hi b z => by
    obtain ⟨_, hBn⟩ := hBn
    rw [hBn] at z; cases z; exact absurd hi (Nat.lt_irrefl 0)
  exact (drs_cons (dr_of (ds_set 2 sc__law_asked.nd (de_callU 0 (ok__law_draw T) rfl hr (by decide) T.g__law_draw T.d__law_draw.kp (bd__law_draw T) tk (da_cons de_int da_nil))))
    (drs_cons (dr_of (ds_asg (de_tup (da_cons (de_callU 0 (ok__law_draw T) rfl hr (by decide) T.g__law_draw T.d__law_draw.kp (bd__law_draw T) tk (da_cons de_int da_nil)) (da_cons (de_op (od_add rfl) de_int (de_callU 0 (ok__law_draw T) rfl hr (by decide) T.g__law_draw T.d__law_draw.kp (bd__law_draw T) tk (da_cons (de_ix rfl (de_lst (da_cons de_int (da_cons de_int (da_cons de_int da_nil)))) (de_callU 0 (ok__law_draw T) rfl hr (by decide) T.g__law_draw T.d__law_draw.kp (bd__law_draw T) tk (da_cons de_int da_nil))) da_nil))) da_nil))) (dg_tup rfl rfl (dgs_cons (dg_name 3 sc__law_asked.nd) (dgs_cons (dg_name 4 sc__law_asked.nd) dgs_nil)))))
    (drs_cons (dr_of (ds_set 5 sc__law_asked.nd (de_callU 0 (ok__law_draw T) rfl hr (by decide) T.g__law_draw T.d__law_draw.kp (bd__law_draw T) tk (da_cons (de_var 4) da_nil))))
    (drs_cons (dr_of (ds_asg (de_tup (da_cons (de_ix rfl (de_var 1) (de_callU 0 (ok__law_draw T) rfl hr (by decide) T.g__law_draw T.d__law_draw.kp (bd__law_draw T) tk (da_cons (de_B (cd_len rfl) T.b_len (da_cons (de_var 1) da_nil)) da_nil))) (da_cons (de_ix rfl (de_var 1) (de_callU 0 (ok__law_draw T) rfl hr (by decide) T.g__law_draw T.d__law_draw.kp (bd__law_draw T) tk (da_cons (de_B (cd_len rfl) T.b_len (da_cons (de_var 1) da_nil)) da_nil))) da_nil))) (dg_tup rfl rfl (dgs_cons (dg_name 6 sc__law_asked.nd) (dgs_cons (dg_name 7 sc__law_asked.nd) dgs_nil)))))
    (drs_cons (dr_if (dt_cmp (od_eq rfl (units_of' hr)) (de_var 2) de_int) (drs_cons (dr_retLam 0 [4, 5, 3] (t := ct_0) T.tb__law_asked rfl (by rw [T.hct]; rfl) rfl T.hm__law_asked T.hu__law_asked (ndef_free lf_0) (ndef_fr lf_0) lq_0 lnd_0 rfl)
    drs_nil) drs_nil)
    (drs_cons (dr_if (dt_cmp (od_eq rfl (units_of' hr)) (de_var 2) de_int) (drs_cons (dr_retLam 1 [6, 3] (t := ct_1) T.tb__law_asked rfl (by rw [T.hct]; rfl) rfl T.hm__law_asked T.hu__law_asked (ndef_free lf_1) (ndef_fr lf_1) lq_1 lnd_1 rfl)
    drs_nil) drs_nil)
    (drs_cons (dr_if (dt_cmp (od_eq rfl (units_of' hr)) (de_var 2) de_int) (drs_cons (dr_retLam 2 [6] (t := ct_2) T.tb__law_asked rfl (by rw [T.hct]; rfl) rfl T.hm__law_asked T.hu__law_asked (ndef_free lf_2) (ndef_fr lf_2) lq_2 lnd_2 rfl)
    drs_nil) drs_nil)
    (drs_cons (dr_if (dt_cmp (od_eq rfl (units_of' hr)) (de_var 2) de_int) (drs_cons (dr_retLam 3 [6, 7] (t := ct_3) T.tb__law_asked rfl (by rw [T.hct]; rfl) rfl T.hm__law_asked T.hu__law_asked (ndef_free lf_3) (ndef_fr lf_3) lq_3 lnd_3 rfl)
    drs_nil) drs_nil)
    (drs_cons (dr_if (dt_cmp (od_eq rfl (units_of' hr)) (de_var 2) de_int) (drs_cons (dr_retLam 4 [4] (t := ct_4) T.tb__law_asked rfl (by rw [T.hct]; rfl) rfl T.hm__law_asked T.hu__law_asked (ndef_free lf_4) (ndef_fr lf_4) lq_4 lnd_4 rfl)
    drs_nil) drs_nil)
    (drs_cons (dr_if (dt_cmp (od_eq rfl (units_of' hr)) (de_var 2) de_int) (drs_cons (dr_retLam 5 [4, 5] (t := ct_5) T.tb__law_asked rfl (by rw [T.hct]; rfl) rfl T.hm__law_asked T.hu__law_asked (ndef_free lf_5) (ndef_fr lf_5) lq_5 lnd_5 rfl)
    drs_nil) drs_nil)
    (drs_cons (dr_if (dt_cmp (od_eq rfl (units_of' hr)) (de_var 2) de_int) (drs_cons (dr_retLam 6 [] (t := ct_6) T.tb__law_asked rfl (by rw [T.hct]; rfl) rfl T.hm__law_asked T.hu__law_asked (ndef_free lf_6) (ndef_fr lf_6) lq_6 lnd_6 rfl)
    drs_nil) drs_nil)
    (drs_cons (dr_retLam 7 [4] (t := ct_7) T.tb__law_asked rfl (by rw [T.hct]; rfl) rfl T.hm__law_asked T.hu__law_asked (ndef_free lf_7) (ndef_fr lf_7) lq_7 lnd_7 rfl)
    drs_nil))))))))))))
theorem bd__law_asked (T : Top G mg base a fd cc pp) : Binds G.K (fd 11) ps__law_asked [] := T.d__law_asked.bindsN fun _ _ _ _ _ _ us hl => match us, hl with | [_, _], _ => rfl
def m__law_due : SM :=
    sSeq (sAsg (dComp [3] (iOf oSeq (dVar 1)) (gSet 3) (dTest (dCallClo 1 0 mc (dCons (dVar 3) (dNil)))) (dVar 3)) (gSet 2))
    (sRet (dIf (dTest (dOp dNe (dVar 2) (dLst (dNil)))) (dOp dIx (dVar 2) (dC (.int 0))) (dC .non)))
def F__law_due : List D → FO := mRun 4 m__law_due
theorem ok__law_due (T : Top G mg base a fd cc pp) : FnD P w mg base G 2 (a 12) (fd 12) ps__law_due F__law_due := by
  refine fn_ok (N := N__law_due) (g := m__law_due) T.d__law_due sc__law_due fun B W X _ _ _ _ _ hr tk cdv A outer s H E hX hBn => ?_
  subst hX
  have hB : ∀ i, 0 < i → ∀ b, B.arg ≠ some (i, b) := fun i _ b z => by rw [hBn] at z; cases z
  exact (ds_cons (ds_setComp 2 (own := [("_law_triple", 3)]) rfl sc__law_due.nd (di_any rfl (de_var 1)) (by kernel_rfl) (fun _ _ _ _ _ _ => (dg_name 3 sc__law_due.nd)) (fun _ _ _ _ _ _ => (dts_one (dt_val (de_callClo 0 (hC T) rfl hr (by decide) (da_cons (de_var 3) da_nil))))) (fun _ _ _ _ _ _ => (de_var 3)))
    (ds_one (ds_ret (de_if (dt_cmp (od_ne rfl (units_of' hr)) (de_var 2) (de_lst da_nil)) (de_ix rfl (de_var 2) de_int) de_non))))
theorem bd__law_due (T : Top G mg base a fd cc pp) : Binds G.K (fd 12) ps__law_due [] := T.d__law_due.bindsN fun _ _ _ _ _ _ us hl => match us, hl with | [_, _], _ => rfl
def m_law : SM :=
    sSeq (sFor (iArgs oRng1 (dCons (dB bMax (dCons (dC (.int 1)) (dCons (dB bMin (dCons (dC (.int 4)) (dCons (dB bLen (dCons (dVar 0) (dNil))) (dNil)))) (dNil)))) (dNil))) (gSet 1) (sSeq (sSetC 2 (arity 2 F__law_urn) (dCons (dVar 0) (dCons (dVar 1) (dNil))))
    (sSeq (sAsg (dOp dAdd (dC (.int 1)) (dCallU 2 (arityU 2 U__law_draw) (dCons (dOp dIx (dLst (dCons (dC (.int 2)) (dCons (dC (.int 31)) (dCons (dC (.int 200)) (dNil))))) (dCallU 2 (arityU 2 U__law_draw) (dCons (dC (.int 3)) (dNil)))) (dNil)))) (gSet 3))
    (sSeq (sAsg (dCall (arity 1 F__law_order) (dCons (dC (.int 200)) (dNil))) (gSet 4))
    (sSeq (sPar [5, 6] (dCons (dCallU 2 (arityU 2 U__law_asked) (dCons (dVar 4) (dNil))) (dCons (dCallU 2 (arityU 2 U__law_asked) (dCons (dSl (dVar 4) (dNoPart) (dPart (dC (.int 31)))) (dNil))) (dNil))))
    (sSeq (sAsg (dCallD [] (arity 2 F_first_triple) (dCons (dVar 5) (dCons (dVar 3) (dNil)))) (gSet 7))
    (sSeq (sIf (dOr (dTest (dOp dNe (dVar 7) (dCall (arity 2 F__law_due) (dCons (dVar 5) (dCons (dSl (dVar 4) (dNoPart) (dPart (dVar 3))) (dNil)))))) (dNot (dOr (dIsT (dVar 7) false) (dTest (dB bIsi (dCons (dVar 7) (dCons (dC (.ty "tuple")) (dNil)))))))) (sRet (dC (.bl false))) (sNx))
    (sSeq (sIf (dOr (dTest (dOp dNe (dCallD [(.int 31)] (arity 2 F_first_triple) (dCons (dVar 6) (dNil))) (dCall (arity 2 F__law_due) (dCons (dVar 6) (dCons (dSl (dVar 4) (dNoPart) (dPart (dC (.int 31)))) (dNil)))))) (dTest (dOp dNe (dCallK 1 1 2 (fun xs zs => xs ++ zs) F_first_triple (dCons (dVar 5) (dNil)) (dCons (dVar 3) (dNil))) (dVar 7)))) (sRet (dC (.bl false))) (sNx))
    (sSeq (sIf (dTest (dOp dNe (dCallK0 2 2 (fun _ zs => zs.reverse) F_first_triple (dCons (dC (.int 200)) (dCons (dVar 6) (dNil)))) (dCall (arity 2 F__law_due) (dCons (dVar 6) (dCons (dVar 4) (dNil)))))) (sRet (dC (.bl false))) (sNx))
    (sIf (dTest (dOp dNe (dCallD [] (arity 2 F_first_triple) (dCons (dVar 5) (dCons (dC (.int 1)) (dNil)))) (dCall (arity 2 F__law_due) (dCons (dVar 5) (dCons (dSl (dVar 4) (dNoPart) (dPart (dC (.int 1)))) (dNil)))))) (sRet (dC (.bl false))) (sNx)))))))))))
    (sRet (dOp dEq (dCallD [(.int 31)] (arity 2 F_first_triple) (dCons (dClo0 8) (dNil))) (dTup (dCons (dC (.int 1)) (dCons (dC (.int 1)) (dCons (dC (.int 1)) (dNil)))))))
def F_law : List D → FO := mRun 8 m_law
theorem ok_law (T : Top G mg base a fd cc pp) : FnD P w mg base G 6 (a 13) (fd 13) ps_law F_law := by
  obtain ⟨ds_first_triple_2, hv_first_triple_2, hb_first_triple_2⟩ := bd_first_triple_2 T
  obtain ⟨ds_first_triple_1, hv_first_triple_1, hb_first_triple_1⟩ := bd_first_triple_1 T
  obtain ⟨_, hk_first_triple_1_most⟩ := kb_first_triple_1_most T
  obtain ⟨_, hk_first_triple_0_most_asked⟩ := kb_first_triple_0_most_asked T
  refine fn_okC (N := N_law) (g := m_law) T.d_law T.cc_law sc_law fun B W X _ _ _ _ _ hr tk A outer s H E hX hBn => ?_
  subst hX
  have hB : ∀ i, 0 < i → ∀ b, B.arg ≠ some (i, b) := fun i _ b z => by rw [hBn] at z; cases z
  exact (ds_cons (ds_for (passes_of rfl) rfl (di_range1 T.b_range (da_cons (de_B (cd_max rfl) T.b_max (da_cons de_int (da_cons (de_B (cd_min rfl) T.b_min (da_cons de_int (da_cons (de_B (cd_len rfl) T.b_len (da_cons (de_var 0) da_nil)) da_nil))) da_nil))) da_nil)) (dg_name 1 sc_law.nd) (ds_cons (ds_setC 2 (hB 2 (by decide)) sc_law.nd (ok__law_urn T) rfl hr (by decide) T.g__law_urn T.d__law_urn.kp (bd__law_urn T) tk (da_cons (de_var 0) (da_cons (de_var 1) da_nil)))
    (ds_cons (ds_set 3 sc_law.nd (de_op (od_add rfl) de_int (de_callU 2 (ok__law_draw T) rfl hr (by decide) T.g__law_draw T.d__law_draw.kp (bd__law_draw T) tk (da_cons (de_ix rfl (de_lst (da_cons de_int (da_cons de_int (da_cons de_int da_nil)))) (de_callU 2 (ok__law_draw T) rfl hr (by decide) T.g__law_draw T.d__law_draw.kp (bd__law_draw T) tk (da_cons de_int da_nil))) da_nil))))
    (ds_cons (ds_set 4 sc_law.nd (de_call (ok__law_order T) rfl hr (by decide) T.g__law_order T.d__law_order.kp (bd__law_order T) tk (da_cons de_int da_nil)))
    (ds_cons (ds_par2 5 6 rfl sc_law.nd (da_cons (de_callU 2 (ok__law_asked T) rfl hr (by decide) T.g__law_asked T.d__law_asked.kp (bd__law_asked T) tk (da_cons (de_var 4) da_nil)) (da_cons (de_callU 2 (ok__law_asked T) rfl hr (by decide) T.g__law_asked T.d__law_asked.kp (bd__law_asked T) tk (da_cons (de_slice rfl (de_var 4) do_none (do_some de_int)) da_nil)) da_nil)))
    (ds_cons (ds_set 7 sc_law.nd (de_callD (ok_first_triple T) rfl hr (by decide) T.g_first_triple T.d_first_triple.kp hb_first_triple_2 hv_first_triple_2 (fun F => .nil) tk (da_cons (de_var 5) (da_cons (de_var 3) da_nil))))
    (ds_cons (ds_if (dw_pt (dw_or (dt_cmp (od_ne rfl (units_of' hr)) (de_var 7) (de_call (ok__law_due T) rfl hr (by decide) T.g__law_due T.d__law_due.kp (bd__law_due T) tk (da_cons (de_var 5) (da_cons (de_slice rfl (de_var 4) do_none (do_some (de_var 3))) da_nil)))) (dw_or1 (dt_not (dw_pt (dw_or (dt_isN (de_var 7)) (dw_or1 (dt_val (de_B (cd_isi rfl) T.b_isinstance (da_cons (de_var 7) (da_cons (de_bltT T.b_tuple) da_nil))))))))))) (ds_one (ds_ret de_bl)) ds_nil)
    (ds_cons (ds_if (dw_pt (dw_or (dt_cmp (od_ne rfl (units_of' hr)) (de_callD (ok_first_triple T) rfl hr (by decide) T.g_first_triple T.d_first_triple.kp hb_first_triple_1 hv_first_triple_1 (fun F => .cons .int (.nil)) tk (da_cons (de_var 6) da_nil)) (de_call (ok__law_due T) rfl hr (by decide) T.g__law_due T.d__law_due.kp (bd__law_due T) tk (da_cons (de_var 6) (da_cons (de_slice rfl (de_var 4) do_none (do_some de_int)) da_nil)))) (dw_or1 (dt_cmp (od_ne rfl (units_of' hr)) (de_callK (fun xs zs => xs ++ zs) (ok_first_triple T) rfl hr (by decide) T.g_first_triple T.d_first_triple.kp hk_first_triple_1_most (fun F xs vs zs ws p q => p.append q) tk (da_cons (de_var 5) da_nil) (dk_cons (de_var 3) dk_nil)) (de_var 7))))) (ds_one (ds_ret de_bl)) ds_nil)
    (ds_cons (ds_if (dt_cmp (od_ne rfl (units_of' hr)) (de_callK0 (fun _ zs => zs.reverse) (ok_first_triple T) rfl hr (by decide) T.g_first_triple T.d_first_triple.kp hk_first_triple_0_most_asked (fun F xs vs zs ws p q => q.reverse) tk (dk_cons de_int (dk_cons (de_var 6) dk_nil))) (de_call (ok__law_due T) rfl hr (by decide) T.g__law_due T.d__law_due.kp (bd__law_due T) tk (da_cons (de_var 6) (da_cons (de_var 4) da_nil)))) (ds_one (ds_ret de_bl)) ds_nil)
    (ds_one (ds_if (dt_cmp (od_ne rfl (units_of' hr)) (de_callD (ok_first_triple T) rfl hr (by decide) T.g_first_triple T.d_first_triple.kp hb_first_triple_2 hv_first_triple_2 (fun F => .nil) tk (da_cons (de_var 5) (da_cons de_int da_nil))) (de_call (ok__law_due T) rfl hr (by decide) T.g__law_due T.d__law_due.kp (bd__law_due T) tk (da_cons (de_var 5) (da_cons (de_slice rfl (de_var 4) do_none (do_some de_int)) da_nil)))) (ds_one (ds_ret de_bl)) ds_nil)))))))))))
    (ds_one (ds_ret (de_cmp (od_eq rfl (units_of' hr)) (de_callD (ok_first_triple T) rfl hr (by decide) T.g_first_triple T.d_first_triple.kp hb_first_triple_1 hv_first_triple_1 (fun F => .cons .int (.nil)) tk (da_cons (de_clo0 8 (t := ct_8) (T.tb_law) rfl (by rw [T.hct]; rfl) rfl T.hm_law T.hu_law rfl (by kernel_rfl)) da_nil)) (de_tup (da_cons de_int (da_cons de_int (da_cons de_int da_nil))))))))
theorem bd_law (T : Top G mg base a fd cc pp) : Binds G.K (fd 13) ps_law [] := T.d_law.bindsN fun _ _ _ _ _ _ us hl => match us, hl with | [_], _ => rfl
end
end W


namespace W
open PySem PySem.Spec PyProof.Rows L2 NdefX LamX DL
def UrnOk (n : Nat) (us : List D) : Prop := ∃ g r s : Int, us = [.int g, .int r, .int s] ∧ 0 ≤ r ∧ r < 2 ^ 80 ∧ 0 ≤ s ∧ s ≤ n
theorem draw_big {g r s w : Int} (hg : 0 < g) (hw : 0 < w) (hw2 : w.natAbs.log2 < 9000) : U__law_draw [.int g, .int r, .int s] [.int w] = .ok (.int (g % w)) [.int (g / w), .int r, .int s] := by
  unfold U__law_draw m__law_draw
  simp [uRun, uInit, mRun, mInit, lRun, sSeq, sIf, sAsg, sRet, sRt, sNx, sRetN, sRetL, sExpr, sPar, setAll, SM.of, EM.bind, EM.ret, EM.lift, dVar, dC, dOp, dTest, dNot, dAnd, dOr, dAndV, dOrV, dNotV, dIsT, dIs, DL.isNon, dIf, dIxO, dIxOwn, dGt, dLt, dGe, dLe, dSub, dTup, dLst, dCons, dNil, gSet, sSetIx, hasOwn, onOwn, uEnd, dB, bLen, bAbs, bMax, bMin, dCall, dCallU, arity, arityU, FO.em, noRt, takeD, sRetLam, gTupM, gAll, dIx, atI, ixN, dMod, dFdiv, dMul, dAdd, dPow, hg, hw, hw2]
theorem log_le {x : Int} {n : Nat} (h : x.natAbs < 2 ^ n) (hn : 0 < n) : x.natAbs.log2 < n := by
  by_cases h0 : x.natAbs = 0
  · rw [h0]; simpa using hn
  · exact (Nat.log2_lt h0).mpr h
theorem mul_ok {i j : Int} (m n : Nat) (hi : i.natAbs < 2 ^ m) (hj : j.natAbs < 2 ^ n) (hm : 0 < m := by decide) (hn : 0 < n := by decide) (h : m + n ≤ 1000000 := by decide) : dMul (.int i) (.int j) = some (.int (i * j)) := by
  have h1 := log_le hi hm
  have h2 := log_le hj hn
  exact if_pos (by omega)
theorem mod_ok {i j : Int} (h : 0 < j) : dMod (.int i) (.int j) = some (.int (i % j)) := if_pos h
theorem div_ok {i j : Int} (h : 0 < j) (h2 : j.natAbs.log2 < 9000) : dFdiv (.int i) (.int j) = some (.int (i / j)) := if_pos ⟨h, h2⟩
theorem add_ok {i j : Int} : dAdd (.int i) (.int j) = some (.int (i + j)) := rfl
theorem cube_ok {i : Int} (m : Nat) (hi : i.natAbs < 2 ^ m) (hm : 0 < m := by decide) (hm2 : m ≤ 1000000 := by decide) : dPow (.int i) (.int 3) = some (.int (i ^ 3)) := by
  have h1 := log_le hi hm
  have h2 : Builtin.Int.intBits i ≤ i.natAbs.log2 + 1 := by
    unfold Builtin.Int.intBits
    split <;> omega
  exact if_pos (c := (0 : Int) ≤ 3 ∧ (Builtin.Int.intBits i : Int) * 3 ≤ 134217728) ⟨by decide, by omega⟩
theorem prime_at (i : Int) (h0 : 0 ≤ i) (h7 : i < 7) : ∃ p : Int, dIx (.tup [.int 2147483647, .int 2147483629, .int 2147483587, .int 2147483579, .int 2147483563, .int 2147483549, .int 2147483543]) (.int i) = some (.int p) ∧ 2147483543 ≤ p ∧ p ≤ 2147483647 := by
  have h : i = 0 ∨ i = 1 ∨ i = 2 ∨ i = 3 ∨ i = 4 ∨ i = 5 ∨ i = 6 := by omega
  rcases h with rfl | rfl | rfl | rfl | rfl | rfl | rfl <;> exact ⟨_, rfl, by decide, by decide⟩
theorem draw_small {g r s w : Int} (hg : ¬ 0 < g) (hw : 0 < w) (hr : 0 ≤ r) (hr2 : r < 2 ^ 80) (hs : 0 ≤ s) (hs2 : s < 2 ^ 60) : ∃ d : Int, U__law_draw [.int g, .int r, .int s] [.int w] = .ok (.int d) [.int g, .int r, .int (s + 1)] ∧ 0 ≤ d ∧ d < w := by
  obtain ⟨p1, hp1, l1, u1⟩ := prime_at ((s + 1) % 7) (by omega) (by omega)
  obtain ⟨p2, hp2, l2, u2⟩ := prime_at ((s + 1 + 3) % 7) (by omega) (by omega)
  have e1 : dMul (.int 2) (.int (s + 1)) = some (.int (2 * (s + 1))) := mul_ok 2 61 (by decide) (by omega)
  have e2 : dMul (.int r) (.int (2 * (s + 1) + 1)) = some (.int (r * (2 * (s + 1) + 1))) := mul_ok 80 63 (by omega) (by omega)
  have e3 : dMul (.int 6007) (.int (s + 1)) = some (.int (6007 * (s + 1))) := mul_ok 13 61 (by decide) (by omega)
  have e4 : dMul (.int (6007 * (s + 1))) (.int (s + 1)) = some (.int (6007 * (s + 1) * (s + 1))) := mul_ok 74 61 (by omega) (by omega)
  have b1 : (r * (2 * (s + 1) + 1)).natAbs ≤ 2 ^ 80 * 2 ^ 63 := by
    rw [Int.natAbs_mul]; exact Nat.mul_le_mul (by omega) (by omega)
  have b2 : (6007 * (s + 1) * (s + 1)).natAbs ≤ 2 ^ 74 * 2 ^ 61 := by
    rw [Int.natAbs_mul]; exact Nat.mul_le_mul (by omega) (by omega)
  have e5 : dPow (.int (r * (2 * (s + 1) + 1) + 6007 * (s + 1) * (s + 1) + 53)) (.int 3) = some (.int ((r * (2 * (s + 1) + 1) + 6007 * (s + 1) * (s + 1) + 53) ^ 3)) := cube_ok 150 (by omega)
  generalize hb : r * (2 * (s + 1) + 1) + 6007 * (s + 1) * (s + 1) + 53 = b at e5
  have e8 : dMod (.int (b ^ 3)) (.int p1) = some (.int (b ^ 3 % p1)) := mod_ok (by omega)
  have hx1 : 0 ≤ b ^ 3 % p1 := Int.emod_nonneg _ (by omega)
  have hx2 : b ^ 3 % p1 < p1 := Int.emod_lt_of_pos _ (by omega)
  generalize hx : b ^ 3 % p1 = x at e8 hx1 hx2
  have e9 : dFdiv (.int x) (.int 8191) = some (.int (x / 8191)) := div_ok (by decide) (by decide)
  have e10 : dMul (.int x) (.int (x / 8191 + (s + 1))) = some (.int (x * (x / 8191 + (s + 1)))) := mul_ok 40 63 (by omega) (by omega)
  refine ⟨x * (x / 8191 + (s + 1)) % p2 / 16 % w, ?_, Int.emod_nonneg _ (by omega), Int.emod_lt_of_pos _ hw⟩
  have e13 : dMod (.int (x * (x / 8191 + (s + 1)))) (.int p2) = some (.int (x * (x / 8191 + (s + 1)) % p2)) := mod_ok (by omega)
  have e14 : dFdiv (.int (x * (x / 8191 + (s + 1)) % p2)) (.int 16) = some (.int (x * (x / 8191 + (s + 1)) % p2 / 16)) := div_ok (by decide) (by decide)
  have e15 : dMod (.int (x * (x / 8191 + (s + 1)) % p2 / 16)) (.int w) = some (.int (x * (x / 8191 + (s + 1)) % p2 / 16 % w)) := mod_ok hw
  have f0 : dIx (.lst [.int g, .int r, .int s]) (.int 0) = some (.int g) := rfl
  unfold U__law_draw m__law_draw
  have a1 : ∀ (x y z : D), atI [x, y, z] 0 = some x := fun _ _ _ => rfl
  have a2 : ∀ (x y z : D), atI [x, y, z] 1 = some y := fun _ _ _ => rfl
  have a3 : ∀ (x y z : D), atI [x, y, z] 2 = some z := fun _ _ _ => rfl
  have n3 : ixN 3 2 = some 2 := rfl
  have m1 : dMod (.int (s + 1)) (.int 7) = some (.int ((s + 1) % 7)) := mod_ok (by decide)
  have m2 : dMod (.int (s + 1 + 3)) (.int 7) = some (.int ((s + 1 + 3) % 7)) := mod_ok (by decide)
  simp only [uRun, uInit, mRun, mInit, lRun, sSeq, sIf, sAsg, sRet, sRt, sNx, sRetN, sRetL, sExpr, sPar, setAll, SM.of, EM.bind, EM.ret, EM.lift, dVar, dC, dOp, dTest, dNot, dAnd, dOr, dAndV, dOrV, dNotV, dIsT, dIs, DL.isNon, dIf, dIxO, dIxOwn, dGt, dLt, dGe, dLe, dSub, dTup, dLst, dCons, dNil, gSet, sSetIx, hasOwn, onOwn, uEnd, dB, bLen, bAbs, bMax, bMin, dCall, dCallU, arity, arityU, FO.em, noRt, takeD, sRetLam, gTupM, gAll, uRun, a1, a2, a3, n3, add_ok, e1, e2, e3, e4, hb, e5, m1, m2, hp1, hp2, e8, hx, e9, e10, e13, e14, e15, hg, decide_false, Bool.false_eq_true, if_false, List.map, List.length_cons, List.length_nil, List.replicate, List.cons_append, List.nil_append, List.getElem?_cons_zero, List.getElem?_cons_succ, List.set_cons_zero, List.set_cons_succ, List.set, Option.map_some, Nat.reduceAdd, Nat.reduceSub, Nat.reduceLeDiff, if_true, reduceIte]
/-- a draw: any number below w -/
theorem draw_ok {n : Nat} {us : List D} {w : Int} (h : UrnOk n us) (hn : n < 2 ^ 60) (hw : 0 < w) (hw2 : w < 2 ^ 60) : ∃ (d : Int) (us' : List D), U__law_draw us [.int w] = .ok (.int d) us' ∧ 0 ≤ d ∧ d < w ∧ UrnOk (n + 1) us' := by
  obtain ⟨g, r, s, rfl, hr, hr2, hs, hs2⟩ := h
  by_cases hg : 0 < g
  · exact ⟨_, _, draw_big hg hw (Nat.lt_trans (log_le (n := 60) (by omega) (by decide)) (by decide)), Int.emod_nonneg _ (by omega), Int.emod_lt_of_pos _ hw, _, _, _, rfl, hr, hr2, hs, by omega⟩
  · obtain ⟨d, e, h1, h2⟩ := draw_small hg hw hr hr2 hs (by omega)
    exact ⟨d, _, e, h1, h2, _, _, _, rfl, hr, hr2, by omega, by omega⟩
/-- a fresh urn -/
theorem urn_ok {ns : List Int} {k : Nat} (hk : k < 64) (hl : ns.length ≤ 63) : ∃ us, F__law_urn [.lst (ns.map .int), .int k] = .lst us ∧ UrnOk 0 us := by
  have r1 : dMul (.int 97) (.int (k : Int)) = some (.int (97 * (k : Int))) := mul_ok 7 7 (by decide) (by omega)
  have r2 : dMul (.int (97 * (k : Int))) (.int (k : Int)) = some (.int (97 * (k : Int) * (k : Int))) := mul_ok 14 7 (by omega) (by omega)
  have r3 : dMul (.int 31) (.int (k : Int)) = some (.int (31 * (k : Int))) := mul_ok 7 7 (by decide) (by omega)
  have p1 : dPow (.int 10) (.int 18) = some (.int 1000000000000000000) := rfl
  have sq : 0 ≤ 97 * (k : Int) * (k : Int) ∧ 97 * (k : Int) * (k : Int) ≤ 97 * 64 * 64 := by
    constructor
    · exact Int.mul_nonneg (by omega) (by omega)
    · exact Int.mul_le_mul (by omega) (by omega) (by omega) (by omega)
  have fin : ∀ c : Int, ∃ us, (mRun 4 (sSeq (sAsg (dB bAbs (dCons (dVar 2) (dNil))) (gSet 3))
      (sSeq (sIf (dTest (dOp dLt (dVar 3) (dOp dPow (dC (.int 10)) (dC (.int 18))))) (sAsg (dC (.int 0)) (gSet 3)) (sNx))
      (sRetL (dCons (dVar 3) (dCons (dOp dAdd (dOp dAdd (dOp dAdd (dOp dMod (dVar 2) (dC (.int 1000000000000000003))) (dOp dMul (dOp dMul (dC (.int 97)) (dVar 1)) (dVar 1))) (dOp dMul (dC (.int 31)) (dVar 1))) (dC (.int 1))) (dCons (dC (.int 0)) (dNil))))))) [.lst (ns.map .int), .int k, .int c]) = .lst us ∧ UrnOk 0 us := fun c => by
    have m1 : dMod (.int c) (.int 1000000000000000003) = some (.int (c % 1000000000000000003)) := mod_ok (by decide)
    have c1 := Int.emod_nonneg c (b := 1000000000000000003) (by decide)
    have c2 := Int.emod_lt_of_pos c (b := 1000000000000000003) (by decide)
    by_cases hc : (if c < 0 then -c else c) < 1000000000000000000
    · refine ⟨_, ?_, 0, c % 1000000000000000003 + 97 * (k : Int) * (k : Int) + 31 * (k : Int) + 1, 0, rfl, by omega, by omega, by omega, by omega⟩
      simp only [uRun, uInit, mRun, mInit, lRun, sSeq, sIf, sAsg, sRet, sRt, sNx, sRetN, sRetL, sExpr, sPar, setAll, SM.of, EM.bind, EM.ret, EM.lift, dVar, dC, dOp, dTest, dNot, dAnd, dOr, dAndV, dOrV, dNotV, dIsT, dIs, DL.isNon, dIf, dIxO, dIxOwn, dGt, dLt, dGe, dLe, dSub, dTup, dLst, dCons, dNil, gSet, sSetIx, hasOwn, onOwn, uEnd, dB, bLen, bAbs, bMax, bMin, dCall, dCallU, arity, arityU, FO.em, noRt, takeD, sRetLam, gTupM, gAll, r1, r2, r3, p1, m1, add_ok, hc, decide_true, if_true, List.map, List.length_cons, List.length_nil, List.replicate, List.cons_append, List.nil_append, List.getElem?_cons_zero, List.getElem?_cons_succ, List.set_cons_zero, List.set_cons_succ, List.set, Option.map_some, Nat.reduceAdd, Nat.reduceSub, Nat.reduceLeDiff, reduceIte]
    · refine ⟨_, ?_, (if c < 0 then -c else c), c % 1000000000000000003 + 97 * (k : Int) * (k : Int) + 31 * (k : Int) + 1, 0, rfl, by omega, by omega, by omega, by omega⟩
      simp only [uRun, uInit, mRun, mInit, lRun, sSeq, sIf, sAsg, sRet, sRt, sNx, sRetN, sRetL, sExpr, sPar, setAll, SM.of, EM.bind, EM.ret, EM.lift, dVar, dC, dOp, dTest, dNot, dAnd, dOr, dAndV, dOrV, dNotV, dIsT, dIs, DL.isNon, dIf, dIxO, dIxOwn, dGt, dLt, dGe, dLe, dSub, dTup, dLst, dCons, dNil, gSet, sSetIx, hasOwn, onOwn, uEnd, dB, bLen, bAbs, bMax, bMin, dCall, dCallU, arity, arityU, FO.em, noRt, takeD, sRetLam, gTupM, gAll, r1, r2, r3, p1, m1, add_ok, hc, decide_false, Bool.false_eq_true, if_false, List.map, List.length_cons, List.length_nil, List.replicate, List.cons_append, List.nil_append, List.getElem?_cons_zero, List.getElem?_cons_succ, List.set_cons_zero, List.set_cons_succ, List.set, Option.map_some, Nat.reduceAdd, Nat.reduceSub, Nat.reduceLeDiff, reduceIte]
  by_cases h : k < ns.length
  · obtain ⟨us, e, u⟩ := fin ns[k]
    refine ⟨us, ?_, u⟩
    rw [← e]
    have hx : dIx (.lst (ns.map .int)) (.int k) = some (.int ns[k]) := by
      show atI (ns.map D.int) (k : Int) = _
      unfold atI ixN
      rw [if_pos (by omega), if_pos (by rw [List.length_map]; omega)]
      simp [h]
    have hlt : (k : Int) < (ns.length : Int) := by omega
    unfold F__law_urn m__law_urn
    simp only [uRun, uInit, mRun, mInit, lRun, sSeq, sIf, sAsg, sRet, sRt, sNx, sRetN, sRetL, sExpr, sPar, setAll, SM.of, EM.bind, EM.ret, EM.lift, dVar, dC, dOp, dTest, dNot, dAnd, dOr, dAndV, dOrV, dNotV, dIsT, dIs, DL.isNon, dIf, dIxO, dIxOwn, dGt, dLt, dGe, dLe, dSub, dTup, dLst, dCons, dNil, gSet, sSetIx, hasOwn, onOwn, uEnd, dB, bLen, bAbs, bMax, bMin, dCall, dCallU, arity, arityU, FO.em, noRt, takeD, sRetLam, gTupM, gAll, hx, hlt, decide_true, if_true, List.map, List.length_map, List.length_cons, List.length_nil, List.replicate, List.cons_append, List.nil_append, List.getElem?_cons_zero, List.getElem?_cons_succ, List.set_cons_zero, List.set_cons_succ, List.set, Option.map_some, Nat.reduceAdd, Nat.reduceSub, Nat.reduceLeDiff, reduceIte]
  · obtain ⟨us, e, u⟩ := fin 0
    refine ⟨us, ?_, u⟩
    rw [← e]
    have hlt : ¬ (k : Int) < (ns.length : Int) := by omega
    unfold F__law_urn m__law_urn
    simp only [uRun, uInit, mRun, mInit, lRun, sSeq, sIf, sAsg, sRet, sRt, sNx, sRetN, sRetL, sExpr, sPar, setAll, SM.of, EM.bind, EM.ret, EM.lift, dVar, dC, dOp, dTest, dNot, dAnd, dOr, dAndV, dOrV, dNotV, dIsT, dIs, DL.isNon, dIf, dIxO, dIxOwn, dGt, dLt, dGe, dLe, dSub, dTup, dLst, dCons, dNil, gSet, sSetIx, hasOwn, onOwn, uEnd, dB, bLen, bAbs, bMax, bMin, dCall, dCallU, arity, arityU, FO.em, noRt, takeD, sRetLam, gTupM, gAll, hlt, decide_false, Bool.false_eq_true, if_false, List.map, List.length_map, List.length_cons, List.length_nil, List.replicate, List.cons_append, List.nil_append, List.getElem?_cons_zero, List.getElem?_cons_succ, List.set_cons_zero, List.set_cons_succ, List.set, Option.map_some, Nat.reduceAdd, Nat.reduceSub, Nat.reduceLeDiff, reduceIte]
end W

namespace W
open PySem PySem.Spec PyProof.Rows L2 NdefX LamX DL
def isT : D → Bool
  | .tup [.int a, .int b, .int c] => decide (0 < a) && decide (0 < b) && decide (0 < c) && decide (c.natAbs.log2 < 1900)
  | _ => false
theorem isT_inv {t : D} (h : isT t = true) : ∃ a b c : Int, t = .tup [.int a, .int b, .int c] ∧ 0 < a ∧ 0 < b ∧ 0 < c ∧ c.natAbs.log2 < 1900 := by
  unfold isT at h
  split at h
  · simp only [Bool.and_eq_true, decide_eq_true_eq] at h
    exact ⟨_, _, _, rfl, h.1.1.1, h.1.1.2, h.1.2, h.2⟩
  · cases h
theorem isT_ok {t : D} (h : isT t = true) (n : Nat) : okD (n + 1) t = true := by
  obtain ⟨a, b, c, rfl, _⟩ := isT_inv h
  simp [okD, okDs]
theorem isT_beq {t : D} (h : isT t = true) : beq t t = true := by
  obtain ⟨a, b, c, rfl, _⟩ := isT_inv h
  simp [beq, beqs]
theorem isT_plain {t : D} (h : isT t = true) : D.plains [t] = true := by
  obtain ⟨a, b, c, rfl, _⟩ := isT_inv h
  simp [D.plains, D.plain]
theorem allT_ok {ts : List D} (h : ∀ t ∈ ts, isT t = true) (n : Nat) : okDs (n + 1) ts = true := by
  induction ts with
  | nil => simp [okDs]
  | cons t ts ih =>
    simp only [okDs, Bool.and_eq_true]
    exact ⟨isT_ok (h t List.mem_cons_self) n, ih fun x hx => h x (List.mem_cons_of_mem _ hx)⟩
/-- a lambda that tells of each triple -/
structure Good (k : Nat) (ds : List D) : Prop where
  pl : D.plains ds = true
  tells : ∀ t, isT t = true → ∃ b, mc k ds [t] = some (.bl b)
def wish (k : Nat) (ds : List D) (t : D) : Bool := match mc k ds [t] with
  | some (.bl b) => b
  | _ => false
theorem Good.at {k : Nat} {ds : List D} (h : Good k ds) {t : D} (ht : isT t = true) : mc k ds [t] = some (.bl (wish k ds t)) := by
  obtain ⟨b, e⟩ := h.tells t ht
  unfold wish
  rw [e]
def ans : Option D → D
  | some t => t
  | none => .non
/-! ### the order -/
def trip (i : Nat) : D := match F_triple_at [.int (i : Int)] with
  | .ok x => x
  | _ => .non
def L200 : List D := (List.range 200).map fun (i : Nat) => trip i
def isOk : FO → Bool
  | .ok _ => true
  | _ => false
theorem ok200 : ((List.range 200).all fun (i : Nat) => isOk (F_triple_at [.int (i : Int)]) && isT (trip i)) = true := by kernel_rfl
theorem order200 : F__law_order [.int 200] = .ok (.lst L200) := by kernel_rfl
theorem at200 {i : Nat} (h : i < 200) : F_triple_at [.int (i : Int)] = .ok (trip i) ∧ isT (trip i) = true := by
  have z := List.all_eq_true.mp ok200 i (List.mem_range.mpr h)
  rw [Bool.and_eq_true] at z
  refine ⟨?_, z.2⟩
  have z1 := z.1
  unfold trip
  cases e : F_triple_at [.int (i : Int)] with
  | ok x => rfl
  | _ => rw [e] at z1; cases z1
theorem L200_T : ∀ t ∈ L200, isT t = true := fun t h => by
  obtain ⟨i, hi, rfl⟩ := List.mem_map.mp h
  exact (at200 (List.mem_range.mp hi)).2
theorem L200_len : L200.length = 200 := by unfold L200; rw [List.length_map, List.length_range]
end W

namespace W
open PySem PySem.Spec PyProof.Rows L2 NdefX LamX DL
def fT : EM Bool := dTest (dCallClo 1 0 mc (dCons (dVar 3) (dNil)))
def fB : SM := sSeq (sAsg (dCall (arity 1 F_triple_at) (dCons (dVar 2) (dNil))) (gSet 3)) (sIf fT (sRet (dVar 3)) (sNx))
theorem first_eq : F_first_triple = mRun 4 (sSeq (sFor (iArgs oRng1 (dCons (dVar 1) (dNil))) (gSet 2) fB) (sRet (dC .non))) := rfl
theorem fT_ok {k : Nat} {ds : List D} (h : Good k ds) {t : D} (ht : isT t = true) (x y : Sl) : fT [.d (.clo k ds), x, y, .d t] = .ok (wish k ds t) [.d (.clo k ds), x, y, .d t] := by
  have w := h.at ht
  have pl := isT_plain ht
  unfold fT
  simp only [uRun, uInit, mRun, mInit, lRun, sSeq, sIf, sAsg, sRet, sRt, sNx, sRetN, sRetL, sExpr, sPar, setAll, SM.of, EM.bind, EM.ret, EM.lift, dVar, dC, dOp, dTest, dNot, dAnd, dOr, dAndV, dOrV, dNotV, dIsT, dIs, DL.isNon, dIf, dIxO, dIxOwn, dGt, dLt, dGe, dLe, dSub, dTup, dLst, dCons, dNil, gSet, sSetIx, hasOwn, onOwn, uEnd, dB, bLen, bAbs, bMax, bMin, dCall, dCallU, arity, arityU, FO.em, noRt, takeD, sRetLam, gTupM, gAll, dCallClo, w, pl, h.pl, and_self, and_true, true_and, if_true, Bool.false_eq_true, if_false, Option.bind_some, List.map, List.length_cons, List.length_nil, List.replicate, List.cons_append, List.nil_append, List.getElem?_cons_zero, List.getElem?_cons_succ, List.set_cons_zero, List.set_cons_succ, List.set, Option.map_some, Nat.reduceAdd, Nat.reduceSub, Nat.reduceLeDiff, reduceIte]
theorem fB_ok {k : Nat} {ds : List D} (h : Good k ds) (x z : Sl) {i : Nat} (hi : i < 200) {b : Bool} (hb : wish k ds (trip i) = b) : fB [.d (.clo k ds), x, .d (.int (0 + (i : Int))), z] =
    if b = true then .rt (trip i) [.d (.clo k ds), x, .d (.int (0 + (i : Int))), .d (trip i)] else .nx [.d (.clo k ds), x, .d (.int (0 + (i : Int))), .d (trip i)] := by
  obtain ⟨e, ht⟩ := at200 hi
  have e0 : F_triple_at [.int (0 + (i : Int))] = .ok (trip i) := by rw [Int.zero_add]; exact e
  have w := fT_ok h ht x (.d (.int (0 + (i : Int))))
  unfold fB
  cases b <;> simp only [uRun, uInit, mRun, mInit, lRun, sSeq, sIf, sAsg, sRet, sRt, sNx, sRetN, sRetL, sExpr, sPar, setAll, SM.of, EM.bind, EM.ret, EM.lift, dVar, dC, dOp, dTest, dNot, dAnd, dOr, dAndV, dOrV, dNotV, dIsT, dIs, DL.isNon, dIf, dIxO, dIxOwn, dGt, dLt, dGe, dLe, dSub, dTup, dLst, dCons, dNil, gSet, sSetIx, hasOwn, onOwn, uEnd, dB, bLen, bAbs, bMax, bMin, dCall, dCallU, arity, arityU, FO.em, noRt, takeD, sRetLam, gTupM, gAll, e0, w, hb, if_true, Bool.false_eq_true, if_false, Option.bind_some, List.map, List.length_cons, List.length_nil, List.replicate, List.cons_append, List.nil_append, List.getElem?_cons_zero, List.getElem?_cons_succ, List.set_cons_zero, List.set_cons_succ, List.set, Option.map_some, Nat.reduceAdd, Nat.reduceSub, Nat.reduceLeDiff, reduceIte]
theorem first_loop {k : Nat} {ds : List D} (h : Good k ds) (m : Sl) : ∀ (is : List Nat) (x y : Sl), (∀ i ∈ is, i < 200) →
    ((∃ t r, (is.map trip).find? (wish k ds) = some t ∧ forL (gSet 2) fB (is.map fun (i : Nat) => D.int (0 + (i : Int))) [.d (.clo k ds), m, x, y] = .rt t r) ∨
      ((is.map trip).find? (wish k ds) = none ∧ ∃ x' y', forL (gSet 2) fB (is.map fun (i : Nat) => D.int (0 + (i : Int))) [.d (.clo k ds), m, x, y] = .nx [.d (.clo k ds), m, x', y']))
  | [], x, y, _ => .inr ⟨rfl, x, y, rfl⟩
  | i :: is, x, y, hi => by
    rw [List.map_cons, List.map_cons, List.find?_cons]
    cases hb : wish k ds (trip i) with
    | true =>
      refine .inl ⟨trip i, [.d (.clo k ds), m, .d (.int (0 + (i : Int))), .d (trip i)], rfl, ?_⟩
      have s1 := fB_ok h m y (hi i List.mem_cons_self) hb
      rw [if_pos rfl] at s1
      unfold forL
      simp only [gSet, List.set_cons_zero, List.set_cons_succ, List.set, s1]
    | false =>
      have s1 := fB_ok h m y (hi i List.mem_cons_self) hb
      rw [if_neg Bool.false_ne_true] at s1
      unfold forL
      simp only [gSet, List.set_cons_zero, List.set_cons_succ, List.set, s1]
      exact first_loop h m is _ _ fun j hj => hi j (List.mem_cons_of_mem _ hj)
theorem take_gen {m n : Nat} (h : m ≤ n) (f : Nat → D) : ((List.range n).map fun (i : Nat) => f i).take m = (List.range m).map fun (i : Nat) => f i := by
  rw [← List.map_take, List.take_range, Nat.min_eq_left h]
theorem take_L200 {m : Nat} (h : m ≤ 200) : L200.take m = (List.range m).map fun (i : Nat) => trip i := take_gen h trip
theorem okB_nat {m : Nat} (hm : m ≤ 200) : okB (m : Int) = true := Nat.ble_eq_true_of_le (Nat.le_trans hm (by decide))
theorem rng_ok {m : Nat} (hm : m ≤ 200) : oRng1 [.int (m : Int)] = some ((List.range m).map fun (i : Nat) => D.int (0 + (i : Int))) := by
  simp [oRng1, okB_nat hm, rangeD]
def endF (o : SO) : FO := match o with
  | .nx _ => .ok .non
  | .rt x _ => .ok x
  | .rl ys _ => .lst ys
  | .ex c ys _ => .ex c ys
  | _ => .st
theorem first_eq2 (g : SM) (x y : D) (l : List D) (o : SO) (hl : oRng1 [y] = some l) (ho : forL (gSet 2) g l [.d x, .d y, .un, .un] = o) : mRun 4 (sSeq (sFor (iArgs oRng1 (dCons (dVar 1) (dNil))) (gSet 2) g) (sRet (dC .non))) [x, y] = endF o := by
  simp only [uRun, uInit, mRun, mInit, lRun, sSeq, sIf, sAsg, sRet, sRt, sNx, sRetN, sRetL, sExpr, sPar, setAll, SM.of, EM.bind, EM.ret, EM.lift, dVar, dC, dOp, dTest, dNot, dAnd, dOr, dAndV, dOrV, dNotV, dIsT, dIs, DL.isNon, dIf, dIxO, dIxOwn, dGt, dLt, dGe, dLe, dSub, dTup, dLst, dCons, dNil, gSet, sSetIx, hasOwn, onOwn, uEnd, dB, bLen, bAbs, bMax, bMin, dCall, dCallU, arity, arityU, FO.em, noRt, takeD, sRetLam, gTupM, gAll, sFor, iArgs, hl, Option.bind_some, List.map, List.length_cons, List.length_nil, List.replicate, List.cons_append, List.nil_append, List.getElem?_cons_zero, List.getElem?_cons_succ, List.set_cons_zero, List.set_cons_succ, List.set, Option.map_some, Nat.reduceAdd, Nat.reduceSub, Nat.reduceLeDiff, reduceIte]
  rw [ho]
  cases o <;> rfl
theorem first_ok1 {k : Nat} {ds : List D} (h : Good k ds) {m : Nat} (hm : m ≤ 200) : F_first_triple [.clo k ds, .int (m : Int)] = .ok (ans (((List.range m).map trip).find? (wish k ds))) := by
  have hi : ∀ i ∈ List.range m, i < 200 := fun i hi => Nat.lt_of_lt_of_le (List.mem_range.mp hi) hm
  refine (congrFun first_eq _).trans ?_
  rcases first_loop h (.d (.int (m : Int))) (List.range m) .un .un hi with ⟨t, r, e1, e2⟩ | ⟨e1, x, y, e2⟩
  · rw [first_eq2 fB _ _ _ _ (rng_ok hm) e2, e1]
    rfl
  · rw [first_eq2 fB _ _ _ _ (rng_ok hm) e2, e1]
    rfl
theorem first_ok {k : Nat} {ds : List D} (h : Good k ds) {m : Nat} (hm : m ≤ 200) : F_first_triple [.clo k ds, .int (m : Int)] = .ok (ans ((L200.take m).find? (wish k ds))) := by
  rw [take_L200 hm]
  exact first_ok1 h hm
def dueC : EM D := dComp [3] (iOf oSeq (dVar 1)) (gSet 3) fT (dVar 3)
theorem due_eq : F__law_due = mRun 4 (sSeq (sAsg dueC (gSet 2)) (sRet (dIf (dTest (dOp dNe (dVar 2) (dLst (dNil)))) (dOp dIx (dVar 2) (dC (.int 0))) (dC .non)))) := rfl
theorem due_loop {k : Nat} {ds : List D} (h : Good k ds) (l : Sl) : ∀ (ts acc : List D), (∀ t ∈ ts, isT t = true) → acc.length + ts.length < 16777216 →
    compL [3] (gSet 3) fT (dVar 3) ts acc [.d (.clo k ds), l, .un, .un] = .ok (acc ++ ts.filter (wish k ds)) [.d (.clo k ds), l, .un, .un]
  | [], acc, _, _ => by simp [compL, EM.ret]
  | t :: ts, acc, ht, hl => by
    have w := fT_ok h (ht t List.mem_cons_self) l .un
    have rest := fun acc hl => due_loop h l ts acc (fun x hx => ht x (List.mem_cons_of_mem _ hx)) hl
    have hl2 : acc.length + (ts.length + 1) < 16777216 := by rw [List.length_cons] at hl; exact hl
    have hl3 : acc.length < 16777216 := by omega
    unfold compL
    cases hb : wish k ds t with
    | true =>
      rw [hb] at w
      have r1 := rest (acc ++ [t]) (by rw [List.length_append]; simp only [List.length_cons, List.length_nil]; omega)
      simp only [gSet, w, dVar, wipeR, List.foldr, Option.bind_some, List.map, List.length_cons, List.length_nil, List.replicate, List.cons_append, List.nil_append, List.getElem?_cons_zero, List.getElem?_cons_succ, List.set_cons_zero, List.set_cons_succ, List.set, Option.map_some, Nat.reduceAdd, Nat.reduceSub, Nat.reduceLeDiff, reduceIte]
      rw [if_pos hl3]
      refine Eq.trans r1 ?_
      rw [List.filter_cons, hb]
      simp
    | false =>
      rw [hb] at w
      have r1 := rest acc (by omega)
      simp only [gSet, w, dVar, wipeR, List.foldr, Option.bind_some, List.map, List.length_cons, List.length_nil, List.replicate, List.cons_append, List.nil_append, List.getElem?_cons_zero, List.getElem?_cons_succ, List.set_cons_zero, List.set_cons_succ, List.set, Option.map_some, Nat.reduceAdd, Nat.reduceSub, Nat.reduceLeDiff, reduceIte]
      refine Eq.trans r1 ?_
      rw [List.filter_cons, hb]
      simp
theorem dueC_ok {k : Nat} {ds : List D} (h : Good k ds) {ts : List D} (ht : ∀ t ∈ ts, isT t = true) (hl : ts.length ≤ 200) : dueC [.d (.clo k ds), .d (.lst ts), .un, .un] = .ok (.lst (ts.filter (wish k ds))) [.d (.clo k ds), .d (.lst ts), .un, .un] := by
  have loop := due_loop h (.d (.lst ts)) ts [] ht (by rw [List.length_nil]; omega)
  rw [List.nil_append] at loop
  unfold dueC
  simp only [dComp, iOf, oSeq, EM.bind, EM.lift, dVar, wipeR, List.foldr, Option.bind_some, List.map, List.length_cons, List.length_nil, List.replicate, List.cons_append, List.nil_append, List.getElem?_cons_zero, List.getElem?_cons_succ, List.set_cons_zero, List.set_cons_succ, List.set, Option.map_some, Nat.reduceAdd, Nat.reduceSub, Nat.reduceLeDiff, reduceIte] at loop ⊢
  rw [loop]
  simp only [backR, backAt, List.foldr, Option.bind_some, List.map, List.length_cons, List.length_nil, List.replicate, List.cons_append, List.nil_append, List.getElem?_cons_zero, List.getElem?_cons_succ, List.set_cons_zero, List.set_cons_succ, List.set, Option.map_some, Nat.reduceAdd, Nat.reduceSub, Nat.reduceLeDiff, reduceIte]
theorem due_ok {k : Nat} {ds : List D} (h : Good k ds) {ts : List D} (ht : ∀ t ∈ ts, isT t = true) (hl : ts.length ≤ 200) : F__law_due [.clo k ds, .lst ts] = .ok (ans (ts.find? (wish k ds))) := by
  have comp := dueC_ok h ht hl
  have ok1 : okD 64 (.lst (ts.filter (wish k ds))) = true := by
    simp only [okD]
    exact allT_ok (fun t hx => ht t (List.mem_filter.mp hx).1) 62
  have ok2 : okD 64 (.lst []) = true := by simp [okD, okDs]
  rw [← List.head?_filter, due_eq]
  cases e : ts.filter (wish k ds) with
  | nil =>
    rw [e] at comp ok1
    simp only [uRun, uInit, mRun, mInit, lRun, sSeq, sIf, sAsg, sRet, sRt, sNx, sRetN, sRetL, sExpr, sPar, setAll, SM.of, EM.bind, EM.ret, EM.lift, dVar, dC, dOp, dTest, dNot, dAnd, dOr, dAndV, dOrV, dNotV, dIsT, dIs, DL.isNon, dIf, dIxO, dIxOwn, dGt, dLt, dGe, dLe, dSub, dTup, dLst, dCons, dNil, gSet, sSetIx, hasOwn, onOwn, uEnd, dB, bLen, bAbs, bMax, bMin, dCall, dCallU, arity, arityU, FO.em, noRt, takeD, sRetLam, gTupM, gAll, comp, dNe, ok2, Bool.and_self, beq, beqs, Bool.not_true, Bool.false_eq_true, if_false, if_true, ans, List.head?_nil, Nat.zero_le, Option.bind_some, List.map, List.length_cons, List.length_nil, List.replicate, List.cons_append, List.nil_append, List.getElem?_cons_zero, List.getElem?_cons_succ, List.set_cons_zero, List.set_cons_succ, List.set, Option.map_some, Nat.reduceAdd, Nat.reduceSub, Nat.reduceLeDiff, reduceIte]
  | cons t ts' =>
    rw [e] at comp ok1
    have ix : dIx (.lst (t :: ts')) (.int 0) = some t := by
      show atI (t :: ts') 0 = some t
      unfold atI ixN
      rw [if_pos (Int.le_refl 0), if_pos (by rw [List.length_cons]; omega)]
      rfl
    simp only [uRun, uInit, mRun, mInit, lRun, sSeq, sIf, sAsg, sRet, sRt, sNx, sRetN, sRetL, sExpr, sPar, setAll, SM.of, EM.bind, EM.ret, EM.lift, dVar, dC, dOp, dTest, dNot, dAnd, dOr, dAndV, dOrV, dNotV, dIsT, dIs, DL.isNon, dIf, dIxO, dIxOwn, dGt, dLt, dGe, dLe, dSub, dTup, dLst, dCons, dNil, gSet, sSetIx, hasOwn, onOwn, uEnd, dB, bLen, bAbs, bMax, bMin, dCall, dCallU, arity, arityU, FO.em, noRt, takeD, sRetLam, gTupM, gAll, comp, dNe, ok1, ok2, Bool.and_self, beq, beqs, Bool.not_false, if_true, ans, List.head?_cons, ix, Nat.zero_le, Option.bind_some, List.map, List.length_cons, List.length_nil, List.replicate, List.cons_append, List.nil_append, List.getElem?_cons_zero, List.getElem?_cons_succ, List.set_cons_zero, List.set_cons_succ, List.set, Option.map_some, Nat.reduceAdd, Nat.reduceSub, Nat.reduceLeDiff, reduceIte]
end W

namespace W
open PySem PySem.Spec PyProof.Rows L2 NdefX LamX DL
theorem okInt (i : Int) : okD 64 (.int i) = true := by simp [okD]
theorem eq_ints (i j : Int) : dEq (.int i) (.int j) = some (.bl (decide (i = j))) := by
  unfold dEq; rw [okInt, okInt]; simp [beq]
theorem ne_ints (i j : Int) : dNe (.int i) (.int j) = some (.bl (!decide (i = j))) := by
  unfold dNe; rw [okInt, okInt]; simp [beq]
theorem ix3 (x y z : D) : dIx (.tup [x, y, z]) (.int 0) = some x ∧ dIx (.tup [x, y, z]) (.int 1) = some y ∧ dIx (.tup [x, y, z]) (.int 2) = some z := ⟨rfl, rfl, rfl⟩
theorem ixT {t : D} (h : isT t = true) {p : Int} (h0 : 0 ≤ p) (h3 : p < 3) : ∃ i : Int, dIx t (.int p) = some (.int i) ∧ 0 < i := by
  obtain ⟨a, b, c, rfl, ha, hb, hc, _⟩ := isT_inv h
  have hp : p = 0 ∨ p = 1 ∨ p = 2 := by omega
  rcases hp with rfl | rfl | rfl
  · exact ⟨a, rfl, ha⟩
  · exact ⟨b, rfl, hb⟩
  · exact ⟨c, rfl, hc⟩
theorem good_0 {y l p : Int} (hy : 0 < y) (h0 : 0 ≤ p) (h3 : p < 3) : Good 0 [.int y, .int l, .int p] := ⟨by simp [D.plains, D.plain], fun t ht => by
  obtain ⟨i, e, _⟩ := ixT ht h0 h3
  refine ⟨decide (i % y = l), ?_⟩
  show lRun 4 lm_0 _ _ = _
  unfold lm_0
  simp only [uRun, uInit, mRun, mInit, lRun, sSeq, sIf, sAsg, sRet, sRt, sNx, sRetN, sRetL, sExpr, sPar, setAll, SM.of, EM.bind, EM.ret, EM.lift, dVar, dC, dOp, dTest, dNot, dAnd, dOr, dAndV, dOrV, dNotV, dIsT, dIs, DL.isNon, dIf, dIxO, dIxOwn, dGt, dLt, dGe, dLe, dSub, dTup, dLst, dCons, dNil, gSet, sSetIx, hasOwn, onOwn, uEnd, dB, bLen, bAbs, bMax, bMin, dCall, dCallU, arity, arityU, FO.em, noRt, takeD, sRetLam, gTupM, gAll, e, mod_ok hy, eq_ints, Option.bind_some, List.map, List.length_cons, List.length_nil, List.replicate, List.cons_append, List.nil_append, List.getElem?_cons_zero, List.getElem?_cons_succ, List.set_cons_zero, List.set_cons_succ, List.set, Option.map_some, Nat.reduceAdd, Nat.reduceSub, Nat.reduceLeDiff, reduceIte]⟩
theorem good_1 {one : D} {p : Int} (ho : isT one = true) (h0 : 0 ≤ p) (h3 : p < 3) : Good 1 [one, .int p] := ⟨by
    have := isT_plain ho
    simp only [D.plains, Bool.and_true] at this
    simp [D.plains, D.plain, this], fun t ht => by
  obtain ⟨i, e, _⟩ := ixT ht h0 h3
  obtain ⟨j, e2, _⟩ := ixT ho h0 h3
  refine ⟨decide (i > j), ?_⟩
  show lRun 3 lm_1 _ _ = _
  unfold lm_1
  simp only [uRun, uInit, mRun, mInit, lRun, sSeq, sIf, sAsg, sRet, sRt, sNx, sRetN, sRetL, sExpr, sPar, setAll, SM.of, EM.bind, EM.ret, EM.lift, dVar, dC, dOp, dTest, dNot, dAnd, dOr, dAndV, dOrV, dNotV, dIsT, dIs, DL.isNon, dIf, dIxO, dIxOwn, dGt, dLt, dGe, dLe, dSub, dTup, dLst, dCons, dNil, gSet, sSetIx, hasOwn, onOwn, uEnd, dB, bLen, bAbs, bMax, bMin, dCall, dCallU, arity, arityU, FO.em, noRt, takeD, sRetLam, gTupM, gAll, e, e2, Option.bind_some, List.map, List.length_cons, List.length_nil, List.replicate, List.cons_append, List.nil_append, List.getElem?_cons_zero, List.getElem?_cons_succ, List.set_cons_zero, List.set_cons_succ, List.set, Option.map_some, Nat.reduceAdd, Nat.reduceSub, Nat.reduceLeDiff, reduceIte]⟩
theorem good_2 {one : D} (ho : isT one = true) : Good 2 [one] := ⟨isT_plain ho, fun t ht => by
  refine ⟨beq t one, ?_⟩
  show lRun 2 lm_2 _ _ = _
  have e : dEq t one = some (.bl (beq t one)) := by unfold dEq; rw [isT_ok ht 63, isT_ok ho 63]; rfl
  unfold lm_2
  simp only [uRun, uInit, mRun, mInit, lRun, sSeq, sIf, sAsg, sRet, sRt, sNx, sRetN, sRetL, sExpr, sPar, setAll, SM.of, EM.bind, EM.ret, EM.lift, dVar, dC, dOp, dTest, dNot, dAnd, dOr, dAndV, dOrV, dNotV, dIsT, dIs, DL.isNon, dIf, dIxO, dIxOwn, dGt, dLt, dGe, dLe, dSub, dTup, dLst, dCons, dNil, gSet, sSetIx, hasOwn, onOwn, uEnd, dB, bLen, bAbs, bMax, bMin, dCall, dCallU, arity, arityU, FO.em, noRt, takeD, sRetLam, gTupM, gAll, e, Option.bind_some, List.map, List.length_cons, List.length_nil, List.replicate, List.cons_append, List.nil_append, List.getElem?_cons_zero, List.getElem?_cons_succ, List.set_cons_zero, List.set_cons_succ, List.set, Option.map_some, Nat.reduceAdd, Nat.reduceSub, Nat.reduceLeDiff, reduceIte]⟩
theorem good_3 {one other : D} (ho : isT one = true) (hx : isT other = true) : Good 3 [one, other] := ⟨by
    have h1 := isT_plain ho
    have h2 := isT_plain hx
    simp only [D.plains, Bool.and_true] at h1 h2
    simp [D.plains, h1, h2], fun t ht => by
  refine ⟨[one, other].any fun y => beq y t, ?_⟩
  show lRun 3 lm_3 _ _ = _
  have e : dIn t (.tup [one, other]) = some (.bl ([one, other].any fun y => beq y t)) := by
    have h1 : okD 64 (.tup [one, other]) = true := by simp [okD, okDs, isT_ok ho 62, isT_ok hx 62]
    unfold dIn isIn
    simp only [h1, isT_ok ht 63, Bool.and_self, if_true, Option.map_some]
  unfold lm_3
  simp only [uRun, uInit, mRun, mInit, lRun, sSeq, sIf, sAsg, sRet, sRt, sNx, sRetN, sRetL, sExpr, sPar, setAll, SM.of, EM.bind, EM.ret, EM.lift, dVar, dC, dOp, dTest, dNot, dAnd, dOr, dAndV, dOrV, dNotV, dIsT, dIs, DL.isNon, dIf, dIxO, dIxOwn, dGt, dLt, dGe, dLe, dSub, dTup, dLst, dCons, dNil, gSet, sSetIx, hasOwn, onOwn, uEnd, dB, bLen, bAbs, bMax, bMin, dCall, dCallU, arity, arityU, FO.em, noRt, takeD, sRetLam, gTupM, gAll, e, Nat.reduceLeDiff, if_true, Option.bind_some, List.map, List.length_cons, List.length_nil, List.replicate, List.cons_append, List.nil_append, List.getElem?_cons_zero, List.getElem?_cons_succ, List.set_cons_zero, List.set_cons_succ, List.set, Option.map_some, Nat.reduceAdd, Nat.reduceSub, Nat.reduceLeDiff, reduceIte]⟩
theorem decS_len {c : Int} (h0 : 0 < c) (h : c.natAbs.log2 < 1900) : (decS c).length ≤ 1900 := by
  have h1 : c.natAbs < 2 ^ 1900 := (Nat.log2_lt (by omega)).mp h
  have h2 : (2 : Nat) ^ 1900 ≤ 10 ^ 1900 := Nat.pow_le_pow_left (by decide) _
  have h3 : c < 10 ^ 1900 := by
    have e : ((10 : Int) ^ 1900) = ((10 ^ 1900 : Nat) : Int) := by rw [Int.natCast_pow]; rfl
    rw [e]
    omega
  have z := PyProof.Rows.toString_length_le (v := c) (by omega) (k := 1900) (by decide) h3
  rw [TL.len_tl] at z
  exact z
theorem good_4 {y : Int} : Good 4 [.int y] := ⟨by simp [D.plains, D.plain], fun t ht => by
  obtain ⟨a, b, c, rfl, _, _, hc, hl⟩ := isT_inv ht
  refine ⟨decide (((decS c).length : Int) = y), ?_⟩
  show lRun 2 lm_4 _ _ = _
  have s : bStr [.int c] = some (.str (decS c)) := by unfold bStr; exact if_pos (by omega)
  have l : (decS c).length ≤ 16777216 := Nat.le_trans (decS_len hc hl) (by decide)
  unfold lm_4
  simp only [uRun, uInit, mRun, mInit, lRun, sSeq, sIf, sAsg, sRet, sRt, sNx, sRetN, sRetL, sExpr, sPar, setAll, SM.of, EM.bind, EM.ret, EM.lift, dVar, dC, dOp, dTest, dNot, dAnd, dOr, dAndV, dOrV, dNotV, dIsT, dIs, DL.isNon, dIf, dIxO, dIxOwn, dGt, dLt, dGe, dLe, dSub, dTup, dLst, dCons, dNil, gSet, sSetIx, hasOwn, onOwn, uEnd, dB, bLen, bAbs, bMax, bMin, dCall, dCallU, arity, arityU, FO.em, noRt, takeD, sRetLam, gTupM, gAll, (ix3 _ _ _).2.2, s, if_pos l, eq_ints, Option.bind_some, List.map, List.length_cons, List.length_nil, List.replicate, List.cons_append, List.nil_append, List.getElem?_cons_zero, List.getElem?_cons_succ, List.set_cons_zero, List.set_cons_succ, List.set, Option.map_some, Nat.reduceAdd, Nat.reduceSub, Nat.reduceLeDiff, reduceIte]⟩
theorem good_5 {y l : Int} (hy : 0 < y) : Good 5 [.int y, .int l] := ⟨by simp [D.plains, D.plain], fun t ht => by
  obtain ⟨a, b, c, rfl, _, _, hc, hl⟩ := isT_inv ht
  by_cases ha : a = 1
  · refine ⟨false, ?_⟩
    show lRun 3 lm_5 _ _ = _
    unfold lm_5
    simp only [uRun, uInit, mRun, mInit, lRun, sSeq, sIf, sAsg, sRet, sRt, sNx, sRetN, sRetL, sExpr, sPar, setAll, SM.of, EM.bind, EM.ret, EM.lift, dVar, dC, dOp, dTest, dNot, dAnd, dOr, dAndV, dOrV, dNotV, dIsT, dIs, DL.isNon, dIf, dIxO, dIxOwn, dGt, dLt, dGe, dLe, dSub, dTup, dLst, dCons, dNil, gSet, sSetIx, hasOwn, onOwn, uEnd, dB, bLen, bAbs, bMax, bMin, dCall, dCallU, arity, arityU, FO.em, noRt, takeD, sRetLam, gTupM, gAll, (ix3 _ _ _).1, ne_ints, ha, decide_true, Bool.not_true, Option.bind_some, List.map, List.length_cons, List.length_nil, List.replicate, List.cons_append, List.nil_append, List.getElem?_cons_zero, List.getElem?_cons_succ, List.set_cons_zero, List.set_cons_succ, List.set, Option.map_some, Nat.reduceAdd, Nat.reduceSub, Nat.reduceLeDiff, reduceIte]
  · refine ⟨decide (b % y = l), ?_⟩
    show lRun 3 lm_5 _ _ = _
    unfold lm_5
    simp only [uRun, uInit, mRun, mInit, lRun, sSeq, sIf, sAsg, sRet, sRt, sNx, sRetN, sRetL, sExpr, sPar, setAll, SM.of, EM.bind, EM.ret, EM.lift, dVar, dC, dOp, dTest, dNot, dAnd, dOr, dAndV, dOrV, dNotV, dIsT, dIs, DL.isNon, dIf, dIxO, dIxOwn, dGt, dLt, dGe, dLe, dSub, dTup, dLst, dCons, dNil, gSet, sSetIx, hasOwn, onOwn, uEnd, dB, bLen, bAbs, bMax, bMin, dCall, dCallU, arity, arityU, FO.em, noRt, takeD, sRetLam, gTupM, gAll, (ix3 _ _ _).1, (ix3 _ _ _).2.1, ne_ints, ha, decide_false, Bool.not_false, mod_ok hy, eq_ints, Option.bind_some, List.map, List.length_cons, List.length_nil, List.replicate, List.cons_append, List.nil_append, List.getElem?_cons_zero, List.getElem?_cons_succ, List.set_cons_zero, List.set_cons_succ, List.set, Option.map_some, Nat.reduceAdd, Nat.reduceSub, Nat.reduceLeDiff, reduceIte]⟩
theorem good_6 : Good 6 [] := ⟨rfl, fun t _ => ⟨false, rfl⟩⟩
theorem good_7 {y : Int} : Good 7 [.int y] := ⟨by simp [D.plains, D.plain], fun t ht => by
  obtain ⟨a, b, c, rfl, _, _, hc, hl⟩ := isT_inv ht
  refine ⟨decide (c - b ≥ y), ?_⟩
  have e : mc 7 = lRun 2 lm_7 := rfl
  rw [e]
  unfold lm_7
  simp only [uRun, uInit, mRun, mInit, lRun, sSeq, sIf, sAsg, sRet, sRt, sNx, sRetN, sRetL, sExpr, sPar, setAll, SM.of, EM.bind, EM.ret, EM.lift, dVar, dC, dOp, dTest, dNot, dAnd, dOr, dAndV, dOrV, dNotV, dIsT, dIs, DL.isNon, dIf, dIxO, dIxOwn, dGt, dLt, dGe, dLe, dSub, dTup, dLst, dCons, dNil, gSet, sSetIx, hasOwn, onOwn, uEnd, dB, bLen, bAbs, bMax, bMin, dCall, dCallU, arity, arityU, FO.em, noRt, takeD, sRetLam, gTupM, gAll, (ix3 _ _ _).2.1, (ix3 _ _ _).2.2, Option.bind_some, List.map, List.length_cons, List.length_nil, List.replicate, List.cons_append, List.nil_append, List.getElem?_cons_zero, List.getElem?_cons_succ, List.set_cons_zero, List.set_cons_succ, List.set, Option.map_some, Nat.reduceAdd, Nat.reduceSub, Nat.reduceLeDiff, reduceIte]⟩
theorem good_8 : Good 8 [] := ⟨rfl, fun t _ => ⟨true, rfl⟩⟩
end W

namespace W
open PySem PySem.Spec PyProof.Rows L2 NdefX LamX DL
theorem ix_at {ord : List D} {d : Int} (h0 : 0 ≤ d) (h1 : d < ord.length) : ∃ t, dIx (.lst ord) (.int d) = some t ∧ t ∈ ord := by
  have hlt : d.toNat < ord.length := by omega
  refine ⟨ord[d.toNat], ?_, List.getElem_mem hlt⟩
  show atI ord d = _
  unfold atI ixN
  rw [if_pos h0, if_pos h1]
  exact List.getElem?_eq_getElem hlt
theorem three_at {a b c : Int} {d : Int} (h0 : 0 ≤ d) (h1 : d < 3) : ∃ x, dIx (.lst [.int a, .int b, .int c]) (.int d) = some (.int x) ∧ (x = a ∨ x = b ∨ x = c) := by
  have hp : d = 0 ∨ d = 1 ∨ d = 2 := by omega
  rcases hp with rfl | rfl | rfl
  · exact ⟨a, rfl, .inl rfl⟩
  · exact ⟨b, rfl, .inr (.inl rfl)⟩
  · exact ⟨c, rfl, .inr (.inr rfl)⟩
theorem asked_ok {n : Nat} {us ord : List D} (h : UrnOk n us) (hn : n + 10 < 2 ^ 59) (hl : 0 < ord.length) (hl2 : ord.length ≤ 200) (ho : ∀ t ∈ ord, isT t = true) : ∃ (k : Nat) (ds us' : List D), U__law_asked us [.lst ord] = .ok (.clo k ds) us' ∧ Good k ds ∧ UrnOk (n + 7) us' := by
  obtain ⟨d0, u1, e0, a0, b0, h1⟩ := draw_ok (w := 8) h (by omega) (by decide) (by decide)
  obtain ⟨d1, u2, e1, a1, b1, h2⟩ := draw_ok (w := 3) h1 (by omega) (by decide) (by decide)
  obtain ⟨d2, u3, e2, a2, b2, h3⟩ := draw_ok (w := 3) h2 (by omega) (by decide) (by decide)
  obtain ⟨x, ex, hx⟩ := three_at (a := 3) (b := 12) (c := 100) a2 b2
  obtain ⟨d3, u4, e3, a3, b3, h4⟩ := draw_ok (w := x) h3 (by omega) (by omega) (by omega)
  obtain ⟨d4, u5, e4, a4, b4, h5⟩ := draw_ok (w := 2 + d3) h4 (by omega) (by omega) (by omega)
  obtain ⟨d5, u6, e5, a5, b5, h6⟩ := draw_ok (w := (ord.length : Int)) h5 (by omega) (by omega) (by omega)
  obtain ⟨d6, u7, e6, a6, b6, h7⟩ := draw_ok (w := (ord.length : Int)) h6 (by omega) (by omega) (by omega)
  obtain ⟨t5, f5, m5⟩ := ix_at a5 b5
  obtain ⟨t6, f6, m6⟩ := ix_at a6 b6
  have g5 := ho _ m5
  have g6 := ho _ m6
  have hd : d0 = 0 ∨ d0 = 1 ∨ d0 = 2 ∨ d0 = 3 ∨ d0 = 4 ∨ d0 = 5 ∨ d0 = 6 ∨ d0 = 7 := by omega
  have fin : ∀ (k : Nat) (ds : List D), Good k ds → U__law_asked us [.lst ord] = .ok (.clo k ds) u7 → ∃ (k : Nat) (ds us' : List D), U__law_asked us [.lst ord] = .ok (.clo k ds) us' ∧ Good k ds ∧ UrnOk (n + 7) us' := fun k ds g e => ⟨k, ds, u7, e, g, h7⟩
  have ev : ∀ (k : Nat) (ds : List D), U__law_asked us [.lst ord] = .ok (.clo k ds) u7 → U__law_asked us [.lst ord] = .ok (.clo k ds) u7 := fun _ _ e => e
  rcases hd with rfl | rfl | rfl | rfl | rfl | rfl | rfl | rfl
  · refine fin 0 [.int (2 + d3), .int d4, .int d1] (good_0 (by omega) a1 b1) ?_
    unfold U__law_asked m__law_asked
    simp only [uRun, uInit, mRun, mInit, lRun, sSeq, sIf, sAsg, sRet, sRt, sNx, sRetN, sRetL, sExpr, sPar, setAll, SM.of, EM.bind, EM.ret, EM.lift, dVar, dC, dOp, dTest, dNot, dAnd, dOr, dAndV, dOrV, dNotV, dIsT, dIs, DL.isNon, dIf, dIxO, dIxOwn, dGt, dLt, dGe, dLe, dSub, dTup, dLst, dCons, dNil, gSet, sSetIx, hasOwn, onOwn, uEnd, dB, bLen, bAbs, bMax, bMin, dCall, dCallU, arity, arityU, FO.em, noRt, takeD, sRetLam, gTupM, gAll, e0, e1, e2, ex, e3, e4, e5, e6, f5, f6, add_ok, eq_ints, decide_true, Nat.reduceLeDiff, if_true, eq_self, Int.reduceEq, decide_false, Bool.false_eq_true, if_false, Option.bind_some, List.map, List.length_cons, List.length_nil, List.replicate, List.cons_append, List.nil_append, List.getElem?_cons_zero, List.getElem?_cons_succ, List.set_cons_zero, List.set_cons_succ, List.set, Option.map_some, Nat.reduceAdd, Nat.reduceSub, Nat.reduceLeDiff, reduceIte]
  · refine fin 1 [t5, .int d1] (good_1 g5 a1 b1) ?_
    unfold U__law_asked m__law_asked
    simp only [uRun, uInit, mRun, mInit, lRun, sSeq, sIf, sAsg, sRet, sRt, sNx, sRetN, sRetL, sExpr, sPar, setAll, SM.of, EM.bind, EM.ret, EM.lift, dVar, dC, dOp, dTest, dNot, dAnd, dOr, dAndV, dOrV, dNotV, dIsT, dIs, DL.isNon, dIf, dIxO, dIxOwn, dGt, dLt, dGe, dLe, dSub, dTup, dLst, dCons, dNil, gSet, sSetIx, hasOwn, onOwn, uEnd, dB, bLen, bAbs, bMax, bMin, dCall, dCallU, arity, arityU, FO.em, noRt, takeD, sRetLam, gTupM, gAll, e0, e1, e2, ex, e3, e4, e5, e6, f5, f6, add_ok, eq_ints, decide_true, Nat.reduceLeDiff, if_true, eq_self, Int.reduceEq, decide_false, Bool.false_eq_true, if_false, Option.bind_some, List.map, List.length_cons, List.length_nil, List.replicate, List.cons_append, List.nil_append, List.getElem?_cons_zero, List.getElem?_cons_succ, List.set_cons_zero, List.set_cons_succ, List.set, Option.map_some, Nat.reduceAdd, Nat.reduceSub, Nat.reduceLeDiff, reduceIte]
  · refine fin 2 [t5] (good_2 g5) ?_
    unfold U__law_asked m__law_asked
    simp only [uRun, uInit, mRun, mInit, lRun, sSeq, sIf, sAsg, sRet, sRt, sNx, sRetN, sRetL, sExpr, sPar, setAll, SM.of, EM.bind, EM.ret, EM.lift, dVar, dC, dOp, dTest, dNot, dAnd, dOr, dAndV, dOrV, dNotV, dIsT, dIs, DL.isNon, dIf, dIxO, dIxOwn, dGt, dLt, dGe, dLe, dSub, dTup, dLst, dCons, dNil, gSet, sSetIx, hasOwn, onOwn, uEnd, dB, bLen, bAbs, bMax, bMin, dCall, dCallU, arity, arityU, FO.em, noRt, takeD, sRetLam, gTupM, gAll, e0, e1, e2, ex, e3, e4, e5, e6, f5, f6, add_ok, eq_ints, decide_true, Nat.reduceLeDiff, if_true, eq_self, Int.reduceEq, decide_false, Bool.false_eq_true, if_false, Option.bind_some, List.map, List.length_cons, List.length_nil, List.replicate, List.cons_append, List.nil_append, List.getElem?_cons_zero, List.getElem?_cons_succ, List.set_cons_zero, List.set_cons_succ, List.set, Option.map_some, Nat.reduceAdd, Nat.reduceSub, Nat.reduceLeDiff, reduceIte]
  · refine fin 3 [t5, t6] (good_3 g5 g6) ?_
    unfold U__law_asked m__law_asked
    simp only [uRun, uInit, mRun, mInit, lRun, sSeq, sIf, sAsg, sRet, sRt, sNx, sRetN, sRetL, sExpr, sPar, setAll, SM.of, EM.bind, EM.ret, EM.lift, dVar, dC, dOp, dTest, dNot, dAnd, dOr, dAndV, dOrV, dNotV, dIsT, dIs, DL.isNon, dIf, dIxO, dIxOwn, dGt, dLt, dGe, dLe, dSub, dTup, dLst, dCons, dNil, gSet, sSetIx, hasOwn, onOwn, uEnd, dB, bLen, bAbs, bMax, bMin, dCall, dCallU, arity, arityU, FO.em, noRt, takeD, sRetLam, gTupM, gAll, e0, e1, e2, ex, e3, e4, e5, e6, f5, f6, add_ok, eq_ints, decide_true, Nat.reduceLeDiff, if_true, eq_self, Int.reduceEq, decide_false, Bool.false_eq_true, if_false, Option.bind_some, List.map, List.length_cons, List.length_nil, List.replicate, List.cons_append, List.nil_append, List.getElem?_cons_zero, List.getElem?_cons_succ, List.set_cons_zero, List.set_cons_succ, List.set, Option.map_some, Nat.reduceAdd, Nat.reduceSub, Nat.reduceLeDiff, reduceIte]
  · refine fin 4 [.int (2 + d3)] good_4 ?_
    unfold U__law_asked m__law_asked
    simp only [uRun, uInit, mRun, mInit, lRun, sSeq, sIf, sAsg, sRet, sRt, sNx, sRetN, sRetL, sExpr, sPar, setAll, SM.of, EM.bind, EM.ret, EM.lift, dVar, dC, dOp, dTest, dNot, dAnd, dOr, dAndV, dOrV, dNotV, dIsT, dIs, DL.isNon, dIf, dIxO, dIxOwn, dGt, dLt, dGe, dLe, dSub, dTup, dLst, dCons, dNil, gSet, sSetIx, hasOwn, onOwn, uEnd, dB, bLen, bAbs, bMax, bMin, dCall, dCallU, arity, arityU, FO.em, noRt, takeD, sRetLam, gTupM, gAll, e0, e1, e2, ex, e3, e4, e5, e6, f5, f6, add_ok, eq_ints, decide_true, Nat.reduceLeDiff, if_true, eq_self, Int.reduceEq, decide_false, Bool.false_eq_true, if_false, Option.bind_some, List.map, List.length_cons, List.length_nil, List.replicate, List.cons_append, List.nil_append, List.getElem?_cons_zero, List.getElem?_cons_succ, List.set_cons_zero, List.set_cons_succ, List.set, Option.map_some, Nat.reduceAdd, Nat.reduceSub, Nat.reduceLeDiff, reduceIte]
  · refine fin 5 [.int (2 + d3), .int d4] (good_5 (by omega)) ?_
    unfold U__law_asked m__law_asked
    simp only [uRun, uInit, mRun, mInit, lRun, sSeq, sIf, sAsg, sRet, sRt, sNx, sRetN, sRetL, sExpr, sPar, setAll, SM.of, EM.bind, EM.ret, EM.lift, dVar, dC, dOp, dTest, dNot, dAnd, dOr, dAndV, dOrV, dNotV, dIsT, dIs, DL.isNon, dIf, dIxO, dIxOwn, dGt, dLt, dGe, dLe, dSub, dTup, dLst, dCons, dNil, gSet, sSetIx, hasOwn, onOwn, uEnd, dB, bLen, bAbs, bMax, bMin, dCall, dCallU, arity, arityU, FO.em, noRt, takeD, sRetLam, gTupM, gAll, e0, e1, e2, ex, e3, e4, e5, e6, f5, f6, add_ok, eq_ints, decide_true, Nat.reduceLeDiff, if_true, eq_self, Int.reduceEq, decide_false, Bool.false_eq_true, if_false, Option.bind_some, List.map, List.length_cons, List.length_nil, List.replicate, List.cons_append, List.nil_append, List.getElem?_cons_zero, List.getElem?_cons_succ, List.set_cons_zero, List.set_cons_succ, List.set, Option.map_some, Nat.reduceAdd, Nat.reduceSub, Nat.reduceLeDiff, reduceIte]
  · refine fin 6 [] good_6 ?_
    unfold U__law_asked m__law_asked
    simp only [uRun, uInit, mRun, mInit, lRun, sSeq, sIf, sAsg, sRet, sRt, sNx, sRetN, sRetL, sExpr, sPar, setAll, SM.of, EM.bind, EM.ret, EM.lift, dVar, dC, dOp, dTest, dNot, dAnd, dOr, dAndV, dOrV, dNotV, dIsT, dIs, DL.isNon, dIf, dIxO, dIxOwn, dGt, dLt, dGe, dLe, dSub, dTup, dLst, dCons, dNil, gSet, sSetIx, hasOwn, onOwn, uEnd, dB, bLen, bAbs, bMax, bMin, dCall, dCallU, arity, arityU, FO.em, noRt, takeD, sRetLam, gTupM, gAll, e0, e1, e2, ex, e3, e4, e5, e6, f5, f6, add_ok, eq_ints, decide_true, Nat.reduceLeDiff, if_true, eq_self, Int.reduceEq, decide_false, Bool.false_eq_true, if_false, Option.bind_some, List.map, List.length_cons, List.length_nil, List.replicate, List.cons_append, List.nil_append, List.getElem?_cons_zero, List.getElem?_cons_succ, List.set_cons_zero, List.set_cons_succ, List.set, Option.map_some, Nat.reduceAdd, Nat.reduceSub, Nat.reduceLeDiff, reduceIte]
  · refine fin 7 [.int (2 + d3)] good_7 ?_
    unfold U__law_asked m__law_asked
    simp only [uRun, uInit, mRun, mInit, lRun, sSeq, sIf, sAsg, sRet, sRt, sNx, sRetN, sRetL, sExpr, sPar, setAll, SM.of, EM.bind, EM.ret, EM.lift, dVar, dC, dOp, dTest, dNot, dAnd, dOr, dAndV, dOrV, dNotV, dIsT, dIs, DL.isNon, dIf, dIxO, dIxOwn, dGt, dLt, dGe, dLe, dSub, dTup, dLst, dCons, dNil, gSet, sSetIx, hasOwn, onOwn, uEnd, dB, bLen, bAbs, bMax, bMin, dCall, dCallU, arity, arityU, FO.em, noRt, takeD, sRetLam, gTupM, gAll, e0, e1, e2, ex, e3, e4, e5, e6, f5, f6, add_ok, eq_ints, decide_true, Nat.reduceLeDiff, if_true, eq_self, Int.reduceEq, decide_false, Bool.false_eq_true, if_false, Option.bind_some, List.map, List.length_cons, List.length_nil, List.replicate, List.cons_append, List.nil_append, List.getElem?_cons_zero, List.getElem?_cons_succ, List.set_cons_zero, List.set_cons_succ, List.set, Option.map_some, Nat.reduceAdd, Nat.reduceSub, Nat.reduceLeDiff, reduceIte]
end W

namespace W
open PySem PySem.Spec PyProof.Rows L2 NdefX LamX DL
/-- what is asked of an answer -/
structure AnsOk (t : D) : Prop where
  ne : dNe t t = some (.bl false)
  kind : DL.isNon t = true ∨ (DL.isNon t = false ∧ bIsi [t, .ty "tuple"] = some (.bl true))
theorem ans_ok {o : Option D} (h : ∀ t, o = some t → isT t = true) : AnsOk (ans o) := by
  cases o with
  | none => exact ⟨rfl, .inl rfl⟩
  | some t =>
    have ht := h t rfl
    refine ⟨?_, .inr ?_⟩
    · show dNe t t = _
      unfold dNe
      rw [isT_ok ht 63, isT_beq ht]; rfl
    · obtain ⟨a, b, c, rfl, _⟩ := isT_inv ht
      exact ⟨rfl, rfl⟩
theorem found_T {l : List D} {p : D → Bool} (h : ∀ t ∈ l, isT t = true) : AnsOk (ans (l.find? p)) := ans_ok fun t e => h t (List.mem_of_find?_eq_some e)
theorem cut_to {l : List D} {m : Nat} (h : m ≤ l.length) : dCut none (some (m : Int)) (.lst l) = some (.lst (l.take m)) := by
  show some (D.lst (cut l none (some (m : Int)))) = _
  unfold cut
  rw [HT.sIx_none, HT.sIx_nat, Nat.min_eq_left h, Nat.sub_zero, List.drop_zero]
def lawBG (fU fO fF fD : List D → FO) (uD uA : List D → List D → UO) : SM := sSeq (sSetC 2 (arity 2 fU) (dCons (dVar 0) (dCons (dVar 1) (dNil))))
    (sSeq (sAsg (dOp dAdd (dC (.int 1)) (dCallU 2 (arityU 2 uD) (dCons (dOp dIx (dLst (dCons (dC (.int 2)) (dCons (dC (.int 31)) (dCons (dC (.int 200)) (dNil))))) (dCallU 2 (arityU 2 uD) (dCons (dC (.int 3)) (dNil)))) (dNil)))) (gSet 3))
    (sSeq (sAsg (dCall (arity 1 fO) (dCons (dC (.int 200)) (dNil))) (gSet 4))
    (sSeq (sPar [5, 6] (dCons (dCallU 2 (arityU 2 uA) (dCons (dVar 4) (dNil))) (dCons (dCallU 2 (arityU 2 uA) (dCons (dSl (dVar 4) (dNoPart) (dPart (dC (.int 31)))) (dNil))) (dNil))))
    (sSeq (sAsg (dCallD [] (arity 2 fF) (dCons (dVar 5) (dCons (dVar 3) (dNil)))) (gSet 7))
    (sSeq (sIf (dOr (dTest (dOp dNe (dVar 7) (dCall (arity 2 fD) (dCons (dVar 5) (dCons (dSl (dVar 4) (dNoPart) (dPart (dVar 3))) (dNil)))))) (dNot (dOr (dIsT (dVar 7) false) (dTest (dB bIsi (dCons (dVar 7) (dCons (dC (.ty "tuple")) (dNil)))))))) (sRet (dC (.bl false))) (sNx))
    (sSeq (sIf (dOr (dTest (dOp dNe (dCallD [(.int 31)] (arity 2 fF) (dCons (dVar 6) (dNil))) (dCall (arity 2 fD) (dCons (dVar 6) (dCons (dSl (dVar 4) (dNoPart) (dPart (dC (.int 31)))) (dNil)))))) (dTest (dOp dNe (dCallK 1 1 2 (fun xs zs => xs ++ zs) fF (dCons (dVar 5) (dNil)) (dCons (dVar 3) (dNil))) (dVar 7)))) (sRet (dC (.bl false))) (sNx))
    (sSeq (sIf (dTest (dOp dNe (dCallK0 2 2 (fun _ zs => zs.reverse) fF (dCons (dC (.int 200)) (dCons (dVar 6) (dNil)))) (dCall (arity 2 fD) (dCons (dVar 6) (dCons (dVar 4) (dNil)))))) (sRet (dC (.bl false))) (sNx))
    (sIf (dTest (dOp dNe (dCallD [] (arity 2 fF) (dCons (dVar 5) (dCons (dC (.int 1)) (dNil)))) (dCall (arity 2 fD) (dCons (dVar 5) (dCons (dSl (dVar 4) (dNoPart) (dPart (dC (.int 1)))) (dNil)))))) (sRet (dC (.bl false))) (sNx)))))))))
def lawB : SM := lawBG F__law_urn F__law_order F_first_triple F__law_due U__law_draw U__law_asked
def lawE : SM := sRet (dOp dEq (dCallD [(.int 31)] (arity 2 F_first_triple) (dCons (dClo0 8) (dNil))) (dTup (dCons (dC (.int 1)) (dCons (dC (.int 1)) (dCons (dC (.int 1)) (dNil))))))
theorem law_eq : F_law = mRun 8 (sSeq (sFor (iArgs oRng1 (dCons (dB bMax (dCons (dC (.int 1)) (dCons (dB bMin (dCons (dC (.int 4)) (dCons (dB bLen (dCons (dVar 0) (dNil))) (dNil)))) (dNil)))) (dNil))) (gSet 1) lawB) lawE) := rfl
theorem lawBG_run {fU fO fF fD : List D → FO} {uD uA : List D → List D → UO} {sc at_ : D} {us u1 u2 u3 u4 ord om o31 o1l c1 c2 : List D} {d0 d1 x m : Int} {k1 k2 : Nat} {A1 A2 A3 A4 : D} (s2 s3 s4 s5 s6 s7 : Sl)
    (eu : fU [sc, at_] = .lst us) (e0 : uD us [.int 3] = .ok (.int d0) u1) (ex : dIx (.lst [.int 2, .int 31, .int 200]) (.int d0) = some (.int x)) (e1 : uD u1 [.int x] = .ok (.int d1) u2) (hm : 1 + d1 = m) (hord : fO [.int 200] = .ok (.lst ord))
    (f1 : uA u2 [.lst ord] = .ok (.clo k1 c1) u3) (c31 : dCut none (some 31) (.lst ord) = some (.lst o31)) (f2 : uA u3 [.lst o31] = .ok (.clo k2 c2) u4) (cm : dCut none (some m) (.lst ord) = some (.lst om)) (c11 : dCut none (some 1) (.lst ord) = some (.lst o1l))
    (w1 : fF [.clo k1 c1, .int m] = .ok A1) (w2 : fF [.clo k2 c2, .int 31] = .ok A2) (w3 : fF [.clo k2 c2, .int 200] = .ok A3) (w4 : fF [.clo k1 c1, .int 1] = .ok A4)
    (v1 : fD [.clo k1 c1, .lst om] = .ok A1) (v2 : fD [.clo k2 c2, .lst o31] = .ok A2) (v3 : fD [.clo k2 c2, .lst ord] = .ok A3) (v4 : fD [.clo k1 c1, .lst o1l] = .ok A4) (o1 : AnsOk A1) (o2 : AnsOk A2) (o3 : AnsOk A3) (o4 : AnsOk A4) :
    ∃ r2 r3 r4 r5 r6 r7, lawBG fU fO fF fD uD uA [.d sc, .d at_, s2, s3, s4, s5, s6, s7] = .nx [.d sc, .d at_, r2, r3, r4, r5, r6, r7] := by
  have n1 := o1.ne
  have n2 := o2.ne
  have n3 := o3.ne
  have n4 := o4.ne
  unfold lawBG
  rcases o1.kind with q | ⟨q, q2⟩
  · simp only [uRun, uInit, mRun, mInit, lRun, sSeq, sIf, sAsg, sRet, sRt, sNx, sRetN, sRetL, sExpr, sPar, setAll, SM.of, EM.bind, EM.ret, EM.lift, dVar, dC, dOp, dTest, dNot, dAnd, dOr, dAndV, dOrV, dNotV, dIsT, dIs, dIf, dIxO, dIxOwn, dGt, dLt, dGe, dLe, dSub, dTup, dLst, dCons, dNil, gSet, sSetIx, hasOwn, onOwn, uEnd, dB, bLen, bAbs, bMax, bMin, dCall, dCallU, arity, arityU, FO.em, noRt, takeD, sRetLam, gTupM, gAll, sSetC, dCallD, dCallK, dCallK0, kwEm, dSl, dNoPart, dPart, eu, e0, ex, e1, add_ok, hm, hord, f1, c31, f2, w1, cm, v1, n1, q, w2, v2, n2, w3, v3, n3, w4, c11, v4, n4, List.reverse_cons, List.reverse_nil, and_self, and_true, true_and, decide_true, Nat.reduceLeDiff, if_true, eq_self, Int.reduceEq, decide_false, Bool.false_eq_true, Bool.not_true, Bool.not_false, if_false, Option.bind_some, List.map, List.length_cons, List.length_nil, List.replicate, List.cons_append, List.nil_append, List.getElem?_cons_zero, List.getElem?_cons_succ, List.set_cons_zero, List.set_cons_succ, List.set, Option.map_some, Nat.reduceAdd, Nat.reduceSub, Nat.reduceLeDiff, reduceIte]
    exact ⟨_, _, _, _, _, _, rfl⟩
  · simp only [uRun, uInit, mRun, mInit, lRun, sSeq, sIf, sAsg, sRet, sRt, sNx, sRetN, sRetL, sExpr, sPar, setAll, SM.of, EM.bind, EM.ret, EM.lift, dVar, dC, dOp, dTest, dNot, dAnd, dOr, dAndV, dOrV, dNotV, dIsT, dIs, dIf, dIxO, dIxOwn, dGt, dLt, dGe, dLe, dSub, dTup, dLst, dCons, dNil, gSet, sSetIx, hasOwn, onOwn, uEnd, dB, bLen, bAbs, bMax, bMin, dCall, dCallU, arity, arityU, FO.em, noRt, takeD, sRetLam, gTupM, gAll, sSetC, dCallD, dCallK, dCallK0, kwEm, dSl, dNoPart, dPart, eu, e0, ex, e1, add_ok, hm, hord, f1, c31, f2, w1, cm, v1, n1, q, q2, w2, v2, n2, w3, v3, n3, w4, c11, v4, n4, List.reverse_cons, List.reverse_nil, and_self, and_true, true_and, decide_true, Nat.reduceLeDiff, if_true, eq_self, Int.reduceEq, decide_false, Bool.false_eq_true, Bool.not_true, Bool.not_false, if_false, Option.bind_some, List.map, List.length_cons, List.length_nil, List.replicate, List.cons_append, List.nil_append, List.getElem?_cons_zero, List.getElem?_cons_succ, List.set_cons_zero, List.set_cons_succ, List.set, Option.map_some, Nat.reduceAdd, Nat.reduceSub, Nat.reduceLeDiff, reduceIte]
    exact ⟨_, _, _, _, _, _, rfl⟩
theorem lawB_ok {ord : List D} (hord : F__law_order [.int 200] = .ok (.lst ord)) (hT : ∀ t ∈ ord, isT t = true) (hlen : ord.length = 200)
    (hf : ∀ (k : Nat) (ds : List D) (m : Nat), Good k ds → m ≤ 200 → F_first_triple [.clo k ds, .int (m : Int)] = .ok (ans ((ord.take m).find? (wish k ds))))
    {ns : List Int} (hns : ns.length ≤ 63) {i : Nat} (hi : i < 64) (s2 s3 s4 s5 s6 s7 : Sl) :
    ∃ r2 r3 r4 r5 r6 r7, lawB [.d (.lst (ns.map .int)), .d (.int (0 + (i : Int))), s2, s3, s4, s5, s6, s7] = .nx [.d (.lst (ns.map .int)), .d (.int (0 + (i : Int))), r2, r3, r4, r5, r6, r7] := by
  obtain ⟨us, eu, h0⟩ := urn_ok (ns := ns) hi hns
  rw [show (i : Int) = 0 + (i : Int) from (Int.zero_add _).symm] at eu
  obtain ⟨d0, u1, e0, a0, b0, h1⟩ := draw_ok (w := 3) h0 (by omega) (by decide) (by decide)
  obtain ⟨x, ex, hx⟩ := three_at (a := 2) (b := 31) (c := 200) a0 b0
  obtain ⟨d1, u2, e1, a1, b1, h2⟩ := draw_ok (w := x) h1 (by omega) (by omega) (by omega)
  obtain ⟨m, hm⟩ : ∃ m : Nat, 1 + d1 = (m : Int) := ⟨(1 + d1).toNat, by omega⟩
  have hm2 : m ≤ 200 := by omega
  obtain ⟨k1, c1, u3, f1, g1, h3⟩ := asked_ok h2 (by omega) (by omega) (by omega) hT
  have hT31 : ∀ t ∈ ord.take 31, isT t = true := fun t h => hT t (List.mem_of_mem_take h)
  have l31 : (ord.take 31).length = 31 := by rw [List.length_take, hlen]; rfl
  obtain ⟨k2, c2, u4, f2, g2, h4⟩ := asked_ok h3 (by omega) (by omega) (by omega) hT31
  have hTm : ∀ t ∈ ord.take m, isT t = true := fun t h => hT t (List.mem_of_mem_take h)
  have hT1 : ∀ t ∈ ord.take 1, isT t = true := fun t h => hT t (List.mem_of_mem_take h)
  have lm : (ord.take m).length ≤ 200 := by rw [List.length_take]; omega
  have l1 : (ord.take 1).length ≤ 200 := by rw [List.length_take]; omega
  have w1 := hf k1 c1 m g1 hm2
  have w2 := hf k2 c2 31 g2 (by decide)
  have w3 := hf k2 c2 200 g2 (by decide)
  have w4 := hf k1 c1 1 g1 (by decide)
  have v1 := due_ok g1 hTm lm
  have v2 := due_ok g2 hT31 (by omega)
  have v3 := due_ok g2 hT (by omega)
  have v4 := due_ok g1 hT1 l1
  have t200 : ord.take 200 = ord := List.take_of_length_le (by omega)
  rw [t200] at w3
  have o1 := found_T (p := wish k1 c1) hTm
  have o2 := found_T (p := wish k2 c2) hT31
  have o3 := found_T (p := wish k2 c2) hT
  have o4 := found_T (p := wish k1 c1) hT1
  have c31 := cut_to (l := ord) (m := 31) (by omega)
  have cm := cut_to (l := ord) (m := m) (by omega)
  have c1' := cut_to (l := ord) (m := 1) (by omega)
  exact lawBG_run s2 s3 s4 s5 s6 s7 eu e0 ex e1 hm hord f1 c31 f2 cm c1' w1 w2 w3 w4 v1 v2 v3 v4 o1 o2 o3 o4
end W

namespace W
open PySem PySem.Spec PyProof.Rows L2 NdefX LamX DL
theorem law_loop {g : SM} {sc : D} (hB : ∀ (i : Nat), i < 64 → ∀ s2 s3 s4 s5 s6 s7 : Sl, ∃ r2 r3 r4 r5 r6 r7, g [.d sc, .d (.int (0 + (i : Int))), s2, s3, s4, s5, s6, s7] = .nx [.d sc, .d (.int (0 + (i : Int))), r2, r3, r4, r5, r6, r7]) :
    ∀ (is : List Nat), (∀ i ∈ is, i < 64) → ∀ s1 s2 s3 s4 s5 s6 s7 : Sl, ∃ r1 r2 r3 r4 r5 r6 r7, forL (gSet 1) g (is.map fun (i : Nat) => D.int (0 + (i : Int))) [.d sc, s1, s2, s3, s4, s5, s6, s7] = .nx [.d sc, r1, r2, r3, r4, r5, r6, r7]
  | [], _, s1, s2, s3, s4, s5, s6, s7 => ⟨s1, s2, s3, s4, s5, s6, s7, rfl⟩
  | i :: is, hi, s1, s2, s3, s4, s5, s6, s7 => by
    obtain ⟨r2, r3, r4, r5, r6, r7, e⟩ := hB i (hi i List.mem_cons_self) s2 s3 s4 s5 s6 s7
    rw [List.map_cons]
    unfold forL
    simp only [gSet, List.set_cons_zero, List.set_cons_succ, List.set, e]
    exact law_loop hB is (fun j hj => hi j (List.mem_cons_of_mem _ hj)) _ _ _ _ _ _ _
def lawEG (fF : List D → FO) : SM := sRet (dOp dEq (dCallD [(.int 31)] (arity 2 fF) (dCons (dClo0 8) (dNil))) (dTup (dCons (dC (.int 1)) (dCons (dC (.int 1)) (dCons (dC (.int 1)) (dNil))))))
theorem eqT : dEq (.tup [.int 1, .int 1, .int 1]) (.tup [.int 1, .int 1, .int 1]) = some (.bl true) := rfl
theorem eB {r : Rho} : dTup (dCons (dC (.int 1)) (dCons (dC (.int 1)) (dCons (dC (.int 1)) (dNil)))) r = .ok (.tup [.int 1, .int 1, .int 1]) r := rfl
theorem eA {fF : List D → FO} {t : D} (h : fF [.clo 8 [], .int 31] = .ok t) {r : Rho} : dCallD [(.int 31)] (arity 2 fF) (dCons (dClo0 8) (dNil)) r = .ok t r := by
  show (fF [.clo 8 [], .int 31]).em r = _
  rw [h]; rfl
theorem eC {fF : List D → FO} (h : fF [.clo 8 [], .int 31] = .ok (.tup [.int 1, .int 1, .int 1])) (r : Rho) : lawEG fF r = .rt (.bl true) r := by
  unfold lawEG sRet SM.of dOp EM.bind
  simp only [eA h, eB, eqT, EM.lift, sRt]
theorem lawEG_ok {fF : List D → FO} (h : fF [.clo 8 [], .int 31] = .ok (.tup [.int 1, .int 1, .int 1])) (a b c d e f g i : Sl) : ∃ r, lawEG fF [a, b, c, d, e, f, g, i] = .rt (.bl true) r := ⟨_, eC h _⟩
theorem law_run {g : SM} {fF : List D → FO} {sc : List D} (hB : ∀ (i : Nat), i < 64 → ∀ s2 s3 s4 s5 s6 s7 : Sl, ∃ r2 r3 r4 r5 r6 r7, g [.d (.lst sc), .d (.int (0 + (i : Int))), s2, s3, s4, s5, s6, s7] = .nx [.d (.lst sc), .d (.int (0 + (i : Int))), r2, r3, r4, r5, r6, r7])
    (h : fF [.clo 8 [], .int 31] = .ok (.tup [.int 1, .int 1, .int 1])) :
    mRun 8 (sSeq (sFor (iArgs oRng1 (dCons (dB bMax (dCons (dC (.int 1)) (dCons (dB bMin (dCons (dC (.int 4)) (dCons (dB bLen (dCons (dVar 0) (dNil))) (dNil)))) (dNil)))) (dNil))) (gSet 1) g) (lawEG fF)) [.lst sc] = .ok (.bl true) := by
  obtain ⟨y, ey, hy⟩ : ∃ y : Int, bMin [.int 4, .int (sc.length : Int)] = some (.int y) ∧ y ≤ 4 := ⟨_, rfl, by split <;> omega⟩
  obtain ⟨z, ez, hz⟩ : ∃ z : Int, bMax [.int 1, .int y] = some (.int z) ∧ 0 ≤ z ∧ z ≤ 4 := ⟨_, rfl, by split <;> omega⟩
  obtain ⟨n, rfl⟩ : ∃ n : Nat, z = (n : Int) := ⟨z.toNat, by omega⟩
  have rng := rng_ok (m := n) (by omega)
  have hl : bLen [.lst sc] = some (.int (sc.length : Int)) := rfl
  obtain ⟨r1, r2, r3, r4, r5, r6, r7, e⟩ := law_loop hB (List.range n) (fun i hi => by have := List.mem_range.mp hi; omega) .un .un .un .un .un .un .un
  obtain ⟨r, e2⟩ := lawEG_ok h (.d (.lst sc)) r1 r2 r3 r4 r5 r6 r7
  unfold mRun
  have e3 : (sFor (iArgs oRng1 (dCons (dB bMax (dCons (dC (.int 1)) (dCons (dB bMin (dCons (dC (.int 4)) (dCons (dB bLen (dCons (dVar 0) (dNil))) (dNil)))) (dNil)))) (dNil))) (gSet 1) g) [.d (.lst sc), .un, .un, .un, .un, .un, .un, .un] = forL (gSet 1) g ((List.range n).map fun (i : Nat) => D.int (0 + (i : Int))) [.d (.lst sc), .un, .un, .un, .un, .un, .un, .un] := by
    unfold sFor
    have e4 : iArgs oRng1 (dCons (dB bMax (dCons (dC (.int 1)) (dCons (dB bMin (dCons (dC (.int 4)) (dCons (dB bLen (dCons (dVar 0) (dNil))) (dNil)))) (dNil)))) (dNil)) [.d (.lst sc), .un, .un, .un, .un, .un, .un, .un] = .ok ((List.range n).map fun (i : Nat) => D.int (0 + (i : Int))) [.d (.lst sc), .un, .un, .un, .un, .un, .un, .un] := by
      simp only [iArgs, EM.bind, EM.lift, EM.ret, dCons, dNil, dB, dC, dVar, hl, ey, ez, rng, Option.bind_some, List.map, List.length_cons, List.length_nil, List.replicate, List.cons_append, List.nil_append, List.getElem?_cons_zero, List.getElem?_cons_succ, List.set_cons_zero, List.set_cons_succ, List.set, Option.map_some, Nat.reduceAdd, Nat.reduceSub, Nat.reduceLeDiff, reduceIte]
    unfold SM.of
    rw [e4]
  have e5 : (sSeq (sFor (iArgs oRng1 (dCons (dB bMax (dCons (dC (.int 1)) (dCons (dB bMin (dCons (dC (.int 4)) (dCons (dB bLen (dCons (dVar 0) (dNil))) (dNil)))) (dNil)))) (dNil))) (gSet 1) g) (lawEG fF)) [.d (.lst sc), .un, .un, .un, .un, .un, .un, .un] = .rt (.bl true) r := by
    unfold sSeq
    rw [e3, e]
    exact e2
  have e6 : mInit 8 [.lst sc] = [.d (.lst sc), .un, .un, .un, .un, .un, .un, .un] := rfl
  rw [e6, e5]
theorem trip0 : trip 0 = .tup [.int 1, .int 1, .int 1] := by kernel_rfl
theorem first_8 : F_first_triple [.clo 8 [], .int 31] = .ok (.tup [.int 1, .int 1, .int 1]) := by
  have h := first_ok1 good_8 (m := 31) (by decide)
  have e : List.range 31 = 0 :: (List.range 30).map Nat.succ := List.range_succ_eq_map
  rw [e, List.map_cons, List.find?_cons, trip0] at h
  exact h
theorem law_eq2 : F_law = mRun 8 (sSeq (sFor (iArgs oRng1 (dCons (dB bMax (dCons (dC (.int 1)) (dCons (dB bMin (dCons (dC (.int 4)) (dCons (dB bLen (dCons (dVar 0) (dNil))) (dNil)))) (dNil)))) (dNil))) (gSet 1) lawB) (lawEG F_first_triple)) := rfl
/-- THE PLAIN LAW -/
theorem law_true {ns : List Int} (h : ns.length ≤ 63) : F_law [.lst (ns.map .int)] = .ok (.bl true) := by
  rw [law_eq2]
  exact law_run (fun i hi s2 s3 s4 s5 s6 s7 => lawB_ok order200 L200_T L200_len (fun k ds m g hm => first_ok g hm) h hi s2 s3 s4 s5 s6 s7) first_8
end W

namespace W
open PySem PySem.Spec PyProof.Rows L2 NdefX LamX DL
def dd_look_way : He.DefD := ⟨("look_way", none), "look_way", "look_way", defArgs s_look_way, defBody s_look_way, defScope s_look_way, [], []⟩
def dd_word_of_way : He.DefD := ⟨("word_of_way", none), "word_of_way", "word_of_way", defArgs s_word_of_way, defBody s_word_of_way, defScope s_word_of_way, [], []⟩
def dd_way_of_number : He.DefD := ⟨("way_of_number", none), "way_of_number", "way_of_number", defArgs s_way_of_number, defBody s_way_of_number, defScope s_way_of_number, [], []⟩
def dd_three_of_way : He.DefD := ⟨("three_of_way", none), "three_of_way", "three_of_way", defArgs s_three_of_way, defBody s_three_of_way, defScope s_three_of_way, [], []⟩
def dd_triple_of_way : He.DefD := ⟨("triple_of_way", none), "triple_of_way", "triple_of_way", defArgs s_triple_of_way, defBody s_triple_of_way, defScope s_triple_of_way, [], []⟩
def dd_triple_at : He.DefD := ⟨("triple_at", none), "triple_at", "triple_at", defArgs s_triple_at, defBody s_triple_at, defScope s_triple_at, [], []⟩
def dd_first_triple : He.DefD := ⟨("first_triple", none), "first_triple", "first_triple", defArgs s_first_triple, defBody s_first_triple, defScope s_first_triple, [.int 31], []⟩
def dd__law_urn : He.DefD := ⟨("_law_urn", none), "_law_urn", "_law_urn", defArgs s__law_urn, defBody s__law_urn, defScope s__law_urn, [], []⟩
def dd__law_draw : He.DefD := ⟨("_law_draw", none), "_law_draw", "_law_draw", defArgs s__law_draw, defBody s__law_draw, defScope s__law_draw, [], []⟩
def dd__law_three : He.DefD := ⟨("_law_three", none), "_law_three", "_law_three", defArgs s__law_three, defBody s__law_three, defScope s__law_three, [], []⟩
def dd__law_order : He.DefD := ⟨("_law_order", none), "_law_order", "_law_order", defArgs s__law_order, defBody s__law_order, defScope s__law_order, [], []⟩
def dd__law_asked : He.DefD := ⟨("_law_asked", none), "_law_asked", "_law_asked", defArgs s__law_asked, defBody s__law_asked, defScope s__law_asked, [], []⟩
def dd__law_due : He.DefD := ⟨("_law_due", none), "_law_due", "_law_due", defArgs s__law_due, defBody s__law_due, defScope s__law_due, [], []⟩
def dd_law : He.DefD := ⟨("law", none), "law", "law", defArgs s_law, defBody s_law, defScope s_law, [], []⟩
def fnl : List He.DefD := [dd_look_way, dd_word_of_way, dd_way_of_number, dd_three_of_way, dd_triple_of_way, dd_triple_at, dd_first_triple, dd__law_urn, dd__law_draw, dd__law_three, dd__law_order, dd__law_asked, dd__law_due, dd_law]
def fal : List He.Fa := [.glo "look_way", .glo "word_of_way", .glo "way_of_number", .glo "three_of_way", .glo "triple_of_way", .glo "triple_at", .glo "first_triple", .glo "_law_urn", .glo "_law_draw", .glo "_law_three", .glo "_law_order", .glo "_law_asked", .glo "_law_due", .glo "law", .free "abs", .free "all", .free "isinstance", .free "len", .free "max", .free "min", .free "range", .free "reversed", .free "sorted", .free "str", .free "tuple", .glo "FIRST", .int "MANY" 3, .int "MOST_LETTERS" 60, .glo "ONES", .glo "TWO", .str "WAY_LETTERS" "lr"]
def exl (K : PySem.W.Frag) : Bool := He.tupB K "FIRST" [.int 1, .int 2, .int 5] && (He.tupB K "ONES" [.int 1, .int 1, .int 1] && (He.tupB K "TWO" [.int 1, .int 1, .int 2] && (decide ((He.cT K ("_law_asked", none)).2 ≠ (He.cT K ("law", none)).2))))
def tfl : List He.Defn := [("_law_asked", none), ("law", none)]
abbrev Ro : PySem.W.OpenRow := PySem.W.OpenLaw.row PySem.Challenge.rw_nearthrees_k31_first_triple_asked_for
abbrev hk : PySem.W.Hook := He.hookX 4 fal fnl [] tfl exl
def ob (s : PySem.W.SharedT) : He.AlX := He.obsX 4 fal fnl [] tfl exl (HandSHeadRun.getT s)
theorem ob_eq (s : PySem.W.SharedT) : ob s = hk.obs s.abs := He.obsX_eq (HandSHeadRun.getT_eq s)
abbrev qv : Program := PySem.W.view Ro.prog [25]
def loosel : List PySem.Str := (["TooMany", "NoWay", "MOST_LETTERS", "WAY_LETTERS", "look_way", "word_of_way", "way_of_number", "ONES", "TWO", "FIRST", "MANY", "three_of_way", "triple_of_way", "triple_at", "first_triple", "_law_urn", "_law_draw", "_law_three", "_law_order", "_law_asked", "_law_due"] : List PySem.Str)
theorem run (w : World) : HandSHeadRun.RunEq Ro qv hk ob 4000 loosel w := by
  intro os
  kernel_rfl
def gx (K : PySem.W.Frag) : Gx := { K := K, T := [((He.cT K ("_law_asked", none)).2, q__law_asked), ((He.cT K ("law", none)).2, q_law)], cl := fun _ => 0, fl := fun _ => [], ev := fun _ => .none, rf := fun _ => 0, ct := ctab }
def aOf (K : PySem.W.Frag) : Nat → Addr
  | 0 => He.fAd K ("look_way", none)
  | 1 => He.fAd K ("word_of_way", none)
  | 2 => He.fAd K ("way_of_number", none)
  | 3 => He.fAd K ("three_of_way", none)
  | 4 => He.fAd K ("triple_of_way", none)
  | 5 => He.fAd K ("triple_at", none)
  | 6 => He.fAd K ("first_triple", none)
  | 7 => He.fAd K ("_law_urn", none)
  | 8 => He.fAd K ("_law_draw", none)
  | 9 => He.fAd K ("_law_three", none)
  | 10 => He.fAd K ("_law_order", none)
  | 11 => He.fAd K ("_law_asked", none)
  | 12 => He.fAd K ("_law_due", none)
  | 13 => He.fAd K ("law", none)
  | _ => 0
def ccOf (K : PySem.W.Frag) : Nat → Addr
  | 11 => (He.cT K ("_law_asked", none)).1
  | 13 => (He.cT K ("law", none)).1
  | _ => 0
def ppOf (K : PySem.W.Frag) : Nat → Addr
  | 11 => (He.cT K ("_law_asked", none)).2
  | 13 => (He.cT K ("law", none)).2
  | _ => 0
def fdOf (f0 f1 f2 f3 f4 f5 f6 f7 f8 f9 f10 f11 f12 f13 : FuncData) : Nat → FuncData
  | 0 => f0
  | 1 => f1
  | 2 => f2
  | 3 => f3
  | 4 => f4
  | 5 => f5
  | 6 => f6
  | 7 => f7
  | 8 => f8
  | 9 => f9
  | 10 => f10
  | 11 => f11
  | 12 => f12
  | 13 => f13
  | _ => f0
theorem fds_ok {w : World} {K : PySem.W.Frag} {h : Heap} (c : He.SaysX fal fnl [] tfl exl w h K) : ∃ fd : Nat → FuncData, FunD K "look_way" "look_way" (defArgs s_look_way) (defBody s_look_way) (defScope s_look_way) [] [] (aOf K 0) (fd 0) ∧ FunD K "word_of_way" "word_of_way" (defArgs s_word_of_way) (defBody s_word_of_way) (defScope s_word_of_way) [] [] (aOf K 1) (fd 1) ∧ FunD K "way_of_number" "way_of_number" (defArgs s_way_of_number) (defBody s_way_of_number) (defScope s_way_of_number) [] [] (aOf K 2) (fd 2) ∧ FunD K "three_of_way" "three_of_way" (defArgs s_three_of_way) (defBody s_three_of_way) (defScope s_three_of_way) [] [] (aOf K 3) (fd 3) ∧ FunD K "triple_of_way" "triple_of_way" (defArgs s_triple_of_way) (defBody s_triple_of_way) (defScope s_triple_of_way) [] [] (aOf K 4) (fd 4) ∧ FunD K "triple_at" "triple_at" (defArgs s_triple_at) (defBody s_triple_at) (defScope s_triple_at) [] [] (aOf K 5) (fd 5) ∧ FunD K "first_triple" "first_triple" (defArgs s_first_triple) (defBody s_first_triple) (defScope s_first_triple) [.int 31] [] (aOf K 6) (fd 6) ∧ FunD K "_law_urn" "_law_urn" (defArgs s__law_urn) (defBody s__law_urn) (defScope s__law_urn) [] [] (aOf K 7) (fd 7) ∧ FunD K "_law_draw" "_law_draw" (defArgs s__law_draw) (defBody s__law_draw) (defScope s__law_draw) [] [] (aOf K 8) (fd 8) ∧ FunD K "_law_three" "_law_three" (defArgs s__law_three) (defBody s__law_three) (defScope s__law_three) [] [] (aOf K 9) (fd 9) ∧ FunD K "_law_order" "_law_order" (defArgs s__law_order) (defBody s__law_order) (defScope s__law_order) [] [] (aOf K 10) (fd 10) ∧ FunD K "_law_asked" "_law_asked" (defArgs s__law_asked) (defBody s__law_asked) (defScope s__law_asked) [] [] (aOf K 11) (fd 11) ∧ FunD K "_law_due" "_law_due" (defArgs s__law_due) (defBody s__law_due) (defScope s__law_due) [] [] (aOf K 12) (fd 12) ∧ FunD K "law" "law" (defArgs s_law) (defBody s_law) (defScope s_law) [] [] (aOf K 13) (fd 13) := by
  obtain ⟨f0, F0⟩ := c.t.d.def_ 0 (d := dd_look_way) rfl
  obtain ⟨f1, F1⟩ := c.t.d.def_ 1 (d := dd_word_of_way) rfl
  obtain ⟨f2, F2⟩ := c.t.d.def_ 2 (d := dd_way_of_number) rfl
  obtain ⟨f3, F3⟩ := c.t.d.def_ 3 (d := dd_three_of_way) rfl
  obtain ⟨f4, F4⟩ := c.t.d.def_ 4 (d := dd_triple_of_way) rfl
  obtain ⟨f5, F5⟩ := c.t.d.def_ 5 (d := dd_triple_at) rfl
  obtain ⟨f6, F6⟩ := c.t.d.def_ 6 (d := dd_first_triple) rfl
  obtain ⟨f7, F7⟩ := c.t.d.def_ 7 (d := dd__law_urn) rfl
  obtain ⟨f8, F8⟩ := c.t.d.def_ 8 (d := dd__law_draw) rfl
  obtain ⟨f9, F9⟩ := c.t.d.def_ 9 (d := dd__law_three) rfl
  obtain ⟨f10, F10⟩ := c.t.d.def_ 10 (d := dd__law_order) rfl
  obtain ⟨f11, F11⟩ := c.t.d.def_ 11 (d := dd__law_asked) rfl
  obtain ⟨f12, F12⟩ := c.t.d.def_ 12 (d := dd__law_due) rfl
  obtain ⟨f13, F13⟩ := c.t.d.def_ 13 (d := dd_law) rfl
  exact ⟨fdOf f0 f1 f2 f3 f4 f5 f6 f7 f8 f9 f10 f11 f12 f13, F0, F1, F2, F3, F4, F5, F6, F7, F8, F9, F10, F11, F12, F13⟩
theorem top_ok {w : World} {K : PySem.W.Frag} {h base : Heap} {mg : Str → Option Value} {fd : Nat → FuncData} (XB : K.In base) (G : base.Ns mainGlobals mg) (c : He.SaysX fal fnl [] tfl exl w h K) (tb : ∀ p ∈ tfl.map (He.cT K), TabB base mg p.1 p.2)
    (D0 : FunD K "look_way" "look_way" (defArgs s_look_way) (defBody s_look_way) (defScope s_look_way) [] [] (aOf K 0) (fd 0)) (D1 : FunD K "word_of_way" "word_of_way" (defArgs s_word_of_way) (defBody s_word_of_way) (defScope s_word_of_way) [] [] (aOf K 1) (fd 1)) (D2 : FunD K "way_of_number" "way_of_number" (defArgs s_way_of_number) (defBody s_way_of_number) (defScope s_way_of_number) [] [] (aOf K 2) (fd 2)) (D3 : FunD K "three_of_way" "three_of_way" (defArgs s_three_of_way) (defBody s_three_of_way) (defScope s_three_of_way) [] [] (aOf K 3) (fd 3)) (D4 : FunD K "triple_of_way" "triple_of_way" (defArgs s_triple_of_way) (defBody s_triple_of_way) (defScope s_triple_of_way) [] [] (aOf K 4) (fd 4)) (D5 : FunD K "triple_at" "triple_at" (defArgs s_triple_at) (defBody s_triple_at) (defScope s_triple_at) [] [] (aOf K 5) (fd 5)) (D6 : FunD K "first_triple" "first_triple" (defArgs s_first_triple) (defBody s_first_triple) (defScope s_first_triple) [.int 31] [] (aOf K 6) (fd 6)) (D7 : FunD K "_law_urn" "_law_urn" (defArgs s__law_urn) (defBody s__law_urn) (defScope s__law_urn) [] [] (aOf K 7) (fd 7)) (D8 : FunD K "_law_draw" "_law_draw" (defArgs s__law_draw) (defBody s__law_draw) (defScope s__law_draw) [] [] (aOf K 8) (fd 8)) (D9 : FunD K "_law_three" "_law_three" (defArgs s__law_three) (defBody s__law_three) (defScope s__law_three) [] [] (aOf K 9) (fd 9)) (D10 : FunD K "_law_order" "_law_order" (defArgs s__law_order) (defBody s__law_order) (defScope s__law_order) [] [] (aOf K 10) (fd 10)) (D11 : FunD K "_law_asked" "_law_asked" (defArgs s__law_asked) (defBody s__law_asked) (defScope s__law_asked) [] [] (aOf K 11) (fd 11)) (D12 : FunD K "_law_due" "_law_due" (defArgs s__law_due) (defBody s__law_due) (defScope s__law_due) [] [] (aOf K 12) (fd 12)) (D13 : FunD K "law" "law" (defArgs s_law) (defBody s_law) (defScope s_law) [] [] (aOf K 13) (fd 13)) : Top (gx K) mg base (aOf K) fd (ccOf K) (ppOf K) := by
  have m := c.more
  unfold exl at m
  simp only [Bool.and_eq_true, decide_eq_true_eq] at m
  obtain ⟨m0, m1, m2, m3⟩ := m
  exact {
    d_look_way := D0
    g_look_way := He.glo_ok XB G (c.t.d.fact 0 (f := .glo "look_way") rfl)
    d_word_of_way := D1
    g_word_of_way := He.glo_ok XB G (c.t.d.fact 1 (f := .glo "word_of_way") rfl)
    d_way_of_number := D2
    g_way_of_number := He.glo_ok XB G (c.t.d.fact 2 (f := .glo "way_of_number") rfl)
    d_three_of_way := D3
    g_three_of_way := He.glo_ok XB G (c.t.d.fact 3 (f := .glo "three_of_way") rfl)
    d_triple_of_way := D4
    g_triple_of_way := He.glo_ok XB G (c.t.d.fact 4 (f := .glo "triple_of_way") rfl)
    d_triple_at := D5
    g_triple_at := He.glo_ok XB G (c.t.d.fact 5 (f := .glo "triple_at") rfl)
    d_first_triple := D6
    g_first_triple := He.glo_ok XB G (c.t.d.fact 6 (f := .glo "first_triple") rfl)
    d__law_urn := D7
    g__law_urn := He.glo_ok XB G (c.t.d.fact 7 (f := .glo "_law_urn") rfl)
    d__law_draw := D8
    g__law_draw := He.glo_ok XB G (c.t.d.fact 8 (f := .glo "_law_draw") rfl)
    d__law_three := D9
    g__law_three := He.glo_ok XB G (c.t.d.fact 9 (f := .glo "_law_three") rfl)
    d__law_order := D10
    g__law_order := He.glo_ok XB G (c.t.d.fact 10 (f := .glo "_law_order") rfl)
    d__law_asked := D11
    g__law_asked := He.glo_ok XB G (c.t.d.fact 11 (f := .glo "_law_asked") rfl)
    d__law_due := D12
    g__law_due := He.glo_ok XB G (c.t.d.fact 12 (f := .glo "_law_due") rfl)
    d_law := D13
    g_law := He.glo_ok XB G (c.t.d.fact 13 (f := .glo "law") rfl)
    b_abs := He.free_ok XB G (c.t.d.fact 14 (f := .free "abs") rfl)
    b_all := He.free_ok XB G (c.t.d.fact 15 (f := .free "all") rfl)
    b_isinstance := He.free_ok XB G (c.t.d.fact 16 (f := .free "isinstance") rfl)
    b_len := He.free_ok XB G (c.t.d.fact 17 (f := .free "len") rfl)
    b_max := He.free_ok XB G (c.t.d.fact 18 (f := .free "max") rfl)
    b_min := He.free_ok XB G (c.t.d.fact 19 (f := .free "min") rfl)
    b_range := He.free_ok XB G (c.t.d.fact 20 (f := .free "range") rfl)
    b_reversed := He.free_ok XB G (c.t.d.fact 21 (f := .free "reversed") rfl)
    b_sorted := He.free_ok XB G (c.t.d.fact 22 (f := .free "sorted") rfl)
    b_str := He.free_ok XB G (c.t.d.fact 23 (f := .free "str") rfl)
    b_tuple := He.free_ok XB G (c.t.d.fact 24 (f := .free "tuple") rfl)
    m_FIRST := ⟨_, He.glo_ok XB G (c.t.d.fact 25 (f := .glo "FIRST") rfl), fun F => Den.tup (He.tupB_ok m0 F) (.cons .int (.cons .int (.cons .int (.nil))))⟩
    m_MANY := He.int_ok XB G (c.t.d.fact 26 (f := .int "MANY" 3) rfl)
    m_MOST_LETTERS := He.int_ok XB G (c.t.d.fact 27 (f := .int "MOST_LETTERS" 60) rfl)
    m_ONES := ⟨_, He.glo_ok XB G (c.t.d.fact 28 (f := .glo "ONES") rfl), fun F => Den.tup (He.tupB_ok m1 F) (.cons .int (.cons .int (.cons .int (.nil))))⟩
    m_TWO := ⟨_, He.glo_ok XB G (c.t.d.fact 29 (f := .glo "TWO") rfl), fun F => Den.tup (He.tupB_ok m2 F) (.cons .int (.cons .int (.cons .int (.nil))))⟩
    m_WAY_LETTERS := He.str_ok XB G (c.t.d.fact 30 (f := .str "WAY_LETTERS" "lr") rfl)
    hct := rfl
    tb__law_asked := tb (He.cT K ("_law_asked", none)) (List.mem_map.mpr ⟨("_law_asked", none), by simp [tfl], rfl⟩)
    cc__law_asked := fun oc od osl fd' c' lk e => (He.codeOf_eq (p := ("_law_asked", none)) lk e).symm
    hm__law_asked := by simp [gx, ppOf]
    hu__law_asked := by
      intro p hp e
      simp only [gx, List.mem_cons, List.not_mem_nil, or_false] at hp
      rcases hp with rfl | rfl
      · rfl
      · exact absurd e (Ne.symm m3)
    tb_law := tb (He.cT K ("law", none)) (List.mem_map.mpr ⟨("law", none), by simp [tfl], rfl⟩)
    cc_law := fun oc od osl fd' c' lk e => (He.codeOf_eq (p := ("law", none)) lk e).symm
    hm_law := by simp [gx, ppOf]
    hu_law := by
      intro p hp e
      simp only [gx, List.mem_cons, List.not_mem_nil, or_false] at hp
      rcases hp with rfl | rfl
      · exact absurd e m3
      · rfl
  }
theorem dens_ints {G : Gx} {F : Hp} : ∀ ns : List Int, Dens G F (ns.map D.int) (ns.map V.int)
  | [] => .nil
  | _ :: ns => .cons .int (dens_ints ns)
theorem law_sp {K : PySem.W.Frag} {H : Hp} {a : Addr} {ns : List Int} (hl : ns.length ≤ 63) (hH : ∀ p ∈ tfl.map (He.cT K), H p.2 = some (.tbl #[])) (hS : SqL K H a (ns.map V.int)) : spP (gx K) 1 F_law [.ref a] H (fun v _ => v = .bl true) fun _ _ _ => False := by
  obtain ⟨F, s1, s2, s3⟩ : ∃ F : Hp, Same F H ∧ (∀ b o, F b = some o → ∀ ps, o ≠ HO.tbl ps) ∧ SqL K F a (ns.map V.int) := by
    rcases hS with (q | ⟨o, q⟩) | q
    · refine ⟨upd (fun _ => none) a (.lst (ns.map V.int)), fun b o e => ?_, fun b o e => ?_, .inl (.inl upd_same)⟩
      · by_cases hb : b = a
        · subst hb; rw [upd_same] at e; cases e; exact q
        · rw [upd_ne hb] at e; cases e
      · by_cases hb : b = a
        · subst hb; rw [upd_same] at e; cases e; intro ps z; cases z
        · rw [upd_ne hb] at e; cases e
    · refine ⟨upd (fun _ => none) a (.frz o (.lst (ns.map V.int))), fun b u e => ?_, fun b u e => ?_, .inl (.inr ⟨o, upd_same⟩)⟩
      · by_cases hb : b = a
        · subst hb; rw [upd_same] at e; cases e; exact q
        · rw [upd_ne hb] at e; cases e
      · by_cases hb : b = a
        · subst hb; rw [upd_same] at e; cases e; intro ps z; cases z
        · rw [upd_ne hb] at e; cases e
    · exact ⟨fun _ => none, (fun b o e => by cases e), (fun b o e => by cases e), .inr q⟩
  refine ⟨F, [.lst (ns.map .int)], ⟨s1, s2, fun p hp => ?_⟩, .cons (Den.lst s3 (dens_ints ns)) .nil, rfl, ?_⟩
  · simp only [gx, List.mem_cons, List.not_mem_nil, or_false] at hp
    rcases hp with rfl | rfl
    · exact TabS.nil (hH (He.cT K ("_law_asked", none)) (List.mem_map.mpr ⟨("_law_asked", none), by simp [tfl], rfl⟩))
    · exact TabS.nil (hH (He.cT K ("law", none)) (List.mem_map.mpr ⟨("law", none), by simp [tfl], rfl⟩))
  · rw [law_true hl]
    exact fun v F' H' _ d => d.bl_inv
theorem lawAt {w : World} {K : PySem.W.Frag} {h : Heap} {mg : Str → Option Value} {f : Addr} (X : K.In h) (G : h.Ns mainGlobals mg) (hfa : mg ("law" : Str) = some (.ref f)) (c : He.SaysX fal fnl [] tfl exl w h K) :
    LawAtS PySem.Challenge.rw_nearthrees_k31_first_triple_asked_for w K (L2.CX (PySem.Challenge.rw_nearthrees_k31_first_triple_asked_for).prog w) 6 63 "_law_script" mg f h := by
  have e := hfa.symm.trans (He.glo_ok X G (c.t.d.fact 13 (f := .glo "law") rfl))
  cases e
  obtain ⟨fd, D0, D1, D2, D3, D4, D5, D6, D7, D8, D9, D10, D11, D12, D13⟩ := fds_ok c
  have b := FunD.bindsA (ps := ["_law_script"]) D13 fun _ _ _ _ _ _ us hl => match us, hl with | [_], _ => rfl
  refine ⟨fd 13, tfl.map (He.cT K), spP (gx K) 1 F_law, fun p hp => ?_, fun p hp => ?_, fun p hp => ?_, fun s u => b s [u] rfl, fun H a ns hl _ hH hS => law_sp hl hH hS, fun base XB GB tb => ok_law (top_ok XB GB c tb D0 D1 D2 D3 D4 D5 D6 D7 D8 D9 D10 D11 D12 D13)⟩
  · obtain ⟨q, hq, rfl⟩ := List.mem_map.mp hp
    exact c.empty q hq
  · obtain ⟨q, hq, rfl⟩ := List.mem_map.mp hp
    exact c.out q hq
  · obtain ⟨q, hq, rfl⟩ := List.mem_map.mp hp
    exact PySem.W.codeHd_of_K X (c.hd q hq)
end W
open PySem PySem.W PySem.Calls PyProof.Rows
theorem PySem.Challenge.cw_nearthrees_k31_first_triple_asked_for_holds : PySem.Challenge.rw_nearthrees_k31_first_triple_asked_for.Holds := by
  w_on; o_law
  refine HandSHeadRun.head_any (r := OpenLaw.row PySem.Challenge.rw_nearthrees_k31_first_triple_asked_for) (q := view (OpenLaw.row PySem.Challenge.rw_nearthrees_k31_first_triple_asked_for).prog [25]) (H := W.hk) (ob := W.ob) (M := 4000) (loose := W.loosel) (d := HandSHeadRun.topDef (OpenLaw.row PySem.Challenge.rw_nearthrees_k31_first_triple_asked_for).prog 25) (kwd := []) W.ob_eq
    (by kernel_rfl) (fun s => by kernel_rfl) W.run (by kernel_rfl) (by kernel_rfl) (by kernel_rfl) (by rfl) (by first | assumption | decide +kernel) (by decide +kernel) ⟨rfl, rfl, rfl, rfl, rfl, by decide +kernel⟩ ?hw ?hc
  case hw => w_witness2
  case hc =>
    refine LamX.walk_ofTsE (l := PySem.Challenge.rw_nearthrees_k31_first_triple_asked_for) (n := 63) (k := 6) (x := "_law_script") (CX := fun w => L2.CX (PySem.Challenge.rw_nearthrees_k31_first_triple_asked_for).prog w) rfl (by decide) (by kernel_rfl) ⟨rfl, by decide, by decide⟩ ?F (fun w H s e s' z => ?_)
    · intro w mg fa h Y G hmg0
      obtain ⟨K, KX, c⟩ := Y
      have hmg : mg ("law" : PySem.Str) = some (.ref fa) := by
        have e : (HandSHeadRun.topDef (OpenLaw.row PySem.Challenge.rw_nearthrees_k31_first_triple_asked_for).prog 25).name = ("law" : PySem.Str) := by kernel_rfl
        rw [← e]
        exact hmg0
      exact ⟨K, KX, W.lawAt KX G hmg c⟩
    · obtain ⟨_, _, _, _, _, _, _, _, _, _, _, _, z⟩ := z
      exact False.elim z


