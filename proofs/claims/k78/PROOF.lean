import PyProof.Rows.All
import Wide.All
import OpenK.AllK
import Wide.FinOn
import HandS.ForMost
import HandS.Wide
import HandS.Flow
import HandS.Style
import HandS.Zip
import HandS.TupAny
import HandS.TupMul
import HandS.IsInst
import HandS.Iter
import HandS.Deep
import HandS.WordsDict
import PyProof.NeData
import PyProof.P3In
import KE.KRevSl
import HandS.Text
import PySem.Challenge.RW_awaitrounds_k78_whole_marked_words_seen
set_option Elab.async false
set_option linter.all false
set_option maxRecDepth 100000
/-! A functional layer over HandS: values as plain trees, a heap of lists and dicts by number, each construct a plain partial function. -/
namespace L2.Aw
open PySem PySem.Spec PyProof.Rows

/-- a value: tuples are plain data, lists and dicts stand in the store -/
inductive W where
  | non | bl (b : Bool) | int (i : Int) | str (x : Str) | tup (ws : List W) | ref (n : Nat) | fz (ws : List W)

/-- what stands in the store -/
inductive MO where
  | lst (ws : List W)
  | dK (kvs : List (Key × W))
  | dT (kvs : List (List Key × W))

abbrev Store := List MO
abbrev WEnv := List (Option W)

/-- the ghost state: where the store's objects lie -/
structure Gw where
  φ : Nat → Addr
  S : Store
  H : Hp

/-- a list that nobody writes (the script) -/
def FzL (K : PySem.W.Frag) (H : Hp) (a : Addr) (xs : List V) : Prop :=
  (∃ o, H a = some (.frz o (.lst xs))) ∨
    ∃ (o : Obj) (its : Array Value) (n : Nat), K.lookup a = some o ∧ o.cls = .type "list" ∧ o.dict = none ∧ o.data = .seq its n ∧ its.size ≤ sizeLine ∧ Vals xs its.toList
theorem FzL.seq {K : PySem.W.Frag} {H : Hp} {a : Addr} {xs : List V} (h : FzL K H a xs) : SqL K H a xs := by
  rcases h with ⟨o, h⟩ | h
  · exact .inl (.inr ⟨o, h⟩)
  · exact .inr h
mutual
def WR (K : PySem.W.Frag) (φ : Nat → Addr) (n : Nat) (H : Hp) : W → V → Prop
  | .non, v => v = .non
  | .bl b, v => v = .bl b
  | .int i, v => v = .int i
  | .str x, v => v = .str x
  | .tup ws, v => ∃ a xs, v = .ref a ∧ H a = some (.tup xs) ∧ WRs K φ n H ws xs
  | .ref i, v => i < n ∧ v = .ref (φ i)
  | .fz ws, v => ∃ a xs, v = .ref a ∧ FzL K H a xs ∧ WRs K φ n H ws xs
def WRs (K : PySem.W.Frag) (φ : Nat → Addr) (n : Nat) (H : Hp) : List W → List V → Prop
  | [], xs => xs = []
  | w :: ws, xs => ∃ x r, xs = x :: r ∧ WR K φ n H w x ∧ WRs K φ n H ws r
end

theorem W.ind {P : W → Prop} (h0 : P .non) (h1 : ∀ b, P (.bl b)) (h2 : ∀ i, P (.int i)) (h3 : ∀ x, P (.str x)) (h4 : ∀ n, P (.ref n)) (h5 : ∀ ws, (∀ w ∈ ws, P w) → P (.tup ws)) (h6 : ∀ ws, (∀ w ∈ ws, P w) → P (.fz ws)) : ∀ w, P w := by
  intro w
  exact W.rec (motive_1 := P) (motive_2 := fun ws => ∀ w ∈ ws, P w) h0 h1 h2 h3 h5 h4 h6 (by simp) (fun w ws hw hws x hx => by
    rcases List.mem_cons.mp hx with e | e
    · rw [e]; exact hw
    · exact hws x e) w

section
variable {K : PySem.W.Frag} {φ φ' : Nat → Addr} {n n' : Nat} {H H' : Hp}

theorem WRs.length : ∀ {ws : List W} {xs : List V}, WRs K φ n H ws xs → ws.length = xs.length
  | [], xs, h => by
    have e : xs = [] := by simpa [WRs] using h
    rw [e]
    rfl
  | w :: ws, xs, h => by
    obtain ⟨x, r, e, _, h2⟩ := (show ∃ x r, xs = x :: r ∧ WR K φ n H w x ∧ WRs K φ n H ws r by simpa [WRs] using h)
    rw [e, List.length_cons, List.length_cons, WRs.length h2]
theorem WRs.nil : WRs K φ n H [] [] := by simp [WRs]
theorem WRs.cons {w : W} {ws : List W} {x : V} {xs : List V} (h : WR K φ n H w x) (t : WRs K φ n H ws xs) : WRs K φ n H (w :: ws) (x :: xs) := by
  rw [WRs]
  exact ⟨x, xs, rfl, h, t⟩
theorem WRs.cons_inv {w : W} {ws : List W} {xs : List V} (h : WRs K φ n H (w :: ws) xs) : ∃ x r, xs = x :: r ∧ WR K φ n H w x ∧ WRs K φ n H ws r := by
  rw [WRs] at h
  exact h
theorem WRs.nil_inv {xs : List V} (h : WRs K φ n H [] xs) : xs = [] := by
  rw [WRs] at h
  exact h
theorem WRs.get : ∀ {ws : List W} {xs : List V} {i : Nat} {w : W}, WRs K φ n H ws xs → ws[i]? = some w → ∃ x, xs[i]? = some x ∧ WR K φ n H w x
  | [], _, _, _, _, e => by simp at e
  | w :: ws, xs, i, w', h, e => by
    obtain ⟨x, r, e2, h1, h2⟩ := h.cons_inv
    subst e2
    cases i with
    | zero =>
      simp at e
      subst e
      exact ⟨x, rfl, h1⟩
    | succ i =>
      obtain ⟨y, q1, q2⟩ := WRs.get (i := i) h2 (by simpa using e)
      exact ⟨y, by simpa using q1, q2⟩
theorem WRs.getV : ∀ {ws : List W} {xs : List V} {i : Nat} {x : V}, WRs K φ n H ws xs → xs[i]? = some x → ∃ w, ws[i]? = some w ∧ WR K φ n H w x
  | [], xs, _, _, h, e => by
    rw [h.nil_inv] at e
    simp at e
  | w :: ws, xs, i, x', h, e => by
    obtain ⟨x, r, e2, h1, h2⟩ := h.cons_inv
    subst e2
    cases i with
    | zero =>
      simp at e
      subst e
      exact ⟨w, rfl, h1⟩
    | succ i =>
      obtain ⟨y, q1, q2⟩ := WRs.getV (i := i) h2 (by simpa using e)
      exact ⟨y, by simpa using q1, q2⟩
theorem WRs.append : ∀ {ws us : List W} {xs ys : List V}, WRs K φ n H ws xs → WRs K φ n H us ys → WRs K φ n H (ws ++ us) (xs ++ ys)
  | [], us, xs, ys, h, t => by
    rw [h.nil_inv]
    exact t
  | w :: ws, us, xs, ys, h, t => by
    obtain ⟨x, r, e2, h1, h2⟩ := h.cons_inv
    subst e2
    exact .cons h1 (WRs.append h2 t)
theorem WRs.drop : ∀ {ws : List W} {xs : List V} (k : Nat), WRs K φ n H ws xs → WRs K φ n H (ws.drop k) (xs.drop k)
  | _, _, 0, h => h
  | [], xs, k + 1, h => by
    rw [h.nil_inv]
    exact .nil
  | w :: ws, xs, k + 1, h => by
    obtain ⟨x, r, e2, h1, h2⟩ := h.cons_inv
    subst e2
    exact WRs.drop k h2
theorem WRs.take : ∀ {ws : List W} {xs : List V} (k : Nat), WRs K φ n H ws xs → WRs K φ n H (ws.take k) (xs.take k)
  | _, _, 0, h => .nil
  | [], xs, k + 1, h => by
    rw [h.nil_inv]
    exact .nil
  | w :: ws, xs, k + 1, h => by
    obtain ⟨x, r, e2, h1, h2⟩ := h.cons_inv
    subst e2
    exact .cons h1 (WRs.take k h2)
theorem WRs.set : ∀ {ws : List W} {xs : List V} (k : Nat) {w : W} {x : V}, WRs K φ n H ws xs → WR K φ n H w x → WRs K φ n H (ws.set k w) (xs.set k x)
  | [], xs, k, _, _, h, _ => by
    rw [h.nil_inv]
    exact .nil
  | w :: ws, xs, k, w', x', h, q => by
    obtain ⟨x, r, e2, h1, h2⟩ := h.cons_inv
    subst e2
    cases k with
    | zero => exact .cons q h2
    | succ k => exact .cons h1 (WRs.set k h2 q)
theorem WRs.reverse : ∀ {ws : List W} {xs : List V}, WRs K φ n H ws xs → WRs K φ n H ws.reverse xs.reverse
  | [], xs, h => by
    rw [h.nil_inv]
    exact .nil
  | w :: ws, xs, h => by
    obtain ⟨x, r, e2, h1, h2⟩ := h.cons_inv
    subst e2
    rw [List.reverse_cons, List.reverse_cons]
    exact (WRs.reverse h2).append (.cons h1 .nil)
theorem WRs.replicate {w : W} {x : V} (h : WR K φ n H w x) : ∀ k, WRs K φ n H (List.replicate k w) (List.replicate k x)
  | 0 => .nil
  | k + 1 => by
    rw [List.replicate_succ, List.replicate_succ]
    exact .cons h (WRs.replicate h k)
theorem WRs.rep {ws : List W} {xs : List V} (h : WRs K φ n H ws xs) : ∀ k, WRs K φ n H (List.replicate k ws).flatten (List.replicate k xs).flatten
  | 0 => .nil
  | k + 1 => by
    rw [List.replicate_succ, List.replicate_succ, List.flatten_cons, List.flatten_cons]
    exact h.append (WRs.rep h k)
/-- a change that keeps the tuples and the places -/
theorem WR.mono (hn : n ≤ n') (hφ : ∀ i, i < n → φ' i = φ i) (ht : ∀ a xs, H a = some (.tup xs) → H' a = some (.tup xs)) (hf : ∀ a xs, FzL K H a xs → FzL K H' a xs) : ∀ (w : W) (v : V), WR K φ n H w v → WR K φ' n' H' w v := by
  intro w
  refine W.ind (P := fun w => ∀ v, WR K φ n H w v → WR K φ' n' H' w v) ?_ ?_ ?_ ?_ ?_ ?_ ?_ w
  · intro v h; simpa [WR] using h
  · intro b v h; simpa [WR] using h
  · intro i v h; simpa [WR] using h
  · intro x v h; simpa [WR] using h
  · intro i v h
    rw [WR] at h ⊢
    obtain ⟨h1, h2⟩ := h
    exact ⟨Nat.lt_of_lt_of_le h1 hn, by rw [hφ i h1]; exact h2⟩
  · intro ws ih v h
    rw [WR] at h ⊢
    obtain ⟨a, xs, e, h1, h2⟩ := h
    refine ⟨a, xs, e, ht a xs h1, ?_⟩
    clear e h1
    induction ws generalizing xs with
    | nil => rw [h2.nil_inv]; exact .nil
    | cons w ws ih2 =>
      obtain ⟨x, r, e2, q1, q2⟩ := h2.cons_inv
      subst e2
      exact .cons (ih w List.mem_cons_self x q1) (ih2 (fun w hw => ih w (List.mem_cons_of_mem _ hw)) r q2)
  · intro ws ih v h
    rw [WR] at h ⊢
    obtain ⟨a, xs, e, h1, h2⟩ := h
    refine ⟨a, xs, e, hf a xs h1, ?_⟩
    clear e h1
    induction ws generalizing xs with
    | nil => rw [h2.nil_inv]; exact .nil
    | cons w ws ih2 =>
      obtain ⟨x, r, e2, q1, q2⟩ := h2.cons_inv
      subst e2
      exact .cons (ih w List.mem_cons_self x q1) (ih2 (fun w hw => ih w (List.mem_cons_of_mem _ hw)) r q2)
theorem WRs.mono (hn : n ≤ n') (hφ : ∀ i, i < n → φ' i = φ i) (ht : ∀ a xs, H a = some (.tup xs) → H' a = some (.tup xs)) (hf : ∀ a xs, FzL K H a xs → FzL K H' a xs) : ∀ {ws : List W} {xs : List V}, WRs K φ n H ws xs → WRs K φ' n' H' ws xs
  | [], xs, h => by rw [h.nil_inv]; exact .nil
  | w :: ws, xs, h => by
    obtain ⟨x, r, e2, q1, q2⟩ := h.cons_inv
    subst e2
    exact .cons (WR.mono hn hφ ht hf w x q1) (WRs.mono hn hφ ht hf q2)
end

abbrev Gw.WR (K : PySem.W.Frag) (g : Gw) (w : W) (v : V) : Prop := L2.Aw.WR K g.φ g.S.length g.H w v
abbrev Gw.WRs (K : PySem.W.Frag) (g : Gw) (ws : List W) (vs : List V) : Prop := L2.Aw.WRs K g.φ g.S.length g.H ws vs

def KR {κ : Type} (K : PySem.W.Frag) (g : Gw) : List (κ × W) → List (κ × V) → Prop := Paired fun (p : κ × W) (q : κ × V) => p.1 = q.1 ∧ g.WR K p.2 q.2

def MR (K : PySem.W.Frag) (g : Gw) : MO → HO → Prop
  | .lst ws, o => ∃ xs, o = .lst xs ∧ g.WRs K ws xs
  | .dK kvs, o => ∃ ys, o = .dK ys ∧ KR K g kvs ys
  | .dT kvs, o => ∃ ys, o = .dT ys ∧ KR K g kvs ys

structure Gw.Ok (K : PySem.W.Frag) (g : Gw) : Prop where
  inj : ∀ i j, i < g.S.length → j < g.S.length → g.φ i = g.φ j → i = j
  at_ : ∀ (i : Nat) (o : MO), g.S[i]? = some o → ∃ ho, g.H (g.φ i) = some ho ∧ MR K g o ho

/-- from g on to g': places stay, new ones are new, what the store does not hold is untouched -/
structure Ext (g g' : Gw) : Prop where
  len : g.S.length ≤ g'.S.length
  φ : ∀ i, i < g.S.length → g'.φ i = g.φ i
  new : ∀ i, g.S.length ≤ i → i < g'.S.length → g.H (g'.φ i) = none
  keep : ∀ a o, g.H a = some o → (∀ i, i < g.S.length → g.φ i ≠ a) → g'.H a = some o

section
variable {K : PySem.W.Frag} {g g1 g2 : Gw}
theorem MR.mut {o : MO} {ho : HO} (h : MR K g o ho) : Mut (some ho) := by
  cases o with
  | lst ws => obtain ⟨xs, e, _⟩ := h; subst e; trivial
  | dK ws => obtain ⟨xs, e, _⟩ := h; subst e; trivial
  | dT ws => obtain ⟨xs, e, _⟩ := h; subst e; trivial
theorem Gw.Ok.lt_at (ok : g.Ok K) {i : Nat} (h : i < g.S.length) : ∃ ho, g.H (g.φ i) = some ho ∧ MR K g g.S[i] ho := ok.at_ i _ (List.getElem?_eq_getElem h)
theorem Gw.Ok.nottup (ok : g.Ok K) {a : Addr} {xs : List V} (h : Rd g.H a (.tup xs)) : ∀ i, i < g.S.length → g.φ i ≠ a := by
  intro i hi e
  obtain ⟨ho, h1, h2⟩ := ok.lt_at hi
  rw [e] at h1
  have m := h2.mut
  rcases h with h | ⟨o, h⟩
  · rw [h] at h1
    cases h1
    exact m
  · rw [h] at h1
    cases h1
    exact m
theorem Ext.sqT (ok : g.Ok K) (x : Ext g g1) {a : Addr} {xs : List V} (h : SqT K g.H a xs) : SqT K g1.H a xs := by
  rcases h with h | h
  · have nt := ok.nottup h
    rcases h with h | ⟨o, h⟩
    · exact .inl (.inl (x.keep _ _ h nt))
    · exact .inl (.inr ⟨o, x.keep _ _ h nt⟩)
  · exact .inr h
theorem Ext.tup (ok : g.Ok K) (x : Ext g g1) {a : Addr} {xs : List V} (h : g.H a = some (.tup xs)) : g1.H a = some (.tup xs) := x.keep _ _ h (ok.nottup (.inl h))
theorem Gw.Ok.notfz (ok : g.Ok K) {a : Addr} {o : Obj} {u : HO} (h : g.H a = some (.frz o u)) : ∀ i, i < g.S.length → g.φ i ≠ a := by
  intro i hi e
  obtain ⟨ho, h1, h2⟩ := ok.lt_at hi
  rw [e, h] at h1
  cases h1
  exact h2.mut
theorem Ext.fzL (ok : g.Ok K) (x : Ext g g1) {a : Addr} {xs : List V} (h : FzL K g.H a xs) : FzL K g1.H a xs := by
  rcases h with ⟨o, h⟩ | h
  · exact .inl ⟨o, x.keep _ _ h (ok.notfz h)⟩
  · exact .inr h
theorem Ext.wr (ok : g.Ok K) (x : Ext g g1) {w : W} {v : V} (h : g.WR K w v) : g1.WR K w v := L2.Aw.WR.mono x.len x.φ (fun _ _ q => x.tup ok q) (fun _ _ q => x.fzL ok q) w v h
theorem Ext.wrs (ok : g.Ok K) (x : Ext g g1) {w : List W} {v : List V} (h : g.WRs K w v) : g1.WRs K w v := L2.Aw.WRs.mono x.len x.φ (fun _ _ q => x.tup ok q) (fun _ _ q => x.fzL ok q) h
theorem Ext.refl (g : Gw) : Ext g g := ⟨Nat.le_refl _, fun _ _ => rfl, fun i a b => absurd (Nat.lt_of_le_of_lt a b) (Nat.lt_irrefl _), fun _ _ h _ => h⟩
theorem Ext.trans (ok1 : g1.Ok K) (x : Ext g g1) (y : Ext g1 g2) : Ext g g2 where
  len := Nat.le_trans x.len y.len
  φ := fun i h => by rw [y.φ i (Nat.lt_of_lt_of_le h x.len), x.φ i h]
  new := fun i a b => by
    by_cases h : i < g1.S.length
    · rw [y.φ i h]; exact x.new i a h
    · have n1 := y.new i (Nat.le_of_not_lt h) b
      cases e : g.H (g2.φ i) with
      | none => rfl
      | some o =>
        exfalso
        by_cases hr : ∀ j, j < g.S.length → g.φ j ≠ g2.φ i
        · rw [x.keep _ _ e hr] at n1
          cases n1
        · refine hr fun j hj ej => ?_
          obtain ⟨ho, h1, _⟩ := ok1.lt_at (Nat.lt_of_lt_of_le hj x.len)
          rw [x.φ j hj, ej, n1] at h1
          cases h1
  keep := fun a o e hr => y.keep a o (x.keep a o e hr) fun i hi ei => by
    by_cases h : i < g.S.length
    · rw [x.φ i h] at ei
      exact hr i h ei
    · have := x.new i (Nat.le_of_not_lt h) hi
      rw [ei, e] at this
      cases this
theorem KR.mono {κ : Type} (ok : g.Ok K) (x : Ext g g1) {kvs : List (κ × W)} {ys : List (κ × V)} (h : KR K g kvs ys) : KR K g1 kvs ys := Paired.mapP h fun p q z => ⟨z.1, x.wr ok z.2⟩
theorem MR.mono (ok : g.Ok K) (x : Ext g g1) {o : MO} {ho : HO} (h : MR K g o ho) : MR K g1 o ho := by
  cases o with
  | lst ws => obtain ⟨xs, e, q⟩ := h; exact ⟨xs, e, x.wrs ok q⟩
  | dK ws => obtain ⟨xs, e, q⟩ := h; exact ⟨xs, e, KR.mono ok x q⟩
  | dT ws => obtain ⟨xs, e, q⟩ := h; exact ⟨xs, e, KR.mono ok x q⟩
/-- an object that the store does not hold is new -/
def Gw.out (g : Gw) (p : Addr) (o : HO) : Gw := { g with H := upd g.H p o }
theorem Ext.out {p : Addr} {o : HO} (hp : g.H p = none) : Ext g (g.out p o) :=
  ⟨Nat.le_refl _, fun _ _ => rfl, fun i a b => absurd (Nat.lt_of_le_of_lt a b) (Nat.lt_irrefl _), fun a u h _ => by show upd g.H p o a = some u; rw [upd_ne (ne_of_none h hp)]; exact h⟩
theorem Gw.Ok.out {p : Addr} {o : HO} (ok : g.Ok K) (hp : g.H p = none) : (g.out p o).Ok K :=
  ⟨ok.inj, fun i m h => by
    obtain ⟨ho, h1, h2⟩ := ok.at_ i m h
    exact ⟨ho, by show upd g.H p o (g.φ i) = _; rw [upd_ne (ne_of_none h1 hp)]; exact h1, h2.mono ok (Ext.out hp)⟩⟩
/-- a new object of the store -/
def Gw.push (g : Gw) (p : Addr) (m : MO) (o : HO) : Gw := ⟨fun i => if i = g.S.length then p else g.φ i, g.S ++ [m], upd g.H p o⟩
theorem Ext.push {p : Addr} {m : MO} {o : HO} (ok : g.Ok K) (hp : g.H p = none) : Ext g (g.push p m o) where
  len := by show g.S.length ≤ (g.S ++ [m]).length; rw [List.length_append]; exact Nat.le_add_right _ _
  φ := fun i h => by show (if i = g.S.length then p else g.φ i) = _; rw [if_neg (Nat.ne_of_lt h)]
  new := fun i a b => by
    have e : i = g.S.length := by
      have b' : i < (g.S ++ [m]).length := b
      rw [List.length_append, List.length_singleton] at b'
      omega
    show g.H (if i = g.S.length then p else g.φ i) = none
    rw [if_pos e]; exact hp
  keep := fun a u h _ => by show upd g.H p o a = some u; rw [upd_ne (ne_of_none h hp)]; exact h
theorem Gw.Ok.push {p : Addr} {m : MO} {o : HO} (ok : g.Ok K) (hp : g.H p = none) (hm : MR K g m o) : (g.push p m o).Ok K := by
  have x := Ext.push (m := m) (o := o) ok hp
  refine ⟨fun i j hi hj e => ?_, fun i u h => ?_⟩
  · have li : i < g.S.length + 1 := by have := hi; rwa [show (g.push p m o).S = g.S ++ [m] from rfl, List.length_append] at this
    have lj : j < g.S.length + 1 := by have := hj; rwa [show (g.push p m o).S = g.S ++ [m] from rfl, List.length_append] at this
    have e' : (if i = g.S.length then p else g.φ i) = (if j = g.S.length then p else g.φ j) := e
    by_cases h1 : i = g.S.length <;> by_cases h2 : j = g.S.length
    · rw [h1, h2]
    · rw [if_pos h1, if_neg h2] at e'
      obtain ⟨ho, q, _⟩ := ok.lt_at (show j < g.S.length by omega)
      rw [← e', hp] at q; cases q
    · rw [if_neg h1, if_pos h2] at e'
      obtain ⟨ho, q, _⟩ := ok.lt_at (show i < g.S.length by omega)
      rw [e', hp] at q; cases q
    · rw [if_neg h1, if_neg h2] at e'
      exact ok.inj i j (by omega) (by omega) e'
  · have h' : (g.S ++ [m])[i]? = some u := h
    by_cases hi : i < g.S.length
    · rw [List.getElem?_append_left hi] at h'
      obtain ⟨ho, q1, q2⟩ := ok.at_ i u h'
      refine ⟨ho, ?_, q2.mono ok x⟩
      show upd g.H p o (if i = g.S.length then p else g.φ i) = _
      rw [if_neg (Nat.ne_of_lt hi), upd_ne (ne_of_none q1 hp)]
      exact q1
    · rw [List.getElem?_append_right (Nat.le_of_not_lt hi)] at h'
      have e : i = g.S.length := by
        have := (List.getElem?_eq_some_iff.mp h').1
        simp at this
        omega
      subst e
      simp at h'
      subst h'
      refine ⟨o, ?_, hm.mono ok x⟩
      show upd g.H p o (if g.S.length = g.S.length then p else g.φ g.S.length) = _
      rw [if_pos rfl, upd_same]
/-- an object of the store changed -/
def Gw.set (g : Gw) (i : Nat) (m : MO) (o : HO) : Gw := ⟨g.φ, g.S.set i m, upd g.H (g.φ i) o⟩
theorem Ext.set {i : Nat} {m : MO} {o : HO} (hi : i < g.S.length) : Ext g (g.set i m o) where
  len := by show g.S.length ≤ (g.S.set i m).length; rw [List.length_set]; exact Nat.le_refl _
  φ := fun _ _ => rfl
  new := fun j a b => by
    have b' : j < (g.S.set i m).length := b
    rw [List.length_set] at b'
    omega
  keep := fun a u h hr => by show upd g.H (g.φ i) o a = some u; rw [upd_ne (Ne.symm (hr i hi))]; exact h
theorem Gw.Ok.set {i : Nat} {m : MO} {o : HO} (ok : g.Ok K) (hi : i < g.S.length) (hm : MR K g m o) : (g.set i m o).Ok K := by
  have x := Ext.set (m := m) (o := o) hi
  have sl : (g.set i m o).S.length = g.S.length := by show (g.S.set i m).length = _; rw [List.length_set]
  refine ⟨fun a b ha hb e => ok.inj a b (sl ▸ ha) (sl ▸ hb) e, fun j u h => ?_⟩
  have h' : (g.S.set i m)[j]? = some u := h
  by_cases e : i = j
  · subst e
    rw [List.getElem?_set_self hi] at h'
    cases h'
    exact ⟨o, upd_same, hm.mono ok x⟩
  · rw [List.getElem?_set_ne e] at h'
    obtain ⟨ho, q1, q2⟩ := ok.at_ j u h'
    refine ⟨ho, ?_, q2.mono ok x⟩
    have hj : j < g.S.length := (List.getElem?_eq_some_iff.mp h').1
    show upd g.H (g.φ i) o (g.φ j) = _
    rw [upd_ne fun z => e (ok.inj _ _ hj hi z).symm]
    exact q1
end

/-! ### the environment -/
structure EnvR (K : PySem.W.Frag) (g : Gw) (env : WEnv) (σ : St) : Prop where
  len : env.length = σ.length
  at_ : ∀ (i : Nat) (w : W), env[i]? = some (some w) → ∃ v, σ[i]? = some (some v) ∧ g.WR K w v
section
variable {K : PySem.W.Frag} {g g1 g2 : Gw} {env : WEnv} {σ : St}
theorem EnvR.mono (ok : g.Ok K) (x : Ext g g1) (e : EnvR K g env σ) : EnvR K g1 env σ := ⟨e.len, fun i w h => by
  obtain ⟨v, h1, h2⟩ := e.at_ i w h
  exact ⟨v, h1, x.wr ok h2⟩⟩
theorem EnvR.set {i : Nat} {w : W} {v : V} (e : EnvR K g env σ) (h : g.WR K w v) : EnvR K g (env.set i (some w)) (σ.set i (some v)) := by
  refine ⟨by rw [List.length_set, List.length_set]; exact e.len, fun j u hj => ?_⟩
  by_cases c : i = j
  · subst c
    by_cases hl : i < env.length
    · rw [List.getElem?_set_self hl] at hj
      cases hj
      exact ⟨v, List.getElem?_set_self (e.len ▸ hl), h⟩
    · rw [List.getElem?_eq_none (by rw [List.length_set]; omega)] at hj
      cases hj
  · rw [List.getElem?_set_ne c] at hj
    obtain ⟨v', h1, h2⟩ := e.at_ j u hj
    exact ⟨v', by rw [List.getElem?_set_ne c]; exact h1, h2⟩
def wipeE (env : WEnv) : List Nat → WEnv
  | [] => env
  | v :: vs => (wipeE env vs).set v none
theorem EnvR.wiped (e : EnvR K g env σ) : ∀ vs, EnvR K g (wipeE env vs) (wipe σ vs)
  | [] => e
  | v :: vs => by
    have q := EnvR.wiped e vs
    refine ⟨by show ((wipeE env vs).set v none).length = ((wipe σ vs).set v none).length; rw [List.length_set, List.length_set]; exact q.len, fun j u hj => ?_⟩
    have hj' : ((wipeE env vs).set v none)[j]? = some (some u) := hj
    by_cases c : v = j
    · subst c
      by_cases hl : v < (wipeE env vs).length
      · rw [List.getElem?_set_self hl] at hj'
        cases hj'
      · rw [List.getElem?_eq_none (by rw [List.length_set]; omega)] at hj'
        cases hj'
    · rw [List.getElem?_set_ne c] at hj'
      obtain ⟨v', h1, h2⟩ := q.at_ j u hj'
      exact ⟨v', by show ((wipe σ vs).set v none)[j]? = _; rw [List.getElem?_set_ne c]; exact h1, h2⟩
end

/-! ### the judgements -/
abbrev WE := WEnv → Store → Option (W × Store)
abbrev WA := WEnv → Store → Option (List W × Store)
abbrev WT := WEnv → Store → Option (Bool × Store)
inductive Out where
  | nx (env : WEnv) (S : Store) | rt (w : W) (S : Store) | bk (env : WEnv) (S : Store) | ct (env : WEnv) (S : Store)
abbrev WS := WEnv → Store → Option Out
/-- what is handed on behind g -/
def Then (K : PySem.W.Frag) (g : Gw) (S' : Store) (Q : Gw → Prop) : Prop := ∀ g', g'.S = S' → Ext g g' → g'.Ok K → Q g'
def tW (K : PySem.W.Frag) (m : WE) : TE := fun σ H Q => ∃ g env w S', g.H = H ∧ g.Ok K ∧ EnvR K g env σ ∧ m env g.S = some (w, S') ∧ Then K g S' fun g' => ∀ v, g'.WR K w v → Q v g'.H
def tWA (K : PySem.W.Frag) (m : WA) : TA := fun σ H Q => ∃ g env ws S', g.H = H ∧ g.Ok K ∧ EnvR K g env σ ∧ m env g.S = some (ws, S') ∧ Then K g S' fun g' => ∀ vs, g'.WRs K ws vs → Q vs g'.H
def tWT (K : PySem.W.Frag) (m : WT) : TT := fun σ H Q => ∃ g env b S', g.H = H ∧ g.Ok K ∧ EnvR K g env σ ∧ m env g.S = some (b, S') ∧ Then K g S' fun g' => Q b g'.H
def post (K : PySem.W.Frag) (g : Gw) (D : Ends) : Out → Prop
  | .nx env S => Then K g S fun g' => ∀ σ, EnvR K g' env σ → D.nx σ g'.H
  | .bk env S => Then K g S fun g' => ∀ σ, EnvR K g' env σ → D.bk σ g'.H
  | .ct env S => Then K g S fun g' => ∀ σ, EnvR K g' env σ → D.ct σ g'.H
  | .rt w S => Then K g S fun g' => ∀ v, g'.WR K w v → D.rt v g'.H
def tWS (K : PySem.W.Frag) (m : WS) : TS := fun D σ H => ∃ g env o, g.H = H ∧ g.Ok K ∧ EnvR K g env σ ∧ m env g.S = some o ∧ post K g D o
def QE (X : Cx) (e : Expr) (m : WE) : Prop := PE X e (tW X.K m)
def QA (X : Cx) (es : List Expr) (m : WA) : Prop := PA X es (tWA X.K m)
def QT (X : Cx) (e : Expr) (m : WT) : Prop := PT X e (tWT X.K m)
def QS (X : Cx) (st : Stmt) (m : WS) : Prop := PS X st (tWS X.K m)
def QSs (X : Cx) (st : List Stmt) (m : WS) : Prop := PSs X st (tWS X.K m)

theorem PE.weak {X : Cx} {e : Expr} {t t' : TE} (h : PE X e t) (i : ∀ σ H Q, t' σ H Q → t σ H Q) : PE X e t' := ⟨fun pins s σ H Q I q => h.run pins s σ H Q I (i σ H Q q)⟩
theorem PT.weak {X : Cx} {e : Expr} {t t' : TT} (h : PT X e t) (i : ∀ σ H Q, t' σ H Q → t σ H Q) : PT X e t' := ⟨fun pins s σ H Q I q => h.run pins s σ H Q I (i σ H Q q)⟩
theorem PA.weak {X : Cx} {e : List Expr} {t t' : TA} (h : PA X e t) (i : ∀ σ H Q, t' σ H Q → t σ H Q) : PA X e t' := ⟨fun pos pins s σ H Q I q => h.run pos pins s σ H Q I (i σ H Q q)⟩
theorem PS.weak {X : Cx} {e : Stmt} {t t' : TS} (h : PS X e t) (i : ∀ D σ H, t' D σ H → t D σ H) : PS X e t' := ⟨fun pins s σ H D I q => h.run pins s σ H D I (i D σ H q)⟩
theorem PSs.weak {X : Cx} {e : List Stmt} {t t' : TS} (h : PSs X e t) (i : ∀ D σ H, t' D σ H → t D σ H) : PSs X e t' := ⟨fun pins s σ H D I q => h.run pins s σ H D I (i D σ H q)⟩

/-- the start of every rule: from a state with Then -/
theorem Then.step {K : PySem.W.Frag} {g g1 : Gw} {S' : Store} {Q : Gw → Prop} (ok1 : g1.Ok K) (x : Ext g g1) (h : Then K g S' Q) : Then K g1 S' Q := fun g2 e y ok2 => h g2 e (x.trans ok1 y) ok2
theorem Then.self {K : PySem.W.Frag} {g : Gw} {Q : Gw → Prop} (ok : g.Ok K) (h : Then K g g.S Q) : Q g := h g rfl (Ext.refl g) ok
end L2.Aw

namespace L2.Aw
open PySem PySem.Spec PyProof.Rows

/-! ### names and constants -/
section
variable {X : Cx} {pos : Pos} {a b c e : Expr} {es : List Expr} {ma mb mc me : WE} {mes : WA}

def mVar (i : Nat) : WE := fun env S => (env[i]?.join).map fun w => (w, S)
def mC (w : W) : WE := fun _ S => some (w, S)
theorem mVar_some {i : Nat} {env : WEnv} {S : Store} {w : W} {S' : Store} (h : mVar i env S = some (w, S')) : env[i]? = some (some w) ∧ S' = S := by
  unfold mVar at h
  cases q : env[i]? with
  | none => rw [q] at h; simp at h
  | some o =>
    cases o with
    | none => rw [q] at h; simp at h
    | some w' =>
      rw [q] at h
      simp at h
      exact ⟨by rw [h.1], h.2.symm⟩
theorem q_var (i : Nat) {x : Str} (hN : X.N[i]? = some x := by rfl) (hv : Vis X.env.scope x := by first | exact Or.inl rfl | exact Or.inr (Or.inl rfl) | exact Or.inr (Or.inr rfl)) (hd : (x == ("__debug__" : Str)) = false := by decide)
    (hcd : (x == ("__classdict__" : Str)) = false := by decide) : QE X (.Name x pos) (mVar i) :=
  PE.weak (pe_var hN hv hd hcd) fun σ H Q ⟨g, env, w, S', hH, ok, er, hm, q⟩ => by
    obtain ⟨h1, h2⟩ := mVar_some hm
    obtain ⟨v, e1, e2⟩ := er.at_ i w h1
    subst hH h2
    exact ⟨v, e1, Then.self ok q v e2⟩
theorem q_const {v : V} {w : W} (h : PE X e (tC v)) (r : ∀ g : Gw, g.WR X.K w v) : QE X e (mC w) :=
  PE.weak h fun σ H Q ⟨g, env, w', S', hH, ok, er, hm, q⟩ => by
    have hm' : some (w, g.S) = some (w', S') := hm
    cases hm'
    subst hH
    exact Then.self ok q v (r g)
theorem q_int {i : Int} {j} : QE X (.Constant (.int i) j pos) (mC (.int i)) := q_const pe_int fun g => by simp [Gw.WR, WR]
theorem q_str {i : Str} {j} : QE X (.Constant (.str i) j pos) (mC (.str i)) := q_const pe_str fun g => by simp [Gw.WR, WR]
theorem q_bl {i : Bool} {j} : QE X (.Constant (.bool i) j pos) (mC (.bl i)) := q_const pe_bl fun g => by simp [Gw.WR, WR]
theorem q_non {j} : QE X (.Constant .none j pos) (mC .non) := q_const pe_non fun g => by simp [Gw.WR, WR]
/-- a module's constant -/
def atomV : W → Option V
  | .non => some .non
  | .bl b => some (.bl b)
  | .int i => some (.int i)
  | .str x => some (.str x)
  | _ => none
theorem q_glob {x : Str} {w : W} {v : V} {u : Value} (hg : Gl X x) (hm : X.mg x = some u) (r : RelV v u) (ha : atomV w = some v) (hd : (x == ("__debug__" : Str)) = false := by decide) : QE X (.Name x pos) (mC w) :=
  q_const (pe_glob hg hm r hd) fun g => by
    cases w <;> simp [atomV] at ha <;> subst ha <;> simp [Gw.WR, WR]

/-! ### argument lists, displays -/
def aNil : WA := fun _ S => some ([], S)
def aCons (m : WE) (r : WA) : WA := fun env S => (m env S).bind fun p => (r env p.2).bind fun q => some (p.1 :: q.1, q.2)
theorem qa_nil : QA X [] aNil := PA.weak pa_nil fun σ H Q ⟨g, env, w, S', hH, ok, er, hm, q⟩ => by
  have hm' : some ([], g.S) = some (w, S') := hm
  cases hm'
  subst hH
  exact Then.self ok q [] .nil
theorem bind2 {α β γ : Type} {x : Option α} {f : α → Option β} {g : α → β → Option γ} {z : γ} (h : (x.bind fun p => (f p).bind fun q => g p q) = some z) : ∃ p q, x = some p ∧ f p = some q ∧ g p q = some z := by
  cases e : x with
  | none => rw [e] at h; cases h
  | some p =>
    rw [e] at h
    cases e2 : f p with
    | none => simp [e2] at h
    | some q => exact ⟨p, q, rfl, e2, by simpa [e2] using h⟩
theorem bind1 {α β : Type} {x : Option α} {f : α → Option β} {z : β} (h : x.bind f = some z) : ∃ p, x = some p ∧ f p = some z := by
  cases e : x with
  | none => rw [e] at h; cases h
  | some p => exact ⟨p, rfl, by rw [e] at h; exact h⟩
theorem qa_cons (ha : QE X e me) (hr : QA X es mes) (hs : starEach (e :: es) X.env = (false, eval e X.env) :: starEach es X.env := by rfl) : QA X (e :: es) (aCons me mes) :=
  PA.weak (pa_cons ha hr hs) fun σ H Q ⟨g, env, w, S', hH, ok, er, hm, q⟩ => by
    obtain ⟨⟨x, S1⟩, ⟨xs, S2⟩, e1, e2, e3⟩ := bind2 hm
    cases e3
    exact ⟨g, env, x, S1, hH, ok, er, e1, fun g1 h1 x1 ok1 v r => ⟨g1, env, xs, S2, rfl, ok1, er.mono ok x1, by rw [h1]; exact e2, fun g2 h2 x2 ok2 vs rs =>
      (q.step ok1 x1) g2 h2 x2 ok2 (v :: vs) (.cons (x2.wr ok1 r) rs)⟩⟩
/-- an expression's reading, as a step in a proof -/
theorem tW.go {K : PySem.W.Frag} {m : WE} {σ : St} {g : Gw} {env : WEnv} {Q : VK} {w : W} {S' : Store} (ok : g.Ok K) (er : EnvR K g env σ) (hm : m env g.S = some (w, S')) (q : Then K g S' fun g' => ∀ v, g'.WR K w v → Q v g'.H) : tW K m σ g.H Q :=
  ⟨g, env, w, S', rfl, ok, er, hm, q⟩
def szOk (n : Nat) : Bool := decide (n ≤ 16777216)
theorem szOk_le {n : Nat} (h : szOk n = true) : n ≤ sizeLine := by
  rw [sizeLine_eq]
  exact of_decide_eq_true h
/-- (a, b, ..) -/
def mTup (m : WA) : WE := fun env S => (m env S).bind fun p => if szOk p.1.length then some (.tup p.1, p.2) else none
theorem q_tup {k} (h : QA X es mes) : QE X (.Tuple es k pos) (mTup mes) :=
  PE.weak (pe_tup h) fun σ H Q ⟨g, env, w, S', hH, ok, er, hm, q⟩ => by
    obtain ⟨⟨ws, S1⟩, e1, e2⟩ := bind1 hm
    by_cases z : szOk ws.length = true
    · rw [if_pos z] at e2
      cases e2
      refine ⟨g, env, ws, S1, hH, ok, er, e1, fun g1 h1 x1 ok1 vs r => ⟨by rw [← r.length]; exact szOk_le z, fun p hp => ?_⟩⟩
      have x2 : Ext g1 (g1.out p (.tup vs)) := Ext.out hp
      exact (q.step ok1 x1) (g1.out p (.tup vs)) h1 x2 (ok1.out hp) (.ref p) (by
        rw [Gw.WR, WR]
        exact ⟨p, vs, rfl, upd_same, x2.wrs ok1 r⟩)
    · rw [if_neg z] at e2; cases e2
/-- [a, b, ..] -/
def newL (ws : List W) (S : Store) : Option (W × Store) := some (.ref S.length, S ++ [.lst ws])
def mLst (m : WA) : WE := fun env S => (m env S).bind fun p => if szOk p.1.length then newL p.1 p.2 else none
theorem Then.newL {K : PySem.W.Frag} {g : Gw} {ws : List W} {vs : List V} {w : W} {S' : Store} {Q : VK} (ok : g.Ok K) (r : g.WRs K ws vs) (hm : Aw.newL ws g.S = some (w, S')) (q : Then K g S' fun g' => ∀ v, g'.WR K w v → Q v g'.H) :
    ∀ p, g.H p = none → Q (.ref p) (upd g.H p (.lst vs)) := fun p hp => by
  cases hm
  have x2 : Ext g (g.push p (.lst ws) (.lst vs)) := Ext.push ok hp
  refine q (g.push p (.lst ws) (.lst vs)) rfl x2 (ok.push hp ⟨vs, rfl, r⟩) (.ref p) ?_
  rw [Gw.WR, WR]
  refine ⟨by show g.S.length < (g.S ++ [MO.lst ws]).length; rw [List.length_append]; exact Nat.lt_succ_self _, ?_⟩
  show V.ref p = .ref (if g.S.length = g.S.length then p else g.φ g.S.length)
  rw [if_pos rfl]
theorem q_lst (h : QA X es mes) : QE X (.List es pos) (mLst mes) :=
  PE.weak (pe_lst h) fun σ H Q ⟨g, env, w, S', hH, ok, er, hm, q⟩ => by
    obtain ⟨⟨ws, S1⟩, e1, e2⟩ := bind1 hm
    by_cases z : szOk ws.length = true
    · rw [if_pos z] at e2
      refine ⟨g, env, ws, S1, hH, ok, er, e1, fun g1 h1 x1 ok1 vs r => ⟨by rw [← r.length]; exact szOk_le z, ?_⟩⟩
      subst h1
      exact Then.newL ok1 r e2 (q.step ok1 x1)
    · rw [if_neg z] at e2; cases e2

/-! ### operators by values -/
abbrev W2 := W → W → Store → Option (W × Store)
def Bin (K : PySem.W.Frag) (f : W2) (r : R2) : Prop := ∀ (g : Gw) (x y : W) (v u : V) (w : W) (S' : Store) (Q : VK), g.Ok K → g.WR K x v → g.WR K y u → f x y g.S = some (w, S') → (Then K g S' fun g' => ∀ v, g'.WR K w v → Q v g'.H) → r v u g.H Q
def mBin (f : W2) (ma mb : WE) : WE := fun env S => (ma env S).bind fun p => (mb env p.2).bind fun q => f p.1 q.1 q.2
theorem tOp_of {r : R2} {f : W2} (hf : Bin X.K f r) : ∀ σ H Q, tW X.K (mBin f ma mb) σ H Q → tOp r (tW X.K ma) (tW X.K mb) σ H Q := fun σ H Q ⟨g, env, w, S', hH, ok, er, hm, q⟩ => by
  obtain ⟨⟨x, S1⟩, ⟨y, S2⟩, e1, e2, e3⟩ := bind2 hm
  exact ⟨g, env, x, S1, hH, ok, er, e1, fun g1 h1 x1 ok1 v r => ⟨g1, env, y, S2, rfl, ok1, er.mono ok x1, by rw [h1]; exact e2, fun g2 h2 x2 ok2 u s =>
    hf g2 x y v u w S' Q ok2 (x2.wr ok1 r) s (by rw [h2]; exact e3) ((q.step ok1 x1).step ok2 x2)⟩⟩
theorem q_bin {op : Operator} {r : R2} {f : W2} (ho : OpR X (binaryOp op) r) (hf : Bin X.K f r) (ha : QE X a ma) (hb : QE X b mb) : QE X (.BinOp a op b pos) (mBin f ma mb) :=
  PE.weak (pe_op ho ha hb) (tOp_of hf)
theorem q_cmp {op : CmpOp} {r : R2} {f : W2} (ho : OpR X (compareOp op) r) (hf : Bin X.K f r) (ha : QE X a ma) (hb : QE X b mb) (hm : behindInMarks op b = false) : QE X (.Compare a [op] [b] pos) (mBin f ma mb) :=
  PE.weak (pe_cmpR ho ha hb hm) (tOp_of hf)
theorem q_ix {r : R2} {f : W2} (ho : IxR X r) (hf : Bin X.K f r) (ha : QE X a ma) (hb : QE X b mb) (hs : PlainIx b) : QE X (.Subscript a b pos) (mBin f ma mb) :=
  PE.weak (pe_ix ho ha hb hs) (tOp_of hf)
theorem Bin.or1 {K : PySem.W.Frag} {f f1 f2 : W2} {r r' : R2} (h : Bin K f1 r) (h' : Bin K f2 r') (hf : ∀ x y S z, f x y S = some z → f1 x y S = some z ∨ f2 x y S = some z) : Bin K f (fun x y H Q => r x y H Q ∨ r' x y H Q) := fun g x y v u w S' Q ok rx ry e q =>
  (hf x y g.S _ e).elim (fun e => .inl (h g x y v u w S' Q ok rx ry e q)) fun e => .inr (h' g x y v u w S' Q ok rx ry e q)

/-- a value that is a bool, as a test -/
def mTest (m : WE) : WT := fun env S => (m env S).bind fun p => match p.1 with | .bl b => some (b, p.2) | _ => none
theorem mTest_some {m : WE} {env : WEnv} {S : Store} {b : Bool} {S' : Store} (h : mTest m env S = some (b, S')) : m env S = some (.bl b, S') := by
  obtain ⟨⟨w, S1⟩, e1, e2⟩ := bind1 h
  cases w with
  | bl k =>
    have e2' : some (k, S1) = some (b, S') := e2
    cases e2'
    exact e1
  | _ => cases e2
theorem qt_val (h : QE X e me) (he : ∀ whole, isTrue e X.env whole = (do let v ← whole; standAt e.pos; holding [v] (truthy v)) := by intro _; rfl) : QT X e (mTest me) :=
  PT.weak (pt_val h he) fun σ H Q ⟨g, env, b, S', hH, ok, er, hm, q⟩ => ⟨g, env, .bl b, S', hH, ok, er, mTest_some hm, fun g1 h1 x1 ok1 v r => ⟨b, by simpa [Gw.WR, WR] using r, q g1 h1 x1 ok1⟩⟩
theorem qt_cmp {op : CmpOp} {r : R2} {f : W2} (ho : OpR X (compareOp op) r) (hf : Bin X.K f r) (ha : QE X a ma) (hb : QE X b mb) (hm : behindInMarks op b = false) : QT X (.Compare a [op] [b] pos) (mTest (mBin f ma mb)) :=
  PT.weak (pt_cmpR ho ha hb hm) fun σ H Q ⟨g, env, b, S', hH, ok, er, hm, q⟩ => tOp_of hf σ H _ ⟨g, env, .bl b, S', hH, ok, er, mTest_some hm, fun g1 h1 x1 ok1 v r => ⟨b, by simpa [Gw.WR, WR] using r, q g1 h1 x1 ok1⟩⟩

/-! ### and, or, not -/
variable {rest : List Expr} {ta tb : WT}
def tAndW (ta tb : WT) : WT := fun env S => (ta env S).bind fun p => if p.1 then tb env p.2 else some (false, p.2)
def tOrW (ta tb : WT) : WT := fun env S => (ta env S).bind fun p => if p.1 then some (true, p.2) else tb env p.2
def tNotW (ta : WT) : WT := fun env S => (ta env S).map fun p => (!p.1, p.2)
def QW (X : Cx) (e : Expr) (m : WT) : Prop := PW X e (tWT X.K m)
theorem PW.weak {e : Expr} {t t' : TT} (h : PW X e t) (i : ∀ σ H Q, t' σ H Q → t σ H Q) : PW X e t' := ⟨fun wh pins s σ H Q I q => h.run wh pins s σ H Q I (i σ H Q q)⟩
theorem qw_and1 (ha : QT X a ta) : QW X (.BoolOp .And [a] pos) ta := pw_and1 ha
theorem qw_or1 (ha : QT X a ta) : QW X (.BoolOp .Or [a] pos) ta := pw_or1 ha
theorem qw_and (ha : QT X a ta) (hb : QW X (.BoolOp .And (b :: rest) pos) tb) : QW X (.BoolOp .And (a :: b :: rest) pos) (tAndW ta tb) :=
  PW.weak (pw_and ha hb) fun σ H Q ⟨g, env, c, S', hH, ok, er, hm, q⟩ => by
    obtain ⟨⟨k, S1⟩, e1, e2⟩ := bind1 hm
    refine ⟨g, env, k, S1, hH, ok, er, e1, fun g1 h1 x1 ok1 => ?_⟩
    cases k with
    | true => exact ⟨g1, env, c, S', rfl, ok1, er.mono ok x1, by rw [h1]; exact e2, q.step ok1 x1⟩
    | false =>
      have e2' : some (false, S1) = some (c, S') := e2
      cases e2'
      exact q g1 h1 x1 ok1
theorem qw_or (ha : QT X a ta) (hb : QW X (.BoolOp .Or (b :: rest) pos) tb) : QW X (.BoolOp .Or (a :: b :: rest) pos) (tOrW ta tb) :=
  PW.weak (pw_or ha hb) fun σ H Q ⟨g, env, c, S', hH, ok, er, hm, q⟩ => by
    obtain ⟨⟨k, S1⟩, e1, e2⟩ := bind1 hm
    refine ⟨g, env, k, S1, hH, ok, er, e1, fun g1 h1 x1 ok1 => ?_⟩
    cases k with
    | false => exact ⟨g1, env, c, S', rfl, ok1, er.mono ok x1, by rw [h1]; exact e2, q.step ok1 x1⟩
    | true =>
      have e2' : some (true, S1) = some (c, S') := e2
      cases e2'
      exact q g1 h1 x1 ok1
theorem qt_w (h : QW X e ta) : QT X e ta := PW.pt h
theorem qt_not (ha : QT X a ta) : QT X (.UnaryOp .Not a pos) (tNotW ta) :=
  PT.weak (pt_not ha) fun σ H Q ⟨g, env, c, S', hH, ok, er, hm, q⟩ => by
    cases e1 : ta env g.S with
    | none => rw [tNotW, e1] at hm; cases hm
    | some p =>
      obtain ⟨k, S1⟩ := p
      rw [tNotW, e1] at hm
      have hm' : some (!k, S1) = some (c, S') := hm
      cases hm'
      exact ⟨g, env, k, _, hH, ok, er, e1, fun g1 h1 x1 ok1 => q g1 h1 x1 ok1⟩
/-- a test as a value -/
def mOfT (t : WT) : WE := fun env S => (t env S).map fun p => (.bl p.1, p.2)
theorem mOfT_some {t : WT} {env : WEnv} {S : Store} {w : W} {S' : Store} (h : mOfT t env S = some (w, S')) : ∃ b, t env S = some (b, S') ∧ w = .bl b := by
  unfold mOfT at h
  cases e : t env S with
  | none => rw [e] at h; cases h
  | some p => rw [e] at h; cases h; exact ⟨p.1, rfl, rfl⟩
/-- and, or, not of bools, as values -/
def vAnd (ma mb : WE) : WE := fun env S => (ma env S).bind fun p => match p.1 with | .bl true => mb env p.2 | .bl false => some (.bl false, p.2) | _ => none
def vOr (ma mb : WE) : WE := fun env S => (ma env S).bind fun p => match p.1 with | .bl false => mb env p.2 | .bl true => some (.bl true, p.2) | _ => none
def vNot (ma : WE) : WE := fun env S => (ma env S).bind fun p => match p.1 with | .bl b => some (.bl (!b), p.2) | _ => none
theorem q_one {op} (h : QE X a ma) : QE X (.BoolOp op [a] pos) ma := pe_one h
theorem q_and (ha : QE X a ma) (hb : QE X (.BoolOp .And (b :: rest) pos) mb) : QE X (.BoolOp .And (a :: b :: rest) pos) (vAnd ma mb) :=
  PE.weak (pe_and ha hb) fun σ H Q ⟨g, env, w, S', hH, ok, er, hm, q⟩ => by
    obtain ⟨⟨k, S1⟩, e1, e2⟩ := bind1 hm
    refine ⟨g, env, k, S1, hH, ok, er, e1, fun g1 h1 x1 ok1 v r => ?_⟩
    cases k with
    | bl k =>
      refine ⟨k, by simpa [Gw.WR, WR] using r, ?_⟩
      cases k with
      | true => exact ⟨g1, env, w, S', rfl, ok1, er.mono ok x1, by rw [h1]; exact e2, q.step ok1 x1⟩
      | false =>
        have e2' : some (W.bl false, S1) = some (w, S') := e2
        cases e2'
        exact q g1 h1 x1 ok1 _ (by simp [Gw.WR, WR])
    | _ => cases e2
theorem q_or (ha : QE X a ma) (hb : QE X (.BoolOp .Or (b :: rest) pos) mb) : QE X (.BoolOp .Or (a :: b :: rest) pos) (vOr ma mb) :=
  PE.weak (pe_or ha hb) fun σ H Q ⟨g, env, w, S', hH, ok, er, hm, q⟩ => by
    obtain ⟨⟨k, S1⟩, e1, e2⟩ := bind1 hm
    refine ⟨g, env, k, S1, hH, ok, er, e1, fun g1 h1 x1 ok1 v r => ?_⟩
    cases k with
    | bl k =>
      refine ⟨k, by simpa [Gw.WR, WR] using r, ?_⟩
      cases k with
      | false => exact ⟨g1, env, w, S', rfl, ok1, er.mono ok x1, by rw [h1]; exact e2, q.step ok1 x1⟩
      | true =>
        have e2' : some (W.bl true, S1) = some (w, S') := e2
        cases e2'
        exact q g1 h1 x1 ok1 _ (by simp [Gw.WR, WR])
    | _ => cases e2
theorem q_not (ha : QE X a ma) : QE X (.UnaryOp .Not a pos) (vNot ma) :=
  PE.weak (pe_not ha) fun σ H Q ⟨g, env, w, S', hH, ok, er, hm, q⟩ => by
    obtain ⟨⟨k, S1⟩, e1, e2⟩ := bind1 hm
    refine ⟨g, env, k, S1, hH, ok, er, e1, fun g1 h1 x1 ok1 v r => ?_⟩
    cases k with
    | bl k =>
      have e2' : some (W.bl (!k), S1) = some (w, S') := e2
      cases e2'
      exact ⟨k, by simpa [Gw.WR, WR] using r, q g1 h1 x1 ok1 _ (by simp [Gw.WR, WR])⟩
    | _ => cases e2
/-- a if t else b -/
def mIf (t : WT) (ma mb : WE) : WE := fun env S => (t env S).bind fun p => if p.1 then ma env p.2 else mb env p.2
theorem q_if (ht : QT X c ta) (ha : QE X a ma) (hb : QE X b mb) : QE X (.IfExp c a b pos) (mIf ta ma mb) :=
  PE.weak (pe_ifExp ht ha hb) fun σ H Q ⟨g, env, w, S', hH, ok, er, hm, q⟩ => by
    obtain ⟨⟨k, S1⟩, e1, e2⟩ := bind1 hm
    refine ⟨g, env, k, S1, hH, ok, er, e1, fun g1 h1 x1 ok1 => ?_⟩
    cases k with
    | true => exact ⟨g1, env, w, S', rfl, ok1, er.mono ok x1, by rw [h1]; exact e2, q.step ok1 x1⟩
    | false => exact ⟨g1, env, w, S', rfl, ok1, er.mono ok x1, by rw [h1]; exact e2, q.step ok1 x1⟩

/-! ### one value, unary operators -/
abbrev W1 := W → Store → Option (W × Store)
def Un1 (K : PySem.W.Frag) (f : W1) (r : V → Hp → VK → Prop) : Prop := ∀ (g : Gw) (x : W) (v : V) (w : W) (S' : Store) (Q : VK), g.Ok K → g.WR K x v → f x g.S = some (w, S') → (Then K g S' fun g' => ∀ v, g'.WR K w v → Q v g'.H) → r v g.H Q
def mUn (f : W1) (ma : WE) : WE := fun env S => (ma env S).bind fun p => f p.1 p.2
theorem q_un {op : UnaryOp} {r : V → Hp → VK → Prop} {f : W1} (ho : UnR X (unaryOp op) r) (hf : Un1 X.K f r) (ha : QE X a ma) : QE X (.UnaryOp op a pos) (mUn f ma) :=
  PE.weak (pe_un ho ha) fun σ H Q ⟨g, env, w, S', hH, ok, er, hm, q⟩ => by
    obtain ⟨⟨x, S1⟩, e1, e2⟩ := bind1 hm
    exact ⟨g, env, x, S1, hH, ok, er, e1, fun g1 h1 x1 ok1 v r => hf g1 x v w S' Q ok1 r (by rw [h1]; exact e2) (q.step ok1 x1)⟩
/-- an is None test -/
def wNon : W → Bool
  | .non => true
  | _ => false
theorem wNon_V {K : PySem.W.Frag} {g : Gw} {x : W} {v : V} (r : g.WR K x v) : decide (v = .non) = wNon x := by
  cases x with
  | tup ws =>
    rw [Gw.WR, WR] at r
    obtain ⟨a, xs, e, _⟩ := r
    subst e
    rfl
  | ref i =>
    rw [Gw.WR, WR] at r
    obtain ⟨_, e⟩ := r
    subst e
    rfl
  | fz ws =>
    rw [Gw.WR, WR] at r
    obtain ⟨a, xs, e, _⟩ := r
    subst e
    rfl
  | _ =>
    rw [Gw.WR, WR] at r
    subst r
    rfl
def fIsN : W2 := fun x _ S => some (.bl (wNon x), S)
def fNotN : W2 := fun x _ S => some (.bl (!wNon x), S)
def mIsN (ma : WE) : WE := mUn (fun x S => some (.bl (wNon x), S)) ma
def mNotN (ma : WE) : WE := mUn (fun x S => some (.bl (!wNon x), S)) ma
theorem q_isN {j pos'} (ha : QE X a ma) : QE X (.Compare a [.Is] [.Constant .none j pos'] pos) (mIsN ma) :=
  PE.weak (pe_cmp (pc_isN ha) (by first | exact nobehind _ (by decide) (by decide) | rfl)) fun σ H Q ⟨g, env, w, S', hH, ok, er, hm, q⟩ => by
    obtain ⟨⟨x, S1⟩, e1, e2⟩ := bind1 hm
    cases e2
    exact ⟨g, env, x, S1, hH, ok, er, e1, fun g1 h1 x1 ok1 v r => q g1 h1 x1 ok1 _ (by rw [wNon_V r]; simp [Gw.WR, WR])⟩
theorem q_notN {j pos'} (ha : QE X a ma) : QE X (.Compare a [.IsNot] [.Constant .none j pos'] pos) (mNotN ma) :=
  PE.weak (pe_cmp (pc_notN ha) (by first | exact nobehind _ (by decide) (by decide) | rfl)) fun σ H Q ⟨g, env, w, S', hH, ok, er, hm, q⟩ => by
    obtain ⟨⟨x, S1⟩, e1, e2⟩ := bind1 hm
    cases e2
    exact ⟨g, env, x, S1, hH, ok, er, e1, fun g1 h1 x1 ok1 v r => q g1 h1 x1 ok1 _ (by rw [wNon_V r]; simp [Gw.WR, WR])⟩

/-! ### chains of comparisons -/
def mChain (f f' : W2) (ma mb mc : WE) : WE := fun env S => (ma env S).bind fun p => (mb env p.2).bind fun q => (f p.1 q.1 q.2).bind fun r => match r.1 with
  | .bl true => (mc env r.2).bind fun s => f' q.1 s.1 s.2
  | .bl false => some (.bl false, r.2)
  | _ => none
theorem tChain_of {r r' : R2} {f f' : W2} (hf : Bin X.K f r) (hf' : Bin X.K f' r') : ∀ σ H Q, tW X.K (mChain f f' ma mb mc) σ H Q → tChain r r' (tW X.K ma) (tW X.K mb) (tW X.K mc) σ H Q := fun σ H Q ⟨g, env, w, S', hH, ok, er, hm, q⟩ => by
  obtain ⟨⟨x, S1⟩, ⟨y, S2⟩, e1, e2, e3⟩ := bind2 hm
  obtain ⟨⟨z, S3⟩, e4, e5⟩ := bind1 e3
  refine ⟨g, env, x, S1, hH, ok, er, e1, fun g1 h1 x1 ok1 v r => ⟨g1, env, y, S2, rfl, ok1, er.mono ok x1, by rw [h1]; exact e2, fun g2 h2 x2 ok2 u s => ?_⟩⟩
  refine hf g2 x y v u z S3 _ ok2 (x2.wr ok1 r) s (by rw [h2]; exact e4) fun g3 h3 x3 ok3 t rt => ?_
  cases z with
  | bl k =>
    refine ⟨k, by simpa [Gw.WR, WR] using rt, ?_⟩
    cases k with
    | true =>
      obtain ⟨⟨c, S4⟩, e6, e7⟩ := bind1 e5
      exact ⟨g3, env, c, S4, rfl, ok3, ((er.mono ok x1).mono ok1 x2).mono ok2 x3, by rw [h3]; exact e6, fun g4 h4 x4 ok4 d rd =>
        hf' g4 y c u d w S' Q ok4 (x4.wr ok3 (x3.wr ok2 s)) rd (by rw [h4]; exact e7) ((((q.step ok1 x1).step ok2 x2).step ok3 x3).step ok4 x4)⟩
    | false =>
      have e5' : some (W.bl false, S3) = some (w, S') := e5
      cases e5'
      exact ((q.step ok1 x1).step ok2 x2) g3 h3 x3 ok3 _ (by simp [Gw.WR, WR])
  | _ => cases e5
theorem q_chain {op op' : CmpOp} {r r' : R2} {f f' : W2} (ho : OpR X (compareOp op) r) (ho' : OpR X (compareOp op') r') (hf : Bin X.K f r) (hf' : Bin X.K f' r') (ha : QE X a ma) (hb : QE X b mb) (hc : QE X c mc)
    (hm : lastMarks [op, op'] [b, c] = false := by with_unfolding_all rfl) : QE X (.Compare a [op, op'] [b, c] pos) (mChain f f' ma mb mc) := PE.weak (pe_chain ho ho' ha hb hc hm) (tChain_of hf hf')
theorem qt_chain {op op' : CmpOp} {r r' : R2} {f f' : W2} (ho : OpR X (compareOp op) r) (ho' : OpR X (compareOp op') r') (hf : Bin X.K f r) (hf' : Bin X.K f' r') (ha : QE X a ma) (hb : QE X b mb) (hc : QE X c mc)
    (hm : lastMarks [op, op'] [b, c] = false := by with_unfolding_all rfl) : QT X (.Compare a [op, op'] [b, c] pos) (mTest (mChain f f' ma mb mc)) :=
  PT.weak (pt_chain ho ho' ha hb hc hm) fun σ H Q ⟨g, env, b, S', hH, ok, er, hm, q⟩ => tChain_of hf hf' σ H _ ⟨g, env, .bl b, S', hH, ok, er, mTest_some hm, fun g1 h1 x1 ok1 v r => ⟨b, by simpa [Gw.WR, WR] using r, q g1 h1 x1 ok1⟩⟩
end
end L2.Aw

namespace L2.Aw
open PySem PySem.Spec PyProof.Rows

/-! ### lists of the store -/
def getL (S : Store) (i : Nat) : Option (List W) := match S[i]? with
  | some (.lst ws) => some ws
  | _ => none
section
variable {K : PySem.W.Frag} {g : Gw}
theorem getL_some {S : Store} {i : Nat} {ws : List W} (h : getL S i = some ws) : S[i]? = some (.lst ws) := by
  unfold getL at h
  split at h
  · rename_i e
    cases h
    exact e
  · cases h
theorem getL_at {i : Nat} {ws : List W} (ok : g.Ok K) (h : getL g.S i = some ws) : i < g.S.length ∧ ∃ xs, g.H (g.φ i) = some (.lst xs) ∧ g.WRs K ws xs := by
  have e := getL_some h
  obtain ⟨ho, h1, xs, h2, h3⟩ := ok.at_ i _ e
  subst h2
  exact ⟨(List.getElem?_eq_some_iff.mp e).1, xs, h1, h3⟩
theorem WR.int_inv {i : Int} {v : V} (r : g.WR K (.int i) v) : v = .int i := by simpa [Gw.WR, WR] using r
theorem WR.bl_inv {i : Bool} {v : V} (r : g.WR K (.bl i) v) : v = .bl i := by simpa [Gw.WR, WR] using r
theorem WR.str_inv {i : Str} {v : V} (r : g.WR K (.str i) v) : v = .str i := by simpa [Gw.WR, WR] using r
theorem WR.non_inv {v : V} (r : g.WR K .non v) : v = .non := by simpa [Gw.WR, WR] using r
theorem WR.tup_at {ws : List W} {v : V} (r : g.WR K (.tup ws) v) : ∃ a xs, v = .ref a ∧ g.H a = some (.tup xs) ∧ g.WRs K ws xs := by
  rw [Gw.WR, WR] at r
  exact r
theorem WR.tup_inv {ws : List W} {v : V} (r : g.WR K (.tup ws) v) : ∃ a xs, v = .ref a ∧ SqT K g.H a xs ∧ g.WRs K ws xs := by
  obtain ⟨a, xs, e, h, rs⟩ := r.tup_at
  exact ⟨a, xs, e, SqT.of h, rs⟩
theorem WR.fz_inv {ws : List W} {v : V} (r : g.WR K (.fz ws) v) : ∃ a xs, v = .ref a ∧ FzL K g.H a xs ∧ g.WRs K ws xs := by
  rw [Gw.WR, WR] at r
  exact r
theorem WR.ref_inv {i : Nat} {v : V} (r : g.WR K (.ref i) v) : i < g.S.length ∧ v = .ref (g.φ i) := by
  rw [Gw.WR, WR] at r
  exact r
theorem WR.ofInt {i : Int} : g.WR K (.int i) (.int i) := by simp [Gw.WR, WR]
theorem WR.ofBl {i : Bool} : g.WR K (.bl i) (.bl i) := by simp [Gw.WR, WR]
theorem WR.ofStr {i : Str} : g.WR K (.str i) (.str i) := by simp [Gw.WR, WR]
theorem WR.ofNon : g.WR K .non .non := by simp [Gw.WR, WR]
theorem WR.ofTup {ws : List W} {a : Addr} {xs : List V} (h : g.H a = some (.tup xs)) (r : g.WRs K ws xs) : g.WR K (.tup ws) (.ref a) := by
  rw [Gw.WR, WR]
  exact ⟨a, xs, rfl, h, r⟩
theorem WR.ofRef {i : Nat} (h : i < g.S.length) : g.WR K (.ref i) (.ref (g.φ i)) := by
  rw [Gw.WR, WR]
  exact ⟨h, rfl⟩
/-- the end of a rule that makes a plain value -/
theorem Then.val {w w' : W} {S' : Store} {Q : VK} (ok : g.Ok K) (hm : some (w', g.S) = some (w, S')) (q : Then K g S' fun g' => ∀ v, g'.WR K w v → Q v g'.H) {v : V} (r : g.WR K w' v) : Q v g.H := by
  cases hm
  exact Then.self ok q v r
/-- the end of a rule that makes a new tuple -/
theorem Then.newT {ws : List W} {vs : List V} {w : W} {S' : Store} {Q : VK} (ok : g.Ok K) (r : g.WRs K ws vs) (hm : some (W.tup ws, g.S) = some (w, S')) (q : Then K g S' fun g' => ∀ v, g'.WR K w v → Q v g'.H) :
    ∀ p, g.H p = none → Q (.ref p) (upd g.H p (.tup vs)) := fun p hp => by
  cases hm
  have x2 : Ext g (g.out p (.tup vs)) := Ext.out hp
  exact q (g.out p (.tup vs)) rfl x2 (ok.out hp) (.ref p) (WR.ofTup upd_same (x2.wrs ok r))
/-- the end of a rule that changes a list -/
theorem Then.setL {i : Nat} {ws : List W} {xs : List V} {w w' : W} {v : V} {S' : Store} {Q : VK} (ok : g.Ok K) (hi : i < g.S.length) (r : g.WRs K ws xs) (hm : some (w', g.S.set i (.lst ws)) = some (w, S')) (q : Then K g S' fun g' => ∀ v, g'.WR K w v → Q v g'.H)
    (rv : ∀ g' : Gw, Ext g g' → g'.WR K w' v) : Q v (upd g.H (g.φ i) (.lst xs)) := by
  cases hm
  have x2 : Ext g (g.set i (.lst ws) (.lst xs)) := Ext.set hi
  exact q (g.set i (.lst ws) (.lst xs)) rfl x2 (ok.set hi ⟨xs, rfl, r⟩) v (rv _ x2)
end

/-! ### arithmetic -/
def big : Int := 10 ^ 400
def okMul (i j : Int) : Bool := decide (-big < i) && decide (i < big) && decide (-big < j) && decide (j < big)
def okDiv (j : Int) : Bool := decide (0 < j) && decide (j < big)
def okPow (i j : Int) : Bool := decide (0 ≤ j) && decide (j ≤ 100) && decide (-big < i) && decide (i < big)
theorem big_abs {i : Int} (h1 : -big < i) (h2 : i < big) : i.natAbs < 2 ^ 1400 := by
  have h3 : (big : Int) = 10 ^ 400 := rfl
  rw [h3] at h1 h2
  omega
theorem okMul_W {i j : Int} (h : okMul i j = true) : CMulW i j := by
  simp only [okMul, Bool.and_eq_true, decide_eq_true_eq] at h
  exact wide_mul (big_abs h.1.1.1 h.1.1.2) (big_abs h.1.2 h.2) (by decide) (by decide) (by decide)
theorem okDiv_W {i j : Int} (h : okDiv j = true) : CDivW i j := by
  simp only [okDiv, Bool.and_eq_true, decide_eq_true_eq] at h
  have h3 : -big < j := by have : (0 : Int) < big := by decide
                           omega
  exact wide_div h.1 (big_abs h3 h.2) (by decide) (by decide)
theorem op_powW {X : Cx} : OpR X (binaryOp .Pow) (rI (fun i j => okPow i j = true) fun i j => .int (i ^ j.toNat)) := opI fun i j _ _ _ _ _ hc q => by
  simp only [okPow, Bool.and_eq_true, decide_eq_true_eq] at hc
  refine pow_int hc.1.1.1 ?_ q
  have b : Builtin.Int.intBits i ≤ 1400 := by
    have h := big_abs hc.1.2 hc.2
    unfold Builtin.Int.intBits
    split
    · omega
    · have := PySem.Flt.log2_lt_of (show 0 < 1400 by decide) h
      omega
  have c : ((Builtin.Int.intBits i : Nat) : Int) * j ≤ 1400 * 100 := Int.mul_le_mul (by omega) (by omega) (by omega) (by omega)
  have d : (1400 * 100 : Int) ≤ 2 ^ 27 := by decide
  omega

def wAddI : W2 := fun x y S => match x, y with
  | .int i, .int j => some (.int (i + j), S)
  | _, _ => none
def wAdd : W2 := fun x y S => match x, y with
  | .int i, .int j => some (.int (i + j), S)
  | .tup a, .tup b => if szOk (a.length + b.length) then some (.tup (a ++ b), S) else none
  | .str a, .str b => if szOk (a.length + b.length) then some (.str (a ++ b), S) else none
  | .ref a, .ref b => (getL S a).bind fun ws => (getL S b).bind fun us => if szOk (ws.length + us.length) then newL (ws ++ us) S else none
  | _, _ => none
def wSub : W2 := fun x y S => match x, y with
  | .int i, .int j => some (.int (i - j), S)
  | _, _ => none
def wMul : W2 := fun x y S => match x, y with
  | .int i, .int j => if okMul i j then some (.int (i * j), S) else none
  | .ref a, .int k => (getL S a).bind fun ws => if decide (-(2 ^ 63) ≤ k) && decide (k < 2 ^ 63) && szOk (ws.length * k.toNat) then newL (List.replicate k.toNat ws).flatten S else none
  | _, _ => none
def wFdiv : W2 := fun x y S => match x, y with
  | .int i, .int j => if okDiv j then some (.int (i / j), S) else none
  | _, _ => none
def wMod : W2 := fun x y S => match x, y with
  | .int i, .int j => if decide (0 < j) then some (.int (i % j), S) else none
  | _, _ => none
def wPow : W2 := fun x y S => match x, y with
  | .int i, .int j => if okPow i j then some (.int (i ^ j.toNat), S) else none
  | _, _ => none
def wCmp (p : Int → Int → Bool) : W2 := fun x y S => match x, y with
  | .int i, .int j => some (.bl (p i j), S)
  | _, _ => none
abbrev wLt := wCmp fun i j => decide (i < j)
abbrev wLe := wCmp fun i j => decide (i ≤ j)
abbrev wGt := wCmp fun i j => decide (j < i)
abbrev wGe := wCmp fun i j => decide (j ≤ i)

section
variable {K : PySem.W.Frag}
theorem Bin.cmp (p : Int → Int → Bool) : Bin K (wCmp p) (rI0 fun i j => .bl (p i j)) := fun g x y v u w S' Q ok rx ry e q => by
  cases x <;> cases y <;> simp only [wCmp] at e <;> try cases e
  rename_i i j
  exact ⟨i, j, rx.int_inv, ry.int_inv, Then.val (S' := g.S) ok rfl q WR.ofBl⟩
theorem Bin.sub : Bin K wSub (rI0 fun i j => .int (i - j)) := fun g x y v u w S' Q ok rx ry e q => by
  cases x <;> cases y <;> simp only [wSub] at e <;> try cases e
  rename_i i j
  exact ⟨i, j, rx.int_inv, ry.int_inv, Then.val (S' := g.S) ok rfl q WR.ofInt⟩
theorem Bin.fdiv : Bin K wFdiv (rI CDivW fun i j => .int (i / j)) := fun g x y v u w S' Q ok rx ry e q => by
  cases x <;> cases y <;> simp only [wFdiv] at e <;> try cases e
  rename_i i j
  split at e
  · rename_i h
    exact ⟨i, j, rx.int_inv, ry.int_inv, okDiv_W h, Then.val ok e q WR.ofInt⟩
  · cases e
theorem Bin.mod : Bin K wMod (rI (fun _ j => 0 < j) fun i j => .int (i % j)) := fun g x y v u w S' Q ok rx ry e q => by
  cases x <;> cases y <;> simp only [wMod] at e <;> try cases e
  rename_i i j
  split at e
  · rename_i h
    exact ⟨i, j, rx.int_inv, ry.int_inv, of_decide_eq_true h, Then.val ok e q WR.ofInt⟩
  · cases e
theorem Bin.pow : Bin K wPow (rI (fun i j => okPow i j = true) fun i j => .int (i ^ j.toNat)) := fun g x y v u w S' Q ok rx ry e q => by
  cases x <;> cases y <;> simp only [wPow] at e <;> try cases e
  rename_i i j
  split at e
  · rename_i h
    exact ⟨i, j, rx.int_inv, ry.int_inv, h, Then.val ok e q WR.ofInt⟩
  · cases e
/-- + by the four kinds -/
def rAddW (K : PySem.W.Frag) : R2 := fun x y H Q => rI0 (fun i j => .int (i + j)) x y H Q ∨ rCatA K x y H Q ∨ (∃ i j, x = .str i ∧ y = .str j ∧ i.length + j.length ≤ sizeLine ∧ Q (.str (i ++ j)) H) ∨ rCat x y H Q
theorem op_addW {X : Cx} : OpR X (binaryOp .Add) (rAddW X.K) := op_add.or (op_catA.or (op_add_str.or op_cat))
theorem bin_catA {g : Gw} {a b : List W} {v u : V} {w : W} {S' : Store} {Q : VK} (ok : g.Ok K) (rx : g.WR K (.tup a) v) (ry : g.WR K (.tup b) u) (z : szOk (a.length + b.length) = true) (e : some (W.tup (a ++ b), g.S) = some (w, S'))
    (q : Then K g S' fun g' => ∀ v, g'.WR K w v → Q v g'.H) : rCatA K v u g.H Q := by
  obtain ⟨p, xs, e1, h1, r1⟩ := rx.tup_inv
  obtain ⟨p2, ys, e2, h2, r2⟩ := ry.tup_inv
  have l1 := r1.length
  have l2 := r2.length
  refine ⟨p, p2, xs, ys, e1, e2, h1, h2, by rw [← l1, ← l2]; exact szOk_le z, fun h => ?_, fun h h' => ?_, fun h h' => ?_⟩
  · subst h
    have ea : a = [] := List.eq_nil_of_length_eq_zero l1
    subst ea
    subst e2
    exact Then.val ok e q ry
  · subst h'
    have ea : b = [] := List.eq_nil_of_length_eq_zero l2
    subst ea
    subst e1
    rw [List.append_nil] at e
    exact Then.val ok e q rx
  · exact Then.newT ok (r1.append r2) e q
theorem bin_cat {g : Gw} {a b : Nat} {v u : V} {w : W} {S' : Store} {Q : VK} (ok : g.Ok K) (rx : g.WR K (.ref a) v) (ry : g.WR K (.ref b) u) (e : ((getL g.S a).bind fun ws => (getL g.S b).bind fun us => if szOk (ws.length + us.length) then newL (ws ++ us) g.S else none) = some (w, S'))
    (q : Then K g S' fun g' => ∀ v, g'.WR K w v → Q v g'.H) : rCat v u g.H Q := by
  obtain ⟨ws, us, e1, e2, e3⟩ := bind2 e
  split at e3
  · rename_i z
    obtain ⟨_, xs, h1, r1⟩ := getL_at ok e1
    obtain ⟨_, ys, h2, r2⟩ := getL_at ok e2
    obtain ⟨_, f1⟩ := rx.ref_inv
    obtain ⟨_, f2⟩ := ry.ref_inv
    exact ⟨g.φ a, g.φ b, xs, ys, f1, f2, h1, h2, by rw [← r1.length, ← r2.length]; exact szOk_le z, Then.newL ok (r1.append r2) e3 q⟩
  · cases e3
theorem Bin.add : Bin K wAdd (rAddW K) := fun g x y v u w S' Q ok rx ry e q => by
  cases x with
  | int i =>
    cases y with
    | int j => exact .inl ⟨i, j, rx.int_inv, ry.int_inv, Then.val ok e q WR.ofInt⟩
    | _ => cases e
  | tup a =>
    cases y with
    | tup b =>
      simp only [wAdd] at e
      split at e
      · rename_i z
        exact .inr (.inl (bin_catA ok rx ry z e q))
      · cases e
    | _ => cases e
  | str a =>
    cases y with
    | str b =>
      simp only [wAdd] at e
      split at e
      · rename_i z
        exact .inr (.inr (.inl ⟨a, b, rx.str_inv, ry.str_inv, szOk_le z, Then.val ok e q WR.ofStr⟩))
      · cases e
    | _ => cases e
  | ref a =>
    cases y with
    | ref b => exact .inr (.inr (.inr (bin_cat ok rx ry e q)))
    | _ => cases e
  | _ => cases e
def rMulW : R2 := fun x y H Q => rI CMulW (fun i j => .int (i * j)) x y H Q ∨ rRep x y H Q
theorem op_mulWW {X : Cx} : OpR X (binaryOp .Mult) rMulW := op_mulW.or op_rep
theorem Bin.mul : Bin K wMul rMulW := fun g x y v u w S' Q ok rx ry e q => by
  cases x with
  | int i =>
    cases y with
    | int j =>
      simp only [wMul] at e
      split at e
      · rename_i h
        exact .inl ⟨i, j, rx.int_inv, ry.int_inv, okMul_W h, Then.val ok e q WR.ofInt⟩
      · cases e
    | _ => cases e
  | ref a =>
    cases y with
    | int k =>
      obtain ⟨ws, e1, e2⟩ := bind1 (show ((getL g.S a).bind fun ws => if decide (-(2 ^ 63) ≤ k) && decide (k < 2 ^ 63) && szOk (ws.length * k.toNat) then newL (List.replicate k.toNat ws).flatten g.S else none) = _ from e)
      split at e2
      · rename_i z
        simp only [Bool.and_eq_true, decide_eq_true_eq] at z
        obtain ⟨_, xs, h1, r1⟩ := getL_at ok e1
        obtain ⟨_, f1⟩ := rx.ref_inv
        exact .inr ⟨g.φ a, k, xs, f1, ry.int_inv, h1, z.1.1, z.1.2, by rw [← r1.length]; exact szOk_le z.2, Then.newL ok (r1.rep k.toNat) e2 q⟩
      · cases e2
    | _ => cases e
  | _ => cases e

/-! ### a += b -/
def rIaddW (K : PySem.W.Frag) : R2 := fun x y H Q => rI0 (fun i j => .int (i + j)) x y H Q ∨ rCatA K x y H Q ∨ (∃ i j, x = .str i ∧ y = .str j ∧ i.length + j.length ≤ sizeLine ∧ Q (.str (i ++ j)) H)
theorem noI_tuple_add : typeLookup (.type "tuple") (dunderI "add") = pure none := by rw [typeLookup_type, builtinLookup_eq_fast]; kernel_rfl
theorem iconcat_meets {prog : Program} {w : World} {A : Around} {E : Value → Shared → Prop} {s : Shared} {T id : String} {B : Builtin} {a b : Value} {S : PySem.Spec} {Q : Value → Shared → Prop} (ha : s.TypeIs a T) (hb : s.TypeIs b T) (hno : typeLookup (.type T) (dunderI "add") = pure none)
    (hfill : fillsNumberSlot (.type T) "add" = pure false) (hseq : seqSlot? (.type T) "__add__" = pure (some (.builtin id))) (slot : Slot T "__add__" id)
    (entry : entryFor table id = some B) (args : argsOk id ⟨[a, b], []⟩) (g : Meets (B ⟨[a, b], []⟩) S) (h : S A (wants Q E) s) : wpAny (model prog w) A (inplaceOp .Add a b) Q E s :=
  wpAny_inplaceOp_concat ha hb hno hfill hseq (call_meets slot ha entry args g h)
theorem icat_tup {prog : Program} {w : World} {A : Around} {E : Value → Shared → Prop} {s : Shared} {t b : Addr} {vs ws : List Value} {Q : Value → Shared → Prop} (ht : IsTup s.heap t vs.toArray) (hb : IsTup s.heap b ws.toArray)
    (h0 : vs = [] → Q (.ref b) s) (h1 : vs ≠ [] → ws = [] → Q (.ref t) s) (h2 : vs ≠ [] → ws ≠ [] → Q (.ref s.heap.objs.size) { s with heap := s.heap.push { cls := .type "tuple", data := .seq (vs ++ ws).toArray } })
    (hsz : vs.length + ws.length ≤ sizeLine) : wpAny (model prog w) A (inplaceOp .Add (.ref t) (.ref b)) Q E s := by
  obtain ⟨⟨cls, dd, data, sl⟩, ho, hc, n, hd⟩ := id ht
  obtain ⟨⟨cls2, dd2, data2, sl2⟩, ho2, hc2, n2, hd2⟩ := id hb
  simp only at hc hd hc2 hd2
  subst hc hd hc2 hd2
  have e : vs.toArray ++ ws.toArray = (vs ++ ws).toArray := by simp
  by_cases hv : vs = []
  · exact iconcat_meets ⟨_, ho, rfl⟩ ⟨_, ho2, rfl⟩ noI_tuple_add noFill_tuple_add seq_tuple_add PySem.F.slot_tuple_add PySem.F.entry_tuple_add (PySem.F.args_tuple_add_2 _ _)
      (tuple_addW0 t b vs.toArray ws.toArray n n2 dd dd2 sl sl2 (by simp [hv])) ⟨ho, ho2, h0 hv⟩
  · by_cases hw : ws = []
    · exact iconcat_meets ⟨_, ho, rfl⟩ ⟨_, ho2, rfl⟩ noI_tuple_add noFill_tuple_add seq_tuple_add PySem.F.slot_tuple_add PySem.F.entry_tuple_add (PySem.F.args_tuple_add_2 _ _)
        (tuple_addW1 t b vs.toArray ws.toArray n n2 dd dd2 sl sl2 (by simpa using hv) (by simp [hw])) ⟨ho, ho2, h1 hv hw⟩
    · refine iconcat_meets ⟨_, ho, rfl⟩ ⟨_, ho2, rfl⟩ noI_tuple_add noFill_tuple_add seq_tuple_add PySem.F.slot_tuple_add PySem.F.entry_tuple_add (PySem.F.args_tuple_add_2 _ _)
        (tuple_addW2 t b vs.toArray ws.toArray n n2 dd dd2 sl sl2 (by simpa using hv) (by simpa using hw) (by rw [List.size_toArray, List.size_toArray]; exact hsz)) ⟨ho, ho2, ?_⟩
      rw [e]
      exact h2 hv hw
theorem Vals.nil_iff' {xs : List V} {us : List Value} (r : Vals xs us) : us = [] ↔ xs = [] := Vals.nil_iff r
theorem iop_catA {X : Cx} : OpR X (inplaceOp .Add) (rCatA X.K) := by
  intro pins s σ H x y v u Q I rx ry h
  obtain ⟨a, b, xs, ys, rfl, rfl, ha, hb, hz, q0, q1, q2⟩ := h
  cases rx
  cases ry
  obtain ⟨its, r1, p1, _⟩ := I.tuple ha
  obtain ⟨its2, r2, p2, _⟩ := I.tuple hb
  have i1 := Vals.nil_iff r1
  have i2 := Vals.nil_iff r2
  refine icat_tup p1 p2 (fun z => ⟨.ref b, H, I, rfl, q0 (i1.mp z)⟩) (fun z z' => ⟨.ref a, H, I, rfl, q1 (fun n => z (i1.mpr n)) (i2.mp z')⟩) (fun z z' => ?_) (by rw [← r1.length, ← r2.length]; exact hz)
  have hf : H s.heap.objs.size = none := I.hok.fresh (Nat.le_refl _)
  refine ⟨.ref s.heap.objs.size, upd H s.heap.objs.size (.tup (xs ++ ys)), I.laid (t' := s.toks) (fun b u e => Heap.get?_push_of_some _ e) (Nat.le_refl _) ?_, rfl, q2 (fun n => z (i1.mpr n)) (fun n => z' (i2.mpr n)) _ hf⟩
  exact ⟨by rw [List.length_append]; exact hz, its ++ its2, r1.append r2, ⟨_, Heap.get?_push_size _ rfl, rfl, _, rfl⟩⟩
theorem iop_addW {X : Cx} : OpR X (inplaceOp .Add) (rIaddW X.K) := iop_add.or (iop_catA.or iop_add_str)
def wIadd : W2 := fun x y S => match x, y with
  | .int i, .int j => some (.int (i + j), S)
  | .tup a, .tup b => if szOk (a.length + b.length) then some (.tup (a ++ b), S) else none
  | .str a, .str b => if szOk (a.length + b.length) then some (.str (a ++ b), S) else none
  | _, _ => none
theorem Bin.iadd : Bin K wIadd (rIaddW K) := fun g x y v u w S' Q ok rx ry e q => by
  cases x with
  | int i =>
    cases y with
    | int j => exact .inl ⟨i, j, rx.int_inv, ry.int_inv, Then.val ok e q WR.ofInt⟩
    | _ => cases e
  | tup a =>
    cases y with
    | tup b =>
      simp only [wIadd] at e
      split at e
      · rename_i z
        exact .inr (.inl (bin_catA ok rx ry z e q))
      · cases e
    | _ => cases e
  | str a =>
    cases y with
    | str b =>
      simp only [wIadd] at e
      split at e
      · rename_i z
        exact .inr (.inr ⟨a, b, rx.str_inv, ry.str_inv, szOk_le z, Then.val ok e q WR.ofStr⟩)
      · cases e
    | _ => cases e
  | _ => cases e

/-! ### xs[i], t[i] -/
def wIx : W2 := fun x y S => match x, y with
  | .tup ws, .int i => (atI ws i).map fun w => (w, S)
  | .ref a, .int i => (getL S a).bind fun ws => (atI ws i).map fun w => (w, S)
  | .fz ws, .int i => (atI ws i).map fun w => (w, S)
  | .str z, .int i => if szOk z.length then (atI z.cps.toList i).map fun c => (.str ⟨#[c]⟩, S) else none
  | _, _ => none
theorem WRs.atI {φ : Nat → Addr} {n : Nat} {H : Hp} {ws : List W} {xs : List V} {i : Int} {w : W} (r : WRs K φ n H ws xs) (h : L2.atI ws i = some w) : ∃ v, L2.atI xs i = some v ∧ WR K φ n H w v := by
  unfold L2.atI at h ⊢
  rw [← r.length]
  cases e : ixN ws.length i with
  | none => rw [e] at h; cases h
  | some j =>
    rw [e] at h
    exact r.get h
theorem Bin.ix : Bin K wIx (rIx K) := fun g x y v u w S' Q ok rx ry e q => by
  cases x with
  | tup ws =>
    cases y with
    | int i =>
      simp only [wIx] at e
      cases e1 : atI ws i with
      | none => rw [e1] at e; cases e
      | some w0 =>
        rw [e1] at e
        obtain ⟨p, xs, f1, h1, r1⟩ := rx.tup_inv
        obtain ⟨v0, f2, r2⟩ := r1.atI e1
        exact .inr (.inl ⟨p, xs, i, v0, f1, ry.int_inv, h1, f2, Then.val ok e q r2⟩)
    | _ => cases e
  | ref a =>
    cases y with
    | int i =>
      obtain ⟨ws, e1, e2⟩ := bind1 (show ((getL g.S a).bind fun ws => (atI ws i).map fun w => (w, g.S)) = _ from e)
      cases e3 : atI ws i with
      | none => rw [e3] at e2; cases e2
      | some w0 =>
        rw [e3] at e2
        obtain ⟨_, xs, h1, r1⟩ := getL_at ok e1
        obtain ⟨_, f1⟩ := rx.ref_inv
        obtain ⟨v0, f2, r2⟩ := r1.atI e3
        exact .inl ⟨g.φ a, xs, i, v0, f1, ry.int_inv, SqL.of h1, f2, Then.val ok e2 q r2⟩
    | _ => cases e
  | fz ws =>
    cases y with
    | int i =>
      simp only [wIx] at e
      cases e1 : atI ws i with
      | none => rw [e1] at e; cases e
      | some w0 =>
        rw [e1] at e
        obtain ⟨p, xs, f1, h1, r1⟩ := rx.fz_inv
        obtain ⟨v0, f2, r2⟩ := r1.atI e1
        exact .inl ⟨p, xs, i, v0, f1, ry.int_inv, h1.seq, f2, Then.val ok e q r2⟩
    | _ => cases e
  | str z =>
    cases y with
    | int i =>
      simp only [wIx] at e
      split at e
      · rename_i hz
        cases e3 : atI z.cps.toList i with
        | none => rw [e3] at e; cases e
        | some w0 =>
          rw [e3] at e
          exact .inr (.inr ⟨z, i, w0, rx.str_inv, ry.int_inv, szOk_le hz, e3, Then.val ok e q WR.ofStr⟩)
      · cases e
    | _ => cases e
  | _ => cases e

/-! ### == of data -/
mutual
def toP : W → Option PyData
  | .non => some .none
  | .bl b => some (.bool b)
  | .int i => some (.int i)
  | .str x => some (.str x)
  | .tup ws => (toPs ws).map .tuple
  | .ref _ => none
  | .fz _ => none
def toPs : List W → Option (List PyData)
  | [] => some []
  | w :: ws => (toP w).bind fun d => (toPs ws).map fun ds => d :: ds
end
def toPS (S : Store) : W → Option PyData
  | .ref i => (getL S i).bind fun ws => (toPs ws).map .list
  | w => toP w
def fEq (neg : Bool) : W2 := fun x y S => (toPS S x).bind fun d => (toPS S y).bind fun e => if SeqAt.shaped d && SeqAt.shaped e then some (.bl (if neg then !PyData.eqv d e else PyData.eqv d e), S) else none
theorem map1 {α β : Type} {x : Option α} {f : α → β} {z : β} (h : x.map f = some z) : ∃ p, x = some p ∧ f p = z := by
  cases x with
  | none => cases h
  | some p => exact ⟨p, rfl, Option.some.inj h⟩
theorem Dp.all {g : Gw} : ∀ {ws : List W} {xs : List V} {ds : List PyData}, (∀ w ∈ ws, ∀ v d, g.WR K w v → toP w = some d → Dp K g.H v d) → g.WRs K ws xs → toPs ws = some ds → DpAll K g.H xs ds
  | [], xs, ds, _, r, h => by
    rw [r.nil_inv]
    have h' : some ([] : List PyData) = some ds := h
    cases h'
    exact .nil
  | w :: ws, xs, ds, ih, r, h => by
    obtain ⟨x, t, e, r1, r2⟩ := r.cons_inv
    subst e
    rw [toPs] at h
    obtain ⟨d, e1, e2⟩ := bind1 h
    obtain ⟨ds', e3, e4⟩ := map1 e2
    subst e4
    exact .cons (ih w List.mem_cons_self x d r1 e1) (Dp.all (fun w hw => ih w (List.mem_cons_of_mem _ hw)) r2 e3)
theorem Dp.of {g : Gw} : ∀ (w : W) (v : V) (d : PyData), g.WR K w v → toP w = some d → Dp K g.H v d := by
  intro w
  refine W.ind (P := fun w => ∀ (v : V) (d : PyData), g.WR K w v → toP w = some d → Dp K g.H v d) ?_ ?_ ?_ ?_ ?_ ?_ ?_ w
  · intro v d r h
    rw [r.non_inv]
    cases h
    exact .non
  · intro b v d r h
    rw [r.bl_inv]
    cases h
    exact .bl b
  · intro b v d r h
    rw [r.int_inv]
    cases h
    exact .int b
  · intro b v d r h
    rw [r.str_inv]
    cases h
    exact .str b
  · intro b v d r h
    cases h
  · intro ws ih v d r h
    rw [toP] at h
    obtain ⟨ds, e1, e2⟩ := map1 h
    subst e2
    obtain ⟨a, xs, e, h1, r1⟩ := r.tup_inv
    subst e
    exact .tup h1 (Dp.all ih r1 e1)
  · intro ws ih v d r h
    cases h
theorem Dp.ofS {g : Gw} (ok : g.Ok K) {w : W} {v : V} {d : PyData} (r : g.WR K w v) (h : toPS g.S w = some d) : Dp K g.H v d := by
  cases w with
  | ref i =>
    rw [toPS] at h
    obtain ⟨ws, e1, e2⟩ := bind1 h
    obtain ⟨ds, e3, e4⟩ := map1 e2
    subst e4
    obtain ⟨_, xs, h1, r1⟩ := getL_at ok e1
    obtain ⟨_, f1⟩ := r.ref_inv
    subst f1
    exact .lst (SqL.of h1) (Dp.all (fun w _ v d => Dp.of w v d) r1 e3)
  | _ => exact Dp.of _ v d r (by simpa [toPS] using h)
theorem Bin.eqD : Bin K (fEq false) (rEqD K) := fun g x y v u w S' Q ok rx ry e q => by
  obtain ⟨d, d2, e1, e2, e3⟩ := bind2 (show ((toPS g.S x).bind fun d => (toPS g.S y).bind fun e => if SeqAt.shaped d && SeqAt.shaped e then some (W.bl (if false = true then !PyData.eqv d e else PyData.eqv d e), g.S) else none) = _ from e)
  split at e3
  · rename_i z
    rw [Bool.and_eq_true] at z
    exact ⟨d, d2, Dp.ofS ok rx e1, Dp.ofS ok ry e2, z.1, z.2, Then.val ok e3 q WR.ofBl⟩
  · cases e3
theorem Bin.neD : Bin K (fEq true) (rNeD K) := fun g x y v u w S' Q ok rx ry e q => by
  obtain ⟨d, d2, e1, e2, e3⟩ := bind2 (show ((toPS g.S x).bind fun d => (toPS g.S y).bind fun e => if SeqAt.shaped d && SeqAt.shaped e then some (W.bl (if true = true then !PyData.eqv d e else PyData.eqv d e), g.S) else none) = _ from e)
  split at e3
  · rename_i z
    rw [Bool.and_eq_true] at z
    exact ⟨d, d2, Dp.ofS ok rx e1, Dp.ofS ok ry e2, z.1, z.2, Then.val ok e3 q WR.ofBl⟩
  · cases e3

/-! ### x in xs -/
def wFlat : W → Bool
  | .non => true | .bl _ => true | .int _ => true | .str _ => true | _ => false
def wEqA : W → W → Bool
  | .non, .non => true
  | .bl a, .bl b => a == b
  | .bl a, .int b => (if a then 1 else 0) == b
  | .int a, .bl b => a == (if b then 1 else 0)
  | .int a, .int b => a == b
  | .str a, .str b => a == b
  | _, _ => false
theorem flat_of {g : Gw} {w : W} {v : V} (r : g.WR K w v) (h : wFlat w = true) : flatV v = true ∧ atomV w = some v := by
  cases w with
  | non => rw [r.non_inv]; exact ⟨rfl, rfl⟩
  | bl b => rw [r.bl_inv]; exact ⟨rfl, rfl⟩
  | int b => rw [r.int_inv]; exact ⟨rfl, rfl⟩
  | str b => rw [r.str_inv]; exact ⟨rfl, rfl⟩
  | _ => cases h
theorem eqA_of {x y : W} {v u : V} (h : atomV x = some v) (h' : atomV y = some u) : eqV v u = wEqA x y := by
  cases x <;> simp only [atomV, Option.some.injEq, reduceCtorEq] at h <;> subst h <;> cases y <;> simp only [atomV, Option.some.injEq, reduceCtorEq] at h' <;> subst h' <;> rfl
theorem flats_of {g : Gw} : ∀ {ws : List W} {xs : List V}, g.WRs K ws xs → ws.all wFlat = true → xs.all flatV = true
  | [], xs, r, _ => by rw [r.nil_inv]; rfl
  | w :: ws, xs, r, h => by
    obtain ⟨x, t, e, r1, r2⟩ := r.cons_inv
    subst e
    rw [List.all_cons, Bool.and_eq_true] at h ⊢
    exact ⟨(flat_of r1 h.1).1, flats_of r2 h.2⟩
theorem any_of {g : Gw} {x : W} {v : V} (hx : atomV x = some v) : ∀ {ws : List W} {xs : List V}, g.WRs K ws xs → ws.all wFlat = true → inV v xs = ws.any fun y => wEqA y x
  | [], xs, r, _ => by rw [r.nil_inv]; rfl
  | w :: ws, xs, r, h => by
    obtain ⟨x', t, e, r1, r2⟩ := r.cons_inv
    subst e
    rw [List.all_cons, Bool.and_eq_true] at h
    have ih := any_of hx r2 h.2
    unfold inV at ih ⊢
    rw [List.any_cons, List.any_cons, ih, eqA_of (flat_of r1 h.1).2 hx]
def seqOf (S : Store) : W → Option (List W)
  | .tup ws => some ws
  | .fz ws => some ws
  | .ref i => getL S i
  | _ => none
theorem seqOf_at {g : Gw} (ok : g.Ok K) {y : W} {u : V} {ws : List W} (r : g.WR K y u) (h : seqOf g.S y = some ws) : ∃ p xs, u = .ref p ∧ (SqL K g.H p xs ∨ SqT K g.H p xs) ∧ g.WRs K ws xs := by
  cases y with
  | tup us =>
    cases h
    obtain ⟨a, xs, e, h1, r1⟩ := r.tup_inv
    exact ⟨a, xs, e, .inr h1, r1⟩
  | fz us =>
    cases h
    obtain ⟨a, xs, e, h1, r1⟩ := r.fz_inv
    exact ⟨a, xs, e, .inl h1.seq, r1⟩
  | ref i =>
    obtain ⟨_, xs, h1, r1⟩ := getL_at ok h
    exact ⟨_, xs, r.ref_inv.2, .inl (SqL.of h1), r1⟩
  | _ => cases h
def wIn (neg : Bool) : W2 := fun x y S => (seqOf S y).bind fun ws => if wFlat x && ws.all wFlat then some (.bl (if neg then !(ws.any fun z => wEqA z x) else ws.any fun z => wEqA z x), S) else none
theorem Bin.isIn (neg : Bool) : Bin K (wIn neg) (rIn K neg) := fun g x y v u w S' Q ok rx ry e q => by
  obtain ⟨ws, e1, e2⟩ := bind1 e
  split at e2
  · rename_i z
    rw [Bool.and_eq_true] at z
    obtain ⟨p, xs, f, hs, r⟩ := seqOf_at ok ry e1
    obtain ⟨fx, ax⟩ := flat_of rx z.1
    refine ⟨p, xs, f, hs, fx, flats_of r z.2, ?_⟩
    rw [any_of ax r z.2]
    exact Then.val ok e2 q WR.ofBl
  · cases e2
end
end L2.Aw

namespace L2.Aw
open PySem PySem.Spec PyProof.Rows

/-! ### slices -/
abbrev WO := WEnv → Store → Option (Option Int × Store)
def tWO (K : PySem.W.Frag) (m : WO) : TO := fun σ H Q => ∃ g env o S', g.H = H ∧ g.Ok K ∧ EnvR K g env σ ∧ m env g.S = some (o, S') ∧ Then K g S' fun g' => Q o g'.H
def QO (X : Cx) (e : Option Expr) (m : WO) : Prop := PO X e (tWO X.K m)
theorem PO.weak {X : Cx} {e : Option Expr} {t t' : TO} (h : PO X e t) (i : ∀ σ H Q, t' σ H Q → t σ H Q) : PO X e t' := ⟨fun pins s σ H Q I q => h.run pins s σ H Q I (i σ H Q q)⟩
def oNone : WO := fun _ S => some (none, S)
def oSome (m : WE) : WO := fun env S => (m env S).bind fun p => match p.1 with | .int i => some (some i, p.2) | _ => none
def wCut (ws : List W) (lo hi : Option Int) : List W := (ws.drop (HT.sIx ws.length 0 lo)).take (HT.sIx ws.length ws.length hi - HT.sIx ws.length 0 lo)
def wSlice (x : W) (lo hi : Option Int) (S : Store) : Option (W × Store) := match x with
  | .tup ws => some (.tup (wCut ws lo hi), S)
  | .ref a => (getL S a).bind fun ws => newL (wCut ws lo hi) S
  | _ => none
def mSlice (ma : WE) (ml mh : WO) : WE := fun env S => (ma env S).bind fun p => (ml env p.2).bind fun l => (mh env l.2).bind fun h => wSlice p.1 l.1 h.1 h.2
section
variable {X : Cx} {pos : Pos} {a b c e : Expr} {es : List Expr} {ma mb mc me : WE} {mes : WA} {lo hi : Option Expr} {ml mh : WO} {p2 : Pos}
theorem qo_none : QO X none oNone := PO.weak po_none fun σ H Q ⟨g, env, o, S', hH, ok, er, hm, q⟩ => by
  have hm' : some ((none : Option Int), g.S) = some (o, S') := hm
  cases hm'
  subst hH
  exact Then.self ok q
theorem qo_some (h : QE X e me) : QO X (some e) (oSome me) := PO.weak (po_some h) fun σ H Q ⟨g, env, o, S', hH, ok, er, hm, q⟩ => by
  obtain ⟨⟨w, S1⟩, e1, e2⟩ := bind1 hm
  cases w with
  | int i =>
    have e2' : some (some i, S1) = some (o, S') := e2
    cases e2'
    exact ⟨g, env, .int i, _, hH, ok, er, e1, fun g1 h1 x1 ok1 v r => ⟨i, r.int_inv, q g1 h1 x1 ok1⟩⟩
  | _ => cases e2
theorem WRs.cut {g : Gw} {ws : List W} {xs : List V} {lo hi : Option Int} (r : g.WRs X.K ws xs) : g.WRs X.K (wCut ws lo hi) (cutV xs lo hi) := by
  unfold wCut cutV
  rw [r.length]
  exact (r.drop _).take _
theorem cutV_whole {xs : List V} {lo hi : Option Int} (h : HT.sIx xs.length 0 lo = 0 ∧ HT.sIx xs.length xs.length hi = xs.length) : cutV xs lo hi = xs := by
  unfold cutV
  rw [h.1, h.2]
  simp
theorem wCut_whole {xs : List W} {lo hi : Option Int} (h : HT.sIx xs.length 0 lo = 0 ∧ HT.sIx xs.length xs.length hi = xs.length) : wCut xs lo hi = xs := by
  unfold wCut
  rw [h.1, h.2]
  simp
theorem q_slice (he : QE X e me) (hl : QO X lo ml) (hh : QO X hi mh) : QE X (.Subscript e (.Slice lo hi none p2) pos) (mSlice me ml mh) :=
  PE.weak (pe_slice (SlR.or sl_tupA sl_list) he hl hh) fun σ H Q ⟨g, env, w, S', hH, ok, er, hm, q⟩ => by
    obtain ⟨⟨x, S1⟩, e1, hm2⟩ := bind1 hm
    obtain ⟨⟨l, S2⟩, ⟨h, S3⟩, e2, e3, e4⟩ := bind2 hm2
    refine ⟨g, env, x, S1, hH, ok, er, e1, fun g1 h1 x1 ok1 v r => ⟨g1, env, l, S2, rfl, ok1, er.mono ok x1, by rw [h1]; exact e2, fun g2 h2 x2 ok2 => ⟨g2, env, h, S3, rfl, ok2, (er.mono ok x1).mono ok1 x2, by rw [h2]; exact e3, fun g3 h3 x3 ok3 => ?_⟩⟩⟩
    have r3 := x3.wr ok2 (x2.wr ok1 r)
    have q3 := ((q.step ok1 x1).step ok2 x2).step ok3 x3
    subst h3
    cases x with
    | tup ws =>
      obtain ⟨p, xs, f, hs, rs⟩ := r3.tup_inv
      refine .inl ⟨p, xs, f, hs, fun z => ?_, fun z => ?_⟩
      · have z' : HT.sIx ws.length 0 l = 0 ∧ HT.sIx ws.length ws.length h = ws.length := by rw [rs.length]; exact z
        have e4' : some (W.tup (wCut ws l h), g3.S) = some (w, S') := e4
        rw [wCut_whole z'] at e4'
        subst f
        exact Then.val ok3 e4' q3 r3
      · exact Then.newT ok3 rs.cut e4 q3
    | ref i =>
      obtain ⟨ws, f1, f2⟩ := bind1 (show ((getL g3.S i).bind fun ws => newL (wCut ws l h) g3.S) = _ from e4)
      obtain ⟨_, xs, hs, rs⟩ := getL_at ok3 f1
      exact .inr ⟨g3.φ i, xs, r3.ref_inv.2, SqL.of hs, Then.newL ok3 rs.cut f2 q3⟩
    | _ => cases e4
/-- xs[::-1] of a list -/
def wRevL : W1 := fun x S => match x with
  | .ref a => (getL S a).bind fun ws => newL ws.reverse S
  | _ => none
theorem q_revL {k : Nat} {p1 p2 p3 : Pos} (he : QE X e me) : QE X (.Subscript e (.Slice none none (some (.UnaryOp .USub (.Constant (.int 1) k p1) p2)) p3) pos) (mUn wRevL me) :=
  PE.weak (pe_revL he) fun σ H Q ⟨g, env, w, S', hH, ok, er, hm, q⟩ => by
    obtain ⟨⟨x, S1⟩, e1, e2⟩ := bind1 hm
    refine ⟨g, env, x, S1, hH, ok, er, e1, fun g1 h1 x1 ok1 v r => ?_⟩
    have q1 := q.step ok1 x1
    subst h1
    cases x with
    | ref i =>
      obtain ⟨ws, f1, f2⟩ := bind1 (show ((getL g1.S i).bind fun ws => newL ws.reverse g1.S) = _ from e2)
      obtain ⟨_, xs, hs, rs⟩ := getL_at ok1 f1
      exact ⟨g1.φ i, xs, r.ref_inv.2, SqL.of hs, Then.newL ok1 rs.reverse f2 q1⟩
    | _ => cases e2

/-! ### calls by values -/
abbrev FM := List W → Store → Option (W × Store)
def CallK (K : PySem.W.Frag) (F : FM) (r : List V → Hp → VK → Prop) : Prop := ∀ (g : Gw) (ws : List W) (vs : List V) (w : W) (S' : Store) (Q : VK), g.Ok K → g.WRs K ws vs → F ws g.S = some (w, S') → (Then K g S' fun g' => ∀ v, g'.WR K w v → Q v g'.H) → r vs g.H Q
def mCall (F : FM) (ma : WA) : WE := fun env S => (ma env S).bind fun p => F p.1 p.2
theorem tCB_of {r : List V → Hp → VK → Prop} {F : FM} (hf : CallK X.K F r) : ∀ σ H Q, tW X.K (mCall F mes) σ H Q → tCB r (tWA X.K mes) σ H Q := fun σ H Q ⟨g, env, w, S', hH, ok, er, hm, q⟩ => by
  obtain ⟨⟨ws, S1⟩, e1, e2⟩ := bind1 hm
  refine ⟨g, env, ws, S1, hH, ok, er, e1, fun g1 h1 x1 ok1 vs r => ?_⟩
  subst h1
  exact hf g1 ws vs w S' Q ok1 r e2 (q.step ok1 x1)
theorem q_callB {x : Str} {p : Pos} {id : String} {r : List V → Hp → VK → Prop} {F : FM} (hc : CallR X (.builtin id) r) (hf : CallK X.K F r) (hg : Gl X x) (hm : X.mg x = none) (hv : bootBuiltins x = some (.builtin id)) (ha : QA X (e :: es) mes) (hn : x ≠ "__name__" := by decide) (hdb : (x == ("__debug__" : Str)) = false := by decide)
    (he : starEach (e :: es) X.env = (false, eval e X.env) :: starEach es X.env := by rfl) (hpl : (backTo pos (starEach es X.env)).any (·.1) = false := by rfl) : QE X (.Call (.Name x p) (e :: es) [] pos) (mCall F mes) :=
  PE.weak (pe_callB hc hg hm hv ha hn hdb he hpl) (tCB_of hf)
theorem q_callTy {x : Str} {p : Pos} {T : String} {r : List V → Hp → VK → Prop} {F : FM} (hc : CallR X (.type T) r) (hf : CallK X.K F r) (hg : Gl X x) (hm : X.mg x = none) (hv : bootBuiltins x = some (.type T)) (ha : QA X (e :: es) mes) (hn : x ≠ "__name__" := by decide) (hdb : (x == ("__debug__" : Str)) = false := by decide)
    (he : starEach (e :: es) X.env = (false, eval e X.env) :: starEach es X.env := by rfl) (hpl : (backTo pos (starEach es X.env)).any (·.1) = false := by rfl) : QE X (.Call (.Name x p) (e :: es) [] pos) (mCall F mes) :=
  PE.weak (pe_callTy hc hg hm hv ha hn hdb he hpl) (tCB_of hf)

/-! ### what a def computes -/
def spW (K : PySem.W.Frag) (n : Nat) (F : FM) : Sp := fun vs H Q _ => ∃ g ws w S', g.H = H ∧ g.Ok K ∧ g.WRs K ws vs ∧ ws.length = n ∧ F ws g.S = some (w, S') ∧ Then K g S' fun g' => ∀ v, g'.WR K w v → Q v g'.H
/-- a def at f computes F -/
abbrev FnW (P : Program) (w : World) (K : PySem.W.Frag) (mg : Str → Option Value) (base : Heap) (k : Nat) (f : Addr) (fd : FuncData) (ps : List Str) (F : FM) : Prop := FnOk P w K mg base CX0 k f fd ps (spW K ps.length F)
theorem q_call {x : Str} {p : Pos} {k : Nat} {f : Addr} {fd : FuncData} {ps : List Str} {F : FM} (G : FnW X.prog X.w X.K X.mg X.base k f fd ps F) (hr : Room k X.A) (hg : Gl X x) (hm : X.mg x = some (.ref f)) (hk : PySem.W.keepIn X.K (.ref f) = true) (hb : Binds X.K fd ps [])
    (ha : QA X (e :: es) mes) (hl : (e :: es).length = ps.length) (hlen : ∀ env S ws S', mes env S = some (ws, S') → ws.length = (e :: es).length) (hdb : (x == ("__debug__" : Str)) = false := by decide) (he : starEach (e :: es) X.env = (false, eval e X.env) :: starEach es X.env := by rfl) (hpl : (backTo pos (starEach es X.env)).any (·.1) = false := by rfl) :
    QE X (.Call (.Name x p) (e :: es) [] pos) (mCall F mes) :=
  PE.weak (pe_call G hr hg hm hk hb .nil pass0 ha hdb he hpl) fun σ H Q ⟨g, env, w, S', hH, ok, er, hm, q⟩ => by
    obtain ⟨⟨ws, S1⟩, e1, e2⟩ := bind1 hm
    refine ⟨g, env, ws, S1, hH, ok, er, e1, fun g1 h1 x1 ok1 vs r => ?_⟩
    subst h1
    rw [List.append_nil]
    exact ⟨g1, ws, w, S', rfl, ok1, r, (hlen env g.S ws _ e1).trans hl, e2, q.step ok1 x1⟩
theorem aNil_len : ∀ env S ws S', aNil env S = some (ws, S') → ws.length = ([] : List Expr).length := fun env S ws S' h => by
  have h' : some (([] : List W), S) = some (ws, S') := h
  cases h'
  rfl
theorem aCons_len {m : WE} {r : WA} {e : Expr} {es : List Expr} (h : ∀ env S ws S', r env S = some (ws, S') → ws.length = es.length) : ∀ env S ws S', aCons m r env S = some (ws, S') → ws.length = (e :: es).length := fun env S ws S' h' => by
  obtain ⟨⟨x, S1⟩, ⟨xs, S2⟩, e1, e2, e3⟩ := bind2 h'
  cases e3
  rw [List.length_cons, List.length_cons, h _ _ _ _ e2]

/-! ### methods of built-in types -/
def MtK (K : PySem.W.Frag) (F : FM) (r : V → List V → Hp → VK → Prop) : Prop := ∀ (g : Gw) (x : W) (ws : List W) (v : V) (vs : List V) (w : W) (S' : Store) (Q : VK), g.Ok K → g.WR K x v → g.WRs K ws vs → F (x :: ws) g.S = some (w, S') → (Then K g S' fun g' => ∀ v, g'.WR K w v → Q v g'.H) → r v vs g.H Q
def isLst (S : Store) : W → Bool
  | .ref i => (getL S i).isSome
  | _ => false
def mMeth (F : FM) (mo : WE) (ma : WA) : WE := fun env S => (mo env S).bind fun p => if isLst p.2 p.1 then (ma env p.2).bind fun q => F (p.1 :: q.1) q.2 else none
theorem isLst_ty {g : Gw} (ok : g.Ok X.K) {x : W} {v : V} (r : g.WR X.K x v) (h : isLst g.S x = true) : tyV X.K "list" v g.H := by
  cases x with
  | ref i =>
    have h' : (getL g.S i).isSome = true := h
    obtain ⟨ws, e⟩ := Option.isSome_iff_exists.mp h'
    obtain ⟨_, xs, hs, _⟩ := getL_at ok e
    rw [r.ref_inv.2]
    exact .inl ⟨rfl, _, SqL.of hs⟩
  | _ => cases h
theorem q_meth {o : Expr} {mo : WE} {name : Str} {apos cpos : Pos} {id : String} {r : V → List V → Hp → VK → Prop} {F : FM} (slot : Slot "list" name id) (hty : typeOf (.builtin id) = pure (.type "method_descriptor")) (hm : MtR X id r) (hf : MtK X.K F r) (ho : QE X o mo) (ha : QA X (e :: es) mes)
    (hbase : attributeBase o name X.env (eval o X.env) = eval o X.env := by rfl)
    (hfew : ((backTo cpos (starEach (e :: es) X.env)).all (fun x => !x.1) && (backToKw cpos (keywordEach [] X.env)).all (fun x => x.1.isSome)
      && decide ((e :: es).length + ([] : List Keyword).length + (if ([] : List Keyword).isEmpty then 0 else 1) < 30)) = true := by rfl)
    (hline : (apos.endLine == cpos.line) = true := by rfl) (hs : starEach (e :: es) X.env = (false, eval e X.env) :: starEach es X.env := by rfl) (hplain : (backTo cpos (starEach es X.env)).any (·.1) = false := by rfl) :
    QE X (.Call (.Attribute o name apos) (e :: es) [] cpos) (mMeth F mo mes) :=
  PE.weak (pe_bm PySem.F.plainAttrs_list slot hty hm ho ha hbase hfew hline hs hplain) fun σ H Q ⟨g, env, w, S', hH, ok, er, hm, q⟩ => by
    obtain ⟨⟨x, S1⟩, e1, e2⟩ := bind1 hm
    split at e2
    · rename_i hl
      obtain ⟨⟨ws, S2⟩, e3, e4⟩ := bind1 e2
      refine ⟨g, env, x, S1, hH, ok, er, e1, fun g1 h1 x1 ok1 v r => ?_⟩
      subst h1
      refine ⟨isLst_ty ok1 r hl, g1, env, ws, S2, rfl, ok1, er.mono ok x1, e3, fun g2 h2 x2 ok2 vs rs => ?_⟩
      subst h2
      exact hf g2 x ws v vs w S' Q ok2 (x2.wr ok1 r) rs e4 ((q.step ok1 x1).step ok2 x2)
    · cases e2
theorem q_meth0 {o : Expr} {mo : WE} {name : Str} {apos cpos : Pos} {id : String} {r : V → List V → Hp → VK → Prop} {F : FM} (slot : Slot "list" name id) (hty : typeOf (.builtin id) = pure (.type "method_descriptor")) (hm : MtR X id r) (hf : MtK X.K F r) (ho : QE X o mo)
    (hbase : attributeBase o name X.env (eval o X.env) = eval o X.env := by rfl) (hline : (apos.endLine == cpos.line) = true := by rfl) : QE X (.Call (.Attribute o name apos) [] [] cpos) (mMeth F mo aNil) :=
  PE.weak (pe_bm0 PySem.F.plainAttrs_list slot hty hm ho hbase hline) fun σ H Q ⟨g, env, w, S', hH, ok, er, hm, q⟩ => by
    obtain ⟨⟨x, S1⟩, e1, e2⟩ := bind1 hm
    split at e2
    · rename_i hl
      refine ⟨g, env, x, S1, hH, ok, er, e1, fun g1 h1 x1 ok1 v r => ?_⟩
      subst h1
      exact ⟨isLst_ty ok1 r hl, hf g1 x [] v [] w S' Q ok1 r .nil e2 (q.step ok1 x1)⟩
    · cases e2

/-! ### statements -/
def sNext : WS := fun env S => some (.nx env S)
def sSeq (a b : WS) : WS := fun env S => (a env S).bind fun o => match o with
  | .nx env' S' => b env' S'
  | o => some o
theorem post.nx {K : PySem.W.Frag} {g : Gw} {D : Ends} {env : WEnv} {S : Store} {g' : Gw} {σ : St} (h : post K g D (.nx env S)) (e : g'.S = S) (x : Ext g g') (ok : g'.Ok K) (er : EnvR K g' env σ) : D.nx σ g'.H := h g' e x ok σ er
theorem post.step {K : PySem.W.Frag} {g g1 : Gw} {D : Ends} (ok1 : g1.Ok K) (x : Ext g g1) : ∀ {o : Out}, post K g D o → post K g1 D o
  | .nx env S, h => fun g2 e y ok2 => h g2 e (x.trans ok1 y) ok2
  | .bk env S, h => fun g2 e y ok2 => h g2 e (x.trans ok1 y) ok2
  | .ct env S, h => fun g2 e y ok2 => h g2 e (x.trans ok1 y) ok2
  | .rt w S, h => fun g2 e y ok2 => h g2 e (x.trans ok1 y) ok2
theorem qss_nil : QSs X [] sNext := PSs.weak pss_nil fun D σ H ⟨g, env, o, hH, ok, er, hm, q⟩ => by
  have hm' : some (Out.nx env g.S) = some o := hm
  cases hm'
  subst hH
  exact q.nx rfl (Ext.refl g) ok er
theorem qss_cons {st : Stmt} {rest : List Stmt} {m1 m2 : WS} (h1 : QS X st m1) (h2 : QSs X rest m2) : QSs X (st :: rest) (sSeq m1 m2) := PSs.weak (pss_cons h1 h2) fun D σ H ⟨g, env, o, hH, ok, er, hm, q⟩ => by
  obtain ⟨o1, e1, e2⟩ := bind1 hm
  refine ⟨g, env, o1, hH, ok, er, e1, ?_⟩
  cases o1 with
  | nx env' S' =>
    intro g1 h1 x1 ok1 σ1 er1
    exact ⟨g1, env', o, rfl, ok1, er1, by rw [h1]; exact e2, q.step ok1 x1⟩
  | rt w S' =>
    have e2' : some (Out.rt w S') = some o := e2
    cases e2'
    exact q
  | bk w S' =>
    have e2' : some (Out.bk w S') = some o := e2
    cases e2'
    exact q
  | ct w S' =>
    have e2' : some (Out.ct w S') = some o := e2
    cases e2'
    exact q
theorem qss_one {st : Stmt} {m1 : WS} (h1 : QS X st m1) : QSs X [st] m1 := PSs.weak (pss_one h1) fun D σ H h => h
def sBreak : WS := fun env S => some (.bk env S)
def sCont : WS := fun env S => some (.ct env S)
theorem qs_pass : QS X (.Pass pos) sNext := PS.weak ps_pass fun D σ H ⟨g, env, o, hH, ok, er, hm, q⟩ => by
  have hm' : some (Out.nx env g.S) = some o := hm
  cases hm'
  subst hH
  exact q.nx rfl (Ext.refl g) ok er
theorem qs_break : QS X (.Break pos) sBreak := PS.weak ps_break fun D σ H ⟨g, env, o, hH, ok, er, hm, q⟩ => by
  have hm' : some (Out.bk env g.S) = some o := hm
  cases hm'
  subst hH
  exact q g rfl (Ext.refl g) ok σ er
theorem qs_cont : QS X (.Continue pos) sCont := PS.weak ps_continue fun D σ H ⟨g, env, o, hH, ok, er, hm, q⟩ => by
  have hm' : some (Out.ct env g.S) = some o := hm
  cases hm'
  subst hH
  exact q g rfl (Ext.refl g) ok σ er
def sNever : WS := fun _ _ => none
theorem qs_never {st : Stmt} : QS X st sNever := PS.weak ps_never fun D σ H ⟨g, env, o, hH, ok, er, hm, q⟩ => by cases hm
def sExpr (m : WE) : WS := fun env S => (m env S).map fun p => .nx env p.2
theorem qs_expr (he : QE X e me) (hs : swapsWith e none pos.line X.env = pure false := by rfl) : QS X (.Expr e pos) (sExpr me) := PS.weak (ps_expr he hs) fun D σ H ⟨g, env, o, hH, ok, er, hm, q⟩ => by
  obtain ⟨⟨w, S1⟩, e1, e2⟩ := map1 hm
  subst e2
  exact ⟨g, env, w, S1, hH, ok, er, e1, fun g1 h1 x1 ok1 v r => q g1 h1 x1 ok1 σ (er.mono ok x1)⟩
def sRet (m : WE) : WS := fun env S => (m env S).map fun p => .rt p.1 p.2
theorem qs_ret (he : QE X e me) : QS X (.Return (some e) pos) (sRet me) := PS.weak (ps_ret he) fun D σ H ⟨g, env, o, hH, ok, er, hm, q⟩ => by
  obtain ⟨⟨w, S1⟩, e1, e2⟩ := map1 hm
  subst e2
  exact ⟨g, env, w, S1, hH, ok, er, e1, fun g1 h1 x1 ok1 v r => q g1 h1 x1 ok1 v r⟩
def sIf (t : WT) (m1 m2 : WS) : WS := fun env S => (t env S).bind fun p => if p.1 then m1 env p.2 else m2 env p.2
theorem qs_if {c : Expr} {t : WT} {s1 s2 : List Stmt} {m1 m2 : WS} (ht : QT X c t) (h1 : QSs X s1 m1) (h2 : QSs X s2 m2) : QS X (.If c s1 s2 pos) (sIf t m1 m2) := PS.weak (ps_if ht h1 h2) fun D σ H ⟨g, env, o, hH, ok, er, hm, q⟩ => by
  obtain ⟨⟨k, S1⟩, e1, e2⟩ := bind1 hm
  refine ⟨g, env, k, S1, hH, ok, er, e1, fun g1 h1 x1 ok1 => ?_⟩
  cases k with
  | true => exact ⟨g1, env, o, rfl, ok1, er.mono ok x1, by rw [h1]; exact e2, q.step ok1 x1⟩
  | false => exact ⟨g1, env, o, rfl, ok1, er.mono ok x1, by rw [h1]; exact e2, q.step ok1 x1⟩

/-! ### targets -/
inductive Tg where
  | nm (i : Nat)
  | tp (ts : List Tg)
mutual
def Tg.asg : Tg → W → WEnv → Option WEnv
  | .nm i, w, env => some (env.set i (some w))
  | .tp ts, .tup ws, env => Tg.asgs ts ws env
  | .tp _, _, _ => none
def Tg.asgs : List Tg → List W → WEnv → Option WEnv
  | [], [], env => some env
  | t :: ts, w :: ws, env => (Tg.asg t w env).bind fun env1 => Tg.asgs ts ws env1
  | _, _, _ => none
end
mutual
def Tg.slots : Tg → List Nat
  | .nm i => [i]
  | .tp ts => Tg.slotss ts
def Tg.slotss : List Tg → List Nat
  | [] => []
  | t :: ts => Tg.slots t ++ Tg.slotss ts
end
/-- σ' is σ but at these slots -/
def ButAt (vs : List Nat) (σ σ' : St) : Prop := σ'.length = σ.length ∧ ∀ j, j ∉ vs → σ'[j]? = σ[j]?
theorem ButAt.refl (vs : List Nat) (σ : St) : ButAt vs σ σ := ⟨rfl, fun _ _ => rfl⟩
theorem ButAt.trans {vs : List Nat} {σ σ1 σ2 : St} (a : ButAt vs σ σ1) (b : ButAt vs σ1 σ2) : ButAt vs σ σ2 := ⟨b.1.trans a.1, fun j h => (b.2 j h).trans (a.2 j h)⟩
theorem ButAt.mono {vs us : List Nat} {σ σ1 : St} (a : ButAt vs σ σ1) (h : ∀ j ∈ vs, j ∈ us) : ButAt us σ σ1 := ⟨a.1, fun j n => a.2 j fun m => n (h j m)⟩
theorem wipe_get {σ : St} : ∀ {vs : List Nat} {j : Nat}, (wipe σ vs)[j]? = if j ∈ vs ∧ j < σ.length then some none else σ[j]?
  | [], j => by
    rw [if_neg (fun h => nomatch h.1)]
    rfl
  | v :: vs, j => by
    have ih := wipe_get (σ := σ) (vs := vs) (j := j)
    show ((wipe σ vs).set v none)[j]? = _
    by_cases c : v = j
    · subst c
      by_cases hl : v < σ.length
      · rw [List.getElem?_set_self (by rw [wipe_length]; exact hl), if_pos ⟨List.mem_cons_self, hl⟩]
      · rw [List.getElem?_eq_none (by rw [List.length_set, wipe_length]; omega), if_neg (fun h => hl h.2), List.getElem?_eq_none (by omega)]
    · rw [List.getElem?_set_ne c, ih]
      by_cases h : j ∈ vs ∧ j < σ.length
      · rw [if_pos h, if_pos ⟨List.mem_cons_of_mem _ h.1, h.2⟩]
      · rw [if_neg h, if_neg]
        rintro ⟨h1, h2⟩
        rcases List.mem_cons.mp h1 with e | e
        · exact c e.symm
        · exact h ⟨e, h2⟩
theorem ButAt.wipe {vs : List Nat} {σ σ1 : St} (a : ButAt vs σ σ1) : wipe σ1 vs = wipe σ vs := by
  apply List.ext_getElem?
  intro j
  rw [wipe_get, wipe_get, a.1]
  by_cases h : j ∈ vs ∧ j < σ.length
  · rw [if_pos h, if_pos h]
  · rw [if_neg h, if_neg h]
    by_cases hv : j ∈ vs
    · have hl : ¬ j < σ.length := fun z => h ⟨hv, z⟩
      rw [List.getElem?_eq_none (by have := a.1; omega), List.getElem?_eq_none (by omega)]
    · exact a.2 j hv
theorem wipe_idem (σ : St) (vs : List Nat) : L2.wipe (L2.wipe σ vs) vs = L2.wipe σ vs := by
  apply List.ext_getElem?
  intro j
  rw [wipe_get, wipe_get, wipe_length]
  by_cases h : j ∈ vs ∧ j < σ.length
  · rw [if_pos h, if_pos h]
  · rw [if_neg h, if_neg h]
/-- a target's reading does what Tg says -/
def TgOk (K : PySem.W.Frag) (t : Tg) (G : TG) : Prop := ∀ (g : Gw) (env env' : WEnv) (σ : St) (w : W) (v : V) (Q : St → Hp → Prop), g.Ok K → EnvR K g env σ → g.WR K w v → t.asg w env = some env' → (∀ σ', EnvR K g env' σ' → ButAt t.slots σ σ' → Q σ' g.H) → G v σ g.H Q
def TgsOk (K : PySem.W.Frag) (ts : List Tg) (G : TGs) : Prop := ∀ (g : Gw) (env env' : WEnv) (σ : St) (ws : List W) (vs : List V) (Q : St → Hp → Prop), g.Ok K → EnvR K g env σ → g.WRs K ws vs → Tg.asgs ts ws env = some env' → (∀ σ', EnvR K g env' σ' → ButAt (Tg.slotss ts) σ σ' → Q σ' g.H) → G vs σ g.H Q
mutual
def Tg.rd (K : PySem.W.Frag) : Tg → TG
  | .nm i => gName i
  | .tp ts => gTup K ts.length (Tg.rds K ts)
def Tg.rds (K : PySem.W.Frag) : List Tg → TGs
  | [] => gNil
  | t :: ts => gCons (Tg.rd K t) (Tg.rds K ts)
end
theorem asgs_len : ∀ {ts : List Tg} {ws : List W} {env env' : WEnv}, Tg.asgs ts ws env = some env' → ws.length = ts.length
  | [], [], _, _, _ => rfl
  | [], _ :: _, _, _, h => by cases h
  | _ :: _, [], _, _, h => by cases h
  | t :: ts, w :: ws, env, env', h => by
    obtain ⟨env1, e1, e2⟩ := bind1 (show ((Tg.asg t w env).bind fun env1 => Tg.asgs ts ws env1) = _ from h)
    rw [List.length_cons, List.length_cons, asgs_len e2]
mutual
theorem Tg.ok (K : PySem.W.Frag) : ∀ t : Tg, TgOk K t (Tg.rd K t)
  | .nm i => fun g env env' σ w v Q ok er r h q => by
    have h' : some (env.set i (some w)) = some env' := h
    cases h'
    rw [Tg.rd]
    refine q _ (er.set r) ⟨by rw [List.length_set], fun j hj => ?_⟩
    rw [List.getElem?_set_ne]
    intro e
    exact hj (by rw [e, Tg.slots]; exact List.mem_singleton.mpr rfl)
  | .tp ts => fun g env env' σ w v Q ok er r h q => by
    rw [Tg.rd]
    cases w with
    | tup ws =>
      obtain ⟨a, xs, e, hs, rs⟩ := r.tup_inv
      have h' : Tg.asgs ts ws env = some env' := h
      refine ⟨a, xs, e, hs, by rw [← rs.length, asgs_len h'], Tg.oks K ts g env env' σ ws xs Q ok er rs h' fun σ' er' b => q σ' er' ?_⟩
      rw [Tg.slots]
      exact b
    | _ => cases h
theorem Tg.oks (K : PySem.W.Frag) : ∀ ts : List Tg, TgsOk K ts (Tg.rds K ts)
  | [] => fun g env env' σ ws vs Q ok er r h q => by
    rw [Tg.rds]
    cases ws with
    | nil =>
      have h' : some env = some env' := h
      cases h'
      exact ⟨r.nil_inv, q σ er (ButAt.refl _ _)⟩
    | cons => cases h
  | t :: ts => fun g env env' σ ws vs Q ok er r h q => by
    rw [Tg.rds]
    cases ws with
    | nil => cases h
    | cons w ws =>
      obtain ⟨env1, e1, e2⟩ := bind1 (show ((Tg.asg t w env).bind fun env1 => Tg.asgs ts ws env1) = _ from h)
      obtain ⟨v, vr, e3, r1, r2⟩ := r.cons_inv
      refine ⟨v, vr, e3, Tg.ok K t g env env1 σ w v _ ok er r1 e1 fun σ1 er1 b1 => ?_⟩
      refine Tg.oks K ts g env1 env' σ1 ws vr Q ok er1 r2 e2 fun σ2 er2 b2 => q σ2 er2 ?_
      exact (b1.mono fun j hj => by rw [Tg.slotss]; exact List.mem_append_left _ hj).trans (b2.mono fun j hj => by rw [Tg.slotss]; exact List.mem_append_right _ hj)
end
def QG (X : Cx) (target : Expr) (t : Tg) : Prop := PG X target (t.rd X.K)
def QGs (X : Cx) (es : List Expr) (ts : List Tg) : Prop := PGs X es (Tg.rds X.K ts)
theorem rd_nm {K : PySem.W.Frag} {i : Nat} : Tg.rd K (.nm i) = gName i := by rw [Tg.rd]
theorem rd_tp {K : PySem.W.Frag} {ts : List Tg} : Tg.rd K (.tp ts) = gTup K ts.length (Tg.rds K ts) := by rw [Tg.rd]
theorem rds_nil {K : PySem.W.Frag} : Tg.rds K [] = gNil := by rw [Tg.rds]
theorem rds_cons {K : PySem.W.Frag} {t : Tg} {ts : List Tg} : Tg.rds K (t :: ts) = gCons (Tg.rd K t) (Tg.rds K ts) := by rw [Tg.rds]
theorem qg_name {i : Nat} {x : Str} (hN : X.N.Nodup) (hi : X.N[i]? = some x := by rfl) (hx : Loc X.env.scope x := by first | exact Or.inl rfl | exact Or.inr rfl) (hf : X.fn x = true ∨ X.env.scope.names.lookup x = some .local := by first | exact .inl rfl | exact .inr rfl) : QG X (.Name x pos) (.nm i) := by
  rw [QG, rd_nm]
  exact pg_name hN hi hx hf
theorem qgs_nil : QGs X [] [] := by
  rw [QGs, rds_nil]
  exact pgs_nil
theorem qgs_cons {e : Expr} {es : List Expr} {t : Tg} {ts : List Tg} (h1 : QG X e t) (h2 : QGs X es ts) (hs : (assignEach (e :: es) X.env).map (·.2) = assign e X.env :: (assignEach es X.env).map (·.2) := by rfl) : QGs X (e :: es) (t :: ts) := by
  rw [QGs, rds_cons]
  exact pgs_cons h1 h2 hs
theorem qg_tup {es : List Expr} {k : Nat} {ts : List Tg} (hc : X.calm = true) (h : QGs X es ts) (hn : (assignEach es X.env).length = ts.length := by rfl) (hst : (assignEach es X.env).findIdx? (·.1) = none := by rfl) : QG X (.Tuple es k pos) (.tp ts) := by
  rw [QG, rd_tp]
  exact pg_tup hc h hn hst
/-- target = e -/
def sAsg (t : Tg) (m : WE) : WS := fun env S => (m env S).bind fun p => (t.asg p.1 env).map fun env' => .nx env' p.2
theorem tAsg_of {G : TG} {t : Tg} (o : TgOk X.K t G) : ∀ D σ H, tWS X.K (sAsg t me) D σ H → tAsg (tW X.K me) G D σ H := fun D σ H ⟨g, env, o', hH, ok, er, hm, q⟩ => by
  obtain ⟨⟨w, S1⟩, e1, e2⟩ := bind1 hm
  obtain ⟨env', e3, e4⟩ := map1 e2
  subst e4
  refine ⟨g, env, w, S1, hH, ok, er, e1, fun g1 h1 x1 ok1 v r => ?_⟩
  exact o g1 env env' σ w v _ ok1 (er.mono ok x1) r e3 fun σ' er' _ => q g1 h1 x1 ok1 σ' er'
theorem qs_set {i : Nat} {x : Str} {pos' : Pos} (hN : X.N.Nodup) (he : QE X e me) (hi : X.N[i]? = some x := by rfl) (hx : Loc X.env.scope x := by first | exact Or.inl rfl | exact Or.inr rfl) (hs : swapsWith e (some (.Name x pos')) pos.line X.env = pure false := by rfl) (hf : X.fn x = true ∨ X.env.scope.names.lookup x = some .local := by first | exact .inl rfl | exact .inr rfl) :
    QS X (.Assign [.Name x pos'] e pos) (sAsg (.nm i) me) := PS.weak (ps_set hN hi hx he hs hf) (tAsg_of (rd_nm ▸ Tg.ok X.K (.nm i)))
theorem qs_asg {tg : Expr} {t : Tg} (he : QE X e me) (hg : QG X tg t) (hs : swapsWithSole [tg] e pos.line X.env = pure false := by rfl) (hw : swappedStores [tg] e X.env = pure none := by rfl)
    (h1 : (assignEach [tg] X.env).map (·.2) = [assign tg X.env] := by rfl) : QS X (.Assign [tg] e pos) (sAsg t me) := PS.weak (ps_asg he hg hs hw h1) (tAsg_of (Tg.ok X.K t))
/-- a, b = x, y -/
def sPar (i j : Nat) (ma : WA) : WS := fun env S => (ma env S).bind fun p => match p.1 with
  | [v, w] => some (.nx ((env.set i (some v)).set j (some w)) p.2)
  | _ => none
theorem qs_par {i j : Nat} {x y : Str} {px py pt : Pos} {kt k2 pt2} (hc : X.calm = true) (hN : X.N.Nodup) (ha : QA X [a, b] mes) (hij : i ≠ j := by decide) (hi : X.N[i]? = some x := by rfl) (hj : X.N[j]? = some y := by rfl)
    (hx : X.env.scope.names.lookup x = some .local := by rfl) (hy : X.env.scope.names.lookup y = some .local := by rfl)
    (hw : swappedStores [.Tuple [.Name x px, .Name y py] kt pt] (.Tuple [a, b] k2 pt2) X.env = pure (some [x, y]) := by rfl)
    (hs : swapsWithSole [.Tuple [.Name x px, .Name y py] kt pt] (.Tuple [a, b] k2 pt2) pos.line X.env = pure false := by rfl) :
    QS X (.Assign [.Tuple [.Name x px, .Name y py] kt pt] (.Tuple [a, b] k2 pt2) pos) (sPar i j mes) := PS.weak (ps_par hc hN hi hj hij hx hy ha hw hs) fun D σ H ⟨g, env, o, hH, ok, er, hm, q⟩ => by
  obtain ⟨⟨ws, S1⟩, e1, e2⟩ := bind1 hm
  refine ⟨g, env, ws, S1, hH, ok, er, e1, fun g1 h1 x1 ok1 vs r => ?_⟩
  match ws, e2, r with
  | [v, w], e2, r =>
    have e2' : some (Out.nx ((env.set i (some v)).set j (some w)) S1) = some o := e2
    cases e2'
    obtain ⟨v1, t1, f1, r1, r2⟩ := r.cons_inv
    obtain ⟨v2, t2, f2, r3, r4⟩ := r2.cons_inv
    rw [r4.nil_inv] at f2
    subst f2
    exact ⟨v1, v2, f1, q g1 h1 x1 ok1 _ (((er.mono ok x1).set r1).set r3)⟩
  | [], e2, _ => cases e2
  | [_], e2, _ => cases e2
  | _ :: _ :: _ :: _, e2, _ => cases e2
/-- x += e -/
def sAug (i : Nat) (f : W2) (m : WE) : WS := fun env S => (env[i]?.join).bind fun x => (m env S).bind fun p => (f x p.1 p.2).map fun r => .nx (env.set i (some r.1)) r.2
theorem qs_aug {i : Nat} {x : Str} {pos' : Pos} {op : Operator} {r : R2} {f : W2} (ho : OpR X (inplaceOp op) r) (hf' : Bin X.K f r) (hN : X.N.Nodup) (he : QE X e me) (hi : X.N[i]? = some x := by rfl) (hx : Loc X.env.scope x := by first | exact Or.inl rfl | exact Or.inr rfl)
    (hf : X.fn x = true ∨ X.env.scope.names.lookup x = some .local := by first | exact .inl rfl | exact .inr rfl) : QS X (.AugAssign (.Name x pos') op e pos) (sAug i f me) := by
  have ip : PIp X op r := fun pins s σ H x y v u Q I r1 r2 h => ho pins s σ H x y v u Q I r1 r2 h
  refine PS.weak (ps_aug hN hi hx he ip hf) fun D σ H ⟨g, env, o, hH, ok, er, hm, q⟩ => ?_
  obtain ⟨y, ⟨w, S1⟩, e1, e2, e3⟩ := bind2 hm
  obtain ⟨⟨z, S2⟩, e4, e5⟩ := map1 e3
  subst e5
  have e1' : env[i]? = some (some y) := by
    cases c : env[i]? with
    | none => rw [c] at e1; cases e1
    | some o =>
      rw [c] at e1
      have : o = some y := e1
      rw [this]
  obtain ⟨v, f1, f2⟩ := er.at_ i y e1'
  refine ⟨v, f1, g, env, w, S1, hH, ok, er, e2, fun g1 h1 x1 ok1 u ru => ?_⟩
  subst h1
  exact hf' g1 y w v u z S2 _ ok1 (x1.wr ok f2) ru e4 fun g2 h2 x2 ok2 t rt => q g2 h2 (x1.trans ok1 x2) ok2 _ (((er.mono ok x1).mono ok1 x2).set rt)
/-- o[i] = e of a list -/
def sSetIx (mo mi me : WE) : WS := fun env S => (me env S).bind fun v => (mo env v.2).bind fun o => (mi env o.2).bind fun i => match o.1, i.1 with
  | .ref a, .int k => (getL i.2 a).bind fun ws => (ixN ws.length k).map fun j => .nx env (i.2.set a (.lst (ws.set j v.1)))
  | _, _ => none
theorem qs_setIx {o i : Expr} {mo mi : WE} {p1 : Pos} (he : QE X e me) (ho : QE X o mo) (hi : QE X i mi) (ha : ∀ v, assign (.Subscript o i p1) X.env v = (do
      let ov ← holding [v] (eval o X.env)
      let iv ← holding [v, ov] (eval i X.env)
      standAt p1
      holding [v, ov, iv] (setItem ov iv v)
      release [v, ov, iv] []) := by intro _; rfl) (hs : swapsWithSole [.Subscript o i p1] e pos.line X.env = pure false := by rfl) (hw : swappedStores [.Subscript o i p1] e X.env = pure none := by rfl)
    (h1 : (assignEach [.Subscript o i p1] X.env).map (·.2) = [assign (.Subscript o i p1) X.env] := by rfl) : QS X (.Assign [.Subscript o i p1] e pos) (sSetIx mo mi me) :=
  PS.weak (ps_asg he (pg_sub ho hi set_list ha) hs hw h1) fun D σ H ⟨g, env, out, hH, ok, er, hm, q⟩ => by
    obtain ⟨⟨w, S1⟩, e1, hm2⟩ := bind1 hm
    obtain ⟨⟨x, S2⟩, ⟨y, S3⟩, e2, e3, e4⟩ := bind2 hm2
    refine ⟨g, env, w, S1, hH, ok, er, e1, fun g1 h1 x1 ok1 v r => ⟨g1, env, x, S2, rfl, ok1, er.mono ok x1, by rw [h1]; exact e2, fun g2 h2 x2 ok2 u ru => ⟨g2, env, y, S3, rfl, ok2, (er.mono ok x1).mono ok1 x2, by rw [h2]; exact e3, fun g3 h3 x3 ok3 t rt => ?_⟩⟩⟩
    subst h3
    cases x with
    | ref a =>
      cases y with
      | int k =>
        obtain ⟨ws, f1, f2⟩ := bind1 (show ((getL g3.S a).bind fun ws => (ixN ws.length k).map fun j => Out.nx env (g3.S.set a (.lst (ws.set j w)))) = _ from e4)
        obtain ⟨j, f3, f4⟩ := map1 f2
        subst f4
        obtain ⟨hi3, xs, hs3, rs⟩ := getL_at ok3 f1
        have ru3 := x3.wr ok2 ru
        refine ⟨g3.φ a, xs, k, j, ru3.ref_inv.2, rt.int_inv, hs3, by rw [← rs.length]; exact f3, ?_⟩
        have rs2 : g3.WRs X.K (ws.set j w) (xs.set j v) := rs.set j (x3.wr ok2 (x2.wr ok1 r))
        have x4 : Ext g3 (g3.set a (.lst (ws.set j w)) (.lst (xs.set j v))) := Ext.set hi3
        have ok4 := ok3.set (o := .lst (xs.set j v)) hi3 (m := .lst (ws.set j w)) ⟨_, rfl, rs2⟩
        exact q _ rfl (((x1.trans ok1 x2).trans ok2 x3).trans ok3 x4) ok4 σ ((((er.mono ok x1).mono ok1 x2).mono ok2 x3).mono ok3 x4)
      | _ => cases e4
    | _ => cases e4
end
end L2.Aw

namespace L2.Aw
open PySem PySem.Spec PyProof.Rows

/-! ### what is walked -/
structure Src where
  n : Nat
  item : Nat → Store → Option W
  stop : Store → Bool
/-- the iterator J does what s says, from g0 on -/
def Real (K : PySem.W.Frag) (g0 : Gw) (s : Src) (J : It) : Prop := ∀ g, Ext g0 g → g.Ok K →
  (∀ i w, i < s.n → s.item i g.S = some w → J.go i g.H ∧ ∀ x H', J.yld i g.H x H' → ∃ g', g'.H = H' ∧ g'.S = g.S ∧ Ext g g' ∧ g'.Ok K ∧ g'.WR K w x) ∧ (s.stop g.S = true → J.stop s.n g.H)
abbrev WI := WEnv → Store → Option (Src × Store)
def tWI (K : PySem.W.Frag) (m : WI) : TI := fun σ H R => ∃ g env s S', g.H = H ∧ g.Ok K ∧ EnvR K g env σ ∧ m env g.S = some (s, S') ∧ Then K g S' fun g' => ∀ J, Real K g' s J → R J g'.H
def QI (X : Cx) (tg iter : Expr) (m : WI) : Prop := PI X tg iter (tWI X.K m)
theorem PI.weak {X : Cx} {tg iter : Expr} {t t' : TI} (h : PI X tg iter t) (i : ∀ σ H R, t' σ H R → t σ H R) : PI X tg iter t' := ⟨fun pins s σ H R I q => h.run pins s σ H R I (i σ H R q)⟩

def sForF (s : Src) (t : Tg) (body : WS) : Nat → Nat → WEnv → Store → Option Out
  | 0, _, env, S => if s.stop S then some (.nx env S) else none
  | k + 1, i, env, S => (s.item i S).bind fun w => (t.asg w env).bind fun env1 => (body env1 S).bind fun o => match o with
    | .nx e S1 => sForF s t body k (i + 1) e S1
    | .ct e S1 => sForF s t body k (i + 1) e S1
    | .bk e S1 => some (.nx e S1)
    | .rt w S1 => some (.rt w S1)
def sFor (mi : WI) (t : Tg) (body : WS) : WS := fun env S => (mi env S).bind fun p => sForF p.1 t body p.1.n 0 env p.2
section
variable {X : Cx} {pos : Pos}
theorem for_body {K : PySem.W.Frag} {g0 : Gw} {s : Src} {J : It} {t : Tg} {G : TG} {body : WS} {tb : TS} {D : Ends} (hJ : Real K g0 s J) (hG : TgOk K t G) (hb : ∀ D σ H, tWS K body D σ H → tb D σ H)
    {env : WEnv} {o : Out} {σ : St} (ok0 : g0.Ok K) (er0 : EnvR K g0 env σ) (hm : sForF s t body s.n 0 env g0.S = some o) (hp : post K g0 D o) :
    ∃ W : Nat → Nat → St → Hp → Prop, (∃ m, W 0 m σ g0.H) ∧ ∀ i m σ H, W i m σ H →
      (J.stop i H ∧ D.nx σ H) ∨ (J.go i H ∧ ∃ N : St → Hp → Prop, (∀ σ' H', N σ' H' → ∃ m', m' < m ∧ W (i + 1) m' σ' H') ∧ ∀ x H', J.yld i H x H' → G x σ H' fun σ2 H2 => tb { D with nx := N, ct := N, bk := D.nx } σ2 H2) := by
  refine ⟨fun i m σ H => m + i = s.n ∧ ∃ g env o, g.H = H ∧ g.Ok K ∧ EnvR K g env σ ∧ Ext g0 g ∧ sForF s t body m i env g.S = some o ∧ post K g D o,
    ⟨s.n, rfl, g0, env, o, rfl, ok0, er0, Ext.refl _, hm, hp⟩, ?_⟩
  rintro i m σ H ⟨hi, g, env, o, rfl, ok, er, x, hm, hp⟩
  obtain ⟨hgo, hstop⟩ := hJ g x ok
  cases m with
  | zero =>
    have hm' : (if s.stop g.S then some (Out.nx env g.S) else none) = some o := hm
    split at hm'
    · rename_i hs
      cases hm'
      have e : i = s.n := by omega
      subst e
      exact .inl ⟨hstop hs, hp.nx rfl (Ext.refl g) ok er⟩
    · cases hm'
  | succ k =>
    obtain ⟨w, e1, hm2⟩ := bind1 (show ((s.item i g.S).bind fun w => (t.asg w env).bind fun env1 => (body env1 g.S).bind fun o => match o with
      | .nx e S1 => sForF s t body k (i + 1) e S1
      | .ct e S1 => sForF s t body k (i + 1) e S1
      | .bk e S1 => some (.nx e S1)
      | .rt w S1 => some (.rt w S1)) = _ from hm)
    obtain ⟨env1, o1, e2, e3, e4⟩ := bind2 hm2
    obtain ⟨h1, h2⟩ := hgo i w (by omega) e1
    refine .inr ⟨h1, fun σ' H' => ∃ g env o, g.H = H' ∧ g.Ok K ∧ EnvR K g env σ' ∧ Ext g0 g ∧ sForF s t body k (i + 1) env g.S = some o ∧ post K g D o,
      fun σ' H' ⟨g', env', o', a1, a2, a3, a4, a5, a6⟩ => ⟨k, Nat.lt_succ_self k, by omega, g', env', o', a1, a2, a3, a4, a5, a6⟩, fun v H' hy => ?_⟩
    obtain ⟨g1, rfl, hS, x1, ok1, r1⟩ := h2 v H' hy
    refine hG g1 env env1 σ w v _ ok1 (er.mono ok x1) r1 e2 fun σ2 er2 _ => hb _ _ _ ⟨g1, env1, o1, rfl, ok1, er2, by rw [hS]; exact e3, ?_⟩
    cases o1 with
    | nx e S1 =>
      intro g2 f1 x2 ok2 σ3 er3
      exact ⟨g2, e, o, rfl, ok2, er3, (x.trans ok x1).trans ok1 x2, by rw [f1]; exact e4, (hp.step ok1 x1).step ok2 x2⟩
    | ct e S1 =>
      intro g2 f1 x2 ok2 σ3 er3
      exact ⟨g2, e, o, rfl, ok2, er3, (x.trans ok x1).trans ok1 x2, by rw [f1]; exact e4, (hp.step ok1 x1).step ok2 x2⟩
    | bk e S1 =>
      intro g2 f1 x2 ok2 σ3 er3
      have e4' : some (Out.nx e S1) = some o := e4
      cases e4'
      exact (hp.step ok1 x1).nx f1 x2 ok2 er3
    | rt v S1 =>
      have e4' : some (Out.rt v S1) = some o := e4
      cases e4'
      exact hp.step ok1 x1
theorem qs_for {tg iter : Expr} {t : Tg} {body : List Stmt} {mi : WI} {mb : WS} (hp : PassesOwn (model X.prog X.w) X.A X.env X.xe) (hc : X.calm = true) (hi : QI X tg iter mi) (hg : QG X tg t) (hb : QSs X body mb)
    (hs : ∀ x, foldedSetIterable iter X.env x = pure x := by intro _; rfl) : QS X (.For tg iter body [] pos) (sFor mi t mb) := by
  refine PS.weak (ps_for hp hc hi hg hb hs) fun D σ H ⟨g, env, o, hH, ok, er, hm, q⟩ => ?_
  obtain ⟨⟨s, S1⟩, e1, e2⟩ := bind1 hm
  refine ⟨g, env, s, S1, hH, ok, er, e1, fun g1 h1 x1 ok1 J hJ => ?_⟩
  subst h1
  exact for_body hJ (Tg.ok X.K t) (fun D σ H h => h) ok1 (er.mono ok x1) e2 (q.step ok1 x1)

/-! ### while -/
def sWhileF (t : WT) (body : WS) : Nat → WEnv → Store → Option Out
  | 0, _, _ => none
  | k + 1, env, S => (t env S).bind fun p => if p.1 then (body env p.2).bind fun o => match o with
    | .nx e S1 => sWhileF t body k e S1
    | .ct e S1 => sWhileF t body k e S1
    | .bk e S1 => some (.nx e S1)
    | .rt w S1 => some (.rt w S1) else some (.nx env p.2)
/-- at most fu turns -/
def sWhile (fu : Nat) (t : WT) (body : WS) : WS := sWhileF t body fu
theorem qs_while {c : Expr} {t : WT} {body : List Stmt} {mb : WS} (fu : Nat) (hp : PassesOwn (model X.prog X.w) X.A X.env X.xe) (ht : QT X c t) (hb : QSs X body mb) : QS X (.While c body [] pos) (sWhile fu t mb) := by
  refine PS.weak (ps_while hp ht hb) fun D σ H ⟨g, env, o, hH, ok, er, hm, q⟩ => ?_
  refine ⟨fun m σ H => ∃ g env o, g.H = H ∧ g.Ok X.K ∧ EnvR X.K g env σ ∧ sWhileF t mb m env g.S = some o ∧ post X.K g D o, ⟨fu, g, env, o, hH, ok, er, hm, q⟩, ?_⟩
  rintro m σ H ⟨g, env, o, rfl, ok, er, hm, q⟩
  cases m with
  | zero => cases hm
  | succ k =>
    obtain ⟨⟨b, S1⟩, e1, e2⟩ := bind1 (show ((t env g.S).bind fun p => if p.1 = true then (mb env p.2).bind fun o => match o with
      | .nx e S1 => sWhileF t mb k e S1
      | .ct e S1 => sWhileF t mb k e S1
      | .bk e S1 => some (.nx e S1)
      | .rt w S1 => some (.rt w S1) else some (.nx env p.2)) = _ from hm)
    refine ⟨g, env, b, S1, rfl, ok, er, e1, fun g1 h1 x1 ok1 => ?_⟩
    subst h1
    cases b with
    | false =>
      rw [if_neg Bool.false_ne_true] at e2 ⊢
      have e2' : some (Out.nx env g1.S) = some o := e2
      cases e2'
      exact q.nx rfl x1 ok1 (er.mono ok x1)
    | true =>
      rw [if_pos rfl] at e2 ⊢
      obtain ⟨o1, e3, e4⟩ := bind1 e2
      refine ⟨fun σ' H' => ∃ g env o, g.H = H' ∧ g.Ok X.K ∧ EnvR X.K g env σ' ∧ sWhileF t mb k env g.S = some o ∧ post X.K g D o, fun σ' H' h => ⟨k, Nat.lt_succ_self k, h⟩, g1, env, o1, rfl, ok1, er.mono ok x1, e3, ?_⟩
      cases o1 with
      | nx e S1 =>
        intro g2 f1 x2 ok2 σ3 er3
        exact ⟨g2, e, o, rfl, ok2, er3, by rw [f1]; exact e4, (q.step ok1 x1).step ok2 x2⟩
      | ct e S1 =>
        intro g2 f1 x2 ok2 σ3 er3
        exact ⟨g2, e, o, rfl, ok2, er3, by rw [f1]; exact e4, (q.step ok1 x1).step ok2 x2⟩
      | bk e S1 =>
        intro g2 f1 x2 ok2 σ3 er3
        have e4' : some (Out.nx e S1) = some o := e4
        cases e4'
        exact (q.step ok1 x1).nx f1 x2 ok2 er3
      | rt v S1 =>
        have e4' : some (Out.rt v S1) = some o := e4
        cases e4'
        exact q.step ok1 x1

/-! ### list comprehensions -/
def lcF (s : Src) (t : Tg) (tests : WT) (el : WE) (envB : WEnv) : Nat → Nat → Store → Option (List W × Store)
  | 0, _, S => if s.stop S then some ([], S) else none
  | k + 1, i, S => (s.item i S).bind fun w => (t.asg w envB).bind fun env1 => (tests env1 S).bind fun b => if b.1 then (el env1 b.2).bind fun v => (lcF s t tests el envB k (i + 1) v.2).map fun r => (v.1 :: r.1, r.2) else lcF s t tests el envB k (i + 1) b.2
def mLc (mi : WI) (t : Tg) (tests : WT) (el : WE) (vs : List Nat) : WE := fun env S => (mi env S).bind fun p => (lcF p.1 t tests el (wipeE env vs) p.1.n 0 p.2).bind fun r => if szOk r.1.length then newL r.1 r.2 else none
/-- a list that the store does not hold is rewritten -/
theorem Ext.re {g0 g : Gw} {D : Addr} {o : HO} (hD : g0.H D = none) (x : Ext g0 g) : Ext g0 (g.out D o) :=
  ⟨x.len, x.φ, x.new, fun a u h hr => by show upd g.H D o a = some u; rw [upd_ne (ne_of_none h hD)]; exact x.keep a u h hr⟩
theorem tup_re {H : Hp} {D : Addr} {o' o : HO} (hD : H D = some o') (hm : Mut (some o')) {a : Addr} {xs : List V} (h : H a = some (.tup xs)) : upd H D o a = some (.tup xs) := by
  rw [upd_ne fun z => by rw [z, hD] at h; cases h; exact hm]
  exact h
theorem fzL_re {K : PySem.W.Frag} {H : Hp} {D : Addr} {o' o : HO} (hD : H D = some o') (hm : Mut (some o')) {a : Addr} {xs : List V} (h : FzL K H a xs) : FzL K (upd H D o) a xs := by
  rcases h with ⟨ob, h⟩ | h
  · exact .inl ⟨ob, by rw [upd_ne fun z => by rw [z, hD] at h; cases h; exact hm]; exact h⟩
  · exact .inr h
theorem wr_re {K : PySem.W.Frag} {g : Gw} {D : Addr} {o' o : HO} (hD : g.H D = some o') (hm : Mut (some o')) {w : W} {v : V} (h : g.WR K w v) : (g.out D o).WR K w v :=
  L2.Aw.WR.mono (Nat.le_refl _) (fun _ _ => rfl) (fun _ _ q => tup_re hD hm q) (fun _ _ q => fzL_re hD hm q) w v h
theorem wrs_re {K : PySem.W.Frag} {g : Gw} {D : Addr} {o' o : HO} (hD : g.H D = some o') (hm : Mut (some o')) {w : List W} {v : List V} (h : g.WRs K w v) : (g.out D o).WRs K w v :=
  L2.Aw.WRs.mono (Nat.le_refl _) (fun _ _ => rfl) (fun _ _ q => tup_re hD hm q) (fun _ _ q => fzL_re hD hm q) h
theorem ok_re {K : PySem.W.Frag} {g : Gw} {D : Addr} {o' o : HO} (ok : g.Ok K) (hD : g.H D = some o') (hm : Mut (some o')) (hr : ∀ j, j < g.S.length → g.φ j ≠ D) : (g.out D o).Ok K :=
  ⟨ok.inj, fun i m h => by
    obtain ⟨ho, h1, h2⟩ := ok.at_ i m h
    refine ⟨ho, by show upd g.H D o (g.φ i) = _; rw [upd_ne (hr i (List.getElem?_eq_some_iff.mp h).1)]; exact h1, ?_⟩
    cases m with
    | lst ws => obtain ⟨xs, e, q⟩ := h2; exact ⟨xs, e, wrs_re hD hm q⟩
    | dK ws => obtain ⟨xs, e, q⟩ := h2; exact ⟨xs, e, Paired.mapP q fun p q z => ⟨z.1, wr_re hD hm z.2⟩⟩
    | dT ws => obtain ⟨xs, e, q⟩ := h2; exact ⟨xs, e, Paired.mapP q fun p q z => ⟨z.1, wr_re hD hm z.2⟩⟩⟩
/-- a list outside comes into the store -/
def Gw.take (g : Gw) (p : Addr) (m : MO) : Gw := ⟨fun i => if i = g.S.length then p else g.φ i, g.S ++ [m], g.H⟩
theorem Ext.take {g0 g : Gw} {D : Addr} {m : MO} (hD : g0.H D = none) (x : Ext g0 g) : Ext g0 (g.take D m) where
  len := by show g0.S.length ≤ (g.S ++ [m]).length; rw [List.length_append]; exact Nat.le_trans x.len (Nat.le_add_right _ _)
  φ := fun i h => by
    show (if i = g.S.length then D else g.φ i) = _
    rw [if_neg (Nat.ne_of_lt (Nat.lt_of_lt_of_le h x.len))]; exact x.φ i h
  new := fun i a b => by
    have b' : i < (g.S ++ [m]).length := b
    rw [List.length_append, List.length_singleton] at b'
    show g0.H (if i = g.S.length then D else g.φ i) = none
    by_cases e : i = g.S.length
    · rw [if_pos e]; exact hD
    · rw [if_neg e]; exact x.new i a (by omega)
  keep := x.keep
theorem Ext.take1 {g : Gw} {D : Addr} {m : MO} : (g.take D m).S.length = g.S.length + 1 := by show (g.S ++ [m]).length = _; rw [List.length_append, List.length_singleton]
theorem wr_take {K : PySem.W.Frag} {g : Gw} {D : Addr} {m : MO} {w : W} {v : V} (h : g.WR K w v) : (g.take D m).WR K w v :=
  L2.Aw.WR.mono (by rw [Ext.take1]; exact Nat.le_succ _) (fun i hi => by show (if i = g.S.length then D else g.φ i) = _; rw [if_neg (Nat.ne_of_lt hi)]) (fun _ _ q => q) (fun _ _ q => q) w v h
theorem wrs_take {K : PySem.W.Frag} {g : Gw} {D : Addr} {m : MO} {w : List W} {v : List V} (h : g.WRs K w v) : (g.take D m).WRs K w v :=
  L2.Aw.WRs.mono (by rw [Ext.take1]; exact Nat.le_succ _) (fun i hi => by show (if i = g.S.length then D else g.φ i) = _; rw [if_neg (Nat.ne_of_lt hi)]) (fun _ _ q => q) (fun _ _ q => q) h
theorem mr_take {K : PySem.W.Frag} {g : Gw} {D : Addr} {m m' : MO} {ho : HO} (h : MR K g m' ho) : MR K (g.take D m) m' ho := by
  cases m' with
  | lst ws => obtain ⟨xs, e, q⟩ := h; exact ⟨xs, e, wrs_take q⟩
  | dK ws => obtain ⟨xs, e, q⟩ := h; exact ⟨xs, e, Paired.mapP q fun p q z => ⟨z.1, wr_take z.2⟩⟩
  | dT ws => obtain ⟨xs, e, q⟩ := h; exact ⟨xs, e, Paired.mapP q fun p q z => ⟨z.1, wr_take z.2⟩⟩
theorem ok_take {K : PySem.W.Frag} {g : Gw} {D : Addr} {m : MO} {ho : HO} (ok : g.Ok K) (hD : g.H D = some ho) (hr : ∀ j, j < g.S.length → g.φ j ≠ D) (r : MR K g m ho) : (g.take D m).Ok K := by
  refine ⟨fun i j hi hj e => ?_, fun i u h => ?_⟩
  · rw [Ext.take1] at hi hj
    have e' : (if i = g.S.length then D else g.φ i) = (if j = g.S.length then D else g.φ j) := e
    by_cases h1 : i = g.S.length <;> by_cases h2 : j = g.S.length
    · rw [h1, h2]
    · rw [if_pos h1, if_neg h2] at e'
      exact absurd e'.symm (hr j (by omega))
    · rw [if_neg h1, if_pos h2] at e'
      exact absurd e' (hr i (by omega))
    · rw [if_neg h1, if_neg h2] at e'
      exact ok.inj i j (by omega) (by omega) e'
  · have h' : (g.S ++ [m])[i]? = some u := h
    by_cases hi : i < g.S.length
    · rw [List.getElem?_append_left hi] at h'
      obtain ⟨ho, q1, q2⟩ := ok.at_ i u h'
      refine ⟨ho, ?_, mr_take q2⟩
      · show g.H (if i = g.S.length then D else g.φ i) = _
        rw [if_neg (Nat.ne_of_lt hi)]
        exact q1
    · rw [List.getElem?_append_right (Nat.le_of_not_lt hi)] at h'
      have e : i = g.S.length := by
        have := (List.getElem?_eq_some_iff.mp h').1
        simp at this
        omega
      subst e
      simp at h'
      subst h'
      refine ⟨ho, ?_, mr_take r⟩
      show g.H (if g.S.length = g.S.length then D else g.φ g.S.length) = _
      rw [if_pos rfl]
      exact hD
/-- a place outside the store stays outside -/
theorem Ext.outside {g g1 : Gw} {D : Addr} {o : HO} (hD : g.H D = some o) (hr : ∀ j, j < g.S.length → g.φ j ≠ D) (x : Ext g g1) : g1.H D = some o ∧ ∀ j, j < g1.S.length → g1.φ j ≠ D :=
  ⟨x.keep D o hD hr, fun j hj e => by
    by_cases h : j < g.S.length
    · rw [x.φ j h] at e
      exact hr j h e
    · have := x.new j (Nat.le_of_not_lt h) hj
      rw [e, hD] at this
      cases this⟩
theorem tLc_of {K : PySem.W.Frag} {mi : WI} {t : Tg} {G : TG} {tests : WT} {tt : TT} {el : WE} {te : TE} {vs : List Nat} (hG : TgOk K t G) (hv : ∀ j ∈ t.slots, j ∈ vs) (ht : ∀ σ H Q, tWT K tests σ H Q → tt σ H Q) (he : ∀ σ H Q, tW K el σ H Q → te σ H Q) :
    ∀ σ H Q, tW K (mLc mi t tests el vs) σ H Q → tLc (tWI K mi) G tt te vs σ H Q := fun σ H Q ⟨g, env, w, S', hH, ok, er, hm, q⟩ => by
  obtain ⟨⟨s, S1⟩, e1, hm2⟩ := bind1 hm
  obtain ⟨⟨ws, S2⟩, e2, e3⟩ := bind1 hm2
  by_cases hz : szOk ws.length = true
  · rw [if_pos hz] at e3
    refine ⟨g, env, s, S1, hH, ok, er, e1, fun g0 h0 x0 ok0 J hJ => ?_⟩
    intro D hD
    subst h0
    have er0 := (er.mono ok x0).wiped vs
    have q0 := q.step ok0 x0
    refine ⟨fun i m H => m + i = s.n ∧ ∃ (g : Gw) (acc : List V) (accW rest : List W), g.H = H ∧ g.Ok K ∧ Ext g0 g ∧ EnvR K g (wipeE env vs) (wipe σ vs) ∧ g.H D = some (.lst acc) ∧ (∀ j, j < g.S.length → g.φ j ≠ D) ∧ g.WRs K accW acc ∧
      lcF s t tests el (wipeE env vs) m i g.S = some (rest, S2) ∧ accW ++ rest = ws, ⟨s.n, rfl, g0.out D (.lst []), [], [], ws, rfl, ok0.out hD, Ext.out hD, er0.mono ok0 (Ext.out hD), upd_same, fun j hj e => ?_, .nil, e2, rfl⟩, ?_⟩
    · obtain ⟨ho, h1, _⟩ := ok0.lt_at hj
      have e' : g0.φ j = D := e
      rw [e', hD] at h1
      cases h1
    · rintro i m H ⟨hi, g, acc, accW, rest, rfl, ok1, x1, er1, hD1, hr1, r1, hm3, hws⟩
      obtain ⟨hgo, hstop⟩ := hJ g x1 ok1
      cases m with
      | zero =>
        have hm3' : (if s.stop g.S then some (([] : List W), g.S) else none) = some (rest, S2) := hm3
        split at hm3'
        · rename_i hs
          cases hm3'
          rw [List.append_nil] at hws
          subst hws
          have e : i = s.n := by omega
          subst e
          refine .inl ⟨hstop hs, ?_⟩
          have e3' : some (W.ref g.S.length, g.S ++ [MO.lst accW]) = some (w, S') := e3
          cases e3'
          refine q0 (g.take D (.lst accW)) rfl (x1.take hD) (ok_take ok1 hD1 hr1 ⟨acc, rfl, r1⟩) (.ref D) ?_
          rw [Gw.WR, WR]
          refine ⟨by rw [Ext.take1]; exact Nat.lt_succ_self _, ?_⟩
          show V.ref D = .ref (if g.S.length = g.S.length then D else g.φ g.S.length)
          rw [if_pos rfl]
        · cases hm3'
      | succ k =>
        obtain ⟨u, f1, hm4⟩ := bind1 (show ((s.item i g.S).bind fun w => (t.asg w (wipeE env vs)).bind fun env1 => (tests env1 g.S).bind fun b => if b.1 = true then (el env1 b.2).bind fun v => (lcF s t tests el (wipeE env vs) k (i + 1) v.2).map fun r => (v.1 :: r.1, r.2) else lcF s t tests el (wipeE env vs) k (i + 1) b.2) = _ from hm3)
        obtain ⟨env1, ⟨b, S3⟩, f2, f3, f4⟩ := bind2 hm4
        obtain ⟨h1, h2⟩ := hgo i u (by omega) f1
        refine .inr ⟨h1, fun H' => ∃ (g : Gw) (acc : List V) (accW rest : List W), g.H = H' ∧ g.Ok K ∧ Ext g0 g ∧ EnvR K g (wipeE env vs) (wipe σ vs) ∧ g.H D = some (.lst acc) ∧ (∀ j, j < g.S.length → g.φ j ≠ D) ∧ g.WRs K accW acc ∧
          lcF s t tests el (wipeE env vs) k (i + 1) g.S = some (rest, S2) ∧ accW ++ rest = ws, fun H' ⟨g', a1, a2, a3, b1, b2, b3, b4, b5, b6, b7, b8, b9⟩ => ⟨k, Nat.lt_succ_self k, by omega, g', a1, a2, a3, b1, b2, b3, b4, b5, b6, b7, b8, b9⟩, fun v H' hy => ?_⟩
        obtain ⟨g1, rfl, hS, x2, ok2, r2⟩ := h2 v H' hy
        obtain ⟨hD2, hr2⟩ := Ext.outside hD1 hr1 x2
        refine hG g1 (wipeE env vs) env1 (wipe σ vs) u v _ ok2 (er1.mono ok1 x2) r2 f2 fun σ2 er2 bt => ⟨?_, ?_⟩
        · rw [(bt.mono hv).wipe, wipe_idem]
        · refine ht σ2 _ _ ⟨g1, env1, b, S3, rfl, ok2, er2, by rw [hS]; exact f3, fun g2 k1 x3 ok3 => ?_⟩
          subst k1
          obtain ⟨hD3, hr3⟩ := Ext.outside hD2 hr2 x3
          cases b with
          | true =>
            rw [if_pos rfl] at f4 ⊢
            obtain ⟨⟨y, S4⟩, f5, f6⟩ := bind1 f4
            obtain ⟨⟨rest', S5⟩, f7, f8⟩ := map1 f6
            cases f8
            refine he σ2 _ _ ⟨g2, env1, y, S4, rfl, ok3, er2.mono ok2 x3, f5, fun g3 k2 x4 ok4 z rz => ?_⟩
            subst k2
            obtain ⟨hD4, hr4⟩ := Ext.outside hD3 hr3 x4
            have racc := x4.wrs ok3 (x3.wrs ok2 (x2.wrs ok1 r1))
            refine ⟨acc, hD4, ?_, g3.out D (.lst (acc ++ [z])), acc ++ [z], accW ++ [y], rest', rfl, ok_re ok4 hD4 trivial hr4, ((((x1.trans ok1 x2).trans ok2 x3).trans ok3 x4).re hD), ?_, upd_same, hr4, wrs_re hD4 trivial (racc.append (.cons rz .nil)), f7, ?_⟩
            · have l1 := r1.length
              have l2 : ws.length ≤ sizeLine := szOk_le hz
              rw [← hws, List.length_append, List.length_cons] at l2
              rw [← l1]
              omega
            · have er4 := (((er1.mono ok1 x2).mono ok2 x3).mono ok3 x4)
              exact ⟨er4.len, fun i w h => by
                obtain ⟨v, p1, p2⟩ := er4.at_ i w h
                exact ⟨v, p1, wr_re hD4 trivial p2⟩⟩
            · rw [← hws, List.append_assoc, List.singleton_append]
          | false =>
            rw [if_neg Bool.false_ne_true] at f4 ⊢
            exact ⟨g2, acc, accW, rest, rfl, ok3, (x1.trans ok1 x2).trans ok2 x3, (er1.mono ok1 x2).mono ok2 x3, hD3, hr3, x3.wrs ok2 (x2.wrs ok1 r1), f4, hws⟩
  · rw [if_neg hz] at e3; cases e3
def tYesW : WT := fun _ S => some (true, S)
def QTs (X : Cx) (ifs : List Expr) (m : WT) : Prop := PTs X ifs (tWT X.K m)
theorem PTs.weak {X : Cx} {e : List Expr} {t t' : TT} (h : PTs X e t) (i : ∀ σ H Q, t' σ H Q → t σ H Q) : PTs X e t' := ⟨fun pins s σ H Q I q => h.run pins s σ H Q I (i σ H Q q)⟩
theorem qts_nil : QTs X [] tYesW := PTs.weak pts_nil fun σ H Q ⟨g, env, b, S', hH, ok, er, hm, q⟩ => by
  have hm' : some (true, g.S) = some (b, S') := hm
  cases hm'
  subst hH
  exact Then.self ok q
theorem qts_one {c : Expr} {t : WT} (h : QT X c t) : QTs X [c] t := pts_one h
theorem q_lc {elt tg iter : Expr} {ifs : List Expr} {scope : Scope} {own : List (Str × Nat)} {mi : WI} {t : Tg} {tests : WT} {el : WE} (hc : X.calm = true) (hN : X.N.Nodup) (hi : QI X tg iter mi) (ok : BlkOk X.N X.env.scope scope own)
    (hg : ∀ (s : Shared) (H : Hp) (C : Addr) (cl : List (Str × Addr)) (fp : List Addr), QG (X.blk s H scope (compEnvC scope cl C X.env) fp) tg t)
    (ht : ∀ (s : Shared) (H : Hp) (C : Addr) (cl : List (Str × Addr)) (fp : List Addr), QTs (X.blk s H scope (compEnvC scope cl C X.env) fp) ifs tests)
    (he : ∀ (s : Shared) (H : Hp) (C : Addr) (cl : List (Str × Addr)) (fp : List Addr), QE (X.blk s H scope (compEnvC scope cl C X.env) fp) elt el)
    (hv : ∀ j ∈ t.slots, j ∈ own.map (·.2) := by decide) (hs : ∀ x, foldedSetIterable iter X.env x = pure x := by intro _; rfl) :
    QE X (.ListComp elt [⟨tg, iter, ifs, 0⟩] scope pos) (mLc mi t tests el (own.map (·.2))) :=
  PE.weak (pe_lc (g := t.rd X.K) (tt := tWT X.K tests) (te := tW X.K el) hc hN hi ok hg ht he hs) (tLc_of (Tg.ok X.K t) hv (fun σ H Q h => h) (fun σ H Q h => h))
/-- y = [..] on one line -/
theorem qs_setLc {i : Nat} {y : Str} {py : Pos} {spos : Pos} {elt tg iter : Expr} {ifs : List Expr} {scope : Scope} {own : List (Str × Nat)} {mi : WI} {t : Tg} {tests : WT} {el : WE} (hc : X.calm = true) (hN : X.N.Nodup) (hy : X.N[i]? = some y) (hyl : X.env.scope.names.lookup y = some .local)
    (hsw : swapsWith (.ListComp elt [⟨tg, iter, ifs, 0⟩] scope pos) (some (.Name y py)) spos.line X.env = pure true) (hi : QI X tg iter mi) (ok : BlkOk X.N X.env.scope scope own)
    (hg : ∀ (s : Shared) (H : Hp) (C : Addr) (cl : List (Str × Addr)) (fp : List Addr), QG (X.blk s H scope (compEnvC scope cl C X.env) fp) tg t)
    (ht : ∀ (s : Shared) (H : Hp) (C : Addr) (cl : List (Str × Addr)) (fp : List Addr), QTs (X.blk s H scope (compEnvC scope cl C X.env) fp) ifs tests)
    (he : ∀ (s : Shared) (H : Hp) (C : Addr) (cl : List (Str × Addr)) (fp : List Addr), QE (X.blk s H scope (compEnvC scope cl C X.env) fp) elt el)
    (hv : ∀ j ∈ t.slots, j ∈ own.map (·.2) := by decide) (hs : ∀ x, foldedSetIterable iter X.env x = pure x := by intro _; rfl) :
    QS X (.Assign [.Name y py] (.ListComp elt [⟨tg, iter, ifs, 0⟩] scope pos) spos) (sAsg (.nm i) (mLc mi t tests el (own.map (·.2)))) := by
  refine PS.weak (ps_setLc (g := t.rd X.K) (tt := tWT X.K tests) (te := tW X.K el) hc hN hy hyl hsw hi ok hg ht he hs) fun D σ H h => ?_
  have key : ∀ D σ H, tWS X.K (sAsg (.nm i) (mLc mi t tests el (own.map (·.2)))) D σ H → tAsg (tW X.K (mLc mi t tests el (own.map (·.2)))) (gName i) D σ H := tAsg_of (rd_nm ▸ Tg.ok X.K (.nm i))
  exact tLc_of (Tg.ok X.K t) hv (fun σ H Q h => h) (fun σ H Q h => h) σ H _ (key D σ H h)
end
end L2.Aw

namespace L2.Aw
open PySem PySem.Spec PyProof.Rows

/-! ### tuples, lists, ranges walked -/
def sTup (ws : List W) : Src := ⟨ws.length, fun i _ => ws[i]?, fun _ => true⟩
def sLst (l n : Nat) : Src := ⟨n, fun i S => (getL S l).bind fun ws => ws[i]?, fun S => match getL S l with
  | some ws => decide (ws.length ≤ n)
  | none => false⟩
def sRng (lo : Int) (n : Nat) : Src := ⟨n, fun i _ => some (.int (lo + i)), fun _ => true⟩
def srcOf (S : Store) : W → Option Src
  | .tup ws => some (sTup ws)
  | .fz ws => some (sTup ws)
  | .ref l => (getL S l).map fun ws => sLst l ws.length
  | _ => none
def iSeq (m : WE) : WI := fun env S => (m env S).bind fun p => (srcOf p.2 p.1).map fun s => (s, p.2)
theorem real_tup {K : PySem.W.Frag} {g0 : Gw} {ws : List W} {a : Addr} {xs : List V} (ok0 : g0.Ok K) (hs : SqT K g0.H a xs) (r : g0.WRs K ws xs) : Real K g0 (sTup ws) (Itt K a) := fun g x ok => by
  have hs' := x.sqT ok0 hs
  have r' := x.wrs ok0 r
  refine ⟨fun i w hi hw => ?_, fun _ => ⟨xs, hs', by rw [← r'.length]; exact Nat.le_refl _⟩⟩
  obtain ⟨v, e, rv⟩ := r'.get hw
  refine ⟨⟨xs, v, hs', e⟩, fun y H' hy => ?_⟩
  obtain ⟨e1, e2⟩ := hy
  have := e2 xs hs'
  rw [e] at this
  cases this
  exact ⟨g, e1.symm, rfl, Ext.refl g, ok, rv⟩
theorem real_fz {K : PySem.W.Frag} {g0 : Gw} {ws : List W} {a : Addr} {xs : List V} (ok0 : g0.Ok K) (hs : FzL K g0.H a xs) (r : g0.WRs K ws xs) : Real K g0 (sTup ws) (Itl K a) := fun g x ok => by
  have hs' := (x.fzL ok0 hs).seq
  have r' := x.wrs ok0 r
  refine ⟨fun i w hi hw => ?_, fun _ => ⟨xs, hs', by rw [← r'.length]; exact Nat.le_refl _⟩⟩
  obtain ⟨v, e, rv⟩ := r'.get hw
  refine ⟨⟨xs, v, hs', e⟩, fun y H' hy => ?_⟩
  obtain ⟨e1, e2⟩ := hy
  have := e2 xs hs'
  rw [e] at this
  cases this
  exact ⟨g, e1.symm, rfl, Ext.refl g, ok, rv⟩
theorem real_lst {K : PySem.W.Frag} {g0 : Gw} {l n : Nat} (hl : l < g0.S.length) : Real K g0 (sLst l n) (Itl K (g0.φ l)) := fun g x ok => by
  have ep : g.φ l = g0.φ l := x.φ l hl
  refine ⟨fun i w hi hw => ?_, fun hs => ?_⟩
  · obtain ⟨ws, e1, e2⟩ := bind1 (show ((getL g.S l).bind fun ws => ws[i]?) = some w from hw)
    obtain ⟨_, xs, h1, r⟩ := getL_at ok e1
    rw [ep] at h1
    obtain ⟨v, e, rv⟩ := r.get e2
    refine ⟨⟨xs, v, SqL.of h1, e⟩, fun y H' hy => ?_⟩
    obtain ⟨f1, f2⟩ := hy
    have := f2 xs (SqL.of h1)
    rw [e] at this
    cases this
    exact ⟨g, f1.symm, rfl, Ext.refl g, ok, rv⟩
  · have hs' : (match getL g.S l with | some ws => decide (ws.length ≤ n) | none => false) = true := hs
    cases e1 : getL g.S l with
    | none => rw [e1] at hs'; cases hs'
    | some ws =>
      rw [e1] at hs'
      obtain ⟨_, xs, h1, r⟩ := getL_at ok e1
      rw [ep] at h1
      exact ⟨xs, SqL.of h1, by rw [← r.length]; exact of_decide_eq_true hs'⟩
theorem real_rng {K : PySem.W.Frag} {g0 : Gw} {lo : Int} {n : Nat} : Real K g0 (sRng lo n) (Itr lo n) := fun g x ok => by
  refine ⟨fun i w hi hw => ⟨hi, fun y H' hy => ?_⟩, fun _ => Nat.le_refl _⟩
  obtain ⟨e1, e2⟩ := hy
  have hw' : some (W.int (lo + i)) = some w := hw
  cases hw'
  subst e2
  exact ⟨g, e1.symm, rfl, Ext.refl g, ok, WR.ofInt⟩
theorem PI.or {X : Cx} {tg iter : Expr} {t t' : TI} (h : PI X tg iter t) (h' : PI X tg iter t') : PI X tg iter (fun σ H R => t σ H R ∨ t' σ H R) := ⟨fun pins s σ H R I q => q.elim (fun q => h.run pins s σ H R I q) fun q => h'.run pins s σ H R I q⟩
section
variable {X : Cx} {pos : Pos} {tg : Expr} {a b c e : Expr} {es : List Expr} {ma mb mc me : WE} {mes : WA}
theorem qi_seq (h : QE X e me) : QI X tg e (iSeq me) := PI.weak (L2.Aw.PI.or (pi_list h) (pi_tup h)) fun σ H R ⟨g, env, s, S', hH, ok, er, hm, q⟩ => by
  obtain ⟨⟨w, S1⟩, e1, e2⟩ := bind1 hm
  obtain ⟨s', e3, e4⟩ := map1 e2
  cases e4
  cases w with
  | tup ws =>
    cases e3
    exact .inr ⟨g, env, .tup ws, _, hH, ok, er, e1, fun g1 h1 x1 ok1 v r => by
      obtain ⟨p, xs, f, hs, rs⟩ := r.tup_inv
      exact ⟨p, f, ⟨xs, hs⟩, q g1 h1 x1 ok1 _ (real_tup ok1 hs rs)⟩⟩
  | fz ws =>
    cases e3
    exact .inl ⟨g, env, .fz ws, _, hH, ok, er, e1, fun g1 h1 x1 ok1 v r => by
      obtain ⟨p, xs, f, hs, rs⟩ := r.fz_inv
      exact ⟨p, f, ⟨xs, hs.seq⟩, q g1 h1 x1 ok1 _ (real_fz ok1 hs rs)⟩⟩
  | ref l =>
    obtain ⟨ws, f1, f2⟩ := map1 e3
    subst f2
    exact .inl ⟨g, env, .ref l, _, hH, ok, er, e1, fun g1 h1 x1 ok1 v r => by
      subst h1
      obtain ⟨hl, xs, hs, rs⟩ := getL_at ok1 f1
      exact ⟨g1.φ l, r.ref_inv.2, ⟨xs, SqL.of hs⟩, q g1 rfl x1 ok1 _ (real_lst hl)⟩⟩
  | _ => cases e3
def okRng (i : Int) : Bool := decide (-(2 ^ 62) ≤ i) && decide (i < 2 ^ 62)
def iRange1 (ma : WA) : WI := fun env S => (ma env S).bind fun p => match p.1 with
  | [.int j] => if okRng j then some (sRng 0 j.toNat, p.2) else none
  | _ => none
def iRange2 (ma : WA) : WI := fun env S => (ma env S).bind fun p => match p.1 with
  | [.int i, .int j] => if okRng i && okRng j then some (sRng i (j - i).toNat, p.2) else none
  | _ => none
theorem WRs.one {g : Gw} {w : W} {vs : List V} (r : g.WRs X.K [w] vs) : ∃ v, vs = [v] ∧ g.WR X.K w v := by
  obtain ⟨v, t, e, r1, r2⟩ := r.cons_inv
  rw [r2.nil_inv] at e
  exact ⟨v, e, r1⟩
theorem WRs.two {g : Gw} {w w' : W} {vs : List V} (r : g.WRs X.K [w, w'] vs) : ∃ v v', vs = [v, v'] ∧ g.WR X.K w v ∧ g.WR X.K w' v' := by
  obtain ⟨v, t, e, r1, r2⟩ := r.cons_inv
  obtain ⟨v', e', r3⟩ := WRs.one r2
  subst e'
  exact ⟨v, v', e, r1, r3⟩
theorem qi_range1 {p : Pos} (hg : Gl X "range") (hm : X.mg "range" = none) (ha : QA X [a] mes) (hs : starEach [a] X.env = [(false, eval a X.env)] := by rfl) : QI X tg (.Call (.Name "range" p) [a] [] pos) (iRange1 mes) :=
  PI.weak (pi_range1 hg hm ha hs) fun σ H R ⟨g, env, s, S', hH, ok, er, hm, q⟩ => by
    obtain ⟨⟨ws, S1⟩, e1, e2⟩ := bind1 hm
    refine ⟨g, env, ws, S1, hH, ok, er, e1, fun g1 h1 x1 ok1 vs r => ?_⟩
    split at e2
    · rename_i j heq
      have heq' : ws = [W.int j] := heq
      subst heq'
      split at e2
      · rename_i hz
        simp only [okRng, Bool.and_eq_true, decide_eq_true_eq] at hz
        cases e2
        obtain ⟨v, ev, rv⟩ := WRs.one r
        exact ⟨j, by rw [ev, rv.int_inv], hz.1, hz.2, q g1 h1 x1 ok1 _ real_rng⟩
      · cases e2
    · cases e2
theorem qi_range2 {p : Pos} (hg : Gl X "range") (hm : X.mg "range" = none) (ha : QA X [a, b] mes) (hs : starEach [a, b] X.env = [(false, eval a X.env), (false, eval b X.env)] := by rfl) (hs2 : starEach [b] X.env = [(false, eval b X.env)] := by rfl) : QI X tg (.Call (.Name "range" p) [a, b] [] pos) (iRange2 mes) :=
  PI.weak (pi_range2 hg hm ha hs hs2) fun σ H R ⟨g, env, s, S', hH, ok, er, hm, q⟩ => by
    obtain ⟨⟨ws, S1⟩, e1, e2⟩ := bind1 hm
    refine ⟨g, env, ws, S1, hH, ok, er, e1, fun g1 h1 x1 ok1 vs r => ?_⟩
    split at e2
    · rename_i i j heq
      have heq' : ws = [W.int i, W.int j] := heq
      subst heq'
      split at e2
      · rename_i hz
        simp only [okRng, Bool.and_eq_true, decide_eq_true_eq] at hz
        cases e2
        obtain ⟨v, v', ev, rv, rv'⟩ := WRs.two r
        exact ⟨i, j, by rw [ev, rv.int_inv, rv'.int_inv], ⟨hz.1.1, hz.1.2, hz.2.1, hz.2.2⟩, q g1 h1 x1 ok1 _ real_rng⟩
      · cases e2
    · cases e2
/-- enumerate(xs), xs a list -/
def sEnumL (l n : Nat) : Src := ⟨n, fun i S => (getL S l).bind fun ws => (ws[i]?).map fun w => .tup [.int i, w], fun S => match getL S l with
  | some ws => decide (ws.length ≤ n)
  | none => false⟩
theorem real_enumL {K : PySem.W.Frag} {g0 : Gw} {l n : Nat} (hl : l < g0.S.length) : Real K g0 (sEnumL l n) (Ite K (g0.φ l)) := fun g x ok => by
  have ep : g.φ l = g0.φ l := x.φ l hl
  refine ⟨fun i w hi hw => ?_, fun hs => ?_⟩
  · obtain ⟨ws, e1, e2⟩ := bind1 (show ((getL g.S l).bind fun ws => (ws[i]?).map fun w => W.tup [.int i, w]) = some w from hw)
    obtain ⟨w0, e3, e4⟩ := map1 e2
    subst e4
    obtain ⟨_, xs, h1, r⟩ := getL_at ok e1
    rw [ep] at h1
    obtain ⟨v, e, rv⟩ := r.get e3
    refine ⟨⟨xs, v, SqL.of h1, e⟩, fun y H' hy => ?_⟩
    obtain ⟨T, z, f1, f2, f3, f4⟩ := hy
    have := f4 xs (SqL.of h1)
    rw [e] at this
    cases this
    subst f1 f3
    have x2 : Ext g (g.out T (.tup [.int (i : Nat), v])) := Ext.out f2
    exact ⟨g.out T (.tup [.int (i : Nat), v]), rfl, rfl, x2, ok.out f2, WR.ofTup upd_same (.cons WR.ofInt (.cons (x2.wr ok rv) .nil))⟩
  · have hs' : (match getL g.S l with | some ws => decide (ws.length ≤ n) | none => false) = true := hs
    cases e1 : getL g.S l with
    | none => rw [e1] at hs'; cases hs'
    | some ws =>
      rw [e1] at hs'
      obtain ⟨_, xs, h1, r⟩ := getL_at ok e1
      rw [ep] at h1
      exact ⟨xs, SqL.of h1, by rw [← r.length]; exact of_decide_eq_true hs'⟩
def iEnumL (ma : WA) : WI := fun env S => (ma env S).bind fun p => match p.1 with
  | [.ref l] => (getL p.2 l).map fun ws => (sEnumL l ws.length, p.2)
  | _ => none
theorem qi_enumL {p tpos : Pos} {elts : List Expr} {kk : Nat} (hg : Gl X "enumerate") (hm : X.mg "enumerate" = none) (ha : QA X [e] mes) (hs : starEach [e] X.env = [(false, eval e X.env)] := by rfl) : QI X (.Tuple elts kk tpos) (.Call (.Name "enumerate" p) [e] [] pos) (iEnumL mes) :=
  PI.weak (pi_enum hg hm ha hs) fun σ H R ⟨g, env, s, S', hH, ok, er, hm, q⟩ => by
    obtain ⟨⟨ws, S1⟩, e1, e2⟩ := bind1 hm
    refine ⟨g, env, ws, S1, hH, ok, er, e1, fun g1 h1 x1 ok1 vs r => ?_⟩
    split at e2
    · rename_i l heq
      have heq' : ws = [W.ref l] := heq
      subst heq'
      obtain ⟨us, f1, f2⟩ := map1 e2
      cases f2
      subst h1
      obtain ⟨v, ev, rv⟩ := WRs.one r
      obtain ⟨hl, xs, h1, rs⟩ := getL_at ok1 f1
      exact ⟨g1.φ l, xs, by rw [ev, rv.ref_inv.2], SqL.of h1, q g1 rfl x1 ok1 _ (real_enumL hl)⟩
    · cases e2

/-! ### built-in functions -/
def intsOf : List W → Option (List Int)
  | [] => some []
  | .int i :: ws => (intsOf ws).map fun r => i :: r
  | _ :: _ => none
theorem ints_V {g : Gw} : ∀ {ws : List W} {xs : List V} {ns : List Int}, g.WRs X.K ws xs → intsOf ws = some ns → xs = ns.map V.int
  | [], xs, ns, r, h => by
    cases h
    exact r.nil_inv
  | w :: ws, xs, ns, r, h => by
    obtain ⟨x, t, e, r1, r2⟩ := r.cons_inv
    subst e
    cases w with
    | int i =>
      obtain ⟨ms, f1, f2⟩ := map1 (show ((intsOf ws).map fun r => i :: r) = _ from h)
      subst f2
      rw [r1.int_inv, ints_V r2 f1]
      rfl
    | _ => cases h
def boolsOf : List W → Option (List Bool)
  | [] => some []
  | .bl i :: ws => (boolsOf ws).map fun r => i :: r
  | _ :: _ => none
theorem bools_V {g : Gw} : ∀ {ws : List W} {xs : List V} {ns : List Bool}, g.WRs X.K ws xs → boolsOf ws = some ns → xs = ns.map V.bl
  | [], xs, ns, r, h => by
    cases h
    exact r.nil_inv
  | w :: ws, xs, ns, r, h => by
    obtain ⟨x, t, e, r1, r2⟩ := r.cons_inv
    subst e
    cases w with
    | bl i =>
      obtain ⟨ms, f1, f2⟩ := map1 (show ((boolsOf ws).map fun r => i :: r) = _ from h)
      subst f2
      rw [r1.bl_inv, bools_V r2 f1]
      rfl
    | _ => cases h
/-- an int list of the store -/
def intsAt (S : Store) : W → Option (List Int)
  | .ref l => (getL S l).bind intsOf
  | _ => none
theorem intsAt_at {g : Gw} (ok : g.Ok X.K) {w : W} {v : V} {ns : List Int} (r : g.WR X.K w v) (h : intsAt g.S w = some ns) : ∃ a, v = .ref a ∧ SqL X.K g.H a (ns.map V.int) := by
  cases w with
  | ref l =>
    obtain ⟨ws, e1, e2⟩ := bind1 h
    obtain ⟨_, xs, h1, rs⟩ := getL_at ok e1
    rw [ints_V rs e2] at h1
    exact ⟨_, r.ref_inv.2, SqL.of h1⟩
  | _ => cases h
def boolsAt (S : Store) : W → Option (List Bool)
  | .ref l => (getL S l).bind boolsOf
  | _ => none
theorem boolsAt_at {g : Gw} (ok : g.Ok X.K) {w : W} {v : V} {ns : List Bool} (r : g.WR X.K w v) (h : boolsAt g.S w = some ns) : ∃ a, v = .ref a ∧ SqL X.K g.H a (ns.map V.bl) := by
  cases w with
  | ref l =>
    obtain ⟨ws, e1, e2⟩ := bind1 h
    obtain ⟨_, xs, h1, rs⟩ := getL_at ok e1
    rw [bools_V rs e2] at h1
    exact ⟨_, r.ref_inv.2, SqL.of h1⟩
  | _ => cases h
def cSum : FM := fun ws S => match ws with
  | [x] => (intsAt S x).map fun ns => (.int ns.sum, S)
  | _ => none
theorem k_sum : CallK X.K cSum (rSum X.K) := fun g ws vs w S' Q ok r h q => by
  match ws, r, h with
  | [x], r, h =>
    obtain ⟨ns, e1, e2⟩ := map1 (show ((intsAt g.S x).map fun ns => (W.int ns.sum, g.S)) = _ from h)
    obtain ⟨v, ev, rv⟩ := WRs.one r
    obtain ⟨a, e3, e4⟩ := intsAt_at ok rv e1
    exact ⟨a, ns, by rw [ev, e3], e4, Then.val ok (congrArg some e2) q WR.ofInt⟩
  | [], _, h => cases h
  | _ :: _ :: _, _, h => cases h
def lmax : List Int → Int
  | [] => 0
  | [x] => x
  | x :: y :: r => max x (lmax (y :: r))
def lmin : List Int → Int
  | [] => 0
  | [x] => x
  | x :: y :: r => min x (lmin (y :: r))
theorem lmax_mem : ∀ {ns : List Int}, ns ≠ [] → lmax ns ∈ ns
  | [x], _ => List.mem_singleton.mpr rfl
  | x :: y :: r, _ => by
    have ih := lmax_mem (ns := y :: r) (by simp)
    show max x (lmax (y :: r)) ∈ _
    by_cases h : x ≤ lmax (y :: r)
    · rw [Int.max_eq_right h]; exact List.mem_cons_of_mem _ ih
    · rw [Int.max_eq_left (by omega)]; exact List.mem_cons_self
theorem lmax_le : ∀ {ns : List Int} {y : Int}, y ∈ ns → y ≤ lmax ns
  | [x], y, h => by rw [List.mem_singleton.mp h]; exact Int.le_refl _
  | x :: z :: r, y, h => by
    show y ≤ max x (lmax (z :: r))
    rcases List.mem_cons.mp h with e | e
    · rw [e]; omega
    · have := lmax_le e; omega
theorem lmin_mem : ∀ {ns : List Int}, ns ≠ [] → lmin ns ∈ ns
  | [x], _ => List.mem_singleton.mpr rfl
  | x :: y :: r, _ => by
    have ih := lmin_mem (ns := y :: r) (by simp)
    show min x (lmin (y :: r)) ∈ _
    by_cases h : x ≤ lmin (y :: r)
    · rw [Int.min_eq_left h]; exact List.mem_cons_self
    · rw [Int.min_eq_right (by omega)]; exact List.mem_cons_of_mem _ ih
theorem lmin_le : ∀ {ns : List Int} {y : Int}, y ∈ ns → lmin ns ≤ y
  | [x], y, h => by rw [List.mem_singleton.mp h]; exact Int.le_refl _
  | x :: z :: r, y, h => by
    show min x (lmin (z :: r)) ≤ y
    rcases List.mem_cons.mp h with e | e
    · rw [e]; omega
    · have := lmin_le e; omega
def int2 (f : Int → Int → Int) : W2 := fun x y S => match x, y with
  | .int i, .int j => some (.int (f i j), S)
  | _, _ => none
theorem int2_some {f : Int → Int → Int} {x y : W} {S : Store} {z} (h : int2 f x y S = some z) : ∃ i j, x = .int i ∧ y = .int j ∧ some (.int (f i j), S) = some z := by
  cases x <;> cases y <;> simp only [int2] at h <;> first | cases h; done | exact ⟨_, _, rfl, rfl, h⟩
def cMax : FM := fun ws S => match ws with
  | [x] => (intsAt S x).bind fun ns => if ns.isEmpty then none else some (.int (lmax ns), S)
  | [x, y] => int2 max x y S
  | _ => none
def cMin : FM := fun ws S => match ws with
  | [x] => (intsAt S x).bind fun ns => if ns.isEmpty then none else some (.int (lmin ns), S)
  | [x, y] => int2 min x y S
  | _ => none
def rMaxW (K : PySem.W.Frag) : List V → Hp → VK → Prop := fun xs H Q => rMax K xs H Q ∨ ∃ i j, xs = [.int i, .int j] ∧ Q (.int (if j > i then j else i)) H
def rMinW (K : PySem.W.Frag) : List V → Hp → VK → Prop := fun xs H Q => rMin K xs H Q ∨ ∃ i j, xs = [.int i, .int j] ∧ Q (.int (if j < i then j else i)) H
theorem cr_maxW (hc : X.calm = true) : CallR X (.builtin "max") (rMaxW X.K) := (cr_max hc).or (call_max2 hc)
theorem cr_minW (hc : X.calm = true) : CallR X (.builtin "min") (rMinW X.K) := (cr_min hc).or (call_min2 hc)
theorem k_max : CallK X.K cMax (rMaxW X.K) := fun g ws vs w S' Q ok r h q => by
  match ws, r, h with
  | [x], r, h =>
    obtain ⟨ns, e1, e2⟩ := bind1 (show ((intsAt g.S x).bind fun ns => if ns.isEmpty then none else some (W.int (lmax ns), g.S)) = _ from h)
    split at e2
    · cases e2
    · rename_i hne
      obtain ⟨v, ev, rv⟩ := WRs.one r
      obtain ⟨a, e3, e4⟩ := intsAt_at ok rv e1
      have hne' : ns ≠ [] := fun z => hne (by rw [z]; rfl)
      refine .inl ⟨a, ns, by rw [ev, e3], e4, List.length_pos_iff.mpr hne', fun m hm hle => ?_⟩
      have e : m = lmax ns := Int.le_antisymm (lmax_le hm) (hle _ (lmax_mem hne'))
      rw [e]
      exact Then.val ok e2 q WR.ofInt
  | [], _, h => cases h
  | _ :: _ :: _ :: _, _, h => cases h
  | [x, y], r, h =>
    obtain ⟨i, j, rfl, rfl, h'⟩ := int2_some (show int2 max x y g.S = _ from h)
    obtain ⟨v, v', ev, rv, rv'⟩ := WRs.two r
    refine .inr ⟨i, j, by rw [ev, rv.int_inv, rv'.int_inv], ?_⟩
    have e : (if j > i then j else i) = max i j := by split <;> omega
    rw [e]
    exact Then.val ok h' q WR.ofInt
theorem k_min : CallK X.K cMin (rMinW X.K) := fun g ws vs w S' Q ok r h q => by
  match ws, r, h with
  | [x], r, h =>
    obtain ⟨ns, e1, e2⟩ := bind1 (show ((intsAt g.S x).bind fun ns => if ns.isEmpty then none else some (W.int (lmin ns), g.S)) = _ from h)
    split at e2
    · cases e2
    · rename_i hne
      obtain ⟨v, ev, rv⟩ := WRs.one r
      obtain ⟨a, e3, e4⟩ := intsAt_at ok rv e1
      have hne' : ns ≠ [] := fun z => hne (by rw [z]; rfl)
      refine .inl ⟨a, ns, by rw [ev, e3], e4, List.length_pos_iff.mpr hne', fun m hm hle => ?_⟩
      have e : m = lmin ns := Int.le_antisymm (hle _ (lmin_mem hne')) (lmin_le hm)
      rw [e]
      exact Then.val ok e2 q WR.ofInt
  | [], _, h => cases h
  | _ :: _ :: _ :: _, _, h => cases h
  | [x, y], r, h =>
    obtain ⟨i, j, rfl, rfl, h'⟩ := int2_some (show int2 min x y g.S = _ from h)
    obtain ⟨v, v', ev, rv, rv'⟩ := WRs.two r
    refine .inr ⟨i, j, by rw [ev, rv.int_inv, rv'.int_inv], ?_⟩
    have e : (if j < i then j else i) = min i j := by split <;> omega
    rw [e]
    exact Then.val ok h' q WR.ofInt
def c1 (f : W1) : FM := fun ws S => match ws with
  | [x] => f x S
  | _ => none
theorem c1_some {f : W1} {ws : List W} {S : Store} {z} (h : c1 f ws S = some z) : ∃ x, ws = [x] ∧ f x S = some z := by
  match ws, h with
  | [x], h => exact ⟨x, rfl, h⟩
  | [], h => cases h
  | _ :: _ :: _, h => cases h
def absW : W1 := fun x S => match x with
  | .int i => some (.int (if i < 0 then -i else i), S)
  | _ => none
def cAbs : FM := c1 absW
theorem k_abs : CallK X.K cAbs (fun xs H Q => ∃ i, xs = [.int i] ∧ Q (.int (if i < 0 then -i else i)) H) := fun g ws vs w S' Q ok r h q => by
  obtain ⟨x, rfl, h⟩ := c1_some h
  obtain ⟨v, ev, rv⟩ := WRs.one r
  cases x with
  | int i => exact ⟨i, by rw [ev, rv.int_inv], Then.val ok h q WR.ofInt⟩
  | _ => cases h
def toInt : W1 := fun x S => match x with
  | .int i => some (.int i, S)
  | .bl b => some (.int (if b then 1 else 0), S)
  | _ => none
def cInt : FM := c1 toInt
theorem k_int : CallK X.K cInt (fun xs H Q => (∃ i, xs = [.int i] ∧ Q (.int i) H) ∨ ∃ k, xs = [.bl k] ∧ Q (.int (if k then 1 else 0)) H) := fun g ws vs w S' Q ok r h q => by
  obtain ⟨x, rfl, h⟩ := c1_some h
  obtain ⟨v, ev, rv⟩ := WRs.one r
  cases x with
  | int i => exact .inl ⟨i, by rw [ev, rv.int_inv], Then.val ok h q WR.ofInt⟩
  | bl i => exact .inr ⟨i, by rw [ev, rv.bl_inv], Then.val ok h q WR.ofInt⟩
  | _ => cases h
def cLen : FM := fun ws S => match ws with
  | [.str z] => if szOk z.length then some (.int z.length, S) else none
  | [x] => (seqOf S x).map fun us => (.int us.length, S)
  | _ => none
def rLenW (K : PySem.W.Frag) : List V → Hp → VK → Prop := fun xs H Q => (∃ p ys, xs = [.ref p] ∧ (SqL K H p ys ∨ SqT K H p ys) ∧ Q (.int ys.length) H) ∨ ∃ z, xs = [.str z] ∧ z.length ≤ sizeLine ∧ Q (.int z.length) H
theorem cr_lenW : CallR X (.builtin "len") (rLenW X.K) := CallR.or call_len_seq call_len_str
theorem len_seq {g : Gw} {x : W} {v : V} {w : W} {S' : Store} {Q : VK} (ok : g.Ok X.K) (rv : g.WR X.K x v) (h : ((seqOf g.S x).map fun us => (W.int us.length, g.S)) = some (w, S')) (q : Then X.K g S' fun g' => ∀ v, g'.WR X.K w v → Q v g'.H) : rLenW X.K [v] g.H Q := by
  obtain ⟨us, e1, e2⟩ := map1 h
  obtain ⟨p, xs, f, hs, rs⟩ := seqOf_at ok rv e1
  refine .inl ⟨p, xs, by rw [f], hs, ?_⟩
  rw [← rs.length]
  exact Then.val ok (congrArg some e2) q WR.ofInt
theorem k_len : CallK X.K cLen (rLenW X.K) := fun g ws vs w S' Q ok r h q => by
  match ws, r, h with
  | [x], r, h =>
    obtain ⟨v, ev, rv⟩ := WRs.one r
    subst ev
    cases x with
    | str z =>
      simp only [cLen] at h
      split at h
      · rename_i hz
        exact .inr ⟨z, by rw [rv.str_inv], szOk_le hz, Then.val ok h q WR.ofInt⟩
      · cases h
    | _ => exact len_seq ok rv h q
  | [], _, h => cases h
  | .str _ :: _ :: _, _, h => cases h
  | .non :: _ :: _, _, h => cases h
  | .bl _ :: _ :: _, _, h => cases h
  | .int _ :: _ :: _, _, h => cases h
  | .tup _ :: _ :: _, _, h => cases h
  | .fz _ :: _ :: _, _, h => cases h
  | .ref _ :: _ :: _, _, h => cases h
def cTuple : FM := fun ws S => match ws with
  | [x] => (seqOf S x).map fun us => (.tup us, S)
  | _ => none
theorem k_tuple : CallK X.K cTuple (fun xs H Q => ∃ p ys, xs = [.ref p] ∧ ((SqL X.K H p ys ∧ ∀ l, H l = none → Q (.ref l) (upd H l (.tup ys))) ∨ (SqT X.K H p ys ∧ Q (.ref p) H))) := fun g ws vs w S' Q ok r h q => by
  match ws, r, h with
  | [x], r, h =>
    obtain ⟨us, e1, e2⟩ := map1 (show ((seqOf g.S x).map fun us => (W.tup us, g.S)) = _ from h)
    obtain ⟨v, ev, rv⟩ := WRs.one r
    cases x with
    | tup us' =>
      cases e1
      obtain ⟨p, xs, f, hs, rs⟩ := rv.tup_inv
      subst f
      exact ⟨p, xs, ev, .inr ⟨hs, Then.val ok (congrArg some e2) q rv⟩⟩
    | fz us' =>
      cases e1
      obtain ⟨p, xs, f, hs, rs⟩ := rv.fz_inv
      subst f
      exact ⟨p, xs, ev, .inl ⟨hs.seq, Then.newT ok rs (congrArg some e2) q⟩⟩
    | ref i =>
      obtain ⟨_, xs, h1, rs⟩ := getL_at ok (show getL g.S i = some us from e1)
      exact ⟨g.φ i, xs, by rw [ev, rv.ref_inv.2], .inl ⟨SqL.of h1, Then.newT ok rs (congrArg some e2) q⟩⟩
    | _ => cases e1
  | [], _, h => cases h
  | _ :: _ :: _, _, h => cases h
def cList : FM := fun ws S => match ws with
  | [x] => (seqOf S x).bind fun us => newL us S
  | _ => none
theorem k_list : CallK X.K cList (fun xs H Q => ∃ p ys, xs = [.ref p] ∧ (SqL X.K H p ys ∨ SqT X.K H p ys) ∧ ∀ l, H l = none → Q (.ref l) (upd H l (.lst ys))) := fun g ws vs w S' Q ok r h q => by
  match ws, r, h with
  | [x], r, h =>
    obtain ⟨us, e1, e2⟩ := bind1 (show ((seqOf g.S x).bind fun us => newL us g.S) = _ from h)
    obtain ⟨v, ev, rv⟩ := WRs.one r
    obtain ⟨p, xs, f, hs, rs⟩ := seqOf_at ok rv e1
    exact ⟨p, xs, by rw [ev, f], hs, Then.newL ok rs e2 q⟩
  | [], _, h => cases h
  | _ :: _ :: _, _, h => cases h
def cAll : FM := fun ws S => match ws with
  | [x] => (boolsAt S x).map fun bs => (.bl (bs.all id), S)
  | _ => none
def cAny : FM := fun ws S => match ws with
  | [x] => (boolsAt S x).map fun bs => (.bl (bs.any id), S)
  | _ => none
theorem k_all : CallK X.K cAll (rAll X.K) := fun g ws vs w S' Q ok r h q => by
  match ws, r, h with
  | [x], r, h =>
    obtain ⟨ns, e1, e2⟩ := map1 (show ((boolsAt g.S x).map fun bs => (W.bl (bs.all id), g.S)) = _ from h)
    obtain ⟨v, ev, rv⟩ := WRs.one r
    obtain ⟨a, e3, e4⟩ := boolsAt_at ok rv e1
    exact ⟨a, ns, by rw [ev, e3], e4, Then.val ok (congrArg some e2) q WR.ofBl⟩
  | [], _, h => cases h
  | _ :: _ :: _, _, h => cases h
theorem k_any : CallK X.K cAny (rAny X.K) := fun g ws vs w S' Q ok r h q => by
  match ws, r, h with
  | [x], r, h =>
    obtain ⟨ns, e1, e2⟩ := map1 (show ((boolsAt g.S x).map fun bs => (W.bl (bs.any id), g.S)) = _ from h)
    obtain ⟨v, ev, rv⟩ := WRs.one r
    obtain ⟨a, e3, e4⟩ := boolsAt_at ok rv e1
    exact ⟨a, ns, by rw [ev, e3], e4, Then.val ok (congrArg some e2) q WR.ofBl⟩
  | [], _, h => cases h
  | _ :: _ :: _, _, h => cases h

/-! ### methods of lists -/
def c2 (f : W2) : FM := fun ws S => match ws with
  | [x, y] => f x y S
  | _ => none
theorem c2_some {f : W2} {x : W} {ws : List W} {S : Store} {z} (h : c2 f (x :: ws) S = some z) : ∃ y, ws = [y] ∧ f x y S = some z := by
  match ws, h with
  | [y], h => exact ⟨y, rfl, h⟩
  | [], h => cases h
  | _ :: _ :: _, h => cases h
def appendW : W2 := fun x y S => match x with
  | .ref l => (getL S l).bind fun us => if szOk (us.length + 1) then some (.non, S.set l (.lst (us ++ [y]))) else none
  | _ => none
def lAppend : FM := c2 appendW
theorem k_append : MtK X.K lAppend rAppend := fun g x ws v vs w S' Q ok rx r h q => by
  obtain ⟨y, rfl, h⟩ := c2_some h
  cases x with
  | ref l =>
    obtain ⟨us, e1, e2⟩ := bind1 (show ((getL g.S l).bind fun us => if szOk (us.length + 1) then some (W.non, g.S.set l (.lst (us ++ [y]))) else none) = _ from h)
    split at e2
    · rename_i hz
      obtain ⟨hl, xs, h1, rs⟩ := getL_at ok e1
      obtain ⟨u, eu, ru⟩ := WRs.one r
      exact ⟨g.φ l, xs, u, rx.ref_inv.2, eu, h1, by rw [← rs.length]; exact szOk_le hz, Then.setL ok hl (rs.append (.cons ru .nil)) e2 q fun _ _ => WR.ofNon⟩
    · cases e2
  | _ => cases h
def extendW : W2 := fun x y S => match x, y with
  | .ref l, .ref b => (getL S l).bind fun us => (getL S b).bind fun zs => if szOk (us.length + zs.length) then some (.non, S.set l (.lst (us ++ zs))) else none
  | _, _ => none
def lExtend : FM := c2 extendW
theorem k_extend : MtK X.K lExtend rExtend := fun g x ws v vs w S' Q ok rx r h q => by
  obtain ⟨y, rfl, h⟩ := c2_some h
  cases x with
  | ref l =>
   cases y with
   | ref b =>
    obtain ⟨us, zs, e1, e2, e3⟩ := bind2 (show ((getL g.S l).bind fun us => (getL g.S b).bind fun zs => if szOk (us.length + zs.length) then some (W.non, g.S.set l (.lst (us ++ zs))) else none) = _ from h)
    split at e3
    · rename_i hz
      obtain ⟨hl, xs, h1, rs⟩ := getL_at ok e1
      obtain ⟨hb, ys, h2, rs2⟩ := getL_at ok e2
      obtain ⟨u, eu, ru⟩ := WRs.one r
      exact ⟨g.φ l, g.φ b, xs, ys, rx.ref_inv.2, by rw [eu, ru.ref_inv.2], h1, h2, by rw [← rs.length, ← rs2.length]; exact szOk_le hz, Then.setL ok hl (rs.append rs2) e3 q fun _ _ => WR.ofNon⟩
    · cases e3
   | _ => cases h
  | _ => cases h
def popW : W1 := fun x S => match x with
  | .ref l => (getL S l).bind fun us => (us[us.length - 1]?).map fun y => (y, S.set l (.lst us.dropLast))
  | _ => none
def lPop : FM := c1 popW
theorem WRs.dropLast {g : Gw} {ws : List W} {xs : List V} (r : g.WRs X.K ws xs) : g.WRs X.K ws.dropLast xs.dropLast := by
  rw [List.dropLast_eq_take, List.dropLast_eq_take, ← r.length]
  exact r.take _
theorem k_pop : MtK X.K lPop rPop := fun g x ws v vs w S' Q ok rx r h q => by
  obtain ⟨y, hy, h⟩ := c1_some h
  cases hy
  cases x with
  | ref l =>
    obtain ⟨us, e1, e2⟩ := bind1 (show ((getL g.S l).bind fun us => (us[us.length - 1]?).map fun y => (y, g.S.set l (.lst us.dropLast))) = _ from h)
    obtain ⟨y, e3, e4⟩ := map1 e2
    obtain ⟨hl, xs, h1, rs⟩ := getL_at ok e1
    obtain ⟨u, f1, f2⟩ := rs.get e3
    exact ⟨g.φ l, xs, u, rx.ref_inv.2, r.nil_inv, h1, by rw [← rs.length]; exact f1, Then.setL ok hl (WRs.dropLast rs) (congrArg some e4) q fun g' x => x.wr ok f2⟩
  | _ => cases h
def indexW : W2 := fun x y S => match x with
  | .ref l => (getL S l).bind fun us => if wFlat y && us.all wFlat then (us.findIdx? fun z => wEqA z y).map fun j => (.int (j : Nat), S) else none
  | _ => none
def lIndex : FM := c2 indexW
theorem k_index : MtK X.K lIndex (rIndex X.K) := fun g x ws v vs w S' Q ok rx r h q => by
  obtain ⟨y, rfl, h⟩ := c2_some h
  cases x with
  | ref l =>
    obtain ⟨us, e1, e2⟩ := bind1 (show ((getL g.S l).bind fun us => if wFlat y && us.all wFlat then (us.findIdx? fun z => wEqA z y).map fun j => (W.int (j : Nat), g.S) else none) = _ from h)
    split at e2
    · rename_i hz
      rw [Bool.and_eq_true] at hz
      obtain ⟨j, e3, e4⟩ := map1 e2
      obtain ⟨hl, xs, h1, rs⟩ := getL_at ok e1
      obtain ⟨u, eu, ru⟩ := WRs.one r
      obtain ⟨fy, ay⟩ := flat_of ru hz.1
      have fs := flats_of rs hz.2
      obtain ⟨hj, hp, hlt⟩ := List.findIdx?_eq_some_iff_getElem.mp e3
      obtain ⟨z, f1, f2⟩ := rs.get (List.getElem?_eq_getElem hj)
      have fw := List.all_eq_true.mp hz.2 us[j] (List.getElem_mem hj)
      refine ⟨g.φ l, xs, u, j, z, rx.ref_inv.2, eu, SqL.of h1, fy, fs, f1, by rw [eqA_of (flat_of f2 fw).2 ay]; exact hp, fun m z' hm hz' => ?_, Then.val ok (congrArg some e4) q WR.ofInt⟩
      obtain ⟨w', g1, g2⟩ := rs.getV hz'
      have hm' : m < us.length := (List.getElem?_eq_some_iff.mp g1).1
      have g3 : us[m] = w' := by
        rw [List.getElem?_eq_getElem hm'] at g1
        exact Option.some.inj g1
      have fw' := List.all_eq_true.mp hz.2 us[m] (List.getElem_mem hm')
      rw [g3] at fw'
      rw [eqA_of (flat_of g2 fw').2 ay]
      have := hlt m hm
      rw [g3] at this
      exact Bool.eq_false_iff.mpr this
    · cases e2
  | _ => cases h
end

/-! ### a def computes -/
def runB (n : Nat) (m : WS) : FM := fun ws S => (m (ws.map some ++ List.replicate (n - ws.length) none) S).bind fun o => match o with
  | .rt w S' => some (w, S')
  | .nx _ S' => some (.non, S')
  | _ => none
theorem envR_start {K : PySem.W.Frag} {g : Gw} (N : List Str) : ∀ {ws : List W} {vs : List V}, g.WRs K ws vs → EnvR K g (ws.map some ++ List.replicate (N.length - ws.length) none) (start N vs) := fun {ws vs} r => by
  have hl := r.length
  refine ⟨by simp [start, hl], fun i w h => ?_⟩
  have hi : i < ws.length := by
    cases Nat.lt_or_ge i ws.length with
    | inl h => exact h
    | inr h' =>
      rw [List.getElem?_append_right (by simpa using h')] at h
      rw [List.getElem?_replicate] at h
      split at h <;> cases h
  rw [List.getElem?_append_left (by simpa using hi), List.getElem?_map] at h
  have h2 : ws[i]? = some w := by
    cases e : ws[i]? with
    | none => rw [e] at h; cases h
    | some w' => rw [e] at h; cases h; rfl
  obtain ⟨v, f1, f2⟩ := r.get h2
  refine ⟨v, ?_, f2⟩
  unfold start
  rw [List.getElem?_append_left (by rw [List.length_map, ← hl]; exact hi), List.getElem?_map, f1]
  rfl
section
variable {P : Program} {w : World} {K : PySem.W.Frag} {mg : Str → Option Value} {base : Heap}
theorem fn_ok {x qual : Str} {st : Stmt} {f : Addr} {fd : FuncData} {N ps : List Str} {k : Nat} {m : WS} (F : Fun K x qual st f fd) (S : FnScope N ps (defScope st))
    (hb : ∀ (cdv : Value) (A : Around) (outer : List PySem.Env) (s : Shared) (H : Hp) (E : XK), Room k (A.deeper (envOfC qual (defScope st) s.heap.objs.size f cdv)) → QSs (cxOf CX0 P w K mg base N qual (defScope st) f cdv A outer s H E).nox (defBody st) m) :
    FnW P w K mg base (k + 1) f fd ps (runB N.length m) := by
  refine F.ok S (fun vs H Q E h => ?_) (fun cdv A outer s H vs Q E hr h => ?_)
  · obtain ⟨g, ws, w, S', _, _, r, hl, _⟩ := h
    rw [← r.length, hl]
  · obtain ⟨g, ws, w, S', hH, ok, r, hl, hm, q⟩ := h
    obtain ⟨o, e1, e2⟩ := bind1 hm
    refine ⟨_, hb cdv A outer s H E hr, g, _, o, hH, ok, envR_start N r, e1, ?_⟩
    cases o with
    | rt w' S1 =>
      cases e2
      exact q
    | nx env S1 =>
      cases e2
      intro g' h1 x1 ok1 σ _
      exact q g' h1 x1 ok1 .non WR.ofNon
    | bk env S1 => cases e2
    | ct env S1 => cases e2
/-! ### defs that touch no list of their caller's -/
mutual
def W.pure : W → Bool
  | .ref _ => false
  | .fz _ => false
  | .tup ws => W.pures ws
  | .non => true | .bl _ => true | .int _ => true | .str _ => true
def W.pures : List W → Bool
  | [] => true
  | w :: ws => W.pure w && W.pures ws
end
theorem WR.pure {φ φ' : Nat → Addr} {n n' : Nat} {H : Hp} : ∀ (w : W) (v : V), w.pure = true → L2.Aw.WR K φ n H w v → L2.Aw.WR K φ' n' H w v := by
  intro w
  refine W.ind (P := fun w => ∀ (v : V), w.pure = true → L2.Aw.WR K φ n H w v → L2.Aw.WR K φ' n' H w v) ?_ ?_ ?_ ?_ ?_ ?_ ?_ w
  · intro v _ h; simpa [L2.Aw.WR] using h
  · intro b v _ h; simpa [L2.Aw.WR] using h
  · intro i v _ h; simpa [L2.Aw.WR] using h
  · intro x v _ h; simpa [L2.Aw.WR] using h
  · intro i v p _
    rw [W.pure] at p
    cases p
  · intro ws ih v p h
    rw [W.pure] at p
    rw [L2.Aw.WR] at h ⊢
    obtain ⟨a, xs, e, h1, h2⟩ := h
    refine ⟨a, xs, e, h1, ?_⟩
    clear e h1
    induction ws generalizing xs with
    | nil => rw [h2.nil_inv]; exact .nil
    | cons w ws ih2 =>
      rw [W.pures, Bool.and_eq_true] at p
      obtain ⟨x, r, e2, q1, q2⟩ := h2.cons_inv
      subst e2
      exact .cons (ih w List.mem_cons_self x p.1 q1) (ih2 (fun w hw => ih w (List.mem_cons_of_mem _ hw)) p.2 r q2)
  · intro ws ih v p h
    rw [W.pure] at p
    cases p
theorem WRs.pure {φ φ' : Nat → Addr} {n n' : Nat} {H : Hp} : ∀ {ws : List W} {vs : List V}, W.pures ws = true → L2.Aw.WRs K φ n H ws vs → L2.Aw.WRs K φ' n' H ws vs
  | [], vs, _, h => by rw [h.nil_inv]; exact .nil
  | w :: ws, vs, p, h => by
    rw [W.pures, Bool.and_eq_true] at p
    obtain ⟨x, r, e2, q1, q2⟩ := h.cons_inv
    subst e2
    exact .cons (WR.pure w x p.1 q1) (WRs.pure p.2 q2)
def pureF (F : FM) : FM := fun ws S => if W.pures ws then (F ws []).bind fun p => if p.1.pure then some (p.1, S) else none else none
theorem FnW.pure {k : Nat} {f : Addr} {fd : FuncData} {ps : List Str} {F : FM} (h : FnW P w K mg base k f fd ps F) : FnW P w K mg base k f fd ps (pureF F) := by
  refine FnOk.imp h fun vs H Q E ⟨g, ws, w, S', hH, ok, r, hl, hm, q⟩ => ?_
  have hm' : (if W.pures ws then (F ws []).bind fun p => if p.1.pure then some (p.1, g.S) else none else none) = some (w, S') := hm
  split at hm'
  · rename_i hp
    obtain ⟨⟨w1, S1⟩, e1, e2⟩ := bind1 hm'
    split at e2
    · rename_i hp2
      obtain ⟨ew, eS⟩ : w1 = w ∧ g.S = S' := by
        have e2' : some (w1, g.S) = some (w, S') := e2
        cases e2'
        exact ⟨rfl, rfl⟩
      subst ew
      subst eS
      refine ⟨⟨g.φ, [], g.H⟩, ws, w1, S1, hH, ⟨fun i j hi => absurd hi (Nat.not_lt_zero i), fun i o h => by simp at h⟩, WRs.pure hp r, hl, e1, fun g' h1 x1 ok1 v rv => ?_⟩
      have keep : ∀ a o, g.H a = some o → g'.H a = some o := fun a o h => x1.keep a o h fun i hi => absurd hi (Nat.not_lt_zero i)
      have x2 : Ext g ⟨g.φ, g.S, g'.H⟩ := ⟨Nat.le_refl _, fun _ _ => rfl, fun i a b => absurd (Nat.lt_of_le_of_lt a b) (Nat.lt_irrefl _), fun a o h _ => keep a o h⟩
      refine q ⟨g.φ, g.S, g'.H⟩ rfl x2 ⟨ok.inj, fun i m h => ?_⟩ v (WR.pure w1 v hp2 rv)
      obtain ⟨ho, h1, h2⟩ := ok.at_ i m h
      exact ⟨ho, keep _ _ h1, h2.mono ok x2⟩
    · cases e2
  · cases hm'
end
end L2.Aw

namespace L2.Aw
open PySem PySem.Spec PyProof.Rows

/-! ### tables of pairs -/
section
variable {κ : Type} [DecidableEq κ]
def valW (kvs : List (κ × W)) (k : κ) : Option W := (kvs.find? fun kv => decide (kv.1 = k)).map (·.2)
def putW (kvs : List (κ × W)) (k : κ) (v : W) : List (κ × W) :=
  if (kvs.any fun kv => decide (kv.1 = k)) = true then kvs.map (fun kv => if kv.1 = k then (kv.1, v) else kv) else kvs ++ [(k, v)]
variable {K : PySem.W.Frag} {g : Gw}
theorem KR.len {kvs : List (κ × W)} {ys : List (κ × V)} (r : KR K g kvs ys) : kvs.length = ys.length := Paired.length r
theorem KR.val {kvs : List (κ × W)} {ys : List (κ × V)} (r : KR K g kvs ys) (k : κ) : (valW kvs k = none ∧ valV ys k = none) ∨ ∃ w v, valW kvs k = some w ∧ valV ys k = some v ∧ g.WR K w v := by
  unfold KR at r
  induction r with
  | nil => exact .inl ⟨rfl, rfl⟩
  | @cons p q ps qs h t ih =>
    by_cases e : p.1 = k
    · refine .inr ⟨p.2, q.2, by simp [valW, List.find?_cons, e], by rw [h.1] at e; exact valV_pos e, h.2⟩
    · have e' : ¬ q.1 = k := by rw [← h.1]; exact e
      have f1 : valW (p :: ps) k = valW ps k := by simp [valW, List.find?_cons, e]
      rw [f1, valV_neg e']
      exact ih
theorem KR.any {kvs : List (κ × W)} {ys : List (κ × V)} (r : KR K g kvs ys) (k : κ) : (kvs.any fun kv => decide (kv.1 = k)) = ys.any fun kv => decide (kv.1 = k) := by
  unfold KR at r
  induction r with
  | nil => rfl
  | @cons p q ps qs h t ih => rw [List.any_cons, List.any_cons, ih, h.1]
theorem KR.repl {kvs : List (κ × W)} {ys : List (κ × V)} (r : KR K g kvs ys) (k : κ) {w : W} {v : V} (h : g.WR K w v) : KR K g (kvs.map fun kv => if kv.1 = k then (kv.1, w) else kv) (ys.map fun kv => if kv.1 = k then (kv.1, v) else kv) := by
  unfold KR at r ⊢
  induction r with
  | nil => exact .nil
  | @cons p q ps qs h' t ih =>
    rw [List.map_cons, List.map_cons]
    refine .cons ?_ ih
    rw [h'.1]
    by_cases e : q.1 = k
    · rw [if_pos e, if_pos e]; exact ⟨rfl, h⟩
    · rw [if_neg e, if_neg e]; exact ⟨h'.1, h'.2⟩
theorem KR.snoc {kvs : List (κ × W)} {ys : List (κ × V)} (r : KR K g kvs ys) {k : κ} {w : W} {v : V} (h : g.WR K w v) : KR K g (kvs ++ [(k, w)]) (ys ++ [(k, v)]) := by
  unfold KR at r ⊢
  induction r with
  | nil => exact .cons ⟨rfl, h⟩ .nil
  | cons h' t ih => exact .cons h' ih
theorem KR.put {kvs : List (κ × W)} {ys : List (κ × V)} (r : KR K g kvs ys) (k : κ) {w : W} {v : V} (h : g.WR K w v) : KR K g (putW kvs k w) (putK ys k v) := by
  unfold putW putK
  rw [r.any k]
  split
  · exact r.repl k h
  · exact r.snoc h
def mergeW (kvs more : List (κ × W)) : List (κ × W) := more.foldl (fun acc kv => putW acc kv.1 kv.2) kvs
end
theorem KR.merge {K : PySem.W.Frag} {g : Gw} : ∀ {more : List (Key × W)} {ms : List (Key × V)} {kvs : List (Key × W)} {ys : List (Key × V)}, KR K g more ms → KR K g kvs ys → KR K g (mergeW kvs more) (mergeK ys ms) := by
  intro more ms kvs ys r
  unfold KR at r
  induction r generalizing kvs ys with
  | nil => intro q; exact q
  | @cons p q ps qs h t ih =>
    intro r0
    have e : KR K g (putW kvs p.1 p.2) (putK ys q.1 q.2) := by
      rw [← h.1]
      exact r0.put p.1 h.2
    exact ih e

/-! ### keys -/
def wKey : W → Option Key
  | .int i => some (.inl i)
  | .str x => some (.inr x)
  | _ => none
def wKeys : List W → Option (List Key)
  | [] => some []
  | w :: ws => (wKey w).bind fun k => (wKeys ws).map fun ks => k :: ks
def wKeyT : W → Option (List Key)
  | .tup ws => wKeys ws
  | _ => none
section
variable {K : PySem.W.Frag} {g : Gw}
theorem wKey_V {w : W} {v : V} {k : Key} (r : g.WR K w v) (h : wKey w = some k) : v = kV k := by
  cases w with
  | int i => cases h; exact r.int_inv
  | str i => cases h; exact r.str_inv
  | _ => cases h
theorem wKeys_V : ∀ {ws : List W} {vs : List V} {ks : List Key}, g.WRs K ws vs → wKeys ws = some ks → vs = ks.map kV
  | [], vs, ks, r, h => by
    have h' : some ([] : List Key) = some ks := h
    cases h'
    exact r.nil_inv
  | w :: ws, vs, ks, r, h => by
    obtain ⟨x, t, e, r1, r2⟩ := r.cons_inv
    obtain ⟨k, e1, e2⟩ := bind1 (show ((wKey w).bind fun k => (wKeys ws).map fun ks => k :: ks) = _ from h)
    obtain ⟨ks', e3, e4⟩ := map1 e2
    subst e4
    rw [e, wKey_V r1 e1, wKeys_V r2 e3]
    rfl
theorem wKeyT_V {w : W} {v : V} {k : List Key} (r : g.WR K w v) (h : wKeyT w = some k) : ∃ b, v = .ref b ∧ g.H b = some (.tup (k.map kV)) := by
  cases w with
  | tup ws =>
    obtain ⟨a, xs, e, h1, rs⟩ := r.tup_at
    rw [wKeys_V rs h] at h1
    exact ⟨a, e, h1⟩
  | _ => cases h
end

/-! ### what a dict of the store holds -/
/-- d[k] as an option; none where d is no dict or k no key -/
def dGet (S : Store) (d k : W) : Option (Option W) := match d with
  | .ref i => match S[i]? with
    | some (.dK kvs) => (wKey k).map fun k => valW kvs k
    | some (.dT kvs) => (wKeyT k).map fun k => valW kvs k
    | _ => none
  | _ => none
def dPut (S : Store) (d k v : W) : Option Store := match d with
  | .ref i => match S[i]? with
    | some (.dK kvs) => if szOk (kvs.length + 1) then (wKey k).map fun k => S.set i (.dK (putW kvs k v)) else none
    | some (.dT kvs) => if szOk (kvs.length + 1) then (wKeyT k).map fun k => S.set i (.dT (putW kvs k v)) else none
    | _ => none
  | _ => none
section
variable {K : PySem.W.Frag} {g : Gw}
theorem dGet_at {d k : W} {vd vk : V} {o : Option W} (ok : g.Ok K) (rd : g.WR K d vd) (rk : g.WR K k vk) (h : dGet g.S d k = some o) : ∃ a r, vd = .ref a ∧ DGet g.H a vk r ∧ ((o = none ∧ r = none) ∨ ∃ w v, o = some w ∧ r = some v ∧ g.WR K w v) := by
  cases d with
  | ref i =>
    have h' : (match g.S[i]? with
      | some (.dK kvs) => (wKey k).map fun k => valW kvs k
      | some (.dT kvs) => (wKeyT k).map fun k => valW kvs k
      | _ => none) = some o := h
    split at h'
    · rename_i kvs e
      obtain ⟨kk, e1, e2⟩ := map1 h'
      obtain ⟨ho, h1, ys, h2, h3⟩ := ok.at_ i _ e
      subst h2
      have ek := wKey_V rk e1
      subst ek
      refine ⟨g.φ i, _, rd.ref_inv.2, DGet.k h1, ?_⟩
      rcases KR.val h3 kk with ⟨f1, f2⟩ | ⟨w, v, f1, f2, f3⟩
      · exact .inl ⟨by rw [← e2, f1], f2⟩
      · exact .inr ⟨w, v, by rw [← e2, f1], f2, f3⟩
    · rename_i kvs e
      obtain ⟨kk, e1, e2⟩ := map1 h'
      obtain ⟨ho, h1, ys, h2, h3⟩ := ok.at_ i _ e
      subst h2
      obtain ⟨b, ek, eb⟩ := wKeyT_V rk e1
      subst ek
      refine ⟨g.φ i, _, rd.ref_inv.2, DGet.t h1 eb, ?_⟩
      rcases KR.val h3 kk with ⟨f1, f2⟩ | ⟨w, v, f1, f2, f3⟩
      · exact .inl ⟨by rw [← e2, f1], f2⟩
      · exact .inr ⟨w, v, by rw [← e2, f1], f2, f3⟩
    · cases h'
  | _ => cases h
theorem dPut_at {d k x : W} {vd vk v : V} {S' : Store} (ok : g.Ok K) (rd : g.WR K d vd) (rk : g.WR K k vk) (rx : g.WR K x v) (h : dPut g.S d k x = some S') : ∃ a H', vd = .ref a ∧ DPut g.H a vk v H' ∧ ∃ g', g'.H = H' ∧ g'.S = S' ∧ Ext g g' ∧ g'.Ok K := by
  cases d with
  | ref i =>
    have h' : (match g.S[i]? with
      | some (.dK kvs) => if szOk (kvs.length + 1) then (wKey k).map fun k => g.S.set i (.dK (putW kvs k x)) else none
      | some (.dT kvs) => if szOk (kvs.length + 1) then (wKeyT k).map fun k => g.S.set i (.dT (putW kvs k x)) else none
      | _ => none) = some S' := h
    split at h'
    · rename_i kvs e
      split at h'
      · rename_i hz
        obtain ⟨kk, e1, e2⟩ := map1 h'
        obtain ⟨ho, h1, ys, h2, h3⟩ := ok.at_ i _ e
        subst h2
        have ek := wKey_V rk e1
        subst ek
        have hi := (List.getElem?_eq_some_iff.mp e).1
        exact ⟨g.φ i, _, rd.ref_inv.2, DPut.k h1 (by rw [← KR.len h3]; exact szOk_le hz), g.set i (.dK (putW kvs kk x)) (.dK (putK ys kk v)), rfl, e2, Ext.set hi, ok.set hi ⟨_, rfl, KR.put h3 kk rx⟩⟩
      · cases h'
    · rename_i kvs e
      split at h'
      · rename_i hz
        obtain ⟨kk, e1, e2⟩ := map1 h'
        obtain ⟨ho, h1, ys, h2, h3⟩ := ok.at_ i _ e
        subst h2
        obtain ⟨b, ek, eb⟩ := wKeyT_V rk e1
        subst ek
        have hi := (List.getElem?_eq_some_iff.mp e).1
        exact ⟨g.φ i, _, rd.ref_inv.2, DPut.t h1 eb (by rw [← KR.len h3]; exact szOk_le hz), g.set i (.dT (putW kvs kk x)) (.dT (putK ys kk v)), rfl, e2, Ext.set hi, ok.set hi ⟨_, rfl, KR.put h3 kk rx⟩⟩
      · cases h'
    · cases h'
  | _ => cases h
end

section
variable {X : Cx} {pos pos' : Pos} {o i e f value : Expr} {mo mi me mf mv : WE}
/-- {} -/
def mNewK : WE := fun _ S => some (.ref S.length, S ++ [.dK []])
def mNewT : WE := fun _ S => some (.ref S.length, S ++ [.dT []])
theorem push_ref {K : PySem.W.Frag} {g : Gw} {p : Addr} {m : MO} {o : HO} : (g.push p m o).WR K (.ref g.S.length) (.ref p) := by
  rw [Gw.WR, WR]
  refine ⟨by show g.S.length < (g.S ++ [m]).length; rw [List.length_append]; exact Nat.lt_succ_self _, ?_⟩
  show V.ref p = .ref (if g.S.length = g.S.length then p else g.φ g.S.length)
  rw [if_pos rfl]
theorem q_newK : QE X (.Dict [] [] pos) mNewK := PE.weak pe_dnewK fun σ H Q ⟨g, env, w, S', hH, ok, er, hm, q⟩ => by
  have hm' : some (W.ref g.S.length, g.S ++ [MO.dK []]) = some (w, S') := hm
  cases hm'
  subst hH
  intro p hp
  exact q (g.push p (.dK []) (.dK [])) rfl (Ext.push ok hp) (ok.push hp ⟨[], rfl, .nil⟩) (.ref p) push_ref
theorem q_newT : QE X (.Dict [] [] pos) mNewT := PE.weak pe_dnewT fun σ H Q ⟨g, env, w, S', hH, ok, er, hm, q⟩ => by
  have hm' : some (W.ref g.S.length, g.S ++ [MO.dT []]) = some (w, S') := hm
  cases hm'
  subst hH
  intro p hp
  exact q (g.push p (.dT []) (.dT [])) rfl (Ext.push ok hp) (ok.push hp ⟨[], rfl, .nil⟩) (.ref p) push_ref
/-- d[k] -/
def mDGet (mo mi : WE) : WE := fun env S => (mo env S).bind fun d => (mi env d.2).bind fun k => match dGet k.2 d.1 k.1 with
  | some (some w) => some (w, k.2)
  | _ => none
theorem q_dget (hu : X.A.units + 1 < cLine) (ho : QE X o mo) (hi : QE X i mi) (hs : NoSl i) : QE X (.Subscript o i pos) (mDGet mo mi) :=
  PE.weak (pe_dget hu ho hi hs) fun σ H Q ⟨g, env, w, S', hH, ok, er, hm, q⟩ => by
    obtain ⟨⟨d, S1⟩, ⟨k, S2⟩, e1, e2, e3⟩ := bind2 hm
    refine ⟨g, env, d, S1, hH, ok, er, e1, fun g1 h1 x1 ok1 vd rd => ⟨g1, env, k, S2, rfl, ok1, er.mono ok x1, by rw [h1]; exact e2, fun g2 h2 x2 ok2 vk rk => ?_⟩⟩
    subst h2
    split at e3
    · rename_i w' hg
      obtain ⟨a, r, f1, f2, f3⟩ := dGet_at ok2 (x2.wr ok1 rd) rk hg
      rcases f3 with ⟨z, _⟩ | ⟨w2, v, z, z2, rv⟩
      · cases z
      · cases z
        subst z2
        exact ⟨a, v, f1, f2, Then.val ok2 e3 ((q.step ok1 x1).step ok2 x2) rv⟩
    · cases e3
/-- k in d -/
def wDIn (neg : Bool) : W2 := fun k d S => (dGet S d k).map fun o => (.bl (if neg then !o.isSome else o.isSome), S)
theorem q_din (hu : X.A.units + 1 < cLine) (hi : QE X i mi) (ho : QE X o mo) (hm : behindInMarks .In o = false := by first | exact nobehind _ (by decide) (by decide) | rfl) : QE X (.Compare i [.In] [o] pos) (mBin (wDIn false) mi mo) :=
  PE.weak (pe_cmp (pc_din hu hi ho) hm) fun σ H Q ⟨g, env, w, S', hH, ok, er, hm, q⟩ => by
    obtain ⟨⟨k, S1⟩, ⟨d, S2⟩, e1, e2, e3⟩ := bind2 hm
    refine ⟨g, env, k, S1, hH, ok, er, e1, fun g1 h1 x1 ok1 vk rk => ⟨g1, env, d, S2, rfl, ok1, er.mono ok x1, by rw [h1]; exact e2, fun g2 h2 x2 ok2 vd rd => ?_⟩⟩
    subst h2
    obtain ⟨o, f0, f9⟩ := map1 (show ((dGet g2.S d k).map fun o => (W.bl (if false = true then !o.isSome else o.isSome), g2.S)) = _ from e3)
    obtain ⟨a, r, f1, f2, f3⟩ := dGet_at ok2 rd (x2.wr ok1 rk) f0
    refine ⟨a, r, f1, f2, ?_⟩
    have e : r.isSome = o.isSome := by rcases f3 with ⟨z, z2⟩ | ⟨w2, v, z, z2, rv⟩ <;> rw [z, z2] <;> rfl
    rw [e]
    exact Then.val ok2 (congrArg some f9) ((q.step ok1 x1).step ok2 x2) WR.ofBl
theorem q_dnotin (hu : X.A.units + 1 < cLine) (hi : QE X i mi) (ho : QE X o mo) (hm : behindInMarks .NotIn o = false := by first | exact nobehind _ (by decide) (by decide) | rfl) : QE X (.Compare i [.NotIn] [o] pos) (mBin (wDIn true) mi mo) :=
  PE.weak (pe_cmp (pc_dnotin hu hi ho) hm) fun σ H Q ⟨g, env, w, S', hH, ok, er, hm, q⟩ => by
    obtain ⟨⟨k, S1⟩, ⟨d, S2⟩, e1, e2, e3⟩ := bind2 hm
    refine ⟨g, env, k, S1, hH, ok, er, e1, fun g1 h1 x1 ok1 vk rk => ⟨g1, env, d, S2, rfl, ok1, er.mono ok x1, by rw [h1]; exact e2, fun g2 h2 x2 ok2 vd rd => ?_⟩⟩
    subst h2
    obtain ⟨o, f0, f9⟩ := map1 (show ((dGet g2.S d k).map fun o => (W.bl (if true = true then !o.isSome else o.isSome), g2.S)) = _ from e3)
    obtain ⟨a, r, f1, f2, f3⟩ := dGet_at ok2 rd (x2.wr ok1 rk) f0
    refine ⟨a, r, f1, f2, ?_⟩
    have e : r.isSome = o.isSome := by rcases f3 with ⟨z, z2⟩ | ⟨w2, v, z, z2, rv⟩ <;> rw [z, z2] <;> rfl
    rw [e]
    exact Then.val ok2 (congrArg some f9) ((q.step ok1 x1).step ok2 x2) WR.ofBl
/-- d[k] = v -/
def sDPutW (mo mi mv : WE) : WS := fun env S => (mv env S).bind fun v => (mo env v.2).bind fun d => (mi env d.2).bind fun k => (dPut k.2 d.1 k.1 v.1).map fun S' => .nx env S'
theorem qs_dput (hu : X.A.units + 1 < cLine) (hv : QE X value mv) (ho : QE X o mo) (hi : QE X i mi) (hs : swapsWith value (some (.Subscript o i pos')) pos.line X.env = pure false := by rfl) : QS X (.Assign [.Subscript o i pos'] value pos) (sDPutW mo mi mv) :=
  PS.weak (ps_dput hu ho hi hv hs) fun D σ H ⟨g, env, out, hH, ok, er, hm, q⟩ => by
    obtain ⟨⟨w, S1⟩, e1, hm2⟩ := bind1 hm
    obtain ⟨⟨d, S2⟩, ⟨k, S3⟩, e2, e3, e4⟩ := bind2 hm2
    obtain ⟨S4, e5, e6⟩ := map1 e4
    subst e6
    refine ⟨g, env, w, S1, hH, ok, er, e1, fun g1 h1 x1 ok1 v rv => ⟨g1, env, d, S2, rfl, ok1, er.mono ok x1, by rw [h1]; exact e2, fun g2 h2 x2 ok2 vd rd => ⟨g2, env, k, S3, rfl, ok2, (er.mono ok x1).mono ok1 x2, by rw [h2]; exact e3, fun g3 h3 x3 ok3 vk rk => ?_⟩⟩⟩
    subst h3
    obtain ⟨a, H', f1, f2, g4, f3, f4, x4, ok4⟩ := dPut_at ok3 (x3.wr ok2 rd) rk (x3.wr ok2 (x2.wr ok1 rv)) e5
    refine ⟨a, H', f1, f2, ?_⟩
    rw [← f3]
    exact q g4 f4 (((x1.trans ok1 x2).trans ok2 x3).trans ok3 x4) ok4 σ ((((er.mono ok x1).mono ok1 x2).mono ok2 x3).mono ok3 x4)
/-- d.get(k), d.get(k, x) -/
def isDic (S : Store) : W → Bool
  | .ref i => match S[i]? with
    | some (.dK _) => true
    | some (.dT _) => true
    | _ => false
  | _ => false
theorem isDic_at {K : PySem.W.Frag} {g : Gw} {d : W} {v : V} (ok : g.Ok K) (rd : g.WR K d v) (h : isDic g.S d = true) : ∃ a, v = .ref a ∧ IsD g.H a := by
  cases d with
  | ref i =>
    have h' : (match g.S[i]? with
      | some (.dK _) => true
      | some (.dT _) => true
      | _ => false) = true := h
    refine ⟨g.φ i, rd.ref_inv.2, ?_⟩
    split at h'
    · rename_i kvs e
      obtain ⟨ho, h1, ys, h2, h3⟩ := ok.at_ i _ e
      subst h2
      exact .inl ⟨ys, .inl h1⟩
    · rename_i kvs e
      obtain ⟨ho, h1, ys, h2, h3⟩ := ok.at_ i _ e
      subst h2
      exact .inr ⟨ys, .inl h1⟩
    · cases h'
  | _ => cases h
def mGet1 (mo mi : WE) : WE := fun env S => (mo env S).bind fun d => if isDic d.2 d.1 then (mi env d.2).bind fun k => (dGet k.2 d.1 k.1).map fun o => (o.getD .non, k.2) else none
def mGet2 (mo mi mx : WE) : WE := fun env S => (mo env S).bind fun d => if isDic d.2 d.1 then (mi env d.2).bind fun k => (mx env k.2).bind fun x => (dGet x.2 d.1 k.1).map fun o => (o.getD x.1, x.2) else none
theorem q_get1 {apos cpos : Pos} (hu : X.A.units + 1 < cLine) (ho : QE X o mo) (he : QE X e me) (m : M1 X o "get" apos e cpos) : QE X (.Call (.Attribute o "get" apos) [e] [] cpos) (mGet1 mo me) :=
  PE.weak (pe_dget1 hu ho he m) fun σ H Q ⟨g, env, w, S', hH, ok, er, hm, q⟩ => by
    obtain ⟨⟨d, S1⟩, e1, e2⟩ := bind1 hm
    split at e2
    · rename_i hd
      obtain ⟨⟨k, S2⟩, e3, e4⟩ := bind1 e2
      refine ⟨g, env, d, S1, hH, ok, er, e1, fun g1 h1 x1 ok1 vd rd => ?_⟩
      subst h1
      obtain ⟨a, f1, f2⟩ := isDic_at ok1 rd hd
      refine ⟨a, f1, f2, g1, env, k, S2, rfl, ok1, er.mono ok x1, e3, fun g2 h2 x2 ok2 vk rk => ?_⟩
      subst h2
      obtain ⟨o, f0, f9⟩ := map1 e4
      obtain ⟨a', r, f3, f4, f5⟩ := dGet_at ok2 (x2.wr ok1 rd) rk f0
      rw [f1] at f3
      cases f3
      refine ⟨r, f4, ?_⟩
      rcases f5 with ⟨z, z2⟩ | ⟨w2, v, z, z2, rv⟩
      · subst z z2
        exact Then.val ok2 (congrArg some f9) ((q.step ok1 x1).step ok2 x2) WR.ofNon
      · subst z z2
        exact Then.val ok2 (congrArg some f9) ((q.step ok1 x1).step ok2 x2) rv
    · cases e2
theorem q_get2 {apos cpos : Pos} (hu : X.A.units + 1 < cLine) (ho : QE X o mo) (he : QE X e me) (hf : QE X f mf) (m : M2 X o "get" apos e f cpos) : QE X (.Call (.Attribute o "get" apos) [e, f] [] cpos) (mGet2 mo me mf) :=
  PE.weak (pe_dget2 hu ho he hf m) fun σ H Q ⟨g, env, w, S', hH, ok, er, hm, q⟩ => by
    obtain ⟨⟨d, S1⟩, e1, e2⟩ := bind1 hm
    split at e2
    · rename_i hd
      obtain ⟨⟨k, S2⟩, ⟨x, S3⟩, e3, e4, e5⟩ := bind2 e2
      refine ⟨g, env, d, S1, hH, ok, er, e1, fun g1 h1 x1 ok1 vd rd => ?_⟩
      subst h1
      obtain ⟨a, f1, f2⟩ := isDic_at ok1 rd hd
      refine ⟨a, f1, f2, g1, env, k, S2, rfl, ok1, er.mono ok x1, e3, fun g2 h2 x2 ok2 vk rk => ⟨g2, env, x, S3, rfl, ok2, (er.mono ok x1).mono ok1 x2, by rw [h2]; exact e4, fun g3 h3 x3 ok3 vx rx => ?_⟩⟩
      subst h3
      obtain ⟨o, f0, f9⟩ := map1 e5
      obtain ⟨a', r, f3, f4, f5⟩ := dGet_at ok3 (x3.wr ok2 (x2.wr ok1 rd)) (x3.wr ok2 rk) f0
      rw [f1] at f3
      cases f3
      refine ⟨r, f4, ?_⟩
      have q3 := ((q.step ok1 x1).step ok2 x2).step ok3 x3
      rcases f5 with ⟨z, z2⟩ | ⟨w2, v, z, z2, rv⟩
      · subst z z2
        exact Then.val ok3 (congrArg some f9) q3 rx
      · subst z z2
        exact Then.val ok3 (congrArg some f9) q3 rv
    · cases e2

/-! ### {k: v, ..} -/
def pairsW : List (WE × WE) → WEnv → Store → Option (List (Key × W) × Store)
  | [], _, S => some ([], S)
  | (mk, mv) :: r, env, S => (mk env S).bind fun k => (mv env k.2).bind fun v => (wKey k.1).bind fun kk => (pairsW r env v.2).map fun t => ((kk, v.1) :: t.1, t.2)
def mDisp (prs : List (WE × WE)) : WE := fun env S => (pairsW prs env S).bind fun p => if decide (p.1.length ≤ 15) then some (.ref p.2.length, p.2 ++ [.dK (mergeW [] p.1)]) else none
def QPs (X : Cx) (pos : Pos) (keys : List (Option Expr)) (values : List Expr) (prs : List (WE × WE)) : Prop := PPs X pos keys values (prs.map fun p => (tW X.K p.1, tW X.K p.2))
theorem qps_nil : QPs X pos [] [] [] := pps_nil
theorem qps_cons {k v : Expr} {ks : List (Option Expr)} {vs : List Expr} {mk mv : WE} {prs : List (WE × WE)} (hk : QE X k mk) (hv : QE X v mv) (hr : QPs X pos ks vs prs) : QPs X pos (some k :: ks) (v :: vs) ((mk, mv) :: prs) := pps_cons hk hv hr
theorem pairs_go {K : PySem.W.Frag} {env : WEnv} {σ : St} {D : Addr} : ∀ {prs : List (WE × WE)} {g : Gw} {kvs : List (Key × W)} {S' : Store} {Q : List (V × V) → Hp → Prop}, g.Ok K → EnvR K g env σ → g.H D = some (.dK []) → (∀ j, j < g.S.length → g.φ j ≠ D) → pairsW prs env g.S = some (kvs, S') →
    (∀ g' ys, g'.S = S' → Ext g g' → g'.Ok K → g'.H D = some (.dK []) → (∀ j, j < g'.S.length → g'.φ j ≠ D) → KR K g' kvs ys → Q (ys.map fun kv => (kV kv.1, kv.2)) g'.H) → tPairs (prs.map fun p => (tW K p.1, tW K p.2)) σ g.H Q
  | [], g, kvs, S', Q, ok, er, hD, hr, hm, q => by
    have hm' : some (([] : List (Key × W)), g.S) = some (kvs, S') := hm
    cases hm'
    exact q g [] rfl (Ext.refl g) ok hD hr .nil
  | (mk, mv) :: r, g, kvs, S', Q, ok, er, hD, hr, hm, q => by
    obtain ⟨⟨k, S1⟩, ⟨v, S2⟩, e1, e2, e3⟩ := bind2 (show ((mk env g.S).bind fun k => (mv env k.2).bind fun v => (wKey k.1).bind fun kk => (pairsW r env v.2).map fun t => ((kk, v.1) :: t.1, t.2)) = _ from hm)
    obtain ⟨kk, e4, e5⟩ := bind1 e3
    obtain ⟨⟨kvs', S3⟩, e6, e7⟩ := map1 e5
    cases e7
    refine ⟨g, env, k, S1, rfl, ok, er, e1, fun g1 h1 x1 ok1 vk rk => ⟨g1, env, v, S2, rfl, ok1, er.mono ok x1, by rw [h1]; exact e2, fun g2 h2 x2 ok2 vv rv => ?_⟩⟩
    subst h2
    obtain ⟨hD1, hr1⟩ := Ext.outside hD hr x1
    obtain ⟨hD2, hr2⟩ := Ext.outside hD1 hr1 x2
    refine pairs_go (prs := r) ok2 ((er.mono ok x1).mono ok1 x2) hD2 hr2 e6 fun g3 ys h3 x3 ok3 hD3 hr3 kr => ?_
    have ek := wKey_V rk e4
    subst ek
    exact q g3 ((kk, vv) :: ys) h3 ((x1.trans ok1 x2).trans ok2 x3) ok3 hD3 hr3 (.cons ⟨rfl, x3.wr ok2 rv⟩ kr)
theorem q_disp {keys : List (Option Expr)} {values : List Expr} {prs : List (WE × WE)} (h : QPs X pos keys values prs) (hall : keys.all (·.isSome) = true := by rfl) (hl : keys.length = values.length := by rfl) (h0 : keys ≠ [] := by intro z; cases z)
    (h15 : keys.length ≤ 15 := by decide) : QE X (.Dict keys values pos) (mDisp prs) :=
  PE.weak (pe_disp h hall hl h0 h15) fun σ H Q ⟨g, env, w, S', hH, ok, er, hm, q⟩ => by
    obtain ⟨⟨kvs, S1⟩, e1, e2⟩ := bind1 hm
    split at e2
    · rename_i hz
      subst hH
      intro p hp
      have x0 : Ext g (g.out p (.dK [])) := Ext.out hp
      refine pairs_go (D := p) (g := g.out p (.dK [])) (ok.out hp) (er.mono ok x0) upd_same (fun j hj e => ?_) e1 fun g1 ys h1 x1 ok1 hD hr kr => ⟨hD, ys, rfl, ?_, ?_⟩
      · obtain ⟨ho, h1, _⟩ := ok.lt_at hj
        have e' : g.φ j = p := e
        rw [e', hp] at h1
        cases h1
      · rw [← KR.len kr]
        exact of_decide_eq_true hz
      · subst h1
        have e2' : some (W.ref g1.S.length, g1.S ++ [MO.dK (mergeW [] kvs)]) = some (w, S') := e2
        cases e2'
        have xg : Ext g g1 := x0.trans (ok.out hp) x1
        have m : MR X.K (g1.out p (.dK (mergeK [] ys))) (.dK (mergeW [] kvs)) (.dK (mergeK [] ys)) := ⟨_, rfl, KR.merge (Paired.mapP kr fun a b z => ⟨z.1, wr_re hD trivial z.2⟩) .nil⟩
        have ok2 := ok_re (o := .dK (mergeK [] ys)) ok1 hD trivial hr
        have hr2 : ∀ j, j < (g1.out p (.dK (mergeK [] ys))).S.length → (g1.out p (.dK (mergeK [] ys))).φ j ≠ p := hr
        refine q ((g1.out p (.dK (mergeK [] ys))).take p (.dK (mergeW [] kvs))) rfl ((xg.re hp).take hp) (ok_take ok2 upd_same hr2 m) (.ref p) ?_
        rw [Gw.WR, WR]
        refine ⟨by rw [Ext.take1]; exact Nat.lt_succ_self _, ?_⟩
        show V.ref p = .ref (if g1.S.length = g1.S.length then p else g1.φ g1.S.length)
        rw [if_pos rfl]
    · cases e2
end
end L2.Aw

namespace L2.Aw
open PySem PySem.Spec PyProof.Rows
section
variable {X : Cx} {pos : Pos} {a b c e : Expr} {es : List Expr} {ma mb mc me : WE} {mes : WA}
/-- a module's constant, known up to its token -/
theorem q_globX {x : Str} {w : W} {v : V} (hg : Gl X x) (hm : ∃ u, X.mg x = some u ∧ RelV v u) (ha : atomV w = some v) (hd : (x == ("__debug__" : Str)) = false := by decide) : QE X (.Name x pos) (mC w) := by
  obtain ⟨u, h1, h2⟩ := hm
  exact q_glob hg h1 h2 ha hd
theorem qt_isN {j pos'} (ha : QE X a ma) : QT X (.Compare a [.Is] [.Constant .none j pos'] pos) (mTest (mIsN ma)) :=
  PT.weak (pt_cmp (pc_isN ha) (by first | exact nobehind _ (by decide) (by decide) | rfl)) fun σ H Q ⟨g, env, b, S', hH, ok, er, hm, q⟩ => by
    obtain ⟨⟨x, S1⟩, e1, e2⟩ := bind1 (mTest_some hm)
    cases e2
    exact ⟨g, env, x, _, hH, ok, er, e1, fun g1 h1 x1 ok1 v r => ⟨_, rfl, by rw [wNon_V r]; exact q g1 h1 x1 ok1⟩⟩
theorem qt_notN {j pos'} (ha : QE X a ma) : QT X (.Compare a [.IsNot] [.Constant .none j pos'] pos) (mTest (mNotN ma)) :=
  PT.weak (pt_cmp (pc_notN ha) (by first | exact nobehind _ (by decide) (by decide) | rfl)) fun σ H Q ⟨g, env, b, S', hH, ok, er, hm, q⟩ => by
    obtain ⟨⟨x, S1⟩, e1, e2⟩ := bind1 (mTest_some hm)
    cases e2
    exact ⟨g, env, x, _, hH, ok, er, e1, fun g1 h1 x1 ok1 v r => ⟨_, rfl, by rw [wNon_V r]; exact q g1 h1 x1 ok1⟩⟩
def wNeg : W1 := fun x S => match x with
  | .int i => some (.int (-i), S)
  | _ => none
theorem Un1.neg {K : PySem.W.Frag} : Un1 K wNeg (rU fun i => .int (-i)) := fun g x v w S' Q ok rx e q => by
  cases x with
  | int i => exact ⟨i, rx.int_inv, Then.val ok e q WR.ofInt⟩
  | _ => cases e
theorem q_neg (ha : QE X a ma) : QE X (.UnaryOp .USub a pos) (mUn wNeg ma) := q_un un_neg Un1.neg ha
def sRetN : WS := fun _ S => some (.rt .non S)
theorem qs_retN : QS X (.Return none pos) sRetN := PS.weak ps_retN fun D σ H ⟨g, env, o, hH, ok, er, hm, q⟩ => by
  have hm' : some (Out.rt .non g.S) = some o := hm
  cases hm'
  subst hH
  exact q g rfl (Ext.refl g) ok .non WR.ofNon
theorem q_call0 {x : Str} {p : Pos} {k : Nat} {f : Addr} {fd : FuncData} {ps : List Str} {F : FM} (G : FnW X.prog X.w X.K X.mg X.base k f fd ps F) (hr : Room k X.A) (hg : Gl X x) (hm : X.mg x = some (.ref f)) (hk : PySem.W.keepIn X.K (.ref f) = true) (hb : Binds X.K fd ps []) (hl : 0 = ps.length) (hdb : (x == ("__debug__" : Str)) = false := by decide) :
    QE X (.Call (.Name x p) [] [] pos) (mCall F aNil) :=
  PE.weak (pe_call0 G hr hg hm hk hb .nil pass0 hdb) fun σ H Q ⟨g, env, w, S', hH, ok, er, hm, q⟩ => by
    obtain ⟨⟨ws, S1⟩, e1, e2⟩ := bind1 hm
    have e1' : some (([] : List W), g.S) = some (ws, S1) := e1
    cases e1'
    subst hH
    exact ⟨g, [], w, S', rfl, ok, .nil, hl, e2, q⟩
end
theorem bt_sum : bootBuiltins "sum" = some (.builtin "sum") := by decide +kernel
theorem bt_max : bootBuiltins "max" = some (.builtin "max") := by decide +kernel
theorem bt_min : bootBuiltins "min" = some (.builtin "min") := by decide +kernel
theorem bt_abs : bootBuiltins "abs" = some (.builtin "abs") := by decide +kernel
theorem bt_len : bootBuiltins "len" = some (.builtin "len") := by decide +kernel
theorem bt_all : bootBuiltins "all" = some (.builtin "all") := by decide +kernel
theorem bt_any : bootBuiltins "any" = some (.builtin "any") := by decide +kernel
theorem bt_sorted : bootBuiltins "sorted" = some (.builtin "sorted") := by decide +kernel
theorem bt_repr : bootBuiltins "repr" = some (.builtin "repr") := by decide +kernel
theorem bt_isinstance : bootBuiltins "isinstance" = some (.builtin "isinstance") := by decide +kernel
theorem bt_int : bootBuiltins "int" = some (.type "int") := by decide +kernel
theorem bt_tuple : bootBuiltins "tuple" = some (.type "tuple") := by decide +kernel
theorem bt_list : bootBuiltins "list" = some (.type "list") := by decide +kernel
theorem bt_set : bootBuiltins "set" = some (.type "set") := by decide +kernel
theorem bt_dict : bootBuiltins "dict" = some (.type "dict") := by decide +kernel
theorem bt_str : bootBuiltins "str" = some (.type "str") := by decide +kernel
/-- the sem of level 0 -/
theorem FnW.zero {P : Program} {w : World} {K : PySem.W.Frag} {mg : Str → Option Value} {base : Heap} {f : Addr} {fd : FuncData} {ps : List Str} : FnW P w K mg base 0 f fd ps (fun _ _ => none) :=
  ⟨fun vs H Q E ⟨_, _, _, _, _, _, _, _, h, _⟩ => (nomatch h), fun A outer s H args us vs Q E _ _ _ _ ⟨_, _, _, _, _, _, _, _, h, _⟩ => (nomatch h)⟩
/-- how often a while may turn -/
def fuel : Nat := 1000000
/-- the law's promise -/
def spLaw (K : PySem.W.Frag) : Sp := fun vs H Q _ => ∃ (a : Addr) (ns : List Int), vs = [.ref a] ∧ FzL K H a (ns.map V.int) ∧ ns.length ≤ 63 ∧ ∀ H', Q (.bl true) H'
theorem wrs_ints {K : PySem.W.Frag} {g : Gw} : ∀ ns : List Int, g.WRs K (ns.map W.int) (ns.map V.int)
  | [] => .nil
  | n :: ns => .cons WR.ofInt (wrs_ints ns)
theorem law_of {P : Program} {w : World} {K : PySem.W.Frag} {mg : Str → Option Value} {base : Heap} {k : Nat} {f : Addr} {fd : FuncData} {F : FM} (h : FnW P w K mg base k f fd ["script"] F) (hF : ∀ ns : List Int, ns.length ≤ 63 → ∃ S', F [.fz (ns.map W.int)] [] = some (.bl true, S')) :
    FnOk P w K mg base CX0 k f fd ["script"] (spLaw K) := by
  refine FnOk.imp h fun vs H Q E ⟨a, ns, ev, hS, hl, q⟩ => ?_
  obtain ⟨S', hF⟩ := hF ns hl
  refine ⟨⟨fun _ => 0, [], H⟩, [.fz (ns.map W.int)], .bl true, S', rfl, ⟨fun i j hi => absurd hi (Nat.not_lt_zero i), fun i o h => by simp at h⟩, ?_, rfl, hF, fun g' _ _ _ v rv => ?_⟩
  · subst ev
    refine .cons ?_ .nil
    rw [WR]
    exact ⟨a, _, rfl, hS, wrs_ints ns⟩
  · rw [rv.bl_inv]
    exact q _
theorem fz_of {K : PySem.W.Frag} {H : Hp} {a : Addr} {xs : List V} (hO : Only H) (h : SqL K H a xs) : FzL K H a xs := by
  rcases h with (h | ⟨o, h⟩) | h
  · rcases hO a with z | ⟨o, ys, z⟩
    · rw [z] at h; cases h
    · rw [z] at h; cases h
  · exact .inl ⟨o, h⟩
  · exact .inr h
end L2.Aw

/-! Steps of evaluation. -/
namespace L2.Aw
open PySem PySem.Spec PyProof.Rows
section
variable {env e1 env1 : WEnv} {S S1 S2 S3 : Store} {w x y z : W} {ws us : List W} {a b m1 m2 body : WS} {o r : Option Out} {m ma mb mc mi : WE} {mes : WA} {t : WT} {f f' : W2} {F : FM} {R : Option (W × Store)} {tg : Tg} {k : Bool} {n : Nat}
theorem ev_seq (h : a env S = some (.nx e1 S1)) (h2 : b e1 S1 = o) : sSeq a b env S = o := by rw [sSeq, h]; exact h2
theorem ev_seq_rt (h : a env S = some (.rt w S1)) : sSeq a b env S = some (.rt w S1) := by rw [sSeq, h]; rfl
theorem ev_seq_bk (h : a env S = some (.bk e1 S1)) : sSeq a b env S = some (.bk e1 S1) := by rw [sSeq, h]; rfl
theorem ev_asg (h : m env S = some (w, S1)) (h2 : tg.asg w env = some env1) : sAsg tg m env S = some (.nx env1 S1) := by
  show (m env S).bind (fun p => (tg.asg p.1 env).map fun env' => Out.nx env' p.2) = _
  rw [h]
  show (tg.asg w env).map (fun env' => Out.nx env' S1) = _
  rw [h2]
  rfl
theorem ev_ret (h : m env S = some (w, S1)) : sRet m env S = some (.rt w S1) := by rw [sRet, h]; rfl
theorem ev_expr (h : m env S = some (w, S1)) : sExpr m env S = some (.nx env S1) := by rw [sExpr, h]; rfl
theorem ev_if_t (h : t env S = some (true, S1)) (h2 : a env S1 = o) : sIf t a b env S = o := by rw [sIf, h]; exact h2
theorem ev_if_f (h : t env S = some (false, S1)) (h2 : b env S1 = o) : sIf t a b env S = o := by rw [sIf, h]; exact h2
theorem ev_if (h : t env S = some (k, S1)) (h2 : (if k then a env S1 else b env S1) = o) : sIf t a b env S = o := by rw [sIf, h]; exact h2
theorem ev_mif_t (h : t env S = some (true, S1)) (h2 : ma env S1 = R) : mIf t ma mb env S = R := by rw [mIf, h]; exact h2
theorem ev_mif_f (h : t env S = some (false, S1)) (h2 : mb env S1 = R) : mIf t ma mb env S = R := by rw [mIf, h]; exact h2
theorem ev_mif (h : t env S = some (k, S1)) (h2 : (if k then ma env S1 else mb env S1) = R) : mIf t ma mb env S = R := by rw [mIf, h]; exact h2
theorem ev_test (h : m env S = some (.bl k, S1)) : mTest m env S = some (k, S1) := by rw [mTest, h]; rfl
theorem ev_bin (h : ma env S = some (x, S1)) (h2 : mb env S1 = some (y, S2)) (h3 : f x y S2 = R) : mBin f ma mb env S = R := by
  show (ma env S).bind (fun p => (mb env p.2).bind fun q => f p.1 q.1 q.2) = _
  rw [h]
  show (mb env S1).bind (fun q => f x q.1 q.2) = _
  rw [h2]
  exact h3
theorem ev_un {f : W1} (h : ma env S = some (x, S1)) (h3 : f x S1 = R) : mUn f ma env S = R := by
  rw [mUn, h]; exact h3
theorem ev_call (h : mes env S = some (ws, S1)) (h2 : F ws S1 = R) : mCall F mes env S = R := by rw [mCall, h]; exact h2
theorem ev_cons (h : m env S = some (x, S1)) (h2 : mes env S1 = some (ws, S2)) : aCons m mes env S = some (x :: ws, S2) := by
  show (m env S).bind (fun p => (mes env p.2).bind fun q => some (p.1 :: q.1, q.2)) = _
  rw [h]
  show (mes env S1).bind (fun q => some (x :: q.1, q.2)) = _
  rw [h2]
  rfl
theorem ev_nil : aNil env S = some ([], S) := rfl
theorem ev_tup (h : mes env S = some (ws, S1)) (hz : szOk ws.length = true) : mTup mes env S = some (.tup ws, S1) := by
  rw [mTup, h]
  show (if szOk ws.length = true then some (W.tup ws, S1) else none) = _
  rw [if_pos hz]
theorem ev_lst (h : mes env S = some (ws, S1)) (hz : szOk ws.length = true) : mLst mes env S = some (.ref S1.length, S1 ++ [.lst ws]) := by
  rw [mLst, h]
  show (if szOk ws.length = true then newL ws S1 else none) = _
  rw [if_pos hz]
  rfl
theorem ev_meth (h : m env S = some (x, S1)) (hl : isLst S1 x = true) (h2 : mes env S1 = some (ws, S2)) (h3 : F (x :: ws) S2 = R) : mMeth F m mes env S = R := by
  show (m env S).bind (fun p => if isLst p.2 p.1 then (mes env p.2).bind fun q => F (p.1 :: q.1) q.2 else none) = _
  rw [h]
  show (if isLst S1 x = true then (mes env S1).bind (fun q => F (x :: q.1) q.2) else none) = _
  rw [if_pos hl, h2]
  exact h3
theorem ev_par {i j : Nat} (h : mes env S = some ([x, y], S1)) : sPar i j mes env S = some (.nx ((env.set i (some x)).set j (some y)) S1) := by rw [sPar, h]; rfl
theorem ev_aug {i : Nat} (h0 : env[i]? = some (some x)) (h : m env S = some (y, S1)) (h2 : f x y S1 = some (z, S2)) : sAug i f m env S = some (.nx (env.set i (some z)) S2) := by
  show (env[i]?.join).bind (fun x => (m env S).bind fun p => (f x p.1 p.2).map fun r => Out.nx (env.set i (some r.1)) r.2) = _
  rw [h0]
  show (m env S).bind (fun p => (f x p.1 p.2).map fun r => Out.nx (env.set i (some r.1)) r.2) = _
  rw [h]
  show (f x y S1).map (fun r => Out.nx (env.set i (some r.1)) r.2) = _
  rw [h2]
  rfl
theorem ev_setIx {mo mi : WE} {l j : Nat} {ki : Int} (h : m env S = some (z, S1)) (h1 : mo env S1 = some (.ref l, S2)) (h2 : mi env S2 = some (.int ki, S3)) (h3 : getL S3 l = some ws) (h4 : ixN ws.length ki = some j) : sSetIx mo mi m env S = some (.nx env (S3.set l (.lst (ws.set j z)))) := by
  show (m env S).bind (fun v => (mo env v.2).bind fun o => (mi env o.2).bind fun i => match o.1, i.1 with
    | .ref a, .int k => (getL i.2 a).bind fun ws => (ixN ws.length k).map fun j => Out.nx env (i.2.set a (.lst (ws.set j v.1)))
    | _, _ => none) = _
  rw [h]
  show (mo env S1).bind (fun o => (mi env o.2).bind fun i => match o.1, i.1 with
    | .ref a, .int k => (getL i.2 a).bind fun ws => (ixN ws.length k).map fun j => Out.nx env (i.2.set a (.lst (ws.set j z)))
    | _, _ => none) = _
  rw [h1]
  show (mi env S2).bind (fun i => match W.ref l, i.1 with
    | .ref a, .int k => (getL i.2 a).bind fun ws => (ixN ws.length k).map fun j => Out.nx env (i.2.set a (.lst (ws.set j z)))
    | _, _ => none) = _
  rw [h2]
  show (getL S3 l).bind (fun ws => (ixN ws.length ki).map fun j => Out.nx env (S3.set l (.lst (ws.set j z)))) = _
  rw [h3]
  show (ixN ws.length ki).map (fun j => Out.nx env (S3.set l (.lst (ws.set j z)))) = _
  rw [h4]
  rfl
theorem ev_run {m : WS} (h : m (ws.map some ++ List.replicate (n - ws.length) none) S = some (.rt w S1)) : runB n m ws S = some (w, S1) := by rw [runB, h]; rfl
theorem ev_run_nx {m : WS} (h : m (ws.map some ++ List.replicate (n - ws.length) none) S = some (.nx e1 S1)) : runB n m ws S = some (.non, S1) := by rw [runB, h]; rfl
theorem ev_pure (hp : W.pures ws = true) (h : F ws [] = some (w, S1)) (hw : w.pure = true) : pureF F ws S = some (w, S) := by
  show (if W.pures ws = true then (F ws []).bind (fun p => if p.1.pure then some (p.1, S) else none) else none) = _
  rw [if_pos hp, h]
  show (if w.pure = true then some (w, S) else none) = _
  rw [if_pos hw]
theorem ev_slice {ml mh : WO} {lo hi : Option Int} (h : m env S = some (x, S1)) (h2 : ml env S1 = some (lo, S2)) (h3 : mh env S2 = some (hi, S3)) (h4 : wSlice x lo hi S3 = R) : mSlice m ml mh env S = R := by
  show (m env S).bind (fun p => (ml env p.2).bind fun l => (mh env l.2).bind fun h => wSlice p.1 l.1 h.1 h.2) = _
  rw [h]
  show (ml env S1).bind (fun l => (mh env l.2).bind fun h => wSlice x l.1 h.1 h.2) = _
  rw [h2]
  show (mh env S2).bind (fun h => wSlice x lo h.1 h.2) = _
  rw [h3]
  exact h4
theorem ev_or_t {ta tb : WT} (h : ta env S = some (true, S1)) : tOrW ta tb env S = some (true, S1) := by rw [tOrW, h]; rfl
theorem ev_or_f {ta tb : WT} {R : Option (Bool × Store)} (h : ta env S = some (false, S1)) (h2 : tb env S1 = R) : tOrW ta tb env S = R := by rw [tOrW, h]; exact h2
theorem ev_and_f {ta tb : WT} (h : ta env S = some (false, S1)) : tAndW ta tb env S = some (false, S1) := by rw [tAndW, h]; rfl
theorem ev_and_t {ta tb : WT} {R : Option (Bool × Store)} (h : ta env S = some (true, S1)) (h2 : tb env S1 = R) : tAndW ta tb env S = R := by rw [tAndW, h]; exact h2
theorem ev_not {ta : WT} (h : ta env S = some (k, S1)) : tNotW ta env S = some (!k, S1) := by rw [tNotW, h]; rfl
/-! ### loops over a tuple -/
theorem ev_seqT (h : m env S = some (.tup ws, S1)) : iSeq m env S = some (sTup ws, S1) := by rw [iSeq, h]; rfl
theorem ev_seqF (h : m env S = some (.fz ws, S1)) : iSeq m env S = some (sTup ws, S1) := by rw [iSeq, h]; rfl
theorem ev_seqL {l : Nat} (h : m env S = some (.ref l, S1)) (h2 : getL S1 l = some ws) : iSeq m env S = some (sLst l ws.length, S1) := by
  rw [iSeq, h]
  show ((getL S1 l).map fun ws => sLst l ws.length).map (fun s => (s, S1)) = _
  rw [h2]
  rfl
theorem ev_range1 {j : Int} (h : mes env S = some ([.int j], S1)) (hj : okRng j = true) : iRange1 mes env S = some (sRng 0 j.toNat, S1) := by
  rw [iRange1, h]
  show (if okRng j = true then some (sRng 0 j.toNat, S1) else none) = _
  rw [if_pos hj]
theorem ev_range2 {i j : Int} (h : mes env S = some ([.int i, .int j], S1)) (hi : okRng i = true) (hj : okRng j = true) : iRange2 mes env S = some (sRng i (j - i).toNat, S1) := by
  rw [iRange2, h]
  show (if (okRng i && okRng j) = true then some (sRng i (j - i).toNat, S1) else none) = _
  rw [if_pos (by rw [hi, hj]; rfl)]
theorem ev_enumL {l : Nat} (h : mes env S = some ([.ref l], S1)) (h2 : getL S1 l = some ws) : iEnumL mes env S = some (sEnumL l ws.length, S1) := by
  rw [iEnumL, h]
  show (getL S1 l).map (fun ws => (sEnumL l ws.length, S1)) = _
  rw [h2]
  rfl
/-- a for by its invariant: the body goes on -/
theorem ev_for {mi : WI} {s : Src} {P : Nat → WEnv → Store → Prop} (h : mi env S = some (s, S1)) (h0 : P 0 env S1)
    (hs : ∀ i e σ, i < s.n → P i e σ → ∃ w e1, s.item i σ = some w ∧ tg.asg w e = some e1 ∧ ∃ e2 σ2, (body e1 σ = some (.nx e2 σ2) ∨ body e1 σ = some (.ct e2 σ2)) ∧ P (i + 1) e2 σ2)
    (hd : ∀ e σ, P s.n e σ → s.stop σ = true) : ∃ e σ, sFor mi tg body env S = some (.nx e σ) ∧ P s.n e σ := by
  have go : ∀ k i e σ, k + i = s.n → P i e σ → ∃ e' σ', sForF s tg body k i e σ = some (.nx e' σ') ∧ P s.n e' σ' := by
    intro k
    induction k with
    | zero =>
      intro i e σ hi hp
      have : i = s.n := by omega
      subst this
      exact ⟨e, σ, by rw [sForF, if_pos (hd e σ hp)], hp⟩
    | succ k ih =>
      intro i e σ hi hp
      obtain ⟨w, e1, a1, a2, e2, σ2, a3, a4⟩ := hs i e σ (by omega) hp
      obtain ⟨e', σ', b1, b2⟩ := ih (i + 1) e2 σ2 (by omega) a4
      refine ⟨e', σ', ?_, b2⟩
      rw [sForF, a1]
      show (tg.asg w e).bind _ = _
      rw [a2]
      show (body e1 σ).bind _ = _
      rcases a3 with a3 | a3 <;> (rw [a3]; exact b1)
  obtain ⟨e, σ, b1, b2⟩ := go s.n 0 env S1 (by omega) h0
  exact ⟨e, σ, by rw [sFor, h]; exact b1, b2⟩
/-- a for that may be left: either by the end, or by break or return -/
theorem ev_for_x {mi : WI} {s : Src} {P : Nat → WEnv → Store → Prop} {L : Out → Prop} (h : mi env S = some (s, S1)) (h0 : P 0 env S1)
    (hs : ∀ i e σ, i < s.n → P i e σ → ∃ w e1, s.item i σ = some w ∧ tg.asg w e = some e1 ∧ ((∃ e2 σ2, (body e1 σ = some (.nx e2 σ2) ∨ body e1 σ = some (.ct e2 σ2)) ∧ P (i + 1) e2 σ2) ∨ (∃ e2 σ2, body e1 σ = some (.bk e2 σ2) ∧ L (.nx e2 σ2)) ∨ ∃ w σ2, body e1 σ = some (.rt w σ2) ∧ L (.rt w σ2)))
    (hd : ∀ e σ, P s.n e σ → s.stop σ = true ∧ L (.nx e σ)) : ∃ o, sFor mi tg body env S = some o ∧ L o := by
  have go : ∀ k i e σ, k + i = s.n → P i e σ → ∃ o, sForF s tg body k i e σ = some o ∧ L o := by
    intro k
    induction k with
    | zero =>
      intro i e σ hi hp
      have : i = s.n := by omega
      subst this
      exact ⟨_, by rw [sForF, if_pos (hd e σ hp).1], (hd e σ hp).2⟩
    | succ k ih =>
      intro i e σ hi hp
      obtain ⟨w, e1, a1, a2, a3⟩ := hs i e σ (by omega) hp
      rcases a3 with ⟨e2, σ2, a3, a4⟩ | ⟨e2, σ2, a3, a4⟩ | ⟨w2, σ2, a3, a4⟩
      · obtain ⟨o, b1, b2⟩ := ih (i + 1) e2 σ2 (by omega) a4
        refine ⟨o, ?_, b2⟩
        rw [sForF, a1]
        show (tg.asg w e).bind _ = _
        rw [a2]
        show (body e1 σ).bind _ = _
        rcases a3 with a3 | a3 <;> (rw [a3]; exact b1)
      · refine ⟨_, ?_, a4⟩
        rw [sForF, a1]
        show (tg.asg w e).bind _ = _
        rw [a2]
        show (body e1 σ).bind _ = _
        rw [a3]
        rfl
      · refine ⟨_, ?_, a4⟩
        rw [sForF, a1]
        show (tg.asg w e).bind _ = _
        rw [a2]
        show (body e1 σ).bind _ = _
        rw [a3]
        rfl
  obtain ⟨o, b1, b2⟩ := go s.n 0 env S1 (by omega) h0
  exact ⟨o, by rw [sFor, h]; exact b1, b2⟩
/-- a comprehension whose element leaves the store as it is -/
theorem ev_lc {mi : WI} {s : Src} {el : WE} {vs : List Nat} {g : Nat → W} (h : mi env S = some (s, S1))
    (hs : ∀ i, i < s.n → ∃ w e1, s.item i S1 = some w ∧ tg.asg w (wipeE env vs) = some e1 ∧ el e1 S1 = some (g i, S1)) (hd : s.stop S1 = true) (hz : szOk s.n = true) :
    mLc mi tg tYesW el vs env S = some (.ref S1.length, S1 ++ [.lst ((List.range s.n).map g)]) := by
  have go : ∀ k i, k + i = s.n → lcF s tg tYesW el (wipeE env vs) k i S1 = some (((List.range k).map fun j => g (i + j)), S1) := by
    intro k
    induction k with
    | zero =>
      intro i hi
      rw [lcF, if_pos hd]
      rfl
    | succ k ih =>
      intro i hi
      obtain ⟨w, e1, a1, a2, a3⟩ := hs i (by omega)
      have b := ih (i + 1) (by omega)
      rw [lcF, a1]
      show (tg.asg w (wipeE env vs)).bind _ = _
      rw [a2]
      show (el e1 S1).bind (fun v => (lcF s tg tYesW el (wipeE env vs) k (i + 1) v.2).map fun r => (v.1 :: r.1, r.2)) = _
      rw [a3]
      show (lcF s tg tYesW el (wipeE env vs) k (i + 1) S1).map (fun r => (g i :: r.1, r.2)) = _
      rw [b, List.range_succ_eq_map, List.map_cons, List.map_map]
      show some (g i :: _, S1) = some (g (i + 0) :: _, S1)
      rw [Nat.add_zero]
      congr 2
      congr 1
      apply List.map_congr_left
      intro j _
      show g (i + 1 + j) = g (i + (j + 1))
      rw [Nat.add_assoc, Nat.add_comm 1 j]
  have b := go s.n 0 rfl
  have e : (List.range s.n).map (fun j => g (0 + j)) = (List.range s.n).map g := List.map_congr_left fun j _ => by rw [Nat.zero_add]
  rw [e] at b
  rw [mLc, h]
  show (lcF s tg tYesW el (wipeE env vs) s.n 0 S1).bind (fun r => if szOk r.1.length then newL r.1 r.2 else none) = _
  rw [b]
  show (if szOk ((List.range s.n).map g).length = true then newL ((List.range s.n).map g) S1 else none) = _
  rw [List.length_map, List.length_range, if_pos hz]
  rfl
/-- over a tuple, the item in one slot, the element a function of it -/
theorem ev_lcT {mi : WI} {el : WE} {j : Nat} {vs : List Nat} {g : W → W} (h : mi env S = some (sTup us, S1)) (hs : ∀ w ∈ us, el ((wipeE env vs).set j (some w)) S1 = some (g w, S1)) (hz : szOk us.length = true) :
    mLc mi (.nm j) tYesW el vs env S = some (.ref S1.length, S1 ++ [.lst (us.map g)]) := by
  have b := ev_lc (s := sTup us) (vs := vs) (el := el) (tg := .nm j) (g := fun i => g (us.getD i .non)) h (fun i hi => by
    have hi' : i < us.length := hi
    have e : us[i]? = some us[i] := List.getElem?_eq_getElem hi'
    refine ⟨us[i], _, e, rfl, ?_⟩
    rw [hs us[i] (List.getElem_mem hi')]
    simp [List.getD, e]) rfl hz
  rw [b]
  congr 5
  apply List.ext_getElem?
  intro i
  rw [List.getElem?_map, List.getElem?_map]
  by_cases hi : i < us.length
  · rw [List.getElem?_range (show i < (sTup us).n from hi)]
    simp [List.getD, List.getElem?_eq_getElem hi]
  · rw [List.getElem?_eq_none (by rw [List.length_range]; exact Nat.le_of_not_lt hi), List.getElem?_eq_none (Nat.le_of_not_lt hi)]
    rfl
end
theorem getL_new {S : Store} {ws : List W} : getL (S ++ [.lst ws]) S.length = some ws := by
  unfold getL
  rw [List.getElem?_append_right (Nat.le_refl _), Nat.sub_self]
  rfl
theorem getL_old {S S2 : Store} {i : Nat} {ws : List W} (h : getL S i = some ws) : getL (S ++ S2) i = some ws := by
  have e := getL_some h
  unfold getL
  rw [List.getElem?_append_left (List.getElem?_eq_some_iff.mp e).1, e]
theorem intsOf_map : ∀ ns : List Int, intsOf (ns.map W.int) = some ns
  | [] => rfl
  | n :: ns => by
    show (intsOf (ns.map W.int)).map (fun r => n :: r) = _
    rw [intsOf_map ns]
    rfl
theorem boolsOf_map : ∀ ns : List Bool, boolsOf (ns.map W.bl) = some ns
  | [] => rfl
  | n :: ns => by
    show (boolsOf (ns.map W.bl)).map (fun r => n :: r) = _
    rw [boolsOf_map ns]
    rfl
theorem szOk_of {n : Nat} (h : n ≤ 16777216) : szOk n = true := decide_eq_true h
end L2.Aw

/-! Programs as trees. -/
namespace L2.Aw
open PySem PySem.Spec PyProof.Rows
/-- a word: a text, None, or a pair of numbers (laws that mark words) -/
inductive Wd where
  | none | str (s : Str) | tag (a b : Int)
def wv : Wd → W
  | .none => .non
  | .str s => .str s
  | .tag a b => .tup [.int a, .int b]
def wdOk : Wd → Bool
  | .none => true
  | .str s => PyData.strOk s
  | .tag _ _ => true
theorem wv_pure (w : Wd) : (wv w).pure = true := by
  cases w with
  | none => rw [wv, W.pure]
  | str s => rw [wv, W.pure]
  | tag a b => rw [wv, W.pure, W.pures, W.pures, W.pures, W.pure, W.pure]; rfl
inductive Tree where
  | log (w : Wd) | await (n : Int) | seq (ps : List Tree) | fork (p : Tree) | join (ps : List Tree) | race (ps : List Tree) | loop (c : Int) (b : Tree)
theorem Tree.ind {P : Tree → Prop} (h0 : ∀ w, P (.log w)) (h1 : ∀ n, P (.await n)) (h2 : ∀ ps, (∀ p ∈ ps, P p) → P (.seq ps)) (h3 : ∀ p, P p → P (.fork p)) (h4 : ∀ ps, (∀ p ∈ ps, P p) → P (.join ps)) (h5 : ∀ ps, (∀ p ∈ ps, P p) → P (.race ps)) (h6 : ∀ c b, P b → P (.loop c b)) : ∀ t, P t := by
  intro t
  exact Tree.rec (motive_1 := P) (motive_2 := fun ps => ∀ p ∈ ps, P p) h0 h1 h2 h3 h4 h5 h6 (by simp) (fun p ps hp hps x hx => by
    rcases List.mem_cons.mp hx with e | e
    · rw [e]; exact hp
    · exact hps x e) t
mutual
def enc : Tree → W
  | .log w => .tup [.str "log", wv w]
  | .await n => .tup [.str "await", .int n]
  | .seq ps => .tup [.str "seq", .tup (encs ps)]
  | .fork p => .tup [.str "fork", enc p]
  | .join ps => .tup [.str "join", .tup (encs ps)]
  | .race ps => .tup [.str "race", .tup (encs ps)]
  | .loop c b => .tup [.str "loop", .int c, enc b]
def encs : List Tree → List W
  | [] => []
  | t :: ts => enc t :: encs ts
end
theorem encs_map : ∀ ts, encs ts = ts.map enc
  | [] => by rw [encs]; rfl
  | t :: ts => by rw [encs, encs_map ts]; rfl
mutual
def fin : Tree → Int
  | .log _ => 0
  | .await n => n
  | .seq ps => (fins ps).sum
  | .fork _ => 0
  | .join ps => lmax (fins ps)
  | .race ps => lmin (fins ps)
  | .loop c b => c * fin b
def fins : List Tree → List Int
  | [] => []
  | t :: ts => fin t :: fins ts
end
theorem fins_map : ∀ ts, fins ts = ts.map fin
  | [] => by rw [fins]; rfl
  | t :: ts => by rw [fins, fins_map ts]; rfl
/-! how deep the calls go -/
mutual
def dep : Tree → Nat
  | .log _ => 1
  | .await _ => 1
  | .seq ps => deps ps + 1
  | .fork p => dep p + 1
  | .join ps => deps ps + 1
  | .race ps => deps ps + 1
  | .loop _ b => dep b + 1
def deps : List Tree → Nat
  | [] => 0
  | t :: ts => max (dep t) (deps ts)
end
theorem dep_le {t : Tree} : ∀ {ts : List Tree}, t ∈ ts → dep t ≤ deps ts
  | u :: us, h => by
    rw [deps]
    rcases List.mem_cons.mp h with e | e
    · rw [e]; omega
    · have := dep_le e; omega
/-! a program within the bounds -/
mutual
def Ok : Tree → Prop
  | .log w => wdOk w = true
  | .await n => 0 ≤ n ∧ n < 10 ^ 60
  | .seq ps => Oks ps ∧ ps.length ≤ 1000
  | .fork p => Ok p
  | .join ps => Oks ps ∧ ps.length ≤ 1000 ∧ ps ≠ []
  | .race ps => Oks ps ∧ ps.length ≤ 1000 ∧ ps ≠ []
  | .loop c b => Ok b ∧ 0 ≤ c ∧ c < 10 ^ 60 ∧ 1 ≤ fin b ∧ fin b < 10 ^ 60
def Oks : List Tree → Prop
  | [] => True
  | t :: ts => Ok t ∧ Oks ts
end
theorem Oks.mem {t : Tree} : ∀ {ts : List Tree}, Oks ts → t ∈ ts → Ok t
  | u :: us, h, hm => by
    rw [Oks] at h
    rcases List.mem_cons.mp hm with e | e
    · rw [e]; exact h.1
    · exact Oks.mem h.2 e
theorem Oks.of {ts : List Tree} (h : ∀ t ∈ ts, Ok t) : Oks ts := by
  induction ts with
  | nil => trivial
  | cons t ts ih => exact ⟨h t List.mem_cons_self, ih fun u hu => h u (List.mem_cons_of_mem _ hu)⟩
theorem pures_of {ws : List W} (h : ∀ w ∈ ws, w.pure = true) : W.pures ws = true := by
  induction ws with
  | nil => rw [W.pures]
  | cons w ws ih => rw [W.pures, h w List.mem_cons_self, ih fun u hu => h u (List.mem_cons_of_mem _ hu)]; rfl
theorem enc_pure : ∀ t, (enc t).pure = true := by
  have two : ∀ (k : Str) (w : W), w.pure = true → (W.tup [.str k, w]).pure = true := fun k w h => by
    rw [W.pure, W.pures, W.pures, W.pures, h, W.pure]; rfl
  have many : ∀ ps : List Tree, (∀ p ∈ ps, (enc p).pure = true) → (W.tup (encs ps)).pure = true := fun ps h => by
    rw [W.pure, encs_map]
    refine pures_of fun w hw => ?_
    obtain ⟨p, hp, e⟩ := List.mem_map.mp hw
    rw [← e]; exact h p hp
  intro t
  refine Tree.ind (P := fun t => (enc t).pure = true) ?_ ?_ ?_ ?_ ?_ ?_ ?_ t
  · intro w; rw [enc]; exact two _ _ (wv_pure w)
  · intro w; rw [enc]; exact two _ _ (by rw [W.pure])
  · intro ps ih; rw [enc]; exact two _ _ (many ps ih)
  · intro ps ih; rw [enc]; exact two _ _ ih
  · intro ps ih; rw [enc]; exact two _ _ (many ps ih)
  · intro ps ih; rw [enc]; exact two _ _ (many ps ih)
  · intro c b ih
    rw [enc, W.pure, W.pures, W.pures, W.pures, W.pures, ih, W.pure, W.pure]; rfl
theorem pures1 {w : W} (h : w.pure = true) : W.pures [w] = true := by rw [W.pures, W.pures, h]; rfl
theorem pures2 {w u : W} (h : w.pure = true) (h' : u.pure = true) : W.pures [w, u] = true := by rw [W.pures, pures1 h', h]; rfl
theorem pures3 {w u v : W} (h : w.pure = true) (h' : u.pure = true) (h'' : v.pure = true) : W.pures [w, u, v] = true := by rw [W.pures, pures2 h' h'', h]; rfl
theorem pure_int {i : Int} : (W.int i).pure = true := by rw [W.pure]
theorem pure_str {i : Str} : (W.str i).pure = true := by rw [W.pure]
theorem pure_non : W.non.pure = true := by rw [W.pure]
theorem encs_pure (ts : List Tree) : (W.tup (encs ts)).pure = true := by
  rw [W.pure, encs_map]
  refine pures_of fun w hw => ?_
  obtain ⟨p, hp, e⟩ := List.mem_map.mp hw
  rw [← e]; exact enc_pure p
theorem big_lt : (10 : Int) ^ 100 < big := by decide +kernel
theorem okMul_of {i j : Int} (h1 : -10 ^ 100 < i) (h2 : i < 10 ^ 100) (h3 : -10 ^ 100 < j) (h4 : j < 10 ^ 100) : okMul i j = true := by
  have := big_lt
  simp only [okMul, Bool.and_eq_true, decide_eq_true_eq]
  omega
theorem okDiv_of {j : Int} (h1 : 0 < j) (h2 : j < 10 ^ 100) : okDiv j = true := by
  have := big_lt
  simp only [okDiv, Bool.and_eq_true, decide_eq_true_eq]
  omega
end L2.Aw
namespace L2.Aw
open PySem PySem.Spec PyProof.Rows
theorem fEq_str {x y : Str} {S : Store} (hx : PyData.strOk x = true) (hy : PyData.strOk y = true) : fEq false (.str x) (.str y) S = some (.bl (x == y), S) := by
  show (if (SeqAt.shaped (.str x) && SeqAt.shaped (.str y)) = true then some (W.bl (PyData.eqv (.str x) (.str y)), S) else none) = _
  have e : ∀ z : Str, PyData.strOk z = true → SeqAt.shaped (.str z) = true := fun z h => by
    unfold SeqAt.shaped
    rw [PyData.canLay0, h, PyData.depth]
    rfl
  rw [e x hx, e y hy, PyData.eqv]
  rfl
/-- k == "k" -/
theorem ev_eqT {ma mb : WE} {env : WEnv} {S S1 S2 : Store} {x : Str} (h : ma env S = some (.str x, S1)) (h2 : mb env S1 = some (.str x, S2)) (hx : PyData.strOk x = true := by decide +kernel) : mTest (mBin (fEq false) ma mb) env S = some (true, S2) :=
  ev_test (ev_bin h h2 (by rw [fEq_str hx hx, beq_self_eq_true]))
theorem ev_eqF {ma mb : WE} {env : WEnv} {S S1 S2 : Store} {x y : Str} (h : ma env S = some (.str x, S1)) (h2 : mb env S1 = some (.str y, S2)) (hx : PyData.strOk x = true := by decide +kernel) (hy : PyData.strOk y = true := by decide +kernel) (hn : (x == y) = false := by decide +kernel) : mTest (mBin (fEq false) ma mb) env S = some (false, S2) :=
  ev_test (ev_bin h h2 (by rw [fEq_str hx hy, hn]))
theorem ev_neF {ma mb : WE} {env : WEnv} {S S1 S2 : Store} {x : Str} (h : ma env S = some (.str x, S1)) (h2 : mb env S1 = some (.str x, S2)) (hx : PyData.strOk x = true := by decide +kernel) : mTest (mBin (fEq true) ma mb) env S = some (false, S2) := by
  refine ev_test (ev_bin h h2 ?_)
  show (if (SeqAt.shaped (.str x) && SeqAt.shaped (.str x)) = true then some (W.bl (!PyData.eqv (.str x) (.str x)), S2) else none) = _
  have e : SeqAt.shaped (.str x) = true := by
    unfold SeqAt.shaped
    rw [PyData.canLay0, hx, PyData.depth]
    rfl
  rw [e, PyData.eqv, beq_self_eq_true]
  rfl
theorem ev_neT {ma mb : WE} {env : WEnv} {S S1 S2 : Store} {x y : Str} (h : ma env S = some (.str x, S1)) (h2 : mb env S1 = some (.str y, S2)) (hx : PyData.strOk x = true := by decide +kernel) (hy : PyData.strOk y = true := by decide +kernel) (hn : (x == y) = false := by decide +kernel) : mTest (mBin (fEq true) ma mb) env S = some (true, S2) := by
  refine ev_test (ev_bin h h2 ?_)
  show (if (SeqAt.shaped (.str x) && SeqAt.shaped (.str y)) = true then some (W.bl (!PyData.eqv (.str x) (.str y)), S2) else none) = _
  have e : ∀ z : Str, PyData.strOk z = true → SeqAt.shaped (.str z) = true := fun z h => by
    unfold SeqAt.shaped
    rw [PyData.canLay0, h, PyData.depth]
    rfl
  rw [e x hx, e y hy, PyData.eqv, hn]
  rfl
/-- k in (..), texts -/
theorem ev_inK {ma mb : WE} {env : WEnv} {S S1 S2 : Store} {x : Str} {ws : List W} {k : Bool} (h : ma env S = some (.str x, S1)) (h2 : mb env S1 = some (.tup ws, S2)) (hf : ws.all wFlat = true := by rfl) (hk : (ws.any fun z => wEqA z (.str x)) = k := by decide +kernel) : mTest (mBin (wIn false) ma mb) env S = some (k, S2) := by
  refine ev_test (ev_bin h h2 ?_)
  show (if (wFlat (.str x) && ws.all wFlat) = true then some (W.bl (if false = true then !(ws.any fun z => wEqA z (.str x)) else ws.any fun z => wEqA z (.str x)), S2) else none) = _
  rw [hf, hk]
  rfl
end L2.Aw

/-! Steps of evaluation with ints; the pot. -/
namespace L2.Aw
open PySem PySem.Spec PyProof.Rows
section
variable {env e1 env1 : WEnv} {S S1 S2 S3 : Store} {w x y z : W} {ws us : List W} {ma mb mc mi : WE} {mes : WA} {i j : Int}
theorem ev_var {k : Nat} (h : env[k]? = some (some w)) : mVar k env S = some (w, S) := by rw [mVar, h]; rfl
theorem ev_addI (h : ma env S = some (.int i, S1)) (h2 : mb env S1 = some (.int j, S2)) : mBin wAdd ma mb env S = some (.int (i + j), S2) := ev_bin h h2 rfl
theorem ev_subI (h : ma env S = some (.int i, S1)) (h2 : mb env S1 = some (.int j, S2)) : mBin wSub ma mb env S = some (.int (i - j), S2) := ev_bin h h2 rfl
theorem ev_mulI (h : ma env S = some (.int i, S1)) (h2 : mb env S1 = some (.int j, S2)) (ho : okMul i j = true) : mBin wMul ma mb env S = some (.int (i * j), S2) := by
  refine ev_bin h h2 ?_
  show (if okMul i j = true then some (W.int (i * j), S2) else none) = _
  rw [if_pos ho]
theorem ev_divI (h : ma env S = some (.int i, S1)) (h2 : mb env S1 = some (.int j, S2)) (ho : okDiv j = true) : mBin wFdiv ma mb env S = some (.int (i / j), S2) := by
  refine ev_bin h h2 ?_
  show (if okDiv j = true then some (W.int (i / j), S2) else none) = _
  rw [if_pos ho]
theorem ev_modI (h : ma env S = some (.int i, S1)) (h2 : mb env S1 = some (.int j, S2)) (ho : 0 < j) : mBin wMod ma mb env S = some (.int (i % j), S2) := by
  refine ev_bin h h2 ?_
  show (if decide (0 < j) = true then some (W.int (i % j), S2) else none) = _
  rw [if_pos (decide_eq_true ho)]
theorem ev_powI (h : ma env S = some (.int i, S1)) (h2 : mb env S1 = some (.int j, S2)) (ho : okPow i j = true) : mBin wPow ma mb env S = some (.int (i ^ j.toNat), S2) := by
  refine ev_bin h h2 ?_
  show (if okPow i j = true then some (W.int (i ^ j.toNat), S2) else none) = _
  rw [if_pos ho]
theorem evt_lt (h : ma env S = some (.int i, S1)) (h2 : mb env S1 = some (.int j, S2)) (hk : i < j) : mTest (mBin wLt ma mb) env S = some (true, S2) := ev_test (ev_bin h h2 (by show some (W.bl (decide (i < j)), S2) = _; rw [decide_eq_true hk]))
theorem evf_lt (h : ma env S = some (.int i, S1)) (h2 : mb env S1 = some (.int j, S2)) (hk : ¬ i < j) : mTest (mBin wLt ma mb) env S = some (false, S2) := ev_test (ev_bin h h2 (by show some (W.bl (decide (i < j)), S2) = _; rw [decide_eq_false hk]))
theorem evt_le (h : ma env S = some (.int i, S1)) (h2 : mb env S1 = some (.int j, S2)) (hk : i ≤ j) : mTest (mBin wLe ma mb) env S = some (true, S2) := ev_test (ev_bin h h2 (by show some (W.bl (decide (i ≤ j)), S2) = _; rw [decide_eq_true hk]))
theorem evf_le (h : ma env S = some (.int i, S1)) (h2 : mb env S1 = some (.int j, S2)) (hk : ¬ i ≤ j) : mTest (mBin wLe ma mb) env S = some (false, S2) := ev_test (ev_bin h h2 (by show some (W.bl (decide (i ≤ j)), S2) = _; rw [decide_eq_false hk]))
theorem evt_gt (h : ma env S = some (.int i, S1)) (h2 : mb env S1 = some (.int j, S2)) (hk : j < i) : mTest (mBin wGt ma mb) env S = some (true, S2) := ev_test (ev_bin h h2 (by show some (W.bl (decide (j < i)), S2) = _; rw [decide_eq_true hk]))
theorem evf_gt (h : ma env S = some (.int i, S1)) (h2 : mb env S1 = some (.int j, S2)) (hk : ¬ j < i) : mTest (mBin wGt ma mb) env S = some (false, S2) := ev_test (ev_bin h h2 (by show some (W.bl (decide (j < i)), S2) = _; rw [decide_eq_false hk]))
theorem evt_ge (h : ma env S = some (.int i, S1)) (h2 : mb env S1 = some (.int j, S2)) (hk : j ≤ i) : mTest (mBin wGe ma mb) env S = some (true, S2) := ev_test (ev_bin h h2 (by show some (W.bl (decide (j ≤ i)), S2) = _; rw [decide_eq_true hk]))
theorem evf_ge (h : ma env S = some (.int i, S1)) (h2 : mb env S1 = some (.int j, S2)) (hk : ¬ j ≤ i) : mTest (mBin wGe ma mb) env S = some (false, S2) := ev_test (ev_bin h h2 (by show some (W.bl (decide (j ≤ i)), S2) = _; rw [decide_eq_false hk]))
theorem shaped_int {i : Int} : SeqAt.shaped (.int i) = true := by
  unfold SeqAt.shaped
  rw [PyData.canLay0, PyData.depth]
  rfl
theorem fEq_int : fEq false (.int i) (.int j) S = some (.bl (i == j), S) := by
  show (if (SeqAt.shaped (.int i) && SeqAt.shaped (.int j)) = true then some (W.bl (PyData.eqv (.int i) (.int j)), S) else none) = _
  rw [shaped_int, shaped_int, PyData.eqv]
  rfl
theorem fNe_int : fEq true (.int i) (.int j) S = some (.bl (!(i == j)), S) := by
  show (if (SeqAt.shaped (.int i) && SeqAt.shaped (.int j)) = true then some (W.bl (!PyData.eqv (.int i) (.int j)), S) else none) = _
  rw [shaped_int, shaped_int, PyData.eqv]
  rfl
theorem evt_eq (h : ma env S = some (.int i, S1)) (h2 : mb env S1 = some (.int j, S2)) (hk : i = j) : mTest (mBin (fEq false) ma mb) env S = some (true, S2) := ev_test (ev_bin h h2 (by rw [fEq_int, beq_iff_eq.mpr hk]))
theorem evf_eq (h : ma env S = some (.int i, S1)) (h2 : mb env S1 = some (.int j, S2)) (hk : ¬ i = j) : mTest (mBin (fEq false) ma mb) env S = some (false, S2) := ev_test (ev_bin h h2 (by rw [fEq_int, beq_eq_false_iff_ne.mpr hk]))
/-- an item of a list of the store, of a tuple -/
theorem ev_ixL {l : Nat} (h : ma env S = some (.ref l, S1)) (h2 : mb env S1 = some (.int i, S2)) (hl : getL S2 l = some ws) (hi : atI ws i = some w) : mBin wIx ma mb env S = some (w, S2) := by
  refine ev_bin h h2 ?_
  show (getL S2 l).bind (fun ws => (atI ws i).map fun w => (w, S2)) = _
  rw [hl]
  show (atI ws i).map (fun w => (w, S2)) = _
  rw [hi]
  rfl
theorem ev_ixT (h : ma env S = some (.tup ws, S1)) (h2 : mb env S1 = some (.int i, S2)) (hi : atI ws i = some w) : mBin wIx ma mb env S = some (w, S2) := by
  refine ev_bin h h2 ?_
  show (atI ws i).map (fun w => (w, S2)) = _
  rw [hi]
  rfl
theorem ev_ixF (h : ma env S = some (.fz ws, S1)) (h2 : mb env S1 = some (.int i, S2)) (hi : atI ws i = some w) : mBin wIx ma mb env S = some (w, S2) := by
  refine ev_bin h h2 ?_
  show (atI ws i).map (fun w => (w, S2)) = _
  rw [hi]
  rfl
theorem ev_lenS (h : mes env S = some ([x], S1)) (hs : seqOf S1 x = some ws) : mCall cLen mes env S = some (.int ws.length, S1) := by
  refine ev_call h ?_
  cases x with
  | str s => cases hs
  | tup us => cases hs; rfl
  | fz us => cases hs; rfl
  | ref l =>
    show (seqOf S1 (.ref l)).map (fun us => (W.int us.length, S1)) = _
    rw [hs]
    rfl
  | _ => cases hs
theorem ev_tupOf (h : mes env S = some ([x], S1)) (hs : seqOf S1 x = some ws) : mCall cTuple mes env S = some (.tup ws, S1) := by
  refine ev_call h ?_
  show (seqOf S1 x).map (fun us => (W.tup us, S1)) = _
  rw [hs]
  rfl
theorem ev_max2 (h : mes env S = some ([.int i, .int j], S1)) : mCall cMax mes env S = some (.int (max i j), S1) := ev_call h rfl
theorem ev_min2 (h : mes env S = some ([.int i, .int j], S1)) : mCall cMin mes env S = some (.int (min i j), S1) := ev_call h rfl
theorem ev_abs (h : mes env S = some ([.int i], S1)) : mCall cAbs mes env S = some (.int (if i < 0 then -i else i), S1) := ev_call h rfl
theorem ev_intB {k : Bool} (h : mes env S = some ([.bl k], S1)) : mCall cInt mes env S = some (.int (if k then 1 else 0), S1) := ev_call h rfl
theorem ev_intI (h : mes env S = some ([.int i], S1)) : mCall cInt mes env S = some (.int i, S1) := ev_call h rfl
theorem ev_sum {l : Nat} {ns : List Int} (h : mes env S = some ([.ref l], S1)) (hl : getL S1 l = some (ns.map W.int)) : mCall cSum mes env S = some (.int ns.sum, S1) := by
  refine ev_call h ?_
  show ((getL S1 l).bind intsOf).map (fun ns => (W.int ns.sum, S1)) = _
  rw [hl]
  show (intsOf (ns.map W.int)).map (fun ns => (W.int ns.sum, S1)) = _
  rw [intsOf_map]
  rfl
theorem ev_maxL {l : Nat} {ns : List Int} (h : mes env S = some ([.ref l], S1)) (hl : getL S1 l = some (ns.map W.int)) (hn : ns ≠ []) : mCall cMax mes env S = some (.int (lmax ns), S1) := by
  refine ev_call h ?_
  show ((getL S1 l).bind intsOf).bind (fun ns => if ns.isEmpty then none else some (W.int (lmax ns), S1)) = _
  rw [hl]
  show (intsOf (ns.map W.int)).bind (fun ns => if ns.isEmpty then none else some (W.int (lmax ns), S1)) = _
  rw [intsOf_map]
  show (if ns.isEmpty = true then none else some (W.int (lmax ns), S1)) = _
  rw [if_neg (by cases ns with
    | nil => exact absurd rfl hn
    | cons a b => simp)]
theorem ev_minL {l : Nat} {ns : List Int} (h : mes env S = some ([.ref l], S1)) (hl : getL S1 l = some (ns.map W.int)) (hn : ns ≠ []) : mCall cMin mes env S = some (.int (lmin ns), S1) := by
  refine ev_call h ?_
  show ((getL S1 l).bind intsOf).bind (fun ns => if ns.isEmpty then none else some (W.int (lmin ns), S1)) = _
  rw [hl]
  show (intsOf (ns.map W.int)).bind (fun ns => if ns.isEmpty then none else some (W.int (lmin ns), S1)) = _
  rw [intsOf_map]
  show (if ns.isEmpty = true then none else some (W.int (lmin ns), S1)) = _
  rw [if_neg (by cases ns with
    | nil => exact absurd rfl hn
    | cons a b => simp)]
theorem ev_allL {l : Nat} {bs : List Bool} (h : mes env S = some ([.ref l], S1)) (hl : getL S1 l = some (bs.map W.bl)) : mCall cAll mes env S = some (.bl (bs.all id), S1) := by
  refine ev_call h ?_
  show ((getL S1 l).bind boolsOf).map (fun ns => (W.bl (ns.all id), S1)) = _
  rw [hl]
  show (boolsOf (bs.map W.bl)).map (fun ns => (W.bl (ns.all id), S1)) = _
  rw [boolsOf_map]
  rfl
theorem ev_append {l : Nat} (h : ma env S = some (.ref l, S1)) (h2 : mes env S1 = some ([y], S2)) (hl1 : (getL S1 l).isSome = true) (hl : getL S2 l = some ws) (hz : szOk (ws.length + 1) = true) : mMeth lAppend ma mes env S = some (.non, S2.set l (.lst (ws ++ [y]))) := by
  refine ev_meth h hl1 h2 ?_
  show (getL S2 l).bind (fun us => if szOk (us.length + 1) then some (W.non, S2.set l (.lst (us ++ [y]))) else none) = _
  rw [hl]
  show (if szOk (ws.length + 1) = true then some (W.non, S2.set l (.lst (ws ++ [y]))) else none) = _
  rw [if_pos hz]
theorem ev_catT {a b : List W} (h : ma env S = some (.tup a, S1)) (h2 : mb env S1 = some (.tup b, S2)) (hz : szOk (a.length + b.length) = true) : mBin wAdd ma mb env S = some (.tup (a ++ b), S2) := by
  refine ev_bin h h2 ?_
  show (if szOk (a.length + b.length) = true then some (W.tup (a ++ b), S2) else none) = _
  rw [if_pos hz]
theorem ev_catL {a b : Nat} (h : ma env S = some (.ref a, S1)) (h2 : mb env S1 = some (.ref b, S2)) (ha : getL S2 a = some ws) (hb : getL S2 b = some us) (hz : szOk (ws.length + us.length) = true) : mBin wAdd ma mb env S = some (.ref S2.length, S2 ++ [.lst (ws ++ us)]) := by
  refine ev_bin h h2 ?_
  show (getL S2 a).bind (fun ws => (getL S2 b).bind fun us => if szOk (ws.length + us.length) then newL (ws ++ us) S2 else none) = _
  rw [ha, hb]
  show (if szOk (ws.length + us.length) = true then newL (ws ++ us) S2 else none) = _
  rw [if_pos hz]
  rfl
end
/-- a comprehension by an invariant -/
theorem ev_lc_inv {env : WEnv} {S S1 : Store} {mi : WI} {s : Src} {tg : Tg} {el : WE} {vs : List Nat} {P : Nat → List W → Store → Prop} (h : mi env S = some (s, S1)) (h0 : P 0 [] S1)
    (hs : ∀ i acc σ, i < s.n → P i acc σ → ∃ w e1 v σ2, s.item i σ = some w ∧ tg.asg w (wipeE env vs) = some e1 ∧ el e1 σ = some (v, σ2) ∧ P (i + 1) (acc ++ [v]) σ2) (hd : ∀ acc σ, P s.n acc σ → s.stop σ = true) (hz : szOk s.n = true) :
    ∃ acc σ, mLc mi tg tYesW el vs env S = some (.ref σ.length, σ ++ [.lst acc]) ∧ acc.length = s.n ∧ P s.n acc σ := by
  have go : ∀ k i acc σ, k + i = s.n → acc.length = i → P i acc σ → ∃ more σ2, lcF s tg tYesW el (wipeE env vs) k i σ = some (more, σ2) ∧ (acc ++ more).length = s.n ∧ P s.n (acc ++ more) σ2 := by
    intro k
    induction k with
    | zero =>
      intro i acc σ hi hl hp
      have e : i = s.n := by omega
      subst e
      exact ⟨[], σ, by rw [lcF, if_pos (hd acc σ hp)], by rw [List.append_nil]; exact hl, by rw [List.append_nil]; exact hp⟩
    | succ k ih =>
      intro i acc σ hi hl hp
      obtain ⟨w, e1, v, σ2, a1, a2, a3, a4⟩ := hs i acc σ (by omega) hp
      obtain ⟨more, σ3, b1, b2, b3⟩ := ih (i + 1) (acc ++ [v]) σ2 (by omega) (by rw [List.length_append, List.length_singleton, hl]) a4
      rw [List.append_assoc, List.singleton_append] at b2 b3
      refine ⟨v :: more, σ3, ?_, b2, b3⟩
      rw [lcF, a1]
      show (tg.asg w (wipeE env vs)).bind _ = _
      rw [a2]
      show (el e1 σ).bind (fun v => (lcF s tg tYesW el (wipeE env vs) k (i + 1) v.2).map fun r => (v.1 :: r.1, r.2)) = _
      rw [a3]
      show (lcF s tg tYesW el (wipeE env vs) k (i + 1) σ2).map (fun r => (v :: r.1, r.2)) = _
      rw [b1]
      rfl
  obtain ⟨more, σ2, b1, b2, b3⟩ := go s.n 0 [] S1 rfl rfl h0
  rw [List.nil_append] at b2 b3
  refine ⟨more, σ2, ?_, b2, b3⟩
  rw [mLc, h]
  show (lcF s tg tYesW el (wipeE env vs) s.n 0 S1).bind (fun r => if szOk r.1.length then newL r.1 r.2 else none) = _
  rw [b1]
  show (if szOk more.length = true then newL more σ2 else none) = _
  rw [if_pos (by rw [b2]; exact hz)]
  rfl
theorem okRng_of {i : Int} (h1 : -2 ^ 62 ≤ i) (h2 : i < 2 ^ 62) : okRng i = true := by
  simp only [okRng, Bool.and_eq_true, decide_eq_true_eq]
  omega
theorem atI_in {ws : List W} {r : Int} (h0 : 0 ≤ r) (h : r < (ws.length : Int)) : ∃ w, atI ws r = some w ∧ w ∈ ws := by
  have hn : r.toNat < ws.length := by omega
  have e : r = ((r.toNat : Nat) : Int) := by omega
  refine ⟨ws[r.toNat], ?_, List.getElem_mem hn⟩
  have q : atI ws ((r.toNat : Nat) : Int) = some ws[r.toNat] := atI_nat (List.getElem?_eq_getElem hn)
  rw [← e] at q
  exact q
/-! ### stores that grow -/
/-- all but what stands at p stays -/
structure Grow (p : Nat → Prop) (S S' : Store) : Prop where
  len : S.length ≤ S'.length
  at_ : ∀ i, i < S.length → ¬ p i → S'[i]? = S[i]?
theorem Grow.refl (p : Nat → Prop) (S : Store) : Grow p S S := ⟨Nat.le_refl _, fun _ _ _ => rfl⟩
theorem Grow.trans {p : Nat → Prop} {S S1 S2 : Store} (a : Grow p S S1) (b : Grow p S1 S2) : Grow p S S2 := ⟨Nat.le_trans a.len b.len, fun i h n => (b.at_ i (Nat.lt_of_lt_of_le h a.len) n).trans (a.at_ i h n)⟩
theorem Grow.push {p : Nat → Prop} {S : Store} (S2 : Store) : Grow p S (S ++ S2) := ⟨by rw [List.length_append]; omega, fun i h _ => List.getElem?_append_left h⟩
theorem Grow.set {p : Nat → Prop} {S : Store} {i : Nat} {m : MO} (h : p i) : Grow p S (S.set i m) := ⟨by rw [List.length_set]; exact Nat.le_refl _, fun j hj hn => by
  rw [List.getElem?_set_ne]
  intro e
  exact hn (e ▸ h)⟩
theorem Grow.getL {p : Nat → Prop} {S S' : Store} {i : Nat} {ws : List W} (g : Grow p S S') (h : getL S i = some ws) (hn : ¬ p i) : L2.Aw.getL S' i = some ws := by
  have e := getL_some h
  have hi := (List.getElem?_eq_some_iff.mp e).1
  unfold L2.Aw.getL
  rw [g.at_ i hi hn, e]
theorem Grow.mono {p q : Nat → Prop} {S S' : Store} (g : Grow p S S') (h : ∀ i, i < S.length → p i → q i) : Grow q S S' := ⟨g.len, fun i hi hn => g.at_ i hi fun hp => hn (h i hi hp)⟩
/-! ### the pot of draws -/
/-- the pot at p, from which at most k numbers were mixed -/
def Pot (p : Nat) (S : Store) (k : Nat) : Prop := ∃ a b c : Int, getL S p = some [.int a, .int b, .int c] ∧ 0 ≤ a ∧ 0 ≤ b ∧ b < 2305843009213693921 ∧ 0 ≤ c ∧ c ≤ (k : Int)
theorem Pot.mono {p : Nat} {S : Store} {k j : Nat} (h : Pot p S k) (hj : k ≤ j) : Pot p S j := by
  obtain ⟨a, b, c, h1, h2, h3, h4, h5, h6⟩ := h
  exact ⟨a, b, c, h1, h2, h3, h4, h5, by omega⟩
theorem Pot.grow {p : Nat} {S S' : Store} {k : Nat} {q : Nat → Prop} (h : Pot p S k) (g : Grow q S S') (hn : ¬ q p) : Pot p S' k := by
  obtain ⟨a, b, c, h1, h2⟩ := h
  exact ⟨a, b, c, g.getL h1 hn, h2⟩
theorem Pot.lt {p : Nat} {S : Store} {k : Nat} (h : Pot p S k) : p < S.length := by
  obtain ⟨a, b, c, h1, _⟩ := h
  exact (List.getElem?_eq_some_iff.mp (getL_some h1)).1
/-- a draw that costs at most k leaves the pot and all else -/
structure Drew (p : Nat) (S S' : Store) (k j : Nat) : Prop where
  pot : Pot p S' j
  gr : Grow (· = p) S S'
theorem Drew.refl {p k : Nat} {S : Store} (h : Pot p S k) : Drew p S S k k := ⟨h, Grow.refl _ _⟩
theorem Drew.trans {p i j k : Nat} {S S1 S2 : Store} (a : Drew p S S1 i j) (b : Drew p S1 S2 j k) : Drew p S S2 i k := ⟨b.pot, a.gr.trans b.gr⟩
theorem Drew.mono {p i j k : Nat} {S S1 : Store} (a : Drew p S S1 i j) (h : j ≤ k) : Drew p S S1 i k := ⟨a.pot.mono h, a.gr⟩
theorem Drew.push {p i j : Nat} {S S1 : Store} (a : Drew p S S1 i j) (S2 : Store) : Drew p S (S1 ++ S2) i j := ⟨a.pot.grow (q := fun _ => False) (Grow.push _) id, a.gr.trans (Grow.push _)⟩
theorem Drew.of_push {p k : Nat} {S : Store} (h : Pot p S k) (S2 : Store) : Drew p S (S ++ S2) k k := (Drew.refl h).push S2
theorem getL_set {S : Store} {i : Nat} {ws : List W} (h : i < S.length) : getL (S.set i (.lst ws)) i = some ws := by
  unfold getL
  rw [List.getElem?_set_self h]
theorem okPow_of {i j : Int} (h1 : 0 ≤ j) (h2 : j ≤ 100) (h3 : -10 ^ 100 < i) (h4 : i < 10 ^ 100) : okPow i j = true := by
  have := big_lt
  simp only [okPow, Bool.and_eq_true, decide_eq_true_eq]
  omega
end L2.Aw

/-! Drawn programs. -/
namespace L2.Aw
open PySem PySem.Spec PyProof.Rows
def lawWords : List Wd := [.str "a", .str "b", .str "c", .str "d", .str "x", .str "aa", .str "log", .str "zzzzzzzz"]
theorem lawWords_ok : ∀ x ∈ lawWords, wdOk x = true := by
  have h : lawWords.all wdOk = true := by decide +kernel
  exact List.all_eq_true.mp h
/-! a program without loops, as the laws draw them -/
mutual
def PlainT : Tree → Prop
  | .log x => x ∈ lawWords
  | .await n => 1 ≤ n ∧ n ≤ 3
  | .seq ps => PlainTs ps
  | .fork p => PlainT p
  | .join ps => PlainTs ps ∧ ps ≠ []
  | .race ps => PlainTs ps ∧ ps ≠ []
  | .loop _ _ => False
def PlainTs : List Tree → Prop
  | [] => True
  | t :: ts => PlainT t ∧ PlainTs ts
end
mutual
def nodes : Tree → Nat
  | .log _ => 1
  | .await _ => 1
  | .seq ps => nodess ps + 1
  | .fork p => nodes p + 1
  | .join ps => nodess ps + 1
  | .race ps => nodess ps + 1
  | .loop _ b => nodes b + 1
def nodess : List Tree → Nat
  | [] => 0
  | t :: ts => nodes t + nodess ts
end
theorem PlainTs.mem {t : Tree} : ∀ {ts : List Tree}, PlainTs ts → t ∈ ts → PlainT t
  | u :: us, h, hm => by
    rw [PlainTs] at h
    rcases List.mem_cons.mp hm with e | e
    · rw [e]; exact h.1
    · exact PlainTs.mem h.2 e
theorem PlainTs.of {ts : List Tree} (h : ∀ t ∈ ts, PlainT t) : PlainTs ts := by
  induction ts with
  | nil => trivial
  | cons t ts ih => exact ⟨h t List.mem_cons_self, ih fun u hu => h u (List.mem_cons_of_mem _ hu)⟩
theorem nodes_pos : ∀ t : Tree, 1 ≤ nodes t := by
  intro t
  cases t <;> rw [nodes] <;> omega
theorem nodes_le {t : Tree} : ∀ {ts : List Tree}, t ∈ ts → nodes t ≤ nodess ts
  | u :: us, h => by
    rw [nodess]
    rcases List.mem_cons.mp h with e | e
    · rw [e]; omega
    · have := nodes_le e; omega
theorem length_nodess : ∀ ts : List Tree, ts.length ≤ nodess ts
  | [] => Nat.le_refl _
  | t :: ts => by
    rw [nodess, List.length_cons]
    have := length_nodess ts
    have := nodes_pos t
    omega
theorem nodess_bound {c : Nat} : ∀ {ts : List Tree}, (∀ t ∈ ts, nodes t ≤ c) → nodess ts ≤ c * ts.length
  | [], _ => Nat.zero_le _
  | t :: ts, h => by
    rw [nodess, List.length_cons, Nat.mul_succ]
    have h1 := h t List.mem_cons_self
    have h2 := nodess_bound (ts := ts) fun u hu => h u (List.mem_cons_of_mem _ hu)
    omega
theorem deps_bound {c : Nat} : ∀ {ts : List Tree}, (∀ t ∈ ts, dep t ≤ c) → deps ts ≤ c
  | [], _ => Nat.zero_le _
  | t :: ts, h => by
    rw [deps]
    have h1 := h t List.mem_cons_self
    have h2 := deps_bound (ts := ts) fun u hu => h u (List.mem_cons_of_mem _ hu)
    omega
/-- from values back to trees -/
theorem encs_of {P : Tree → Prop} : ∀ {ws : List W}, (∀ w ∈ ws, ∃ t, w = enc t ∧ P t) → ∃ ts, ws = encs ts ∧ ∀ t ∈ ts, P t
  | [], _ => ⟨[], by rw [encs], fun t h => nomatch h⟩
  | w :: ws, h => by
    obtain ⟨t, e, hp⟩ := h w List.mem_cons_self
    obtain ⟨ts, e2, hps⟩ := encs_of (ws := ws) fun u hu => h u (List.mem_cons_of_mem _ hu)
    refine ⟨t :: ts, by rw [encs, e, e2], fun u hu => ?_⟩
    rcases List.mem_cons.mp hu with z | z
    · rw [z]; exact hp
    · exact hps u z
theorem encs_length (ts : List Tree) : (encs ts).length = ts.length := by rw [encs_map, List.length_map]
/-- a drawn body -/
def BodyT (b : Tree) : Prop := (PlainT b ∧ nodes b ≤ 6 ∧ dep b ≤ 3 ∧ 1 ≤ fin b ∧ fin b ≤ 6) ∨ (∃ (f : Tree) (m : Int), b = .seq [f, .await m] ∧ PlainT f ∧ nodes f ≤ 6 ∧ dep f ≤ 3 ∧ fin f = 0 ∧ 1 ≤ m ∧ m ≤ 6) ∨ b = .seq [.log (.str "x"), .await 6]
/-- [f(part) for part in parts] -/
theorem ev_kids {env : WEnv} {S S1 : Store} {m el : WE} {j : Nat} {vs : List Nat} {ps : List Tree} {g : Tree → W} (h : m env S = some (.tup (encs ps), S1)) (hz : ps.length ≤ 16777216) (hs : ∀ p ∈ ps, el ((wipeE env vs).set j (some (enc p))) S1 = some (g p, S1)) :
    mLc (iSeq m) (.nm j) tYesW el vs env S = some (.ref S1.length, S1 ++ [.lst (ps.map g)]) := by
  have b := ev_lcT (us := encs ps) (mi := iSeq m) (el := el) (j := j) (vs := vs) (env := env) (S := S) (g := fun w => match el ((wipeE env vs).set j (some w)) S1 with | some p => p.1 | none => .non) (ev_seqT h) (fun w hw => by
    rw [encs_map] at hw
    obtain ⟨p, hp, e⟩ := List.mem_map.mp hw
    subst e
    rw [hs p hp]) (szOk_of (by rw [encs_length]; exact hz))
  rw [b]
  congr 5
  rw [encs_map, List.map_map]
  refine List.map_congr_left fun p hp => ?_
  show (match el ((wipeE env vs).set j (some (enc p))) S1 with | some p => p.1 | none => .non) = g p
  rw [hs p hp]
theorem fins_ints (ps : List Tree) : ps.map (fun p => W.int (fin p)) = (fins ps).map W.int := by
  rw [fins_map, List.map_map]; rfl
theorem fins_ne {ps : List Tree} (h : ps ≠ []) : fins ps ≠ [] := by
  cases ps with
  | nil => exact absurd rfl h
  | cons p ps => rw [fins]; simp
theorem mem_fins {x : Int} {ps : List Tree} (h : x ∈ fins ps) : ∃ p ∈ ps, x = fin p := by
  rw [fins_map] at h
  obtain ⟨p, hp, e⟩ := List.mem_map.mp h
  exact ⟨p, hp, e.symm⟩
theorem fin_mem {p : Tree} {ps : List Tree} (h : p ∈ ps) : fin p ∈ fins ps := by
  rw [fins_map]
  exact List.mem_map.mpr ⟨p, h, rfl⟩
theorem sum_bound {f : Tree → Int} {g : Tree → Nat} {c : Nat} : ∀ {ps : List Tree}, (∀ p ∈ ps, 0 ≤ f p ∧ f p ≤ c * g p) → 0 ≤ (ps.map f).sum ∧ (ps.map f).sum ≤ c * (ps.map g).sum
  | [], _ => by simp
  | p :: ps, h => by
    have h1 := h p List.mem_cons_self
    have h2 := sum_bound (ps := ps) fun q hq => h q (List.mem_cons_of_mem _ hq)
    rw [List.map_cons, List.map_cons, List.sum_cons, List.sum_cons]
    rw [Int.natCast_add, Int.mul_add]
    omega
theorem nodess_sum : ∀ ps : List Tree, nodess ps = (ps.map nodes).sum
  | [] => by rw [nodess]; rfl
  | p :: ps => by rw [nodess, nodess_sum ps]; rfl
theorem fin_plain : ∀ t, PlainT t → 0 ≤ fin t ∧ fin t ≤ 3 * nodes t := by
  intro t
  refine Tree.ind (P := fun t => PlainT t → 0 ≤ fin t ∧ fin t ≤ 3 * nodes t) ?_ ?_ ?_ ?_ ?_ ?_ ?_ t
  · intro w _; rw [fin, nodes]; omega
  · intro n h
    rw [PlainT] at h
    rw [fin, nodes]; omega
  · intro ps ih h
    rw [PlainT] at h
    have b := sum_bound (f := fin) (g := nodes) (c := 3) fun p hp => ih p hp (h.mem hp)
    rw [← fins_map, ← nodess_sum] at b
    rw [fin, nodes]
    omega
  · intro p ih h; rw [fin, nodes]; omega
  · intro ps ih h
    rw [PlainT] at h
    rw [fin, nodes]
    obtain ⟨p, hp, e⟩ := mem_fins (lmax_mem (fins_ne h.2))
    have := ih p hp (h.1.mem hp)
    have := nodes_le hp
    omega
  · intro ps ih h
    rw [PlainT] at h
    rw [fin, nodes]
    obtain ⟨p, hp, e⟩ := mem_fins (lmin_mem (fins_ne h.2))
    have := ih p hp (h.1.mem hp)
    have := nodes_le hp
    omega
  · intro c b ih h
    rw [PlainT] at h
    exact h.elim
theorem PlainT.ok : ∀ t, PlainT t → nodes t ≤ 1000 → Ok t := by
  intro t
  refine Tree.ind (P := fun t => PlainT t → nodes t ≤ 1000 → Ok t) ?_ ?_ ?_ ?_ ?_ ?_ ?_ t
  · intro w h _
    rw [PlainT] at h
    rw [Ok]
    exact lawWords_ok w h
  · intro n h _
    rw [PlainT] at h
    rw [Ok]
    omega
  · intro ps ih h hn
    rw [PlainT] at h
    rw [nodes] at hn
    rw [Ok]
    have := length_nodess ps
    exact ⟨Oks.of fun p hp => ih p hp (h.mem hp) (by have := nodes_le hp; omega), by omega⟩
  · intro p ih h hn
    rw [PlainT] at h
    rw [nodes] at hn
    rw [Ok]
    exact ih h (by omega)
  · intro ps ih h hn
    rw [PlainT] at h
    rw [nodes] at hn
    rw [Ok]
    have := length_nodess ps
    exact ⟨Oks.of fun p hp => ih p hp (h.1.mem hp) (by have := nodes_le hp; omega), by omega, h.2⟩
  · intro ps ih h hn
    rw [PlainT] at h
    rw [nodes] at hn
    rw [Ok]
    have := length_nodess ps
    exact ⟨Oks.of fun p hp => ih p hp (h.1.mem hp) (by have := nodes_le hp; omega), by omega, h.2⟩
  · intro c b ih h
    rw [PlainT] at h
    exact h.elim
theorem ev_pairs {mk mv : WE} {r : List (WE × WE)} {env : WEnv} {S S1 S2 S3 : Store} {k v : W} {kk : Key} {l : List (Key × W)} (h : mk env S = some (k, S1)) (h2 : mv env S1 = some (v, S2)) (hk : wKey k = some kk) (h3 : pairsW r env S2 = some (l, S3)) : pairsW ((mk, mv) :: r) env S = some ((kk, v) :: l, S3) := by
  rw [pairsW, h]
  show (mv env S1).bind (fun v => (wKey k).bind fun kk => (pairsW r env v.2).map fun t => ((kk, v.1) :: t.1, t.2)) = _
  rw [h2]
  show (wKey k).bind (fun kk => (pairsW r env S2).map fun t => ((kk, v) :: t.1, t.2)) = _
  rw [hk]
  show (pairsW r env S2).map (fun t => ((kk, v) :: t.1, t.2)) = _
  rw [h3]
  rfl
theorem ev_disp {prs : List (WE × WE)} {env : WEnv} {S S1 : Store} {l : List (Key × W)} (h : pairsW prs env S = some (l, S1)) (hl : l.length ≤ 15) : mDisp prs env S = some (.ref S1.length, S1 ++ [.dK (mergeW [] l)]) := by
  rw [mDisp, h]
  show (if decide (l.length ≤ 15) = true then some (W.ref S1.length, S1 ++ [MO.dK (mergeW [] l)]) else none) = _
  rw [if_pos (decide_eq_true hl)]
theorem ev_dget {mo mi : WE} {env : WEnv} {S S1 S2 : Store} {i : Nat} {k w : W} {kk : Key} {kvs : List (Key × W)} (h : mo env S = some (.ref i, S1)) (h2 : mi env S1 = some (k, S2)) (hd : S2[i]? = some (.dK kvs)) (hk : wKey k = some kk) (hw : valW kvs kk = some w) : mDGet mo mi env S = some (w, S2) := by
  rw [mDGet, h]
  show (mi env S1).bind (fun k => match dGet k.2 (.ref i) k.1 with
    | some (some w) => some (w, k.2)
    | _ => none) = _
  rw [h2]
  have e : dGet S2 (.ref i) k = some (some w) := by
    show (match S2[i]? with
    | some (.dK kvs) => (wKey k).map fun k => valW kvs k
    | some (.dT kvs) => (wKeyT k).map fun k => valW kvs k
    | _ => none) = _
    rw [hd]
    show (wKey k).map (fun k => valW kvs k) = _
    rw [hk]
    show some (valW kvs kk) = _
    rw [hw]
  show (match dGet S2 (.ref i) k with
    | some (some w) => some (w, S2)
    | _ => none) = _
  rw [e]
theorem getD_new {S : Store} {m : MO} : (S ++ [m])[S.length]? = some m := by
  rw [List.getElem?_append_right (Nat.le_refl _), Nat.sub_self]
  rfl
end L2.Aw

/-! What a program logs in a round. -/
namespace L2.Aw
open PySem PySem.Spec PyProof.Rows
abbrev Sd := List Wd × List Wd
def glue (a b : Sd) : Sd := (a.1 ++ b.1, b.2 ++ a.2)
def shut (k : Prop) [Decidable k] (a : Sd) : Sd := if k then a else (a.1 ++ a.2, [])
def glueR (f : Nat → Sd) : Nat → Sd
  | 0 => ([], [])
  | n + 1 => glue (glueR f n) (f n)
def besF (key : Nat) : Nat → Sd → List Sd → Sd
  | _, acc, [] => acc
  | i, acc, s :: ss => besF key (i + 1) (if i < key then (acc.1 ++ (s.1 ++ s.2), acc.2) else if i = key then (acc.1 ++ s.1, s.2) else (acc.1, acc.2 ++ (s.1 ++ s.2))) ss
def keyR (ns : List Int) : Nat := (ns.findIdx? fun z => z == lmin ns).getD 0
def keyJ (ns : List Int) : Nat := ns.length - 1 - (ns.reverse.findIdx? fun z => z == lmax ns).getD 0
mutual
def sides : Tree → Int → Sd
  | .log w, a => if a = 0 then ([w], []) else ([], [])
  | .await _, _ => ([], [])
  | .seq ps, a => shut ((fins ps).sum ≤ a) (bag ps a)
  | .fork p, a => ((sides p a).1 ++ (sides p a).2, [])
  | .join ps, a => shut (lmax (fins ps) ≤ a) (besF (keyJ (fins ps)) 0 ([], []) (sidesL ps a))
  | .race ps, a => shut (lmin (fins ps) ≤ a) (besF (keyR (fins ps)) 0 ([], []) (sidesL ps a))
  | .loop c b, a => shut (c * fin b ≤ a) (glueR (fun i => sides b (a - i * fin b)) c.toNat)
def bag : List Tree → Int → Sd
  | [], _ => ([], [])
  | p :: ps, a => glue (sides p a) (bag ps (a - fin p))
def sidesL : List Tree → Int → List Sd
  | [], _ => []
  | p :: ps, a => sides p a :: sidesL ps a
end
theorem sidesL_map (a : Int) : ∀ ps, sidesL ps a = ps.map fun p => sides p a
  | [] => by rw [sidesL]; rfl
  | p :: ps => by rw [sidesL, sidesL_map a ps]; rfl
theorem glue_nil (a : Sd) : glue a ([], []) = a := by
  show (a.1 ++ [], [] ++ a.2) = a
  rw [List.append_nil, List.nil_append]
theorem nil_glue (a : Sd) : glue ([], []) a = a := by
  show ([] ++ a.1, a.2 ++ []) = a
  rw [List.append_nil, List.nil_append]
theorem glue_assoc (a b c : Sd) : glue (glue a b) c = glue a (glue b c) := by
  show (a.1 ++ b.1 ++ c.1, c.2 ++ (b.2 ++ a.2)) = (a.1 ++ (b.1 ++ c.1), c.2 ++ b.2 ++ a.2)
  rw [List.append_assoc, List.append_assoc]
theorem shut_t {k : Prop} [Decidable k] {a : Sd} (h : k) : shut k a = a := if_pos h
theorem shut_f {k : Prop} [Decidable k] {a : Sd} (h : ¬ k) : shut k a = (a.1 ++ a.2, []) := if_neg h
theorem shut_nil {k : Prop} [Decidable k] : shut k ([], []) = ([], []) := by
  unfold shut
  split <;> rfl
theorem besF_nil (key : Nat) : ∀ (ss : List Sd) (i : Nat), (∀ s ∈ ss, s = ([], [])) → besF key i ([], []) ss = ([], [])
  | [], _, _ => rfl
  | s :: ss, i, h => by
    rw [besF, h s List.mem_cons_self]
    have e : (if i < key then (([], []) : Sd).1 ++ ((([], []) : Sd).1 ++ (([], []) : Sd).2) else if i = key then (([], []) : Sd).1 ++ (([], []) : Sd).1 else (([], []) : Sd).1) = [] := by split <;> (try split) <;> rfl
    have e2 : (if i < key then (((([], []) : Sd).1 ++ ((([], []) : Sd).1 ++ (([], []) : Sd).2), (([], []) : Sd).2) : Sd) else if i = key then ((([], []) : Sd).1 ++ (([], []) : Sd).1, (([], []) : Sd).2) else ((([], []) : Sd).1, (([], []) : Sd).2 ++ ((([], []) : Sd).1 ++ (([], []) : Sd).2))) = ([], []) := by split <;> (try split) <;> rfl
    rw [e2]
    exact besF_nil key ss (i + 1) fun u hu => h u (List.mem_cons_of_mem _ hu)
theorem glueR_nil {f : Nat → Sd} : ∀ {n : Nat}, (∀ i, i < n → f i = ([], [])) → glueR f n = ([], [])
  | 0, _ => rfl
  | n + 1, h => by
    rw [glueR, glueR_nil fun i hi => h i (by omega), h n (by omega)]
    rfl
theorem glueR_add {f : Nat → Sd} (m : Nat) : ∀ n, glueR f (m + n) = glue (glueR f m) (glueR (fun i => f (m + i)) n)
  | 0 => (glue_nil _).symm
  | n + 1 => by
    rw [← Nat.add_assoc, glueR, glueR_add m n, glue_assoc]
    rfl
theorem glueR_congr {f g : Nat → Sd} : ∀ {n : Nat}, (∀ i, i < n → f i = g i) → glueR f n = glueR g n
  | 0, _ => rfl
  | n + 1, h => by rw [glueR, glueR, glueR_congr fun i hi => h i (by omega), h n (by omega)]
/-! nothing is logged ahead of round 0 -/
theorem fin_nonneg : ∀ t, Ok t → 0 ≤ fin t := by
  intro t
  refine Tree.ind (P := fun t => Ok t → 0 ≤ fin t) ?_ ?_ ?_ ?_ ?_ ?_ ?_ t
  · intro w _; rw [fin]; omega
  · intro n h; rw [Ok] at h; rw [fin]; omega
  · intro ps ih h
    rw [Ok] at h
    rw [fin, fins_map]
    have : ∀ ps : List Tree, (∀ p ∈ ps, 0 ≤ fin p) → 0 ≤ (ps.map fin).sum := by
      intro ps
      induction ps with
      | nil => intro _; exact Int.le_refl _
      | cons p ps ih =>
        intro h
        rw [List.map_cons, List.sum_cons]
        have := h p List.mem_cons_self
        have := ih fun q hq => h q (List.mem_cons_of_mem _ hq)
        omega
    exact this ps fun p hp => ih p hp (h.1.mem hp)
  · intro p _ _; rw [fin]; omega
  · intro ps ih h
    rw [Ok] at h
    rw [fin]
    obtain ⟨p, hp, e⟩ := mem_fins (lmax_mem (fins_ne h.2.2))
    rw [e]; exact ih p hp (h.1.mem hp)
  · intro ps ih h
    rw [Ok] at h
    rw [fin]
    obtain ⟨p, hp, e⟩ := mem_fins (lmin_mem (fins_ne h.2.2))
    rw [e]; exact ih p hp (h.1.mem hp)
  · intro c b ih h
    rw [Ok] at h
    rw [fin]
    exact Int.mul_nonneg h.2.1 (ih h.1)
theorem bag_nil_of : ∀ (ps : List Tree) (a : Int), (∀ p ∈ ps, 0 ≤ fin p ∧ ∀ b, b < 0 → sides p b = ([], [])) → a < 0 → bag ps a = ([], [])
  | [], _, _, _ => by rw [bag]
  | p :: ps, a, h, ha => by
    have h1 := h p List.mem_cons_self
    rw [bag, h1.2 a ha, bag_nil_of ps (a - fin p) (fun q hq => h q (List.mem_cons_of_mem _ hq)) (by omega)]
    rfl
theorem sides_neg : ∀ t, Ok t → ∀ a, a < 0 → sides t a = ([], []) := by
  intro t
  refine Tree.ind (P := fun t => Ok t → ∀ a, a < 0 → sides t a = ([], [])) ?_ ?_ ?_ ?_ ?_ ?_ ?_ t
  · intro w _ a h; rw [sides, if_neg (by omega)]
  · intro n _ a h; rw [sides]
  · intro ps ih h a ha
    rw [Ok] at h
    rw [sides, bag_nil_of ps a (fun p hp => ⟨fin_nonneg p (h.1.mem hp), ih p hp (h.1.mem hp)⟩) ha, shut_nil]
  · intro p ih h a ha
    rw [Ok] at h
    rw [sides, ih h a ha]; rfl
  · intro ps ih h a ha
    rw [Ok] at h
    rw [sides, besF_nil, shut_nil]
    intro s hs
    rw [sidesL_map] at hs
    obtain ⟨p, hp, e⟩ := List.mem_map.mp hs
    rw [← e]; exact ih p hp (h.1.mem hp) a ha
  · intro ps ih h a ha
    rw [Ok] at h
    rw [sides, besF_nil, shut_nil]
    intro s hs
    rw [sidesL_map] at hs
    obtain ⟨p, hp, e⟩ := List.mem_map.mp hs
    rw [← e]; exact ih p hp (h.1.mem hp) a ha
  · intro c b ih h a ha
    rw [Ok] at h
    rw [sides, glueR_nil, shut_nil]
    intro i _
    have : 0 ≤ (i : Int) * fin b := Int.mul_nonneg (by omega) (by omega)
    exact ih h.1 _ (by omega)
theorem bag_neg {ps : List Tree} (h : Oks ps) {a : Int} (ha : a < 0) : bag ps a = ([], []) :=
  bag_nil_of ps a (fun p hp => ⟨fin_nonneg p (h.mem hp), sides_neg p (h.mem hp)⟩) ha
/-! a program without loops logs nothing behind all its awaits -/
mutual
def tot : Tree → Int
  | .log _ => 0
  | .await n => n
  | .seq ps => tots ps
  | .fork p => tot p
  | .join ps => tots ps
  | .race ps => tots ps
  | .loop _ _ => 0
def tots : List Tree → Int
  | [] => 0
  | t :: ts => tot t + tots ts
def Flat : Tree → Prop
  | .log _ => True
  | .await n => 0 ≤ n
  | .seq ps => Flats ps
  | .fork p => Flat p
  | .join ps => Flats ps ∧ ps ≠ []
  | .race ps => Flats ps ∧ ps ≠ []
  | .loop _ _ => False
def Flats : List Tree → Prop
  | [] => True
  | t :: ts => Flat t ∧ Flats ts
end
theorem Flats.mem {t : Tree} : ∀ {ts : List Tree}, Flats ts → t ∈ ts → Flat t
  | u :: us, h, hm => by
    rw [Flats] at h
    rcases List.mem_cons.mp hm with e | e
    · rw [e]; exact h.1
    · exact Flats.mem h.2 e
theorem Flats.of {ts : List Tree} (h : ∀ t ∈ ts, Flat t) : Flats ts := by
  induction ts with
  | nil => trivial
  | cons t ts ih => exact ⟨h t List.mem_cons_self, ih fun u hu => h u (List.mem_cons_of_mem _ hu)⟩
theorem tots_le {t : Tree} : ∀ {ts : List Tree}, (∀ u ∈ ts, 0 ≤ tot u) → t ∈ ts → 0 ≤ tots ts ∧ tot t ≤ tots ts
  | u :: us, h, hm => by
    rw [tots]
    have h1 := h u List.mem_cons_self
    have h2 : 0 ≤ tots us := by
      cases us with
      | nil => rw [tots]; exact Int.le_refl _
      | cons v vs => exact (tots_le (t := v) (fun w hw => h w (List.mem_cons_of_mem _ hw)) List.mem_cons_self).1
    rcases List.mem_cons.mp hm with e | e
    · rw [e]; omega
    · have := tots_le (fun w hw => h w (List.mem_cons_of_mem _ hw)) e; omega
theorem flat_quiet : ∀ t, Flat t → 0 ≤ fin t ∧ fin t ≤ tot t ∧ ∀ a, tot t < a → sides t a = ([], []) := by
  intro t
  have kids : ∀ (ps : List Tree), (∀ p ∈ ps, Flat p → 0 ≤ fin p ∧ fin p ≤ tot p ∧ ∀ a, tot p < a → sides p a = ([], [])) → Flats ps → ∀ p ∈ ps, 0 ≤ fin p ∧ fin p ≤ tots ps ∧ ∀ a, tots ps < a → sides p a = ([], []) := by
    intro ps ih h p hp
    have hq := tots_le (fun u hu => by have := ih u hu (h.mem hu); omega) hp
    have := ih p hp (h.mem hp)
    exact ⟨this.1, by omega, fun a ha => this.2.2 a (by omega)⟩
  refine Tree.ind (P := fun t => Flat t → 0 ≤ fin t ∧ fin t ≤ tot t ∧ ∀ a, tot t < a → sides t a = ([], [])) ?_ ?_ ?_ ?_ ?_ ?_ ?_ t
  · intro w _; rw [fin, tot]; exact ⟨by omega, by omega, fun a h => by rw [sides, if_neg (by omega)]⟩
  · intro n h; rw [Flat] at h; rw [fin, tot]; exact ⟨by omega, by omega, fun a h => by rw [sides]⟩
  · intro ps ih h
    rw [Flat] at h
    rw [fin, tot]
    have go : ∀ ps : List Tree, (∀ p ∈ ps, Flat p → 0 ≤ fin p ∧ fin p ≤ tot p ∧ ∀ a, tot p < a → sides p a = ([], [])) → Flats ps → 0 ≤ (fins ps).sum ∧ (fins ps).sum ≤ tots ps ∧ ∀ a, tots ps < a → bag ps a = ([], []) := by
      intro ps
      induction ps with
      | nil => intro _ _; rw [fins, tots]; exact ⟨by simp, by simp, fun a _ => by rw [bag]⟩
      | cons p ps ih =>
        intro hi h
        rw [Flats] at h
        have h1 := hi p List.mem_cons_self h.1
        have h2 := ih (fun q hq => hi q (List.mem_cons_of_mem _ hq)) h.2
        rw [fins, tots, List.sum_cons]
        refine ⟨by omega, by omega, fun a ha => ?_⟩
        rw [bag, h1.2.2 a (by omega), h2.2.2 _ (by omega)]
        rfl
    have g := go ps ih h
    exact ⟨g.1, g.2.1, fun a ha => by rw [sides, g.2.2 a ha, shut_nil]⟩
  · intro p ih h
    rw [Flat] at h
    rw [fin, tot]
    have := ih h
    exact ⟨by omega, by omega, fun a ha => by rw [sides, this.2.2 a ha]; rfl⟩
  · intro ps ih h
    rw [Flat] at h
    rw [fin, tot]
    have k := kids ps ih h.1
    obtain ⟨p, hp, e⟩ := mem_fins (lmax_mem (fins_ne h.2))
    refine ⟨by rw [e]; exact (k p hp).1, by rw [e]; exact (k p hp).2.1, fun a ha => ?_⟩
    rw [sides, besF_nil, shut_nil]
    intro s hs
    rw [sidesL_map] at hs
    obtain ⟨p, hp, e⟩ := List.mem_map.mp hs
    rw [← e]; exact (k p hp).2.2 a ha
  · intro ps ih h
    rw [Flat] at h
    rw [fin, tot]
    have k := kids ps ih h.1
    obtain ⟨p, hp, e⟩ := mem_fins (lmin_mem (fins_ne h.2))
    refine ⟨by rw [e]; exact (k p hp).1, by rw [e]; exact (k p hp).2.1, fun a ha => ?_⟩
    rw [sides, besF_nil, shut_nil]
    intro s hs
    rw [sidesL_map] at hs
    obtain ⟨p, hp, e⟩ := List.mem_map.mp hs
    rw [← e]; exact (k p hp).2.2 a ha
  · intro c b _ h
    rw [Flat] at h
    exact h.elim
theorem tots_nn {ps : List Tree} (h : Flats ps) : ∀ u ∈ ps, 0 ≤ tot u := fun u hu => by have := flat_quiet u (h.mem hu); omega
/-! ### last rounds -/
def lastOf (ns : List (Option Int)) : Option Int := if (ns.filterMap id).isEmpty then none else some (lmax (ns.filterMap id))
def later (d : Int) (n : Option Int) : Option Int := n.map (· + d)
mutual
def lastR : Tree → Option Int
  | .log _ => some 0
  | .await _ => none
  | .seq ps => lastOf (lastS ps 0)
  | .fork p => lastR p
  | .join ps => lastOf (lastL ps)
  | .race ps => lastOf (lastL ps)
  | .loop c b => if 0 < c then later ((c - 1) * fin b) (lastR b) else none
def lastS : List Tree → Int → List (Option Int)
  | [], _ => []
  | p :: ps, d => later d (lastR p) :: lastS ps (d + fin p)
def lastL : List Tree → List (Option Int)
  | [] => []
  | p :: ps => lastR p :: lastL ps
end
theorem lastL_map : ∀ ps, lastL ps = ps.map lastR
  | [] => by rw [lastL]; rfl
  | p :: ps => by rw [lastL, lastL_map ps]; rfl
end L2.Aw

/-! The turns of a loop that can log; how much is logged; the key part. -/
namespace L2.Aw
open PySem PySem.Spec PyProof.Rows
theorem window {f : Nat → Sd} {c a len lo hi : Int} (hc : 0 ≤ c) (hl : 1 ≤ len) (hlo : lo = max 0 ((a - 30) / len)) (hhi : hi = min c (a / len + 1)) (hf : ∀ i : Nat, a - i * len < 0 ∨ 30 < a - i * len → f i = ([], [])) :
    glueR f c.toNat = glueR (fun j => f (lo.toNat + j)) (hi - lo).toNat ∧ (hi - lo).toNat ≤ 32 := by
  have h1 : (a - 30) / len * len ≤ a - 30 := Int.ediv_mul_le _ (by omega)
  have h2 : a < (a / len + 1) * len := by
    have := Int.lt_ediv_add_one_mul_self a (show 0 < len by omega)
    exact this
  have low : ∀ i : Nat, (i : Int) < lo → f i = ([], []) := fun i hi => by
    refine hf i (.inr ?_)
    have h3 : ((i : Int) + 1) * len ≤ (a - 30) / len * len := Int.mul_le_mul_of_nonneg_right (by omega) (by omega)
    rw [Int.add_mul, Int.one_mul] at h3
    omega
  have high : ∀ i : Nat, hi ≤ (i : Int) → (i : Int) < c → f i = ([], []) := fun i h3 h4 => by
    refine hf i (.inl ?_)
    have h5 : (a / len + 1) * len ≤ (i : Int) * len := Int.mul_le_mul_of_nonneg_right (by omega) (by omega)
    omega
  constructor
  · by_cases h : lo < hi
    · have e1 : c.toNat = lo.toNat + ((hi - lo).toNat + (c - hi).toNat) := by omega
      rw [e1, glueR_add, glueR_add, glueR_nil (fun i hi => low i (by omega)), nil_glue, glueR_nil (f := fun i => f (lo.toNat + ((hi - lo).toNat + i))) (fun i h3 => high _ (by omega) (by omega)), glue_nil]
    · have e0 : (hi - lo).toNat = 0 := by omega
      rw [e0]
      refine glueR_nil fun i hi => ?_
      by_cases h3 : (i : Int) < lo
      · exact low i h3
      · exact high i (by omega) (by omega)
  · have h3 : a / len ≤ (a - 30) / len + 31 := by
      have h4 := Int.lt_ediv_add_one_mul_self (a - 30) (show 0 < len by omega)
      by_cases h5 : a / len ≤ (a - 30) / len + 31
      · exact h5
      · have h6 : ((a - 30) / len + 32) * len ≤ a / len * len := Int.mul_le_mul_of_nonneg_right (by omega) (by omega)
        have h7 : a / len * len ≤ a := Int.ediv_mul_le _ (by omega)
        have h8 : ((a - 30) / len + 32) * len = ((a - 30) / len + 1) * len + 31 * len := by
          rw [← Int.add_mul]; congr 1; omega
        omega
    omega
/-! how many words a round can hold -/
mutual
def cap : Tree → Nat
  | .log _ => 1
  | .await _ => 0
  | .seq ps => caps ps
  | .fork p => cap p
  | .join ps => caps ps
  | .race ps => caps ps
  | .loop _ b => 32 * cap b
def caps : List Tree → Nat
  | [] => 0
  | t :: ts => cap t + caps ts
end
/-! the loops are within reach, their bodies log in few rounds alone -/
mutual
def Rep (M : Int) : Tree → Prop
  | .log _ => True
  | .await _ => True
  | .seq ps => Reps M ps
  | .fork p => Rep M p
  | .join ps => Reps M ps
  | .race ps => Reps M ps
  | .loop _ b => Rep M b ∧ M < 2 ^ 61 * fin b ∧ ∀ r, 30 < r → sides b r = ([], [])
def Reps (M : Int) : List Tree → Prop
  | [] => True
  | t :: ts => Rep M t ∧ Reps M ts
end
theorem Reps.mem {M : Int} {t : Tree} : ∀ {ts : List Tree}, Reps M ts → t ∈ ts → Rep M t
  | u :: us, h, hm => by
    rw [Reps] at h
    rcases List.mem_cons.mp hm with e | e
    · rw [e]; exact h.1
    · exact Reps.mem h.2 e
theorem cap_le {t : Tree} : ∀ {ts : List Tree}, t ∈ ts → cap t ≤ caps ts
  | u :: us, h => by
    rw [caps]
    rcases List.mem_cons.mp h with e | e
    · rw [e]; omega
    · have := cap_le e; omega
def sz (s : Sd) : Nat := s.1.length + s.2.length
theorem sz_glue (a b : Sd) : sz (glue a b) = sz a + sz b := by
  show (a.1 ++ b.1).length + (b.2 ++ a.2).length = a.1.length + a.2.length + (b.1.length + b.2.length)
  rw [List.length_append, List.length_append]
  omega
theorem sz_shut {k : Prop} [Decidable k] (a : Sd) : sz (shut k a) = sz a := by
  unfold shut sz
  split
  · rfl
  · rw [List.length_append]; rfl
theorem sz_glueR {f : Nat → Sd} {c : Nat} (h : ∀ i, sz (f i) ≤ c) : ∀ n, sz (glueR f n) ≤ n * c
  | 0 => Nat.zero_le _
  | n + 1 => by
    rw [glueR, sz_glue, Nat.succ_mul]
    have := sz_glueR h n
    have := h n
    omega
theorem sz_besF (key : Nat) : ∀ (ss : List Sd) (i : Nat) (acc : Sd), (i ≤ key → acc.2 = []) → sz (besF key i acc ss) = sz acc + (ss.map sz).sum
  | [], _, _, _ => rfl
  | s :: ss, i, acc, h => by
    rw [besF, List.map_cons, List.sum_cons]
    by_cases h1 : i < key
    · rw [if_pos h1, sz_besF key ss (i + 1) (acc.1 ++ (s.1 ++ s.2), acc.2) fun _ => h (by omega)]
      show (acc.1 ++ (s.1 ++ s.2)).length + acc.2.length + _ = acc.1.length + acc.2.length + (s.1.length + s.2.length + _)
      rw [List.length_append, List.length_append]
      omega
    · rw [if_neg h1]
      by_cases h2 : i = key
      · rw [if_pos h2, sz_besF key ss (i + 1) _ fun _ => by omega]
        show (acc.1 ++ s.1).length + s.2.length + _ = acc.1.length + acc.2.length + (s.1.length + s.2.length + _)
        rw [List.length_append, h (by omega), List.length_nil]
        omega
      · rw [if_neg h2, sz_besF key ss (i + 1) _ fun _ => by omega]
        show acc.1.length + (acc.2 ++ (s.1 ++ s.2)).length + _ = acc.1.length + acc.2.length + (s.1.length + s.2.length + _)
        rw [List.length_append, List.length_append]
        omega
theorem sz_bag (M : Int) : ∀ (ps : List Tree) (a : Int), Oks ps → a ≤ M → (∀ p ∈ ps, 0 ≤ fin p ∧ ∀ b, b ≤ M → sz (sides p b) ≤ cap p) → sz (bag ps a) ≤ caps ps
  | [], a, _, _, _ => by rw [bag]; exact Nat.zero_le _
  | p :: ps, a, ho, ha, h => by
    rw [Oks] at ho
    have h1 := h p List.mem_cons_self
    have h2 := h1.2 a ha
    have h3 := sz_bag M ps (a - fin p) ho.2 (by omega) fun q hq => h q (List.mem_cons_of_mem _ hq)
    rw [bag, sz_glue, caps]
    omega
theorem sz_list {M a : Int} (ha : a ≤ M) : ∀ (ps : List Tree), (∀ p ∈ ps, ∀ b, b ≤ M → sz (sides p b) ≤ cap p) → ((sidesL ps a).map sz).sum ≤ caps ps
  | [], _ => by rw [sidesL]; exact Nat.zero_le _
  | p :: ps, h => by
    rw [sidesL, caps, List.map_cons, List.sum_cons]
    have := h p List.mem_cons_self a ha
    have := sz_list ha ps fun q hq => h q (List.mem_cons_of_mem _ hq)
    omega
theorem Rep.loop_window {M c a : Int} {b : Tree} (ho : Ok (.loop c b)) (hr : Rep M (.loop c b)) :
    glueR (fun i => sides b (a - i * fin b)) c.toNat = glueR (fun j => sides b (a - ((max 0 ((a - 30) / fin b)).toNat + j : Nat) * fin b)) (min c (a / fin b + 1) - max 0 ((a - 30) / fin b)).toNat ∧ (min c (a / fin b + 1) - max 0 ((a - 30) / fin b)).toNat ≤ 32 := by
  rw [Ok] at ho
  rw [Rep] at hr
  refine window (f := fun i => sides b (a - i * fin b)) (by omega) (by omega) rfl rfl ?_
  intro i hi
  rcases hi with h | h
  · exact sides_neg b ho.1 _ h
  · exact hr.2.2 _ h
theorem sz_sides (M : Int) : ∀ t, Ok t → Rep M t → ∀ a, a ≤ M → sz (sides t a) ≤ cap t := by
  intro t
  refine Tree.ind (P := fun t => Ok t → Rep M t → ∀ a, a ≤ M → sz (sides t a) ≤ cap t) ?_ ?_ ?_ ?_ ?_ ?_ ?_ t
  · intro w _ _ a _
    rw [sides, cap]
    split
    · exact Nat.le_refl _
    · exact Nat.zero_le _
  · intro n _ _ a _
    rw [sides]
    exact Nat.zero_le _
  · intro ps ih ho hr a ha
    rw [Ok] at ho
    rw [Rep] at hr
    rw [sides, sz_shut, cap]
    exact sz_bag M ps a ho.1 ha fun p hp => ⟨fin_nonneg p (ho.1.mem hp), ih p hp (ho.1.mem hp) (hr.mem hp)⟩
  · intro p ih ho hr a ha
    rw [Ok] at ho
    rw [Rep] at hr
    rw [sides, cap]
    have := ih ho hr a ha
    show ((sides p a).1 ++ (sides p a).2).length + 0 ≤ _
    rw [List.length_append]
    exact this
  · intro ps ih ho hr a ha
    rw [Ok] at ho
    rw [Rep] at hr
    rw [sides, sz_shut, cap, sz_besF _ _ _ _ fun _ => rfl]
    have := sz_list ha ps fun p hp => ih p hp (ho.1.mem hp) (hr.mem hp)
    show 0 + _ ≤ _
    omega
  · intro ps ih ho hr a ha
    rw [Ok] at ho
    rw [Rep] at hr
    rw [sides, sz_shut, cap, sz_besF _ _ _ _ fun _ => rfl]
    have := sz_list ha ps fun p hp => ih p hp (ho.1.mem hp) (hr.mem hp)
    show 0 + _ ≤ _
    omega
  · intro c b ih ho hr a ha
    obtain ⟨e1, e2⟩ := Rep.loop_window (a := a) ho hr
    rw [Ok] at ho
    rw [Rep] at hr
    rw [sides, sz_shut, cap, e1]
    generalize (min c (a / fin b + 1) - max 0 ((a - 30) / fin b)).toNat = n at e2
    -- in the window every round is at most a
    have hb : ∀ j : Nat, sz (sides b (a - ((max 0 ((a - 30) / fin b)).toNat + j : Nat) * fin b)) ≤ cap b := fun j => by
      refine ih ho.1 hr.1 _ ?_
      have : 0 ≤ (((max 0 ((a - 30) / fin b)).toNat + j : Nat) : Int) * fin b := Int.mul_nonneg (by omega) (by omega)
      omega
    exact Nat.le_trans (sz_glueR hb n) (Nat.mul_le_mul_right _ e2)
/-! the key part -/
theorem findIdx_some {ns : List Int} {m : Int} (h : m ∈ ns) : ∃ j, ns.findIdx? (fun z => z == m) = some j ∧ ns[j]? = some m := by
  have hs : (ns.findIdx? fun z => z == m).isSome = true := by
    rw [List.findIdx?_isSome, List.any_eq_true]
    exact ⟨m, h, beq_self_eq_true m⟩
  obtain ⟨j, hj⟩ := Option.isSome_iff_exists.mp hs
  obtain ⟨h1, h2, _⟩ := List.findIdx?_eq_some_iff_getElem.mp hj
  exact ⟨j, hj, by rw [List.getElem?_eq_getElem h1, eq_of_beq h2]⟩
theorem keyR_at {ns : List Int} (h : ns ≠ []) : ns.findIdx? (fun z => z == lmin ns) = some (keyR ns) ∧ ns[keyR ns]? = some (lmin ns) := by
  obtain ⟨j, h1, h2⟩ := findIdx_some (lmin_mem h)
  have e : keyR ns = j := by unfold keyR; rw [h1]; rfl
  rw [e]
  exact ⟨h1, h2⟩
theorem keyJ_at {ns : List Int} (h : ns ≠ []) : ∃ j, ns.reverse.findIdx? (fun z => z == lmax ns) = some j ∧ ((ns.length : Int) - 1 - j = (keyJ ns : Nat)) ∧ ns[keyJ ns]? = some (lmax ns) := by
  obtain ⟨j, h1, h2⟩ := findIdx_some (ns := ns.reverse) (List.mem_reverse.mpr (lmax_mem h))
  have e : keyJ ns = ns.length - 1 - j := by unfold keyJ; rw [h1]; rfl
  obtain ⟨h3, h4⟩ := List.getElem?_eq_some_iff.mp h2
  rw [List.length_reverse] at h3
  refine ⟨j, h1, by rw [e]; omega, ?_⟩
  rw [e, ← List.getElem?_reverse (by omega)]
  exact h2
end L2.Aw
namespace L2.Aw
open PySem PySem.Spec PyProof.Rows
def wStrs (l : List Wd) : W := .tup (l.map wv)
def encSd (s : Sd) : W := .tup [wStrs s.1, wStrs s.2]
theorem wStrs_pure (l : List Wd) : (wStrs l).pure = true := by
  rw [wStrs, W.pure]
  refine pures_of fun w hw => ?_
  obtain ⟨x, _, e⟩ := List.mem_map.mp hw
  rw [← e]; exact wv_pure x
theorem encSd_pure (s : Sd) : (encSd s).pure = true := by
  rw [encSd, W.pure]
  exact pures2 (wStrs_pure _) (wStrs_pure _)
theorem ev_catS {ma mb : WE} {env : WEnv} {S S1 S2 : Store} {a b : List Wd} (h : ma env S = some (wStrs a, S1)) (h2 : mb env S1 = some (wStrs b, S2)) (hz : a.length + b.length ≤ 16777216) : mBin wAdd ma mb env S = some (wStrs (a ++ b), S2) := by
  have e := ev_catT h h2 (szOk_of (by rw [List.length_map, List.length_map]; exact hz))
  rw [e, wStrs, List.map_append]
/-- the way a part is shut -/
theorem ev_shut {t : WT} {ml mr : WE} {env : WEnv} {S S1 : Store} {k : Prop} [Decidable k] {acc : Sd} (ht : t env S = some (decide k, S1)) (hl : ml env S1 = some (wStrs acc.1, S1)) (hr : mr env S1 = some (wStrs acc.2, S1)) (hz : sz acc ≤ 16777216) :
    mIf t (mTup (aCons ml (aCons mr aNil))) (mTup (aCons (mBin wAdd ml mr) (aCons (mTup aNil) aNil))) env S = some (encSd (shut k acc), S1) := by
  by_cases h : k
  · rw [decide_eq_true h] at ht
    rw [shut_t h]
    exact ev_mif_t ht (ev_tup (ev_cons hl (ev_cons hr ev_nil)) rfl)
  · rw [decide_eq_false h] at ht
    rw [shut_f h]
    exact ev_mif_f ht (ev_tup (ev_cons (ev_catS hl hr hz) (ev_cons rfl ev_nil)) rfl)
theorem ev_ge {ma mb : WE} {env : WEnv} {S S1 S2 : Store} {i j : Int} (h : ma env S = some (.int i, S1)) (h2 : mb env S1 = some (.int j, S2)) : mTest (mBin wGe ma mb) env S = some (decide (j ≤ i), S2) := ev_test (ev_bin h h2 rfl)
/-- xs.index(x), ints -/
theorem ev_index {ma mb : WE} {env : WEnv} {S S1 S2 : Store} {l j : Nat} {ns : List Int} {m : Int} (h : ma env S = some (.ref l, S1)) (h2 : mb env S1 = some (.int m, S2)) (hl1 : (getL S1 l).isSome = true) (hl : getL S2 l = some (ns.map W.int)) (hj : ns.findIdx? (fun z => z == m) = some j) : mMeth lIndex ma (aCons mb aNil) env S = some (.int (j : Nat), S2) := by
  refine ev_meth h hl1 (ev_cons h2 ev_nil) ?_
  show (getL S2 l).bind (fun us => if wFlat (.int m) && us.all wFlat then (us.findIdx? fun z => wEqA z (.int m)).map fun j => (W.int (j : Nat), S2) else none) = _
  rw [hl]
  show (if (wFlat (.int m) && (ns.map W.int).all wFlat) = true then ((ns.map W.int).findIdx? fun z => wEqA z (.int m)).map fun j => (W.int (j : Nat), S2) else none) = _
  rw [if_pos (by
    rw [Bool.and_eq_true]
    refine ⟨rfl, List.all_eq_true.mpr fun w hw => ?_⟩
    obtain ⟨i, _, e⟩ := List.mem_map.mp hw
    rw [← e]; rfl), List.findIdx?_map]
  show ((ns.findIdx? fun z => z == m).map fun j => (W.int (j : Nat), S2)) = _
  rw [hj]
  rfl
theorem fins_sum_nonneg : ∀ {ps : List Tree}, Oks ps → 0 ≤ (fins ps).sum
  | [], _ => by rw [fins]; exact Int.le_refl _
  | p :: ps, h => by
    rw [Oks] at h
    rw [fins, List.sum_cons]
    have := fin_nonneg p h.1
    have := fins_sum_nonneg h.2
    omega
theorem encs_get {ps : List Tree} {j : Nat} {p : Tree} (h : ps[j]? = some p) : (encs ps)[j]? = some (enc p) := by
  rw [encs_map, List.getElem?_map, h]; rfl
theorem fins_get {ps : List Tree} {j : Nat} {x : Int} (h : (fins ps)[j]? = some x) : ∃ p, ps[j]? = some p ∧ fin p = x := by
  rw [fins_map, List.getElem?_map] at h
  obtain ⟨p, h1, h2⟩ := Option.map_eq_some_iff.mp h
  exact ⟨p, h1, h2⟩
end L2.Aw

/-! Equal lists and tuples; filtered comprehensions; None or a number. -/
namespace L2.Aw
open PySem PySem.Spec PyProof.Rows
def wOk : W → Bool
  | .non => true | .bl _ => true | .int _ => true | .str x => PyData.strOk x | .tup [.int _, .int _] => true | _ => false
theorem wv_ok {x : Wd} (h : wdOk x = true) : wOk (wv x) = true := by
  cases x with
  | none => rfl
  | str s => exact h
  | tag a b => rfl
theorem toP_ok {w : W} (h : wOk w = true) : ∃ d, toP w = some d ∧ d.canLay0 = true ∧ d.depth ≤ 1 := by
  cases w with
  | non => exact ⟨_, by rw [toP], by rw [PyData.canLay0], by rw [PyData.depth]; decide⟩
  | bl b => exact ⟨_, by rw [toP], by rw [PyData.canLay0], by rw [PyData.depth]; decide⟩
  | int b => exact ⟨_, by rw [toP], by rw [PyData.canLay0], by rw [PyData.depth]; decide⟩
  | str x => exact ⟨_, by rw [toP], by rw [PyData.canLay0]; exact h, by rw [PyData.depth]; decide⟩
  | tup ws =>
    match ws, h with
    | [.int a, .int b], _ => exact ⟨.tuple [.int a, .int b], by rw [toP, toPs, toPs, toPs, toP, toP]; rfl, by rw [PyData.canLay0, PyData.canLayAll0, PyData.canLayAll0, PyData.canLayAll0, PyData.canLay0, PyData.canLay0]; rfl, by rw [PyData.depth, PyData.depthAll, PyData.depthAll, PyData.depthAll, PyData.depth, PyData.depth]; decide⟩
  | ref i => cases h
  | fz ws => cases h
theorem toPs_ok : ∀ {ws : List W}, ws.all wOk = true → ∃ ds, toPs ws = some ds ∧ PyData.canLayAll0 ds = true ∧ PyData.depthAll ds ≤ 1 ∧ ds.length = ws.length
  | [], _ => ⟨[], by rw [toPs], by rw [PyData.canLayAll0], by rw [PyData.depthAll]; decide, rfl⟩
  | w :: ws, h => by
    rw [List.all_cons, Bool.and_eq_true] at h
    obtain ⟨d, h1, h2, h3⟩ := toP_ok h.1
    obtain ⟨ds, g1, g2, g3, g4⟩ := toPs_ok h.2
    refine ⟨d :: ds, by rw [toPs, h1, g1]; rfl, by rw [PyData.canLayAll0, h2, g2]; rfl, by rw [PyData.depthAll]; omega, by rw [List.length_cons, List.length_cons, g4]⟩
theorem shaped_list {ds : List PyData} (h : PyData.canLayAll0 ds = true) (h2 : PyData.depthAll ds ≤ 1) : SeqAt.shaped (.list ds) = true := by
  unfold SeqAt.shaped
  rw [PyData.canLay0, h, PyData.depth, decide_eq_true (show PyData.depthAll ds + 1 ≤ 64 by omega)]
  rfl
theorem shaped_tuple {ds : List PyData} (h : PyData.canLayAll0 ds = true) (h2 : PyData.depthAll ds ≤ 1) : SeqAt.shaped (.tuple ds) = true := by
  unfold SeqAt.shaped
  rw [PyData.canLay0, h, PyData.depth, decide_eq_true (show PyData.depthAll ds + 1 ≤ 64 by omega)]
  rfl
theorem toPS_ref {S : Store} {l : Nat} {ws : List W} {ds : List PyData} (h : getL S l = some ws) (h2 : toPs ws = some ds) : toPS S (.ref l) = some (.list ds) := by
  show (getL S l).bind (fun ws => (toPs ws).map PyData.list) = _
  rw [h]
  show (toPs ws).map PyData.list = _
  rw [h2]
  rfl
theorem fEq_at {neg : Bool} {x y : W} {S : Store} {d e : PyData} (h : toPS S x = some d) (h2 : toPS S y = some e) (hs : SeqAt.shaped d = true) (hs2 : SeqAt.shaped e = true) : fEq neg x y S = some (.bl (if neg then !PyData.eqv d e else PyData.eqv d e), S) := by
  rw [fEq, h]
  show (toPS S y).bind (fun e => if SeqAt.shaped d && SeqAt.shaped e then some (W.bl (if neg then !PyData.eqv d e else PyData.eqv d e), S) else none) = _
  rw [h2]
  show (if (SeqAt.shaped d && SeqAt.shaped e) = true then some (W.bl (if neg then !PyData.eqv d e else PyData.eqv d e), S) else none) = _
  rw [hs, hs2]
  rfl
section
variable {env : WEnv} {S S1 S2 : Store} {ma mb : WE} {ws us : List W}
/-- two lists with the same items are not unequal -/
theorem ev_neSame {a b : Nat} (h : ma env S = some (.ref a, S1)) (h2 : mb env S1 = some (.ref b, S2)) (ha : getL S2 a = some ws) (hb : getL S2 b = some ws) (hw : ws.all wOk = true) : mTest (mBin (fEq true) ma mb) env S = some (false, S2) := by
  obtain ⟨ds, h3, h4, h5, _⟩ := toPs_ok hw
  refine ev_test (ev_bin h h2 ?_)
  rw [fEq_at (toPS_ref ha h3) (toPS_ref hb h3) (shaped_list h4 h5) (shaped_list h4 h5), SeqAt.eqv_refl _ (by rw [PyData.canLay0]; exact h4)]
  rfl
theorem ev_neSameT (h : ma env S = some (.tup ws, S1)) (h2 : mb env S1 = some (.tup ws, S2)) (hw : ws.all wOk = true) : mTest (mBin (fEq true) ma mb) env S = some (false, S2) := by
  obtain ⟨ds, h3, h4, h5, _⟩ := toPs_ok hw
  have e : toPS S2 (.tup ws) = some (.tuple ds) := by
    show toP (.tup ws) = _
    rw [toP, h3]
    rfl
  refine ev_test (ev_bin h h2 ?_)
  rw [fEq_at e e (shaped_tuple h4 h5) (shaped_tuple h4 h5), SeqAt.eqv_refl _ (by rw [PyData.canLay0]; exact h4)]
  rfl
/-- xs != [] -/
theorem ev_neNil {a : Nat} (h : ma env S = some (.ref a, S1)) (ha : getL S1 a = some ws) (hw : ws.all wOk = true) : mTest (mBin (fEq true) ma (mLst aNil)) env S = some (!ws.isEmpty, S1 ++ [.lst []]) := by
  obtain ⟨ds, h3, h4, h5, h6⟩ := toPs_ok hw
  have e : toPS (S1 ++ [.lst []]) (.ref S1.length) = some (.list []) := toPS_ref getL_new (by rw [toPs])
  have s0 : SeqAt.shaped (.list []) = true := by decide +kernel
  refine ev_test (ev_bin h (ev_lst ev_nil rfl) ?_)
  rw [fEq_at (toPS_ref (getL_old ha) h3) e (shaped_list h4 h5) s0]
  cases ws with
  | nil =>
    cases ds with
    | nil => rw [PyData.eqv, PyData.eqvAll]; rfl
    | cons d ds => cases h6
  | cons w ws =>
    cases ds with
    | nil => cases h6
    | cons d ds => rw [PyData.eqv, PyData.eqvAll]; rfl
/-- a comprehension with a test, over a source whose items stand -/
theorem ev_lcF {mi : WI} {s : Src} {el : WE} {ts : WT} {tg : Tg} {vs : List Nat} {f : Nat → Bool} {g : Nat → W} (h : mi env S = some (s, S1))
    (hs : ∀ i, i < s.n → ∃ w e1, s.item i S1 = some w ∧ tg.asg w (wipeE env vs) = some e1 ∧ ts e1 S1 = some (f i, S1) ∧ (f i = true → el e1 S1 = some (g i, S1))) (hd : s.stop S1 = true) (hz : szOk s.n = true) :
    mLc mi tg ts el vs env S = some (.ref S1.length, S1 ++ [.lst (((List.range s.n).filter f).map g)]) := by
  have go : ∀ k i, k + i = s.n → lcF s tg ts el (wipeE env vs) k i S1 = some (((List.range' i k).filter f).map g, S1) := by
    intro k
    induction k with
    | zero =>
      intro i hi
      rw [lcF, if_pos hd]
      rfl
    | succ k ih =>
      intro i hi
      obtain ⟨w, e1, a1, a2, a3, a4⟩ := hs i (by omega)
      have b := ih (i + 1) (by omega)
      rw [lcF, a1]
      show (tg.asg w (wipeE env vs)).bind _ = _
      rw [a2]
      show (ts e1 S1).bind _ = _
      rw [a3]
      rw [List.range'_succ, List.filter_cons]
      by_cases hf : f i = true
      · show (if f i = true then (el e1 S1).bind (fun v => (lcF s tg ts el (wipeE env vs) k (i + 1) v.2).map fun r => (v.1 :: r.1, r.2)) else lcF s tg ts el (wipeE env vs) k (i + 1) S1) = _
        rw [if_pos hf, if_pos hf, a4 hf]
        show (lcF s tg ts el (wipeE env vs) k (i + 1) S1).map (fun r => (g i :: r.1, r.2)) = _
        rw [b]
        rfl
      · show (if f i = true then (el e1 S1).bind (fun v => (lcF s tg ts el (wipeE env vs) k (i + 1) v.2).map fun r => (v.1 :: r.1, r.2)) else lcF s tg ts el (wipeE env vs) k (i + 1) S1) = _
        rw [if_neg hf, if_neg hf, b]
  have b := go s.n 0 rfl
  rw [← List.range_eq_range'] at b
  have hz2 : szOk (((List.range s.n).filter f).map g).length = true := by
    have hl : (((List.range s.n).filter f).map g).length ≤ s.n := by
      rw [List.length_map]
      have := List.length_filter_le f (List.range s.n)
      rw [List.length_range] at this
      exact this
    have hz' : s.n ≤ 16777216 := of_decide_eq_true hz
    exact szOk_of (by omega)
  rw [mLc, h]
  show (lcF s tg ts el (wipeE env vs) s.n 0 S1).bind (fun r => if szOk r.1.length then newL r.1 r.2 else none) = _
  rw [b]
  show (if szOk (((List.range s.n).filter f).map g).length = true then newL (((List.range s.n).filter f).map g) S1 else none) = _
  rw [if_pos hz2]
  rfl
end
def wOpt : Option Int → W
  | none => .non
  | some i => .int i
theorem wOpt_pure (o : Option Int) : (wOpt o).pure = true := by
  cases o <;> (rw [wOpt, W.pure])
theorem wOpt_ok (o : Option Int) : wOk (wOpt o) = true := by
  cases o <;> rfl
theorem later_W {d : Int} {o : Option Int} : wOpt (later d o) = match o with | none => .non | some i => .int (i + d) := by
  cases o <;> rfl
end L2.Aw

/-! Drawn bodies; loops written otherwise. -/
namespace L2.Aw
open PySem PySem.Spec PyProof.Rows
theorem plain_facts : ∀ t, PlainT t → Flat t ∧ tot t ≤ 3 * nodes t ∧ cap t ≤ nodes t ∧ ∀ M, Rep M t := by
  intro t
  have kids : ∀ ps : List Tree, (∀ p ∈ ps, PlainT p → Flat p ∧ tot p ≤ 3 * nodes p ∧ cap p ≤ nodes p ∧ ∀ M, Rep M p) → PlainTs ps → Flats ps ∧ tots ps ≤ 3 * nodess ps ∧ caps ps ≤ nodess ps ∧ ∀ M, Reps M ps := by
    intro ps
    induction ps with
    | nil => intro _ _; exact ⟨by rw [Flats]; trivial, by rw [tots, nodess]; omega, by rw [caps, nodess]; omega, fun M => by rw [Reps]; trivial⟩
    | cons p ps ih =>
      intro h1 h2
      rw [PlainTs] at h2
      have a := h1 p List.mem_cons_self h2.1
      have b := ih (fun q hq => h1 q (List.mem_cons_of_mem _ hq)) h2.2
      refine ⟨by rw [Flats]; exact ⟨a.1, b.1⟩, by rw [tots, nodess]; omega, by rw [caps, nodess]; omega, fun M => by rw [Reps]; exact ⟨a.2.2.2 M, b.2.2.2 M⟩⟩
  refine Tree.ind (P := fun t => PlainT t → Flat t ∧ tot t ≤ 3 * nodes t ∧ cap t ≤ nodes t ∧ ∀ M, Rep M t) ?_ ?_ ?_ ?_ ?_ ?_ ?_ t
  · intro w _; exact ⟨by rw [Flat]; trivial, by rw [tot, nodes]; omega, by rw [cap, nodes]; omega, fun M => by rw [Rep]; trivial⟩
  · intro n h
    rw [PlainT] at h
    exact ⟨by rw [Flat]; omega, by rw [tot, nodes]; omega, by rw [cap, nodes]; omega, fun M => by rw [Rep]; trivial⟩
  · intro ps ih h
    rw [PlainT] at h
    have k := kids ps ih h
    exact ⟨by rw [Flat]; exact k.1, by rw [tot, nodes]; omega, by rw [cap, nodes]; omega, fun M => by rw [Rep]; exact k.2.2.2 M⟩
  · intro p ih h
    rw [PlainT] at h
    have k := ih h
    exact ⟨by rw [Flat]; exact k.1, by rw [tot, nodes]; omega, by rw [cap, nodes]; omega, fun M => by rw [Rep]; exact k.2.2.2 M⟩
  · intro ps ih h
    rw [PlainT] at h
    have k := kids ps ih h.1
    exact ⟨by rw [Flat]; exact ⟨k.1, h.2⟩, by rw [tot, nodes]; omega, by rw [cap, nodes]; omega, fun M => by rw [Rep]; exact k.2.2.2 M⟩
  · intro ps ih h
    rw [PlainT] at h
    have k := kids ps ih h.1
    exact ⟨by rw [Flat]; exact ⟨k.1, h.2⟩, by rw [tot, nodes]; omega, by rw [cap, nodes]; omega, fun M => by rw [Rep]; exact k.2.2.2 M⟩
  · intro c b _ h
    rw [PlainT] at h
    exact h.elim
/-- what the laws use of a body -/
structure BodyF (b : Tree) : Prop where
  ok : Ok b
  f1 : 1 ≤ fin b
  f2 : fin b ≤ 6
  dp : dep b ≤ 4
  cp : cap b ≤ 8
  fl : Flat b
  tt : tot b ≤ 30
  rp : ∀ M, Rep M b
theorem BodyF.quiet {b : Tree} (h : BodyF b) : ∀ r, 30 < r → sides b r = ([], []) := fun r hr => (flat_quiet b h.fl).2.2 r (by have := h.tt; omega)
theorem BodyT.facts {b : Tree} (h : BodyT b) : BodyF b := by
  rcases h with ⟨h1, h2, h3, h4, h5⟩ | ⟨f, m, e, h1, h2, h3, h4, h5, h6⟩ | e
  · have k := plain_facts b h1
    exact ⟨PlainT.ok b h1 (by omega), h4, h5, by omega, by omega, k.1, by omega, k.2.2.2⟩
  · have k := plain_facts f h1
    have ho := PlainT.ok f h1 (by omega)
    subst e
    refine ⟨?_, ?_, ?_, ?_, ?_, ?_, ?_, ?_⟩
    · rw [Ok, Oks, Oks, Oks, Ok]; exact ⟨⟨ho, by omega, trivial⟩, by simp⟩
    · rw [fin, fins, fins, fins, fin, h4]; simp; omega
    · rw [fin, fins, fins, fins, fin, h4]; simp; omega
    · rw [dep, deps, deps, deps, dep]; omega
    · rw [cap, caps, caps, caps, cap]; omega
    · rw [Flat, Flats, Flats, Flats, Flat]; exact ⟨k.1, by omega, trivial⟩
    · rw [tot, tots, tots, tots, tot]; omega
    · intro M; rw [Rep, Reps, Reps, Reps, Rep]; exact ⟨k.2.2.2 M, trivial, trivial⟩
  · subst e
    refine ⟨?_, ?_, ?_, ?_, ?_, ?_, ?_, ?_⟩
    · rw [Ok, Oks, Oks, Oks, Ok, Ok]; exact ⟨⟨lawWords_ok _ (by simp [lawWords]), by omega, trivial⟩, by simp⟩
    · rw [fin, fins, fins, fins, fin, fin]; simp
    · rw [fin, fins, fins, fins, fin, fin]; simp
    · rw [dep, deps, deps, deps, dep, dep]; omega
    · rw [cap, caps, caps, caps, cap, cap]; omega
    · rw [Flat, Flats, Flats, Flats, Flat, Flat]; exact ⟨trivial, by omega, trivial⟩
    · rw [tot, tots, tots, tots, tot, tot]; omega
    · intro M; rw [Rep, Reps, Reps, Reps, Rep, Rep]; exact ⟨trivial, trivial, trivial⟩
/-! two programs that are one -/
structure Same (u v : Tree) : Prop where
  f : fin u = fin v
  l : lastR u = lastR v
  s : ∀ a, 0 ≤ a → sides u a = sides v a
theorem shut_two {m M a : Int} {X Y : Sd} (hm : m ≤ M) (hy : a < m → Y = ([], [])) : shut (M ≤ a) (glue (shut (m ≤ a) X) (shut (M ≤ a) Y)) = shut (M ≤ a) (glue X Y) := by
  by_cases h : M ≤ a
  · rw [shut_t (show m ≤ a by omega), shut_t (a := Y) h]
  · simp only [shut_f h]
    by_cases h2 : m ≤ a
    · rw [shut_t h2]
      show ((X.1 ++ (Y.1 ++ Y.2)) ++ ([] ++ X.2), _) = ((X.1 ++ Y.1) ++ (Y.2 ++ X.2), _)
      simp
    · rw [shut_f h2, hy (by omega)]
      show (((X.1 ++ X.2) ++ ([] ++ [])) ++ ([] ++ []), _) = ((X.1 ++ []) ++ ([] ++ X.2), _)
      simp
theorem shut_one {m M a : Int} {X Y : Sd} (hm : m ≤ M) (hy : a < m → Y = ([], [])) : shut (M ≤ a) (glue (shut (m ≤ a) X) Y) = shut (M ≤ a) (glue X Y) := by
  by_cases h : M ≤ a
  · rw [shut_t (show m ≤ a by omega)]
  · rw [shut_f h, shut_f h]
    by_cases h2 : m ≤ a
    · rw [shut_t h2]
    · rw [shut_f h2, hy (by omega)]
      show (((X.1 ++ X.2) ++ []) ++ ([] ++ []), _) = ((X.1 ++ []) ++ ([] ++ X.2), _)
      simp
section
variable {b : Tree} {c d : Int}
theorem loop_split (hc : 0 ≤ c) (hd : 0 ≤ d) (a : Int) : glueR (fun i => sides b (a - i * fin b)) (c + d).toNat = glue (glueR (fun i => sides b (a - i * fin b)) c.toNat) (glueR (fun i => sides b (a - c * fin b - i * fin b)) d.toNat) := by
  have e : (c + d).toNat = c.toNat + d.toNat := by omega
  rw [e, glueR_add]
  congr 1
  refine glueR_congr fun i _ => ?_
  congr 1
  have e2 : ((c.toNat + i : Nat) : Int) = c + i := by omega
  rw [e2, Int.add_mul]
  omega
theorem turns_neg (h : BodyF b) {a : Int} (ha : a < 0) (n : Nat) : glueR (fun i => sides b (a - i * fin b)) n = ([], []) :=
  glueR_nil fun i _ => sides_neg b h.ok _ (by
    have : 0 ≤ (i : Int) * fin b := Int.mul_nonneg (by omega) (by have := h.f1; omega)
    omega)
theorem later_none (d : Int) : later d none = none := rfl
theorem lastOf_two {x y : Option Int} : lastOf [x, y] = match x, y with
    | none, none => none
    | some i, none => some i
    | none, some j => some j
    | some i, some j => some (max i j) := by
  cases x <;> cases y <;> rfl
theorem later_later (d e : Int) (o : Option Int) : later d (later e o) = later (e + d) o := by
  cases o with
  | none => rfl
  | some i => show some (i + e + d) = some (i + (e + d)); rw [Int.add_assoc]
theorem later_zero (o : Option Int) : later 0 o = o := by
  cases o with
  | none => rfl
  | some i => show some (i + 0) = some i; rw [Int.add_zero]
theorem same_cut (h : BodyF b) (hc : 0 ≤ c) (hd : 0 ≤ d) (hcd : 0 < c + d) : Same (.seq [.loop c b, .loop d b]) (.loop (c + d) b) := by
  have hf := h.f1
  have hcf : 0 ≤ c * fin b := Int.mul_nonneg hc (by omega)
  have hdf : 0 ≤ d * fin b := Int.mul_nonneg hd (by omega)
  refine ⟨?_, ?_, ?_⟩
  · rw [fin, fins, fins, fins, fin, fin, fin, Int.add_mul]; simp
  · rw [lastR, lastS, lastS, lastS, lastR, lastR, lastR, lastOf_two, fin, if_pos hcd, later_zero, Int.zero_add]
    by_cases h1 : 0 < c
    · rw [if_pos h1]
      by_cases h2 : 0 < d
      · rw [if_pos h2]
        cases hb : lastR b with
        | none => rfl
        | some r =>
          show some (max (r + (c - 1) * fin b) (r + (d - 1) * fin b + c * fin b)) = some (r + (c + d - 1) * fin b)
          have e1 : (c + d - 1) * fin b = (d - 1) * fin b + c * fin b := by rw [← Int.add_mul]; congr 1; omega
          have e2 : (c - 1) * fin b = c * fin b - fin b := by rw [Int.sub_mul, Int.one_mul]
          have e3 : 0 ≤ (d - 1) * fin b := Int.mul_nonneg (by omega) (by omega)
          congr 1
          omega
      · rw [if_neg h2]
        have e : d = 0 := by omega
        subst e
        rw [Int.add_zero]
        cases hb : lastR b with
        | none => rfl
        | some r => rfl
    · rw [if_neg h1]
      have e : c = 0 := by omega
      subst e
      rw [if_pos (by omega), Int.zero_mul, later_zero, Int.zero_add]
      cases hb : lastR b with
      | none => rfl
      | some r => rfl
  · intro a ha
    rw [sides, fins, fins, fins, fin, fin, bag, bag, bag, glue_nil, sides, sides, sides, loop_split hc hd a, fin]
    have e1 : [c * fin b, d * fin b].sum = (c + d) * fin b := by rw [Int.add_mul]; simp
    have e2 : shut (d * fin b ≤ a - c * fin b) (glueR (fun i => sides b (a - c * fin b - i * fin b)) d.toNat) = shut ((c + d) * fin b ≤ a) (glueR (fun i => sides b (a - c * fin b - i * fin b)) d.toNat) := by
      rw [Int.add_mul]
      unfold shut
      by_cases h3 : d * fin b ≤ a - c * fin b
      · rw [if_pos h3, if_pos (by omega)]
      · rw [if_neg h3, if_neg (by omega)]
    rw [e1, e2]
    exact shut_two (by rw [Int.add_mul]; omega) fun h4 => turns_neg h (by omega) _
theorem same_first (h : BodyF b) (hd : 0 ≤ d) : Same (.seq [b, .loop d b]) (.loop (d + 1) b) := by
  have hf := h.f1
  have hdf : 0 ≤ d * fin b := Int.mul_nonneg hd (by omega)
  have e1 : [fin b, d * fin b].sum = (d + 1) * fin b := by rw [Int.add_mul]; simp; omega
  refine ⟨?_, ?_, ?_⟩
  · rw [fin, fins, fins, fins, fin, fin]; exact e1
  · rw [lastR, lastS, lastS, lastS, lastR, lastR, lastOf_two, later_zero, Int.zero_add, if_pos (show 0 < d + 1 by omega)]
    by_cases h2 : 0 < d
    · rw [if_pos h2]
      cases hb : lastR b with
      | none => rfl
      | some r =>
        show some (max r (r + (d - 1) * fin b + fin b)) = some (r + (d + 1 - 1) * fin b)
        have e2 : (d - 1) * fin b = d * fin b - fin b := by rw [Int.sub_mul, Int.one_mul]
        have e3 : d + 1 - 1 = d := by omega
        rw [e3]
        congr 1
        omega
    · rw [if_neg h2]
      have e : d = 0 := by omega
      subst e
      cases hb : lastR b with
      | none => rfl
      | some r => show some r = some (r + (0 + 1 - 1) * fin b); congr 1; simp
  · intro a ha
    have e3 : d + 1 = 1 + d := by omega
    have e4 : sides (.loop (d + 1) b) a = shut ((d + 1) * fin b ≤ a) (glue (sides b a) (glueR (fun i => sides b (a - fin b - i * fin b)) d.toNat)) := by
      rw [sides, e3, loop_split (by omega) hd a]
      congr 2
      · show glue ([], []) (sides b (a - ((0 : Nat) : Int) * fin b)) = _
        rw [nil_glue]
        congr 1
        simp
      · rw [Int.one_mul]
    rw [e4, sides, fins, fins, fins, fin, e1, bag, bag, bag, glue_nil, sides]
    have e2 : shut (d * fin b ≤ a - fin b) (glueR (fun i => sides b (a - fin b - i * fin b)) d.toNat) = shut ((d + 1) * fin b ≤ a) (glueR (fun i => sides b (a - fin b - i * fin b)) d.toNat) := by
      rw [Int.add_mul, Int.one_mul]
      unfold shut
      by_cases h3 : d * fin b ≤ a - fin b
      · rw [if_pos h3, if_pos (by omega)]
      · rw [if_neg h3, if_neg (by omega)]
    rw [e2]
    by_cases h3 : (d + 1) * fin b ≤ a
    · simp only [shut_t h3]
    · simp only [shut_f h3]
      show (((sides b a).1 ++ (_ ++ _)) ++ ([] ++ (sides b a).2), _) = (((sides b a).1 ++ _) ++ (_ ++ (sides b a).2), _)
      simp
theorem same_last (h : BodyF b) (hd : 0 ≤ d) : Same (.seq [.loop d b, b]) (.loop (d + 1) b) := by
  have hf := h.f1
  have hdf : 0 ≤ d * fin b := Int.mul_nonneg hd (by omega)
  have e1 : [d * fin b, fin b].sum = (d + 1) * fin b := by rw [Int.add_mul]; simp
  refine ⟨?_, ?_, ?_⟩
  · rw [fin, fins, fins, fins, fin, fin]; exact e1
  · rw [lastR, lastS, lastS, lastS, lastR, lastR, lastOf_two, later_zero, Int.zero_add, fin, if_pos (show 0 < d + 1 by omega)]
    have e3 : d + 1 - 1 = d := by omega
    rw [e3]
    by_cases h2 : 0 < d
    · rw [if_pos h2]
      cases hb : lastR b with
      | none => rfl
      | some r =>
        show some (max (r + (d - 1) * fin b) (r + d * fin b)) = some (r + d * fin b)
        have e2 : (d - 1) * fin b = d * fin b - fin b := by rw [Int.sub_mul, Int.one_mul]
        congr 1
        omega
    · rw [if_neg h2]
      cases hb : lastR b with
      | none => rfl
      | some r => rfl
  · intro a ha
    have e4 : sides (.loop (d + 1) b) a = shut ((d + 1) * fin b ≤ a) (glue (glueR (fun i => sides b (a - i * fin b)) d.toNat) (sides b (a - d * fin b))) := by
      rw [sides, loop_split hd (by omega) a]
      congr 2
      show glue ([], []) (sides b (a - d * fin b - ((0 : Nat) : Int) * fin b)) = _
      rw [nil_glue]
      congr 1
      simp
    rw [e4, sides, fins, fins, fins, fin, e1, bag, bag, bag, glue_nil, sides, fin]
    exact shut_one (by rw [Int.add_mul]; omega) fun h3 => sides_neg b h.ok _ (by omega)
end
end L2.Aw
namespace L2.Aw
open PySem PySem.Spec PyProof.Rows
/-! the words are words -/
def Good (s : Sd) : Prop := (∀ x ∈ s.1, wdOk x = true) ∧ ∀ x ∈ s.2, wdOk x = true
theorem Good.nil : Good ([], []) := ⟨fun _ h => (nomatch h), fun _ h => (nomatch h)⟩
theorem Good.all {s : Sd} (h : Good s) : ∀ x ∈ s.1 ++ s.2, wdOk x = true := fun x hx => by
  rcases List.mem_append.mp hx with e | e
  · exact h.1 x e
  · exact h.2 x e
theorem Good.glue {a b : Sd} (ha : Good a) (hb : Good b) : Good (glue a b) := ⟨fun x hx => by
  rcases List.mem_append.mp hx with e | e
  · exact ha.1 x e
  · exact hb.1 x e, fun x hx => by
  rcases List.mem_append.mp hx with e | e
  · exact hb.2 x e
  · exact ha.2 x e⟩
theorem Good.shut {k : Prop} [Decidable k] {a : Sd} (ha : Good a) : Good (shut k a) := by
  unfold L2.Aw.shut
  split
  · exact ha
  · exact ⟨ha.all, fun _ h => nomatch h⟩
theorem Good.turns {f : Nat → Sd} (h : ∀ i, Good (f i)) : ∀ n, Good (glueR f n)
  | 0 => Good.nil
  | n + 1 => (Good.turns h n).glue (h n)
theorem Good.bes (key : Nat) : ∀ (ss : List Sd) (i : Nat) (acc : Sd), Good acc → (∀ s ∈ ss, Good s) → Good (besF key i acc ss)
  | [], _, _, ha, _ => ha
  | s :: ss, i, acc, ha, h => by
    have hs := h s List.mem_cons_self
    rw [besF]
    refine Good.bes key ss (i + 1) _ ?_ fun u hu => h u (List.mem_cons_of_mem _ hu)
    split
    · exact ⟨fun x hx => by
        rcases List.mem_append.mp hx with e | e
        · exact ha.1 x e
        · exact hs.all x e, ha.2⟩
    · split
      · exact ⟨fun x hx => by
          rcases List.mem_append.mp hx with e | e
          · exact ha.1 x e
          · exact hs.1 x e, hs.2⟩
      · exact ⟨ha.1, fun x hx => by
          rcases List.mem_append.mp hx with e | e
          · exact ha.2 x e
          · exact hs.all x e⟩
theorem good_sides : ∀ t, Ok t → ∀ a, Good (sides t a) := by
  intro t
  refine Tree.ind (P := fun t => Ok t → ∀ a, Good (sides t a)) ?_ ?_ ?_ ?_ ?_ ?_ ?_ t
  · intro w h a
    rw [Ok] at h
    rw [sides]
    split
    · exact ⟨fun x hx => by rw [List.mem_singleton.mp hx]; exact h, fun _ h => nomatch h⟩
    · exact Good.nil
  · intro n _ a; rw [sides]; exact Good.nil
  · intro ps ih h a
    rw [Ok] at h
    rw [sides]
    refine Good.shut ?_
    have go : ∀ (ps : List Tree) (a : Int), (∀ p ∈ ps, ∀ a, Good (sides p a)) → Good (bag ps a) := by
      intro ps
      induction ps with
      | nil => intro a _; rw [bag]; exact Good.nil
      | cons p ps ih => intro a h; rw [bag]; exact (h p List.mem_cons_self a).glue (ih _ fun q hq => h q (List.mem_cons_of_mem _ hq))
    exact go ps a fun p hp => ih p hp (h.1.mem hp)
  · intro p ih h a
    rw [Ok] at h
    rw [sides]
    exact ⟨(ih h a).all, fun _ h => nomatch h⟩
  · intro ps ih h a
    rw [Ok] at h
    rw [sides]
    refine Good.shut (Good.bes _ _ _ _ Good.nil fun s hs => ?_)
    rw [sidesL_map] at hs
    obtain ⟨p, hp, e⟩ := List.mem_map.mp hs
    rw [← e]; exact ih p hp (h.1.mem hp) a
  · intro ps ih h a
    rw [Ok] at h
    rw [sides]
    refine Good.shut (Good.bes _ _ _ _ Good.nil fun s hs => ?_)
    rw [sidesL_map] at hs
    obtain ⟨p, hp, e⟩ := List.mem_map.mp hs
    rw [← e]; exact ih p hp (h.1.mem hp) a
  · intro c b ih h a
    rw [Ok] at h
    rw [sides]
    exact Good.shut (Good.turns (fun i => ih h.1 _) _)
theorem wOk_map {l : List Wd} (h : ∀ x ∈ l, wdOk x = true) : (l.map wv).all wOk = true := List.all_eq_true.mpr fun w hw => by
  obtain ⟨x, hx, e⟩ := List.mem_map.mp hw
  rw [← e]; exact wv_ok (h x hx)
end L2.Aw

/-! raise (not reached), isinstance, range with a step. -/
namespace L2.Aw
open PySem PySem.Spec PyProof.Rows
section
variable {X : Cx} {pos : Pos} {e : Expr} {me : WE} {mes : WA} {st : Stmt}
/-- a value's type, as far as the model tells -/
def tyW (S : Store) : W → Option String
  | .non => some "NoneType"
  | .bl _ => some "bool"
  | .int _ => some "int"
  | .str _ => some "str"
  | .tup _ => some "tuple"
  | .fz _ => none
  | .ref i => match S[i]? with
    | some (.lst _) => some "list"
    | some (.dK _) => some "dict"
    | some (.dT _) => some "dict"
    | none => none
theorem tyW_of {K : PySem.W.Frag} {g : Gw} {w : W} {v : V} {t : String} (ok : g.Ok K) (r : g.WR K w v) (h : tyW g.S w = some t) : TyX K g.H v (.type t) := by
  cases w with
  | non => cases h; rw [r.non_inv]; exact .base .non
  | bl b => cases h; rw [r.bl_inv]; exact .base (.bl b)
  | int b => cases h; rw [r.int_inv]; exact .base (.int b)
  | str b => cases h; rw [r.str_inv]; exact .base (.str b)
  | tup ws =>
    cases h
    obtain ⟨a, xs, e, h1, _⟩ := r.tup_at
    rw [e]; exact .base (.tup h1)
  | fz ws => cases h
  | ref i =>
    have e := r.ref_inv.2
    subst e
    have h' : (match g.S[i]? with
      | some (.lst _) => some "list"
      | some (.dK _) => some "dict"
      | some (.dT _) => some "dict"
      | none => none) = some t := h
    cases ho : g.S[i]? with
    | none => rw [ho] at h'; cases h'
    | some o =>
      rw [ho] at h'
      obtain ⟨x, h1, h2⟩ := ok.at_ i o ho
      cases o with
      | lst ws => cases h'; obtain ⟨xs, e2, _⟩ := h2; subst e2; exact .base (.lst h1)
      | dK ws => cases h'; obtain ⟨xs, e2, _⟩ := h2; subst e2; exact .base (.dK h1)
      | dT ws => cases h'; obtain ⟨xs, e2, _⟩ := h2; subst e2; exact .base (.dT h1)
def mIsi (T : String) (m : WE) : WE := fun env S => (m env S).bind fun p => (tyW p.2 p.1).bind fun t => (kitB t T).map fun b => (.bl b, p.2)
theorem q_isi {p p2 : Pos} {x : Str} {T : String} (hg : Gl X "isinstance") (hm : X.mg "isinstance" = none) (hg2 : Gl X x) (hm2 : X.mg x = none) (hb : bootBuiltins x = some (.type T)) (bt : bootBuiltins "isinstance" = some (.builtin "isinstance")) (he : QE X e me)
    (hn : x ≠ "__name__" := by decide) (hd : (x == ("__debug__" : Str)) = false := by decide)
    (h1 : starEach [e, .Name x p2] X.env = (false, eval e X.env) :: starEach [.Name x p2] X.env := by rfl) (h2 : starEach [.Name x p2] X.env = (false, eval (.Name x p2) X.env) :: starEach [] X.env := by rfl)
    (hpl : (backTo pos (starEach [.Name x p2] X.env)).any (·.1) = false := by rfl) :
    QE X (.Call (.Name "isinstance" p) [e, .Name x p2] [] pos) (mIsi T me) :=
  PE.weak (pe_callB call_isi hg hm bt (pa_cons he (pa_cons (pe_bltn (v := .ty T) hg2 hm2 hb rfl hn hd) pa_nil h2) h1) (by decide) (by decide) h1 hpl) fun σ H Q ⟨g, env, w, S', hH, ok, er, hm, q⟩ => by
    obtain ⟨⟨y, S1⟩, e1, e2⟩ := bind1 hm
    obtain ⟨t, e3, e4⟩ := bind1 e2
    obtain ⟨b, e5, e6⟩ := map1 e4
    cases e6
    refine ⟨g, env, y, S1, hH, ok, er, e1, fun g1 h1 x1 ok1 v r => ?_⟩
    subst h1
    exact ⟨v, .ty T, .type t, .type T, b, rfl, .ty T, tyW_of ok1 r e3, kit_ty e5, q g1 rfl x1 ok1 _ .ofBl⟩
/-! ### range(i, j, -1) -/
def sRngD (lo : Int) (n : Nat) : Src := ⟨n, fun i _ => some (.int (lo + (i : Nat) * (-1))), fun _ => true⟩
theorem real_rngD {K : PySem.W.Frag} {g0 : Gw} {lo : Int} {n : Nat} : Real K g0 (sRngD lo n) (Itc lo (-1) n) := fun g x ok => by
  refine ⟨fun i w hi hw => ⟨hi, fun y H' hy => ?_⟩, fun _ => Nat.le_refl _⟩
  obtain ⟨e1, e2⟩ := hy
  have hw' : some (W.int (lo + (i : Nat) * (-1))) = some w := hw
  cases hw'
  subst e2
  exact ⟨g, e1.symm, rfl, Ext.refl g, ok, WR.ofInt⟩
def iRange3 (ma : WA) : WI := fun env S => (ma env S).bind fun p => match p.1 with
  | [.int i, .int j, .int c] => if c = -1 ∧ okRng i = true ∧ okRng j = true then some (sRngD i (i - j).toNat, p.2) else none
  | _ => none
theorem qi_range3 {tg a b c : Expr} {p : Pos} (hg : Gl X "range") (hm : X.mg "range" = none) (ha : QA X [a, b, c] mes) (hs : starEach [a, b, c] X.env = (false, eval a X.env) :: starEach [b, c] X.env := by rfl) (hpl : (backTo pos (starEach [b, c] X.env)).any (·.1) = false := by rfl) : QI X tg (.Call (.Name "range" p) [a, b, c] [] pos) (iRange3 mes) :=
  PI.weak (pi_range3 hg hm ha hs hpl) fun σ H R ⟨g, env, s, S', hH, ok, er, hm, q⟩ => by
    obtain ⟨⟨ws, S1⟩, e1, e2⟩ := bind1 hm
    refine ⟨g, env, ws, S1, hH, ok, er, e1, fun g1 h1 x1 ok1 vs r => ?_⟩
    split at e2
    · rename_i i j c heq
      have heq' : ws = [W.int i, W.int j, W.int c] := heq
      subst heq'
      split at e2
      · rename_i hz
        obtain ⟨hc, hi, hj⟩ := hz
        simp only [okRng, Bool.and_eq_true, decide_eq_true_eq] at hi hj
        cases e2
        subst hc
        obtain ⟨v, t, ev, rv, r2⟩ := r.cons_inv
        obtain ⟨v', t', ev', rv', r3⟩ := r2.cons_inv
        obtain ⟨v'', ev'', rv''⟩ := WRs.one r3
        subst ev'' ev' ev
        exact ⟨i, j, -1, (i - j).toNat, by rw [rv.int_inv, rv'.int_inv, rv''.int_inv], RgC.neg hi.1 hi.2 hj.1 hj.2, q g1 h1 x1 ok1 _ real_rngD⟩
      · cases e2
    · cases e2
end
end L2.Aw

/-! A queue of callbacks, as the laws run it; its jobs; what one round of it does. -/
namespace L2.Aw
inductive Fr where
  | none | seq (ps : List Tree) (f : Fr) | loop (n : Int) (b : Tree) (f : Fr) | par (j : Bool) (key : Nat) (f : Fr)
inductive Job where
  | beg (t : Tree) (f : Fr) (m : Int) | dn (f : Fr) (m : Int)
structure Ms where
  T : List Int
  F : List (Int × Wd)
  Q : List Job
def stepJ : Job → Ms → Ms × List Job
  | .beg (.log w) f m, σ => (⟨σ.T, σ.F ++ [(m, w)], σ.Q⟩, [.dn f m])
  | .beg (.await n) f m, σ => (⟨σ.T, σ.F, σ.Q ++ [if 1 < n then .beg (.await (n - 1)) f m else .dn f m]⟩, [])
  | .beg (.fork p) f m, σ => (σ, [.beg p .none m, .dn f m])
  | .beg (.seq ps) f m, σ => (σ, [.dn (.seq ps f) m])
  | .beg (.loop c b) f m, σ => (σ, [.dn (.loop c b f) m])
  | .beg (.join ps) f m, σ => (⟨σ.T ++ [(ps.length : Int)], σ.F, σ.Q⟩, ps.map fun p => .beg p (.par true σ.T.length f) m)
  | .beg (.race ps) f m, σ => (⟨σ.T ++ [1], σ.F, σ.Q⟩, ps.map fun p => .beg p (.par false σ.T.length f) m)
  | .dn .none m, σ => (σ, [])
  | .dn (.seq [] f) m, σ => (σ, [.dn f m])
  | .dn (.seq (p :: ps) f) m, σ => (σ, [.beg p (.seq ps f) m])
  | .dn (.loop n b f) m, σ => (σ, if n = 0 then [.dn f m] else [.beg b (.loop (n - 1) b f) m])
  | .dn (.par j key f) m, σ => (⟨σ.T.set key (σ.T.getD key 0 - 1), σ.F, σ.Q⟩, if σ.T.getD key 0 - 1 = 0 then [.dn f m] else [])
inductive Ex : List Job → Ms → Ms → Prop where
  | nil {σ : Ms} : Ex [] σ σ
  | cons {j : Job} {js : List Job} {σ σ' : Ms} (h : Ex ((stepJ j σ).2 ++ js) (stepJ j σ).1 σ') : Ex (j :: js) σ σ'
theorem Ex.app {a b : List Job} {σ σ1 σ2 : Ms} (h : Ex a σ σ1) (h2 : Ex b σ1 σ2) : Ex (a ++ b) σ σ2 := by
  induction h with
  | nil => exact h2
  | cons _ ih =>
    refine .cons ?_
    have q := ih h2
    rw [List.append_assoc] at q
    exact q
theorem Ex.one {j : Job} {σ σ' : Ms} (h : Ex (stepJ j σ).2 (stepJ j σ).1 σ') : Ex [j] σ σ' := .cons (by rw [List.append_nil]; exact h)
/-! ### what a round may change -/
/-- the own keys grow by new ones; other old keys stay -/
structure Gx (T : List Int) (K : List Nat) (T1 : List Int) (K1 : List Nat) : Prop where
  len : T.length ≤ T1.length
  sub : ∀ i ∈ K, i ∈ K1
  new : ∀ i ∈ K1, i ∈ K ∨ T.length ≤ i
  lt : ∀ i ∈ K1, i < T1.length
  out : ∀ i, i < T.length → i ∉ K → T1[i]? = T[i]?
def Agr (K : List Nat) (T T' : List Int) : Prop := ∀ i ∈ K, T'[i]? = T[i]?
def Dis (K K' : List Nat) : Prop := ∀ i ∈ K, i ∉ K'
theorem Gx.refl {T : List Int} {K : List Nat} (h : ∀ i ∈ K, i < T.length) : Gx T K T K := ⟨Nat.le_refl _, fun _ h => h, fun _ h => .inl h, h, fun _ _ _ => rfl⟩
theorem Agr.refl {K : List Nat} {T : List Int} : Agr K T T := fun _ _ => rfl
theorem Agr.trans {K : List Nat} {T T1 T2 : List Int} (a : Agr K T T1) (b : Agr K T1 T2) : Agr K T T2 := fun i h => (b i h).trans (a i h)
theorem Gx.trans {T T1 T2 : List Int} {K K1 K2 : List Nat} (a : Gx T K T1 K1) (b : Gx T1 K1 T2 K2) : Gx T K T2 K2 :=
  ⟨Nat.le_trans a.len b.len, fun i h => b.sub i (a.sub i h), fun i h => by
    rcases b.new i h with e | e
    · exact a.new i e
    · exact .inr (Nat.le_trans a.len e), b.lt, fun i h n => by
    have n1 : i ∉ K1 := fun z => by
      rcases a.new i z with e | e
      · exact n e
      · omega
    exact (b.out i (Nat.lt_of_lt_of_le h a.len) n1).trans (a.out i h n)⟩
/-- others' keys stay -/
theorem Gx.agr {T T1 : List Int} {K K1 K2 : List Nat} (a : Gx T K T1 K1) (h : ∀ i ∈ K2, i < T.length) (d : Dis K2 K) : Agr K2 T T1 := fun i hi => a.out i (h i hi) (d i hi)
theorem Gx.dis {T T1 : List Int} {K K1 K2 : List Nat} (a : Gx T K T1 K1) (h : ∀ i ∈ K2, i < T.length) (d : Dis K2 K) : Dis K2 K1 := fun i hi z => by
  rcases a.new i z with e | e
  · exact d i hi e
  · have := h i hi; omega
theorem Dis.symm {K K' : List Nat} (d : Dis K K') : Dis K' K := fun i h z => d i z h
theorem Gx.left {T T1 : List Int} {K K1 K2 : List Nat} (a : Gx T K T1 K1) (h : ∀ i ∈ K2, i < T.length) : Gx T (K ++ K2) T1 (K1 ++ K2) :=
  ⟨a.len, fun i hi => by
    rcases List.mem_append.mp hi with e | e
    · exact List.mem_append_left _ (a.sub i e)
    · exact List.mem_append_right _ e, fun i hi => by
    rcases List.mem_append.mp hi with e | e
    · rcases a.new i e with z | z
      · exact .inl (List.mem_append_left _ z)
      · exact .inr z
    · exact .inl (List.mem_append_right _ e), fun i hi => by
    rcases List.mem_append.mp hi with e | e
    · exact a.lt i e
    · exact Nat.lt_of_lt_of_le (h i e) a.len, fun i h n => a.out i h fun z => n (List.mem_append_left _ z)⟩
theorem Gx.right {T T1 : List Int} {K K1 K2 : List Nat} (a : Gx T K T1 K1) (h : ∀ i ∈ K2, i < T.length) : Gx T (K2 ++ K) T1 (K2 ++ K1) :=
  ⟨a.len, fun i hi => by
    rcases List.mem_append.mp hi with e | e
    · exact List.mem_append_left _ e
    · exact List.mem_append_right _ (a.sub i e), fun i hi => by
    rcases List.mem_append.mp hi with e | e
    · exact .inl (List.mem_append_left _ e)
    · rcases a.new i e with z | z
      · exact .inl (List.mem_append_right _ z)
      · exact .inr z, fun i hi => by
    rcases List.mem_append.mp hi with e | e
    · exact Nat.lt_of_lt_of_le (h i e) a.len
    · exact a.lt i e, fun i h n => a.out i h fun z => n (List.mem_append_right _ z)⟩
/-! ### a round with a hole in the middle -/
abbrev Mid := Ms → Ms → Prop
/-- two runs with the hole between (two), or one run in which the hole lies -/
def Rn (two : Prop) (L R : List Job) (X : Mid) (σ σ3 : Ms) : Prop := (two → ∃ σ1 σ2, Ex L σ σ1 ∧ X σ1 σ2 ∧ Ex R σ2 σ3) ∧ (¬ two → Ex (L ++ R) σ σ3)
abbrev Nx := List Int → List Job → List Job → List Nat → Prop
def Turn (T : List Int) (K : List Nat) (L R : List Job) (two : Prop) (X : Mid) (l r : List (Int × Wd)) (N : Nx) : Prop :=
  ∀ F Q, ∃ T1 L' K1, Gx T K T1 K1 ∧ ∀ T2 F2 Q2, X ⟨T1, F ++ l, Q ++ L'⟩ ⟨T2, F2, Q2⟩ → T1.length ≤ T2.length → Agr K1 T1 T2 →
    ∃ T3 R' K3, Rn two L R X ⟨T, F, Q⟩ ⟨T3, F2 ++ r, Q2 ++ R'⟩ ∧ Gx T2 K1 T3 K3 ∧ N T3 L' R' K3
/-- what is not changed by others -/
def Stable (N : Nx) : Prop := ∀ T T' L R K, N T L R K → Agr K T T' → N T' L R K
/-- one after another: the second lies in the hole of the first, two runs -/
theorem Turn.nest {T : List Int} {K1 K2 : List Nat} {L1 R1 L2 R2 : List Job} {two : Prop} {X : Mid} {l1 r1 l2 r2 : List (Int × Wd)} {N1 N2 : Nx}
    (h1 : Turn T K1 L1 R1 True (Rn two L2 R2 X) l1 r1 N1) (h2 : ∀ T1, T.length ≤ T1.length → Agr K2 T T1 → Turn T1 K2 L2 R2 two X l2 r2 N2) (hd : Dis K1 K2) (hK1 : ∀ i ∈ K1, i < T.length) (hK2 : ∀ i ∈ K2, i < T.length) (hS : Stable N2) :
    Turn T (K1 ++ K2) (L1 ++ L2) (R2 ++ R1) two X (l1 ++ l2) (r2 ++ r1) (fun T L R K => ∃ La Ra Ka Lb Rb Kb, N1 T La Ra Ka ∧ N2 T Lb Rb Kb ∧ L = La ++ Lb ∧ R = Rb ++ Ra ∧ K = Ka ++ Kb ∧ Dis Ka Kb ∧ (∀ i ∈ Ka, i < T.length) ∧ ∀ i ∈ Kb, i < T.length) := by
  intro F Q
  obtain ⟨T1, La, Ka, g1, c1⟩ := h1 F Q
  have a2 : Agr K2 T T1 := g1.agr hK2 hd.symm
  obtain ⟨T2, Lb, Kb, g2, c2⟩ := h2 T1 g1.len a2 (F ++ l1) (Q ++ La)
  have hK2' : ∀ i ∈ K2, i < T1.length := fun i hi => Nat.lt_of_lt_of_le (hK2 i hi) g1.len
  have d1 : Dis K2 Ka := g1.dis hK2 hd.symm
  have d2 : Dis Ka Kb := g2.dis g1.lt d1.symm
  refine ⟨T2, La ++ Lb, Ka ++ Kb, (g1.left hK2).trans (g2.right g1.lt), ?_⟩
  intro T3 F3 Q3 hX hlen hA
  rw [← List.append_assoc, ← List.append_assoc] at hX
  have hAa : Agr Ka T2 T3 := fun i hi => hA i (List.mem_append_left _ hi)
  have hAb : Agr Kb T2 T3 := fun i hi => hA i (List.mem_append_right _ hi)
  obtain ⟨T4, Rb, Kb', run2, g3, n2⟩ := c2 T3 F3 Q3 hX hlen hAb
  have ltA3 : ∀ i ∈ Ka, i < T3.length := fun i hi => Nat.lt_of_lt_of_le (Nat.lt_of_lt_of_le (g1.lt i hi) g2.len) hlen
  have agA : Agr Ka T1 T4 := ((g2.agr g1.lt d1.symm).trans hAa).trans (g3.agr ltA3 d2)
  obtain ⟨T5, Ra, Ka', run1, g4, n1⟩ := c1 T4 (F3 ++ r2) (Q3 ++ Rb) run2 (Nat.le_trans g2.len (Nat.le_trans hlen g3.len)) agA
  have d3 : Dis Ka Kb' := g3.dis ltA3 d2
  have d4 : Dis Kb' Ka' := g4.dis g3.lt d3.symm
  refine ⟨T5, Rb ++ Ra, Ka' ++ Kb', ?_, (g3.right ltA3).trans (g4.left g3.lt), La, Ra, Ka', Lb, Rb, Kb', n1, hS _ _ _ _ _ n2 (g4.agr g3.lt d3.symm), rfl, rfl, rfl, d4.symm, g4.lt, fun i hi => Nat.lt_of_lt_of_le (g3.lt i hi) g4.len⟩
  rw [← List.append_assoc, ← List.append_assoc]
  obtain ⟨σ1, σ2, x1, x2, x3⟩ := run1.1 trivial
  refine ⟨fun ht => ?_, fun ht => ?_⟩
  · obtain ⟨σ3, σ4, y1, y2, y3⟩ := x2.1 ht
    exact ⟨σ3, σ4, x1.app y1, y2, y3.app x3⟩
  · have y := x2.2 ht
    have z := (x1.app y).app x3
    rw [List.append_assoc, List.append_assoc] at z
    rw [List.append_assoc]
    exact z
/-- one after another: the second begins in the one run of the first -/
theorem Turn.begin_ {T : List Int} {K1 : List Nat} {L1 R1 : List Job} {j : Job} {two two1 : Prop} {X : Mid} {l1 r1 l2 r2 : List (Int × Wd)} {N1 N2 : Nx}
    (h1 : Turn T K1 L1 R1 two1 (Ex [j]) l1 r1 N1) (h2 : ∀ T1, Turn T1 [] [j] [] two X l2 r2 N2) (ht1 : ¬ two1) (ht : ¬ two) (hS : Stable N2) :
    Turn T K1 L1 R1 two X (l1 ++ l2) (r2 ++ r1) (fun T L R K => ∃ La Ra Ka Lb Rb Kb, N1 T La Ra Ka ∧ N2 T Lb Rb Kb ∧ L = La ++ Lb ∧ R = Rb ++ Ra ∧ K = Ka ++ Kb ∧ Dis Ka Kb ∧ (∀ i ∈ Ka, i < T.length) ∧ ∀ i ∈ Kb, i < T.length) := by
  intro F Q
  obtain ⟨T1, La, Ka, g1, c1⟩ := h1 F Q
  obtain ⟨T2, Lb, Kb, g2, c2⟩ := h2 T1 (F ++ l1) (Q ++ La)
  have d1 : Dis Ka [] := fun _ _ h => nomatch h
  have d2 : Dis Ka Kb := g2.dis g1.lt d1
  have g2' : Gx T1 Ka T2 (Ka ++ Kb) := by
    have z := g2.right g1.lt
    rw [List.append_nil] at z
    exact z
  refine ⟨T2, La ++ Lb, Ka ++ Kb, g1.trans g2', ?_⟩
  intro T3 F3 Q3 hX hlen hA
  rw [← List.append_assoc, ← List.append_assoc] at hX
  have hAa : Agr Ka T2 T3 := fun i hi => hA i (List.mem_append_left _ hi)
  have hAb : Agr Kb T2 T3 := fun i hi => hA i (List.mem_append_right _ hi)
  obtain ⟨T4, Rb, Kb', run2, g3, n2⟩ := c2 T3 F3 Q3 hX hlen hAb
  have ltA3 : ∀ i ∈ Ka, i < T3.length := fun i hi => Nat.lt_of_lt_of_le (Nat.lt_of_lt_of_le (g1.lt i hi) g2.len) hlen
  have agA : Agr Ka T1 T4 := ((g2.agr g1.lt d1).trans hAa).trans (g3.agr ltA3 d2)
  have run2' := run2.2 ht
  rw [List.append_nil] at run2'
  obtain ⟨T5, Ra, Ka', run1, g4, n1⟩ := c1 T4 (F3 ++ r2) (Q3 ++ Rb) run2' (Nat.le_trans g2.len (Nat.le_trans hlen g3.len)) agA
  have d3 : Dis Ka Kb' := g3.dis ltA3 d2
  have d4 : Dis Kb' Ka' := g4.dis g3.lt d3.symm
  refine ⟨T5, Rb ++ Ra, Ka' ++ Kb', ?_, (g3.right ltA3).trans (g4.left g3.lt), La, Ra, Ka', Lb, Rb, Kb', n1, hS _ _ _ _ _ n2 (g4.agr g3.lt d3.symm), rfl, rfl, rfl, d4.symm, g4.lt, fun i hi => Nat.lt_of_lt_of_le (g3.lt i hi) g4.len⟩
  rw [← List.append_assoc, ← List.append_assoc]
  exact ⟨fun h => absurd h ht, fun _ => run1.2 ht1⟩
end L2.Aw

/-! What of a begun program stands in the queue, and what a round does to it: the parts of a row, one part. -/
namespace L2.Aw
abbrev LP := Int → Fr → Int → Nx
def nextF : Fr → Fr
  | .seq (_ :: ps) f => .seq ps f
  | .loop n b f => .loop (n - 1) b f
  | f => f
/-- parts one after another -/
def chain : List (Int × LP) → LP
  | [] => fun _ _ _ _ L R K => L = [] ∧ R = [] ∧ K = []
  | (d, P) :: ps => fun k fr m T L R K => (k ≤ d ∧ P k (nextF fr) m T L R K) ∨ (d < k ∧ ∃ La Ra Ka Lb Rb Kb, P k (nextF fr) m T La Ra Ka ∧ chain ps (k - d) (nextF fr) m T Lb Rb Kb ∧ L = La ++ Lb ∧ R = Rb ++ Ra ∧ K = Ka ++ Kb ∧ Dis Ka Kb ∧ (∀ i ∈ Ka, i < T.length) ∧ ∀ i ∈ Kb, i < T.length)
abbrev JJ := List (List Job × List Job)
def flatJ : JJ → List Job
  | [] => []
  | p :: ps => (p.1 ++ p.2) ++ flatJ ps
/-- parts beside each other -/
def plist : List (Int × LP) → Int → Fr → Int → List Int → JJ → List Nat → Prop
  | [], _, _, _, _, A, K => A = [] ∧ K = []
  | (_, P) :: ps, k, fr, m, T, A, K => ∃ L1 R1 A2 K1 K2, P k fr m T L1 R1 K1 ∧ plist ps k fr m T A2 K2 ∧ A = (L1, R1) :: A2 ∧ K = K1 ++ K2 ∧ Dis K1 K2 ∧ (∀ i ∈ K1, i < T.length) ∧ ∀ i ∈ K2, i < T.length
def cntLt (k : Int) (ds : List Int) : Nat := (ds.filter fun d => decide (d < k)).length
def cntEq (k : Int) (ds : List Int) : Nat := (ds.filter fun d => decide (d = k)).length
def beside (ds : List Int) (Ps : List (Int × LP)) (kp : Nat) (j : Bool) (n : Int) : LP := fun k f m T L R K =>
  ∃ key A Ka Lp Rp Kp B Kb P, (Ps[kp]?).map (·.2) = some P ∧ T[key]? = some (n - cntLt k ds) ∧ plist (Ps.take kp) k (.par j key f) m T A Ka ∧ P k (.par j key f) m T Lp Rp Kp ∧ plist (Ps.drop (kp + 1)) k (.par j key f) m T B Kb ∧
    L = flatJ A ++ Lp ∧ R = Rp ++ flatJ B ∧ K = key :: (Ka ++ (Kp ++ Kb)) ∧ Dis Ka Kp ∧ Dis Ka Kb ∧ Dis Kp Kb ∧ key ∉ Ka ∧ key ∉ Kp ∧ key ∉ Kb ∧ (∀ i ∈ Ka, i < T.length) ∧ (∀ i ∈ Kp, i < T.length) ∧ ∀ i ∈ Kb, i < T.length
mutual
def Liv : Tree → LP
  | .log _ => fun _ _ _ _ L R K => L = [] ∧ R = [] ∧ K = []
  | .await n => fun k f m _ L R K => L = (if k < n then [.beg (.await (n - k)) f m] else if k = n then [.dn f m] else []) ∧ R = [] ∧ K = []
  | .seq ps => fun k f m T L R K => chain (LivL ps) k (.seq ps f) m T L R K
  | .fork p => fun k _ m T L R K => ∃ L0 R0, Liv p k .none m T L0 R0 K ∧ L = L0 ++ R0 ∧ R = []
  | .join ps => beside (fins ps) (LivL ps) (keyJ (fins ps)) true (ps.length : Int)
  | .race ps => beside (fins ps) (LivL ps) (keyR (fins ps)) false 1
  | .loop c b => fun k f m T L R K => chain (List.replicate c.toNat (fin b, Liv b)) k (.loop c b f) m T L R K
def LivL : List Tree → List (Int × LP)
  | [] => []
  | p :: ps => (fin p, Liv p) :: LivL ps
end
theorem LivL_map : ∀ ps, LivL ps = ps.map fun p => (fin p, Liv p)
  | [] => by rw [LivL]; rfl
  | p :: ps => by rw [LivL, LivL_map ps]; rfl
/-! ### what others change does not matter -/
def StP (P : LP) : Prop := ∀ k f m, Stable (P k f m)
theorem Agr.lt {K : List Nat} {T T' : List Int} (a : Agr K T T') (h : ∀ i ∈ K, i < T.length) : ∀ i ∈ K, i < T'.length := fun i hi => by
  have e := a i hi
  rw [List.getElem?_eq_getElem (h i hi)] at e
  exact (List.getElem?_eq_some_iff.mp e).1
theorem Agr.l {K K' : List Nat} {T T' : List Int} (a : Agr (K ++ K') T T') : Agr K T T' := fun i hi => a i (List.mem_append_left _ hi)
theorem Agr.r {K K' : List Nat} {T T' : List Int} (a : Agr (K ++ K') T T') : Agr K' T T' := fun i hi => a i (List.mem_append_right _ hi)
theorem chain_st : ∀ (Ps : List (Int × LP)), (∀ q ∈ Ps, StP q.2) → StP (chain Ps)
  | [], _ => fun _ _ _ _ _ _ _ _ h _ => h
  | (d, P) :: ps, h => fun k fr m T T' L R K hc ha => by
    have h1 := h (d, P) List.mem_cons_self
    have h2 := chain_st ps fun q hq => h q (List.mem_cons_of_mem _ hq)
    rcases hc with ⟨c1, c2⟩ | ⟨c1, La, Ra, Ka, Lb, Rb, Kb, p1, p2, e1, e2, e3, d1, b1, b2⟩
    · exact .inl ⟨c1, h1 _ _ _ _ _ _ _ _ c2 ha⟩
    · subst e3
      exact .inr ⟨c1, La, Ra, Ka, Lb, Rb, Kb, h1 _ _ _ _ _ _ _ _ p1 ha.l, h2 _ _ _ _ _ _ _ _ p2 ha.r, e1, e2, rfl, d1, ha.l.lt b1, ha.r.lt b2⟩
theorem plist_st : ∀ (Ps : List (Int × LP)), (∀ q ∈ Ps, StP q.2) → ∀ k fr m T T' A K, plist Ps k fr m T A K → Agr K T T' → plist Ps k fr m T' A K
  | [], _, _, _, _, _, _, _, _, h, _ => h
  | (d, P) :: ps, h, k, fr, m, T, T', A, K, hc, ha => by
    have h1 := h (d, P) List.mem_cons_self
    obtain ⟨L1, R1, A2, K1, K2, p1, p2, e1, e2, d1, b1, b2⟩ := hc
    subst e2
    exact ⟨L1, R1, A2, K1, K2, h1 _ _ _ _ _ _ _ _ p1 ha.l, plist_st ps (fun q hq => h q (List.mem_cons_of_mem _ hq)) k fr m T T' A2 K2 p2 ha.r, e1, rfl, d1, ha.l.lt b1, ha.r.lt b2⟩
theorem beside_st {ds : List Int} {Ps : List (Int × LP)} {kp : Nat} {j : Bool} {n : Int} (h : ∀ q ∈ Ps, StP q.2) : StP (beside ds Ps kp j n) := by
  intro k f m T T' L R K ⟨key, A, Ka, Lp, Rp, Kp, B, Kb, P, hP, hv, p1, p2, p3, e1, e2, e3, d1, d2, d3, n1, n2, n3, b1, b2, b3⟩ ha
  subst e3
  have aA : Agr Ka T T' := fun i hi => ha i (List.mem_cons_of_mem _ (List.mem_append_left _ hi))
  have aP : Agr Kp T T' := fun i hi => ha i (List.mem_cons_of_mem _ (List.mem_append_right _ (List.mem_append_left _ hi)))
  have aB : Agr Kb T T' := fun i hi => ha i (List.mem_cons_of_mem _ (List.mem_append_right _ (List.mem_append_right _ hi)))
  have hPm : StP P := by
    obtain ⟨q, q1, q2⟩ := Option.map_eq_some_iff.mp hP
    rw [← q2]
    exact h q (List.mem_of_getElem? q1)
  exact ⟨key, A, Ka, Lp, Rp, Kp, B, Kb, P, hP, (ha key List.mem_cons_self).trans hv, plist_st _ (fun q hq => h q (List.mem_of_mem_take hq)) _ _ _ _ _ _ _ p1 aA, hPm _ _ _ _ _ _ _ _ p2 aP, plist_st _ (fun q hq => h q (List.mem_of_mem_drop hq)) _ _ _ _ _ _ _ p3 aB, e1, e2, rfl, d1, d2, d3, n1, n2, n3, aA.lt b1, aP.lt b2, aB.lt b3⟩
theorem Liv_st : ∀ t, StP (Liv t) := by
  intro t
  have kids : ∀ ps : List Tree, (∀ p ∈ ps, StP (Liv p)) → ∀ q ∈ LivL ps, StP q.2 := fun ps h q hq => by
    rw [LivL_map] at hq
    obtain ⟨p, hp, e⟩ := List.mem_map.mp hq
    rw [← e]; exact h p hp
  refine Tree.ind (P := fun t => StP (Liv t)) ?_ ?_ ?_ ?_ ?_ ?_ ?_ t
  · intro w k f m T T' L R K h _; rw [Liv] at h ⊢; exact h
  · intro n k f m T T' L R K h _; rw [Liv] at h ⊢; exact h
  · intro ps ih k f m T T' L R K h a; rw [Liv] at h ⊢; exact chain_st _ (kids ps ih) _ _ _ _ _ _ _ _ h a
  · intro p ih k f m T T' L R K h a
    rw [Liv] at h ⊢
    obtain ⟨L0, R0, h1, h2, h3⟩ := h
    exact ⟨L0, R0, ih _ _ _ _ _ _ _ _ h1 a, h2, h3⟩
  · intro ps ih; rw [Liv]; exact beside_st (kids ps ih)
  · intro ps ih; rw [Liv]; exact beside_st (kids ps ih)
  · intro c b ih k f m T T' L R K h a
    rw [Liv] at h ⊢
    exact chain_st _ (fun q hq => by rw [List.eq_of_mem_replicate hq]; exact ih) _ _ _ _ _ _ _ _ h a
/-! ### words of a round, not shut -/
mutual
def raw : Tree → Int → Sd
  | .log w, a => if a = 0 then ([w], []) else ([], [])
  | .await _, _ => ([], [])
  | .seq ps, a => rawB ps a
  | .fork p, a => ((raw p a).1 ++ (raw p a).2, [])
  | .join ps, a => besF (keyJ (fins ps)) 0 ([], []) (rawL ps a)
  | .race ps, a => besF (keyR (fins ps)) 0 ([], []) (rawL ps a)
  | .loop c b, a => glueR (fun i => raw b (a - i * fin b)) c.toNat
def rawB : List Tree → Int → Sd
  | [], _ => ([], [])
  | p :: ps, a => glue (raw p a) (rawB ps (a - fin p))
def rawL : List Tree → Int → List Sd
  | [], _ => []
  | p :: ps, a => raw p a :: rawL ps a
end
theorem rawL_map (a : Int) : ∀ ps, rawL ps a = ps.map fun p => raw p a
  | [] => by rw [rawL]; rfl
  | p :: ps => by rw [rawL, rawL_map a ps]; rfl
/-! programs whose awaits and parts are in order -/
mutual
def Pq : Tree → Prop
  | .log _ => True
  | .await n => 1 ≤ n
  | .seq ps => Pqs ps
  | .fork p => Pq p
  | .join ps => Pqs ps ∧ ps ≠ []
  | .race ps => Pqs ps ∧ ps ≠ []
  | .loop c b => 0 ≤ c ∧ Pq b
def Pqs : List Tree → Prop
  | [] => True
  | t :: ts => Pq t ∧ Pqs ts
end
theorem Pqs.mem {t : Tree} : ∀ {ts : List Tree}, Pqs ts → t ∈ ts → Pq t
  | u :: us, h, hm => by
    rw [Pqs] at h
    rcases List.mem_cons.mp hm with e | e
    · rw [e]; exact h.1
    · exact Pqs.mem h.2 e
theorem sum_nn : ∀ {ns : List Int}, (∀ n ∈ ns, 0 ≤ n) → 0 ≤ ns.sum
  | [], _ => Int.le_refl _
  | n :: ns, h => by
    rw [List.sum_cons]
    have := h n List.mem_cons_self
    have := sum_nn (ns := ns) fun m hm => h m (List.mem_cons_of_mem _ hm)
    omega
theorem fin_nn : ∀ t, Pq t → 0 ≤ fin t := by
  intro t
  refine Tree.ind (P := fun t => Pq t → 0 ≤ fin t) ?_ ?_ ?_ ?_ ?_ ?_ ?_ t
  · intro w _; rw [fin]; omega
  · intro n h; rw [Pq] at h; rw [fin]; omega
  · intro ps ih h
    rw [Pq] at h
    rw [fin]
    refine sum_nn fun n hn => ?_
    obtain ⟨p, hp, e⟩ := mem_fins hn
    rw [e]; exact ih p hp (h.mem hp)
  · intro p _ _; rw [fin]; omega
  · intro ps ih h
    rw [Pq] at h
    rw [fin]
    obtain ⟨p, hp, e⟩ := mem_fins (lmax_mem (fins_ne h.2))
    rw [e]; exact ih p hp (h.1.mem hp)
  · intro ps ih h
    rw [Pq] at h
    rw [fin]
    obtain ⟨p, hp, e⟩ := mem_fins (lmin_mem (fins_ne h.2))
    rw [e]; exact ih p hp (h.1.mem hp)
  · intro c b ih h
    rw [Pq] at h
    rw [fin]
    exact Int.mul_nonneg h.1 (ih h.2)
end L2.Aw

/-! A round of the queue does what `raw` says. -/
namespace L2.Aw
theorem rawB_neg_of : ∀ (ps : List Tree) (a : Int), (∀ p ∈ ps, 0 ≤ fin p ∧ ∀ b, b < 0 → raw p b = ([], [])) → a < 0 → rawB ps a = ([], [])
  | [], _, _, _ => by rw [rawB]
  | p :: ps, a, h, ha => by
    have h1 := h p List.mem_cons_self
    rw [rawB, h1.2 a ha, rawB_neg_of ps (a - fin p) (fun q hq => h q (List.mem_cons_of_mem _ hq)) (by omega)]
    rfl
theorem raw_neg : ∀ t, Pq t → ∀ a, a < 0 → raw t a = ([], []) := by
  intro t
  have bes : ∀ (ps : List Tree) (key : Nat) (a : Int), (∀ p ∈ ps, raw p a = ([], [])) → besF key 0 ([], []) (rawL ps a) = ([], []) := fun ps key a h => by
    refine besF_nil key _ 0 fun s hs => ?_
    rw [rawL_map] at hs
    obtain ⟨p, hp, e⟩ := List.mem_map.mp hs
    rw [← e]; exact h p hp
  refine Tree.ind (P := fun t => Pq t → ∀ a, a < 0 → raw t a = ([], [])) ?_ ?_ ?_ ?_ ?_ ?_ ?_ t
  · intro w _ a h; rw [raw, if_neg (by omega)]
  · intro n _ a h; rw [raw]
  · intro ps ih h a ha
    rw [Pq] at h
    rw [raw, rawB_neg_of ps a (fun p hp => ⟨fin_nn p (h.mem hp), ih p hp (h.mem hp)⟩) ha]
  · intro p ih h a ha
    rw [Pq] at h
    rw [raw, ih h a ha]; rfl
  · intro ps ih h a ha
    rw [Pq] at h
    rw [raw]
    exact bes ps _ a fun p hp => ih p hp (h.1.mem hp) a ha
  · intro ps ih h a ha
    rw [Pq] at h
    rw [raw]
    exact bes ps _ a fun p hp => ih p hp (h.1.mem hp) a ha
  · intro c b ih h a ha
    rw [Pq] at h
    rw [raw, glueR_nil]
    intro i _
    have : 0 ≤ (i : Int) * fin b := Int.mul_nonneg (by omega) (fin_nn b h.2)
    exact ih h.2 _ (by omega)
theorem rawB_neg {ps : List Tree} (h : Pqs ps) {a : Int} (ha : a < 0) : rawB ps a = ([], []) :=
  rawB_neg_of ps a (fun p hp => ⟨fin_nn p (h.mem hp), raw_neg p (h.mem hp)⟩) ha
def wm (m : Int) (l : List Wd) : List (Int × Wd) := l.map fun w => (m, w)
theorem wm_app (m : Int) (a b : List Wd) : wm m (a ++ b) = wm m a ++ wm m b := List.map_append
/-- what a round does to a begun program -/
def Spec (J : Fr → Int → List Job) (P : LP) (d : Int) (s : Int → Sd) (dnf : Fr → Fr) (ok : Fr → Prop) : Prop :=
  ∀ k, 0 ≤ k → ∀ fr m T L R K (X : Mid), ok fr → (if k = 0 then L = J fr m ∧ R = [] ∧ K = [] else P k fr m T L R K) → (∀ i ∈ K, i < T.length) → (k = d → X = Ex [.dn (dnf fr) m]) → (k < d → X = fun a b => a = b) →
    Turn T K L R (d < k) X (wm m (s k).1) (wm m (s k).2) (P (k + 1) fr m)
def SpecT (t : Tree) : Prop := Spec (fun f m => [.beg t f m]) (Liv t) (fin t) (raw t) id (fun _ => True)
theorem Turn.congr {T : List Int} {K : List Nat} {L R : List Job} {two two' : Prop} {X : Mid} {l r l' r' : List (Int × Wd)} {N N' : Nx} (h : Turn T K L R two X l r N) (ht : two ↔ two') (hl : l = l') (hr : r = r') (hN : ∀ T L R K, (∀ i ∈ K, i < T.length) → N T L R K → N' T L R K) : Turn T K L R two' X l' r' N' := by
  subst hl hr
  intro F Q
  obtain ⟨T1, L', K1, g1, c1⟩ := h F Q
  refine ⟨T1, L', K1, g1, fun T2 F2 Q2 hX hlen hA => ?_⟩
  obtain ⟨T3, R', K3, run, g3, n3⟩ := c1 T2 F2 Q2 hX hlen hA
  exact ⟨T3, R', K3, ⟨fun h => run.1 (ht.mpr h), fun h => run.2 fun z => h (ht.mp z)⟩, g3, hN _ _ _ _ g3.lt n3⟩
/-- nothing stands in the queue any more -/
theorem Turn.idle {T : List Int} {two : Prop} {X : Mid} {N : Nx} (ht : two) (hN : ∀ T, N T [] [] []) : Turn T [] [] [] two X [] [] N := by
  intro F Q
  refine ⟨T, [], [], Gx.refl (fun _ h => nomatch h), fun T2 F2 Q2 hX hlen hA => ⟨T2, [], [], ⟨fun _ => ⟨⟨T, F, Q⟩, ⟨T2, F2, Q2⟩, .nil, ?_, ?_⟩, fun h => absurd ht h⟩, Gx.refl (fun _ h => nomatch h), hN T2⟩⟩
  · rw [List.append_nil, List.append_nil] at hX; exact hX
  · rw [List.append_nil, List.append_nil]; exact .nil
/-- one job makes way for another -/
theorem Turn.lift {T : List Int} {K : List Nat} {j j' : Job} {two : Prop} {X : Mid} {l r : List (Int × Wd)} {N : Nx} (hs : ∀ σ, stepJ j σ = (σ, [j'])) (ht : ¬ two) (h : Turn T K [j'] [] two X l r N) : Turn T K [j] [] two X l r N := by
  intro F Q
  obtain ⟨T1, L', K1, g1, c1⟩ := h F Q
  refine ⟨T1, L', K1, g1, fun T2 F2 Q2 hX hlen hA => ?_⟩
  obtain ⟨T3, R', K3, run, g3, n3⟩ := c1 T2 F2 Q2 hX hlen hA
  refine ⟨T3, R', K3, ⟨fun h => absurd h ht, fun h => .one ?_⟩, g3, n3⟩
  rw [hs]
  exact run.2 h
/-- a job that leads at once into the hole -/
theorem Turn.pass {T : List Int} {j j' : Job} {two : Prop} {N : Nx} {m : Int} {l : List Wd} (hs : ∀ σ, stepJ j σ = (⟨σ.T, σ.F ++ wm m l, σ.Q⟩, [j'])) (ht : ¬ two) (hN : ∀ T, N T [] [] []) : Turn T [] [j] [] two (Ex [j']) (wm m l) [] N := by
  intro F Q
  refine ⟨T, [], [], Gx.refl (fun _ h => nomatch h), fun T2 F2 Q2 hX hlen hA => ⟨T2, [], [], ⟨fun h => absurd h ht, fun _ => .one ?_⟩, Gx.refl (fun _ h => nomatch h), hN T2⟩⟩
  rw [hs, List.append_nil, List.append_nil]
  rw [List.append_nil] at hX
  exact hX
theorem spec_log (w : Wd) : SpecT (.log w) := by
  intro k hk f m T L R K X _ hst hK hXe hXl
  rw [fin] at hXe hXl ⊢
  by_cases h : k = 0
  · rw [if_pos h] at hst
    obtain ⟨e1, e2, e3⟩ := hst
    subst e1 e2 e3
    rw [hXe h, raw, if_pos h]
    exact Turn.pass (l := [w]) (fun σ => rfl) (by omega) (fun T => by rw [Liv]; exact ⟨rfl, rfl, rfl⟩)
  · rw [if_neg h, Liv] at hst
    obtain ⟨e1, e2, e3⟩ := hst
    subst e1 e2 e3
    rw [raw, if_neg h]
    exact Turn.idle (by omega) fun T => by rw [Liv]; exact ⟨rfl, rfl, rfl⟩
theorem spec_await {n : Int} (hn : 1 ≤ n) : SpecT (.await n) := by
  intro k hk f m T L R K X _ hst hK hXe hXl
  rw [fin] at hXe hXl ⊢
  rw [raw]
  by_cases h : k < n
  · rw [hXl h]
    have e : ∃ n', L = [.beg (.await n') f m] ∧ R = [] ∧ K = [] ∧ n' = n - k := by
      by_cases h0 : k = 0
      · rw [if_pos h0] at hst
        exact ⟨n, hst.1, hst.2.1, hst.2.2, by omega⟩
      · rw [if_neg h0, Liv, if_pos h] at hst
        exact ⟨n - k, hst.1, hst.2.1, hst.2.2, rfl⟩
    obtain ⟨n', e1, e2, e3, e4⟩ := e
    subst e1 e2 e3
    intro F Q
    refine ⟨T, [if 1 < n' then .beg (.await (n' - 1)) f m else .dn f m], [], Gx.refl (fun _ h => nomatch h), fun T2 F2 Q2 hX hlen hA => ⟨T2, [], [], ⟨fun h => by omega, fun _ => .one ?_⟩, Gx.refl (fun _ h => nomatch h), ?_⟩⟩
    · have hX' : (⟨T, F ++ [], Q ++ [if 1 < n' then .beg (.await (n' - 1)) f m else .dn f m]⟩ : Ms) = ⟨T2, F2, Q2⟩ := hX
      injection hX' with z1 z2 z3
      subst z1 z2 z3
      show Ex [] ⟨T, F, Q ++ [if 1 < n' then .beg (.await (n' - 1)) f m else .dn f m]⟩ ⟨T, F ++ [] ++ [], Q ++ [if 1 < n' then .beg (.await (n' - 1)) f m else .dn f m] ++ []⟩
      rw [List.append_nil, List.append_nil, List.append_nil]
      exact .nil
    · rw [Liv]
      refine ⟨?_, rfl, rfl⟩
      by_cases h1 : 1 < n'
      · rw [if_pos h1, if_pos (by omega)]
        congr 2
        congr 1
        omega
      · rw [if_neg h1, if_neg (by omega), if_pos (by omega)]
  · rw [if_neg (by omega), Liv, if_neg h] at hst
    by_cases h2 : k = n
    · rw [if_pos h2] at hst
      obtain ⟨e1, e2, e3⟩ := hst
      subst e1 e2 e3
      rw [hXe h2]
      intro F Q
      refine ⟨T, [], [], Gx.refl (fun _ h => nomatch h), fun T2 F2 Q2 hX hlen hA => ⟨T2, [], [], ⟨fun h => by omega, fun _ => ?_⟩, Gx.refl (fun _ h => nomatch h), ?_⟩⟩
      · have hX' : Ex [.dn f m] ⟨T, F ++ [], Q ++ []⟩ ⟨T2, F2, Q2⟩ := hX
        show Ex [.dn f m] ⟨T, F, Q⟩ ⟨T2, F2 ++ [], Q2 ++ []⟩
        rw [List.append_nil, List.append_nil] at hX' ⊢
        exact hX'
      · rw [Liv]
        refine ⟨?_, rfl, rfl⟩
        rw [if_neg (by omega), if_neg (by omega)]
    · rw [if_neg h2] at hst
      obtain ⟨e1, e2, e3⟩ := hst
      subst e1 e2 e3
      exact Turn.idle (by omega) fun T => by
        rw [Liv]
        refine ⟨?_, rfl, rfl⟩
        rw [if_neg (by omega), if_neg (by omega)]
/-! ### one after another -/
/-- what a frame of a row has still to do -/
inductive View : Fr → List Tree → Fr → Prop where
  | seq {ps : List Tree} {f : Fr} : View (.seq ps f) ps f
  | loop {n : Int} {b : Tree} {f : Fr} (h : 0 ≤ n) : View (.loop n b f) (List.replicate n.toNat b) f
theorem View.nil {fr f : Fr} {m : Int} (v : View fr [] f) (σ : Ms) : stepJ (.dn fr m) σ = (σ, [.dn f m]) := by
  generalize hp : ([] : List Tree) = ps at v
  cases v with
  | seq => rw [← hp]; rfl
  | loop h =>
    rename_i n b
    have : n.toNat = 0 := by
      cases e : n.toNat with
      | zero => rfl
      | succ i => rw [e, List.replicate_succ] at hp; cases hp
    have e : n = 0 := by omega
    subst e
    rfl
theorem View.cons {fr f : Fr} {m : Int} {p : Tree} {ps : List Tree} (v : View fr (p :: ps) f) : (∀ σ, stepJ (.dn fr m) σ = (σ, [.beg p (nextF fr) m])) ∧ View (nextF fr) ps f := by
  generalize hp : p :: ps = qs at v
  cases v with
  | seq => rw [← hp]; exact ⟨fun σ => rfl, .seq⟩
  | loop h =>
    rename_i n b
    cases e : n.toNat with
    | zero => rw [e] at hp; cases hp
    | succ i =>
      rw [e, List.replicate_succ] at hp
      obtain ⟨h1, h2⟩ := List.cons.inj hp
      subst h1 h2
      refine ⟨fun σ => ?_, ?_⟩
      · show (σ, if n = 0 then _ else _) = _
        rw [if_neg (by omega)]
        rfl
      · have e2 : i = (n - 1).toNat := by omega
        rw [e2]
        exact .loop (by omega)
theorem spec_chain : ∀ (ps : List Tree), (∀ p ∈ ps, SpecT p) → Pqs ps → ∀ f, Spec (fun fr m => [.dn fr m]) (chain (LivL ps)) (fins ps).sum (rawB ps) (fun _ => f) (fun fr => View fr ps f)
  | [], _, _, f => by
    intro k hk fr m T L R K X v hst hK hXe hXl
    have e0 : (fins []).sum = 0 := by rw [fins]; rfl
    rw [e0] at hXe hXl ⊢
    rw [rawB]
    by_cases h : k = 0
    · rw [if_pos h] at hst
      obtain ⟨e1, e2, e3⟩ := hst
      subst e1 e2 e3
      rw [hXe h]
      exact Turn.pass (l := []) (fun σ => by rw [v.nil σ]; show _ = ((⟨σ.T, σ.F ++ [], σ.Q⟩ : Ms), _); rw [List.append_nil]) (by omega) (fun T => by rw [LivL]; exact ⟨rfl, rfl, rfl⟩)
    · rw [if_neg h, LivL] at hst
      obtain ⟨e1, e2, e3⟩ := hst
      subst e1 e2 e3
      exact Turn.idle (by omega) fun T => by rw [LivL]; exact ⟨rfl, rfl, rfl⟩
  | p :: ps, hps, hq, f => by
    intro k hk fr m T L R K X v hst hK hXe hXl
    have hp := hps p List.mem_cons_self
    rw [Pqs] at hq
    have ih := spec_chain ps (fun q hq => hps q (List.mem_cons_of_mem _ hq)) hq.2 f
    obtain ⟨v1, v2⟩ := View.cons (m := m) v
    have d0 := fin_nn p hq.1
    have D0 : 0 ≤ (fins ps).sum := sum_nn fun n hn => by
      obtain ⟨q, h1, h2⟩ := mem_fins hn
      rw [h2]; exact fin_nn q (hq.2.mem h1)
    have e0 : (fins (p :: ps)).sum = fin p + (fins ps).sum := by rw [fins, List.sum_cons]
    rw [e0] at hXe hXl ⊢
    have hch : ∀ (P : Prop) , P → P := fun _ h => h
    have stP : StP (chain (LivL ps)) := chain_st _ fun q hq' => by
      rw [LivL_map] at hq'
      obtain ⟨u, _, e⟩ := List.mem_map.mp hq'
      rw [← e]; exact Liv_st u
    -- the first part has not ended ahead of this round
    have first : ∀ L0, k ≤ fin p → (if k = 0 then L0 = [.beg p (nextF fr) m] ∧ R = [] ∧ K = [] else Liv p k (nextF fr) m T L0 R K) → Turn T K L0 R (fin p + (fins ps).sum < k) X (wm m (rawB (p :: ps) k).1) (wm m (rawB (p :: ps) k).2) (chain (LivL (p :: ps)) (k + 1) fr m) := by
      intro L0 hkd hs0
      by_cases hlt : k < fin p
      · have t := hp k hk (nextF fr) m T L0 R K X trivial hs0 hK (fun e => by omega) (fun _ => hXl (by omega))
        have er : rawB (p :: ps) k = raw p k := by rw [rawB, rawB_neg hq.2 (by omega), glue_nil]
        rw [er]
        refine t.congr (by omega) rfl rfl fun T' L' R' K' _ n => ?_
        rw [LivL]
        exact .inl ⟨by omega, n⟩
      · have t := hp k hk (nextF fr) m T L0 R K (Ex [.dn (nextF fr) m]) trivial hs0 hK (fun _ => rfl) (fun e => by omega)
        have t2 : ∀ T1, Turn T1 [] [.dn (nextF fr) m] [] ((fins ps).sum < 0) X (wm m (rawB ps 0).1) (wm m (rawB ps 0).2) (chain (LivL ps) (0 + 1) (nextF fr) m) := fun T1 => ih 0 (by omega) (nextF fr) m T1 _ [] [] X v2 (by rw [if_pos rfl]; exact ⟨rfl, rfl, rfl⟩) (fun _ h => nomatch h) (fun e => hXe (by omega)) (fun e => hXl (by omega))
        have t3 := Turn.begin_ t t2 (by omega) (by omega) (stP _ _ _)
        have er : rawB (p :: ps) k = glue (raw p k) (rawB ps 0) := by rw [rawB]; congr 2; omega
        rw [er]
        refine t3.congr (by omega) (wm_app _ _ _).symm (wm_app _ _ _).symm fun T' L' R' K' _ n => ?_
        obtain ⟨La, Ra, Ka, Lb, Rb, Kb, n1, n2, e1, e2, e3, d1, b1, b2⟩ := n
        rw [LivL]
        refine .inr ⟨by omega, La, Ra, Ka, Lb, Rb, Kb, n1, ?_, e1, e2, e3, d1, b1, b2⟩
        have ek : k + 1 - fin p = 0 + 1 := by omega
        rw [ek]
        exact n2
    by_cases h : k = 0
    · rw [if_pos h] at hst
      obtain ⟨e1, e2, e3⟩ := hst
      subst e1 e2 e3
      exact Turn.lift v1 (by omega) (first [.beg p (nextF fr) m] (by omega) (by rw [if_pos h]; exact ⟨rfl, rfl, rfl⟩))
    · rw [if_neg h, LivL] at hst
      rcases hst with ⟨c1, c2⟩ | ⟨c1, La, Ra, Ka, Lb, Rb, Kb, p1, p2, e1, e2, e3, dd, b1, b2⟩
      · exact first L c1 (by rw [if_neg h]; exact c2)
      · subst e1 e2 e3
        have t := hp k hk (nextF fr) m T La Ra Ka (Rn ((fins ps).sum < k - fin p) Lb Rb X) trivial (by rw [if_neg h]; exact p1) b1 (fun e => by omega) (fun e => by omega)
        have t1 : Turn T Ka La Ra True (Rn ((fins ps).sum < k - fin p) Lb Rb X) (wm m (raw p k).1) (wm m (raw p k).2) (Liv p (k + 1) (nextF fr) m) := t.congr (by constructor <;> intro _ <;> (first | trivial | omega)) rfl rfl fun _ _ _ _ _ n => n
        have t2 : ∀ T1, T.length ≤ T1.length → Agr Kb T T1 → Turn T1 Kb Lb Rb ((fins ps).sum < k - fin p) X (wm m (rawB ps (k - fin p)).1) (wm m (rawB ps (k - fin p)).2) (chain (LivL ps) (k - fin p + 1) (nextF fr) m) := fun T1 hl ha =>
          ih (k - fin p) (by omega) (nextF fr) m T1 Lb Rb Kb X v2 (by rw [if_neg (by omega)]; exact stP _ _ _ _ _ _ _ _ p2 ha) (fun i hi => Nat.lt_of_lt_of_le (b2 i hi) hl) (fun e => hXe (by omega)) (fun e => hXl (by omega))
        have t3 := Turn.nest t1 t2 dd b1 b2 (stP _ _ _)
        rw [rawB]
        refine t3.congr (by omega) (wm_app _ _ _).symm (wm_app _ _ _).symm fun T' L' R' K' _ n => ?_
        obtain ⟨La', Ra', Ka', Lb', Rb', Kb', n1, n2, e1, e2, e3, d1, b1, b2⟩ := n
        rw [LivL]
        refine .inr ⟨by omega, La', Ra', Ka', Lb', Rb', Kb', n1, ?_, e1, e2, e3, d1, b1, b2⟩
        have ek : k + 1 - fin p = k - fin p + 1 := by omega
        rw [ek]
        exact n2
end L2.Aw

/-! A round of the queue: loops, forks, parts beside each other. -/
namespace L2.Aw
theorem raw_turns (b : Tree) : ∀ (n : Nat) (a : Int), glueR (fun i => raw b (a - i * fin b)) n = rawB (List.replicate n b) a
  | 0, a => by rw [List.replicate_zero, rawB]; rfl
  | n + 1, a => by
    rw [List.replicate_succ, rawB, ← raw_turns b n (a - fin b), Nat.add_comm n 1, glueR_add]
    congr 1
    · show glue ([], []) (raw b (a - ((0 : Nat) : Int) * fin b)) = _
      rw [nil_glue]
      congr 1
      simp
    · refine glueR_congr fun i _ => ?_
      congr 1
      have e : ((1 + i : Nat) : Int) * fin b = fin b + i * fin b := by
        rw [Int.natCast_add, Int.add_mul]; simp
      rw [e]
      omega
theorem fins_rep (b : Tree) : ∀ n : Nat, (fins (List.replicate n b)).sum = n * fin b
  | 0 => by rw [List.replicate_zero, fins]; simp
  | n + 1 => by
    rw [List.replicate_succ, fins, List.sum_cons, fins_rep b n, Int.natCast_add, Int.add_mul]
    simp
    omega
theorem Pqs.rep {b : Tree} (h : Pq b) : ∀ n : Nat, Pqs (List.replicate n b)
  | 0 => by rw [List.replicate_zero, Pqs]; trivial
  | n + 1 => by rw [List.replicate_succ, Pqs]; exact ⟨h, Pqs.rep h n⟩
theorem spec_row {t : Tree} {ps : List Tree} {mkF : Fr → Fr} (hl : ∀ k f m T L R K, Liv t k f m T L R K = chain (LivL ps) k (mkF f) m T L R K) (hr : ∀ a, raw t a = rawB ps a) (hd : fin t = (fins ps).sum) (hb : ∀ f m σ, stepJ (.beg t f m) σ = (σ, [.dn (mkF f) m])) (hv : ∀ f, View (mkF f) ps f) (h : ∀ p ∈ ps, SpecT p) (hq : Pqs ps) : SpecT t := by
  intro k hk f m T L R K X _ hst hK hXe hXl
  have D0 : 0 ≤ (fins ps).sum := sum_nn fun n hn => by
    obtain ⟨q, h1, h2⟩ := mem_fins hn
    rw [h2]; exact fin_nn q (hq.mem h1)
  rw [hd] at hXe hXl ⊢
  rw [hr]
  by_cases h0 : k = 0
  · rw [if_pos h0] at hst
    obtain ⟨e1, e2, e3⟩ := hst
    subst e1 e2 e3
    refine Turn.lift (hb f m) (by omega) ?_
    refine (spec_chain ps h hq f k hk (mkF f) m T [.dn (mkF f) m] [] [] X (hv f) (by rw [if_pos h0]; exact ⟨rfl, rfl, rfl⟩) hK hXe hXl).congr Iff.rfl rfl rfl fun T L R K _ n => ?_
    rw [hl]; exact n
  · rw [if_neg h0, hl] at hst
    refine (spec_chain ps h hq f k hk (mkF f) m T L R K X (hv f) (by rw [if_neg h0]; exact hst) hK hXe hXl).congr Iff.rfl rfl rfl fun T L R K _ n => ?_
    rw [hl]; exact n
theorem spec_seq {ps : List Tree} (h : ∀ p ∈ ps, SpecT p) (hq : Pqs ps) : SpecT (.seq ps) :=
  spec_row (mkF := fun f => .seq ps f) (fun k f m T L R K => by rw [Liv]) (fun a => by rw [raw]) (by rw [fin]) (fun f m σ => rfl) (fun f => .seq) h hq
theorem spec_loop {c : Int} {b : Tree} (h : SpecT b) (hc : 0 ≤ c) (hq : Pq b) : SpecT (.loop c b) :=
  spec_row (ps := List.replicate c.toNat b) (mkF := fun f => .loop c b f) (fun k f m T L R K => by rw [Liv, LivL_map, List.map_replicate]) (fun a => by rw [raw, raw_turns]) (by rw [fin, fins_rep]; congr 1; omega) (fun f m σ => rfl) (fun f => .loop hc) (fun p hp => by rw [List.eq_of_mem_replicate hp]; exact h) (Pqs.rep hq _)
def tw (s : Sd) : List Wd := s.1 ++ s.2
/-- a part whose end leads nowhere -/
theorem SpecT.close {p : Tree} (h : SpecT p) {k : Int} (hk : 0 ≤ k) {m : Int} {T : List Int} {L R : List Job} {K : List Nat} (hst : if k = 0 then L = [.beg p .none m] ∧ R = [] ∧ K = [] else Liv p k .none m T L R K) (hK : ∀ i ∈ K, i < T.length) (F : List (Int × Wd)) (Q : List Job) :
    ∃ T3 L' R' K3, Ex (L ++ R) ⟨T, F, Q⟩ ⟨T3, F ++ wm m (tw (raw p k)), Q ++ (L' ++ R')⟩ ∧ Gx T K T3 K3 ∧ Liv p (k + 1) .none m T3 L' R' K3 := by
  have fin_ : ∀ (X : Mid), (k = fin p → X = Ex [.dn .none m]) → (k < fin p → X = fun a b => a = b) → (∀ σ, X σ σ) → (fin p < k → ∀ σ σ', X σ σ' → σ = σ') → ∃ T3 L' R' K3, Ex (L ++ R) ⟨T, F, Q⟩ ⟨T3, F ++ wm m (tw (raw p k)), Q ++ (L' ++ R')⟩ ∧ Gx T K T3 K3 ∧ Liv p (k + 1) .none m T3 L' R' K3 := by
    intro X h1 h2 h3 h4
    obtain ⟨T1, L', K1, g1, c1⟩ := h k hk .none m T L R K X trivial hst hK h1 h2 F Q
    obtain ⟨T3, R', K3, run, g3, n3⟩ := c1 T1 _ _ (h3 _) (Nat.le_refl _) Agr.refl
    refine ⟨T3, L', R', K3, ?_, g1.trans g3, n3⟩
    rw [tw, wm_app, ← List.append_assoc, ← List.append_assoc]
    by_cases hd : fin p < k
    · obtain ⟨σ1, σ2, x1, x2, x3⟩ := run.1 hd
      rw [← h4 hd _ _ x2] at x3
      exact x1.app x3
    · exact run.2 hd
  by_cases hd : k = fin p
  · exact fin_ (Ex [.dn .none m]) (fun _ => rfl) (fun e => by omega) (fun σ => .one .nil) (fun e => by omega)
  · exact fin_ (fun a b => a = b) (fun e => absurd e hd) (fun _ => rfl) (fun _ => rfl) (fun _ _ _ e => e)
theorem spec_fork {p : Tree} (h : SpecT p) : SpecT (.fork p) := by
  intro k hk f m T L R K X _ hst hK hXe hXl
  rw [fin] at hXe hXl ⊢
  rw [raw]
  by_cases h0 : k = 0
  · rw [if_pos h0] at hst
    obtain ⟨e1, e2, e3⟩ := hst
    subst e1 e2 e3
    rw [hXe h0]
    intro F Q
    obtain ⟨T3, L', R', K3, run, g3, n3⟩ := h.close hk (m := m) (T := T) (L := [.beg p .none m]) (R := []) (K := []) (by rw [if_pos h0]; exact ⟨rfl, rfl, rfl⟩) (fun _ h => nomatch h) F Q
    refine ⟨T3, L' ++ R', K3, g3, fun T2 F2 Q2 hX hlen hA => ⟨T2, [], K3, ⟨fun h => by omega, fun _ => ?_⟩, ?_, ?_⟩⟩
    · refine .one ?_
      show Ex [.beg p .none m, .dn f m] ⟨T, F, Q⟩ ⟨T2, F2 ++ [], Q2 ++ []⟩
      rw [List.append_nil, List.append_nil]
      exact Ex.app (a := [.beg p .none m]) run hX
    · exact ⟨Nat.le_refl _, fun _ h => h, fun _ h => .inl h, hA.lt g3.lt, fun _ _ _ => rfl⟩
    · rw [Liv]
      rw [h0] at n3 ⊢
      exact ⟨L', R', Liv_st p _ _ _ _ _ _ _ _ n3 hA, rfl, rfl⟩
  · rw [if_neg h0, Liv] at hst
    obtain ⟨L0, R0, hl, e1, e2⟩ := hst
    subst e1 e2
    intro F Q
    obtain ⟨T3, L', R', K3, run, g3, n3⟩ := h.close hk (m := m) (T := T) (L := L0) (R := R0) (K := K) (by rw [if_neg h0]; exact hl) hK F Q
    refine ⟨T3, L' ++ R', K3, g3, fun T2 F2 Q2 hX hlen hA => ⟨T2, [], K3, ⟨fun _ => ⟨_, ⟨T2, F2, Q2⟩, run, hX, ?_⟩, fun h => by omega⟩, ?_, ?_⟩⟩
    · show Ex [] ⟨T2, F2, Q2⟩ ⟨T2, F2 ++ [], Q2 ++ []⟩
      rw [List.append_nil, List.append_nil]
      exact .nil
    · exact ⟨Nat.le_refl _, fun _ h => h, fun _ h => .inl h, hA.lt g3.lt, fun _ _ _ => rfl⟩
    · rw [Liv]
      exact ⟨L', R', Liv_st p _ _ _ _ _ _ _ _ n3 hA, rfl, rfl⟩
/-! ### parts beside each other -/
theorem Gx.perm {T T1 : List Int} {K K1 K' K1' : List Nat} (g : Gx T K T1 K1) (h : ∀ i, i ∈ K ↔ i ∈ K') (h1 : ∀ i, i ∈ K1 ↔ i ∈ K1') : Gx T K' T1 K1' :=
  ⟨g.len, fun i hi => (h1 i).mp (g.sub i ((h i).mpr hi)), fun i hi => by
    rcases g.new i ((h1 i).mpr hi) with e | e
    · exact .inl ((h i).mp e)
    · exact .inr e, fun i hi => g.lt i ((h1 i).mpr hi), fun i hi n => g.out i hi fun z => n ((h i).mp z)⟩
/-- an own key is set -/
theorem Gx.set {T : List Int} {K : List Nat} {key : Nat} {v : Int} (hk : key ∈ K) (h : ∀ i ∈ K, i < T.length) : Gx T K (T.set key v) K :=
  ⟨by rw [List.length_set]; exact Nat.le_refl _, fun _ h => h, fun _ h => .inl h, fun i hi => by rw [List.length_set]; exact h i hi, fun i _ n => List.getElem?_set_ne (show key ≠ i from fun e => n (e ▸ hk))⟩
theorem Agr.set {T : List Int} {K : List Nat} {key : Nat} {v : Int} (hk : key ∉ K) : Agr K T (T.set key v) := fun i hi => List.getElem?_set_ne (show key ≠ i from fun e => hk (e.symm ▸ hi))
/-- a part of a join or a race that is not the one that ends it -/
theorem SpecT.closeKey {p : Tree} (h : SpecT p) {k : Int} (hk : 0 ≤ k) {m : Int} {j : Bool} {key : Nat} {f : Fr} {v : Int} {T : List Int} {L R : List Job} {K : List Nat} (hst : if k = 0 then L = [.beg p (.par j key f) m] ∧ R = [] ∧ K = [] else Liv p k (.par j key f) m T L R K) (hK : ∀ i ∈ K, i < T.length) (hkey : key ∉ K) (hv : T[key]? = some v) (hz : fin p = k → v - 1 ≠ 0) (F : List (Int × Wd)) (Q : List Job) :
    ∃ T3 L' R' K3, Ex (L ++ R) ⟨T, F, Q⟩ ⟨T3, F ++ wm m (tw (raw p k)), Q ++ (L' ++ R')⟩ ∧ Gx T (key :: K) T3 (key :: K3) ∧ Liv p (k + 1) (.par j key f) m T3 L' R' K3 ∧ key ∉ K3 ∧ T3[key]? = some (if fin p = k then v - 1 else v) := by
  have hlt : key < T.length := (List.getElem?_eq_some_iff.mp hv).1
  have kdis : Dis [key] K := fun i hi => by rw [List.mem_singleton.mp hi]; exact hkey
  have klt : ∀ i ∈ [key], i < T.length := fun i hi => by rw [List.mem_singleton.mp hi]; exact hlt
  by_cases hd : k = fin p
  · obtain ⟨T1, L', K1, g1, c1⟩ := h k hk (.par j key f) m T L R K (Ex [.dn (.par j key f) m]) trivial hst hK (fun _ => rfl) (fun e => by omega) F Q
    have k1 : key ∉ K1 := (g1.dis klt kdis) key List.mem_cons_self
    have v1 : T1[key]? = some v := (g1.agr klt kdis key List.mem_cons_self).trans hv
    have l1 : key < T1.length := (List.getElem?_eq_some_iff.mp v1).1
    have gd : T1.getD key 0 = v := by rw [List.getD, v1]; rfl
    have hdn : Ex [.dn (.par j key f) m] ⟨T1, F ++ wm m (raw p k).1, Q ++ L'⟩ ⟨T1.set key (v - 1), F ++ wm m (raw p k).1, Q ++ L'⟩ := by
      refine .one ?_
      show Ex (if T1.getD key 0 - 1 = 0 then [.dn f m] else []) ⟨T1.set key (T1.getD key 0 - 1), _, _⟩ _
      rw [gd, if_neg (hz hd.symm)]
      exact .nil
    obtain ⟨T3, R', K3, run, g3, n3⟩ := c1 _ _ _ hdn (by rw [List.length_set]; exact Nat.le_refl _) (Agr.set k1)
    have kl2 : ∀ i ∈ [key], i < (T1.set key (v - 1)).length := fun i hi => by rw [List.mem_singleton.mp hi, List.length_set]; exact l1
    have kd2 : Dis [key] K1 := fun i hi => by rw [List.mem_singleton.mp hi]; exact k1
    refine ⟨T3, L', R', K3, ?_, ?_, n3, (g3.dis kl2 kd2) key List.mem_cons_self, ?_⟩
    · rw [tw, wm_app, ← List.append_assoc, ← List.append_assoc]
      exact run.2 (by omega)
    · have s1 : Gx T (key :: K) T1 (key :: K1) := g1.right (K2 := [key]) klt
      have s2 : Gx T1 (key :: K1) (T1.set key (v - 1)) (key :: K1) := Gx.set List.mem_cons_self s1.lt
      have s3 : Gx (T1.set key (v - 1)) (key :: K1) T3 (key :: K3) := g3.right (K2 := [key]) kl2
      exact (s1.trans s2).trans s3
    · rw [if_pos hd.symm, g3.agr kl2 kd2 key List.mem_cons_self, List.getElem?_set_self l1]
  · obtain ⟨T1, L', K1, g1, c1⟩ := h k hk (.par j key f) m T L R K (fun a b => a = b) trivial hst hK (fun e => absurd e hd) (fun _ => rfl) F Q
    obtain ⟨T3, R', K3, run, g3, n3⟩ := c1 _ _ _ rfl (Nat.le_refl _) Agr.refl
    have g := g1.trans g3
    refine ⟨T3, L', R', K3, ?_, g.right (K2 := [key]) klt, n3, (g.dis klt kdis) key List.mem_cons_self, ?_⟩
    · rw [tw, wm_app, ← List.append_assoc, ← List.append_assoc]
      by_cases hd2 : fin p < k
      · obtain ⟨σ1, σ2, x1, x2, x3⟩ := run.1 hd2
        have x2' : σ1 = σ2 := x2
        rw [← x2'] at x3
        exact x1.app x3
      · exact run.2 hd2
    · rw [if_neg fun e => hd e.symm, g.agr klt kdis key List.mem_cons_self]; exact hv
theorem cntEq_cons (k d : Int) (ds : List Int) : cntEq k (d :: ds) = (if d = k then 1 else 0) + cntEq k ds := by
  unfold cntEq
  rw [List.filter_cons]
  by_cases h : d = k
  · rw [if_pos (decide_eq_true h), if_pos h, List.length_cons]; omega
  · rw [if_neg (by simpa using h), if_neg h]; omega
theorem nk {k m : Int} (hk : 0 ≤ k) {j : Bool} {key : Nat} {f : Fr} : ∀ (ps : List Tree), (∀ p ∈ ps, SpecT p) → ∀ (v : Int) (T : List Int) (A : JJ) (K : List Nat), (if k = 0 then A = ps.map (fun p => ([Job.beg p (.par j key f) m], [])) ∧ K = [] else plist (LivL ps) k (.par j key f) m T A K) → (∀ i ∈ K, i < T.length) → key ∉ K → T[key]? = some v →
    (∀ i : Nat, 1 ≤ i → i ≤ cntEq k (fins ps) → v - i ≠ 0) → ∀ F Q, ∃ T3 A' K3, Ex (flatJ A) ⟨T, F, Q⟩ ⟨T3, F ++ wm m ((rawL ps k).flatMap tw), Q ++ flatJ A'⟩ ∧ Gx T (key :: K) T3 (key :: K3) ∧ plist (LivL ps) (k + 1) (.par j key f) m T3 A' K3 ∧ key ∉ K3 ∧ T3[key]? = some (v - cntEq k (fins ps))
  | [], _, v, T, A, K, hst, hK, hkey, hv, hz, F, Q => by
    have e : A = [] ∧ K = [] := by
      by_cases h0 : k = 0
      · rw [if_pos h0] at hst; exact hst
      · rw [if_neg h0, LivL] at hst; exact hst
    obtain ⟨e1, e2⟩ := e
    subst e1 e2
    have hlt : key < T.length := (List.getElem?_eq_some_iff.mp hv).1
    refine ⟨T, [], [], ?_, Gx.refl (fun i hi => by rw [List.mem_singleton.mp hi]; exact hlt), by rw [LivL]; exact ⟨rfl, rfl⟩, hkey, ?_⟩
    · rw [rawL]
      show Ex [] ⟨T, F, Q⟩ ⟨T, F ++ [], Q ++ []⟩
      rw [List.append_nil, List.append_nil]
      exact .nil
    · rw [fins, hv]
      show some v = some (v - ((0 : Nat) : Int))
      congr 1
      omega
  | p :: ps, hps, v, T, A, K, hst, hK, hkey, hv, hz, F, Q => by
    have e : ∃ L1 R1 A2 K1 K2, (if k = 0 then L1 = [.beg p (.par j key f) m] ∧ R1 = [] ∧ K1 = [] else Liv p k (.par j key f) m T L1 R1 K1) ∧ (if k = 0 then A2 = ps.map (fun p => ([Job.beg p (.par j key f) m], [])) ∧ K2 = [] else plist (LivL ps) k (.par j key f) m T A2 K2) ∧ A = (L1, R1) :: A2 ∧ K = K1 ++ K2 ∧ Dis K1 K2 ∧ (∀ i ∈ K1, i < T.length) ∧ ∀ i ∈ K2, i < T.length := by
      by_cases h0 : k = 0
      · rw [if_pos h0] at hst
        exact ⟨_, _, _, [], [], by rw [if_pos h0]; exact ⟨rfl, rfl, rfl⟩, by rw [if_pos h0]; exact ⟨rfl, rfl⟩, hst.1, hst.2, (fun _ h => nomatch h), (fun _ h => nomatch h), (fun _ h => nomatch h)⟩
      · rw [if_neg h0, LivL] at hst
        obtain ⟨L1, R1, A2, K1, K2, p1, p2, e1, e2, d1, b1, b2⟩ := hst
        exact ⟨L1, R1, A2, K1, K2, by rw [if_neg h0]; exact p1, by rw [if_neg h0]; exact p2, e1, e2, d1, b1, b2⟩
    obtain ⟨L1, R1, A2, K1, K2, p1, p2, e1, e2, d1, b1, b2⟩ := e
    subst e1 e2
    have nk1 : key ∉ K1 := fun z => hkey (List.mem_append_left _ z)
    have nk2 : key ∉ K2 := fun z => hkey (List.mem_append_right _ z)
    rw [fins, cntEq_cons] at hz
    obtain ⟨T1, L', R', K1', x1, g1, n1, q1, v1⟩ := (hps p List.mem_cons_self).closeKey hk p1 b1 nk1 hv (fun e => by have := hz 1 (Nat.le_refl _) (by rw [if_pos e]; omega); exact this) F Q
    have dk : Dis K2 (key :: K1) := fun i hi z => by
      rcases List.mem_cons.mp z with e | e
      · exact nk2 (e ▸ hi)
      · exact d1 i e hi
    have ag : Agr K2 T T1 := g1.agr b2 dk
    have b2' : ∀ i ∈ K2, i < T1.length := ag.lt b2
    have p2' : if k = 0 then A2 = ps.map (fun p => ([Job.beg p (.par j key f) m], [])) ∧ K2 = [] else plist (LivL ps) k (.par j key f) m T1 A2 K2 := by
      by_cases h0 : k = 0
      · rw [if_pos h0] at p2 ⊢; exact p2
      · rw [if_neg h0] at p2 ⊢
        exact plist_st _ (fun q hq' => by
          rw [LivL_map] at hq'
          obtain ⟨u, _, e⟩ := List.mem_map.mp hq'
          rw [← e]; exact Liv_st u) _ _ _ _ _ _ _ p2 ag
    obtain ⟨T2, A2', K2', x2, g2, n2, q2, v2⟩ := nk hk ps (fun q hq => hps q (List.mem_cons_of_mem _ hq)) (if fin p = k then v - 1 else v) T1 A2 K2 p2' b2' nk2 v1 (fun i h1 h2 => by
      by_cases e : fin p = k
      · rw [if_pos e]
        have := hz (1 + i) (by omega) (by rw [if_pos e]; omega)
        omega
      · rw [if_neg e]
        exact hz i h1 (by rw [if_neg e]; omega)) (F ++ wm m (tw (raw p k))) (Q ++ (L' ++ R'))
    have k1lt : ∀ i ∈ K1', i < T1.length := fun i hi => g1.lt i (List.mem_cons_of_mem _ hi)
    have dk0 : Dis K2 (key :: K1') := g1.dis b2 dk
    have dk1 : Dis K1' (key :: K2) := fun i hi z => by
      rcases List.mem_cons.mp z with e | e
      · exact q1 (e ▸ hi)
      · exact dk0 i e (List.mem_cons_of_mem _ hi)
    have dk2 : Dis K1' (key :: K2') := g2.dis k1lt dk1
    refine ⟨T2, (L', R') :: A2', K1' ++ K2', ?_, ?_, ?_, ?_, ?_⟩
    · rw [rawL, List.flatMap_cons, wm_app, ← List.append_assoc]
      show Ex ((L1 ++ R1) ++ flatJ A2) _ ⟨T2, _, Q ++ ((L' ++ R') ++ flatJ A2')⟩
      rw [← List.append_assoc Q]
      exact x1.app x2
    · have s1 : Gx T (key :: K1 ++ K2) T1 (key :: K1' ++ K2) := g1.left b2
      have s2 : Gx T1 (K1' ++ (key :: K2)) T2 (K1' ++ (key :: K2')) := g2.right k1lt
      have s3 : Gx T1 (key :: K1' ++ K2) T2 (key :: K1' ++ K2') := s2.perm (fun i => by simp [or_left_comm, or_assoc, or_comm]) (fun i => by simp [or_left_comm, or_assoc, or_comm])
      exact s1.trans s3
    · rw [LivL]
      exact ⟨L', R', A2', K1', K2', Liv_st p _ _ _ _ _ _ _ _ n1 (g2.agr k1lt dk1), n2, rfl, rfl, fun i hi z => dk2 i hi (List.mem_cons_of_mem _ z), (g2.agr k1lt dk1).lt k1lt, fun i hi => g2.lt i (List.mem_cons_of_mem _ hi)⟩
    · intro z
      rcases List.mem_append.mp z with e | e
      · exact q1 e
      · exact q2 e
    · rw [v2, fins, cntEq_cons]
      congr 1
      by_cases e : fin p = k
      · rw [if_pos e, if_pos e]; omega
      · rw [if_neg e, if_neg e]; omega
end L2.Aw

/-! A round of the queue: joins and races; every program. -/
namespace L2.Aw
theorem besF_post (kp : Nat) : ∀ (B : List Sd) (i : Nat) (acc : Sd), kp < i → besF kp i acc B = (acc.1, acc.2 ++ B.flatMap tw)
  | [], i, acc, _ => by rw [besF]; simp
  | s :: B, i, acc, h => by
    rw [besF, if_neg (by omega), if_neg (by omega), besF_post kp B (i + 1) (acc.1, acc.2 ++ (s.1 ++ s.2)) (by omega), List.flatMap_cons]
    simp [tw]
theorem besF_pre (kp : Nat) (s : Sd) (B : List Sd) : ∀ (A : List Sd) (i : Nat) (acc : Sd), i + A.length = kp → acc.2 = [] → besF kp i acc (A ++ s :: B) = (acc.1 ++ A.flatMap tw ++ s.1, s.2 ++ B.flatMap tw)
  | [], i, acc, h, h2 => by
    have e : i = kp := by simpa using h
    rw [List.nil_append, besF, if_neg (by omega), if_pos e, besF_post kp B (i + 1) _ (by omega)]
    simp
  | a :: A, i, acc, h, h2 => by
    rw [List.length_cons] at h
    rw [List.cons_append, besF, if_pos (by omega), besF_pre kp s B A (i + 1) (acc.1 ++ (a.1 ++ a.2), acc.2) (by omega) h2, List.flatMap_cons]
    simp [tw]
theorem besF_split {kp : Nat} {s : Sd} {A B : List Sd} (h : A.length = kp) : besF kp 0 ([], []) (A ++ s :: B) = (A.flatMap tw ++ s.1, s.2 ++ B.flatMap tw) := by
  rw [besF_pre kp s B A 0 _ (by omega) rfl]
  simp
theorem flatJ_one (ps : List Tree) (g : Tree → Job) : flatJ (ps.map fun p => ([g p], [])) = ps.map g := by
  induction ps with
  | nil => rfl
  | cons p ps ih => rw [List.map_cons, List.map_cons, flatJ, ih]; rfl
theorem cntEq_app (k : Int) (a b : List Int) : cntEq k (a ++ b) = cntEq k a + cntEq k b := by
  unfold cntEq
  rw [List.filter_append, List.length_append]
theorem cntLt_succ (k : Int) (ds : List Int) : cntLt (k + 1) ds = cntLt k ds + cntEq k ds := by
  unfold cntLt cntEq
  induction ds with
  | nil => rfl
  | cons d ds ih =>
    rw [List.filter_cons, List.filter_cons, List.filter_cons]
    by_cases h1 : d < k
    · rw [if_pos (decide_eq_true (show d < k + 1 by omega)), if_pos (decide_eq_true h1), if_neg (by simp; omega), List.length_cons, List.length_cons]; omega
    · by_cases h2 : d = k
      · rw [if_pos (decide_eq_true (show d < k + 1 by omega)), if_neg (by simpa using h1), if_pos (decide_eq_true h2), List.length_cons, List.length_cons]; omega
      · rw [if_neg (by simp; omega), if_neg (by simpa using h1), if_neg (by simpa using h2)]; exact ih
/-- the counting that lets just the key part end the whole -/
structure Keyed (ds : List Int) (kp : Nat) (n : Int) : Prop where
  pre : ∀ (k : Int) (i : Nat), 1 ≤ i → i ≤ cntEq k (ds.take kp) → n - cntLt k ds - i ≠ 0
  key : ∀ k d, ds[kp]? = some d → d = k → n - cntLt k ds - cntEq k (ds.take kp) - 1 = 0
  post : ∀ (k d : Int) (i : Nat), ds[kp]? = some d → 1 ≤ i → i ≤ cntEq k (ds.drop (kp + 1)) → n - cntLt k ds - cntEq k (ds.take kp) - (if d = k then 1 else 0) - i ≠ 0
theorem beside_core {ps : List Tree} {kp : Nat} {j : Bool} {n : Int} {pk : Tree} (hps : ∀ p ∈ ps, SpecT p) (hkp : ps[kp]? = some pk) (hc : Keyed (fins ps) kp n) {k : Int} (hk : 0 ≤ k) {f : Fr} {m : Int} {T : List Int} {X : Mid} {key : Nat} {A B : JJ} {Lp Rp : List Job} {Ka Kp Kb : List Nat} (hXe : k = fin pk → X = Ex [.dn f m]) (hXl : k < fin pk → X = fun a b => a = b)
    (sA : if k = 0 then A = (ps.take kp).map (fun p => ([Job.beg p (.par j key f) m], [])) ∧ Ka = [] else plist (LivL (ps.take kp)) k (.par j key f) m T A Ka)
    (sP : if k = 0 then Lp = [.beg pk (.par j key f) m] ∧ Rp = [] ∧ Kp = [] else Liv pk k (.par j key f) m T Lp Rp Kp)
    (sB : if k = 0 then B = (ps.drop (kp + 1)).map (fun p => ([Job.beg p (.par j key f) m], [])) ∧ Kb = [] else plist (LivL (ps.drop (kp + 1))) k (.par j key f) m T B Kb)
    (hv : T[key]? = some (n - cntLt k (fins ps))) (d1 : Dis Ka Kp) (d2 : Dis Ka Kb) (d3 : Dis Kp Kb) (n1 : key ∉ Ka) (n2 : key ∉ Kp) (n3 : key ∉ Kb) (b1 : ∀ i ∈ Ka, i < T.length) (b2 : ∀ i ∈ Kp, i < T.length) (b3 : ∀ i ∈ Kb, i < T.length) :
    Turn T (key :: (Ka ++ (Kp ++ Kb))) (flatJ A ++ Lp) (Rp ++ flatJ B) (fin pk < k) X (wm m (besF kp 0 ([], []) (rawL ps k)).1) (wm m (besF kp 0 ([], []) (rawL ps k)).2) (beside (fins ps) (LivL ps) kp j n (k + 1) f m) := by
  have stL : ∀ qs : List Tree, ∀ q ∈ LivL qs, StP q.2 := fun qs q hq => by
    rw [LivL_map] at hq
    obtain ⟨u, _, e⟩ := List.mem_map.mp hq
    rw [← e]; exact Liv_st u
  obtain ⟨hkl, hkg⟩ := List.getElem?_eq_some_iff.mp hkp
  have esp : ps = ps.take kp ++ pk :: ps.drop (kp + 1) := by
    rw [← hkg, ← List.drop_eq_getElem_cons hkl, List.take_append_drop]
  have efk : (fins ps)[kp]? = some (fin pk) := by rw [fins_map, List.getElem?_map, hkp]; rfl
  have eft : fins (ps.take kp) = (fins ps).take kp := by rw [fins_map, fins_map, List.map_take]
  have efd : fins (ps.drop (kp + 1)) = (fins ps).drop (kp + 1) := by rw [fins_map, fins_map, List.map_drop]
  have elt : LivL (ps.take kp) = (LivL ps).take kp := by rw [LivL_map, LivL_map, List.map_take]
  have eld : LivL (ps.drop (kp + 1)) = (LivL ps).drop (kp + 1) := by rw [LivL_map, LivL_map, List.map_drop]
  have ecnt : cntEq k (fins ps) = cntEq k ((fins ps).take kp) + ((if fin pk = k then 1 else 0) + cntEq k ((fins ps).drop (kp + 1))) := by
    have e : fins ps = (fins ps).take kp ++ fin pk :: (fins ps).drop (kp + 1) := by
      obtain ⟨h1, h2⟩ := List.getElem?_eq_some_iff.mp efk
      rw [← h2, ← List.drop_eq_getElem_cons h1, List.take_append_drop]
    have e2 : cntEq k (fins ps) = cntEq k ((fins ps).take kp ++ fin pk :: (fins ps).drop (kp + 1)) := by rw [← e]
    rw [e2, cntEq_app, cntEq_cons]
  have eraw : besF kp 0 ([], []) (rawL ps k) = ((rawL (ps.take kp) k).flatMap tw ++ (raw pk k).1, (raw pk k).2 ++ (rawL (ps.drop (kp + 1)) k).flatMap tw) := by
    have e : rawL ps k = rawL (ps.take kp) k ++ raw pk k :: rawL (ps.drop (kp + 1)) k := by
      rw [rawL_map, rawL_map, rawL_map]
      have e2 : ps.map (fun p => raw p k) = (ps.take kp ++ pk :: ps.drop (kp + 1)).map (fun p => raw p k) := by rw [← esp]
      rw [e2, List.map_append, List.map_cons]
    rw [e]
    exact besF_split (by rw [rawL_map, List.length_map, List.length_take]; omega)
  rw [eraw]
  have hlt : key < T.length := (List.getElem?_eq_some_iff.mp hv).1
  intro F Q
  -- the parts ahead of the key part
  obtain ⟨Ta, A', Ka', xA, gA, nA, qA, vA⟩ := nk hk (ps.take kp) (fun p hp => hps p (List.mem_of_mem_take hp)) _ T A Ka sA b1 n1 hv (fun i h1 h2 => hc.pre k i h1 (by rw [← eft]; exact h2)) F Q
  have dA : Dis (Kp ++ Kb) (key :: Ka) := fun i hi z => by
    rcases List.mem_cons.mp z with e | e
    · rcases List.mem_append.mp hi with y | y
      · exact n2 (e ▸ y)
      · exact n3 (e ▸ y)
    · rcases List.mem_append.mp hi with y | y
      · exact d1 i e y
      · exact d2 i e y
  have bPB : ∀ i ∈ Kp ++ Kb, i < T.length := fun i hi => by
    rcases List.mem_append.mp hi with y | y
    · exact b2 i y
    · exact b3 i y
  have agA : Agr (Kp ++ Kb) T Ta := gA.agr bPB dA
  have bPB1 : ∀ i ∈ Kp ++ Kb, i < Ta.length := agA.lt bPB
  have dA' : Dis (Kp ++ Kb) (key :: Ka') := gA.dis bPB dA
  -- the key part
  have sP' : if k = 0 then Lp = [.beg pk (.par j key f) m] ∧ Rp = [] ∧ Kp = [] else Liv pk k (.par j key f) m Ta Lp Rp Kp := by
    by_cases h0 : k = 0
    · rw [if_pos h0] at sP ⊢; exact sP
    · rw [if_neg h0] at sP ⊢; exact Liv_st pk _ _ _ _ _ _ _ _ sP agA.l
  have bKa' : ∀ i ∈ key :: Ka', i < Ta.length := gA.lt
  have dPk : Dis (key :: Ka') Kp := fun i hi z => dA' i (List.mem_append_left _ z) hi
  have bB1 : ∀ i ∈ Kb, i < Ta.length := fun i hi => bPB1 i (List.mem_append_right _ hi)
  have bP1 : ∀ i ∈ Kp, i < Ta.length := fun i hi => bPB1 i (List.mem_append_left _ hi)
  let va : Int := n - cntLt k (fins ps) - cntEq k (fins (ps.take kp))
  -- the rest of the proof, for the hole of the key part
  have go : ∀ (Xp : Mid) (δ : Int), δ = (if fin pk = k then 1 else 0) → (k = fin pk → Xp = Ex [.dn (.par j key f) m]) → (k < fin pk → Xp = fun a b => a = b) → (fin pk < k → Xp = X) →
      (∀ Tb F1 Q1 σ, Tb[key]? = some va → X ⟨if fin pk = k then Tb.set key (va - 1) else Tb, F1, Q1⟩ σ → Xp ⟨Tb, F1, Q1⟩ σ) →
      ∃ T1 L' K1, Gx T (key :: (Ka ++ (Kp ++ Kb))) T1 K1 ∧ ∀ T2 F2 Q2, X ⟨T1, F ++ wm m ((rawL (ps.take kp) k).flatMap tw ++ (raw pk k).1), Q ++ L'⟩ ⟨T2, F2, Q2⟩ → T1.length ≤ T2.length → Agr K1 T1 T2 →
        ∃ T3 R' K3, Rn (fin pk < k) (flatJ A ++ Lp) (Rp ++ flatJ B) X ⟨T, F, Q⟩ ⟨T3, F2 ++ wm m ((raw pk k).2 ++ (rawL (ps.drop (kp + 1)) k).flatMap tw), Q2 ++ R'⟩ ∧ Gx T2 K1 T3 K3 ∧ beside (fins ps) (LivL ps) kp j n (k + 1) f m T3 L' R' K3 := by
    intro Xp δ hδ hx1 hx2 hx3 hx4
    obtain ⟨Tb, Lp', Kp', gP, cP⟩ := hps pk (List.mem_of_getElem? hkp) k hk (.par j key f) m Ta Lp Rp Kp Xp trivial sP' bP1 hx1 hx2 (F ++ wm m ((rawL (ps.take kp) k).flatMap tw)) (Q ++ flatJ A')
    have dPk' : Dis (key :: Ka') Kp' := gP.dis bKa' dPk
    have dBP : Dis Kb Kp := d3.symm
    have dBP' : Dis Kb Kp' := gP.dis bB1 dBP
    have vb : Tb[key]? = some va := (gP.agr bKa' dPk key List.mem_cons_self).trans vA
    have lb : key < Tb.length := (List.getElem?_eq_some_iff.mp vb).1
    let Tb' : List Int := if fin pk = k then Tb.set key (va - 1) else Tb
    have lTb : Tb'.length = Tb.length := by
      show (if fin pk = k then Tb.set key (va - 1) else Tb).length = _
      split
      · rw [List.length_set]
      · rfl
    have vb' : Tb'[key]? = some (va - δ) := by
      show (if fin pk = k then Tb.set key (va - 1) else Tb)[key]? = _
      rw [hδ]
      split
      · rw [List.getElem?_set_self lb]
      · rw [vb, Int.sub_zero]
    -- keys
    have s1 : Gx T (key :: Ka ++ (Kp ++ Kb)) Ta (key :: Ka' ++ (Kp ++ Kb)) := gA.left bPB
    have s2 : Gx Ta (key :: Ka' ++ (Kp ++ Kb)) Tb (key :: Ka' ++ (Kp' ++ Kb)) := (gP.left bB1).right bKa'
    have s3 : Gx Tb (key :: Ka' ++ (Kp' ++ Kb)) Tb' (key :: Ka' ++ (Kp' ++ Kb)) := by
      show Gx Tb _ (if fin pk = k then Tb.set key (va - 1) else Tb) _
      split
      · exact Gx.set List.mem_cons_self s2.lt
      · exact Gx.refl s2.lt
    refine ⟨Tb', flatJ A' ++ Lp', key :: (Ka' ++ (Kp' ++ Kb)), (s1.trans s2).trans s3, ?_⟩
    intro T2 F2 Q2 hX hlen hA
    have aKa : Agr (key :: Ka') Tb' T2 := fun i hi => hA i (by
      rcases List.mem_cons.mp hi with e | e
      · rw [e]; exact List.mem_cons_self
      · exact List.mem_cons_of_mem _ (List.mem_append_left _ e))
    have aKp : Agr Kp' Tb' T2 := fun i hi => hA i (List.mem_cons_of_mem _ (List.mem_append_right _ (List.mem_append_left _ hi)))
    have aKb : Agr Kb Tb' T2 := fun i hi => hA i (List.mem_cons_of_mem _ (List.mem_append_right _ (List.mem_append_right _ hi)))
    have kP' : key ∉ Kp' := dPk' key List.mem_cons_self
    have stepA : ∀ K : List Nat, key ∉ K → Agr K Tb Tb' := fun K h => by
      show Agr K Tb (if fin pk = k then Tb.set key (va - 1) else Tb)
      split
      · exact Agr.set h
      · exact Agr.refl
    have kA' : key ∉ Ka' := qA
    obtain ⟨Tc, Rp', Kp'', run, gC, nC⟩ := cP T2 F2 Q2 (hx4 Tb _ _ _ vb (by rw [wm_app, ← List.append_assoc, ← List.append_assoc] at hX; exact hX)) (by rw [← lTb]; exact hlen) ((stepA Kp' kP').trans aKp)
    -- the parts behind
    have lt2a : ∀ i ∈ key :: Ka', i < T2.length := aKa.lt fun i hi => by rw [lTb]; exact Nat.lt_of_lt_of_le (bKa' i hi) gP.len
    have lt2b : ∀ i ∈ Kb, i < T2.length := aKb.lt fun i hi => by rw [lTb]; exact Nat.lt_of_lt_of_le (bB1 i hi) gP.len
    have agKb : Agr Kb T Tc := (((agA.r.trans (gP.agr bB1 dBP)).trans (stepA Kb n3)).trans aKb).trans (gC.agr lt2b dBP')
    have vc : Tc[key]? = some (va - δ) := ((gC.agr lt2a dPk' key List.mem_cons_self).trans (aKa key List.mem_cons_self)).trans vb'
    have sB' : if k = 0 then B = (ps.drop (kp + 1)).map (fun p => ([Job.beg p (.par j key f) m], [])) ∧ Kb = [] else plist (LivL (ps.drop (kp + 1))) k (.par j key f) m Tc B Kb := by
      by_cases h0 : k = 0
      · rw [if_pos h0] at sB ⊢; exact sB
      · rw [if_neg h0] at sB ⊢; exact plist_st _ (stL _) _ _ _ _ _ _ _ sB agKb
    obtain ⟨Td, B', Kb', xB, gB, nB, qB, vB⟩ := nk hk (ps.drop (kp + 1)) (fun p hp => hps p (List.mem_of_mem_drop hp)) _ Tc B Kb sB' (agKb.lt b3) n3 vc (fun i h1 h2 => by
      have z := hc.post k (fin pk) i efk h1 (by rw [← efd]; exact h2)
      rw [← eft, ← hδ] at z
      exact z) (F2 ++ wm m (raw pk k).2) (Q2 ++ Rp')
    -- keys again
    have dPk'' : Dis (key :: Ka') Kp'' := gC.dis lt2a dPk'
    have dBP'' : Dis Kb Kp'' := gC.dis lt2b dBP'
    have ltca : ∀ i ∈ Ka', i < Tc.length := fun i hi => Nat.lt_of_lt_of_le (lt2a i (List.mem_cons_of_mem _ hi)) gC.len
    have dAB : Dis Ka' (key :: Kb) := fun i hi z => by
      rcases List.mem_cons.mp z with e | e
      · exact kA' (e ▸ hi)
      · exact dA' i (List.mem_append_right _ e) (List.mem_cons_of_mem _ hi)
    have dPB : Dis Kp'' (key :: Kb) := fun i hi z => by
      rcases List.mem_cons.mp z with e | e
      · exact dPk'' key List.mem_cons_self (e ▸ hi)
      · exact dBP'' i e hi
    have dAB' : Dis Ka' (key :: Kb') := gB.dis ltca dAB
    have dPB' : Dis Kp'' (key :: Kb') := gB.dis gC.lt dPB
    have lt2k : ∀ i ∈ key :: Ka' ++ Kb, i < T2.length := fun i hi => by
      rcases List.mem_append.mp hi with e | e
      · exact lt2a i e
      · exact lt2b i e
    have r1 : Gx T2 ((key :: Ka' ++ Kb) ++ Kp') Tc ((key :: Ka' ++ Kb) ++ Kp'') := gC.right lt2k
    have ltcap : ∀ i ∈ Ka' ++ Kp'', i < Tc.length := fun i hi => by
      rcases List.mem_append.mp hi with e | e
      · exact ltca i e
      · exact gC.lt i e
    have r2 : Gx Tc ((Ka' ++ Kp'') ++ (key :: Kb)) Td ((Ka' ++ Kp'') ++ (key :: Kb')) := gB.right ltcap
    have r1' : Gx T2 (key :: (Ka' ++ (Kp' ++ Kb))) Tc (key :: (Ka' ++ (Kp'' ++ Kb))) := r1.perm (fun i => by simp [or_left_comm, or_assoc, or_comm]) (fun i => by simp [or_left_comm, or_assoc, or_comm])
    have r2' : Gx Tc (key :: (Ka' ++ (Kp'' ++ Kb))) Td (key :: (Ka' ++ (Kp'' ++ Kb'))) := r2.perm (fun i => by simp [or_left_comm, or_assoc, or_comm]) (fun i => by simp [or_left_comm, or_assoc, or_comm])
    have hsub : ∀ {T T' : List Int}, Agr (key :: Ka') T T' → Agr Ka' T T' := fun a i hi => a i (List.mem_cons_of_mem _ hi)
    have agAd : Agr Ka' Ta Td := ((((hsub (gP.agr bKa' dPk)).trans (stepA Ka' kA')).trans (hsub aKa)).trans (hsub (gC.agr lt2a dPk'))).trans (gB.agr ltca dAB)
    refine ⟨Td, Rp' ++ flatJ B', key :: (Ka' ++ (Kp'' ++ Kb')), ?_, r1'.trans r2', ?_⟩
    · rw [wm_app, ← List.append_assoc, ← List.append_assoc]
      refine ⟨fun ht => ?_, fun ht => ?_⟩
      · obtain ⟨σ1, σ2, y1, y2, y3⟩ := run.1 ht
        rw [hx3 ht] at y2
        exact ⟨σ1, σ2, xA.app y1, y2, y3.app xB⟩
      · have y := (xA.app (run.2 ht)).app xB
        rw [List.append_assoc, List.append_assoc] at y
        rw [List.append_assoc]
        exact y
    · refine ⟨key, A', Ka', Lp', Rp', Kp'', B', Kb', Liv pk, ?_, ?_, ?_, ?_, ?_, rfl, rfl, rfl, ?_, ?_, ?_, kA', ?_, qB, ?_, ?_, ?_⟩
      · rw [LivL_map, List.getElem?_map, hkp]; rfl
      · rw [vB, cntLt_succ, ecnt, efd]
        show some (n - cntLt k (fins ps) - cntEq k (fins (ps.take kp)) - δ - _) = _
        rw [hδ, eft]
        congr 1
        by_cases e : fin pk = k
        · rw [if_pos e, if_pos e]; omega
        · rw [if_neg e, if_neg e]; omega
      · rw [← elt]; exact plist_st _ (stL _) _ _ _ _ _ _ _ nA agAd
      · exact Liv_st pk _ _ _ _ _ _ _ _ nC (gB.agr gC.lt dPB)
      · rw [← eld]; exact nB
      · exact fun i hi z => dPk'' i (List.mem_cons_of_mem _ hi) z
      · exact fun i hi z => dAB' i hi (List.mem_cons_of_mem _ z)
      · exact fun i hi z => dPB' i hi (List.mem_cons_of_mem _ z)
      · exact dPk'' key List.mem_cons_self
      · exact fun i hi => Nat.lt_of_lt_of_le (ltca i hi) gB.len
      · exact fun i hi => Nat.lt_of_lt_of_le (gC.lt i hi) gB.len
      · exact fun i hi => gB.lt i (List.mem_cons_of_mem _ hi)
  by_cases h : k = fin pk
  · refine go (Ex [.dn (.par j key f) m]) _ rfl (fun _ => rfl) (fun e => by omega) (fun e => by omega) fun Tb F1 Q1 σ hb hX => ?_
    rw [if_pos h.symm, hXe h] at hX
    have gd : Tb.getD key 0 = va := by rw [List.getD, hb]; rfl
    refine .one ?_
    show Ex (if Tb.getD key 0 - 1 = 0 then [.dn f m] else []) ⟨Tb.set key (Tb.getD key 0 - 1), F1, Q1⟩ σ
    have z := hc.key k (fin pk) efk h.symm
    rw [← eft] at z
    rw [gd, if_pos z]
    exact hX
  · refine go X _ rfl (fun e => absurd e h) hXl (fun _ => rfl) fun Tb F1 Q1 σ hb hX => ?_
    rw [if_neg fun e => h e.symm] at hX
    exact hX
theorem spec_beside {t pk : Tree} {ps : List Tree} {kp : Nat} {j : Bool} {n : Int} (hl : Liv t = beside (fins ps) (LivL ps) kp j n) (hr : ∀ a, raw t a = besF kp 0 ([], []) (rawL ps a)) (hb : ∀ f m σ, stepJ (.beg t f m) σ = (⟨σ.T ++ [n], σ.F, σ.Q⟩, ps.map fun p => .beg p (.par j σ.T.length f) m)) (hps : ∀ p ∈ ps, SpecT p) (hkp : ps[kp]? = some pk) (hd : fin t = fin pk) (hc : Keyed (fins ps) kp n) (hq : Pqs ps) : SpecT t := by
  intro k hk f m T L R K X _ hst hK hXe hXl
  rw [hd] at hXe hXl ⊢
  rw [hr, hl]
  have hnn : ∀ p ∈ ps, 0 ≤ fin p := fun p hp => fin_nn p (hq.mem hp)
  by_cases h0 : k = 0
  · rw [if_pos h0] at hst
    obtain ⟨e1, e2, e3⟩ := hst
    subst e1 e2 e3
    have z0 : cntLt k (fins ps) = 0 := by
      unfold cntLt
      rw [List.filter_eq_nil_iff.mpr]
      · rfl
      · intro d hd' hlt
        obtain ⟨p, hp, e⟩ := mem_fins hd'
        have := hnn p hp
        have := of_decide_eq_true hlt
        omega
    have core := beside_core (j := j) (f := f) (m := m) (T := T ++ [n]) (X := X) (key := T.length) (A := (ps.take kp).map fun p => ([Job.beg p (.par j T.length f) m], [])) (B := (ps.drop (kp + 1)).map fun p => ([Job.beg p (.par j T.length f) m], [])) (Lp := [.beg pk (.par j T.length f) m]) (Rp := []) (Ka := []) (Kp := []) (Kb := []) hps hkp hc hk hXe hXl (by rw [if_pos h0]; exact ⟨rfl, rfl⟩) (by rw [if_pos h0]; exact ⟨rfl, rfl, rfl⟩) (by rw [if_pos h0]; exact ⟨rfl, rfl⟩) (by
      rw [List.getElem?_append_right (Nat.le_refl _), Nat.sub_self, z0]
      show some n = some (n - ((0 : Nat) : Int))
      congr 1
      omega) (fun _ h => nomatch h) (fun _ h => nomatch h) (fun _ h => nomatch h) (fun h => nomatch h) (fun h => nomatch h) (fun h => nomatch h) (fun _ h => nomatch h) (fun _ h => nomatch h) (fun _ h => nomatch h)
    intro F Q
    obtain ⟨T1, L', K1, g1, c1⟩ := core F Q
    have gg : Gx T [] T1 K1 := by
      have hlen : T.length + 1 ≤ T1.length := by
        have := g1.len
        rw [List.length_append, List.length_singleton] at this
        exact this
      refine ⟨by omega, (fun _ h => nomatch h), fun i hi => .inr ?_, g1.lt, fun i hi _ => ?_⟩
      · rcases g1.new i hi with e | e
        · have e' : i = T.length := List.mem_singleton.mp e
          omega
        · rw [List.length_append, List.length_singleton] at e
          omega
      · rw [g1.out i (by rw [List.length_append]; omega) (fun z => by
          have e' : i = T.length := List.mem_singleton.mp z
          omega)]
        exact List.getElem?_append_left hi
    refine ⟨T1, L', K1, gg, fun T2 F2 Q2 hX hlen hA => ?_⟩
    obtain ⟨T3, R', K3, run, g3, n3⟩ := c1 T2 F2 Q2 hX hlen hA
    have hnot : ¬ fin pk < k := by have := hnn pk (List.mem_of_getElem? hkp); omega
    refine ⟨T3, R', K3, ⟨fun h => absurd h hnot, fun _ => .one ?_⟩, g3, n3⟩
    rw [hb]
    have y := run.2 hnot
    have e : flatJ ((ps.take kp).map fun p => ([Job.beg p (.par j T.length f) m], [])) ++ [.beg pk (.par j T.length f) m] ++ ([] ++ flatJ ((ps.drop (kp + 1)).map fun p => ([Job.beg p (.par j T.length f) m], []))) = ps.map fun p => Job.beg p (.par j T.length f) m := by
      rw [flatJ_one, flatJ_one, List.nil_append]
      obtain ⟨hkl, hkg⟩ := List.getElem?_eq_some_iff.mp hkp
      have esp : ps = ps.take kp ++ pk :: ps.drop (kp + 1) := by
        rw [← hkg, ← List.drop_eq_getElem_cons hkl, List.take_append_drop]
      have e2 : (ps.map fun p => Job.beg p (.par j T.length f) m) = ((ps.take kp ++ pk :: ps.drop (kp + 1)).map fun p => Job.beg p (.par j T.length f) m) := by rw [← esp]
      rw [e2, List.map_append, List.map_cons, List.append_assoc]
      rfl
    rw [e] at y
    exact y
  · rw [if_neg h0, hl] at hst
    obtain ⟨key, A, Ka, Lp, Rp, Kp, B, Kb, P, hP, hv, p1, p2, p3, e1, e2, e3, d1, d2, d3, n1, n2, n3, b1, b2, b3⟩ := hst
    subst e1 e2 e3
    have eP : P = Liv pk := by
      rw [LivL_map, List.getElem?_map, hkp] at hP
      have hP' : some (Liv pk) = some P := hP
      cases hP'
      rfl
    subst eP
    have elt : LivL (ps.take kp) = (LivL ps).take kp := by rw [LivL_map, LivL_map, List.map_take]
    have eld : LivL (ps.drop (kp + 1)) = (LivL ps).drop (kp + 1) := by rw [LivL_map, LivL_map, List.map_drop]
    exact beside_core hps hkp hc hk hXe hXl (by rw [if_neg h0, elt]; exact p1) (by rw [if_neg h0]; exact p2) (by rw [if_neg h0, eld]; exact p3) hv d1 d2 d3 n1 n2 n3 b1 b2 b3
/-! ### which part ends the whole -/
theorem cnt_parts (k : Int) : ∀ ds : List Int, cntLt k ds + cntEq k ds ≤ ds.length ∧ ((∃ d ∈ ds, k < d) → cntLt k ds + cntEq k ds < ds.length) ∧ ((∀ d ∈ ds, d ≤ k) → cntLt k ds + cntEq k ds = ds.length) := by
  intro ds
  induction ds with
  | nil => exact ⟨Nat.le_refl _, fun ⟨d, h, _⟩ => (nomatch h), fun _ => rfl⟩
  | cons d ds ih =>
    obtain ⟨i1, i2, i3⟩ := ih
    have e : cntLt k (d :: ds) + cntEq k (d :: ds) = (if d ≤ k then 1 else 0) + (cntLt k ds + cntEq k ds) := by
      rw [cntEq_cons]
      unfold cntLt
      rw [List.filter_cons]
      by_cases h1 : d < k
      · rw [if_pos (decide_eq_true h1), if_neg (by omega), if_pos (by omega), List.length_cons]; omega
      · by_cases h2 : d = k
        · rw [if_neg (by simpa using h1), if_pos h2, if_pos (by omega)]; omega
        · rw [if_neg (by simpa using h1), if_neg h2, if_neg (by omega)]; omega
    rw [e, List.length_cons]
    refine ⟨by split <;> omega, fun ⟨x, hx, hk⟩ => ?_, fun h => ?_⟩
    · rcases List.mem_cons.mp hx with y | y
      · rw [if_neg (by omega)]; omega
      · have := i2 ⟨x, y, hk⟩
        split <;> omega
    · have := i3 fun x hx => h x (List.mem_cons_of_mem _ hx)
      rw [if_pos (h d List.mem_cons_self)]
      omega
theorem cntLt_pos {k d : Int} {ds : List Int} (h : d ∈ ds) (hk : d < k) : 1 ≤ cntLt k ds := by
  unfold cntLt
  exact List.length_pos_iff.mpr fun e => by
    have : d ∈ ds.filter fun d => decide (d < k) := List.mem_filter.mpr ⟨h, decide_eq_true hk⟩
    rw [e] at this
    cases this
theorem cntLt_zero {k : Int} {ds : List Int} (h : ∀ d ∈ ds, k ≤ d) : cntLt k ds = 0 := by
  unfold cntLt
  rw [List.filter_eq_nil_iff.mpr fun d hd hlt => by have := of_decide_eq_true hlt; have := h d hd; omega]
  rfl
theorem cntEq_mem {k : Int} {ds : List Int} (h : 1 ≤ cntEq k ds) : k ∈ ds := by
  unfold cntEq at h
  obtain ⟨d, hd⟩ := List.exists_mem_of_length_pos h
  obtain ⟨h1, h2⟩ := List.mem_filter.mp hd
  rw [← of_decide_eq_true h2]; exact h1
theorem cntEq_zero {k : Int} {ds : List Int} (h : k ∉ ds) : cntEq k ds = 0 := by
  cases e : cntEq k ds with
  | zero => rfl
  | succ n => exact absurd (cntEq_mem (by omega)) h
theorem split_at {ds : List Int} {kp : Nat} {d : Int} (h : ds[kp]? = some d) : ds = ds.take kp ++ d :: ds.drop (kp + 1) := by
  obtain ⟨h1, h2⟩ := List.getElem?_eq_some_iff.mp h
  rw [← h2, ← List.drop_eq_getElem_cons h1, List.take_append_drop]
theorem keyed_race {ds : List Int} (hn : ds ≠ []) : Keyed ds (keyR ds) 1 := by
  obtain ⟨h1, h2⟩ := keyR_at hn
  obtain ⟨hl, _, hb⟩ := List.findIdx?_eq_some_iff_getElem.mp h1
  have before : lmin ds ∉ ds.take (keyR ds) := fun z => by
    obtain ⟨i, hi, e⟩ := List.mem_iff_getElem.mp z
    rw [List.length_take] at hi
    have hi' : i < keyR ds := by omega
    have := hb i hi'
    rw [List.getElem_take] at e
    rw [e, beq_self_eq_true] at this
    exact this rfl
  have lo : ∀ d ∈ ds, lmin ds ≤ d := fun d hd => lmin_le hd
  have hmem : lmin ds ∈ ds := lmin_mem hn
  refine ⟨fun k i hi hc => ?_, fun k d hd e => ?_, fun k d i hd hi hc => ?_⟩
  · have hk : k ∈ ds.take (keyR ds) := cntEq_mem (by omega)
    have h3 : lmin ds < k := by
      have := lo k (List.mem_of_mem_take hk)
      by_cases e : lmin ds = k
      · rw [← e] at hk; exact absurd hk before
      · omega
    have := cntLt_pos hmem h3
    omega
  · rw [h2] at hd
    cases hd
    rw [← e, cntLt_zero lo, cntEq_zero before]
    simp
  · rw [h2] at hd
    cases hd
    have hk : k ∈ ds := List.mem_of_mem_drop (cntEq_mem (show 1 ≤ cntEq k (ds.drop (keyR ds + 1)) by omega))
    by_cases e : lmin ds = k
    · rw [if_pos e]; omega
    · have := cntLt_pos hmem (show lmin ds < k by have := lo k hk; omega)
      rw [if_neg e]; omega
theorem keyed_join {ds : List Int} (hn : ds ≠ []) : Keyed ds (keyJ ds) (ds.length : Int) := by
  obtain ⟨j, h1, h2, h3⟩ := keyJ_at hn
  obtain ⟨hl, _, hb⟩ := List.findIdx?_eq_some_iff_getElem.mp h1
  rw [List.length_reverse] at hl
  have behind : lmax ds ∉ ds.drop (keyJ ds + 1) := fun z => by
    obtain ⟨i, hi, e⟩ := List.mem_iff_getElem.mp z
    rw [List.length_drop] at hi
    rw [List.getElem_drop] at e
    have hlt : j - 1 - i < j := by omega
    have hx := hb (j - 1 - i) hlt
    rw [List.getElem_reverse] at hx
    have ei : ds.length - 1 - (j - 1 - i) = keyJ ds + 1 + i := by omega
    have e2 : ds[ds.length - 1 - (j - 1 - i)]'(by omega) = lmax ds := by
      rw [← e]
      congr 1
    rw [e2, beq_self_eq_true] at hx
    exact hx rfl
  have hi_ : ∀ d ∈ ds, d ≤ lmax ds := fun d hd => lmax_le hd
  have hmem : lmax ds ∈ ds := lmax_mem hn
  have ec : ∀ k, cntEq k ds = cntEq k (ds.take (keyJ ds)) + ((if lmax ds = k then 1 else 0) + cntEq k (ds.drop (keyJ ds + 1))) := fun k => by
    have e2 : cntEq k ds = cntEq k (ds.take (keyJ ds) ++ lmax ds :: ds.drop (keyJ ds + 1)) := by rw [← split_at h3]
    rw [e2, cntEq_app, cntEq_cons]
  refine ⟨fun k i hi hc => ?_, fun k d hd e => ?_, fun k d i hd hi hc => ?_⟩
  · have hk : k ∈ ds := List.mem_of_mem_take (cntEq_mem (show 1 ≤ cntEq k (ds.take (keyJ ds)) by omega))
    obtain ⟨c1, c2, c3⟩ := cnt_parts k ds
    have e := ec k
    by_cases e2 : lmax ds = k
    · rw [if_pos e2] at e; omega
    · have := c2 ⟨lmax ds, hmem, by have := hi_ k hk; omega⟩
      rw [if_neg e2] at e; omega
  · rw [h3] at hd
    cases hd
    obtain ⟨c1, c2, c3⟩ := cnt_parts k ds
    have c4 := c3 fun d hd => by rw [← e]; exact hi_ d hd
    have e3 := ec k
    rw [if_pos e, cntEq_zero (k := k) (ds := ds.drop (keyJ ds + 1)) (by rw [← e]; exact behind)] at e3
    omega
  · rw [h3] at hd
    cases hd
    have hk : k ∈ ds.drop (keyJ ds + 1) := cntEq_mem (k := k) (by omega)
    obtain ⟨c1, c2, c3⟩ := cnt_parts k ds
    have hne : ¬ lmax ds = k := fun e => behind (e ▸ hk)
    have := c2 ⟨lmax ds, hmem, by have := hi_ k (List.mem_of_mem_drop hk); omega⟩
    have e3 := ec k
    rw [if_neg hne] at e3 ⊢
    omega
/-- every program -/
theorem spec_all : ∀ t, Pq t → SpecT t := by
  intro t
  refine Tree.ind (P := fun t => Pq t → SpecT t) ?_ ?_ ?_ ?_ ?_ ?_ ?_ t
  · intro w _; exact spec_log w
  · intro n h; rw [Pq] at h; exact spec_await h
  · intro ps ih h; rw [Pq] at h; exact spec_seq (fun p hp => ih p hp (h.mem hp)) h
  · intro p ih h; rw [Pq] at h; exact spec_fork (ih h)
  · intro ps ih h
    rw [Pq] at h
    obtain ⟨_, _, _, h3⟩ := keyJ_at (fins_ne h.2)
    obtain ⟨pk, hq1, hq2⟩ := fins_get h3
    have e : (fins ps).length = ps.length := by rw [fins_map, List.length_map]
    exact spec_beside (t := .join ps) (by rw [Liv]) (fun a => by rw [raw]) (fun f m σ => rfl) (fun p hp => ih p hp (h.1.mem hp)) hq1 (by rw [fin, hq2]) (by rw [← e]; exact keyed_join (fins_ne h.2)) h.1
  · intro ps ih h
    rw [Pq] at h
    have h3 := (keyR_at (fins_ne h.2)).2
    obtain ⟨pk, hq1, hq2⟩ := fins_get h3
    exact spec_beside (t := .race ps) (by rw [Liv]) (fun a => by rw [raw]) (fun f m σ => rfl) (fun p hp => ih p hp (h.1.mem hp)) hq1 (by rw [fin, hq2]) (keyed_race (fins_ne h.2)) h.1
  · intro c b ih h; rw [Pq] at h; exact spec_loop (ih h.2) h.1 h.2
end L2.Aw

/-! xs != [], x in (..) of any depth, len of a dict, a tuple turned round. -/
namespace L2.Aw
open PySem PySem.Spec PyProof.Rows
section
variable {X : Cx}
/-- two lists of which one is empty -/
def rNeNil (K : PySem.W.Frag) : R2 := fun x y H Q => ∃ a b xs, x = .ref a ∧ y = .ref b ∧ SqL K H a xs ∧ SqL K H b [] ∧ Q (.bl (!xs.isEmpty)) H
theorem op_neNil (hu : X.A.units + 1 < cLine) : OpR X (compareOp .NotEq) (rNeNil X.K) := by
  intro pins s σ H x y v u Q I rx ry h
  obtain ⟨a, b, xs, rfl, rfl, ha, hb, q⟩ := h
  cases rx
  cases ry
  obtain ⟨its, r, p, _⟩ := I.list ha
  obtain ⟨its2, r2, p2, _⟩ := I.list hb
  cases r2
  cases r with
  | nil => exact SeqAt.RcNeAt.lists (e := fun _ => true) p.isList p2.isList rfl (by omega) (fun j h1 => absurd h1 (Nat.not_lt_zero _)) X.prog X.w X.xe _ ⟨.bl false, H, I, rfl, q⟩
  | cons h t => exact SeqAt.RcNeAt.lists_lengths p.isList p2.isList (by simp) (by omega) X.prog X.w X.xe _ ⟨.bl true, H, I, rfl, q⟩
theorem op_eqNil (hu : X.A.units + 1 < cLine) : OpR X (compareOp .Eq) (fun x y H Q => ∃ a b xs, x = .ref a ∧ y = .ref b ∧ SqL X.K H a xs ∧ SqL X.K H b [] ∧ Q (.bl xs.isEmpty) H) := by
  intro pins s σ H x y v u Q I rx ry h
  obtain ⟨a, b, xs, rfl, rfl, ha, hb, q⟩ := h
  cases rx
  cases ry
  obtain ⟨its, r, p, _⟩ := I.list ha
  obtain ⟨its2, r2, p2, _⟩ := I.list hb
  cases r2
  cases r with
  | nil => exact SeqAt.RcAt.lists (e := fun _ => true) p.isList p2.isList rfl (by omega) (fun j h1 => absurd h1 (Nat.not_lt_zero _)) X.prog X.w X.xe _ ⟨.bl true, H, I, rfl, q⟩
  | cons h t => exact SeqAt.RcAt.lists_lengths p.isList p2.isList (by simp) (by omega) X.prog X.w X.xe _ ⟨.bl false, H, I, rfl, q⟩
def wNeNil : W2 := fun x y S => match x, y with
  | .ref a, .ref b => (getL S a).bind fun ws => (getL S b).bind fun us => if us.isEmpty then some (.bl (!ws.isEmpty), S) else none
  | _, _ => none
def wEqNil : W2 := fun x y S => match x, y with
  | .ref a, .ref b => (getL S a).bind fun ws => (getL S b).bind fun us => if us.isEmpty then some (.bl ws.isEmpty, S) else none
  | _, _ => none
theorem wrs_empty {K : PySem.W.Frag} {g : Gw} {ws : List W} {xs : List V} (r : g.WRs K ws xs) : xs.isEmpty = ws.isEmpty := by
  have := r.length
  cases ws <;> cases xs <;> first | rfl | cases this
theorem Bin.neNil {K : PySem.W.Frag} : Bin K wNeNil (rNeNil K) := fun g x y v u w S' Q ok rx ry e q => by
  cases x with
  | ref a =>
    cases y with
    | ref b =>
      obtain ⟨ws, e1, e2⟩ := bind1 (show ((getL g.S a).bind fun ws => (getL g.S b).bind fun us => if us.isEmpty then some (W.bl (!ws.isEmpty), g.S) else none) = _ from e)
      obtain ⟨us, e3, e4⟩ := bind1 e2
      split at e4
      · rename_i hz
        obtain ⟨_, xs, h1, r1⟩ := getL_at ok e1
        obtain ⟨_, ys, h2, r2⟩ := getL_at ok e3
        have hy : ys = [] := by
          have := wrs_empty r2
          rw [hz] at this
          exact List.isEmpty_iff.mp this
        subst hy
        refine ⟨g.φ a, g.φ b, xs, rx.ref_inv.2, ry.ref_inv.2, SqL.of h1, SqL.of h2, ?_⟩
        rw [wrs_empty r1]
        exact Then.val ok e4 q .ofBl
      · cases e4
    | _ => cases e
  | _ => cases e
theorem Bin.eqNil {K : PySem.W.Frag} : Bin K wEqNil (fun x y H Q => ∃ a b xs, x = .ref a ∧ y = .ref b ∧ SqL K H a xs ∧ SqL K H b [] ∧ Q (.bl xs.isEmpty) H) := fun g x y v u w S' Q ok rx ry e q => by
  cases x with
  | ref a =>
    cases y with
    | ref b =>
      obtain ⟨ws, e1, e2⟩ := bind1 (show ((getL g.S a).bind fun ws => (getL g.S b).bind fun us => if us.isEmpty then some (W.bl ws.isEmpty, g.S) else none) = _ from e)
      obtain ⟨us, e3, e4⟩ := bind1 e2
      split at e4
      · rename_i hz
        obtain ⟨_, xs, h1, r1⟩ := getL_at ok e1
        obtain ⟨_, ys, h2, r2⟩ := getL_at ok e3
        have hy : ys = [] := by
          have := wrs_empty r2
          rw [hz] at this
          exact List.isEmpty_iff.mp this
        subst hy
        refine ⟨g.φ a, g.φ b, xs, rx.ref_inv.2, ry.ref_inv.2, SqL.of h1, SqL.of h2, ?_⟩
        rw [wrs_empty r1]
        exact Then.val ok e4 q .ofBl
      · cases e4
    | _ => cases e
  | _ => cases e
/-- x in (..), data of any depth -/
def rInT (K : PySem.W.Frag) : R2 := fun x y H Q => ∃ d ds, Dp K H x d ∧ Dp K H y (.tuple ds) ∧ SeqAt.shaped d = true ∧ SeqAt.shaped (.tuple ds) = true ∧ Q (.bl (ds.any fun z => PyData.eqv z d)) H
theorem op_inT (hu : X.A.units + 65 < cLine) : OpR X (compareOp .In) (rInT X.K) := by
  intro pins s σ H x y v u Q I rx ry h
  obtain ⟨d, ds, hd, he, sd, se, q⟩ := h
  obtain ⟨as, r1⟩ := Dp.reads I d x v hd rx
  obtain ⟨bs, r2⟩ := Dp.reads I (.tuple ds) y u he ry
  exact SeqAt.in_tuple_reads r2 r1 (SeqAt.canLay_of_shaped se) (SeqAt.canLay_of_shaped sd) (room_in_shaped sd hu) ⟨.bl _, H, I, rfl, q⟩
def wInT : W2 := fun x y S => match y with
  | .tup ws => (toP x).bind fun d => (toPs ws).bind fun ds => if SeqAt.shaped d && SeqAt.shaped (.tuple ds) then some (.bl (ds.any fun z => PyData.eqv z d), S) else none
  | _ => none
theorem Bin.inT {K : PySem.W.Frag} : Bin K wInT (rInT K) := fun g x y v u w S' Q ok rx ry e q => by
  cases y with
  | tup ws =>
    obtain ⟨d, e1, e2⟩ := bind1 (show ((toP x).bind fun d => (toPs ws).bind fun ds => if SeqAt.shaped d && SeqAt.shaped (.tuple ds) then some (W.bl (ds.any fun z => PyData.eqv z d), g.S) else none) = _ from e)
    obtain ⟨ds, e3, e4⟩ := bind1 e2
    split at e4
    · rename_i hz
      rw [Bool.and_eq_true] at hz
      exact ⟨d, ds, Dp.of x v d rx e1, Dp.of (.tup ws) u (.tuple ds) ry (by rw [toP, e3]; rfl), hz.1, hz.2, Then.val ok e4 q .ofBl⟩
    · cases e4
  | _ => cases e
theorem paired_len {α β : Type} {F : α → β → Prop} {xs : List α} {ys : List β} (h : Paired F xs ys) : xs.length = ys.length := by
  induction h with
  | nil => rfl
  | cons _ _ ih => rw [List.length_cons, List.length_cons, ih]
/-- len of a dict -/
def cLenD : FM := fun ws S => match ws with
  | [.ref i] => match S[i]? with
    | some (.dK kvs) => some (.int kvs.length, S)
    | _ => none
  | _ => none
theorem k_lenD : CallK X.K cLenD (fun xs H Q => ∃ a kvs, xs = [V.ref a] ∧ H a = some (.dK kvs) ∧ Q (.int kvs.length) H) := fun g ws vs w S' Q ok r h q => by
  cases ws with
  | nil => cases h
  | cons x t =>
    cases t with
    | cons y t => cases x <;> cases h
    | nil =>
      cases x with
      | ref i =>
        obtain ⟨v, ev, rv⟩ := WRs.one r
        subst ev
        have h' : (match g.S[i]? with
          | some (.dK kvs) => some (W.int kvs.length, g.S)
          | _ => none) = some (w, S') := h
        cases ho : g.S[i]? with
        | none => rw [ho] at h'; cases h'
        | some o =>
          rw [ho] at h'
          cases o with
          | dK kvs =>
            obtain ⟨x, h1, ys, e2, kr⟩ := ok.at_ i _ ho
            subst e2
            refine ⟨g.φ i, ys, by rw [rv.ref_inv.2], h1, ?_⟩
            have el : ys.length = kvs.length := (paired_len kr).symm
            rw [el]
            exact Then.val ok h' q WR.ofInt
          | lst ws => cases h'
          | dT ws => cases h'
      | _ => cases h
end
/-! ### a while without a bound -/
open Classical in
noncomputable def sWhileU (t : WT) (b : WS) : WS := fun env S => if h : ∃ n o, sWhile n t b env S = some o then sWhile h.choose t b env S else none
open Classical in
theorem qs_whileU {X : Cx} {pos : Pos} {c : Expr} {body : List Stmt} {t : WT} {b : WS} (h : ∀ n, QS X (.While c body [] pos) (sWhile n t b)) : QS X (.While c body [] pos) (sWhileU t b) := ⟨fun pins s σ H D I ⟨g, env, o, hH, ok, er, hm, q⟩ => by
  have hm' : (if h : ∃ n o, sWhile n t b env g.S = some o then sWhile h.choose t b env g.S else none) = some o := hm
  split at hm'
  · rename_i hx
    exact (h hx.choose).run pins s σ H D I ⟨g, env, o, hH, ok, er, hm', q⟩
  · cases hm'⟩
end L2.Aw

/-! t[::-1] of a tuple. -/
namespace L2.Aw
open PySem PySem.Spec PyProof.Rows HT
section
variable {prog : Program} {w : World} {A : Around} {E : Value → Shared → Prop} {s : Shared}
theorem slice_rev {sl : Addr} {vs : Value} {n : Nat} {Q : Int × Int × Nat → Shared → Prop} (hs : s.heap.IsSliceOf sl .none .none vs) (ps : IsPart vs (some (-1))) (h : Q ((n : Int) - 1, -1, n) s) : wpAny (model prog w) A (Builtin.Slice.sliceApplied (.ref sl) (pure (n : Int))) Q E s := by
  obtain ⟨os, hos, hcs, hds⟩ := id hs
  unfold Builtin.Slice.sliceApplied Builtin.Slice.sliceFields
  refine wpAny_bind (wpAny_bind (wpAny_field hos hds (x := .none) rfl (wpAny_bind (wpAny_field hos hds (x := .none) rfl (wpAny_bind (wpAny_field hos hds (x := vs) rfl (wpAny_pure ?_)))))))
  refine wpAny_bind (slicePart_ ps ?_)
  show wpAny _ _ (if ((-1 : Int) == 0) = true then _ else _) _ _ s
  rw [if_neg (by decide)]
  refine wpAny_bind (slicePart_none (wpAny_bind (slicePart_none (wpAny_bind (wpAny_pure ?_)))))
  show wpAny _ _ (match Builtin.Slice.sliceAdjust none none (-1) (n : Int) with | (lo, hi) => pure (lo, (-1 : Int), Builtin.Slice.slicePlaces lo hi (-1))) _ _ s
  have e1 : Builtin.Slice.sliceAdjust none none (-1) (n : Int) = ((n : Int) - 1, -1) := rfl
  rw [e1]
  show wpAny _ _ (pure ((n : Int) - 1, (-1 : Int), Builtin.Slice.slicePlaces ((n : Int) - 1) (-1) (-1))) _ _ s
  have e2 : Builtin.Slice.slicePlaces ((n : Int) - 1) (-1) (-1) = n := by
    unfold Builtin.Slice.slicePlaces
    have h1 : ¬ ((-1 : Int) > 0) := by omega
    simp only [h1, if_false]
    by_cases h2 : ((n : Int) - 1 > -1)
    · rw [if_pos h2]
      have e : ((n : Int) - 1 - -1 - 1) / -(-1) = (n : Int) - 1 := by
        have : -(-1 : Int) = 1 := rfl
        rw [this, Int.ediv_one]
        omega
      rw [e]
      omega
    · rw [if_neg h2]
      omega
  rw [e2]
  exact wpAny_pure h
theorem fm_congr {α β : Type} {f g : α → Option β} : ∀ {l : List α}, (∀ x ∈ l, f x = g x) → l.filterMap f = l.filterMap g
  | [], _ => rfl
  | x :: l, h => by rw [List.filterMap_cons, List.filterMap_cons, h x List.mem_cons_self, fm_congr fun y hy => h y (List.mem_cons_of_mem _ hy)]
theorem pick_rev (xs : Array Value) : ((List.range xs.size).filterMap fun (m : Nat) => xs[(((xs.size : Int) - 1) + (m : Int) * (-1)).toNat]?).toArray = xs.toList.reverse.toArray := by
  congr 1
  have e : (List.range xs.size).filterMap (fun (m : Nat) => xs[(((xs.size : Int) - 1) + (m : Int) * (-1)).toNat]?) = (List.range xs.size).filterMap (fun m => some (xs.toList.reverse[m]?.getD .none)) := by
    refine fm_congr fun m hm => ?_
    have hm' : m < xs.size := List.mem_range.mp hm
    have e2 : (((xs.size : Int) - 1) + (m : Int) * (-1)).toNat = xs.size - 1 - m := by omega
    rw [e2]
    have h2 : xs.size - 1 - m < xs.size := by omega
    rw [Array.getElem?_eq_getElem h2, List.getElem?_reverse (by simpa using hm')]
    have h3 : xs.toList[xs.toList.length - 1 - m]? = some xs[xs.size - 1 - m] := by simp [h2]
    rw [h3]
    rfl
  rw [e, List.filterMap_eq_map']
  apply List.ext_getElem?
  intro i
  rw [List.getElem?_map]
  by_cases h : i < xs.size
  · rw [List.getElem?_range h]
    show some (xs.toList.reverse[i]?.getD .none) = _
    have h2 : i < xs.toList.reverse.length := by simpa using h
    rw [List.getElem?_eq_getElem h2]
    rfl
  · rw [List.getElem?_eq_none (by rw [List.length_range]; omega), List.getElem?_eq_none (by simp; omega)]
    rfl
theorem getItem_tuple_rev {t sl : Addr} {items : Array Value} {vs : Value} {Q : Value → Shared → Prop} (ht : IsTup s.heap t items) (hs : s.heap.IsSliceOf sl .none .none vs) (ps : IsPart vs (some (-1)))
    (h : Q (.ref s.heap.objs.size) { s with heap := s.heap.push { cls := .type "tuple", data := .seq items.toList.reverse.toArray } }) (hsz : items.size ≤ sizeLine) : wpAny (model prog w) A (getItem (.ref t) (.ref sl)) Q E s := by
  have htake : sizeOk (.seq items.toList.reverse.toArray) := by
    show items.toList.reverse.toArray.size ≤ sizeLine
    simpa using hsz
  obtain ⟨os, hos, hcs, hds⟩ := id hs
  have hTs : s.TypeIs (.ref sl) "slice" := ⟨os, hos, hcs⟩
  unfold getItem
  try with_reducible refine wpAny_holding ?_
  first | refine wpAny_bind (wpAny_pure ?_) | skip
  refine wpAny_bind (wpAny_sequenceKey ht.typeIs (by decide) ?_)
  refine wpAny_bind (wpAny_callSpecial?_slot (name := Str.ofString "__getitem__") ht.typeIs PyProof.Rows.slot_tuple_getitem
    (wpAny_call_entry PyProof.Rows.slot_tuple_getitem ht.typeIs entry_tuple_getitem ?_ (args_tuple_getitem _ _)))
  show wpAny _ _ (Builtin.Tuple.tupleItemsOf (.ref t) >>= _) _ _ s
  refine wpAny_bind (tupleItemsOf_ ht ?_)
  refine wpAny_bind (wpAny_typeOf hTs ?_)
  rw [if_pos (by decide)]
  refine wpAny_bind (slice_rev hs ps ?_)
  have hno : ¬ ((((items.size : Int) - 1) == 0 && (-1 : Int) == 1 && items.size == items.size) = true) := by
    intro q
    rw [Bool.and_eq_true, Bool.and_eq_true] at q
    exact absurd (eq_of_beq q.1.2) (by decide)
  show wpAny _ _ (if (((items.size : Int) - 1) == 0 && (-1 : Int) == 1 && items.size == items.size) = true then _ else _) _ _ s
  rw [if_neg hno, pick_rev]
  first
    | exact wpAny_bind (m := Builtin.Tuple.tupleExact _) (wpAny_newObj_type (wpAny_pure ⟨_, rfl, wpAny_pure h⟩) htake)
    | exact wpAny_bind (m := Builtin.Tuple.tupleExact _) (wpAny_newObj_type (wpAny_bind (wpAny_pure (wpAny_pure ⟨_, rfl, wpAny_pure h⟩))) htake)
    | exact wpAny_bind (wpAny_bind (m := Builtin.Tuple.tupleExact _) (wpAny_newObj_type (wpAny_pure (wpAny_pure ⟨_, rfl, wpAny_pure h⟩)) htake))
    | exact wpAny_bind (wpAny_bind (m := Builtin.Tuple.tupleExact _) (wpAny_newObj_type (wpAny_pure ⟨_, rfl, wpAny_pure h⟩) htake))
end
def tRevT (K : PySem.W.Frag) (te : TE) : TE := fun σ H Q => te σ H fun x H1 => ∃ a xs, x = .ref a ∧ SqT K H1 a xs ∧ ∀ p, H1 p = none → Q (.ref p) (upd H1 p (.tup xs.reverse))
theorem pe_revT {X : Cx} {e : Expr} {te : TE} {k : Nat} {p1 p2 p3 pos : Pos} (he : PE X e te) : PE X (.Subscript e (.Slice none none (some (.UnaryOp .USub (.Constant (.int 1) k p1) p2)) p3) pos) (tRevT X.K te) := by
  refine ⟨fun pins s σ H Q I h => ?_⟩
  refine Subscript_ (thn (he.run pins s σ H _ I h) fun v s1 ⟨x, H1, I1, r1, q1⟩ => ?_)
  obtain ⟨a, xs, ex, hx, q⟩ := q1
  subst ex
  cases r1
  have hst : PO X (some (.UnaryOp .USub (.Constant (.int 1) k p1) p2)) (tPart (tUn (rU fun i => .int (-i)) (tC (.int 1)))) := po_some (pe_un un_neg pe_int)
  refine wpAny_Slice (thn (po_none.run pins s1 σ H1 (fun o H2 => o = none ∧ H2 = H1) I1 ⟨rfl, rfl⟩) fun vl s2 ⟨l, H2, I2, pl, el, e2⟩ => ?_)
  subst el e2
  refine thn (po_none.run pins s2 σ H2 (fun o H3 => o = none ∧ H3 = H2) I2 ⟨rfl, rfl⟩) fun vu s3 ⟨u, H3, I3, pu, eu, e3⟩ => ?_
  subst eu e3
  refine thn (hst.run pins s3 σ H3 (fun o H4 => o = some (-1) ∧ H4 = H3) I3 ⟨1, rfl, -1, rfl, rfl, rfl⟩) fun vs s4 ⟨o, H4, I4, ps, eo, e4⟩ => ?_
  subst eo e4
  cases pl
  cases pu
  have I5 : Inv X pins σ H4 { s4 with heap := s4.heap.push { cls := .type "slice", data := .fields #[.none, .none, vs] } } := I4.kept (t' := s4.toks) fun b ob q => Heap.get?_push_of_some _ q
  obtain ⟨its, r, ht, hz⟩ := I5.tuple hx
  have hlen := r.length
  show wpAny (model X.prog X.w) X.A (subscriptTail e (.Slice none none (some (.UnaryOp .USub (.Constant (.int 1) k p1) p2)) p3) (.ref a) (.ref s4.heap.objs.size)) (EP X pins σ Q) X.xe { s4 with heap := s4.heap.push { cls := .type "slice", data := .fields #[.none, .none, vs] } }
  refine tail_any (ops := [.ref a, .ref s4.heap.objs.size]) ht.typeIs (PyProof.Rows.slot_tuple_getitem.lookup) ?_ (by with_unfolding_all rfl)
  refine getItem_tuple_rev ht (Heap.IsSliceOf.new _ .none .none vs) ps ?_ (by rw [List.size_toArray]; omega)
  refine ⟨.ref _, _, I5.laid (t' := s4.toks) (o := .tup xs.reverse) (fun b ob q => Heap.get?_push_of_some _ q) (Nat.le_refl _) ?_, rfl, q _ (I5.hok.fresh (Nat.le_refl _))⟩
  exact ⟨by rw [List.length_reverse]; exact hz, its.reverse, r.reverse, ⟨_, Heap.get?_push_size _ rfl, rfl, _, rfl⟩⟩
def wRevT : W1 := fun x S => match x with
  | .tup ws => some (.tup ws.reverse, S)
  | _ => none
theorem q_revT {X : Cx} {e : Expr} {me : WE} {k : Nat} {p1 p2 p3 pos : Pos} (he : QE X e me) : QE X (.Subscript e (.Slice none none (some (.UnaryOp .USub (.Constant (.int 1) k p1) p2)) p3) pos) (mUn wRevT me) :=
  PE.weak (pe_revT he) fun σ H Q ⟨g, env, w, S', hH, ok, er, hm, q⟩ => by
    obtain ⟨⟨x, S1⟩, e1, e2⟩ := bind1 hm
    refine ⟨g, env, x, S1, hH, ok, er, e1, fun g1 h1 x1 ok1 v r => ?_⟩
    have q1 := q.step ok1 x1
    subst h1
    cases x with
    | tup ws =>
      obtain ⟨a, xs, ev, hs, rs⟩ := r.tup_inv
      exact ⟨a, xs, ev, hs, Then.newT ok1 rs.reverse e2 q1⟩
    | _ => cases e2
theorem hu1_of {k : Nat} {A : Around} (r : Room k A) : A.units + 1 < cLine := by have := r.un; omega
theorem hu65_of {k : Nat} {A : Around} (r : Room k A) : A.units + 65 < cLine := by have := r.un; omega
theorem bt_bool : bootBuiltins "bool" = some (.type "bool") := by decide +kernel
section
variable {env : WEnv} {S S1 S2 : Store} {w : W} {ws us : List W} {ma mb m : WE}
/-- xs != [] -/
theorem ev_nNil {a : Nat} (h : ma env S = some (.ref a, S1)) (ha : getL S1 a = some ws) : mTest (mBin wNeNil ma (mLst aNil)) env S = some (!ws.isEmpty, S1 ++ [.lst []]) := by
  refine ev_test (ev_bin h (ev_lst ev_nil rfl) ?_)
  show (getL (S1 ++ [.lst []]) a).bind (fun ws => (getL (S1 ++ [.lst []]) S1.length).bind fun us => if us.isEmpty then some (W.bl (!ws.isEmpty), S1 ++ [.lst []]) else none) = _
  rw [getL_old ha]
  show (getL (S1 ++ [.lst []]) S1.length).bind (fun us => if us.isEmpty then some (W.bl (!ws.isEmpty), S1 ++ [.lst []]) else none) = _
  rw [getL_new]
  rfl
theorem ev_eNil {a : Nat} (h : ma env S = some (.ref a, S1)) (ha : getL S1 a = some ws) : mTest (mBin wEqNil ma (mLst aNil)) env S = some (ws.isEmpty, S1 ++ [.lst []]) := by
  refine ev_test (ev_bin h (ev_lst ev_nil rfl) ?_)
  show (getL (S1 ++ [.lst []]) a).bind (fun ws => (getL (S1 ++ [.lst []]) S1.length).bind fun us => if us.isEmpty then some (W.bl ws.isEmpty, S1 ++ [.lst []]) else none) = _
  rw [getL_old ha]
  show (getL (S1 ++ [.lst []]) S1.length).bind (fun us => if us.isEmpty then some (W.bl ws.isEmpty, S1 ++ [.lst []]) else none) = _
  rw [getL_new]
  rfl
/-- x in (..), data of any depth -/
theorem ev_inT {x : W} {d : PyData} {ds : List PyData} {k : Bool} (h : ma env S = some (x, S1)) (h2 : mb env S1 = some (.tup ws, S2)) (hd : toP x = some d) (hds : toPs ws = some ds) (h3 : SeqAt.shaped d = true) (h4 : SeqAt.shaped (.tuple ds) = true) (hk : (ds.any fun z => PyData.eqv z d) = k) : mTest (mBin wInT ma mb) env S = some (k, S2) := by
  refine ev_test (ev_bin h h2 ?_)
  show (toP x).bind (fun d => (toPs ws).bind fun ds => if SeqAt.shaped d && SeqAt.shaped (.tuple ds) then some (W.bl (ds.any fun z => PyData.eqv z d), S2) else none) = _
  rw [hd]
  show (toPs ws).bind (fun ds => if SeqAt.shaped d && SeqAt.shaped (.tuple ds) then some (W.bl (ds.any fun z => PyData.eqv z d), S2) else none) = _
  rw [hds]
  show (if (SeqAt.shaped d && SeqAt.shaped (.tuple ds)) = true then some (W.bl (ds.any fun z => PyData.eqv z d), S2) else none) = _
  rw [h3, h4, hk]
  rfl
theorem ev_lenD {mes : WA} {i : Nat} {kvs : List (Key × W)} (h : mes env S = some ([.ref i], S1)) (hd : S1[i]? = some (.dK kvs)) : mCall cLenD mes env S = some (.int kvs.length, S1) := by
  refine ev_call h ?_
  show (match S1[i]? with
    | some (.dK kvs) => some (W.int kvs.length, S1)
    | _ => none) = _
  rw [hd]
/-- an unbounded while, by its turns -/
theorem sWhile_mono {t : WT} {b : WS} {n : Nat} {o : Option Out} : ∀ {n m : Nat} {env : WEnv} {S : Store} {o : Out}, sWhile n t b env S = some o → n ≤ m → sWhile m t b env S = some o := by
  intro n
  induction n with
  | zero => intro m env S o h; cases h
  | succ n ih =>
    intro m env S o h hm
    cases m with
    | zero => omega
    | succ m =>
      have h' : ((t env S).bind fun p => if p.1 then (b env p.2).bind fun o => match o with
        | .nx e S1 => sWhile n t b e S1
        | .ct e S1 => sWhile n t b e S1
        | .bk e S1 => some (.nx e S1)
        | .rt w S1 => some (.rt w S1) else some (.nx env p.2)) = some o := h
      show ((t env S).bind fun p => if p.1 then (b env p.2).bind fun o => match o with
        | .nx e S1 => sWhile m t b e S1
        | .ct e S1 => sWhile m t b e S1
        | .bk e S1 => some (.nx e S1)
        | .rt w S1 => some (.rt w S1) else some (.nx env p.2)) = some o
      cases ht : t env S with
      | none => rw [ht] at h'; cases h'
      | some p =>
        rw [ht] at h'
        have h2 : (if p.1 then (b env p.2).bind fun o => match o with
          | .nx e S1 => sWhile n t b e S1
          | .ct e S1 => sWhile n t b e S1
          | .bk e S1 => some (.nx e S1)
          | .rt w S1 => some (.rt w S1) else some (.nx env p.2)) = some o := h'
        show (if p.1 then (b env p.2).bind fun o => match o with
          | .nx e S1 => sWhile m t b e S1
          | .ct e S1 => sWhile m t b e S1
          | .bk e S1 => some (.nx e S1)
          | .rt w S1 => some (.rt w S1) else some (.nx env p.2)) = some o
        split at h2
        · rename_i hp
          rw [if_pos hp]
          cases hb : b env p.2 with
          | none => rw [hb] at h2; cases h2
          | some o1 =>
            rw [hb] at h2
            cases o1 with
            | nx e S1 => exact ih h2 (by omega)
            | ct e S1 => exact ih h2 (by omega)
            | bk e S1 => exact h2
            | rt w S1 => exact h2
        · rename_i hp
          rw [if_neg hp]
          exact h2
theorem ev_whileU {t : WT} {b : WS} {o : Out} {n : Nat} (h : sWhile n t b env S = some o) : sWhileU t b env S = some o := by
  unfold sWhileU
  have hx : ∃ n o, sWhile n t b env S = some o := ⟨n, o, h⟩
  rw [dif_pos hx]
  obtain ⟨o', h'⟩ := hx.choose_spec
  have h1 := sWhile_mono (n := 0) (o := none) h (Nat.le_max_left n hx.choose)
  have h2 := sWhile_mono (n := 0) (o := none) h' (Nat.le_max_right n hx.choose)
  rw [h1] at h2
  cases h2
  exact h'
/-- a turn and the rest -/
theorem ev_turn {t : WT} {b : WS} {e1 : WEnv} {o : Out} (ht : t env S = some (true, S1)) (hb : b env S1 = some (.nx e1 S2)) (hr : ∃ n, sWhile n t b e1 S2 = some o) : ∃ n, sWhile n t b env S = some o := by
  obtain ⟨n, hn⟩ := hr
  refine ⟨n + 1, ?_⟩
  show ((t env S).bind fun p => if p.1 then (b env p.2).bind fun o => match o with
    | .nx e S1 => sWhile n t b e S1
    | .ct e S1 => sWhile n t b e S1
    | .bk e S1 => some (.nx e S1)
    | .rt w S1 => some (.rt w S1) else some (.nx env p.2)) = some o
  rw [ht]
  show ((b env S1).bind fun o => match o with
    | .nx e S1 => sWhile n t b e S1
    | .ct e S1 => sWhile n t b e S1
    | .bk e S1 => some (.nx e S1)
    | .rt w S1 => some (.rt w S1)) = some o
  rw [hb]
  exact hn
theorem ev_stop {t : WT} {b : WS} (ht : t env S = some (false, S1)) : ∃ n, sWhile n t b env S = some (.nx env S1) := by
  refine ⟨1, ?_⟩
  show ((t env S).bind fun p => if p.1 then (b env p.2).bind fun o => match o with
    | .nx e S1 => sWhile 0 t b e S1
    | .ct e S1 => sWhile 0 t b e S1
    | .bk e S1 => some (.nx e S1)
    | .rt w S1 => some (.rt w S1) else some (.nx env p.2)) = _
  rw [ht]
  rfl
end
end L2.Aw

/-! Slices and letters of texts; sorted of texts that stand in order. -/
namespace L2.Aw
open PySem PySem.Spec PyProof.Rows
section
variable {X : Cx} {pos p2 : Pos} {e : Expr} {lo hi : Option Expr} {me : WE} {ml mh : WO} {tg : Expr}
def wSliceS (x : W) (l h : Option Int) (S : Store) : Option (W × Store) := match x with
  | .str z => if szOk z.length then some (.str (cutS z l h), S) else none
  | _ => none
def mSliceS (m : WE) (ml mh : WO) : WE := fun env S => (m env S).bind fun p => (ml env p.2).bind fun l => (mh env l.2).bind fun h => wSliceS p.1 l.1 h.1 h.2
theorem q_sliceS (he : QE X e me) (hl : QO X lo ml) (hh : QO X hi mh) : QE X (.Subscript e (.Slice lo hi none p2) pos) (mSliceS me ml mh) :=
  PE.weak (pe_slice sl_str he hl hh) fun σ H Q ⟨g, env, w, S', hH, ok, er, hm, q⟩ => by
    obtain ⟨⟨x, S1⟩, e1, hm2⟩ := bind1 hm
    obtain ⟨⟨l, S2⟩, ⟨h, S3⟩, e2, e3, e4⟩ := bind2 hm2
    refine ⟨g, env, x, S1, hH, ok, er, e1, fun g1 h1 x1 ok1 v r => ⟨g1, env, l, S2, rfl, ok1, er.mono ok x1, by rw [h1]; exact e2, fun g2 h2 x2 ok2 => ⟨g2, env, h, S3, rfl, ok2, (er.mono ok x1).mono ok1 x2, by rw [h2]; exact e3, fun g3 h3 x3 ok3 => ?_⟩⟩⟩
    have r3 := x3.wr ok2 (x2.wr ok1 r)
    have q3 := ((q.step ok1 x1).step ok2 x2).step ok3 x3
    cases x with
    | str z =>
      have e4' : (if szOk z.length = true then some (W.str (cutS z l h), S3) else none) = some (w, S') := e4
      split at e4'
      · rename_i hz
        subst h3
        exact ⟨z, r3.str_inv, szOk_le hz, Then.val ok3 e4' q3 WR.ofStr⟩
      · cases e4'
    | _ => cases e4
def sStr (z : Str) : Src := ⟨z.cps.size, fun i _ => (z.cps[i]?).map fun c => .str ⟨#[c]⟩, fun _ => true⟩
theorem real_str {K : PySem.W.Frag} {g0 : Gw} {z : Str} : Real K g0 (sStr z) (Its z) := fun g x ok => by
  refine ⟨fun i w hi hw => ⟨hi, fun y H' hy => ?_⟩, fun _ => Nat.le_refl _⟩
  obtain ⟨e1, c, e2, e3⟩ := hy
  obtain ⟨c', f1, f2⟩ := Option.map_eq_some_iff.mp (show (z.cps[i]?).map (fun c => W.str ⟨#[c]⟩) = some w from hw)
  rw [f1] at e2
  cases e2
  subst f2 e3
  exact ⟨g, e1.symm, rfl, Ext.refl g, ok, WR.ofStr⟩
def iStrs (m : WE) : WI := fun env S => (m env S).bind fun p => match p.1 with
  | .str z => some (sStr z, p.2)
  | _ => none
theorem qi_str (h : QE X e me) : QI X tg e (iStrs me) := PI.weak (pi_str h) fun σ H R ⟨g, env, s, S', hH, ok, er, hm, q⟩ => by
  obtain ⟨⟨w, S1⟩, e1, e2⟩ := bind1 hm
  refine ⟨g, env, w, S1, hH, ok, er, e1, fun g1 h1 x1 ok1 v r => ?_⟩
  cases w with
  | str z =>
    have e2' : some (sStr z, S1) = some (s, S') := e2
    cases e2'
    exact ⟨z, r.str_inv, q g1 h1 x1 ok1 _ real_str⟩
  | _ => cases e2
end
/-! ### sorted -/
def strsOf : List W → Option (List Str)
  | [] => some []
  | .str x :: ws => (strsOf ws).map fun xs => x :: xs
  | _ => none
theorem strsOf_some : ∀ {ws : List W} {xs : List Str}, strsOf ws = some xs → ws = xs.map W.str
  | [], xs, h => by cases h; rfl
  | .str x :: ws, xs, h => by
    obtain ⟨ys, h1, h2⟩ := map1 (show (strsOf ws).map (fun xs => x :: xs) = some xs from h)
    subst h2
    rw [strsOf_some h1]
    rfl
theorem strsOf_map : ∀ xs : List Str, strsOf (xs.map W.str) = some xs
  | [] => rfl
  | x :: xs => by
    show (strsOf (xs.map W.str)).map (fun xs => x :: xs) = _
    rw [strsOf_map xs]
    rfl
theorem wrs_strs {K : PySem.W.Frag} {g : Gw} : ∀ {xs : List Str} {vs : List V}, g.WRs K (xs.map W.str) vs → vs = xs.map V.str
  | [], vs, r => r.nil_inv
  | x :: xs, vs, r => by
    obtain ⟨v, t, e, r1, r2⟩ := r.cons_inv
    rw [e, r1.str_inv, wrs_strs r2]
    rfl
theorem strs_wrs {K : PySem.W.Frag} {g : Gw} : ∀ (xs : List Str), g.WRs K (xs.map W.str) (xs.map V.str)
  | [] => .nil
  | x :: xs => .cons WR.ofStr (strs_wrs xs)
/-- sorted(xs), xs a list of texts in order -/
def cSortS : FM := fun ws S => match ws with
  | [.ref a] => (getL S a).bind fun us => (strsOf us).bind fun xs => if sortedS xs && decide (xs.length < 64) then newL us S else none
  | _ => none
theorem ltCps_total : ∀ (a b : List Nat), ltCps a b = false → ltCps b a = false → a = b
  | [], [], _, _ => rfl
  | [], y :: b, h1, _ => by rw [ltCps] at h1; cases h1
  | x :: a, [], _, h2 => by rw [ltCps] at h2; cases h2
  | x :: a, y :: b, h1, h2 => by
    rw [ltCps, Bool.or_eq_false_iff] at h1 h2
    have n1 := of_decide_eq_false h1.1
    have n2 := of_decide_eq_false h2.1
    have e : x = y := by omega
    subst e
    have g1 := h1.2
    have g2 := h2.2
    rw [beq_self_eq_true, Bool.true_and] at g1 g2
    rw [ltCps_total a b g1 g2]
theorem leCps_trans : ∀ (a b c : List Nat), ltCps b a = false → ltCps c b = false → ltCps c a = false
  | [], _, [], _, _ => rfl
  | [], _, _ :: _, _, _ => by rw [ltCps]
  | _ :: _, [], _, h1, _ => by rw [ltCps] at h1; cases h1
  | _ :: _, _ :: _, [], _, h2 => by rw [ltCps] at h2; cases h2
  | x :: a, y :: b, z :: c, h1, h2 => by
    rw [ltCps, Bool.or_eq_false_iff] at h1 h2 ⊢
    have n1 := of_decide_eq_false h1.1
    have n2 := of_decide_eq_false h2.1
    refine ⟨decide_eq_false (by omega), ?_⟩
    by_cases e : z = x
    · subst e
      have e2 : y = z := by omega
      subst e2
      have g1 := h1.2
      have g2 := h2.2
      rw [beq_self_eq_true, Bool.true_and] at g1 g2 ⊢
      exact leCps_trans a b c g1 g2
    · rw [beq_eq_false_iff_ne.mpr e, Bool.false_and]
def leS (a b : Str) : Prop := ltCps b.cps.toList a.cps.toList = false
theorem rising_pair : ∀ (l : List Str) (p : Str), risingS p l = true → (p :: l).Pairwise leS
  | [], p, _ => List.pairwise_singleton _ _
  | x :: r, p, h => by
    rw [risingS, Bool.and_eq_true] at h
    have h1 : leS p x := by
      have := h.1
      rw [Bool.not_eq_true'] at this
      exact this
    have h2 := rising_pair r x h.2
    refine List.pairwise_cons.mpr ⟨fun y hy => ?_, h2⟩
    rcases List.mem_cons.mp hy with e | e
    · rw [e]; exact h1
    · exact leCps_trans _ _ _ h1 ((List.pairwise_cons.mp h2).1 y e)
theorem sorted_pair {l : List Str} (h : sortedS l = true) : l.Pairwise leS := by
  cases l with
  | nil => exact .nil
  | cons x r => exact rising_pair r x h
theorem leS_anti {a b : Str} (h1 : leS a b) (h2 : leS b a) : a = b := by
  obtain ⟨⟨a⟩⟩ := a
  obtain ⟨⟨b⟩⟩ := b
  have e : b = a := ltCps_total b a h1 h2
  rw [e]
theorem perm_sorted : ∀ {xs ys : List Str}, ys.Perm xs → xs.Pairwise leS → ys.Pairwise leS → ys = xs
  | [], ys, p, _, _ => List.Perm.eq_nil p
  | x :: xs, [], p, _, _ => absurd p.symm.eq_nil (by simp)
  | x :: xs, y :: ys, p, h1, h2 => by
    have e : y = x := by
      have hy : y ∈ x :: xs := p.mem_iff.mp List.mem_cons_self
      have hx : x ∈ y :: ys := p.mem_iff.mpr List.mem_cons_self
      rcases List.mem_cons.mp hy with z | z
      · exact z
      · rcases List.mem_cons.mp hx with z2 | z2
        · exact z2.symm
        · exact leS_anti ((List.pairwise_cons.mp h2).1 x z2) ((List.pairwise_cons.mp h1).1 y z)
    subst e
    rw [perm_sorted (List.Perm.cons_inv p) (List.pairwise_cons.mp h1).2 (List.pairwise_cons.mp h2).2]
theorem k_sortS {X : Cx} : CallK X.K cSortS (rSortedS X.K) := fun g ws vs w S' Q ok r h q => by
  cases ws with
  | nil => cases h
  | cons x t =>
    cases t with
    | cons y t => cases x <;> cases h
    | nil =>
      cases x with
      | ref i =>
        obtain ⟨v, ev, rv⟩ := WRs.one r
        subst ev
        obtain ⟨us, e1, e2⟩ := bind1 (show ((getL g.S i).bind fun us => (strsOf us).bind fun xs => if sortedS xs && decide (xs.length < 64) then newL us g.S else none) = some (w, S') from h)
        obtain ⟨xs, e3, e4⟩ := bind1 e2
        split at e4
        · rename_i hz
          rw [Bool.and_eq_true] at hz
          have e5 := strsOf_some e3
          subst e5
          obtain ⟨_, ys, h1, r1⟩ := getL_at ok e1
          have ey := wrs_strs r1
          subst ey
          refine ⟨g.φ i, xs, by rw [rv.ref_inv.2], SqL.of h1, of_decide_eq_true hz.2, fun zs p hp hs hn => ?_⟩
          have ez := perm_sorted hp (sorted_pair hz.1) (sorted_pair hs)
          rw [ez]
          exact Then.newL ok (strs_wrs xs) e4 q p hn
        · cases e4
      | _ => cases h
end L2.Aw

/-! How many jobs a queue can ever do. -/
namespace L2.Aw
mutual
def cost : Tree → Nat
  | .log _ => 1
  | .await n => n.toNat
  | .seq ps => costs ps + 2
  | .fork p => cost p + 2
  | .join ps => costs ps + 1
  | .race ps => costs ps + 1
  | .loop c b => c.toNat * (cost b + 1) + 2
def costs : List Tree → Nat
  | [] => 0
  | t :: ts => (cost t + 1) + costs ts
end
def nuF : Fr → Nat
  | .none => 1
  | .seq ps f => 1 + costs ps + nuF f
  | .loop n b f => 1 + n.toNat * (cost b + 1) + nuF f
  | .par _ _ _ => 1
def phi : Job → Nat
  | .beg t f _ => cost t + nuF f
  | .dn f _ => nuF f
def phis : List Job → Nat
  | [] => 0
  | j :: js => phi j + phis js
theorem phis_app : ∀ a b : List Job, phis (a ++ b) = phis a + phis b
  | [], b => by simp [phis]
  | j :: a, b => by rw [List.cons_append, phis, phis, phis_app a b]; omega
/-- what the joins that have not ended hold -/
def held : List Int → List Nat → Nat
  | t :: ts, g :: gs => (if 0 < t then g else 0) + held ts gs
  | _, _ => 0
/-- the frames know what their joins hold -/
def FrC (G : List Nat) : Fr → Prop
  | .none => True
  | .seq ps f => Pqs ps ∧ FrC G f
  | .loop n b f => 0 ≤ n ∧ Pq b ∧ FrC G f
  | .par _ key f => (∃ g, G[key]? = some g ∧ nuF f ≤ g) ∧ FrC G f
def JbC (G : List Nat) : Job → Prop
  | .beg t f _ => Pq t ∧ FrC G f
  | .dn f _ => FrC G f
theorem FrC.mono {G : List Nat} (g : Nat) : ∀ {f : Fr}, FrC G f → FrC (G ++ [g]) f
  | .none, _ => trivial
  | .seq ps f, h => ⟨h.1, h.2.mono g⟩
  | .loop n b f, h => ⟨h.1, h.2.1, h.2.2.mono g⟩
  | .par j key f, h => by
    obtain ⟨⟨x, h1, h2⟩, h3⟩ := h
    refine ⟨⟨x, ?_, h2⟩, h3.mono g⟩
    rw [List.getElem?_append_left (List.getElem?_eq_some_iff.mp h1).1]
    exact h1
theorem JbC.mono {G : List Nat} (g : Nat) : ∀ {j : Job}, JbC G j → JbC (G ++ [g]) j
  | .beg t f m, h => ⟨h.1, h.2.mono g⟩
  | .dn f m, h => FrC.mono g (f := f) h
theorem nuF_pos : ∀ f : Fr, 1 ≤ nuF f := by
  intro f
  cases f <;> rw [nuF] <;> omega
theorem cost_pos : ∀ t : Tree, Pq t → 1 ≤ cost t := by
  intro t h
  cases t <;> rw [cost] <;> (try omega)
  · rw [Pq] at h; omega
theorem phi_pos : ∀ j : Job, 1 ≤ phi j := by
  intro j
  cases j with
  | beg t f m => have := nuF_pos f; rw [phi]; omega
  | dn f m => exact nuF_pos f
theorem phis_len : ∀ js : List Job, js.length ≤ phis js
  | [] => Nat.zero_le _
  | j :: js => by
    rw [phis, List.length_cons]
    have := phi_pos j
    have := phis_len js
    omega
theorem held_app : ∀ (T : List Int) (G : List Nat) (t : Int) (g : Nat), T.length = G.length → held (T ++ [t]) (G ++ [g]) = held T G + (if 0 < t then g else 0)
  | [], [], t, g, _ => by simp [held]
  | a :: T, b :: G, t, g, h => by
    rw [List.cons_append, List.cons_append, held, held, held_app T G t g (by simpa using h)]
    omega
  | [], _ :: _, _, _, h => by cases h
  | _ :: _, [], _, _, h => by cases h
theorem held_set : ∀ (T : List Int) (G : List Nat) (key : Nat) (v : Int) (g : Nat), T[key]? = some v → G[key]? = some g → held (T.set key (v - 1)) G + (if v = 1 then g else 0) = held T G
  | [], _, _, _, _, h, _ => by cases h
  | a :: T, [], _, _, _, _, h => by cases h
  | a :: T, b :: G, 0, v, g, h1, h2 => by
    cases h1
    cases h2
    rw [List.set_cons_zero, held, held]
    by_cases e : a = 1
    · subst e; simp; omega
    · rw [if_neg e]
      by_cases p : 0 < a
      · rw [if_pos p, if_pos (show 0 < a - 1 by omega)]; omega
      · rw [if_neg p, if_neg (show ¬ 0 < a - 1 by omega)]; omega
  | a :: T, b :: G, key + 1, v, g, h1, h2 => by
    rw [List.set_cons_succ, held, held, ← held_set T G key v g (by simpa using h1) (by simpa using h2)]
    omega
/-- the whole of what is left, and what was logged, stays within N -/
def Within (N : Nat) (J : List Job) (σ : Ms) : Prop := ∃ G : List Nat, G.length = σ.T.length ∧ (∀ j ∈ J, JbC G j) ∧ (∀ j ∈ σ.Q, JbC G j) ∧ phis J + phis σ.Q + held σ.T G + σ.F.length + σ.T.length ≤ N
theorem costs_map {G : List Nat} {j : Bool} {key : Nat} {f : Fr} {m : Int} : ∀ ps : List Tree, phis (ps.map fun p => Job.beg p (.par j key f) m) = costs ps
  | [] => by rw [costs]; rfl
  | p :: ps => by rw [List.map_cons, phis, phi, costs_map (G := G) ps, costs, nuF]
theorem Within.par {N : Nat} {ps : List Tree} {j : Bool} {n : Int} {f : Fr} {m : Int} {js : List Job} {σ : Ms} {t : Tree} (hc : cost t = costs ps + 1) (hn : 0 < n) (hq : Pqs ps) (h : Within N (.beg t f m :: js) σ) : Within N ((ps.map fun p => Job.beg p (.par j σ.T.length f) m) ++ js) ⟨σ.T ++ [n], σ.F, σ.Q⟩ := by
  obtain ⟨G, h1, h2, h3, h4⟩ := h
  have hf := (h2 _ List.mem_cons_self).2
  refine ⟨G ++ [nuF f], by simp [h1], fun x hx => ?_, fun x hx => (h3 x hx).mono _, ?_⟩
  · rcases List.mem_append.mp hx with e | e
    · obtain ⟨p, hp, e2⟩ := List.mem_map.mp e
      rw [← e2]
      refine ⟨hq.mem hp, ⟨nuF f, ?_, Nat.le_refl _⟩, hf.mono _⟩
      rw [← h1, List.getElem?_append_right (Nat.le_refl _), Nat.sub_self]
      rfl
    · exact (h2 x (List.mem_cons_of_mem _ e)).mono _
  · rw [phis_app, costs_map (G := G)]
    show _ + phis σ.Q + held (σ.T ++ [n]) (G ++ [nuF f]) + σ.F.length + (σ.T ++ [n]).length ≤ N
    rw [held_app _ _ _ _ h1.symm, if_pos hn, List.length_append, List.length_singleton]
    rw [phis, phi, hc] at h4
    omega
/-- a job done -/
theorem Within.step {N : Nat} {j : Job} {js : List Job} {σ : Ms} (h : Within N (j :: js) σ) : Within N ((stepJ j σ).2 ++ js) (stepJ j σ).1 := by
  obtain ⟨G, h1, h2, h3, h4⟩ := id h
  have hj := h2 _ List.mem_cons_self
  have hjs : ∀ x ∈ js, JbC G x := fun x hx => h2 x (List.mem_cons_of_mem _ hx)
  rw [phis] at h4
  -- jobs that stay within the stack and the queue
  have same : ∀ (F : List (Int × Wd)) (Q : List Job) (new : List Job), (∀ x ∈ new, JbC G x) → (∀ x ∈ Q, JbC G x) → phis new + phis js + phis Q + held σ.T G + F.length + σ.T.length ≤ N → Within N (new ++ js) ⟨σ.T, F, Q⟩ := by
    intro F Q new a b c
    refine ⟨G, h1, fun x hx => ?_, b, by rw [phis_app]; exact c⟩
    rcases List.mem_append.mp hx with e | e
    · exact a x e
    · exact hjs x e
  have one : ∀ {x y : Job}, JbC G y → x ∈ [y] → JbC G x := fun h hx => by rw [List.mem_singleton.mp hx]; exact h
  cases j with
  | beg t f m =>
    obtain ⟨hq, hf⟩ := hj
    rw [phi] at h4
    cases t with
    | log w =>
      rw [cost] at h4
      refine same (σ.F ++ [(m, w)]) σ.Q [.dn f m] (fun x hx => one (show JbC G (.dn f m) from hf) hx) h3 ?_
      rw [phis, phis, phi, List.length_append, List.length_singleton]
      omega
    | await n =>
      rw [cost] at h4
      rw [Pq] at hq
      refine same σ.F (σ.Q ++ [if 1 < n then .beg (.await (n - 1)) f m else .dn f m]) [] (fun _ h => nomatch h) (fun x hx => ?_) ?_
      · rcases List.mem_append.mp hx with e | e
        · exact h3 x e
        · refine one ?_ e
          split
          · exact ⟨by rw [Pq]; omega, hf⟩
          · exact hf
      · rw [phis_app, phis, phis, phis]
        have e : phi (if 1 < n then Job.beg (.await (n - 1)) f m else .dn f m) + 1 ≤ n.toNat + nuF f := by
          split
          · rw [phi, cost]; omega
          · rw [phi]; omega
        omega
    | fork p =>
      rw [cost] at h4
      rw [Pq] at hq
      refine same σ.F σ.Q [.beg p .none m, .dn f m] (fun x hx => ?_) h3 ?_
      · rcases List.mem_cons.mp hx with e | e
        · rw [e]; exact ⟨hq, trivial⟩
        · exact one (show JbC G (.dn f m) from hf) e
      · rw [phis, phis, phis, phi, phi, nuF]; omega
    | seq ps =>
      rw [cost] at h4
      rw [Pq] at hq
      refine same σ.F σ.Q [.dn (.seq ps f) m] (fun x hx => one (show JbC G (.dn (.seq ps f) m) from ⟨hq, hf⟩) hx) h3 ?_
      rw [phis, phis, phi, nuF]; omega
    | loop c b =>
      rw [cost] at h4
      rw [Pq] at hq
      refine same σ.F σ.Q [.dn (.loop c b f) m] (fun x hx => one (show JbC G (.dn (.loop c b f) m) from ⟨hq.1, hq.2, hf⟩) hx) h3 ?_
      rw [phis, phis, phi, nuF]; omega
    | join ps =>
      rw [Pq] at hq
      exact Within.par (t := .join ps) (by rw [cost]) (by
        have := List.length_pos_iff.mpr hq.2
        omega) hq.1 h
    | race ps =>
      rw [Pq] at hq
      exact Within.par (t := .race ps) (by rw [cost]) (by omega) hq.1 h
  | dn f m =>
    rw [phi] at h4
    cases f with
    | none =>
      rw [nuF] at h4
      exact same σ.F σ.Q [] (fun _ h => nomatch h) h3 (by rw [phis]; omega)
    | seq ps f =>
      rw [nuF] at h4
      cases ps with
      | nil =>
        rw [costs] at h4
        refine same σ.F σ.Q [.dn f m] (fun x hx => one (show JbC G (.dn f m) from hj.2) hx) h3 ?_
        rw [phis, phis, phi]; omega
      | cons p ps =>
        rw [costs] at h4
        have hq := hj.1
        rw [Pqs] at hq
        refine same σ.F σ.Q [.beg p (.seq ps f) m] (fun x hx => one (show JbC G (.beg p (.seq ps f) m) from ⟨hq.1, hq.2, hj.2⟩) hx) h3 ?_
        rw [phis, phis, phi, nuF]; omega
    | loop n b f =>
      rw [nuF] at h4
      obtain ⟨g1, g2, g3⟩ := hj
      by_cases h0 : n = 0
      · have e : stepJ (.dn (.loop n b f) m) σ = (σ, [.dn f m]) := by
          show (σ, if n = 0 then _ else _) = _
          rw [if_pos h0]
        rw [e]
        refine same σ.F σ.Q [.dn f m] (fun x hx => one (show JbC G (.dn f m) from g3) hx) h3 ?_
        rw [phis, phis, phi]; omega
      · have e : stepJ (.dn (.loop n b f) m) σ = (σ, [.beg b (.loop (n - 1) b f) m]) := by
          show (σ, if n = 0 then _ else _) = _
          rw [if_neg h0]
        rw [e]
        refine same σ.F σ.Q [.beg b (.loop (n - 1) b f) m] (fun x hx => one (show JbC G (.beg b (.loop (n - 1) b f) m) from ⟨g2, by omega, g2, g3⟩) hx) h3 ?_
        rw [phis, phis, phi, nuF]
        have e2 : n.toNat = (n - 1).toNat + 1 := by omega
        rw [e2, Nat.add_mul] at h4
        omega
    | par jj key f =>
      rw [nuF] at h4
      obtain ⟨⟨g, k1, k2⟩, k3⟩ := hj
      have hl : key < σ.T.length := by rw [← h1]; exact (List.getElem?_eq_some_iff.mp k1).1
      have hv : σ.T[key]? = some σ.T[key] := List.getElem?_eq_getElem hl
      have gd : σ.T.getD key 0 = σ.T[key] := by rw [List.getD, hv]; rfl
      have hs := held_set σ.T G key σ.T[key] g hv k1
      have e : stepJ (.dn (.par jj key f) m) σ = (⟨σ.T.set key (σ.T[key] - 1), σ.F, σ.Q⟩, if σ.T[key] - 1 = 0 then [.dn f m] else []) := by
        show ((⟨σ.T.set key (σ.T.getD key 0 - 1), σ.F, σ.Q⟩ : Ms), if σ.T.getD key 0 - 1 = 0 then [Job.dn f m] else []) = _
        rw [gd]
      rw [e]
      refine ⟨G, by rw [h1]; exact (List.length_set).symm, fun x hx => ?_, h3, ?_⟩
      · rcases List.mem_append.mp hx with z | z
        · split at z
          · exact one (show JbC G (.dn f m) from k3) z
          · cases z
        · exact hjs x z
      · rw [phis_app]
        show _ + phis σ.Q + held (σ.T.set key (σ.T[key] - 1)) G + σ.F.length + (σ.T.set key (σ.T[key] - 1)).length ≤ N
        rw [List.length_set]
        by_cases z : σ.T[key] = 1
        · rw [if_pos (by omega), phis, phis, phi]
          rw [if_pos z] at hs
          omega
        · rw [if_neg (by omega), phis]
          rw [if_neg z] at hs
          omega
end L2.Aw

/-! Rounds of a whole queue. -/
namespace L2.Aw
/-- programs started together, each with its mark -/
def plistC : List (Int × Tree) → Int → List Int → JJ → List Nat → Prop
  | [], _, _, A, K => A = [] ∧ K = []
  | (m, t) :: cs, k, T, A, K => ∃ L1 R1 A2 K1 K2, Liv t k .none m T L1 R1 K1 ∧ plistC cs k T A2 K2 ∧ A = (L1, R1) :: A2 ∧ K = K1 ++ K2 ∧ Dis K1 K2 ∧ (∀ i ∈ K1, i < T.length) ∧ ∀ i ∈ K2, i < T.length
theorem plistC_st : ∀ (cs : List (Int × Tree)) (k : Int) (T T' : List Int) (A : JJ) (K : List Nat), plistC cs k T A K → Agr K T T' → plistC cs k T' A K
  | [], _, _, _, _, _, h, _ => h
  | (m, t) :: cs, k, T, T', A, K, h, ha => by
    obtain ⟨L1, R1, A2, K1, K2, p1, p2, e1, e2, d1, b1, b2⟩ := h
    subst e2
    exact ⟨L1, R1, A2, K1, K2, Liv_st t _ _ _ _ _ _ _ _ p1 ha.l, plistC_st cs k T T' A2 K2 p2 ha.r, e1, rfl, d1, ha.l.lt b1, ha.r.lt b2⟩
/-- the words of one round -/
def rowC (cs : List (Int × Tree)) (k : Int) : List (Int × Wd) := cs.flatMap fun c => wm c.1 (tw (raw c.2 k))
theorem round_ok {k : Int} (hk : 0 ≤ k) : ∀ (cs : List (Int × Tree)), (∀ c ∈ cs, Pq c.2) → ∀ (T : List Int) (A : JJ) (K : List Nat), (if k = 0 then A = cs.map (fun c => ([Job.beg c.2 .none c.1], [])) ∧ K = [] else plistC cs k T A K) → (∀ i ∈ K, i < T.length) →
    ∀ F Q, ∃ T3 A' K3, Ex (flatJ A) ⟨T, F, Q⟩ ⟨T3, F ++ rowC cs k, Q ++ flatJ A'⟩ ∧ Gx T K T3 K3 ∧ plistC cs (k + 1) T3 A' K3
  | [], _, T, A, K, hst, hK, F, Q => by
    have e : A = [] ∧ K = [] := by
      by_cases h0 : k = 0
      · rw [if_pos h0] at hst; exact hst
      · rw [if_neg h0] at hst; exact hst
    obtain ⟨e1, e2⟩ := e
    subst e1 e2
    refine ⟨T, [], [], ?_, Gx.refl (fun _ h => nomatch h), rfl, rfl⟩
    show Ex [] ⟨T, F, Q⟩ ⟨T, F ++ [], Q ++ []⟩
    rw [List.append_nil, List.append_nil]
    exact .nil
  | (m, t) :: cs, hq, T, A, K, hst, hK, F, Q => by
    have e : ∃ L1 R1 A2 K1 K2, (if k = 0 then L1 = [.beg t .none m] ∧ R1 = [] ∧ K1 = [] else Liv t k .none m T L1 R1 K1) ∧ (if k = 0 then A2 = cs.map (fun c => ([Job.beg c.2 .none c.1], [])) ∧ K2 = [] else plistC cs k T A2 K2) ∧ A = (L1, R1) :: A2 ∧ K = K1 ++ K2 ∧ Dis K1 K2 ∧ (∀ i ∈ K1, i < T.length) ∧ ∀ i ∈ K2, i < T.length := by
      by_cases h0 : k = 0
      · rw [if_pos h0] at hst
        exact ⟨_, _, _, [], [], by rw [if_pos h0]; exact ⟨rfl, rfl, rfl⟩, by rw [if_pos h0]; exact ⟨rfl, rfl⟩, hst.1, hst.2, (fun _ h => nomatch h), (fun _ h => nomatch h), (fun _ h => nomatch h)⟩
      · rw [if_neg h0] at hst
        obtain ⟨L1, R1, A2, K1, K2, p1, p2, e1, e2, d1, b1, b2⟩ := hst
        exact ⟨L1, R1, A2, K1, K2, by rw [if_neg h0]; exact p1, by rw [if_neg h0]; exact p2, e1, e2, d1, b1, b2⟩
    obtain ⟨L1, R1, A2, K1, K2, p1, p2, e1, e2, d1, b1, b2⟩ := e
    subst e1 e2
    obtain ⟨T1, L', R', K1', x1, g1, n1⟩ := (spec_all t (hq _ List.mem_cons_self)).close hk p1 b1 F Q
    have ag : Agr K2 T T1 := g1.agr b2 d1.symm
    have b2' : ∀ i ∈ K2, i < T1.length := ag.lt b2
    have p2' : if k = 0 then A2 = cs.map (fun c => ([Job.beg c.2 .none c.1], [])) ∧ K2 = [] else plistC cs k T1 A2 K2 := by
      by_cases h0 : k = 0
      · rw [if_pos h0] at p2 ⊢; exact p2
      · rw [if_neg h0] at p2 ⊢; exact plistC_st cs k T T1 A2 K2 p2 ag
    obtain ⟨T2, A2', K2', x2, g2, n2⟩ := round_ok hk cs (fun c hc => hq c (List.mem_cons_of_mem _ hc)) T1 A2 K2 p2' b2' (F ++ wm m (tw (raw t k))) (Q ++ (L' ++ R'))
    have d2 : Dis K2 K1' := g1.dis b2 d1.symm
    have d3 : Dis K1' K2' := g2.dis g1.lt d2.symm
    refine ⟨T2, (L', R') :: A2', K1' ++ K2', ?_, (g1.left b2).trans (g2.right g1.lt), L', R', A2', K1', K2', Liv_st t _ _ _ _ _ _ _ _ n1 (g2.agr g1.lt d2.symm), n2, rfl, rfl, d3, (g2.agr g1.lt d2.symm).lt g1.lt, g2.lt⟩
    rw [rowC, List.flatMap_cons, ← List.append_assoc]
    show Ex ((L1 ++ R1) ++ flatJ A2) _ ⟨T2, _, Q ++ ((L' ++ R') ++ flatJ A2')⟩
    rw [← List.append_assoc Q]
    exact x1.app x2
/-! ### when all is done -/
mutual
def life : Tree → Int
  | .log _ => 0
  | .await n => n
  | .seq ps => lifes ps
  | .fork p => life p
  | .join ps => lifes ps
  | .race ps => lifes ps
  | .loop c b => c * life b
def lifes : List Tree → Int
  | [] => 0
  | t :: ts => life t + lifes ts
end
theorem lifes_le {t : Tree} : ∀ {ts : List Tree}, (∀ u ∈ ts, 0 ≤ life u) → t ∈ ts → 0 ≤ lifes ts ∧ life t ≤ lifes ts
  | u :: us, h, hm => by
    rw [lifes]
    have h1 := h u List.mem_cons_self
    have h2 : 0 ≤ lifes us := by
      cases us with
      | nil => rw [lifes]; exact Int.le_refl _
      | cons v vs => exact (lifes_le (t := v) (fun w hw => h w (List.mem_cons_of_mem _ hw)) List.mem_cons_self).1
    rcases List.mem_cons.mp hm with e | e
    · rw [e]; omega
    · have := lifes_le (fun w hw => h w (List.mem_cons_of_mem _ hw)) e; omega
def Dead (P : LP) (d : Int) : Prop := ∀ k f m T L R K, d < k → P k f m T L R K → L = [] ∧ R = []
theorem chain_dead : ∀ (ps : List Tree), (∀ p ∈ ps, Dead (Liv p) (life p) ∧ 0 ≤ fin p ∧ fin p ≤ life p) → Dead (chain (LivL ps)) (lifes ps)
  | [], _ => fun k f m T L R K _ h => by rw [LivL] at h; exact ⟨h.1, h.2.1⟩
  | p :: ps, hp => fun k f m T L R K hk h => by
    have h1 := hp p List.mem_cons_self
    have h2 := chain_dead ps fun q hq => hp q (List.mem_cons_of_mem _ hq)
    have h3 : 0 ≤ lifes ps := by
      cases ps with
      | nil => rw [lifes]; exact Int.le_refl _
      | cons q qs => exact (lifes_le (t := q) (fun u hu => by have := hp u (List.mem_cons_of_mem _ hu); omega) List.mem_cons_self).1
    rw [lifes] at hk
    rw [LivL] at h
    rcases h with ⟨c1, c2⟩ | ⟨c1, La, Ra, Ka, Lb, Rb, Kb, q1, q2, e1, e2, _⟩
    · omega
    · obtain ⟨z1, z2⟩ := h1.1 k _ m T La Ra Ka (by omega) q1
      obtain ⟨z3, z4⟩ := h2 (k - fin p) _ m T Lb Rb Kb (by omega) q2
      rw [e1, e2, z1, z2, z3, z4]
      exact ⟨rfl, rfl⟩
theorem plist_dead {d : Int} : ∀ (ps : List Tree), (∀ p ∈ ps, Dead (Liv p) d) → ∀ k f m T A K, d < k → plist (LivL ps) k f m T A K → flatJ A = []
  | [], _, k, f, m, T, A, K, _, h => by rw [LivL] at h; rw [h.1]; rfl
  | p :: ps, hp, k, f, m, T, A, K, hk, h => by
    rw [LivL] at h
    obtain ⟨L1, R1, A2, K1, K2, p1, p2, e1, _⟩ := h
    obtain ⟨z1, z2⟩ := hp p List.mem_cons_self k f m T L1 R1 K1 hk p1
    rw [e1, flatJ, z1, z2, plist_dead ps (fun q hq => hp q (List.mem_cons_of_mem _ hq)) k f m T A2 K2 hk p2]
    rfl
theorem life_ok : ∀ t, Pq t → Dead (Liv t) (life t) ∧ 0 ≤ fin t ∧ fin t ≤ life t := by
  intro t
  have bes : ∀ (ps : List Tree) (kp : Nat) (j : Bool) (n : Int), (∀ p ∈ ps, Dead (Liv p) (life p) ∧ 0 ≤ fin p ∧ fin p ≤ life p) → Dead (beside (fins ps) (LivL ps) kp j n) (lifes ps) := by
    intro ps kp j n hp k f m T L R K hk ⟨key, A, Ka, Lp, Rp, Kp, B, Kb, P, hP, hv, p1, p2, p3, e1, e2, _⟩
    have all : ∀ p ∈ ps, Dead (Liv p) (lifes ps) := fun p hpp k f m T L R K hk h => (hp p hpp).1 k f m T L R K (by have := lifes_le (fun u hu => by have := hp u hu; omega) hpp; omega) h
    have elt : LivL (ps.take kp) = (LivL ps).take kp := by rw [LivL_map, LivL_map, List.map_take]
    have eld : LivL (ps.drop (kp + 1)) = (LivL ps).drop (kp + 1) := by rw [LivL_map, LivL_map, List.map_drop]
    rw [← elt] at p1
    rw [← eld] at p3
    have z1 := plist_dead (ps.take kp) (fun p h => all p (List.mem_of_mem_take h)) _ _ _ _ _ _ hk p1
    have z2 := plist_dead (ps.drop (kp + 1)) (fun p h => all p (List.mem_of_mem_drop h)) _ _ _ _ _ _ hk p3
    have hPe : ∃ p ∈ ps, P = Liv p := by
      rw [LivL_map, List.getElem?_map] at hP
      obtain ⟨x, x1, x2⟩ := Option.map_eq_some_iff.mp hP
      obtain ⟨y, y1, y2⟩ := Option.map_eq_some_iff.mp x1
      exact ⟨y, List.mem_of_getElem? y1, by rw [← x2, ← y2]⟩
    obtain ⟨p, hpm, eP⟩ := hPe
    subst eP
    obtain ⟨z3, z4⟩ := all p hpm _ _ _ _ _ _ _ hk p2
    rw [e1, e2, z1, z2, z3, z4]
    exact ⟨rfl, rfl⟩
  refine Tree.ind (P := fun t => Pq t → Dead (Liv t) (life t) ∧ 0 ≤ fin t ∧ fin t ≤ life t) ?_ ?_ ?_ ?_ ?_ ?_ ?_ t
  · intro w _
    exact ⟨fun k f m T L R K _ h => by rw [Liv] at h; exact ⟨h.1, h.2.1⟩, by rw [fin]; omega, by rw [fin, life]; omega⟩
  · intro n h
    rw [Pq] at h
    refine ⟨fun k f m T L R K hk h => ?_, by rw [fin]; omega, by rw [fin, life]; omega⟩
    rw [life] at hk
    rw [Liv] at h
    have h1 := h.1
    rw [if_neg (by omega), if_neg (by omega)] at h1
    exact ⟨h1, h.2.1⟩
  · intro ps ih h
    rw [Pq] at h
    have c := chain_dead ps fun p hp => ih p hp (h.mem hp)
    have hs : ∀ ps : List Tree, (∀ p ∈ ps, 0 ≤ fin p ∧ fin p ≤ life p) → (fins ps).sum ≤ lifes ps := by
      intro ps
      induction ps with
      | nil => intro _; rw [fins, lifes]; exact Int.le_refl _
      | cons p ps ih =>
        intro h
        rw [fins, lifes, List.sum_cons]
        have := h p List.mem_cons_self
        have := ih fun q hq => h q (List.mem_cons_of_mem _ hq)
        omega
    refine ⟨fun k f m T L R K hk h => ?_, fin_nn (.seq ps) (by rw [Pq]; exact h), by rw [fin, life]; exact hs ps fun p hp => (ih p hp (h.mem hp)).2⟩
    rw [life] at hk
    rw [Liv] at h
    exact c k _ m T L R K hk h
  · intro p ih h
    rw [Pq] at h
    have i := ih h
    refine ⟨fun k f m T L R K hk h => ?_, by rw [fin]; omega, by rw [fin, life]; omega⟩
    rw [life] at hk
    rw [Liv] at h
    obtain ⟨L0, R0, h1, h2, h3⟩ := h
    obtain ⟨z1, z2⟩ := i.1 k _ m T L0 R0 K hk h1
    rw [h2, h3, z1, z2]
    exact ⟨rfl, rfl⟩
  · intro ps ih h
    rw [Pq] at h
    have i := fun p hp => ih p hp (h.1.mem hp)
    obtain ⟨p, hp, e⟩ := mem_fins (lmax_mem (fins_ne h.2))
    have := lifes_le (fun u hu => by have := i u hu; omega) hp
    refine ⟨?_, fin_nn (.join ps) (by rw [Pq]; exact h), by rw [fin, life, e]; have := i p hp; omega⟩
    rw [Liv, life]
    exact bes ps _ _ _ i
  · intro ps ih h
    rw [Pq] at h
    have i := fun p hp => ih p hp (h.1.mem hp)
    obtain ⟨p, hp, e⟩ := mem_fins (lmin_mem (fins_ne h.2))
    have := lifes_le (fun u hu => by have := i u hu; omega) hp
    refine ⟨?_, fin_nn (.race ps) (by rw [Pq]; exact h), by rw [fin, life, e]; have := i p hp; omega⟩
    rw [Liv, life]
    exact bes ps _ _ _ i
  · intro c b ih h
    rw [Pq] at h
    have i := ih h.2
    have cd := chain_dead (List.replicate c.toNat b) fun p hp => by rw [List.eq_of_mem_replicate hp]; exact i
    have el : ∀ n : Nat, lifes (List.replicate n b) = n * life b := by
      intro n
      induction n with
      | zero => rw [List.replicate_zero, lifes]; simp
      | succ n ih => rw [List.replicate_succ, lifes, ih, Int.natCast_add, Int.add_mul]; simp; omega
    have ec : ((c.toNat : Nat) : Int) = c := by omega
    refine ⟨fun k f m T L R K hk h => ?_, fin_nn (.loop c b) (by rw [Pq]; exact h), by rw [fin, life]; exact Int.mul_le_mul_of_nonneg_left i.2.2 h.1⟩
    rw [life] at hk
    rw [Liv] at h
    refine cd k (.loop c b f) m T L R K (by rw [el, ec]; exact hk) ?_
    rw [LivL_map, List.map_replicate]
    exact h
theorem plistC_dead {d : Int} : ∀ (cs : List (Int × Tree)), (∀ c ∈ cs, Dead (Liv c.2) d) → ∀ k T A K, d < k → plistC cs k T A K → flatJ A = []
  | [], _, k, T, A, K, _, h => by rw [h.1]; rfl
  | (m, t) :: cs, hp, k, T, A, K, hk, h => by
    obtain ⟨L1, R1, A2, K1, K2, p1, p2, e1, _⟩ := h
    obtain ⟨z1, z2⟩ := hp _ List.mem_cons_self k _ _ T L1 R1 K1 hk p1
    rw [e1, flatJ, z1, z2, plistC_dead cs (fun q hq => hp q (List.mem_cons_of_mem _ hq)) k T A2 K2 hk p2]
    rfl
/-! ### the run -/
inductive Rnds : Int → List Job → List Int → List (Int × Int × Wd) → Prop where
  | stop {a : Int} {T : List Int} : Rnds a [] T []
  | round {a : Int} {J Q : List Job} {T T' : List Int} {F : List (Int × Wd)} {rest : List (Int × Int × Wd)} (hJ : J ≠ []) (h : Ex J ⟨T, [], []⟩ ⟨T', F, Q⟩) (hr : Rnds (a + 1) Q T' rest) : Rnds a J T (F.map (fun p => (a, p.1, p.2)) ++ rest)
def rowsC (cs : List (Int × Tree)) (a : Int) (n : Nat) : List (Int × Int × Wd) := (List.range n).flatMap fun (i : Nat) => (rowC cs (a + (i : Int))).map fun p => (a + (i : Int), p.1, p.2)
theorem rowsC_succ (cs : List (Int × Tree)) (a : Int) (n : Nat) : rowsC cs a (n + 1) = (rowC cs a).map (fun p => (a, p.1, p.2)) ++ rowsC cs (a + 1) n := by
  unfold rowsC
  rw [List.range_succ_eq_map, List.flatMap_cons, List.flatMap_map]
  congr 1
  · simp
  · congr 1
    funext i
    have e : a + ((i + 1 : Nat) : Int) = a + 1 + i := by omega
    show List.map (fun p => (a + ((i + 1 : Nat) : Int), p.1, p.2)) (rowC cs (a + ((i + 1 : Nat) : Int))) = _
    rw [e]
theorem Ex.nil_inv {σ σ' : Ms} (h : Ex [] σ σ') : σ = σ' := by
  cases h; rfl
theorem flatJ_start (cs : List (Int × Tree)) : flatJ (cs.map fun c => ([Job.beg c.2 .none c.1], [])) = cs.map fun c => Job.beg c.2 .none c.1 := by
  induction cs with
  | nil => rfl
  | cons c cs ih => rw [List.map_cons, List.map_cons, flatJ, ih]; rfl
theorem run_from {cs : List (Int × Tree)} {d : Int} (hq : ∀ c ∈ cs, Pq c.2) (hd : ∀ c ∈ cs, Dead (Liv c.2) d) : ∀ (n : Nat) (a : Int) (T : List Int) (A : JJ) (K : List Nat), 1 ≤ a → d < a + n → plistC cs a T A K → (∀ i ∈ K, i < T.length) → Rnds a (flatJ A) T (rowsC cs a n)
  | 0, a, T, A, K, ha, hn, hp, hK => by
    rw [plistC_dead cs hd a T A K (by omega) hp]
    show Rnds a [] T []
    exact .stop
  | n + 1, a, T, A, K, ha, hn, hp, hK => by
    obtain ⟨T3, A', K3, x, g, n3⟩ := round_ok (k := a) (by omega) cs hq T A K (by rw [if_neg (by omega)]; exact hp) hK [] []
    have ih := run_from hq hd n (a + 1) T3 A' K3 (by omega) (by omega) n3 g.lt
    rw [rowsC_succ]
    by_cases hJ : flatJ A = []
    · rw [hJ] at x ⊢
      have e := x.nil_inv
      injection e with e1 e2 e3
      rw [List.nil_append] at e2 e3
      rw [← e2]
      rw [← e3] at ih
      -- nothing is left: the rest is empty, too
      have e4 : rowsC cs (a + 1) n = [] := by
        generalize rowsC cs (a + 1) n = res at ih
        generalize hJe : ([] : List Job) = J0 at ih
        cases ih with
        | stop => rfl
        | round hJ' _ _ => exact absurd hJe.symm hJ'
      rw [e4]
      exact .stop
    · exact .round hJ x ih
/-- the run of a queue with some programs -/
theorem run_ok {cs : List (Int × Tree)} {d : Int} (hne : cs ≠ []) (hq : ∀ c ∈ cs, Pq c.2) (hd : ∀ c ∈ cs, life c.2 ≤ d) (n : Nat) (hn : d < n + 1) : Rnds 0 (cs.map fun c => Job.beg c.2 .none c.1) [] (rowsC cs 0 (n + 1)) := by
  have hdead : ∀ c ∈ cs, Dead (Liv c.2) d := fun c hc k f m T L R K hk h => (life_ok c.2 (hq c hc)).1 k f m T L R K (by have := hd c hc; omega) h
  obtain ⟨T3, A', K3, x, g, n3⟩ := round_ok (k := 0) (by omega) cs hq [] (cs.map fun c => ([Job.beg c.2 .none c.1], [])) [] (by rw [if_pos rfl]; exact ⟨rfl, rfl⟩) (fun _ h => nomatch h) [] []
  rw [rowsC_succ]
  rw [flatJ_start, List.nil_append, List.nil_append] at x
  refine .round (fun e => ?_) x (run_from hq hdead n (0 + 1) T3 A' K3 (by omega) (by omega) n3 g.lt)
  exact hne (List.map_eq_nil_iff.mp e)
end L2.Aw

/-! The queue's values: frames, jobs, tallies; steps on dicts and lists. -/
namespace L2.Aw
open PySem PySem.Spec PyProof.Rows
def encF : Fr → W
  | .none => .tup [.str "none"]
  | .seq ps f => .tup [.str "seq", .tup (encs ps), encF f]
  | .loop n b f => .tup [.str "loop", .int n, enc b, encF f]
  | .par j key f => .tup [.str (if j then "join" else "race"), .int (key : Nat), encF f]
def encJ : Job → W
  | .beg t f m => .tup [.str "begin", enc t, encF f, .int m]
  | .dn f m => .tup [.str "done", .non, encF f, .int m]
/-- the dict of tallies -/
def kvsF (f : Nat → Int) (n : Nat) : List (Key × W) := (List.range n).map fun (i : Nat) => ((Sum.inl (i : Int) : Key), W.int (f i))
def kvsT (T : List Int) : List (Key × W) := kvsF (fun i => T.getD i 0) T.length
theorem kvsT_len (T : List Int) : (kvsT T).length = T.length := by
  unfold kvsT kvsF
  rw [List.length_map, List.length_range]
theorem kvsF_congr {f g : Nat → Int} {n : Nat} (h : ∀ i, i < n → f i = g i) : kvsF f n = kvsF g n := by
  unfold kvsF
  exact List.map_congr_left fun i hi => by rw [h i (List.mem_range.mp hi)]
theorem kvs_any {f : Nat → Int} {n key : Nat} : ((kvsF f n).any fun kv => decide (kv.1 = (Sum.inl (key : Int) : Key))) = decide (key < n) := by
  unfold kvsF
  rw [List.any_map]
  by_cases h : key < n
  · rw [decide_eq_true h, List.any_eq_true]
    exact ⟨key, List.mem_range.mpr h, by simp⟩
  · rw [decide_eq_false h, List.any_eq_false]
    intro i hi
    have := List.mem_range.mp hi
    simp
    omega
theorem put_new (T : List Int) (v : Int) : putW (kvsT T) (Sum.inl (T.length : Int)) (.int v) = kvsT (T ++ [v]) := by
  unfold putW
  have h : ((kvsT T).any fun kv => decide (kv.1 = (Sum.inl (T.length : Int) : Key))) = false := by
    unfold kvsT
    rw [kvs_any]
    simp
  rw [h, if_neg (by simp)]
  unfold kvsT
  rw [List.length_append, List.length_singleton]
  have e : kvsF (fun i => (T ++ [v]).getD i 0) (T.length + 1) = kvsF (fun i => (T ++ [v]).getD i 0) T.length ++ [(Sum.inl (T.length : Int), .int ((T ++ [v]).getD T.length 0))] := by
    unfold kvsF
    rw [List.range_succ, List.map_append]
    rfl
  rw [e]
  have e2 : kvsF (fun i => (T ++ [v]).getD i 0) T.length = kvsF (fun i => T.getD i 0) T.length := kvsF_congr fun i hi => by
    simp only [List.getD]
    rw [List.getElem?_append_left hi]
  have e3 : (T ++ [v]).getD T.length 0 = v := by
    simp [List.getD]
  rw [e2, e3]
theorem put_old (T : List Int) {key : Nat} (v : Int) (hk : key < T.length) : putW (kvsT T) (Sum.inl (key : Int)) (.int v) = kvsT (T.set key v) := by
  unfold putW
  have h : ((kvsT T).any fun kv => decide (kv.1 = (Sum.inl (key : Int) : Key))) = true := by
    unfold kvsT
    rw [kvs_any]
    exact decide_eq_true hk
  rw [h, if_pos rfl]
  unfold kvsT kvsF
  rw [List.map_map, List.length_set]
  refine List.map_congr_left fun i hi => ?_
  have hi' := List.mem_range.mp hi
  show (if (Sum.inl (i : Int) : Key) = Sum.inl (key : Int) then ((Sum.inl (i : Int) : Key), W.int v) else (Sum.inl (i : Int), W.int (T.getD i 0))) = (Sum.inl (i : Int), W.int ((T.set key v).getD i 0))
  by_cases e : i = key
  · subst e
    rw [if_pos rfl]
    simp [List.getD, hk]
  · rw [if_neg (by intro z; injection z with z; omega)]
    simp [List.getD, List.getElem?_set_ne (Ne.symm e)]
theorem val_at (T : List Int) {key : Nat} (hk : key < T.length) : valW (kvsT T) (Sum.inl (key : Int)) = some (.int (T.getD key 0)) := by
  unfold valW
  have h : (kvsT T).find? (fun kv => decide (kv.1 = (Sum.inl (key : Int) : Key))) = some (Sum.inl (key : Int), .int (T.getD key 0)) := by
    unfold kvsT kvsF
    rw [List.find?_map]
    have h2 : (List.range T.length).find? ((fun kv : Key × W => decide (kv.1 = (Sum.inl (key : Int) : Key))) ∘ fun i : Nat => ((Sum.inl (i : Int) : Key), W.int (T.getD i 0))) = some key := by
      rw [List.find?_range_eq_some]
      refine ⟨by simp, List.mem_range.mpr hk, fun j hj => ?_⟩
      simp
      omega
    rw [h2]
    rfl
  rw [h]
  rfl
section
variable {env : WEnv} {S S1 S2 S3 : Store} {w x y : W} {ws us : List W} {mo mi mv ma mb : WE}
theorem ev_dput {i : Nat} {k v : W} {kk : Key} {kvs : List (Key × W)} (hv : mv env S = some (v, S1)) (h : mo env S1 = some (.ref i, S2)) (h2 : mi env S2 = some (k, S3)) (hd : S3[i]? = some (.dK kvs)) (hk : wKey k = some kk) (hz : szOk (kvs.length + 1) = true) : sDPutW mo mi mv env S = some (.nx env (S3.set i (.dK (putW kvs kk v)))) := by
  rw [sDPutW, hv]
  show (mo env S1).bind (fun d => (mi env d.2).bind fun k => (dPut k.2 d.1 k.1 v).map fun S' => Out.nx env S') = _
  rw [h]
  show (mi env S2).bind (fun k => (dPut k.2 (.ref i) k.1 v).map fun S' => Out.nx env S') = _
  rw [h2]
  have e : dPut S3 (.ref i) k v = some (S3.set i (.dK (putW kvs kk v))) := by
    show (match S3[i]? with
    | some (.dK kvs) => if szOk (kvs.length + 1) then (wKey k).map fun k => S3.set i (.dK (putW kvs k v)) else none
    | some (.dT kvs) => if szOk (kvs.length + 1) then (wKeyT k).map fun k => S3.set i (.dT (putW kvs k v)) else none
    | _ => none) = _
    rw [hd]
    show (if szOk (kvs.length + 1) = true then (wKey k).map fun k => S3.set i (.dK (putW kvs k v)) else none) = _
    rw [if_pos hz, hk]
    rfl
  show (dPut S3 (.ref i) k v).map (fun S' => Out.nx env S') = _
  rw [e]
  rfl
theorem ev_extend {l b : Nat} (h : ma env S = some (.ref l, S1)) (h2 : mb env S1 = some (.ref b, S2)) (hl1 : (getL S1 l).isSome = true) (hl : getL S2 l = some ws) (hb : getL S2 b = some us) (hz : szOk (ws.length + us.length) = true) : mMeth lExtend ma (aCons mb aNil) env S = some (.non, S2.set l (.lst (ws ++ us))) := by
  refine ev_meth h hl1 (ev_cons h2 ev_nil) ?_
  show (getL S2 l).bind (fun us => (getL S2 b).bind fun zs => if szOk (us.length + zs.length) then some (W.non, S2.set l (.lst (us ++ zs))) else none) = _
  rw [hl]
  show (getL S2 b).bind (fun zs => if szOk (ws.length + zs.length) then some (W.non, S2.set l (.lst (ws ++ zs))) else none) = _
  rw [hb]
  show (if szOk (ws.length + us.length) = true then some (W.non, S2.set l (.lst (ws ++ us))) else none) = _
  rw [if_pos hz]
theorem ev_pop {l : Nat} (h : ma env S = some (.ref l, S1)) (hl : getL S1 l = some (ws ++ [y])) : mMeth lPop ma aNil env S = some (y, S1.set l (.lst ws)) := by
  refine ev_meth h (by show (getL S1 l).isSome = true; rw [hl]; rfl) ev_nil ?_
  show (getL S1 l).bind (fun us => (us[us.length - 1]?).map fun y => (y, S1.set l (.lst us.dropLast))) = _
  rw [hl, Option.bind_some, List.dropLast_concat, List.length_append, List.length_singleton, Nat.add_sub_cancel, List.getElem?_append_right (Nat.le_refl _), Nat.sub_self]
  rfl
end
end L2.Aw

/-! A store that holds a queue; good jobs; words shut and not shut. -/
namespace L2.Aw
open PySem PySem.Spec PyProof.Rows
theorem toP_wv {x : Wd} (h : wdOk x = true) : ∃ d, toP (wv x) = some d ∧ d.canLay0 = true ∧ d.depth ≤ 1 := toP_ok (wv_ok h)
theorem toPs_enc {ps : List Tree} (h : ∀ p ∈ ps, ∃ d, toP (enc p) = some d ∧ d.canLay0 = true ∧ d.depth ≤ 2 * dep p) : ∃ ds, toPs (encs ps) = some ds ∧ PyData.canLayAll0 ds = true ∧ PyData.depthAll ds ≤ 2 * deps ps ∧ ds.length = ps.length := by
  induction ps with
  | nil => exact ⟨[], by rw [encs, toPs], by rw [PyData.canLayAll0], by rw [PyData.depthAll]; omega, rfl⟩
  | cons p ps ih =>
    obtain ⟨d, a1, a2, a3⟩ := h p List.mem_cons_self
    obtain ⟨ds, b1, b2, b3, b4⟩ := ih fun q hq => h q (List.mem_cons_of_mem _ hq)
    exact ⟨d :: ds, by rw [encs, toPs, a1, b1]; rfl, by rw [PyData.canLayAll0, a2, b2]; rfl, by rw [PyData.depthAll, deps]; omega, by rw [List.length_cons, List.length_cons, b4]⟩
theorem toP_two {k : Str} {w : W} {d : PyData} {n : Nat} (hk : PyData.strOk k = true) (h : toP w = some d) (h2 : d.canLay0 = true) (h3 : d.depth ≤ n) : ∃ e, toP (.tup [.str k, w]) = some e ∧ e.canLay0 = true ∧ e.depth ≤ n + 1 :=
  ⟨.tuple [.str k, d], by rw [toP, toPs, toPs, toPs, toP, h]; rfl, by rw [PyData.canLay0, PyData.canLayAll0, PyData.canLayAll0, PyData.canLayAll0, PyData.canLay0, h2, hk]; rfl, by rw [PyData.depth, PyData.depthAll, PyData.depthAll, PyData.depthAll, PyData.depth]; omega⟩
theorem toP_enc : ∀ t, Ok t → ∃ d, toP (enc t) = some d ∧ d.canLay0 = true ∧ d.depth ≤ 2 * dep t := by
  intro t
  have many : ∀ (k : Str) (ps : List Tree), PyData.strOk k = true → (∀ p ∈ ps, ∃ d, toP (enc p) = some d ∧ d.canLay0 = true ∧ d.depth ≤ 2 * dep p) → ∃ d, toP (.tup [.str k, .tup (encs ps)]) = some d ∧ d.canLay0 = true ∧ d.depth ≤ 2 * (deps ps + 1) := by
    intro k ps hk h
    obtain ⟨ds, a1, a2, a3, _⟩ := toPs_enc h
    obtain ⟨e, b1, b2, b3⟩ := toP_two (n := 2 * deps ps + 1) hk (show toP (.tup (encs ps)) = some (.tuple ds) by rw [toP, a1]; rfl) (by rw [PyData.canLay0]; exact a2) (by rw [PyData.depth]; omega)
    exact ⟨e, b1, b2, by omega⟩
  refine Tree.ind (P := fun t => Ok t → ∃ d, toP (enc t) = some d ∧ d.canLay0 = true ∧ d.depth ≤ 2 * dep t) ?_ ?_ ?_ ?_ ?_ ?_ ?_ t
  · intro w h
    rw [Ok] at h
    obtain ⟨d, a1, a2, a3⟩ := toP_wv h
    rw [enc, dep]
    exact toP_two (by decide +kernel) a1 a2 a3
  · intro n h
    rw [enc, dep]
    obtain ⟨e, b1, b2, b3⟩ := toP_two (k := "await") (w := .int n) (d := .int n) (n := 0) (by decide +kernel) (by rw [toP]) (by rw [PyData.canLay0]) (by rw [PyData.depth]; omega)
    exact ⟨e, b1, b2, by omega⟩
  · intro ps ih h
    rw [Ok] at h
    rw [enc, dep]
    exact many _ ps (by decide +kernel) fun p hp => ih p hp (h.1.mem hp)
  · intro p ih h
    rw [Ok] at h
    rw [enc, dep]
    obtain ⟨d, a1, a2, a3⟩ := ih h
    obtain ⟨e, b1, b2, b3⟩ := toP_two (k := "fork") (by decide +kernel) a1 a2 a3
    exact ⟨e, b1, b2, by omega⟩
  · intro ps ih h
    rw [Ok] at h
    rw [enc, dep]
    exact many _ ps (by decide +kernel) fun p hp => ih p hp (h.1.mem hp)
  · intro ps ih h
    rw [Ok] at h
    rw [enc, dep]
    exact many _ ps (by decide +kernel) fun p hp => ih p hp (h.1.mem hp)
  · intro c b ih h
    rw [Ok] at h
    rw [enc, dep]
    obtain ⟨d, a1, a2, a3⟩ := ih h.1
    have hk : PyData.strOk ("loop" : Str) = true := by decide +kernel
    exact ⟨.tuple [.str "loop", .int c, d], by rw [toP, toPs, toPs, toPs, toPs, toP, toP, a1]; rfl, by rw [PyData.canLay0, PyData.canLayAll0, PyData.canLayAll0, PyData.canLayAll0, PyData.canLayAll0, PyData.canLay0, PyData.canLay0, a2, hk]; rfl, by rw [PyData.depth, PyData.depthAll, PyData.depthAll, PyData.depthAll, PyData.depthAll, PyData.depth, PyData.depth]; omega⟩
/-! good jobs -/
def FrG : Fr → Prop
  | .none => True
  | .seq ps f => Oks ps ∧ deps ps ≤ 30 ∧ FrG f
  | .loop n b f => Ok b ∧ dep b ≤ 30 ∧ FrG f
  | .par _ _ f => FrG f
def JbG : Job → Prop
  | .beg t f _ => Ok t ∧ dep t ≤ 30 ∧ FrG f
  | .dn f _ => FrG f
theorem JbG.step {j : Job} {σ : Ms} (h : JbG j) (hq : ∀ x ∈ σ.Q, JbG x) : (∀ x ∈ (stepJ j σ).2, JbG x) ∧ ∀ x ∈ (stepJ j σ).1.Q, JbG x := by
  cases j with
  | beg t f m =>
    obtain ⟨h1, h2, h3⟩ := h
    cases t with
    | log w => exact ⟨fun x hx => by rw [List.mem_singleton.mp hx]; exact h3, hq⟩
    | await n =>
      refine ⟨fun x hx => (nomatch hx), fun x hx => ?_⟩
      rcases List.mem_append.mp hx with e | e
      · exact hq x e
      · rw [List.mem_singleton.mp e]
        rw [Ok] at h1
        split
        · exact ⟨by rw [Ok]; omega, by rw [dep]; omega, h3⟩
        · exact h3
    | fork p =>
      rw [Ok] at h1
      rw [dep] at h2
      refine ⟨fun x hx => ?_, hq⟩
      rcases List.mem_cons.mp hx with e | e
      · rw [e]; exact ⟨h1, by omega, trivial⟩
      · rw [List.mem_singleton.mp e]; exact h3
    | seq ps =>
      rw [Ok] at h1
      rw [dep] at h2
      exact ⟨fun x hx => by rw [List.mem_singleton.mp hx]; exact ⟨h1.1, by omega, h3⟩, hq⟩
    | loop c b =>
      rw [Ok] at h1
      rw [dep] at h2
      exact ⟨fun x hx => by rw [List.mem_singleton.mp hx]; exact ⟨h1.1, by omega, h3⟩, hq⟩
    | join ps =>
      rw [Ok] at h1
      rw [dep] at h2
      refine ⟨fun x hx => ?_, hq⟩
      obtain ⟨p, hp, e⟩ := List.mem_map.mp hx
      rw [← e]
      exact ⟨h1.1.mem hp, by have := dep_le hp; omega, h3⟩
    | race ps =>
      rw [Ok] at h1
      rw [dep] at h2
      refine ⟨fun x hx => ?_, hq⟩
      obtain ⟨p, hp, e⟩ := List.mem_map.mp hx
      rw [← e]
      exact ⟨h1.1.mem hp, by have := dep_le hp; omega, h3⟩
  | dn f m =>
    cases f with
    | none => exact ⟨fun x hx => (nomatch hx), hq⟩
    | seq ps f =>
      obtain ⟨h1, h2, h3⟩ := h
      cases ps with
      | nil => exact ⟨fun x hx => by rw [List.mem_singleton.mp hx]; exact h3, hq⟩
      | cons p ps =>
        rw [Oks] at h1
        rw [deps] at h2
        exact ⟨fun x hx => by rw [List.mem_singleton.mp hx]; exact ⟨h1.1, by omega, h1.2, by omega, h3⟩, hq⟩
    | loop n b f =>
      obtain ⟨h1, h2, h3⟩ := h
      refine ⟨fun x hx => ?_, hq⟩
      have hx' : x ∈ (if n = 0 then [Job.dn f m] else [.beg b (.loop (n - 1) b f) m]) := hx
      split at hx'
      · rw [List.mem_singleton.mp hx']; exact h3
      · rw [List.mem_singleton.mp hx']; exact ⟨h1, h2, h1, h2, h3⟩
    | par j key f =>
      refine ⟨fun x hx => ?_, hq⟩
      have hx' : x ∈ (if σ.T.getD key 0 - 1 = 0 then [Job.dn f m] else []) := hx
      split at hx'
      · rw [List.mem_singleton.mp hx']; exact h
      · cases hx'
/-! ### a store that holds a state of the queue -/
structure RepQ (S : Store) (ta fo la : Nat) (a : Int) (P : List W) (Lr : List Nat) (σ : Ms) : Prop where
  t : S[ta]? = some (.dK (kvsT σ.T))
  f : getL S fo = some (P ++ σ.F.map fun p => .tup [.int a, .int p.1, wv p.2])
  l : getL S la = some (Lr.map W.ref)
  len : Lr.length = σ.Q.length
  q : ∀ (i r : Nat) (j : Job), Lr[i]? = some r → σ.Q[i]? = some j → getL S r = some [encJ j]
  d1 : ta ≠ fo
  d2 : ta ≠ la
  d3 : fo ≠ la
  r : ∀ r ∈ Lr, r ≠ ta ∧ r ≠ fo ∧ r ≠ la
theorem RepQ.grow {S S' : Store} {ta fo la : Nat} {a : Int} {P : List W} {Lr : List Nat} {σ : Ms} {p : Nat → Prop} (h : RepQ S ta fo la a P Lr σ) (g : Grow p S S') (h1 : ¬ p ta) (h2 : ¬ p fo) (h3 : ¬ p la) (h4 : ∀ r ∈ Lr, ¬ p r) : RepQ S' ta fo la a P Lr σ :=
  ⟨by rw [g.at_ ta (List.getElem?_eq_some_iff.mp h.t).1 h1]; exact h.t, g.getL h.f h2, g.getL h.l h3, h.len, fun i r j a b => g.getL (h.q i r j a b) (h4 r (List.mem_of_getElem? a)), h.d1, h.d2, h.d3, h.r⟩
theorem RepQ.push {S : Store} {ta fo la : Nat} {a : Int} {P : List W} {Lr : List Nat} {σ : Ms} (h : RepQ S ta fo la a P Lr σ) (X : Store) : RepQ (S ++ X) ta fo la a P Lr σ :=
  h.grow (p := fun _ => False) (Grow.push X) id id id (fun _ _ => id)
theorem RepQ.lts {S : Store} {ta fo la : Nat} {a : Int} {P : List W} {Lr : List Nat} {σ : Ms} (h : RepQ S ta fo la a P Lr σ) : ta < S.length ∧ fo < S.length ∧ la < S.length :=
  ⟨(List.getElem?_eq_some_iff.mp h.t).1, (List.getElem?_eq_some_iff.mp (getL_some h.f)).1, (List.getElem?_eq_some_iff.mp (getL_some h.l)).1⟩
/-- a word is logged -/
theorem RepQ.log {S : Store} {ta fo la : Nat} {a : Int} {P : List W} {Lr : List Nat} {σ : Ms} {m : Int} {w : Wd} {ws : List W} (h : RepQ S ta fo la a P Lr σ) (hw : ws = P ++ (σ.F.map fun p => W.tup [.int a, .int p.1, wv p.2]) ++ [.tup [.int a, .int m, wv w]]) : RepQ (S.set fo (.lst ws)) ta fo la a P Lr ⟨σ.T, σ.F ++ [(m, w)], σ.Q⟩ := by
  subst hw
  have g : Grow (fun i => i = fo) S (S.set fo (.lst (P ++ (σ.F.map fun p => W.tup [.int a, .int p.1, wv p.2]) ++ [.tup [.int a, .int m, wv w]]))) := Grow.set rfl
  refine ⟨by rw [g.at_ ta h.lts.1 h.d1]; exact h.t, ?_, g.getL h.l (fun e => h.d3 e.symm), h.len, fun i r j x y => g.getL (h.q i r j x y) (h.r r (List.mem_of_getElem? x)).2.1, h.d1, h.d2, h.d3, h.r⟩
  rw [getL_set h.lts.2.1, List.map_append, ← List.append_assoc]
  rfl
/-- a callback is laid for the next round -/
theorem RepQ.later {S : Store} {ta fo la : Nat} {a : Int} {P : List W} {Lr : List Nat} {σ : Ms} {j : Job} {r : Nat} (h : RepQ S ta fo la a P Lr σ) (hr : getL S r = some [encJ j]) (h1 : r ≠ ta) (h2 : r ≠ fo) (h3 : r ≠ la) : RepQ (S.set la (.lst (Lr.map W.ref ++ [.ref r]))) ta fo la a P (Lr ++ [r]) ⟨σ.T, σ.F, σ.Q ++ [j]⟩ := by
  have g : Grow (fun i => i = la) S (S.set la (.lst (Lr.map W.ref ++ [.ref r]))) := Grow.set rfl
  refine ⟨by rw [g.at_ ta h.lts.1 h.d2]; exact h.t, g.getL h.f h.d3, ?_, by simp [h.len], fun i x k a b => ?_, h.d1, h.d2, h.d3, fun x hx => ?_⟩
  · rw [getL_set h.lts.2.2, List.map_append]; rfl
  · by_cases hi : i < Lr.length
    · rw [List.getElem?_append_left hi] at a
      have hi2 : i < σ.Q.length := by rw [← h.len]; exact hi
      have b' : (σ.Q ++ [j])[i]? = some k := b
      rw [List.getElem?_append_left hi2] at b'
      exact g.getL (h.q i x k a b') (h.r x (List.mem_of_getElem? a)).2.2
    · have hb := (List.getElem?_eq_some_iff.mp a).1
      rw [List.length_append, List.length_singleton] at hb
      have ei : i = Lr.length := by omega
      subst ei
      have b' : (σ.Q ++ [j])[Lr.length]? = some k := b
      rw [List.getElem?_append_right (Nat.le_refl _), Nat.sub_self] at a
      rw [h.len, List.getElem?_append_right (Nat.le_refl _), Nat.sub_self] at b'
      cases a
      cases b'
      exact g.getL hr h3
  · rcases List.mem_append.mp hx with e | e
    · exact h.r x e
    · rw [List.mem_singleton.mp e]; exact ⟨h1, h2, h3⟩
/-- a tally is kept -/
theorem RepQ.tally {S : Store} {ta fo la : Nat} {a : Int} {P : List W} {Lr : List Nat} {σ : Ms} {T : List Int} {kvs : List (Key × W)} (h : RepQ S ta fo la a P Lr σ) (hk : kvs = kvsT T) : RepQ (S.set ta (.dK kvs)) ta fo la a P Lr ⟨T, σ.F, σ.Q⟩ := by
  subst hk
  have g : Grow (fun i => i = ta) S (S.set ta (.dK (kvsT T))) := Grow.set rfl
  exact ⟨List.getElem?_set_self h.lts.1, g.getL h.f (fun e => h.d1 e.symm), g.getL h.l (fun e => h.d2 e.symm), h.len, fun i r j x y => g.getL (h.q i r j x y) (h.r r (List.mem_of_getElem? x)).1, h.d1, h.d2, h.d3, h.r⟩
/-! rest in ((), 0) -/
theorem toPs_two : toPs [.tup [], .int 0] = some [PyData.tuple [], .int 0] := by simp [toPs, toP]
theorem shaped_of {d : PyData} {n : Nat} (h : d.canLay0 = true) (h2 : d.depth ≤ n) (hn : n ≤ 64) : SeqAt.shaped d = true := by
  unfold SeqAt.shaped
  rw [h, decide_eq_true (show d.depth ≤ 64 by omega)]
  rfl
section
variable {env : WEnv} {S S1 : Store} {ma : WE}
theorem in_row {ps : List Tree} (ho : Oks ps) (hd : deps ps ≤ 30) (h : ma env S = some (.tup (encs ps), S1)) : mTest (mBin wInT ma (mTup (aCons (mTup aNil) (aCons (mC (.int 0)) aNil)))) env S = some (ps.isEmpty, S1) := by
  obtain ⟨ds, a1, a2, a3, a4⟩ := toPs_enc (ps := ps) fun p hp => toP_enc p (ho.mem hp)
  refine ev_inT h (ev_tup (ev_cons rfl (ev_cons rfl ev_nil)) rfl) (d := .tuple ds) (ds := [.tuple [], .int 0]) (by rw [toP, a1]; rfl) toPs_two (shaped_of (n := 61) (by rw [PyData.canLay0]; exact a2) (by rw [PyData.depth]; omega) (by omega)) (by decide +kernel) ?_
  cases ps with
  | nil =>
    cases ds with
    | nil => rw [List.any_cons, PyData.eqv, PyData.eqvAll]; rfl
    | cons d ds => cases a4
  | cons p ps =>
    cases ds with
    | nil => cases a4
    | cons d ds => rw [List.any_cons, List.any_cons, List.any_nil, PyData.eqv, PyData.eqvAll, PyData.eqv]; rfl
theorem in_num {n : Int} (h : ma env S = some (.int n, S1)) : mTest (mBin wInT ma (mTup (aCons (mTup aNil) (aCons (mC (.int 0)) aNil)))) env S = some (decide (n = 0), S1) := by
  refine ev_inT h (ev_tup (ev_cons rfl (ev_cons rfl ev_nil)) rfl) (d := .int n) (ds := [.tuple [], .int 0]) (by rw [toP]) toPs_two (shaped_of (n := 0) (by rw [PyData.canLay0]) (by rw [PyData.depth]; omega) (by omega)) (by decide +kernel) ?_
  rw [List.any_cons, List.any_cons, List.any_nil, PyData.eqv, PyData.eqv]
  by_cases e : n = 0
  · subst e; rfl
  · rw [decide_eq_false e, beq_eq_false_iff_ne.mpr (fun z => e z.symm)]; rfl
end
end L2.Aw

/-! Runs cut in two. -/
namespace L2.Aw
theorem Ex.split_gen {J : List Job} {σ σ' : Ms} (h : Ex J σ σ') : ∀ a b, J = a ++ b → ∃ σ1, Ex a σ σ1 ∧ Ex b σ1 σ' := by
  induction h with
  | @nil σ =>
    intro a b e
    have e1 := List.append_eq_nil_iff.mp e.symm
    rw [e1.1, e1.2]
    exact ⟨σ, .nil, .nil⟩
  | @cons j js σ σ' hx ih =>
    intro a b e
    cases a with
    | nil =>
      rw [List.nil_append] at e
      rw [← e]
      exact ⟨σ, .nil, .cons hx⟩
    | cons j' a =>
      rw [List.cons_append] at e
      obtain ⟨e1, e2⟩ := List.cons.inj e
      subst e1
      obtain ⟨σ1, h1, h2⟩ := ih ((stepJ j σ).2 ++ a) b (by rw [e2, List.append_assoc])
      exact ⟨σ1, .cons h1, h2⟩
theorem Ex.split {a b : List Job} {σ σ' : Ms} (h : Ex (a ++ b) σ σ') : ∃ σ1, Ex a σ σ1 ∧ Ex b σ1 σ' := h.split_gen a b rfl
theorem Ex.within {N : Nat} {a : List Job} {σ σ1 : Ms} (h : Ex a σ σ1) : ∀ b, Within N (a ++ b) σ → Within N b σ1 := by
  induction h with
  | nil => intro b hw; exact hw
  | @cons j js σ σ' hx ih =>
    intro b hw
    have hw' : Within N (j :: (js ++ b)) σ := hw
    have z := hw'.step
    rw [← List.append_assoc] at z
    exact ih b z
theorem Within.left {N : Nat} {a b : List Job} {σ : Ms} (h : Within N (a ++ b) σ) : Within N a σ := by
  obtain ⟨G, h1, h2, h3, h4⟩ := h
  rw [phis_app] at h4
  exact ⟨G, h1, fun x hx => h2 x (List.mem_append_left _ hx), h3, by omega⟩
/-- the next round -/
theorem Within.next {N : Nat} {σ : Ms} (h : Within N [] σ) : Within (N - σ.F.length) σ.Q ⟨σ.T, [], []⟩ ∧ σ.F.length ≤ N := by
  obtain ⟨G, h1, h2, h3, h4⟩ := h
  rw [phis] at h4
  refine ⟨⟨G, h1, h3, fun _ h => (nomatch h), ?_⟩, by omega⟩
  rw [phis]
  show _ + 0 + held σ.T G + 0 + σ.T.length ≤ N - σ.F.length
  omega
/-- what is started stays within its cost -/
theorem Within.start {cs : List (Int × Tree)} (hq : ∀ c ∈ cs, Pq c.2) : Within ((cs.map fun c => cost c.2 + 1).sum) (cs.map fun c => Job.beg c.2 .none c.1) ⟨[], [], []⟩ := by
  refine ⟨[], rfl, fun x hx => ?_, fun _ h => (nomatch h), ?_⟩
  · obtain ⟨c, hc, e⟩ := List.mem_map.mp hx
    rw [← e]
    exact ⟨hq c hc, trivial⟩
  · have e : phis (cs.map fun c => Job.beg c.2 .none c.1) = (cs.map fun c => cost c.2 + 1).sum := by
      clear hq
      induction cs with
      | nil => rfl
      | cons c cs ih => rw [List.map_cons, List.map_cons, phis, phi, nuF, ih, List.sum_cons]
    rw [e]
    show _ + 0 + 0 + 0 + 0 ≤ _
    omega
/-! ### words shut -/
theorem shut_tot {k : Prop} [Decidable k] (a : Sd) : tw (shut k a) = tw a := by
  unfold shut tw
  split
  · rfl
  · rw [List.append_nil]
theorem tw_glue (a b : Sd) : tw (glue a b) = a.1 ++ tw b ++ a.2 := by
  show (a.1 ++ b.1) ++ (b.2 ++ a.2) = a.1 ++ (b.1 ++ b.2) ++ a.2
  simp
theorem shut_eq {k : Prop} [Decidable k] {a b : Sd} (h1 : k → a = b) (h2 : ¬ k → tw a = tw b) : shut k a = shut k b := by
  by_cases h : k
  · rw [h1 h]
  · rw [shut_f h, shut_f h]
    show ((tw a, []) : Sd) = (tw b, [])
    rw [h2 h]
end L2.Aw

/-! Words of a round: shut and not shut. -/
namespace L2.Aw
theorem sides_turns (b : Tree) : ∀ (n : Nat) (a : Int), glueR (fun i => sides b (a - i * fin b)) n = bag (List.replicate n b) a
  | 0, a => by rw [List.replicate_zero, bag]; rfl
  | n + 1, a => by
    rw [List.replicate_succ, bag, ← sides_turns b n (a - fin b), Nat.add_comm n 1, glueR_add]
    congr 1
    · show glue ([], []) (sides b (a - ((0 : Nat) : Int) * fin b)) = _
      rw [nil_glue]
      congr 1
      simp
    · refine glueR_congr fun i _ => ?_
      congr 1
      have e : ((1 + i : Nat) : Int) * fin b = fin b + i * fin b := by
        rw [Int.natCast_add, Int.add_mul]; simp
      rw [e]
      omega
theorem row_raw : ∀ (ps : List Tree), (∀ p ∈ ps, ∀ a, sides p a = shut (fin p ≤ a) (raw p a)) → Oks ps → Pqs ps → ∀ a, ((fins ps).sum ≤ a → bag ps a = rawB ps a) ∧ tw (bag ps a) = tw (rawB ps a)
  | [], _, _, _, a => by rw [bag, rawB]; exact ⟨fun _ => rfl, rfl⟩
  | p :: ps, h, ho, hq, a => by
    have h1 := h p List.mem_cons_self a
    rw [Oks] at ho
    rw [Pqs] at hq
    have ih := row_raw ps (fun q hq => h q (List.mem_cons_of_mem _ hq)) ho.2 hq.2 (a - fin p)
    have d0 := fin_nn p hq.1
    have D0 := fins_sum_nonneg ho.2
    rw [bag, rawB, fins, List.sum_cons]
    refine ⟨fun hs => ?_, ?_⟩
    · rw [ih.1 (by omega), h1, shut_t (by omega)]
    · by_cases hp : fin p ≤ a
      · rw [h1, shut_t hp, tw_glue, tw_glue, ih.2]
      · rw [bag_neg ho.2 (by omega), rawB_neg hq.2 (by omega), glue_nil, glue_nil, h1, shut_tot]
theorem beside_raw {ps : List Tree} {kp : Nat} {pk : Tree} {a F : Int} (hk : ps[kp]? = some pk) (hF : fin pk = F) (h : ∀ p ∈ ps, ∀ a, sides p a = shut (fin p ≤ a) (raw p a)) : shut (F ≤ a) (besF kp 0 ([], []) (sidesL ps a)) = shut (F ≤ a) (besF kp 0 ([], []) (rawL ps a)) := by
  obtain ⟨hkl, hkg⟩ := List.getElem?_eq_some_iff.mp hk
  have esp : ps = ps.take kp ++ pk :: ps.drop (kp + 1) := by
    rw [← hkg, ← List.drop_eq_getElem_cons hkl, List.take_append_drop]
  have cut : ∀ f : Tree → Sd, besF kp 0 ([], []) (ps.map f) = (((ps.take kp).map f).flatMap tw ++ (f pk).1, (f pk).2 ++ ((ps.drop (kp + 1)).map f).flatMap tw) := by
    intro f
    have e : ps.map f = (ps.take kp).map f ++ f pk :: (ps.drop (kp + 1)).map f := by
      have e2 : ps.map f = (ps.take kp ++ pk :: ps.drop (kp + 1)).map f := by rw [← esp]
      rw [e2, List.map_append, List.map_cons]
    rw [e]
    exact besF_split (by rw [List.length_map, List.length_take]; omega)
  have fm : ∀ qs : List Tree, (∀ q ∈ qs, q ∈ ps) → (qs.map fun p => sides p a).flatMap tw = (qs.map fun p => raw p a).flatMap tw := by
    intro qs
    induction qs with
    | nil => intro _; rfl
    | cons q qs ih =>
      intro hq
      rw [List.map_cons, List.map_cons, List.flatMap_cons, List.flatMap_cons, ih fun x hx => hq x (List.mem_cons_of_mem _ hx), h q (hq q List.mem_cons_self) a, shut_tot]
  have hpk := h pk (List.mem_of_getElem? hk) a
  rw [hF] at hpk
  rw [sidesL_map, rawL_map, cut, cut, fm _ fun q hq => List.mem_of_mem_take hq, fm _ fun q hq => List.mem_of_mem_drop hq]
  refine shut_eq (fun hk => ?_) (fun hk => ?_)
  · rw [hpk, shut_t hk]
  · have e : tw (sides pk a) = tw (raw pk a) := by rw [hpk, shut_tot]
    have e' : (sides pk a).1 ++ (sides pk a).2 = (raw pk a).1 ++ (raw pk a).2 := e
    show (_ ++ (sides pk a).1) ++ ((sides pk a).2 ++ _) = (_ ++ (raw pk a).1) ++ ((raw pk a).2 ++ _)
    rw [List.append_assoc, ← List.append_assoc (sides pk a).1, e', List.append_assoc, List.append_assoc]
theorem sides_raw : ∀ t, Ok t → Pq t → ∀ a, sides t a = shut (fin t ≤ a) (raw t a) := by
  intro t
  have one : ∀ (k : Prop) [Decidable k] (l : List Wd), shut k (l, []) = (l, []) := fun k _ l => by
    unfold shut
    split
    · rfl
    · show ((l ++ [], []) : Sd) = _
      rw [List.append_nil]
  refine Tree.ind (P := fun t => Ok t → Pq t → ∀ a, sides t a = shut (fin t ≤ a) (raw t a)) ?_ ?_ ?_ ?_ ?_ ?_ ?_ t
  · intro w _ _ a
    rw [sides, raw]
    split
    · rw [one]
    · rw [one]
  · intro n _ _ a; rw [sides, raw, one]
  · intro ps ih ho hq a
    rw [Ok] at ho
    rw [Pq] at hq
    have r := row_raw ps (fun p hp => ih p hp (ho.1.mem hp) (hq.mem hp)) ho.1 hq a
    rw [sides, raw, fin]
    exact shut_eq r.1 fun _ => r.2
  · intro p ih ho hq a
    rw [Ok] at ho
    rw [Pq] at hq
    rw [sides, raw, one]
    have e : tw (sides p a) = tw (raw p a) := by rw [ih ho hq a, shut_tot]
    show ((tw (sides p a), []) : Sd) = (tw (raw p a), [])
    rw [e]
  · intro ps ih ho hq a
    rw [Ok] at ho
    rw [Pq] at hq
    obtain ⟨_, _, _, h3⟩ := keyJ_at (fins_ne hq.2)
    obtain ⟨pk, q1, q2⟩ := fins_get h3
    rw [sides, raw, fin]
    exact beside_raw q1 q2 fun p hp => ih p hp (ho.1.mem hp) (hq.1.mem hp)
  · intro ps ih ho hq a
    rw [Ok] at ho
    rw [Pq] at hq
    obtain ⟨pk, q1, q2⟩ := fins_get (keyR_at (fins_ne hq.2)).2
    rw [sides, raw, fin]
    exact beside_raw q1 q2 fun p hp => ih p hp (ho.1.mem hp) (hq.1.mem hp)
  · intro c b ih ho hq a
    rw [Ok] at ho
    rw [Pq] at hq
    have hos : Oks (List.replicate c.toNat b) := Oks.of fun p hp => by rw [List.eq_of_mem_replicate hp]; exact ho.1
    have r := row_raw (List.replicate c.toNat b) (fun p hp => by rw [List.eq_of_mem_replicate hp]; exact ih ho.1 hq.2) hos (Pqs.rep hq.2 _) a
    have ec : ((c.toNat : Nat) : Int) = c := by omega
    rw [fins_rep, ec] at r
    rw [sides, raw, fin, sides_turns, raw_turns]
    exact shut_eq r.1 fun _ => r.2
end L2.Aw

/-! A program followed by ticks. -/
namespace L2.Aw
def tick : Tree := .seq [.log .none, .await 1]
theorem fin_tick : fin tick = 1 := by
  rw [tick, fin, fins, fins, fins, fin, fin]; rfl
theorem raw_tick (r : Int) : raw tick r = if r = 0 then ([.none], []) else ([], []) := by
  rw [tick, raw, rawB, rawB, rawB, glue_nil, raw, raw, glue_nil]
theorem raw_ticks (n : Nat) : ∀ r : Int, rawB (List.replicate n tick) r = if 0 ≤ r ∧ r < n then ([.none], []) else ([], []) := by
  induction n with
  | zero => intro r; rw [List.replicate_zero, rawB, if_neg (by omega)]
  | succ n ih =>
    intro r
    rw [List.replicate_succ, rawB, ih, fin_tick, raw_tick]
    by_cases h : r = 0
    · rw [if_pos h, if_neg (by omega), if_pos (by omega), glue_nil]
    · rw [if_neg h, nil_glue]
      by_cases h2 : 0 ≤ r - 1 ∧ r - 1 < n
      · rw [if_pos h2, if_pos (by omega)]
      · rw [if_neg h2, if_neg (by omega)]
/-- the words of a round, marked where what follows would log -/
def mkw (t : Tree) (a : Int) : List Wd := if fin t ≤ a then (sides t a).1 ++ [.none] ++ (sides t a).2 else (sides t a).1
theorem ticked {t : Tree} {many a : Int} (ho : Ok t) (hq : Pq t) (h1 : a < many) : tw (raw (.seq [t, .loop many tick]) a) = mkw t a := by
  have hf := fin_nn t hq
  have hs := sides_raw t ho hq a
  rw [raw, rawB, rawB, rawB, glue_nil, raw, raw_turns, raw_ticks, tw_glue]
  unfold mkw
  by_cases h : fin t ≤ a
  · rw [if_pos h, if_pos (by omega), hs, shut_t h]
    rfl
  · rw [if_neg h, if_neg (by omega), hs, shut_f h]
    show (raw t a).1 ++ ([] ++ []) ++ (raw t a).2 = (raw t a).1 ++ (raw t a).2
    rw [List.append_nil, List.append_nil]
end L2.Aw

/-! Steps of evaluation, in a form that a tactic can take one after the other. -/
namespace L2.Aw
open PySem PySem.Spec PyProof.Rows
def contO (b : WS) : Out → Option Out
  | .nx e S => b e S
  | .bk e S => some (.bk e S)
  | .ct e S => some (.ct e S)
  | .rt w S => some (.rt w S)
def condO (k : Bool) (a b : WS) (env : WEnv) (S : Store) : Option Out := if k then a env S else b env S
def condE (k : Bool) (a b : WE) (env : WEnv) (S : Store) : Option (W × Store) := if k then a env S else b env S
def condT (k : Bool) (b : WT) (d : Bool) (env : WEnv) (S : Store) : Option (Bool × Store) := if k then b env S else some (d, S)
section
variable {env e1 env1 : WEnv} {S S1 S2 S3 : Store} {w x y z : W} {ws us : List W} {a b m1 m2 body : WS} {o o1 : Out} {r : Option Out} {m ma mb mc mi mo : WE} {mes : WA} {t ta tb : WT} {f f' : W2} {F : FM} {R : Option (W × Store)} {RT : Option (Bool × Store)} {tg : Tg} {k k2 : Bool} {n : Nat} {i j : Int}
theorem g_seq (h : a env S = some o1) (h2 : contO b o1 = r) : sSeq a b env S = r := by
  rw [sSeq, h]
  cases o1 <;> exact h2
theorem g_is {m : WE} (h : m env S = some (x, S1)) (h2 : x = y) : m env S = some (y, S1) := by subst h2; exact h
theorem g_run {m : WS} (h : m (ws.map some ++ List.replicate (n - ws.length) none) S = some o) (h2 : o = .rt w S1) : runB n m ws S = some (w, S1) := by subst h2; exact ev_run h
theorem g_run_nx {m : WS} (h : m (ws.map some ++ List.replicate (n - ws.length) none) S = some (.nx e1 S1)) : runB n m ws S = some (.non, S1) := ev_run_nx h
theorem g_nx (h : b env S = r) : contO b (.nx env S) = r := h
theorem g_rt (h : some (.rt w S) = r) : contO b (.rt w S) = r := h
theorem g_bk (h : some (.bk env S) = r) : contO b (.bk env S) = r := h
theorem g_ct (h : some (.ct env S) = r) : contO b (.ct env S) = r := h
theorem g_if (h : t env S = some (k, S1)) (h2 : condO k a b env S1 = r) : sIf t a b env S = r := by rw [sIf, h]; exact h2
theorem g_cT (h : a env S = r) : condO true a b env S = r := h
theorem g_cF (h : b env S = r) : condO false a b env S = r := h
theorem g_mif (h : t env S = some (k, S1)) (h2 : condE k ma mb env S1 = R) : mIf t ma mb env S = R := by rw [mIf, h]; exact h2
theorem g_eT (h : ma env S = R) : condE true ma mb env S = R := h
theorem g_eF (h : mb env S = R) : condE false ma mb env S = R := h
theorem g_next : sNext env S = some (.nx env S) := rfl
theorem g_break : sBreak env S = some (.bk env S) := rfl
theorem g_cont : sCont env S = some (.ct env S) := rfl
theorem g_retN : sRetN env S = some (.rt .non S) := rfl
theorem g_C : mC w env S = some (w, S) := rfl
theorem g_var {k : Nat} (h : env[k]?.join = some w) : mVar k env S = some (w, S) := by rw [mVar, h]; rfl
theorem g_asg (h : m env S = some (w, S1)) (h2 : tg.asg w env = some env1) : sAsg tg m env S = some (.nx env1 S1) := ev_asg h h2
theorem g_or (h : ta env S = some (k, S1)) (h2 : condT (!k) tb true env S1 = RT) : tOrW ta tb env S = RT := by
  rw [tOrW, h]
  cases k
  · exact h2
  · exact h2
theorem g_and (h : ta env S = some (k, S1)) (h2 : condT k tb false env S1 = RT) : tAndW ta tb env S = RT := by
  rw [tAndW, h]
  cases k
  · exact h2
  · exact h2
theorem g_tT {d : Bool} (h : tb env S = RT) : condT true tb d env S = RT := h
theorem g_tF {d : Bool} (h : some (d, S) = RT) : condT false tb d env S = RT := h
theorem g_tT' {d : Bool} (h : tb env S = RT) : condT (!false) tb d env S = RT := h
theorem g_tF' {d : Bool} (h : some (d, S) = RT) : condT (!true) tb d env S = RT := h
theorem g_notT (h : ta env S = some (true, S1)) : tNotW ta env S = some (false, S1) := ev_not h
theorem g_notF (h : ta env S = some (false, S1)) : tNotW ta env S = some (true, S1) := ev_not h
theorem g_test (h : m env S = some (.bl k, S1)) : mTest m env S = some (k, S1) := ev_test h
theorem g_lt (h : ma env S = some (.int i, S1)) (h2 : mb env S1 = some (.int j, S2)) (hk : decide (i < j) = k) : mBin wLt ma mb env S = some (.bl k, S2) := by subst hk; exact ev_bin h h2 rfl
theorem g_le (h : ma env S = some (.int i, S1)) (h2 : mb env S1 = some (.int j, S2)) (hk : decide (i ≤ j) = k) : mBin wLe ma mb env S = some (.bl k, S2) := by subst hk; exact ev_bin h h2 rfl
theorem g_gt (h : ma env S = some (.int i, S1)) (h2 : mb env S1 = some (.int j, S2)) (hk : decide (j < i) = k) : mBin wGt ma mb env S = some (.bl k, S2) := by subst hk; exact ev_bin h h2 rfl
theorem g_ge (h : ma env S = some (.int i, S1)) (h2 : mb env S1 = some (.int j, S2)) (hk : decide (j ≤ i) = k) : mBin wGe ma mb env S = some (.bl k, S2) := by subst hk; exact ev_bin h h2 rfl
theorem g_chain {p q : Int → Int → Bool} {l : Int} (h : ma env S = some (.int i, S1)) (h2 : mb env S1 = some (.int j, S2)) (hp : p i j = true) (h3 : mc env S2 = some (.int l, S3)) (hk : q j l = k) : mChain (wCmp p) (wCmp q) ma mb mc env S = some (.bl k, S3) := by
  subst hk
  unfold mChain
  rw [h, Option.bind_some]
  dsimp only
  rw [h2, Option.bind_some]
  dsimp only
  rw [show wCmp p (.int i) (.int j) S2 = some (.bl true, S2) by show some (W.bl (p i j), S2) = _; rw [hp]]
  rw [Option.bind_some]
  dsimp only
  rw [h3]
  rfl
theorem g_chainF {p q : Int → Int → Bool} (h : ma env S = some (.int i, S1)) (h2 : mb env S1 = some (.int j, S2)) (hp : p i j = false) : mChain (wCmp p) (wCmp q) ma mb mc env S = some (.bl false, S2) := by
  unfold mChain
  rw [h, Option.bind_some]
  dsimp only
  rw [h2, Option.bind_some]
  dsimp only
  rw [show wCmp p (.int i) (.int j) S2 = some (.bl false, S2) by show some (W.bl (p i j), S2) = _; rw [hp]]
  rfl
theorem g_bin (h : ma env S = some (x, S1)) (h2 : mb env S1 = some (y, S2)) (h3 : f x y S2 = R) : mBin f ma mb env S = R := ev_bin h h2 h3
theorem b_addI : wAdd (.int i) (.int j) S = some (.int (i + j), S) := rfl
theorem b_addT {a b : List W} (hz : szOk (a.length + b.length) = true) : wAdd (.tup a) (.tup b) S = some (.tup (a ++ b), S) := by
  show (if szOk (a.length + b.length) = true then some (W.tup (a ++ b), S) else none) = _
  rw [if_pos hz]
theorem b_addS {a b : Str} (hz : szOk (a.length + b.length) = true) : wAdd (.str a) (.str b) S = some (.str (a ++ b), S) := by
  show (if szOk (a.length + b.length) = true then some (W.str (a ++ b), S) else none) = _
  rw [if_pos hz]
theorem b_addL {p q : Nat} (h1 : getL S p = some ws) (h2 : getL S q = some us) (hz : szOk (ws.length + us.length) = true) : wAdd (.ref p) (.ref q) S = some (.ref S.length, S ++ [.lst (ws ++ us)]) := by
  show (getL S p).bind (fun ws => (getL S q).bind fun us => if szOk (ws.length + us.length) then newL (ws ++ us) S else none) = _
  rw [h1, h2]
  show (if szOk (ws.length + us.length) = true then newL (ws ++ us) S else none) = _
  rw [if_pos hz]
  rfl
theorem b_subI : wSub (.int i) (.int j) S = some (.int (i - j), S) := rfl
theorem b_mulI (ho : okMul i j = true) : wMul (.int i) (.int j) S = some (.int (i * j), S) := by
  show (if okMul i j = true then some (W.int (i * j), S) else none) = _
  rw [if_pos ho]
theorem b_divI (ho : okDiv j = true) : wFdiv (.int i) (.int j) S = some (.int (i / j), S) := by
  show (if okDiv j = true then some (W.int (i / j), S) else none) = _
  rw [if_pos ho]
theorem b_modI (ho : 0 < j) : wMod (.int i) (.int j) S = some (.int (i % j), S) := by
  show (if decide (0 < j) = true then some (W.int (i % j), S) else none) = _
  rw [if_pos (decide_eq_true ho)]
theorem b_powI (ho : okPow i j = true) : wPow (.int i) (.int j) S = some (.int (i ^ j.toNat), S) := by
  show (if okPow i j = true then some (W.int (i ^ j.toNat), S) else none) = _
  rw [if_pos ho]
theorem b_ixT (hi : atI ws i = some w) : wIx (.tup ws) (.int i) S = some (w, S) := by
  show (atI ws i).map (fun w => (w, S)) = _
  rw [hi]; rfl
theorem b_ixF (hi : atI ws i = some w) : wIx (.fz ws) (.int i) S = some (w, S) := by
  show (atI ws i).map (fun w => (w, S)) = _
  rw [hi]; rfl
theorem b_ixL {l : Nat} (hl : getL S l = some ws) (hi : atI ws i = some w) : wIx (.ref l) (.int i) S = some (w, S) := by
  show (getL S l).bind (fun ws => (atI ws i).map fun w => (w, S)) = _
  rw [hl]
  show (atI ws i).map (fun w => (w, S)) = _
  rw [hi]; rfl
theorem b_eqI {k : Bool} (hk : decide (i = j) = k) : fEq false (.int i) (.int j) S = some (.bl k, S) := by
  rw [fEq_int]
  subst hk
  congr 3
theorem b_neI {k : Bool} (hk : decide (¬ i = j) = k) : fEq true (.int i) (.int j) S = some (.bl k, S) := by
  rw [fNe_int]
  subst hk
  congr 3
  by_cases h : i = j <;> simp [h]
theorem b_eqS {p q : Str} {k : Bool} (h1 : PyData.strOk p = true) (h2 : PyData.strOk q = true) (hk : (p == q) = k) : fEq false (.str p) (.str q) S = some (.bl k, S) := by
  rw [fEq_str h1 h2, hk]
theorem b_neS {p q : Str} {k : Bool} (h1 : PyData.strOk p = true) (h2 : PyData.strOk q = true) (hk : (!(p == q)) = k) : fEq true (.str p) (.str q) S = some (.bl k, S) := by
  subst hk
  have e := fEq_str (S := S) h1 h2
  unfold fEq at e ⊢
  obtain ⟨d, e1, e2⟩ := bind1 e
  obtain ⟨d2, e3, e4⟩ := bind1 e2
  rw [e1, Option.bind_some, e3, Option.bind_some]
  split at e4
  · rename_i hs
    rw [if_pos hs]
    have e5 : PyData.eqv d d2 = (p == q) := by
      have e6 : some (W.bl (PyData.eqv d d2), S) = some (W.bl (p == q), S) := e4
      injection e6 with e6
      injection e6 with e6
      injection e6
    show some (W.bl (!PyData.eqv d d2), S) = _
    rw [e5]
  · cases e4
theorem b_inK {p : Str} {k : Bool} (hf : ws.all wFlat = true) (hk : (ws.any fun z => wEqA z (.str p)) = k) : wIn false (.str p) (.tup ws) S = some (.bl k, S) := by
  show (if (wFlat (.str p) && ws.all wFlat) = true then some (W.bl (if false = true then !(ws.any fun z => wEqA z (.str p)) else ws.any fun z => wEqA z (.str p)), S) else none) = _
  rw [hf, hk]
  rfl
theorem g_isN (h : m env S = some (w, S1)) (hk : wNon w = k) : mIsN m env S = some (.bl k, S1) := by subst hk; exact ev_un h rfl
theorem g_notN (h : m env S = some (w, S1)) (hk : (!wNon w) = k) : mNotN m env S = some (.bl k, S1) := by subst hk; exact ev_un h rfl
theorem b_len (hs : seqOf S x = some ws) : cLen [x] S = some (.int ws.length, S) := by
  have h := ev_lenS (env := []) (S := S) (S1 := S) (mes := aCons (mC x) aNil) rfl hs
  exact h
theorem b_lenD {l : Nat} {kvs : List (Key × W)} (hd : S[l]? = some (.dK kvs)) : cLenD [.ref l] S = some (.int kvs.length, S) := by
  have h := ev_lenD (env := []) (S := S) (S1 := S) (mes := aCons (mC (.ref l)) aNil) rfl hd
  exact h
theorem b_tup (hs : seqOf S x = some ws) : cTuple [x] S = some (.tup ws, S) := by
  have h := ev_tupOf (env := []) (S := S) (S1 := S) (mes := aCons (mC x) aNil) rfl hs
  exact h
theorem b_max2 : cMax [.int i, .int j] S = some (.int (max i j), S) := ev_max2 (env := []) (mes := aCons (mC (.int i)) (aCons (mC (.int j)) aNil)) rfl
theorem b_min2 : cMin [.int i, .int j] S = some (.int (min i j), S) := ev_min2 (env := []) (mes := aCons (mC (.int i)) (aCons (mC (.int j)) aNil)) rfl
theorem b_abs : cAbs [.int i] S = some (.int (if i < 0 then -i else i), S) := rfl
theorem b_intB {k : Bool} : cInt [.bl k] S = some (.int (if k then 1 else 0), S) := rfl
theorem b_intI : cInt [.int i] S = some (.int i, S) := rfl
theorem sq_tup : seqOf S (.tup ws) = some ws := rfl
theorem sq_fz : seqOf S (.fz ws) = some ws := rfl
theorem sq_ref {l : Nat} (h : getL S l = some ws) : seqOf S (.ref l) = some ws := h
theorem g_meth (h : m env S = some (x, S1)) (hl : isLst S1 x = true) (h2 : mes env S1 = some (ws, S2)) (h3 : F (x :: ws) S2 = R) : mMeth F m mes env S = R := ev_meth h hl h2 h3
theorem b_append {l : Nat} (hl : getL S l = some ws) (hz : szOk (ws.length + 1) = true) : lAppend [.ref l, y] S = some (.non, S.set l (.lst (ws ++ [y]))) := by
  show (getL S l).bind (fun us => if szOk (us.length + 1) then some (W.non, S.set l (.lst (us ++ [y]))) else none) = _
  rw [hl]
  show (if szOk (ws.length + 1) = true then some (W.non, S.set l (.lst (ws ++ [y]))) else none) = _
  rw [if_pos hz]
theorem l_ref {l : Nat} (h : getL S l = some ws) : isLst S (.ref l) = true := by
  show (getL S l).isSome = true
  rw [h]; rfl
end
end L2.Aw
namespace L2.Aw
open PySem PySem.Spec PyProof.Rows
section
variable {env e1 env1 : WEnv} {S S1 S2 S3 : Store} {w x y z : W} {ws us : List W} {m ma mb mc mi mo : WE} {mes : WA} {R : Option (W × Store)} {i j : Int}
theorem g_oN : oNone env S = some (none, S) := rfl
theorem g_oS (h : m env S = some (.int i, S1)) : oSome m env S = some (some i, S1) := by rw [oSome, h]; rfl
theorem g_slice {ml mh : WO} {lo hi : Option Int} (h : m env S = some (x, S1)) (h2 : ml env S1 = some (lo, S2)) (h3 : mh env S2 = some (hi, S3)) (h4 : wSlice x lo hi S3 = R) : mSlice m ml mh env S = R := ev_slice h h2 h3 h4
theorem b_sliceT {lo hi : Option Int} : wSlice (.tup ws) lo hi S = some (.tup (wCut ws lo hi), S) := rfl
theorem b_sliceL {l : Nat} {lo hi : Option Int} (h : getL S l = some ws) : wSlice (.ref l) lo hi S = some (.ref S.length, S ++ [.lst (wCut ws lo hi)]) := by
  show (getL S l).bind (fun ws => newL (wCut ws lo hi) S) = _
  rw [h]; rfl
theorem g_sliceS {ml mh : WO} {lo hi : Option Int} {q : Str} (h : m env S = some (.str q, S1)) (h2 : ml env S1 = some (lo, S2)) (h3 : mh env S2 = some (hi, S3)) (hz : szOk q.length = true) : mSliceS m ml mh env S = some (.str (cutS q lo hi), S3) := by
  show (m env S).bind (fun p => (ml env p.2).bind fun l => (mh env l.2).bind fun h => wSliceS p.1 l.1 h.1 h.2) = _
  rw [h]
  show (ml env S1).bind (fun l => (mh env l.2).bind fun h => wSliceS (.str q) l.1 h.1 h.2) = _
  rw [h2]
  show (mh env S2).bind (fun h => wSliceS (.str q) lo h.1 h.2) = _
  rw [h3]
  show (if szOk q.length = true then some (W.str (cutS q lo hi), S3) else none) = _
  rw [if_pos hz]
theorem g_neg (h : m env S = some (.int i, S1)) : mUn wNeg m env S = some (.int (-i), S1) := by rw [mUn, h]; rfl
theorem g_revT (h : m env S = some (.tup ws, S1)) (h2 : wRevT (.tup ws) S1 = R) : mUn wRevT m env S = R := by rw [mUn, h]; exact h2
end
end L2.Aw

/-! Plain programs whose words are of some kind; other words. -/
namespace L2.Aw
open PySem PySem.Spec PyProof.Rows
mutual
def PlainP (P : Wd → Prop) : Tree → Prop
  | .log x => P x
  | .await n => 1 ≤ n ∧ n ≤ 3
  | .seq ps => PlainPs P ps
  | .fork p => PlainP P p
  | .join ps => PlainPs P ps ∧ ps ≠ []
  | .race ps => PlainPs P ps ∧ ps ≠ []
  | .loop _ _ => False
def PlainPs (P : Wd → Prop) : List Tree → Prop
  | [] => True
  | t :: ts => PlainP P t ∧ PlainPs P ts
end
theorem PlainPs.mem {P : Wd → Prop} {t : Tree} : ∀ {ts : List Tree}, PlainPs P ts → t ∈ ts → PlainP P t
  | u :: us, h, hm => by
    rw [PlainPs] at h
    rcases List.mem_cons.mp hm with e | e
    · rw [e]; exact h.1
    · exact PlainPs.mem h.2 e
theorem PlainPs.of {P : Wd → Prop} {ts : List Tree} (h : ∀ t ∈ ts, PlainP P t) : PlainPs P ts := by
  induction ts with
  | nil => rw [PlainPs]; trivial
  | cons t ts ih => rw [PlainPs]; exact ⟨h t List.mem_cons_self, ih fun u hu => h u (List.mem_cons_of_mem _ hu)⟩
/-- what is used of a plain program -/
structure PF (t : Tree) : Prop where
  ok : nodes t ≤ 1000 → Ok t
  fl : Flat t
  tt : tot t ≤ 3 * nodes t
  cp : cap t ≤ nodes t
  rp : ∀ M, Rep M t
  pq : Pq t
  co : cost t + 1 ≤ 4 * nodes t
structure PFs (ts : List Tree) : Prop where
  ok : nodess ts ≤ 1000 → Oks ts
  fl : Flats ts
  tt : tots ts ≤ 3 * nodess ts
  cp : caps ts ≤ nodess ts
  rp : ∀ M, Reps M ts
  pq : Pqs ts
  co : costs ts ≤ 4 * nodess ts
theorem PFs.of : ∀ {ts : List Tree}, (∀ t ∈ ts, PF t) → PFs ts
  | [], _ => ⟨fun _ => by rw [Oks]; trivial, by rw [Flats]; trivial, by rw [tots, nodess]; omega, by rw [caps, nodess]; omega, fun M => by rw [Reps]; trivial, by rw [Pqs]; trivial, by rw [costs, nodess]; omega⟩
  | t :: ts, h => by
    have a := h t List.mem_cons_self
    have b := PFs.of (ts := ts) fun u hu => h u (List.mem_cons_of_mem _ hu)
    have a3 := a.tt
    have a4 := a.cp
    have a7 := a.co
    have b3 := b.tt
    have b4 := b.cp
    have b7 := b.co
    exact ⟨fun hn => by rw [nodess] at hn; rw [Oks]; exact ⟨a.ok (by omega), b.ok (by omega)⟩, by rw [Flats]; exact ⟨a.fl, b.fl⟩, by rw [tots, nodess]; omega, by rw [caps, nodess]; omega, fun M => by rw [Reps]; exact ⟨a.rp M, b.rp M⟩, by rw [Pqs]; exact ⟨a.pq, b.pq⟩, by rw [costs, nodess]; omega⟩
theorem plainP_facts {P : Wd → Prop} (hP : ∀ x, P x → wdOk x = true) : ∀ t, PlainP P t → PF t := by
  intro t
  refine Tree.ind (P := fun t => PlainP P t → PF t) ?_ ?_ ?_ ?_ ?_ ?_ ?_ t
  · intro w h
    rw [PlainP] at h
    exact ⟨fun _ => by rw [Ok]; exact hP w h, by rw [Flat]; trivial, by rw [tot, nodes]; omega, by rw [cap, nodes]; omega, fun M => by rw [Rep]; trivial, by rw [Pq]; trivial, by rw [cost, nodes]; omega⟩
  · intro n h
    rw [PlainP] at h
    exact ⟨fun _ => by rw [Ok]; omega, by rw [Flat]; omega, by rw [tot, nodes]; omega, by rw [cap, nodes]; omega, fun M => by rw [Rep]; trivial, by rw [Pq]; omega, by rw [cost, nodes]; omega⟩
  · intro ps ih h
    rw [PlainP] at h
    have k := PFs.of fun p hp => ih p hp (h.mem hp)
    have k3 := k.tt
    have k4 := k.cp
    have k7 := k.co
    have k0 := length_nodess ps
    exact ⟨fun hn => by rw [nodes] at hn; rw [Ok]; exact ⟨k.ok (by omega), by omega⟩, by rw [Flat]; exact k.fl, by rw [tot, nodes]; omega, by rw [cap, nodes]; omega, fun M => by rw [Rep]; exact k.rp M, by rw [Pq]; exact k.pq, by rw [cost, nodes]; omega⟩
  · intro p ih h
    rw [PlainP] at h
    have k := ih h
    have k3 := k.tt
    have k4 := k.cp
    have k7 := k.co
    exact ⟨fun hn => by rw [nodes] at hn; rw [Ok]; exact k.ok (by omega), by rw [Flat]; exact k.fl, by rw [tot, nodes]; omega, by rw [cap, nodes]; omega, fun M => by rw [Rep]; exact k.rp M, by rw [Pq]; exact k.pq, by rw [cost, nodes]; omega⟩
  · intro ps ih h
    rw [PlainP] at h
    have k := PFs.of fun p hp => ih p hp (h.1.mem hp)
    have k3 := k.tt
    have k4 := k.cp
    have k7 := k.co
    have k0 := length_nodess ps
    exact ⟨fun hn => by rw [nodes] at hn; rw [Ok]; exact ⟨k.ok (by omega), by omega, h.2⟩, by rw [Flat]; exact ⟨k.fl, h.2⟩, by rw [tot, nodes]; omega, by rw [cap, nodes]; omega, fun M => by rw [Rep]; exact k.rp M, by rw [Pq]; exact ⟨k.pq, h.2⟩, by rw [cost, nodes]; omega⟩
  · intro ps ih h
    rw [PlainP] at h
    have k := PFs.of fun p hp => ih p hp (h.1.mem hp)
    have k3 := k.tt
    have k4 := k.cp
    have k7 := k.co
    have k0 := length_nodess ps
    exact ⟨fun hn => by rw [nodes] at hn; rw [Ok]; exact ⟨k.ok (by omega), by omega, h.2⟩, by rw [Flat]; exact ⟨k.fl, h.2⟩, by rw [tot, nodes]; omega, by rw [cap, nodes]; omega, fun M => by rw [Rep]; exact k.rp M, by rw [Pq]; exact ⟨k.pq, h.2⟩, by rw [cost, nodes]; omega⟩
  · intro c b _ h
    rw [PlainP] at h
    exact h.elim
/-! other words -/
mutual
def tmap (f : Wd → Wd) : Tree → Tree
  | .log x => .log (f x)
  | .await n => .await n
  | .seq ps => .seq (tmaps f ps)
  | .fork p => .fork (tmap f p)
  | .join ps => .join (tmaps f ps)
  | .race ps => .race (tmaps f ps)
  | .loop c b => .loop c (tmap f b)
def tmaps (f : Wd → Wd) : List Tree → List Tree
  | [] => []
  | t :: ts => tmap f t :: tmaps f ts
end
theorem tmaps_map (f : Wd → Wd) : ∀ ts, tmaps f ts = ts.map (tmap f)
  | [] => by rw [tmaps]; rfl
  | t :: ts => by rw [tmaps, tmaps_map f ts]; rfl
theorem tmaps_ne {f : Wd → Wd} {ts : List Tree} (h : ts ≠ []) : tmaps f ts ≠ [] := by
  cases ts with
  | nil => exact absurd rfl h
  | cons t ts => rw [tmaps]; simp
theorem tmap_nodes (f : Wd → Wd) : ∀ t, nodes (tmap f t) = nodes t ∧ dep (tmap f t) = dep t := by
  intro t
  have kids : ∀ ps : List Tree, (∀ p ∈ ps, nodes (tmap f p) = nodes p ∧ dep (tmap f p) = dep p) → nodess (tmaps f ps) = nodess ps ∧ deps (tmaps f ps) = deps ps := by
    intro ps
    induction ps with
    | nil => intro _; rw [tmaps]; exact ⟨rfl, rfl⟩
    | cons p ps ih =>
      intro h
      have a := h p List.mem_cons_self
      have b := ih fun q hq => h q (List.mem_cons_of_mem _ hq)
      rw [tmaps, nodess, nodess, deps, deps, a.1, a.2, b.1, b.2]
      exact ⟨rfl, rfl⟩
  refine Tree.ind (P := fun t => nodes (tmap f t) = nodes t ∧ dep (tmap f t) = dep t) ?_ ?_ ?_ ?_ ?_ ?_ ?_ t
  · intro w; rw [tmap, nodes, nodes, dep, dep]; exact ⟨rfl, rfl⟩
  · intro n; rw [tmap]; exact ⟨rfl, rfl⟩
  · intro ps ih; rw [tmap, nodes, nodes, dep, dep, (kids ps ih).1, (kids ps ih).2]; exact ⟨rfl, rfl⟩
  · intro p ih; rw [tmap, nodes, nodes, dep, dep, ih.1, ih.2]; exact ⟨rfl, rfl⟩
  · intro ps ih; rw [tmap, nodes, nodes, dep, dep, (kids ps ih).1, (kids ps ih).2]; exact ⟨rfl, rfl⟩
  · intro ps ih; rw [tmap, nodes, nodes, dep, dep, (kids ps ih).1, (kids ps ih).2]; exact ⟨rfl, rfl⟩
  · intro c p ih; rw [tmap, nodes, nodes, dep, dep, ih.1, ih.2]; exact ⟨rfl, rfl⟩
theorem tmap_plain {P : Wd → Prop} {f : Wd → Wd} (hf : ∀ x ∈ lawWords, P (f x)) : ∀ t, PlainT t → PlainP P (tmap f t) := by
  intro t
  have kids : ∀ ps : List Tree, (∀ p ∈ ps, PlainT p → PlainP P (tmap f p)) → PlainTs ps → PlainPs P (tmaps f ps) := by
    intro ps
    induction ps with
    | nil => intro _ _; rw [tmaps, PlainPs]; trivial
    | cons p ps ih =>
      intro h h2
      rw [PlainTs] at h2
      rw [tmaps, PlainPs]
      exact ⟨h p List.mem_cons_self h2.1, ih (fun q hq => h q (List.mem_cons_of_mem _ hq)) h2.2⟩
  refine Tree.ind (P := fun t => PlainT t → PlainP P (tmap f t)) ?_ ?_ ?_ ?_ ?_ ?_ ?_ t
  · intro w h; rw [PlainT] at h; rw [tmap, PlainP]; exact hf w h
  · intro n h; rw [PlainT] at h; rw [tmap, PlainP]; exact h
  · intro ps ih h; rw [PlainT] at h; rw [tmap, PlainP]; exact kids ps ih h
  · intro p ih h; rw [PlainT] at h; rw [tmap, PlainP]; exact ih h
  · intro ps ih h; rw [PlainT] at h; rw [tmap, PlainP]; exact ⟨kids ps ih h.1, tmaps_ne h.2⟩
  · intro ps ih h; rw [PlainT] at h; rw [tmap, PlainP]; exact ⟨kids ps ih h.1, tmaps_ne h.2⟩
  · intro c b _ h; rw [PlainT] at h; exact h.elim
/-! the words of a round are of the kind -/
theorem mem_besF {ps : List Tree} {kp : Nat} {pk : Tree} {a : Int} (hk : ps[kp]? = some pk) : tw (besF kp 0 ([], []) (rawL ps a)) = (ps.map fun p => raw p a).flatMap tw := by
  obtain ⟨hkl, hkg⟩ := List.getElem?_eq_some_iff.mp hk
  have esp : ps = ps.take kp ++ pk :: ps.drop (kp + 1) := by
    rw [← hkg, ← List.drop_eq_getElem_cons hkl, List.take_append_drop]
  have e : rawL ps a = (ps.take kp).map (fun p => raw p a) ++ raw pk a :: (ps.drop (kp + 1)).map fun p => raw p a := by
    rw [rawL_map]
    have e2 : ps.map (fun p => raw p a) = (ps.take kp ++ pk :: ps.drop (kp + 1)).map fun p => raw p a := by rw [← esp]
    rw [e2, List.map_append, List.map_cons]
  rw [e, besF_split (by rw [List.length_map, List.length_take]; omega)]
  rw [rawL_map] at e
  rw [e, List.flatMap_append, List.flatMap_cons]
  show (_ ++ (raw pk a).1) ++ ((raw pk a).2 ++ _) = _ ++ (((raw pk a).1 ++ (raw pk a).2) ++ _)
  simp
theorem tw_join {ps : List Tree} (h : ps ≠ []) (a : Int) : tw (raw (.join ps) a) = (ps.map fun p => raw p a).flatMap tw := by
  obtain ⟨_, _, _, h3⟩ := keyJ_at (fins_ne h)
  obtain ⟨pk, q1, q2⟩ := fins_get h3
  rw [raw]
  exact mem_besF q1
theorem tw_race {ps : List Tree} (h : ps ≠ []) (a : Int) : tw (raw (.race ps) a) = (ps.map fun p => raw p a).flatMap tw := by
  obtain ⟨pk, q1, q2⟩ := fins_get (keyR_at (fins_ne h)).2
  rw [raw]
  exact mem_besF q1
theorem words_kind {P : Wd → Prop} : ∀ t, PlainP P t → ∀ a, ∀ x ∈ tw (raw t a), P x := by
  intro t
  have row : ∀ ps : List Tree, (∀ p ∈ ps, PlainP P p → ∀ a, ∀ x ∈ tw (raw p a), P x) → PlainPs P ps → ∀ a, ∀ x ∈ tw (rawB ps a), P x := by
    intro ps
    induction ps with
    | nil => intro _ _ a x hx; rw [rawB] at hx; exact absurd hx (by simp [tw])
    | cons p ps ih =>
      intro h h2 a x hx
      rw [PlainPs] at h2
      rw [rawB, tw_glue] at hx
      rcases List.mem_append.mp hx with hx | hx
      · rcases List.mem_append.mp hx with hx | hx
        · exact h p List.mem_cons_self h2.1 a x (List.mem_append_left _ hx)
        · exact ih (fun q hq => h q (List.mem_cons_of_mem _ hq)) h2.2 _ x hx
      · exact h p List.mem_cons_self h2.1 a x (List.mem_append_right _ hx)
  have bes : ∀ ps : List Tree, (∀ p ∈ ps, PlainP P p → ∀ a, ∀ x ∈ tw (raw p a), P x) → PlainPs P ps → ∀ a, ∀ x ∈ (ps.map fun p => raw p a).flatMap tw, P x := by
    intro ps h h2 a x hx
    obtain ⟨s, hs, hx2⟩ := List.mem_flatMap.mp hx
    obtain ⟨p, hp, e⟩ := List.mem_map.mp hs
    rw [← e] at hx2
    exact h p hp (h2.mem hp) a x hx2
  refine Tree.ind (P := fun t => PlainP P t → ∀ a, ∀ x ∈ tw (raw t a), P x) ?_ ?_ ?_ ?_ ?_ ?_ ?_ t
  · intro w h a x hx
    rw [PlainP] at h
    rw [raw] at hx
    split at hx
    · have : x = w := by simpa [tw] using hx
      rw [this]; exact h
    · exact absurd hx (by simp [tw])
  · intro n _ a x hx; rw [raw] at hx; exact absurd hx (by simp [tw])
  · intro ps ih h a x hx; rw [PlainP] at h; rw [raw] at hx; exact row ps ih h a x hx
  · intro p ih h a x hx
    rw [PlainP] at h
    rw [raw] at hx
    refine ih h a x ?_
    simpa [tw] using hx
  · intro ps ih h a x hx
    rw [PlainP] at h
    rw [tw_join h.2] at hx
    exact bes ps ih h.1 a x hx
  · intro ps ih h a x hx
    rw [PlainP] at h
    rw [tw_race h.2] at hx
    exact bes ps ih h.1 a x hx
  · intro c b _ h; rw [PlainP] at h; exact h.elim
end L2.Aw

/-! Comprehensions over tuples and lists, with a test; tests on None and on bools. -/
namespace L2.Aw
open PySem PySem.Spec PyProof.Rows
theorem range_get (us : List W) : (List.range us.length).map (fun i => us.getD i .non) = us := by
  apply List.ext_getElem?
  intro i
  rw [List.getElem?_map]
  by_cases hi : i < us.length
  · rw [List.getElem?_range hi]
    simp [List.getD, List.getElem?_eq_getElem hi]
  · rw [List.getElem?_eq_none (by rw [List.length_range]; omega), List.getElem?_eq_none (by omega)]
    rfl
theorem range_filter (us : List W) (f : W → Bool) (g : W → W) : ((List.range us.length).filter fun i => f (us.getD i .non)).map (fun i => g (us.getD i .non)) = (us.filter f).map g := by
  have h := range_get us
  have e : (us.filter f).map g = (((List.range us.length).map fun i => us.getD i .non).filter f).map g := by rw [h]
  rw [e, List.filter_map, List.map_map]
  rfl
section
variable {env : WEnv} {S S1 S2 : Store} {mi : WI} {el m ma mb : WE} {ts : WT} {j l : Nat} {vs : List Nat} {us ws : List W} {f : W → Bool} {g : W → W}
theorem ev_lcT2 (h : mi env S = some (sTup us, S1)) (hs : ∀ w ∈ us, ts ((wipeE env vs).set j (some w)) S1 = some (f w, S1) ∧ (f w = true → el ((wipeE env vs).set j (some w)) S1 = some (g w, S1))) (hz : szOk us.length = true) :
    mLc mi (.nm j) ts el vs env S = some (.ref S1.length, S1 ++ [.lst ((us.filter f).map g)]) := by
  have b := ev_lcF (s := sTup us) (tg := .nm j) (ts := ts) (el := el) (vs := vs) (f := fun i => f (us.getD i .non)) (g := fun i => g (us.getD i .non)) h (fun i hi => by
    have hi' : i < us.length := hi
    have eg : us.getD i .non = us[i] := by simp [List.getD, hi']
    have q := hs us[i] (List.getElem_mem hi')
    refine ⟨us[i], _, List.getElem?_eq_getElem hi', rfl, ?_, fun hf => ?_⟩
    · rw [eg]; exact q.1
    · rw [eg] at hf ⊢; exact q.2 hf) rfl hz
  have e : (sTup us).n = us.length := rfl
  rw [e, range_filter] at b
  exact b
theorem ev_lcL2 (h : mi env S = some (sLst l us.length, S1)) (hl : getL S1 l = some us) (hs : ∀ w ∈ us, ts ((wipeE env vs).set j (some w)) S1 = some (f w, S1) ∧ (f w = true → el ((wipeE env vs).set j (some w)) S1 = some (g w, S1))) (hz : szOk us.length = true) :
    mLc mi (.nm j) ts el vs env S = some (.ref S1.length, S1 ++ [.lst ((us.filter f).map g)]) := by
  have b := ev_lcF (s := sLst l us.length) (tg := .nm j) (ts := ts) (el := el) (vs := vs) (f := fun i => f (us.getD i .non)) (g := fun i => g (us.getD i .non)) h (fun i hi => by
    have hi' : i < us.length := hi
    have eg : us.getD i .non = us[i] := by simp [List.getD, hi']
    have q := hs us[i] (List.getElem_mem hi')
    refine ⟨us[i], _, ?_, rfl, ?_, fun hf => ?_⟩
    · show (getL S1 l).bind (fun ws => ws[i]?) = _
      rw [hl, Option.bind_some, List.getElem?_eq_getElem hi']
    · rw [eg]; exact q.1
    · rw [eg] at hf ⊢; exact q.2 hf) (by
    show (match getL S1 l with
      | some ws => decide (ws.length ≤ us.length)
      | none => false) = true
    rw [hl]
    exact decide_eq_true (Nat.le_refl _)) hz
  have e : (sLst l us.length).n = us.length := rfl
  rw [e, range_filter] at b
  exact b
theorem stop_lst (hl : getL S1 l = some us) : (sLst l us.length).stop S1 = true := by
  show (match getL S1 l with
    | some ws => decide (ws.length ≤ us.length)
    | none => false) = true
  rw [hl]
  exact decide_eq_true (Nat.le_refl _)
theorem item_lst {i n : Nat} {w : W} (hl : getL S1 l = some us) (hi : us[i]? = some w) : (sLst l n).item i S1 = some w := by
  show (getL S1 l).bind (fun ws => ws[i]?) = _
  rw [hl, Option.bind_some, hi]
/-- without tests, over a list -/
theorem ev_lcL (h : mi env S = some (sLst l us.length, S1)) (hl : getL S1 l = some us) (hs : ∀ w ∈ us, el ((wipeE env vs).set j (some w)) S1 = some (g w, S1)) (hz : szOk us.length = true) :
    mLc mi (.nm j) tYesW el vs env S = some (.ref S1.length, S1 ++ [.lst (us.map g)]) := by
  have b := ev_lcL2 (f := fun _ => true) (ts := tYesW) h hl (fun w hw => ⟨rfl, fun _ => hs w hw⟩) hz
  rw [List.filter_eq_self.mpr fun _ _ => rfl] at b
  exact b
theorem fNe_bl {x : Bool} : fEq true (.bl x) (.bl x) S = some (.bl false, S) := by
  have e : toPS S (.bl x) = some (.bool x) := by show toP (.bl x) = _; rw [toP]
  have s : SeqAt.shaped (.bool x) = true := by cases x <;> decide +kernel
  rw [fEq_at e e s s, SeqAt.eqv_refl _ (by cases x <;> decide +kernel)]
  rfl
end
/-- a word that is a text -/
def isS (x : Wd) : Prop := ∃ z, x = .str z
theorem any_non : ∀ {l : List Wd}, (∀ x ∈ l, isS x) → ((l.map wv).any fun z => wEqA z .non) = false
  | [], _ => rfl
  | x :: l, h => by
    obtain ⟨z, e⟩ := h x List.mem_cons_self
    rw [List.map_cons, List.any_cons, any_non fun y hy => h y (List.mem_cons_of_mem _ hy), e]
    rfl
theorem flat_words : ∀ {l : List Wd}, (∀ x ∈ l, isS x) → (l.map wv).all wFlat = true
  | [], _ => rfl
  | x :: l, h => by
    obtain ⟨z, e⟩ := h x List.mem_cons_self
    rw [List.map_cons, List.all_cons, flat_words fun y hy => h y (List.mem_cons_of_mem _ hy), e]
    rfl
theorem in_mk {t : Tree} {a : Int} {S : Store} (h : ∀ x ∈ tw (sides t a), isS x) : wIn false .non (.tup ((mkw t a).map wv)) S = some (.bl (decide (fin t ≤ a)), S) := by
  have h1 : ∀ x ∈ (sides t a).1, isS x := fun x hx => h x (List.mem_append_left _ hx)
  have h2 : ∀ x ∈ (sides t a).2, isS x := fun x hx => h x (List.mem_append_right _ hx)
  show (if (wFlat .non && ((mkw t a).map wv).all wFlat) = true then some (W.bl (if false = true then !(((mkw t a).map wv).any fun z => wEqA z .non) else ((mkw t a).map wv).any fun z => wEqA z .non), S) else none) = _
  unfold mkw
  by_cases hf : fin t ≤ a
  · rw [if_pos hf, List.map_append, List.map_append, List.all_append, List.all_append, flat_words h1, flat_words h2, List.any_append, List.any_append, any_non h1, any_non h2, decide_eq_true hf]
    rfl
  · rw [if_neg hf, flat_words h1, any_non h1, decide_eq_false hf]
    rfl
theorem filter_words : ∀ {l : List Wd}, (∀ x ∈ l, isS x) → (l.map wv).filter (fun w => !wNon w) = l.map wv
  | [], _ => rfl
  | x :: l, h => by
    obtain ⟨z, e⟩ := h x List.mem_cons_self
    rw [List.map_cons, List.filter_cons, filter_words fun y hy => h y (List.mem_cons_of_mem _ hy), e]
    rfl
theorem filter_mk {t : Tree} {a : Int} (ho : Ok t) (hq : Pq t) (h : ∀ x ∈ tw (sides t a), isS x) : ((mkw t a).map wv).filter (fun w => !wNon w) = (tw (sides t a)).map wv := by
  have h1 : ∀ x ∈ (sides t a).1, isS x := fun x hx => h x (List.mem_append_left _ hx)
  have h2 : ∀ x ∈ (sides t a).2, isS x := fun x hx => h x (List.mem_append_right _ hx)
  unfold mkw
  by_cases hf : fin t ≤ a
  · rw [if_pos hf, List.map_append, List.map_append, List.filter_append, List.filter_append, filter_words h1, filter_words h2]
    show _ ++ [] ++ _ = ((sides t a).1 ++ (sides t a).2).map wv
    rw [List.append_nil, List.map_append]
  · have e : (sides t a).2 = [] := by
      rw [sides_raw t ho hq a, shut_f hf]
    rw [if_neg hf, filter_words h1]
    show _ = ((sides t a).1 ++ (sides t a).2).map wv
    rw [e, List.append_nil]
theorem tw_sides {t : Tree} (ho : Ok t) (hq : Pq t) (a : Int) : tw (sides t a) = tw (raw t a) := by
  rw [sides_raw t ho hq a, shut_tot]
end L2.Aw

/-! How many words are logged: in a round, below a round, in all. -/
namespace L2.Aw
open PySem PySem.Spec PyProof.Rows
/-- the sum of f over the rounds from 0 below a -/
def upto (f : Int → Nat) : Nat → Nat
  | 0 => 0
  | n + 1 => upto f n + f (n : Int)
def below (f : Int → Nat) (a : Int) : Nat := upto f a.toNat
theorem upto_congr {f g : Int → Nat} : ∀ {n : Nat}, (∀ r : Int, 0 ≤ r → r < n → f r = g r) → upto f n = upto g n
  | 0, _ => rfl
  | n + 1, h => by rw [upto, upto, upto_congr fun r h0 h1 => h r h0 (by omega), h n (by omega) (by omega)]
theorem below_congr {f g : Int → Nat} {a : Int} (h : ∀ r, 0 ≤ r → r < a → f r = g r) : below f a = below g a := upto_congr fun r h0 h1 => h r h0 (by omega)
theorem upto_add (f g : Int → Nat) : ∀ n, upto (fun r => f r + g r) n = upto f n + upto g n
  | 0 => rfl
  | n + 1 => by rw [upto, upto, upto, upto_add f g n]; omega
theorem below_add (f g : Int → Nat) (a : Int) : below (fun r => f r + g r) a = below f a + below g a := upto_add f g _
theorem upto_zero : ∀ n, upto (fun _ => 0) n = 0
  | 0 => rfl
  | n + 1 => by rw [upto, upto_zero n]
theorem below_zero (a : Int) : below (fun _ => 0) a = 0 := upto_zero _
theorem below_neg {f : Int → Nat} {a : Int} (h : a ≤ 0) : below f a = 0 := by
  unfold below
  have e : a.toNat = 0 := by omega
  rw [e, upto]
theorem below_succ {f : Int → Nat} {a : Int} (h : 0 ≤ a) : below f (a + 1) = below f a + f a := by
  unfold below
  have e : (a + 1).toNat = a.toNat + 1 := by omega
  rw [e, upto]
  congr 2
  omega
theorem below_mono {f : Int → Nat} {a b : Int} (h : a ≤ b) : below f a ≤ below f b := by
  unfold below
  have e : b.toNat = a.toNat + (b.toNat - a.toNat) := by omega
  rw [e]
  generalize b.toNat - a.toNat = k
  induction k with
  | zero => exact Nat.le_refl _
  | succ k ih => rw [← Nat.add_assoc, upto]; omega
/-- nothing from L on: the same sum -/
theorem below_stop {f : Int → Nat} {L a : Int} (h0 : 0 ≤ L) (hL : L ≤ a) (h : ∀ r, L ≤ r → f r = 0) : below f a = below f L := by
  unfold below
  have e : a.toNat = L.toNat + (a.toNat - L.toNat) := by omega
  rw [e]
  generalize a.toNat - L.toNat = k
  induction k with
  | zero => rfl
  | succ k ih => rw [← Nat.add_assoc, upto, ih, h _ (by omega)]; omega
/-- later by d -/
theorem below_shift {f : Int → Nat} {d : Int} (hd : 0 ≤ d) (hf : ∀ r, r < 0 → f r = 0) (a : Int) : below (fun r => f (r - d)) a = below f (a - d) := by
  by_cases ha : a ≤ 0
  · rw [below_neg ha, below_neg (by omega)]
  · obtain ⟨n, e⟩ : ∃ n : Nat, a = n := ⟨a.toNat, by omega⟩
    subst e
    clear ha
    induction n with
    | zero => rw [below_neg (by omega), below_neg (by omega)]
    | succ n ih =>
      have e : ((n + 1 : Nat) : Int) = (n : Int) + 1 := by omega
      rw [e, below_succ (by omega), ih]
      by_cases h : (n : Int) - d < 0
      · rw [hf _ h, below_neg (by omega), below_neg (by omega)]
      · have e2 : (n : Int) + 1 - d = (n : Int) - d + 1 := by omega
        rw [e2, below_succ (by omega)]
/-! ### of programs -/
def wc (t : Tree) (r : Int) : Nat := (tw (raw t r)).length
def wcB (ps : List Tree) (r : Int) : Nat := (tw (rawB ps r)).length
def cb (t : Tree) (a : Int) : Nat := below (wc t) a
def cbB (ps : List Tree) (a : Int) : Nat := below (wcB ps) a
mutual
def tl : Tree → Nat
  | .log _ => 1
  | .await _ => 0
  | .seq ps => tls ps
  | .fork p => tl p
  | .join ps => tls ps
  | .race ps => tls ps
  | .loop c b => c.toNat * tl b
def tls : List Tree → Nat
  | [] => 0
  | t :: ts => tl t + tls ts
end
theorem wc_neg {t : Tree} (h : Pq t) {r : Int} (hr : r < 0) : wc t r = 0 := by
  unfold wc
  rw [raw_neg t h r hr]; rfl
theorem wcB_neg {ps : List Tree} (h : Pqs ps) {r : Int} (hr : r < 0) : wcB ps r = 0 := by
  unfold wcB
  rw [rawB_neg h hr]; rfl
theorem wcB_nil (r : Int) : wcB [] r = 0 := by unfold wcB; rw [rawB]; rfl
theorem wcB_cons (p : Tree) (ps : List Tree) (r : Int) : wcB (p :: ps) r = wc p r + wcB ps (r - fin p) := by
  unfold wcB wc
  rw [rawB, tw_glue]
  simp only [tw, List.length_append]
  omega
theorem cbB_nil (a : Int) : cbB [] a = 0 := by
  unfold cbB
  rw [below_congr (g := fun _ => 0) fun r _ _ => wcB_nil r, below_zero]
theorem cbB_cons {p : Tree} {ps : List Tree} (hp : Pq p) (hq : Pqs ps) (a : Int) : cbB (p :: ps) a = cb p a + cbB ps (a - fin p) := by
  unfold cbB cb
  rw [below_congr (g := fun r => wc p r + wcB ps (r - fin p)) fun r _ _ => wcB_cons p ps r, below_add, below_shift (fin_nn p hp) fun r hr => wcB_neg hq hr]
theorem cb_seq (ps : List Tree) (a : Int) : cb (.seq ps) a = cbB ps a := by
  unfold cb cbB
  refine below_congr fun r _ _ => ?_
  unfold wc wcB
  rw [raw]
theorem cb_log (w : Wd) (a : Int) : cb (.log w) a = if 0 < a then 1 else 0 := by
  unfold cb
  by_cases h : 0 < a
  · rw [if_pos h, below_stop (L := 1) (by omega) (by omega) fun r hr => by unfold wc; rw [raw, if_neg (by omega)]; rfl]
    show upto (wc (.log w)) 1 = 1
    rw [upto, upto]
    unfold wc
    rw [raw]
    simp [tw]
  · rw [if_neg h, below_neg (by omega)]
theorem cb_await (n a : Int) : cb (.await n) a = 0 := by
  unfold cb
  rw [below_congr (g := fun _ => 0) fun r _ _ => by unfold wc; rw [raw]; rfl, below_zero]
theorem cb_fork (p : Tree) (a : Int) : cb (.fork p) a = cb p a := by
  unfold cb
  refine below_congr fun r _ _ => ?_
  unfold wc
  rw [raw]
  simp [tw]
theorem sum_below (a : Int) : ∀ ps : List Tree, below (fun r => (ps.map fun p => wc p r).sum) a = (ps.map fun p => cb p a).sum
  | [] => below_zero a
  | p :: ps => by
    rw [List.map_cons, List.sum_cons, ← sum_below a ps]
    show below (fun r => ((p :: ps).map fun p => wc p r).sum) a = _
    rw [below_congr (g := fun r => wc p r + (ps.map fun p => wc p r).sum) fun r _ _ => by rw [List.map_cons, List.sum_cons], below_add]
    rfl
theorem flat_len (r : Int) : ∀ ps : List Tree, ((ps.map fun p => raw p r).flatMap tw).length = (ps.map fun p => wc p r).sum
  | [] => rfl
  | p :: ps => by
    rw [List.map_cons, List.flatMap_cons, List.length_append, flat_len r ps, List.map_cons, List.sum_cons]
    rfl
theorem cb_join {ps : List Tree} (h : ps ≠ []) (a : Int) : cb (.join ps) a = (ps.map fun p => cb p a).sum := by
  rw [← sum_below]
  unfold cb
  refine below_congr fun r _ _ => ?_
  unfold wc
  rw [tw_join h, flat_len]
  rfl
theorem cb_race {ps : List Tree} (h : ps ≠ []) (a : Int) : cb (.race ps) a = (ps.map fun p => cb p a).sum := by
  rw [← sum_below]
  unfold cb
  refine below_congr fun r _ _ => ?_
  unfold wc
  rw [tw_race h, flat_len]
  rfl
theorem cbB_rep {b : Tree} (hq : Pq b) : ∀ (n : Nat) (a : Int), cbB (List.replicate n b) a = ((List.range n).map fun (i : Nat) => cb b (a - (i : Int) * fin b)).sum
  | 0, a => by rw [List.replicate_zero, cbB_nil]; rfl
  | n + 1, a => by
    rw [List.replicate_succ, cbB_cons hq (Pqs.rep hq n), cbB_rep hq n, List.range_succ_eq_map, List.map_cons, List.sum_cons, List.map_map]
    congr 2
    · simp
    · refine List.map_congr_left fun i _ => ?_
      show cb b (a - fin b - (i : Int) * fin b) = cb b (a - ((i + 1 : Nat) : Int) * fin b)
      congr 1
      have e : ((i + 1 : Nat) : Int) * fin b = i * fin b + fin b := by rw [Int.natCast_add, Int.add_mul]; simp
      rw [e]
      omega
theorem cb_loop {c : Int} {b : Tree} (hq : Pq b) (a : Int) : cb (.loop c b) a = ((List.range c.toNat).map fun (i : Nat) => cb b (a - (i : Int) * fin b)).sum := by
  rw [← cbB_rep hq]
  unfold cb cbB
  refine below_congr fun r _ _ => ?_
  unfold wc wcB
  rw [raw, raw_turns]
theorem cb_succ (t : Tree) {a : Int} (h : 0 ≤ a) : cb t (a + 1) = cb t a + wc t a := below_succ h
theorem cb_neg (t : Tree) {a : Int} (h : a ≤ 0) : cb t a = 0 := below_neg h
theorem cb_mono (t : Tree) {a b : Int} (h : a ≤ b) : cb t a ≤ cb t b := below_mono h
/-! ### all of them -/
theorem life_nn : ∀ t, Pq t → 0 ≤ fin t ∧ fin t ≤ life t := fun t h => (life_ok t h).2
theorem cb_all : ∀ t, Pq t → ∀ a, life t < a → cb t a = tl t := by
  intro t
  have row : ∀ ps : List Tree, (∀ p ∈ ps, Pq p → ∀ a, life p < a → cb p a = tl p) → Pqs ps → ∀ a, lifes ps < a → cbB ps a = tls ps := by
    intro ps
    induction ps with
    | nil => intro _ _ a _; rw [cbB_nil, tls]
    | cons p ps ih =>
      intro h h2 a ha
      rw [Pqs] at h2
      rw [lifes] at ha
      have l1 := life_nn p h2.1
      have l2 : 0 ≤ lifes ps := by
        cases ps with
        | nil => rw [lifes]; exact Int.le_refl _
        | cons q qs => exact (lifes_le (fun u hu => by have := life_nn u (h2.2.mem hu); omega) (List.mem_cons_self (a := q))).1
      rw [cbB_cons h2.1 h2.2, tls, h p List.mem_cons_self h2.1 a (by omega), ih (fun q hq => h q (List.mem_cons_of_mem _ hq)) h2.2 _ (by omega)]
  have bes : ∀ ps : List Tree, (∀ p ∈ ps, Pq p → ∀ a, life p < a → cb p a = tl p) → Pqs ps → ∀ a, lifes ps < a → (ps.map fun p => cb p a).sum = tls ps := by
    intro ps
    induction ps with
    | nil => intro _ _ a _; rw [tls]; rfl
    | cons p ps ih =>
      intro h h2 a ha
      rw [Pqs] at h2
      rw [lifes] at ha
      have l1 := life_nn p h2.1
      have l2 : 0 ≤ lifes ps := by
        cases ps with
        | nil => rw [lifes]; exact Int.le_refl _
        | cons q qs => exact (lifes_le (fun u hu => by have := life_nn u (h2.2.mem hu); omega) (List.mem_cons_self (a := q))).1
      rw [List.map_cons, List.sum_cons, tls, h p List.mem_cons_self h2.1 a (by omega), ih (fun q hq => h q (List.mem_cons_of_mem _ hq)) h2.2 _ (by omega)]
  refine Tree.ind (P := fun t => Pq t → ∀ a, life t < a → cb t a = tl t) ?_ ?_ ?_ ?_ ?_ ?_ ?_ t
  · intro w _ a ha; rw [life] at ha; rw [cb_log, if_pos ha, tl]
  · intro n _ a _; rw [cb_await, tl]
  · intro ps ih h a ha; rw [Pq] at h; rw [life] at ha; rw [cb_seq, tl]; exact row ps ih h a ha
  · intro p ih h a ha; rw [Pq] at h; rw [life] at ha; rw [cb_fork, tl]; exact ih h a ha
  · intro ps ih h a ha; rw [Pq] at h; rw [life] at ha; rw [cb_join h.2, tl]; exact bes ps ih h.1 a ha
  · intro ps ih h a ha; rw [Pq] at h; rw [life] at ha; rw [cb_race h.2, tl]; exact bes ps ih h.1 a ha
  · intro c b ih h a ha
    rw [Pq] at h
    rw [life] at ha
    rw [cb_loop h.2, tl]
    have l1 := life_nn b h.2
    have e : (List.range c.toNat).map (fun (i : Nat) => cb b (a - (i : Int) * fin b)) = (List.range c.toNat).map fun _ => tl b := by
      refine List.map_congr_left fun i hi => ih h.2 _ ?_
      have hi' := List.mem_range.mp hi
      have h1 : (i : Int) * fin b ≤ i * life b := Int.mul_le_mul_of_nonneg_left l1.2 (by omega)
      have h2 : ((i : Int) + 1) * life b ≤ c * life b := Int.mul_le_mul_of_nonneg_right (by omega) (by omega)
      rw [Int.add_mul] at h2
      omega
    rw [e, List.map_const', List.length_range]
    simp
/-- a body that logs nothing behind round 30 -/
theorem cb_quiet {b : Tree} (ho : Ok b) (hq : Pq b) (h : ∀ r, 30 < r → sides b r = ([], [])) {a : Int} (ha : 30 < a) : cb b a = tl b := by
  have hw : ∀ r, 31 ≤ r → wc b r = 0 := fun r hr => by
    unfold wc
    rw [← tw_sides ho hq, h r (by omega)]; rfl
  have l := life_nn b hq
  have h1 : cb b (max a (life b + 1)) = tl b := cb_all b hq _ (by omega)
  have h2 : cb b (max a (life b + 1)) = cb b 31 := below_stop (by omega) (by omega) hw
  have h3 : cb b a = cb b 31 := below_stop (by omega) (by omega) hw
  rw [h3, ← h2, h1]
theorem sum_split (f : Nat → Nat) (m : Nat) : ∀ k, ((List.range (m + k)).map f).sum = ((List.range m).map f).sum + ((List.range k).map fun i => f (m + i)).sum
  | 0 => by simp
  | k + 1 => by
    rw [← Nat.add_assoc, List.range_succ, List.map_append, List.sum_append, sum_split f m k, List.range_succ, List.map_append, List.sum_append]
    simp
    omega
/-- the count within a loop: whole bodies, and those that are under way -/
theorem cb_window {c a : Int} {b : Tree} (hok : Ok b) (hq : Pq b) (hf : 1 ≤ fin b) (hb : ∀ r, 30 < r → sides b r = ([], [])) (hc : 0 ≤ c) (ha : 0 < a) {lo hi : Int} (hlo : lo = min c (max 0 ((a - 1 - 30) / fin b + 1))) (hhi : hi = min c ((a - 1) / fin b + 1)) :
    0 ≤ lo ∧ lo ≤ hi ∧ hi - lo ≤ 31 ∧ cb (.loop c b) a = lo.toNat * tl b + ((List.range (hi - lo).toNat).map fun (i : Nat) => cb b (a - (lo + (i : Int)) * fin b)).sum := by
  have d1 := Int.ediv_mul_add_emod (a - 1) (fin b)
  have m1 := Int.emod_nonneg (a - 1) (show fin b ≠ 0 by omega)
  have m2 := Int.emod_lt_of_pos (a - 1) (show 0 < fin b by omega)
  have d2 := Int.ediv_mul_add_emod (a - 1 - 30) (fin b)
  have m3 := Int.emod_nonneg (a - 1 - 30) (show fin b ≠ 0 by omega)
  have m4 := Int.emod_lt_of_pos (a - 1 - 30) (show 0 < fin b by omega)
  generalize (a - 1) / fin b = q1 at *
  generalize (a - 1 - 30) / fin b = q2 at *
  generalize (a - 1) % fin b = r1 at *
  generalize (a - 1 - 30) % fin b = r2 at *
  have hq1 : 0 ≤ q1 := by
    apply Classical.byContradiction
    intro hn
    have : (q1 + 1) * fin b ≤ 0 * fin b := Int.mul_le_mul_of_nonneg_right (by omega) (by omega)
    rw [Int.add_mul] at this
    omega
  have h21 : q2 ≤ q1 := by
    apply Classical.byContradiction
    intro hn
    have : (q1 + 1) * fin b ≤ q2 * fin b := Int.mul_le_mul_of_nonneg_right (by omega) (by omega)
    rw [Int.add_mul] at this
    omega
  have h12 : q1 ≤ q2 + 30 := by
    apply Classical.byContradiction
    intro hn
    have : (q2 + 31) * fin b ≤ q1 * fin b := Int.mul_le_mul_of_nonneg_right (by omega) (by omega)
    rw [Int.add_mul] at this
    have : 31 * 1 ≤ 31 * fin b := Int.mul_le_mul_of_nonneg_left hf (by omega)
    omega
  have hle : lo ≤ hi := by omega
  refine ⟨by omega, hle, by omega, ?_⟩
  rw [cb_loop hq]
  have ec : c.toNat = lo.toNat + ((hi - lo).toNat + (c - hi).toNat) := by omega
  rw [ec, sum_split, sum_split]
  have e1 : ((List.range lo.toNat).map fun (i : Nat) => cb b (a - (i : Int) * fin b)).sum = lo.toNat * tl b := by
    have e : (List.range lo.toNat).map (fun (i : Nat) => cb b (a - (i : Int) * fin b)) = (List.range lo.toNat).map fun _ => tl b := by
      refine List.map_congr_left fun i hi => cb_quiet hok hq hb ?_
      have hi' := List.mem_range.mp hi
      have h1 : (i : Int) * fin b ≤ q2 * fin b := Int.mul_le_mul_of_nonneg_right (by omega) (by omega)
      omega
    rw [e, List.map_const', List.length_range]
    simp
  have e3 : ((List.range (c - hi).toNat).map fun (i : Nat) => cb b (a - ((lo.toNat + ((hi - lo).toNat + i) : Nat) : Int) * fin b)).sum = 0 := by
    have e : (List.range (c - hi).toNat).map (fun (i : Nat) => cb b (a - ((lo.toNat + ((hi - lo).toNat + i) : Nat) : Int) * fin b)) = (List.range (c - hi).toNat).map fun _ => 0 := by
      refine List.map_congr_left fun i hi2 => cb_neg b ?_
      have hi' := List.mem_range.mp hi2
      have h1 : (q1 + 1) * fin b ≤ ((lo.toNat + ((hi - lo).toNat + i) : Nat) : Int) * fin b := Int.mul_le_mul_of_nonneg_right (by omega) (by omega)
      rw [Int.add_mul] at h1
      omega
    rw [e, List.map_const', List.length_range]
    simp
  rw [e1, e3, Nat.add_zero]
  congr 2
  refine List.map_congr_left fun i _ => ?_
  have e : ((lo.toNat + i : Nat) : Int) = lo + i := by omega
  rw [e]
end L2.Aw

/-! Drawn programs with loops; the log of a queue. -/
namespace L2.Aw
open PySem PySem.Spec PyProof.Rows
theorem Rnds.len {a : Int} {J : List Job} {T : List Int} {res : List (Int × Int × Wd)} (h : Rnds a J T res) : ∀ N, Within N J ⟨T, [], []⟩ → res.length ≤ N := by
  induction h with
  | stop => intro N _; exact Nat.zero_le _
  | @round a J Q T T' F rest hJ hx hr ih =>
    intro N hw
    have h1 := hx.within [] (by rw [List.append_nil]; exact hw)
    obtain ⟨h2, h3⟩ := h1.next
    have h4 := ih _ h2
    rw [List.length_append, List.length_map]
    have h3' : F.length ≤ N := h3
    have h4' : rest.length ≤ N - F.length := h4
    omega
theorem rowsC_pos {cs : List (Int × Tree)} {n : Nat} : ∀ p ∈ rowsC cs 0 n, 0 ≤ p.1 := by
  intro p hp
  unfold rowsC at hp
  obtain ⟨i, _, h⟩ := List.mem_flatMap.mp hp
  obtain ⟨q, _, e⟩ := List.mem_map.mp h
  rw [← e]
  show 0 ≤ (0 : Int) + (i : Int)
  omega
/-! the parts finish within bounds -/
mutual
def Fb : Tree → Prop
  | .log _ => True
  | .await _ => True
  | .seq ps => Fbs ps
  | .fork p => Fb p
  | .join ps => Fbs ps
  | .race ps => Fbs ps
  | .loop _ b => Fb b
def Fbs : List Tree → Prop
  | [] => True
  | t :: ts => (Fb t ∧ fin t ≤ 10 ^ 60) ∧ Fbs ts
end
theorem Fbs.mem {t : Tree} : ∀ {ts : List Tree}, Fbs ts → t ∈ ts → Fb t ∧ fin t ≤ 10 ^ 60
  | u :: us, h, hm => by
    rw [Fbs] at h
    rcases List.mem_cons.mp hm with e | e
    · rw [e]; exact h.1
    · exact Fbs.mem h.2 e
theorem Fbs.of {ts : List Tree} (h : ∀ t ∈ ts, Fb t ∧ fin t ≤ 10 ^ 60) : Fbs ts := by
  induction ts with
  | nil => rw [Fbs]; trivial
  | cons t ts ih => rw [Fbs]; exact ⟨h t List.mem_cons_self, ih fun u hu => h u (List.mem_cons_of_mem _ hu)⟩
theorem Fb.flat : ∀ t, Flat t → tot t ≤ 10 ^ 60 → Fb t := by
  intro t
  have kids : ∀ ps : List Tree, (∀ p ∈ ps, Flat p → tot p ≤ 10 ^ 60 → Fb p) → Flats ps → tots ps ≤ 10 ^ 60 → Fbs ps := by
    intro ps ih h ht
    refine Fbs.of fun p hp => ?_
    have h1 := tots_le (tots_nn h) hp
    have h2 := flat_quiet p (h.mem hp)
    exact ⟨ih p hp (h.mem hp) (by omega), by omega⟩
  refine Tree.ind (P := fun t => Flat t → tot t ≤ 10 ^ 60 → Fb t) ?_ ?_ ?_ ?_ ?_ ?_ ?_ t
  · intro w _ _; rw [Fb]; trivial
  · intro n _ _; rw [Fb]; trivial
  · intro ps ih h ht; rw [Flat] at h; rw [tot] at ht; rw [Fb]; exact kids ps ih h ht
  · intro p ih h ht; rw [Flat] at h; rw [tot] at ht; rw [Fb]; exact ih h ht
  · intro ps ih h ht; rw [Flat] at h; rw [tot] at ht; rw [Fb]; exact kids ps ih h.1 ht
  · intro ps ih h ht; rw [Flat] at h; rw [tot] at ht; rw [Fb]; exact kids ps ih h.1 ht
  · intro c b _ h; rw [Flat] at h; exact h.elim
/-! a program as the laws draw them, its loops with one of some counts -/
mutual
def ProgP (L : List Int) : Tree → Prop
  | .log x => x ∈ lawWords
  | .await n => 1 ≤ n ∧ n ≤ 3
  | .seq ps => ProgPs L ps
  | .fork p => ProgP L p
  | .join ps => ProgPs L ps ∧ ps ≠ []
  | .race ps => ProgPs L ps ∧ ps ≠ []
  | .loop c b => c ∈ L ∧ BodyT b
def ProgPs (L : List Int) : List Tree → Prop
  | [] => True
  | t :: ts => ProgP L t ∧ ProgPs L ts
end
mutual
/-- nodes, those of bodies not counted -/
def gn : Tree → Nat
  | .log _ => 1
  | .await _ => 1
  | .seq ps => gns ps + 1
  | .fork p => gn p + 1
  | .join ps => gns ps + 1
  | .race ps => gns ps + 1
  | .loop _ _ => 1
def gns : List Tree → Nat
  | [] => 0
  | t :: ts => gn t + gns ts
end
theorem ProgPs.mem {L : List Int} {t : Tree} : ∀ {ts : List Tree}, ProgPs L ts → t ∈ ts → ProgP L t
  | u :: us, h, hm => by
    rw [ProgPs] at h
    rcases List.mem_cons.mp hm with e | e
    · rw [e]; exact h.1
    · exact ProgPs.mem h.2 e
theorem ProgPs.of {L : List Int} {ts : List Tree} (h : ∀ t ∈ ts, ProgP L t) : ProgPs L ts := by
  induction ts with
  | nil => rw [ProgPs]; trivial
  | cons t ts ih => rw [ProgPs]; exact ⟨h t List.mem_cons_self, ih fun u hu => h u (List.mem_cons_of_mem _ hu)⟩
theorem gns_bound {c : Nat} : ∀ {ts : List Tree}, (∀ t ∈ ts, gn t ≤ c) → gns ts ≤ c * ts.length
  | [], _ => Nat.zero_le _
  | t :: ts, h => by
    rw [gns, List.length_cons, Nat.mul_succ]
    have h1 := h t List.mem_cons_self
    have h2 := gns_bound (ts := ts) fun u hu => h u (List.mem_cons_of_mem _ hu)
    omega
theorem gn_pos : ∀ t, 1 ≤ gn t := by
  intro t
  cases t <;> rw [gn] <;> omega
theorem length_gns : ∀ ts : List Tree, ts.length ≤ gns ts
  | [] => Nat.le_refl _
  | t :: ts => by
    rw [gns, List.length_cons]
    have := length_gns ts
    have := gn_pos t
    omega
theorem life_flat : ∀ t, Flat t → life t = tot t := by
  intro t
  have kids : ∀ ps : List Tree, (∀ p ∈ ps, Flat p → life p = tot p) → Flats ps → lifes ps = tots ps := by
    intro ps
    induction ps with
    | nil => intro _ _; rw [lifes, tots]
    | cons p ps ih =>
      intro h h2
      rw [Flats] at h2
      rw [lifes, tots, h p List.mem_cons_self h2.1, ih (fun q hq => h q (List.mem_cons_of_mem _ hq)) h2.2]
  refine Tree.ind (P := fun t => Flat t → life t = tot t) ?_ ?_ ?_ ?_ ?_ ?_ ?_ t
  · intro w _; rw [life, tot]
  · intro n _; rw [life, tot]
  · intro ps ih h; rw [Flat] at h; rw [life, tot]; exact kids ps ih h
  · intro p ih h; rw [Flat] at h; rw [life, tot]; exact ih h
  · intro ps ih h; rw [Flat] at h; rw [life, tot]; exact kids ps ih h.1
  · intro ps ih h; rw [Flat] at h; rw [life, tot]; exact kids ps ih h.1
  · intro c b _ h; rw [Flat] at h; exact h.elim
theorem tl_cap : ∀ t, Flat t → tl t = cap t := by
  intro t
  have kids : ∀ ps : List Tree, (∀ p ∈ ps, Flat p → tl p = cap p) → Flats ps → tls ps = caps ps := by
    intro ps
    induction ps with
    | nil => intro _ _; rw [tls, caps]
    | cons p ps ih =>
      intro h h2
      rw [Flats] at h2
      rw [tls, caps, h p List.mem_cons_self h2.1, ih (fun q hq => h q (List.mem_cons_of_mem _ hq)) h2.2]
  refine Tree.ind (P := fun t => Flat t → tl t = cap t) ?_ ?_ ?_ ?_ ?_ ?_ ?_ t
  · intro w _; rw [tl, cap]
  · intro n _; rw [tl, cap]
  · intro ps ih h; rw [Flat] at h; rw [tl, cap]; exact kids ps ih h
  · intro p ih h; rw [Flat] at h; rw [tl, cap]; exact ih h
  · intro ps ih h; rw [Flat] at h; rw [tl, cap]; exact kids ps ih h.1
  · intro ps ih h; rw [Flat] at h; rw [tl, cap]; exact kids ps ih h.1
  · intro c b _ h; rw [Flat] at h; exact h.elim
/-! what is used of a body beyond BodyF -/
theorem plainT_P : ∀ t, PlainT t → PlainP (· ∈ lawWords) t := by
  intro t
  have kids : ∀ ps : List Tree, (∀ p ∈ ps, PlainT p → PlainP (· ∈ lawWords) p) → PlainTs ps → PlainPs (· ∈ lawWords) ps := fun ps ih h => PlainPs.of fun p hp => ih p hp (h.mem hp)
  refine Tree.ind (P := fun t => PlainT t → PlainP (· ∈ lawWords) t) ?_ ?_ ?_ ?_ ?_ ?_ ?_ t
  · intro w h; rw [PlainT] at h; rw [PlainP]; exact h
  · intro n h; rw [PlainT] at h; rw [PlainP]; exact h
  · intro ps ih h; rw [PlainT] at h; rw [PlainP]; exact kids ps ih h
  · intro p ih h; rw [PlainT] at h; rw [PlainP]; exact ih h
  · intro ps ih h; rw [PlainT] at h; rw [PlainP]; exact ⟨kids ps ih h.1, h.2⟩
  · intro ps ih h; rw [PlainT] at h; rw [PlainP]; exact ⟨kids ps ih h.1, h.2⟩
  · intro c b _ h; rw [PlainT] at h; exact h.elim
structure BodyG (b : Tree) : Prop where
  pq : Pq b
  co : cost b ≤ 40
  ws : ∀ a, ∀ x ∈ tw (raw b a), x ∈ lawWords
theorem BodyT.more {b : Tree} (h : BodyT b) : BodyG b := by
  rcases h with ⟨h1, h2, h3, h4, h5⟩ | ⟨f, m, e, h1, h2, h3, h4, h5, h6⟩ | e
  · have k := plainP_facts (fun x hx => lawWords_ok x hx) b (plainT_P b h1)
    have k7 := k.co
    exact ⟨k.pq, by omega, words_kind b (plainT_P b h1)⟩
  · have k := plainP_facts (fun x hx => lawWords_ok x hx) f (plainT_P f h1)
    have k7 := k.co
    subst e
    refine ⟨by rw [Pq, Pqs, Pqs, Pqs, Pq]; exact ⟨k.pq, by omega, trivial⟩, by rw [cost, costs, costs, costs, cost]; omega, fun a x hx => ?_⟩
    rw [raw, rawB, rawB, rawB, glue_nil, raw, glue_nil] at hx
    exact words_kind f (plainT_P f h1) a x hx
  · subst e
    refine ⟨by rw [Pq, Pqs, Pqs, Pqs, Pq, Pq]; exact ⟨trivial, by omega, trivial⟩, by rw [cost, costs, costs, costs, cost, cost]; simp, fun a x hx => ?_⟩
    have hp : PlainP (· ∈ lawWords) (.log (.str "x")) := by rw [PlainP]; simp [lawWords]
    rw [raw, rawB, rawB, rawB, glue_nil, raw, raw, glue_nil] at hx
    have e2 : raw (.log (.str "x")) a = (if a = 0 then ([.str "x"], []) else ([], [])) := by rw [raw]
    rw [← e2] at hx
    exact words_kind (.log (.str "x")) hp a x hx
/-- what is used of a drawn program with loops of at most C turns -/
structure GF (C : Nat) (t : Tree) : Prop where
  ok : gn t ≤ 1000 → Ok t
  pq : Pq t
  lf : life t ≤ 30 * C * gn t
  cp : cap t ≤ 256 * gn t
  rp : ∀ M, M < 2 ^ 61 → Rep M t
  co : cost t + 1 ≤ (41 * C + 4) * gn t
  tl : tl t ≤ 8 * C * gn t
  fb : gn t * C ≤ 10 ^ 50 → Fb t
  ws : ∀ a, ∀ x ∈ tw (raw t a), x ∈ lawWords
structure GFs (C : Nat) (ts : List Tree) : Prop where
  ok : gns ts ≤ 1000 → Oks ts
  pq : Pqs ts
  lf : lifes ts ≤ 30 * C * gns ts
  cp : caps ts ≤ 256 * gns ts
  rp : ∀ M, M < 2 ^ 61 → Reps M ts
  co : costs ts ≤ (41 * C + 4) * gns ts
  tl : tls ts ≤ 8 * C * gns ts
  fb : gns ts * C ≤ 10 ^ 50 → Fbs ts
theorem GFs.of {C : Nat} : ∀ {ts : List Tree}, (∀ t ∈ ts, GF C t) → GFs C ts
  | [], _ => ⟨fun _ => by rw [Oks]; trivial, by rw [Pqs]; trivial, by rw [lifes, gns]; omega, by rw [caps, gns]; omega, fun M _ => by rw [Reps]; trivial, by rw [costs, gns]; omega, by rw [tls, gns]; omega, fun _ => by rw [Fbs]; trivial⟩
  | t :: ts, h => by
    have a := h t List.mem_cons_self
    have b := GFs.of (ts := ts) fun u hu => h u (List.mem_cons_of_mem _ hu)
    have a3 := a.lf
    have a4 := a.cp
    have a7 := a.co
    have a8 := a.tl
    have b3 := b.lf
    have b4 := b.cp
    have b7 := b.co
    have b8 := b.tl
    refine ⟨fun hn => by rw [gns] at hn; rw [Oks]; exact ⟨a.ok (by omega), b.ok (by omega)⟩, by rw [Pqs]; exact ⟨a.pq, b.pq⟩, ?_, by rw [caps, gns]; omega, fun M hM => by rw [Reps]; exact ⟨a.rp M hM, b.rp M hM⟩, ?_, ?_, fun hn => ?_⟩
    · rw [lifes, gns, Int.natCast_add, Int.mul_add]; omega
    · rw [costs, gns, Nat.mul_add]; omega
    · rw [tls, gns, Nat.mul_add]; omega
    · rw [gns, Nat.add_mul] at hn
      rw [Fbs]
      refine ⟨⟨a.fb (by omega), ?_⟩, b.fb (by omega)⟩
      have l := life_nn t a.pq
      have e : (30 : Int) * C * gn t = 30 * ((gn t * C : Nat) : Int) := by rw [Int.natCast_mul, Int.mul_assoc, Int.mul_comm (C : Int)]
      omega
theorem prog_facts {L : List Int} {C : Nat} (hC : 1 ≤ C) (hC2 : C ≤ 10 ^ 18) (hL : ∀ c ∈ L, 0 ≤ c ∧ c ≤ C) : ∀ t, ProgP L t → GF C t := by
  intro t
  have bes : ∀ ps : List Tree, (∀ p ∈ ps, GF C p) → ∀ a, ∀ x ∈ (ps.map fun p => raw p a).flatMap tw, x ∈ lawWords := by
    intro ps h a x hx
    obtain ⟨s, hs, hx2⟩ := List.mem_flatMap.mp hx
    obtain ⟨p, hp, e⟩ := List.mem_map.mp hs
    rw [← e] at hx2
    exact (h p hp).ws a x hx2
  have row : ∀ ps : List Tree, (∀ p ∈ ps, GF C p) → ∀ a, ∀ x ∈ tw (rawB ps a), x ∈ lawWords := by
    intro ps
    induction ps with
    | nil => intro _ a x hx; rw [rawB] at hx; exact absurd hx (by simp [tw])
    | cons p ps ih =>
      intro h a x hx
      rw [rawB, tw_glue] at hx
      rcases List.mem_append.mp hx with hx | hx
      · rcases List.mem_append.mp hx with hx | hx
        · exact (h p List.mem_cons_self).ws a x (List.mem_append_left _ hx)
        · exact ih (fun q hq => h q (List.mem_cons_of_mem _ hq)) _ x hx
      · exact (h p List.mem_cons_self).ws a x (List.mem_append_right _ hx)
  refine Tree.ind (P := fun t => ProgP L t → GF C t) ?_ ?_ ?_ ?_ ?_ ?_ ?_ t
  · intro w h
    rw [ProgP] at h
    refine ⟨fun _ => by rw [Ok]; exact lawWords_ok w h, by rw [Pq]; trivial, by rw [life, gn]; omega, by rw [cap, gn]; omega, fun M _ => by rw [Rep]; trivial, by rw [cost, gn]; omega, by rw [Aw.tl, gn]; omega, fun _ => by rw [Fb]; trivial, fun a x hx => ?_⟩
    exact words_kind (P := (· ∈ lawWords)) (.log w) (by rw [PlainP]; exact h) a x hx
  · intro n h
    rw [ProgP] at h
    refine ⟨fun _ => by rw [Ok]; omega, by rw [Pq]; omega, by rw [life, gn]; omega, by rw [cap, gn]; omega, fun M _ => by rw [Rep]; trivial, by rw [cost, gn]; omega, by rw [Aw.tl, gn]; omega, fun _ => by rw [Fb]; trivial, fun a x hx => ?_⟩
    rw [raw] at hx
    exact absurd hx (by simp [tw])
  · intro ps ih h
    rw [ProgP] at h
    have hk := fun p hp => ih p hp (h.mem hp)
    have k := GFs.of hk
    have k0 := length_gns ps
    have k3 := k.lf
    have k4 := k.cp
    have k7 := k.co
    have k8 := k.tl
    refine ⟨fun hn => by rw [gn] at hn; rw [Ok]; exact ⟨k.ok (by omega), by omega⟩, by rw [Pq]; exact k.pq, ?_, by rw [cap, gn]; omega, fun M hM => by rw [Rep]; exact k.rp M hM, ?_, ?_, fun hn => ?_, fun a x hx => ?_⟩
    · rw [life, gn, Int.natCast_add, Int.mul_add]; omega
    · rw [cost, gn, Nat.mul_add]; omega
    · rw [Aw.tl, gn, Nat.mul_add]; omega
    · rw [gn, Nat.add_mul] at hn; rw [Fb]; exact k.fb (by omega)
    · rw [raw] at hx; exact row ps hk a x hx
  · intro p ih h
    rw [ProgP] at h
    have k := ih h
    have k3 := k.lf
    have k4 := k.cp
    have k7 := k.co
    have k8 := k.tl
    refine ⟨fun hn => by rw [gn] at hn; rw [Ok]; exact k.ok (by omega), by rw [Pq]; exact k.pq, ?_, by rw [cap, gn]; omega, fun M hM => by rw [Rep]; exact k.rp M hM, ?_, ?_, fun hn => ?_, fun a x hx => ?_⟩
    · rw [life, gn, Int.natCast_add, Int.mul_add]; omega
    · rw [cost, gn, Nat.mul_add]; omega
    · rw [Aw.tl, gn, Nat.mul_add]; omega
    · rw [gn, Nat.add_mul] at hn; rw [Fb]; exact k.fb (by omega)
    · rw [raw] at hx
      exact k.ws a x (by simpa [tw] using hx)
  · intro ps ih h
    rw [ProgP] at h
    have hk := fun p hp => ih p hp (h.1.mem hp)
    have k := GFs.of hk
    have k0 := length_gns ps
    have k3 := k.lf
    have k4 := k.cp
    have k7 := k.co
    have k8 := k.tl
    refine ⟨fun hn => by rw [gn] at hn; rw [Ok]; exact ⟨k.ok (by omega), by omega, h.2⟩, by rw [Pq]; exact ⟨k.pq, h.2⟩, ?_, by rw [cap, gn]; omega, fun M hM => by rw [Rep]; exact k.rp M hM, ?_, ?_, fun hn => ?_, fun a x hx => ?_⟩
    · rw [life, gn, Int.natCast_add, Int.mul_add]; omega
    · rw [cost, gn, Nat.mul_add]; omega
    · rw [Aw.tl, gn, Nat.mul_add]; omega
    · rw [gn, Nat.add_mul] at hn; rw [Fb]; exact k.fb (by omega)
    · rw [tw_join h.2] at hx; exact bes ps hk a x hx
  · intro ps ih h
    rw [ProgP] at h
    have hk := fun p hp => ih p hp (h.1.mem hp)
    have k := GFs.of hk
    have k0 := length_gns ps
    have k3 := k.lf
    have k4 := k.cp
    have k7 := k.co
    have k8 := k.tl
    refine ⟨fun hn => by rw [gn] at hn; rw [Ok]; exact ⟨k.ok (by omega), by omega, h.2⟩, by rw [Pq]; exact ⟨k.pq, h.2⟩, ?_, by rw [cap, gn]; omega, fun M hM => by rw [Rep]; exact k.rp M hM, ?_, ?_, fun hn => ?_, fun a x hx => ?_⟩
    · rw [life, gn, Int.natCast_add, Int.mul_add]; omega
    · rw [cost, gn, Nat.mul_add]; omega
    · rw [Aw.tl, gn, Nat.mul_add]; omega
    · rw [gn, Nat.add_mul] at hn; rw [Fb]; exact k.fb (by omega)
    · rw [tw_race h.2] at hx; exact bes ps hk a x hx
  · intro c b _ h
    rw [ProgP] at h
    obtain ⟨hc, hb⟩ := h
    obtain ⟨c0, c1⟩ := hL c hc
    have B := hb.facts
    have G := hb.more
    have f1 := B.f1
    have f2 := B.f2
    have b3 := B.cp
    have b4 := B.tt
    have b5 := G.co
    have lb := life_flat b B.fl
    have tb := tl_cap b B.fl
    have l0 := life_nn b G.pq
    have cn : c.toNat ≤ C := by omega
    refine ⟨fun _ => by rw [Ok]; exact ⟨B.ok, c0, by omega, by omega, by omega⟩, by rw [Pq]; exact ⟨c0, G.pq⟩, ?_, by rw [cap, gn]; omega, fun M hM => by rw [Rep]; exact ⟨B.rp M, by omega, B.quiet⟩, ?_, ?_, fun _ => by rw [Fb]; exact Fb.flat b B.fl (by omega), fun a x hx => ?_⟩
    · rw [life, gn]
      have h1 : c * life b ≤ C * 30 := Int.mul_le_mul c1 (by omega) (by omega) (by omega)
      omega
    · rw [cost, gn]
      have h1 : c.toNat * (cost b + 1) ≤ C * 41 := Nat.mul_le_mul cn (by omega)
      omega
    · rw [Aw.tl, gn]
      have h1 : c.toNat * Aw.tl b ≤ C * 8 := Nat.mul_le_mul cn (by omega)
      omega
    · rw [raw, raw_turns] at hx
      refine ?_
      have : ∀ (n : Nat) (a : Int), ∀ x ∈ tw (rawB (List.replicate n b) a), x ∈ lawWords := by
        intro n
        induction n with
        | zero => intro a x hx; rw [List.replicate_zero, rawB] at hx; exact absurd hx (by simp [tw])
        | succ n ih =>
          intro a x hx
          rw [List.replicate_succ, rawB, tw_glue] at hx
          rcases List.mem_append.mp hx with hx | hx
          · rcases List.mem_append.mp hx with hx | hx
            · exact G.ws a x (List.mem_append_left _ hx)
            · exact ih _ x hx
          · exact G.ws a x (List.mem_append_right _ hx)
      exact this _ a x hx
theorem law_isS {x : Wd} (h : x ∈ lawWords) : isS x := by
  simp only [lawWords, List.mem_cons, List.not_mem_nil, or_false] at h
  rcases h with h | h | h | h | h | h | h | h <;> exact ⟨_, h⟩
end L2.Aw

/-! Bodies that log few words; sums over parts. -/
namespace L2.Aw
open PySem PySem.Spec PyProof.Rows
mutual
def Tb : Tree → Prop
  | .log _ => True
  | .await _ => True
  | .seq ps => Tbs ps
  | .fork p => Tb p
  | .join ps => Tbs ps
  | .race ps => Tbs ps
  | .loop _ b => Tb b ∧ tl b ≤ 10 ^ 30
def Tbs : List Tree → Prop
  | [] => True
  | t :: ts => Tb t ∧ Tbs ts
end
theorem Tbs.mem {t : Tree} : ∀ {ts : List Tree}, Tbs ts → t ∈ ts → Tb t
  | u :: us, h, hm => by
    rw [Tbs] at h
    rcases List.mem_cons.mp hm with e | e
    · rw [e]; exact h.1
    · exact Tbs.mem h.2 e
theorem Tbs.of {ts : List Tree} (h : ∀ t ∈ ts, Tb t) : Tbs ts := by
  induction ts with
  | nil => rw [Tbs]; trivial
  | cons t ts ih => rw [Tbs]; exact ⟨h t List.mem_cons_self, ih fun u hu => h u (List.mem_cons_of_mem _ hu)⟩
theorem Tb.flat : ∀ t, Flat t → Tb t := by
  intro t
  refine Tree.ind (P := fun t => Flat t → Tb t) ?_ ?_ ?_ ?_ ?_ ?_ ?_ t
  · intro w _; rw [Tb]; trivial
  · intro n _; rw [Tb]; trivial
  · intro ps ih h; rw [Flat] at h; rw [Tb]; exact Tbs.of fun p hp => ih p hp (h.mem hp)
  · intro p ih h; rw [Flat] at h; rw [Tb]; exact ih h
  · intro ps ih h; rw [Flat] at h; rw [Tb]; exact Tbs.of fun p hp => ih p hp (h.1.mem hp)
  · intro ps ih h; rw [Flat] at h; rw [Tb]; exact Tbs.of fun p hp => ih p hp (h.1.mem hp)
  · intro c b _ h; rw [Flat] at h; exact h.elim
theorem Tb.prog {L : List Int} : ∀ t, ProgP L t → Tb t := by
  intro t
  refine Tree.ind (P := fun t => ProgP L t → Tb t) ?_ ?_ ?_ ?_ ?_ ?_ ?_ t
  · intro w _; rw [Tb]; trivial
  · intro n _; rw [Tb]; trivial
  · intro ps ih h; rw [ProgP] at h; rw [Tb]; exact Tbs.of fun p hp => ih p hp (h.mem hp)
  · intro p ih h; rw [ProgP] at h; rw [Tb]; exact ih h
  · intro ps ih h; rw [ProgP] at h; rw [Tb]; exact Tbs.of fun p hp => ih p hp (h.1.mem hp)
  · intro ps ih h; rw [ProgP] at h; rw [Tb]; exact Tbs.of fun p hp => ih p hp (h.1.mem hp)
  · intro c b _ h
    rw [ProgP] at h
    have B := h.2.facts
    have b3 := B.cp
    rw [Tb]
    exact ⟨Tb.flat b B.fl, by rw [tl_cap b B.fl]; omega⟩
theorem tls_sum : ∀ ps : List Tree, tls ps = (ps.map tl).sum
  | [] => by rw [tls]; rfl
  | p :: ps => by rw [tls, tls_sum ps, List.map_cons, List.sum_cons]
theorem cast_sum : ∀ ns : List Nat, (ns.map fun (n : Nat) => (n : Int)).sum = ((ns.sum : Nat) : Int)
  | [] => rfl
  | n :: ns => by rw [List.map_cons, List.sum_cons, List.sum_cons, cast_sum ns, Int.natCast_add]
end L2.Aw
namespace L2.Aw
theorem Pqs.of {ts : List Tree} (h : ∀ t ∈ ts, Pq t) : Pqs ts := by
  induction ts with
  | nil => rw [Pqs]; trivial
  | cons t ts ih => rw [Pqs]; exact ⟨h t List.mem_cons_self, ih fun u hu => h u (List.mem_cons_of_mem _ hu)⟩
end L2.Aw

/-! Test logs: a program, a mark behind it, a mark beside it. -/
namespace L2.Aw
open PySem PySem.Spec PyProof.Rows
def at0 (bh : Option Int) (d r : Int) : Bool := match bh with | some b => decide (d + b = r) | none => false
def bf0 (bh : Option Int) (d a : Int) : Nat := match bh with | some b => if d + b < a then 1 else 0 | none => 0
def has0 (bh : Option Int) : Nat := match bh with | some _ => 1 | none => 0
/-- the marks of a test that stand in a round -/
def m0 (t : Tree) (bh : Option Int) (r : Int) : List W := if at0 bh (fin t) r then [.int 0] else []
def m1 (bs : Option Int) (r : Int) : List W := if at0 bs 0 r then [.int 1] else []
def rowT (t : Tree) (bh bs : Option Int) (r : Int) : List W := (if fin t ≤ r then (sides t r).1.map wv ++ m0 t bh r ++ (sides t r).2.map wv else (sides t r).1.map wv) ++ m1 bs r
def cntT (t : Tree) (bh bs : Option Int) (a : Int) : Nat := cb t a + bf0 bh (fin t) a + bf0 bs 0 a
def totT (t : Tree) (bh bs : Option Int) : Nat := tl t + has0 bh + has0 bs
def logT (t : Tree) (bh bs : Option Int) : Nat → List W
  | 0 => []
  | n + 1 => logT t bh bs n ++ rowT t bh bs n
def nnO (b : Option Int) : Prop := ∀ x, b = some x → 0 ≤ x
theorem bf0_zero {bh : Option Int} {d a : Int} (h : nnO bh) (hd : 0 ≤ d) (ha : a ≤ 0) : bf0 bh d a = 0 := by
  cases bh with
  | none => rfl
  | some b =>
    have := h b rfl
    show (if d + b < a then 1 else 0) = 0
    rw [if_neg (by omega)]
theorem bf0_succ (bh : Option Int) (d a : Int) : bf0 bh d (a + 1) = bf0 bh d a + if at0 bh d a then 1 else 0 := by
  cases bh with
  | none => rfl
  | some b =>
    show (if d + b < a + 1 then 1 else 0) = (if d + b < a then 1 else 0) + if decide (d + b = a) = true then 1 else 0
    by_cases h1 : d + b < a
    · rw [if_pos (by omega), if_pos h1, if_neg (by simp; omega)]
    · by_cases h2 : d + b = a
      · rw [if_pos (by omega), if_neg h1, if_pos (by simpa using h2)]
      · rw [if_neg (by omega), if_neg h1, if_neg (by simpa using h2)]
theorem bf0_le (bh : Option Int) (d a : Int) : bf0 bh d a ≤ has0 bh := by
  cases bh with
  | none => exact Nat.le_refl _
  | some b =>
    show (if d + b < a then 1 else 0) ≤ 1
    split <;> omega
theorem at0_len (bh : Option Int) (d r : Int) (x : W) : (if at0 bh d r then [x] else []).length = if at0 bh d r then 1 else 0 := by
  split <;> rfl
theorem rowT_len {t : Tree} (ho : Ok t) (hq : Pq t) {bh : Option Int} (hb : nnO bh) (bs : Option Int) (r : Int) : (rowT t bh bs r).length = wc t r + (if at0 bh (fin t) r then 1 else 0) + if at0 bs 0 r then 1 else 0 := by
  have e : wc t r = (sides t r).1.length + (sides t r).2.length := by
    unfold wc
    rw [← tw_sides ho hq, tw, List.length_append]
  unfold rowT
  rw [List.length_append, e]
  show _ + (m1 bs r).length = _
  rw [m1, at0_len]
  by_cases hf : fin t ≤ r
  · rw [if_pos hf, List.length_append, List.length_append, List.length_map, List.length_map, m0, at0_len]
    omega
  · rw [if_neg hf, List.length_map]
    have e2 : (sides t r).2 = [] := by rw [sides_raw t ho hq r, shut_f hf]
    have e3 : at0 bh (fin t) r = false := by
      cases bh with
      | none => rfl
      | some b =>
        have := hb b rfl
        exact decide_eq_false (by omega)
    rw [e2, e3]
    rfl
theorem cntT_succ {t : Tree} (ho : Ok t) (hq : Pq t) {bh : Option Int} (hb : nnO bh) (bs : Option Int) {a : Int} (h : 0 ≤ a) : cntT t bh bs (a + 1) = cntT t bh bs a + (rowT t bh bs a).length := by
  unfold cntT
  rw [rowT_len ho hq hb, cb_succ t h, bf0_succ, bf0_succ]
  omega
theorem cntT_zero {t : Tree} (hq : Pq t) {bh bs : Option Int} (hb : nnO bh) (hs : nnO bs) {a : Int} (ha : a ≤ 0) : cntT t bh bs a = 0 := by
  unfold cntT
  rw [cb_neg t ha, bf0_zero hb (fin_nn t hq) ha, bf0_zero hs (by omega) ha]
theorem logT_len {t : Tree} (ho : Ok t) (hq : Pq t) {bh bs : Option Int} (hb : nnO bh) (hs : nnO bs) : ∀ n : Nat, (logT t bh bs n).length = cntT t bh bs n
  | 0 => by rw [cntT_zero hq hb hs (by omega)]; rfl
  | n + 1 => by
    have e : ((n + 1 : Nat) : Int) = (n : Int) + 1 := by omega
    rw [logT, List.length_append, logT_len ho hq hb hs n, e, cntT_succ ho hq hb bs (by omega)]
theorem logT_more (t : Tree) (bh bs : Option Int) (n : Nat) : ∀ k : Nat, ∃ X, logT t bh bs (n + k) = logT t bh bs n ++ X
  | 0 => ⟨[], by rw [List.append_nil]; rfl⟩
  | k + 1 => by
    obtain ⟨X, e⟩ := logT_more t bh bs n k
    exact ⟨X ++ rowT t bh bs ((n + k : Nat) : Int), by rw [← Nat.add_assoc, logT, e, List.append_assoc]⟩
theorem cntT_mono {t : Tree} {bh bs : Option Int} {a b : Int} (h : a ≤ b) : cntT t bh bs a ≤ cntT t bh bs b := by
  have h1 := cb_mono t h
  have h2 : ∀ (o : Option Int) (d : Int), bf0 o d a ≤ bf0 o d b := by
    intro o d
    cases o with
    | none => exact Nat.le_refl _
    | some x =>
      show (if d + x < a then 1 else 0) ≤ (if d + x < b then 1 else 0)
      by_cases h3 : d + x < a
      · rw [if_pos h3, if_pos (by omega)]; exact Nat.le_refl _
      · rw [if_neg h3]; exact Nat.zero_le _
  have h3 := h2 bh (fin t)
  have h4 := h2 bs 0
  unfold cntT
  omega
/-- behind round A all is logged -/
def doneT (t : Tree) (bh bs : Option Int) (A : Int) : Prop := life t < A ∧ (∀ b, bh = some b → fin t + b < A) ∧ ∀ b, bs = some b → b < A
theorem cntT_all {t : Tree} (hq : Pq t) {bh bs : Option Int} {A a : Int} (h : doneT t bh bs A) (ha : A ≤ a) : cntT t bh bs a = totT t bh bs := by
  unfold cntT totT
  rw [cb_all t hq a (by have := h.1; omega)]
  have h1 : bf0 bh (fin t) a = has0 bh := by
    cases bh with
    | none => rfl
    | some b =>
      have := h.2.1 b rfl
      show (if fin t + b < a then 1 else 0) = 1
      rw [if_pos (by omega)]
  have h2 : bf0 bs 0 a = has0 bs := by
    cases bs with
    | none => rfl
    | some b =>
      have := h.2.2 b rfl
      show (if 0 + b < a then 1 else 0) = 1
      rw [if_pos (by omega)]
  rw [h1, h2]
/-- an entry stands in its round -/
theorem logT_at {t : Tree} (ho : Ok t) (hq : Pq t) {bh bs : Option Int} (hb : nnO bh) (hs : nnO bs) {low N i : Nat} (h1 : cntT t bh bs low ≤ i) (h2 : i < cntT t bh bs ((low : Int) + 1)) (hN : low + 1 ≤ N) : (logT t bh bs N)[i]? = (rowT t bh bs low)[i - cntT t bh bs low]? := by
  obtain ⟨X, e⟩ := logT_more t bh bs (low + 1) (N - (low + 1))
  have e1 : low + 1 + (N - (low + 1)) = N := by omega
  have e2 := logT_len ho hq hb hs low
  have e3 := cntT_succ ho hq hb bs (a := low) (by omega)
  rw [e1] at e
  rw [e, logT, List.append_assoc, List.getElem?_append_right (by omega), e2, List.getElem?_append_left (by omega)]
/-- the first place of a mark -/
theorem find_mark {A B : List W} {z : Int} (h : ∀ w ∈ A, wEqA w (.int z) = false) : (A ++ [W.int z] ++ B).findIdx? (fun w => wEqA w (.int z)) = some A.length := by
  induction A with
  | nil =>
    show (W.int z :: ([] ++ B)).findIdx? (fun w => wEqA w (.int z)) = some 0
    rw [List.findIdx?_cons]
    have e : wEqA (.int z) (.int z) = true := by show (z == z) = true; simp
    rw [e]
    rfl
  | cons a A ih =>
    have e := h a List.mem_cons_self
    show (a :: (A ++ [.int z] ++ B)).findIdx? (fun w => wEqA w (.int z)) = _
    rw [List.findIdx?_cons, e, ih fun w hw => h w (List.mem_cons_of_mem _ hw)]
    rfl
theorem words_not {l : List Wd} (h : ∀ x ∈ l, isS x) (z : Int) : ∀ w ∈ l.map wv, wEqA w (.int z) = false ∧ wFlat w = true ∧ wNon w = false ∧ w.pure = true := by
  intro w hw
  obtain ⟨x, hx, e⟩ := List.mem_map.mp hw
  obtain ⟨s, es⟩ := h x hx
  subst es e
  exact ⟨rfl, rfl, rfl, wv_pure _⟩
theorem int_ne {y z : Int} (h : y ≠ z) : wEqA (.int y) (.int z) = false := by
  show (y == z) = false
  simpa using h
/-- what stands in a row -/
theorem rowT_mem {t : Tree} (hw : ∀ a, ∀ x ∈ tw (sides t a), isS x) (bh bs : Option Int) (r : Int) : ∀ w ∈ rowT t bh bs r, wFlat w = true ∧ wNon w = false ∧ w.pure = true ∧ (at0 bh (fin t) r = false → wEqA w (.int 0) = false) ∧ (at0 bs 0 r = false → wEqA w (.int 1) = false) := by
  have h1 : ∀ x ∈ (sides t r).1, isS x := fun x hx => hw r x (List.mem_append_left _ hx)
  have h2 : ∀ x ∈ (sides t r).2, isS x := fun x hx => hw r x (List.mem_append_right _ hx)
  have p1 : ∀ l : List Wd, (∀ x ∈ l, isS x) → ∀ w ∈ l.map wv, wFlat w = true ∧ wNon w = false ∧ w.pure = true ∧ (at0 bh (fin t) r = false → wEqA w (.int 0) = false) ∧ (at0 bs 0 r = false → wEqA w (.int 1) = false) := fun l hl w h => ⟨(words_not hl 0 w h).2.1, (words_not hl 0 w h).2.2.1, (words_not hl 0 w h).2.2.2, fun _ => (words_not hl 0 w h).1, fun _ => (words_not hl 1 w h).1⟩
  have p2 : ∀ w ∈ m0 t bh r, wFlat w = true ∧ wNon w = false ∧ w.pure = true ∧ (at0 bh (fin t) r = false → wEqA w (.int 0) = false) ∧ (at0 bs 0 r = false → wEqA w (.int 1) = false) := by
    intro w h
    unfold m0 at h
    split at h
    · rename_i hb
      rw [List.mem_singleton.mp h]
      exact ⟨rfl, rfl, pure_int, fun z => (by rw [z] at hb; cases hb), fun _ => int_ne (by omega)⟩
    · cases h
  have p3 : ∀ w ∈ m1 bs r, wFlat w = true ∧ wNon w = false ∧ w.pure = true ∧ (at0 bh (fin t) r = false → wEqA w (.int 0) = false) ∧ (at0 bs 0 r = false → wEqA w (.int 1) = false) := by
    intro w h
    unfold m1 at h
    split at h
    · rename_i hb
      rw [List.mem_singleton.mp h]
      exact ⟨rfl, rfl, pure_int, fun _ => int_ne (by omega), fun z => (by rw [z] at hb; cases hb)⟩
    · cases h
  intro w h
  unfold rowT at h
  rcases List.mem_append.mp h with h | h
  · split at h
    · rcases List.mem_append.mp h with h | h
      · rcases List.mem_append.mp h with h | h
        · exact p1 _ h1 w h
        · exact p2 w h
      · exact p1 _ h2 w h
    · exact p1 _ h1 w h
  · exact p3 w h
theorem logT_mem {t : Tree} (hw : ∀ a, ∀ x ∈ tw (sides t a), isS x) (bh bs : Option Int) : ∀ n : Nat, ∀ w ∈ logT t bh bs n, wFlat w = true ∧ wNon w = false ∧ w.pure = true ∧ ((∀ r : Int, 0 ≤ r → r < n → at0 bh (fin t) r = false) → wEqA w (.int 0) = false) ∧ ((∀ r : Int, 0 ≤ r → r < n → at0 bs 0 r = false) → wEqA w (.int 1) = false)
  | 0, w, h => by cases h
  | n + 1, w, h => by
    rcases List.mem_append.mp h with h | h
    · obtain ⟨a1, a2, a3, a4, a5⟩ := logT_mem hw bh bs n w h
      exact ⟨a1, a2, a3, fun z => a4 fun r h0 h1 => z r h0 (by omega), fun z => a5 fun r h0 h1 => z r h0 (by omega)⟩
    · obtain ⟨a1, a2, a3, a4, a5⟩ := rowT_mem hw bh bs n w h
      exact ⟨a1, a2, a3, fun z => a4 (z n (by omega) (by omega)), fun z => a5 (z n (by omega) (by omega))⟩
/-- where the mark beside stands -/
theorem find_beside {t : Tree} (ho : Ok t) (hq : Pq t) (hw : ∀ a, ∀ x ∈ tw (sides t a), isS x) {bh : Option Int} (hb : nnO bh) {b N : Nat} (hN : b + 1 ≤ N) : (logT t bh (some (b : Int)) N).findIdx? (fun w => wEqA w (.int 1)) = some (cntT t bh none ((b : Int) + 1)) := by
  obtain ⟨X, e⟩ := logT_more t bh (some (b : Int)) (b + 1) (N - (b + 1))
  have e1 : b + 1 + (N - (b + 1)) = N := by omega
  rw [e1] at e
  have er : rowT t bh (some (b : Int)) b = rowT t bh none b ++ [.int 1] := by
    have e2 : at0 (some (b : Int)) 0 b = true := decide_eq_true (by omega)
    have e3 : m1 (some (b : Int)) b = [.int 1] := by unfold m1; rw [e2]; rfl
    have e4 : m1 none b = [] := rfl
    unfold rowT
    rw [e3, e4, List.append_nil]
  have hs : nnO (some (b : Int)) := fun x hx => by cases hx; omega
  have hn : nnO none := fun x hx => by cases hx
  have hlen : (logT t bh (some (b : Int)) b ++ rowT t bh none b).length = cntT t bh none ((b : Int) + 1) := by
    rw [List.length_append, logT_len ho hq hb hs, cntT_succ ho hq hb none (by omega)]
    congr 1
    unfold cntT
    have : bf0 (some (b : Int)) 0 b = 0 := by show (if 0 + (b : Int) < b then 1 else 0) = 0; rw [if_neg (by omega)]
    rw [this]
    rfl
  rw [e, logT, er, ← List.append_assoc, ← hlen]
  refine find_mark fun w hw2 => ?_
  rcases List.mem_append.mp hw2 with h | h
  · exact (logT_mem hw bh (some (b : Int)) b w h).2.2.2.2 fun r h0 h1 => decide_eq_false (by omega)
  · exact (rowT_mem hw bh none b w h).2.2.2.2 rfl
/-- where the mark behind stands -/
theorem find_behind {t : Tree} (ho : Ok t) (hq : Pq t) (hw : ∀ a, ∀ x ∈ tw (sides t a), isS x) {bs : Option Int} (hs : nnO bs) {b : Int} {r N : Nat} (h0 : 0 ≤ b) (hr : fin t + b = r) (hN : r + 1 ≤ N) : (logT t (some b) bs N).findIdx? (fun w => wEqA w (.int 0)) = some (cntT t none bs r + (sides t r).1.length) := by
  obtain ⟨X, e⟩ := logT_more t (some b) bs (r + 1) (N - (r + 1))
  have e1 : r + 1 + (N - (r + 1)) = N := by omega
  rw [e1] at e
  have hb : nnO (some b) := fun x hx => by cases hx; exact h0
  have hn : nnO none := fun x hx => by cases hx
  have er : rowT t (some b) bs r = (sides t r).1.map wv ++ [.int 0] ++ ((sides t r).2.map wv ++ m1 bs r) := by
    unfold rowT
    rw [if_pos (by omega)]
    have e2 : m0 t (some b) r = [.int 0] := by
      unfold m0
      have e3 : at0 (some b) (fin t) r = true := decide_eq_true hr
      rw [e3]
      rfl
    rw [e2, List.append_assoc]
  have hlen : (logT t (some b) bs r ++ (sides t r).1.map wv).length = cntT t none bs r + (sides t r).1.length := by
    rw [List.length_append, logT_len ho hq hb hs, List.length_map]
    congr 1
    unfold cntT
    have : bf0 (some b) (fin t) r = 0 := by show (if fin t + b < r then 1 else 0) = 0; rw [if_neg (by omega)]
    rw [this]
    rfl
  have e9 : logT t (some b) bs r ++ ((sides t r).1.map wv ++ [W.int 0] ++ ((sides t r).2.map wv ++ m1 bs r)) ++ X = (logT t (some b) bs r ++ (sides t r).1.map wv) ++ [W.int 0] ++ (((sides t r).2.map wv ++ m1 bs r) ++ X) := by simp
  rw [e, logT, er, e9, ← hlen]
  refine find_mark fun w hw2 => ?_
  rcases List.mem_append.mp hw2 with h | h
  · exact (logT_mem hw (some b) bs r w h).2.2.2.1 fun x h0 h1 => decide_eq_false (by omega)
  · exact (words_not (fun x hx => hw r x (List.mem_append_left _ hx)) 0 w h).1
end L2.Aw
namespace L2.Aw
open PySem PySem.Spec PyProof.Rows
section
variable {env e1 env1 : WEnv} {S S1 S2 S3 : Store} {w x y z : W} {ws us : List W} {m ma mb mc mi mo : WE} {mes : WA} {R : Option (W × Store)} {i j : Int}
theorem g_vandT (h : ma env S = some (.bl true, S1)) (h2 : mb env S1 = R) : vAnd ma mb env S = R := by rw [vAnd, h]; exact h2
theorem g_vandF (h : ma env S = some (.bl false, S1)) : vAnd ma mb env S = some (.bl false, S1) := by rw [vAnd, h]; rfl
theorem g_vorT (h : ma env S = some (.bl true, S1)) : vOr ma mb env S = some (.bl true, S1) := by rw [vOr, h]; rfl
theorem g_vorF (h : ma env S = some (.bl false, S1)) (h2 : mb env S1 = R) : vOr ma mb env S = R := by rw [vOr, h]; exact h2
theorem b_list (hs : seqOf S x = some ws) : cList [x] S = some (.ref S.length, S ++ [.lst ws]) := by
  show (seqOf S x).bind (fun us => newL us S) = _
  rw [hs]
  rfl
theorem eqT {b : Bool} (h : b = true) : b = true := h
theorem eqF {b : Bool} (h : b = false) : b = false := h
theorem fEq_nonI : fEq false .non (.int i) S = some (.bl false, S) := by
  have e1 : toPS S .non = some .none := by show toP .non = _; rw [toP]
  have e2 : toPS S (.int i) = some (.int i) := by show toP (.int i) = _; rw [toP]
  rw [fEq_at e1 e2 (by decide +kernel) shaped_int]
  rw [PyData.eqv]
  rfl
theorem b_iaddI : wIadd (.int i) (.int j) S = some (.int (i + j), S) := rfl
theorem g_aug {k : Nat} (h0 : env[k]?.join = some x) (h : m env S = some (y, S1)) (h2 : wIadd x y S1 = some (z, S2)) : sAug k wIadd m env S = some (.nx (env.set k (some z)) S2) := by
  refine ev_aug ?_ h h2
  cases e : env[k]? with
  | none => rw [e] at h0; cases h0
  | some o => rw [e] at h0; have h0' : o = some x := h0; rw [h0']
end
end L2.Aw
namespace L2.Aw
open PySem PySem.Spec PyProof.Rows
theorem cut_to {ws : List W} {c : Int} (h0 : 0 ≤ c) (h1 : c ≤ ws.length) : wCut ws none (some c) = ws.take c.toNat := by
  obtain ⟨m, e⟩ : ∃ m : Nat, c = (m : Int) := ⟨c.toNat, by omega⟩
  subst e
  unfold wCut
  rw [HT.sIx_none, HT.sIx_nat]
  have e : min m ws.length = m := by omega
  rw [e]
  simp
theorem cut_from {ws : List W} {c : Int} (h0 : 0 ≤ c) (h1 : c ≤ ws.length) : wCut ws (some c) none = ws.drop c.toNat := by
  obtain ⟨m, e⟩ : ∃ m : Nat, c = (m : Int) := ⟨c.toNat, by omega⟩
  subst e
  unfold wCut
  rw [HT.sIx_none, HT.sIx_nat]
  have e : min m ws.length = m := by omega
  rw [e]
  rw [List.take_of_length_le (by rw [List.length_drop]; omega)]
  rfl
end L2.Aw

/-! Equal lists of rows. -/
namespace L2.Aw
open PySem PySem.Spec PyProof.Rows
theorem mkw_good {t : Tree} {a : Int} (ho : Ok t) : ((mkw t a).map wv).all wOk = true := by
  have g := good_sides t ho a
  refine wOk_map fun x hx => ?_
  unfold mkw at hx
  split at hx
  · rcases List.mem_append.mp hx with hx | hx
    · rcases List.mem_append.mp hx with hx | hx
      · exact g.1 x hx
      · rw [List.mem_singleton.mp hx]; rfl
    · exact g.2 x hx
  · exact g.1 x hx
/-- a value as data, of some depth -/
def Dat (k : Nat) (w : W) : Prop := ∃ d, toP w = some d ∧ d.canLay0 = true ∧ d.depth ≤ k
theorem Dat.mono {j k : Nat} {w : W} (h : Dat j w) (hk : j ≤ k) : Dat k w := by
  obtain ⟨d, a, b, c⟩ := h
  exact ⟨d, a, b, Nat.le_trans c hk⟩
theorem Dat.int {i : Int} : Dat 0 (.int i) := ⟨.int i, by rw [toP], by rw [PyData.canLay0], by rw [PyData.depth]; omega⟩
theorem Dat.non : Dat 0 .non := ⟨.none, by rw [toP], by rw [PyData.canLay0], by rw [PyData.depth]; omega⟩
theorem Dat.bl {b : Bool} : Dat 0 (.bl b) := ⟨.bool b, by rw [toP], by rw [PyData.canLay0], by rw [PyData.depth]; omega⟩
theorem Dat.str {s : Str} (h : PyData.strOk s = true) : Dat 0 (.str s) := ⟨.str s, by rw [toP], by rw [PyData.canLay0]; exact h, by rw [PyData.depth]; omega⟩
theorem dats {k : Nat} : ∀ {ws : List W}, (∀ w ∈ ws, Dat k w) → ∃ ds, toPs ws = some ds ∧ PyData.canLayAll0 ds = true ∧ PyData.depthAll ds ≤ k
  | [], _ => ⟨[], by rw [toPs], by rw [PyData.canLayAll0], by rw [PyData.depthAll]; omega⟩
  | w :: ws, h => by
    obtain ⟨d, a1, a2, a3⟩ := h w List.mem_cons_self
    obtain ⟨ds, b1, b2, b3⟩ := dats (ws := ws) fun v hv => h v (List.mem_cons_of_mem _ hv)
    exact ⟨d :: ds, by rw [toPs, a1, b1]; rfl, by rw [PyData.canLayAll0, a2, b2]; rfl, by rw [PyData.depthAll]; omega⟩
theorem Dat.tup {k : Nat} {ws : List W} (h : ∀ w ∈ ws, Dat k w) : Dat (k + 1) (.tup ws) := by
  obtain ⟨ds, b1, b2, b3⟩ := dats h
  exact ⟨.tuple ds, by rw [toP, b1]; rfl, by rw [PyData.canLay0]; exact b2, by rw [PyData.depth]; omega⟩
theorem Dat.wd {x : Wd} (h : wdOk x = true) : Dat 1 (wv x) := by
  obtain ⟨d, a, b, c⟩ := toP_wv h
  exact ⟨d, a, b, c⟩
theorem Dat.opt (o : Option Int) : Dat 0 (wOpt o) := by
  cases o with
  | none => exact Dat.non
  | some i => exact Dat.int
theorem Dat.mk {t : Tree} (ho : Ok t) (a : Int) : Dat 2 (.tup ((mkw t a).map wv)) := by
  obtain ⟨ds, b1, b2, b3, _⟩ := toPs_ok (mkw_good (a := a) ho)
  exact ⟨.tuple ds, by rw [toP, b1]; rfl, by rw [PyData.canLay0]; exact b2, by rw [PyData.depth]; omega⟩
theorem Dat.enc {t : Tree} (ho : Ok t) : Dat (2 * dep t) (Aw.enc t) := toP_enc t ho
theorem toPS_of {S : Store} {w : W} {d : PyData} (h : toP w = some d) : toPS S w = some d := by
  cases w with
  | ref i => rw [toP] at h; cases h
  | _ => exact h
/-- equal data -/
theorem fEq_same {k : Nat} {w : W} {S : Store} (neg : Bool) (h : Dat k w) (hk : k ≤ 64) : fEq neg w w S = some (.bl (!neg), S) := by
  obtain ⟨d, a, b, c⟩ := h
  have s := shaped_of b c hk
  rw [fEq_at (toPS_of a) (toPS_of a) s s, SeqAt.eqv_refl _ b]
  cases neg <;> rfl
/-- equal lists of data -/
theorem fEq_lists {k : Nat} {ws : List W} {S : Store} {p q : Nat} (neg : Bool) (hp : getL S p = some ws) (hq : getL S q = some ws) (h : ∀ w ∈ ws, Dat k w) (hk : k ≤ 63) : fEq neg (.ref p) (.ref q) S = some (.bl (!neg), S) := by
  obtain ⟨ds, b1, b2, b3⟩ := dats h
  have hc : (PyData.list ds).canLay0 = true := by rw [PyData.canLay0]; exact b2
  have s := shaped_of (d := .list ds) (n := k + 1) hc (by rw [PyData.depth]; omega) (by omega)
  rw [fEq_at (toPS_ref hp b1) (toPS_ref hq b1) s s, SeqAt.eqv_refl _ hc]
  cases neg <;> rfl
end L2.Aw

set_option maxHeartbeats 4000000
namespace L2.Aw.K78
open PySem PySem.Spec PyProof.Rows
noncomputable section
inductive Fn where
  | finish | sides_of_seq | sides_of_loop | sides_beside | key_part | sides_of | marked | total | count_in_loop | count_before | test_count | test_row | test_entry | _law_pot | _law_take | _law_of | _law_word | _law_leaf | _law_plain | _law_end | _law_body | _law_program | _law_begun | _law_done | _law_logged | _law_marked | _law_span | _law_seen | _law_told_back | _law_right | law
def topS (i : Nat) : Stmt := PySem.Challenge.pw_awaitrounds_k78_whole_marked_words_seen.main.body.getD i (.Pass ⟨0, 0, 0, 0⟩)
def st : Fn → Stmt
  | .finish => topS 10
  | .sides_of_seq => topS 11
  | .sides_of_loop => topS 12
  | .sides_beside => topS 13
  | .key_part => topS 14
  | .sides_of => topS 15
  | .marked => topS 16
  | .total => topS 19
  | .count_in_loop => topS 20
  | .count_before => topS 21
  | .test_count => topS 25
  | .test_row => topS 26
  | .test_entry => topS 27
  | ._law_pot => topS 29
  | ._law_take => topS 30
  | ._law_of => topS 31
  | ._law_word => topS 32
  | ._law_leaf => topS 33
  | ._law_plain => topS 34
  | ._law_end => topS 35
  | ._law_body => topS 36
  | ._law_program => topS 37
  | ._law_begun => topS 38
  | ._law_done => topS 39
  | ._law_logged => topS 40
  | ._law_marked => topS 41
  | ._law_span => topS 42
  | ._law_seen => topS 43
  | ._law_told_back => topS 44
  | ._law_right => topS 45
  | .law => topS 46
def fnm : Fn → Str
  | .finish => "finish"
  | .sides_of_seq => "sides_of_seq"
  | .sides_of_loop => "sides_of_loop"
  | .sides_beside => "sides_beside"
  | .key_part => "key_part"
  | .sides_of => "sides_of"
  | .marked => "marked"
  | .total => "total"
  | .count_in_loop => "count_in_loop"
  | .count_before => "count_before"
  | .test_count => "test_count"
  | .test_row => "test_row"
  | .test_entry => "test_entry"
  | ._law_pot => "_law_pot"
  | ._law_take => "_law_take"
  | ._law_of => "_law_of"
  | ._law_word => "_law_word"
  | ._law_leaf => "_law_leaf"
  | ._law_plain => "_law_plain"
  | ._law_end => "_law_end"
  | ._law_body => "_law_body"
  | ._law_program => "_law_program"
  | ._law_begun => "_law_begun"
  | ._law_done => "_law_done"
  | ._law_logged => "_law_logged"
  | ._law_marked => "_law_marked"
  | ._law_span => "_law_span"
  | ._law_seen => "_law_seen"
  | ._law_told_back => "_law_told_back"
  | ._law_right => "_law_right"
  | .law => "law"
def ps : Fn → List Str
  | .finish => ["program"]
  | .sides_of_seq => ["parts", "at"]
  | .sides_of_loop => ["count", "body", "at"]
  | .sides_beside => ["parts", "at", "key"]
  | .key_part => ["program"]
  | .sides_of => ["program", "at"]
  | .marked => ["program", "at"]
  | .total => ["program"]
  | .count_in_loop => ["count", "body", "at"]
  | .count_before => ["program", "at"]
  | .test_count => ["program", "test", "at"]
  | .test_row => ["program", "test", "at"]
  | .test_entry => ["program", "test", "number"]
  | ._law_pot => ["script", "k"]
  | ._law_take => ["pot", "bound"]
  | ._law_of => ["pot", "some"]
  | ._law_word => ["pot"]
  | ._law_leaf => ["pot"]
  | ._law_plain => ["pot", "size", "deep"]
  | ._law_end => ["tree"]
  | ._law_body => ["pot"]
  | ._law_program => ["pot", "size", "deep", "tally"]
  | ._law_begun => ["tree", "frame", "mark", "tally", "found", "later", "at"]
  | ._law_done => ["frame", "mark", "tally"]
  | ._law_logged => ["trees"]
  | ._law_marked => ["tree", "many"]
  | ._law_span => ["tree"]
  | ._law_seen => ["tree", "test"]
  | ._law_told_back => ["tree", "many"]
  | ._law_right => ["tree"]
  | .law => ["script"]
abbrev nm_finish : List Str := ["program", "word", "ends", "part"]
abbrev nm_sides_of_seq : List Str := ["parts", "at", "left", "right", "part", "sides"]
abbrev nm_sides_of_loop : List Str := ["count", "body", "at", "length", "low", "high", "left", "right", "number", "sides"]
abbrev nm_sides_beside : List Str := ["parts", "at", "key", "some", "left", "right", "index", "sides", "part"]
abbrev nm_key_part : List Str := ["program", "ends", "part"]
abbrev nm_sides_of : List Str := ["program", "at", "word", "sides"]
abbrev nm_marked : List Str := ["program", "at", "left", "right"]
abbrev nm_total : List Str := ["program", "word", "part"]
abbrev nm_count_in_loop : List Str := ["count", "body", "at", "pace", "complete", "begun", "turn"]
abbrev nm_count_before : List Str := ["program", "at", "word", "found", "begin", "part"]
abbrev nm_test_count : List Str := ["program", "test", "at", "behind", "beside", "found"]
abbrev nm_test_row : List Str := ["program", "test", "at", "behind", "beside", "row", "gap", "is_marked"]
abbrev nm_test_entry : List Str := ["program", "test", "number", "low", "high", "middle"]
abbrev nm__law_pot : List Str := ["script", "k", "cell", "own"]
abbrev nm__law_take : List Str := ["pot", "bound", "digit", "prime", "mixed"]
abbrev nm__law_of : List Str := ["pot", "some"]
abbrev nm__law_word : List Str := ["pot"]
abbrev nm__law_leaf : List Str := ["pot"]
abbrev nm__law_plain : List Str := ["pot", "size", "deep", "way", "many", "parts", "part"]
abbrev nm__law_end : List Str := ["tree", "ends", "part"]
abbrev nm__law_body : List Str := ["pot", "found"]
abbrev nm__law_program : List Str := ["pot", "size", "deep", "tally", "way", "many", "parts", "part"]
abbrev nm__law_begun : List Str := ["tree", "frame", "mark", "tally", "found", "later", "at", "word", "below", "rest", "key", "part"]
abbrev nm__law_done : List Str := ["frame", "mark", "tally", "word", "last"]
abbrev nm__law_logged : List Str := ["trees", "start", "tally", "found", "here", "at", "later", "callback", "left", "word", "tree", "frame", "mark"]
abbrev nm__law_marked : List Str := ["tree", "many", "ticks", "rows", "at", "mark", "word", "row"]
abbrev nm__law_span : List Str := ["tree", "at", "mark", "word"]
abbrev nm__law_seen : List Str := ["tree", "test", "found"]
abbrev nm__law_told_back : List Str := ["tree", "many", "plain", "end", "rows", "before", "at", "both", "upto", "row", "spot"]
abbrev nm__law_right : List Str := ["tree", "many", "end", "rows", "at"]
abbrev nm_law : List Str := ["script", "k", "pot", "turn", "tree"]
/-! ### what each def computes -/
def b_finish (c : Fn → FM) : WS := sSeq (sAsg (.nm 1) (mBin wIx (mVar 0) (mC (.int 0)))) (sSeq (sIf (mTest (mBin (wIn false) (mVar 1) (mTup (aCons (mC (.str "log")) (aCons (mC (.str "fork")) aNil))))) (sRet (mC (.int 0))) (sNext)) (sSeq (sIf (mTest (mBin (fEq false) (mVar 1) (mC (.str "await")))) (sRet (mBin wIx (mVar 0) (mC (.int 1)))) (sNext)) (sSeq (sIf (mTest (mBin (fEq false) (mVar 1) (mC (.str "loop")))) (sRet (mBin wMul (mBin wIx (mVar 0) (mC (.int 1))) (mCall (c .finish) (aCons (mBin wIx (mVar 0) (mC (.int 2))) aNil)))) (sNext)) (sSeq (sAsg (.nm 2) (mLc (iSeq (mBin wIx (mVar 0) (mC (.int 1)))) (.nm 3) (tYesW) (mCall (c .finish) (aCons (mVar 3) aNil)) [3])) (sSeq (sIf (mTest (mBin (fEq false) (mVar 1) (mC (.str "seq")))) (sRet (mCall cSum (aCons (mVar 2) aNil))) (sNext)) (sRet (mIf (mTest (mBin (fEq false) (mVar 1) (mC (.str "join")))) (mCall cMax (aCons (mVar 2) aNil)) (mCall cMin (aCons (mVar 2) aNil)))))))))
def b_sides_of_seq (c : Fn → FM) : WS := sSeq (sAsg (.tp ((.nm 2) :: ((.nm 3) :: []))) (mTup (aCons (mTup aNil) (aCons (mTup aNil) aNil)))) (sSeq (sFor (iSeq (mVar 0)) (.nm 4) (sSeq (sIf (mTest (mBin wLt (mVar 1) (mC (.int 0)))) (sBreak) (sNext)) (sSeq (sAsg (.nm 5) (mCall (c .sides_of) (aCons (mVar 4) (aCons (mVar 1) aNil)))) (sSeq (sPar 2 3 (aCons (mBin wAdd (mVar 2) (mBin wIx (mVar 5) (mC (.int 0)))) (aCons (mBin wAdd (mBin wIx (mVar 5) (mC (.int 1))) (mVar 3)) aNil))) (sAug 1 wSub (mCall (c .finish) (aCons (mVar 4) aNil))))))) (sRet (mIf (mTest (mBin wGe (mVar 1) (mC (.int 0)))) (mTup (aCons (mVar 2) (aCons (mVar 3) aNil))) (mTup (aCons (mBin wAdd (mVar 2) (mVar 3)) (aCons (mTup aNil) aNil))))))
def b_sides_of_loop (c : Fn → FM) : WS := sSeq (sAsg (.nm 3) (mCall (c .finish) (aCons (mVar 1) aNil))) (sSeq (sPar 4 5 (aCons (mCall cMax (aCons (mC (.int 0)) (aCons (mBin wFdiv (mBin wSub (mVar 2) (mC (.int 30))) (mVar 3)) aNil))) (aCons (mCall cMin (aCons (mVar 0) (aCons (mBin wAdd (mBin wFdiv (mVar 2) (mVar 3)) (mC (.int 1))) aNil))) aNil))) (sSeq (sAsg (.tp ((.nm 6) :: ((.nm 7) :: []))) (mTup (aCons (mTup aNil) (aCons (mTup aNil) aNil)))) (sSeq (sFor (iRange2 (aCons (mVar 4) (aCons (mVar 5) aNil))) (.nm 8) (sSeq (sAsg (.nm 9) (mCall (c .sides_of) (aCons (mVar 1) (aCons (mBin wSub (mVar 2) (mBin wMul (mVar 8) (mVar 3))) aNil)))) (sPar 6 7 (aCons (mBin wAdd (mVar 6) (mBin wIx (mVar 9) (mC (.int 0)))) (aCons (mBin wAdd (mBin wIx (mVar 9) (mC (.int 1))) (mVar 7)) aNil))))) (sRet (mIf (mTest (mBin wGe (mVar 2) (mBin wMul (mVar 0) (mVar 3)))) (mTup (aCons (mVar 6) (aCons (mVar 7) aNil))) (mTup (aCons (mBin wAdd (mVar 6) (mVar 7)) (aCons (mTup aNil) aNil))))))))
def b_sides_beside (c : Fn → FM) : WS := sSeq (sAsg (.nm 3) (mLc (iSeq (mVar 0)) (.nm 8) (tYesW) (mCall (c .sides_of) (aCons (mVar 8) (aCons (mVar 1) aNil))) [8])) (sSeq (sAsg (.tp ((.nm 4) :: ((.nm 5) :: []))) (mTup (aCons (mTup aNil) (aCons (mTup aNil) aNil)))) (sSeq (sFor (iEnumL (aCons (mVar 3) aNil)) (.tp ((.nm 6) :: ((.nm 7) :: []))) (sIf (mTest (mBin wLt (mVar 6) (mVar 2))) (sAug 4 wIadd (mBin wAdd (mBin wIx (mVar 7) (mC (.int 0))) (mBin wIx (mVar 7) (mC (.int 1))))) (sIf (mTest (mBin (fEq false) (mVar 6) (mVar 2))) (sPar 4 5 (aCons (mBin wAdd (mVar 4) (mBin wIx (mVar 7) (mC (.int 0)))) (aCons (mBin wIx (mVar 7) (mC (.int 1))) aNil))) (sAug 5 wIadd (mBin wAdd (mBin wIx (mVar 7) (mC (.int 0))) (mBin wIx (mVar 7) (mC (.int 1)))))))) (sRet (mIf (mTest (mBin wGe (mVar 1) (mCall (c .finish) (aCons (mBin wIx (mVar 0) (mVar 2)) aNil)))) (mTup (aCons (mVar 4) (aCons (mVar 5) aNil))) (mTup (aCons (mBin wAdd (mVar 4) (mVar 5)) (aCons (mTup aNil) aNil)))))))
def b_key_part (c : Fn → FM) : WS := sSeq (sAsg (.nm 1) (mLc (iSeq (mBin wIx (mVar 0) (mC (.int 1)))) (.nm 2) (tYesW) (mCall (c .finish) (aCons (mVar 2) aNil)) [2])) (sSeq (sIf (mTest (mBin (fEq false) (mBin wIx (mVar 0) (mC (.int 0))) (mC (.str "race")))) (sRet (mMeth lIndex (mVar 1) (aCons (mCall cMin (aCons (mVar 1) aNil)) aNil))) (sNext)) (sRet (mBin wSub (mBin wSub (mCall cLen (aCons (mVar 1) aNil)) (mC (.int 1))) (mMeth lIndex (mUn wRevL (mVar 1)) (aCons (mCall cMax (aCons (mVar 1) aNil)) aNil)))))
def b_sides_of (c : Fn → FM) : WS := sSeq (sAsg (.nm 2) (mBin wIx (mVar 0) (mC (.int 0)))) (sSeq (sIf (mTest (mBin (fEq false) (mVar 2) (mC (.str "log")))) (sRet (mIf (mTest (mBin (fEq false) (mVar 1) (mC (.int 0)))) (mTup (aCons (mTup (aCons (mBin wIx (mVar 0) (mC (.int 1))) aNil)) (aCons (mTup aNil) aNil))) (mTup (aCons (mTup aNil) (aCons (mTup aNil) aNil))))) (sNext)) (sSeq (sIf (mTest (mBin (fEq false) (mVar 2) (mC (.str "await")))) (sRet (mTup (aCons (mTup aNil) (aCons (mTup aNil) aNil)))) (sNext)) (sSeq (sIf (mTest (mBin (fEq false) (mVar 2) (mC (.str "fork")))) (sSeq (sAsg (.nm 3) (mCall (c .sides_of) (aCons (mBin wIx (mVar 0) (mC (.int 1))) (aCons (mVar 1) aNil)))) (sRet (mTup (aCons (mBin wAdd (mBin wIx (mVar 3) (mC (.int 0))) (mBin wIx (mVar 3) (mC (.int 1)))) (aCons (mTup aNil) aNil))))) (sNext)) (sSeq (sIf (mTest (mBin (fEq false) (mVar 2) (mC (.str "seq")))) (sRet (mCall (c .sides_of_seq) (aCons (mBin wIx (mVar 0) (mC (.int 1))) (aCons (mVar 1) aNil)))) (sNext)) (sSeq (sIf (mTest (mBin (fEq false) (mVar 2) (mC (.str "loop")))) (sRet (mCall (c .sides_of_loop) (aCons (mBin wIx (mVar 0) (mC (.int 1))) (aCons (mBin wIx (mVar 0) (mC (.int 2))) (aCons (mVar 1) aNil))))) (sNext)) (sRet (mCall (c .sides_beside) (aCons (mBin wIx (mVar 0) (mC (.int 1))) (aCons (mVar 1) (aCons (mCall (c .key_part) (aCons (mVar 0) aNil)) aNil))))))))))
def b_marked (c : Fn → FM) : WS := sSeq (sAsg (.tp ((.nm 2) :: ((.nm 3) :: []))) (mCall (c .sides_of) (aCons (mVar 0) (aCons (mVar 1) aNil)))) (sRet (mIf (mTest (mBin wGe (mVar 1) (mCall (c .finish) (aCons (mVar 0) aNil)))) (mBin wAdd (mBin wAdd (mVar 2) (mTup (aCons (mC .non) aNil))) (mVar 3)) (mVar 2)))
def b_total (c : Fn → FM) : WS := sSeq (sAsg (.nm 1) (mBin wIx (mVar 0) (mC (.int 0)))) (sSeq (sIf (mTest (mBin (wIn false) (mVar 1) (mTup (aCons (mC (.str "log")) (aCons (mC (.str "await")) aNil))))) (sRet (mCall cInt (aCons (mBin (fEq false) (mVar 1) (mC (.str "log"))) aNil))) (sNext)) (sSeq (sIf (mTest (mBin (fEq false) (mVar 1) (mC (.str "fork")))) (sRet (mCall (c .total) (aCons (mBin wIx (mVar 0) (mC (.int 1))) aNil))) (sNext)) (sSeq (sIf (mTest (mBin (fEq false) (mVar 1) (mC (.str "loop")))) (sRet (mBin wMul (mBin wIx (mVar 0) (mC (.int 1))) (mCall (c .total) (aCons (mBin wIx (mVar 0) (mC (.int 2))) aNil)))) (sNext)) (sRet (mCall cSum (aCons (mLc (iSeq (mBin wIx (mVar 0) (mC (.int 1)))) (.nm 2) (tYesW) (mCall (c .total) (aCons (mVar 2) aNil)) [2]) aNil))))))
def b_count_in_loop (c : Fn → FM) : WS := sSeq (sAsg (.nm 3) (mCall (c .finish) (aCons (mVar 1) aNil))) (sSeq (sAsg (.nm 4) (mCall cMin (aCons (mVar 0) (aCons (mCall cMax (aCons (mC (.int 0)) (aCons (mBin wAdd (mBin wFdiv (mBin wSub (mBin wSub (mVar 2) (mC (.int 1))) (mC (.int 30))) (mVar 3)) (mC (.int 1))) aNil))) aNil)))) (sSeq (sAsg (.nm 5) (mCall cMin (aCons (mVar 0) (aCons (mBin wAdd (mBin wFdiv (mBin wSub (mVar 2) (mC (.int 1))) (mVar 3)) (mC (.int 1))) aNil)))) (sRet (mBin wAdd (mBin wMul (mVar 4) (mCall (c .total) (aCons (mVar 1) aNil))) (mCall cSum (aCons (mLc (iRange2 (aCons (mVar 4) (aCons (mVar 5) aNil))) (.nm 6) (tYesW) (mCall (c .count_before) (aCons (mVar 1) (aCons (mBin wSub (mVar 2) (mBin wMul (mVar 6) (mVar 3))) aNil))) [6]) aNil))))))
def b_count_before (c : Fn → FM) : WS := sSeq (sAsg (.nm 2) (mBin wIx (mVar 0) (mC (.int 0)))) (sSeq (sIf (tOrW (mTest (mBin wLe (mVar 1) (mC (.int 0)))) (mTest (mBin (fEq false) (mVar 2) (mC (.str "await"))))) (sRet (mC (.int 0))) (sNext)) (sSeq (sIf (mTest (mBin (fEq false) (mVar 2) (mC (.str "log")))) (sRet (mC (.int 1))) (sNext)) (sSeq (sIf (mTest (mBin (fEq false) (mVar 2) (mC (.str "fork")))) (sRet (mCall (c .count_before) (aCons (mBin wIx (mVar 0) (mC (.int 1))) (aCons (mVar 1) aNil)))) (sNext)) (sSeq (sIf (mTest (mBin (fEq false) (mVar 2) (mC (.str "loop")))) (sRet (mCall (c .count_in_loop) (aCons (mBin wIx (mVar 0) (mC (.int 1))) (aCons (mBin wIx (mVar 0) (mC (.int 2))) (aCons (mVar 1) aNil))))) (sNext)) (sSeq (sAsg (.tp ((.nm 3) :: ((.nm 4) :: []))) (mTup (aCons (mC (.int 0)) (aCons (mC (.int 0)) aNil)))) (sSeq (sFor (iSeq (mBin wIx (mVar 0) (mC (.int 1)))) (.nm 5) (sSeq (sAug 3 wIadd (mCall (c .count_before) (aCons (mVar 5) (aCons (mBin wSub (mVar 1) (mVar 4)) aNil)))) (sAug 4 wIadd (mIf (mTest (mBin (fEq false) (mVar 2) (mC (.str "seq")))) (mCall (c .finish) (aCons (mVar 5) aNil)) (mC (.int 0)))))) (sRet (mVar 3))))))))
def b_test_count (c : Fn → FM) : WS := sSeq (sAsg (.tp ((.nm 3) :: ((.nm 4) :: []))) (mVar 1)) (sSeq (sAsg (.nm 5) (mIf (mTest (mIsN (mVar 2))) (mCall (c .total) (aCons (mVar 0) aNil)) (mCall (c .count_before) (aCons (mVar 0) (aCons (mVar 2) aNil))))) (sSeq (sIf (tAndW (mTest (mNotN (mVar 3))) (tOrW (mTest (mIsN (mVar 2))) (mTest (mBin wLt (mBin wAdd (mCall (c .finish) (aCons (mVar 0) aNil)) (mVar 3)) (mVar 2))))) (sAug 5 wIadd (mC (.int 1))) (sNext)) (sRet (mBin wAdd (mVar 5) (mCall cInt (aCons (vAnd (mNotN (mVar 4)) (vOr (mIsN (mVar 2)) (mBin wLt (mVar 4) (mVar 2)))) aNil))))))
def b_test_row (c : Fn → FM) : WS := sSeq (sAsg (.tp ((.nm 3) :: ((.nm 4) :: []))) (mVar 1)) (sSeq (sAsg (.nm 5) (mCall cList (aCons (mCall (c .marked) (aCons (mVar 0) (aCons (mVar 2) aNil))) aNil))) (sSeq (sIf (mTest (mBin (wIn false) (mC .non) (mVar 5))) (sSeq (sAsg (.nm 6) (mMeth lIndex (mVar 5) (aCons (mC .non) aNil))) (sSeq (sAsg (.nm 7) (vAnd (mNotN (mVar 3)) (mBin (fEq false) (mBin wAdd (mCall (c .finish) (aCons (mVar 0) aNil)) (mVar 3)) (mVar 2)))) (sAsg (.nm 5) (mBin wAdd (mBin wAdd (mSlice (mVar 5) oNone (oSome (mVar 6))) (mIf (mTest (mVar 7)) (mLst (aCons (mC (.int 0)) aNil)) (mLst aNil))) (mSlice (mVar 5) (oSome (mBin wAdd (mVar 6) (mC (.int 1)))) oNone))))) (sNext)) (sRet (mBin wAdd (mVar 5) (mIf (mTest (mBin (fEq false) (mVar 4) (mVar 2))) (mLst (aCons (mC (.int 1)) aNil)) (mLst aNil))))))
def b_test_entry (c : Fn → FM) : WS := sSeq (sIf (mTest (mBin wGe (mVar 2) (mCall (c .test_count) (aCons (mVar 0) (aCons (mVar 1) (aCons (mC .non) aNil)))))) (sRet (mC .non)) (sNext)) (sSeq (sAsg (.tp ((.nm 3) :: ((.nm 4) :: []))) (mTup (aCons (mC (.int 0)) (aCons (mC (.int 1)) aNil)))) (sSeq (sWhileU (mTest (mBin wLe (mCall (c .test_count) (aCons (mVar 0) (aCons (mVar 1) (aCons (mVar 4) aNil)))) (mVar 2))) (sPar 3 4 (aCons (mVar 4) (aCons (mBin wMul (mVar 4) (mC (.int 2))) aNil)))) (sSeq (sWhileU (mTest (mBin wGt (mBin wSub (mVar 4) (mVar 3)) (mC (.int 1)))) (sSeq (sAsg (.nm 5) (mBin wFdiv (mBin wAdd (mVar 3) (mVar 4)) (mC (.int 2)))) (sIf (mTest (mBin wLe (mCall (c .test_count) (aCons (mVar 0) (aCons (mVar 1) (aCons (mVar 5) aNil)))) (mVar 2))) (sAsg (.nm 3) (mVar 5)) (sAsg (.nm 4) (mVar 5))))) (sRet (mBin wIx (mCall (c .test_row) (aCons (mVar 0) (aCons (mVar 1) (aCons (mVar 3) aNil)))) (mBin wSub (mVar 2) (mCall (c .test_count) (aCons (mVar 0) (aCons (mVar 1) (aCons (mVar 3) aNil))))))))))
def b__law_pot (c : Fn → FM) : WS := sSeq (sAsg (.nm 2) (mIf (mTest (mBin wLt (mVar 1) (mCall cLen (aCons (mVar 0) aNil)))) (mBin wIx (mVar 0) (mVar 1)) (mBin wAdd (mBin wMul (mC (.int 17)) (mVar 1)) (mC (.int 9))))) (sSeq (sAsg (.nm 3) (mBin wMul (mBin wMod (mCall cAbs (aCons (mVar 2) aNil)) (mBin wPow (mBin wPow (mC (.int 10)) (mC (.int 60))) (mC (.int 5)))) (mCall cInt (aCons (mBin wGe (mCall cAbs (aCons (mVar 2) aNil)) (mBin wPow (mC (.int 10)) (mC (.int 18)))) aNil)))) (sRet (mLst (aCons (mVar 3) (aCons (mBin wMod (mBin wAdd (mBin wAdd (mBin wMul (mBin wMod (mVar 2) (mC (.int 2305843009213693951))) (mC (.int 69621))) (mBin wMul (mBin wMul (mC (.int 7919)) (mVar 1)) (mVar 1))) (mC (.int 31))) (mC (.int 2305843009213693921))) (aCons (mC (.int 0)) aNil))))))
def b__law_take (c : Fn → FM) : WS := sSeq (sIf (mTest (mBin wGt (mBin wIx (mVar 0) (mC (.int 0))) (mC (.int 0)))) (sSeq (sAsg (.nm 2) (mBin wMod (mBin wIx (mVar 0) (mC (.int 0))) (mVar 1))) (sSeq (sSetIx (mVar 0) (mC (.int 0)) (mBin wFdiv (mBin wIx (mVar 0) (mC (.int 0))) (mVar 1))) (sRet (mVar 2)))) (sNext)) (sSeq (sSetIx (mVar 0) (mC (.int 2)) (mBin wAdd (mBin wIx (mVar 0) (mC (.int 2))) (mC (.int 1)))) (sSeq (sAsg (.nm 3) (mBin wIx (mLst (aCons (mC (.int 2147483647)) (aCons (mC (.int 2147483629)) (aCons (mC (.int 2147483587)) (aCons (mC (.int 2147483579)) (aCons (mC (.int 2147483563)) aNil)))))) (mBin wMod (mBin wIx (mVar 0) (mC (.int 2))) (mC (.int 5))))) (sSeq (sAsg (.nm 4) (mBin wMod (mBin wPow (mBin wAdd (mBin wAdd (mBin wIx (mVar 0) (mC (.int 1))) (mBin wMul (mBin wMul (mC (.int 99991)) (mBin wIx (mVar 0) (mC (.int 2)))) (mBin wIx (mVar 0) (mC (.int 2))))) (mC (.int 23))) (mC (.int 3))) (mVar 3))) (sRet (mBin wMod (mBin wFdiv (mBin wMod (mBin wMul (mVar 4) (mBin wAdd (mBin wMod (mVar 4) (mC (.int 10007))) (mBin wMul (mC (.int 71)) (mBin wIx (mVar 0) (mC (.int 2)))))) (mC (.int 2305843009213693907))) (mC (.int 103))) (mVar 1))))))
def b__law_of (c : Fn → FM) : WS := sRet (mBin wIx (mVar 1) (mCall (c ._law_take) (aCons (mVar 0) (aCons (mCall cLen (aCons (mVar 1) aNil)) aNil))))
def b__law_word (c : Fn → FM) : WS := sRet (mCall (c ._law_of) (aCons (mVar 0) (aCons (mLst (aCons (mC (.str "a")) (aCons (mC (.str "b")) (aCons (mC (.str "c")) (aCons (mC (.str "d")) (aCons (mC (.str "x")) (aCons (mC (.str "aa")) (aCons (mC (.str "log")) (aCons (mC (.str "zzzzzzzz")) aNil))))))))) aNil)))
def b__law_leaf (c : Fn → FM) : WS := sSeq (sIf (mTest (mBin wLt (mCall (c ._law_take) (aCons (mVar 0) (aCons (mC (.int 5)) aNil))) (mC (.int 3)))) (sRet (mTup (aCons (mC (.str "log")) (aCons (mCall (c ._law_word) (aCons (mVar 0) aNil)) aNil)))) (sNext)) (sRet (mTup (aCons (mC (.str "await")) (aCons (mBin wAdd (mC (.int 1)) (mCall (c ._law_take) (aCons (mVar 0) (aCons (mC (.int 3)) aNil)))) aNil))))
def b__law_plain (c : Fn → FM) : WS := sSeq (sAsg (.nm 3) (mCall (c ._law_take) (aCons (mVar 0) (aCons (mC (.int 9)) aNil)))) (sSeq (sIf (tOrW (mTest (mBin wLt (mVar 3) (mC (.int 2)))) (tOrW (mTest (mBin wLt (mVar 1) (mC (.int 2)))) (mTest (mBin wLt (mVar 2) (mC (.int 2)))))) (sRet (mCall (c ._law_leaf) (aCons (mVar 0) aNil))) (sNext)) (sSeq (sIf (mTest (mBin (fEq false) (mVar 3) (mC (.int 2)))) (sRet (mTup (aCons (mC (.str "fork")) (aCons (mCall (c ._law_plain) (aCons (mVar 0) (aCons (mBin wSub (mVar 1) (mC (.int 1))) (aCons (mBin wSub (mVar 2) (mC (.int 1))) aNil)))) aNil)))) (sNext)) (sSeq (sAsg (.nm 4) (mCall cMin (aCons (mBin wSub (mVar 1) (mC (.int 1))) (aCons (mIf (mTest (mBin wLt (mVar 3) (mC (.int 7)))) (mBin wAdd (mC (.int 1)) (mCall (c ._law_take) (aCons (mVar 0) (aCons (mC (.int 3)) aNil)))) (mCall (c ._law_take) (aCons (mVar 0) (aCons (mC (.int 5)) aNil)))) aNil)))) (sSeq (sAsg (.nm 5) (mCall cTuple (aCons (mLc (iRange1 (aCons (mVar 4) aNil)) (.nm 6) (tYesW) (mCall (c ._law_plain) (aCons (mVar 0) (aCons (mBin wFdiv (mBin wSub (mVar 1) (mC (.int 1))) (mCall cMax (aCons (mC (.int 1)) (aCons (mVar 4) aNil)))) (aCons (mBin wSub (mVar 2) (mC (.int 1))) aNil)))) [6]) aNil))) (sRet (mTup (aCons (mBin wIx (mLst (aCons (mC (.str "join")) (aCons (mC (.str "join")) (aCons (mC (.str "race")) (aCons (mC (.str "race")) (aCons (mC (.str "seq")) (aCons (mC (.str "seq")) aNil))))))) (mBin wSub (mVar 3) (mC (.int 3)))) (aCons (mVar 5) aNil))))))))
def b__law_end (c : Fn → FM) : WS := sSeq (sIf (mTest (mBin (wIn false) (mBin wIx (mVar 0) (mC (.int 0))) (mTup (aCons (mC (.str "log")) (aCons (mC (.str "fork")) aNil))))) (sRet (mC (.int 0))) (sNext)) (sSeq (sIf (mTest (mBin (fEq false) (mBin wIx (mVar 0) (mC (.int 0))) (mC (.str "await")))) (sRet (mBin wIx (mVar 0) (mC (.int 1)))) (sNext)) (sSeq (sIf (mTest (mBin (fEq false) (mBin wIx (mVar 0) (mC (.int 0))) (mC (.str "loop")))) (sRet (mBin wMul (mBin wIx (mVar 0) (mC (.int 1))) (mCall (c ._law_end) (aCons (mBin wIx (mVar 0) (mC (.int 2))) aNil)))) (sNext)) (sSeq (sAsg (.nm 1) (mLc (iSeq (mBin wIx (mVar 0) (mC (.int 1)))) (.nm 2) (tYesW) (mCall (c ._law_end) (aCons (mVar 2) aNil)) [2])) (sRet (mDGet (mDisp ((mC (.str "seq"), mCall cSum (aCons (mVar 1) aNil)) :: ((mC (.str "join"), mCall cMax (aCons (mBin wAdd (mVar 1) (mLst (aCons (mC (.int 0)) aNil))) aNil)) :: ((mC (.str "race"), mCall cMin (aCons (mBin wAdd (mVar 1) (mLst (aCons (mBin wPow (mC (.int 10)) (mC (.int 60))) aNil))) aNil)) :: [])))) (mBin wIx (mVar 0) (mC (.int 0))))))))
def b__law_body (c : Fn → FM) : WS := sSeq (sAsg (.nm 1) (mCall (c ._law_plain) (aCons (mVar 0) (aCons (mC (.int 6)) (aCons (mC (.int 3)) aNil))))) (sSeq (sIf (mTest (mBin (fEq false) (mCall (c ._law_end) (aCons (mVar 1) aNil)) (mC (.int 0)))) (sRet (mTup (aCons (mC (.str "seq")) (aCons (mTup (aCons (mVar 1) (aCons (mTup (aCons (mC (.str "await")) (aCons (mBin wAdd (mC (.int 1)) (mCall (c ._law_take) (aCons (mVar 0) (aCons (mC (.int 6)) aNil)))) aNil))) aNil))) aNil)))) (sNext)) (sRet (mIf (mTest (mBin wLt (mCall (c ._law_end) (aCons (mVar 1) aNil)) (mC (.int 7)))) (mVar 1) (mTup (aCons (mC (.str "seq")) (aCons (mTup (aCons (mTup (aCons (mC (.str "log")) (aCons (mC (.str "x")) aNil))) (aCons (mTup (aCons (mC (.str "await")) (aCons (mC (.int 6)) aNil))) aNil))) aNil))))))
def b__law_program (c : Fn → FM) : WS := sSeq (sAsg (.nm 4) (mCall (c ._law_take) (aCons (mVar 0) (aCons (mC (.int 10)) aNil)))) (sSeq (sIf (tAndW (mTest (mBin (fEq false) (mVar 4) (mC (.int 9)))) (tAndW (mTest (mBin wNeNil (mVar 3) (mLst aNil))) (mTest (mBin wGt (mVar 1) (mC (.int 5)))))) (sRet (mTup (aCons (mC (.str "loop")) (aCons (mCall (c ._law_of) (aCons (mVar 0) (aCons (mVar 3) aNil))) (aCons (mCall (c ._law_body) (aCons (mVar 0) aNil)) aNil))))) (sNext)) (sSeq (sIf (tOrW (mTest (mBin wLt (mVar 4) (mC (.int 2)))) (tOrW (mTest (mBin wLt (mVar 1) (mC (.int 2)))) (mTest (mBin wLt (mVar 2) (mC (.int 2)))))) (sRet (mCall (c ._law_leaf) (aCons (mVar 0) aNil))) (sNext)) (sSeq (sIf (mTest (mBin (fEq false) (mVar 4) (mC (.int 2)))) (sRet (mTup (aCons (mC (.str "fork")) (aCons (mCall (c ._law_program) (aCons (mVar 0) (aCons (mBin wSub (mVar 1) (mC (.int 1))) (aCons (mBin wSub (mVar 2) (mC (.int 1))) (aCons (mVar 3) aNil))))) aNil)))) (sNext)) (sSeq (sAsg (.nm 5) (mCall cMin (aCons (mBin wSub (mVar 1) (mC (.int 1))) (aCons (mIf (mTest (mBin wLt (mVar 4) (mC (.int 7)))) (mBin wAdd (mC (.int 1)) (mCall (c ._law_take) (aCons (mVar 0) (aCons (mC (.int 3)) aNil)))) (mCall (c ._law_take) (aCons (mVar 0) (aCons (mC (.int 5)) aNil)))) aNil)))) (sSeq (sAsg (.nm 6) (mCall cTuple (aCons (mLc (iRange1 (aCons (mVar 5) aNil)) (.nm 7) (tYesW) (mCall (c ._law_program) (aCons (mVar 0) (aCons (mBin wFdiv (mBin wSub (mVar 1) (mC (.int 1))) (mCall cMax (aCons (mC (.int 1)) (aCons (mVar 5) aNil)))) (aCons (mBin wSub (mVar 2) (mC (.int 1))) (aCons (mVar 3) aNil))))) [7]) aNil))) (sRet (mTup (aCons (mBin wIx (mLst (aCons (mC (.str "join")) (aCons (mC (.str "join")) (aCons (mC (.str "race")) (aCons (mC (.str "race")) (aCons (mC (.str "seq")) (aCons (mC (.str "seq")) (aCons (mC (.str "seq")) aNil)))))))) (mBin wSub (mVar 4) (mC (.int 3)))) (aCons (mVar 6) aNil)))))))))
def b__law_begun (c : Fn → FM) : WS := sSeq (sAsg (.tp ((.nm 7) :: ((.nm 8) :: []))) (mTup (aCons (mBin wIx (mVar 0) (mC (.int 0))) (aCons (mLst aNil) aNil)))) (sSeq (sIf (mTest (mBin (fEq false) (mVar 7) (mC (.str "log")))) (sSeq (sExpr (mMeth lAppend (mVar 4) (aCons (mTup (aCons (mVar 6) (aCons (mVar 2) (aCons (mBin wIx (mVar 0) (mC (.int 1))) aNil)))) aNil))) (sRet (mLst (aCons (mTup (aCons (mC (.str "done")) (aCons (mC .non) (aCons (mVar 1) (aCons (mVar 2) aNil))))) aNil)))) (sNext)) (sSeq (sIf (mTest (mBin (fEq false) (mVar 7) (mC (.str "await")))) (sSeq (sAsg (.nm 9) (mTup (aCons (mC (.str "begin")) (aCons (mTup (aCons (mC (.str "await")) (aCons (mBin wSub (mBin wIx (mVar 0) (mC (.int 1))) (mC (.int 1))) aNil))) (aCons (mVar 1) (aCons (mVar 2) aNil)))))) (sExpr (mMeth lAppend (mVar 5) (aCons (mIf (mTest (mBin wGt (mBin wIx (mVar 0) (mC (.int 1))) (mC (.int 1)))) (mLst (aCons (mVar 9) aNil)) (mLst (aCons (mTup (aCons (mC (.str "done")) (aCons (mC .non) (aCons (mVar 1) (aCons (mVar 2) aNil))))) aNil))) aNil)))) (sIf (mTest (mBin (fEq false) (mVar 7) (mC (.str "fork")))) (sAsg (.nm 8) (mLst (aCons (mTup (aCons (mC (.str "done")) (aCons (mC .non) (aCons (mVar 1) (aCons (mVar 2) aNil))))) (aCons (mTup (aCons (mC (.str "begin")) (aCons (mBin wIx (mVar 0) (mC (.int 1))) (aCons (mTup (aCons (mC (.str "none")) aNil)) (aCons (mVar 2) aNil))))) aNil)))) (sIf (mTest (mBin (fEq false) (mVar 7) (mC (.str "seq")))) (sAsg (.nm 8) (mLst (aCons (mTup (aCons (mC (.str "done")) (aCons (mC .non) (aCons (mTup (aCons (mC (.str "seq")) (aCons (mBin wIx (mVar 0) (mC (.int 1))) (aCons (mVar 1) aNil)))) (aCons (mVar 2) aNil))))) aNil))) (sIf (mTest (mBin (fEq false) (mVar 7) (mC (.str "loop")))) (sAsg (.nm 8) (mLst (aCons (mTup (aCons (mC (.str "done")) (aCons (mC .non) (aCons (mTup (aCons (mC (.str "loop")) (aCons (mBin wIx (mVar 0) (mC (.int 1))) (aCons (mBin wIx (mVar 0) (mC (.int 2))) (aCons (mVar 1) aNil))))) (aCons (mVar 2) aNil))))) aNil))) (sSeq (sAsg (.nm 10) (mCall cLenD (aCons (mVar 3) aNil))) (sSeq (sDPutW (mVar 3) (mVar 10) (mIf (mTest (mBin (fEq false) (mVar 7) (mC (.str "join")))) (mCall cLen (aCons (mBin wIx (mVar 0) (mC (.int 1))) aNil)) (mC (.int 1)))) (sAsg (.nm 8) (mLc (iSeq (mUn wRevT (mBin wIx (mVar 0) (mC (.int 1))))) (.nm 11) (tYesW) (mTup (aCons (mC (.str "begin")) (aCons (mVar 11) (aCons (mTup (aCons (mVar 7) (aCons (mVar 10) (aCons (mVar 1) aNil)))) (aCons (mVar 2) aNil))))) [11])))))))) (sRet (mVar 8))))
def b__law_done (c : Fn → FM) : WS := sSeq (sPar 3 4 (aCons (mBin wIx (mVar 0) (mC (.int 0))) (aCons (mBin wIx (mVar 0) (mUn wNeg (mC (.int 1)))) aNil))) (sSeq (sIf (tAndW (mTest (mBin (wIn false) (mVar 3) (mTup (aCons (mC (.str "seq")) (aCons (mC (.str "loop")) aNil))))) (mTest (mBin wInT (mBin wIx (mVar 0) (mC (.int 1))) (mTup (aCons (mTup aNil) (aCons (mC (.int 0)) aNil)))))) (sRet (mLst (aCons (mTup (aCons (mC (.str "done")) (aCons (mC .non) (aCons (mVar 4) (aCons (mVar 1) aNil))))) aNil))) (sNext)) (sSeq (sIf (mTest (mBin (fEq false) (mVar 3) (mC (.str "seq")))) (sRet (mLst (aCons (mTup (aCons (mC (.str "begin")) (aCons (mBin wIx (mBin wIx (mVar 0) (mC (.int 1))) (mC (.int 0))) (aCons (mTup (aCons (mC (.str "seq")) (aCons (mSlice (mBin wIx (mVar 0) (mC (.int 1))) (oSome (mC (.int 1))) oNone) (aCons (mVar 4) aNil)))) (aCons (mVar 1) aNil))))) aNil))) (sNext)) (sSeq (sIf (mTest (mBin (fEq false) (mVar 3) (mC (.str "loop")))) (sRet (mLst (aCons (mTup (aCons (mC (.str "begin")) (aCons (mBin wIx (mVar 0) (mC (.int 2))) (aCons (mTup (aCons (mC (.str "loop")) (aCons (mBin wSub (mBin wIx (mVar 0) (mC (.int 1))) (mC (.int 1))) (aCons (mBin wIx (mVar 0) (mC (.int 2))) (aCons (mVar 4) aNil))))) (aCons (mVar 1) aNil))))) aNil))) (sNext)) (sSeq (sIf (mTest (mBin (fEq false) (mVar 3) (mC (.str "none")))) (sRet (mLst aNil)) (sNext)) (sSeq (sDPutW (mVar 2) (mBin wIx (mVar 0) (mC (.int 1))) (mBin wSub (mDGet (mVar 2) (mBin wIx (mVar 0) (mC (.int 1)))) (mC (.int 1)))) (sRet (mIf (mTest (mBin (fEq false) (mDGet (mVar 2) (mBin wIx (mVar 0) (mC (.int 1)))) (mC (.int 0)))) (mLst (aCons (mTup (aCons (mC (.str "done")) (aCons (mC .non) (aCons (mVar 4) (aCons (mVar 1) aNil))))) aNil)) (mLst aNil))))))))
def b__law_logged (c : Fn → FM) : WS := sSeq (sAsg (.nm 1) (mLc (iEnumL (aCons (mVar 0) aNil)) (.tp ((.nm 12) :: ((.nm 10) :: []))) (tYesW) (mTup (aCons (mC (.str "begin")) (aCons (mVar 10) (aCons (mTup (aCons (mC (.str "none")) aNil)) (aCons (mVar 12) aNil))))) [12, 10])) (sSeq (sAsg (.tp ((.nm 2) :: ((.nm 3) :: ((.nm 4) :: ((.nm 5) :: []))))) (mTup (aCons (mNewK) (aCons (mLst aNil) (aCons (mLst (aCons (mVar 1) aNil)) (aCons (mC (.int 0)) aNil)))))) (sSeq (sWhileU (mTest (mBin wNeNil (mVar 4) (mLst aNil))) (sSeq (sAsg (.nm 6) (mLst aNil)) (sSeq (sFor (iSeq (mVar 4)) (.nm 7) (sSeq (sAsg (.nm 8) (mUn wRevL (mVar 7))) (sWhileU (mTest (mBin wNeNil (mVar 8) (mLst aNil))) (sSeq (sAsg (.tp ((.nm 9) :: ((.nm 10) :: ((.nm 11) :: ((.nm 12) :: []))))) (mMeth lPop (mVar 8) aNil)) (sIf (mTest (mBin (fEq false) (mVar 9) (mC (.str "begin")))) (sExpr (mMeth lExtend (mVar 8) (aCons (mCall (c ._law_begun) (aCons (mVar 10) (aCons (mVar 11) (aCons (mVar 12) (aCons (mVar 2) (aCons (mVar 3) (aCons (mVar 6) (aCons (mVar 5) aNil)))))))) aNil))) (sExpr (mMeth lExtend (mVar 8) (aCons (mCall (c ._law_done) (aCons (mVar 11) (aCons (mVar 12) (aCons (mVar 2) aNil)))) aNil)))))))) (sPar 4 5 (aCons (mVar 6) (aCons (mBin wAdd (mVar 5) (mC (.int 1))) aNil)))))) (sRet (mVar 3))))
def b__law_marked (c : Fn → FM) : WS := sSeq (sAsg (.nm 2) (mTup (aCons (mC (.str "loop")) (aCons (mVar 1) (aCons (mTup (aCons (mC (.str "seq")) (aCons (mTup (aCons (mTup (aCons (mC (.str "log")) (aCons (mC .non) aNil))) (aCons (mTup (aCons (mC (.str "await")) (aCons (mC (.int 1)) aNil))) aNil))) aNil))) aNil))))) (sSeq (sAsg (.nm 3) (mLc (iRange1 (aCons (mVar 1) aNil)) (.nm 4) (tYesW) (mLst aNil) [4])) (sSeq (sFor (iSeq (mCall (c ._law_logged) (aCons (mLst (aCons (mTup (aCons (mC (.str "seq")) (aCons (mTup (aCons (mVar 0) (aCons (mVar 2) aNil))) aNil))) aNil)) aNil))) (.tp ((.nm 4) :: ((.nm 5) :: ((.nm 6) :: [])))) (sIf (mTest (mBin wLt (mVar 4) (mVar 1))) (sExpr (mMeth lAppend (mBin wIx (mVar 3) (mVar 4)) (aCons (mVar 6) aNil))) (sNext))) (sRet (mLc (iSeq (mVar 3)) (.nm 7) (tYesW) (mCall cTuple (aCons (mVar 7) aNil)) [7]))))
def b__law_span (c : Fn → FM) : WS := sRet (mBin wAdd (mBin wAdd (mC (.int 2)) (mCall (c ._law_end) (aCons (mVar 0) aNil))) (mCall cMax (aCons (mBin wAdd (mLst (aCons (mC (.int 0)) aNil)) (mLc (iSeq (mCall (c ._law_logged) (aCons (mLst (aCons (mVar 0) aNil)) aNil))) (.tp ((.nm 1) :: ((.nm 2) :: ((.nm 3) :: [])))) (tYesW) (mVar 1) [1, 2, 3])) aNil)))
def b__law_seen (c : Fn → FM) : WS := sSeq (sAsg (.nm 2) (mLst aNil)) (sSeq (sWhileU (tAndW (mTest (mBin wLt (mCall cLen (aCons (mVar 2) aNil)) (mC (.int 2000)))) (tOrW (mTest (mBin wEqNil (mVar 2) (mLst aNil))) (mTest (mNotN (mBin wIx (mVar 2) (mUn wNeg (mC (.int 1)))))))) (sExpr (mMeth lAppend (mVar 2) (aCons (mCall (c .test_entry) (aCons (mVar 0) (aCons (mVar 1) (aCons (mCall cLen (aCons (mVar 2) aNil)) aNil)))) aNil)))) (sRet (mSlice (mVar 2) oNone (oSome (mUn wNeg (mC (.int 1)))))))
def b__law_told_back (c : Fn → FM) : WS := sSeq (sAsg (.tp ((.nm 2) :: ((.nm 3) :: ((.nm 4) :: ((.nm 5) :: []))))) (mTup (aCons (mCall (c ._law_seen) (aCons (mVar 0) (aCons (mTup (aCons (mC .non) (aCons (mC .non) aNil))) aNil))) (aCons (mC .non) (aCons (mLst aNil) (aCons (mC (.int 0)) aNil)))))) (sSeq (sFor (iRange1 (aCons (mVar 1) aNil)) (.nm 6) (sSeq (sAsg (.nm 7) (mCall (c ._law_seen) (aCons (mVar 0) (aCons (mTup (aCons (mC (.int 0)) (aCons (mVar 6) aNil))) aNil)))) (sSeq (sIf (tAndW (mTest (mIsN (mVar 3))) (mTest (mBin wLt (mMeth lIndex (mVar 7) (aCons (mC (.int 0)) aNil)) (mMeth lIndex (mVar 7) (aCons (mC (.int 1)) aNil))))) (sAsg (.nm 3) (mVar 6)) (sNext)) (sSeq (sAsg (.nm 8) (mMeth lIndex (mCall (c ._law_seen) (aCons (mVar 0) (aCons (mTup (aCons (mC .non) (aCons (mVar 6) aNil))) aNil))) (aCons (mC (.int 1)) aNil))) (sSeq (sAsg (.nm 9) (mCall cTuple (aCons (mSlice (mVar 2) (oSome (mVar 5)) (oSome (mVar 8))) aNil))) (sSeq (sIf (mTest (mNotN (mVar 3))) (sSeq (sAsg (.nm 10) (mBin wSub (mMeth lIndex (mCall (c ._law_seen) (aCons (mVar 0) (aCons (mTup (aCons (mBin wSub (mVar 6) (mVar 3)) (aCons (mC .non) aNil))) aNil))) (aCons (mC (.int 0)) aNil)) (mVar 5))) (sAsg (.nm 9) (mBin wAdd (mBin wAdd (mSlice (mVar 9) oNone (oSome (mVar 10))) (mTup (aCons (mC .non) aNil))) (mSlice (mVar 9) (oSome (mVar 10)) oNone)))) (sNext)) (sSeq (sExpr (mMeth lAppend (mVar 4) (aCons (mVar 9) aNil))) (sAsg (.nm 5) (mVar 8))))))))) (sRet (mTup (aCons (mVar 3) (aCons (mVar 4) aNil)))))
def b__law_right (c : Fn → FM) : WS := sSeq (sAsg (.nm 1) (mCall cMin (aCons (mC (.int 14)) (aCons (mBin wAdd (mCall (c ._law_span) (aCons (mVar 0) aNil)) (mC (.int 1))) aNil)))) (sSeq (sAsg (.tp ((.nm 2) :: ((.nm 3) :: []))) (mCall (c ._law_told_back) (aCons (mVar 0) (aCons (mVar 1) aNil)))) (sSeq (sIf (mTest (mBin (fEq true) (mVar 2) (mIf (mTest (mBin wLt (mCall (c .finish) (aCons (mVar 0) aNil)) (mVar 1))) (mCall (c .finish) (aCons (mVar 0) aNil)) (mC .non)))) (sRet (mC (.bl false))) (sNext)) (sRet (vAnd (mBin (fEq false) (mVar 3) (mCall (c ._law_marked) (aCons (mVar 0) (aCons (mVar 1) aNil)))) (mBin (fEq false) (mVar 3) (mLc (iRange1 (aCons (mVar 1) aNil)) (.nm 4) (tYesW) (mCall (c .marked) (aCons (mVar 0) (aCons (mVar 4) aNil))) [4]))))))
def b_law (c : Fn → FM) : WS := sSeq (sFor (iRange1 (aCons (mCall cMax (aCons (mC (.int 1)) (aCons (mCall cMin (aCons (mC (.int 3)) (aCons (mCall cLen (aCons (mVar 0) aNil)) aNil))) aNil))) aNil)) (.nm 1) (sSeq (sAsg (.nm 2) (mCall (c ._law_pot) (aCons (mVar 0) (aCons (mVar 1) aNil)))) (sFor (iRange1 (aCons (mC (.int 4)) aNil)) (.nm 3) (sSeq (sAsg (.nm 4) (mCall (c ._law_program) (aCons (mVar 2) (aCons (mBin wAdd (mC (.int 2)) (mCall (c ._law_take) (aCons (mVar 2) (aCons (mC (.int 14)) aNil)))) (aCons (mBin wAdd (mC (.int 2)) (mCall (c ._law_take) (aCons (mVar 2) (aCons (mC (.int 4)) aNil)))) (aCons (mLst (aCons (mC (.int 0)) (aCons (mC (.int 1)) (aCons (mC (.int 2)) aNil)))) aNil)))))) (sIf (tNotW (mTest (mCall (c ._law_right) (aCons (mVar 4) aNil)))) (sRet (mC (.bl false))) (sNext)))))) (sRet (mC (.bl true)))
def step (c : Fn → FM) : Fn → FM
  | .finish => pureF (runB 4 (b_finish c))
  | .sides_of_seq => pureF (runB 6 (b_sides_of_seq c))
  | .sides_of_loop => pureF (runB 10 (b_sides_of_loop c))
  | .sides_beside => pureF (runB 9 (b_sides_beside c))
  | .key_part => pureF (runB 3 (b_key_part c))
  | .sides_of => pureF (runB 4 (b_sides_of c))
  | .marked => pureF (runB 4 (b_marked c))
  | .total => pureF (runB 3 (b_total c))
  | .count_in_loop => pureF (runB 7 (b_count_in_loop c))
  | .count_before => pureF (runB 6 (b_count_before c))
  | .test_count => pureF (runB 6 (b_test_count c))
  | .test_row => runB 8 (b_test_row c)
  | .test_entry => pureF (runB 6 (b_test_entry c))
  | ._law_pot => runB 4 (b__law_pot c)
  | ._law_take => runB 5 (b__law_take c)
  | ._law_of => runB 2 (b__law_of c)
  | ._law_word => runB 1 (b__law_word c)
  | ._law_leaf => runB 1 (b__law_leaf c)
  | ._law_plain => runB 7 (b__law_plain c)
  | ._law_end => pureF (runB 3 (b__law_end c))
  | ._law_body => runB 2 (b__law_body c)
  | ._law_program => runB 8 (b__law_program c)
  | ._law_begun => runB 12 (b__law_begun c)
  | ._law_done => runB 5 (b__law_done c)
  | ._law_logged => runB 13 (b__law_logged c)
  | ._law_marked => runB 8 (b__law_marked c)
  | ._law_span => runB 4 (b__law_span c)
  | ._law_seen => runB 3 (b__law_seen c)
  | ._law_told_back => runB 11 (b__law_told_back c)
  | ._law_right => runB 5 (b__law_right c)
  | .law => runB 5 (b_law c)
def sem : Nat → Fn → FM
  | 0, _ => fun _ _ => none
  | n + 1, f => step (sem n) f
/-! ### the text behind the top -/
structure Txt (K : PySem.W.Frag) (mg : Str → Option Value) where
  a : Fn → Addr
  fd : Fn → FuncData
  fn : ∀ f, Fun K (fnm f) (fnm f) (st f) (a f) (fd f)
  gl : ∀ f, mg (fnm f) = some (.ref (a f))
  bd : ∀ f, Binds K (fd f) (ps f) []
  n_abs : mg "abs" = none
  n_enumerate : mg "enumerate" = none
  n_int : mg "int" = none
  n_len : mg "len" = none
  n_list : mg "list" = none
  n_max : mg "max" = none
  n_min : mg "min" = none
  n_range : mg "range" = none
  n_sum : mg "sum" = none
  n_tuple : mg "tuple" = none
  c_LOG : ∃ u, mg "LOG" = some u ∧ RelV (.str "log") u
  c_AWAIT : ∃ u, mg "AWAIT" = some u ∧ RelV (.str "await") u
  c_SEQ : ∃ u, mg "SEQ" = some u ∧ RelV (.str "seq") u
  c_FORK : ∃ u, mg "FORK" = some u ∧ RelV (.str "fork") u
  c_JOIN : ∃ u, mg "JOIN" = some u ∧ RelV (.str "join") u
  c_RACE : ∃ u, mg "RACE" = some u ∧ RelV (.str "race") u
  c_LOOP : ∃ u, mg "LOOP" = some u ∧ RelV (.str "loop") u
  c_BODY_ROUNDS : ∃ u, mg "BODY_ROUNDS" = some u ∧ RelV (.int 30) u
  c_GAP : ∃ u, mg "GAP" = some u ∧ RelV (.non) u
  c_LAST_BODY_ROUND : ∃ u, mg "LAST_BODY_ROUND" = some u ∧ RelV (.int 30) u
  c_BEHIND_MARK : ∃ u, mg "BEHIND_MARK" = some u ∧ RelV (.int 0) u
  c_BESIDE_MARK : ∃ u, mg "BESIDE_MARK" = some u ∧ RelV (.int 1) u
theorem sc_finish : FnScope nm_finish (ps .finish) (defScope (st .finish)) := ⟨rfl, rfl, rfl, by decide +kernel, rfl, by decide +kernel, by decide +kernel⟩
theorem sc_sides_of_seq : FnScope nm_sides_of_seq (ps .sides_of_seq) (defScope (st .sides_of_seq)) := ⟨rfl, rfl, rfl, by decide +kernel, rfl, by decide +kernel, by decide +kernel⟩
theorem sc_sides_of_loop : FnScope nm_sides_of_loop (ps .sides_of_loop) (defScope (st .sides_of_loop)) := ⟨rfl, rfl, rfl, by decide +kernel, rfl, by decide +kernel, by decide +kernel⟩
theorem sc_sides_beside : FnScope nm_sides_beside (ps .sides_beside) (defScope (st .sides_beside)) := ⟨rfl, rfl, rfl, by decide +kernel, rfl, by decide +kernel, by decide +kernel⟩
theorem sc_key_part : FnScope nm_key_part (ps .key_part) (defScope (st .key_part)) := ⟨rfl, rfl, rfl, by decide +kernel, rfl, by decide +kernel, by decide +kernel⟩
theorem sc_sides_of : FnScope nm_sides_of (ps .sides_of) (defScope (st .sides_of)) := ⟨rfl, rfl, rfl, by decide +kernel, rfl, by decide +kernel, by decide +kernel⟩
theorem sc_marked : FnScope nm_marked (ps .marked) (defScope (st .marked)) := ⟨rfl, rfl, rfl, by decide +kernel, rfl, by decide +kernel, by decide +kernel⟩
theorem sc_total : FnScope nm_total (ps .total) (defScope (st .total)) := ⟨rfl, rfl, rfl, by decide +kernel, rfl, by decide +kernel, by decide +kernel⟩
theorem sc_count_in_loop : FnScope nm_count_in_loop (ps .count_in_loop) (defScope (st .count_in_loop)) := ⟨rfl, rfl, rfl, by decide +kernel, rfl, by decide +kernel, by decide +kernel⟩
theorem sc_count_before : FnScope nm_count_before (ps .count_before) (defScope (st .count_before)) := ⟨rfl, rfl, rfl, by decide +kernel, rfl, by decide +kernel, by decide +kernel⟩
theorem sc_test_count : FnScope nm_test_count (ps .test_count) (defScope (st .test_count)) := ⟨rfl, rfl, rfl, by decide +kernel, rfl, by decide +kernel, by decide +kernel⟩
theorem sc_test_row : FnScope nm_test_row (ps .test_row) (defScope (st .test_row)) := ⟨rfl, rfl, rfl, by decide +kernel, rfl, by decide +kernel, by decide +kernel⟩
theorem sc_test_entry : FnScope nm_test_entry (ps .test_entry) (defScope (st .test_entry)) := ⟨rfl, rfl, rfl, by decide +kernel, rfl, by decide +kernel, by decide +kernel⟩
theorem sc__law_pot : FnScope nm__law_pot (ps ._law_pot) (defScope (st ._law_pot)) := ⟨rfl, rfl, rfl, by decide +kernel, rfl, by decide +kernel, by decide +kernel⟩
theorem sc__law_take : FnScope nm__law_take (ps ._law_take) (defScope (st ._law_take)) := ⟨rfl, rfl, rfl, by decide +kernel, rfl, by decide +kernel, by decide +kernel⟩
theorem sc__law_of : FnScope nm__law_of (ps ._law_of) (defScope (st ._law_of)) := ⟨rfl, rfl, rfl, by decide +kernel, rfl, by decide +kernel, by decide +kernel⟩
theorem sc__law_word : FnScope nm__law_word (ps ._law_word) (defScope (st ._law_word)) := ⟨rfl, rfl, rfl, by decide +kernel, rfl, by decide +kernel, by decide +kernel⟩
theorem sc__law_leaf : FnScope nm__law_leaf (ps ._law_leaf) (defScope (st ._law_leaf)) := ⟨rfl, rfl, rfl, by decide +kernel, rfl, by decide +kernel, by decide +kernel⟩
theorem sc__law_plain : FnScope nm__law_plain (ps ._law_plain) (defScope (st ._law_plain)) := ⟨rfl, rfl, rfl, by decide +kernel, rfl, by decide +kernel, by decide +kernel⟩
theorem sc__law_end : FnScope nm__law_end (ps ._law_end) (defScope (st ._law_end)) := ⟨rfl, rfl, rfl, by decide +kernel, rfl, by decide +kernel, by decide +kernel⟩
theorem sc__law_body : FnScope nm__law_body (ps ._law_body) (defScope (st ._law_body)) := ⟨rfl, rfl, rfl, by decide +kernel, rfl, by decide +kernel, by decide +kernel⟩
theorem sc__law_program : FnScope nm__law_program (ps ._law_program) (defScope (st ._law_program)) := ⟨rfl, rfl, rfl, by decide +kernel, rfl, by decide +kernel, by decide +kernel⟩
theorem sc__law_begun : FnScope nm__law_begun (ps ._law_begun) (defScope (st ._law_begun)) := ⟨rfl, rfl, rfl, by decide +kernel, rfl, by decide +kernel, by decide +kernel⟩
theorem sc__law_done : FnScope nm__law_done (ps ._law_done) (defScope (st ._law_done)) := ⟨rfl, rfl, rfl, by decide +kernel, rfl, by decide +kernel, by decide +kernel⟩
theorem sc__law_logged : FnScope nm__law_logged (ps ._law_logged) (defScope (st ._law_logged)) := ⟨rfl, rfl, rfl, by decide +kernel, rfl, by decide +kernel, by decide +kernel⟩
theorem sc__law_marked : FnScope nm__law_marked (ps ._law_marked) (defScope (st ._law_marked)) := ⟨rfl, rfl, rfl, by decide +kernel, rfl, by decide +kernel, by decide +kernel⟩
theorem sc__law_span : FnScope nm__law_span (ps ._law_span) (defScope (st ._law_span)) := ⟨rfl, rfl, rfl, by decide +kernel, rfl, by decide +kernel, by decide +kernel⟩
theorem sc__law_seen : FnScope nm__law_seen (ps ._law_seen) (defScope (st ._law_seen)) := ⟨rfl, rfl, rfl, by decide +kernel, rfl, by decide +kernel, by decide +kernel⟩
theorem sc__law_told_back : FnScope nm__law_told_back (ps ._law_told_back) (defScope (st ._law_told_back)) := ⟨rfl, rfl, rfl, by decide +kernel, rfl, by decide +kernel, by decide +kernel⟩
theorem sc__law_right : FnScope nm__law_right (ps ._law_right) (defScope (st ._law_right)) := ⟨rfl, rfl, rfl, by decide +kernel, rfl, by decide +kernel, by decide +kernel⟩
theorem sc_law : FnScope nm_law (ps .law) (defScope (st .law)) := ⟨rfl, rfl, rfl, by decide +kernel, rfl, by decide +kernel, by decide +kernel⟩
section
variable {P : Program} {w : World} {K : PySem.W.Frag} {mg : Str → Option Value} {base : Heap} {k : Nat} {c : Fn → FM}
theorem d_finish (T : Txt K mg) (hc : ∀ f, FnW P w K mg base k (T.a f) (T.fd f) (ps f) (c f)) : FnW P w K mg base (k + 1) (T.a .finish) (T.fd .finish) (ps .finish) (runB 4 (b_finish c)) :=
  fn_ok (N := nm_finish) (T.fn .finish) sc_finish fun cdv A outer s H E hr =>
    qss_cons (qs_set (i := 1) sc_finish.nd (q_ix ix_seq Bin.ix (q_var 0) (q_int) (fun _ _ => rfl))) (qss_cons (qs_if (qt_cmp op_in_seq (Bin.isIn false) (q_var 1) (q_tup (qa_cons (q_globX (by rfl) T.c_LOG rfl) (qa_cons (q_globX (by rfl) T.c_FORK rfl) qa_nil))) (by rfl)) (qss_one (qs_ret (q_int))) (qss_nil)) (qss_cons (qs_if (qt_cmp (op_eqD hr.units) Bin.eqD (q_var 1) (q_globX (by rfl) T.c_AWAIT rfl) (nomark _)) (qss_one (qs_ret (q_ix ix_seq Bin.ix (q_var 0) (q_int) (fun _ _ => rfl)))) (qss_nil)) (qss_cons (qs_if (qt_cmp (op_eqD hr.units) Bin.eqD (q_var 1) (q_globX (by rfl) T.c_LOOP rfl) (nomark _)) (qss_one (qs_ret (q_bin op_mulWW Bin.mul (q_ix ix_seq Bin.ix (q_var 0) (q_int) (fun _ _ => rfl)) (q_call (hc .finish) hr (by rfl) (T.gl .finish) (T.fn .finish).kp (T.bd .finish) (qa_cons (q_ix ix_seq Bin.ix (q_var 0) (q_int) (fun _ _ => rfl)) qa_nil) rfl (aCons_len aNil_len))))) (qss_nil)) (qss_cons (qs_setLc (i := 2) (own := [("part", 3)]) rfl sc_finish.nd rfl rfl (sw_true rfl rfl rfl (by decide +kernel)) (qi_seq (q_ix ix_seq Bin.ix (q_var 0) (q_int) (fun _ _ => rfl))) (blkOk_by (N := nm_finish) (sc := defScope (st .finish)) (by decide +kernel)) (fun _ _ _ _ _ => (qg_name (i := 3) sc_finish.nd)) (fun _ _ _ _ _ => qts_nil) (fun _ _ _ _ _ => q_call (hc .finish) hr (by rfl) (T.gl .finish) (T.fn .finish).kp (T.bd .finish) (qa_cons (q_var 3) qa_nil) rfl (aCons_len aNil_len))) (qss_cons (qs_if (qt_cmp (op_eqD hr.units) Bin.eqD (q_var 1) (q_globX (by rfl) T.c_SEQ rfl) (nomark _)) (qss_one (qs_ret (q_callB (cr_sum rfl) k_sum (by rfl) T.n_sum bt_sum (qa_cons (q_var 2) qa_nil)))) (qss_nil)) (qss_one (qs_ret (q_if (qt_cmp (op_eqD hr.units) Bin.eqD (q_var 1) (q_globX (by rfl) T.c_JOIN rfl) (nomark _)) (q_callB (cr_maxW rfl) k_max (by rfl) T.n_max bt_max (qa_cons (q_var 2) qa_nil)) (q_callB (cr_minW rfl) k_min (by rfl) T.n_min bt_min (qa_cons (q_var 2) qa_nil))))))))))
theorem d_sides_of_seq (T : Txt K mg) (hc : ∀ f, FnW P w K mg base k (T.a f) (T.fd f) (ps f) (c f)) : FnW P w K mg base (k + 1) (T.a .sides_of_seq) (T.fd .sides_of_seq) (ps .sides_of_seq) (runB 6 (b_sides_of_seq c)) :=
  fn_ok (N := nm_sides_of_seq) (T.fn .sides_of_seq) sc_sides_of_seq fun cdv A outer s H E hr =>
    qss_cons (qs_asg (q_tup (qa_cons (q_tup qa_nil) (qa_cons (q_tup qa_nil) qa_nil))) (qg_tup rfl (qgs_cons (qg_name (i := 2) sc_sides_of_seq.nd) (qgs_cons (qg_name (i := 3) sc_sides_of_seq.nd) qgs_nil)))) (qss_cons (qs_for PassesOwn.never rfl (qi_seq (q_var 0)) (qg_name (i := 4) sc_sides_of_seq.nd) (qss_cons (qs_if (qt_cmp op_lt (Bin.cmp _) (q_var 1) (q_int) (nomark _)) (qss_one (qs_break)) (qss_nil)) (qss_cons (qs_set (i := 5) sc_sides_of_seq.nd (q_call (hc .sides_of) hr (by rfl) (T.gl .sides_of) (T.fn .sides_of).kp (T.bd .sides_of) (qa_cons (q_var 4) (qa_cons (q_var 1) qa_nil)) rfl (aCons_len (aCons_len aNil_len)))) (qss_cons (qs_par (i := 2) (j := 3) rfl sc_sides_of_seq.nd (qa_cons (q_bin op_addW Bin.add (q_var 2) (q_ix ix_seq Bin.ix (q_var 5) (q_int) (fun _ _ => rfl))) (qa_cons (q_bin op_addW Bin.add (q_ix ix_seq Bin.ix (q_var 5) (q_int) (fun _ _ => rfl)) (q_var 3)) qa_nil))) (qss_one (qs_aug (i := 1) iop_sub Bin.sub sc_sides_of_seq.nd (q_call (hc .finish) hr (by rfl) (T.gl .finish) (T.fn .finish).kp (T.bd .finish) (qa_cons (q_var 4) qa_nil) rfl (aCons_len aNil_len)))))))) (qss_one (qs_ret (q_if (qt_cmp op_ge (Bin.cmp _) (q_var 1) (q_int) (nomark _)) (q_tup (qa_cons (q_var 2) (qa_cons (q_var 3) qa_nil))) (q_tup (qa_cons (q_bin op_addW Bin.add (q_var 2) (q_var 3)) (qa_cons (q_tup qa_nil) qa_nil)))))))
theorem d_sides_of_loop (T : Txt K mg) (hc : ∀ f, FnW P w K mg base k (T.a f) (T.fd f) (ps f) (c f)) : FnW P w K mg base (k + 1) (T.a .sides_of_loop) (T.fd .sides_of_loop) (ps .sides_of_loop) (runB 10 (b_sides_of_loop c)) :=
  fn_ok (N := nm_sides_of_loop) (T.fn .sides_of_loop) sc_sides_of_loop fun cdv A outer s H E hr =>
    qss_cons (qs_set (i := 3) sc_sides_of_loop.nd (q_call (hc .finish) hr (by rfl) (T.gl .finish) (T.fn .finish).kp (T.bd .finish) (qa_cons (q_var 1) qa_nil) rfl (aCons_len aNil_len))) (qss_cons (qs_par (i := 4) (j := 5) rfl sc_sides_of_loop.nd (qa_cons (q_callB (cr_maxW rfl) k_max (by rfl) T.n_max bt_max (qa_cons (q_int) (qa_cons (q_bin op_fdivW Bin.fdiv (q_bin op_sub Bin.sub (q_var 2) (q_globX (by rfl) T.c_BODY_ROUNDS rfl)) (q_var 3)) qa_nil))) (qa_cons (q_callB (cr_minW rfl) k_min (by rfl) T.n_min bt_min (qa_cons (q_var 0) (qa_cons (q_bin op_addW Bin.add (q_bin op_fdivW Bin.fdiv (q_var 2) (q_var 3)) (q_int)) qa_nil))) qa_nil))) (qss_cons (qs_asg (q_tup (qa_cons (q_tup qa_nil) (qa_cons (q_tup qa_nil) qa_nil))) (qg_tup rfl (qgs_cons (qg_name (i := 6) sc_sides_of_loop.nd) (qgs_cons (qg_name (i := 7) sc_sides_of_loop.nd) qgs_nil)))) (qss_cons (qs_for PassesOwn.never rfl (qi_range2 (by rfl) T.n_range (qa_cons (q_var 4) (qa_cons (q_var 5) qa_nil))) (qg_name (i := 8) sc_sides_of_loop.nd) (qss_cons (qs_set (i := 9) sc_sides_of_loop.nd (q_call (hc .sides_of) hr (by rfl) (T.gl .sides_of) (T.fn .sides_of).kp (T.bd .sides_of) (qa_cons (q_var 1) (qa_cons (q_bin op_sub Bin.sub (q_var 2) (q_bin op_mulWW Bin.mul (q_var 8) (q_var 3))) qa_nil)) rfl (aCons_len (aCons_len aNil_len)))) (qss_one (qs_par (i := 6) (j := 7) rfl sc_sides_of_loop.nd (qa_cons (q_bin op_addW Bin.add (q_var 6) (q_ix ix_seq Bin.ix (q_var 9) (q_int) (fun _ _ => rfl))) (qa_cons (q_bin op_addW Bin.add (q_ix ix_seq Bin.ix (q_var 9) (q_int) (fun _ _ => rfl)) (q_var 7)) qa_nil)))))) (qss_one (qs_ret (q_if (qt_cmp op_ge (Bin.cmp _) (q_var 2) (q_bin op_mulWW Bin.mul (q_var 0) (q_var 3)) (nomark _)) (q_tup (qa_cons (q_var 6) (qa_cons (q_var 7) qa_nil))) (q_tup (qa_cons (q_bin op_addW Bin.add (q_var 6) (q_var 7)) (qa_cons (q_tup qa_nil) qa_nil)))))))))
theorem d_sides_beside (T : Txt K mg) (hc : ∀ f, FnW P w K mg base k (T.a f) (T.fd f) (ps f) (c f)) : FnW P w K mg base (k + 1) (T.a .sides_beside) (T.fd .sides_beside) (ps .sides_beside) (runB 9 (b_sides_beside c)) :=
  fn_ok (N := nm_sides_beside) (T.fn .sides_beside) sc_sides_beside fun cdv A outer s H E hr =>
    qss_cons (qs_setLc (i := 3) (own := [("part", 8)]) rfl sc_sides_beside.nd rfl rfl (sw_true rfl rfl rfl (by decide +kernel)) (qi_seq (q_var 0)) (blkOk_by (N := nm_sides_beside) (sc := defScope (st .sides_beside)) (by decide +kernel)) (fun _ _ _ _ _ => (qg_name (i := 8) sc_sides_beside.nd)) (fun _ _ _ _ _ => qts_nil) (fun _ _ _ _ _ => q_call (hc .sides_of) hr (by rfl) (T.gl .sides_of) (T.fn .sides_of).kp (T.bd .sides_of) (qa_cons (q_var 8) (qa_cons (q_var 1) qa_nil)) rfl (aCons_len (aCons_len aNil_len)))) (qss_cons (qs_asg (q_tup (qa_cons (q_tup qa_nil) (qa_cons (q_tup qa_nil) qa_nil))) (qg_tup rfl (qgs_cons (qg_name (i := 4) sc_sides_beside.nd) (qgs_cons (qg_name (i := 5) sc_sides_beside.nd) qgs_nil)))) (qss_cons (qs_for PassesOwn.never rfl (qi_enumL (by rfl) T.n_enumerate (qa_cons (q_var 3) qa_nil)) (qg_tup rfl (qgs_cons (qg_name (i := 6) sc_sides_beside.nd) (qgs_cons (qg_name (i := 7) sc_sides_beside.nd) qgs_nil))) (qss_one (qs_if (qt_cmp op_lt (Bin.cmp _) (q_var 6) (q_var 2) (nomark _)) (qss_one (qs_aug (i := 4) iop_addW Bin.iadd sc_sides_beside.nd (q_bin op_addW Bin.add (q_ix ix_seq Bin.ix (q_var 7) (q_int) (fun _ _ => rfl)) (q_ix ix_seq Bin.ix (q_var 7) (q_int) (fun _ _ => rfl))))) (qss_one (qs_if (qt_cmp (op_eqD hr.units) Bin.eqD (q_var 6) (q_var 2) (nomark _)) (qss_one (qs_par (i := 4) (j := 5) rfl sc_sides_beside.nd (qa_cons (q_bin op_addW Bin.add (q_var 4) (q_ix ix_seq Bin.ix (q_var 7) (q_int) (fun _ _ => rfl))) (qa_cons (q_ix ix_seq Bin.ix (q_var 7) (q_int) (fun _ _ => rfl)) qa_nil)))) (qss_one (qs_aug (i := 5) iop_addW Bin.iadd sc_sides_beside.nd (q_bin op_addW Bin.add (q_ix ix_seq Bin.ix (q_var 7) (q_int) (fun _ _ => rfl)) (q_ix ix_seq Bin.ix (q_var 7) (q_int) (fun _ _ => rfl)))))))))) (qss_one (qs_ret (q_if (qt_cmp op_ge (Bin.cmp _) (q_var 1) (q_call (hc .finish) hr (by rfl) (T.gl .finish) (T.fn .finish).kp (T.bd .finish) (qa_cons (q_ix ix_seq Bin.ix (q_var 0) (q_var 2) (fun _ _ => rfl)) qa_nil) rfl (aCons_len aNil_len)) (nomark _)) (q_tup (qa_cons (q_var 4) (qa_cons (q_var 5) qa_nil))) (q_tup (qa_cons (q_bin op_addW Bin.add (q_var 4) (q_var 5)) (qa_cons (q_tup qa_nil) qa_nil))))))))
theorem d_key_part (T : Txt K mg) (hc : ∀ f, FnW P w K mg base k (T.a f) (T.fd f) (ps f) (c f)) : FnW P w K mg base (k + 1) (T.a .key_part) (T.fd .key_part) (ps .key_part) (runB 3 (b_key_part c)) :=
  fn_ok (N := nm_key_part) (T.fn .key_part) sc_key_part fun cdv A outer s H E hr =>
    qss_cons (qs_setLc (i := 1) (own := [("part", 2)]) rfl sc_key_part.nd rfl rfl (sw_true rfl rfl rfl (by decide +kernel)) (qi_seq (q_ix ix_seq Bin.ix (q_var 0) (q_int) (fun _ _ => rfl))) (blkOk_by (N := nm_key_part) (sc := defScope (st .key_part)) (by decide +kernel)) (fun _ _ _ _ _ => (qg_name (i := 2) sc_key_part.nd)) (fun _ _ _ _ _ => qts_nil) (fun _ _ _ _ _ => q_call (hc .finish) hr (by rfl) (T.gl .finish) (T.fn .finish).kp (T.bd .finish) (qa_cons (q_var 2) qa_nil) rfl (aCons_len aNil_len))) (qss_cons (qs_if (qt_cmp (op_eqD hr.units) Bin.eqD (q_ix ix_seq Bin.ix (q_var 0) (q_int) (fun _ _ => rfl)) (q_globX (by rfl) T.c_RACE rfl) (nomark _)) (qss_one (qs_ret (q_meth PySem.F.slot_list_index PySem.F.type_list_index mt_index k_index (q_var 1) (qa_cons (q_callB (cr_minW rfl) k_min (by rfl) T.n_min bt_min (qa_cons (q_var 1) qa_nil)) qa_nil)))) (qss_nil)) (qss_one (qs_ret (q_bin op_sub Bin.sub (q_bin op_sub Bin.sub (q_callB cr_lenW k_len (by rfl) T.n_len bt_len (qa_cons (q_var 1) qa_nil)) (q_int)) (q_meth PySem.F.slot_list_index PySem.F.type_list_index mt_index k_index (q_revL (q_var 1)) (qa_cons (q_callB (cr_maxW rfl) k_max (by rfl) T.n_max bt_max (qa_cons (q_var 1) qa_nil)) qa_nil))))))
theorem d_sides_of (T : Txt K mg) (hc : ∀ f, FnW P w K mg base k (T.a f) (T.fd f) (ps f) (c f)) : FnW P w K mg base (k + 1) (T.a .sides_of) (T.fd .sides_of) (ps .sides_of) (runB 4 (b_sides_of c)) :=
  fn_ok (N := nm_sides_of) (T.fn .sides_of) sc_sides_of fun cdv A outer s H E hr =>
    qss_cons (qs_set (i := 2) sc_sides_of.nd (q_ix ix_seq Bin.ix (q_var 0) (q_int) (fun _ _ => rfl))) (qss_cons (qs_if (qt_cmp (op_eqD hr.units) Bin.eqD (q_var 2) (q_globX (by rfl) T.c_LOG rfl) (nomark _)) (qss_one (qs_ret (q_if (qt_cmp (op_eqD hr.units) Bin.eqD (q_var 1) (q_int) (nomark _)) (q_tup (qa_cons (q_tup (qa_cons (q_ix ix_seq Bin.ix (q_var 0) (q_int) (fun _ _ => rfl)) qa_nil)) (qa_cons (q_tup qa_nil) qa_nil))) (q_tup (qa_cons (q_tup qa_nil) (qa_cons (q_tup qa_nil) qa_nil)))))) (qss_nil)) (qss_cons (qs_if (qt_cmp (op_eqD hr.units) Bin.eqD (q_var 2) (q_globX (by rfl) T.c_AWAIT rfl) (nomark _)) (qss_one (qs_ret (q_tup (qa_cons (q_tup qa_nil) (qa_cons (q_tup qa_nil) qa_nil))))) (qss_nil)) (qss_cons (qs_if (qt_cmp (op_eqD hr.units) Bin.eqD (q_var 2) (q_globX (by rfl) T.c_FORK rfl) (nomark _)) (qss_cons (qs_set (i := 3) sc_sides_of.nd (q_call (hc .sides_of) hr (by rfl) (T.gl .sides_of) (T.fn .sides_of).kp (T.bd .sides_of) (qa_cons (q_ix ix_seq Bin.ix (q_var 0) (q_int) (fun _ _ => rfl)) (qa_cons (q_var 1) qa_nil)) rfl (aCons_len (aCons_len aNil_len)))) (qss_one (qs_ret (q_tup (qa_cons (q_bin op_addW Bin.add (q_ix ix_seq Bin.ix (q_var 3) (q_int) (fun _ _ => rfl)) (q_ix ix_seq Bin.ix (q_var 3) (q_int) (fun _ _ => rfl))) (qa_cons (q_tup qa_nil) qa_nil)))))) (qss_nil)) (qss_cons (qs_if (qt_cmp (op_eqD hr.units) Bin.eqD (q_var 2) (q_globX (by rfl) T.c_SEQ rfl) (nomark _)) (qss_one (qs_ret (q_call (hc .sides_of_seq) hr (by rfl) (T.gl .sides_of_seq) (T.fn .sides_of_seq).kp (T.bd .sides_of_seq) (qa_cons (q_ix ix_seq Bin.ix (q_var 0) (q_int) (fun _ _ => rfl)) (qa_cons (q_var 1) qa_nil)) rfl (aCons_len (aCons_len aNil_len))))) (qss_nil)) (qss_cons (qs_if (qt_cmp (op_eqD hr.units) Bin.eqD (q_var 2) (q_globX (by rfl) T.c_LOOP rfl) (nomark _)) (qss_one (qs_ret (q_call (hc .sides_of_loop) hr (by rfl) (T.gl .sides_of_loop) (T.fn .sides_of_loop).kp (T.bd .sides_of_loop) (qa_cons (q_ix ix_seq Bin.ix (q_var 0) (q_int) (fun _ _ => rfl)) (qa_cons (q_ix ix_seq Bin.ix (q_var 0) (q_int) (fun _ _ => rfl)) (qa_cons (q_var 1) qa_nil))) rfl (aCons_len (aCons_len (aCons_len aNil_len)))))) (qss_nil)) (qss_one (qs_ret (q_call (hc .sides_beside) hr (by rfl) (T.gl .sides_beside) (T.fn .sides_beside).kp (T.bd .sides_beside) (qa_cons (q_ix ix_seq Bin.ix (q_var 0) (q_int) (fun _ _ => rfl)) (qa_cons (q_var 1) (qa_cons (q_call (hc .key_part) hr (by rfl) (T.gl .key_part) (T.fn .key_part).kp (T.bd .key_part) (qa_cons (q_var 0) qa_nil) rfl (aCons_len aNil_len)) qa_nil))) rfl (aCons_len (aCons_len (aCons_len aNil_len)))))))))))
theorem d_marked (T : Txt K mg) (hc : ∀ f, FnW P w K mg base k (T.a f) (T.fd f) (ps f) (c f)) : FnW P w K mg base (k + 1) (T.a .marked) (T.fd .marked) (ps .marked) (runB 4 (b_marked c)) :=
  fn_ok (N := nm_marked) (T.fn .marked) sc_marked fun cdv A outer s H E hr =>
    qss_cons (qs_asg (q_call (hc .sides_of) hr (by rfl) (T.gl .sides_of) (T.fn .sides_of).kp (T.bd .sides_of) (qa_cons (q_var 0) (qa_cons (q_var 1) qa_nil)) rfl (aCons_len (aCons_len aNil_len))) (qg_tup rfl (qgs_cons (qg_name (i := 2) sc_marked.nd) (qgs_cons (qg_name (i := 3) sc_marked.nd) qgs_nil)))) (qss_one (qs_ret (q_if (qt_cmp op_ge (Bin.cmp _) (q_var 1) (q_call (hc .finish) hr (by rfl) (T.gl .finish) (T.fn .finish).kp (T.bd .finish) (qa_cons (q_var 0) qa_nil) rfl (aCons_len aNil_len)) (nomark _)) (q_bin op_addW Bin.add (q_bin op_addW Bin.add (q_var 2) (q_tup (qa_cons (q_globX (by rfl) T.c_GAP rfl) qa_nil))) (q_var 3)) (q_var 2))))
theorem d_total (T : Txt K mg) (hc : ∀ f, FnW P w K mg base k (T.a f) (T.fd f) (ps f) (c f)) : FnW P w K mg base (k + 1) (T.a .total) (T.fd .total) (ps .total) (runB 3 (b_total c)) :=
  fn_ok (N := nm_total) (T.fn .total) sc_total fun cdv A outer s H E hr =>
    qss_cons (qs_set (i := 1) sc_total.nd (q_ix ix_seq Bin.ix (q_var 0) (q_int) (fun _ _ => rfl))) (qss_cons (qs_if (qt_cmp op_in_seq (Bin.isIn false) (q_var 1) (q_tup (qa_cons (q_str) (qa_cons (q_str) qa_nil))) (by rfl)) (qss_one (qs_ret (q_callTy call_int1 k_int (by rfl) T.n_int bt_int (qa_cons (q_cmp (op_eqD hr.units) Bin.eqD (q_var 1) (q_str) (nomark _)) qa_nil)))) (qss_nil)) (qss_cons (qs_if (qt_cmp (op_eqD hr.units) Bin.eqD (q_var 1) (q_str) (nomark _)) (qss_one (qs_ret (q_call (hc .total) hr (by rfl) (T.gl .total) (T.fn .total).kp (T.bd .total) (qa_cons (q_ix ix_seq Bin.ix (q_var 0) (q_int) (fun _ _ => rfl)) qa_nil) rfl (aCons_len aNil_len)))) (qss_nil)) (qss_cons (qs_if (qt_cmp (op_eqD hr.units) Bin.eqD (q_var 1) (q_str) (nomark _)) (qss_one (qs_ret (q_bin op_mulWW Bin.mul (q_ix ix_seq Bin.ix (q_var 0) (q_int) (fun _ _ => rfl)) (q_call (hc .total) hr (by rfl) (T.gl .total) (T.fn .total).kp (T.bd .total) (qa_cons (q_ix ix_seq Bin.ix (q_var 0) (q_int) (fun _ _ => rfl)) qa_nil) rfl (aCons_len aNil_len))))) (qss_nil)) (qss_one (qs_ret (q_callB (cr_sum rfl) k_sum (by rfl) T.n_sum bt_sum (qa_cons (q_lc (own := [("part", 2)]) rfl sc_total.nd (qi_seq (q_ix ix_seq Bin.ix (q_var 0) (q_int) (fun _ _ => rfl))) (blkOk_by (N := nm_total) (sc := defScope (st .total)) (by decide +kernel)) (fun _ _ _ _ _ => (qg_name (i := 2) sc_total.nd)) (fun _ _ _ _ _ => qts_nil) (fun _ _ _ _ _ => q_call (hc .total) hr (by rfl) (T.gl .total) (T.fn .total).kp (T.bd .total) (qa_cons (q_var 2) qa_nil) rfl (aCons_len aNil_len))) qa_nil)))))))
theorem d_count_in_loop (T : Txt K mg) (hc : ∀ f, FnW P w K mg base k (T.a f) (T.fd f) (ps f) (c f)) : FnW P w K mg base (k + 1) (T.a .count_in_loop) (T.fd .count_in_loop) (ps .count_in_loop) (runB 7 (b_count_in_loop c)) :=
  fn_ok (N := nm_count_in_loop) (T.fn .count_in_loop) sc_count_in_loop fun cdv A outer s H E hr =>
    qss_cons (qs_set (i := 3) sc_count_in_loop.nd (q_call (hc .finish) hr (by rfl) (T.gl .finish) (T.fn .finish).kp (T.bd .finish) (qa_cons (q_var 1) qa_nil) rfl (aCons_len aNil_len))) (qss_cons (qs_set (i := 4) sc_count_in_loop.nd (q_callB (cr_minW rfl) k_min (by rfl) T.n_min bt_min (qa_cons (q_var 0) (qa_cons (q_callB (cr_maxW rfl) k_max (by rfl) T.n_max bt_max (qa_cons (q_int) (qa_cons (q_bin op_addW Bin.add (q_bin op_fdivW Bin.fdiv (q_bin op_sub Bin.sub (q_bin op_sub Bin.sub (q_var 2) (q_int)) (q_globX (by rfl) T.c_LAST_BODY_ROUND rfl)) (q_var 3)) (q_int)) qa_nil))) qa_nil)))) (qss_cons (qs_set (i := 5) sc_count_in_loop.nd (q_callB (cr_minW rfl) k_min (by rfl) T.n_min bt_min (qa_cons (q_var 0) (qa_cons (q_bin op_addW Bin.add (q_bin op_fdivW Bin.fdiv (q_bin op_sub Bin.sub (q_var 2) (q_int)) (q_var 3)) (q_int)) qa_nil)))) (qss_one (qs_ret (q_bin op_addW Bin.add (q_bin op_mulWW Bin.mul (q_var 4) (q_call (hc .total) hr (by rfl) (T.gl .total) (T.fn .total).kp (T.bd .total) (qa_cons (q_var 1) qa_nil) rfl (aCons_len aNil_len))) (q_callB (cr_sum rfl) k_sum (by rfl) T.n_sum bt_sum (qa_cons (q_lc (own := [("turn", 6)]) rfl sc_count_in_loop.nd (qi_range2 (by rfl) T.n_range (qa_cons (q_var 4) (qa_cons (q_var 5) qa_nil))) (blkOk_by (N := nm_count_in_loop) (sc := defScope (st .count_in_loop)) (by decide +kernel)) (fun _ _ _ _ _ => (qg_name (i := 6) sc_count_in_loop.nd)) (fun _ _ _ _ _ => qts_nil) (fun _ _ _ _ _ => q_call (hc .count_before) hr (by rfl) (T.gl .count_before) (T.fn .count_before).kp (T.bd .count_before) (qa_cons (q_var 1) (qa_cons (q_bin op_sub Bin.sub (q_var 2) (q_bin op_mulWW Bin.mul (q_var 6) (q_var 3))) qa_nil)) rfl (aCons_len (aCons_len aNil_len)))) qa_nil)))))))
theorem d_count_before (T : Txt K mg) (hc : ∀ f, FnW P w K mg base k (T.a f) (T.fd f) (ps f) (c f)) : FnW P w K mg base (k + 1) (T.a .count_before) (T.fd .count_before) (ps .count_before) (runB 6 (b_count_before c)) :=
  fn_ok (N := nm_count_before) (T.fn .count_before) sc_count_before fun cdv A outer s H E hr =>
    qss_cons (qs_set (i := 2) sc_count_before.nd (q_ix ix_seq Bin.ix (q_var 0) (q_int) (fun _ _ => rfl))) (qss_cons (qs_if (qt_w (qw_or (qt_cmp op_le (Bin.cmp _) (q_var 1) (q_int) (nomark _)) (qw_or1 (qt_cmp (op_eqD hr.units) Bin.eqD (q_var 2) (q_str) (nomark _))))) (qss_one (qs_ret (q_int))) (qss_nil)) (qss_cons (qs_if (qt_cmp (op_eqD hr.units) Bin.eqD (q_var 2) (q_str) (nomark _)) (qss_one (qs_ret (q_int))) (qss_nil)) (qss_cons (qs_if (qt_cmp (op_eqD hr.units) Bin.eqD (q_var 2) (q_str) (nomark _)) (qss_one (qs_ret (q_call (hc .count_before) hr (by rfl) (T.gl .count_before) (T.fn .count_before).kp (T.bd .count_before) (qa_cons (q_ix ix_seq Bin.ix (q_var 0) (q_int) (fun _ _ => rfl)) (qa_cons (q_var 1) qa_nil)) rfl (aCons_len (aCons_len aNil_len))))) (qss_nil)) (qss_cons (qs_if (qt_cmp (op_eqD hr.units) Bin.eqD (q_var 2) (q_str) (nomark _)) (qss_one (qs_ret (q_call (hc .count_in_loop) hr (by rfl) (T.gl .count_in_loop) (T.fn .count_in_loop).kp (T.bd .count_in_loop) (qa_cons (q_ix ix_seq Bin.ix (q_var 0) (q_int) (fun _ _ => rfl)) (qa_cons (q_ix ix_seq Bin.ix (q_var 0) (q_int) (fun _ _ => rfl)) (qa_cons (q_var 1) qa_nil))) rfl (aCons_len (aCons_len (aCons_len aNil_len)))))) (qss_nil)) (qss_cons (qs_asg (q_tup (qa_cons (q_int) (qa_cons (q_int) qa_nil))) (qg_tup rfl (qgs_cons (qg_name (i := 3) sc_count_before.nd) (qgs_cons (qg_name (i := 4) sc_count_before.nd) qgs_nil)))) (qss_cons (qs_for PassesOwn.never rfl (qi_seq (q_ix ix_seq Bin.ix (q_var 0) (q_int) (fun _ _ => rfl))) (qg_name (i := 5) sc_count_before.nd) (qss_cons (qs_aug (i := 3) iop_addW Bin.iadd sc_count_before.nd (q_call (hc .count_before) hr (by rfl) (T.gl .count_before) (T.fn .count_before).kp (T.bd .count_before) (qa_cons (q_var 5) (qa_cons (q_bin op_sub Bin.sub (q_var 1) (q_var 4)) qa_nil)) rfl (aCons_len (aCons_len aNil_len)))) (qss_one (qs_aug (i := 4) iop_addW Bin.iadd sc_count_before.nd (q_if (qt_cmp (op_eqD hr.units) Bin.eqD (q_var 2) (q_str) (nomark _)) (q_call (hc .finish) hr (by rfl) (T.gl .finish) (T.fn .finish).kp (T.bd .finish) (qa_cons (q_var 5) qa_nil) rfl (aCons_len aNil_len)) (q_int)))))) (qss_one (qs_ret (q_var 3)))))))))
theorem d_test_count (T : Txt K mg) (hc : ∀ f, FnW P w K mg base k (T.a f) (T.fd f) (ps f) (c f)) : FnW P w K mg base (k + 1) (T.a .test_count) (T.fd .test_count) (ps .test_count) (runB 6 (b_test_count c)) :=
  fn_ok (N := nm_test_count) (T.fn .test_count) sc_test_count fun cdv A outer s H E hr =>
    qss_cons (qs_asg (q_var 1) (qg_tup rfl (qgs_cons (qg_name (i := 3) sc_test_count.nd) (qgs_cons (qg_name (i := 4) sc_test_count.nd) qgs_nil)))) (qss_cons (qs_set (i := 5) sc_test_count.nd (q_if (qt_isN (q_var 2)) (q_call (hc .total) hr (by rfl) (T.gl .total) (T.fn .total).kp (T.bd .total) (qa_cons (q_var 0) qa_nil) rfl (aCons_len aNil_len)) (q_call (hc .count_before) hr (by rfl) (T.gl .count_before) (T.fn .count_before).kp (T.bd .count_before) (qa_cons (q_var 0) (qa_cons (q_var 2) qa_nil)) rfl (aCons_len (aCons_len aNil_len))))) (qss_cons (qs_if (qt_w (qw_and (qt_notN (q_var 3)) (qw_and1 (qt_w (qw_or (qt_isN (q_var 2)) (qw_or1 (qt_cmp op_lt (Bin.cmp _) (q_bin op_addW Bin.add (q_call (hc .finish) hr (by rfl) (T.gl .finish) (T.fn .finish).kp (T.bd .finish) (qa_cons (q_var 0) qa_nil) rfl (aCons_len aNil_len)) (q_var 3)) (q_var 2) (nomark _)))))))) (qss_one (qs_aug (i := 5) iop_addW Bin.iadd sc_test_count.nd (q_int))) (qss_nil)) (qss_one (qs_ret (q_bin op_addW Bin.add (q_var 5) (q_callTy call_int1 k_int (by rfl) T.n_int bt_int (qa_cons (q_and (q_notN (q_var 4)) (q_one (q_or (q_isN (q_var 2)) (q_one (q_cmp op_lt (Bin.cmp _) (q_var 4) (q_var 2) (nomark _)))))) qa_nil)))))))
theorem d_test_row (T : Txt K mg) (hc : ∀ f, FnW P w K mg base k (T.a f) (T.fd f) (ps f) (c f)) : FnW P w K mg base (k + 1) (T.a .test_row) (T.fd .test_row) (ps .test_row) (runB 8 (b_test_row c)) :=
  fn_ok (N := nm_test_row) (T.fn .test_row) sc_test_row fun cdv A outer s H E hr =>
    qss_cons (qs_asg (q_var 1) (qg_tup rfl (qgs_cons (qg_name (i := 3) sc_test_row.nd) (qgs_cons (qg_name (i := 4) sc_test_row.nd) qgs_nil)))) (qss_cons (qs_set (i := 5) sc_test_row.nd (q_callTy call_list_of k_list (by rfl) T.n_list bt_list (qa_cons (q_call (hc .marked) hr (by rfl) (T.gl .marked) (T.fn .marked).kp (T.bd .marked) (qa_cons (q_var 0) (qa_cons (q_var 2) qa_nil)) rfl (aCons_len (aCons_len aNil_len))) qa_nil))) (qss_cons (qs_if (qt_cmp op_in_seq (Bin.isIn false) (q_non) (q_var 5) (by rfl)) (qss_cons (qs_set (i := 6) sc_test_row.nd (q_meth PySem.F.slot_list_index PySem.F.type_list_index mt_index k_index (q_var 5) (qa_cons (q_non) qa_nil))) (qss_cons (qs_set (i := 7) sc_test_row.nd (q_and (q_notN (q_var 3)) (q_one (q_cmp (op_eqD hr.units) Bin.eqD (q_bin op_addW Bin.add (q_call (hc .finish) hr (by rfl) (T.gl .finish) (T.fn .finish).kp (T.bd .finish) (qa_cons (q_var 0) qa_nil) rfl (aCons_len aNil_len)) (q_var 3)) (q_var 2) (nomark _))))) (qss_one (qs_set (i := 5) sc_test_row.nd (q_bin op_addW Bin.add (q_bin op_addW Bin.add (q_slice (q_var 5) qo_none (qo_some (q_var 6))) (q_if (qt_val (q_var 7)) (q_lst (qa_cons (q_globX (by rfl) T.c_BEHIND_MARK rfl) qa_nil)) (q_lst qa_nil))) (q_slice (q_var 5) (qo_some (q_bin op_addW Bin.add (q_var 6) (q_int))) qo_none)))))) (qss_nil)) (qss_one (qs_ret (q_bin op_addW Bin.add (q_var 5) (q_if (qt_cmp (op_eqD hr.units) Bin.eqD (q_var 4) (q_var 2) (nomark _)) (q_lst (qa_cons (q_globX (by rfl) T.c_BESIDE_MARK rfl) qa_nil)) (q_lst qa_nil)))))))
theorem d_test_entry (T : Txt K mg) (hc : ∀ f, FnW P w K mg base k (T.a f) (T.fd f) (ps f) (c f)) : FnW P w K mg base (k + 1) (T.a .test_entry) (T.fd .test_entry) (ps .test_entry) (runB 6 (b_test_entry c)) :=
  fn_ok (N := nm_test_entry) (T.fn .test_entry) sc_test_entry fun cdv A outer s H E hr =>
    qss_cons (qs_if (qt_cmp op_ge (Bin.cmp _) (q_var 2) (q_call (hc .test_count) hr (by rfl) (T.gl .test_count) (T.fn .test_count).kp (T.bd .test_count) (qa_cons (q_var 0) (qa_cons (q_var 1) (qa_cons (q_non) qa_nil))) rfl (aCons_len (aCons_len (aCons_len aNil_len)))) (nomark _)) (qss_one (qs_ret (q_non))) (qss_nil)) (qss_cons (qs_asg (q_tup (qa_cons (q_int) (qa_cons (q_int) qa_nil))) (qg_tup rfl (qgs_cons (qg_name (i := 3) sc_test_entry.nd) (qgs_cons (qg_name (i := 4) sc_test_entry.nd) qgs_nil)))) (qss_cons (qs_whileU fun n => qs_while n PassesOwn.never (qt_cmp op_le (Bin.cmp _) (q_call (hc .test_count) hr (by rfl) (T.gl .test_count) (T.fn .test_count).kp (T.bd .test_count) (qa_cons (q_var 0) (qa_cons (q_var 1) (qa_cons (q_var 4) qa_nil))) rfl (aCons_len (aCons_len (aCons_len aNil_len)))) (q_var 2) (nomark _)) (qss_one (qs_par (i := 3) (j := 4) rfl sc_test_entry.nd (qa_cons (q_var 4) (qa_cons (q_bin op_mulWW Bin.mul (q_var 4) (q_int)) qa_nil))))) (qss_cons (qs_whileU fun n => qs_while n PassesOwn.never (qt_cmp op_gt (Bin.cmp _) (q_bin op_sub Bin.sub (q_var 4) (q_var 3)) (q_int) (nomark _)) (qss_cons (qs_set (i := 5) sc_test_entry.nd (q_bin op_fdivW Bin.fdiv (q_bin op_addW Bin.add (q_var 3) (q_var 4)) (q_int))) (qss_one (qs_if (qt_cmp op_le (Bin.cmp _) (q_call (hc .test_count) hr (by rfl) (T.gl .test_count) (T.fn .test_count).kp (T.bd .test_count) (qa_cons (q_var 0) (qa_cons (q_var 1) (qa_cons (q_var 5) qa_nil))) rfl (aCons_len (aCons_len (aCons_len aNil_len)))) (q_var 2) (nomark _)) (qss_one (qs_set (i := 3) sc_test_entry.nd (q_var 5))) (qss_one (qs_set (i := 4) sc_test_entry.nd (q_var 5))))))) (qss_one (qs_ret (q_ix ix_seq Bin.ix (q_call (hc .test_row) hr (by rfl) (T.gl .test_row) (T.fn .test_row).kp (T.bd .test_row) (qa_cons (q_var 0) (qa_cons (q_var 1) (qa_cons (q_var 3) qa_nil))) rfl (aCons_len (aCons_len (aCons_len aNil_len)))) (q_bin op_sub Bin.sub (q_var 2) (q_call (hc .test_count) hr (by rfl) (T.gl .test_count) (T.fn .test_count).kp (T.bd .test_count) (qa_cons (q_var 0) (qa_cons (q_var 1) (qa_cons (q_var 3) qa_nil))) rfl (aCons_len (aCons_len (aCons_len aNil_len))))) (fun _ _ => rfl)))))))
theorem d__law_pot (T : Txt K mg) (hc : ∀ f, FnW P w K mg base k (T.a f) (T.fd f) (ps f) (c f)) : FnW P w K mg base (k + 1) (T.a ._law_pot) (T.fd ._law_pot) (ps ._law_pot) (runB 4 (b__law_pot c)) :=
  fn_ok (N := nm__law_pot) (T.fn ._law_pot) sc__law_pot fun cdv A outer s H E hr =>
    qss_cons (qs_set (i := 2) sc__law_pot.nd (q_if (qt_cmp op_lt (Bin.cmp _) (q_var 1) (q_callB cr_lenW k_len (by rfl) T.n_len bt_len (qa_cons (q_var 0) qa_nil)) (nomark _)) (q_ix ix_seq Bin.ix (q_var 0) (q_var 1) (fun _ _ => rfl)) (q_bin op_addW Bin.add (q_bin op_mulWW Bin.mul (q_int) (q_var 1)) (q_int)))) (qss_cons (qs_set (i := 3) sc__law_pot.nd (q_bin op_mulWW Bin.mul (q_bin op_mod Bin.mod (q_callB call_abs k_abs (by rfl) T.n_abs bt_abs (qa_cons (q_var 2) qa_nil)) (q_bin op_powW Bin.pow (q_bin op_powW Bin.pow (q_int) (q_int)) (q_int))) (q_callTy call_int1 k_int (by rfl) T.n_int bt_int (qa_cons (q_cmp op_ge (Bin.cmp _) (q_callB call_abs k_abs (by rfl) T.n_abs bt_abs (qa_cons (q_var 2) qa_nil)) (q_bin op_powW Bin.pow (q_int) (q_int)) (nomark _)) qa_nil)))) (qss_one (qs_ret (q_lst (qa_cons (q_var 3) (qa_cons (q_bin op_mod Bin.mod (q_bin op_addW Bin.add (q_bin op_addW Bin.add (q_bin op_mulWW Bin.mul (q_bin op_mod Bin.mod (q_var 2) (q_int)) (q_int)) (q_bin op_mulWW Bin.mul (q_bin op_mulWW Bin.mul (q_int) (q_var 1)) (q_var 1))) (q_int)) (q_int)) (qa_cons (q_int) qa_nil)))))))
theorem d__law_take (T : Txt K mg) (hc : ∀ f, FnW P w K mg base k (T.a f) (T.fd f) (ps f) (c f)) : FnW P w K mg base (k + 1) (T.a ._law_take) (T.fd ._law_take) (ps ._law_take) (runB 5 (b__law_take c)) :=
  fn_ok (N := nm__law_take) (T.fn ._law_take) sc__law_take fun cdv A outer s H E hr =>
    qss_cons (qs_if (qt_cmp op_gt (Bin.cmp _) (q_ix ix_seq Bin.ix (q_var 0) (q_int) (fun _ _ => rfl)) (q_int) (nomark _)) (qss_cons (qs_set (i := 2) sc__law_take.nd (q_bin op_mod Bin.mod (q_ix ix_seq Bin.ix (q_var 0) (q_int) (fun _ _ => rfl)) (q_var 1))) (qss_cons (qs_setIx (q_bin op_fdivW Bin.fdiv (q_ix ix_seq Bin.ix (q_var 0) (q_int) (fun _ _ => rfl)) (q_var 1)) (q_var 0) (q_int)) (qss_one (qs_ret (q_var 2))))) (qss_nil)) (qss_cons (qs_setIx (q_bin op_addW Bin.add (q_ix ix_seq Bin.ix (q_var 0) (q_int) (fun _ _ => rfl)) (q_int)) (q_var 0) (q_int)) (qss_cons (qs_set (i := 3) sc__law_take.nd (q_ix ix_seq Bin.ix (q_lst (qa_cons (q_int) (qa_cons (q_int) (qa_cons (q_int) (qa_cons (q_int) (qa_cons (q_int) qa_nil)))))) (q_bin op_mod Bin.mod (q_ix ix_seq Bin.ix (q_var 0) (q_int) (fun _ _ => rfl)) (q_int)) (fun _ _ => rfl))) (qss_cons (qs_set (i := 4) sc__law_take.nd (q_bin op_mod Bin.mod (q_bin op_powW Bin.pow (q_bin op_addW Bin.add (q_bin op_addW Bin.add (q_ix ix_seq Bin.ix (q_var 0) (q_int) (fun _ _ => rfl)) (q_bin op_mulWW Bin.mul (q_bin op_mulWW Bin.mul (q_int) (q_ix ix_seq Bin.ix (q_var 0) (q_int) (fun _ _ => rfl))) (q_ix ix_seq Bin.ix (q_var 0) (q_int) (fun _ _ => rfl)))) (q_int)) (q_int)) (q_var 3))) (qss_one (qs_ret (q_bin op_mod Bin.mod (q_bin op_fdivW Bin.fdiv (q_bin op_mod Bin.mod (q_bin op_mulWW Bin.mul (q_var 4) (q_bin op_addW Bin.add (q_bin op_mod Bin.mod (q_var 4) (q_int)) (q_bin op_mulWW Bin.mul (q_int) (q_ix ix_seq Bin.ix (q_var 0) (q_int) (fun _ _ => rfl))))) (q_int)) (q_int)) (q_var 1)))))))
theorem d__law_of (T : Txt K mg) (hc : ∀ f, FnW P w K mg base k (T.a f) (T.fd f) (ps f) (c f)) : FnW P w K mg base (k + 1) (T.a ._law_of) (T.fd ._law_of) (ps ._law_of) (runB 2 (b__law_of c)) :=
  fn_ok (N := nm__law_of) (T.fn ._law_of) sc__law_of fun cdv A outer s H E hr =>
    qss_one (qs_ret (q_ix ix_seq Bin.ix (q_var 1) (q_call (hc ._law_take) hr (by rfl) (T.gl ._law_take) (T.fn ._law_take).kp (T.bd ._law_take) (qa_cons (q_var 0) (qa_cons (q_callB cr_lenW k_len (by rfl) T.n_len bt_len (qa_cons (q_var 1) qa_nil)) qa_nil)) rfl (aCons_len (aCons_len aNil_len))) (fun _ _ => rfl)))
theorem d__law_word (T : Txt K mg) (hc : ∀ f, FnW P w K mg base k (T.a f) (T.fd f) (ps f) (c f)) : FnW P w K mg base (k + 1) (T.a ._law_word) (T.fd ._law_word) (ps ._law_word) (runB 1 (b__law_word c)) :=
  fn_ok (N := nm__law_word) (T.fn ._law_word) sc__law_word fun cdv A outer s H E hr =>
    qss_one (qs_ret (q_call (hc ._law_of) hr (by rfl) (T.gl ._law_of) (T.fn ._law_of).kp (T.bd ._law_of) (qa_cons (q_var 0) (qa_cons (q_lst (qa_cons (q_str) (qa_cons (q_str) (qa_cons (q_str) (qa_cons (q_str) (qa_cons (q_str) (qa_cons (q_str) (qa_cons (q_str) (qa_cons (q_str) qa_nil))))))))) qa_nil)) rfl (aCons_len (aCons_len aNil_len))))
theorem d__law_leaf (T : Txt K mg) (hc : ∀ f, FnW P w K mg base k (T.a f) (T.fd f) (ps f) (c f)) : FnW P w K mg base (k + 1) (T.a ._law_leaf) (T.fd ._law_leaf) (ps ._law_leaf) (runB 1 (b__law_leaf c)) :=
  fn_ok (N := nm__law_leaf) (T.fn ._law_leaf) sc__law_leaf fun cdv A outer s H E hr =>
    qss_cons (qs_if (qt_cmp op_lt (Bin.cmp _) (q_call (hc ._law_take) hr (by rfl) (T.gl ._law_take) (T.fn ._law_take).kp (T.bd ._law_take) (qa_cons (q_var 0) (qa_cons (q_int) qa_nil)) rfl (aCons_len (aCons_len aNil_len))) (q_int) (nomark _)) (qss_one (qs_ret (q_tup (qa_cons (q_str) (qa_cons (q_call (hc ._law_word) hr (by rfl) (T.gl ._law_word) (T.fn ._law_word).kp (T.bd ._law_word) (qa_cons (q_var 0) qa_nil) rfl (aCons_len aNil_len)) qa_nil))))) (qss_nil)) (qss_one (qs_ret (q_tup (qa_cons (q_str) (qa_cons (q_bin op_addW Bin.add (q_int) (q_call (hc ._law_take) hr (by rfl) (T.gl ._law_take) (T.fn ._law_take).kp (T.bd ._law_take) (qa_cons (q_var 0) (qa_cons (q_int) qa_nil)) rfl (aCons_len (aCons_len aNil_len)))) qa_nil)))))
theorem d__law_plain (T : Txt K mg) (hc : ∀ f, FnW P w K mg base k (T.a f) (T.fd f) (ps f) (c f)) : FnW P w K mg base (k + 1) (T.a ._law_plain) (T.fd ._law_plain) (ps ._law_plain) (runB 7 (b__law_plain c)) :=
  fn_ok (N := nm__law_plain) (T.fn ._law_plain) sc__law_plain fun cdv A outer s H E hr =>
    qss_cons (qs_set (i := 3) sc__law_plain.nd (q_call (hc ._law_take) hr (by rfl) (T.gl ._law_take) (T.fn ._law_take).kp (T.bd ._law_take) (qa_cons (q_var 0) (qa_cons (q_int) qa_nil)) rfl (aCons_len (aCons_len aNil_len)))) (qss_cons (qs_if (qt_w (qw_or (qt_cmp op_lt (Bin.cmp _) (q_var 3) (q_int) (nomark _)) (qw_or (qt_cmp op_lt (Bin.cmp _) (q_var 1) (q_int) (nomark _)) (qw_or1 (qt_cmp op_lt (Bin.cmp _) (q_var 2) (q_int) (nomark _)))))) (qss_one (qs_ret (q_call (hc ._law_leaf) hr (by rfl) (T.gl ._law_leaf) (T.fn ._law_leaf).kp (T.bd ._law_leaf) (qa_cons (q_var 0) qa_nil) rfl (aCons_len aNil_len)))) (qss_nil)) (qss_cons (qs_if (qt_cmp (op_eqD hr.units) Bin.eqD (q_var 3) (q_int) (nomark _)) (qss_one (qs_ret (q_tup (qa_cons (q_str) (qa_cons (q_call (hc ._law_plain) hr (by rfl) (T.gl ._law_plain) (T.fn ._law_plain).kp (T.bd ._law_plain) (qa_cons (q_var 0) (qa_cons (q_bin op_sub Bin.sub (q_var 1) (q_int)) (qa_cons (q_bin op_sub Bin.sub (q_var 2) (q_int)) qa_nil))) rfl (aCons_len (aCons_len (aCons_len aNil_len)))) qa_nil))))) (qss_nil)) (qss_cons (qs_set (i := 4) sc__law_plain.nd (q_callB (cr_minW rfl) k_min (by rfl) T.n_min bt_min (qa_cons (q_bin op_sub Bin.sub (q_var 1) (q_int)) (qa_cons (q_if (qt_cmp op_lt (Bin.cmp _) (q_var 3) (q_int) (nomark _)) (q_bin op_addW Bin.add (q_int) (q_call (hc ._law_take) hr (by rfl) (T.gl ._law_take) (T.fn ._law_take).kp (T.bd ._law_take) (qa_cons (q_var 0) (qa_cons (q_int) qa_nil)) rfl (aCons_len (aCons_len aNil_len)))) (q_call (hc ._law_take) hr (by rfl) (T.gl ._law_take) (T.fn ._law_take).kp (T.bd ._law_take) (qa_cons (q_var 0) (qa_cons (q_int) qa_nil)) rfl (aCons_len (aCons_len aNil_len)))) qa_nil)))) (qss_cons (qs_set (i := 5) sc__law_plain.nd (q_callTy call_tuple_of k_tuple (by rfl) T.n_tuple bt_tuple (qa_cons (q_lc (own := [("part", 6)]) rfl sc__law_plain.nd (qi_range1 (by rfl) T.n_range (qa_cons (q_var 4) qa_nil)) (blkOk_by (N := nm__law_plain) (sc := defScope (st ._law_plain)) (by decide +kernel)) (fun _ _ _ _ _ => (qg_name (i := 6) sc__law_plain.nd)) (fun _ _ _ _ _ => qts_nil) (fun _ _ _ _ _ => q_call (hc ._law_plain) hr (by rfl) (T.gl ._law_plain) (T.fn ._law_plain).kp (T.bd ._law_plain) (qa_cons (q_var 0) (qa_cons (q_bin op_fdivW Bin.fdiv (q_bin op_sub Bin.sub (q_var 1) (q_int)) (q_callB (cr_maxW rfl) k_max (by rfl) T.n_max bt_max (qa_cons (q_int) (qa_cons (q_var 4) qa_nil)))) (qa_cons (q_bin op_sub Bin.sub (q_var 2) (q_int)) qa_nil))) rfl (aCons_len (aCons_len (aCons_len aNil_len))))) qa_nil))) (qss_one (qs_ret (q_tup (qa_cons (q_ix ix_seq Bin.ix (q_lst (qa_cons (q_str) (qa_cons (q_str) (qa_cons (q_str) (qa_cons (q_str) (qa_cons (q_str) (qa_cons (q_str) qa_nil))))))) (q_bin op_sub Bin.sub (q_var 3) (q_int)) (fun _ _ => rfl)) (qa_cons (q_var 5) qa_nil)))))))))
theorem d__law_end (T : Txt K mg) (hc : ∀ f, FnW P w K mg base k (T.a f) (T.fd f) (ps f) (c f)) : FnW P w K mg base (k + 1) (T.a ._law_end) (T.fd ._law_end) (ps ._law_end) (runB 3 (b__law_end c)) :=
  fn_ok (N := nm__law_end) (T.fn ._law_end) sc__law_end fun cdv A outer s H E hr =>
    qss_cons (qs_if (qt_cmp op_in_seq (Bin.isIn false) (q_ix ix_seq Bin.ix (q_var 0) (q_int) (fun _ _ => rfl)) (q_tup (qa_cons (q_str) (qa_cons (q_str) qa_nil))) (by rfl)) (qss_one (qs_ret (q_int))) (qss_nil)) (qss_cons (qs_if (qt_cmp (op_eqD hr.units) Bin.eqD (q_ix ix_seq Bin.ix (q_var 0) (q_int) (fun _ _ => rfl)) (q_str) (nomark _)) (qss_one (qs_ret (q_ix ix_seq Bin.ix (q_var 0) (q_int) (fun _ _ => rfl)))) (qss_nil)) (qss_cons (qs_if (qt_cmp (op_eqD hr.units) Bin.eqD (q_ix ix_seq Bin.ix (q_var 0) (q_int) (fun _ _ => rfl)) (q_str) (nomark _)) (qss_one (qs_ret (q_bin op_mulWW Bin.mul (q_ix ix_seq Bin.ix (q_var 0) (q_int) (fun _ _ => rfl)) (q_call (hc ._law_end) hr (by rfl) (T.gl ._law_end) (T.fn ._law_end).kp (T.bd ._law_end) (qa_cons (q_ix ix_seq Bin.ix (q_var 0) (q_int) (fun _ _ => rfl)) qa_nil) rfl (aCons_len aNil_len))))) (qss_nil)) (qss_cons (qs_setLc (i := 1) (own := [("part", 2)]) rfl sc__law_end.nd rfl rfl (sw_true rfl rfl rfl (by decide +kernel)) (qi_seq (q_ix ix_seq Bin.ix (q_var 0) (q_int) (fun _ _ => rfl))) (blkOk_by (N := nm__law_end) (sc := defScope (st ._law_end)) (by decide +kernel)) (fun _ _ _ _ _ => (qg_name (i := 2) sc__law_end.nd)) (fun _ _ _ _ _ => qts_nil) (fun _ _ _ _ _ => q_call (hc ._law_end) hr (by rfl) (T.gl ._law_end) (T.fn ._law_end).kp (T.bd ._law_end) (qa_cons (q_var 2) qa_nil) rfl (aCons_len aNil_len))) (qss_one (qs_ret (q_dget (hu_of hr) (q_disp (qps_cons (q_str) (q_callB (cr_sum rfl) k_sum (by rfl) T.n_sum bt_sum (qa_cons (q_var 1) qa_nil)) (qps_cons (q_str) (q_callB (cr_maxW rfl) k_max (by rfl) T.n_max bt_max (qa_cons (q_bin op_addW Bin.add (q_var 1) (q_lst (qa_cons (q_int) qa_nil))) qa_nil)) (qps_cons (q_str) (q_callB (cr_minW rfl) k_min (by rfl) T.n_min bt_min (qa_cons (q_bin op_addW Bin.add (q_var 1) (q_lst (qa_cons (q_bin op_powW Bin.pow (q_int) (q_int)) qa_nil))) qa_nil)) qps_nil)))) (q_ix ix_seq Bin.ix (q_var 0) (q_int) (fun _ _ => rfl)) (fun _ _ => rfl)))))))
theorem d__law_body (T : Txt K mg) (hc : ∀ f, FnW P w K mg base k (T.a f) (T.fd f) (ps f) (c f)) : FnW P w K mg base (k + 1) (T.a ._law_body) (T.fd ._law_body) (ps ._law_body) (runB 2 (b__law_body c)) :=
  fn_ok (N := nm__law_body) (T.fn ._law_body) sc__law_body fun cdv A outer s H E hr =>
    qss_cons (qs_set (i := 1) sc__law_body.nd (q_call (hc ._law_plain) hr (by rfl) (T.gl ._law_plain) (T.fn ._law_plain).kp (T.bd ._law_plain) (qa_cons (q_var 0) (qa_cons (q_int) (qa_cons (q_int) qa_nil))) rfl (aCons_len (aCons_len (aCons_len aNil_len))))) (qss_cons (qs_if (qt_cmp (op_eqD hr.units) Bin.eqD (q_call (hc ._law_end) hr (by rfl) (T.gl ._law_end) (T.fn ._law_end).kp (T.bd ._law_end) (qa_cons (q_var 1) qa_nil) rfl (aCons_len aNil_len)) (q_int) (nomark _)) (qss_one (qs_ret (q_tup (qa_cons (q_str) (qa_cons (q_tup (qa_cons (q_var 1) (qa_cons (q_tup (qa_cons (q_str) (qa_cons (q_bin op_addW Bin.add (q_int) (q_call (hc ._law_take) hr (by rfl) (T.gl ._law_take) (T.fn ._law_take).kp (T.bd ._law_take) (qa_cons (q_var 0) (qa_cons (q_int) qa_nil)) rfl (aCons_len (aCons_len aNil_len)))) qa_nil))) qa_nil))) qa_nil))))) (qss_nil)) (qss_one (qs_ret (q_if (qt_cmp op_lt (Bin.cmp _) (q_call (hc ._law_end) hr (by rfl) (T.gl ._law_end) (T.fn ._law_end).kp (T.bd ._law_end) (qa_cons (q_var 1) qa_nil) rfl (aCons_len aNil_len)) (q_int) (nomark _)) (q_var 1) (q_tup (qa_cons (q_str) (qa_cons (q_tup (qa_cons (q_tup (qa_cons (q_str) (qa_cons (q_str) qa_nil))) (qa_cons (q_tup (qa_cons (q_str) (qa_cons (q_int) qa_nil))) qa_nil))) qa_nil)))))))
theorem d__law_program (T : Txt K mg) (hc : ∀ f, FnW P w K mg base k (T.a f) (T.fd f) (ps f) (c f)) : FnW P w K mg base (k + 1) (T.a ._law_program) (T.fd ._law_program) (ps ._law_program) (runB 8 (b__law_program c)) :=
  fn_ok (N := nm__law_program) (T.fn ._law_program) sc__law_program fun cdv A outer s H E hr =>
    qss_cons (qs_set (i := 4) sc__law_program.nd (q_call (hc ._law_take) hr (by rfl) (T.gl ._law_take) (T.fn ._law_take).kp (T.bd ._law_take) (qa_cons (q_var 0) (qa_cons (q_int) qa_nil)) rfl (aCons_len (aCons_len aNil_len)))) (qss_cons (qs_if (qt_w (qw_and (qt_cmp (op_eqD hr.units) Bin.eqD (q_var 4) (q_int) (nomark _)) (qw_and (qt_cmp (op_neNil (hu1_of hr)) Bin.neNil (q_var 3) (q_lst qa_nil) (nomark _)) (qw_and1 (qt_cmp op_gt (Bin.cmp _) (q_var 1) (q_int) (nomark _)))))) (qss_one (qs_ret (q_tup (qa_cons (q_str) (qa_cons (q_call (hc ._law_of) hr (by rfl) (T.gl ._law_of) (T.fn ._law_of).kp (T.bd ._law_of) (qa_cons (q_var 0) (qa_cons (q_var 3) qa_nil)) rfl (aCons_len (aCons_len aNil_len))) (qa_cons (q_call (hc ._law_body) hr (by rfl) (T.gl ._law_body) (T.fn ._law_body).kp (T.bd ._law_body) (qa_cons (q_var 0) qa_nil) rfl (aCons_len aNil_len)) qa_nil)))))) (qss_nil)) (qss_cons (qs_if (qt_w (qw_or (qt_cmp op_lt (Bin.cmp _) (q_var 4) (q_int) (nomark _)) (qw_or (qt_cmp op_lt (Bin.cmp _) (q_var 1) (q_int) (nomark _)) (qw_or1 (qt_cmp op_lt (Bin.cmp _) (q_var 2) (q_int) (nomark _)))))) (qss_one (qs_ret (q_call (hc ._law_leaf) hr (by rfl) (T.gl ._law_leaf) (T.fn ._law_leaf).kp (T.bd ._law_leaf) (qa_cons (q_var 0) qa_nil) rfl (aCons_len aNil_len)))) (qss_nil)) (qss_cons (qs_if (qt_cmp (op_eqD hr.units) Bin.eqD (q_var 4) (q_int) (nomark _)) (qss_one (qs_ret (q_tup (qa_cons (q_str) (qa_cons (q_call (hc ._law_program) hr (by rfl) (T.gl ._law_program) (T.fn ._law_program).kp (T.bd ._law_program) (qa_cons (q_var 0) (qa_cons (q_bin op_sub Bin.sub (q_var 1) (q_int)) (qa_cons (q_bin op_sub Bin.sub (q_var 2) (q_int)) (qa_cons (q_var 3) qa_nil)))) rfl (aCons_len (aCons_len (aCons_len (aCons_len aNil_len))))) qa_nil))))) (qss_nil)) (qss_cons (qs_set (i := 5) sc__law_program.nd (q_callB (cr_minW rfl) k_min (by rfl) T.n_min bt_min (qa_cons (q_bin op_sub Bin.sub (q_var 1) (q_int)) (qa_cons (q_if (qt_cmp op_lt (Bin.cmp _) (q_var 4) (q_int) (nomark _)) (q_bin op_addW Bin.add (q_int) (q_call (hc ._law_take) hr (by rfl) (T.gl ._law_take) (T.fn ._law_take).kp (T.bd ._law_take) (qa_cons (q_var 0) (qa_cons (q_int) qa_nil)) rfl (aCons_len (aCons_len aNil_len)))) (q_call (hc ._law_take) hr (by rfl) (T.gl ._law_take) (T.fn ._law_take).kp (T.bd ._law_take) (qa_cons (q_var 0) (qa_cons (q_int) qa_nil)) rfl (aCons_len (aCons_len aNil_len)))) qa_nil)))) (qss_cons (qs_set (i := 6) sc__law_program.nd (q_callTy call_tuple_of k_tuple (by rfl) T.n_tuple bt_tuple (qa_cons (q_lc (own := [("part", 7)]) rfl sc__law_program.nd (qi_range1 (by rfl) T.n_range (qa_cons (q_var 5) qa_nil)) (blkOk_by (N := nm__law_program) (sc := defScope (st ._law_program)) (by decide +kernel)) (fun _ _ _ _ _ => (qg_name (i := 7) sc__law_program.nd)) (fun _ _ _ _ _ => qts_nil) (fun _ _ _ _ _ => q_call (hc ._law_program) hr (by rfl) (T.gl ._law_program) (T.fn ._law_program).kp (T.bd ._law_program) (qa_cons (q_var 0) (qa_cons (q_bin op_fdivW Bin.fdiv (q_bin op_sub Bin.sub (q_var 1) (q_int)) (q_callB (cr_maxW rfl) k_max (by rfl) T.n_max bt_max (qa_cons (q_int) (qa_cons (q_var 5) qa_nil)))) (qa_cons (q_bin op_sub Bin.sub (q_var 2) (q_int)) (qa_cons (q_var 3) qa_nil)))) rfl (aCons_len (aCons_len (aCons_len (aCons_len aNil_len)))))) qa_nil))) (qss_one (qs_ret (q_tup (qa_cons (q_ix ix_seq Bin.ix (q_lst (qa_cons (q_str) (qa_cons (q_str) (qa_cons (q_str) (qa_cons (q_str) (qa_cons (q_str) (qa_cons (q_str) (qa_cons (q_str) qa_nil)))))))) (q_bin op_sub Bin.sub (q_var 4) (q_int)) (fun _ _ => rfl)) (qa_cons (q_var 6) qa_nil))))))))))
theorem d__law_begun (T : Txt K mg) (hc : ∀ f, FnW P w K mg base k (T.a f) (T.fd f) (ps f) (c f)) : FnW P w K mg base (k + 1) (T.a ._law_begun) (T.fd ._law_begun) (ps ._law_begun) (runB 12 (b__law_begun c)) :=
  fn_ok (N := nm__law_begun) (T.fn ._law_begun) sc__law_begun fun cdv A outer s H E hr =>
    qss_cons (qs_asg (q_tup (qa_cons (q_ix ix_seq Bin.ix (q_var 0) (q_int) (fun _ _ => rfl)) (qa_cons (q_lst qa_nil) qa_nil))) (qg_tup rfl (qgs_cons (qg_name (i := 7) sc__law_begun.nd) (qgs_cons (qg_name (i := 8) sc__law_begun.nd) qgs_nil)))) (qss_cons (qs_if (qt_cmp (op_eqD hr.units) Bin.eqD (q_var 7) (q_str) (nomark _)) (qss_cons (qs_expr (q_meth PySem.F.slot_list_append PySem.F.type_list_append mt_append k_append (q_var 4) (qa_cons (q_tup (qa_cons (q_var 6) (qa_cons (q_var 2) (qa_cons (q_ix ix_seq Bin.ix (q_var 0) (q_int) (fun _ _ => rfl)) qa_nil)))) qa_nil))) (qss_one (qs_ret (q_lst (qa_cons (q_tup (qa_cons (q_str) (qa_cons (q_non) (qa_cons (q_var 1) (qa_cons (q_var 2) qa_nil))))) qa_nil))))) (qss_nil)) (qss_cons (qs_if (qt_cmp (op_eqD hr.units) Bin.eqD (q_var 7) (q_str) (nomark _)) (qss_cons (qs_set (i := 9) sc__law_begun.nd (q_tup (qa_cons (q_str) (qa_cons (q_tup (qa_cons (q_str) (qa_cons (q_bin op_sub Bin.sub (q_ix ix_seq Bin.ix (q_var 0) (q_int) (fun _ _ => rfl)) (q_int)) qa_nil))) (qa_cons (q_var 1) (qa_cons (q_var 2) qa_nil)))))) (qss_one (qs_expr (q_meth PySem.F.slot_list_append PySem.F.type_list_append mt_append k_append (q_var 5) (qa_cons (q_if (qt_cmp op_gt (Bin.cmp _) (q_ix ix_seq Bin.ix (q_var 0) (q_int) (fun _ _ => rfl)) (q_int) (nomark _)) (q_lst (qa_cons (q_var 9) qa_nil)) (q_lst (qa_cons (q_tup (qa_cons (q_str) (qa_cons (q_non) (qa_cons (q_var 1) (qa_cons (q_var 2) qa_nil))))) qa_nil))) qa_nil))))) (qss_one (qs_if (qt_cmp (op_eqD hr.units) Bin.eqD (q_var 7) (q_str) (nomark _)) (qss_one (qs_set (i := 8) sc__law_begun.nd (q_lst (qa_cons (q_tup (qa_cons (q_str) (qa_cons (q_non) (qa_cons (q_var 1) (qa_cons (q_var 2) qa_nil))))) (qa_cons (q_tup (qa_cons (q_str) (qa_cons (q_ix ix_seq Bin.ix (q_var 0) (q_int) (fun _ _ => rfl)) (qa_cons (q_tup (qa_cons (q_str) qa_nil)) (qa_cons (q_var 2) qa_nil))))) qa_nil))))) (qss_one (qs_if (qt_cmp (op_eqD hr.units) Bin.eqD (q_var 7) (q_str) (nomark _)) (qss_one (qs_set (i := 8) sc__law_begun.nd (q_lst (qa_cons (q_tup (qa_cons (q_str) (qa_cons (q_non) (qa_cons (q_tup (qa_cons (q_str) (qa_cons (q_ix ix_seq Bin.ix (q_var 0) (q_int) (fun _ _ => rfl)) (qa_cons (q_var 1) qa_nil)))) (qa_cons (q_var 2) qa_nil))))) qa_nil)))) (qss_one (qs_if (qt_cmp (op_eqD hr.units) Bin.eqD (q_var 7) (q_str) (nomark _)) (qss_one (qs_set (i := 8) sc__law_begun.nd (q_lst (qa_cons (q_tup (qa_cons (q_str) (qa_cons (q_non) (qa_cons (q_tup (qa_cons (q_str) (qa_cons (q_ix ix_seq Bin.ix (q_var 0) (q_int) (fun _ _ => rfl)) (qa_cons (q_ix ix_seq Bin.ix (q_var 0) (q_int) (fun _ _ => rfl)) (qa_cons (q_var 1) qa_nil))))) (qa_cons (q_var 2) qa_nil))))) qa_nil)))) (qss_cons (qs_set (i := 10) sc__law_begun.nd (q_callB call_lenD k_lenD (by rfl) T.n_len bt_len (qa_cons (q_var 3) qa_nil))) (qss_cons (qs_dput (hu_of hr) (q_if (qt_cmp (op_eqD hr.units) Bin.eqD (q_var 7) (q_str) (nomark _)) (q_callB cr_lenW k_len (by rfl) T.n_len bt_len (qa_cons (q_ix ix_seq Bin.ix (q_var 0) (q_int) (fun _ _ => rfl)) qa_nil)) (q_int)) (q_var 3) (q_var 10)) (qss_one (qs_setLc (i := 8) (own := [("part", 11)]) rfl sc__law_begun.nd rfl rfl (sw_true rfl rfl rfl (by decide +kernel)) (qi_seq (q_revT (q_ix ix_seq Bin.ix (q_var 0) (q_int) (fun _ _ => rfl)))) (blkOk_by (N := nm__law_begun) (sc := defScope (st ._law_begun)) (by decide +kernel)) (fun _ _ _ _ _ => (qg_name (i := 11) sc__law_begun.nd)) (fun _ _ _ _ _ => qts_nil) (fun _ _ _ _ _ => q_tup (qa_cons (q_str) (qa_cons (q_var 11) (qa_cons (q_tup (qa_cons (q_var 7) (qa_cons (q_var 10) (qa_cons (q_var 1) qa_nil)))) (qa_cons (q_var 2) qa_nil)))))))))))))))) (qss_one (qs_ret (q_var 8)))))
theorem d__law_done (T : Txt K mg) (hc : ∀ f, FnW P w K mg base k (T.a f) (T.fd f) (ps f) (c f)) : FnW P w K mg base (k + 1) (T.a ._law_done) (T.fd ._law_done) (ps ._law_done) (runB 5 (b__law_done c)) :=
  fn_ok (N := nm__law_done) (T.fn ._law_done) sc__law_done fun cdv A outer s H E hr =>
    qss_cons (qs_par (i := 3) (j := 4) rfl sc__law_done.nd (qa_cons (q_ix ix_seq Bin.ix (q_var 0) (q_int) (fun _ _ => rfl)) (qa_cons (q_ix ix_seq Bin.ix (q_var 0) (q_neg (q_int)) (fun _ _ => rfl)) qa_nil))) (qss_cons (qs_if (qt_w (qw_and (qt_cmp op_in_seq (Bin.isIn false) (q_var 3) (q_tup (qa_cons (q_str) (qa_cons (q_str) qa_nil))) (by rfl)) (qw_and1 (qt_cmp (op_inT (hu65_of hr)) Bin.inT (q_ix ix_seq Bin.ix (q_var 0) (q_int) (fun _ _ => rfl)) (q_tup (qa_cons (q_tup qa_nil) (qa_cons (q_int) qa_nil))) (by rfl))))) (qss_one (qs_ret (q_lst (qa_cons (q_tup (qa_cons (q_str) (qa_cons (q_non) (qa_cons (q_var 4) (qa_cons (q_var 1) qa_nil))))) qa_nil)))) (qss_nil)) (qss_cons (qs_if (qt_cmp (op_eqD hr.units) Bin.eqD (q_var 3) (q_str) (nomark _)) (qss_one (qs_ret (q_lst (qa_cons (q_tup (qa_cons (q_str) (qa_cons (q_ix ix_seq Bin.ix (q_ix ix_seq Bin.ix (q_var 0) (q_int) (fun _ _ => rfl)) (q_int) (fun _ _ => rfl)) (qa_cons (q_tup (qa_cons (q_str) (qa_cons (q_slice (q_ix ix_seq Bin.ix (q_var 0) (q_int) (fun _ _ => rfl)) (qo_some (q_int)) qo_none) (qa_cons (q_var 4) qa_nil)))) (qa_cons (q_var 1) qa_nil))))) qa_nil)))) (qss_nil)) (qss_cons (qs_if (qt_cmp (op_eqD hr.units) Bin.eqD (q_var 3) (q_str) (nomark _)) (qss_one (qs_ret (q_lst (qa_cons (q_tup (qa_cons (q_str) (qa_cons (q_ix ix_seq Bin.ix (q_var 0) (q_int) (fun _ _ => rfl)) (qa_cons (q_tup (qa_cons (q_str) (qa_cons (q_bin op_sub Bin.sub (q_ix ix_seq Bin.ix (q_var 0) (q_int) (fun _ _ => rfl)) (q_int)) (qa_cons (q_ix ix_seq Bin.ix (q_var 0) (q_int) (fun _ _ => rfl)) (qa_cons (q_var 4) qa_nil))))) (qa_cons (q_var 1) qa_nil))))) qa_nil)))) (qss_nil)) (qss_cons (qs_if (qt_cmp (op_eqD hr.units) Bin.eqD (q_var 3) (q_str) (nomark _)) (qss_one (qs_ret (q_lst qa_nil))) (qss_nil)) (qss_cons (qs_dput (hu_of hr) (q_bin op_sub Bin.sub (q_dget (hu_of hr) (q_var 2) (q_ix ix_seq Bin.ix (q_var 0) (q_int) (fun _ _ => rfl)) (fun _ _ => rfl)) (q_int)) (q_var 2) (q_ix ix_seq Bin.ix (q_var 0) (q_int) (fun _ _ => rfl))) (qss_one (qs_ret (q_if (qt_cmp (op_eqD hr.units) Bin.eqD (q_dget (hu_of hr) (q_var 2) (q_ix ix_seq Bin.ix (q_var 0) (q_int) (fun _ _ => rfl)) (fun _ _ => rfl)) (q_int) (nomark _)) (q_lst (qa_cons (q_tup (qa_cons (q_str) (qa_cons (q_non) (qa_cons (q_var 4) (qa_cons (q_var 1) qa_nil))))) qa_nil)) (q_lst qa_nil)))))))))
theorem d__law_logged (T : Txt K mg) (hc : ∀ f, FnW P w K mg base k (T.a f) (T.fd f) (ps f) (c f)) : FnW P w K mg base (k + 1) (T.a ._law_logged) (T.fd ._law_logged) (ps ._law_logged) (runB 13 (b__law_logged c)) :=
  fn_ok (N := nm__law_logged) (T.fn ._law_logged) sc__law_logged fun cdv A outer s H E hr =>
    qss_cons (qs_setLc (i := 1) (own := [("mark", 12), ("tree", 10)]) rfl sc__law_logged.nd rfl rfl (sw_true rfl rfl rfl (by decide +kernel)) (qi_enumL (by rfl) T.n_enumerate (qa_cons (q_var 0) qa_nil)) (blkOk_by (N := nm__law_logged) (sc := defScope (st ._law_logged)) (by decide +kernel)) (fun _ _ _ _ _ => (qg_tup rfl (qgs_cons (qg_name (i := 12) sc__law_logged.nd) (qgs_cons (qg_name (i := 10) sc__law_logged.nd) qgs_nil)))) (fun _ _ _ _ _ => qts_nil) (fun _ _ _ _ _ => q_tup (qa_cons (q_str) (qa_cons (q_var 10) (qa_cons (q_tup (qa_cons (q_str) qa_nil)) (qa_cons (q_var 12) qa_nil)))))) (qss_cons (qs_asg (q_tup (qa_cons (q_newK) (qa_cons (q_lst qa_nil) (qa_cons (q_lst (qa_cons (q_var 1) qa_nil)) (qa_cons (q_int) qa_nil))))) (qg_tup rfl (qgs_cons (qg_name (i := 2) sc__law_logged.nd) (qgs_cons (qg_name (i := 3) sc__law_logged.nd) (qgs_cons (qg_name (i := 4) sc__law_logged.nd) (qgs_cons (qg_name (i := 5) sc__law_logged.nd) qgs_nil)))))) (qss_cons (qs_whileU fun n => qs_while n PassesOwn.never (qt_cmp (op_neNil (hu1_of hr)) Bin.neNil (q_var 4) (q_lst qa_nil) (nomark _)) (qss_cons (qs_set (i := 6) sc__law_logged.nd (q_lst qa_nil)) (qss_cons (qs_for PassesOwn.never rfl (qi_seq (q_var 4)) (qg_name (i := 7) sc__law_logged.nd) (qss_cons (qs_set (i := 8) sc__law_logged.nd (q_revL (q_var 7))) (qss_one (qs_whileU fun n => qs_while n PassesOwn.never (qt_cmp (op_neNil (hu1_of hr)) Bin.neNil (q_var 8) (q_lst qa_nil) (nomark _)) (qss_cons (qs_asg (q_meth0 PySem.F.slot_list_pop PySem.F.type_list_pop mt_pop k_pop (q_var 8)) (qg_tup rfl (qgs_cons (qg_name (i := 9) sc__law_logged.nd) (qgs_cons (qg_name (i := 10) sc__law_logged.nd) (qgs_cons (qg_name (i := 11) sc__law_logged.nd) (qgs_cons (qg_name (i := 12) sc__law_logged.nd) qgs_nil)))))) (qss_one (qs_if (qt_cmp (op_eqD hr.units) Bin.eqD (q_var 9) (q_str) (nomark _)) (qss_one (qs_expr (q_meth PySem.F.slot_list_extend PySem.F.type_list_extend mt_extend k_extend (q_var 8) (qa_cons (q_call (hc ._law_begun) hr (by rfl) (T.gl ._law_begun) (T.fn ._law_begun).kp (T.bd ._law_begun) (qa_cons (q_var 10) (qa_cons (q_var 11) (qa_cons (q_var 12) (qa_cons (q_var 2) (qa_cons (q_var 3) (qa_cons (q_var 6) (qa_cons (q_var 5) qa_nil))))))) rfl (aCons_len (aCons_len (aCons_len (aCons_len (aCons_len (aCons_len (aCons_len aNil_len)))))))) qa_nil)))) (qss_one (qs_expr (q_meth PySem.F.slot_list_extend PySem.F.type_list_extend mt_extend k_extend (q_var 8) (qa_cons (q_call (hc ._law_done) hr (by rfl) (T.gl ._law_done) (T.fn ._law_done).kp (T.bd ._law_done) (qa_cons (q_var 11) (qa_cons (q_var 12) (qa_cons (q_var 2) qa_nil))) rfl (aCons_len (aCons_len (aCons_len aNil_len)))) qa_nil))))))))))) (qss_one (qs_par (i := 4) (j := 5) rfl sc__law_logged.nd (qa_cons (q_var 6) (qa_cons (q_bin op_addW Bin.add (q_var 5) (q_int)) qa_nil))))))) (qss_one (qs_ret (q_var 3)))))
theorem d__law_marked (T : Txt K mg) (hc : ∀ f, FnW P w K mg base k (T.a f) (T.fd f) (ps f) (c f)) : FnW P w K mg base (k + 1) (T.a ._law_marked) (T.fd ._law_marked) (ps ._law_marked) (runB 8 (b__law_marked c)) :=
  fn_ok (N := nm__law_marked) (T.fn ._law_marked) sc__law_marked fun cdv A outer s H E hr =>
    qss_cons (qs_set (i := 2) sc__law_marked.nd (q_tup (qa_cons (q_str) (qa_cons (q_var 1) (qa_cons (q_tup (qa_cons (q_str) (qa_cons (q_tup (qa_cons (q_tup (qa_cons (q_str) (qa_cons (q_non) qa_nil))) (qa_cons (q_tup (qa_cons (q_str) (qa_cons (q_int) qa_nil))) qa_nil))) qa_nil))) qa_nil))))) (qss_cons (qs_setLc (i := 3) (own := [("at", 4)]) rfl sc__law_marked.nd rfl rfl (sw_true rfl rfl rfl (by decide +kernel)) (qi_range1 (by rfl) T.n_range (qa_cons (q_var 1) qa_nil)) (blkOk_by (N := nm__law_marked) (sc := defScope (st ._law_marked)) (by decide +kernel)) (fun _ _ _ _ _ => (qg_name (i := 4) sc__law_marked.nd)) (fun _ _ _ _ _ => qts_nil) (fun _ _ _ _ _ => q_lst qa_nil)) (qss_cons (qs_for PassesOwn.never rfl (qi_seq (q_call (hc ._law_logged) hr (by rfl) (T.gl ._law_logged) (T.fn ._law_logged).kp (T.bd ._law_logged) (qa_cons (q_lst (qa_cons (q_tup (qa_cons (q_str) (qa_cons (q_tup (qa_cons (q_var 0) (qa_cons (q_var 2) qa_nil))) qa_nil))) qa_nil)) qa_nil) rfl (aCons_len aNil_len))) (qg_tup rfl (qgs_cons (qg_name (i := 4) sc__law_marked.nd) (qgs_cons (qg_name (i := 5) sc__law_marked.nd) (qgs_cons (qg_name (i := 6) sc__law_marked.nd) qgs_nil)))) (qss_one (qs_if (qt_cmp op_lt (Bin.cmp _) (q_var 4) (q_var 1) (nomark _)) (qss_one (qs_expr (q_meth PySem.F.slot_list_append PySem.F.type_list_append mt_append k_append (q_ix ix_seq Bin.ix (q_var 3) (q_var 4) (fun _ _ => rfl)) (qa_cons (q_var 6) qa_nil)))) (qss_nil)))) (qss_one (qs_ret (q_lc (own := [("row", 7)]) rfl sc__law_marked.nd (qi_seq (q_var 3)) (blkOk_by (N := nm__law_marked) (sc := defScope (st ._law_marked)) (by decide +kernel)) (fun _ _ _ _ _ => (qg_name (i := 7) sc__law_marked.nd)) (fun _ _ _ _ _ => qts_nil) (fun _ _ _ _ _ => q_callTy call_tuple_of k_tuple (by rfl) T.n_tuple bt_tuple (qa_cons (q_var 7) qa_nil)))))))
theorem d__law_span (T : Txt K mg) (hc : ∀ f, FnW P w K mg base k (T.a f) (T.fd f) (ps f) (c f)) : FnW P w K mg base (k + 1) (T.a ._law_span) (T.fd ._law_span) (ps ._law_span) (runB 4 (b__law_span c)) :=
  fn_ok (N := nm__law_span) (T.fn ._law_span) sc__law_span fun cdv A outer s H E hr =>
    qss_one (qs_ret (q_bin op_addW Bin.add (q_bin op_addW Bin.add (q_int) (q_call (hc ._law_end) hr (by rfl) (T.gl ._law_end) (T.fn ._law_end).kp (T.bd ._law_end) (qa_cons (q_var 0) qa_nil) rfl (aCons_len aNil_len))) (q_callB (cr_maxW rfl) k_max (by rfl) T.n_max bt_max (qa_cons (q_bin op_addW Bin.add (q_lst (qa_cons (q_int) qa_nil)) (q_lc (own := [("at", 1), ("mark", 2), ("word", 3)]) rfl sc__law_span.nd (qi_seq (q_call (hc ._law_logged) hr (by rfl) (T.gl ._law_logged) (T.fn ._law_logged).kp (T.bd ._law_logged) (qa_cons (q_lst (qa_cons (q_var 0) qa_nil)) qa_nil) rfl (aCons_len aNil_len))) (blkOk_by (N := nm__law_span) (sc := defScope (st ._law_span)) (by decide +kernel)) (fun _ _ _ _ _ => (qg_tup rfl (qgs_cons (qg_name (i := 1) sc__law_span.nd) (qgs_cons (qg_name (i := 2) sc__law_span.nd) (qgs_cons (qg_name (i := 3) sc__law_span.nd) qgs_nil))))) (fun _ _ _ _ _ => qts_nil) (fun _ _ _ _ _ => q_var 1))) qa_nil))))
theorem d__law_seen (T : Txt K mg) (hc : ∀ f, FnW P w K mg base k (T.a f) (T.fd f) (ps f) (c f)) : FnW P w K mg base (k + 1) (T.a ._law_seen) (T.fd ._law_seen) (ps ._law_seen) (runB 3 (b__law_seen c)) :=
  fn_ok (N := nm__law_seen) (T.fn ._law_seen) sc__law_seen fun cdv A outer s H E hr =>
    qss_cons (qs_set (i := 2) sc__law_seen.nd (q_lst qa_nil)) (qss_cons (qs_whileU fun n => qs_while n PassesOwn.never (qt_w (qw_and (qt_cmp op_lt (Bin.cmp _) (q_callB cr_lenW k_len (by rfl) T.n_len bt_len (qa_cons (q_var 2) qa_nil)) (q_int) (nomark _)) (qw_and1 (qt_w (qw_or (qt_cmp (op_eqNil (hu1_of hr)) Bin.eqNil (q_var 2) (q_lst qa_nil) (nomark _)) (qw_or1 (qt_notN (q_ix ix_seq Bin.ix (q_var 2) (q_neg (q_int)) (fun _ _ => rfl))))))))) (qss_one (qs_expr (q_meth PySem.F.slot_list_append PySem.F.type_list_append mt_append k_append (q_var 2) (qa_cons (q_call (hc .test_entry) hr (by rfl) (T.gl .test_entry) (T.fn .test_entry).kp (T.bd .test_entry) (qa_cons (q_var 0) (qa_cons (q_var 1) (qa_cons (q_callB cr_lenW k_len (by rfl) T.n_len bt_len (qa_cons (q_var 2) qa_nil)) qa_nil))) rfl (aCons_len (aCons_len (aCons_len aNil_len)))) qa_nil))))) (qss_one (qs_ret (q_slice (q_var 2) qo_none (qo_some (q_neg (q_int)))))))
theorem d__law_told_back (T : Txt K mg) (hc : ∀ f, FnW P w K mg base k (T.a f) (T.fd f) (ps f) (c f)) : FnW P w K mg base (k + 1) (T.a ._law_told_back) (T.fd ._law_told_back) (ps ._law_told_back) (runB 11 (b__law_told_back c)) :=
  fn_ok (N := nm__law_told_back) (T.fn ._law_told_back) sc__law_told_back fun cdv A outer s H E hr =>
    qss_cons (qs_asg (q_tup (qa_cons (q_call (hc ._law_seen) hr (by rfl) (T.gl ._law_seen) (T.fn ._law_seen).kp (T.bd ._law_seen) (qa_cons (q_var 0) (qa_cons (q_tup (qa_cons (q_non) (qa_cons (q_non) qa_nil))) qa_nil)) rfl (aCons_len (aCons_len aNil_len))) (qa_cons (q_non) (qa_cons (q_lst qa_nil) (qa_cons (q_int) qa_nil))))) (qg_tup rfl (qgs_cons (qg_name (i := 2) sc__law_told_back.nd) (qgs_cons (qg_name (i := 3) sc__law_told_back.nd) (qgs_cons (qg_name (i := 4) sc__law_told_back.nd) (qgs_cons (qg_name (i := 5) sc__law_told_back.nd) qgs_nil)))))) (qss_cons (qs_for PassesOwn.never rfl (qi_range1 (by rfl) T.n_range (qa_cons (q_var 1) qa_nil)) (qg_name (i := 6) sc__law_told_back.nd) (qss_cons (qs_set (i := 7) sc__law_told_back.nd (q_call (hc ._law_seen) hr (by rfl) (T.gl ._law_seen) (T.fn ._law_seen).kp (T.bd ._law_seen) (qa_cons (q_var 0) (qa_cons (q_tup (qa_cons (q_int) (qa_cons (q_var 6) qa_nil))) qa_nil)) rfl (aCons_len (aCons_len aNil_len)))) (qss_cons (qs_if (qt_w (qw_and (qt_isN (q_var 3)) (qw_and1 (qt_cmp op_lt (Bin.cmp _) (q_meth PySem.F.slot_list_index PySem.F.type_list_index mt_index k_index (q_var 7) (qa_cons (q_int) qa_nil)) (q_meth PySem.F.slot_list_index PySem.F.type_list_index mt_index k_index (q_var 7) (qa_cons (q_int) qa_nil)) (nomark _))))) (qss_one (qs_set (i := 3) sc__law_told_back.nd (q_var 6))) (qss_nil)) (qss_cons (qs_set (i := 8) sc__law_told_back.nd (q_meth PySem.F.slot_list_index PySem.F.type_list_index mt_index k_index (q_call (hc ._law_seen) hr (by rfl) (T.gl ._law_seen) (T.fn ._law_seen).kp (T.bd ._law_seen) (qa_cons (q_var 0) (qa_cons (q_tup (qa_cons (q_non) (qa_cons (q_var 6) qa_nil))) qa_nil)) rfl (aCons_len (aCons_len aNil_len))) (qa_cons (q_int) qa_nil))) (qss_cons (qs_set (i := 9) sc__law_told_back.nd (q_callTy call_tuple_of k_tuple (by rfl) T.n_tuple bt_tuple (qa_cons (q_slice (q_var 2) (qo_some (q_var 5)) (qo_some (q_var 8))) qa_nil))) (qss_cons (qs_if (qt_notN (q_var 3)) (qss_cons (qs_set (i := 10) sc__law_told_back.nd (q_bin op_sub Bin.sub (q_meth PySem.F.slot_list_index PySem.F.type_list_index mt_index k_index (q_call (hc ._law_seen) hr (by rfl) (T.gl ._law_seen) (T.fn ._law_seen).kp (T.bd ._law_seen) (qa_cons (q_var 0) (qa_cons (q_tup (qa_cons (q_bin op_sub Bin.sub (q_var 6) (q_var 3)) (qa_cons (q_non) qa_nil))) qa_nil)) rfl (aCons_len (aCons_len aNil_len))) (qa_cons (q_int) qa_nil)) (q_var 5))) (qss_one (qs_set (i := 9) sc__law_told_back.nd (q_bin op_addW Bin.add (q_bin op_addW Bin.add (q_slice (q_var 9) qo_none (qo_some (q_var 10))) (q_tup (qa_cons (q_non) qa_nil))) (q_slice (q_var 9) (qo_some (q_var 10)) qo_none))))) (qss_nil)) (qss_cons (qs_expr (q_meth PySem.F.slot_list_append PySem.F.type_list_append mt_append k_append (q_var 4) (qa_cons (q_var 9) qa_nil))) (qss_one (qs_set (i := 5) sc__law_told_back.nd (q_var 8)))))))))) (qss_one (qs_ret (q_tup (qa_cons (q_var 3) (qa_cons (q_var 4) qa_nil))))))
theorem d__law_right (T : Txt K mg) (hc : ∀ f, FnW P w K mg base k (T.a f) (T.fd f) (ps f) (c f)) : FnW P w K mg base (k + 1) (T.a ._law_right) (T.fd ._law_right) (ps ._law_right) (runB 5 (b__law_right c)) :=
  fn_ok (N := nm__law_right) (T.fn ._law_right) sc__law_right fun cdv A outer s H E hr =>
    qss_cons (qs_set (i := 1) sc__law_right.nd (q_callB (cr_minW rfl) k_min (by rfl) T.n_min bt_min (qa_cons (q_int) (qa_cons (q_bin op_addW Bin.add (q_call (hc ._law_span) hr (by rfl) (T.gl ._law_span) (T.fn ._law_span).kp (T.bd ._law_span) (qa_cons (q_var 0) qa_nil) rfl (aCons_len aNil_len)) (q_int)) qa_nil)))) (qss_cons (qs_asg (q_call (hc ._law_told_back) hr (by rfl) (T.gl ._law_told_back) (T.fn ._law_told_back).kp (T.bd ._law_told_back) (qa_cons (q_var 0) (qa_cons (q_var 1) qa_nil)) rfl (aCons_len (aCons_len aNil_len))) (qg_tup rfl (qgs_cons (qg_name (i := 2) sc__law_right.nd) (qgs_cons (qg_name (i := 3) sc__law_right.nd) qgs_nil)))) (qss_cons (qs_if (qt_cmp (op_neD hr.units) Bin.neD (q_var 2) (q_if (qt_cmp op_lt (Bin.cmp _) (q_call (hc .finish) hr (by rfl) (T.gl .finish) (T.fn .finish).kp (T.bd .finish) (qa_cons (q_var 0) qa_nil) rfl (aCons_len aNil_len)) (q_var 1) (nomark _)) (q_call (hc .finish) hr (by rfl) (T.gl .finish) (T.fn .finish).kp (T.bd .finish) (qa_cons (q_var 0) qa_nil) rfl (aCons_len aNil_len)) (q_non)) (nomark _)) (qss_one (qs_ret (q_bl))) (qss_nil)) (qss_one (qs_ret (q_and (q_cmp (op_eqD hr.units) Bin.eqD (q_var 3) (q_call (hc ._law_marked) hr (by rfl) (T.gl ._law_marked) (T.fn ._law_marked).kp (T.bd ._law_marked) (qa_cons (q_var 0) (qa_cons (q_var 1) qa_nil)) rfl (aCons_len (aCons_len aNil_len))) (nomark _)) (q_one (q_cmp (op_eqD hr.units) Bin.eqD (q_var 3) (q_lc (own := [("at", 4)]) rfl sc__law_right.nd (qi_range1 (by rfl) T.n_range (qa_cons (q_var 1) qa_nil)) (blkOk_by (N := nm__law_right) (sc := defScope (st ._law_right)) (by decide +kernel)) (fun _ _ _ _ _ => (qg_name (i := 4) sc__law_right.nd)) (fun _ _ _ _ _ => qts_nil) (fun _ _ _ _ _ => q_call (hc .marked) hr (by rfl) (T.gl .marked) (T.fn .marked).kp (T.bd .marked) (qa_cons (q_var 0) (qa_cons (q_var 4) qa_nil)) rfl (aCons_len (aCons_len aNil_len)))) (nomark _))))))))
theorem d_law (T : Txt K mg) (hc : ∀ f, FnW P w K mg base k (T.a f) (T.fd f) (ps f) (c f)) : FnW P w K mg base (k + 1) (T.a .law) (T.fd .law) (ps .law) (runB 5 (b_law c)) :=
  fn_ok (N := nm_law) (T.fn .law) sc_law fun cdv A outer s H E hr =>
    qss_cons (qs_for PassesOwn.never rfl (qi_range1 (by rfl) T.n_range (qa_cons (q_callB (cr_maxW rfl) k_max (by rfl) T.n_max bt_max (qa_cons (q_int) (qa_cons (q_callB (cr_minW rfl) k_min (by rfl) T.n_min bt_min (qa_cons (q_int) (qa_cons (q_callB cr_lenW k_len (by rfl) T.n_len bt_len (qa_cons (q_var 0) qa_nil)) qa_nil))) qa_nil))) qa_nil)) (qg_name (i := 1) sc_law.nd) (qss_cons (qs_set (i := 2) sc_law.nd (q_call (hc ._law_pot) hr (by rfl) (T.gl ._law_pot) (T.fn ._law_pot).kp (T.bd ._law_pot) (qa_cons (q_var 0) (qa_cons (q_var 1) qa_nil)) rfl (aCons_len (aCons_len aNil_len)))) (qss_one (qs_for PassesOwn.never rfl (qi_range1 (by rfl) T.n_range (qa_cons (q_int) qa_nil)) (qg_name (i := 3) sc_law.nd) (qss_cons (qs_set (i := 4) sc_law.nd (q_call (hc ._law_program) hr (by rfl) (T.gl ._law_program) (T.fn ._law_program).kp (T.bd ._law_program) (qa_cons (q_var 2) (qa_cons (q_bin op_addW Bin.add (q_int) (q_call (hc ._law_take) hr (by rfl) (T.gl ._law_take) (T.fn ._law_take).kp (T.bd ._law_take) (qa_cons (q_var 2) (qa_cons (q_int) qa_nil)) rfl (aCons_len (aCons_len aNil_len)))) (qa_cons (q_bin op_addW Bin.add (q_int) (q_call (hc ._law_take) hr (by rfl) (T.gl ._law_take) (T.fn ._law_take).kp (T.bd ._law_take) (qa_cons (q_var 2) (qa_cons (q_int) qa_nil)) rfl (aCons_len (aCons_len aNil_len)))) (qa_cons (q_lst (qa_cons (q_int) (qa_cons (q_int) (qa_cons (q_int) qa_nil)))) qa_nil)))) rfl (aCons_len (aCons_len (aCons_len (aCons_len aNil_len)))))) (qss_one (qs_if (qt_not (qt_val (q_call (hc ._law_right) hr (by rfl) (T.gl ._law_right) (T.fn ._law_right).kp (T.bd ._law_right) (qa_cons (q_var 4) qa_nil) rfl (aCons_len aNil_len)))) (qss_one (qs_ret (q_bl))) (qss_nil)))))))) (qss_one (qs_ret (q_bl)))
theorem all_ok (T : Txt K mg) : ∀ n f, FnW P w K mg base n (T.a f) (T.fd f) (ps f) (sem n f)
  | 0, f => FnW.zero
  | n + 1, f => by
    have hc := all_ok T n
    cases f
    · exact FnW.pure (d_finish T hc)
    · exact FnW.pure (d_sides_of_seq T hc)
    · exact FnW.pure (d_sides_of_loop T hc)
    · exact FnW.pure (d_sides_beside T hc)
    · exact FnW.pure (d_key_part T hc)
    · exact FnW.pure (d_sides_of T hc)
    · exact FnW.pure (d_marked T hc)
    · exact FnW.pure (d_total T hc)
    · exact FnW.pure (d_count_in_loop T hc)
    · exact FnW.pure (d_count_before T hc)
    · exact FnW.pure (d_test_count T hc)
    · exact d_test_row T hc
    · exact FnW.pure (d_test_entry T hc)
    · exact d__law_pot T hc
    · exact d__law_take T hc
    · exact d__law_of T hc
    · exact d__law_word T hc
    · exact d__law_leaf T hc
    · exact d__law_plain T hc
    · exact FnW.pure (d__law_end T hc)
    · exact d__law_body T hc
    · exact d__law_program T hc
    · exact d__law_begun T hc
    · exact d__law_done T hc
    · exact d__law_logged T hc
    · exact d__law_marked T hc
    · exact d__law_span T hc
    · exact d__law_seen T hc
    · exact d__law_told_back T hc
    · exact d__law_right T hc
    · exact d_law T hc
end
/-! ### the facts that the top leaves -/
theorem all_mk {l : PySem.W.OpenLaw} {w : World} {K : PySem.W.Frag} {h : Heap} {mg : Str → Option Value} {fa : Addr} {lv : Nat} (X : K.In h) (G : h.Ns mainGlobals mg) (hfa : mg "law" = some (.ref fa))
    {f0 : Addr} {od0 an0 : Option Addr} {sl0 : Array (Option Value)} {oc0 kV0 dc0 pm0 cd0 ct0 : Value}
    {f1 : Addr} {od1 an1 : Option Addr} {sl1 : Array (Option Value)} {oc1 kV1 dc1 pm1 cd1 ct1 : Value}
    {f2 : Addr} {od2 an2 : Option Addr} {sl2 : Array (Option Value)} {oc2 kV2 dc2 pm2 cd2 ct2 : Value}
    {f3 : Addr} {od3 an3 : Option Addr} {sl3 : Array (Option Value)} {oc3 kV3 dc3 pm3 cd3 ct3 : Value}
    {f4 : Addr} {od4 an4 : Option Addr} {sl4 : Array (Option Value)} {oc4 kV4 dc4 pm4 cd4 ct4 : Value}
    {f5 : Addr} {od5 an5 : Option Addr} {sl5 : Array (Option Value)} {oc5 kV5 dc5 pm5 cd5 ct5 : Value}
    {f6 : Addr} {od6 an6 : Option Addr} {sl6 : Array (Option Value)} {oc6 kV6 dc6 pm6 cd6 ct6 : Value}
    {f7 : Addr} {od7 an7 : Option Addr} {sl7 : Array (Option Value)} {oc7 kV7 dc7 pm7 cd7 ct7 : Value}
    {f8 : Addr} {od8 an8 : Option Addr} {sl8 : Array (Option Value)} {oc8 kV8 dc8 pm8 cd8 ct8 : Value}
    {f9 : Addr} {od9 an9 : Option Addr} {sl9 : Array (Option Value)} {oc9 kV9 dc9 pm9 cd9 ct9 : Value}
    {f10 : Addr} {od10 an10 : Option Addr} {sl10 : Array (Option Value)} {oc10 kV10 dc10 pm10 cd10 ct10 : Value}
    {f11 : Addr} {od11 an11 : Option Addr} {sl11 : Array (Option Value)} {oc11 kV11 dc11 pm11 cd11 ct11 : Value}
    {f12 : Addr} {od12 an12 : Option Addr} {sl12 : Array (Option Value)} {oc12 kV12 dc12 pm12 cd12 ct12 : Value}
    {f13 : Addr} {od13 an13 : Option Addr} {sl13 : Array (Option Value)} {oc13 kV13 dc13 pm13 cd13 ct13 : Value}
    {f14 : Addr} {od14 an14 : Option Addr} {sl14 : Array (Option Value)} {oc14 kV14 dc14 pm14 cd14 ct14 : Value}
    {f15 : Addr} {od15 an15 : Option Addr} {sl15 : Array (Option Value)} {oc15 kV15 dc15 pm15 cd15 ct15 : Value}
    {f16 : Addr} {od16 an16 : Option Addr} {sl16 : Array (Option Value)} {oc16 kV16 dc16 pm16 cd16 ct16 : Value}
    {f17 : Addr} {od17 an17 : Option Addr} {sl17 : Array (Option Value)} {oc17 kV17 dc17 pm17 cd17 ct17 : Value}
    {f18 : Addr} {od18 an18 : Option Addr} {sl18 : Array (Option Value)} {oc18 kV18 dc18 pm18 cd18 ct18 : Value}
    {f19 : Addr} {od19 an19 : Option Addr} {sl19 : Array (Option Value)} {oc19 kV19 dc19 pm19 cd19 ct19 : Value}
    {f20 : Addr} {od20 an20 : Option Addr} {sl20 : Array (Option Value)} {oc20 kV20 dc20 pm20 cd20 ct20 : Value}
    {f21 : Addr} {od21 an21 : Option Addr} {sl21 : Array (Option Value)} {oc21 kV21 dc21 pm21 cd21 ct21 : Value}
    {f22 : Addr} {od22 an22 : Option Addr} {sl22 : Array (Option Value)} {oc22 kV22 dc22 pm22 cd22 ct22 : Value}
    {f23 : Addr} {od23 an23 : Option Addr} {sl23 : Array (Option Value)} {oc23 kV23 dc23 pm23 cd23 ct23 : Value}
    {f24 : Addr} {od24 an24 : Option Addr} {sl24 : Array (Option Value)} {oc24 kV24 dc24 pm24 cd24 ct24 : Value}
    {f25 : Addr} {od25 an25 : Option Addr} {sl25 : Array (Option Value)} {oc25 kV25 dc25 pm25 cd25 ct25 : Value}
    {f26 : Addr} {od26 an26 : Option Addr} {sl26 : Array (Option Value)} {oc26 kV26 dc26 pm26 cd26 ct26 : Value}
    {f27 : Addr} {od27 an27 : Option Addr} {sl27 : Array (Option Value)} {oc27 kV27 dc27 pm27 cd27 ct27 : Value}
    {f28 : Addr} {od28 an28 : Option Addr} {sl28 : Array (Option Value)} {oc28 kV28 dc28 pm28 cd28 ct28 : Value}
    {f29 : Addr} {od29 an29 : Option Addr} {sl29 : Array (Option Value)} {oc29 kV29 dc29 pm29 cd29 ct29 : Value}
    {f30 : Addr} {od30 an30 : Option Addr} {sl30 : Array (Option Value)} {oc30 kV30 dc30 pm30 cd30 ct30 : Value}
    (a0 : PySem.W.nsIn K mainGlobals "finish" = some (some (.ref f0))) (l0 : K.lookup f0 = some ⟨oc0, od0, .func (PySem.W.fnOf "finish" "finish" (defArgs (st .finish)) (defBody (st .finish)) (defScope (st .finish)) .none kV0 dc0 pm0 an0 cd0 ct0), sl0⟩) (c0 : PySem.W.codeIn K cd0 "finish" = true) (k0 : PySem.W.keepIn K (.ref f0) = true)
    (a1 : PySem.W.nsIn K mainGlobals "sides_of_seq" = some (some (.ref f1))) (l1 : K.lookup f1 = some ⟨oc1, od1, .func (PySem.W.fnOf "sides_of_seq" "sides_of_seq" (defArgs (st .sides_of_seq)) (defBody (st .sides_of_seq)) (defScope (st .sides_of_seq)) .none kV1 dc1 pm1 an1 cd1 ct1), sl1⟩) (c1 : PySem.W.codeIn K cd1 "sides_of_seq" = true) (k1 : PySem.W.keepIn K (.ref f1) = true)
    (a2 : PySem.W.nsIn K mainGlobals "sides_of_loop" = some (some (.ref f2))) (l2 : K.lookup f2 = some ⟨oc2, od2, .func (PySem.W.fnOf "sides_of_loop" "sides_of_loop" (defArgs (st .sides_of_loop)) (defBody (st .sides_of_loop)) (defScope (st .sides_of_loop)) .none kV2 dc2 pm2 an2 cd2 ct2), sl2⟩) (c2 : PySem.W.codeIn K cd2 "sides_of_loop" = true) (k2 : PySem.W.keepIn K (.ref f2) = true)
    (a3 : PySem.W.nsIn K mainGlobals "sides_beside" = some (some (.ref f3))) (l3 : K.lookup f3 = some ⟨oc3, od3, .func (PySem.W.fnOf "sides_beside" "sides_beside" (defArgs (st .sides_beside)) (defBody (st .sides_beside)) (defScope (st .sides_beside)) .none kV3 dc3 pm3 an3 cd3 ct3), sl3⟩) (c3 : PySem.W.codeIn K cd3 "sides_beside" = true) (k3 : PySem.W.keepIn K (.ref f3) = true)
    (a4 : PySem.W.nsIn K mainGlobals "key_part" = some (some (.ref f4))) (l4 : K.lookup f4 = some ⟨oc4, od4, .func (PySem.W.fnOf "key_part" "key_part" (defArgs (st .key_part)) (defBody (st .key_part)) (defScope (st .key_part)) .none kV4 dc4 pm4 an4 cd4 ct4), sl4⟩) (c4 : PySem.W.codeIn K cd4 "key_part" = true) (k4 : PySem.W.keepIn K (.ref f4) = true)
    (a5 : PySem.W.nsIn K mainGlobals "sides_of" = some (some (.ref f5))) (l5 : K.lookup f5 = some ⟨oc5, od5, .func (PySem.W.fnOf "sides_of" "sides_of" (defArgs (st .sides_of)) (defBody (st .sides_of)) (defScope (st .sides_of)) .none kV5 dc5 pm5 an5 cd5 ct5), sl5⟩) (c5 : PySem.W.codeIn K cd5 "sides_of" = true) (k5 : PySem.W.keepIn K (.ref f5) = true)
    (a6 : PySem.W.nsIn K mainGlobals "marked" = some (some (.ref f6))) (l6 : K.lookup f6 = some ⟨oc6, od6, .func (PySem.W.fnOf "marked" "marked" (defArgs (st .marked)) (defBody (st .marked)) (defScope (st .marked)) .none kV6 dc6 pm6 an6 cd6 ct6), sl6⟩) (c6 : PySem.W.codeIn K cd6 "marked" = true) (k6 : PySem.W.keepIn K (.ref f6) = true)
    (a7 : PySem.W.nsIn K mainGlobals "total" = some (some (.ref f7))) (l7 : K.lookup f7 = some ⟨oc7, od7, .func (PySem.W.fnOf "total" "total" (defArgs (st .total)) (defBody (st .total)) (defScope (st .total)) .none kV7 dc7 pm7 an7 cd7 ct7), sl7⟩) (c7 : PySem.W.codeIn K cd7 "total" = true) (k7 : PySem.W.keepIn K (.ref f7) = true)
    (a8 : PySem.W.nsIn K mainGlobals "count_in_loop" = some (some (.ref f8))) (l8 : K.lookup f8 = some ⟨oc8, od8, .func (PySem.W.fnOf "count_in_loop" "count_in_loop" (defArgs (st .count_in_loop)) (defBody (st .count_in_loop)) (defScope (st .count_in_loop)) .none kV8 dc8 pm8 an8 cd8 ct8), sl8⟩) (c8 : PySem.W.codeIn K cd8 "count_in_loop" = true) (k8 : PySem.W.keepIn K (.ref f8) = true)
    (a9 : PySem.W.nsIn K mainGlobals "count_before" = some (some (.ref f9))) (l9 : K.lookup f9 = some ⟨oc9, od9, .func (PySem.W.fnOf "count_before" "count_before" (defArgs (st .count_before)) (defBody (st .count_before)) (defScope (st .count_before)) .none kV9 dc9 pm9 an9 cd9 ct9), sl9⟩) (c9 : PySem.W.codeIn K cd9 "count_before" = true) (k9 : PySem.W.keepIn K (.ref f9) = true)
    (a10 : PySem.W.nsIn K mainGlobals "test_count" = some (some (.ref f10))) (l10 : K.lookup f10 = some ⟨oc10, od10, .func (PySem.W.fnOf "test_count" "test_count" (defArgs (st .test_count)) (defBody (st .test_count)) (defScope (st .test_count)) .none kV10 dc10 pm10 an10 cd10 ct10), sl10⟩) (c10 : PySem.W.codeIn K cd10 "test_count" = true) (k10 : PySem.W.keepIn K (.ref f10) = true)
    (a11 : PySem.W.nsIn K mainGlobals "test_row" = some (some (.ref f11))) (l11 : K.lookup f11 = some ⟨oc11, od11, .func (PySem.W.fnOf "test_row" "test_row" (defArgs (st .test_row)) (defBody (st .test_row)) (defScope (st .test_row)) .none kV11 dc11 pm11 an11 cd11 ct11), sl11⟩) (c11 : PySem.W.codeIn K cd11 "test_row" = true) (k11 : PySem.W.keepIn K (.ref f11) = true)
    (a12 : PySem.W.nsIn K mainGlobals "test_entry" = some (some (.ref f12))) (l12 : K.lookup f12 = some ⟨oc12, od12, .func (PySem.W.fnOf "test_entry" "test_entry" (defArgs (st .test_entry)) (defBody (st .test_entry)) (defScope (st .test_entry)) .none kV12 dc12 pm12 an12 cd12 ct12), sl12⟩) (c12 : PySem.W.codeIn K cd12 "test_entry" = true) (k12 : PySem.W.keepIn K (.ref f12) = true)
    (a13 : PySem.W.nsIn K mainGlobals "_law_pot" = some (some (.ref f13))) (l13 : K.lookup f13 = some ⟨oc13, od13, .func (PySem.W.fnOf "_law_pot" "_law_pot" (defArgs (st ._law_pot)) (defBody (st ._law_pot)) (defScope (st ._law_pot)) .none kV13 dc13 pm13 an13 cd13 ct13), sl13⟩) (c13 : PySem.W.codeIn K cd13 "_law_pot" = true) (k13 : PySem.W.keepIn K (.ref f13) = true)
    (a14 : PySem.W.nsIn K mainGlobals "_law_take" = some (some (.ref f14))) (l14 : K.lookup f14 = some ⟨oc14, od14, .func (PySem.W.fnOf "_law_take" "_law_take" (defArgs (st ._law_take)) (defBody (st ._law_take)) (defScope (st ._law_take)) .none kV14 dc14 pm14 an14 cd14 ct14), sl14⟩) (c14 : PySem.W.codeIn K cd14 "_law_take" = true) (k14 : PySem.W.keepIn K (.ref f14) = true)
    (a15 : PySem.W.nsIn K mainGlobals "_law_of" = some (some (.ref f15))) (l15 : K.lookup f15 = some ⟨oc15, od15, .func (PySem.W.fnOf "_law_of" "_law_of" (defArgs (st ._law_of)) (defBody (st ._law_of)) (defScope (st ._law_of)) .none kV15 dc15 pm15 an15 cd15 ct15), sl15⟩) (c15 : PySem.W.codeIn K cd15 "_law_of" = true) (k15 : PySem.W.keepIn K (.ref f15) = true)
    (a16 : PySem.W.nsIn K mainGlobals "_law_word" = some (some (.ref f16))) (l16 : K.lookup f16 = some ⟨oc16, od16, .func (PySem.W.fnOf "_law_word" "_law_word" (defArgs (st ._law_word)) (defBody (st ._law_word)) (defScope (st ._law_word)) .none kV16 dc16 pm16 an16 cd16 ct16), sl16⟩) (c16 : PySem.W.codeIn K cd16 "_law_word" = true) (k16 : PySem.W.keepIn K (.ref f16) = true)
    (a17 : PySem.W.nsIn K mainGlobals "_law_leaf" = some (some (.ref f17))) (l17 : K.lookup f17 = some ⟨oc17, od17, .func (PySem.W.fnOf "_law_leaf" "_law_leaf" (defArgs (st ._law_leaf)) (defBody (st ._law_leaf)) (defScope (st ._law_leaf)) .none kV17 dc17 pm17 an17 cd17 ct17), sl17⟩) (c17 : PySem.W.codeIn K cd17 "_law_leaf" = true) (k17 : PySem.W.keepIn K (.ref f17) = true)
    (a18 : PySem.W.nsIn K mainGlobals "_law_plain" = some (some (.ref f18))) (l18 : K.lookup f18 = some ⟨oc18, od18, .func (PySem.W.fnOf "_law_plain" "_law_plain" (defArgs (st ._law_plain)) (defBody (st ._law_plain)) (defScope (st ._law_plain)) .none kV18 dc18 pm18 an18 cd18 ct18), sl18⟩) (c18 : PySem.W.codeIn K cd18 "_law_plain" = true) (k18 : PySem.W.keepIn K (.ref f18) = true)
    (a19 : PySem.W.nsIn K mainGlobals "_law_end" = some (some (.ref f19))) (l19 : K.lookup f19 = some ⟨oc19, od19, .func (PySem.W.fnOf "_law_end" "_law_end" (defArgs (st ._law_end)) (defBody (st ._law_end)) (defScope (st ._law_end)) .none kV19 dc19 pm19 an19 cd19 ct19), sl19⟩) (c19 : PySem.W.codeIn K cd19 "_law_end" = true) (k19 : PySem.W.keepIn K (.ref f19) = true)
    (a20 : PySem.W.nsIn K mainGlobals "_law_body" = some (some (.ref f20))) (l20 : K.lookup f20 = some ⟨oc20, od20, .func (PySem.W.fnOf "_law_body" "_law_body" (defArgs (st ._law_body)) (defBody (st ._law_body)) (defScope (st ._law_body)) .none kV20 dc20 pm20 an20 cd20 ct20), sl20⟩) (c20 : PySem.W.codeIn K cd20 "_law_body" = true) (k20 : PySem.W.keepIn K (.ref f20) = true)
    (a21 : PySem.W.nsIn K mainGlobals "_law_program" = some (some (.ref f21))) (l21 : K.lookup f21 = some ⟨oc21, od21, .func (PySem.W.fnOf "_law_program" "_law_program" (defArgs (st ._law_program)) (defBody (st ._law_program)) (defScope (st ._law_program)) .none kV21 dc21 pm21 an21 cd21 ct21), sl21⟩) (c21 : PySem.W.codeIn K cd21 "_law_program" = true) (k21 : PySem.W.keepIn K (.ref f21) = true)
    (a22 : PySem.W.nsIn K mainGlobals "_law_begun" = some (some (.ref f22))) (l22 : K.lookup f22 = some ⟨oc22, od22, .func (PySem.W.fnOf "_law_begun" "_law_begun" (defArgs (st ._law_begun)) (defBody (st ._law_begun)) (defScope (st ._law_begun)) .none kV22 dc22 pm22 an22 cd22 ct22), sl22⟩) (c22 : PySem.W.codeIn K cd22 "_law_begun" = true) (k22 : PySem.W.keepIn K (.ref f22) = true)
    (a23 : PySem.W.nsIn K mainGlobals "_law_done" = some (some (.ref f23))) (l23 : K.lookup f23 = some ⟨oc23, od23, .func (PySem.W.fnOf "_law_done" "_law_done" (defArgs (st ._law_done)) (defBody (st ._law_done)) (defScope (st ._law_done)) .none kV23 dc23 pm23 an23 cd23 ct23), sl23⟩) (c23 : PySem.W.codeIn K cd23 "_law_done" = true) (k23 : PySem.W.keepIn K (.ref f23) = true)
    (a24 : PySem.W.nsIn K mainGlobals "_law_logged" = some (some (.ref f24))) (l24 : K.lookup f24 = some ⟨oc24, od24, .func (PySem.W.fnOf "_law_logged" "_law_logged" (defArgs (st ._law_logged)) (defBody (st ._law_logged)) (defScope (st ._law_logged)) .none kV24 dc24 pm24 an24 cd24 ct24), sl24⟩) (c24 : PySem.W.codeIn K cd24 "_law_logged" = true) (k24 : PySem.W.keepIn K (.ref f24) = true)
    (a25 : PySem.W.nsIn K mainGlobals "_law_marked" = some (some (.ref f25))) (l25 : K.lookup f25 = some ⟨oc25, od25, .func (PySem.W.fnOf "_law_marked" "_law_marked" (defArgs (st ._law_marked)) (defBody (st ._law_marked)) (defScope (st ._law_marked)) .none kV25 dc25 pm25 an25 cd25 ct25), sl25⟩) (c25 : PySem.W.codeIn K cd25 "_law_marked" = true) (k25 : PySem.W.keepIn K (.ref f25) = true)
    (a26 : PySem.W.nsIn K mainGlobals "_law_span" = some (some (.ref f26))) (l26 : K.lookup f26 = some ⟨oc26, od26, .func (PySem.W.fnOf "_law_span" "_law_span" (defArgs (st ._law_span)) (defBody (st ._law_span)) (defScope (st ._law_span)) .none kV26 dc26 pm26 an26 cd26 ct26), sl26⟩) (c26 : PySem.W.codeIn K cd26 "_law_span" = true) (k26 : PySem.W.keepIn K (.ref f26) = true)
    (a27 : PySem.W.nsIn K mainGlobals "_law_seen" = some (some (.ref f27))) (l27 : K.lookup f27 = some ⟨oc27, od27, .func (PySem.W.fnOf "_law_seen" "_law_seen" (defArgs (st ._law_seen)) (defBody (st ._law_seen)) (defScope (st ._law_seen)) .none kV27 dc27 pm27 an27 cd27 ct27), sl27⟩) (c27 : PySem.W.codeIn K cd27 "_law_seen" = true) (k27 : PySem.W.keepIn K (.ref f27) = true)
    (a28 : PySem.W.nsIn K mainGlobals "_law_told_back" = some (some (.ref f28))) (l28 : K.lookup f28 = some ⟨oc28, od28, .func (PySem.W.fnOf "_law_told_back" "_law_told_back" (defArgs (st ._law_told_back)) (defBody (st ._law_told_back)) (defScope (st ._law_told_back)) .none kV28 dc28 pm28 an28 cd28 ct28), sl28⟩) (c28 : PySem.W.codeIn K cd28 "_law_told_back" = true) (k28 : PySem.W.keepIn K (.ref f28) = true)
    (a29 : PySem.W.nsIn K mainGlobals "_law_right" = some (some (.ref f29))) (l29 : K.lookup f29 = some ⟨oc29, od29, .func (PySem.W.fnOf "_law_right" "_law_right" (defArgs (st ._law_right)) (defBody (st ._law_right)) (defScope (st ._law_right)) .none kV29 dc29 pm29 an29 cd29 ct29), sl29⟩) (c29 : PySem.W.codeIn K cd29 "_law_right" = true) (k29 : PySem.W.keepIn K (.ref f29) = true)
    (a30 : PySem.W.nsIn K mainGlobals "law" = some (some (.ref f30))) (l30 : K.lookup f30 = some ⟨oc30, od30, .func (PySem.W.fnOf "law" "law" (defArgs (st .law)) (defBody (st .law)) (defScope (st .law)) .none kV30 dc30 pm30 an30 cd30 ct30), sl30⟩) (c30 : PySem.W.codeIn K cd30 "law" = true) (k30 : PySem.W.keepIn K (.ref f30) = true)
    (z0 : PySem.W.nsIn K mainGlobals "abs" = some none)
    (z1 : PySem.W.nsIn K mainGlobals "enumerate" = some none)
    (z2 : PySem.W.nsIn K mainGlobals "int" = some none)
    (z3 : PySem.W.nsIn K mainGlobals "len" = some none)
    (z4 : PySem.W.nsIn K mainGlobals "list" = some none)
    (z5 : PySem.W.nsIn K mainGlobals "max" = some none)
    (z6 : PySem.W.nsIn K mainGlobals "min" = some none)
    (z7 : PySem.W.nsIn K mainGlobals "range" = some none)
    (z8 : PySem.W.nsIn K mainGlobals "sum" = some none)
    (z9 : PySem.W.nsIn K mainGlobals "tuple" = some none)
    {u0 : Value} (y0 : PySem.W.nsIn K mainGlobals "LOG" = some (some u0)) (x0 : RelV (.str "log") u0)
    {u1 : Value} (y1 : PySem.W.nsIn K mainGlobals "AWAIT" = some (some u1)) (x1 : RelV (.str "await") u1)
    {u2 : Value} (y2 : PySem.W.nsIn K mainGlobals "SEQ" = some (some u2)) (x2 : RelV (.str "seq") u2)
    {u3 : Value} (y3 : PySem.W.nsIn K mainGlobals "FORK" = some (some u3)) (x3 : RelV (.str "fork") u3)
    {u4 : Value} (y4 : PySem.W.nsIn K mainGlobals "JOIN" = some (some u4)) (x4 : RelV (.str "join") u4)
    {u5 : Value} (y5 : PySem.W.nsIn K mainGlobals "RACE" = some (some u5)) (x5 : RelV (.str "race") u5)
    {u6 : Value} (y6 : PySem.W.nsIn K mainGlobals "LOOP" = some (some u6)) (x6 : RelV (.str "loop") u6)
    {u7 : Value} (y7 : PySem.W.nsIn K mainGlobals "BODY_ROUNDS" = some (some u7)) (x7 : RelV (.int 30) u7)
    {u8 : Value} (y8 : PySem.W.nsIn K mainGlobals "GAP" = some (some u8)) (x8 : RelV (.non) u8)
    {u9 : Value} (y9 : PySem.W.nsIn K mainGlobals "LAST_BODY_ROUND" = some (some u9)) (x9 : RelV (.int 30) u9)
    {u10 : Value} (y10 : PySem.W.nsIn K mainGlobals "BEHIND_MARK" = some (some u10)) (x10 : RelV (.int 0) u10)
    {u11 : Value} (y11 : PySem.W.nsIn K mainGlobals "BESIDE_MARK" = some (some u11)) (x11 : RelV (.int 1) u11)
    (hlaw : ∀ ns : List Int, ns.length ≤ 63 → ∃ S', sem lv .law [.fz (ns.map W.int)] [] = some (.bl true, S')) :
    ∃ fd : FuncData, (∀ (s : Shared) (v : Value), BindsTo s fd ⟨[v], []⟩ [("script", v)]) ∧ ∀ base : Heap, K.In base → base.Ns mainGlobals mg → FnOk l.prog w K mg base CX0 lv fa fd ["script"] (spLaw K) := by
  have e := hfa.symm.trans (PySem.W.mg_of X G a30)
  have e' : fa = f30 := by cases e; rfl
  rw [e']
  have F0 := fun_mk (st := st .finish) l0 c0 k0
  have B0 := F0.binds (ps := ps .finish) fun _ _ _ _ _ _ us hl => match us, hl with | [_], _ => rfl
  have F1 := fun_mk (st := st .sides_of_seq) l1 c1 k1
  have B1 := F1.binds (ps := ps .sides_of_seq) fun _ _ _ _ _ _ us hl => match us, hl with | [_, _], _ => rfl
  have F2 := fun_mk (st := st .sides_of_loop) l2 c2 k2
  have B2 := F2.binds (ps := ps .sides_of_loop) fun _ _ _ _ _ _ us hl => match us, hl with | [_, _, _], _ => rfl
  have F3 := fun_mk (st := st .sides_beside) l3 c3 k3
  have B3 := F3.binds (ps := ps .sides_beside) fun _ _ _ _ _ _ us hl => match us, hl with | [_, _, _], _ => rfl
  have F4 := fun_mk (st := st .key_part) l4 c4 k4
  have B4 := F4.binds (ps := ps .key_part) fun _ _ _ _ _ _ us hl => match us, hl with | [_], _ => rfl
  have F5 := fun_mk (st := st .sides_of) l5 c5 k5
  have B5 := F5.binds (ps := ps .sides_of) fun _ _ _ _ _ _ us hl => match us, hl with | [_, _], _ => rfl
  have F6 := fun_mk (st := st .marked) l6 c6 k6
  have B6 := F6.binds (ps := ps .marked) fun _ _ _ _ _ _ us hl => match us, hl with | [_, _], _ => rfl
  have F7 := fun_mk (st := st .total) l7 c7 k7
  have B7 := F7.binds (ps := ps .total) fun _ _ _ _ _ _ us hl => match us, hl with | [_], _ => rfl
  have F8 := fun_mk (st := st .count_in_loop) l8 c8 k8
  have B8 := F8.binds (ps := ps .count_in_loop) fun _ _ _ _ _ _ us hl => match us, hl with | [_, _, _], _ => rfl
  have F9 := fun_mk (st := st .count_before) l9 c9 k9
  have B9 := F9.binds (ps := ps .count_before) fun _ _ _ _ _ _ us hl => match us, hl with | [_, _], _ => rfl
  have F10 := fun_mk (st := st .test_count) l10 c10 k10
  have B10 := F10.binds (ps := ps .test_count) fun _ _ _ _ _ _ us hl => match us, hl with | [_, _, _], _ => rfl
  have F11 := fun_mk (st := st .test_row) l11 c11 k11
  have B11 := F11.binds (ps := ps .test_row) fun _ _ _ _ _ _ us hl => match us, hl with | [_, _, _], _ => rfl
  have F12 := fun_mk (st := st .test_entry) l12 c12 k12
  have B12 := F12.binds (ps := ps .test_entry) fun _ _ _ _ _ _ us hl => match us, hl with | [_, _, _], _ => rfl
  have F13 := fun_mk (st := st ._law_pot) l13 c13 k13
  have B13 := F13.binds (ps := ps ._law_pot) fun _ _ _ _ _ _ us hl => match us, hl with | [_, _], _ => rfl
  have F14 := fun_mk (st := st ._law_take) l14 c14 k14
  have B14 := F14.binds (ps := ps ._law_take) fun _ _ _ _ _ _ us hl => match us, hl with | [_, _], _ => rfl
  have F15 := fun_mk (st := st ._law_of) l15 c15 k15
  have B15 := F15.binds (ps := ps ._law_of) fun _ _ _ _ _ _ us hl => match us, hl with | [_, _], _ => rfl
  have F16 := fun_mk (st := st ._law_word) l16 c16 k16
  have B16 := F16.binds (ps := ps ._law_word) fun _ _ _ _ _ _ us hl => match us, hl with | [_], _ => rfl
  have F17 := fun_mk (st := st ._law_leaf) l17 c17 k17
  have B17 := F17.binds (ps := ps ._law_leaf) fun _ _ _ _ _ _ us hl => match us, hl with | [_], _ => rfl
  have F18 := fun_mk (st := st ._law_plain) l18 c18 k18
  have B18 := F18.binds (ps := ps ._law_plain) fun _ _ _ _ _ _ us hl => match us, hl with | [_, _, _], _ => rfl
  have F19 := fun_mk (st := st ._law_end) l19 c19 k19
  have B19 := F19.binds (ps := ps ._law_end) fun _ _ _ _ _ _ us hl => match us, hl with | [_], _ => rfl
  have F20 := fun_mk (st := st ._law_body) l20 c20 k20
  have B20 := F20.binds (ps := ps ._law_body) fun _ _ _ _ _ _ us hl => match us, hl with | [_], _ => rfl
  have F21 := fun_mk (st := st ._law_program) l21 c21 k21
  have B21 := F21.binds (ps := ps ._law_program) fun _ _ _ _ _ _ us hl => match us, hl with | [_, _, _, _], _ => rfl
  have F22 := fun_mk (st := st ._law_begun) l22 c22 k22
  have B22 := F22.binds (ps := ps ._law_begun) fun _ _ _ _ _ _ us hl => match us, hl with | [_, _, _, _, _, _, _], _ => rfl
  have F23 := fun_mk (st := st ._law_done) l23 c23 k23
  have B23 := F23.binds (ps := ps ._law_done) fun _ _ _ _ _ _ us hl => match us, hl with | [_, _, _], _ => rfl
  have F24 := fun_mk (st := st ._law_logged) l24 c24 k24
  have B24 := F24.binds (ps := ps ._law_logged) fun _ _ _ _ _ _ us hl => match us, hl with | [_], _ => rfl
  have F25 := fun_mk (st := st ._law_marked) l25 c25 k25
  have B25 := F25.binds (ps := ps ._law_marked) fun _ _ _ _ _ _ us hl => match us, hl with | [_, _], _ => rfl
  have F26 := fun_mk (st := st ._law_span) l26 c26 k26
  have B26 := F26.binds (ps := ps ._law_span) fun _ _ _ _ _ _ us hl => match us, hl with | [_], _ => rfl
  have F27 := fun_mk (st := st ._law_seen) l27 c27 k27
  have B27 := F27.binds (ps := ps ._law_seen) fun _ _ _ _ _ _ us hl => match us, hl with | [_, _], _ => rfl
  have F28 := fun_mk (st := st ._law_told_back) l28 c28 k28
  have B28 := F28.binds (ps := ps ._law_told_back) fun _ _ _ _ _ _ us hl => match us, hl with | [_, _], _ => rfl
  have F29 := fun_mk (st := st ._law_right) l29 c29 k29
  have B29 := F29.binds (ps := ps ._law_right) fun _ _ _ _ _ _ us hl => match us, hl with | [_], _ => rfl
  have F30 := fun_mk (st := st .law) l30 c30 k30
  have B30 := F30.binds (ps := ps .law) fun _ _ _ _ _ _ us hl => match us, hl with | [_], _ => rfl
  let ad : Fn → Addr := fun f => match f with | .finish => f0 | .sides_of_seq => f1 | .sides_of_loop => f2 | .sides_beside => f3 | .key_part => f4 | .sides_of => f5 | .marked => f6 | .total => f7 | .count_in_loop => f8 | .count_before => f9 | .test_count => f10 | .test_row => f11 | .test_entry => f12 | ._law_pot => f13 | ._law_take => f14 | ._law_of => f15 | ._law_word => f16 | ._law_leaf => f17 | ._law_plain => f18 | ._law_end => f19 | ._law_body => f20 | ._law_program => f21 | ._law_begun => f22 | ._law_done => f23 | ._law_logged => f24 | ._law_marked => f25 | ._law_span => f26 | ._law_seen => f27 | ._law_told_back => f28 | ._law_right => f29 | .law => f30
  let fdd : Fn → FuncData := fun f => match f with | .finish => PySem.W.fnOf "finish" "finish" (defArgs (st .finish)) (defBody (st .finish)) (defScope (st .finish)) .none kV0 dc0 pm0 an0 cd0 ct0 | .sides_of_seq => PySem.W.fnOf "sides_of_seq" "sides_of_seq" (defArgs (st .sides_of_seq)) (defBody (st .sides_of_seq)) (defScope (st .sides_of_seq)) .none kV1 dc1 pm1 an1 cd1 ct1 | .sides_of_loop => PySem.W.fnOf "sides_of_loop" "sides_of_loop" (defArgs (st .sides_of_loop)) (defBody (st .sides_of_loop)) (defScope (st .sides_of_loop)) .none kV2 dc2 pm2 an2 cd2 ct2 | .sides_beside => PySem.W.fnOf "sides_beside" "sides_beside" (defArgs (st .sides_beside)) (defBody (st .sides_beside)) (defScope (st .sides_beside)) .none kV3 dc3 pm3 an3 cd3 ct3 | .key_part => PySem.W.fnOf "key_part" "key_part" (defArgs (st .key_part)) (defBody (st .key_part)) (defScope (st .key_part)) .none kV4 dc4 pm4 an4 cd4 ct4 | .sides_of => PySem.W.fnOf "sides_of" "sides_of" (defArgs (st .sides_of)) (defBody (st .sides_of)) (defScope (st .sides_of)) .none kV5 dc5 pm5 an5 cd5 ct5 | .marked => PySem.W.fnOf "marked" "marked" (defArgs (st .marked)) (defBody (st .marked)) (defScope (st .marked)) .none kV6 dc6 pm6 an6 cd6 ct6 | .total => PySem.W.fnOf "total" "total" (defArgs (st .total)) (defBody (st .total)) (defScope (st .total)) .none kV7 dc7 pm7 an7 cd7 ct7 | .count_in_loop => PySem.W.fnOf "count_in_loop" "count_in_loop" (defArgs (st .count_in_loop)) (defBody (st .count_in_loop)) (defScope (st .count_in_loop)) .none kV8 dc8 pm8 an8 cd8 ct8 | .count_before => PySem.W.fnOf "count_before" "count_before" (defArgs (st .count_before)) (defBody (st .count_before)) (defScope (st .count_before)) .none kV9 dc9 pm9 an9 cd9 ct9 | .test_count => PySem.W.fnOf "test_count" "test_count" (defArgs (st .test_count)) (defBody (st .test_count)) (defScope (st .test_count)) .none kV10 dc10 pm10 an10 cd10 ct10 | .test_row => PySem.W.fnOf "test_row" "test_row" (defArgs (st .test_row)) (defBody (st .test_row)) (defScope (st .test_row)) .none kV11 dc11 pm11 an11 cd11 ct11 | .test_entry => PySem.W.fnOf "test_entry" "test_entry" (defArgs (st .test_entry)) (defBody (st .test_entry)) (defScope (st .test_entry)) .none kV12 dc12 pm12 an12 cd12 ct12 | ._law_pot => PySem.W.fnOf "_law_pot" "_law_pot" (defArgs (st ._law_pot)) (defBody (st ._law_pot)) (defScope (st ._law_pot)) .none kV13 dc13 pm13 an13 cd13 ct13 | ._law_take => PySem.W.fnOf "_law_take" "_law_take" (defArgs (st ._law_take)) (defBody (st ._law_take)) (defScope (st ._law_take)) .none kV14 dc14 pm14 an14 cd14 ct14 | ._law_of => PySem.W.fnOf "_law_of" "_law_of" (defArgs (st ._law_of)) (defBody (st ._law_of)) (defScope (st ._law_of)) .none kV15 dc15 pm15 an15 cd15 ct15 | ._law_word => PySem.W.fnOf "_law_word" "_law_word" (defArgs (st ._law_word)) (defBody (st ._law_word)) (defScope (st ._law_word)) .none kV16 dc16 pm16 an16 cd16 ct16 | ._law_leaf => PySem.W.fnOf "_law_leaf" "_law_leaf" (defArgs (st ._law_leaf)) (defBody (st ._law_leaf)) (defScope (st ._law_leaf)) .none kV17 dc17 pm17 an17 cd17 ct17 | ._law_plain => PySem.W.fnOf "_law_plain" "_law_plain" (defArgs (st ._law_plain)) (defBody (st ._law_plain)) (defScope (st ._law_plain)) .none kV18 dc18 pm18 an18 cd18 ct18 | ._law_end => PySem.W.fnOf "_law_end" "_law_end" (defArgs (st ._law_end)) (defBody (st ._law_end)) (defScope (st ._law_end)) .none kV19 dc19 pm19 an19 cd19 ct19 | ._law_body => PySem.W.fnOf "_law_body" "_law_body" (defArgs (st ._law_body)) (defBody (st ._law_body)) (defScope (st ._law_body)) .none kV20 dc20 pm20 an20 cd20 ct20 | ._law_program => PySem.W.fnOf "_law_program" "_law_program" (defArgs (st ._law_program)) (defBody (st ._law_program)) (defScope (st ._law_program)) .none kV21 dc21 pm21 an21 cd21 ct21 | ._law_begun => PySem.W.fnOf "_law_begun" "_law_begun" (defArgs (st ._law_begun)) (defBody (st ._law_begun)) (defScope (st ._law_begun)) .none kV22 dc22 pm22 an22 cd22 ct22 | ._law_done => PySem.W.fnOf "_law_done" "_law_done" (defArgs (st ._law_done)) (defBody (st ._law_done)) (defScope (st ._law_done)) .none kV23 dc23 pm23 an23 cd23 ct23 | ._law_logged => PySem.W.fnOf "_law_logged" "_law_logged" (defArgs (st ._law_logged)) (defBody (st ._law_logged)) (defScope (st ._law_logged)) .none kV24 dc24 pm24 an24 cd24 ct24 | ._law_marked => PySem.W.fnOf "_law_marked" "_law_marked" (defArgs (st ._law_marked)) (defBody (st ._law_marked)) (defScope (st ._law_marked)) .none kV25 dc25 pm25 an25 cd25 ct25 | ._law_span => PySem.W.fnOf "_law_span" "_law_span" (defArgs (st ._law_span)) (defBody (st ._law_span)) (defScope (st ._law_span)) .none kV26 dc26 pm26 an26 cd26 ct26 | ._law_seen => PySem.W.fnOf "_law_seen" "_law_seen" (defArgs (st ._law_seen)) (defBody (st ._law_seen)) (defScope (st ._law_seen)) .none kV27 dc27 pm27 an27 cd27 ct27 | ._law_told_back => PySem.W.fnOf "_law_told_back" "_law_told_back" (defArgs (st ._law_told_back)) (defBody (st ._law_told_back)) (defScope (st ._law_told_back)) .none kV28 dc28 pm28 an28 cd28 ct28 | ._law_right => PySem.W.fnOf "_law_right" "_law_right" (defArgs (st ._law_right)) (defBody (st ._law_right)) (defScope (st ._law_right)) .none kV29 dc29 pm29 an29 cd29 ct29 | .law => PySem.W.fnOf "law" "law" (defArgs (st .law)) (defBody (st .law)) (defScope (st .law)) .none kV30 dc30 pm30 an30 cd30 ct30
  let T : Txt K mg :=
    { a := ad, fd := fdd,
      fn := fun f => match f with | .finish => F0 | .sides_of_seq => F1 | .sides_of_loop => F2 | .sides_beside => F3 | .key_part => F4 | .sides_of => F5 | .marked => F6 | .total => F7 | .count_in_loop => F8 | .count_before => F9 | .test_count => F10 | .test_row => F11 | .test_entry => F12 | ._law_pot => F13 | ._law_take => F14 | ._law_of => F15 | ._law_word => F16 | ._law_leaf => F17 | ._law_plain => F18 | ._law_end => F19 | ._law_body => F20 | ._law_program => F21 | ._law_begun => F22 | ._law_done => F23 | ._law_logged => F24 | ._law_marked => F25 | ._law_span => F26 | ._law_seen => F27 | ._law_told_back => F28 | ._law_right => F29 | .law => F30,
      gl := fun f => match f with | .finish => PySem.W.mg_of X G a0 | .sides_of_seq => PySem.W.mg_of X G a1 | .sides_of_loop => PySem.W.mg_of X G a2 | .sides_beside => PySem.W.mg_of X G a3 | .key_part => PySem.W.mg_of X G a4 | .sides_of => PySem.W.mg_of X G a5 | .marked => PySem.W.mg_of X G a6 | .total => PySem.W.mg_of X G a7 | .count_in_loop => PySem.W.mg_of X G a8 | .count_before => PySem.W.mg_of X G a9 | .test_count => PySem.W.mg_of X G a10 | .test_row => PySem.W.mg_of X G a11 | .test_entry => PySem.W.mg_of X G a12 | ._law_pot => PySem.W.mg_of X G a13 | ._law_take => PySem.W.mg_of X G a14 | ._law_of => PySem.W.mg_of X G a15 | ._law_word => PySem.W.mg_of X G a16 | ._law_leaf => PySem.W.mg_of X G a17 | ._law_plain => PySem.W.mg_of X G a18 | ._law_end => PySem.W.mg_of X G a19 | ._law_body => PySem.W.mg_of X G a20 | ._law_program => PySem.W.mg_of X G a21 | ._law_begun => PySem.W.mg_of X G a22 | ._law_done => PySem.W.mg_of X G a23 | ._law_logged => PySem.W.mg_of X G a24 | ._law_marked => PySem.W.mg_of X G a25 | ._law_span => PySem.W.mg_of X G a26 | ._law_seen => PySem.W.mg_of X G a27 | ._law_told_back => PySem.W.mg_of X G a28 | ._law_right => PySem.W.mg_of X G a29 | .law => PySem.W.mg_of X G a30,
      bd := fun f => match f with | .finish => B0 | .sides_of_seq => B1 | .sides_of_loop => B2 | .sides_beside => B3 | .key_part => B4 | .sides_of => B5 | .marked => B6 | .total => B7 | .count_in_loop => B8 | .count_before => B9 | .test_count => B10 | .test_row => B11 | .test_entry => B12 | ._law_pot => B13 | ._law_take => B14 | ._law_of => B15 | ._law_word => B16 | ._law_leaf => B17 | ._law_plain => B18 | ._law_end => B19 | ._law_body => B20 | ._law_program => B21 | ._law_begun => B22 | ._law_done => B23 | ._law_logged => B24 | ._law_marked => B25 | ._law_span => B26 | ._law_seen => B27 | ._law_told_back => B28 | ._law_right => B29 | .law => B30,
      n_abs := PySem.W.mg_none_of X G z0,
      n_enumerate := PySem.W.mg_none_of X G z1,
      n_int := PySem.W.mg_none_of X G z2,
      n_len := PySem.W.mg_none_of X G z3,
      n_list := PySem.W.mg_none_of X G z4,
      n_max := PySem.W.mg_none_of X G z5,
      n_min := PySem.W.mg_none_of X G z6,
      n_range := PySem.W.mg_none_of X G z7,
      n_sum := PySem.W.mg_none_of X G z8,
      n_tuple := PySem.W.mg_none_of X G z9,
      c_LOG := ⟨_, PySem.W.mg_of X G y0, x0⟩,
      c_AWAIT := ⟨_, PySem.W.mg_of X G y1, x1⟩,
      c_SEQ := ⟨_, PySem.W.mg_of X G y2, x2⟩,
      c_FORK := ⟨_, PySem.W.mg_of X G y3, x3⟩,
      c_JOIN := ⟨_, PySem.W.mg_of X G y4, x4⟩,
      c_RACE := ⟨_, PySem.W.mg_of X G y5, x5⟩,
      c_LOOP := ⟨_, PySem.W.mg_of X G y6, x6⟩,
      c_BODY_ROUNDS := ⟨_, PySem.W.mg_of X G y7, x7⟩,
      c_GAP := ⟨_, PySem.W.mg_of X G y8, x8⟩,
      c_LAST_BODY_ROUND := ⟨_, PySem.W.mg_of X G y9, x9⟩,
      c_BEHIND_MARK := ⟨_, PySem.W.mg_of X G y10, x10⟩,
      c_BESIDE_MARK := ⟨_, PySem.W.mg_of X G y11, x11⟩ }
  refine ⟨_, fun s v => .of_eq rfl, fun base _ _ => law_of (all_ok T lv .law) hlaw⟩
end
end L2.Aw.K78

namespace L2.Aw.K78
open PySem PySem.Spec PyProof.Rows
local macro_rules | `(tactic| walk_at "kw") => `(tactic| first | exact ev_eqT rfl rfl | exact ev_eqF rfl rfl | exact ev_inK rfl (ev_tup (ev_cons rfl (ev_cons rfl ev_nil)) rfl) | exact ev_neF rfl rfl | exact ev_neT rfl rfl)
theorem finish_ok : ∀ (n : Nat) (t : Tree), dep t ≤ n → Ok t → ∀ S, sem n .finish [enc t] S = some (.int (fin t), S) := by
  intro n
  induction n with
  | zero => intro t h; cases t <;> (rw [dep] at h; omega)
  | succ n ih =>
    intro t hd ho S
    suffices h : ∃ S1, runB 4 (b_finish (sem n)) [enc t] [] = some (.int (fin t), S1) by
      obtain ⟨S1, h⟩ := h
      exact ev_pure (pures1 (enc_pure t)) h pure_int
    have kids : ∀ ps : List Tree, deps ps ≤ n → Oks ps → ps.length ≤ 1000 → ∀ (k : Str) (σ : Store) (e2 e3 : Option W),
        mLc (iSeq (mBin wIx (mVar 0) (mC (.int 1)))) (.nm 3) tYesW (mCall (sem n .finish) (aCons (mVar 3) aNil)) [3] [some (.tup [.str k, .tup (encs ps)]), some (.str k), e2, e3] σ = some (.ref σ.length, σ ++ [.lst ((fins ps).map W.int)]) := by
      intro ps h1 h2 h3 k σ e2 e3
      have b := ev_lcT (us := encs ps) (S1 := σ) (S := σ) (mi := iSeq (mBin wIx (mVar 0) (mC (.int 1)))) (el := mCall (sem n .finish) (aCons (mVar 3) aNil)) (j := 3) (vs := [3]) (env := [some (.tup [.str k, .tup (encs ps)]), some (.str k), e2, e3])
        (g := fun w => match sem n .finish [w] σ with | some p => p.1 | none => .non) (ev_seqT rfl) (fun w hw => by
          rw [encs_map] at hw
          obtain ⟨p, hp, e⟩ := List.mem_map.mp hw
          subst e
          have q := ih p (Nat.le_trans (dep_le hp) h1) (h2.mem hp) σ
          rw [q]
          exact ev_call (ev_cons rfl rfl) q) (szOk_of (by rw [encs_map, List.length_map]; omega))
      rw [b]
      congr 5
      rw [encs_map, fins_map, List.map_map, List.map_map]
      refine List.map_congr_left fun p hp => ?_
      show (match sem n .finish [enc p] σ with | some p => p.1 | none => .non) = W.int (fin p)
      rw [ih p (Nat.le_trans (dep_le hp) h1) (h2.mem hp) σ]
    have ne : ∀ ps : List Tree, ps ≠ [] → (fins ps).isEmpty = false := fun ps h => by
      cases ps with
      | nil => exact absurd rfl h
      | cons p ps => rw [fins]; rfl
    cases t with
    | log w => exact ⟨_, rfl⟩
    | await w => exact ⟨_, ev_run (ev_seq (ev_asg (ev_bin rfl rfl rfl) rfl) (ev_seq (ev_if_f (by walk_at "kw") rfl) (ev_seq_rt (ev_if_t (by walk_at "kw") (ev_ret rfl)))))⟩
    | fork w => exact ⟨_, rfl⟩
    | loop c b =>
      rw [dep] at hd
      rw [Ok] at ho
      obtain ⟨o1, o2, o3, o4, o5⟩ := ho
      have q := ih b (by omega) o1 []
      refine ⟨?_, ev_run (ev_seq (ev_asg (ev_bin rfl rfl rfl) rfl) (ev_seq (ev_if_f (by walk_at "kw") rfl) (ev_seq (ev_if_f (by walk_at "kw") rfl) (ev_seq_rt (ev_if_t (by walk_at "kw") (ev_ret (ev_bin rfl (ev_call (ev_cons rfl ev_nil) q) ?_)))))))⟩
      show (if okMul c (fin b) then some (W.int (c * fin b), ([] : Store)) else none) = some (W.int (fin (.loop c b)), [])
      rw [if_pos (okMul_of (by omega) (by omega) (by omega) (by omega)), fin]
    | seq ps =>
      rw [dep] at hd
      rw [Ok] at ho
      refine ⟨?_, ev_run (ev_seq (ev_asg (ev_bin rfl rfl rfl) rfl) (ev_seq (ev_if_f (by walk_at "kw") rfl) (ev_seq (ev_if_f (by walk_at "kw") rfl) (ev_seq (ev_if_f (by walk_at "kw") rfl) (ev_seq (ev_asg (kids ps (by omega) ho.1 ho.2 _ _ _ _) rfl) (ev_seq_rt (ev_if_t (by walk_at "kw") (ev_ret (ev_call (ev_cons rfl ev_nil) ?_)))))))))⟩
      show (intsOf ((fins ps).map W.int)).map (fun ns => (W.int ns.sum, _)) = _
      rw [intsOf_map, fin]
      rfl
    | join ps =>
      rw [dep] at hd
      rw [Ok] at ho
      refine ⟨?_, ev_run (ev_seq (ev_asg (ev_bin rfl rfl rfl) rfl) (ev_seq (ev_if_f (by walk_at "kw") rfl) (ev_seq (ev_if_f (by walk_at "kw") rfl) (ev_seq (ev_if_f (by walk_at "kw") rfl) (ev_seq (ev_asg (kids ps (by omega) ho.1 ho.2.1 _ _ _ _) rfl) (ev_seq (ev_if_f (by walk_at "kw") rfl) (ev_ret (ev_mif_t (by walk_at "kw") (ev_call (ev_cons rfl ev_nil) ?_)))))))))⟩
      show (intsOf ((fins ps).map W.int)).bind (fun ns => if ns.isEmpty then none else some (W.int (lmax ns), _)) = _
      rw [intsOf_map, fin]
      show (if (fins ps).isEmpty = true then none else some (W.int (lmax (fins ps)), _)) = _
      rw [ne ps ho.2.2]
      rfl
    | race ps =>
      rw [dep] at hd
      rw [Ok] at ho
      refine ⟨?_, ev_run (ev_seq (ev_asg (ev_bin rfl rfl rfl) rfl) (ev_seq (ev_if_f (by walk_at "kw") rfl) (ev_seq (ev_if_f (by walk_at "kw") rfl) (ev_seq (ev_if_f (by walk_at "kw") rfl) (ev_seq (ev_asg (kids ps (by omega) ho.1 ho.2.1 _ _ _ _) rfl) (ev_seq (ev_if_f (by walk_at "kw") rfl) (ev_ret (ev_mif_f (by walk_at "kw") (ev_call (ev_cons rfl ev_nil) ?_)))))))))⟩
      show (intsOf ((fins ps).map W.int)).bind (fun ns => if ns.isEmpty then none else some (W.int (lmin ns), _)) = _
      rw [intsOf_map, fin]
      show (if (fins ps).isEmpty = true then none else some (W.int (lmin (fins ps)), _)) = _
      rw [ne ps ho.2.2]
      rfl
end L2.Aw.K78

namespace L2.Aw.K78
open PySem PySem.Spec PyProof.Rows
theorem take_ok {n p k : Nat} {S : Store} {bound : Int} (hp : Pot p S k) (hk : k ≤ 1000000000) (h0 : 0 < bound) (h1 : bound < 10 ^ 90) :
    ∃ r S', sem (n + 1) ._law_take [.ref p, .int bound] S = some (.int r, S') ∧ 0 ≤ r ∧ r < bound ∧ Drew p S S' k (k + 1) := by
  have hlt := hp.lt
  obtain ⟨a, b, c, g, ha, hb, hb2, hc, hc2⟩ := hp
  by_cases h : 0 < a
  · refine ⟨a % bound, S.set p (.lst [.int (a / bound), .int b, .int c]), ?_, Int.emod_nonneg _ (by omega), Int.emod_lt_of_pos _ h0, ⟨⟨a / bound, b, c, getL_set hlt, Int.ediv_nonneg (by omega) (by omega), hb, hb2, hc, by omega⟩, Grow.set rfl⟩⟩
    refine ev_run (ev_seq_rt (ev_if_t (evt_gt (ev_ixL rfl rfl g rfl) rfl h) ?_))
    refine ev_seq (ev_asg (ev_modI (ev_ixL rfl rfl g rfl) rfl h0) rfl) ?_
    refine ev_seq (ev_setIx (ev_divI (ev_ixL rfl rfl g rfl) rfl (okDiv_of h0 (by omega))) rfl rfl g rfl) ?_
    exact ev_ret rfl
  · have pr : ∃ q : Int, atI [W.int 2147483647, .int 2147483629, .int 2147483587, .int 2147483579, .int 2147483563] ((c + 1) % 5) = some (.int q) ∧ 0 < q ∧ q < 2147483648 := by
      have e : (c + 1) % 5 = 0 ∨ (c + 1) % 5 = 1 ∨ (c + 1) % 5 = 2 ∨ (c + 1) % 5 = 3 ∨ (c + 1) % 5 = 4 := by omega
      rcases e with e | e | e | e | e <;> rw [e] <;> exact ⟨_, rfl, by decide, by decide⟩
    obtain ⟨q, hq, q0, q1⟩ := pr
    have g2 : getL (S.set p (.lst [.int a, .int b, .int (c + 1)])) p = some [.int a, .int b, .int (c + 1)] := getL_set hlt
    have g3 : getL (S.set p (.lst [.int a, .int b, .int (c + 1)]) ++ [.lst [.int 2147483647, .int 2147483629, .int 2147483587, .int 2147483579, .int 2147483563]]) p = some [.int a, .int b, .int (c + 1)] := getL_old g2
    have c9 : c + 1 ≤ 10 ^ 10 := by omega
    have m1 : 0 ≤ (c + 1) * (c + 1) ∧ (c + 1) * (c + 1) ≤ 10 ^ 20 := ⟨Int.mul_nonneg (by omega) (by omega), by
      have := Int.mul_le_mul c9 c9 (by omega) (by omega)
      omega⟩
    have m2 : 99991 * (c + 1) * (c + 1) = 99991 * ((c + 1) * (c + 1)) := Int.mul_assoc _ _ _
    let base := b + 99991 * (c + 1) * (c + 1) + 23
    have hbase : 0 ≤ base ∧ base < 10 ^ 30 := by
      show 0 ≤ b + 99991 * (c + 1) * (c + 1) + 23 ∧ b + 99991 * (c + 1) * (c + 1) + 23 < 10 ^ 30
      rw [m2]
      omega
    let mixed := base ^ (3 : Int).toNat % q
    have hm : 0 ≤ mixed ∧ mixed < 2147483648 := ⟨Int.emod_nonneg _ (by omega), by
      have := Int.emod_lt_of_pos (base ^ (3 : Int).toNat) q0
      show base ^ (3 : Int).toNat % q < _
      omega⟩
    refine ⟨mixed * (mixed % 10007 + 71 * (c + 1)) % 2305843009213693907 / 103 % bound, S.set p (.lst [.int a, .int b, .int (c + 1)]) ++ [.lst [.int 2147483647, .int 2147483629, .int 2147483587, .int 2147483579, .int 2147483563]], ?_, Int.emod_nonneg _ (by omega), Int.emod_lt_of_pos _ h0, ⟨⟨a, b, c + 1, g3, ha, hb, hb2, by omega, by omega⟩, (Grow.set (p := (· = p)) rfl).trans (Grow.push _)⟩⟩
    refine ev_run (ev_seq (ev_if_f (evf_gt (ev_ixL rfl rfl g rfl) rfl h) rfl) ?_)
    refine ev_seq (ev_setIx (ev_addI (ev_ixL rfl rfl g rfl) rfl) rfl rfl g rfl) ?_
    refine ev_seq (ev_asg (ev_ixL (ev_lst (ev_cons rfl (ev_cons rfl (ev_cons rfl (ev_cons rfl (ev_cons rfl ev_nil))))) rfl) (ev_modI (ev_ixL rfl rfl (getL_old g2) rfl) rfl (by decide)) getL_new hq) rfl) ?_
    refine ev_seq (ev_asg (ev_modI (ev_powI (ev_addI (ev_addI (ev_ixL rfl rfl g3 rfl) (ev_mulI (ev_mulI rfl (ev_ixL rfl rfl g3 rfl) (okMul_of (by omega) (by omega) (by omega) (by omega))) (ev_ixL rfl rfl g3 rfl) (okMul_of (by omega) (by omega) (by omega) (by omega)))) rfl) rfl (okPow_of (by decide) (by decide) (by omega) (by omega))) rfl q0) rfl) ?_
    have m3 : 0 ≤ mixed % 10007 ∧ mixed % 10007 < 10007 := by omega
    exact ev_ret (ev_modI (ev_divI (ev_modI (ev_mulI rfl (ev_addI (ev_modI rfl rfl (by decide)) (ev_mulI rfl (ev_ixL rfl rfl g3 rfl) (okMul_of (by omega) (by omega) (by omega) (by omega)))) (okMul_of (by omega) (by omega) (by omega) (by omega))) rfl (by decide)) rfl (okDiv_of (by decide) (by decide))) rfl h0)
theorem of_ok {n p k l : Nat} {S : Store} {ws : List W} (hp : Pot p S k) (hk : k ≤ 1000000000) (hl : getL S l = some ws) (hlp : l ≠ p) (hne : ws ≠ []) (hlen : ws.length ≤ 1000000) :
    ∃ w S', sem (n + 2) ._law_of [.ref p, .ref l] S = some (w, S') ∧ w ∈ ws ∧ Drew p S S' k (k + 1) := by
  have h0 : 0 < ws.length := List.length_pos_iff.mpr hne
  obtain ⟨r, S', e, r0, r1, d⟩ := take_ok (n := n) (bound := (ws.length : Int)) hp hk (by omega) (by omega)
  obtain ⟨w, hw, hm⟩ := atI_in r0 r1
  exact ⟨w, S', ev_run (ev_ret (ev_ixL rfl (ev_call (ev_cons rfl (ev_cons (ev_lenS (ev_cons rfl ev_nil) hl) ev_nil)) e) (d.gr.getL hl hlp) hw)), hm, d⟩
theorem word_ok {n p k : Nat} {S : Store} (hp : Pot p S k) (hk : k ≤ 1000000000) : ∃ x S', sem (n + 3) ._law_word [.ref p] S = some (wv x, S') ∧ x ∈ lawWords ∧ Drew p S S' k (k + 1) := by
  have hlt := hp.lt
  have d0 := Drew.of_push hp [.lst (lawWords.map wv)]
  obtain ⟨w, S', e, hm, d⟩ := of_ok (n := n) (l := S.length) d0.pot hk getL_new (by omega) (by simp [lawWords]) (by simp [lawWords])
  obtain ⟨x, hx, ex⟩ := List.mem_map.mp hm
  subst ex
  exact ⟨x, S', ev_run (ev_ret (ev_call (ev_cons rfl (ev_cons (ev_lst (ev_cons rfl (ev_cons rfl (ev_cons rfl (ev_cons rfl (ev_cons rfl (ev_cons rfl (ev_cons rfl (ev_cons rfl ev_nil)))))))) rfl) ev_nil)) e)), hx, d0.trans d⟩
theorem leaf_ok {n p k : Nat} {S : Store} (hp : Pot p S k) (hk : k ≤ 100000000) : ∃ t S', sem (n + 4) ._law_leaf [.ref p] S = some (enc t, S') ∧ PlainT t ∧ nodes t = 1 ∧ dep t = 1 ∧ Drew p S S' k (k + 2) := by
  obtain ⟨r, S1, e1, r0, r1, d1⟩ := take_ok (n := n + 2) (bound := 5) hp (by omega) (by decide) (by decide)
  by_cases h : r < 3
  · obtain ⟨x, S2, e2, hx, d2⟩ := word_ok (n := n) d1.pot (by omega)
    refine ⟨.log x, S2, ev_run (ev_seq_rt (ev_if_t (evt_lt (ev_call (ev_cons rfl (ev_cons rfl ev_nil)) e1) rfl h) (ev_ret (ev_tup (ev_cons rfl (ev_cons (ev_call (ev_cons rfl ev_nil) e2) ev_nil)) rfl)))), hx, by rw [nodes], by rw [dep], d1.trans d2⟩
  · obtain ⟨m, S2, e2, m0, m1, d2⟩ := take_ok (n := n + 2) (bound := 3) d1.pot (by omega) (by decide) (by decide)
    refine ⟨.await (1 + m), S2, ev_run (ev_seq (ev_if_f (evf_lt (ev_call (ev_cons rfl (ev_cons rfl ev_nil)) e1) rfl h) rfl) (ev_ret (ev_tup (ev_cons rfl (ev_cons (ev_addI rfl (ev_call (ev_cons rfl (ev_cons rfl ev_nil)) e2)) ev_nil)) rfl))), ⟨by omega, by omega⟩, by rw [nodes], by rw [dep], d1.trans d2⟩
theorem plain_leaf {n d p k : Nat} {S : Store} {size deep : Int} {way : Int} {S1 : Store} (e1 : sem (n + 4) ._law_take [.ref p, .int 9] S = some (.int way, S1)) (hp : Pot p S1 k) (hk : k ≤ 10000001) (h : way < 2 ∨ size < 2 ∨ deep < 2) :
    ∃ t S', sem (n + 5) ._law_plain [.ref p, .int size, .int deep] S = some (enc t, S') ∧ PlainT t ∧ nodes t = 1 ∧ dep t = 1 ∧ Drew p S1 S' k (k + 2) := by
  obtain ⟨t, S2, e2, q1, q2, q3, d2⟩ := leaf_ok (n := n) hp (by omega)
  refine ⟨t, S2, ev_run (ev_seq (ev_asg (ev_call (ev_cons rfl (ev_cons rfl ev_nil)) e1) rfl) (ev_seq_rt (ev_if_t ?_ (ev_ret (ev_call (ev_cons rfl ev_nil) e2))))), q1, q2, q3, d2⟩
  by_cases a : way < 2
  · exact ev_or_t (evt_lt rfl rfl a)
  · refine ev_or_f (evf_lt rfl rfl a) ?_
    by_cases b : size < 2
    · exact ev_or_t (evt_lt rfl rfl b)
    · exact ev_or_f (evf_lt rfl rfl b) (evt_lt rfl rfl (by omega))
theorem plain_ok : ∀ (d n p k : Nat) (S : Store) (size deep : Int), Pot p S k → 0 ≤ size → size ≤ 1000 → k + 4 * (max 1 size).toNat ≤ 10000000 → deep ≤ (d : Int) → ∃ t S', sem (n + d + 5) ._law_plain [.ref p, .int size, .int deep] S = some (enc t, S') ∧ PlainT t ∧ (nodes t : Int) ≤ max 1 size ∧ dep t ≤ max 1 d ∧ Drew p S S' k (k + 4 * (max 1 size).toNat) := by
  intro d
  induction d with
  | zero =>
    intro n p k S size deep hp h0 h1 hk hd
    obtain ⟨way, S1, e1, w0, w1, d1⟩ := take_ok (n := n + 3) (bound := 9) hp (by omega) (by decide) (by decide)
    obtain ⟨t, S2, e2, q1, q2, q3, d2⟩ := plain_leaf (n := n) (d := 0) (size := size) (deep := deep) e1 d1.pot (by omega) (by omega)
    exact ⟨t, S2, e2, q1, by omega, by omega, (d1.trans d2).mono (by omega)⟩
  | succ d ih =>
    intro n p k S size deep hp h0 h1 hk hd
    have en : n + (d + 1) + 5 = (n + d + 5) + 1 := by omega
    rw [en]
    obtain ⟨way, S1, e1, w0, w1, d1⟩ := take_ok (n := n + d + 4) (bound := 9) hp (by omega) (by decide) (by decide)
    by_cases hl : way < 2 ∨ size < 2 ∨ deep < 2
    · obtain ⟨t, S2, e2, q1, q2, q3, d2⟩ := plain_leaf (n := n + d + 1) (d := 0) (size := size) (deep := deep) e1 d1.pot (by omega) hl
      exact ⟨t, S2, e2, q1, by omega, by omega, (d1.trans d2).mono (by omega)⟩
    have a1 : ¬ way < 2 := fun h => hl (.inl h)
    have a2 : ¬ size < 2 := fun h => hl (.inr (.inl h))
    have a3 : ¬ deep < 2 := fun h => hl (.inr (.inr h))
    by_cases hw : way = 2
    · obtain ⟨t, S2, e2, q1, q2, q3, d2⟩ := ih n p (k + 1) S1 (size - 1) (deep - 1) d1.pot (by omega) (by omega) (by omega) (by omega)
      refine ⟨.fork t, S2, ev_run (ev_seq (ev_asg (ev_call (ev_cons rfl (ev_cons rfl ev_nil)) e1) rfl) (ev_seq (ev_if_f (ev_or_f (evf_lt rfl rfl a1) (ev_or_f (evf_lt rfl rfl a2) (evf_lt rfl rfl a3))) rfl) (ev_seq_rt (ev_if_t (evt_eq rfl rfl hw) (ev_ret (ev_tup (ev_cons rfl (ev_cons (ev_call (ev_cons rfl (ev_cons (ev_subI rfl rfl) (ev_cons (ev_subI rfl rfl) ev_nil))) e2) ev_nil)) rfl)))))), q1, ?_, ?_, (d1.trans d2).mono (by omega)⟩
      · rw [nodes]; omega
      · rw [dep]; omega
    -- how many parts
    have hm : ∃ (m : Int) (S2 : Store), mIf (mTest (mBin wLt (mVar 3) (mC (.int 7)))) (mBin wAdd (mC (.int 1)) (mCall (sem (n + d + 5) ._law_take) (aCons (mVar 0) (aCons (mC (.int 3)) aNil)))) (mCall (sem (n + d + 5) ._law_take) (aCons (mVar 0) (aCons (mC (.int 5)) aNil))) [some (.ref p), some (.int size), some (.int deep), some (.int way), none, none, none] S1 = some (.int m, S2) ∧ 0 ≤ m ∧ m ≤ 5 ∧ (way < 7 → 1 ≤ m) ∧ Drew p S1 S2 (k + 1) (k + 2) := by
      by_cases h7 : way < 7
      · obtain ⟨m, S2, e2, m0, m1, d2⟩ := take_ok (n := n + d + 4) (bound := 3) d1.pot (by omega) (by decide) (by decide)
        exact ⟨1 + m, S2, ev_mif_t (evt_lt rfl rfl h7) (ev_addI rfl (ev_call (ev_cons rfl (ev_cons rfl ev_nil)) e2)), by omega, by omega, by omega, d2⟩
      · obtain ⟨m, S2, e2, m0, m1, d2⟩ := take_ok (n := n + d + 4) (bound := 5) d1.pot (by omega) (by decide) (by decide)
        exact ⟨m, S2, ev_mif_f (evf_lt rfl rfl h7) (ev_call (ev_cons rfl (ev_cons rfl ev_nil)) e2), by omega, by omega, by omega, d2⟩
    obtain ⟨m, S2, em, m0, m1, m7, d2⟩ := hm
    let many := min (size - 1) m
    have hmany : 0 ≤ many ∧ many ≤ 5 ∧ (way < 7 → 1 ≤ many) ∧ many ≤ size - 1 := by
      show 0 ≤ min (size - 1) m ∧ min (size - 1) m ≤ 5 ∧ (way < 7 → 1 ≤ min (size - 1) m) ∧ min (size - 1) m ≤ size - 1
      omega
    obtain ⟨y0, y1, y2, y3⟩ := hmany
    let sz := (size - 1) / max 1 many
    have hmx : 0 < max 1 many := by omega
    have hs0 : 0 ≤ sz := Int.ediv_nonneg (by omega) (by omega)
    have hsm : sz * max 1 many ≤ size - 1 := Int.ediv_mul_le (size - 1) (by omega)
    have hs1 : 1 ≤ sz := by
      refine (Int.le_ediv_iff_mul_le hmx).mpr ?_
      omega
    have hsz : sz ≤ size - 1 := Int.le_trans (by have := Int.mul_le_mul_of_nonneg_left (show (1 : Int) ≤ max 1 many by omega) hs0; omega) hsm
    have hmm : many.toNat * (4 * sz.toNat) ≤ 4 * (size - 1).toNat := by
      have : many * sz ≤ size - 1 := Int.le_trans (Int.mul_le_mul_of_nonneg_right (by omega) hs0) (Int.mul_comm sz _ ▸ hsm)
      have e : ((many.toNat * sz.toNat : Nat) : Int) = many * sz := by
        rw [Int.natCast_mul, Int.toNat_of_nonneg y0, Int.toNat_of_nonneg hs0]
      have : many.toNat * sz.toNat ≤ (size - 1).toNat := by omega
      rw [Nat.mul_left_comm]
      omega
    obtain ⟨acc, S3, ec, hal, hd3, hac⟩ := ev_lc_inv (env := [some (.ref p), some (.int size), some (.int deep), some (.int way), some (.int many), none, none]) (S := S2) (mi := iRange1 (aCons (mVar 4) aNil)) (tg := .nm 6) (vs := [6]) (el := mCall (sem (n + d + 5) ._law_plain) (aCons (mVar 0) (aCons (mBin wFdiv (mBin wSub (mVar 1) (mC (.int 1))) (mCall cMax (aCons (mC (.int 1)) (aCons (mVar 4) aNil)))) (aCons (mBin wSub (mVar 2) (mC (.int 1))) aNil))))
      (P := fun i acc σ => Drew p S2 σ (k + 2) (k + 2 + i * (4 * sz.toNat)) ∧ ∀ w ∈ acc, ∃ t, w = enc t ∧ PlainT t ∧ nodes t ≤ sz.toNat ∧ dep t ≤ max 1 d)
      (ev_range1 (ev_cons rfl ev_nil) (okRng_of (by omega) (by omega))) ⟨(Drew.refl d2.pot).mono (by omega), fun w h => nomatch h⟩ (by
        intro i acc σ hi hP
        have hi' : i < many.toNat := hi
        have hi2 : (i + 1) * (4 * sz.toNat) ≤ many.toNat * (4 * sz.toNat) := Nat.mul_le_mul_right _ hi'
        rw [Nat.add_mul, Nat.one_mul] at hi2
        have hi3 : i * (4 * sz.toNat) ≤ many.toNat * (4 * sz.toNat) := Nat.mul_le_mul_right _ (Nat.le_of_lt hi')
        obtain ⟨t, σ2, e4, q1, q2, q3, d4⟩ := ih n p (k + 2 + i * (4 * sz.toNat)) σ sz (deep - 1) hP.1.pot hs0 (by omega) (by omega) (by omega)
        refine ⟨_, _, enc t, σ2, rfl, rfl, ev_call (ev_cons rfl (ev_cons (ev_divI (ev_subI rfl rfl) (ev_max2 (ev_cons rfl (ev_cons rfl ev_nil))) (okDiv_of hmx (by omega))) (ev_cons (ev_subI rfl rfl) ev_nil))) e4, (hP.1.trans d4).mono ?_, ?_⟩
        · rw [Nat.add_mul]; omega
        · intro w hw
          rcases List.mem_append.mp hw with h | h
          · exact hP.2 w h
          · rw [List.mem_singleton.mp h]
            exact ⟨t, rfl, q1, by omega, q3⟩) (fun _ _ _ => rfl) (szOk_of (show many.toNat ≤ 16777216 by omega))
    have hal' : acc.length = many.toNat := hal
    obtain ⟨ts, ets, hts⟩ := encs_of hac
    have htl : ts.length = many.toNat := by rw [← hal', ets, encs_length]
    have hnd : nodess ts ≤ sz.toNat * many.toNat := htl ▸ nodess_bound (c := sz.toNat) fun t ht => (hts t ht).2.1
    have hdp : deps ts ≤ max 1 d := deps_bound fun t ht => (hts t ht).2.2
    have hpl : PlainTs ts := PlainTs.of fun t ht => (hts t ht).1
    have hnd2 : (nodess ts : Int) + 1 ≤ size := by
      have hx : many.toNat * (4 * sz.toNat) = 4 * (sz.toNat * many.toNat) := by rw [Nat.mul_left_comm, Nat.mul_comm many.toNat]
      omega
    have hD : Drew p S S3 k (k + 4 * (max 1 size).toNat) := ((d1.trans d2).trans hd3).mono (by
      show k + 2 + many.toNat * (4 * sz.toNat) ≤ _
      omega)
    have fin_ : ∀ (x : Str) (t : Tree), enc t = .tup [.str x, .tup (encs ts)] → atI [W.str "join", .str "join", .str "race", .str "race", .str "seq", .str "seq"] (way - 3) = some (.str x) → sem (n + d + 5 + 1) ._law_plain [.ref p, .int size, .int deep] S = some (enc t, S3 ++ [.lst acc] ++ [.lst [W.str "join", .str "join", .str "race", .str "race", .str "seq", .str "seq"]]) := by
      intro x t et ea
      rw [et]
      refine ev_run (ev_seq (ev_asg (ev_call (ev_cons rfl (ev_cons rfl ev_nil)) e1) rfl) (ev_seq (ev_if_f (ev_or_f (evf_lt rfl rfl a1) (ev_or_f (evf_lt rfl rfl a2) (evf_lt rfl rfl a3))) rfl) (ev_seq (ev_if_f (evf_eq rfl rfl hw) rfl) (ev_seq (ev_asg (ev_min2 (ev_cons (ev_subI rfl rfl) (ev_cons em ev_nil))) rfl) (ev_seq (ev_asg (ev_tupOf (ev_cons ec ev_nil) getL_new) rfl) ?_)))))
      refine ev_ret (ev_tup (ev_cons (ev_ixL (ev_lst (ev_cons rfl (ev_cons rfl (ev_cons rfl (ev_cons rfl (ev_cons rfl (ev_cons rfl ev_nil)))))) rfl) (ev_subI rfl rfl) getL_new ea) (ev_cons ?_ ev_nil)) rfl)
      rw [← ets]
      rfl
    have h6 : way = 3 ∨ way = 4 ∨ way = 5 ∨ way = 6 ∨ way = 7 ∨ way = 8 := by omega
    have hD2 := (hD.push [.lst acc]).push [.lst [W.str "join", .str "join", .str "race", .str "race", .str "seq", .str "seq"]]
    have hne : way < 7 → ts ≠ [] := fun h e => by rw [e] at htl; have := y2 h; simp at htl; omega
    have hmax : (max 1 size) = size := by omega
    rcases h6 with e | e | e | e | e | e
    · exact ⟨.join ts, _, fin_ _ (.join ts) (by rw [enc]) (by rw [e]; rfl), ⟨hpl, hne (by omega)⟩, by rw [nodes]; omega, by rw [dep]; omega, hD2⟩
    · exact ⟨.join ts, _, fin_ _ (.join ts) (by rw [enc]) (by rw [e]; rfl), ⟨hpl, hne (by omega)⟩, by rw [nodes]; omega, by rw [dep]; omega, hD2⟩
    · exact ⟨.race ts, _, fin_ _ (.race ts) (by rw [enc]) (by rw [e]; rfl), ⟨hpl, hne (by omega)⟩, by rw [nodes]; omega, by rw [dep]; omega, hD2⟩
    · exact ⟨.race ts, _, fin_ _ (.race ts) (by rw [enc]) (by rw [e]; rfl), ⟨hpl, hne (by omega)⟩, by rw [nodes]; omega, by rw [dep]; omega, hD2⟩
    · exact ⟨.seq ts, _, fin_ _ (.seq ts) (by rw [enc]) (by rw [e]; rfl), hpl, by rw [nodes]; omega, by rw [dep]; omega, hD2⟩
    · exact ⟨.seq ts, _, fin_ _ (.seq ts) (by rw [enc]) (by rw [e]; rfl), hpl, by rw [nodes]; omega, by rw [dep]; omega, hD2⟩
end L2.Aw.K78

namespace L2.Aw.K78
open PySem PySem.Spec PyProof.Rows
local macro_rules | `(tactic| walk_at "kw") => `(tactic| first | exact ev_eqT rfl rfl | exact ev_eqF rfl rfl | exact ev_inK rfl (ev_tup (ev_cons rfl (ev_cons rfl ev_nil)) rfl) | exact ev_neF rfl rfl | exact ev_neT rfl rfl)
theorem end_gen : ∀ (n : Nat) (t : Tree), dep t ≤ n → Fb t → Ok t → ∀ S, sem n ._law_end [enc t] S = some (.int (fin t), S) := by
  intro n
  induction n with
  | zero => intro t h; cases t <;> (rw [dep] at h; omega)
  | succ n ih =>
    intro t hd hfl ho S
    suffices h : ∃ S1, runB 3 (b__law_end (sem n)) [enc t] [] = some (.int (fin t), S1) by
      obtain ⟨S1, h⟩ := h
      exact ev_pure (pures1 (enc_pure t)) h pure_int
    have kids : ∀ ps : List Tree, deps ps ≤ n → Fbs ps → Oks ps → ps.length ≤ 1000 → ∀ (k : Str),
        mLc (iSeq (mBin wIx (mVar 0) (mC (.int 1)))) (.nm 2) tYesW (mCall (sem n ._law_end) (aCons (mVar 2) aNil)) [2] [some (.tup [.str k, .tup (encs ps)]), none, none] [] = some (.ref 0, [.lst ((fins ps).map W.int)]) := by
      intro ps h1 h2 ho hlen k
      rw [← fins_ints]
      have hl : ps.length ≤ 16777216 := by omega
      refine ev_kids (S1 := []) (ps := ps) (g := fun p => .int (fin p)) rfl hl ?_
      intro p hp
      exact ev_call (ev_cons rfl ev_nil) (ih p (Nat.le_trans (dep_le hp) h1) (h2.mem hp).1 (ho.mem hp) _)
    have whole : ∀ (k : Str) (ps : List Tree) (v : Int), deps ps ≤ n → Fbs ps → Oks ps → ps.length ≤ 1000 → k = "seq" ∨ k = "join" ∨ k = "race" →
        valW (mergeW [] [(Sum.inr (α := Int) (β := Str) "seq", .int (fins ps).sum), (Sum.inr (α := Int) (β := Str) "join", .int (lmax (fins ps ++ [0]))), (Sum.inr (α := Int) (β := Str) "race", .int (lmin (fins ps ++ [10 ^ 60])))]) (Sum.inr (α := Int) (β := Str) k) = some (.int v) →
        ∃ S1, runB 3 (b__law_end (sem n)) [.tup [.str k, .tup (encs ps)]] [] = some (.int v, S1) := by
      intro k ps v h1 h2 ho hlen hk hv
      have e1 : sIf (mTest (mBin (wIn false) (mBin wIx (mVar 0) (mC (.int 0))) (mTup (aCons (mC (.str "log")) (aCons (mC (.str "fork")) aNil))))) (sRet (mC (.int 0))) sNext [some (.tup [.str k, .tup (encs ps)]), none, none] [] = some (.nx [some (.tup [.str k, .tup (encs ps)]), none, none] []) := by
        rcases hk with e | e | e <;> subst e <;> exact ev_if_f (by walk_at "kw") rfl
      have e2 : ∀ R : WE, sIf (mTest (mBin (fEq false) (mBin wIx (mVar 0) (mC (.int 0))) (mC (.str "await")))) (sRet R) sNext [some (.tup [.str k, .tup (encs ps)]), none, none] [] = some (.nx [some (.tup [.str k, .tup (encs ps)]), none, none] []) := by
        intro R
        rcases hk with e | e | e <;> subst e <;> exact ev_if_f (by walk_at "kw") rfl
      have e3 : ∀ R : WE, sIf (mTest (mBin (fEq false) (mBin wIx (mVar 0) (mC (.int 0))) (mC (.str "loop")))) (sRet R) sNext [some (.tup [.str k, .tup (encs ps)]), none, none] [] = some (.nx [some (.tup [.str k, .tup (encs ps)]), none, none] []) := by
        intro R
        rcases hk with e | e | e <;> subst e <;> exact ev_if_f (by walk_at "kw") rfl
      have hz : (fins ps).length ≤ 1000 := by rw [fins_map, List.length_map]; exact hlen
      have lens : ∀ z : Int, szOk (((fins ps).map W.int).length + [W.int z].length) = true := fun z => szOk_of (by rw [List.length_map]; show _ + 1 ≤ _; omega)
      let σ1 : Store := [.lst ((fins ps).map W.int)]
      let σ2 : Store := σ1 ++ [.lst [.int 0]] ++ [.lst ((fins ps).map W.int ++ [.int 0])]
      let σ3 : Store := σ2 ++ [.lst [.int (10 ^ (60 : Int).toNat)]] ++ [.lst ((fins ps).map W.int ++ [.int (10 ^ (60 : Int).toNat)])]
      let env : WEnv := [some (.tup [.str k, .tup (encs ps)]), some (.ref 0), none]
      have eM : mCall cMax (aCons (mBin wAdd (mVar 1) (mLst (aCons (mC (.int 0)) aNil))) aNil) env σ1 = some (.int (lmax (fins ps ++ [0])), σ2) :=
        ev_maxL (ns := fins ps ++ [0]) (ev_cons (ev_catL rfl (ev_lst (ev_cons rfl ev_nil) rfl) rfl rfl (lens 0)) ev_nil) (by rw [List.map_append]; rfl) (by simp)
      have eR : mCall cMin (aCons (mBin wAdd (mVar 1) (mLst (aCons (mBin wPow (mC (.int 10)) (mC (.int 60))) aNil))) aNil) env σ2 = some (.int (lmin (fins ps ++ [10 ^ (60 : Int).toNat])), σ3) :=
        ev_minL (ns := fins ps ++ [10 ^ (60 : Int).toNat]) (ev_cons (ev_catL rfl (ev_lst (ev_cons (ev_powI rfl rfl (okPow_of (by decide) (by decide) (by decide) (by omega))) ev_nil) rfl) rfl rfl (lens _)) ev_nil) (by rw [List.map_append]; rfl) (by simp)
      have eD := ev_disp (ev_pairs (env := env) (S := σ1) (mk := mC (.str "seq")) rfl (ev_sum (mes := aCons (mVar 1) aNil) (ns := fins ps) (ev_cons rfl ev_nil) rfl) rfl (ev_pairs (mk := mC (.str "join")) rfl eM rfl (ev_pairs (r := []) (l := []) (mk := mC (.str "race")) rfl eR rfl rfl))) (Nat.le_of_ble_eq_true rfl)
      exact ⟨_, ev_run (ev_seq e1 (ev_seq (e2 _) (ev_seq (e3 _) (ev_seq (ev_asg (kids ps h1 h2 ho hlen k) rfl) (ev_ret (ev_dget eD (ev_ixT rfl rfl rfl) getD_new rfl hv))))))⟩
    cases t with
    | log w => exact ⟨_, ev_run (ev_seq_rt (ev_if_t (by walk_at "kw") rfl))⟩
    | await w => exact ⟨_, ev_run (ev_seq (ev_if_f (by walk_at "kw") rfl) (ev_seq_rt (ev_if_t (by walk_at "kw") (ev_ret rfl))))⟩
    | fork w => exact ⟨_, ev_run (ev_seq_rt (ev_if_t (by walk_at "kw") rfl))⟩
    | loop c b =>
      rw [dep] at hd
      rw [Ok] at ho
      rw [Fb] at hfl
      have q := ih b (by omega) hfl ho.1 []
      have o2 := ho.2
      exact ⟨_, ev_run (ev_seq (ev_if_f (by walk_at "kw") rfl) (ev_seq (ev_if_f (by walk_at "kw") rfl) (ev_seq_rt (ev_if_t (by walk_at "kw") (ev_ret (ev_mulI (ev_ixT rfl rfl rfl) (ev_call (ev_cons (ev_ixT rfl rfl rfl) ev_nil) q) (okMul_of (by omega) (by omega) (by omega) (by omega))))))))⟩
    | seq ps =>
      rw [dep] at hd
      rw [Ok] at ho
      rw [Fb] at hfl
      rw [enc, fin]
      exact whole _ _ _ (by omega) hfl ho.1 ho.2 (by simp) rfl
    | join ps =>
      rw [dep] at hd
      rw [Ok] at ho
      rw [Fb] at hfl
      rw [enc, fin]
      refine whole _ _ _ (by omega) hfl ho.1 ho.2.1 (by simp) ?_
      have hv : lmax (fins ps ++ [0]) = lmax (fins ps) := by
        have hne := fins_ne ho.2.2
        have a1 : lmax (fins ps) ≤ lmax (fins ps ++ [0]) := lmax_le (List.mem_append_left _ (lmax_mem hne))
        obtain ⟨p, hp, e⟩ := mem_fins (lmax_mem hne)
        have := fin_nonneg p (ho.1.mem hp)
        rcases List.mem_append.mp (lmax_mem (show fins ps ++ [0] ≠ [] by simp)) with h | h
        · have := lmax_le h; omega
        · have := List.mem_singleton.mp h; omega
      show some (W.int (lmax (fins ps ++ [0]))) = _
      rw [hv]
    | race ps =>
      rw [dep] at hd
      rw [Ok] at ho
      rw [Fb] at hfl
      rw [enc, fin]
      refine whole _ _ _ (by omega) hfl ho.1 ho.2.1 (by simp) ?_
      have hv : lmin (fins ps ++ [10 ^ 60]) = lmin (fins ps) := by
        have hne := fins_ne ho.2.2
        have a1 : lmin (fins ps ++ [10 ^ 60]) ≤ lmin (fins ps) := lmin_le (List.mem_append_left _ (lmin_mem hne))
        obtain ⟨p, hp, e⟩ := mem_fins (lmin_mem hne)
        have := (hfl.mem hp).2
        rcases List.mem_append.mp (lmin_mem (show fins ps ++ [10 ^ 60] ≠ [] by simp)) with h | h
        · have := lmin_le h; omega
        · have := List.mem_singleton.mp h; omega
      show some (W.int (lmin (fins ps ++ [10 ^ 60]))) = _
      rw [hv]
theorem end_ok (n : Nat) (t : Tree) (hd : dep t ≤ n) (hf : Flat t) (ho : Ok t) (ht : tot t ≤ 1000) (S : Store) : sem n ._law_end [enc t] S = some (.int (fin t), S) := end_gen n t hd (Fb.flat t hf (by omega)) ho S
end L2.Aw.K78

namespace L2.Aw.K78
open PySem PySem.Spec PyProof.Rows
theorem body_ok {n p k : Nat} {S : Store} (hp : Pot p S k) (hk : k ≤ 1000000) : ∃ b S', sem (n + 9) ._law_body [.ref p] S = some (enc b, S') ∧ BodyT b ∧ Drew p S S' k (k + 25) := by
  obtain ⟨t, S1, e1, q1, q2, q3, d1⟩ := plain_ok 3 n p k S 6 3 hp (by omega) (by omega) (by omega) (by omega)
  have d1' : Drew p S S1 k (k + 24) := d1.mono (by omega)
  have hn : nodes t ≤ 6 := by omega
  have hd : dep t ≤ 3 := by omega
  have pf := plain_facts t q1
  have ee := end_ok (n + 8) t (by omega) pf.1 (PlainT.ok t q1 (by omega)) (by omega) S1
  have hf := (fin_plain t q1).1
  by_cases h0 : fin t = 0
  · obtain ⟨m, S2, e2, m0, m1, d2⟩ := take_ok (n := n + 7) (bound := 6) d1'.pot (by omega) (by omega) (by omega)
    refine ⟨.seq [t, .await (1 + m)], S2, ?_, .inr (.inl ⟨t, 1 + m, rfl, q1, hn, hd, h0, by omega, by omega⟩), d1'.trans d2⟩
    exact ev_run (ev_seq (ev_asg (ev_call (ev_cons rfl (ev_cons rfl (ev_cons rfl ev_nil))) e1) rfl) (ev_seq_rt (ev_if_t (evt_eq (ev_call (ev_cons rfl ev_nil) ee) rfl h0) (ev_ret (ev_tup (ev_cons rfl (ev_cons (ev_tup (ev_cons rfl (ev_cons (ev_tup (ev_cons rfl (ev_cons (ev_addI rfl (ev_call (ev_cons rfl (ev_cons rfl ev_nil)) e2)) ev_nil)) rfl) ev_nil)) rfl) ev_nil)) rfl)))))
  · by_cases h7 : fin t < 7
    · refine ⟨t, S1, ?_, .inl ⟨q1, hn, hd, by omega, by omega⟩, d1'.mono (by omega)⟩
      exact ev_run (ev_seq (ev_asg (ev_call (ev_cons rfl (ev_cons rfl (ev_cons rfl ev_nil))) e1) rfl) (ev_seq (ev_if_f (evf_eq (ev_call (ev_cons rfl ev_nil) ee) rfl h0) rfl) (ev_ret (ev_mif_t (evt_lt (ev_call (ev_cons rfl ev_nil) ee) rfl h7) rfl))))
    · refine ⟨.seq [.log (.str "x"), .await 6], S1, ?_, .inr (.inr rfl), d1'.mono (by omega)⟩
      exact ev_run (ev_seq (ev_asg (ev_call (ev_cons rfl (ev_cons rfl (ev_cons rfl ev_nil))) e1) rfl) (ev_seq (ev_if_f (evf_eq (ev_call (ev_cons rfl ev_nil) ee) rfl h0) rfl) (ev_ret (ev_mif_f (evf_lt (ev_call (ev_cons rfl ev_nil) ee) rfl h7) rfl))))
end L2.Aw.K78

namespace L2.Aw.K78
open PySem PySem.Spec PyProof.Rows
theorem pot_ok {n : Nat} {ns : List Int} {k : Int} {S : Store} (h0 : 0 ≤ k) (h1 : k ≤ 1000) : ∃ p S', sem (n + 1) ._law_pot [.fz (ns.map W.int), .int k] S = some (.ref p, S') ∧ Pot p S' 0 := by
  have hc : ∃ cell : Int, mIf (mTest (mBin wLt (mVar 1) (mCall cLen (aCons (mVar 0) aNil)))) (mBin wIx (mVar 0) (mVar 1)) (mBin wAdd (mBin wMul (mC (.int 17)) (mVar 1)) (mC (.int 9))) [some (.fz (ns.map W.int)), some (.int k), none, none] S = some (.int cell, S) := by
    by_cases h : k < (ns.map W.int).length
    · obtain ⟨w, hw, hm⟩ := atI_in h0 h
      obtain ⟨i, hi, e⟩ := List.mem_map.mp hm
      subst e
      exact ⟨i, ev_mif_t (evt_lt rfl (ev_lenS (ev_cons rfl ev_nil) rfl) h) (ev_ixF rfl rfl hw)⟩
    · exact ⟨17 * k + 9, ev_mif_f (evf_lt rfl (ev_lenS (ev_cons rfl ev_nil) rfl) h) (ev_addI (ev_mulI rfl rfl (okMul_of (by omega) (by omega) (by omega) (by omega))) rfl)⟩
  obtain ⟨cell, ec⟩ := hc
  let ab : Int := if cell < 0 then -cell else cell
  have hab : 0 ≤ ab := by
    show 0 ≤ if cell < 0 then -cell else cell
    split <;> omega
  let m300 : Int := (10 ^ (60 : Int).toNat) ^ (5 : Int).toNat
  have hm3 : 0 < m300 ∧ m300 < big := by decide +kernel
  have hbig : 1 < big := by decide +kernel
  let bit : Int := if decide (10 ^ (18 : Int).toNat ≤ ab) then 1 else 0
  have hbit : 0 ≤ bit ∧ bit ≤ 1 := by
    show 0 ≤ (if decide (10 ^ (18 : Int).toNat ≤ ab) then (1 : Int) else 0) ∧ (if decide (10 ^ (18 : Int).toNat ≤ ab) then (1 : Int) else 0) ≤ 1
    split <;> omega
  have hmod : 0 ≤ ab % m300 ∧ ab % m300 < m300 := ⟨Int.emod_nonneg _ (by omega), Int.emod_lt_of_pos _ hm3.1⟩
  have ho : okMul (ab % m300) bit = true := by
    simp only [okMul, Bool.and_eq_true, decide_eq_true_eq]
    omega
  have kk : 0 ≤ k * k ∧ k * k ≤ 1000000 := ⟨Int.mul_nonneg h0 h0, by
    have := Int.mul_le_mul h1 h1 h0 (by omega)
    omega⟩
  have e0 : 7919 * k * k = 7919 * (k * k) := Int.mul_assoc _ _ _
  refine ⟨S.length, _, ev_run (ev_seq (ev_asg ec rfl) (ev_seq (ev_asg (ev_mulI (ev_modI (ev_abs (ev_cons rfl ev_nil)) (ev_powI (ev_powI rfl rfl (okPow_of (by decide) (by decide) (by decide) (by omega))) rfl (okPow_of (by decide) (by decide) (by decide +kernel) (by decide +kernel))) hm3.1) (ev_intB (ev_cons (ev_bin (ev_abs (ev_cons rfl ev_nil)) (ev_powI rfl rfl (okPow_of (by decide) (by decide) (by decide) (by omega))) rfl) ev_nil)) ho) rfl) (ev_ret (ev_lst (ev_cons rfl (ev_cons (ev_modI (ev_addI (ev_addI (ev_mulI (ev_modI rfl rfl (by decide)) rfl (okMul_of ?_ ?_ (by omega) (by omega))) (ev_mulI (ev_mulI rfl rfl (okMul_of (by omega) (by omega) (by omega) (by omega))) rfl (okMul_of (by omega) (by omega) (by omega) (by omega)))) rfl) rfl (by decide)) (ev_cons rfl ev_nil))) rfl)))), ?_⟩
  · have := Int.emod_nonneg cell (show (2305843009213693951 : Int) ≠ 0 by decide); omega
  · have := Int.emod_lt_of_pos cell (show (0 : Int) < 2305843009213693951 by decide); omega
  · exact ⟨_, _, 0, getL_new, Int.mul_nonneg hmod.1 hbit.1, Int.emod_nonneg _ (by decide), Int.emod_lt_of_pos _ (by decide), by omega, by omega⟩
end L2.Aw.K78

namespace L2.Aw.K78
open PySem PySem.Spec PyProof.Rows
/-- the test for a loop -/
theorem loop_test {L : List Int} {p l : Nat} {size deep way : Int} {env : WEnv} {S : Store} (hl : getL S l = some (L.map W.int)) (h1 : env[1]? = some (some (.int size))) (h3 : env[3]? = some (some (.ref l))) (h4 : env[4]? = some (some (.int way))) :
    ∃ S', tAndW (mTest (mBin (fEq false) (mVar 4) (mC (.int 9)))) (tAndW (mTest (mBin wNeNil (mVar 3) (mLst aNil))) (mTest (mBin wGt (mVar 1) (mC (.int 5))))) env S = some (decide (way = 9 ∧ L ≠ [] ∧ 5 < size), S') ∧ (S' = S ∨ S' = S ++ [.lst []]) := by
  by_cases hw : way = 9
  · have hN := ev_nNil (S1 := S) (ma := mVar 3) (env := env) (S := S) (ev_var h3) hl
    by_cases hL : L = []
    · refine ⟨_, ?_, .inr rfl⟩
      rw [decide_eq_false (fun h => h.2.1 hL)]
      refine ev_and_t (evt_eq (ev_var h4) rfl hw) (ev_and_f ?_)
      rw [hN, hL]
      rfl
    · refine ⟨_, ?_, .inr rfl⟩
      have e : (!(L.map W.int).isEmpty) = true := by
        cases L with
        | nil => exact absurd rfl hL
        | cons a b => rfl
      rw [e] at hN
      refine ev_and_t (evt_eq (ev_var h4) rfl hw) (ev_and_t hN ?_)
      by_cases h5 : 5 < size
      · rw [decide_eq_true ⟨hw, hL, h5⟩]
        exact evt_gt (ev_var h1) rfl h5
      · rw [decide_eq_false (fun h => h5 h.2.2)]
        exact evf_gt (ev_var h1) rfl h5
  · refine ⟨S, ?_, .inl rfl⟩
    rw [decide_eq_false (fun h => hw h.1)]
    exact ev_and_f (evf_eq (ev_var h4) rfl hw)
theorem program_ok : ∀ (d n p k l : Nat) (L : List Int) (S : Store) (size deep : Int), Pot p S k → getL S l = some (L.map W.int) → l ≠ p → L.length ≤ 1000 → 0 ≤ size → size ≤ 1000 → k + 40 * (max 1 size).toNat ≤ 1000000 → deep ≤ (d : Int) → ∃ t S', sem (n + d + 12) ._law_program [.ref p, .int size, .int deep, .ref l] S = some (enc t, S') ∧ ProgP L t ∧ (gn t : Int) ≤ max 1 size ∧ dep t ≤ max 1 d + 5 ∧ Drew p S S' k (k + 40 * (max 1 size).toNat) := by
  intro d
  induction d with
  | zero =>
    intro n p k l L S size deep hp hl hlp hlen h0 h1 hk hd
    obtain ⟨way, S1, e1, w0, w1, d1⟩ := take_ok (n := n + 10) (bound := 10) hp (by omega) (by decide) (by decide)
    obtain ⟨S2, et, hS2⟩ := loop_test (p := p) (size := size) (deep := deep) (way := way) (env := [some (.ref p), some (.int size), some (.int deep), some (.ref l), some (.int way), none, none, none]) (d1.gr.getL hl hlp) rfl rfl rfl
    have d2 : Drew p S S2 k (k + 1) := by
      rcases hS2 with e | e
      · rw [e]; exact d1
      · rw [e]; exact d1.push _
    by_cases hlo : way = 9 ∧ L ≠ [] ∧ 5 < size
    · rw [decide_eq_true hlo] at et
      have hne : L.map W.int ≠ [] := by simp [hlo.2.1]
      obtain ⟨w, S3, e3, hw, d3⟩ := of_ok (n := n + 9) (l := l) d2.pot (by omega) (d2.gr.getL hl hlp) hlp hne (by rw [List.length_map]; omega)
      obtain ⟨c, hc, ec⟩ := List.mem_map.mp hw
      subst ec
      obtain ⟨b, S4, e4, hb, d4⟩ := body_ok (n := n + 2) d3.pot (by omega)
      have B := hb.facts
      refine ⟨.loop c b, S4, ?_, by rw [ProgP]; exact ⟨hc, hb⟩, by rw [gn]; omega, by rw [dep]; have := B.dp; omega, ((d2.trans d3).trans d4).mono (by omega)⟩
      exact ev_run (ev_seq (ev_asg (ev_call (ev_cons rfl (ev_cons rfl ev_nil)) e1) rfl) (ev_seq_rt (ev_if_t et (ev_ret (ev_tup (ev_cons rfl (ev_cons (ev_call (ev_cons rfl (ev_cons rfl ev_nil)) e3) (ev_cons (ev_call (ev_cons rfl ev_nil) e4) ev_nil))) rfl)))))
    · rw [decide_eq_false hlo] at et
      obtain ⟨t, S3, e3, q1, q2, q3, d3⟩ := leaf_ok (n := n + 7) d2.pot (by omega)
      have q4 : ProgP L t ∧ gn t = 1 := by
        cases t with
        | log x => rw [PlainT] at q1; rw [ProgP, gn]; exact ⟨q1, rfl⟩
        | await m => rw [PlainT] at q1; rw [ProgP, gn]; exact ⟨q1, rfl⟩
        | seq ps => rw [nodes] at q2; have := length_nodess ps; have e : ps = [] := List.eq_nil_of_length_eq_zero (by omega); subst e; rw [ProgP, ProgPs, gn, gns]; exact ⟨trivial, rfl⟩
        | fork p => rw [nodes] at q2; have := nodes_pos p; omega
        | join ps => rw [PlainT] at q1; rw [nodes] at q2; have := length_nodess ps; exact absurd (List.eq_nil_of_length_eq_zero (by omega)) q1.2
        | race ps => rw [PlainT] at q1; rw [nodes] at q2; have := length_nodess ps; exact absurd (List.eq_nil_of_length_eq_zero (by omega)) q1.2
        | loop c b => rw [PlainT] at q1; exact q1.elim
      refine ⟨t, S3, ?_, q4.1, by omega, by omega, (d2.trans d3).mono (by omega)⟩
      refine ev_run (ev_seq (ev_asg (ev_call (ev_cons rfl (ev_cons rfl ev_nil)) e1) rfl) (ev_seq (ev_if_f et rfl) (ev_seq_rt (ev_if_t ?_ (ev_ret (ev_call (ev_cons rfl ev_nil) e3))))))
      by_cases a : way < 2
      · exact ev_or_t (evt_lt rfl rfl a)
      · refine ev_or_f (evf_lt rfl rfl a) ?_
        by_cases b : size < 2
        · exact ev_or_t (evt_lt rfl rfl b)
        · exact ev_or_f (evf_lt rfl rfl b) (evt_lt rfl rfl (by omega))
  | succ d ih =>
    intro n p k l L S size deep hp hl hlp hlen h0 h1 hk hd
    have en : n + (d + 1) + 12 = (n + d + 12) + 1 := by omega
    rw [en]
    obtain ⟨way, S1, e1, w0, w1, d1⟩ := take_ok (n := n + d + 11) (bound := 10) hp (by omega) (by decide) (by decide)
    obtain ⟨S2, et, hS2⟩ := loop_test (p := p) (size := size) (deep := deep) (way := way) (env := [some (.ref p), some (.int size), some (.int deep), some (.ref l), some (.int way), none, none, none]) (d1.gr.getL hl hlp) rfl rfl rfl
    have d2 : Drew p S S2 k (k + 1) := by
      rcases hS2 with e | e
      · rw [e]; exact d1
      · rw [e]; exact d1.push _
    by_cases hlo : way = 9 ∧ L ≠ [] ∧ 5 < size
    · rw [decide_eq_true hlo] at et
      have hne : L.map W.int ≠ [] := by simp [hlo.2.1]
      obtain ⟨w, S3, e3, hw, d3⟩ := of_ok (n := n + d + 10) (l := l) d2.pot (by omega) (d2.gr.getL hl hlp) hlp hne (by rw [List.length_map]; omega)
      obtain ⟨c, hc, ec⟩ := List.mem_map.mp hw
      subst ec
      obtain ⟨b, S4, e4, hb, d4⟩ := body_ok (n := n + d + 3) d3.pot (by omega)
      have B := hb.facts
      refine ⟨.loop c b, S4, ?_, by rw [ProgP]; exact ⟨hc, hb⟩, by rw [gn]; omega, by rw [dep]; have := B.dp; omega, ((d2.trans d3).trans d4).mono (by omega)⟩
      exact ev_run (ev_seq (ev_asg (ev_call (ev_cons rfl (ev_cons rfl ev_nil)) e1) rfl) (ev_seq_rt (ev_if_t et (ev_ret (ev_tup (ev_cons rfl (ev_cons (ev_call (ev_cons rfl (ev_cons rfl ev_nil)) e3) (ev_cons (ev_call (ev_cons rfl ev_nil) e4) ev_nil))) rfl)))))
    rw [decide_eq_false hlo] at et
    by_cases hlf : way < 2 ∨ size < 2 ∨ deep < 2
    · obtain ⟨t, S3, e3, q1, q2, q3, d3⟩ := leaf_ok (n := n + d + 8) d2.pot (by omega)
      have q4 : ProgP L t ∧ gn t = 1 := by
        cases t with
        | log x => rw [PlainT] at q1; rw [ProgP, gn]; exact ⟨q1, rfl⟩
        | await m => rw [PlainT] at q1; rw [ProgP, gn]; exact ⟨q1, rfl⟩
        | seq ps => rw [nodes] at q2; have := length_nodess ps; have e : ps = [] := List.eq_nil_of_length_eq_zero (by omega); subst e; rw [ProgP, ProgPs, gn, gns]; exact ⟨trivial, rfl⟩
        | fork p => rw [nodes] at q2; have := nodes_pos p; omega
        | join ps => rw [PlainT] at q1; rw [nodes] at q2; have := length_nodess ps; exact absurd (List.eq_nil_of_length_eq_zero (by omega)) q1.2
        | race ps => rw [PlainT] at q1; rw [nodes] at q2; have := length_nodess ps; exact absurd (List.eq_nil_of_length_eq_zero (by omega)) q1.2
        | loop c b => rw [PlainT] at q1; exact q1.elim
      refine ⟨t, S3, ?_, q4.1, by omega, by omega, (d2.trans d3).mono (by omega)⟩
      refine ev_run (ev_seq (ev_asg (ev_call (ev_cons rfl (ev_cons rfl ev_nil)) e1) rfl) (ev_seq (ev_if_f et rfl) (ev_seq_rt (ev_if_t ?_ (ev_ret (ev_call (ev_cons rfl ev_nil) e3))))))
      by_cases a : way < 2
      · exact ev_or_t (evt_lt rfl rfl a)
      · refine ev_or_f (evf_lt rfl rfl a) ?_
        by_cases b : size < 2
        · exact ev_or_t (evt_lt rfl rfl b)
        · exact ev_or_f (evf_lt rfl rfl b) (evt_lt rfl rfl (by omega))
    have a1 : ¬ way < 2 := fun h => hlf (.inl h)
    have a2 : ¬ size < 2 := fun h => hlf (.inr (.inl h))
    have a3 : ¬ deep < 2 := fun h => hlf (.inr (.inr h))
    by_cases hw : way = 2
    · obtain ⟨t, S3, e3, q1, q2, q3, d3⟩ := ih n p (k + 1) l L S2 (size - 1) (deep - 1) d2.pot (d2.gr.getL hl hlp) hlp hlen (by omega) (by omega) (by omega) (by omega)
      refine ⟨.fork t, S3, ev_run (ev_seq (ev_asg (ev_call (ev_cons rfl (ev_cons rfl ev_nil)) e1) rfl) (ev_seq (ev_if_f et rfl) (ev_seq (ev_if_f (ev_or_f (evf_lt rfl rfl a1) (ev_or_f (evf_lt rfl rfl a2) (evf_lt rfl rfl a3))) rfl) (ev_seq_rt (ev_if_t (evt_eq rfl rfl hw) (ev_ret (ev_tup (ev_cons rfl (ev_cons (ev_call (ev_cons rfl (ev_cons (ev_subI rfl rfl) (ev_cons (ev_subI rfl rfl) (ev_cons rfl ev_nil)))) e3) ev_nil)) rfl))))))), by rw [ProgP]; exact q1, ?_, ?_, (d2.trans d3).mono (by omega)⟩
      · rw [gn]; omega
      · rw [dep]; omega
    -- how many parts
    have hm : ∃ (m : Int) (S3 : Store), mIf (mTest (mBin wLt (mVar 4) (mC (.int 7)))) (mBin wAdd (mC (.int 1)) (mCall (sem (n + d + 12) ._law_take) (aCons (mVar 0) (aCons (mC (.int 3)) aNil)))) (mCall (sem (n + d + 12) ._law_take) (aCons (mVar 0) (aCons (mC (.int 5)) aNil))) [some (.ref p), some (.int size), some (.int deep), some (.ref l), some (.int way), none, none, none] S2 = some (.int m, S3) ∧ 0 ≤ m ∧ m ≤ 5 ∧ (way < 7 → 1 ≤ m) ∧ Drew p S2 S3 (k + 1) (k + 2) := by
      by_cases h7 : way < 7
      · obtain ⟨m, S3, e2, m0, m1, d3⟩ := take_ok (n := n + d + 11) (bound := 3) d2.pot (by omega) (by decide) (by decide)
        exact ⟨1 + m, S3, ev_mif_t (evt_lt rfl rfl h7) (ev_addI rfl (ev_call (ev_cons rfl (ev_cons rfl ev_nil)) e2)), by omega, by omega, by omega, d3⟩
      · obtain ⟨m, S3, e2, m0, m1, d3⟩ := take_ok (n := n + d + 11) (bound := 5) d2.pot (by omega) (by decide) (by decide)
        exact ⟨m, S3, ev_mif_f (evf_lt rfl rfl h7) (ev_call (ev_cons rfl (ev_cons rfl ev_nil)) e2), by omega, by omega, by omega, d3⟩
    obtain ⟨m, S3, em, m0, m1, m7, d3⟩ := hm
    let many := min (size - 1) m
    have hmany : 0 ≤ many ∧ many ≤ 5 ∧ (way < 7 → 1 ≤ many) ∧ many ≤ size - 1 := by
      show 0 ≤ min (size - 1) m ∧ min (size - 1) m ≤ 5 ∧ (way < 7 → 1 ≤ min (size - 1) m) ∧ min (size - 1) m ≤ size - 1
      omega
    obtain ⟨y0, y1, y2, y3⟩ := hmany
    let sz := (size - 1) / max 1 many
    have hmx : 0 < max 1 many := by omega
    have hs0 : 0 ≤ sz := Int.ediv_nonneg (by omega) (by omega)
    have hsm : sz * max 1 many ≤ size - 1 := Int.ediv_mul_le (size - 1) (by omega)
    have hs1 : 1 ≤ sz := by
      refine (Int.le_ediv_iff_mul_le hmx).mpr ?_
      omega
    have hsz : sz ≤ size - 1 := Int.le_trans (by have := Int.mul_le_mul_of_nonneg_left (show (1 : Int) ≤ max 1 many by omega) hs0; omega) hsm
    have hmm : many.toNat * (40 * sz.toNat) ≤ 40 * (size - 1).toNat := by
      have : many * sz ≤ size - 1 := Int.le_trans (Int.mul_le_mul_of_nonneg_right (by omega) hs0) (Int.mul_comm sz _ ▸ hsm)
      have e : ((many.toNat * sz.toNat : Nat) : Int) = many * sz := by
        rw [Int.natCast_mul, Int.toNat_of_nonneg y0, Int.toNat_of_nonneg hs0]
      have : many.toNat * sz.toNat ≤ (size - 1).toNat := by omega
      rw [Nat.mul_left_comm]
      omega
    have hl3 : getL S3 l = some (L.map W.int) := d3.gr.getL (d2.gr.getL hl hlp) hlp
    obtain ⟨acc, S4, ec, hal, hd3, hac⟩ := ev_lc_inv (env := [some (.ref p), some (.int size), some (.int deep), some (.ref l), some (.int way), some (.int many), none, none]) (S := S3) (mi := iRange1 (aCons (mVar 5) aNil)) (tg := .nm 7) (vs := [7]) (el := mCall (sem (n + d + 12) ._law_program) (aCons (mVar 0) (aCons (mBin wFdiv (mBin wSub (mVar 1) (mC (.int 1))) (mCall cMax (aCons (mC (.int 1)) (aCons (mVar 5) aNil)))) (aCons (mBin wSub (mVar 2) (mC (.int 1))) (aCons (mVar 3) aNil)))))
      (P := fun i acc σ => Drew p S3 σ (k + 2) (k + 2 + i * (40 * sz.toNat)) ∧ ∀ w ∈ acc, ∃ t, w = enc t ∧ ProgP L t ∧ gn t ≤ sz.toNat ∧ dep t ≤ max 1 d + 5)
      (ev_range1 (ev_cons rfl ev_nil) (okRng_of (by omega) (by omega))) ⟨(Drew.refl d3.pot).mono (by omega), fun w h => nomatch h⟩ (by
        intro i acc σ hi hP
        have hi' : i < many.toNat := hi
        have hi2 : (i + 1) * (40 * sz.toNat) ≤ many.toNat * (40 * sz.toNat) := Nat.mul_le_mul_right _ hi'
        rw [Nat.add_mul, Nat.one_mul] at hi2
        have hi3 : i * (40 * sz.toNat) ≤ many.toNat * (40 * sz.toNat) := Nat.mul_le_mul_right _ (Nat.le_of_lt hi')
        obtain ⟨t, σ2, e4, q1, q2, q3, d4⟩ := ih n p (k + 2 + i * (40 * sz.toNat)) l L σ sz (deep - 1) hP.1.pot (hP.1.gr.getL hl3 hlp) hlp hlen hs0 (by omega) (by omega) (by omega)
        refine ⟨_, _, enc t, σ2, rfl, rfl, ev_call (ev_cons rfl (ev_cons (ev_divI (ev_subI rfl rfl) (ev_max2 (ev_cons rfl (ev_cons rfl ev_nil))) (okDiv_of hmx (by omega))) (ev_cons (ev_subI rfl rfl) (ev_cons rfl ev_nil)))) e4, (hP.1.trans d4).mono ?_, ?_⟩
        · rw [Nat.add_mul]; omega
        · intro w hw
          rcases List.mem_append.mp hw with h | h
          · exact hP.2 w h
          · rw [List.mem_singleton.mp h]
            exact ⟨t, rfl, q1, by omega, q3⟩) (fun _ _ _ => rfl) (szOk_of (show many.toNat ≤ 16777216 by omega))
    have hal' : acc.length = many.toNat := hal
    obtain ⟨ts, ets, hts⟩ := encs_of hac
    have htl : ts.length = many.toNat := by rw [← hal', ets, encs_length]
    have hnd : gns ts ≤ sz.toNat * many.toNat := htl ▸ gns_bound (c := sz.toNat) fun t ht => (hts t ht).2.1
    have hdp : deps ts ≤ max 1 d + 5 := deps_bound fun t ht => (hts t ht).2.2
    have hpl : ProgPs L ts := ProgPs.of fun t ht => (hts t ht).1
    have hnd2 : (gns ts : Int) + 1 ≤ size := by
      have hx : many.toNat * (40 * sz.toNat) = 40 * (sz.toNat * many.toNat) := by rw [Nat.mul_left_comm, Nat.mul_comm many.toNat]
      omega
    have hD : Drew p S S4 k (k + 40 * (max 1 size).toNat) := ((d2.trans d3).trans hd3).mono (by
      show k + 2 + many.toNat * (40 * sz.toNat) ≤ _
      omega)
    have fin_ : ∀ (x : Str) (t : Tree), enc t = .tup [.str x, .tup (encs ts)] → atI [W.str "join", .str "join", .str "race", .str "race", .str "seq", .str "seq", .str "seq"] (way - 3) = some (.str x) → sem (n + d + 12 + 1) ._law_program [.ref p, .int size, .int deep, .ref l] S = some (enc t, S4 ++ [.lst acc] ++ [.lst [W.str "join", .str "join", .str "race", .str "race", .str "seq", .str "seq", .str "seq"]]) := by
      intro x t et2 ea
      rw [et2]
      refine ev_run (ev_seq (ev_asg (ev_call (ev_cons rfl (ev_cons rfl ev_nil)) e1) rfl) (ev_seq (ev_if_f et rfl) (ev_seq (ev_if_f (ev_or_f (evf_lt rfl rfl a1) (ev_or_f (evf_lt rfl rfl a2) (evf_lt rfl rfl a3))) rfl) (ev_seq (ev_if_f (evf_eq rfl rfl hw) rfl) (ev_seq (ev_asg (ev_min2 (ev_cons (ev_subI rfl rfl) (ev_cons em ev_nil))) rfl) (ev_seq (ev_asg (ev_tupOf (ev_cons ec ev_nil) getL_new) rfl) ?_))))))
      refine ev_ret (ev_tup (ev_cons (ev_ixL (ev_lst (ev_cons rfl (ev_cons rfl (ev_cons rfl (ev_cons rfl (ev_cons rfl (ev_cons rfl (ev_cons rfl ev_nil))))))) rfl) (ev_subI rfl rfl) getL_new ea) (ev_cons ?_ ev_nil)) rfl)
      rw [← ets]
      rfl
    have h6 : way = 3 ∨ way = 4 ∨ way = 5 ∨ way = 6 ∨ way = 7 ∨ way = 8 ∨ way = 9 := by omega
    have hD2 := (hD.push [.lst acc]).push [.lst [W.str "join", .str "join", .str "race", .str "race", .str "seq", .str "seq", .str "seq"]]
    have hne : way < 7 → ts ≠ [] := fun h e => by rw [e] at htl; have := y2 h; simp at htl; omega
    have hmax : (max 1 size) = size := by omega
    rcases h6 with e | e | e | e | e | e | e
    · exact ⟨.join ts, _, fin_ _ (.join ts) (by rw [enc]) (by rw [e]; rfl), by rw [ProgP]; exact ⟨hpl, hne (by omega)⟩, by rw [gn]; omega, by rw [dep]; omega, hD2⟩
    · exact ⟨.join ts, _, fin_ _ (.join ts) (by rw [enc]) (by rw [e]; rfl), by rw [ProgP]; exact ⟨hpl, hne (by omega)⟩, by rw [gn]; omega, by rw [dep]; omega, hD2⟩
    · exact ⟨.race ts, _, fin_ _ (.race ts) (by rw [enc]) (by rw [e]; rfl), by rw [ProgP]; exact ⟨hpl, hne (by omega)⟩, by rw [gn]; omega, by rw [dep]; omega, hD2⟩
    · exact ⟨.race ts, _, fin_ _ (.race ts) (by rw [enc]) (by rw [e]; rfl), by rw [ProgP]; exact ⟨hpl, hne (by omega)⟩, by rw [gn]; omega, by rw [dep]; omega, hD2⟩
    · exact ⟨.seq ts, _, fin_ _ (.seq ts) (by rw [enc]) (by rw [e]; rfl), by rw [ProgP]; exact hpl, by rw [gn]; omega, by rw [dep]; omega, hD2⟩
    · exact ⟨.seq ts, _, fin_ _ (.seq ts) (by rw [enc]) (by rw [e]; rfl), by rw [ProgP]; exact hpl, by rw [gn]; omega, by rw [dep]; omega, hD2⟩
    · exact ⟨.seq ts, _, fin_ _ (.seq ts) (by rw [enc]) (by rw [e]; rfl), by rw [ProgP]; exact hpl, by rw [gn]; omega, by rw [dep]; omega, hD2⟩
end L2.Aw.K78

namespace L2.Aw.K78
open PySem PySem.Spec PyProof.Rows
local macro_rules | `(tactic| walk_at "kw") => `(tactic| first | exact ev_eqT rfl rfl | exact ev_eqF rfl rfl | exact ev_inK rfl (ev_tup (ev_cons rfl (ev_cons rfl ev_nil)) rfl) | exact ev_neF rfl rfl | exact ev_neT rfl rfl)
/-- the parts of a program, asked one after another -/
theorem seq_ok {n : Nat} {ps : List Tree} {a M : Int} (ho : Oks ps) (hr : Reps M ps) (ha0 : 0 ≤ a) (ha : a ≤ M) (hc : caps ps ≤ 1000000)
    (hf : ∀ p ∈ ps, ∀ S, sem n .finish [enc p] S = some (.int (fin p), S))
    (hs : ∀ p ∈ ps, ∀ b, 0 ≤ b → b ≤ M → ∀ S, sem n .sides_of [enc p, .int b] S = some (encSd (sides p b), S)) (S : Store) :
    sem (n + 1) .sides_of_seq [.tup (encs ps), .int a] S = some (encSd (shut ((fins ps).sum ≤ a) (bag ps a)), S) := by
  suffices h : runB 6 (b_sides_of_seq (sem n)) [.tup (encs ps), .int a] [] = some (encSd (shut ((fins ps).sum ≤ a) (bag ps a)), []) from
    ev_pure (pures2 (encs_pure ps) pure_int) h (encSd_pure _)
  obtain ⟨o, eo, acc, a', u, v, eq_o, hz, hsh⟩ := ev_for_x (env := [some (.tup (encs ps)), some (.int a), some (wStrs []), some (wStrs []), none, none]) (S := []) (mi := iSeq (mVar 0)) (tg := .nm 4)
    (body := sSeq (sIf (mTest (mBin wLt (mVar 1) (mC (.int 0)))) sBreak sNext) (sSeq (sAsg (.nm 5) (mCall (sem n .sides_of) (aCons (mVar 4) (aCons (mVar 1) aNil)))) (sSeq (sPar 2 3 (aCons (mBin wAdd (mVar 2) (mBin wIx (mVar 5) (mC (.int 0)))) (aCons (mBin wAdd (mBin wIx (mVar 5) (mC (.int 1))) (mVar 3)) aNil))) (sAug 1 wSub (mCall (sem n .finish) (aCons (mVar 4) aNil))))))
    (P := fun i e σ => σ = [] ∧ ∃ (acc : Sd) (a' : Int) (u v : Option W), e = [some (.tup (encs ps)), some (.int a'), some (wStrs acc.1), some (wStrs acc.2), u, v] ∧ sz acc + caps (ps.drop i) ≤ 1000000 ∧ a' ≤ M ∧ glue acc (bag (ps.drop i) a') = bag ps a ∧ a' - (fins (ps.drop i)).sum = a - (fins ps).sum)
    (L := fun o => ∃ (acc : Sd) (a' : Int) (u v : Option W), o = .nx [some (.tup (encs ps)), some (.int a'), some (wStrs acc.1), some (wStrs acc.2), u, v] [] ∧ sz acc ≤ 1000000 ∧ shut (0 ≤ a') acc = shut ((fins ps).sum ≤ a) (bag ps a))
    (ev_seqT rfl) ⟨rfl, ([], []), a, none, none, rfl, by rw [List.drop_zero]; show 0 + 0 + _ ≤ _; omega, ha, by rw [List.drop_zero, nil_glue], by rw [List.drop_zero]⟩ (by
      intro i e σ hi ⟨eσ, acc, a', u, v, ee, hz, hM, hb, hx⟩
      subst eσ ee
      have hi' : i < ps.length := by rw [← encs_length]; exact hi
      have ed : ps.drop i = ps[i] :: ps.drop (i + 1) := List.drop_eq_getElem_cons hi'
      rw [ed] at hz hb hx
      rw [caps] at hz
      rw [bag] at hb
      rw [fins, List.sum_cons] at hx
      have hm : ps[i] ∈ ps := List.getElem_mem hi'
      have hfin := fin_nonneg _ (ho.mem hm)
      refine ⟨enc ps[i], _, encs_get (List.getElem?_eq_getElem hi'), rfl, ?_⟩
      by_cases h0 : a' < 0
      · refine .inr (.inl ⟨_, _, ev_seq_bk (ev_if_t (evt_lt rfl rfl h0) rfl), acc, a', _, v, rfl, by omega, ?_⟩)
        have hds : Oks (ps.drop i) := Oks.of fun p hp => ho.mem (List.mem_of_mem_drop hp)
        rw [ed, Oks] at hds
        have hsum : 0 ≤ (fins (ps.drop (i + 1))).sum := fins_sum_nonneg hds.2
        rw [sides_neg _ hds.1 _ h0, bag_neg hds.2 (by omega), glue_nil, glue_nil] at hb
        rw [shut_f (by omega), shut_f (by omega), hb]
      · have es := hs ps[i] hm a' (by omega) hM []
        have hcap := sz_sides M ps[i] (ho.mem hm) (hr.mem hm) a' hM
        have hz2 : sz acc = acc.1.length + acc.2.length := rfl
        have hz3 : sz (sides ps[i] a') = (sides ps[i] a').1.length + (sides ps[i] a').2.length := rfl
        refine .inl ⟨_, _, .inl (ev_seq (ev_if_f (evf_lt rfl rfl h0) rfl) (ev_seq (ev_asg (ev_call (ev_cons rfl (ev_cons rfl ev_nil)) es) rfl) (ev_seq (ev_par (ev_cons (ev_catS rfl (ev_ixT rfl rfl rfl) (by omega)) (ev_cons (ev_catS (ev_ixT rfl rfl rfl) rfl (by omega)) ev_nil))) (ev_aug rfl (ev_call (ev_cons rfl ev_nil) (hf ps[i] hm [])) rfl)))), rfl, glue acc (sides ps[i] a'), a' - fin ps[i], _, _, rfl, ?_, by omega, ?_, by omega⟩
        · rw [sz_glue]; omega
        · rw [glue_assoc]; exact hb) (by
      intro e σ ⟨eσ, acc, a', u, v, ee, hz, hM, hb, hx⟩
      subst eσ ee
      refine ⟨rfl, acc, a', u, v, rfl, by omega, ?_⟩
      have ed : ps.drop (encs ps).length = [] := by rw [encs_length]; exact List.drop_length
      have ed' : ps.drop (sTup (encs ps)).n = [] := ed
      rw [ed', bag, glue_nil] at hb
      rw [ed', fins] at hx
      have hx' : a' - 0 = a - (fins ps).sum := hx
      rw [hb]
      unfold shut
      by_cases h : 0 ≤ a'
      · rw [if_pos h, if_pos (by omega)]
      · rw [if_neg h, if_neg (by omega)])
  subst eq_o
  refine ev_run (ev_seq (ev_asg (ev_tup (ev_cons rfl (ev_cons rfl ev_nil)) rfl) rfl) (ev_seq eo (ev_ret ?_)))
  rw [← hsh]
  exact ev_shut (k := 0 ≤ a') (ev_ge rfl rfl) rfl rfl (by omega)
theorem loop_ok {n : Nat} {b : Tree} {c a M : Int} (ho : Ok (.loop c b)) (hr : Rep M (.loop c b)) (ha0 : 0 ≤ a) (ha : a ≤ M) (hc : cap (.loop c b) ≤ 1000000)
    (hf : ∀ S, sem n .finish [enc b] S = some (.int (fin b), S))
    (hs : ∀ r, 0 ≤ r → r ≤ M → ∀ S, sem n .sides_of [enc b, .int r] S = some (encSd (sides b r), S)) (S : Store) :
    sem (n + 1) .sides_of_loop [.int c, enc b, .int a] S = some (encSd (sides (.loop c b) a), S) := by
  suffices h : runB 10 (b_sides_of_loop (sem n)) [.int c, enc b, .int a] [] = some (encSd (sides (.loop c b) a), []) from
    ev_pure (pures3 pure_int (enc_pure b) pure_int) h (encSd_pure _)
  obtain ⟨hw, hw2⟩ := Rep.loop_window (a := a) ho hr
  rw [Ok] at ho
  rw [Rep] at hr
  rw [cap] at hc
  obtain ⟨ob, c0, c1, l1, l2⟩ := ho
  have hl0 : 0 < fin b := by omega
  let lo : Int := max 0 ((a - 30) / fin b)
  let hi : Int := min c (a / fin b + 1)
  have hdiv : a / fin b < 2 ^ 61 := Int.ediv_lt_of_lt_mul hl0 (by omega)
  have hdiv0 : 0 ≤ a / fin b := Int.ediv_nonneg ha0 (by omega)
  have hdiv2 : (a - 30) / fin b ≤ a / fin b := Int.ediv_le_ediv hl0 (by omega)
  have hlo : 0 ≤ lo ∧ lo < 2 ^ 61 := by
    show 0 ≤ max 0 ((a - 30) / fin b) ∧ max 0 ((a - 30) / fin b) < 2 ^ 61
    omega
  have hhi : 0 ≤ hi ∧ hi ≤ 2 ^ 61 ∧ hi ≤ a / fin b + 1 := by
    show 0 ≤ min c (a / fin b + 1) ∧ min c (a / fin b + 1) ≤ 2 ^ 61 ∧ min c (a / fin b + 1) ≤ a / fin b + 1
    omega
  let acc : Nat → Sd := glueR (fun j => sides b (a - (lo.toNat + j : Nat) * fin b))
  have hr2 : ∀ i : Nat, i < (hi - lo).toNat → 0 ≤ a - (lo.toNat + i : Nat) * fin b := fun i h => by
    have h1 : ((lo.toNat + i : Nat) : Int) ≤ a / fin b := by omega
    have h2 := Int.mul_le_mul_of_nonneg_right h1 (show 0 ≤ fin b by omega)
    have h3 := Int.ediv_mul_le a (show fin b ≠ 0 by omega)
    omega
  have hr3 : ∀ i : Nat, a - (lo.toNat + i : Nat) * fin b ≤ M := fun i => by
    have : 0 ≤ ((lo.toNat + i : Nat) : Int) * fin b := Int.mul_nonneg (by omega) (by omega)
    omega
  have hz : ∀ i, sz (acc i) ≤ i * cap b := sz_glueR fun j => sz_sides M b ob hr.1 _ (hr3 j)
  obtain ⟨e, σ, eo, eσ, u, v, ee⟩ := ev_for (env := [some (.int c), some (enc b), some (.int a), some (.int (fin b)), some (.int lo), some (.int hi), some (wStrs []), some (wStrs []), none, none]) (S := []) (mi := iRange2 (aCons (mVar 4) (aCons (mVar 5) aNil))) (tg := .nm 8)
    (body := sSeq (sAsg (.nm 9) (mCall (sem n .sides_of) (aCons (mVar 1) (aCons (mBin wSub (mVar 2) (mBin wMul (mVar 8) (mVar 3))) aNil)))) (sPar 6 7 (aCons (mBin wAdd (mVar 6) (mBin wIx (mVar 9) (mC (.int 0)))) (aCons (mBin wAdd (mBin wIx (mVar 9) (mC (.int 1))) (mVar 7)) aNil))))
    (P := fun i e σ => σ = [] ∧ ∃ (u v : Option W), e = [some (.int c), some (enc b), some (.int a), some (.int (fin b)), some (.int lo), some (.int hi), some (wStrs (acc i).1), some (wStrs (acc i).2), u, v])
    (ev_range2 (ev_cons rfl (ev_cons rfl ev_nil)) (okRng_of (by omega) (by omega)) (okRng_of (by omega) (by omega))) ⟨rfl, none, none, rfl⟩ (by
      intro i e σ hi' ⟨eσ, u, v, ee⟩
      subst eσ ee
      have hi2 : i < (hi - lo).toNat := hi'
      have es := hs _ (hr2 i hi2) (hr3 i) []
      have ei : lo + (i : Int) = ((lo.toNat + i : Nat) : Int) := by omega
      have es' : sem n .sides_of [enc b, .int (a - (lo + (i : Int)) * fin b)] [] = some (encSd (sides b (a - (lo.toNat + i : Nat) * fin b)), []) := by rw [ei]; exact es
      have hz1 := hz (i + 1)
      have hz4 : (i + 1) * cap b ≤ 32 * cap b := Nat.mul_le_mul_right _ (by
        have : (hi - lo).toNat ≤ 32 := hw2
        omega)
      have hz5 : sz (acc (i + 1)) = sz (acc i) + sz (sides b (a - (lo.toNat + i : Nat) * fin b)) := sz_glue _ _
      have hz2 : sz (acc i) = (acc i).1.length + (acc i).2.length := rfl
      have hz3 : sz (sides b (a - (lo.toNat + i : Nat) * fin b)) = (sides b (a - (lo.toNat + i : Nat) * fin b)).1.length + (sides b (a - (lo.toNat + i : Nat) * fin b)).2.length := rfl
      refine ⟨.int (lo + i), _, rfl, rfl, _, _, .inl (ev_seq (ev_asg (ev_call (ev_cons rfl (ev_cons (ev_subI rfl (ev_mulI rfl rfl (okMul_of (by omega) (by omega) (by omega) (by omega)))) ev_nil)) es') rfl) (ev_par (ev_cons (ev_catS rfl (ev_ixT rfl rfl rfl) ?_) (ev_cons (ev_catS (ev_ixT rfl rfl rfl) rfl ?_) ev_nil)))), rfl, _, _, rfl⟩
      · omega
      · omega) (fun _ _ _ => rfl)
  subst eσ ee
  have hz6 := hz (hi - lo).toNat
  have hz7 : (hi - lo).toNat * cap b ≤ 32 * cap b := Nat.mul_le_mul_right _ hw2
  have e2 : sides (.loop c b) a = shut (c * fin b ≤ a) (acc (hi - lo).toNat) := by
    rw [sides, hw]
  rw [e2]
  exact ev_run (ev_seq (ev_asg (ev_call (ev_cons rfl ev_nil) (hf [])) rfl) (ev_seq (ev_par (ev_cons (ev_max2 (ev_cons rfl (ev_cons (ev_divI (ev_subI rfl rfl) rfl (okDiv_of hl0 (by omega))) ev_nil))) (ev_cons (ev_min2 (ev_cons rfl (ev_cons (ev_addI (ev_divI rfl rfl (okDiv_of hl0 (by omega))) rfl) ev_nil))) ev_nil))) (ev_seq (ev_asg (ev_tup (ev_cons rfl (ev_cons rfl ev_nil)) rfl) rfl) (ev_seq eo (ev_ret (ev_shut (ev_ge rfl (ev_mulI rfl rfl (okMul_of (by omega) (by omega) (by omega) (by omega)))) rfl rfl (by omega)))))))
theorem iaddS {a b : List Wd} {S : Store} (hz : a.length + b.length ≤ 16777216) : wIadd (wStrs a) (wStrs b) S = some (wStrs (a ++ b), S) := by
  have e : wIadd (wStrs a) (wStrs b) S = if szOk ((a.map wv).length + (b.map wv).length) = true then some (W.tup (a.map wv ++ b.map wv), S) else none := rfl
  rw [e, if_pos (szOk_of (by rw [List.length_map, List.length_map]; exact hz)), wStrs, List.map_append]
theorem beside_ok {n : Nat} {ps : List Tree} {a M F : Int} {key : Nat} {q : Tree} (ho : Oks ps) (hl : ps.length ≤ 1000) (hr : Reps M ps) (ha0 : 0 ≤ a) (ha : a ≤ M) (hc : caps ps ≤ 1000000)
    (hk : ps[key]? = some q) (hF : fin q = F)
    (hf : ∀ p ∈ ps, ∀ S, sem n .finish [enc p] S = some (.int (fin p), S))
    (hs : ∀ p ∈ ps, ∀ b, 0 ≤ b → b ≤ M → ∀ S, sem n .sides_of [enc p, .int b] S = some (encSd (sides p b), S)) (S : Store) :
    sem (n + 1) .sides_beside [.tup (encs ps), .int a, .int (key : Nat)] S = some (encSd (shut (F ≤ a) (besF key 0 ([], []) (sidesL ps a))), S) := by
  suffices h : ∃ S1, runB 9 (b_sides_beside (sem n)) [.tup (encs ps), .int a, .int (key : Nat)] [] = some (encSd (shut (F ≤ a) (besF key 0 ([], []) (sidesL ps a))), S1) by
    obtain ⟨S1, h⟩ := h
    exact ev_pure (pures3 (encs_pure ps) pure_int pure_int) h (encSd_pure _)
  let L := sidesL ps a
  have hL : L = ps.map fun p => sides p a := sidesL_map a ps
  have hLl : L.length = ps.length := by rw [hL, List.length_map]
  have hsum : (L.map sz).sum ≤ caps ps := sz_list ha ps fun p hp => sz_sides M p (ho.mem hp) (hr.mem hp)
  have htot : sz (besF key 0 ([], []) L) ≤ 1000000 := by
    rw [sz_besF key L 0 _ fun _ => rfl]
    show 0 + _ ≤ _
    omega
  let σ : Store := [.lst (L.map encSd)]
  have ek : mLc (iSeq (mVar 0)) (.nm 8) tYesW (mCall (sem n .sides_of) (aCons (mVar 8) (aCons (mVar 1) aNil))) [8] [some (.tup (encs ps)), some (.int a), some (.int (key : Nat)), none, none, none, none, none, none] [] = some (.ref 0, σ) := by
    have e := ev_kids (S1 := []) (S := []) (env := [some (.tup (encs ps)), some (.int a), some (.int (key : Nat)), none, none, none, none, none, none]) (m := mVar 0) (el := mCall (sem n .sides_of) (aCons (mVar 8) (aCons (mVar 1) aNil))) (j := 8) (vs := [8]) (ps := ps) (g := fun p => encSd (sides p a)) rfl (by omega) fun p hp => ev_call (ev_cons rfl (ev_cons rfl ev_nil)) (hs p hp a ha0 ha [])
    rw [e]
    show some (W.ref 0, [MO.lst (ps.map fun p => encSd (sides p a))]) = some (W.ref 0, [MO.lst (L.map encSd)])
    rw [hL, List.map_map]
    rfl
  obtain ⟨e, σ', eo, eσ, acc, u, v, ee, hb, h2⟩ := ev_for (env := [some (.tup (encs ps)), some (.int a), some (.int (key : Nat)), some (.ref 0), some (wStrs []), some (wStrs []), none, none, none]) (S := σ) (mi := iEnumL (aCons (mVar 3) aNil)) (tg := .tp ((.nm 6) :: ((.nm 7) :: [])))
    (body := sIf (mTest (mBin wLt (mVar 6) (mVar 2))) (sAug 4 wIadd (mBin wAdd (mBin wIx (mVar 7) (mC (.int 0))) (mBin wIx (mVar 7) (mC (.int 1))))) (sIf (mTest (mBin (fEq false) (mVar 6) (mVar 2))) (sPar 4 5 (aCons (mBin wAdd (mVar 4) (mBin wIx (mVar 7) (mC (.int 0)))) (aCons (mBin wIx (mVar 7) (mC (.int 1))) aNil))) (sAug 5 wIadd (mBin wAdd (mBin wIx (mVar 7) (mC (.int 0))) (mBin wIx (mVar 7) (mC (.int 1)))))))
    (P := fun i e σ' => σ' = σ ∧ ∃ (acc : Sd) (u v : Option W), e = [some (.tup (encs ps)), some (.int a), some (.int (key : Nat)), some (.ref 0), some (wStrs acc.1), some (wStrs acc.2), u, v, none] ∧ besF key i acc (L.drop i) = besF key 0 ([], []) L ∧ (i ≤ key → acc.2 = []))
    (ev_enumL (ev_cons rfl ev_nil) rfl) ⟨rfl, ([], []), none, none, rfl, by rw [List.drop_zero], fun _ => rfl⟩ (by
      intro i e σ' hi ⟨eσ, acc, u, v, ee, hb, h2⟩
      subst eσ ee
      have hi' : i < L.length := by
        have : i < (L.map encSd).length := hi
        rw [List.length_map] at this
        exact this
      have ed : L.drop i = L[i] :: L.drop (i + 1) := List.drop_eq_getElem_cons hi'
      have hz := sz_besF key (L.drop i) i acc h2
      rw [hb] at hz
      rw [ed, List.map_cons, List.sum_cons] at hz
      rw [ed, besF] at hb
      have hz2 : sz acc = acc.1.length + acc.2.length := rfl
      have hz3 : sz L[i] = L[i].1.length + L[i].2.length := rfl
      have hz5 : (L[i].1 ++ L[i].2).length = L[i].1.length + L[i].2.length := List.length_append
      refine ⟨.tup [.int i, encSd L[i]], _, ?_, rfl, ?_⟩
      · show (((L.map encSd)[i]?).map fun w => W.tup [.int i, w]) = _
        rw [List.getElem?_map, List.getElem?_eq_getElem hi']
        rfl
      by_cases h1 : (i : Int) < key
      · rw [if_pos (by omega)] at hb
        exact ⟨_, _, .inl (ev_if_t (evt_lt rfl rfl h1) (ev_aug rfl (ev_catS (ev_ixT rfl rfl rfl) (ev_ixT rfl rfl rfl) (by omega)) (iaddS (by omega)))), rfl, _, _, _, rfl, hb, fun _ => h2 (by omega)⟩
      · rw [if_neg (by omega)] at hb
        by_cases h3 : (i : Int) = key
        · rw [if_pos (by omega)] at hb
          exact ⟨_, _, .inl (ev_if_f (evf_lt rfl rfl h1) (ev_if_t (evt_eq rfl rfl h3) (ev_par (ev_cons (ev_catS rfl (ev_ixT rfl rfl rfl) (by omega)) (ev_cons (ev_ixT rfl rfl rfl) ev_nil))))), rfl, _, _, _, rfl, hb, fun _ => by omega⟩
        · rw [if_neg (by omega)] at hb
          exact ⟨_, _, .inl (ev_if_f (evf_lt rfl rfl h1) (ev_if_f (evf_eq rfl rfl h3) (ev_aug rfl (ev_catS (ev_ixT rfl rfl rfl) (ev_ixT rfl rfl rfl) (by omega)) (iaddS (by omega))))), rfl, _, _, _, rfl, hb, fun _ => by omega⟩) (by
      intro e σ' ⟨eσ, _⟩
      subst eσ
      exact decide_eq_true (Nat.le_refl _))
  subst eσ ee
  have hn : (sEnumL 0 (L.map encSd).length).n = L.length := List.length_map ..
  rw [hn, List.drop_length, besF] at hb
  show ∃ S1, runB 9 (b_sides_beside (sem n)) [.tup (encs ps), .int a, .int (key : Nat)] [] = some (encSd (shut (F ≤ a) (besF key 0 ([], []) L)), S1)
  rw [← hb] at htot ⊢
  have hfk := hf q (List.mem_of_getElem? hk) σ
  rw [hF] at hfk
  exact ⟨_, ev_run (ev_seq (ev_asg ek rfl) (ev_seq (ev_asg (ev_tup (ev_cons rfl (ev_cons rfl ev_nil)) rfl) rfl) (ev_seq eo (ev_ret (ev_shut (ev_ge rfl (ev_call (ev_cons (ev_ixT rfl rfl (atI_nat (encs_get hk))) ev_nil) hfk)) rfl rfl (by omega))))))⟩
theorem key_ok {n : Nat} {ps : List Tree} {k : Str} {R : Bool} (hk : R = true ∧ k = "race" ∨ R = false ∧ k = "join") (hn : ps ≠ []) (hl : ps.length ≤ 1000)
    (hf : ∀ p ∈ ps, ∀ S, sem n .finish [enc p] S = some (.int (fin p), S)) (S : Store) :
    sem (n + 1) .key_part [.tup [.str k, .tup (encs ps)]] S = some (.int ((if R then keyR (fins ps) else keyJ (fins ps) : Nat) : Int), S) := by
  suffices h : ∃ S1, runB 3 (b_key_part (sem n)) [.tup [.str k, .tup (encs ps)]] [] = some (.int ((if R then keyR (fins ps) else keyJ (fins ps) : Nat) : Int), S1) by
    obtain ⟨S1, h⟩ := h
    have hp : (W.tup [.str k, .tup (encs ps)]).pure = true := by
      rw [W.pure]; exact pures2 pure_str (encs_pure ps)
    exact ev_pure (pures1 hp) h pure_int
  have ek : mLc (iSeq (mBin wIx (mVar 0) (mC (.int 1)))) (.nm 2) tYesW (mCall (sem n .finish) (aCons (mVar 2) aNil)) [2] [some (.tup [.str k, .tup (encs ps)]), none, none] [] = some (.ref 0, [.lst ((fins ps).map W.int)]) := by
    rw [← fins_ints]
    refine ev_kids (S1 := []) (ps := ps) (g := fun p => .int (fin p)) rfl (by omega) ?_
    intro p hp
    exact ev_call (ev_cons rfl ev_nil) (hf p hp _)
  have hne := fins_ne hn
  rcases hk with ⟨e1, e2⟩ | ⟨e1, e2⟩
  · subst e1 e2
    exact ⟨_, ev_run (ev_seq (ev_asg ek rfl) (ev_seq_rt (ev_if_t (by walk_at "kw") (ev_ret (ev_index rfl (ev_minL (ev_cons rfl ev_nil) rfl hne) rfl rfl (keyR_at hne).1)))))⟩
  · subst e1 e2
    obtain ⟨j, h1, h2, _⟩ := keyJ_at hne
    have ev : mUn wRevL (mVar 1) [some (.tup [.str "join", .tup (encs ps)]), some (.ref 0), none] [.lst ((fins ps).map W.int)] = some (.ref 1, [.lst ((fins ps).map W.int), .lst ((fins ps).reverse.map W.int)]) := by
      rw [List.map_reverse]; rfl
    have e3 : ((((fins ps).map W.int).length : Nat) : Int) - 1 - (j : Nat) = ((if false = true then keyR (fins ps) else keyJ (fins ps) : Nat) : Int) := by
      rw [List.length_map]; exact h2
    rw [← e3]
    exact ⟨_, ev_run (ev_seq (ev_asg ek rfl) (ev_seq (ev_if_f (by walk_at "kw") rfl) (ev_ret (ev_subI (ev_subI (ev_lenS (ev_cons rfl ev_nil) rfl) rfl) (ev_index ev (ev_maxL (ev_cons rfl ev_nil) rfl hne) rfl rfl h1)))))⟩
theorem sides_ok : ∀ (n : Nat) (t : Tree) (M a : Int), 2 * dep t ≤ n → Ok t → Rep M t → 0 ≤ a → a ≤ M → cap t ≤ 1000000 → ∀ S, sem n .sides_of [enc t, .int a] S = some (encSd (sides t a), S) := by
  intro n
  induction n using Nat.strongRecOn with
  | ind n ih =>
    intro t M a hd ho hr ha0 ha hc S
    have hd1 : 1 ≤ dep t := by cases t <;> (rw [dep]; omega)
    obtain ⟨m, rfl⟩ : ∃ m, n = m + 2 := ⟨n - 2, by omega⟩
    suffices h : ∃ S1, runB 4 (b_sides_of (sem (m + 1))) [enc t, .int a] [] = some (encSd (sides t a), S1) by
      obtain ⟨S1, h⟩ := h
      exact ev_pure (pures2 (enc_pure t) pure_int) h (encSd_pure _)
    have F : ∀ p, dep p ≤ m → Ok p → ∀ S, sem m .finish [enc p] S = some (.int (fin p), S) := fun p h1 h2 => finish_ok m p h1 h2
    have Sd_ : ∀ p, 2 * dep p ≤ m → Ok p → Rep M p → cap p ≤ 1000000 → ∀ b, 0 ≤ b → b ≤ M → ∀ S, sem m .sides_of [enc p, .int b] S = some (encSd (sides p b), S) := fun p h1 h2 h3 h4 b h5 h6 => ih m (by omega) p M b h1 h2 h3 h5 h6 h4
    cases t with
    | log w =>
      by_cases h0 : a = 0
      · have e : sides (.log w) a = ([w], []) := by rw [sides, if_pos h0]
        rw [e]
        exact ⟨_, ev_run (ev_seq (ev_asg rfl rfl) (ev_seq_rt (ev_if_t (by walk_at "kw") (ev_ret (ev_mif_t (evt_eq rfl rfl h0) (ev_tup (ev_cons (ev_tup (ev_cons (ev_ixT rfl rfl rfl) ev_nil) rfl) (ev_cons rfl ev_nil)) rfl))))))⟩
      · have e : sides (.log w) a = ([], []) := by rw [sides, if_neg h0]
        rw [e]
        exact ⟨_, ev_run (ev_seq (ev_asg rfl rfl) (ev_seq_rt (ev_if_t (by walk_at "kw") (ev_ret (ev_mif_f (evf_eq rfl rfl h0) (ev_tup (ev_cons rfl (ev_cons rfl ev_nil)) rfl))))))⟩
    | await w =>
      have e : sides (.await w) a = ([], []) := by rw [sides]
      rw [e]
      exact ⟨_, ev_run (ev_seq (ev_asg rfl rfl) (ev_seq (ev_if_f (by walk_at "kw") rfl) (ev_seq_rt (ev_if_t (by walk_at "kw") (ev_ret (ev_tup (ev_cons rfl (ev_cons rfl ev_nil)) rfl))))))⟩
    | fork p =>
      rw [dep] at hd
      rw [Ok] at ho
      rw [Rep] at hr
      rw [cap] at hc
      have es := ih (m + 1) (by omega) p M a (by omega) ho hr ha0 ha hc []
      have hz := sz_sides M p ho hr a ha
      have hz3 : sz (sides p a) = (sides p a).1.length + (sides p a).2.length := rfl
      have e : sides (.fork p) a = ((sides p a).1 ++ (sides p a).2, []) := by rw [sides]
      rw [e]
      exact ⟨_, ev_run (ev_seq (ev_asg rfl rfl) (ev_seq (ev_if_f (by walk_at "kw") rfl) (ev_seq (ev_if_f (by walk_at "kw") rfl) (ev_seq_rt (ev_if_t (by walk_at "kw") (ev_seq (ev_asg (ev_call (ev_cons (ev_ixT rfl rfl rfl) (ev_cons rfl ev_nil)) es) rfl) (ev_ret (ev_tup (ev_cons (ev_catS (ev_ixT rfl rfl rfl) (ev_ixT rfl rfl rfl) (by omega)) (ev_cons rfl ev_nil)) rfl))))))))⟩
    | seq ps =>
      rw [dep] at hd
      rw [Ok] at ho
      rw [Rep] at hr
      rw [cap] at hc
      have es := seq_ok (n := m) (a := a) (M := M) ho.1 hr ha0 ha hc (fun p hp => F p (by have := dep_le hp; omega) (ho.1.mem hp)) (fun p hp => Sd_ p (by have := dep_le hp; omega) (ho.1.mem hp) (hr.mem hp) (by have := cap_le hp; omega)) []
      have e : sides (.seq ps) a = shut ((fins ps).sum ≤ a) (bag ps a) := by rw [sides]
      rw [e]
      exact ⟨_, ev_run (ev_seq (ev_asg rfl rfl) (ev_seq (ev_if_f (by walk_at "kw") rfl) (ev_seq (ev_if_f (by walk_at "kw") rfl) (ev_seq (ev_if_f (by walk_at "kw") rfl) (ev_seq_rt (ev_if_t (by walk_at "kw") (ev_ret (ev_call (ev_cons (ev_ixT rfl rfl rfl) (ev_cons rfl ev_nil)) es))))))))⟩
    | loop c b =>
      rw [dep] at hd
      have ho' := ho
      have hr' := hr
      rw [Ok] at ho'
      rw [Rep] at hr'
      have hc' := hc
      rw [cap] at hc'
      have es := loop_ok (n := m) (a := a) (M := M) ho hr ha0 ha hc (F b (by omega) ho'.1) (Sd_ b (by omega) ho'.1 hr'.1 (by omega)) []
      exact ⟨_, ev_run (ev_seq (ev_asg rfl rfl) (ev_seq (ev_if_f (by walk_at "kw") rfl) (ev_seq (ev_if_f (by walk_at "kw") rfl) (ev_seq (ev_if_f (by walk_at "kw") rfl) (ev_seq (ev_if_f (by walk_at "kw") rfl) (ev_seq_rt (ev_if_t (by walk_at "kw") (ev_ret (ev_call (ev_cons (ev_ixT rfl rfl rfl) (ev_cons (ev_ixT rfl rfl rfl) (ev_cons rfl ev_nil))) es)))))))))⟩
    | join ps =>
      rw [dep] at hd
      rw [Ok] at ho
      rw [Rep] at hr
      rw [cap] at hc
      have Fs : ∀ p ∈ ps, ∀ S, sem m .finish [enc p] S = some (.int (fin p), S) := fun p hp => F p (by have := dep_le hp; omega) (ho.1.mem hp)
      obtain ⟨_, _, _, hk3⟩ := keyJ_at (fins_ne ho.2.2)
      obtain ⟨q, hq1, hq2⟩ := fins_get hk3
      have es := beside_ok (n := m) (a := a) (M := M) ho.1 ho.2.1 hr ha0 ha hc hq1 hq2 Fs (fun p hp => Sd_ p (by have := dep_le hp; omega) (ho.1.mem hp) (hr.mem hp) (by have := cap_le hp; omega)) []
      have ek := key_ok (n := m) (k := "join") (R := false) (.inr ⟨rfl, rfl⟩) ho.2.2 ho.2.1 Fs []
      have e : sides (.join ps) a = shut (lmax (fins ps) ≤ a) (besF (keyJ (fins ps)) 0 ([], []) (sidesL ps a)) := by rw [sides]
      rw [e]
      exact ⟨_, ev_run (ev_seq (ev_asg rfl rfl) (ev_seq (ev_if_f (by walk_at "kw") rfl) (ev_seq (ev_if_f (by walk_at "kw") rfl) (ev_seq (ev_if_f (by walk_at "kw") rfl) (ev_seq (ev_if_f (by walk_at "kw") rfl) (ev_seq (ev_if_f (by walk_at "kw") rfl) (ev_ret (ev_call (ev_cons (ev_ixT rfl rfl rfl) (ev_cons rfl (ev_cons (ev_call (ev_cons rfl ev_nil) ek) ev_nil))) es))))))))⟩
    | race ps =>
      rw [dep] at hd
      rw [Ok] at ho
      rw [Rep] at hr
      rw [cap] at hc
      have Fs : ∀ p ∈ ps, ∀ S, sem m .finish [enc p] S = some (.int (fin p), S) := fun p hp => F p (by have := dep_le hp; omega) (ho.1.mem hp)
      have hk3 := (keyR_at (fins_ne ho.2.2)).2
      obtain ⟨q, hq1, hq2⟩ := fins_get hk3
      have es := beside_ok (n := m) (a := a) (M := M) ho.1 ho.2.1 hr ha0 ha hc hq1 hq2 Fs (fun p hp => Sd_ p (by have := dep_le hp; omega) (ho.1.mem hp) (hr.mem hp) (by have := cap_le hp; omega)) []
      have ek := key_ok (n := m) (k := "race") (R := true) (.inl ⟨rfl, rfl⟩) ho.2.2 ho.2.1 Fs []
      have e : sides (.race ps) a = shut (lmin (fins ps) ≤ a) (besF (keyR (fins ps)) 0 ([], []) (sidesL ps a)) := by rw [sides]
      rw [e]
      exact ⟨_, ev_run (ev_seq (ev_asg rfl rfl) (ev_seq (ev_if_f (by walk_at "kw") rfl) (ev_seq (ev_if_f (by walk_at "kw") rfl) (ev_seq (ev_if_f (by walk_at "kw") rfl) (ev_seq (ev_if_f (by walk_at "kw") rfl) (ev_seq (ev_if_f (by walk_at "kw") rfl) (ev_ret (ev_call (ev_cons (ev_ixT rfl rfl rfl) (ev_cons rfl (ev_cons (ev_call (ev_cons rfl ev_nil) ek) ev_nil))) es))))))))⟩
end L2.Aw.K78

namespace L2.Aw.K78
open PySem PySem.Spec PyProof.Rows
local macro_rules | `(tactic| walk_at "kw") => `(tactic| first | exact ev_eqT rfl rfl | exact ev_eqF rfl rfl | exact ev_inK rfl (ev_tup (ev_cons rfl (ev_cons rfl ev_nil)) rfl) | exact ev_neF rfl rfl | exact ev_neT rfl rfl)
/-! marked words -/
def mk (t : Tree) (a : Int) : W := if fin t ≤ a then .tup ((sides t a).1.map wv ++ [.non] ++ (sides t a).2.map wv) else wStrs (sides t a).1
theorem marked_ok {n : Nat} {t : Tree} {M a : Int} (hd : 2 * dep t ≤ n) (ho : Ok t) (hr : Rep M t) (h0 : 0 ≤ a) (ha : a ≤ M) (hc : cap t ≤ 1000000) (S : Store) : sem (n + 1) .marked [enc t, .int a] S = some (mk t a, S) := by
  have hp : (mk t a).pure = true := by
    unfold mk
    split
    · rw [W.pure]
      refine pures_of fun w hw => ?_
      rcases List.mem_append.mp hw with h | h
      · rcases List.mem_append.mp h with h | h
        · obtain ⟨x, _, e⟩ := List.mem_map.mp h
          rw [← e]; exact wv_pure x
        · rw [List.mem_singleton.mp h, W.pure]
      · obtain ⟨x, _, e⟩ := List.mem_map.mp h
        rw [← e]; exact wv_pure x
    · exact wStrs_pure _
  suffices h : runB 4 (b_marked (sem n)) [enc t, .int a] [] = some (mk t a, []) from
    ev_pure (pures2 (enc_pure t) pure_int) h hp
  have es := sides_ok n t M a hd ho hr h0 ha hc []
  have ef := finish_ok n t (by omega) ho []
  have hz := sz_sides M t ho hr a ha
  have hz2 : sz (sides t a) = (sides t a).1.length + (sides t a).2.length := rfl
  refine ev_run (ev_seq (ev_asg (ev_call (ev_cons rfl (ev_cons rfl ev_nil)) es) rfl) (ev_ret ?_))
  by_cases h : fin t ≤ a
  · have e : mk t a = .tup ((sides t a).1.map wv ++ [.non] ++ (sides t a).2.map wv) := if_pos h
    rw [e]
    exact ev_mif_t (evt_ge rfl (ev_call (ev_cons rfl ev_nil) ef) h) (ev_catT (ev_catT rfl (ev_tup (ev_cons rfl ev_nil) rfl) (szOk_of (by rw [List.length_map]; show _ + 1 ≤ _; omega))) rfl (szOk_of (by rw [List.length_append, List.length_map, List.length_map]; show _ + 1 + _ ≤ _; omega)))
  · have e : mk t a = wStrs (sides t a).1 := if_neg h
    rw [e]
    exact ev_mif_f (evf_ge rfl (ev_call (ev_cons rfl ev_nil) ef) h) rfl
end L2.Aw.K78

namespace L2.Aw.K78
open PySem PySem.Spec PyProof.Rows
local macro_rules | `(tactic| walk_at "kw") => `(tactic| first | exact ev_eqT rfl rfl | exact ev_eqF rfl rfl | exact ev_inK rfl (ev_tup (ev_cons rfl (ev_cons rfl ev_nil)) rfl) | exact ev_neF rfl rfl | exact ev_neT rfl rfl)
theorem done_ok {n ta fo la : Nat} {a m : Int} {P : List W} {Lr : List Nat} {σ : Ms} {f : Fr} {S : Store} (h : RepQ S ta fo la a P Lr σ) (hg : FrG f) (hT : σ.T.length ≤ 1000000) (hk : ∀ j key f', f = .par j key f' → key < σ.T.length) :
    ∃ S' l, sem (n + 1) ._law_done [encF f, .int m, .ref ta] S = some (.ref l, S') ∧ RepQ S' ta fo la a P Lr (stepJ (.dn f m) σ).1 ∧ getL S' l = some ((stepJ (.dn f m) σ).2.reverse.map encJ) ∧ S.length ≤ l ∧ Grow (fun i => i = ta) S S' := by
  have fresh : ∀ (j : List Job), ∃ S' l, S' = S ++ [MO.lst (j.map encJ)] ∧ l = S.length ∧ RepQ S' ta fo la a P Lr σ ∧ getL S' l = some (j.map encJ) ∧ S.length ≤ l ∧ Grow (fun i => i = ta) S S' := fun j => ⟨_, _, rfl, rfl, h.push _, getL_new, Nat.le_refl _, Grow.push _⟩
  cases f with
  | none =>
    refine ⟨S ++ [.lst []], S.length, ?_, h.push _, getL_new, Nat.le_refl _, Grow.push _⟩
    exact ev_run (ev_seq (ev_par (ev_cons (ev_ixT rfl rfl rfl) (ev_cons (ev_ixT rfl rfl rfl) ev_nil))) (ev_seq (ev_if_f (ev_and_f (by walk_at "kw")) rfl) (ev_seq (ev_if_f (by walk_at "kw") rfl) (ev_seq (ev_if_f (by walk_at "kw") rfl) (ev_seq_rt (ev_if_t (by walk_at "kw") (ev_ret (ev_lst ev_nil rfl))))))))
  | seq ps f =>
    obtain ⟨h1, h2, h3⟩ := hg
    cases ps with
    | nil =>
      refine ⟨S ++ [.lst [encJ (.dn f m)]], S.length, ?_, h.push _, getL_new, Nat.le_refl _, Grow.push _⟩
      have q := in_row (env := [some (encF (.seq [] f)), some (.int m), some (.ref ta), some (.str "seq"), some (encF f)]) (S := S) (S1 := S) (ma := mBin wIx (mVar 0) (mC (.int 1))) (ps := []) h1 h2 (ev_ixT rfl rfl rfl)
      have q' : mTest (mBin wInT (mBin wIx (mVar 0) (mC (.int 1))) (mTup (aCons (mTup aNil) (aCons (mC (.int 0)) aNil)))) [some (encF (.seq [] f)), some (.int m), some (.ref ta), some (.str "seq"), some (encF f)] S = some (true, S) := q
      show runB 5 (b__law_done (sem n)) [encF (.seq [] f), .int m, .ref ta] S = _
      refine ev_run ?_
      refine ev_seq (ev_par (ev_cons (ev_ixT rfl rfl rfl) (ev_cons (ev_ixT rfl rfl rfl) ev_nil))) ?_
      refine ev_seq_rt (ev_if_t (ev_and_t (S1 := S) ?_ q') ?_)
      · walk_at "kw"
      · exact ev_ret (ev_lst (ev_cons (ev_tup (ev_cons rfl (ev_cons rfl (ev_cons rfl (ev_cons rfl ev_nil)))) rfl) ev_nil) rfl)
    | cons p ps =>
      have hp0 : atI (encs (p :: ps)) 0 = some (enc p) := by rw [encs]; exact atI_nat (show (enc p :: encs ps)[0]? = some (enc p) from rfl)
      have hp1 : wSlice (.tup (encs (p :: ps))) (some 1) none S = some (.tup (encs ps), S) := by
        rw [encs]
        show some (W.tup (wCut (enc p :: encs ps) (some 1) none), S) = _
        have e : wCut (enc p :: encs ps) (some 1) none = encs ps := by
          have e1 : HT.sIx (enc p :: encs ps).length 0 (some 1) = 1 := by
            have := HT.sIx_nat (enc p :: encs ps).length 0 1
            have e2 : ((1 : Nat) : Int) = 1 := rfl
            rw [e2] at this
            rw [this, List.length_cons]
            omega
          unfold wCut
          rw [e1, HT.sIx_none]
          simp
        rw [e]
      refine ⟨S ++ [.lst [encJ (.beg p (.seq ps f) m)]], S.length, ?_, h.push _, getL_new, Nat.le_refl _, Grow.push _⟩
      exact ev_run (ev_seq (ev_par (ev_cons (ev_ixT rfl rfl rfl) (ev_cons (ev_ixT rfl rfl rfl) ev_nil))) (ev_seq (ev_if_f (ev_and_t (by walk_at "kw") (in_row (ps := p :: ps) h1 h2 (ev_ixT rfl rfl rfl))) rfl) (ev_seq_rt (ev_if_t (by walk_at "kw") (ev_ret (ev_lst (ev_cons (ev_tup (ev_cons rfl (ev_cons (ev_ixT (ev_ixT rfl rfl rfl) rfl hp0) (ev_cons (ev_tup (ev_cons rfl (ev_cons (x := .tup (encs ps)) (S1 := S) (ev_slice (ev_ixT rfl rfl rfl) rfl rfl hp1) (ev_cons rfl ev_nil))) rfl) (ev_cons rfl ev_nil)))) rfl) ev_nil) rfl))))))
  | loop k b f =>
    obtain ⟨h1, h2, h3⟩ := hg
    by_cases h0 : k = 0
    · have e : stepJ (.dn (.loop k b f) m) σ = (σ, [.dn f m]) := by
        show (σ, if k = 0 then _ else _) = _
        rw [if_pos h0]
      rw [e]
      refine ⟨S ++ [.lst [encJ (.dn f m)]], S.length, ?_, h.push _, getL_new, Nat.le_refl _, Grow.push _⟩
      have q := in_num (env := [some (encF (.loop k b f)), some (.int m), some (.ref ta), some (.str "loop"), some (encF f)]) (S := S) (S1 := S) (ma := mBin wIx (mVar 0) (mC (.int 1))) (n := k) (ev_ixT rfl rfl rfl)
      rw [decide_eq_true h0] at q
      exact ev_run (ev_seq (ev_par (ev_cons (ev_ixT rfl rfl rfl) (ev_cons (ev_ixT rfl rfl rfl) ev_nil))) (ev_seq_rt (ev_if_t (ev_and_t (by walk_at "kw") q) (ev_ret (ev_lst (ev_cons (ev_tup (ev_cons rfl (ev_cons rfl (ev_cons rfl (ev_cons rfl ev_nil)))) rfl) ev_nil) rfl)))))
    · have e : stepJ (.dn (.loop k b f) m) σ = (σ, [.beg b (.loop (k - 1) b f) m]) := by
        show (σ, if k = 0 then _ else _) = _
        rw [if_neg h0]
      rw [e]
      refine ⟨S ++ [.lst [encJ (.beg b (.loop (k - 1) b f) m)]], S.length, ?_, h.push _, getL_new, Nat.le_refl _, Grow.push _⟩
      have q := in_num (env := [some (encF (.loop k b f)), some (.int m), some (.ref ta), some (.str "loop"), some (encF f)]) (S := S) (S1 := S) (ma := mBin wIx (mVar 0) (mC (.int 1))) (n := k) (ev_ixT rfl rfl rfl)
      rw [decide_eq_false h0] at q
      exact ev_run (ev_seq (ev_par (ev_cons (ev_ixT rfl rfl rfl) (ev_cons (ev_ixT rfl rfl rfl) ev_nil))) (ev_seq (ev_if_f (ev_and_t (by walk_at "kw") q) rfl) (ev_seq (ev_if_f (by walk_at "kw") rfl) (ev_seq_rt (ev_if_t (by walk_at "kw") (ev_ret (ev_lst (ev_cons (ev_tup (ev_cons rfl (ev_cons (ev_ixT rfl rfl rfl) (ev_cons (ev_tup (ev_cons rfl (ev_cons (ev_subI (ev_ixT rfl rfl rfl) rfl) (ev_cons (ev_ixT rfl rfl rfl) (ev_cons rfl ev_nil)))) rfl) (ev_cons rfl ev_nil)))) rfl) ev_nil) rfl)))))))
  | par j key f =>
    have hkey := hk j key f rfl
    let v : Int := σ.T.getD key 0 - 1
    let S1 : Store := S.set ta (.dK (kvsT (σ.T.set key v)))
    have R1 : RepQ S1 ta fo la a P Lr ⟨σ.T.set key v, σ.F, σ.Q⟩ := h.tally rfl
    have hz : szOk ((kvsT σ.T).length + 1) = true := szOk_of (by rw [kvsT_len]; omega)
    have hput : putW (kvsT σ.T) (Sum.inl ((key : Nat) : Int)) (.int v) = kvsT (σ.T.set key v) := put_old σ.T v hkey
    have put : ∀ kw : Str, sDPutW (mVar 2) (mBin wIx (mVar 0) (mC (.int 1))) (mBin wSub (mDGet (mVar 2) (mBin wIx (mVar 0) (mC (.int 1)))) (mC (.int 1))) [some (.tup [.str kw, .int (key : Nat), encF f]), some (.int m), some (.ref ta), some (.str kw), some (encF f)] S = some (.nx [some (.tup [.str kw, .int (key : Nat), encF f]), some (.int m), some (.ref ta), some (.str kw), some (encF f)] S1) := by
      intro kw
      have e := ev_dput (env := [some (.tup [.str kw, .int (key : Nat), encF f]), some (.int m), some (.ref ta), some (.str kw), some (encF f)]) (S := S) (mo := mVar 2) (mi := mBin wIx (mVar 0) (mC (.int 1))) (mv := mBin wSub (mDGet (mVar 2) (mBin wIx (mVar 0) (mC (.int 1)))) (mC (.int 1))) (kk := Sum.inl ((key : Nat) : Int)) (ev_subI (ev_dget rfl (ev_ixT rfl rfl rfl) h.t rfl (val_at σ.T hkey)) rfl) rfl (ev_ixT rfl rfl rfl) h.t rfl hz
      rw [hput] at e
      exact e
    have v1 : valW (kvsT (σ.T.set key v)) (Sum.inl ((key : Nat) : Int)) = some (.int v) := by
      rw [val_at (σ.T.set key v) (by rw [List.length_set]; exact hkey)]
      congr 2
      simp [List.getD, hkey]
    have get : ∀ kw : Str, mDGet (mVar 2) (mBin wIx (mVar 0) (mC (.int 1))) [some (.tup [.str kw, .int (key : Nat), encF f]), some (.int m), some (.ref ta), some (.str kw), some (encF f)] S1 = some (.int v, S1) := fun kw => ev_dget rfl (ev_ixT rfl rfl rfl) R1.t rfl v1
    have body : ∀ kw : Str, kw = "join" ∨ kw = "race" → ∀ R, (sRet (mIf (mTest (mBin (fEq false) (mDGet (mVar 2) (mBin wIx (mVar 0) (mC (.int 1)))) (mC (.int 0)))) (mLst (aCons (mTup (aCons (mC (.str "done")) (aCons (mC .non) (aCons (mVar 4) (aCons (mVar 1) aNil))))) aNil)) (mLst aNil)) [some (.tup [.str kw, .int (key : Nat), encF f]), some (.int m), some (.ref ta), some (.str kw), some (encF f)] S1 = some (.rt (.ref S1.length) R)) → runB 5 (b__law_done (sem n)) [.tup [.str kw, .int (key : Nat), encF f], .int m, .ref ta] S = some (.ref S1.length, R) := by
      intro kw hkw R hR
      refine ev_run ?_
      rcases hkw with e | e <;> subst e <;> exact ev_seq (ev_par (ev_cons (ev_ixT rfl rfl rfl) (ev_cons (ev_ixT rfl rfl rfl) ev_nil))) (ev_seq (ev_if_f (ev_and_f (by walk_at "kw")) rfl) (ev_seq (ev_if_f (by walk_at "kw") rfl) (ev_seq (ev_if_f (by walk_at "kw") rfl) (ev_seq (ev_if_f (by walk_at "kw") rfl) (ev_seq (put _) hR)))))
    have hkw : (if j then ("join" : Str) else "race") = "join" ∨ (if j then ("join" : Str) else "race") = "race" := by cases j <;> simp
    have gS : Grow (fun i => i = ta) S S1 := Grow.set rfl
    have est : stepJ (.dn (.par j key f) m) σ = (⟨σ.T.set key v, σ.F, σ.Q⟩, if v = 0 then [.dn f m] else []) := rfl
    rw [est]
    by_cases h0 : v = 0
    · refine ⟨S1 ++ [.lst [encJ (.dn f m)]], S1.length, body _ hkw _ (ev_ret (ev_mif_t (evt_eq (get _) rfl h0) (ev_lst (ev_cons (ev_tup (ev_cons rfl (ev_cons rfl (ev_cons rfl (ev_cons rfl ev_nil)))) rfl) ev_nil) rfl))), R1.push _, ?_, by rw [List.length_set]; exact Nat.le_refl _, gS.trans (Grow.push _)⟩
      rw [if_pos h0]
      exact getL_new
    · refine ⟨S1 ++ [.lst []], S1.length, body _ hkw _ (ev_ret (ev_mif_f (evf_eq (get _) rfl h0) (ev_lst ev_nil rfl))), R1.push _, ?_, by rw [List.length_set]; exact Nat.le_refl _, gS.trans (Grow.push _)⟩
      rw [if_neg h0]
      exact getL_new
theorem begun_ok {n ta fo la : Nat} {a m : Int} {P : List W} {Lr : List Nat} {σ : Ms} {f : Fr} {t : Tree} {S : Store} (h : RepQ S ta fo la a P Lr σ) (hg : Ok t) (hT : σ.T.length ≤ 1000000) (hF : P.length + σ.F.length ≤ 1000000) (hQ : σ.Q.length ≤ 1000000) :
    ∃ S' l Lr', sem (n + 1) ._law_begun [enc t, encF f, .int m, .ref ta, .ref fo, .ref la, .int a] S = some (.ref l, S') ∧ RepQ S' ta fo la a P Lr' (stepJ (.beg t f m) σ).1 ∧ getL S' l = some ((stepJ (.beg t f m) σ).2.reverse.map encJ) ∧ S.length ≤ l ∧ Grow (fun i => i = ta ∨ i = fo ∨ i = la) S S' ∧ ∀ r ∈ Lr', r ∈ Lr ∨ S.length ≤ r := by
  let S0 : Store := S ++ [.lst []]
  have R0 : RepQ S0 ta fo la a P Lr σ := h.push _
  have l0 : S0.length = S.length + 1 := by simp [S0]
  have G0 : Grow (fun i => i = ta ∨ i = fo ∨ i = la) S S0 := Grow.push _
  have b0 : getL S0 S.length = some [] := getL_new
  have old : ∀ r ∈ Lr, r ∈ Lr ∨ S.length ≤ r := fun r hr => .inl hr
  obtain ⟨lt1, lt2, lt3⟩ := h.lts
  -- joins and races
  have parts : ∀ (kw : Str) (jj : Bool) (ps : List Tree) (nn : Int), (kw = "join" ∧ jj = true ∧ nn = (ps.length : Nat)) ∨ (kw = "race" ∧ jj = false ∧ nn = 1) → ps.length ≤ 1000 →
      ∃ S' l Lr', runB 12 (b__law_begun (sem n)) [.tup [.str kw, .tup (encs ps)], encF f, .int m, .ref ta, .ref fo, .ref la, .int a] S = some (.ref l, S') ∧ RepQ S' ta fo la a P Lr' ⟨σ.T ++ [nn], σ.F, σ.Q⟩ ∧ getL S' l = some ((ps.map fun p => Job.beg p (.par jj σ.T.length f) m).reverse.map encJ) ∧ S.length ≤ l ∧ Grow (fun i => i = ta ∨ i = fo ∨ i = la) S S' ∧ ∀ r ∈ Lr', r ∈ Lr ∨ S.length ≤ r := by
    intro kw jj ps nn hkw hps
    let S1 : Store := S0.set ta (.dK (kvsT (σ.T ++ [nn])))
    have R1 : RepQ S1 ta fo la a P Lr ⟨σ.T ++ [nn], σ.F, σ.Q⟩ := R0.tally rfl
    let e9 : WEnv := [some (.tup [.str kw, .tup (encs ps)]), some (encF f), some (.int m), some (.ref ta), some (.ref fo), some (.ref la), some (.int a), some (.str kw), some (.ref S.length), none, none, none]
    let e10 : WEnv := [some (.tup [.str kw, .tup (encs ps)]), some (encF f), some (.int m), some (.ref ta), some (.ref fo), some (.ref la), some (.int a), some (.str kw), some (.ref S.length), none, some (.int (σ.T.length : Nat)), none]
    have ek : mCall cLenD (aCons (mVar 3) aNil) e9 S0 = some (.int (σ.T.length : Nat), S0) := by
      have e := ev_lenD (env := e9) (S := S0) (S1 := S0) (mes := aCons (mVar 3) aNil) (ev_cons rfl ev_nil) R0.t
      rw [kvsT_len] at e
      exact e
    have ev_ : mIf (mTest (mBin (fEq false) (mVar 7) (mC (.str "join")))) (mCall cLen (aCons (mBin wIx (mVar 0) (mC (.int 1))) aNil)) (mC (.int 1)) e10 S0 = some (.int nn, S0) := by
      rcases hkw with ⟨h1, h2, h3⟩ | ⟨h1, h2, h3⟩
      · subst h1 h3
        have e := ev_lenS (env := e10) (S := S0) (S1 := S0) (mes := aCons (mBin wIx (mVar 0) (mC (.int 1))) aNil) (ev_cons (ev_ixT rfl rfl rfl) ev_nil) (show seqOf S0 (.tup (encs ps)) = some (encs ps) from rfl)
        rw [encs_length] at e
        exact ev_mif_t (by walk_at "kw") e
      · subst h1 h3
        exact ev_mif_f (by walk_at "kw") rfl
    have ep : sDPutW (mVar 3) (mVar 10) (mIf (mTest (mBin (fEq false) (mVar 7) (mC (.str "join")))) (mCall cLen (aCons (mBin wIx (mVar 0) (mC (.int 1))) aNil)) (mC (.int 1))) e10 S0 = some (.nx e10 S1) := by
      have e := ev_dput (env := e10) (S := S0) (mo := mVar 3) (mi := mVar 10) (kk := Sum.inl ((σ.T.length : Nat) : Int)) ev_ rfl rfl R0.t rfl (szOk_of (by rw [kvsT_len]; omega))
      rw [put_new] at e
      exact e
    let g : Tree → W := fun p => .tup [.str "begin", enc p, .tup [.str kw, .int (σ.T.length : Nat), encF f], .int m]
    have ec : mLc (iSeq (mUn wRevT (mBin wIx (mVar 0) (mC (.int 1))))) (.nm 11) (tYesW) (mTup (aCons (mC (.str "begin")) (aCons (mVar 11) (aCons (mTup (aCons (mVar 7) (aCons (mVar 10) (aCons (mVar 1) aNil)))) (aCons (mVar 2) aNil))))) [11] e10 S1 = some (.ref S1.length, S1 ++ [.lst (ps.reverse.map g)]) := by
      refine ev_kids (ps := ps.reverse) (g := g) (S1 := S1) ?_ (by rw [List.length_reverse]; omega) fun p hp => ?_
      · have e : (encs ps.reverse) = (encs ps).reverse := by rw [encs_map, encs_map, List.map_reverse]
        rw [e]
        exact ev_un (ev_ixT rfl rfl rfl) rfl
      · exact ev_tup (ev_cons rfl (ev_cons rfl (ev_cons (ev_tup (ev_cons rfl (ev_cons rfl (ev_cons rfl ev_nil))) rfl) (ev_cons rfl ev_nil)))) rfl
    have eg : ps.reverse.map g = (ps.map fun p => Job.beg p (.par jj σ.T.length f) m).reverse.map encJ := by
      rw [← List.map_reverse, List.map_map]
      refine List.map_congr_left fun p _ => ?_
      rcases hkw with ⟨h1, h2, h3⟩ | ⟨h1, h2, h3⟩ <;> subst h1 h2 <;> rfl
    refine ⟨S1 ++ [.lst (ps.reverse.map g)], S1.length, Lr, ?_, R1.push _, by rw [← eg]; exact getL_new, by show S.length ≤ (S0.set ta _).length; rw [List.length_set, l0]; omega, (G0.trans (Grow.set (.inl rfl))).trans (Grow.push _), old⟩
    have tail : sSeq (sAsg (.nm 10) (mCall cLenD (aCons (mVar 3) aNil))) (sSeq (sDPutW (mVar 3) (mVar 10) (mIf (mTest (mBin (fEq false) (mVar 7) (mC (.str "join")))) (mCall cLen (aCons (mBin wIx (mVar 0) (mC (.int 1))) aNil)) (mC (.int 1)))) (sAsg (.nm 8) (mLc (iSeq (mUn wRevT (mBin wIx (mVar 0) (mC (.int 1))))) (.nm 11) (tYesW) (mTup (aCons (mC (.str "begin")) (aCons (mVar 11) (aCons (mTup (aCons (mVar 7) (aCons (mVar 10) (aCons (mVar 1) aNil)))) (aCons (mVar 2) aNil))))) [11]))) e9 S0 = some (.nx (e10.set 8 (some (.ref S1.length))) (S1 ++ [.lst (ps.reverse.map g)])) :=
      ev_seq (ev_asg ek rfl) (ev_seq ep (ev_asg ec rfl))
    refine ev_run (ev_seq (ev_asg (ev_tup (ev_cons (ev_ixT rfl rfl rfl) (ev_cons (ev_lst ev_nil rfl) ev_nil)) rfl) rfl) ?_)
    rcases hkw with ⟨h1, h2, h3⟩ | ⟨h1, h2, h3⟩
    · subst h1
      refine ev_seq (ev_if_f (by walk_at "kw") rfl) ?_
      refine ev_seq (ev_if_f (by walk_at "kw") (ev_if_f (by walk_at "kw") (ev_if_f (by walk_at "kw") (ev_if_f (by walk_at "kw") tail)))) ?_
      exact ev_ret rfl
    · subst h1
      refine ev_seq (ev_if_f (by walk_at "kw") rfl) ?_
      refine ev_seq (ev_if_f (by walk_at "kw") (ev_if_f (by walk_at "kw") (ev_if_f (by walk_at "kw") (ev_if_f (by walk_at "kw") tail)))) ?_
      exact ev_ret rfl
  show ∃ S' l Lr', runB 12 (b__law_begun (sem n)) [enc t, encF f, .int m, .ref ta, .ref fo, .ref la, .int a] S = some (.ref l, S') ∧ _
  cases t with
  | log w =>
    let ws : List W := P ++ (σ.F.map fun p => W.tup [.int a, .int p.1, wv p.2]) ++ [.tup [.int a, .int m, wv w]]
    let S1 : Store := S0.set fo (.lst ws)
    have R1 : RepQ S1 ta fo la a P Lr ⟨σ.T, σ.F ++ [(m, w)], σ.Q⟩ := R0.log rfl
    refine ⟨S1 ++ [.lst [encJ (.dn f m)]], S1.length, Lr, ?_, R1.push _, getL_new, by show S.length ≤ (S0.set fo (.lst ws)).length; rw [List.length_set, l0]; omega, (G0.trans (Grow.set (.inr (.inl rfl)))).trans (Grow.push _), old⟩
    refine ev_run (ev_seq (ev_asg (ev_tup (ev_cons (ev_ixT rfl rfl rfl) (ev_cons (ev_lst ev_nil rfl) ev_nil)) rfl) rfl) ?_)
    refine ev_seq_rt (ev_if_t (by walk_at "kw") (ev_seq (ev_expr (S1 := S1) (ev_append (S1 := S0) (S2 := S0) (y := .tup [.int a, .int m, wv w]) rfl (ev_cons (ev_tup (ev_cons rfl (ev_cons rfl (ev_cons (ev_ixT rfl rfl rfl) ev_nil))) rfl) ev_nil) (by rw [R0.f]; rfl) R0.f (szOk_of (by rw [List.length_append, List.length_map]; omega)))) (ev_ret (ev_lst (ev_cons (ev_tup (ev_cons rfl (ev_cons rfl (ev_cons rfl (ev_cons rfl ev_nil)))) rfl) ev_nil) rfl))))
  | await k =>
    let j : Job := if 1 < k then .beg (.await (k - 1)) f m else .dn f m
    let S1 : Store := S0 ++ [.lst [encJ j]]
    have R1 : RepQ S1 ta fo la a P Lr σ := R0.push _
    have hr : getL S1 S0.length = some [encJ j] := getL_new
    let S2 : Store := S1.set la (.lst (Lr.map W.ref ++ [.ref S0.length]))
    have R2 : RepQ S2 ta fo la a P (Lr ++ [S0.length]) ⟨σ.T, σ.F, σ.Q ++ [j]⟩ := R1.later hr (by omega) (by omega) (by omega)
    have hmif : ∀ x8 : Option W, mIf (mTest (mBin wGt (mBin wIx (mVar 0) (mC (.int 1))) (mC (.int 1)))) (mLst (aCons (mVar 9) aNil)) (mLst (aCons (mTup (aCons (mC (.str "done")) (aCons (mC .non) (aCons (mVar 1) (aCons (mVar 2) aNil))))) aNil)) [some (enc (.await k)), some (encF f), some (.int m), some (.ref ta), some (.ref fo), some (.ref la), some (.int a), some (.str "await"), x8, some (encJ (.beg (.await (k - 1)) f m)), none, none] S0 = some (.ref S0.length, S1) := by
      intro x8
      by_cases hk : 1 < k
      · have ej : j = .beg (.await (k - 1)) f m := if_pos hk
        show _ = some (W.ref S0.length, S0 ++ [.lst [encJ j]])
        rw [ej]
        exact ev_mif_t (evt_gt (ev_ixT rfl rfl rfl) rfl hk) (ev_lst (ev_cons rfl ev_nil) rfl)
      · have ej : j = .dn f m := if_neg hk
        show _ = some (W.ref S0.length, S0 ++ [.lst [encJ j]])
        rw [ej]
        exact ev_mif_f (evf_gt (ev_ixT rfl rfl rfl) rfl hk) (ev_lst (ev_cons (ev_tup (ev_cons rfl (ev_cons rfl (ev_cons rfl (ev_cons rfl ev_nil)))) rfl) ev_nil) rfl)
    refine ⟨S2, S.length, Lr ++ [S0.length], ?_, R2, ?_, Nat.le_refl _, (G0.trans (Grow.push _)).trans (Grow.set (.inr (.inr rfl))), fun r hr => ?_⟩
    · refine ev_run (ev_seq (ev_asg (ev_tup (ev_cons (ev_ixT rfl rfl rfl) (ev_cons (ev_lst ev_nil rfl) ev_nil)) rfl) rfl) ?_)
      refine ev_seq (ev_if_f (by walk_at "kw") rfl) ?_
      refine ev_seq (ev_if_t (by walk_at "kw") (ev_seq (ev_asg (w := encJ (.beg (.await (k - 1)) f m)) (S1 := S0) (ev_tup (ev_cons rfl (ev_cons (ev_tup (ev_cons rfl (ev_cons (ev_subI (ev_ixT rfl rfl rfl) rfl) ev_nil)) rfl) (ev_cons rfl (ev_cons rfl ev_nil)))) rfl) rfl) (ev_expr (S1 := S2) (ev_append (S1 := S0) (S2 := S1) (y := .ref S0.length) rfl (ev_cons (hmif _) ev_nil) (by rw [R0.l]; rfl) R1.l (szOk_of (by rw [List.length_map, R0.len]; omega)))))) ?_
      exact ev_ret rfl
    · have g : Grow (fun i => i = la) S0 S2 := (Grow.push _).trans (Grow.set rfl)
      exact g.getL b0 (by omega)
    · rcases List.mem_append.mp hr with e | e
      · exact .inl e
      · rw [List.mem_singleton.mp e]; exact .inr (by omega)
  | fork p =>
    refine ⟨S0 ++ [.lst [encJ (.dn f m), encJ (.beg p .none m)]], S0.length, Lr, ?_, R0.push _, getL_new, by omega, G0.trans (Grow.push _), old⟩
    refine ev_run (ev_seq (ev_asg (ev_tup (ev_cons (ev_ixT rfl rfl rfl) (ev_cons (ev_lst ev_nil rfl) ev_nil)) rfl) rfl) ?_)
    refine ev_seq (ev_if_f (by walk_at "kw") rfl) ?_
    refine ev_seq (ev_if_f (by walk_at "kw") (ev_if_t (by walk_at "kw") (ev_asg (ev_lst (ev_cons (ev_tup (ev_cons rfl (ev_cons rfl (ev_cons rfl (ev_cons rfl ev_nil)))) rfl) (ev_cons (ev_tup (ev_cons rfl (ev_cons (ev_ixT rfl rfl rfl) (ev_cons (ev_tup (ev_cons rfl ev_nil) rfl) (ev_cons rfl ev_nil)))) rfl) ev_nil)) rfl) rfl))) ?_
    exact ev_ret rfl
  | seq ps =>
    refine ⟨S0 ++ [.lst [encJ (.dn (.seq ps f) m)]], S0.length, Lr, ?_, R0.push _, getL_new, by omega, G0.trans (Grow.push _), old⟩
    refine ev_run (ev_seq (ev_asg (ev_tup (ev_cons (ev_ixT rfl rfl rfl) (ev_cons (ev_lst ev_nil rfl) ev_nil)) rfl) rfl) ?_)
    refine ev_seq (ev_if_f (by walk_at "kw") rfl) ?_
    refine ev_seq (ev_if_f (by walk_at "kw") (ev_if_f (by walk_at "kw") (ev_if_t (by walk_at "kw") (ev_asg (ev_lst (ev_cons (ev_tup (ev_cons rfl (ev_cons rfl (ev_cons (ev_tup (ev_cons rfl (ev_cons (ev_ixT rfl rfl rfl) (ev_cons rfl ev_nil))) rfl) (ev_cons rfl ev_nil)))) rfl) ev_nil) rfl) rfl)))) ?_
    exact ev_ret rfl
  | loop c b =>
    refine ⟨S0 ++ [.lst [encJ (.dn (.loop c b f) m)]], S0.length, Lr, ?_, R0.push _, getL_new, by omega, G0.trans (Grow.push _), old⟩
    refine ev_run (ev_seq (ev_asg (ev_tup (ev_cons (ev_ixT rfl rfl rfl) (ev_cons (ev_lst ev_nil rfl) ev_nil)) rfl) rfl) ?_)
    refine ev_seq (ev_if_f (by walk_at "kw") rfl) ?_
    refine ev_seq (ev_if_f (by walk_at "kw") (ev_if_f (by walk_at "kw") (ev_if_f (by walk_at "kw") (ev_if_t (by walk_at "kw") (ev_asg (ev_lst (ev_cons (ev_tup (ev_cons rfl (ev_cons rfl (ev_cons (ev_tup (ev_cons rfl (ev_cons (ev_ixT rfl rfl rfl) (ev_cons (ev_ixT rfl rfl rfl) (ev_cons rfl ev_nil)))) rfl) (ev_cons rfl ev_nil)))) rfl) ev_nil) rfl) rfl))))) ?_
    exact ev_ret rfl
  | join ps =>
    rw [Ok] at hg
    exact parts "join" true ps _ (.inl ⟨rfl, rfl, rfl⟩) hg.2.1
  | race ps =>
    rw [Ok] at hg
    exact parts "race" false ps _ (.inr ⟨rfl, rfl, rfl⟩) hg.2.1
abbrev inTest : WT := mTest (mBin wNeNil (mVar 8) (mLst aNil))
abbrev inBody (c : Fn → FM) : WS := sSeq (sAsg (.tp ((.nm 9) :: ((.nm 10) :: ((.nm 11) :: ((.nm 12) :: []))))) (mMeth lPop (mVar 8) aNil)) (sIf (mTest (mBin (fEq false) (mVar 9) (mC (.str "begin")))) (sExpr (mMeth lExtend (mVar 8) (aCons (mCall (c ._law_begun) (aCons (mVar 10) (aCons (mVar 11) (aCons (mVar 12) (aCons (mVar 2) (aCons (mVar 3) (aCons (mVar 6) (aCons (mVar 5) aNil)))))))) aNil))) (sExpr (mMeth lExtend (mVar 8) (aCons (mCall (c ._law_done) (aCons (mVar 11) (aCons (mVar 12) (aCons (mVar 2) aNil)))) aNil))))
/-- one callback, to its end -/
theorem inner_ok {n N ta fo la le : Nat} {a : Int} {P : List W} {x0 x1 x4 x7 : Option W} (hN : P.length + N ≤ 1000000) (e1 : le ≠ ta) (e2 : le ≠ fo) (e3 : le ≠ la) : ∀ {J : List Job} {σ σ' : Ms}, Ex J σ σ' → ∀ (S : Store) (Lr : List Nat) (y9 y10 y11 y12 : Option W), Within N J σ → (∀ x ∈ J, JbG x) → (∀ x ∈ σ.Q, JbG x) → RepQ S ta fo la a P Lr σ → getL S le = some (J.reverse.map encJ) → le ∉ Lr →
    ∃ S' Lr' z9 z10 z11 z12, (∃ k, sWhile k inTest (inBody (sem (n + 1))) [x0, x1, some (.ref ta), some (.ref fo), x4, some (.int a), some (.ref la), x7, some (.ref le), y9, y10, y11, y12] S = some (.nx [x0, x1, some (.ref ta), some (.ref fo), x4, some (.int a), some (.ref la), x7, some (.ref le), z9, z10, z11, z12] S')) ∧ RepQ S' ta fo la a P Lr' σ' ∧ Grow (fun i => (i = ta ∨ i = fo ∨ i = la) ∨ i = le) S S' ∧ (∀ r ∈ Lr', r ∈ Lr ∨ S.length ≤ r) ∧ Within N [] σ' ∧ ∀ x ∈ σ'.Q, JbG x := by
  intro J σ σ' hx
  induction hx with
  | @nil σ =>
    intro S Lr y9 y10 y11 y12 hw hj hq hr hl hle
    refine ⟨S ++ [.lst []], Lr, y9, y10, y11, y12, ev_stop ?_, hr.push _, Grow.push _, fun r h => .inl h, hw, hq⟩
    exact ev_nNil rfl hl
  | @cons j js σ σ' hx ih =>
    intro S Lr y9 y10 y11 y12 hw hj hq hr hl hle
    have hw2 := hw.step
    obtain ⟨g1, g2⟩ := JbG.step (σ := σ) (hj j List.mem_cons_self) hq
    have hlt : le < S.length := (List.getElem?_eq_some_iff.mp (getL_some hl)).1
    let S1 : Store := S ++ [.lst []]
    let S2 : Store := S1.set le (.lst (js.reverse.map encJ))
    have ejs : (j :: js).reverse.map encJ = js.reverse.map encJ ++ [encJ j] := by rw [List.reverse_cons, List.map_append]; rfl
    rw [ejs] at hl
    have hl1 : getL S1 le = some (js.reverse.map encJ ++ [encJ j]) := getL_old hl
    have gS2 : Grow (fun i => i = le) S S2 := (Grow.push _).trans (Grow.set rfl)
    have l1 : S1.length = S.length + 1 := by simp [S1]
    have l2 : S2.length = S.length + 1 := by show (S1.set le _).length = _; rw [List.length_set, l1]
    have hr2 : RepQ S2 ta fo la a P Lr σ := hr.grow gS2 (fun e => e1 e.symm) (fun e => e2 e.symm) (fun e => e3 e.symm) (fun r h e => hle (e ▸ h))
    have hl2 : getL S2 le = some (js.reverse.map encJ) := getL_set (by omega)
    have htest : inTest [x0, x1, some (.ref ta), some (.ref fo), x4, some (.int a), some (.ref la), x7, some (.ref le), y9, y10, y11, y12] S = some (true, S1) := by
      have e := ev_nNil (env := [x0, x1, some (.ref ta), some (.ref fo), x4, some (.int a), some (.ref la), x7, some (.ref le), y9, y10, y11, y12]) (S := S) (S1 := S) (ma := mVar 8) rfl hl
      have eb : (!(js.reverse.map encJ ++ [encJ j]).isEmpty) = true := by simp
      rw [eb] at e
      exact e
    -- sizes
    obtain ⟨G, w1, w2, w3, w4⟩ := id hw
    obtain ⟨G', v1, v2, v3, v4⟩ := id hw2
    have hp1 := phis_len σ.Q
    have hp2 := phis_len ((stepJ j σ).2 ++ js)
    rw [List.length_append] at hp2
    have hsz : szOk ((js.reverse.map encJ).length + ((stepJ j σ).2.reverse.map encJ).length) = true := szOk_of (by rw [List.length_map, List.length_map, List.length_reverse, List.length_reverse]; omega)
    have enew : js.reverse.map encJ ++ (stepJ j σ).2.reverse.map encJ = ((stepJ j σ).2 ++ js).reverse.map encJ := by rw [List.reverse_append, List.map_append]
    -- the call
    have call : ∃ S3 l Lr3 z9 z10 z11 z12, RepQ S3 ta fo la a P Lr3 (stepJ j σ).1 ∧ getL S3 l = some ((stepJ j σ).2.reverse.map encJ) ∧ Grow (fun i => i = ta ∨ i = fo ∨ i = la) S2 S3 ∧ (∀ r ∈ Lr3, r ∈ Lr ∨ S2.length ≤ r) ∧
        inBody (sem (n + 1)) [x0, x1, some (.ref ta), some (.ref fo), x4, some (.int a), some (.ref la), x7, some (.ref le), y9, y10, y11, y12] S1 = some (.nx [x0, x1, some (.ref ta), some (.ref fo), x4, some (.int a), some (.ref la), x7, some (.ref le), z9, z10, z11, z12] (S3.set le (.lst (js.reverse.map encJ ++ (stepJ j σ).2.reverse.map encJ)))) := by
      cases j with
      | beg t f m =>
        obtain ⟨S3, l, Lr3, c1, c2, c3, c4, c5, c6⟩ := begun_ok (n := n) (m := m) (f := f) hr2 (hj _ List.mem_cons_self).1 (by omega) (by omega) (by omega)
        have hl3 : getL S3 le = some (js.reverse.map encJ) := c5.getL hl2 (by omega)
        refine ⟨S3, l, Lr3, some (.str "begin"), some (enc t), some (encF f), some (.int m), c2, c3, c5, c6, ?_⟩
        refine ev_seq (ev_asg (w := encJ (.beg t f m)) (S1 := S2) (ev_pop rfl hl1) rfl) ?_
        exact ev_if_t (by walk_at "kw") (ev_expr (ev_extend rfl (ev_call (ev_cons rfl (ev_cons rfl (ev_cons rfl (ev_cons rfl (ev_cons rfl (ev_cons rfl (ev_cons rfl ev_nil))))))) c1) (by rw [hl2]; rfl) hl3 c3 hsz))
      | dn f m =>
        obtain ⟨S3, l, c1, c2, c3, c4, c5⟩ := done_ok (n := n) (m := m) (f := f) hr2 (hj _ List.mem_cons_self) (by omega) (fun jj key f' ef => by
          subst ef
          have z := w2 _ List.mem_cons_self
          obtain ⟨⟨g, z1, z2⟩, z3⟩ := z
          rw [← w1]
          exact (List.getElem?_eq_some_iff.mp z1).1)
        have hl3 : getL S3 le = some (js.reverse.map encJ) := c5.getL hl2 (by omega)
        refine ⟨S3, l, Lr, some (.str "done"), some .non, some (encF f), some (.int m), c2, c3, c5.mono (fun i _ h => .inl h), fun r h => .inl h, ?_⟩
        refine ev_seq (ev_asg (w := encJ (.dn f m)) (S1 := S2) (ev_pop rfl hl1) rfl) ?_
        exact ev_if_f (by walk_at "kw") (ev_expr (ev_extend rfl (ev_call (ev_cons rfl (ev_cons rfl (ev_cons rfl ev_nil))) c1) (by rw [hl2]; rfl) hl3 c3 hsz))
    obtain ⟨S3, l, Lr3, z9, z10, z11, z12, d1, d2, d3, d4, d5⟩ := call
    rw [enew] at d5
    let S4 : Store := S3.set le (.lst (((stepJ j σ).2 ++ js).reverse.map encJ))
    have l3 := d3.len
    have hle3 : le ∉ Lr3 := fun h => by
      rcases d4 le h with e | e
      · exact hle e
      · omega
    have hr4 : RepQ S4 ta fo la a P Lr3 (stepJ j σ).1 := d1.grow (p := fun i => i = le) (Grow.set rfl) (fun e => e1 e.symm) (fun e => e2 e.symm) (fun e => e3 e.symm) (fun r h e => hle3 (e ▸ h))
    have l4 : S4.length = S3.length := List.length_set
    obtain ⟨S5, Lr5, u9, u10, u11, u12, f1, f2, f3, f4, f5, f6⟩ := ih S4 Lr3 z9 z10 z11 z12 hw2 (fun x h => by
      rcases List.mem_append.mp h with e | e
      · exact g1 x e
      · exact hj x (List.mem_cons_of_mem _ e)) g2 hr4 (getL_set (by omega)) hle3
    refine ⟨S5, Lr5, u9, u10, u11, u12, ev_turn htest d5 f1, f2, ?_, fun r h => ?_, f5, f6⟩
    · exact (((gS2.mono fun i _ h => .inr h).trans (d3.mono fun i _ h => .inl h)).trans (Grow.set (.inr rfl))).trans f3
    · rcases f4 r h with e | e
      · rcases d4 r e with y | y
        · exact .inl y
        · exact .inr (by omega)
      · exact .inr (by omega)
end L2.Aw.K78

namespace L2.Aw.K78
open PySem PySem.Spec PyProof.Rows
noncomputable abbrev forBody (c : Fn → FM) : WS := sSeq (sAsg (.nm 8) (mUn wRevL (mVar 7))) (sWhileU inTest (inBody c))
theorem RepQ.ltL {S : Store} {ta fo la : Nat} {a : Int} {P : List W} {Lr : List Nat} {σ : Ms} (h : RepQ S ta fo la a P Lr σ) : ∀ r ∈ Lr, r < S.length := by
  intro r hr
  obtain ⟨i, hi, e⟩ := List.mem_iff_getElem.mp hr
  have hi2 : i < σ.Q.length := by rw [← h.len]; exact hi
  have q := h.q i r σ.Q[i] (by rw [List.getElem?_eq_getElem hi, e]) (List.getElem?_eq_getElem hi2)
  exact (List.getElem?_eq_some_iff.mp (getL_some q)).1
/-- the callbacks of one round -/
theorem for_ok {n N ta fo la he : Nat} {a : Int} {P : List W} {Lr : List Nat} {x0 x1 x7 x8 x9 x10 x11 x12 : Option W} {Hs : List Nat} {Cs : List (List Job)} {S : Store} {σ σ' : Ms} (hN : P.length + N ≤ 1000000)
    (hr : RepQ S ta fo la a P Lr σ) (hh : getL S he = some (Hs.map W.ref)) (hl : Hs.length = Cs.length) (hc : ∀ (i h : Nat) (c : List Job), Hs[i]? = some h → Cs[i]? = some c → getL S h = some (c.map encJ)) (h1 : ∀ h ∈ he :: Hs, h ≠ ta ∧ h ≠ fo ∧ h ≠ la)
    (hx : Ex Cs.flatten σ σ') (hw : Within N Cs.flatten σ) (hj : ∀ x ∈ Cs.flatten, JbG x) (hq : ∀ x ∈ σ.Q, JbG x) :
    ∃ S' Lr' z7 z8 z9 z10 z11 z12, sFor (iSeq (mVar 4)) (.nm 7) (forBody (sem (n + 1))) [x0, x1, some (.ref ta), some (.ref fo), some (.ref he), some (.int a), some (.ref la), x7, x8, x9, x10, x11, x12] S = some (.nx [x0, x1, some (.ref ta), some (.ref fo), some (.ref he), some (.int a), some (.ref la), z7, z8, z9, z10, z11, z12] S') ∧ RepQ S' ta fo la a P Lr' σ' ∧ Within N [] σ' ∧ (∀ x ∈ σ'.Q, JbG x) ∧ S.length ≤ S'.length ∧ Grow (fun i => i = ta ∨ i = fo ∨ i = la) S S' := by
  have hhlt : ∀ h ∈ he :: Hs, h < S.length := by
    intro h hm
    rcases List.mem_cons.mp hm with e | e
    · rw [e]; exact (List.getElem?_eq_some_iff.mp (getL_some hh)).1
    · obtain ⟨i, hi, e2⟩ := List.mem_iff_getElem.mp e
      have hi2 : i < Cs.length := by rw [← hl]; exact hi
      exact (List.getElem?_eq_some_iff.mp (getL_some (hc i h Cs[i] (by rw [List.getElem?_eq_getElem hi, e2]) (List.getElem?_eq_getElem hi2)))).1
  obtain ⟨e, S', eo, z7, z8, z9, z10, z11, z12, σi, Lri, ee, q1, q2, q3, q4, q5, q6⟩ := ev_for (env := [x0, x1, some (.ref ta), some (.ref fo), some (.ref he), some (.int a), some (.ref la), x7, x8, x9, x10, x11, x12]) (S := S) (mi := iSeq (mVar 4)) (tg := .nm 7) (body := forBody (sem (n + 1)))
    (P := fun i e Si => ∃ (z7 z8 z9 z10 z11 z12 : Option W) (σi : Ms) (Lri : List Nat), e = [x0, x1, some (.ref ta), some (.ref fo), some (.ref he), some (.int a), some (.ref la), z7, z8, z9, z10, z11, z12] ∧ RepQ Si ta fo la a P Lri σi ∧ Ex (Cs.drop i).flatten σi σ' ∧ Within N (Cs.drop i).flatten σi ∧ (∀ x ∈ (Cs.drop i).flatten, JbG x) ∧ (∀ x ∈ σi.Q, JbG x) ∧ Grow (fun i => i = ta ∨ i = fo ∨ i = la) S Si)
    (ev_seqL rfl hh) ⟨_, _, _, _, _, _, σ, Lr, rfl, hr, by rw [List.drop_zero]; exact hx, by rw [List.drop_zero]; exact hw, by rw [List.drop_zero]; exact hj, hq, Grow.refl _ _⟩ (by
      intro i e Si hi ⟨z7, z8, z9, z10, z11, z12, σi, Lri, ee, q1, q2, q3, q4, q5, q6⟩
      subst ee
      have hi1 : i < Hs.length := by
        have : i < (Hs.map W.ref).length := hi
        rw [List.length_map] at this
        exact this
      have hi2 : i < Cs.length := by rw [← hl]; exact hi1
      have ed : Cs.drop i = Cs[i] :: Cs.drop (i + 1) := List.drop_eq_getElem_cons hi2
      rw [ed, List.flatten_cons] at q2 q3 q4
      obtain ⟨σ1, r1, r2⟩ := q2.split
      have hm : Hs[i] ∈ he :: Hs := List.mem_cons_of_mem _ (List.getElem_mem hi1)
      have hci : getL Si Hs[i] = some (Cs[i].map encJ) := q6.getL (hc i Hs[i] Cs[i] (List.getElem?_eq_getElem hi1) (List.getElem?_eq_getElem hi2)) (by have := h1 _ hm; omega)
      have hhi : getL Si he = some (Hs.map W.ref) := q6.getL hh (by have := h1 he List.mem_cons_self; omega)
      let Sj : Store := Si ++ [.lst ((Cs[i].reverse).map encJ)]
      have lts := q1.lts
      have lj : Sj.length = Si.length + 1 := by simp [Sj]
      obtain ⟨S2, Lr2, u9, u10, u11, u12, ⟨k, w1⟩, w2, w3, w4, w5, w6⟩ := inner_ok (n := n) (N := N) (le := Si.length) (x0 := x0) (x1 := x1) (x4 := some (.ref he)) (x7 := some (.ref Hs[i])) hN (by omega) (by omega) (by omega) r1 Sj Lri z9 z10 z11 z12 q3.left (fun x h => q4 x (List.mem_append_left _ h)) q5 (q1.push _) getL_new (fun h => by have := RepQ.ltL q1 _ h; omega)
      refine ⟨.ref Hs[i], _, ?_, rfl, _, S2, .inl (ev_seq (ev_asg (w := .ref Si.length) (S1 := Sj) (ev_un (x := .ref Hs[i]) (S1 := Si) rfl ?_) rfl) (ev_whileU w1)), some (.ref Hs[i]), some (.ref Si.length), u9, u10, u11, u12, σ1, Lr2, rfl, w2, r2, r1.within _ q3, fun x h => q4 x (List.mem_append_right _ h), w6, ?_⟩
      · show (getL Si he).bind (fun ws => ws[i]?) = _
        rw [hhi]
        show (Hs.map W.ref)[i]? = _
        rw [List.getElem?_map, List.getElem?_eq_getElem hi1]
        rfl
      · show (getL Si Hs[i]).bind (fun ws => newL ws.reverse Si) = _
        rw [hci, Option.bind_some, ← List.map_reverse]
        rfl
      · have g2 : Grow (fun i => i = ta ∨ i = fo ∨ i = la) Si S2 := by
          refine ⟨by have := w3.len; omega, fun x hx hn => ?_⟩
          have hxs : x < Sj.length := by omega
          rw [w3.at_ x hxs (by omega)]
          exact List.getElem?_append_left hx
        exact q6.trans g2) (by
      intro e Si ⟨z7, z8, z9, z10, z11, z12, σi, Lri, ee, q1, q2, q3, q4, q5, q6⟩
      show (match getL Si he with
        | some ws => decide (ws.length ≤ (Hs.map W.ref).length)
        | none => false) = true
      rw [q6.getL hh (by have := h1 he List.mem_cons_self; omega)]
      exact decide_eq_true (Nat.le_refl _))
  subst ee
  have hn : (sLst he (Hs.map W.ref).length).n = Cs.length := by
    show (Hs.map W.ref).length = _
    rw [List.length_map, hl]
  rw [hn, List.drop_length, List.flatten_nil] at q2 q3
  have e := q2.nil_inv
  subst e
  exact ⟨S', Lri, z7, z8, z9, z10, z11, z12, eo, q1, q3, q5, q6.len, q6⟩
end L2.Aw.K78

namespace L2.Aw.K78
open PySem PySem.Spec PyProof.Rows
def enc3 (p : Int × Int × Wd) : W := .tup [.int p.1, .int p.2.1, wv p.2.2]
abbrev outTest : WT := mTest (mBin wNeNil (mVar 4) (mLst aNil))
noncomputable abbrev outBody (c : Fn → FM) : WS := sSeq (sAsg (.nm 6) (mLst aNil)) (sSeq (sFor (iSeq (mVar 4)) (.nm 7) (forBody c)) (sPar 4 5 (aCons (mVar 6) (aCons (mBin wAdd (mVar 5) (mC (.int 1))) aNil))))
/-- rounds, one after another -/
theorem rounds_ok {n ta fo : Nat} {x0 x1 : Option W} (hd : ta ≠ fo) : ∀ {a : Int} {J : List Job} {T : List Int} {res : List (Int × Int × Wd)}, Rnds a J T res → ∀ (N he : Nat) (Hs : List Nat) (Cs : List (List Job)) (P : List W) (S : Store) (x6 x7 x8 x9 x10 x11 x12 : Option W), P.length + N ≤ 1000000 → S[ta]? = some (.dK (kvsT T)) → getL S fo = some P → getL S he = some (Hs.map W.ref) → Hs.length = Cs.length → (∀ (i h : Nat) (c : List Job), Hs[i]? = some h → Cs[i]? = some c → getL S h = some (c.map encJ)) → (∀ h ∈ he :: Hs, h ≠ ta ∧ h ≠ fo) → Cs.flatten = J → (J = [] → Cs = []) → Within N J ⟨T, [], []⟩ → (∀ x ∈ J, JbG x) →
    ∃ S' e', (∃ k, sWhile k outTest (outBody (sem (n + 1))) [x0, x1, some (.ref ta), some (.ref fo), some (.ref he), some (.int a), x6, x7, x8, x9, x10, x11, x12] S = some (.nx e' S')) ∧ e'[3]? = some (some (.ref fo)) ∧ getL S' fo = some (P ++ res.map enc3) ∧ Grow (fun i => i = ta ∨ i = fo) S S' := by
  intro a J T res hx
  induction hx with
  | stop =>
    intro N he Hs Cs P S x6 x7 x8 x9 x10 x11 x12 hN h1 h2 h3 h4 h5 h6 h7 h8 hw hj
    have eC : Cs = [] := h8 rfl
    subst eC
    have eH : Hs = [] := List.eq_nil_of_length_eq_zero h4
    subst eH
    refine ⟨S ++ [.lst []], _, ev_stop (ev_nNil rfl h3), rfl, ?_, Grow.push _⟩
    rw [List.map_nil, List.append_nil]
    exact getL_old h2
  | @round a J Q T T' F rest hJ hx hr ih =>
    intro N he Hs Cs P S x6 x7 x8 x9 x10 x11 x12 hN h1 h2 h3 h4 h5 h6 h7 h8 hw hj
    have lt1 : ta < S.length := (List.getElem?_eq_some_iff.mp h1).1
    have lt2 : fo < S.length := (List.getElem?_eq_some_iff.mp (getL_some h2)).1
    let S1 : Store := S ++ [.lst []]
    let S2 : Store := S1 ++ [.lst []]
    have l1 : S1.length = S.length + 1 := by simp [S1]
    have g02 : Grow (fun _ => False) S S2 := (Grow.push _).trans (Grow.push _)
    have hlt : ∀ h ∈ he :: Hs, h < S.length := by
      intro h hm
      rcases List.mem_cons.mp hm with e | e
      · rw [e]; exact (List.getElem?_eq_some_iff.mp (getL_some h3)).1
      · obtain ⟨i, hi, e2⟩ := List.mem_iff_getElem.mp e
        have hi2 : i < Cs.length := by rw [← h4]; exact hi
        exact (List.getElem?_eq_some_iff.mp (getL_some (h5 i h Cs[i] (by rw [List.getElem?_eq_getElem hi, e2]) (List.getElem?_eq_getElem hi2)))).1
    have R2 : RepQ S2 ta fo S1.length a P [] ⟨T, [], []⟩ :=
      ⟨by rw [g02.at_ ta lt1 id]; exact h1, by rw [List.map_nil, List.append_nil]; exact g02.getL h2 id, getL_new, rfl, fun i r j hi => by simp at hi, hd, by omega, by omega, fun r h => nomatch h⟩
    have hHs : Hs ≠ [] := fun e => by
      rw [e] at h4
      have : Cs = [] := List.eq_nil_of_length_eq_zero h4.symm
      rw [this] at h7
      exact hJ h7.symm
    have htest : outTest [x0, x1, some (.ref ta), some (.ref fo), some (.ref he), some (.int a), x6, x7, x8, x9, x10, x11, x12] S = some (true, S1) := by
      have e := ev_nNil (env := [x0, x1, some (.ref ta), some (.ref fo), some (.ref he), some (.int a), x6, x7, x8, x9, x10, x11, x12]) (S := S) (S1 := S) (ma := mVar 4) rfl h3
      have eb : (!(Hs.map W.ref).isEmpty) = true := by
        cases Hs with
        | nil => exact absurd rfl hHs
        | cons a b => rfl
      rw [eb] at e
      exact e
    obtain ⟨S3, Lr3, z7, z8, z9, z10, z11, z12, f1, f2, f3, f4, f5, f6⟩ := for_ok (n := n) (N := N) (he := he) (x0 := x0) (x1 := x1) (x7 := x7) (x8 := x8) (x9 := x9) (x10 := x10) (x11 := x11) (x12 := x12) (S := S2) hN R2 (g02.getL h3 id) h4 (fun i h c p q => g02.getL (h5 i h c p q) id) (fun h hm => ⟨(h6 h hm).1, (h6 h hm).2, by have := hlt h hm; omega⟩) (by rw [h7]; exact hx) (by rw [h7]; exact hw) (by rw [h7]; exact hj) (fun _ h => nomatch h)
    obtain ⟨w1, w2⟩ := f3.next
    have l2 : S2.length = S.length + 2 := by simp [S2, S1]
    have gA : Grow (fun i => i = ta ∨ i = fo) S S3 := by
      refine ⟨by omega, fun x hx hn => ?_⟩
      rw [f6.at_ x (by omega) (by omega)]
      exact g02.at_ x hx id
    obtain ⟨S4, e4, g1, g2, g3, g4⟩ := ih (N - F.length) S1.length Lr3 (Q.map fun j => [j]) (P ++ F.map fun p => .tup [.int a, .int p.1, wv p.2]) S3 (some (.ref S1.length)) z7 z8 z9 z10 z11 z12 (by
      rw [List.length_append, List.length_map]
      have : F.length ≤ N := w2
      omega) f2.t f2.f f2.l (by rw [List.length_map]; exact f2.len) (fun i h c p q => by
      rw [List.getElem?_map] at q
      obtain ⟨j, q1, q2⟩ := Option.map_eq_some_iff.mp q
      rw [← q2]
      exact f2.q i h j p q1) (fun h hm => by
      rcases List.mem_cons.mp hm with e | e
      · rw [e]; exact ⟨by omega, by omega⟩
      · exact ⟨(f2.r h e).1, (f2.r h e).2.1⟩) (by
      have : ∀ l : List Job, (l.map fun j => [j]).flatten = l := fun l => by
        induction l with
        | nil => rfl
        | cons x l ih => rw [List.map_cons, List.flatten_cons, ih]; rfl
      exact this Q) (fun e => by rw [e]; rfl) w1 f4
    refine ⟨S4, e4, ev_turn htest (ev_seq (ev_asg (w := .ref S1.length) (S1 := S2) (ev_lst ev_nil rfl) rfl) (ev_seq f1 (ev_par (ev_cons rfl (ev_cons (ev_addI rfl rfl) ev_nil))))) g1, g2, ?_, gA.trans g4⟩
    rw [g3, List.map_append, List.map_map, List.append_assoc]
    rfl
end L2.Aw.K78

namespace L2.Aw.K78
open PySem PySem.Spec PyProof.Rows
/-- the programs of a list with their marks -/
def marks (ts : List Tree) : List (Int × Tree) := (List.range ts.length).map fun (i : Nat) => ((i : Int), ts.getD i (.await 1))
theorem logged_ok {n tr N : Nat} {ts : List Tree} {S : Store} {res : List (Int × Int × Wd)} (hl : getL S tr = some (encs ts)) (hne : ts ≠ []) (hlen : ts.length ≤ 1000) (hx : Rnds 0 ((marks ts).map fun c => Job.beg c.2 .none c.1) [] res) (hw : Within N ((marks ts).map fun c => Job.beg c.2 .none c.1) ⟨[], [], []⟩) (hN : N ≤ 1000000) (hg : ∀ t ∈ ts, Ok t ∧ dep t ≤ 30) :
    ∃ S' l, sem (n + 2) ._law_logged [.ref tr] S = some (.ref l, S') ∧ getL S' l = some (res.map enc3) ∧ S.length ≤ l ∧ Grow (fun _ => False) S S' := by
  let js : List Job := (marks ts).map fun c => Job.beg c.2 .none c.1
  have jl : js.length = ts.length := by simp [js, marks]
  let S1 : Store := S ++ [.lst (js.map encJ)]
  have ec : mLc (iEnumL (aCons (mVar 0) aNil)) (.tp ((.nm 12) :: ((.nm 10) :: []))) (tYesW) (mTup (aCons (mC (.str "begin")) (aCons (mVar 10) (aCons (mTup (aCons (mC (.str "none")) aNil)) (aCons (mVar 12) aNil))))) [12, 10] [some (.ref tr), none, none, none, none, none, none, none, none, none, none, none, none] S = some (.ref S.length, S1) := by
    have e := ev_lc (env := [some (.ref tr), none, none, none, none, none, none, none, none, none, none, none, none]) (S := S) (S1 := S) (mi := iEnumL (aCons (mVar 0) aNil)) (s := sEnumL tr (encs ts).length) (tg := .tp ((.nm 12) :: ((.nm 10) :: []))) (el := mTup (aCons (mC (.str "begin")) (aCons (mVar 10) (aCons (mTup (aCons (mC (.str "none")) aNil)) (aCons (mVar 12) aNil))))) (vs := [12, 10]) (g := fun i => encJ (.beg (ts.getD i (.await 1)) .none (i : Int))) (ev_enumL (ev_cons rfl ev_nil) hl) (fun i hi => by
      have hi' : i < ts.length := by
        have : i < (encs ts).length := hi
        rw [encs_length] at this
        exact this
      have eg : ts.getD i (.await 1) = ts[i] := by simp [List.getD, hi']
      refine ⟨.tup [.int i, enc ts[i]], _, ?_, rfl, ?_⟩
      · show (getL S tr).bind (fun ws => (ws[i]?).map fun w => W.tup [.int i, w]) = _
        rw [hl, Option.bind_some, encs_get (List.getElem?_eq_getElem hi')]
        rfl
      · rw [eg]
        exact ev_tup (ev_cons rfl (ev_cons rfl (ev_cons (ev_tup (ev_cons rfl ev_nil) rfl) (ev_cons rfl ev_nil)))) rfl) (by
      show (match getL S tr with
        | some ws => decide (ws.length ≤ (encs ts).length)
        | none => false) = true
      rw [hl]
      exact decide_eq_true (Nat.le_refl _)) (szOk_of (by show (encs ts).length ≤ _; rw [encs_length]; omega))
    rw [e]
    have e2 : (List.range (sEnumL tr (encs ts).length).n).map (fun i => encJ (.beg (ts.getD i (.await 1)) .none (i : Int))) = js.map encJ := by
      show (List.range (encs ts).length).map _ = _
      rw [encs_length]
      simp only [js, marks, List.map_map]
      rfl
    rw [e2]
  let S2 : Store := S1 ++ [.dK []] ++ [.lst []] ++ [.lst [.ref S.length]]
  have l1 : S1.length = S.length + 1 := by simp [S1]
  have l3 : (S1 ++ [MO.dK []] ++ [MO.lst []]).length = S1.length + 2 := by simp
  have e2 : (S1 ++ [MO.dK []]).length = S1.length + 1 := by simp
  have gS : Grow (fun _ => False) S1 S2 := ((Grow.push _).trans (Grow.push _)).trans (Grow.push _)
  have h1 : S2[S1.length]? = some (.dK (kvsT [])) := by
    have g : Grow (fun _ => False) (S1 ++ [MO.dK []]) S2 := (Grow.push _).trans (Grow.push _)
    rw [g.at_ S1.length (by omega) id]
    exact getD_new
  have h2 : getL S2 (S1.length + 1) = some [] := by
    have g : Grow (fun _ => False) (S1 ++ [MO.dK []] ++ [MO.lst []]) S2 := Grow.push _
    refine g.getL ?_ id
    rw [← e2]
    exact getL_new
  have h3 : getL S2 (S1.length + 2) = some ([S.length].map W.ref) := by
    rw [← l3]
    exact getL_new
  have hj : ∀ x ∈ js, JbG x := by
    intro x hx
    obtain ⟨c, hc, e⟩ := List.mem_map.mp hx
    obtain ⟨i, hi, e2⟩ := List.mem_map.mp hc
    have hi' := List.mem_range.mp hi
    have eg : ts.getD i (.await 1) = ts[i] := by simp [List.getD, hi']
    rw [← e, ← e2]
    show Ok (ts.getD i (.await 1)) ∧ dep (ts.getD i (.await 1)) ≤ 30 ∧ True
    rw [eg]
    exact ⟨(hg _ (List.getElem_mem hi')).1, (hg _ (List.getElem_mem hi')).2, trivial⟩
  obtain ⟨S', e', ⟨k, hk⟩, he3, hfo, gR⟩ := rounds_ok (n := n) (ta := S1.length) (fo := S1.length + 1) (x0 := some (.ref tr)) (x1 := some (.ref S.length)) (by omega) hx N (S1.length + 2) [S.length] [js] [] S2 none none none none none none none (by rw [List.length_nil]; omega) h1 h2 h3 rfl (fun i h c p q => by
    cases i with
    | zero => cases p; cases q; exact gS.getL getL_new id
    | succ i => simp at p) (fun h hm => by
    rcases List.mem_cons.mp hm with e | e
    · omega
    · rw [List.mem_singleton.mp e]; omega) (by simp [js]) (fun e => by
    exfalso
    have : js = [] := e
    rw [this] at jl
    exact hne (List.eq_nil_of_length_eq_zero jl.symm)) hw hj
  rw [List.nil_append] at hfo
  have l2 : S2.length = S1.length + 3 := by simp [S2]
  have gB : Grow (fun _ => False) S S' := by
    refine ⟨by have := gR.len; omega, fun x hx _ => ?_⟩
    rw [gR.at_ x (by omega) (by omega), gS.at_ x (by omega) id]
    exact List.getElem?_append_left hx
  refine ⟨S', S1.length + 1, ?_, hfo, by omega, gB⟩
  have epar : sAsg (.tp ((.nm 2) :: ((.nm 3) :: ((.nm 4) :: ((.nm 5) :: []))))) (mTup (aCons (mNewK) (aCons (mLst aNil) (aCons (mLst (aCons (mVar 1) aNil)) (aCons (mC (.int 0)) aNil))))) [some (.ref tr), some (.ref S.length), none, none, none, none, none, none, none, none, none, none, none] S1 = some (.nx [some (.ref tr), some (.ref S.length), some (.ref S1.length), some (.ref (S1.length + 1)), some (.ref (S1.length + 2)), some (.int 0), none, none, none, none, none, none, none] S2) := by
    rw [← l3, ← e2]
    exact ev_asg (ev_tup (ev_cons rfl (ev_cons (ev_lst ev_nil rfl) (ev_cons (ev_lst (ev_cons rfl ev_nil) rfl) (ev_cons rfl ev_nil)))) rfl) rfl
  exact ev_run (ev_seq (ev_asg ec rfl) (ev_seq epar (ev_seq (ev_whileU hk) (ev_ret (ev_var he3)))))
end L2.Aw.K78

namespace L2.Aw.K78
open PySem PySem.Spec PyProof.Rows
theorem mk_mkw (t : Tree) (a : Int) : mk t a = .tup ((mkw t a).map wv) := by
  unfold mk mkw
  split
  · rw [List.map_append, List.map_append]; rfl
  · rfl
/-- [[] for at in range(many)] -/
theorem rows_new {env : WEnv} {S : Store} {many : Nat} {j : Nat} (h1 : env[1]? = some (some (.int (many : Nat)))) (h2 : many ≤ 100000) (hj : j ≠ 1) : mLc (iRange1 (aCons (mVar 1) aNil)) (.nm j) (tYesW) (mLst aNil) [j] env S = some (.ref (S.length + many), S ++ List.replicate many (.lst []) ++ [.lst ((List.range many).map fun k => W.ref (S.length + k))]) := by
  obtain ⟨acc, σ, e, hl, ea, eσ⟩ := ev_lc_inv (env := env) (S := S) (mi := iRange1 (aCons (mVar 1) aNil)) (s := sRng 0 ((many : Nat) : Int).toNat) (tg := .nm j) (vs := [j]) (el := mLst aNil) (P := fun i acc σ => acc = (List.range i).map (fun k => W.ref (S.length + k)) ∧ σ = S ++ List.replicate i (MO.lst [])) (ev_range1 (ev_cons (ev_var h1) ev_nil) (okRng_of (by omega) (by omega))) ⟨rfl, by simp⟩ (by
    intro i acc σ hi ⟨ea, eσ⟩
    subst ea eσ
    refine ⟨.int (0 + i), _, .ref (S ++ List.replicate i (MO.lst [])).length, S ++ List.replicate i (MO.lst []) ++ [.lst []], rfl, rfl, ev_lst ev_nil rfl, ?_, ?_⟩
    · rw [List.range_succ, List.map_append, List.length_append, List.length_replicate]; rfl
    · rw [List.replicate_succ', List.append_assoc]) (fun _ _ _ => rfl) (szOk_of (by show ((many : Nat) : Int).toNat ≤ _; omega))
  have en : (sRng 0 ((many : Nat) : Int).toNat).n = many := by show ((many : Nat) : Int).toNat = many; omega
  rw [en] at ea eσ
  subst ea eσ
  rw [e, List.length_append, List.length_replicate]
/-- the words of one round of a log -/
def rowOf (res : List (Int × Int × Wd)) (r : Int) : List W := (res.filter fun p => decide (p.1 = r)).map fun p => wv p.2.2
abbrev fillBody : WS := sIf (mTest (mBin wLt (mVar 4) (mVar 1))) (sExpr (mMeth lAppend (mBin wIx (mVar 3) (mVar 4)) (aCons (mVar 6) aNil))) (sNext)
theorem fill_ok {env0 : Option W} {x2 x5 x6 x7 x4 : Option W} {S0 S : Store} {b rw_ ll many : Nat} {mi : WI} {res : List (Int × Int × Wd)} (hm : mi [env0, some (.int (many : Nat)), x2, some (.ref rw_), x4, x5, x6, x7] S0 = some (sLst ll (res.map enc3).length, S)) (hll : getL S ll = some (res.map enc3)) (hrw : getL S rw_ = some ((List.range many).map fun k => W.ref (b + k))) (hrows : ∀ r, r < many → getL S (b + r) = some []) (hd1 : ∀ r, r < many → b + r ≠ ll ∧ b + r ≠ rw_) (hpos : ∀ p ∈ res, 0 ≤ p.1) (hlen : res.length ≤ 1000000) :
    ∃ S' z4 z5 z6, sFor mi (.tp ((.nm 4) :: ((.nm 5) :: ((.nm 6) :: [])))) fillBody [env0, some (.int (many : Nat)), x2, some (.ref rw_), x4, x5, x6, x7] S0 = some (.nx [env0, some (.int (many : Nat)), x2, some (.ref rw_), z4, z5, z6, x7] S') ∧ getL S' rw_ = some ((List.range many).map fun k => W.ref (b + k)) ∧ (∀ r, r < many → getL S' (b + r) = some (rowOf res (r : Nat))) ∧ S'.length = S.length ∧ Grow (fun x => b ≤ x ∧ x < b + many) S S' := by
  obtain ⟨e, S', eo, z4, z5, z6, ee, q1, q2, q3, q4, q5⟩ := ev_for (env := [env0, some (.int (many : Nat)), x2, some (.ref rw_), x4, x5, x6, x7]) (S := S0) (mi := mi) (tg := .tp ((.nm 4) :: ((.nm 5) :: ((.nm 6) :: [])))) (body := fillBody)
    (P := fun i e σ => ∃ z4 z5 z6 : Option W, e = [env0, some (.int (many : Nat)), x2, some (.ref rw_), z4, z5, z6, x7] ∧ getL σ rw_ = some ((List.range many).map fun k => W.ref (b + k)) ∧ (∀ r, r < many → getL σ (b + r) = some (rowOf (res.take i) (r : Nat))) ∧ getL σ ll = some (res.map enc3) ∧ σ.length = S.length ∧ Grow (fun x => b ≤ x ∧ x < b + many) S σ)
    hm ⟨_, _, _, rfl, hrw, fun r hr => by rw [List.take_zero]; exact hrows r hr, hll, rfl, Grow.refl _ _⟩ (by
      intro i e σ hi ⟨z4, z5, z6, ee, q1, q2, q3, q4, q5⟩
      subst ee
      have hi' : i < res.length := by
        have : i < (res.map enc3).length := hi
        rw [List.length_map] at this
        exact this
      obtain ⟨a, m, w, ep⟩ : ∃ a m w, res[i] = (a, m, w) := ⟨_, _, _, rfl⟩
      have ha : 0 ≤ a := by have := hpos _ (List.getElem_mem hi'); rw [ep] at this; exact this
      have et : res.take (i + 1) = res.take i ++ [(a, m, w)] := by rw [← ep]; exact (List.take_append_getElem hi').symm
      have erow : ∀ r : Int, rowOf (res.take (i + 1)) r = rowOf (res.take i) r ++ (if a = r then [wv w] else []) := by
        intro r
        unfold rowOf
        rw [et, List.filter_append, List.map_append]
        congr 1
        by_cases h : a = r
        · rw [if_pos h, List.filter_cons, if_pos (by exact decide_eq_true h)]; rfl
        · rw [if_neg h, List.filter_cons, if_neg (by simpa using h)]; rfl
      have hitem : (sLst ll (res.map enc3).length).item i σ = some (.tup [.int a, .int m, wv w]) := by
        show (getL σ ll).bind (fun ws => ws[i]?) = _
        rw [q3, Option.bind_some, List.getElem?_map, List.getElem?_eq_getElem hi', ep]
        rfl
      refine ⟨_, _, hitem, rfl, ?_⟩
      by_cases h : a < (many : Int)
      · have hr : a.toNat < many := by omega
        have ea : a = ((a.toNat : Nat) : Int) := by omega
        have hix : atI ((List.range many).map fun k => W.ref (b + k)) a = some (.ref (b + a.toNat)) := by
          have z := atI_nat (show ((List.range many).map fun k => W.ref (b + k))[a.toNat]? = some (.ref (b + a.toNat)) by rw [List.getElem?_map, List.getElem?_range hr]; rfl)
          rw [← ea] at z
          exact z
        have hrow := q2 a.toNat hr
        rw [← ea] at hrow
        have hsz : szOk ((rowOf (res.take i) a).length + 1) = true := by
          refine szOk_of ?_
          unfold rowOf
          rw [List.length_map]
          have := List.length_filter_le (fun p : Int × Int × Wd => decide (p.1 = a)) (res.take i)
          rw [List.length_take] at this
          omega
        have hlt : b + a.toNat < σ.length := (List.getElem?_eq_some_iff.mp (getL_some hrow)).1
        have g : Grow (fun x => x = b + a.toNat) σ (σ.set (b + a.toNat) (.lst (rowOf (res.take i) a ++ [wv w]))) := Grow.set rfl
        refine ⟨_, _, .inl (ev_if_t (evt_lt rfl rfl h) (ev_expr (ev_append (ev_ixL rfl rfl q1 hix) (ev_cons rfl ev_nil) (by rw [hrow]; rfl) hrow hsz))), _, _, _, rfl, g.getL q1 (fun e => (hd1 _ hr).2 e.symm), fun r hr2 => ?_, g.getL q3 (fun e => (hd1 _ hr).1 e.symm), by rw [List.length_set]; exact q4, q5.trans (Grow.set ⟨by omega, by omega⟩)⟩
        rw [erow]
        by_cases e : r = a.toNat
        · subst e
          rw [getL_set hlt, ← ea, if_pos rfl]
        · rw [if_neg (by omega), List.append_nil]
          exact g.getL (q2 r hr2) (by omega)
      · refine ⟨_, _, .inl (ev_if_f (evf_lt rfl rfl h) rfl), _, _, _, rfl, q1, fun r hr2 => ?_, q3, q4, q5⟩
        rw [erow, if_neg (by omega), List.append_nil]
        exact q2 r hr2) (by
      intro e σ ⟨z4, z5, z6, ee, q1, q2, q3, q4, q5⟩
      show (match getL σ ll with
        | some ws => decide (ws.length ≤ (res.map enc3).length)
        | none => false) = true
      rw [q3]
      exact decide_eq_true (Nat.le_refl _))
  subst ee
  refine ⟨S', z4, z5, z6, eo, q1, fun r hr => ?_, q4, q5⟩
  have h := q2 r hr
  have en : (sLst ll (res.map enc3).length).n = res.length := by show (res.map enc3).length = _; rw [List.length_map]
  rw [en, List.take_length] at h
  exact h
end L2.Aw.K78

namespace L2.Aw.K78
open PySem PySem.Spec PyProof.Rows
theorem rowOf_rows (cs : List (Int × Tree)) (r : Int) : ∀ (n : Nat) (a : Int), rowOf (rowsC cs a n) r = if a ≤ r ∧ r < a + n then (rowC cs r).map fun p => wv p.2 else []
  | 0, a => by
    rw [if_neg (by omega)]
    rfl
  | n + 1, a => by
    rw [rowsC_succ]
    have ih := rowOf_rows cs r n (a + 1)
    unfold rowOf at ih ⊢
    rw [List.filter_append, List.map_append, ih, List.filter_map, List.map_map]
    by_cases h : a = r
    · subst h
      rw [if_neg (by omega), if_pos (by omega), List.append_nil]
      have e : (rowC cs a).filter ((fun p : Int × Int × Wd => decide (p.1 = a)) ∘ fun p : Int × Wd => (a, p.1, p.2)) = rowC cs a := by
        refine List.filter_eq_self.mpr fun p _ => ?_
        simp
      rw [e]
      rfl
    · have e : (rowC cs a).filter ((fun p : Int × Int × Wd => decide (p.1 = r)) ∘ fun p : Int × Wd => (a, p.1, p.2)) = [] := by
        refine List.filter_eq_nil_iff.mpr fun p _ => ?_
        simpa using h
      rw [e, List.map_nil, List.nil_append]
      by_cases h2 : a + 1 ≤ r ∧ r < a + 1 + n
      · rw [if_pos h2, if_pos (by omega)]
      · rw [if_neg h2, if_neg (by omega)]
end L2.Aw.K78

namespace L2.Aw.K78
open PySem PySem.Spec PyProof.Rows
local macro_rules | `(tactic| walk_at "z") => `(tactic| first | with_reducible assumption | rfl | exact szOk_of (by simp only [List.length_cons, List.length_nil, List.length_append, List.length_map, List.length_replicate, List.length_range]; omega))
local macro_rules | `(tactic| walk_at "l") => `(tactic| first | with_reducible assumption | exact getL_new | exact getL_set (by assumption) | (apply getL_old; walk_at "l"))
local macro_rules | `(tactic| walk_at "q") => `(tactic| first | exact sq_tup | exact sq_fz | (apply sq_ref; walk_at "l"))
local macro_rules | `(tactic| walk_at "d") => `(tactic| first | exact decide_eq_true (by omega) | exact decide_eq_false (by omega) | rfl)
local macro_rules | `(tactic| walk_at "m") => `(tactic| first | with_reducible assumption | exact okMul_of (by omega) (by omega) (by omega) (by omega) | rfl)
local macro_rules | `(tactic| walk_at "i") => `(tactic| first | with_reducible assumption | rfl)
local macro_rules | `(tactic| walk_at "c") => `(tactic| first
  | with_reducible assumption
  | ((with_reducible apply b_len); walk_at "q")
  | ((with_reducible apply b_tup); walk_at "q")
  | ((with_reducible apply b_list); walk_at "q")
  | ((with_reducible apply b_lenD); with_reducible assumption)
  | with_reducible exact b_max2 | with_reducible exact b_min2 | with_reducible exact b_abs | with_reducible exact b_intB | with_reducible exact b_intI
  | ((with_reducible apply b_append); walk_at "l"; walk_at "z"))
local macro_rules | `(tactic| walk_at "e") => `(tactic| first
  | with_reducible exact g_C
  | ((with_reducible apply g_var); rfl)
  | ((with_reducible apply ev_cons); walk_at "e"; walk_at "e")
  | with_reducible exact ev_nil
  | ((with_reducible apply ev_call); walk_at "e"; walk_at "c")
  | ((with_reducible apply ev_tup); walk_at "e"; walk_at "z")
  | ((with_reducible apply ev_lst); walk_at "e"; walk_at "z")
  | ((with_reducible apply g_seq); walk_at "e"; walk_at "k")
  | ((with_reducible apply g_asg); walk_at "e"; rfl)
  | ((with_reducible apply ev_ret); walk_at "e")
  | ((with_reducible apply ev_expr); walk_at "e")
  | ((with_reducible apply g_if); walk_at "e"; walk_at "k")
  | ((with_reducible apply g_mif); walk_at "e"; walk_at "k")
  | with_reducible exact g_next | with_reducible exact g_break | with_reducible exact g_cont | with_reducible exact g_retN
  | ((with_reducible apply g_test); walk_at "e")
  | ((with_reducible apply g_or); walk_at "e"; walk_at "k")
  | ((with_reducible apply g_and); walk_at "e"; walk_at "k")
  | ((with_reducible apply g_notT); walk_at "e") | ((with_reducible apply g_notF); walk_at "e")
  | ((with_reducible apply g_lt); walk_at "e"; walk_at "e"; walk_at "d")
  | ((with_reducible apply g_gt); walk_at "e"; walk_at "e"; walk_at "d")
  | ((with_reducible apply g_le); walk_at "e"; walk_at "e"; walk_at "d")
  | ((with_reducible apply g_ge); walk_at "e"; walk_at "e"; walk_at "d")
  | ((with_reducible apply g_bin (f := wAdd)); walk_at "e"; walk_at "e"; first | exact b_addI | exact b_addT (by walk_at "z") | exact b_addS (by walk_at "z") | exact b_addL (by walk_at "l") (by walk_at "l") (by walk_at "z"))
  | ((with_reducible apply g_bin (f := wSub)); walk_at "e"; walk_at "e"; exact b_subI)
  | ((with_reducible apply g_bin (f := wMul)); walk_at "e"; walk_at "e"; exact b_mulI (by walk_at "m"))
  | ((with_reducible apply g_bin (f := wFdiv)); walk_at "e"; walk_at "e"; exact b_divI (okDiv_of (by omega) (by omega)))
  | ((with_reducible apply g_bin (f := wMod)); walk_at "e"; walk_at "e"; exact b_modI (by omega))
  | ((with_reducible apply g_bin (f := wPow)); walk_at "e"; walk_at "e"; exact b_powI (by first | assumption | exact okPow_of (by omega) (by omega) (by omega) (by omega) | decide +kernel))
  | ((with_reducible apply g_bin (f := wIx)); walk_at "e"; walk_at "e"; first | exact b_ixT (by walk_at "i") | exact b_ixF (by walk_at "i") | exact b_ixL (by walk_at "l") (by walk_at "i"))
  | ((with_reducible apply g_bin (f := fEq false)); walk_at "e"; walk_at "e"; first | exact b_eqI (by walk_at "d") | exact b_eqS (by decide +kernel) (by decide +kernel) (by decide +kernel) | with_reducible assumption)
  | ((with_reducible apply g_bin (f := fEq true)); walk_at "e"; walk_at "e"; first | exact b_neI (by walk_at "d") | exact b_neS (by decide +kernel) (by decide +kernel) (by decide +kernel) | with_reducible assumption)
  | ((with_reducible apply g_bin (f := wIn false)); walk_at "e"; walk_at "e"; first | exact b_inK rfl (by decide +kernel) | with_reducible assumption)
  | ((with_reducible apply g_isN); walk_at "e"; first | exact eqT rfl | exact eqF rfl | rfl) | ((with_reducible apply g_notN); walk_at "e"; first | exact eqT rfl | exact eqF rfl | rfl)
  | ((with_reducible apply g_meth); walk_at "e"; exact l_ref (by walk_at "l"); walk_at "e"; walk_at "c")
  | ((with_reducible apply g_slice); walk_at "e"; walk_at "e"; walk_at "e"; first | exact b_sliceT | exact b_sliceL (by walk_at "l"))
  | ((with_reducible apply g_sliceS); walk_at "e"; walk_at "e"; walk_at "e"; walk_at "z")
  | ((with_reducible apply g_vandT); walk_at "e"; walk_at "e") | ((with_reducible apply g_vandF); walk_at "e") | ((with_reducible apply g_vorT); walk_at "e") | ((with_reducible apply g_vorF); walk_at "e"; walk_at "e")
  | ((with_reducible apply g_aug); rfl; walk_at "e"; exact b_iaddI)
  | with_reducible exact g_oN | ((with_reducible apply g_oS); walk_at "e")
  | ((with_reducible apply g_neg); walk_at "e")
  | with_reducible assumption)
local macro_rules | `(tactic| walk_at "k") => `(tactic| first
  | ((with_reducible apply g_nx); walk_at "e") | ((with_reducible apply g_rt); rfl) | ((with_reducible apply g_bk); rfl) | ((with_reducible apply g_ct); rfl)
  | ((with_reducible apply g_cT); walk_at "e") | ((with_reducible apply g_cF); walk_at "e")
  | ((with_reducible apply g_eT); walk_at "e") | ((with_reducible apply g_eF); walk_at "e")
  | ((with_reducible apply g_tT); walk_at "e") | ((with_reducible apply g_tF); rfl) | ((with_reducible apply g_tT'); walk_at "e") | ((with_reducible apply g_tF'); rfl))
theorem tick_enc (many : Nat) : enc (.loop (many : Nat) tick) = .tup [.str "loop", .int (many : Nat), .tup [.str "seq", .tup [.tup [.str "log", .non], .tup [.str "await", .int 1]]]] := rfl
theorem tick_ok (many : Nat) (h : many ≤ 100000) {t : Tree} (ho : Ok t) (hq : Pq t) (hd : dep t ≤ 25) : Ok (.seq [t, .loop (many : Nat) tick]) ∧ Pq (.seq [t, .loop (many : Nat) tick]) ∧ dep (.seq [t, .loop (many : Nat) tick]) ≤ 30 ∧ cost (.seq [t, .loop (many : Nat) tick]) ≤ cost t + 10 * many + 10 := by
  refine ⟨?_, ?_, ?_, ?_⟩
  · rw [Ok, Oks, Oks, Oks, Ok, fin_tick]
    refine ⟨⟨ho, ⟨?_, by omega, by omega, by omega, by omega⟩, trivial⟩, by simp⟩
    rw [tick, Ok, Oks, Oks, Oks, Ok, Ok]
    exact ⟨⟨rfl, by omega, trivial⟩, by simp⟩
  · rw [Pq, Pqs, Pqs, Pqs, Pq]
    refine ⟨hq, ⟨by omega, ?_⟩, trivial⟩
    rw [tick, Pq, Pqs, Pqs, Pqs, Pq, Pq]
    exact ⟨trivial, by omega, trivial⟩
  · rw [dep, deps, deps, deps, dep, tick, dep, deps, deps, deps, dep, dep]
    omega
  · rw [cost, costs, costs, costs, cost, tick, cost, costs, costs, costs, cost, cost]
    simp
    omega
theorem marked_law_ok {n many : Nat} {t : Tree} {S : Store} (ho : Ok t) (hq : Pq t) (hd : dep t ≤ 25) (hm : many ≤ 1000) (hc : cost t ≤ 100000) :
    ∃ S' l, sem (n + 3) ._law_marked [enc t, .int (many : Nat)] S = some (.ref l, S') ∧ getL S' l = some ((List.range many).map fun r => mk t (r : Nat)) ∧ S.length ≤ l ∧ Grow (fun _ => False) S S' := by
  let T : Tree := .seq [t, .loop (many : Nat) tick]
  obtain ⟨o1, o2, o3, o4⟩ := tick_ok many (by omega) ho hq hd
  have o5 : cost T ≤ cost t + 10 * many + 10 := o4
  let S1 : Store := S ++ List.replicate many (.lst []) ++ [.lst ((List.range many).map fun k => W.ref (S.length + k))]
  let S2 : Store := S1 ++ [.lst [enc T]]
  let d : Nat := (life T).toNat + many
  let cs : List (Int × Tree) := [(0, T)]
  have hl1 : S1.length = S.length + many + 1 := by simp [S1]; omega
  have hqs : ∀ c ∈ cs, Pq c.2 := fun c hc => by rw [List.mem_singleton.mp hc]; exact o2
  have hx : Rnds 0 ((marks [T]).map fun c => Job.beg c.2 .none c.1) [] (rowsC cs 0 (d + 1)) :=
    run_ok (cs := cs) (d := d) (by simp [cs]) hqs (fun c hc => by rw [List.mem_singleton.mp hc]; show life T ≤ _; omega) d (by omega)
  have hw := Within.start hqs
  have hsum : (cs.map fun c => cost c.2 + 1).sum = cost T + 1 := by simp [cs]
  rw [hsum] at hw
  obtain ⟨S3, ll, e3, h3, l3, g3⟩ := logged_ok (n := n) (tr := S1.length) (S := S2) getL_new (by simp) (by simp) hx hw (by omega) (fun u hu => by rw [List.mem_singleton.mp hu]; exact ⟨o1, o3⟩)
  have l2 : S2.length = S1.length + 1 := by simp [S2]
  have hlen := hx.len _ hw
  have g12 : Grow (fun _ => False) S1 S3 := (Grow.push _).trans g3
  have r1 : getL S1 (S.length + many) = some ((List.range many).map fun k => W.ref (S.length + k)) := by
    have e : (S ++ List.replicate many (MO.lst [])).length = S.length + many := by simp
    rw [← e]
    exact getL_new
  have r2 : ∀ r, r < many → getL S1 (S.length + r) = some [] := by
    intro r hr
    refine getL_old ?_
    unfold getL
    rw [List.getElem?_append_right (by omega), List.getElem?_replicate]
    simp [hr]
  have er := rows_new (env := [some (enc t), some (.int (many : Nat)), some (enc (.loop (many : Nat) tick)), none, none, none, none, none]) (S := S) (many := many) (j := 4) rfl (by omega) (by omega)
  have hmi : iSeq (mCall (sem (n + 2) ._law_logged) (aCons (mLst (aCons (mTup (aCons (mC (.str "seq")) (aCons (mTup (aCons (mVar 0) (aCons (mVar 2) aNil))) aNil))) aNil)) aNil)) [some (enc t), some (.int (many : Nat)), some (enc (.loop (many : Nat) tick)), some (.ref (S.length + many)), none, none, none, none] S1 = some (sLst ll ((rowsC cs 0 (d + 1)).map enc3).length, S3) :=
    ev_seqL (ev_call (ev_cons (ev_lst (ev_cons (x := enc T) (g_is (by walk_at "e") (by rfl)) ev_nil) rfl) ev_nil) e3) h3
  obtain ⟨S4, z4, z5, z6, e4, q1, q2, q3, q4⟩ := fill_ok (b := S.length) (rw_ := S.length + many) (many := many) hmi h3 (g12.getL r1 id) (fun r hr => g12.getL (r2 r hr) id) (fun r hr => ⟨by omega, by omega⟩) rowsC_pos (by omega)
  have g14 : Grow (fun x => S.length ≤ x) S S4 := ((Grow.push (p := fun x => S.length ≤ x) _).trans (Grow.push _)).trans ((g12.mono fun _ _ h => h.elim).trans (q4.mono fun i hi h => h.1))
  have g0 : Grow (fun _ => False) S S4 := ⟨g14.len, fun i hi _ => g14.at_ i hi (by omega)⟩
  have row : ∀ r, r < many → W.tup (rowOf (rowsC cs 0 (d + 1)) (r : Nat)) = mk t (r : Nat) := by
    intro r hr
    rw [rowOf_rows, if_pos (by omega), mk_mkw]
    have e : rowC cs (r : Nat) = wm 0 (tw (raw T (r : Nat))) := by
      show List.flatMap _ [(0, T)] = _
      simp [rowC]
    rw [e, ticked ho hq (by omega), wm, List.map_map]
    rfl
  have ec := ev_lc (env := [some (enc t), some (.int (many : Nat)), some (enc (.loop (many : Nat) tick)), some (.ref (S.length + many)), z4, z5, z6, none]) (S := S4) (mi := iSeq (mVar 3)) (s := sLst (S.length + many) ((List.range many).map fun k => W.ref (S.length + k)).length) (tg := .nm 7) (vs := [7]) (el := mCall cTuple (aCons (mVar 7) aNil)) (g := fun r => mk t (r : Nat)) (ev_seqL rfl q1) (fun r hr => by
    have hr' : r < many := by
      have : r < ((List.range many).map fun k => W.ref (S.length + k)).length := hr
      simpa using this
    refine ⟨.ref (S.length + r), _, ?_, rfl, ?_⟩
    · show (getL S4 (S.length + many)).bind (fun ws => ws[r]?) = _
      rw [q1, Option.bind_some, List.getElem?_map, List.getElem?_range hr']
      rfl
    · rw [← row r hr']
      exact ev_tupOf (ev_cons rfl ev_nil) (q2 r hr')) (by
    show (match getL S4 (S.length + many) with
      | some ws => decide (ws.length ≤ ((List.range many).map fun k => W.ref (S.length + k)).length)
      | none => false) = true
    rw [q1]
    exact decide_eq_true (Nat.le_refl _)) (szOk_of (by show ((List.range many).map fun k => W.ref (S.length + k)).length ≤ _; simp; omega))
  have en : (sLst (S.length + many) ((List.range many).map fun k => W.ref (S.length + k)).length).n = many := by show ((List.range many).map fun k => W.ref (S.length + k)).length = _; simp
  rw [en] at ec
  refine ⟨S4 ++ [.lst ((List.range many).map fun r => mk t (r : Nat))], S4.length, ?_, getL_new, g0.len, g0.trans (Grow.push _)⟩
  show runB 8 (b__law_marked (sem (n + 2))) [enc t, .int (many : Nat)] S = _
  refine ev_run ?_
  refine ev_seq (ev_asg (w := enc (.loop (many : Nat) tick)) (S1 := S) (g_is (by walk_at "e") (tick_enc many).symm) rfl) ?_
  refine ev_seq (ev_asg er rfl) ?_
  show sSeq _ _ [some (enc t), some (.int (many : Nat)), some (enc (.loop (many : Nat) tick)), some (.ref (S.length + many)), none, none, none, none] S1 = _
  refine ev_seq e4 ?_
  exact ev_ret ec
end L2.Aw.K78

namespace L2.Aw.K78
open PySem PySem.Spec PyProof.Rows
local macro_rules | `(tactic| walk_at "kw") => `(tactic| first | exact ev_eqT rfl rfl | exact ev_eqF rfl rfl | exact ev_inK rfl (ev_tup (ev_cons rfl (ev_cons rfl ev_nil)) rfl) | exact ev_neF rfl rfl | exact ev_neT rfl rfl)
theorem total_ok : ∀ (n : Nat) (t : Tree), dep t ≤ n → Ok t → Tb t → ∀ S, sem n .total [enc t] S = some (.int (tl t : Nat), S) := by
  intro n
  induction n with
  | zero => intro t h; cases t <;> (rw [dep] at h; omega)
  | succ n ih =>
    intro t hd ho hb S
    suffices h : ∃ S1, runB 3 (b_total (sem n)) [enc t] [] = some (.int (tl t : Nat), S1) by
      obtain ⟨S1, h⟩ := h
      exact ev_pure (pures1 (enc_pure t)) h pure_int
    have many : ∀ (k : Str) (ps : List Tree), deps ps ≤ n → Oks ps → Tbs ps → ps.length ≤ 1000 → k = "seq" ∨ k = "join" ∨ k = "race" → ∃ S1, runB 3 (b_total (sem n)) [.tup [.str k, .tup (encs ps)]] [] = some (.int (tls ps : Nat), S1) := by
      intro k ps h1 h2 h3 hl hk
      have kids := ev_kids (env := [some (.tup [.str k, .tup (encs ps)]), some (.str k), none]) (S := []) (S1 := []) (m := mBin wIx (mVar 0) (mC (.int 1))) (el := mCall (sem n .total) (aCons (mVar 2) aNil)) (j := 2) (vs := [2]) (ps := ps) (g := fun p => .int (tl p : Nat)) rfl (by omega) (fun p hp => ev_call (ev_cons rfl ev_nil) (ih p (Nat.le_trans (dep_le hp) h1) (h2.mem hp) (h3.mem hp) []))
      have em : ps.map (fun p => W.int (tl p : Nat)) = ((ps.map tl).map fun (n : Nat) => (n : Int)).map W.int := by rw [List.map_map, List.map_map]; rfl
      rw [em] at kids
      have es := ev_sum (mes := aCons (mLc (iSeq (mBin wIx (mVar 0) (mC (.int 1)))) (.nm 2) tYesW (mCall (sem n .total) (aCons (mVar 2) aNil)) [2]) aNil) (ev_cons kids ev_nil) getL_new
      rw [cast_sum, ← tls_sum] at es
      have e1 : ∀ R : WE, sIf (mTest (mBin (wIn false) (mVar 1) (mTup (aCons (mC (.str "log")) (aCons (mC (.str "await")) aNil))))) (sRet R) sNext [some (.tup [.str k, .tup (encs ps)]), some (.str k), none] [] = some (.nx [some (.tup [.str k, .tup (encs ps)]), some (.str k), none] []) := by
        intro R
        rcases hk with e | e | e <;> subst e <;> exact ev_if_f (by walk_at "kw") rfl
      have e2 : ∀ R : WE, sIf (mTest (mBin (fEq false) (mVar 1) (mC (.str "fork")))) (sRet R) sNext [some (.tup [.str k, .tup (encs ps)]), some (.str k), none] [] = some (.nx [some (.tup [.str k, .tup (encs ps)]), some (.str k), none] []) := by
        intro R
        rcases hk with e | e | e <;> subst e <;> exact ev_if_f (by walk_at "kw") rfl
      have e3 : ∀ R : WE, sIf (mTest (mBin (fEq false) (mVar 1) (mC (.str "loop")))) (sRet R) sNext [some (.tup [.str k, .tup (encs ps)]), some (.str k), none] [] = some (.nx [some (.tup [.str k, .tup (encs ps)]), some (.str k), none] []) := by
        intro R
        rcases hk with e | e | e <;> subst e <;> exact ev_if_f (by walk_at "kw") rfl
      exact ⟨_, ev_run (ev_seq (ev_asg (ev_ixT rfl rfl rfl) rfl) (ev_seq (e1 _) (ev_seq (e2 _) (ev_seq (e3 _) (ev_ret es)))))⟩
    cases t with
    | log x =>
      refine ⟨[], ?_⟩
      rw [tl]
      exact ev_run (ev_seq (ev_asg (ev_ixT rfl rfl rfl) rfl) (ev_seq_rt (ev_if_t (by walk_at "kw") (ev_ret (ev_intB (k := true) (ev_cons (ev_bin rfl rfl (by rw [fEq_str (by decide +kernel) (by decide +kernel)]; rfl)) ev_nil))))))
    | await m =>
      refine ⟨[], ?_⟩
      rw [tl]
      exact ev_run (ev_seq (ev_asg (ev_ixT rfl rfl rfl) rfl) (ev_seq_rt (ev_if_t (by walk_at "kw") (ev_ret (ev_intB (k := false) (ev_cons (ev_bin rfl rfl (by rw [fEq_str (by decide +kernel) (by decide +kernel)]; rfl)) ev_nil))))))
    | fork p =>
      rw [dep] at hd
      rw [Ok] at ho
      rw [Tb] at hb
      refine ⟨[], ?_⟩
      rw [tl]
      exact ev_run (ev_seq (ev_asg (ev_ixT rfl rfl rfl) rfl) (ev_seq (ev_if_f (by walk_at "kw") rfl) (ev_seq_rt (ev_if_t (by walk_at "kw") (ev_ret (ev_call (ev_cons (ev_ixT rfl rfl rfl) ev_nil) (ih p (by omega) ho hb [])))))))
    | loop c b =>
      rw [dep] at hd
      rw [Ok] at ho
      rw [Tb] at hb
      obtain ⟨o1, o2, o3, o4, o5⟩ := ho
      have h30 := hb.2
      have e : ((tl (.loop c b) : Nat) : Int) = c * (tl b : Nat) := by rw [tl, Int.natCast_mul, Int.toNat_of_nonneg o2]
      refine ⟨[], ?_⟩
      rw [e]
      exact ev_run (ev_seq (ev_asg (ev_ixT rfl rfl rfl) rfl) (ev_seq (ev_if_f (by walk_at "kw") rfl) (ev_seq (ev_if_f (by walk_at "kw") rfl) (ev_seq_rt (ev_if_t (by walk_at "kw") (ev_ret (ev_mulI (ev_ixT rfl rfl rfl) (ev_call (ev_cons (ev_ixT rfl rfl rfl) ev_nil) (ih b (by omega) o1 hb.1 [])) (okMul_of (by omega) (by omega) (by omega) (by omega)))))))))
    | seq ps =>
      rw [dep] at hd
      rw [Ok] at ho
      rw [Tb] at hb
      rw [tl]
      exact many _ ps (by omega) ho.1 hb ho.2 (by simp)
    | join ps =>
      rw [dep] at hd
      rw [Ok] at ho
      rw [Tb] at hb
      rw [tl]
      exact many _ ps (by omega) ho.1 hb ho.2.1 (by simp)
    | race ps =>
      rw [dep] at hd
      rw [Ok] at ho
      rw [Tb] at hb
      rw [tl]
      exact many _ ps (by omega) ho.1 hb ho.2.1 (by simp)
theorem inloop_ok {n : Nat} {c a M : Int} {b : Tree} (hd : dep b ≤ n) (ho : Ok (.loop c b)) (hq : Pq b) (hr : Rep M (.loop c b)) (hb : Tb (.loop c b)) (h0 : 0 < a) (ha : a ≤ M) (hc : ∀ r, r ≤ M → ∀ S, sem n .count_before [enc b, .int r] S = some (.int (cb b r : Nat), S)) (S : Store) :
    sem (n + 1) .count_in_loop [.int c, enc b, .int a] S = some (.int (cb (.loop c b) a : Nat), S) := by
  suffices h : ∃ S1, runB 7 (b_count_in_loop (sem n)) [.int c, enc b, .int a] [] = some (.int (cb (.loop c b) a : Nat), S1) by
    obtain ⟨S1, h⟩ := h
    exact ev_pure (pures3 pure_int (enc_pure b) pure_int) h pure_int
  rw [Ok] at ho
  rw [Rep] at hr
  rw [Tb] at hb
  obtain ⟨ob, c0, c1, l1, l2⟩ := ho
  have h30 := hb.2
  have hl0 : 0 < fin b := by omega
  have hdiv : (a - 1) / fin b < 2 ^ 61 := Int.ediv_lt_of_lt_mul hl0 (by omega)
  have hdiv0 : 0 ≤ (a - 1) / fin b := Int.ediv_nonneg (by omega) (by omega)
  have hdiv2 : (a - 1 - 30) / fin b ≤ (a - 1) / fin b := Int.ediv_le_ediv hl0 (by omega)
  obtain ⟨lo, hlo⟩ : ∃ lo, lo = min c (max 0 ((a - 1 - 30) / fin b + 1)) := ⟨_, rfl⟩
  obtain ⟨hi, hhi⟩ : ∃ hi, hi = min c ((a - 1) / fin b + 1) := ⟨_, rfl⟩
  obtain ⟨w1, w2, w3, w4⟩ := cb_window (c := c) (a := a) ob hq l1 hr.2.2 c0 h0 hlo hhi
  have ef := finish_ok n b hd ob
  have et := total_ok n b hd ob hb.1 []
  have el := ev_lc (env := [some (.int c), some (enc b), some (.int a), some (.int (fin b)), some (.int lo), some (.int hi), none]) (S := []) (mi := iRange2 (aCons (mVar 4) (aCons (mVar 5) aNil))) (s := sRng lo (hi - lo).toNat) (tg := .nm 6) (vs := [6]) (el := mCall (sem n .count_before) (aCons (mVar 1) (aCons (mBin wSub (mVar 2) (mBin wMul (mVar 6) (mVar 3))) aNil))) (g := fun i => .int (cb b (a - (lo + (i : Int)) * fin b) : Nat)) (ev_range2 (ev_cons rfl (ev_cons rfl ev_nil)) (okRng_of (by omega) (by omega)) (okRng_of (by omega) (by omega))) (fun i hi2 => by
    have hi3 : i < (hi - lo).toNat := hi2
    have hnn : 0 ≤ (lo + (i : Int)) * fin b := Int.mul_nonneg (by omega) (by omega)
    exact ⟨.int (lo + i), _, rfl, rfl, ev_call (ev_cons rfl (ev_cons (ev_subI rfl (ev_mulI rfl rfl (okMul_of (by omega) (by omega) (by omega) (by omega)))) ev_nil)) (hc _ (by omega) [])⟩) rfl (szOk_of (by show (hi - lo).toNat ≤ _; omega))
  have em : (List.range (sRng lo (hi - lo).toNat).n).map (fun (i : Nat) => W.int (cb b (a - (lo + (i : Int)) * fin b) : Nat)) = (((List.range (hi - lo).toNat).map fun (i : Nat) => cb b (a - (lo + (i : Int)) * fin b)).map fun (n : Nat) => (n : Int)).map W.int := by
    rw [List.map_map, List.map_map]; rfl
  rw [em] at el
  have es := ev_sum (mes := aCons (mLc (iRange2 (aCons (mVar 4) (aCons (mVar 5) aNil))) (.nm 6) (tYesW) (mCall (sem n .count_before) (aCons (mVar 1) (aCons (mBin wSub (mVar 2) (mBin wMul (mVar 6) (mVar 3))) aNil))) [6]) aNil) (ev_cons el ev_nil) getL_new
  rw [cast_sum] at es
  have ee : ((cb (.loop c b) a : Nat) : Int) = lo * (tl b : Nat) + ((((List.range (hi - lo).toNat).map fun (i : Nat) => cb b (a - (lo + (i : Int)) * fin b)).sum : Nat) : Int) := by
    rw [w4, Int.natCast_add, Int.natCast_mul, Int.toNat_of_nonneg w1]
  rw [ee]
  refine ⟨_, ev_run (ev_seq (ev_asg (ev_call (ev_cons rfl ev_nil) (ef [])) rfl) (ev_seq (ev_asg (w := .int lo) (S1 := []) ?_ rfl) (ev_seq (ev_asg (w := .int hi) (S1 := []) ?_ rfl) (ev_ret (ev_addI (ev_mulI rfl (ev_call (ev_cons rfl ev_nil) et) (okMul_of (by omega) (by omega) (by omega) (by omega))) es)))))⟩
  · rw [hlo]
    exact ev_min2 (ev_cons rfl (ev_cons (ev_max2 (ev_cons rfl (ev_cons (ev_addI (ev_divI (ev_subI (ev_subI rfl rfl) rfl) rfl (okDiv_of hl0 (by omega))) rfl) ev_nil))) ev_nil))
  · rw [hhi]
    exact ev_min2 (ev_cons rfl (ev_cons (ev_addI (ev_divI (ev_subI rfl rfl) rfl (okDiv_of hl0 (by omega))) rfl) ev_nil))
theorem count_ok : ∀ (n : Nat) (t : Tree) (M a : Int), 2 * dep t ≤ n → Ok t → Pq t → Rep M t → Tb t → a ≤ M → ∀ S, sem n .count_before [enc t, .int a] S = some (.int (cb t a : Nat), S) := by
  intro n
  induction n using Nat.strongRecOn with
  | ind n ih =>
    intro t M a hd ho hq hr hb ha S
    have hn : 2 ≤ n := by cases t <;> (rw [dep] at hd; omega)
    obtain ⟨n, rfl⟩ : ∃ m, n = m + 1 := ⟨n - 1, by omega⟩
    suffices h : ∃ S1, runB 6 (b_count_before (sem n)) [enc t, .int a] [] = some (.int (cb t a : Nat), S1) by
      obtain ⟨S1, h⟩ := h
      exact ev_pure (pures2 (enc_pure t) pure_int) h pure_int
    by_cases h0 : a ≤ 0
    · rw [cb_neg t h0]
      have hk : ∃ k r, enc t = .tup (.str k :: r) := by cases t <;> exact ⟨_, _, rfl⟩
      obtain ⟨k, r, hk⟩ := hk
      rw [hk]
      exact ⟨[], ev_run (ev_seq (ev_asg (ev_ixT rfl rfl (atI_nat (show (W.str k :: r)[0]? = some (W.str k) from rfl))) rfl) (ev_seq_rt (ev_if_t (ev_or_t (evt_le rfl rfl h0)) (ev_ret rfl))))⟩
    have many : ∀ (k : Str) (ps : List Tree) (d : Tree → Int) (F : List Tree → Int → Nat), deps ps * 2 + 1 ≤ n → Oks ps → Pqs ps → Reps M ps → Tbs ps → ps.length ≤ 1000 → k = "seq" ∧ d = fin ∨ (k = "join" ∨ k = "race") ∧ d = (fun _ => 0) → (∀ b, F [] b = 0) → (∀ p qs b, p ∈ ps → (∀ q ∈ qs, q ∈ ps) → F (p :: qs) b = cb p b + F qs (b - d p)) → (∀ p ∈ ps, 0 ≤ d p) →
        ∃ S1, runB 6 (b_count_before (sem n)) [.tup [.str k, .tup (encs ps)], .int a] [] = some (.int (F ps a : Nat), S1) := by
      intro k ps d F h1 h2 h2q h2r h3 hl hk hF0 hF hd0
      obtain ⟨e, σ, eo, x5, f, bg, ee, eσ, hf, hbg⟩ := ev_for (env := [some (.tup [.str k, .tup (encs ps)]), some (.int a), some (.str k), some (.int 0), some (.int 0), none]) (S := []) (mi := iSeq (mBin wIx (mVar 0) (mC (.int 1)))) (tg := .nm 5)
        (body := sSeq (sAug 3 wIadd (mCall (sem n .count_before) (aCons (mVar 5) (aCons (mBin wSub (mVar 1) (mVar 4)) aNil)))) (sAug 4 wIadd (mIf (mTest (mBin (fEq false) (mVar 2) (mC (.str "seq")))) (mCall (sem n .finish) (aCons (mVar 5) aNil)) (mC (.int 0)))))
        (P := fun i e σ => ∃ (x5 : Option W) (f : Nat) (bg : Int), e = [some (.tup [.str k, .tup (encs ps)]), some (.int a), some (.str k), some (.int f), some (.int bg), x5] ∧ σ = [] ∧ f + F (ps.drop i) (a - bg) = F ps a ∧ 0 ≤ bg)
        (ev_seqT rfl) ⟨none, 0, 0, rfl, rfl, by rw [List.drop_zero, Int.sub_zero, Nat.zero_add], by omega⟩ (by
          intro i e σ hi ⟨x5, f, bg, ee, eσ, hf, hbg⟩
          subst ee eσ
          have hi' : i < ps.length := by
            have : i < (encs ps).length := hi
            rw [encs_length] at this
            exact this
          have hm := List.getElem_mem hi'
          have ec := ih n (by omega) ps[i] M (a - bg) (by have := dep_le hm; omega) (h2.mem hm) (h2q.mem hm) (Reps.mem h2r hm) (h3.mem hm) (by omega) []
          have ef := finish_ok n ps[i] (by have := dep_le hm; omega) (h2.mem hm) []
          have edrop : ps.drop i = ps[i] :: ps.drop (i + 1) := List.drop_eq_getElem_cons hi'
          have hF1 := hF ps[i] (ps.drop (i + 1)) (a - bg) hm (fun q hq => List.mem_of_mem_drop hq)
          rw [edrop, hF1] at hf
          have hd1 := hd0 ps[i] hm
          have eif : mIf (mTest (mBin (fEq false) (mVar 2) (mC (.str "seq")))) (mCall (sem n .finish) (aCons (mVar 5) aNil)) (mC (.int 0)) [some (.tup [.str k, .tup (encs ps)]), some (.int a), some (.str k), some (.int (f + (cb ps[i] (a - bg) : Nat))), some (.int bg), some (enc ps[i])] [] = some (.int (d ps[i]), []) := by
            rcases hk with ⟨e1, e2⟩ | ⟨e1 | e1, e2⟩
            · subst e1 e2; exact ev_mif_t (by walk_at "kw") (ev_call (ev_cons rfl ev_nil) ef)
            · subst e1 e2; exact ev_mif_f (by walk_at "kw") rfl
            · subst e1 e2; exact ev_mif_f (by walk_at "kw") rfl
          refine ⟨enc ps[i], _, encs_get (List.getElem?_eq_getElem hi'), rfl, _, [], .inl (ev_seq (ev_aug rfl (ev_call (ev_cons rfl (ev_cons (ev_subI rfl rfl) ev_nil)) ec) rfl) (ev_aug rfl eif rfl)), some (enc ps[i]), f + cb ps[i] (a - bg), bg + d ps[i], rfl, rfl, ?_, by omega⟩
          have e9 : a - (bg + d ps[i]) = a - bg - d ps[i] := by omega
          rw [e9]
          omega) (fun _ _ _ => rfl)
      subst ee eσ
      have en : (sTup (encs ps)).n = ps.length := encs_length ps
      rw [en, List.drop_length, hF0, Nat.add_zero] at hf
      have e1 : ∀ (s : Str) (R : WE), s = "log" ∨ s = "fork" ∨ s = "loop" → sIf (mTest (mBin (fEq false) (mVar 2) (mC (.str s)))) (sRet R) sNext [some (.tup [.str k, .tup (encs ps)]), some (.int a), some (.str k), none, none, none] [] = some (.nx [some (.tup [.str k, .tup (encs ps)]), some (.int a), some (.str k), none, none, none] []) := by
        intro s R hs
        rcases hk with ⟨e1, _⟩ | ⟨e1 | e1, _⟩ <;> rcases hs with e2 | e2 | e2 <;> subst e1 e2 <;> exact ev_if_f (by walk_at "kw") rfl
      have e0 : ∀ R : WE, sIf (tOrW (mTest (mBin wLe (mVar 1) (mC (.int 0)))) (mTest (mBin (fEq false) (mVar 2) (mC (.str "await"))))) (sRet R) sNext [some (.tup [.str k, .tup (encs ps)]), some (.int a), some (.str k), none, none, none] [] = some (.nx [some (.tup [.str k, .tup (encs ps)]), some (.int a), some (.str k), none, none, none] []) := by
        intro R
        rcases hk with ⟨e1, _⟩ | ⟨e1 | e1, _⟩ <;> subst e1 <;> exact ev_if_f (ev_or_f (evf_le rfl rfl h0) (by walk_at "kw")) rfl
      rw [← hf]
      exact ⟨_, ev_run (ev_seq (ev_asg (ev_ixT rfl rfl rfl) rfl) (ev_seq (e0 _) (ev_seq (e1 _ _ (by simp)) (ev_seq (e1 _ _ (by simp)) (ev_seq (e1 _ _ (by simp)) (ev_seq (ev_asg (ev_tup (ev_cons rfl (ev_cons rfl ev_nil)) rfl) rfl) (ev_seq eo (ev_ret rfl))))))))⟩
    cases t with
    | log x =>
      rw [cb_log, if_pos (by omega)]
      exact ⟨[], ev_run (ev_seq (ev_asg (ev_ixT rfl rfl rfl) rfl) (ev_seq (ev_if_f (ev_or_f (evf_le rfl rfl h0) (by walk_at "kw")) rfl) (ev_seq_rt (ev_if_t (by walk_at "kw") (ev_ret rfl)))))⟩
    | await m =>
      rw [cb_await]
      exact ⟨[], ev_run (ev_seq (ev_asg (ev_ixT rfl rfl rfl) rfl) (ev_seq_rt (ev_if_t (ev_or_f (evf_le rfl rfl h0) (by walk_at "kw")) (ev_ret rfl))))⟩
    | fork p =>
      rw [dep] at hd
      rw [Ok] at ho
      rw [Pq] at hq
      rw [Rep] at hr
      rw [Tb] at hb
      rw [cb_fork]
      exact ⟨[], ev_run (ev_seq (ev_asg (ev_ixT rfl rfl rfl) rfl) (ev_seq (ev_if_f (ev_or_f (evf_le rfl rfl h0) (by walk_at "kw")) rfl) (ev_seq (ev_if_f (by walk_at "kw") rfl) (ev_seq_rt (ev_if_t (by walk_at "kw") (ev_ret (ev_call (ev_cons (ev_ixT rfl rfl rfl) (ev_cons rfl ev_nil)) (ih n (by omega) p M a (by omega) ho hq hr hb ha []))))))))⟩
    | loop c b =>
      rw [dep] at hd
      have hq2 : Pq b := by rw [Pq] at hq; exact hq.2
      have hr2 := hr
      rw [Rep] at hr2
      have ho2 := ho
      rw [Ok] at ho2
      have hb2 := hb
      rw [Tb] at hb2
      obtain ⟨m, rfl⟩ : ∃ m, n = m + 1 := ⟨n - 1, by omega⟩
      have q := inloop_ok (n := m) (c := c) (a := a) (M := M) (b := b) (by omega) ho hq2 hr hb (by omega) ha (fun r hr3 S => ih m (by omega) b M r (by omega) ho2.1 hq2 hr2.1 hb2.1 hr3 S) []
      exact ⟨[], ev_run (ev_seq (ev_asg (ev_ixT rfl rfl rfl) rfl) (ev_seq (ev_if_f (ev_or_f (evf_le rfl rfl h0) (by walk_at "kw")) rfl) (ev_seq (ev_if_f (by walk_at "kw") rfl) (ev_seq (ev_if_f (by walk_at "kw") rfl) (ev_seq_rt (ev_if_t (by walk_at "kw") (ev_ret (ev_call (ev_cons (ev_ixT rfl rfl rfl) (ev_cons (ev_ixT rfl rfl rfl) (ev_cons rfl ev_nil))) q))))))))⟩
    | seq ps =>
      rw [dep] at hd
      rw [Ok] at ho
      rw [Pq] at hq
      rw [Rep] at hr
      rw [Tb] at hb
      rw [cb_seq]
      exact many _ ps fin cbB (by omega) ho.1 hq hr hb ho.2 (.inl ⟨rfl, rfl⟩) (fun b => cbB_nil b) (fun p qs b hp hqs => cbB_cons (hq.mem hp) (Pqs.of fun q hq2 => hq.mem (hqs q hq2)) b) (fun p hp => fin_nn p (hq.mem hp))
    | join ps =>
      rw [dep] at hd
      rw [Ok] at ho
      rw [Pq] at hq
      rw [Rep] at hr
      rw [Tb] at hb
      rw [cb_join hq.2]
      exact many _ ps (fun _ => 0) (fun qs b => (qs.map fun p => cb p b).sum) (by omega) ho.1 hq.1 hr hb ho.2.1 (.inr ⟨.inl rfl, rfl⟩) (fun b => rfl) (fun p qs b _ _ => by rw [Int.sub_zero, List.map_cons, List.sum_cons]) (fun _ _ => by omega)
    | race ps =>
      rw [dep] at hd
      rw [Ok] at ho
      rw [Pq] at hq
      rw [Rep] at hr
      rw [Tb] at hb
      rw [cb_race hq.2]
      exact many _ ps (fun _ => 0) (fun qs b => (qs.map fun p => cb p b).sum) (by omega) ho.1 hq.1 hr hb ho.2.1 (.inr ⟨.inr rfl, rfl⟩) (fun b => rfl) (fun p qs b _ _ => by rw [Int.sub_zero, List.map_cons, List.sum_cons]) (fun _ _ => by omega)
end L2.Aw.K78

namespace L2.Aw.K78
open PySem PySem.Spec PyProof.Rows
theorem span_ok {n : Nat} {t : Tree} {S : Store} (ho : Ok t) (hq : Pq t) (hf : Fb t) (hd : dep t ≤ 25) (hc : cost t ≤ 100000) : ∃ S' v, sem (n + 33) ._law_span [enc t] S = some (.int v, S') ∧ 2 ≤ v ∧ S.length ≤ S'.length ∧ Grow (fun _ => False) S S' := by
  have f0 := fin_nonneg t ho
  let S0 : Store := S ++ [.lst [.int 0]]
  let S1 : Store := S0 ++ [.lst [enc t]]
  let d : Nat := (life t).toNat
  let cs : List (Int × Tree) := [(0, t)]
  have hqs : ∀ c ∈ cs, Pq c.2 := fun c hc => by rw [List.mem_singleton.mp hc]; exact hq
  have hx : Rnds 0 ((marks [t]).map fun c => Job.beg c.2 .none c.1) [] (rowsC cs 0 (d + 1)) :=
    run_ok (cs := cs) (d := d) (by simp [cs]) hqs (fun c hc => by rw [List.mem_singleton.mp hc]; show life t ≤ _; omega) d (by omega)
  have hw := Within.start hqs
  have hsum : (cs.map fun c => cost c.2 + 1).sum = cost t + 1 := by simp [cs]
  rw [hsum] at hw
  have g1 : getL S1 S0.length = some (encs [t]) := getL_new
  obtain ⟨S3, ll, e3, h3, l3, g3⟩ := logged_ok (n := n + 30) (tr := S0.length) (S := S1) (N := cost t + 1) g1 (by simp) (by simp) hx hw (by omega) (fun u hu => by rw [List.mem_singleton.mp hu]; exact ⟨ho, by omega⟩)
  have ee := end_gen (n + 32) t (by omega) hf ho S
  have hlen := hx.len _ hw
  let res := rowsC cs 0 (d + 1)
  have hlen' : res.length ≤ cost t + 1 := hlen
  have ec := ev_lc (env := [some (enc t), none, none, none]) (S := S0) (mi := iSeq (mCall (sem (n + 32) ._law_logged) (aCons (mLst (aCons (mVar 0) aNil)) aNil))) (s := sLst ll (res.map enc3).length) (tg := .tp ((.nm 1) :: ((.nm 2) :: ((.nm 3) :: [])))) (vs := [1, 2, 3]) (el := mVar 1) (g := fun i => .int ((res.getD i (0, 0, .none)).1)) (ev_seqL (ev_call (ev_cons (ev_lst (ev_cons rfl ev_nil) rfl) ev_nil) e3) h3) (fun i hi => by
    have hi' : i < res.length := by
      have : i < (res.map enc3).length := hi
      rw [List.length_map] at this
      exact this
    obtain ⟨a, m, w, ep⟩ : ∃ a m w, res[i] = (a, m, w) := ⟨_, _, _, rfl⟩
    refine ⟨.tup [.int a, .int m, wv w], _, item_lst h3 (by rw [List.getElem?_map, List.getElem?_eq_getElem hi', ep]; rfl), rfl, ?_⟩
    have eg : res.getD i (0, 0, .none) = (a, m, w) := by simp [List.getD, hi', ep]
    rw [eg]
    rfl) (stop_lst h3) (szOk_of (by show (res.map enc3).length ≤ _; rw [List.length_map]; omega))
  let ns : List Int := (List.range (sLst ll (res.map enc3).length).n).map fun i => (res.getD i (0, 0, .none)).1
  have ens : (List.range (sLst ll (res.map enc3).length).n).map (fun i => W.int ((res.getD i (0, 0, .none)).1)) = ns.map W.int := by
    show _ = List.map _ (List.map _ _)
    rw [List.map_map]; rfl
  rw [ens] at ec
  have hns : ns.length ≤ 100001 := by
    show (List.map _ (List.range (res.map enc3).length)).length ≤ _
    rw [List.length_map, List.length_range, List.length_map]; omega
  have g03 : Grow (fun _ => False) S0 S3 := (Grow.push _).trans g3
  have z0 : getL (S3 ++ [.lst (ns.map W.int)]) S.length = some [W.int 0] := getL_old (g03.getL getL_new id)
  have hsz : szOk ([W.int 0].length + (ns.map W.int).length) = true := szOk_of (by rw [List.length_map]; show 1 + _ ≤ _; omega)
  have em := ev_maxL (mes := aCons (mBin wAdd (mLst (aCons (mC (.int 0)) aNil)) (mLc (iSeq (mCall (sem (n + 32) ._law_logged) (aCons (mLst (aCons (mVar 0) aNil)) aNil))) (.tp ((.nm 1) :: ((.nm 2) :: ((.nm 3) :: [])))) (tYesW) (mVar 1) [1, 2, 3])) aNil) (env := [some (enc t), none, none, none]) (S := S) (ns := 0 :: ns) (ev_cons (ev_catL (ev_lst (ev_cons rfl ev_nil) rfl) ec z0 getL_new hsz) ev_nil) getL_new (by simp)
  have h0 : 0 ≤ lmax (0 :: ns) := lmax_le List.mem_cons_self
  have gz : Grow (fun _ => False) S (S3 ++ [.lst (ns.map W.int)] ++ [.lst ([.int 0] ++ ns.map W.int)]) := (((Grow.push _).trans g03).trans (Grow.push _)).trans (Grow.push _)
  refine ⟨_, 2 + fin t + lmax (0 :: ns), ?_, by omega, gz.len, gz⟩
  show runB 4 (b__law_span (sem (n + 32))) [enc t] S = _
  exact ev_run (ev_ret (ev_addI (ev_addI rfl (ev_call (ev_cons rfl ev_nil) ee)) em))
end L2.Aw.K78

namespace L2.Aw.K78
open PySem PySem.Spec PyProof.Rows
local macro_rules | `(tactic| walk_at "z") => `(tactic| first | with_reducible assumption | rfl | exact szOk_of (by simp only [List.length_cons, List.length_nil, List.length_append, List.length_map, List.length_replicate, List.length_range]; omega))
local macro_rules | `(tactic| walk_at "l") => `(tactic| first | with_reducible assumption | exact getL_new | exact getL_set (by assumption) | (apply getL_old; walk_at "l"))
local macro_rules | `(tactic| walk_at "q") => `(tactic| first | exact sq_tup | exact sq_fz | (apply sq_ref; walk_at "l"))
local macro_rules | `(tactic| walk_at "d") => `(tactic| first | exact decide_eq_true (by omega) | exact decide_eq_false (by omega) | rfl)
local macro_rules | `(tactic| walk_at "m") => `(tactic| first | with_reducible assumption | exact okMul_of (by omega) (by omega) (by omega) (by omega) | rfl)
local macro_rules | `(tactic| walk_at "i") => `(tactic| first | with_reducible assumption | rfl)
local macro_rules | `(tactic| walk_at "c") => `(tactic| first
  | with_reducible assumption
  | ((with_reducible apply b_len); walk_at "q")
  | ((with_reducible apply b_tup); walk_at "q")
  | ((with_reducible apply b_list); walk_at "q")
  | ((with_reducible apply b_lenD); with_reducible assumption)
  | with_reducible exact b_max2 | with_reducible exact b_min2 | with_reducible exact b_abs | with_reducible exact b_intB | with_reducible exact b_intI
  | ((with_reducible apply b_append); walk_at "l"; walk_at "z"))
local macro_rules | `(tactic| walk_at "e") => `(tactic| first
  | with_reducible exact g_C
  | ((with_reducible apply g_var); rfl)
  | ((with_reducible apply ev_cons); walk_at "e"; walk_at "e")
  | with_reducible exact ev_nil
  | ((with_reducible apply ev_call); walk_at "e"; walk_at "c")
  | ((with_reducible apply ev_tup); walk_at "e"; walk_at "z")
  | ((with_reducible apply ev_lst); walk_at "e"; walk_at "z")
  | ((with_reducible apply g_seq); walk_at "e"; walk_at "k")
  | ((with_reducible apply g_asg); walk_at "e"; rfl)
  | ((with_reducible apply ev_ret); walk_at "e")
  | ((with_reducible apply ev_expr); walk_at "e")
  | ((with_reducible apply g_if); walk_at "e"; walk_at "k")
  | ((with_reducible apply g_mif); walk_at "e"; walk_at "k")
  | with_reducible exact g_next | with_reducible exact g_break | with_reducible exact g_cont | with_reducible exact g_retN
  | ((with_reducible apply g_test); walk_at "e")
  | ((with_reducible apply g_or); walk_at "e"; walk_at "k")
  | ((with_reducible apply g_and); walk_at "e"; walk_at "k")
  | ((with_reducible apply g_notT); walk_at "e") | ((with_reducible apply g_notF); walk_at "e")
  | ((with_reducible apply g_lt); walk_at "e"; walk_at "e"; walk_at "d")
  | ((with_reducible apply g_gt); walk_at "e"; walk_at "e"; walk_at "d")
  | ((with_reducible apply g_le); walk_at "e"; walk_at "e"; walk_at "d")
  | ((with_reducible apply g_ge); walk_at "e"; walk_at "e"; walk_at "d")
  | ((with_reducible apply g_bin (f := wAdd)); walk_at "e"; walk_at "e"; first | exact b_addI | exact b_addT (by walk_at "z") | exact b_addS (by walk_at "z") | exact b_addL (by walk_at "l") (by walk_at "l") (by walk_at "z"))
  | ((with_reducible apply g_bin (f := wSub)); walk_at "e"; walk_at "e"; exact b_subI)
  | ((with_reducible apply g_bin (f := wMul)); walk_at "e"; walk_at "e"; exact b_mulI (by walk_at "m"))
  | ((with_reducible apply g_bin (f := wFdiv)); walk_at "e"; walk_at "e"; exact b_divI (okDiv_of (by omega) (by omega)))
  | ((with_reducible apply g_bin (f := wMod)); walk_at "e"; walk_at "e"; exact b_modI (by omega))
  | ((with_reducible apply g_bin (f := wPow)); walk_at "e"; walk_at "e"; exact b_powI (by first | assumption | exact okPow_of (by omega) (by omega) (by omega) (by omega) | decide +kernel))
  | ((with_reducible apply g_bin (f := wIx)); walk_at "e"; walk_at "e"; first | exact b_ixT (by walk_at "i") | exact b_ixF (by walk_at "i") | exact b_ixL (by walk_at "l") (by walk_at "i"))
  | ((with_reducible apply g_bin (f := fEq false)); walk_at "e"; walk_at "e"; first | exact b_eqI (by walk_at "d") | exact b_eqS (by decide +kernel) (by decide +kernel) (by decide +kernel) | with_reducible assumption)
  | ((with_reducible apply g_bin (f := fEq true)); walk_at "e"; walk_at "e"; first | exact b_neI (by walk_at "d") | exact b_neS (by decide +kernel) (by decide +kernel) (by decide +kernel) | with_reducible assumption)
  | ((with_reducible apply g_bin (f := wIn false)); walk_at "e"; walk_at "e"; first | exact b_inK rfl (by decide +kernel) | with_reducible assumption)
  | ((with_reducible apply g_isN); walk_at "e"; first | exact eqT rfl | exact eqF rfl | rfl) | ((with_reducible apply g_notN); walk_at "e"; first | exact eqT rfl | exact eqF rfl | rfl)
  | ((with_reducible apply g_meth); walk_at "e"; exact l_ref (by walk_at "l"); walk_at "e"; walk_at "c")
  | ((with_reducible apply g_slice); walk_at "e"; walk_at "e"; walk_at "e"; first | exact b_sliceT | exact b_sliceL (by walk_at "l"))
  | ((with_reducible apply g_sliceS); walk_at "e"; walk_at "e"; walk_at "e"; walk_at "z")
  | ((with_reducible apply g_vandT); walk_at "e"; walk_at "e") | ((with_reducible apply g_vandF); walk_at "e") | ((with_reducible apply g_vorT); walk_at "e") | ((with_reducible apply g_vorF); walk_at "e"; walk_at "e")
  | ((with_reducible apply g_aug); rfl; walk_at "e"; exact b_iaddI)
  | with_reducible exact g_oN | ((with_reducible apply g_oS); walk_at "e")
  | ((with_reducible apply g_neg); walk_at "e")
  | with_reducible assumption)
local macro_rules | `(tactic| walk_at "k") => `(tactic| first
  | ((with_reducible apply g_nx); walk_at "e") | ((with_reducible apply g_rt); rfl) | ((with_reducible apply g_bk); rfl) | ((with_reducible apply g_ct); rfl)
  | ((with_reducible apply g_cT); walk_at "e") | ((with_reducible apply g_cF); walk_at "e")
  | ((with_reducible apply g_eT); walk_at "e") | ((with_reducible apply g_eF); walk_at "e")
  | ((with_reducible apply g_tT); walk_at "e") | ((with_reducible apply g_tF); rfl) | ((with_reducible apply g_tT'); walk_at "e") | ((with_reducible apply g_tF'); rfl))
/-- what the law uses of a program -/
structure Fine (t : Tree) : Prop where
  ok : Ok t
  pq : Pq t
  rp : ∀ M, M < 2 ^ 61 → Rep M t
  tb : Tb t
  cp : cap t ≤ 1000000
  dp : dep t ≤ 12
  ws : ∀ a, ∀ x ∈ tw (sides t a), isS x
  fb : Fb t
  lf : life t ≤ 1000
  tl : tl t ≤ 1000
  co : cost t ≤ 100000
theorem Fine.f0 {t : Tree} (h : Fine t) : 0 ≤ fin t ∧ fin t ≤ 1000 := by
  have := life_nn t h.pq
  have := h.lf
  omega
def wTest (bh bs : Option Int) : W := .tup [wOpt bh, wOpt bs]
theorem wTest_pure (bh bs : Option Int) : (wTest bh bs).pure = true := by rw [wTest, W.pure]; exact pures2 (wOpt_pure _) (wOpt_pure _)
theorem tcount_all {n : Nat} {t : Tree} {bh bs : Option Int} (F : Fine t) (hn : 30 ≤ n) (S : Store) : sem (n + 1) .test_count [enc t, wTest bh bs, .non] S = some (.int (totT t bh bs : Nat), S) := by
  suffices h : ∃ S1 i, runB 6 (b_test_count (sem n)) [enc t, wTest bh bs, .non] [] = some (.int i, S1) ∧ i = (totT t bh bs : Nat) by
    obtain ⟨S1, i, h, e⟩ := h
    rw [e] at h
    exact ev_pure (pures3 (enc_pure t) (wTest_pure _ _) pure_non) h pure_int
  have d := F.dp
  have et := total_ok n t (by omega) F.ok F.tb []
  have ef := finish_ok n t (by omega) F.ok []
  cases bh with
  | none =>
    cases bs with
    | none => exact ⟨_, _, g_run (by unfold b_test_count; walk_at "e") (by rfl), by simp [totT, has0]⟩
    | some b => exact ⟨_, _, g_run (by unfold b_test_count; walk_at "e") (by rfl), by simp [totT, has0]⟩
  | some c =>
    cases bs with
    | none => exact ⟨_, _, g_run (by unfold b_test_count; walk_at "e") (by rfl), by simp [totT, has0]⟩
    | some b => exact ⟨_, _, g_run (by unfold b_test_count; walk_at "e") (by rfl), by simp [totT, has0]⟩
theorem tcount_at {n : Nat} {t : Tree} {bh bs : Option Int} {a : Int} (F : Fine t) (hn : 30 ≤ n) (ha : a < 2 ^ 60) (S : Store) : sem (n + 1) .test_count [enc t, wTest bh bs, .int a] S = some (.int (cntT t bh bs a : Nat), S) := by
  suffices h : ∃ S1 i, runB 6 (b_test_count (sem n)) [enc t, wTest bh bs, .int a] [] = some (.int i, S1) ∧ i = (cntT t bh bs a : Nat) by
    obtain ⟨S1, i, h, e⟩ := h
    rw [e] at h
    exact ev_pure (pures3 (enc_pure t) (wTest_pure _ _) pure_int) h pure_int
  have d := F.dp
  have et := count_ok n t (2 ^ 60) a (by omega) F.ok F.pq (F.rp _ (by omega)) F.tb (by omega) []
  have ef := finish_ok n t (by omega) F.ok []
  cases bh with
  | none =>
    cases bs with
    | none => exact ⟨_, _, g_run (by unfold b_test_count; walk_at "e") (by rfl), by simp [cntT, bf0]⟩
    | some b =>
      by_cases h : b < a
      · exact ⟨_, _, g_run (by unfold b_test_count; walk_at "e") (by rfl), by simp [cntT, bf0, h]⟩
      · exact ⟨_, _, g_run (by unfold b_test_count; walk_at "e") (by rfl), by simp [cntT, bf0, h]⟩
  | some c =>
    cases bs with
    | none =>
      by_cases h2 : fin t + c < a
      · exact ⟨_, _, g_run (by unfold b_test_count; walk_at "e") (by rfl), by simp [cntT, bf0, h2]⟩
      · exact ⟨_, _, g_run (by unfold b_test_count; walk_at "e") (by rfl), by simp [cntT, bf0, h2]⟩
    | some b =>
      by_cases h2 : fin t + c < a
      · by_cases h : b < a
        · exact ⟨_, _, g_run (by unfold b_test_count; walk_at "e") (by rfl), by simp [cntT, bf0, h2, h]⟩
        · exact ⟨_, _, g_run (by unfold b_test_count; walk_at "e") (by rfl), by simp [cntT, bf0, h2, h]⟩
      · by_cases h : b < a
        · exact ⟨_, _, g_run (by unfold b_test_count; walk_at "e") (by rfl), by simp [cntT, bf0, h2, h]⟩
        · exact ⟨_, _, g_run (by unfold b_test_count; walk_at "e") (by rfl), by simp [cntT, bf0, h2, h]⟩
end L2.Aw.K78

namespace L2.Aw.K78
open PySem PySem.Spec PyProof.Rows
local macro_rules | `(tactic| walk_at "z") => `(tactic| first | with_reducible assumption | rfl | exact szOk_of (by simp only [List.length_cons, List.length_nil, List.length_append, List.length_map, List.length_replicate, List.length_range]; omega))
local macro_rules | `(tactic| walk_at "l") => `(tactic| first | with_reducible assumption | exact getL_new | exact getL_set (by assumption) | (apply getL_old; walk_at "l"))
local macro_rules | `(tactic| walk_at "q") => `(tactic| first | exact sq_tup | exact sq_fz | (apply sq_ref; walk_at "l"))
local macro_rules | `(tactic| walk_at "d") => `(tactic| first | exact decide_eq_true (by omega) | exact decide_eq_false (by omega) | rfl)
local macro_rules | `(tactic| walk_at "m") => `(tactic| first | with_reducible assumption | exact okMul_of (by omega) (by omega) (by omega) (by omega) | rfl)
local macro_rules | `(tactic| walk_at "i") => `(tactic| first | with_reducible assumption | rfl)
local macro_rules | `(tactic| walk_at "c") => `(tactic| first
  | with_reducible assumption
  | ((with_reducible apply b_len); walk_at "q")
  | ((with_reducible apply b_tup); walk_at "q")
  | ((with_reducible apply b_list); walk_at "q")
  | ((with_reducible apply b_lenD); with_reducible assumption)
  | with_reducible exact b_max2 | with_reducible exact b_min2 | with_reducible exact b_abs | with_reducible exact b_intB | with_reducible exact b_intI
  | ((with_reducible apply b_append); walk_at "l"; walk_at "z"))
local macro_rules | `(tactic| walk_at "e") => `(tactic| first
  | with_reducible exact g_C
  | ((with_reducible apply g_var); rfl)
  | ((with_reducible apply ev_cons); walk_at "e"; walk_at "e")
  | with_reducible exact ev_nil
  | ((with_reducible apply ev_call); walk_at "e"; walk_at "c")
  | ((with_reducible apply ev_tup); walk_at "e"; walk_at "z")
  | ((with_reducible apply ev_lst); walk_at "e"; walk_at "z")
  | ((with_reducible apply g_seq); walk_at "e"; walk_at "k")
  | ((with_reducible apply g_asg); walk_at "e"; rfl)
  | ((with_reducible apply ev_ret); walk_at "e")
  | ((with_reducible apply ev_expr); walk_at "e")
  | ((with_reducible apply g_if); walk_at "e"; walk_at "k")
  | ((with_reducible apply g_mif); walk_at "e"; walk_at "k")
  | with_reducible exact g_next | with_reducible exact g_break | with_reducible exact g_cont | with_reducible exact g_retN
  | ((with_reducible apply g_test); walk_at "e")
  | ((with_reducible apply g_or); walk_at "e"; walk_at "k")
  | ((with_reducible apply g_and); walk_at "e"; walk_at "k")
  | ((with_reducible apply g_notT); walk_at "e") | ((with_reducible apply g_notF); walk_at "e")
  | ((with_reducible apply g_lt); walk_at "e"; walk_at "e"; walk_at "d")
  | ((with_reducible apply g_gt); walk_at "e"; walk_at "e"; walk_at "d")
  | ((with_reducible apply g_le); walk_at "e"; walk_at "e"; walk_at "d")
  | ((with_reducible apply g_ge); walk_at "e"; walk_at "e"; walk_at "d")
  | ((with_reducible apply g_bin (f := wAdd)); walk_at "e"; walk_at "e"; first | exact b_addI | exact b_addT (by walk_at "z") | exact b_addS (by walk_at "z") | exact b_addL (by walk_at "l") (by walk_at "l") (by walk_at "z"))
  | ((with_reducible apply g_bin (f := wSub)); walk_at "e"; walk_at "e"; exact b_subI)
  | ((with_reducible apply g_bin (f := wMul)); walk_at "e"; walk_at "e"; exact b_mulI (by walk_at "m"))
  | ((with_reducible apply g_bin (f := wFdiv)); walk_at "e"; walk_at "e"; exact b_divI (okDiv_of (by omega) (by omega)))
  | ((with_reducible apply g_bin (f := wMod)); walk_at "e"; walk_at "e"; exact b_modI (by omega))
  | ((with_reducible apply g_bin (f := wPow)); walk_at "e"; walk_at "e"; exact b_powI (by first | assumption | exact okPow_of (by omega) (by omega) (by omega) (by omega) | decide +kernel))
  | ((with_reducible apply g_bin (f := wIx)); walk_at "e"; walk_at "e"; first | exact b_ixT (by walk_at "i") | exact b_ixF (by walk_at "i") | exact b_ixL (by walk_at "l") (by walk_at "i"))
  | ((with_reducible apply g_bin (f := fEq false)); walk_at "e"; walk_at "e"; first | exact b_eqI (by walk_at "d") | exact b_eqS (by decide +kernel) (by decide +kernel) (by decide +kernel) | with_reducible assumption)
  | ((with_reducible apply g_bin (f := fEq true)); walk_at "e"; walk_at "e"; first | exact b_neI (by walk_at "d") | exact b_neS (by decide +kernel) (by decide +kernel) (by decide +kernel) | with_reducible assumption)
  | ((with_reducible apply g_bin (f := wIn false)); walk_at "e"; walk_at "e"; first | exact b_inK rfl (by decide +kernel) | with_reducible assumption)
  | ((with_reducible apply g_isN); walk_at "e"; first | exact eqT rfl | exact eqF rfl | rfl) | ((with_reducible apply g_notN); walk_at "e"; first | exact eqT rfl | exact eqF rfl | rfl)
  | ((with_reducible apply g_meth); walk_at "e"; exact l_ref (by walk_at "l"); walk_at "e"; walk_at "c")
  | ((with_reducible apply g_slice); walk_at "e"; walk_at "e"; walk_at "e"; first | exact b_sliceT | exact b_sliceL (by walk_at "l"))
  | ((with_reducible apply g_sliceS); walk_at "e"; walk_at "e"; walk_at "e"; walk_at "z")
  | ((with_reducible apply g_vandT); walk_at "e"; walk_at "e") | ((with_reducible apply g_vandF); walk_at "e") | ((with_reducible apply g_vorT); walk_at "e") | ((with_reducible apply g_vorF); walk_at "e"; walk_at "e")
  | ((with_reducible apply g_aug); rfl; walk_at "e"; exact b_iaddI)
  | with_reducible exact g_oN | ((with_reducible apply g_oS); walk_at "e")
  | ((with_reducible apply g_neg); walk_at "e")
  | with_reducible assumption)
local macro_rules | `(tactic| walk_at "k") => `(tactic| first
  | ((with_reducible apply g_nx); walk_at "e") | ((with_reducible apply g_rt); rfl) | ((with_reducible apply g_bk); rfl) | ((with_reducible apply g_ct); rfl)
  | ((with_reducible apply g_cT); walk_at "e") | ((with_reducible apply g_cF); walk_at "e")
  | ((with_reducible apply g_eT); walk_at "e") | ((with_reducible apply g_eF); walk_at "e")
  | ((with_reducible apply g_tT); walk_at "e") | ((with_reducible apply g_tF); rfl) | ((with_reducible apply g_tT'); walk_at "e") | ((with_reducible apply g_tF'); rfl))
theorem find_non {A B : List W} (h : ∀ w ∈ A, wEqA w .non = false) : (A ++ [W.non] ++ B).findIdx? (fun w => wEqA w .non) = some A.length := by
  induction A with
  | nil =>
    show (W.non :: ([] ++ B)).findIdx? (fun w => wEqA w .non) = some 0
    rw [List.findIdx?_cons]
    rfl
  | cons a A ih =>
    have e := h a List.mem_cons_self
    show (a :: (A ++ [W.non] ++ B)).findIdx? (fun w => wEqA w .non) = _
    rw [List.findIdx?_cons, e, ih fun w hw => h w (List.mem_cons_of_mem _ hw)]
    rfl
theorem words_non {l : List Wd} (h : ∀ x ∈ l, isS x) : ∀ w ∈ l.map wv, wEqA w .non = false ∧ wFlat w = true := by
  intro w hw
  obtain ⟨x, hx, e⟩ := List.mem_map.mp hw
  obtain ⟨s, es⟩ := h x hx
  subst es e
  exact ⟨rfl, rfl⟩
/-- row + [1] if beside == at else [] -/
theorem last_ok {e : WEnv} {S : Store} {bs : Option Int} {r : Int} {l : Nat} {ws : List W} (h2 : e[2]? = some (some (.int r))) (h4 : e[4]? = some (some (wOpt bs))) (h5 : e[5]? = some (some (.ref l))) (hl : getL S l = some ws) (hz : ws.length ≤ 3000000) :
    ∃ S' l', (sRet (mBin wAdd (mVar 5) (mIf (mTest (mBin (fEq false) (mVar 4) (mVar 2))) (mLst (aCons (mC (.int 1)) aNil)) (mLst aNil)))) e S = some (.rt (.ref l') S') ∧ getL S' l' = some (ws ++ m1 bs r) ∧ S.length ≤ l' ∧ Grow (fun _ => False) S S' := by
  have et : ∃ k, mTest (mBin (fEq false) (mVar 4) (mVar 2)) e S = some (k, S) ∧ k = at0 bs 0 r := by
    cases bs with
    | none => exact ⟨false, ev_test (ev_bin (ev_var h4) (ev_var h2) fEq_nonI), rfl⟩
    | some b =>
      refine ⟨_, ev_test (ev_bin (x := .int b) (ev_var h4) (ev_var h2) (b_eqI rfl)), ?_⟩
      show decide (b = r) = decide (0 + b = r)
      rw [Int.zero_add]
  obtain ⟨k, et, ek⟩ := et
  have em : mIf (mTest (mBin (fEq false) (mVar 4) (mVar 2))) (mLst (aCons (mC (.int 1)) aNil)) (mLst aNil) e S = some (.ref S.length, S ++ [.lst (m1 bs r)]) := by
    unfold m1
    rw [← ek]
    cases k with
    | true => exact ev_mif_t et (ev_lst (ev_cons rfl ev_nil) rfl)
    | false => exact ev_mif_f et (ev_lst ev_nil rfl)
  have hm : (m1 bs r).length ≤ 1 := by unfold m1; split <;> simp
  refine ⟨S ++ [.lst (m1 bs r)] ++ [.lst (ws ++ m1 bs r)], _, ev_ret (ev_catL (ev_var h5) em (getL_old hl) getL_new (szOk_of (by omega))), getL_new, by simp, (Grow.push _).trans (Grow.push _)⟩
theorem trow_ok {n : Nat} {t : Tree} {bh bs : Option Int} {r : Int} (F : Fine t) (hn : 40 ≤ n) (hb : nnO bh) (h0 : 0 ≤ r) (hr : r < 2 ^ 60) (S : Store) :
    ∃ S' l, sem (n + 1) .test_row [enc t, wTest bh bs, .int r] S = some (.ref l, S') ∧ getL S' l = some (rowT t bh bs r) ∧ S.length ≤ l ∧ Grow (fun _ => False) S S' := by
  have d := F.dp
  obtain ⟨n, rfl⟩ : ∃ m, n = m + 1 := ⟨n - 1, by omega⟩
  have em := marked_ok (n := n) (t := t) (M := 2 ^ 60) (a := r) (by omega) F.ok (F.rp _ (by omega)) h0 (by omega) F.cp S
  have hz := sz_sides (2 ^ 60) t F.ok (F.rp _ (by omega)) r (by omega)
  have hz2 : sz (sides t r) = (sides t r).1.length + (sides t r).2.length := rfl
  have hcp := F.cp
  have ef := finish_ok (n + 1) t (by omega) F.ok
  rw [mk_mkw] at em
  let ws0 : List W := (mkw t r).map wv
  let S1 : Store := S ++ [.lst ws0]
  have g01 : Grow (fun _ => False) S S1 := Grow.push _
  have hl0 : getL S1 S.length = some ws0 := getL_new
  have l1 : S1.length = S.length + 1 := by simp [S1]
  have hin : wIn false .non (.ref S.length) S1 = some (.bl (decide (fin t ≤ r)), S1) := by
    have e : seqOf S1 (.ref S.length) = seqOf S1 (.tup ws0) := hl0
    unfold wIn
    rw [e]
    exact in_mk (F.ws r)
  let env : WEnv := [some (enc t), some (wTest bh bs), some (.int r), some (wOpt bh), some (wOpt bs), some (.ref S.length), none, none]
  have efirst : ∀ (b : WS) o, b env S1 = some o → sSeq (sAsg (.tp ((.nm 3) :: ((.nm 4) :: []))) (mVar 1)) (sSeq (sAsg (.nm 5) (mCall cList (aCons (mCall (sem (n + 1) .marked) (aCons (mVar 0) (aCons (mVar 2) aNil))) aNil))) b) [some (enc t), some (wTest bh bs), some (.int r), none, none, none, none, none] S = some o := by
    intro b o hb
    exact ev_seq (ev_asg (w := wTest bh bs) (S1 := S) rfl rfl) (ev_seq (ev_asg (ev_call (ev_cons (ev_call (ev_cons rfl (ev_cons rfl ev_nil)) em) ev_nil) (b_list rfl)) rfl) hb)
  by_cases hf : fin t ≤ r
  · rw [decide_eq_true hf] at hin
    let L : List W := (sides t r).1.map wv
    let R : List W := (sides t r).2.map wv
    have hL : ∀ w ∈ L, wEqA w .non = false ∧ wFlat w = true := words_non fun x hx => F.ws r x (List.mem_append_left _ hx)
    have hR : ∀ w ∈ R, wEqA w .non = false ∧ wFlat w = true := words_non fun x hx => F.ws r x (List.mem_append_right _ hx)
    have ews : ws0 = L ++ [.non] ++ R := by
      show ((mkw t r).map wv) = _
      unfold mkw
      rw [if_pos hf, List.map_append, List.map_append]
      rfl
    have hLl : L.length = (sides t r).1.length := List.length_map _
    have hRl : R.length = (sides t r).2.length := List.length_map _
    have hflat : ws0.all wFlat = true := by
      rw [ews, List.all_append, List.all_append, List.all_eq_true.mpr fun w hw => (hL w hw).2, List.all_eq_true.mpr fun w hw => (hR w hw).2]
      rfl
    have eix : mMeth lIndex (mVar 5) (aCons (mC .non) aNil) env S1 = some (.int (L.length : Nat), S1) := by
      refine ev_meth (x := .ref S.length) (S1 := S1) (S2 := S1) (ws := [.non]) rfl (l_ref hl0) rfl ?_
      show (getL S1 S.length).bind (fun us => if wFlat .non && us.all wFlat then (us.findIdx? fun z => wEqA z .non).map fun j => (W.int (j : Nat), S1) else none) = _
      rw [hl0, Option.bind_some, hflat]
      show (ws0.findIdx? fun z => wEqA z .non).map _ = _
      rw [ews, find_non fun w hw => (hL w hw).1]
      rfl
    have emk : vAnd (mNotN (mVar 3)) (mBin (fEq false) (mBin wAdd (mCall (sem (n + 1) .finish) (aCons (mVar 0) aNil)) (mVar 3)) (mVar 2)) (env.set 6 (some (.int (L.length : Nat)))) S1 = some (.bl (at0 bh (fin t) r), S1) := by
      cases bh with
      | none => exact g_vandF (g_notN (w := .non) rfl rfl)
      | some b => exact g_vandT (g_notN (w := .int b) (S1 := S1) rfl rfl) (ev_bin (ev_addI (ev_call (ev_cons rfl ev_nil) (ef S1)) rfl) rfl (b_eqI rfl))
    let env2 : WEnv := [some (enc t), some (wTest bh bs), some (.int r), some (wOpt bh), some (wOpt bs), some (.ref S.length), some (.int (L.length : Nat)), some (.bl (at0 bh (fin t) r))]
    let S2 : Store := S1 ++ [.lst L]
    let S3 : Store := S2 ++ [.lst (m0 t bh r)]
    let S4 : Store := S3 ++ [.lst (L ++ m0 t bh r)]
    let S5 : Store := S4 ++ [.lst R]
    let S6 : Store := S5 ++ [.lst (L ++ m0 t bh r ++ R)]
    have hlen0 : ws0.length = L.length + 1 + R.length := by rw [ews, List.length_append, List.length_append]; rfl
    have esl1 : mSlice (mVar 5) oNone (oSome (mVar 6)) env2 S1 = some (.ref S1.length, S2) := by
      have e : wCut ws0 none (some (L.length : Nat)) = L := by
        rw [cut_to (by omega) (by omega), ews, List.append_assoc]
        simp
      have h := ev_slice (m := mVar 5) (ml := oNone) (mh := oSome (mVar 6)) (env := env2) (S := S1) (x := .ref S.length) (S1 := S1) (S2 := S1) (S3 := S1) rfl rfl (g_oS rfl) (b_sliceL hl0)
      rw [e] at h
      exact h
    have hl4 : getL S4 S.length = some ws0 := getL_old (getL_old (getL_old hl0))
    have esl2 : mSlice (mVar 5) (oSome (mBin wAdd (mVar 6) (mC (.int 1)))) oNone env2 S4 = some (.ref S4.length, S5) := by
      have e : wCut ws0 (some ((L.length : Nat) + 1)) none = R := by
        rw [cut_from (by omega) (by omega), ews]
        have e2 : ((L.length : Int) + 1).toNat = (L ++ [W.non]).length := by rw [List.length_append]; show _ = L.length + 1; omega
        rw [e2, List.drop_left]
      have h := ev_slice (m := mVar 5) (ml := oSome (mBin wAdd (mVar 6) (mC (.int 1)))) (mh := oNone) (env := env2) (S := S4) (x := .ref S.length) (S1 := S4) (S2 := S4) (S3 := S4) rfl (g_oS (ev_addI rfl rfl)) rfl (b_sliceL hl4)
      rw [e] at h
      exact h
    have em0 : mIf (mTest (mVar 7)) (mLst (aCons (mC (.int 0)) aNil)) (mLst aNil) env2 S2 = some (.ref S2.length, S3) := by
      have ek : mTest (mVar 7) env2 S2 = some (at0 bh (fin t) r, S2) := ev_test rfl
      show _ = some (W.ref S2.length, S2 ++ [MO.lst (if at0 bh (fin t) r then [.int 0] else [])])
      generalize at0 bh (fin t) r = k at ek ⊢
      cases k with
      | true => exact ev_mif_t ek (ev_lst (ev_cons rfl ev_nil) rfl)
      | false => exact ev_mif_f ek (ev_lst ev_nil rfl)
    have hm0 : (m0 t bh r).length ≤ 1 := by unfold m0; split <;> simp
    have e6 : mBin wAdd (mBin wAdd (mSlice (mVar 5) oNone (oSome (mVar 6))) (mIf (mTest (mVar 7)) (mLst (aCons (mC (.int 0)) aNil)) (mLst aNil))) (mSlice (mVar 5) (oSome (mBin wAdd (mVar 6) (mC (.int 1)))) oNone) env2 S1 = some (.ref S5.length, S6) :=
      ev_catL (ev_catL esl1 em0 (getL_old getL_new) getL_new (szOk_of (by omega))) esl2 (getL_old getL_new) getL_new (szOk_of (by rw [List.length_append]; omega))
    obtain ⟨S', l', e7, h7, l7, g7⟩ := last_ok (e := [some (enc t), some (wTest bh bs), some (.int r), some (wOpt bh), some (wOpt bs), some (.ref S5.length), some (.int (L.length : Nat)), some (.bl (at0 bh (fin t) r))]) (S := S6) (bs := bs) (r := r) (l := S5.length) (ws := L ++ m0 t bh r ++ R) rfl rfl rfl getL_new (by rw [List.length_append, List.length_append]; omega)
    have g16 : Grow (fun _ => False) S1 S6 := ((((Grow.push _).trans (Grow.push _)).trans (Grow.push _)).trans (Grow.push _)).trans (Grow.push _)
    refine ⟨S', l', ?_, by rw [h7]; unfold rowT; rw [if_pos hf], by have := g16.len; omega, (g01.trans g16).trans g7⟩
    refine ev_run (efirst _ _ ?_)
    refine ev_seq (ev_if_t (ev_test (ev_bin rfl rfl hin)) ?_) e7
    exact ev_seq (ev_asg eix rfl) (ev_seq (ev_asg emk rfl) (ev_asg e6 rfl))
  · rw [decide_eq_false hf] at hin
    have e2 : (sides t r).2 = [] := by rw [sides_raw t F.ok F.pq r, shut_f hf]
    have ews : ws0 = (sides t r).1.map wv := by
      show ((mkw t r).map wv) = _
      unfold mkw
      rw [if_neg hf]
    have hlen0 : ws0.length = (sides t r).1.length := by rw [ews, List.length_map]
    obtain ⟨S', l', e7, h7, l7, g7⟩ := last_ok (e := env) (S := S1) (bs := bs) (r := r) (l := S.length) (ws := ws0) rfl rfl rfl hl0 (by omega)
    refine ⟨S', l', ?_, by rw [h7, ews]; unfold rowT; rw [if_neg hf], by omega, g01.trans g7⟩
    refine ev_run (efirst _ _ ?_)
    exact ev_seq (ev_if_f (ev_test (ev_bin rfl rfl hin)) rfl) e7
end L2.Aw.K78

namespace L2.Aw.K78
open PySem PySem.Spec PyProof.Rows
local macro_rules | `(tactic| walk_at "z") => `(tactic| first | with_reducible assumption | rfl | exact szOk_of (by simp only [List.length_cons, List.length_nil, List.length_append, List.length_map, List.length_replicate, List.length_range]; omega))
local macro_rules | `(tactic| walk_at "l") => `(tactic| first | with_reducible assumption | exact getL_new | exact getL_set (by assumption) | (apply getL_old; walk_at "l"))
local macro_rules | `(tactic| walk_at "q") => `(tactic| first | exact sq_tup | exact sq_fz | (apply sq_ref; walk_at "l"))
local macro_rules | `(tactic| walk_at "d") => `(tactic| first | exact decide_eq_true (by omega) | exact decide_eq_false (by omega) | rfl)
local macro_rules | `(tactic| walk_at "m") => `(tactic| first | with_reducible assumption | exact okMul_of (by omega) (by omega) (by omega) (by omega) | rfl)
local macro_rules | `(tactic| walk_at "i") => `(tactic| first | with_reducible assumption | rfl)
local macro_rules | `(tactic| walk_at "c") => `(tactic| first
  | with_reducible assumption
  | ((with_reducible apply b_len); walk_at "q")
  | ((with_reducible apply b_tup); walk_at "q")
  | ((with_reducible apply b_list); walk_at "q")
  | ((with_reducible apply b_lenD); with_reducible assumption)
  | with_reducible exact b_max2 | with_reducible exact b_min2 | with_reducible exact b_abs | with_reducible exact b_intB | with_reducible exact b_intI
  | ((with_reducible apply b_append); walk_at "l"; walk_at "z"))
local macro_rules | `(tactic| walk_at "e") => `(tactic| first
  | with_reducible exact g_C
  | ((with_reducible apply g_var); rfl)
  | ((with_reducible apply ev_cons); walk_at "e"; walk_at "e")
  | with_reducible exact ev_nil
  | ((with_reducible apply ev_call); walk_at "e"; walk_at "c")
  | ((with_reducible apply ev_tup); walk_at "e"; walk_at "z")
  | ((with_reducible apply ev_lst); walk_at "e"; walk_at "z")
  | ((with_reducible apply g_seq); walk_at "e"; walk_at "k")
  | ((with_reducible apply g_asg); walk_at "e"; rfl)
  | ((with_reducible apply ev_ret); walk_at "e")
  | ((with_reducible apply ev_expr); walk_at "e")
  | ((with_reducible apply g_if); walk_at "e"; walk_at "k")
  | ((with_reducible apply g_mif); walk_at "e"; walk_at "k")
  | with_reducible exact g_next | with_reducible exact g_break | with_reducible exact g_cont | with_reducible exact g_retN
  | ((with_reducible apply g_test); walk_at "e")
  | ((with_reducible apply g_or); walk_at "e"; walk_at "k")
  | ((with_reducible apply g_and); walk_at "e"; walk_at "k")
  | ((with_reducible apply g_notT); walk_at "e") | ((with_reducible apply g_notF); walk_at "e")
  | ((with_reducible apply g_lt); walk_at "e"; walk_at "e"; walk_at "d")
  | ((with_reducible apply g_gt); walk_at "e"; walk_at "e"; walk_at "d")
  | ((with_reducible apply g_le); walk_at "e"; walk_at "e"; walk_at "d")
  | ((with_reducible apply g_ge); walk_at "e"; walk_at "e"; walk_at "d")
  | ((with_reducible apply g_bin (f := wAdd)); walk_at "e"; walk_at "e"; first | exact b_addI | exact b_addT (by walk_at "z") | exact b_addS (by walk_at "z") | exact b_addL (by walk_at "l") (by walk_at "l") (by walk_at "z"))
  | ((with_reducible apply g_bin (f := wSub)); walk_at "e"; walk_at "e"; exact b_subI)
  | ((with_reducible apply g_bin (f := wMul)); walk_at "e"; walk_at "e"; exact b_mulI (by walk_at "m"))
  | ((with_reducible apply g_bin (f := wFdiv)); walk_at "e"; walk_at "e"; exact b_divI (okDiv_of (by omega) (by omega)))
  | ((with_reducible apply g_bin (f := wMod)); walk_at "e"; walk_at "e"; exact b_modI (by omega))
  | ((with_reducible apply g_bin (f := wPow)); walk_at "e"; walk_at "e"; exact b_powI (by first | assumption | exact okPow_of (by omega) (by omega) (by omega) (by omega) | decide +kernel))
  | ((with_reducible apply g_bin (f := wIx)); walk_at "e"; walk_at "e"; first | exact b_ixT (by walk_at "i") | exact b_ixF (by walk_at "i") | exact b_ixL (by walk_at "l") (by walk_at "i"))
  | ((with_reducible apply g_bin (f := fEq false)); walk_at "e"; walk_at "e"; first | exact b_eqI (by walk_at "d") | exact b_eqS (by decide +kernel) (by decide +kernel) (by decide +kernel) | with_reducible assumption)
  | ((with_reducible apply g_bin (f := fEq true)); walk_at "e"; walk_at "e"; first | exact b_neI (by walk_at "d") | exact b_neS (by decide +kernel) (by decide +kernel) (by decide +kernel) | with_reducible assumption)
  | ((with_reducible apply g_bin (f := wIn false)); walk_at "e"; walk_at "e"; first | exact b_inK rfl (by decide +kernel) | with_reducible assumption)
  | ((with_reducible apply g_isN); walk_at "e"; first | exact eqT rfl | exact eqF rfl | rfl) | ((with_reducible apply g_notN); walk_at "e"; first | exact eqT rfl | exact eqF rfl | rfl)
  | ((with_reducible apply g_meth); walk_at "e"; exact l_ref (by walk_at "l"); walk_at "e"; walk_at "c")
  | ((with_reducible apply g_slice); walk_at "e"; walk_at "e"; walk_at "e"; first | exact b_sliceT | exact b_sliceL (by walk_at "l"))
  | ((with_reducible apply g_sliceS); walk_at "e"; walk_at "e"; walk_at "e"; walk_at "z")
  | ((with_reducible apply g_vandT); walk_at "e"; walk_at "e") | ((with_reducible apply g_vandF); walk_at "e") | ((with_reducible apply g_vorT); walk_at "e") | ((with_reducible apply g_vorF); walk_at "e"; walk_at "e")
  | ((with_reducible apply g_aug); rfl; walk_at "e"; exact b_iaddI)
  | with_reducible exact g_oN | ((with_reducible apply g_oS); walk_at "e")
  | ((with_reducible apply g_neg); walk_at "e")
  | with_reducible assumption)
local macro_rules | `(tactic| walk_at "k") => `(tactic| first
  | ((with_reducible apply g_nx); walk_at "e") | ((with_reducible apply g_rt); rfl) | ((with_reducible apply g_bk); rfl) | ((with_reducible apply g_ct); rfl)
  | ((with_reducible apply g_cT); walk_at "e") | ((with_reducible apply g_cF); walk_at "e")
  | ((with_reducible apply g_eT); walk_at "e") | ((with_reducible apply g_eF); walk_at "e")
  | ((with_reducible apply g_tT); walk_at "e") | ((with_reducible apply g_tF); rfl) | ((with_reducible apply g_tT'); walk_at "e") | ((with_reducible apply g_tF'); rfl))
theorem cut_last (A : List W) (x : W) : wCut (A ++ [x]) none (some (-1)) = A := by
  unfold wCut
  have e : HT.sIx (A ++ [x]).length (A ++ [x]).length (some (-1)) = A.length := by
    unfold HT.sIx
    rw [List.length_append]
    show (if (-1 : Int) < 0 then ((-1 : Int) + ((A.length + 1 : Nat) : Int)).toNat else _) = _
    rw [if_pos (by omega)]
    omega
  rw [e, HT.sIx_none, List.drop_zero, Nat.sub_zero]
  simp
theorem at_last {A : List W} {x : W} : atI (A ++ [x]) (-1) = some x := by
  have h : (A ++ [x])[A.length]? = some x := by simp
  have e : ixN (A ++ [x]).length (-1) = some A.length := by
    have hl : (A ++ [x]).length = A.length + 1 := by simp
    rw [hl]
    unfold ixN
    simp
    omega
  unfold L2.atI
  rw [e]
  exact h
theorem entry_ok {n : Nat} {t : Tree} {bh bs : Option Int} {A i N : Nat} (F : Fine t) (hn : 50 ≤ n) (hb : nnO bh) (hs : nnO bs) (hA : doneT t bh bs (A : Nat)) (hA2 : A ≤ 1000000) (hN : A + 1 ≤ N) (S : Store) :
    sem (n + 1) .test_entry [enc t, wTest bh bs, .int (i : Nat)] S = some (((logT t bh bs N)[i]?).getD .non, S) := by
  obtain ⟨n, rfl⟩ : ∃ m, n = m + 1 := ⟨n - 1, by omega⟩
  have tA : cntT t bh bs (A : Nat) = totT t bh bs := cntT_all F.pq hA (Int.le_refl _)
  have tlen : (logT t bh bs N).length = totT t bh bs := by rw [logT_len F.ok F.pq hb hs, cntT_all F.pq hA (by omega)]
  have call := tcount_all (n := n) (bh := bh) (bs := bs) F (by omega)
  have cat := fun (a : Int) (ha : a < 2 ^ 60) => tcount_at (n := n) (bh := bh) (bs := bs) (a := a) F (by omega) ha
  suffices h : ∃ S1, runB 6 (b_test_entry (sem (n + 1))) [enc t, wTest bh bs, .int (i : Nat)] [] = some (((logT t bh bs N)[i]?).getD .non, S1) ∧ (((logT t bh bs N)[i]?).getD .non).pure = true by
    obtain ⟨S1, h, hp⟩ := h
    exact ev_pure (pures3 (enc_pure t) (wTest_pure _ _) pure_int) h hp
  by_cases hi : totT t bh bs ≤ i
  · have e : (logT t bh bs N)[i]? = none := List.getElem?_eq_none (by omega)
    rw [e]
    exact ⟨[], ev_run (ev_seq_rt (ev_if_t (evt_ge rfl (ev_call (ev_cons rfl (ev_cons rfl (ev_cons rfl ev_nil))) (call [])) (by omega)) (ev_ret rfl))), pure_non⟩
  · have early : ∀ a : Int, (A : Int) ≤ a → ¬ ((cntT t bh bs a : Nat) : Int) ≤ (i : Nat) := fun a ha => by
      have := cntT_mono (t := t) (bh := bh) (bs := bs) ha
      omega
    have loop1 : ∀ (m : Nat) (low high : Int), (A + 1 - high).toNat ≤ m → 0 ≤ low → low < high → high ≤ 2 * A + 2 → cntT t bh bs low ≤ i →
        ∃ low' high' : Int, (∃ k, sWhile k (mTest (mBin wLe (mCall (sem (n + 1) .test_count) (aCons (mVar 0) (aCons (mVar 1) (aCons (mVar 4) aNil)))) (mVar 2))) (sPar 3 4 (aCons (mVar 4) (aCons (mBin wMul (mVar 4) (mC (.int 2))) aNil))) [some (enc t), some (wTest bh bs), some (.int (i : Nat)), some (.int low), some (.int high), none] [] = some (.nx [some (enc t), some (wTest bh bs), some (.int (i : Nat)), some (.int low'), some (.int high'), none] [])) ∧ 0 ≤ low' ∧ low' < high' ∧ high' ≤ 2 * A + 2 ∧ cntT t bh bs low' ≤ i ∧ i < cntT t bh bs high' := by
      intro m
      induction m with
      | zero =>
        intro low high hm h0 h1 h2 h3
        have hlt := early high (by omega)
        exact ⟨low, high, ev_stop (evf_le (ev_call (ev_cons rfl (ev_cons rfl (ev_cons rfl ev_nil))) (cat high (by omega) [])) rfl hlt), h0, h1, h2, h3, by omega⟩
      | succ m ih =>
        intro low high hm h0 h1 h2 h3
        by_cases hc : ((cntT t bh bs high : Nat) : Int) ≤ (i : Nat)
        · have hA3 : high < A := by
            apply Classical.byContradiction
            intro hx
            exact early high (by omega) hc
          obtain ⟨low', high', hk, q⟩ := ih high (high * 2) (by omega) (by omega) (by omega) (by omega) (by omega)
          exact ⟨low', high', ev_turn (evt_le (ev_call (ev_cons rfl (ev_cons rfl (ev_cons rfl ev_nil))) (cat high (by omega) [])) rfl hc) (ev_par (ev_cons rfl (ev_cons (ev_mulI rfl rfl (okMul_of (by omega) (by omega) (by omega) (by omega))) ev_nil))) hk, q⟩
        · exact ⟨low, high, ev_stop (evf_le (ev_call (ev_cons rfl (ev_cons rfl (ev_cons rfl ev_nil))) (cat high (by omega) [])) rfl hc), h0, h1, h2, h3, by omega⟩
    have loop2 : ∀ (m : Nat) (low high : Int) (e5 : Option W), (high - low).toNat ≤ m → 0 ≤ low → low < high → high ≤ 2 * A + 2 → cntT t bh bs low ≤ i → i < cntT t bh bs high →
        ∃ (low' : Int) (e5' : Option W), (∃ k, sWhile k (mTest (mBin wGt (mBin wSub (mVar 4) (mVar 3)) (mC (.int 1)))) (sSeq (sAsg (.nm 5) (mBin wFdiv (mBin wAdd (mVar 3) (mVar 4)) (mC (.int 2)))) (sIf (mTest (mBin wLe (mCall (sem (n + 1) .test_count) (aCons (mVar 0) (aCons (mVar 1) (aCons (mVar 5) aNil)))) (mVar 2))) (sAsg (.nm 3) (mVar 5)) (sAsg (.nm 4) (mVar 5)))) [some (enc t), some (wTest bh bs), some (.int (i : Nat)), some (.int low), some (.int high), e5] [] = some (.nx [some (enc t), some (wTest bh bs), some (.int (i : Nat)), some (.int low'), some (.int (low' + 1)), e5'] [])) ∧ 0 ≤ low' ∧ low' + 1 ≤ 2 * A + 2 ∧ cntT t bh bs low' ≤ i ∧ i < cntT t bh bs (low' + 1) := by
      intro m
      induction m with
      | zero => intro low high e5 hm h0 h1; omega
      | succ m ih =>
        intro low high e5 hm h0 h1 h2 h3 h4
        by_cases h5 : 1 < high - low
        · obtain ⟨mid, hmid⟩ : ∃ mid, mid = (low + high) / 2 := ⟨_, rfl⟩
          have hm2 : low < mid ∧ mid < high := by omega
          have ea : sAsg (.nm 5) (mBin wFdiv (mBin wAdd (mVar 3) (mVar 4)) (mC (.int 2))) [some (enc t), some (wTest bh bs), some (.int (i : Nat)), some (.int low), some (.int high), e5] [] = some (.nx [some (enc t), some (wTest bh bs), some (.int (i : Nat)), some (.int low), some (.int high), some (.int mid)] []) := by
            rw [hmid]
            exact ev_asg (ev_divI (ev_addI rfl rfl) rfl (okDiv_of (by omega) (by omega))) rfl
          by_cases hc : ((cntT t bh bs mid : Nat) : Int) ≤ (i : Nat)
          · obtain ⟨low', e5', hk, q⟩ := ih mid high (some (.int mid)) (by omega) (by omega) (by omega) h2 (by omega) h4
            exact ⟨low', e5', ev_turn (evt_gt (ev_subI rfl rfl) rfl h5) (ev_seq ea (ev_if_t (evt_le (ev_call (ev_cons rfl (ev_cons rfl (ev_cons rfl ev_nil))) (cat mid (by omega) [])) rfl hc) (ev_asg rfl rfl))) hk, q⟩
          · obtain ⟨low', e5', hk, q⟩ := ih low mid (some (.int mid)) (by omega) (by omega) (by omega) (by omega) h3 (by omega)
            exact ⟨low', e5', ev_turn (evt_gt (ev_subI rfl rfl) rfl h5) (ev_seq ea (ev_if_f (evf_le (ev_call (ev_cons rfl (ev_cons rfl (ev_cons rfl ev_nil))) (cat mid (by omega) [])) rfl hc) (ev_asg rfl rfl))) hk, q⟩
        · have e : high = low + 1 := by omega
          subst e
          exact ⟨low, e5, ev_stop (evf_gt (ev_subI rfl rfl) rfl h5), h0, h2, h3, h4⟩
    obtain ⟨l1, h1, ⟨k1, w1⟩, a1, a2, a3, a4, a5⟩ := loop1 (A + 1) 0 1 (by omega) (by omega) (by omega) (by omega) (by rw [cntT_zero F.pq hb hs (by omega)]; omega)
    obtain ⟨low, e5', ⟨k2, w2⟩, b1, b2, b3, b4⟩ := loop2 (h1 - l1).toNat l1 h1 none (by omega) a1 a2 a3 a4 a5
    obtain ⟨lw, elw⟩ : ∃ lw : Nat, low = lw := ⟨low.toNat, by omega⟩
    subst elw
    obtain ⟨S', l, er, hr, _, _⟩ := trow_ok (n := n) (bh := bh) (bs := bs) (r := lw) F (by omega) hb (by omega) (by omega) []
    have hlwA : lw < A := by
      apply Classical.byContradiction
      intro hx
      have := cntT_mono (t := t) (bh := bh) (bs := bs) (show (A : Int) ≤ lw by omega)
      omega
    have hat := logT_at F.ok F.pq hb hs b3 b4 (show lw + 1 ≤ N by omega)
    have hjs : i - cntT t bh bs lw < (rowT t bh bs lw).length := by
      have := cntT_succ F.ok F.pq hb bs (a := lw) (by omega)
      omega
    have hj : (rowT t bh bs lw)[i - cntT t bh bs lw]? = some (rowT t bh bs lw)[i - cntT t bh bs lw] := List.getElem?_eq_getElem hjs
    rw [hat, hj]
    refine ⟨S', ?_, (rowT_mem F.ws bh bs lw _ (List.getElem_mem hjs)).2.2.1⟩
    have ej : ((i : Nat) : Int) - ((cntT t bh bs lw : Nat) : Int) = ((i - cntT t bh bs lw : Nat) : Int) := by omega
    refine ev_run (ev_seq (ev_if_f (evf_ge rfl (ev_call (ev_cons rfl (ev_cons rfl (ev_cons rfl ev_nil))) (call [])) (by omega)) rfl) (ev_seq (ev_asg (ev_tup (ev_cons rfl (ev_cons rfl ev_nil)) rfl) rfl) (ev_seq (ev_whileU w1) (ev_seq (ev_whileU w2) (ev_ret (ev_ixL (ev_call (ev_cons rfl (ev_cons rfl (ev_cons rfl ev_nil))) er) (ev_subI rfl (ev_call (ev_cons rfl (ev_cons rfl (ev_cons rfl ev_nil))) (cat lw (by omega) S'))) hr ?_))))))
    rw [ej]
    exact atI_nat hj
theorem seen_ok {n : Nat} {t : Tree} {bh bs : Option Int} {A N : Nat} (F : Fine t) (hn : 52 ≤ n) (hb : nnO bh) (hs : nnO bs) (hA : doneT t bh bs (A : Nat)) (hA2 : A ≤ 1000000) (hN : A + 1 ≤ N) (S : Store) :
    ∃ S' l, sem (n + 1) ._law_seen [enc t, wTest bh bs] S = some (.ref l, S') ∧ getL S' l = some (logT t bh bs N) ∧ S.length ≤ l ∧ Grow (fun _ => False) S S' := by
  obtain ⟨n, rfl⟩ : ∃ m, n = m + 1 := ⟨n - 1, by omega⟩
  obtain ⟨L, hL⟩ : ∃ L, L = logT t bh bs N := ⟨_, rfl⟩
  have tlen : L.length = totT t bh bs := by rw [hL, logT_len F.ok F.pq hb hs, cntT_all F.pq hA (by omega)]
  have ttl : totT t bh bs ≤ 1002 := by
    have h0 : ∀ o : Option Int, has0 o ≤ 1 := fun o => by cases o <;> simp [has0]
    have := h0 bh
    have := h0 bs
    have := F.tl
    unfold totT
    omega
  have hmem : ∀ w ∈ L, wNon w = false := fun w hw => (logT_mem F.ws bh bs N w (by rw [← hL]; exact hw)).2.1
  have ent := fun (i : Nat) S => entry_ok (n := n) (i := i) F (by omega) hb hs hA hA2 hN S
  rw [← hL] at ent ⊢
  let fl := S.length
  let env : WEnv := [some (enc t), some (wTest bh bs), some (.ref S.length)]
  have elen : ∀ (σ : Store) (ws : List W), getL σ S.length = some ws → mCall cLen (aCons (mVar 2) aNil) env σ = some (.int (ws.length : Nat), σ) := fun σ ws h => ev_lenS (ev_cons rfl ev_nil) h
  -- a body
  have body : ∀ (i : Nat) (σ : Store) (ws : List W), getL σ S.length = some ws → ws.length = i → i ≤ 2000 → sExpr (mMeth lAppend (mVar 2) (aCons (mCall (sem (n + 1) .test_entry) (aCons (mVar 0) (aCons (mVar 1) (aCons (mCall cLen (aCons (mVar 2) aNil)) aNil)))) aNil)) env σ = some (.nx env (σ.set S.length (.lst (ws ++ [(L[i]?).getD .non])))) := by
    intro i σ ws h hi h2
    have e := ent i σ
    have el := elen σ ws h
    rw [hi] at el
    exact ev_expr (ev_append rfl (ev_cons (ev_call (ev_cons rfl (ev_cons rfl (ev_cons el ev_nil))) e) ev_nil) (by rw [h]; rfl) h (szOk_of (by omega)))
  -- a test
  have test : ∀ (σ : Store) (ws : List W) (x : W), getL σ S.length = some (ws ++ [x]) → ws.length < 1999 → tAndW (mTest (mBin wLt (mCall cLen (aCons (mVar 2) aNil)) (mC (.int 2000)))) (tOrW (mTest (mBin wEqNil (mVar 2) (mLst aNil))) (mTest (mNotN (mBin wIx (mVar 2) (mUn wNeg (mC (.int 1))))))) env σ = some (!wNon x, σ ++ [.lst []]) := by
    intro σ ws x h h2
    have el := elen σ _ h
    rw [List.length_append] at el
    have en := ev_eNil (env := env) (S := σ) (S1 := σ) (ma := mVar 2) rfl h
    have e0 : (ws ++ [x]).isEmpty = false := by cases ws <;> rfl
    rw [e0] at en
    exact ev_and_t (evt_lt el rfl (by show ((ws.length + 1 : Nat) : Int) < 2000; omega)) (ev_or_f en (ev_test (g_notN (ev_ixL rfl (g_neg rfl) (getL_old h) at_last) rfl)))
  have loop : ∀ (m i : Nat) (σ : Store), L.length - i = m → i ≤ L.length → getL σ S.length = some (L.take i) →
      ∃ σ', (∃ k, sWhile k (tAndW (mTest (mBin wLt (mCall cLen (aCons (mVar 2) aNil)) (mC (.int 2000)))) (tOrW (mTest (mBin wEqNil (mVar 2) (mLst aNil))) (mTest (mNotN (mBin wIx (mVar 2) (mUn wNeg (mC (.int 1)))))))) (sExpr (mMeth lAppend (mVar 2) (aCons (mCall (sem (n + 1) .test_entry) (aCons (mVar 0) (aCons (mVar 1) (aCons (mCall cLen (aCons (mVar 2) aNil)) aNil)))) aNil))) env σ = some (.nx env σ')) ∧ getL σ' S.length = some (L ++ [.non]) ∧ Grow (fun x => x = S.length) σ σ' := by
    intro m
    induction m with
    | zero =>
      intro i σ hm hi h
      have e : i = L.length := by omega
      subst e
      rw [List.take_length] at h
      have ht : ∃ σ1, tAndW (mTest (mBin wLt (mCall cLen (aCons (mVar 2) aNil)) (mC (.int 2000)))) (tOrW (mTest (mBin wEqNil (mVar 2) (mLst aNil))) (mTest (mNotN (mBin wIx (mVar 2) (mUn wNeg (mC (.int 1))))))) env σ = some (true, σ1) ∧ getL σ1 S.length = some L ∧ Grow (fun x => x = S.length) σ σ1 := by
        by_cases h0 : L = []
        · have el := elen σ _ h
          have en := ev_eNil (env := env) (S := σ) (S1 := σ) (ma := mVar 2) rfl h
          rw [h0] at el en h
          refine ⟨_, ev_and_t (evt_lt el rfl (by show (0 : Int) < 2000; omega)) (ev_or_t en), ?_, Grow.push _⟩
          rw [h0]
          exact getL_old h
        · have e2 : L.dropLast ++ [L.getLast h0] = L := List.dropLast_concat_getLast h0
          have ht := test σ L.dropLast (L.getLast h0) (by rw [e2]; exact h) (by rw [List.length_dropLast]; omega)
          rw [hmem _ (List.getLast_mem h0)] at ht
          exact ⟨_, ht, getL_old h, Grow.push _⟩
      obtain ⟨σ1, ht, h1, g1⟩ := ht
      have hb1 := body L.length σ1 L h1 rfl (by omega)
      have e3 : (L[L.length]?).getD .non = W.non := by rw [List.getElem?_eq_none (Nat.le_refl _)]; rfl
      rw [e3] at hb1
      have hlt : S.length < σ1.length := (List.getElem?_eq_some_iff.mp (getL_some h1)).1
      have h2 : getL (σ1.set S.length (.lst (L ++ [.non]))) S.length = some (L ++ [.non]) := getL_set hlt
      have ht2 := test _ L .non h2 (by omega)
      refine ⟨_, ev_turn ht hb1 (ev_stop ht2), getL_old h2, (g1.trans (Grow.set rfl)).trans (Grow.push _)⟩
    | succ m ih =>
      intro i σ hm hi h
      have hi2 : i < L.length := by omega
      have ht : ∃ σ1, tAndW (mTest (mBin wLt (mCall cLen (aCons (mVar 2) aNil)) (mC (.int 2000)))) (tOrW (mTest (mBin wEqNil (mVar 2) (mLst aNil))) (mTest (mNotN (mBin wIx (mVar 2) (mUn wNeg (mC (.int 1))))))) env σ = some (true, σ1) ∧ getL σ1 S.length = some (L.take i) ∧ Grow (fun x => x = S.length) σ σ1 := by
        by_cases h0 : L.take i = []
        · have el := elen σ _ h
          have en := ev_eNil (env := env) (S := σ) (S1 := σ) (ma := mVar 2) rfl h
          rw [h0] at el en h
          refine ⟨_, ev_and_t (evt_lt el rfl (by show (0 : Int) < 2000; omega)) (ev_or_t en), ?_, Grow.push _⟩
          rw [h0]
          exact getL_old h
        · have e2 : (L.take i).dropLast ++ [(L.take i).getLast h0] = L.take i := List.dropLast_concat_getLast h0
          have ht := test σ (L.take i).dropLast ((L.take i).getLast h0) (by rw [e2]; exact h) (by rw [List.length_dropLast, List.length_take]; omega)
          rw [hmem _ (List.mem_of_mem_take (List.getLast_mem h0))] at ht
          exact ⟨_, ht, getL_old h, Grow.push _⟩
      obtain ⟨σ1, ht, h1, g1⟩ := ht
      have hb1 := body i σ1 (L.take i) h1 (by rw [List.length_take]; omega) (by omega)
      have e3 : (L[i]?).getD .non = L[i] := by rw [List.getElem?_eq_getElem hi2]; rfl
      have e4 : L.take i ++ [L[i]] = L.take (i + 1) := List.take_append_getElem hi2
      rw [e3, e4] at hb1
      have hlt : S.length < σ1.length := (List.getElem?_eq_some_iff.mp (getL_some h1)).1
      obtain ⟨σ', hk, q1, q2⟩ := ih (i + 1) (σ1.set S.length (.lst (L.take (i + 1)))) (by omega) (by omega) (getL_set hlt)
      exact ⟨σ', ev_turn ht hb1 hk, q1, (g1.trans (Grow.set rfl)).trans q2⟩
  obtain ⟨σ', ⟨k, hk⟩, h1, g1⟩ := loop L.length 0 (S ++ [.lst []]) (by omega) (by omega) (by rw [List.take_zero]; exact getL_new)
  have g0 : Grow (fun _ => False) S σ' := ⟨by have := g1.len; simp at this; omega, fun i hi _ => by
    rw [g1.at_ i (by simp; omega) (by omega)]
    exact List.getElem?_append_left hi⟩
  refine ⟨σ' ++ [.lst L], σ'.length, ?_, getL_new, g0.len, g0.trans (Grow.push _)⟩
  have esl := b_sliceL (lo := none) (hi := some (-1)) h1
  rw [cut_last] at esl
  exact ev_run (ev_seq (ev_asg (ev_lst ev_nil rfl) rfl) (ev_seq (ev_whileU hk) (ev_ret (ev_slice rfl rfl (g_oS (g_neg rfl)) esl))))
end L2.Aw.K78

namespace L2.Aw.K78
open PySem PySem.Spec PyProof.Rows
local macro_rules | `(tactic| walk_at "z") => `(tactic| first | with_reducible assumption | rfl | exact szOk_of (by simp only [List.length_cons, List.length_nil, List.length_append, List.length_map, List.length_replicate, List.length_range]; omega))
local macro_rules | `(tactic| walk_at "l") => `(tactic| first | with_reducible assumption | exact getL_new | exact getL_set (by assumption) | (apply getL_old; walk_at "l"))
local macro_rules | `(tactic| walk_at "q") => `(tactic| first | exact sq_tup | exact sq_fz | (apply sq_ref; walk_at "l"))
local macro_rules | `(tactic| walk_at "d") => `(tactic| first | exact decide_eq_true (by omega) | exact decide_eq_false (by omega) | rfl)
local macro_rules | `(tactic| walk_at "m") => `(tactic| first | with_reducible assumption | exact okMul_of (by omega) (by omega) (by omega) (by omega) | rfl)
local macro_rules | `(tactic| walk_at "i") => `(tactic| first | with_reducible assumption | rfl)
local macro_rules | `(tactic| walk_at "c") => `(tactic| first
  | with_reducible assumption
  | ((with_reducible apply b_len); walk_at "q")
  | ((with_reducible apply b_tup); walk_at "q")
  | ((with_reducible apply b_list); walk_at "q")
  | ((with_reducible apply b_lenD); with_reducible assumption)
  | with_reducible exact b_max2 | with_reducible exact b_min2 | with_reducible exact b_abs | with_reducible exact b_intB | with_reducible exact b_intI
  | ((with_reducible apply b_append); walk_at "l"; walk_at "z"))
local macro_rules | `(tactic| walk_at "e") => `(tactic| first
  | with_reducible exact g_C
  | ((with_reducible apply g_var); rfl)
  | ((with_reducible apply ev_cons); walk_at "e"; walk_at "e")
  | with_reducible exact ev_nil
  | ((with_reducible apply ev_call); walk_at "e"; walk_at "c")
  | ((with_reducible apply ev_tup); walk_at "e"; walk_at "z")
  | ((with_reducible apply ev_lst); walk_at "e"; walk_at "z")
  | ((with_reducible apply g_seq); walk_at "e"; walk_at "k")
  | ((with_reducible apply g_asg); walk_at "e"; rfl)
  | ((with_reducible apply ev_ret); walk_at "e")
  | ((with_reducible apply ev_expr); walk_at "e")
  | ((with_reducible apply g_if); walk_at "e"; walk_at "k")
  | ((with_reducible apply g_mif); walk_at "e"; walk_at "k")
  | with_reducible exact g_next | with_reducible exact g_break | with_reducible exact g_cont | with_reducible exact g_retN
  | ((with_reducible apply g_test); walk_at "e")
  | ((with_reducible apply g_or); walk_at "e"; walk_at "k")
  | ((with_reducible apply g_and); walk_at "e"; walk_at "k")
  | ((with_reducible apply g_notT); walk_at "e") | ((with_reducible apply g_notF); walk_at "e")
  | ((with_reducible apply g_lt); walk_at "e"; walk_at "e"; walk_at "d")
  | ((with_reducible apply g_gt); walk_at "e"; walk_at "e"; walk_at "d")
  | ((with_reducible apply g_le); walk_at "e"; walk_at "e"; walk_at "d")
  | ((with_reducible apply g_ge); walk_at "e"; walk_at "e"; walk_at "d")
  | ((with_reducible apply g_bin (f := wAdd)); walk_at "e"; walk_at "e"; first | exact b_addI | exact b_addT (by walk_at "z") | exact b_addS (by walk_at "z") | exact b_addL (by walk_at "l") (by walk_at "l") (by walk_at "z"))
  | ((with_reducible apply g_bin (f := wSub)); walk_at "e"; walk_at "e"; exact b_subI)
  | ((with_reducible apply g_bin (f := wMul)); walk_at "e"; walk_at "e"; exact b_mulI (by walk_at "m"))
  | ((with_reducible apply g_bin (f := wFdiv)); walk_at "e"; walk_at "e"; exact b_divI (okDiv_of (by omega) (by omega)))
  | ((with_reducible apply g_bin (f := wMod)); walk_at "e"; walk_at "e"; exact b_modI (by omega))
  | ((with_reducible apply g_bin (f := wPow)); walk_at "e"; walk_at "e"; exact b_powI (by first | assumption | exact okPow_of (by omega) (by omega) (by omega) (by omega) | decide +kernel))
  | ((with_reducible apply g_bin (f := wIx)); walk_at "e"; walk_at "e"; first | exact b_ixT (by walk_at "i") | exact b_ixF (by walk_at "i") | exact b_ixL (by walk_at "l") (by walk_at "i"))
  | ((with_reducible apply g_bin (f := fEq false)); walk_at "e"; walk_at "e"; first | exact b_eqI (by walk_at "d") | exact b_eqS (by decide +kernel) (by decide +kernel) (by decide +kernel) | with_reducible assumption)
  | ((with_reducible apply g_bin (f := fEq true)); walk_at "e"; walk_at "e"; first | exact b_neI (by walk_at "d") | exact b_neS (by decide +kernel) (by decide +kernel) (by decide +kernel) | with_reducible assumption)
  | ((with_reducible apply g_bin (f := wIn false)); walk_at "e"; walk_at "e"; first | exact b_inK rfl (by decide +kernel) | with_reducible assumption)
  | ((with_reducible apply g_isN); walk_at "e"; first | exact eqT rfl | exact eqF rfl | rfl) | ((with_reducible apply g_notN); walk_at "e"; first | exact eqT rfl | exact eqF rfl | rfl)
  | ((with_reducible apply g_meth); walk_at "e"; exact l_ref (by walk_at "l"); walk_at "e"; walk_at "c")
  | ((with_reducible apply g_slice); walk_at "e"; walk_at "e"; walk_at "e"; first | exact b_sliceT | exact b_sliceL (by walk_at "l"))
  | ((with_reducible apply g_sliceS); walk_at "e"; walk_at "e"; walk_at "e"; walk_at "z")
  | ((with_reducible apply g_vandT); walk_at "e"; walk_at "e") | ((with_reducible apply g_vandF); walk_at "e") | ((with_reducible apply g_vorT); walk_at "e") | ((with_reducible apply g_vorF); walk_at "e"; walk_at "e")
  | ((with_reducible apply g_aug); rfl; walk_at "e"; exact b_iaddI)
  | with_reducible exact g_oN | ((with_reducible apply g_oS); walk_at "e")
  | ((with_reducible apply g_neg); walk_at "e")
  | with_reducible assumption)
local macro_rules | `(tactic| walk_at "k") => `(tactic| first
  | ((with_reducible apply g_nx); walk_at "e") | ((with_reducible apply g_rt); rfl) | ((with_reducible apply g_bk); rfl) | ((with_reducible apply g_ct); rfl)
  | ((with_reducible apply g_cT); walk_at "e") | ((with_reducible apply g_cF); walk_at "e")
  | ((with_reducible apply g_eT); walk_at "e") | ((with_reducible apply g_eF); walk_at "e")
  | ((with_reducible apply g_tT); walk_at "e") | ((with_reducible apply g_tF); rfl) | ((with_reducible apply g_tT'); walk_at "e") | ((with_reducible apply g_tF'); rfl))
theorem cut_mid {ws : List W} {b e : Nat} (h1 : b ≤ e) (h2 : e ≤ ws.length) : wCut ws (some (b : Int)) (some (e : Int)) = (ws.drop b).take (e - b) := by
  unfold wCut
  rw [HT.sIx_nat, HT.sIx_nat]
  have e1 : min b ws.length = b := by omega
  have e2 : min e ws.length = e := by omega
  rw [e1, e2]
theorem row_plain {t : Tree} (F : Fine t) (r : Int) : rowT t none none r = (tw (sides t r)).map wv := by
  unfold rowT
  have e1 : m0 t none r = [] := rfl
  have e2 : m1 none r = [] := rfl
  rw [e1, e2, List.append_nil, List.append_nil, tw, List.map_append]
  by_cases hf : fin t ≤ r
  · rw [if_pos hf]
  · have e : (sides t r).2 = [] := by rw [sides_raw t F.ok F.pq r, shut_f hf]
    rw [if_neg hf, e]
    simp
theorem plain_cut {t : Tree} (F : Fine t) {r N : Nat} (hN : r + 1 ≤ N) : wCut (logT t none none N) (some (cb t r : Nat)) (some (cb t ((r : Int) + 1) : Nat)) = (tw (sides t r)).map wv := by
  have nn : nnO none := fun x h => by cases h
  have c0 : ∀ a : Int, cntT t none none a = cb t a := fun a => rfl
  obtain ⟨X, e⟩ := logT_more t none none (r + 1) (N - (r + 1))
  have e1 : r + 1 + (N - (r + 1)) = N := by omega
  rw [e1, logT, List.append_assoc] at e
  have l1 := logT_len F.ok F.pq nn nn r
  have l2 := cntT_succ F.ok F.pq nn none (a := r) (by omega)
  rw [c0] at l1
  rw [c0, c0] at l2
  rw [cut_mid (by omega) (by rw [e, List.length_append, List.length_append]; omega), e, ← row_plain F, ← l1, List.drop_left]
  have e3 : cb t ((r : Int) + 1) - (logT t none none r).length = (rowT t none none r).length := by omega
  rw [e3, List.take_left]
theorem index_ok {m : WE} {env : WEnv} {S S1 : Store} {l j : Nat} {z : Int} {ws : List W} (h : m env S = some (.ref l, S1)) (hl : getL S1 l = some ws) (hf : ws.all wFlat = true) (hj : ws.findIdx? (fun w => wEqA w (.int z)) = some j) : mMeth lIndex m (aCons (mC (.int z)) aNil) env S = some (.int (j : Nat), S1) := by
  refine ev_meth (x := .ref l) (S1 := S1) (S2 := S1) (ws := [.int z]) h (l_ref hl) rfl ?_
  show (getL S1 l).bind (fun us => if wFlat (.int z) && us.all wFlat then (us.findIdx? fun w => wEqA w (.int z)).map fun j => (W.int (j : Nat), S1) else none) = _
  rw [hl, Option.bind_some, hf]
  show (ws.findIdx? fun w => wEqA w (.int z)).map _ = _
  rw [hj]
  rfl
def endI (t : Tree) (i : Int) : Option Int := if fin t < i then some (fin t) else none
abbrev toldBody (c : Fn → FM) : WS := sSeq (sAsg (.nm 7) (mCall (c ._law_seen) (aCons (mVar 0) (aCons (mTup (aCons (mC (.int 0)) (aCons (mVar 6) aNil))) aNil)))) (sSeq (sIf (tAndW (mTest (mIsN (mVar 3))) (mTest (mBin wLt (mMeth lIndex (mVar 7) (aCons (mC (.int 0)) aNil)) (mMeth lIndex (mVar 7) (aCons (mC (.int 1)) aNil))))) (sAsg (.nm 3) (mVar 6)) (sNext)) (sSeq (sAsg (.nm 8) (mMeth lIndex (mCall (c ._law_seen) (aCons (mVar 0) (aCons (mTup (aCons (mC .non) (aCons (mVar 6) aNil))) aNil))) (aCons (mC (.int 1)) aNil))) (sSeq (sAsg (.nm 9) (mCall cTuple (aCons (mSlice (mVar 2) (oSome (mVar 5)) (oSome (mVar 8))) aNil))) (sSeq (sIf (mTest (mNotN (mVar 3))) (sSeq (sAsg (.nm 10) (mBin wSub (mMeth lIndex (mCall (c ._law_seen) (aCons (mVar 0) (aCons (mTup (aCons (mBin wSub (mVar 6) (mVar 3)) (aCons (mC .non) aNil))) aNil))) (aCons (mC (.int 0)) aNil)) (mVar 5))) (sAsg (.nm 9) (mBin wAdd (mBin wAdd (mSlice (mVar 9) oNone (oSome (mVar 10))) (mTup (aCons (mC .non) aNil))) (mSlice (mVar 9) (oSome (mVar 10)) oNone)))) (sNext)) (sSeq (sExpr (mMeth lAppend (mVar 4) (aCons (mVar 9) aNil))) (sAsg (.nm 5) (mVar 8)))))))
theorem told_step {n i lp lr : Nat} {t : Tree} {x1 x7 x8 x9 x10 : Option W} {S : Store} {rows : List W} (F : Fine t) (hn : 53 ≤ n) (hi : i ≤ 100) (hlp : getL S lp = some (logT t none none 3001)) (hlr : getL S lr = some rows) (hne : lp ≠ lr) (hrows : rows.length ≤ 100) :
    ∃ S' y7 y8 y9 y10, toldBody (sem n) [some (enc t), x1, some (.ref lp), some (wOpt (endI t i)), some (.ref lr), some (.int (cb t i : Nat)), some (.int (i : Nat)), x7, x8, x9, x10] S = some (.nx [some (enc t), x1, some (.ref lp), some (wOpt (endI t ((i : Int) + 1))), some (.ref lr), some (.int (cb t ((i : Int) + 1) : Nat)), some (.int (i : Nat)), y7, y8, y9, y10] S') ∧ getL S' lp = some (logT t none none 3001) ∧ getL S' lr = some (rows ++ [mk t (i : Nat)]) ∧ Grow (fun x => x = lr) S S' := by
  have f0 := F.f0
  have flf := F.lf
  obtain ⟨n, rfl⟩ : ∃ m, n = m + 1 := ⟨n - 1, by omega⟩
  have nn : nnO none := fun x h => by cases h
  have nz : nnO (some (0 : Int)) := fun x h => by cases h; omega
  have ni : nnO (some ((i : Nat) : Int)) := fun x h => by cases h; omega
  have flat : ∀ bh bs, (logT t bh bs 3001).all wFlat = true := fun bh bs => List.all_eq_true.mpr fun w hw => (logT_mem F.ws bh bs 3001 w hw).1
  obtain ⟨S1, lb, e1, h1, l1, g1⟩ := seen_ok (n := n) (A := 3000) (N := 3001) (S := S) F (by omega) nz ni ⟨by omega, fun b h => (by cases h; omega), fun b h => (by cases h; omega)⟩ (by omega) (by omega)
  obtain ⟨fn, efn⟩ : ∃ fn : Nat, fin t = fn := ⟨(fin t).toNat, by omega⟩
  have j0 := find_behind F.ok F.pq F.ws ni (b := 0) (r := fn) (N := 3001) (by omega) (by omega) (by omega)
  have j1 := find_beside F.ok F.pq F.ws nz (b := i) (N := 3001) (by omega)
  -- the end
  have eend : sIf (tAndW (mTest (mIsN (mVar 3))) (mTest (mBin wLt (mMeth lIndex (mVar 7) (aCons (mC (.int 0)) aNil)) (mMeth lIndex (mVar 7) (aCons (mC (.int 1)) aNil))))) (sAsg (.nm 3) (mVar 6)) (sNext) [some (enc t), x1, some (.ref lp), some (wOpt (endI t i)), some (.ref lr), some (.int (cb t i : Nat)), some (.int (i : Nat)), some (.ref lb), x8, x9, x10] S1 = some (.nx [some (enc t), x1, some (.ref lp), some (wOpt (endI t ((i : Int) + 1))), some (.ref lr), some (.int (cb t i : Nat)), some (.int (i : Nat)), some (.ref lb), x8, x9, x10] S1) := by
    have hlt : ¬ fin t < i → ((((cntT t none (some ((i : Nat) : Int)) fn + (sides t fn).1.length : Nat) : Int) < ((cntT t (some 0) none ((i : Int) + 1) : Nat) : Int)) ↔ fin t = i) := by
      intro hx
      have c1 : cntT t none (some ((i : Nat) : Int)) fn = cb t fn + if (0 : Int) + (i : Nat) < fn then 1 else 0 := rfl
      have c2 : cntT t (some 0) none ((i : Int) + 1) = cb t ((i : Int) + 1) + if fin t + 0 < (i : Int) + 1 then 1 else 0 := rfl
      constructor
      · intro hh
        apply Classical.byContradiction
        intro hy
        have hm := cb_mono t (show ((i : Int) + 1) ≤ fn by omega)
        rw [c1, c2, if_pos (by omega), if_neg (by omega)] at hh
        omega
      · intro hh
        have e : (fn : Int) = i := by omega
        have hs := cb_succ t (a := (i : Int)) (by omega)
        have hw : (sides t i).1.length ≤ wc t i := by
          unfold wc
          rw [← tw_sides F.ok F.pq, tw, List.length_append]; omega
        rw [c1, c2, e, if_neg (by omega), if_pos (by omega)]
        omega
    by_cases ha : fin t < i
    · have e2 : endI t i = some (fin t) := if_pos ha
      have e3 : endI t ((i : Int) + 1) = some (fin t) := if_pos (by omega)
      rw [e2, e3]
      exact ev_if_f (ev_and_f (ev_test (g_isN (w := .int (fin t)) rfl rfl))) rfl
    · have e2 : endI t i = none := if_neg ha
      have t1 : mMeth lIndex (mVar 7) (aCons (mC (.int 0)) aNil) [some (enc t), x1, some (.ref lp), some (wOpt none), some (.ref lr), some (.int (cb t i : Nat)), some (.int (i : Nat)), some (.ref lb), x8, x9, x10] S1 = _ := index_ok rfl h1 (flat _ _) j0
      have t2 : mMeth lIndex (mVar 7) (aCons (mC (.int 1)) aNil) [some (enc t), x1, some (.ref lp), some (wOpt none), some (.ref lr), some (.int (cb t i : Nat)), some (.int (i : Nat)), some (.ref lb), x8, x9, x10] S1 = _ := index_ok rfl h1 (flat _ _) j1
      rw [e2]
      by_cases hb : fin t = i
      · have e3 : endI t ((i : Int) + 1) = some (i : Int) := by unfold endI; rw [if_pos (by omega), hb]
        rw [e3]
        exact ev_if_t (ev_and_t (ev_test (g_isN (w := .non) rfl rfl)) (evt_lt t1 t2 ((hlt ha).mpr hb))) (ev_asg rfl rfl)
      · have e3 : endI t ((i : Int) + 1) = none := if_neg (by omega)
        rw [e3]
        exact ev_if_f (ev_and_t (ev_test (g_isN (w := .non) rfl rfl)) (evf_lt t1 t2 (fun h => hb ((hlt ha).mp h)))) rfl
  -- the words of the round
  obtain ⟨S2, lc, e2, h2, l2, g2⟩ := seen_ok (n := n) (A := 3000) (N := 3001) (S := S1) F (by omega) nn ni ⟨by omega, fun b h => (by cases h), fun b h => (by cases h; omega)⟩ (by omega) (by omega)
  have j2 := find_beside F.ok F.pq F.ws nn (b := i) (N := 3001) (by omega)
  have hlp2 : getL S2 lp = some (logT t none none 3001) := g2.getL (g1.getL hlp id) id
  have eup := index_ok (m := mCall (sem (n + 1) ._law_seen) (aCons (mVar 0) (aCons (mTup (aCons (mC .non) (aCons (mVar 6) aNil))) aNil))) (env := [some (enc t), x1, some (.ref lp), some (wOpt (endI t ((i : Int) + 1))), some (.ref lr), some (.int (cb t i : Nat)), some (.int (i : Nat)), some (.ref lb), x8, x9, x10]) (S := S1) (z := 1) (ev_call (ev_cons rfl (ev_cons (x := wTest none (some ((i : Nat) : Int))) (S1 := S1) (ev_tup (ev_cons rfl (ev_cons rfl ev_nil)) rfl) ev_nil)) e2) h2 (flat _ _) j2
  have ecnt : cntT t none none ((i : Int) + 1) = cb t ((i : Int) + 1) := rfl
  rw [ecnt] at eup
  let wsr : List W := (tw (sides t i)).map wv
  let S3 : Store := S2 ++ [.lst wsr]
  have esl := b_sliceL (lo := some (cb t i : Nat)) (hi := some (cb t ((i : Int) + 1) : Nat)) hlp2
  rw [plain_cut F (by omega)] at esl
  have erow : mCall cTuple (aCons (mSlice (mVar 2) (oSome (mVar 5)) (oSome (mVar 8))) aNil) [some (enc t), x1, some (.ref lp), some (wOpt (endI t ((i : Int) + 1))), some (.ref lr), some (.int (cb t i : Nat)), some (.int (i : Nat)), some (.ref lb), some (.int (cb t ((i : Int) + 1) : Nat)), x9, x10] S2 = some (.tup wsr, S3) :=
    ev_tupOf (ev_cons (ev_slice rfl (g_oS rfl) (g_oS rfl) esl) ev_nil) getL_new
  have g03 : Grow (fun _ => False) S S3 := (g1.trans g2).trans (Grow.push _)
  have hwl : wsr.length ≤ 1000000 := by
    have s := sz_sides 100 t F.ok (F.rp _ (by omega)) i (by omega)
    have e : sz (sides t i) = (sides t i).1.length + (sides t i).2.length := rfl
    have hc := F.cp
    show ((tw (sides t i)).map wv).length ≤ _
    rw [List.length_map, tw, List.length_append]
    omega
  -- with the gap
  have emark : ∃ S4 y9 y10, sIf (mTest (mNotN (mVar 3))) (sSeq (sAsg (.nm 10) (mBin wSub (mMeth lIndex (mCall (sem (n + 1) ._law_seen) (aCons (mVar 0) (aCons (mTup (aCons (mBin wSub (mVar 6) (mVar 3)) (aCons (mC .non) aNil))) aNil))) (aCons (mC (.int 0)) aNil)) (mVar 5))) (sAsg (.nm 9) (mBin wAdd (mBin wAdd (mSlice (mVar 9) oNone (oSome (mVar 10))) (mTup (aCons (mC .non) aNil))) (mSlice (mVar 9) (oSome (mVar 10)) oNone)))) (sNext) [some (enc t), x1, some (.ref lp), some (wOpt (endI t ((i : Int) + 1))), some (.ref lr), some (.int (cb t i : Nat)), some (.int (i : Nat)), some (.ref lb), some (.int (cb t ((i : Int) + 1) : Nat)), some (.tup wsr), x10] S3 = some (.nx [some (enc t), x1, some (.ref lp), some (wOpt (endI t ((i : Int) + 1))), some (.ref lr), some (.int (cb t i : Nat)), some (.int (i : Nat)), some (.ref lb), some (.int (cb t ((i : Int) + 1) : Nat)), y9, y10] S4) ∧ y9 = some (mk t (i : Nat)) ∧ Grow (fun _ => False) S3 S4 := by
    by_cases ha : fin t ≤ i
    · have e3 : endI t ((i : Int) + 1) = some (fin t) := if_pos (by omega)
      rw [e3]
      have nb : nnO (some ((i : Int) - fin t)) := fun x h => by cases h; omega
      obtain ⟨S4, ld, e4, h4, l4, g4⟩ := seen_ok (n := n) (A := 3000) (N := 3001) (S := S3) F (by omega) nb nn ⟨by omega, fun b h => (by cases h; omega), fun b h => (by cases h)⟩ (by omega) (by omega)
      have j3 := find_behind F.ok F.pq F.ws nn (b := (i : Int) - fin t) (r := i) (N := 3001) (by omega) (by omega) (by omega)
      have ecnt2 : cntT t none none (i : Nat) = cb t i := rfl
      rw [ecnt2] at j3
      have eix := index_ok (m := mCall (sem (n + 1) ._law_seen) (aCons (mVar 0) (aCons (mTup (aCons (mBin wSub (mVar 6) (mVar 3)) (aCons (mC .non) aNil))) aNil))) (env := [some (enc t), x1, some (.ref lp), some (wOpt (some (fin t))), some (.ref lr), some (.int (cb t i : Nat)), some (.int (i : Nat)), some (.ref lb), some (.int (cb t ((i : Int) + 1) : Nat)), some (.tup wsr), x10]) (S := S3) (z := 0) (ev_call (ev_cons rfl (ev_cons (x := wTest (some ((i : Int) - fin t)) none) (S1 := S3) (ev_tup (ev_cons (ev_subI (i := i) (j := fin t) rfl rfl) (ev_cons rfl ev_nil)) rfl) ev_nil)) e4) h4 (flat _ _) j3
      have elen : wsr.length = (sides t i).1.length + (sides t i).2.length := by
        show ((tw (sides t i)).map wv).length = _
        rw [List.length_map, tw, List.length_append]
      have espot : ((cb t i + (sides t i).1.length : Nat) : Int) - (cb t i : Nat) = ((sides t i).1.length : Nat) := by omega
      have ewsr : wsr = (sides t i).1.map wv ++ (sides t i).2.map wv := by
        show (tw (sides t i)).map wv = _
        rw [tw, List.map_append]
      have ll : ((sides t i).1.map wv).length = (sides t i).1.length := List.length_map _
      have c1 : wCut wsr none (some ((sides t i).1.length : Nat)) = (sides t i).1.map wv := by
        rw [cut_to (by omega) (by omega), ewsr]
        have e5 : (((sides t i).1.length : Nat) : Int).toNat = ((sides t i).1.map wv).length := by omega
        rw [e5, List.take_left]
      have c2 : wCut wsr (some ((sides t i).1.length : Nat)) none = (sides t i).2.map wv := by
        rw [cut_from (by omega) (by omega), ewsr]
        have e5 : (((sides t i).1.length : Nat) : Int).toNat = ((sides t i).1.map wv).length := by omega
        rw [e5, List.drop_left]
      have emk : mk t (i : Nat) = .tup ((sides t i).1.map wv ++ [.non] ++ (sides t i).2.map wv) := if_pos ha
      refine ⟨S4, some (mk t (i : Nat)), some (.int ((sides t i).1.length : Nat)), ?_, rfl, g4⟩
      refine ev_if_t (ev_test (g_notN (w := .int (fin t)) rfl rfl)) ?_
      refine ev_seq (ev_asg (w := .int ((sides t i).1.length : Nat)) (S1 := S4) (by rw [← espot]; exact ev_subI eix rfl) rfl) ?_
      rw [emk]
      have s1 := b_sliceT (ws := wsr) (lo := none) (hi := some ((sides t i).1.length : Nat)) (S := S4)
      have s2 := b_sliceT (ws := wsr) (lo := some ((sides t i).1.length : Nat)) (hi := none) (S := S4)
      rw [c1] at s1
      rw [c2] at s2
      exact ev_asg (ev_catT (ev_catT (ev_slice rfl rfl (g_oS rfl) s1) (ev_tup (ev_cons rfl ev_nil) rfl) (szOk_of (by rw [ll]; show _ + 1 ≤ _; omega))) (ev_slice rfl (g_oS rfl) rfl s2) (szOk_of (by rw [List.length_append, ll, List.length_map]; show _ + 1 + _ ≤ _; omega))) rfl
    · have e3 : endI t ((i : Int) + 1) = none := if_neg (by omega)
      rw [e3]
      have emk : mk t (i : Nat) = .tup wsr := by
        have e4 : mk t (i : Nat) = wStrs (sides t i).1 := if_neg ha
        have e5 : (sides t i).2 = [] := by rw [sides_raw t F.ok F.pq i, shut_f (by omega)]
        rw [e4]
        show _ = W.tup ((tw (sides t i)).map wv)
        rw [tw, e5, List.append_nil]
        rfl
      refine ⟨S3, some (.tup wsr), x10, ev_if_f (ev_test (g_notN (w := .non) rfl rfl)) rfl, by rw [emk], Grow.refl _ _⟩
  obtain ⟨S4, y9, y10, e4, ey9, g4⟩ := emark
  subst ey9
  have g04 : Grow (fun _ => False) S S4 := g03.trans g4
  have hlr4 := g04.getL hlr id
  have hlt : lr < S4.length := (List.getElem?_eq_some_iff.mp (getL_some hlr4)).1
  have gset : Grow (fun x => x = lr) S4 (S4.set lr (.lst (rows ++ [mk t (i : Nat)]))) := Grow.set rfl
  refine ⟨S4.set lr (.lst (rows ++ [mk t (i : Nat)])), some (.ref lb), some (.int (cb t ((i : Int) + 1) : Nat)), some (mk t (i : Nat)), y10, ?_, gset.getL (g04.getL hlp id) hne, getL_set hlt, (g04.mono fun _ _ h => h.elim).trans gset⟩
  refine ev_seq (ev_asg (ev_call (ev_cons rfl (ev_cons (x := wTest (some 0) (some ((i : Nat) : Int))) (S1 := S) (ev_tup (ev_cons rfl (ev_cons rfl ev_nil)) rfl) ev_nil)) e1) rfl) ?_
  refine ev_seq eend ?_
  refine ev_seq (ev_asg eup rfl) ?_
  refine ev_seq (ev_asg erow rfl) ?_
  refine ev_seq e4 ?_
  refine ev_seq (ev_expr (ev_append rfl (ev_cons rfl ev_nil) (by rw [hlr4]; rfl) hlr4 (szOk_of (by omega)))) ?_
  exact ev_asg rfl rfl
end L2.Aw.K78

namespace L2.Aw.K78
open PySem PySem.Spec PyProof.Rows
local macro_rules | `(tactic| walk_at "z") => `(tactic| first | with_reducible assumption | rfl | exact szOk_of (by simp only [List.length_cons, List.length_nil, List.length_append, List.length_map, List.length_replicate, List.length_range]; omega))
local macro_rules | `(tactic| walk_at "l") => `(tactic| first | with_reducible assumption | exact getL_new | exact getL_set (by assumption) | (apply getL_old; walk_at "l"))
local macro_rules | `(tactic| walk_at "q") => `(tactic| first | exact sq_tup | exact sq_fz | (apply sq_ref; walk_at "l"))
local macro_rules | `(tactic| walk_at "d") => `(tactic| first | exact decide_eq_true (by omega) | exact decide_eq_false (by omega) | rfl)
local macro_rules | `(tactic| walk_at "m") => `(tactic| first | with_reducible assumption | exact okMul_of (by omega) (by omega) (by omega) (by omega) | rfl)
local macro_rules | `(tactic| walk_at "i") => `(tactic| first | with_reducible assumption | rfl)
local macro_rules | `(tactic| walk_at "c") => `(tactic| first
  | with_reducible assumption
  | ((with_reducible apply b_len); walk_at "q")
  | ((with_reducible apply b_tup); walk_at "q")
  | ((with_reducible apply b_list); walk_at "q")
  | ((with_reducible apply b_lenD); with_reducible assumption)
  | with_reducible exact b_max2 | with_reducible exact b_min2 | with_reducible exact b_abs | with_reducible exact b_intB | with_reducible exact b_intI
  | ((with_reducible apply b_append); walk_at "l"; walk_at "z"))
local macro_rules | `(tactic| walk_at "e") => `(tactic| first
  | with_reducible exact g_C
  | ((with_reducible apply g_var); rfl)
  | ((with_reducible apply ev_cons); walk_at "e"; walk_at "e")
  | with_reducible exact ev_nil
  | ((with_reducible apply ev_call); walk_at "e"; walk_at "c")
  | ((with_reducible apply ev_tup); walk_at "e"; walk_at "z")
  | ((with_reducible apply ev_lst); walk_at "e"; walk_at "z")
  | ((with_reducible apply g_seq); walk_at "e"; walk_at "k")
  | ((with_reducible apply g_asg); walk_at "e"; rfl)
  | ((with_reducible apply ev_ret); walk_at "e")
  | ((with_reducible apply ev_expr); walk_at "e")
  | ((with_reducible apply g_if); walk_at "e"; walk_at "k")
  | ((with_reducible apply g_mif); walk_at "e"; walk_at "k")
  | with_reducible exact g_next | with_reducible exact g_break | with_reducible exact g_cont | with_reducible exact g_retN
  | ((with_reducible apply g_test); walk_at "e")
  | ((with_reducible apply g_or); walk_at "e"; walk_at "k")
  | ((with_reducible apply g_and); walk_at "e"; walk_at "k")
  | ((with_reducible apply g_notT); walk_at "e") | ((with_reducible apply g_notF); walk_at "e")
  | ((with_reducible apply g_lt); walk_at "e"; walk_at "e"; walk_at "d")
  | ((with_reducible apply g_gt); walk_at "e"; walk_at "e"; walk_at "d")
  | ((with_reducible apply g_le); walk_at "e"; walk_at "e"; walk_at "d")
  | ((with_reducible apply g_ge); walk_at "e"; walk_at "e"; walk_at "d")
  | ((with_reducible apply g_bin (f := wAdd)); walk_at "e"; walk_at "e"; first | exact b_addI | exact b_addT (by walk_at "z") | exact b_addS (by walk_at "z") | exact b_addL (by walk_at "l") (by walk_at "l") (by walk_at "z"))
  | ((with_reducible apply g_bin (f := wSub)); walk_at "e"; walk_at "e"; exact b_subI)
  | ((with_reducible apply g_bin (f := wMul)); walk_at "e"; walk_at "e"; exact b_mulI (by walk_at "m"))
  | ((with_reducible apply g_bin (f := wFdiv)); walk_at "e"; walk_at "e"; exact b_divI (okDiv_of (by omega) (by omega)))
  | ((with_reducible apply g_bin (f := wMod)); walk_at "e"; walk_at "e"; exact b_modI (by omega))
  | ((with_reducible apply g_bin (f := wPow)); walk_at "e"; walk_at "e"; exact b_powI (by first | assumption | exact okPow_of (by omega) (by omega) (by omega) (by omega) | decide +kernel))
  | ((with_reducible apply g_bin (f := wIx)); walk_at "e"; walk_at "e"; first | exact b_ixT (by walk_at "i") | exact b_ixF (by walk_at "i") | exact b_ixL (by walk_at "l") (by walk_at "i"))
  | ((with_reducible apply g_bin (f := fEq false)); walk_at "e"; walk_at "e"; first | exact b_eqI (by walk_at "d") | exact b_eqS (by decide +kernel) (by decide +kernel) (by decide +kernel) | with_reducible assumption)
  | ((with_reducible apply g_bin (f := fEq true)); walk_at "e"; walk_at "e"; first | exact b_neI (by walk_at "d") | exact b_neS (by decide +kernel) (by decide +kernel) (by decide +kernel) | with_reducible assumption)
  | ((with_reducible apply g_bin (f := wIn false)); walk_at "e"; walk_at "e"; first | exact b_inK rfl (by decide +kernel) | with_reducible assumption)
  | ((with_reducible apply g_isN); walk_at "e"; first | exact eqT rfl | exact eqF rfl | rfl) | ((with_reducible apply g_notN); walk_at "e"; first | exact eqT rfl | exact eqF rfl | rfl)
  | ((with_reducible apply g_meth); walk_at "e"; exact l_ref (by walk_at "l"); walk_at "e"; walk_at "c")
  | ((with_reducible apply g_slice); walk_at "e"; walk_at "e"; walk_at "e"; first | exact b_sliceT | exact b_sliceL (by walk_at "l"))
  | ((with_reducible apply g_sliceS); walk_at "e"; walk_at "e"; walk_at "e"; walk_at "z")
  | ((with_reducible apply g_vandT); walk_at "e"; walk_at "e") | ((with_reducible apply g_vandF); walk_at "e") | ((with_reducible apply g_vorT); walk_at "e") | ((with_reducible apply g_vorF); walk_at "e"; walk_at "e")
  | ((with_reducible apply g_aug); rfl; walk_at "e"; exact b_iaddI)
  | with_reducible exact g_oN | ((with_reducible apply g_oS); walk_at "e")
  | ((with_reducible apply g_neg); walk_at "e")
  | with_reducible assumption)
local macro_rules | `(tactic| walk_at "k") => `(tactic| first
  | ((with_reducible apply g_nx); walk_at "e") | ((with_reducible apply g_rt); rfl) | ((with_reducible apply g_bk); rfl) | ((with_reducible apply g_ct); rfl)
  | ((with_reducible apply g_cT); walk_at "e") | ((with_reducible apply g_cF); walk_at "e")
  | ((with_reducible apply g_eT); walk_at "e") | ((with_reducible apply g_eF); walk_at "e")
  | ((with_reducible apply g_tT); walk_at "e") | ((with_reducible apply g_tF); rfl) | ((with_reducible apply g_tT'); walk_at "e") | ((with_reducible apply g_tF'); rfl))
theorem told_ok {n many : Nat} {t : Tree} (F : Fine t) (hn : 55 ≤ n) (hm : many ≤ 14) (S : Store) :
    ∃ S' l, sem (n + 1) ._law_told_back [enc t, .int (many : Nat)] S = some (.tup [wOpt (endI t many), .ref l], S') ∧ getL S' l = some ((List.range many).map fun r => mk t (r : Nat)) ∧ S.length ≤ l ∧ Grow (fun _ => False) S S' := by
  have f0 := F.f0
  have flf := F.lf
  obtain ⟨n, rfl⟩ : ∃ m, n = m + 1 := ⟨n - 1, by omega⟩
  have nn : nnO none := fun x h => by cases h
  obtain ⟨S1, lp, e1, h1, l1, g1⟩ := seen_ok (n := n) (A := 3000) (N := 3001) (S := S) F (by omega) nn nn ⟨by omega, fun b h => (by cases h), fun b h => (by cases h)⟩ (by omega) (by omega)
  let S2 : Store := S1 ++ [.lst []]
  have hlt1 : lp < S1.length := (List.getElem?_eq_some_iff.mp (getL_some h1)).1
  have e0 : endI t ((0 : Nat) : Int) = none := if_neg (by omega)
  obtain ⟨e, S3, eo, x6, x7, x8, x9, x10, ee, q1, q2, q3⟩ := ev_for (env := [some (enc t), some (.int (many : Nat)), some (.ref lp), some (wOpt (endI t ((0 : Nat) : Int))), some (.ref S1.length), some (.int (cb t ((0 : Nat) : Int) : Nat)), none, none, none, none, none]) (S := S2) (mi := iRange1 (aCons (mVar 1) aNil)) (tg := .nm 6) (body := toldBody (sem (n + 1)))
    (P := fun i e σ => ∃ x6 x7 x8 x9 x10, e = [some (enc t), some (.int (many : Nat)), some (.ref lp), some (wOpt (endI t (i : Nat))), some (.ref S1.length), some (.int (cb t (i : Nat) : Nat)), x6, x7, x8, x9, x10] ∧ getL σ lp = some (logT t none none 3001) ∧ getL σ S1.length = some ((List.range i).map fun r => mk t (r : Nat)) ∧ Grow (fun x => x = S1.length) S2 σ)
    (ev_range1 (j := (many : Nat)) (ev_cons rfl ev_nil) (okRng_of (by omega) (by omega))) ⟨_, _, _, _, _, rfl, getL_old h1, getL_new, Grow.refl _ _⟩ (by
      intro i e σ hi ⟨x6, x7, x8, x9, x10, ee, q1, q2, q3⟩
      subst ee
      have hi' : i < many := by
        have : i < ((many : Nat) : Int).toNat := hi
        omega
      obtain ⟨S', y7, y8, y9, y10, r1, r2, r3, r4⟩ := told_step (n := n + 1) (i := i) (lp := lp) (lr := S1.length) (x1 := some (.int (many : Nat))) (x7 := x7) (x8 := x8) (x9 := x9) (x10 := x10) (S := σ) F (by omega) (by omega) q1 q2 (by omega) (by rw [List.length_map, List.length_range]; omega)
      have ei : ((i + 1 : Nat) : Int) = (i : Int) + 1 := by omega
      refine ⟨.int (0 + i), _, rfl, rfl, _, S', .inl (by rw [Int.zero_add]; exact r1), some (.int (i : Nat)), y7, y8, y9, y10, by rw [ei], r2, by rw [r3, List.range_succ, List.map_append]; rfl, q3.trans r4⟩) (fun _ _ _ => rfl)
  subst ee
  have en : (sRng 0 ((many : Nat) : Int).toNat).n = many := by show ((many : Nat) : Int).toNat = many; omega
  rw [en] at q2 eo
  refine ⟨S3, S1.length, ?_, q2, g1.len, ?_⟩
  · rw [e0] at eo
    show runB 11 (b__law_told_back (sem (n + 1))) [enc t, .int (many : Nat)] S = _
    refine ev_run (ev_seq (ev_asg (ev_tup (ev_cons (ev_call (ev_cons rfl (ev_cons (x := wTest none none) (S1 := S) (ev_tup (ev_cons rfl (ev_cons rfl ev_nil)) rfl) ev_nil)) e1) (ev_cons rfl (ev_cons (ev_lst ev_nil rfl) (ev_cons rfl ev_nil)))) rfl) rfl) ?_)
    have ec : cb t ((0 : Nat) : Int) = 0 := cb_neg t (by omega)
    rw [ec] at eo
    exact ev_seq eo (ev_ret (ev_tup (ev_cons rfl (ev_cons rfl ev_nil)) rfl))
  · have g2 : Grow (fun x => S1.length ≤ x) S1 S3 := (Grow.push _).trans (q3.mono fun i hi h => by omega)
    exact g1.trans ⟨g2.len, fun i hi _ => g2.at_ i hi (by omega)⟩
theorem right_ok {n : Nat} {t : Tree} (F : Fine t) (hn : 57 ≤ n) (S : Store) : ∃ S', sem (n + 1) ._law_right [enc t] S = some (.bl true, S') ∧ Grow (fun _ => False) S S' := by
  have f0 := F.f0
  have d := F.dp
  obtain ⟨n, rfl⟩ : ∃ m, n = m + 40 := ⟨n - 40, by omega⟩
  obtain ⟨S1, v, e1, v0, l1, g1⟩ := span_ok (n := n + 7) (S := S) F.ok F.pq F.fb (by omega) F.co
  obtain ⟨many, hmany⟩ : ∃ many : Nat, min 14 (v + 1) = (many : Int) := ⟨(min 14 (v + 1)).toNat, by omega⟩
  have hmn : many ≤ 14 := by omega
  obtain ⟨S2, l2, e2, h2, l2', g2⟩ := told_ok (n := n + 39) (many := many) F (by omega) hmn S1
  have ef := finish_ok (n + 40) t (by omega) F.ok S2
  obtain ⟨S3, l3, e3, h3, l3', g3⟩ := marked_law_ok (n := n + 37) (many := many) (S := S2) F.ok F.pq (by omega) (by omega) F.co
  let ws : List W := (List.range many).map fun r => mk t (r : Nat)
  have hdat : ∀ w ∈ ws, Dat 2 w := by
    intro w hw
    obtain ⟨r, hr, e⟩ := List.mem_map.mp hw
    rw [← e, mk_mkw]
    exact Dat.mk F.ok _
  have el := ev_lc (env := [some (enc t), some (.int (many : Nat)), some (wOpt (endI t many)), some (.ref l2), none]) (S := S3) (mi := iRange1 (aCons (mVar 1) aNil)) (s := sRng 0 ((many : Nat) : Int).toNat) (tg := .nm 4) (vs := [4]) (el := mCall (sem (n + 40) .marked) (aCons (mVar 0) (aCons (mVar 4) aNil))) (g := fun r => mk t (r : Nat)) (ev_range1 (ev_cons rfl ev_nil) (okRng_of (by omega) (by omega))) (fun r hr => by
    have hr' : r < ((many : Nat) : Int).toNat := hr
    have em := marked_ok (n := n + 39) (M := 100) (a := r) (by omega) F.ok (F.rp _ (by omega)) (by omega) (by omega) F.cp S3
    exact ⟨.int (0 + r), _, rfl, rfl, ev_call (ev_cons rfl (ev_cons rfl ev_nil)) (by rw [Int.zero_add]; exact em)⟩) rfl (szOk_of (by show ((many : Nat) : Int).toNat ≤ _; omega))
  have en : (sRng 0 ((many : Nat) : Int).toNat).n = many := by show ((many : Nat) : Int).toNat = many; omega
  rw [en] at el
  have eif : mIf (mTest (mBin wLt (mCall (sem (n + 40) .finish) (aCons (mVar 0) aNil)) (mVar 1))) (mCall (sem (n + 40) .finish) (aCons (mVar 0) aNil)) (mC .non) [some (enc t), some (.int (many : Nat)), some (wOpt (endI t many)), some (.ref l2), none] S2 = some (wOpt (endI t many), S2) := by
    by_cases h : fin t < (many : Int)
    · have e : endI t many = some (fin t) := if_pos h
      rw [e]
      exact ev_mif_t (evt_lt (ev_call (ev_cons rfl ev_nil) ef) rfl h) (ev_call (ev_cons rfl ev_nil) ef)
    · have e : endI t many = none := if_neg h
      rw [e]
      exact ev_mif_f (evf_lt (ev_call (ev_cons rfl ev_nil) ef) rfl h) rfl
  refine ⟨S3 ++ [.lst ws], ?_, ((g1.trans g2).trans g3).trans (Grow.push _)⟩
  show runB 5 (b__law_right (sem (n + 40))) [enc t] S = _
  refine ev_run ?_
  refine ev_seq (ev_asg (w := .int (many : Nat)) (S1 := S1) (by rw [← hmany]; exact ev_min2 (ev_cons rfl (ev_cons (ev_addI (ev_call (ev_cons rfl ev_nil) e1) rfl) ev_nil))) rfl) ?_
  refine ev_seq (ev_asg (ev_call (ev_cons rfl (ev_cons rfl ev_nil)) e2) rfl) ?_
  refine ev_seq (ev_if_f (ev_test (ev_bin rfl eif (fEq_same true (Dat.opt _) (by omega)))) rfl) ?_
  exact ev_ret (g_vandT (ev_bin rfl (ev_call (ev_cons rfl (ev_cons rfl ev_nil)) e3) (fEq_lists false (g3.getL h2 id) h3 hdat (by omega))) (ev_bin rfl el (fEq_lists false (getL_old (g3.getL h2 id)) getL_new hdat (by omega))))
theorem fine_of {t : Tree} (h : ProgP [0, 1, 2] t) (hn : gn t ≤ 15) (hd : dep t ≤ 12) : Fine t := by
  have k := prog_facts (C := 2) (by omega) (by omega) (fun c hc => by
    have hc' : c = 0 ∨ c = 1 ∨ c = 2 := by simpa using hc
    omega) t h
  have k3 := k.lf
  have k4 := k.cp
  have k7 := k.co
  have k8 := k.tl
  have ho := k.ok (by omega)
  exact ⟨ho, k.pq, k.rp, Tb.prog t h, by omega, hd, fun a x hx => by rw [tw_sides ho k.pq] at hx; exact law_isS (k.ws a x hx), k.fb (by omega), by omega, by omega, by omega⟩
theorem law_true (ns : List Int) (hn : ns.length ≤ 63) : ∃ S', sem 80 .law [.fz (ns.map W.int)] [] = some (.bl true, S') := by
  let m : Int := max 1 (min 3 ((ns.map W.int).length : Nat))
  have hm : 0 ≤ m ∧ m ≤ 3 := by
    show 0 ≤ max 1 (min 3 (((ns.map W.int).length : Nat) : Int)) ∧ max 1 (min 3 (((ns.map W.int).length : Nat) : Int)) ≤ 3
    omega
  obtain ⟨e, σ, eo, x1, x2, x3, x4, ee⟩ := ev_for (env := [some (.fz (ns.map W.int)), none, none, none, none]) (S := []) (mi := iRange1 (aCons (mCall cMax (aCons (mC (.int 1)) (aCons (mCall cMin (aCons (mC (.int 3)) (aCons (mCall cLen (aCons (mVar 0) aNil)) aNil))) aNil))) aNil)) (tg := .nm 1)
    (body := sSeq (sAsg (.nm 2) (mCall (sem 79 ._law_pot) (aCons (mVar 0) (aCons (mVar 1) aNil)))) (sFor (iRange1 (aCons (mC (.int 4)) aNil)) (.nm 3) (sSeq (sAsg (.nm 4) (mCall (sem 79 ._law_program) (aCons (mVar 2) (aCons (mBin wAdd (mC (.int 2)) (mCall (sem 79 ._law_take) (aCons (mVar 2) (aCons (mC (.int 14)) aNil)))) (aCons (mBin wAdd (mC (.int 2)) (mCall (sem 79 ._law_take) (aCons (mVar 2) (aCons (mC (.int 4)) aNil)))) (aCons (mLst (aCons (mC (.int 0)) (aCons (mC (.int 1)) (aCons (mC (.int 2)) aNil)))) aNil)))))) (sIf (tNotW (mTest (mCall (sem 79 ._law_right) (aCons (mVar 4) aNil)))) (sRet (mC (.bl false))) (sNext)))))
    (P := fun i e σ => ∃ (x1 x2 x3 x4 : Option W), e = [some (.fz (ns.map W.int)), x1, x2, x3, x4])
    (ev_range1 (j := m) (ev_cons (ev_max2 (ev_cons rfl (ev_cons (ev_min2 (ev_cons rfl (ev_cons (ev_lenS (ev_cons rfl ev_nil) rfl) ev_nil))) ev_nil))) ev_nil) (okRng_of (by omega) (by omega))) ⟨_, _, _, _, rfl⟩ (by
      intro i e σ hi ⟨x1, x2, x3, x4, ee⟩
      subst ee
      have hi' : i < m.toNat := hi
      obtain ⟨p, S1, e1, hp⟩ := pot_ok (n := 78) (ns := ns) (k := 0 + i) (S := σ) (by omega) (by omega)
      obtain ⟨e, σ2, eo, y3, y4, ee, hpot⟩ := ev_for (env := [some (.fz (ns.map W.int)), some (.int (0 + i)), some (.ref p), x3, x4]) (S := S1) (mi := iRange1 (aCons (mC (.int 4)) aNil)) (tg := .nm 3)
        (body := sSeq (sAsg (.nm 4) (mCall (sem 79 ._law_program) (aCons (mVar 2) (aCons (mBin wAdd (mC (.int 2)) (mCall (sem 79 ._law_take) (aCons (mVar 2) (aCons (mC (.int 14)) aNil)))) (aCons (mBin wAdd (mC (.int 2)) (mCall (sem 79 ._law_take) (aCons (mVar 2) (aCons (mC (.int 4)) aNil)))) (aCons (mLst (aCons (mC (.int 0)) (aCons (mC (.int 1)) (aCons (mC (.int 2)) aNil)))) aNil)))))) (sIf (tNotW (mTest (mCall (sem 79 ._law_right) (aCons (mVar 4) aNil)))) (sRet (mC (.bl false))) (sNext)))
        (P := fun j e σ => ∃ y3 y4, e = [some (.fz (ns.map W.int)), some (.int (0 + i)), some (.ref p), y3, y4] ∧ Pot p σ (700 * j)) (ev_range1 (ev_cons rfl ev_nil) rfl) ⟨_, _, rfl, hp⟩ (by
          intro j e σ hj ⟨y3, y4, ee, hpot⟩
          subst ee
          have hj' : j < 4 := hj
          obtain ⟨r1, σ1, e1, r10, r11, d1⟩ := take_ok (n := 78) (bound := 14) hpot (by omega) (by omega) (by omega)
          obtain ⟨r2, σ2, e2, r20, r21, d2⟩ := take_ok (n := 78) (bound := 4) d1.pot (by omega) (by omega) (by omega)
          have d3 := d2.push [.lst ([0, 1, 2].map W.int)]
          have := d2.pot.lt
          obtain ⟨t, σ4, e4, q1, q2, q3, d4⟩ := program_ok 5 62 p (700 * j + 1 + 1) σ2.length [0, 1, 2] (σ2 ++ [.lst ([0, 1, 2].map W.int)]) (2 + r1) (2 + r2) d3.pot getL_new (by omega) (by simp) (by omega) (by omega) (by omega) (by omega)
          have F := fine_of q1 (by omega) (by omega)
          obtain ⟨σ5, e5, g5⟩ := right_ok (n := 78) F (by omega) σ4
          refine ⟨.int (0 + j), _, rfl, rfl, _, σ5, .inl (ev_seq (ev_asg (ev_call (ev_cons rfl (ev_cons (ev_addI rfl (ev_call (ev_cons rfl (ev_cons rfl ev_nil)) e1)) (ev_cons (ev_addI rfl (ev_call (ev_cons rfl (ev_cons rfl ev_nil)) e2)) (ev_cons (ev_lst (ev_cons rfl (ev_cons rfl (ev_cons rfl ev_nil))) rfl) ev_nil)))) e4) rfl) (ev_if_f (ev_not (k := true) (ev_test (ev_call (ev_cons rfl ev_nil) e5))) rfl)), _, _, rfl, (d4.pot.grow g5 id).mono (by omega)⟩) (fun _ _ _ => rfl)
      subst ee
      exact ⟨.int (0 + i), _, rfl, rfl, _, _, .inl (ev_seq (ev_asg (ev_call (ev_cons rfl (ev_cons rfl ev_nil)) e1) rfl) eo), _, _, _, _, rfl⟩) (fun _ _ _ => rfl)
  subst ee
  exact ⟨_, ev_run (ev_seq eo rfl)⟩
end L2.Aw.K78

open PySem PySem.W PyProof.Rows
set_option maxRecDepth 100000 in
set_option maxHeartbeats 0 in
theorem PySem.Challenge.cw_awaitrounds_k78_whole_marked_words_seen_holds : PySem.Challenge.rw_awaitrounds_k78_whole_marked_words_seen.Holds := by
  w_on; o_law; k_head; (case hw => w_witness2)
  k_fill
  refine L2.walk_of (l := PySem.Challenge.rw_awaitrounds_k78_whole_marked_words_seen) (n := 63) (k := 80) (x := "script") (CX := fun _ => L2.CX0) (sp := fun w => L2.Aw.spLaw _) rfl (by decide) rfl ⟨rfl, by decide, by decide⟩ (fun w h Y => PySem.W.kIn_of Y) ?F (fun _ _ a ns hl hO hS => ⟨a, ns, rfl, L2.Aw.fz_of hO hS, hl, fun _ => rfl⟩) (fun _ _ _ _ _ h => h)
  case F =>
    intro w mg fa h KX G hmg
    refine' L2.Aw.K78.all_mk (lv := 80) KX G hmg ?a0 ?l0 ?c0 ?k0 ?a1 ?l1 ?c1 ?k1 ?a2 ?l2 ?c2 ?k2 ?a3 ?l3 ?c3 ?k3 ?a4 ?l4 ?c4 ?k4 ?a5 ?l5 ?c5 ?k5 ?a6 ?l6 ?c6 ?k6 ?a7 ?l7 ?c7 ?k7 ?a8 ?l8 ?c8 ?k8 ?a9 ?l9 ?c9 ?k9 ?a10 ?l10 ?c10 ?k10 ?a11 ?l11 ?c11 ?k11 ?a12 ?l12 ?c12 ?k12 ?a13 ?l13 ?c13 ?k13 ?a14 ?l14 ?c14 ?k14 ?a15 ?l15 ?c15 ?k15 ?a16 ?l16 ?c16 ?k16 ?a17 ?l17 ?c17 ?k17 ?a18 ?l18 ?c18 ?k18 ?a19 ?l19 ?c19 ?k19 ?a20 ?l20 ?c20 ?k20 ?a21 ?l21 ?c21 ?k21 ?a22 ?l22 ?c22 ?k22 ?a23 ?l23 ?c23 ?k23 ?a24 ?l24 ?c24 ?k24 ?a25 ?l25 ?c25 ?k25 ?a26 ?l26 ?c26 ?k26 ?a27 ?l27 ?c27 ?k27 ?a28 ?l28 ?c28 ?k28 ?a29 ?l29 ?c29 ?k29 ?a30 ?l30 ?c30 ?k30 ?z0 ?z1 ?z2 ?z3 ?z4 ?z5 ?z6 ?z7 ?z8 ?z9 ?y0 ?x0 ?y1 ?x1 ?y2 ?x2 ?y3 ?x3 ?y4 ?x4 ?y5 ?x5 ?y6 ?x6 ?y7 ?x7 ?y8 ?x8 ?y9 ?x9 ?y10 ?x10 ?y11 ?x11 L2.Aw.K78.law_true
    (case a0 => k_is)
    (case l0 => k_is)
    (case c0 => k_is)
    (case k0 => k_is)
    (case a1 => k_is)
    (case l1 => k_is)
    (case c1 => k_is)
    (case k1 => k_is)
    (case a2 => k_is)
    (case l2 => k_is)
    (case c2 => k_is)
    (case k2 => k_is)
    (case a3 => k_is)
    (case l3 => k_is)
    (case c3 => k_is)
    (case k3 => k_is)
    (case a4 => k_is)
    (case l4 => k_is)
    (case c4 => k_is)
    (case k4 => k_is)
    (case a5 => k_is)
    (case l5 => k_is)
    (case c5 => k_is)
    (case k5 => k_is)
    (case a6 => k_is)
    (case l6 => k_is)
    (case c6 => k_is)
    (case k6 => k_is)
    (case a7 => k_is)
    (case l7 => k_is)
    (case c7 => k_is)
    (case k7 => k_is)
    (case a8 => k_is)
    (case l8 => k_is)
    (case c8 => k_is)
    (case k8 => k_is)
    (case a9 => k_is)
    (case l9 => k_is)
    (case c9 => k_is)
    (case k9 => k_is)
    (case a10 => k_is)
    (case l10 => k_is)
    (case c10 => k_is)
    (case k10 => k_is)
    (case a11 => k_is)
    (case l11 => k_is)
    (case c11 => k_is)
    (case k11 => k_is)
    (case a12 => k_is)
    (case l12 => k_is)
    (case c12 => k_is)
    (case k12 => k_is)
    (case a13 => k_is)
    (case l13 => k_is)
    (case c13 => k_is)
    (case k13 => k_is)
    (case a14 => k_is)
    (case l14 => k_is)
    (case c14 => k_is)
    (case k14 => k_is)
    (case a15 => k_is)
    (case l15 => k_is)
    (case c15 => k_is)
    (case k15 => k_is)
    (case a16 => k_is)
    (case l16 => k_is)
    (case c16 => k_is)
    (case k16 => k_is)
    (case a17 => k_is)
    (case l17 => k_is)
    (case c17 => k_is)
    (case k17 => k_is)
    (case a18 => k_is)
    (case l18 => k_is)
    (case c18 => k_is)
    (case k18 => k_is)
    (case a19 => k_is)
    (case l19 => k_is)
    (case c19 => k_is)
    (case k19 => k_is)
    (case a20 => k_is)
    (case l20 => k_is)
    (case c20 => k_is)
    (case k20 => k_is)
    (case a21 => k_is)
    (case l21 => k_is)
    (case c21 => k_is)
    (case k21 => k_is)
    (case a22 => k_is)
    (case l22 => k_is)
    (case c22 => k_is)
    (case k22 => k_is)
    (case a23 => k_is)
    (case l23 => k_is)
    (case c23 => k_is)
    (case k23 => k_is)
    (case a24 => k_is)
    (case l24 => k_is)
    (case c24 => k_is)
    (case k24 => k_is)
    (case a25 => k_is)
    (case l25 => k_is)
    (case c25 => k_is)
    (case k25 => k_is)
    (case a26 => k_is)
    (case l26 => k_is)
    (case c26 => k_is)
    (case k26 => k_is)
    (case a27 => k_is)
    (case l27 => k_is)
    (case c27 => k_is)
    (case k27 => k_is)
    (case a28 => k_is)
    (case l28 => k_is)
    (case c28 => k_is)
    (case k28 => k_is)
    (case a29 => k_is)
    (case l29 => k_is)
    (case c29 => k_is)
    (case k29 => k_is)
    (case a30 => k_is)
    (case l30 => k_is)
    (case c30 => k_is)
    (case k30 => k_is)
    (case z0 => k_is)
    (case z1 => k_is)
    (case z2 => k_is)
    (case z3 => k_is)
    (case z4 => k_is)
    (case z5 => k_is)
    (case z6 => k_is)
    (case z7 => k_is)
    (case z8 => k_is)
    (case z9 => k_is)
    (case y0 => k_is)
    (case x0 => first | rfl | exact ⟨_, rfl⟩)
    (case y1 => k_is)
    (case x1 => first | rfl | exact ⟨_, rfl⟩)
    (case y2 => k_is)
    (case x2 => first | rfl | exact ⟨_, rfl⟩)
    (case y3 => k_is)
    (case x3 => first | rfl | exact ⟨_, rfl⟩)
    (case y4 => k_is)
    (case x4 => first | rfl | exact ⟨_, rfl⟩)
    (case y5 => k_is)
    (case x5 => first | rfl | exact ⟨_, rfl⟩)
    (case y6 => k_is)
    (case x6 => first | rfl | exact ⟨_, rfl⟩)
    (case y7 => k_is)
    (case x7 => first | rfl | exact ⟨_, rfl⟩)
    (case y8 => k_is)
    (case x8 => first | rfl | exact ⟨_, rfl⟩)
    (case y9 => k_is)
    (case x9 => first | rfl | exact ⟨_, rfl⟩)
    (case y10 => k_is)
    (case x10 => first | rfl | exact ⟨_, rfl⟩)
    (case y11 => k_is)
    (case x11 => first | rfl | exact ⟨_, rfl⟩)
